import PyProof.Rows.All
import Wide.All
import OpenK.AllK
import Wide.FinOn
import HandS.ForMost
import HandS.ForExc
import HandS.Flow
import HandS.Head0
import HandS.Head1
import HandS.Head2
import HandS.HeadEnd
import HandS.HeadHook1
import HandS.HeadHook2
import HandS.HeadNt
import HandS.Property
import HandS.IsInst
import HandS.Wide
import HandS.Strs
import HandS.SortInts
import HandS.Defaults
import HandS.Conv
import HandS.TupAny
import HandS.Zip
import HandS.NoneIn
import HandS.Lambda
import HandS.DictComp
import KE.KDictKeyed
import KE.KOpsOwn
import HandS.SlotsOwn
import KE.GoesEnum
import HandS.Star
import HandS.Iter
import HandS.ExcInit
import HandS.ExcValue
import HandS.ExcField
import HandS.ExcIs
import KE.KExcIs
import PyProof.ReprRoads
import PyProof.CallFns
import HandS.ClsMeth
import HandS.EndTab
import HandS.HeadHook4
import PySem.Challenge.RW_stillstruck_k03_rhythms_as_sets
import HandS.SetFor
import PyProof.Rows.SortShellAny
import HandS.TupMul
import HandS.NamedTupSort
import PyProof.Rows.IntBool
import HandS.ExcOwn
import HandS.MakeKw
import HandS.TupLe
import PyProof.ReprLen
import PyProof.P3Eq
set_option Elab.async false
set_option linter.all false
set_option maxRecDepth 100000
set_option maxHeartbeats 4000000
set_option autoImplicit false
/-! the hook of a law's head: facts as a list of truths, defs as data; no more of the layer (the run of a top is to stand first in a joined text) -/
namespace DL
open PySem PySem.Spec PyProof.Rows L2
def tbOf (tr fa : List Str) : Str → Option Bool := fun t => if t ∈ tr then some true else if t ∈ fa then some false else none
def tb_kit_ty_int (cs : List Str) := tbOf ["int", "bool"] ((["NoneType", "str", "list", "tuple", "dict"] : List Str) ++ cs)
def tb_kit_ty_bool (cs : List Str) := tbOf ["bool"] ((["NoneType", "int", "str", "list", "tuple", "dict"] : List Str) ++ cs)
def tb_kit_two_list_tuple (cs : List Str) := tbOf ["list", "tuple"] ((["NoneType", "bool", "int", "str", "dict"] : List Str) ++ cs)
def tb_kit_own_Rhythm (cs : List Str) := tbOf ["Rhythm"] ((["NoneType", "bool", "int", "str", "list", "tuple", "dict"] : List Str) ++ cs)
section
variable {K : PySem.W.Frag}
def propB (K : PySem.W.Frag) (C : Addr) (f : Str) : Bool := He.eqO (PySem.W.findIn K (.ref C) f) (some (some (.ref (He.ma K C f)))) && (He.eqO (PySem.W.specialIn K (.ref (He.ma K C f)) "__get__") (some (some (.builtin "property.__get__"))) && (decide (PySem.W.takesIn K (.ref (He.ma K C f)) = some true) && (match PySem.W.recIn K (He.ma K C f) "property" with
    | some (.ref _ :: _) => true
    | _ => false)))
def insB (K : PySem.W.Frag) (x : Str) : Bool := (He.Fa.cls x).ok K && (He.eqO (PySem.W.findIn K (.ref (He.ga K x)) "__class__") (some (some (.builtin "object.__class__"))) && (He.eqO (PySem.W.specialIn K (.builtin "object.__class__") "__get__") (some (some (.builtin "getset_descriptor.__get__"))) && (decide (PySem.W.takesIn K (.builtin "object.__class__") = some true) && decide (PySem.W.mroIn K (He.ga K x) (.type "object") = some true))))
def kitB (K : PySem.W.Frag) (cs : List Str) (an : Value → Option Bool) (tb : Str → Option Bool) : Bool := ((["NoneType", "bool", "int", "str", "list", "tuple", "dict"] : List String).all fun t => match tb (Str.ofString t) with
    | some b => decide (an (.type t) = some b)
    | none => true) && (cs.all fun c => match tb c with
    | some b => decide (an (.ref (He.ga K c)) = some b)
    | none => true)
def someB (o : Option (Option Value)) : Bool := o.isSome
def obsB (fb : PySem.W.Frag → List Bool) (fn : List He5.DefA) (K : PySem.W.Frag) : He.AlD := ((fb K).all id && fn.all fun d => d.ok K, fn.map fun d => He5.fnA K (d.at_ K))
def SaysB (fb : PySem.W.Frag → List Bool) (fn : List He5.DefA) (K : PySem.W.Frag) : Prop := obsB fb fn K = He5.valA fn
/-- a def of the top, of no default -/
def defA (a : PySem.W.Frag → Addr) (x qual : Str) (st : Stmt) : He5.DefA := ⟨a, x, qual, defArgs st, defBody st, defScope st, [], []⟩
def exmB (K : PySem.W.Frag) (t : Str) (xs : List Str) : Bool := xs.all fun c => decide (PySem.W.exmOne K (.ref (He.ga K c)) (.ref (He.ga K t)) = some true)
def xcB (K : PySem.W.Frag) (x : Str) : Bool := He.eqO (PySem.W.findIn K (.ref (He.ga K x)) "__getattribute__") (some (some (.builtin "BaseException.__getattribute__"))) && (He.eqO (PySem.W.findIn K (.ref (He.ga K x)) "__getattr__") (some none) && (decide (PySem.W.subIn K (.ref (He.ga K x)) (.type "BaseException") = some true) && (PySem.W.hasDictIn K (He.ga K x) &&
  (He.eqO (PySem.W.findIn K (.ref (He.ga K x)) "__class__") (some (some (.builtin "object.__class__"))) && (He.eqO (PySem.W.specialIn K (.builtin "object.__class__") "__get__") (some (some (.builtin "getset_descriptor.__get__"))) && (decide (PySem.W.takesIn K (.builtin "object.__class__") = some true) && decide (PySem.W.mroIn K (He.ga K x) (.type "object") = some true)))))))
def kxB (K : PySem.W.Frag) (an : Value → Option Bool) (tr fa : List Str) : Bool := (tr.all fun c => decide (an (.ref (He.ga K c)) = some true)) && fa.all fun c => decide (an (.ref (He.ga K c)) = some false)
def xfB (K : PySem.W.Frag) (f : Str) (cs : List Str) : Bool := cs.all fun c => xcB K c && He.eqO (PySem.W.findIn K (.ref (He.ga K c)) f) (some none)
end
end DL
set_option Elab.async false
set_option linter.all false
set_option maxRecDepth 100000
set_option maxHeartbeats 400000
set_option autoImplicit false
/-! the hook of a law's head, over objects found level by level, without looking for those found twice -/
namespace DL
open PySem PySem.Spec PyProof.Rows L2
def nextF (g : Addr → Option Obj) (as : List Addr) : List Addr := as.flatMap fun a => match g a with
  | some o => (He.refsD o).filter fun b => !(Nat.beq b mainGlobals)
  | none => []
def lvlF (g : Addr → Option Obj) : Nat → List Addr → List Addr
  | 0, as => as
  | n + 1, as => as ++ lvlF g n (nextF g as)
def asF (g : Addr → Option Obj) (n : Nat) : List Addr := lvlF g n [mainGlobals] ++ [cStatics]
end DL
set_option Elab.async false
set_option linter.all false
set_option maxRecDepth 100000
set_option maxHeartbeats 4000000
set_option autoImplicit false
/-! dicts whose keys are None, ints and tuples of ints, all values True: the model's operations -/
namespace DL
open PySem PySem.Spec PyProof.Rows L2
abbrev NK := NestedKey
/-- a key: None, an int, a tuple of ints -/
inductive KK where
  | non | int (i : Int) | tup (ns : List Int)
  deriving DecidableEq
def nk : KK → NK
  | .non => .none
  | .int i => .num i
  | .tup ns => .tup (ns.map NestedKey.num)
def hshK : KK → Int
  | .non => reduceHash 0xFCA86420
  | .int i => hashInt i
  | .tup ns => reduceHash (Builtin.Tuple.tupleHashOf (ns.map hashInt))
/-- the value is this key -/
def KIs (h : Heap) (k : KK) (v : Value) : Prop := NestedIs h (nk k) v
def entV (x : KK × Value) : DictEntry := ⟨hshK x.1, x.2, .bool true⟩
/-- the dict at d has these keys, in this order -/
def DictV (h : Heap) (d : Addr) (xs : List (KK × Value)) : Prop :=
  ∃ o es ep, h.get? d = some o ∧ o.ExactDict ∧ o.data = .dict es ep ∧ es.toList = xs.map entV ∧ (xs.map (·.1)).Nodup
theorem DictV.new (h : Heap) : DictV (h.push { cls := .type "dict", data := .dict #[] }) h.objs.size [] :=
  ⟨_, #[], 0, Heap.get?_push_size _ rfl, ⟨rfl, rfl, rfl⟩, rfl, rfl, List.nodup_nil⟩
section
variable {prog : Program} {w : World} {A : Around} {E : Value → Shared → Prop} {s : Shared}
theorem KIs.val {h : Heap} {k : KK} {v : Value} (hi : KIs h k v) : v = .none ∨ (∃ b, v = .bool b) ∨ (∃ i t, v = .int i t) ∨ ∃ ns a, k = .tup ns ∧ v = .ref a := by
  cases k with
  | non => cases hi; exact .inl rfl
  | int i =>
    have hi : NestedIs h (.num i) v := hi
    cases hi with
    | bool _ => exact .inr (.inl ⟨_, rfl⟩)
    | int _ _ => exact .inr (.inr (.inl ⟨_, _, rfl⟩))
  | tup ns =>
    have hi : NestedIs h (.tup _) v := hi
    cases hi with
    | tup h1 h2 h3 h4 => exact .inr (.inr (.inr ⟨_, _, rfl, rfl⟩))
end
/-! ### as tracked objects -/
/-- the value v is the key k -/
def KeyIn (K : PySem.W.Frag) (H : Hp) : KK → V → Prop
  | .non, v => v = .non
  | .int i, v => v = .int i
  | .tup ns, v => ∃ b, v = .ref b ∧ SqT K H b (ns.map V.int)
theorem Same.sqT {K : PySem.W.Frag} {G G' : Hp} {a : Addr} {vs : List V} (h : ∀ a o, G a = some o → G' a = some o) (q : SqT K G a vs) : SqT K G' a vs := by
  rcases q with (q | ⟨o, q⟩) | q
  · exact .inl (.inl (h _ _ q))
  · exact .inl (.inr ⟨o, h _ _ q⟩)
  · exact .inr q
theorem KeyIn.mono {K : PySem.W.Frag} {G G' : Hp} (h : ∀ a o, G a = some o → G' a = some o) {k : KK} {v : V} (q : KeyIn K G k v) : KeyIn K G' k v := by
  cases k with
  | non => exact q
  | int i => exact q
  | tup ns => obtain ⟨b, e, q⟩ := q; exact ⟨b, e, Same.sqT h q⟩
/-- the dict with these keys at a, all values True -/
def KSO (a : Addr) (xs : List (KK × V)) : HO := .ext fun h => (a == sysModules) = false ∧ xs.length ≤ sizeLine ∧ ∃ ys, KV xs ys ∧ DictV h a ys
end DL
set_option Elab.async false
set_option linter.all false
set_option maxRecDepth 100000
set_option maxHeartbeats 4000000
set_option autoImplicit false
/-! DL, the data layer: readings over trees of data, above the hand layer. -/
namespace DL
open PySem PySem.Spec PyProof.Rows L2
/-! ### data -/
inductive D where
  | non | bl (b : Bool) | int (i : Int) | str (x : Str)
  | lst (ds : List D) | tup (ds : List D) | dct (kvs : List (Key × D))
  | ins (c : Str) (fs : List (Str × D)) | exc (c : Str) (fs : List (Str × D)) | hnd (n : Nat) | scr (ns : List Int)
  | dks (ks : List KK)
  /-- the i-th lambda of the law; the instance at a; the text that repr gives of d -/
  | fn (i : Nat) | adr (a : Addr) (d : D) | rps (d : D)
/-- a result: a value, an error of the package, or no claim -/
inductive Res (S α : Type) where
  | ok (a : α) (s : S) | err (x : D) (s : S) | stk
def M (S α : Type) := S → Res S α
def Res.bind {S α β : Type} (r : Res S α) (f : α → S → Res S β) : Res S β := match r with
  | .ok a s => f a s
  | .err x s => .err x s
  | .stk => .stk
instance {S : Type} : Monad (M S) where
  pure a := fun s => .ok a s
  bind m f := fun s => (m s).bind fun a s' => f a s'
def stk {S α : Type} : M S α := fun _ => .stk
def throwD {S α : Type} (x : D) : M S α := fun s => .err x s
/-- an error is no claim (within a comprehension) -/
def calmM {S α : Type} (m : M S α) : M S α := fun s => match m s with
  | .err _ _ => .stk
  | r => r
/-- m where p holds, else no claim -/
def grd {S α : Type} (p : Prop) [Decidable p] (m : M S α) : M S α := if p then m else stk
theorem grd_pos {S α : Type} {p : Prop} [Decidable p] {m : M S α} (h : p) : grd p m = m := if_pos h
@[simp] theorem pure_run {S α : Type} (a : α) (s : S) : (pure a : M S α) s = .ok a s := rfl
@[simp] theorem bind_run {S α β : Type} (m : M S α) (f : α → M S β) (s : S) : (m >>= f) s = (m s).bind fun a s' => f a s' := rfl
@[simp] theorem Res.bind_ok {S α β : Type} (a : α) (s : S) (f : α → S → Res S β) : (Res.ok a s).bind f = f a s := rfl
@[simp] theorem Res.bind_err {S α β : Type} (x : D) (s : S) (f : α → S → Res S β) : (Res.err x s).bind f = .err x s := rfl
@[simp] theorem Res.bind_stk {S α β : Type} (f : α → S → Res S β) : (Res.stk : Res S α).bind f = .stk := rfl
@[simp] theorem stk_run {S α : Type} (s : S) : (stk : M S α) s = .stk := rfl
/-! ### slots of a frame -/
inductive Slot where
  | val (d : D) | own (ds : List D) | obj (c : Str) (fs : List (Str × D))
abbrev Env := List (Option Slot)
def isOwn : Option (Option Slot) → Prop
  | some (some (.own _)) => True
  | some (some (.obj _ _)) => True
  | _ => False
inductive Flw where
  | nx (e : Env) | rt (d : D) | bk (e : Env) | ct (e : Env)
/-! ### what stands for data -/
/-- an object that none of the rules here writes: of another module's making (but no dict of keys), or a table of code objects -/
def Fixd : HO → Prop
  | .ext φ => ∀ a xs, HO.ext φ ≠ KSO a xs
  | .tbl _ => True
  | _ => False
/-- no table of code objects -/
abbrev NoTbl (o : HO) : Prop := ∀ ps, o ≠ .tbl ps
/-- what is fixed through a law: the written part, the classes by name, the draws' value, the world that may change -/
structure Cc (S : Type) where
  K : PySem.W.Frag
  cad : Str → Addr
  hnd : Nat → V
  rep : S → Hp → Prop
  reg : Addr → Prop
  frame : ∀ s H H', (∀ a o, H a = some o → reg a ∨ Fixd o → H' a = some o) → rep s H → rep s H'
  there : ∀ s H a, rep s H → reg a → ∃ o, H a = some o
  fno : Nat → Addr → Addr → HO := fun _ _ _ => .tbl #[]
  fnq : Str := ""
  rtx : D → Option Str := fun _ => none
/-- an exception object at a: its class at C, its dict -/
def exv (a C : Addr) (d : Option Addr) : HO := .ext fun h => ∃ (oe : Obj) (vs : Array Value), h.get? a = some oe ∧ Zc (.ref C) d oe ∧ oe.data = .fields vs
theorem exv_ok {P : Program} {w : World} {H : Hp} {h : Heap} {a C : Addr} {d : Option Addr} {oe : Obj} {vs : Array Value} (e : h.get? a = some oe) (z : Zc (.ref C) d oe) (q : oe.data = .fields vs) : ObjOk P w H h a (exv a C d) :=
  ⟨⟨oe, vs, e, z, q⟩, ⟨oe, e⟩, fun _ _ ⟨o, v, q, r⟩ k => ⟨o, v, k o q, r⟩⟩
theorem exv_at {P : Program} {w : World} {H : Hp} {h : Heap} {a C : Addr} {d : Option Addr} (hok : HOk P w H h) (e : H a = some (exv a C d)) : ∃ (oe : Obj) (vs : Array Value), h.get? a = some oe ∧ Zc (.ref C) d oe ∧ oe.data = .fields vs := by
  have x : ObjOk P w H h a (.ext fun h => ∃ (oe : Obj) (vs : Array Value), h.get? a = some oe ∧ Zc (.ref C) d oe ∧ oe.data = .fields vs) := hok a _ e
  exact x.1
variable {S : Type}
mutual
def Rep (C : Cc S) (G : Hp) : D → V → Prop
  | .non, v => v = .non
  | .bl b, v => v = .bl b
  | .int i, v => v = .int i
  | .str x, v => v = .str x
  | .lst ds, v => ∃ a vs, v = .ref a ∧ G a = some (.lst vs) ∧ vs.length ≤ sizeLine ∧ RepL C G ds vs
  | .tup ds, v => ∃ a vs, v = .ref a ∧ SqT C.K G a vs ∧ vs.length ≤ sizeLine ∧ RepL C G ds vs
  | .dct kvs, v => ∃ a vs, v = .ref a ∧ G a = some (.dK vs) ∧ RepK C G kvs vs
  | .ins c fs, v => ∃ a dx vs, v = .ref a ∧ G a = some (.ins (C.cad c) dx vs) ∧ G dx = some (.own a) ∧ RepF C G fs vs
  | .exc c fs, v => ∃ a dd, v = .ref a ∧ G a = some (exv a (C.cad c) dd) ∧ ((fs = [] ∧ dd = none) ∨ ∃ d vs, dd = some d ∧ G d = some (.xd vs) ∧ RepF C G fs vs)
  | .hnd n, v => v = C.hnd n
  | .scr ns, v => ∃ a, v = .ref a ∧ SqL C.K G a (ns.map V.int)
  | .dks ks, v => ∃ a xs, v = .ref a ∧ G a = some (KSO a xs) ∧ xs.map (·.1) = ks ∧ ∀ p ∈ xs, KeyIn C.K G p.1 p.2
  | .fn i, v => ∃ a c, v = .ref a ∧ G a = some (C.fno i a c) ∧ G c = some (LamX.CodeO c C.fnq)
  | .adr a d, v => v = .ref a ∧ Rep C G d v
  | .rps d, v => ∃ x, v = .str x ∧ C.rtx d = some x
def RepL (C : Cc S) (G : Hp) : List D → List V → Prop
  | [], vs => vs = []
  | d :: ds, vs => ∃ v r, vs = v :: r ∧ Rep C G d v ∧ RepL C G ds r
def RepK (C : Cc S) (G : Hp) : List (Key × D) → List (Key × V) → Prop
  | [], vs => vs = []
  | (k, d) :: ds, vs => ∃ v r, vs = (k, v) :: r ∧ Rep C G d v ∧ RepK C G ds r
def RepF (C : Cc S) (G : Hp) : List (Str × D) → List (Str × V) → Prop
  | [], vs => vs = []
  | (k, d) :: ds, vs => ∃ v r, vs = (k, v) :: r ∧ Rep C G d v ∧ RepF C G ds r
end
mutual
theorem Rep.mono {C : Cc S} {G G' : Hp} (h : Same G G') : ∀ {d : D} {v : V}, Rep C G d v → Rep C G' d v
  | .non, _, r => r
  | .bl _, _, r => r
  | .int _, _, r => r
  | .str _, _, r => r
  | .lst _, _, ⟨a, vs, e, q, z, r⟩ => ⟨a, vs, e, h _ _ q, z, RepL.mono h r⟩
  | .tup _, _, ⟨a, vs, e, q, z, r⟩ => ⟨a, vs, e, by
      rcases q with (q | ⟨o, q⟩) | q
      · exact .inl (.inl (h _ _ q))
      · exact .inl (.inr ⟨o, h _ _ q⟩)
      · exact .inr q, z, RepL.mono h r⟩
  | .dct _, _, ⟨a, vs, e, q, r⟩ => ⟨a, vs, e, h _ _ q, RepK.mono h r⟩
  | .ins _ _, _, ⟨a, dx, vs, e, q, q', r⟩ => ⟨a, dx, vs, e, h _ _ q, h _ _ q', RepF.mono h r⟩
  | .exc _ _, _, ⟨a, dd, e, q, .inl r⟩ => ⟨a, dd, e, h _ _ q, .inl r⟩
  | .exc _ _, _, ⟨a, dd, e, q, .inr ⟨d, vs, ed, qd, r⟩⟩ => ⟨a, dd, e, h _ _ q, .inr ⟨d, vs, ed, h _ _ qd, RepF.mono h r⟩⟩
  | .hnd _, _, r => r
  | .scr _, _, ⟨a, e, q⟩ => ⟨a, e, h.seq q⟩
  | .dks _, _, ⟨a, xs, e, q, ek, r⟩ => ⟨a, xs, e, h _ _ q, ek, fun p hp => (r p hp).mono h⟩
  | .fn _, _, ⟨a, c, e, q, q'⟩ => ⟨a, c, e, h _ _ q, h _ _ q'⟩
  | .adr _ _, _, ⟨e, r⟩ => ⟨e, Rep.mono h r⟩
  | .rps _, _, r => r
theorem RepL.mono {C : Cc S} {G G' : Hp} (h : Same G G') : ∀ {ds : List D} {vs : List V}, RepL C G ds vs → RepL C G' ds vs
  | [], _, r => r
  | _ :: _, _, ⟨v, r, e, a, b⟩ => ⟨v, r, e, Rep.mono h a, RepL.mono h b⟩
theorem RepK.mono {C : Cc S} {G G' : Hp} (h : Same G G') : ∀ {ds : List (Key × D)} {vs : List (Key × V)}, RepK C G ds vs → RepK C G' ds vs
  | [], _, r => r
  | (_, _) :: _, _, ⟨v, r, e, a, b⟩ => ⟨v, r, e, Rep.mono h a, RepK.mono h b⟩
theorem RepF.mono {C : Cc S} {G G' : Hp} (h : Same G G') : ∀ {ds : List (Str × D)} {vs : List (Str × V)}, RepF C G ds vs → RepF C G' ds vs
  | [], _, r => r
  | (_, _) :: _, _, ⟨v, r, e, a, b⟩ => ⟨v, r, e, Rep.mono h a, RepF.mono h b⟩
end
theorem RepL.length {C : Cc S} {G : Hp} : ∀ {ds : List D} {vs : List V}, RepL C G ds vs → vs.length = ds.length
  | [], _, r => by rw [r]; rfl
  | _ :: _, _, ⟨v, r, e, _, b⟩ => by rw [e, List.length_cons, List.length_cons, b.length]
theorem RepL.append {C : Cc S} {G : Hp} : ∀ {ds es : List D} {vs us : List V}, RepL C G ds vs → RepL C G es us → RepL C G (ds ++ es) (vs ++ us)
  | [], _, _, _, r, q => by subst r; exact q
  | _ :: _, _, _, _, ⟨v, r, e, a, b⟩, q => by subst e; exact ⟨v, _, rfl, a, b.append q⟩
theorem RepL.get {C : Cc S} {G : Hp} : ∀ {ds : List D} {vs : List V} {i : Nat} {d : D}, RepL C G ds vs → ds[i]? = some d → ∃ v, vs[i]? = some v ∧ Rep C G d v
  | [], _, _, _, _, h => by simp at h
  | _ :: _, _, 0, _, ⟨v, r, e, a, b⟩, h => by
    subst e
    simp at h
    subst h
    exact ⟨v, by simp, a⟩
  | _ :: _, _, i + 1, _, ⟨v, r, e, a, b⟩, h => by
    subst e
    obtain ⟨v', h1, h2⟩ := b.get (i := i) (by simpa using h)
    exact ⟨v', by simpa using h1, h2⟩
theorem RepL.one {C : Cc S} {G : Hp} {d : D} {v : V} (r : Rep C G d v) : RepL C G [d] [v] := ⟨v, [], rfl, r, rfl⟩
theorem RepL.cons {C : Cc S} {G : Hp} {d : D} {v : V} {ds : List D} {vs : List V} (r : Rep C G d v) (q : RepL C G ds vs) : RepL C G (d :: ds) (v :: vs) := ⟨v, vs, rfl, r, q⟩
/-- a code object that was tracked may be frozen -/
def NwO (reg : Addr → Prop) (H : Hp) (a : Addr) (o : HO) : Prop := ∃ c q, o = LamX.CodeO c q ∧ (reg a ∨ H a = some o ∨ ∃ ps, H a = some (.tbl ps))
theorem NwO.back {reg reg1 : Addr → Prop} {H H1 : Hp} {b : Addr} {o : HO} (fr : ∀ a o, H a = some o → ¬ reg a → NoTbl o → H1 a = some o) (h : NwO reg1 H1 b o) (hr : reg1 b → reg b ∨ H b = none) : H b = none ∨ NwO reg H b o := by
  obtain ⟨c, q, e, h⟩ := h
  by_cases r : reg b
  · exact .inr ⟨c, q, e, .inl r⟩
  · cases hb : H b with
    | none => exact .inl rfl
    | some o' =>
      refine .inr ⟨c, q, e, .inr ?_⟩
      by_cases t : NoTbl o'
      · have h1 := fr b o' hb r t
        rcases h with h | h | ⟨ps, h⟩
        · rcases hr h with z | z
          · exact absurd z r
          · rw [z] at hb; cases hb
        · rw [h1] at h; rw [hb]; exact .inl h
        · rw [h1] at h; exact absurd (Option.some.inj h) (t ps)
      · obtain ⟨ps, t⟩ := Classical.not_forall.mp t
        rw [Classical.not_not.mp t] at hb
        exact .inr ⟨ps, hb.symm ▸ rfl⟩
/-- from one state to a later one: what is frozen stays, what is tracked stays outside the world, what is newly frozen was not tracked -/
structure Ext (reg : Addr → Prop) (G H G' H' : Hp) : Prop where
  g : Same G G'
  fr : ∀ a o, H a = some o → ¬ reg a → NoTbl o → H' a = some o
  nw : ∀ a o, G' a = some o → G a = some o ∨ H a = none ∨ NwO reg H a o
  tr : ∀ a, H' a = none → H a = none
theorem Ext.refl (reg : Addr → Prop) (G H : Hp) : Ext reg G H G H := ⟨fun _ _ h => h, fun _ _ h _ _ => h, fun _ _ h => .inl h, fun _ h => h⟩
theorem Ext.trans {reg : Addr → Prop} {G H G1 H1 G2 H2 : Hp} (a : Ext reg G H G1 H1) (b : Ext reg G1 H1 G2 H2) : Ext reg G H G2 H2 where
  g := a.g.trans b.g
  fr := fun c o h n t => b.fr c o (a.fr c o h n t) n t
  nw := fun c o h => by
    rcases b.nw c o h with q | q | q
    · exact a.nw c o q
    · exact .inr (.inl (a.tr c q))
    · exact .inr (q.back a.fr .inl)
  tr := fun c h => a.tr c (b.tr c h)
theorem Ext.wide {reg reg' : Addr → Prop} {G H G' H' : Hp} (a : Ext reg G H G' H') (h : ∀ x, reg x → reg' x) : Ext reg' G H G' H' := ⟨a.g, fun c o q n t => a.fr c o q (fun z => n (h c z)) t, fun c o q => (a.nw c o q).imp_right fun q => q.imp_right fun ⟨x, y, e, q⟩ => ⟨x, y, e, q.imp_left (h c)⟩, a.tr⟩
/-- the ground: the frozen part, the world -/
structure Gd (C : Cc S) (G H : Hp) (s : S) : Prop where
  gh : Same G H
  w : C.rep s H
  gr : ∀ a, C.reg a → G a = none
  nt : ∀ a o, G a = some o → NoTbl o
/-- a new object, frozen -/
theorem Gd.new {C : Cc S} {G H : Hp} {s : S} (g : Gd C G H s) {p : Addr} (n : H p = none) (o : HO) (ho : NoTbl o := by intro _ h; cases h) : Gd C (upd G p o) (upd H p o) s ∧ Ext C.reg G H (upd G p o) (upd H p o) := by
  have np : ¬ C.reg p := fun z => by
    obtain ⟨u, e⟩ := C.there s H p g.w z
    rw [n] at e; cases e
  have hG : G p = none := g.gh.free n
  refine ⟨⟨fun b u e => ?_, C.frame s H _ (fun b u e _ => by rw [upd_ne (ne_of_none e n)]; exact e) g.w, fun b hb => ?_, fun b u e => ?_⟩, fun b u e => ?_, fun b u e _ _ => ?_, fun b u e => ?_, fun b e => ?_⟩
  · by_cases h : b = p
    · subst h; rw [upd_same] at e ⊢; exact e
    · rw [upd_ne h] at e ⊢; exact g.gh _ _ e
  · rw [upd_ne fun z : b = p => np (z ▸ hb)]; exact g.gr b hb
  · by_cases h : b = p
    · subst h; rw [upd_same] at e; cases e; exact ho
    · rw [upd_ne h] at e; exact g.nt b u e
  · rw [upd_ne (ne_of_none e hG)]; exact e
  · rw [upd_ne (ne_of_none e n)]; exact e
  · by_cases h : b = p
    · subst h; exact .inr (.inl n)
    · rw [upd_ne h] at e; exact .inl e
  · by_cases h : b = p
    · subst h; rw [upd_same] at e; cases e
    · rw [upd_ne h] at e; exact e
/-- a new object, not frozen yet -/
theorem Gd.open_ {C : Cc S} {G H : Hp} {s : S} (g : Gd C G H s) {p : Addr} (n : H p = none) (o : HO) : Gd C G (upd H p o) s ∧ Ext C.reg G H G (upd H p o) := by
  refine ⟨⟨fun b u e => ?_, C.frame s H _ (fun b u e _ => by rw [upd_ne (ne_of_none e n)]; exact e) g.w, g.gr, g.nt⟩, fun b u e => e, fun b u e _ _ => ?_, fun b u e => .inl e, fun b e => ?_⟩
  · have q := g.gh _ _ e
    rw [upd_ne (ne_of_none q n)]; exact q
  · rw [upd_ne (ne_of_none e n)]; exact e
  · by_cases h : b = p
    · subst h; rw [upd_same] at e; cases e
    · rw [upd_ne h] at e; exact e
/-- an object that is not frozen and not the world's is written -/
theorem Gd.write {C : Cc S} {G H : Hp} {s : S} (g : Gd C G H s) {p : Addr} {o' : HO} (e : H p = some o') (n : G p = none) (nr : ¬ C.reg p) (o : HO) (nf : ¬ Fixd o' := by exact fun h => h) : Gd C G (upd H p o) s := by
  refine ⟨fun b u q => ?_, C.frame s H _ (fun b u q h => ?_) g.w, g.gr, g.nt⟩
  · have z := g.gh _ _ q
    rw [upd_ne (ne_of_none q n)]; exact z
  · have hb : b ≠ p := fun z => by
      subst z
      rw [e] at q; cases q
      exact h.elim nr nf
    rw [upd_ne hb]; exact q
/-- an object that was not frozen is frozen -/
theorem Gd.freeze {C : Cc S} {G H : Hp} {s : S} (g : Gd C G H s) {p : Addr} {o : HO} (e : H p = some o) (nr : ¬ C.reg p) (ho : NoTbl o := by intro _ h; cases h) : Gd C (upd G p o) H s := by
  refine ⟨fun b u q => ?_, g.w, fun b hb => ?_, fun b u q => ?_⟩
  · by_cases h : b = p
    · subst h; rw [upd_same] at q; cases q; exact e
    · rw [upd_ne h] at q; exact g.gh _ _ q
  · rw [upd_ne fun z : b = p => nr (z ▸ hb)]; exact g.gr b hb
  · by_cases h : b = p
    · subst h; rw [upd_same] at q; cases q; exact ho
    · rw [upd_ne h] at q; exact g.nt b u q
/-- what is fixed through a def's body: the ground at its entry, what it may write besides the world, the wish about errors -/
structure Fx (S : Type) extends Cc S where
  G0 : Hp
  H0 : Hp
  reg0 : Addr → Prop
  sub : ∀ a, reg a → reg0 a
  wish : WX
def RepSlot (F : Fx S) (G H : Hp) : Option Slot → Option V → Prop
  | none, _ => True
  | some (.val d), o => ∃ v, o = some v ∧ Rep F.toCc G d v
  | some (.own ds), o => ∃ a vs, o = some (.ref a) ∧ H a = some (.lst vs) ∧ G a = none ∧ ¬ F.reg a ∧ F.H0 a = none ∧ vs.length ≤ sizeLine ∧ RepL F.toCc G ds vs
  | some (.obj c fs), o => ∃ a dx vs, o = some (.ref a) ∧ H a = some (.ins (F.cad c) dx vs) ∧ H dx = some (.own a) ∧ G a = none ∧ G dx = none ∧ ¬ F.reg a ∧ ¬ F.reg dx ∧ F.reg0 a ∧ (∃ C' fv0, F.H0 a = some (.ins C' dx fv0)) ∧ RepF F.toCc G fs vs
structure RepEnv (F : Fx S) (G H : Hp) (σ : L2.St) (env : Env) : Prop where
  len : σ.length = env.length
  at_ : ∀ (i : Nat) (sl : Option Slot), env[i]? = some sl → ∃ o, σ[i]? = some o ∧ RepSlot F G H sl o
  apart : ∀ i j : Nat, i ≠ j → isOwn env[i]? → isOwn env[j]? → σ[i]? ≠ σ[j]?
structure StG (F : Fx S) (G : Hp) (σ : L2.St) (H : Hp) (env : Env) (s : S) : Prop where
  ext : Ext F.reg0 F.G0 F.H0 G H
  gd : Gd F.toCc G H s
  env_ : RepEnv F G H σ env
theorem Ext.un {reg : Addr → Prop} {G H G' H' : Hp} (e : Ext reg G H G' H') {b : Addr} {o : HO} (q : H b = some o) (n : G b = none) (nr : ¬ reg b) (nc : (∀ c q, o ≠ LamX.CodeO c q) ∧ ∀ ps, o ≠ .tbl ps := by exact ⟨(fun _ _ h => by cases h), fun _ h => by cases h⟩) : G' b = none := by
  cases y : G' b with
  | none => rfl
  | some o =>
    rcases e.nw b o y with w | w | ⟨c, x, w, z⟩
    · rw [n] at w; cases w
    · rw [q] at w; cases w
    · rcases z with z | z | ⟨ps, z⟩
      · exact absurd z nr
      · rw [q] at z; exact absurd ((Option.some.inj z).trans w) (nc.1 c x)
      · rw [q] at z; exact absurd (Option.some.inj z) (nc.2 ps)
theorem RepSlot.ext {F : Fx S} {G H G' H' : Hp} (e : Ext F.reg G H G' H') : ∀ {sl : Option Slot} {o : Option V}, RepSlot F G H sl o → RepSlot F G' H' sl o
  | none, _, _ => trivial
  | some (.val _), _, ⟨v, h, r⟩ => ⟨v, h, r.mono e.g⟩
  | some (.own _), _, ⟨a, vs, h, q, n, nr, n0, z, r⟩ => ⟨a, vs, h, e.fr _ _ q nr (by intro _ h; cases h), e.un q n nr, nr, n0, z, r.mono e.g⟩
  | some (.obj _ _), _, ⟨a, dx, vs, h, q, qd, n, nd, nr, nrd, r0, h0, r⟩ => ⟨a, dx, vs, h, e.fr _ _ q nr (by intro _ h; cases h), e.fr _ _ qd nrd (by intro _ h; cases h), e.un q n nr, e.un qd nd nrd, nr, nrd, r0, h0, r.mono e.g⟩
theorem StG.ext' {F : Fx S} {G G' : Hp} {σ : L2.St} {H H' : Hp} {env : Env} {s s' : S} (h : StG F G σ H env s) (e : Ext F.reg G H G' H') (g : Gd F.toCc G' H' s') : StG F G' σ H' env s' :=
  ⟨h.ext.trans (e.wide F.sub), g, h.env_.len, fun i sl q => let ⟨o, a, b⟩ := h.env_.at_ i sl q; ⟨o, a, b.ext e⟩, h.env_.apart⟩
/-! ### the readings as the hand layer's -/
def RepX (C : Cc S) (G : Hp) : D → Value → Option Addr → Prop
  | .exc c fs, cls, dd => cls = .ref (C.cad c) ∧ ((fs = [] ∧ dd = none) ∨ ∃ d vs, dd = some d ∧ G d = some (.xd vs) ∧ RepF C G fs vs)
  | _, _, _ => False
/-- behind a value; behind an error -/
def Post {α : Type} (F : Fx S) (G H : Hp) (r : Res S α) (Q : α → S → Prop) : Prop := match r with
  | .ok a s' => Q a s'
  | .err x s' => ∀ cls dd σ' G' H', Same G G' → Ext F.reg0 F.G0 F.H0 G' H' → Gd F.toCc G' H' s' → RepX F.toCc G' x cls dd → F.wish cls dd σ' H'
  | .stk => False
theorem Post.mono {α : Type} {F : Fx S} {G H : Hp} {r : Res S α} {Q Q' : α → S → Prop} (h : Post F G H r Q) (m : ∀ a s', r = .ok a s' → Q a s' → Q' a s') : Post F G H r Q' := by
  cases r with
  | ok a s' => exact m a s' rfl h
  | err x s' => exact h
  | stk => exact h
theorem Post.bind {α β : Type} {F : Fx S} {G H : Hp} {r : Res S α} {f : α → S → Res S β} {Q : β → S → Prop} (h : Post F G H (r.bind f) Q) : Post F G H r fun a s' => Post F G H (f a s') Q := by
  cases r with
  | ok a s' => exact h
  | err x s' => exact h
  | stk => exact h
theorem Post.later {α : Type} {F : Fx S} {G H G' H' : Hp} {r : Res S α} {Q : α → S → Prop} (h : Post F G H r Q) (e : Same G G') : Post F G' H' r Q := by
  cases r with
  | ok a s' => exact h
  | err x s' => exact fun cls dd σ' G2 H2 e2 => h cls dd σ' G2 H2 (e.trans e2)
  | stk => exact h
theorem Post.grd {α : Type} {F : Fx S} {G H : Hp} {p : Prop} [Decidable p] {m : M S α} {s : S} {Q : α → S → Prop} (h : Post F G H (DL.grd p m s) Q) : p ∧ Post F G H (m s) Q := by
  unfold DL.grd at h
  by_cases q : p
  · rw [if_pos q] at h; exact ⟨q, h⟩
  · rw [if_neg q] at h; exact h.elim
def tE (F : Fx S) (τ : Env → M S D) : TE := fun σ H Q => ∃ G env s, StG F G σ H env s ∧
  Post F G H (τ env s) fun d s' => ∀ v G' H', Ext F.reg G H G' H' → StG F G' σ H' env s' → Rep F.toCc G' d v → Q v H'
def tT (F : Fx S) (τ : Env → M S Bool) : TT := fun σ H Q => ∃ G env s, StG F G σ H env s ∧
  Post F G H (τ env s) fun b s' => ∀ G' H', Ext F.reg G H G' H' → StG F G' σ H' env s' → Q b H'
def tA (F : Fx S) (τ : Env → M S (List D)) : TA := fun σ H Q => ∃ G env s, StG F G σ H env s ∧
  Post F G H (τ env s) fun ds s' => ∀ vs G' H', Ext F.reg G H G' H' → StG F G' σ H' env s' → RepL F.toCc G' ds vs → Q vs H'
def FP (F : Fx S) (G : Hp) (D : Ends) (fl : Flw) (s' : S) : Prop := match fl with
  | .nx e => ∀ σ' G' H', Same G G' → StG F G' σ' H' e s' → D.nx σ' H'
  | .bk e => ∀ σ' G' H', Same G G' → StG F G' σ' H' e s' → D.bk σ' H'
  | .ct e => ∀ σ' G' H', Same G G' → StG F G' σ' H' e s' → D.ct σ' H'
  | .rt d => ∀ v G' H', Same G G' → Ext F.reg0 F.G0 F.H0 G' H' → Gd F.toCc G' H' s' → Rep F.toCc G' d v → D.rt v H'
def tS (F : Fx S) (τ : Env → M S Flw) : TS := fun D σ H => ∃ G env s, StG F G σ H env s ∧ Post F G H (τ env s) (FP F G D)
theorem FP.later {F : Fx S} {G G' : Hp} {D : Ends} {fl : Flw} {s' : S} (h : FP F G D fl s') (e : Same G G') : FP F G' D fl s' := by
  cases fl with
  | nx _ => exact fun σ' G2 H2 q => h σ' G2 H2 (e.trans q)
  | bk _ => exact fun σ' G2 H2 q => h σ' G2 H2 (e.trans q)
  | ct _ => exact fun σ' G2 H2 q => h σ' G2 H2 (e.trans q)
  | rt _ => exact fun v G2 H2 q => h v G2 H2 (e.trans q)
/-! ### weakening -/
theorem pe_mono {X : Cx} {e : Expr} {t t' : TE} (h : PE X e t) (m : ∀ σ H Q, t' σ H Q → t σ H Q) : PE X e t' := ⟨fun pins s σ H Q I q => h.run pins s σ H Q I (m σ H Q q)⟩
theorem pt_mono {X : Cx} {e : Expr} {t t' : TT} (h : PT X e t) (m : ∀ σ H Q, t' σ H Q → t σ H Q) : PT X e t' := ⟨fun pins s σ H Q I q => h.run pins s σ H Q I (m σ H Q q)⟩
theorem pw_mono {X : Cx} {e : Expr} {t t' : TT} (h : PW X e t) (m : ∀ σ H Q, t' σ H Q → t σ H Q) : PW X e t' := ⟨fun wh pins s σ H Q I q => h.run wh pins s σ H Q I (m σ H Q q)⟩
theorem pa_mono {X : Cx} {es : List Expr} {t t' : TA} (h : PA X es t) (m : ∀ σ H Q, t' σ H Q → t σ H Q) : PA X es t' := ⟨fun pos pins s σ H Q I q => h.run pos pins s σ H Q I (m σ H Q q)⟩
theorem ps_mono {X : Cx} {st : Stmt} {t t' : TS} (h : PS X st t) (m : ∀ D σ H, t' D σ H → t D σ H) : PS X st t' := ⟨fun pins s σ H D I q => h.run pins s σ H D I (m D σ H q)⟩
theorem pss_mono {X : Cx} {st : List Stmt} {t t' : TS} (h : PSs X st t) (m : ∀ D σ H, t' D σ H → t D σ H) : PSs X st t' := ⟨fun pins s σ H D I q => h.run pins s σ H D I (m D σ H q)⟩
end DL
set_option Elab.async false
set_option linter.all false
set_option maxRecDepth 100000
set_option maxHeartbeats 4000000
set_option autoImplicit false
namespace DL
open PySem PySem.Spec PyProof.Rows L2
variable {S : Type} {X : Cx} {F : Fx S}
/-! ### sequencing -/
theorem seqE {α : Type} {τ : Env → M S D} {k : D → S → Res S α} {G H : Hp} {σ : L2.St} {env : Env} {s : S} {P : α → S → Prop} {Q : VK} (st : StG F G σ H env s) (p : Post F G H ((τ env s).bind k) P)
    (h : ∀ d s1 v G1 H1, Ext F.reg G H G1 H1 → StG F G1 σ H1 env s1 → Rep F.toCc G1 d v → Post F G1 H1 (k d s1) P → Q v H1) : tE F τ σ H Q :=
  ⟨G, env, s, st, p.bind.mono fun d s1 _ hk v G1 H1 e1 st1 r1 => h d s1 v G1 H1 e1 st1 r1 (hk.later e1.g)⟩
theorem seqT {α : Type} {τ : Env → M S Bool} {k : Bool → S → Res S α} {G H : Hp} {σ : L2.St} {env : Env} {s : S} {P : α → S → Prop} {Q : Bool → Hp → Prop} (st : StG F G σ H env s) (p : Post F G H ((τ env s).bind k) P)
    (h : ∀ b s1 G1 H1, Ext F.reg G H G1 H1 → StG F G1 σ H1 env s1 → Post F G1 H1 (k b s1) P → Q b H1) : tT F τ σ H Q :=
  ⟨G, env, s, st, p.bind.mono fun d s1 _ hk G1 H1 e1 st1 => h d s1 G1 H1 e1 st1 (hk.later e1.g)⟩
theorem seqA {α : Type} {τ : Env → M S (List D)} {k : List D → S → Res S α} {G H : Hp} {σ : L2.St} {env : Env} {s : S} {P : α → S → Prop} {Q : List V → Hp → Prop} (st : StG F G σ H env s) (p : Post F G H ((τ env s).bind k) P)
    (h : ∀ ds s1 vs G1 H1, Ext F.reg G H G1 H1 → StG F G1 σ H1 env s1 → RepL F.toCc G1 ds vs → Post F G1 H1 (k ds s1) P → Q vs H1) : tA F τ σ H Q :=
  ⟨G, env, s, st, p.bind.mono fun d s1 _ hk v G1 H1 e1 st1 r1 => h d s1 v G1 H1 e1 st1 r1 (hk.later e1.g)⟩
/-- what follows a value -/
abbrev K1 (F : Fx S) (G H : Hp) (σ : L2.St) (env : Env) (Q : VK) : D → S → Prop := fun d s' => ∀ v G' H', Ext F.reg G H G' H' → StG F G' σ H' env s' → Rep F.toCc G' d v → Q v H'
theorem K1.trans {G H G1 H1 : Hp} {σ : L2.St} {env : Env} {Q : VK} {d : D} {s' : S} (e : Ext F.reg G H G1 H1) (h : K1 F G H σ env Q d s') : K1 F G1 H1 σ env Q d s' := fun v G' H' e' => h v G' H' (e.trans e')
theorem Post.K1 {G H G1 H1 : Hp} {σ : L2.St} {env : Env} {Q : VK} {r : Res S D} (e : Ext F.reg G H G1 H1) (h : Post F G1 H1 r (K1 F G H σ env Q)) : Post F G1 H1 r (K1 F G1 H1 σ env Q) := h.mono fun _ _ _ q => q.trans e
/-! ### names and constants -/
def rVar (i : Nat) : Env → M S D := fun env => match env[i]? with
  | some (some (.val d)) => pure d
  | _ => stk
def rC (d : D) : Env → M S D := fun _ => pure d
theorem de_var (i : Nat) {e : Expr} (h : PE X e (tVar i)) : PE X e (tE F (rVar i)) := pe_mono h fun σ H Q ⟨G, env, s, st, p⟩ => by
  have q : Post F G H ((match env[i]? with
    | some (some (.val d)) => pure d
    | _ => stk : M S D) s) _ := p
  cases hd : env[i]? with
  | none => rw [hd] at q; exact q.elim
  | some sl =>
    rw [hd] at q
    cases sl with
    | none => exact q.elim
    | some sl =>
      cases sl with
      | val d =>
        obtain ⟨o, ho, v, ev, r⟩ := st.env_.at_ i _ hd
        subst ev
        exact ⟨v, ho, q v G H (Ext.refl _ _ _) st r⟩
      | own _ => exact q.elim
      | obj _ _ => exact q.elim
theorem de_c {e : Expr} {d : D} {v : V} (h : PE X e (tC v)) (r : ∀ G, Rep F.toCc G d v) : PE X e (tE F (rC d)) := pe_mono h fun σ H Q ⟨G, env, s, st, p⟩ => p v G H (Ext.refl _ _ _) st (r G)
theorem de_int {i : Int} {j pos} : PE X (.Constant (.int i) j pos) (tE F (rC (.int i))) := de_c pe_int fun _ => rfl
theorem de_bl {b : Bool} {j pos} : PE X (.Constant (.bool b) j pos) (tE F (rC (.bl b))) := de_c pe_bl fun _ => rfl
theorem de_non {j pos} : PE X (.Constant .none j pos) (tE F (rC .non)) := de_c pe_non fun _ => rfl
theorem de_str {x : Str} {j pos} : PE X (.Constant (.str x) j pos) (tE F (rC (.str x))) := de_c pe_str fun _ => rfl
theorem de_gint {x : Str} {i : Int} {pos : Pos} (hg : Gl X x) (hm : ∃ t, X.mg x = some (.int i t)) (hd : (x == ("__debug__" : Str)) = false := by decide) : PE X (.Name x pos) (tE F (rC (.int i))) := by
  obtain ⟨t, hm⟩ := hm
  exact de_c (pe_glob (v := .int i) hg hm ⟨t, rfl⟩ hd) fun _ => rfl
/-- no claim of this expression -/
def rNo : Env → M S D := fun _ => stk
/-! ### two-place operations -/
def OpD (F : Fx S) (r : R2) (f : D → D → M S D) : Prop := ∀ G σ H env s d e x y Q, StG F G σ H env s → Rep F.toCc G d x → Rep F.toCc G e y → Post F G H (f d e s) (K1 F G H σ env Q) → r x y H Q
def bin (f : D → D → M S D) (τ υ : Env → M S D) : Env → M S D := fun env => do
  let x ← τ env
  let y ← υ env
  f x y
theorem tOp_of {r : R2} {f : D → D → M S D} {τ υ : Env → M S D} (hd : OpD F r f) (σ : L2.St) (H : Hp) (Q : VK) (h : tE F (bin f τ υ) σ H Q) : tOp r (tE F τ) (tE F υ) σ H Q := by
  obtain ⟨G, env, s, st, p⟩ := h
  refine seqE st p fun d s1 x G1 H1 e1 st1 r1 p1 => ?_
  refine seqE st1 p1 fun e s2 y G2 H2 e2 st2 r2 p2 => ?_
  exact hd G2 σ H2 env s2 d e x y Q st2 (r1.mono e2.g) r2 (p2.K1 (e1.trans e2))
theorem de_op {op : Operator} {r : R2} {f : D → D → M S D} {a b : Expr} {τ υ : Env → M S D} {pos : Pos} (ho : OpR X (binaryOp op) r) (hd : OpD F r f) (ha : PE X a (tE F τ)) (hb : PE X b (tE F υ)) : PE X (.BinOp a op b pos) (tE F (bin f τ υ)) :=
  pe_mono (pe_op ho ha hb) (tOp_of hd)
theorem de_cmp {op : CmpOp} {r : R2} {f : D → D → M S D} {a b : Expr} {τ υ : Env → M S D} {pos : Pos} (ho : OpR X (compareOp op) r) (hd : OpD F r f) (ha : PE X a (tE F τ)) (hb : PE X b (tE F υ)) (hm : behindInMarks op b = false) : PE X (.Compare a [op] [b] pos) (tE F (bin f τ υ)) :=
  pe_mono (pe_cmpR ho ha hb hm) (tOp_of hd)
theorem de_ix {r : R2} {f : D → D → M S D} {a b : Expr} {τ υ : Env → M S D} {pos : Pos} (hr : IxR X r) (hd : OpD F r f) (ha : PE X a (tE F τ)) (hb : PE X b (tE F υ)) (hs : PlainIx b) : PE X (.Subscript a b pos) (tE F (bin f τ υ)) :=
  pe_mono (pe_ix hr ha hb hs) (tOp_of hd)
theorem OpR_or {f : Value → Value → Sem Value} {r r' : R2} (h : OpR X f r) (h' : OpR X f r') : OpR X f (fun x y H Q => r x y H Q ∨ r' x y H Q) := by
  intro pins s σ H x y v u Q I rx ry q
  rcases q with q | q
  · exact h pins s σ H x y v u Q I rx ry q
  · exact h' pins s σ H x y v u Q I rx ry q
/-! ### one test or value as a test -/
def asT (τ : Env → M S D) : Env → M S Bool := fun env => do
  match ← τ env with
  | .bl b => pure b
  | _ => stk
/-- a value that is True or False, as a test -/
theorem dt_val {e : Expr} {τ : Env → M S D} (h : PE X e (tE F τ)) (he : ∀ whole, isTrue e X.env whole = (do let v ← whole; standAt e.pos; holding [v] (truthy v)) := by intro _; rfl) : PT X e (tT F (asT τ)) :=
  pt_mono (pt_val h he) fun σ H Q ⟨G, env, s, st, p⟩ => by
    refine seqE st p fun d s1 v G1 H1 e1 st1 r1 p1 => ?_
    cases d with
    | bl b => exact ⟨b, r1, p1 G1 H1 e1 st1⟩
    | _ => exact p1.elim
theorem dt_cmp {op : CmpOp} {r : R2} {f : D → D → M S D} {a b : Expr} {τ υ : Env → M S D} {pos : Pos} (ho : OpR X (compareOp op) r) (hd : OpD F r f) (ha : PE X a (tE F τ)) (hb : PE X b (tE F υ)) (hm : behindInMarks op b = false) : PT X (.Compare a [op] [b] pos) (tT F (asT (bin f τ υ))) :=
  pt_mono (pt_cmpR ho ha hb hm) fun σ H Q ⟨G, env, s, st, p⟩ => by
    refine tOp_of hd σ H _ (seqE st p fun d s1 v G1 H1 e1 st1 r1 p1 => ?_)
    cases d with
    | bl b => exact ⟨b, r1, p1 G1 H1 e1 st1⟩
    | _ => exact p1.elim
def chn (f g : D → D → M S D) (τ υ ω : Env → M S D) : Env → M S D := fun env => do
  let x ← τ env
  let y ← υ env
  match ← f x y with
  | .bl true => do
    let z ← ω env
    match ← g y z with
    | .bl b => pure (.bl b)
    | _ => stk
  | .bl false => pure (.bl false)
  | _ => stk
theorem tChain_of {r r' : R2} {f g : D → D → M S D} {τ υ ω : Env → M S D} (hd : OpD F r f) (hd' : OpD F r' g) (σ : L2.St) (H : Hp) (Q : VK) (h : tE F (chn f g τ υ ω) σ H Q) : tChain r r' (tE F τ) (tE F υ) (tE F ω) σ H Q := by
  obtain ⟨G, env, s, st, p⟩ := h
  refine seqE st p fun d s1 x G1 H1 e1 st1 r1 p1 => ?_
  refine seqE st1 p1 fun e s2 y G2 H2 e2 st2 r2 p2 => ?_
  refine hd G2 σ H2 env s2 d e x y _ st2 (r1.mono e2.g) r2 (p2.bind.mono fun z s3 _ hk v G3 H3 e3 st3 r3 => ?_)
  cases z with
  | bl b =>
    cases r3
    refine ⟨b, rfl, ?_⟩
    cases b with
    | true =>
      rw [if_pos rfl]
      refine seqE st3 (hk.later e3.g) fun z s4 w G4 H4 e4 st4 r4 p4 => ?_
      refine hd' G4 σ H4 env s4 e z y w Q st4 (r2.mono (e3.trans e4).g) r4 (p4.bind.mono fun u s5 _ hk v G5 H5 e5 st5 r5 => ?_)
      cases u with
      | bl b => exact hk v G5 H5 (((e1.trans e2).trans e3).trans (e4.trans e5)) st5 r5
      | _ => exact hk.elim
    | false =>
      rw [if_neg Bool.false_ne_true]
      exact hk _ G3 H3 ((e1.trans e2).trans e3) st3 rfl
  | _ => exact hk.elim
theorem de_chain {op op' : CmpOp} {r r' : R2} {f g : D → D → M S D} {a b c : Expr} {τ υ ω : Env → M S D} {pos : Pos} (ho : OpR X (compareOp op) r) (hd : OpD F r f) (ho' : OpR X (compareOp op') r') (hd' : OpD F r' g) (ha : PE X a (tE F τ)) (hb : PE X b (tE F υ)) (hc : PE X c (tE F ω))
    (hm : lastMarks [op, op'] [b, c] = false := by with_unfolding_all rfl) : PE X (.Compare a [op, op'] [b, c] pos) (tE F (chn f g τ υ ω)) := pe_mono (pe_chain ho ho' ha hb hc hm) (tChain_of hd hd')
theorem dt_chain {op op' : CmpOp} {r r' : R2} {f g : D → D → M S D} {a b c : Expr} {τ υ ω : Env → M S D} {pos : Pos} (ho : OpR X (compareOp op) r) (hd : OpD F r f) (ho' : OpR X (compareOp op') r') (hd' : OpD F r' g) (ha : PE X a (tE F τ)) (hb : PE X b (tE F υ)) (hc : PE X c (tE F ω))
    (hm : lastMarks [op, op'] [b, c] = false := by with_unfolding_all rfl) : PT X (.Compare a [op, op'] [b, c] pos) (tT F (asT (chn f g τ υ ω))) :=
  pt_mono (pt_chain ho ho' ha hb hc hm) fun σ H Q ⟨G, env, s, st, p⟩ => by
    refine tChain_of hd hd' σ H _ (seqE st p fun d s1 v G1 H1 e1 st1 r1 p1 => ?_)
    cases d with
    | bl b => exact ⟨b, r1, p1 G1 H1 e1 st1⟩
    | _ => exact p1.elim
/-! ### truth -/
def truD : D → M S Bool
  | .non => pure false
  | .bl b => pure b
  | .int i => pure (i != 0)
  | .str x => grd (x.length ≤ sizeLine) (pure ((x.length : Int) != 0))
  | .lst ds => pure (!ds.isEmpty)
  | .tup ds => pure (!ds.isEmpty)
  | .dct ds => pure (!ds.isEmpty)
  | _ => stk
theorem RepL.isEmpty {C : Cc S} {G : Hp} {ds : List D} {vs : List V} (r : RepL C G ds vs) : vs.isEmpty = ds.isEmpty := by
  have := r.length
  cases ds <;> cases vs <;> simp_all
theorem RepK.length {C : Cc S} {G : Hp} : ∀ {ds : List (Key × D)} {vs : List (Key × V)}, RepK C G ds vs → vs.length = ds.length
  | [], _, r => by rw [r]; rfl
  | (_, _) :: _, _, ⟨v, r, e, _, b⟩ => by rw [e, List.length_cons, List.length_cons, b.length]
theorem SqT.sub {K : PySem.W.Frag} {G H : Hp} {a : Addr} {xs : List V} (e : Same G H) (h : SqT K G a xs) : SqT K H a xs := by
  rcases h with (h | ⟨o, h⟩) | h
  · exact .inl (.inl (e _ _ h))
  · exact .inl (.inr ⟨o, e _ _ h⟩)
  · exact .inr h
/-- one value through truth -/
theorem tru_of {α : Type} {C : Cc S} {G H : Hp} {s : S} {d : D} {v : V} {k : Bool → S → Res S α} {P : α → S → Prop} (hgh : Same G H) (r : Rep C G d v) {F : Fx S} {G1 H1 : Hp} (p : Post F G1 H1 (((truD d : M S Bool) s).bind k) P) :
    ∃ b, TruV C.K v H b ∧ Post F G1 H1 (k b s) P := by
  cases d with
  | non => cases r; exact ⟨_, rfl, p⟩
  | bl b => cases r; exact ⟨_, rfl, p⟩
  | int i => cases r; exact ⟨_, rfl, p⟩
  | str x =>
    cases r
    obtain ⟨h, q⟩ := Post.grd (Post.bind p)
    exact ⟨_, ⟨h, rfl⟩, q⟩
  | lst ds =>
    obtain ⟨a, vs, rfl, q, z, r⟩ := r
    refine ⟨_, .inl ⟨vs, .inl (.inl (hgh _ _ q)), rfl⟩, ?_⟩
    rw [r.isEmpty]; exact p
  | tup ds =>
    obtain ⟨a, vs, rfl, q, z, r⟩ := r
    refine ⟨_, .inr (.inl ⟨vs, SqT.sub hgh q, rfl⟩), ?_⟩
    rw [r.isEmpty]; exact p
  | dct ds =>
    obtain ⟨a, vs, rfl, q, r⟩ := r
    refine ⟨_, .inr (.inr ⟨vs, hgh _ _ q, rfl⟩), ?_⟩
    have e : vs.isEmpty = ds.isEmpty := by
      have := r.length
      cases ds <;> cases vs <;> simp_all
    rw [e]; exact p
  | ins c fs => exact p.elim
  | exc c fs => exact p.elim
  | hnd _ => exact p.elim
  | dks _ => exact p.elim
  | fn _ => exact p.elim
  | adr _ _ => exact p.elim
  | rps _ => exact p.elim
  | scr ns => exact p.elim
def asTr (τ : Env → M S D) : Env → M S Bool := fun env => do truD (← τ env)
/-! ### and, or, not, if -/
def andT (τ υ : Env → M S Bool) : Env → M S Bool := fun env => do if ← τ env then υ env else pure false
def orT (τ υ : Env → M S Bool) : Env → M S Bool := fun env => do if ← τ env then pure true else υ env
def notT (τ : Env → M S Bool) : Env → M S Bool := fun env => do return !(← τ env)
variable {a b c : Expr} {pos : Pos} {rest : List Expr} {op : BoolOp}
theorem dw_and1 {τ : Env → M S Bool} (h : PT X a (tT F τ)) : PW X (.BoolOp .And [a] pos) (tT F τ) := pw_and1 h
theorem dw_or1 {τ : Env → M S Bool} (h : PT X a (tT F τ)) : PW X (.BoolOp .Or [a] pos) (tT F τ) := pw_or1 h
theorem tT_end {τ : Env → M S Bool} {G H G1 H1 : Hp} {σ : L2.St} {env : Env} {s : S} {Q : Bool → Hp → Prop} (e : Ext F.reg G H G1 H1) (st : StG F G1 σ H1 env s) (p : Post F G1 H1 (τ env s) fun b s' => ∀ G' H', Ext F.reg G H G' H' → StG F G' σ H' env s' → Q b H') : tT F τ σ H1 Q :=
  ⟨G1, env, s, st, p.mono fun _ _ _ q G' H' e' => q G' H' (e.trans e')⟩
theorem tE_end {τ : Env → M S D} {G H G1 H1 : Hp} {σ : L2.St} {env : Env} {s : S} {Q : VK} (e : Ext F.reg G H G1 H1) (st : StG F G1 σ H1 env s) (p : Post F G1 H1 (τ env s) (K1 F G H σ env Q)) : tE F τ σ H1 Q :=
  ⟨G1, env, s, st, p.K1 e⟩
theorem dw_and {τ υ : Env → M S Bool} (ha : PT X a (tT F τ)) (hb : PW X (.BoolOp .And (b :: rest) pos) (tT F υ)) : PW X (.BoolOp .And (a :: b :: rest) pos) (tT F (andT τ υ)) :=
  pw_mono (pw_and ha hb) fun σ H Q ⟨G, env, s, st, p⟩ => by
    refine seqT st p fun k s1 G1 H1 e1 st1 p1 => ?_
    cases k with
    | true => rw [if_pos rfl]; exact tT_end e1 st1 p1
    | false => rw [if_neg Bool.false_ne_true]; exact p1 G1 H1 e1 st1
theorem dw_or {τ υ : Env → M S Bool} (ha : PT X a (tT F τ)) (hb : PW X (.BoolOp .Or (b :: rest) pos) (tT F υ)) : PW X (.BoolOp .Or (a :: b :: rest) pos) (tT F (orT τ υ)) :=
  pw_mono (pw_or ha hb) fun σ H Q ⟨G, env, s, st, p⟩ => by
    refine seqT st p fun k s1 G1 H1 e1 st1 p1 => ?_
    cases k with
    | true => rw [if_pos rfl]; exact p1 G1 H1 e1 st1
    | false => rw [if_neg Bool.false_ne_true]; exact tT_end e1 st1 p1
theorem dt_not {τ : Env → M S Bool} (ha : PT X a (tT F τ)) : PT X (.UnaryOp .Not a pos) (tT F (notT τ)) :=
  pt_mono (pt_not ha) fun σ H Q ⟨G, env, s, st, p⟩ => seqT st p fun k s1 G1 H1 e1 st1 p1 => p1 G1 H1 e1 st1
def iteE (t : Env → M S Bool) (τ υ : Env → M S D) : Env → M S D := fun env => do if ← t env then τ env else υ env
/-- as values -/
def andV (τ υ : Env → M S D) : Env → M S D := fun env => do
  let x ← τ env
  if ← truD x then υ env else pure x
def orV (τ υ : Env → M S D) : Env → M S D := fun env => do
  let x ← τ env
  if ← truD x then pure x else υ env
def notV (τ : Env → M S D) : Env → M S D := fun env => do return .bl (!(← truD (← τ env)))
theorem de_one {τ : Env → M S D} (h : PE X a (tE F τ)) : PE X (.BoolOp op [a] pos) (tE F τ) := pe_one h
theorem de_and {τ υ : Env → M S D} (hK : X.K = F.K) (ha : PE X a (tE F τ)) (hb : PE X (.BoolOp .And (b :: rest) pos) (tE F υ)) : PE X (.BoolOp .And (a :: b :: rest) pos) (tE F (andV τ υ)) :=
  pe_mono (pe_andT ha hb) fun σ H Q ⟨G, env, s, st, p⟩ => by
    refine seqE st p fun d s1 v G1 H1 e1 st1 r1 p1 => ?_
    obtain ⟨k, hk, pk⟩ := tru_of st1.gd.gh r1 p1
    rw [hK]
    refine ⟨k, hk, ?_⟩
    cases k with
    | true => rw [if_pos rfl]; exact tE_end e1 st1 pk
    | false => rw [if_neg Bool.false_ne_true]; exact pk v G1 H1 e1 st1 r1
theorem de_not {τ : Env → M S D} (hK : X.K = F.K) (ha : PE X a (tE F τ)) : PE X (.UnaryOp .Not a pos) (tE F (notV τ)) :=
  pe_mono (pe_notT ha) fun σ H Q ⟨G, env, s, st, p⟩ => by
    refine seqE st p fun d s1 v G1 H1 e1 st1 r1 p1 => ?_
    obtain ⟨k, hk, pk⟩ := tru_of st1.gd.gh r1 p1
    rw [hK]
    exact ⟨k, hk, pk _ G1 H1 e1 st1 rfl⟩
/-! ### argument lists, displays -/
def aNil : Env → M S (List D) := fun _ => pure []
def aCons (τ : Env → M S D) (υ : Env → M S (List D)) : Env → M S (List D) := fun env => do
  let x ← τ env
  let xs ← υ env
  pure (x :: xs)
theorem da_nil : PA X [] (tA F aNil) := pa_mono pa_nil fun σ H Q ⟨G, env, s, st, p⟩ => p [] G H (Ext.refl _ _ _) st rfl
theorem da_cons {e : Expr} {es : List Expr} {τ : Env → M S D} {υ : Env → M S (List D)} (ha : PE X e (tE F τ)) (hr : PA X es (tA F υ)) (hs : starEach (e :: es) X.env = (false, eval e X.env) :: starEach es X.env := by rfl) : PA X (e :: es) (tA F (aCons τ υ)) :=
  pa_mono (pa_cons ha hr hs) fun σ H Q ⟨G, env, s, st, p⟩ => by
    refine seqE st p fun d s1 v G1 H1 e1 st1 r1 p1 => ?_
    refine seqA st1 p1 fun ds s2 vs G2 H2 e2 st2 r2 p2 => ?_
    exact p2 (v :: vs) G2 H2 (e1.trans e2) st2 (RepL.cons (r1.mono e2.g) r2)
theorem StG.new {G H : Hp} {σ : L2.St} {env : Env} {s : S} (st : StG F G σ H env s) {p : Addr} (n : H p = none) (o : HO) (ho : NoTbl o := by intro _ h; cases h) : Ext F.reg G H (upd G p o) (upd H p o) ∧ StG F (upd G p o) σ (upd H p o) env s := by
  obtain ⟨g, e⟩ := st.gd.new n o ho
  exact ⟨e, st.ext' e g⟩
def lstD (τ : Env → M S (List D)) : Env → M S D := fun env => do
  let xs ← τ env
  grd (xs.length ≤ sizeLine) (pure (.lst xs))
def tupD (τ : Env → M S (List D)) : Env → M S D := fun env => do
  let xs ← τ env
  grd (xs.length ≤ sizeLine) (pure (.tup xs))
theorem SqT.upd {K : PySem.W.Frag} {G : Hp} {p : Addr} {vs : List V} : SqT K (upd G p (.tup vs)) p vs := .inl (.inl upd_same)
theorem de_lst {es : List Expr} {τ : Env → M S (List D)} (h : PA X es (tA F τ)) : PE X (.List es pos) (tE F (lstD τ)) :=
  pe_mono (pe_lst h) fun σ H Q ⟨G, env, s, st, p⟩ => by
    refine seqA st p fun ds s1 vs G1 H1 e1 st1 r1 p1 => ?_
    obtain ⟨hl, p2⟩ := Post.grd p1
    have hz : vs.length ≤ sizeLine := by rw [r1.length]; exact hl
    refine ⟨hz, fun q nq => ?_⟩
    obtain ⟨e2, st2⟩ := st1.new nq (.lst vs)
    exact p2 _ _ _ (e1.trans e2) st2 ⟨q, vs, rfl, upd_same, hz, r1.mono e2.g⟩
theorem de_tup {es : List Expr} {τ : Env → M S (List D)} {x1} (h : PA X es (tA F τ)) : PE X (.Tuple es x1 pos) (tE F (tupD τ)) :=
  pe_mono (pe_tup h) fun σ H Q ⟨G, env, s, st, p⟩ => by
    refine seqA st p fun ds s1 vs G1 H1 e1 st1 r1 p1 => ?_
    obtain ⟨hl, p2⟩ := Post.grd p1
    have hz : vs.length ≤ sizeLine := by rw [r1.length]; exact hl
    refine ⟨hz, fun q nq => ?_⟩
    obtain ⟨e2, st2⟩ := st1.new nq (.tup vs)
    exact p2 _ _ _ (e1.trans e2) st2 ⟨q, vs, rfl, SqT.upd, hz, r1.mono e2.g⟩
end DL
set_option Elab.async false
set_option linter.all false
set_option maxRecDepth 100000
set_option maxHeartbeats 4000000
set_option autoImplicit false
namespace DL
open PySem PySem.Spec PyProof.Rows L2
variable {S : Type} {X : Cx} {F : Fx S}
/-! ### a name's slot -/
theorem isOwn_set {env : Env} {i j : Nat} {d : D} (h : isOwn (env.set i (some (.val d)))[j]?) : isOwn env[j]? ∧ j ≠ i := by
  by_cases e : i = j
  · subst e
    by_cases hl : i < env.length
    · rw [List.getElem?_set_self hl] at h; exact h.elim
    · rw [List.set_eq_of_length_le (by omega)] at h
      rw [List.getElem?_eq_none (by omega)] at h
      exact h.elim
  · rw [List.getElem?_set_ne e] at h
    exact ⟨h, fun z => e z.symm⟩
theorem RepEnv.set {G H : Hp} {σ : L2.St} {env : Env} {d : D} {v : V} (i : Nat) (h : RepEnv F G H σ env) (r : Rep F.toCc G d v) : RepEnv F G H (σ.set i (some v)) (env.set i (some (.val d))) where
  len := by rw [List.length_set, List.length_set]; exact h.len
  at_ := fun j sl e => by
    by_cases q : i = j
    · subst q
      have hl : i < env.length := by
        by_cases hl : i < env.length
        · exact hl
        · rw [List.set_eq_of_length_le (by omega), List.getElem?_eq_none (by omega)] at e; cases e
      rw [List.getElem?_set_self hl] at e
      cases e
      exact ⟨some v, List.getElem?_set_self (by rw [h.len]; exact hl), v, rfl, r⟩
    · rw [List.getElem?_set_ne q] at e ⊢
      exact h.at_ j sl e
  apart := fun a b n ha hb => by
    obtain ⟨ha, na⟩ := isOwn_set ha
    obtain ⟨hb, nb⟩ := isOwn_set hb
    rw [List.getElem?_set_ne (fun z => na z.symm), List.getElem?_set_ne (fun z => nb z.symm)]
    exact h.apart a b n ha hb
theorem StG.set {G H : Hp} {σ : L2.St} {env : Env} {s : S} {d : D} {v : V} (i : Nat) (st : StG F G σ H env s) (r : Rep F.toCc G d v) : StG F G (σ.set i (some v)) H (env.set i (some (.val d))) s :=
  ⟨st.ext, st.gd, st.env_.set i r⟩
/-- a slot forgotten -/
theorem RepEnv.drop {G H : Hp} {σ : L2.St} {env : Env} (i : Nat) (h : RepEnv F G H σ env) (o : Option V) : RepEnv F G H (σ.set i o) (env.set i none) where
  len := by rw [List.length_set, List.length_set]; exact h.len
  at_ := fun j sl e => by
    by_cases q : i = j
    · subst q
      have hl : i < env.length := by
        by_cases hl : i < env.length
        · exact hl
        · rw [List.set_eq_of_length_le (by omega), List.getElem?_eq_none (by omega)] at e; cases e
      rw [List.getElem?_set_self hl] at e
      cases e
      exact ⟨o, List.getElem?_set_self (by rw [h.len]; exact hl), trivial⟩
    · rw [List.getElem?_set_ne q] at e ⊢
      exact h.at_ j sl e
  apart := fun a b n ha hb => by
    have t : ∀ j, isOwn (env.set i none)[j]? → isOwn env[j]? ∧ i ≠ j := fun j h => by
      by_cases e : i = j
      · subst e
        by_cases hl : i < env.length
        · rw [List.getElem?_set_self hl] at h; exact h.elim
        · rw [List.set_eq_of_length_le (by omega)] at h
          rw [List.getElem?_eq_none (by omega)] at h
          exact h.elim
      · rw [List.getElem?_set_ne e] at h
        exact ⟨h, e⟩
    obtain ⟨ha, na⟩ := t a ha
    obtain ⟨hb, nb⟩ := t b hb
    rw [List.getElem?_set_ne na, List.getElem?_set_ne nb]
    exact h.apart a b n ha hb
/-! ### targets -/
def tG (F : Fx S) (γ : D → Env → M S Env) : TG := fun v σ H Q => ∃ G env s d, StG F G σ H env s ∧ Rep F.toCc G d v ∧
  Post F G H (γ d env s) fun env' s' => ∀ σ' G' H', Same G G' → StG F G' σ' H' env' s' → Q σ' H'
def tGs (F : Fx S) (γ : List D → Env → M S Env) : TGs := fun vs σ H Q => ∃ G env s ds, StG F G σ H env s ∧ RepL F.toCc G ds vs ∧
  Post F G H (γ ds env s) fun env' s' => ∀ σ' G' H', Same G G' → StG F G' σ' H' env' s' → Q σ' H'
theorem pg_mono {tg : Expr} {t t' : TG} (h : PG X tg t) (m : ∀ v σ H Q, t' v σ H Q → t v σ H Q) : PG X tg t' := ⟨fun pins s σ H v u Q I r q => h.run pins s σ H v u Q I r (m v σ H Q q)⟩
theorem pgs_mono {tg : List Expr} {t t' : TGs} (h : PGs X tg t) (m : ∀ v σ H Q, t' v σ H Q → t v σ H Q) : PGs X tg t' := ⟨fun pins s σ H v u Q I r q => h.run pins s σ H v u Q I r (m v σ H Q q)⟩
def gNm (i : Nat) : D → Env → M S Env := fun d env => pure (env.set i (some (.val d)))
theorem dg_name (i : Nat) {tg : Expr} (h : PG X tg (gName i)) : PG X tg (tG F (gNm i)) := pg_mono h fun v σ H Q ⟨G, env, s, d, st, r, p⟩ => p _ G H (Same.refl _) (st.set i r)
def gsNil : List D → Env → M S Env := fun ds env => match ds with
  | [] => pure env
  | _ => stk
def gsCons (γ : D → Env → M S Env) (δ : List D → Env → M S Env) : List D → Env → M S Env := fun ds env => match ds with
  | [] => stk
  | d :: ds => do δ ds (← γ d env)
theorem dgs_nil : PGs X [] (tGs F gsNil) := pgs_mono pgs_nil fun vs σ H Q ⟨G, env, s, ds, st, r, p⟩ => by
  cases ds with
  | nil => exact ⟨r, p σ G H (Same.refl _) st⟩
  | cons d ds => exact p.elim
theorem dgs_cons {e : Expr} {es : List Expr} {γ : D → Env → M S Env} {δ : List D → Env → M S Env} (h1 : PG X e (tG F γ)) (h2 : PGs X es (tGs F δ))
    (hs : (assignEach (e :: es) X.env).map (·.2) = assign e X.env :: (assignEach es X.env).map (·.2) := by rfl) : PGs X (e :: es) (tGs F (gsCons γ δ)) := pgs_mono (pgs_cons h1 h2 hs) fun vs σ H Q ⟨G, env, s, ds, st, r, p⟩ => by
  cases ds with
  | nil => exact p.elim
  | cons d ds =>
    obtain ⟨v, vr, e, ra, rb⟩ := r
    exact ⟨v, vr, e, G, env, s, d, st, ra, Post.mono (Post.bind p) fun env' s' _ hk σ' G' H' e' st' => ⟨G', env', s', ds, st', rb.mono e', (hk.later e').mono fun _ _ _ q σ2 G2 H2 e2 => q σ2 G2 H2 (e'.trans e2)⟩⟩
theorem pg_or {tg : Expr} {t t' : TG} (h : PG X tg t) (h' : PG X tg t') : PG X tg (fun v σ H Q => t v σ H Q ∨ t' v σ H Q) := ⟨fun pins s σ H v u Q I r q => q.elim (h.run pins s σ H v u Q I r) (h'.run pins s σ H v u Q I r)⟩
def gTp (n : Nat) (δ : List D → Env → M S Env) : D → Env → M S Env := fun d env => match d with
  | .tup ds => grd (ds.length = n) (δ ds env)
  | .lst ds => grd (ds.length = n) (δ ds env)
  | _ => stk
theorem dg_tup {es : List Expr} {k n : Nat} {δ : List D → Env → M S Env} {pos : Pos} (hK : X.K = F.K) (hc : X.calm = true) (h : PGs X es (tGs F δ)) (hn : (assignEach es X.env).length = n := by rfl) (hst : (assignEach es X.env).findIdx? (·.1) = none := by rfl) :
    PG X (.Tuple es k pos) (tG F (gTp n δ)) := pg_mono (pg_or (pg_tup hc h hn hst) (pg_unl hc h hn hst)) fun v σ H Q ⟨G, env, s, d, st, r, p⟩ => by
  cases d with
  | tup ds =>
    obtain ⟨a, vs, e, q, z, rl⟩ := r
    obtain ⟨hl, p⟩ := Post.grd p
    exact .inl ⟨a, vs, e, hK ▸ SqT.sub st.gd.gh q, by rw [rl.length]; exact hl, G, env, s, ds, st, rl, p⟩
  | lst ds =>
    obtain ⟨a, vs, e, q, z, rl⟩ := r
    obtain ⟨hl, p⟩ := Post.grd p
    exact .inr ⟨a, vs, e, .inl (.inl (st.gd.gh _ _ q)), by rw [rl.length]; exact hl, G, env, s, ds, st, rl, p⟩
  | _ => exact p.elim
/-! ### statements -/
def sNx : Env → M S Flw := fun env => pure (.nx env)
def sBk : Env → M S Flw := fun env => pure (.bk env)
def sCt : Env → M S Flw := fun env => pure (.ct env)
def sSeq (τ υ : Env → M S Flw) : Env → M S Flw := fun env => do
  match ← τ env with
  | .nx e => υ e
  | f => pure f
def sRet (τ : Env → M S D) : Env → M S Flw := fun env => do return .rt (← τ env)
def sDrop (τ : Env → M S D) : Env → M S Flw := fun env => do
  let _ ← τ env
  pure (.nx env)
def sAsg (τ : Env → M S D) (γ : D → Env → M S Env) : Env → M S Flw := fun env => do
  let d ← τ env
  return .nx (← γ d env)
def sIf (t : Env → M S Bool) (τ υ : Env → M S Flw) : Env → M S Flw := fun env => do if ← t env then τ env else υ env
def sNo : Env → M S Flw := fun _ => stk
variable {st : Stmt} {sts : List Stmt} {pos : Pos}
theorem ds_no : PS X st (tS F sNo) := ⟨fun _ _ _ _ _ _ ⟨_, _, _, _, p⟩ => p.elim⟩
theorem dss_nil : PSs X [] (tS F sNx) := pss_mono pss_nil fun D σ H ⟨G, env, s, st, p⟩ => p σ G H (Same.refl _) st
theorem dss_one {τ : Env → M S Flw} (h : PS X st (tS F τ)) : PSs X [st] (tS F τ) := pss_one h
theorem tSeq_of {τ υ : Env → M S Flw} (D : Ends) (σ : L2.St) (H : Hp) (h : tS F (sSeq τ υ) D σ H) : tSeq (tS F τ) (tS F υ) D σ H := by
  obtain ⟨G, env, s, st, p⟩ := h
  refine ⟨G, env, s, st, Post.mono (Post.bind p) fun fl s1 _ hk => ?_⟩
  cases fl with
  | nx e => exact fun σ' G' H' e' st' => ⟨G', e, s1, st', (hk.later e').mono fun _ _ _ q => q.later e'⟩
  | rt d => exact hk
  | bk e => exact hk
  | ct e => exact hk
theorem dss_cons {τ υ : Env → M S Flw} (h1 : PS X st (tS F τ)) (h2 : PSs X sts (tS F υ)) : PSs X (st :: sts) (tS F (sSeq τ υ)) := pss_mono (pss_cons h1 h2) tSeq_of
theorem ds_ret {e : Expr} {τ : Env → M S D} (he : PE X e (tE F τ)) : PS X (.Return (some e) pos) (tS F (sRet τ)) := ps_mono (ps_ret he) fun D σ H ⟨G, env, s, st, p⟩ =>
  seqE st p fun d s1 v G1 H1 e1 st1 r1 p1 => p1 v G1 H1 e1.g st1.ext st1.gd r1
def sRetN : Env → M S Flw := fun _ => pure (.rt .non)
theorem ds_asg {tg e : Expr} {τ : Env → M S D} {γ : D → Env → M S Env} (he : PE X e (tE F τ)) (hg : PG X tg (tG F γ)) (hs : swapsWithSole [tg] e pos.line X.env = pure false := by rfl) (hw : swappedStores [tg] e X.env = pure none := by rfl)
    (h1 : (assignEach [tg] X.env).map (·.2) = [assign tg X.env] := by rfl) : PS X (.Assign [tg] e pos) (tS F (sAsg τ γ)) := ps_mono (ps_asg he hg hs hw h1) fun D σ H ⟨G, env, s, st, p⟩ =>
  seqE st p fun d s1 v G1 H1 e1 st1 r1 p1 => ⟨G1, env, s1, d, st1, r1, Post.mono (Post.bind p1) fun env' s2 _ hk σ' G' H' e' st' => hk σ' G' H' (e1.g.trans e') st'⟩
def sPar (i j : Nat) (τ : Env → M S (List D)) : Env → M S Flw := fun env => do
  match ← τ env with
  | [x, y] => pure (.nx ((env.set i (some (.val x))).set j (some (.val y))))
  | _ => stk
theorem ds_par {i j : Nat} {x y : Str} {a b : Expr} {τ : Env → M S (List D)} {px py pt : Pos} {kt k2 pt2} (hc : X.calm = true) (hN : X.N.Nodup) (hi : X.N[i]? = some x) (hj : X.N[j]? = some y) (hij : i ≠ j)
    (hx : X.env.scope.names.lookup x = some .local) (hy : X.env.scope.names.lookup y = some .local) (ha : PA X [a, b] (tA F τ))
    (hw : swappedStores [.Tuple [.Name x px, .Name y py] kt pt] (.Tuple [a, b] k2 pt2) X.env = pure (some [x, y]))
    (hs : swapsWithSole [.Tuple [.Name x px, .Name y py] kt pt] (.Tuple [a, b] k2 pt2) pos.line X.env = pure false := by rfl) :
    PS X (.Assign [.Tuple [.Name x px, .Name y py] kt pt] (.Tuple [a, b] k2 pt2) pos) (tS F (sPar i j τ)) := ps_mono (ps_par hc hN hi hj hij hx hy ha hw hs) fun D σ H ⟨G, env, s, st, p⟩ => by
  refine seqA st p fun ds s1 vs G1 H1 e1 st1 r1 p1 => ?_
  match ds, p1, r1 with
  | [x, y], p1, ⟨v, _, e, ra, w, _, e', rb, e''⟩ =>
    subst e e' e''
    exact ⟨v, w, rfl, p1 _ G1 H1 e1.g ((st1.set i ra).set j rb)⟩
  | [], p1, _ => exact p1.elim
  | [_], p1, _ => exact p1.elim
  | _ :: _ :: _ :: _, p1, _ => exact p1.elim
theorem ds_if {c : Expr} {a b : List Stmt} {t : Env → M S Bool} {τ υ : Env → M S Flw} (hc : PT X c (tT F t)) (ha : PSs X a (tS F τ)) (hb : PSs X b (tS F υ)) : PS X (.If c a b pos) (tS F (sIf t τ υ)) := ps_mono (ps_if hc ha hb) fun D σ H ⟨G, env, s, st, p⟩ => by
  refine seqT st p fun k s1 G1 H1 e1 st1 p1 => ?_
  cases k with
  | true => rw [if_pos rfl]; exact ⟨G1, env, s1, st1, Post.mono p1 fun _ _ _ q => q.later e1.g⟩
  | false => rw [if_neg Bool.false_ne_true]; exact ⟨G1, env, s1, st1, Post.mono p1 fun _ _ _ q => q.later e1.g⟩
/-! ### while -/
def whl (c : Env → M S Bool) (b : Env → M S Flw) : Nat → Env → M S Flw
  | 0, _ => stk
  | n + 1, env => do
    if ← c env then
      match ← b env with
      | .nx e => whl c b n e
      | .ct e => whl c b n e
      | .bk e => pure (.nx e)
      | .rt d => pure (.rt d)
    else pure (.nx env)
theorem whl_mono {c : Env → M S Bool} {b : Env → M S Flw} : ∀ (n : Nat) (env : Env) (s : S), whl c b n env s ≠ .stk → whl c b (n + 1) env s = whl c b n env s
  | 0, env, s, h => absurd rfl h
  | n + 1, env, s, h => by
    have ih := whl_mono (c := c) (b := b) n
    show ((c env s).bind _) = ((c env s).bind _)
    have h : ((c env s).bind _) ≠ .stk := h
    cases q : c env s with
    | ok k s1 =>
      rw [q] at h
      cases k with
      | false => rfl
      | true =>
        show ((b env s1).bind _) = ((b env s1).bind _)
        have h : ((b env s1).bind _) ≠ .stk := h
        cases q2 : b env s1 with
        | ok fl s2 =>
          rw [q2] at h
          cases fl with
          | nx e => exact ih e s2 h
          | ct e => exact ih e s2 h
          | bk e => rfl
          | rt d => rfl
        | err x s2 => rfl
        | stk => rfl
    | err x s1 => rfl
    | stk => rfl
theorem whl_le {c : Env → M S Bool} {b : Env → M S Flw} {n m : Nat} (hm : n ≤ m) {env : Env} {s : S} (h : whl c b n env s ≠ .stk) : whl c b m env s = whl c b n env s := by
  induction hm with
  | refl => rfl
  | step _ ih => rw [whl_mono _ env s (by rw [ih]; exact h), ih]
open Classical in
/-- while c: b -/
noncomputable def sWhl (c : Env → M S Bool) (b : Env → M S Flw) : Env → M S Flw := fun env s => if h : ∃ n, whl c b n env s ≠ .stk then whl c b h.choose env s else .stk
theorem sWhl_of {c : Env → M S Bool} {b : Env → M S Flw} (n : Nat) {env : Env} {s : S} (h : whl c b n env s ≠ .stk) : sWhl c b env s = whl c b n env s := by
  have hx : ∃ n, whl c b n env s ≠ .stk := ⟨n, h⟩
  unfold sWhl
  rw [dif_pos hx]
  rcases Nat.le_total n hx.choose with l | l
  · exact whl_le l h
  · exact (whl_le l hx.choose_spec).symm
/-- one turn -/
theorem sWhl_eq (c : Env → M S Bool) (b : Env → M S Flw) (env : Env) (s : S) : sWhl c b env s = ((do
    if ← c env then
      match ← b env with
      | .nx e => sWhl c b e
      | .ct e => sWhl c b e
      | .bk e => pure (.nx e)
      | .rt d => pure (.rt d)
    else pure (.nx env) : M S Flw) s) := by
  by_cases hx : ∃ n, whl c b n env s ≠ .stk
  · obtain ⟨n, h⟩ := hx
    rw [sWhl_of n h]
    cases n with
    | zero => exact absurd rfl h
    | succ n =>
      show ((c env s).bind _) = ((c env s).bind _)
      have h : ((c env s).bind _) ≠ .stk := h
      cases q : c env s with
      | ok k s1 =>
        rw [q] at h
        cases k with
        | false => rfl
        | true =>
          show ((b env s1).bind _) = ((b env s1).bind _)
          have h : ((b env s1).bind _) ≠ .stk := h
          cases q2 : b env s1 with
          | ok fl s2 =>
            rw [q2] at h
            cases fl with
            | nx e => exact (sWhl_of n (env := e) (s := s2) h).symm
            | ct e => exact (sWhl_of n (env := e) (s := s2) h).symm
            | bk e => rfl
            | rt d => rfl
          | err x s2 => rfl
          | stk => rfl
      | err x s1 => rfl
      | stk => rfl
  · have e : sWhl c b env s = .stk := by unfold sWhl; rw [dif_neg hx]
    rw [e]
    have all : ∀ n, whl c b n env s = .stk := fun n => Classical.byContradiction fun z => hx ⟨n, z⟩
    have a1 : ∀ n, ((c env s).bind fun k s' => (if k = true then (do
      match ← b env with
      | .nx e => whl c b n e
      | .ct e => whl c b n e
      | .bk e => pure (.nx e)
      | .rt d => pure (.rt d)) else pure (.nx env) : M S Flw) s') = .stk := fun n => all (n + 1)
    show Res.stk = ((c env s).bind _)
    cases q : c env s with
    | ok k s1 =>
      simp only [q] at a1
      cases k with
      | false => exact nomatch (a1 0)
      | true =>
        show Res.stk = ((b env s1).bind _)
        have a2 : ∀ n, ((b env s1).bind fun f s' => (match f with
          | .nx e => whl c b n e
          | .ct e => whl c b n e
          | .bk e => pure (.nx e)
          | .rt d => pure (.rt d) : M S Flw) s') = .stk := a1
        cases q2 : b env s1 with
        | ok fl s2 =>
          simp only [q2] at a2
          cases fl with
          | nx e =>
            show Res.stk = sWhl c b e s2
            unfold sWhl
            rw [dif_neg (fun ⟨n, z⟩ => z (a2 n))]
          | ct e =>
            show Res.stk = sWhl c b e s2
            unfold sWhl
            rw [dif_neg (fun ⟨n, z⟩ => z (a2 n))]
          | bk e => exact nomatch (a2 0)
          | rt d => exact nomatch (a2 0)
        | err x s2 => simp only [q2] at a2; exact nomatch (a2 0)
        | stk => rfl
    | err x s1 => simp only [q] at a1; exact nomatch (a1 0)
    | stk => rfl
theorem ds_while {c : Expr} {body : List Stmt} {t : Env → M S Bool} {τ : Env → M S Flw} (hp : PassesOwn (model X.prog X.w) X.A X.env X.xe) (hc : PT X c (tT F t)) (hb : PSs X body (tS F τ)) : PS X (.While c body [] pos) (tS F (sWhl t τ)) := ps_mono (ps_while hp hc hb) fun D σ H ⟨G, env, s, st, p⟩ => by
  have hx : ∃ n, whl t τ n env s ≠ .stk := Classical.byContradiction fun z => by
    unfold sWhl at p
    rw [dif_neg z] at p
    exact p
  obtain ⟨n, hn⟩ := hx
  rw [sWhl_of n hn] at p
  refine ⟨fun m σ H => ∃ G env s, StG F G σ H env s ∧ Post F G H (whl t τ m env s) (FP F G D), ⟨n, G, env, s, st, p⟩, ?_⟩
  rintro m σ H ⟨G, env, s, st, p⟩
  cases m with
  | zero => exact p.elim
  | succ m =>
    refine seqT st p fun k s1 G1 H1 e1 st1 p1 => ?_
    cases k with
    | false => rw [if_neg Bool.false_ne_true]; exact p1 σ G1 H1 e1.g st1
    | true =>
      rw [if_pos rfl]
      refine ⟨fun σ' H' => ∃ G env s, StG F G σ' H' env s ∧ Post F G H' (whl t τ m env s) (FP F G D), fun σ' H' h => ⟨m, Nat.lt_succ_self m, h⟩, ?_⟩
      refine ⟨G1, env, s1, st1, Post.mono (Post.bind p1) fun fl s2 _ hk => ?_⟩
      cases fl with
      | nx e => exact fun σ' G' H' e' st' => ⟨G', e, s2, st', (hk.later e').mono fun _ _ _ q => q.later (e1.g.trans e')⟩
      | ct e => exact fun σ' G' H' e' st' => ⟨G', e, s2, st', (hk.later e').mono fun _ _ _ q => q.later (e1.g.trans e')⟩
      | bk e => exact fun σ' G' H' e' st' => hk σ' G' H' (e1.g.trans e') st'
      | rt d => exact fun v G' H' e' => hk v G' H' (e1.g.trans e')
/-! ### what is walked -/
def ItD (F : Fx S) (G : Hp) (J : It) (ds : List D) : Prop := ∀ G' H' s, Same G G' → Gd F.toCc G' H' s →
  (∀ (i : Nat) (d : D), ds[i]? = some d → J.go i H' ∧ ∀ x H2, J.yld i H' x H2 → ∃ G2, Ext F.reg G' H' G2 H2 ∧ Gd F.toCc G2 H2 s ∧ Rep F.toCc G2 d x) ∧ (∀ i, ds.length ≤ i → J.stop i H')
def tI (F : Fx S) (ι : Env → M S (List D)) : TI := fun σ H R => ∃ G env s, StG F G σ H env s ∧
  Post F G H (ι env s) fun ds s' => ∀ J G' H', Ext F.reg G H G' H' → StG F G' σ H' env s' → ItD F G' J ds → R J H'
theorem pi_mono {tg e : Expr} {t t' : TI} (h : PI X tg e t) (m : ∀ σ H R, t' σ H R → t σ H R) : PI X tg e t' := ⟨fun pins s σ H R I q => h.run pins s σ H R I (m σ H R q)⟩
theorem pi_or {tg e : Expr} {t t' : TI} (h : PI X tg e t) (h' : PI X tg e t') : PI X tg e (fun σ H R => t σ H R ∨ t' σ H R) := ⟨fun pins s σ H R I q => q.elim (h.run pins s σ H R I) (h'.run pins s σ H R I)⟩
def iSq (τ : Env → M S D) : Env → M S (List D) := fun env => do
  match ← τ env with
  | .lst ds => pure ds
  | .tup ds => pure ds
  | .scr ns => pure (ns.map .int)
  | _ => stk
theorem itd_list {G : Hp} {a : Addr} {vs : List V} {ds : List D} (q0 : G a = some (.lst vs)) (r : RepL F.toCc G ds vs) : ItD F G (Itl F.K a) ds := fun G' H' s e g => by
  have q' : SqL F.K H' a vs := .inl (.inl (g.gh _ _ (e _ _ q0)))
  refine ⟨fun i d hd => ?_, fun i hi => ⟨vs, q', by rw [r.length]; exact hi⟩⟩
  obtain ⟨v, hv, rv⟩ := r.get hd
  refine ⟨⟨vs, v, q', hv⟩, fun x H2 y => ?_⟩
  obtain ⟨rfl, y⟩ := y
  have z := y vs q'
  rw [hv] at z
  cases z
  exact ⟨G', Ext.refl _ _ _, g, rv.mono e⟩
theorem itd_scr {G : Hp} {a : Addr} {ns : List Int} (q : SqL F.K G a (ns.map V.int)) : ItD F G (Itl F.K a) (ns.map D.int) := fun G' H' s e g => by
  have q' : SqL F.K H' a (ns.map V.int) := g.gh.seq (e.seq q)
  refine ⟨fun i d hd => ?_, fun i hi => ⟨_, q', by rw [List.length_map] at hi ⊢; exact hi⟩⟩
  rw [List.getElem?_map] at hd
  obtain ⟨n, hn, rfl⟩ := Option.map_eq_some_iff.mp hd
  have hv : (ns.map V.int)[i]? = some (.int n) := by rw [List.getElem?_map, hn]; rfl
  refine ⟨⟨_, _, q', hv⟩, fun x H2 y => ?_⟩
  obtain ⟨rfl, y⟩ := y
  have z := y _ q'
  rw [hv] at z
  cases z
  exact ⟨G', Ext.refl _ _ _, g, rfl⟩
theorem itd_tup {G : Hp} {a : Addr} {vs : List V} {ds : List D} (q : SqT F.K G a vs) (r : RepL F.toCc G ds vs) : ItD F G (Itt F.K a) ds := fun G' H' s e g => by
  have q' : SqT F.K H' a vs := SqT.sub g.gh (SqT.sub e q)
  refine ⟨fun i d hd => ?_, fun i hi => ⟨vs, q', by rw [r.length]; exact hi⟩⟩
  obtain ⟨v, hv, rv⟩ := r.get hd
  refine ⟨⟨vs, v, q', hv⟩, fun x H2 y => ?_⟩
  obtain ⟨rfl, y⟩ := y
  have z := y vs q'
  rw [hv] at z
  cases z
  exact ⟨G', Ext.refl _ _ _, g, rv.mono e⟩
theorem di_seq {tg l : Expr} {τ : Env → M S D} (hK : X.K = F.K) (hl : PE X l (tE F τ)) : PI X tg l (tI F (iSq τ)) := pi_mono (pi_or (pi_list hl) (pi_tup hl)) fun σ H R ⟨G, env, s, st, p⟩ => by
  have p : Post F G H ((τ env s).bind fun d s' => (match d with
    | .lst ds => pure ds
    | .tup ds => pure ds
    | .scr ns => pure (ns.map .int)
    | _ => stk : M S (List D)) s') _ := p
  cases q : τ env s with
  | stk => rw [q] at p; exact p.elim
  | err x s1 => rw [q] at p; exact .inl ⟨G, env, s, st, by rw [q]; exact p⟩
  | ok d s1 =>
    rw [q] at p
    cases d with
    | lst ds =>
      refine .inl ⟨G, env, s, st, ?_⟩
      rw [q]
      rintro v G' H' e' st' ⟨a, vs, rfl, hq, hz, r⟩
      exact ⟨a, rfl, ⟨vs, .inl (.inl (st'.gd.gh _ _ hq))⟩, p _ G' H' e' st' (hK ▸ itd_list hq r)⟩
    | tup ds =>
      refine .inr ⟨G, env, s, st, ?_⟩
      rw [q]
      rintro v G' H' e' st' ⟨a, vs, rfl, hq, hz, r⟩
      exact ⟨a, rfl, ⟨vs, hK ▸ SqT.sub st'.gd.gh hq⟩, p _ G' H' e' st' (hK ▸ itd_tup hq r)⟩
    | scr ns =>
      refine .inl ⟨G, env, s, st, ?_⟩
      rw [q]
      rintro v G' H' e' st' ⟨a, rfl, hq⟩
      exact ⟨a, rfl, ⟨_, hK ▸ st'.gd.gh.seq hq⟩, p _ G' H' e' st' (hK ▸ itd_scr hq)⟩
    | _ => exact p.elim
def rngD (lo hi : Int) : List D := (List.range (hi - lo).toNat).map fun (i : Nat) => .int (lo + i)
theorem rngD_length (lo hi : Int) : (rngD lo hi).length = (hi - lo).toNat := by unfold rngD; rw [List.length_map, List.length_range]
theorem itd_rng {G : Hp} (lo hi : Int) : ItD F G (Itr lo (hi - lo).toNat) (rngD lo hi) := fun G' H' s e g => by
  refine ⟨fun i d hd => ?_, fun i h => by rw [rngD_length] at h; exact h⟩
  have hi' : i < (hi - lo).toNat := by rw [← rngD_length]; exact (List.getElem?_eq_some_iff.mp hd).1
  refine ⟨hi', fun x H2 y => ?_⟩
  obtain ⟨rfl, rfl⟩ := y
  unfold rngD at hd
  rw [List.getElem?_map, List.getElem?_range hi'] at hd
  cases hd
  exact ⟨G', Ext.refl _ _ _, g, rfl⟩
def iR1 (τ : Env → M S (List D)) : Env → M S (List D) := fun env => do
  match ← τ env with
  | [.int j] => grd (-(2 ^ 62) ≤ j ∧ j < 2 ^ 62) (pure (rngD 0 j))
  | _ => stk
theorem di_range1 {tg a : Expr} {τ : Env → M S (List D)} {p pos : Pos} (hg : Gl X "range") (hm : X.mg "range" = none) (ha : PA X [a] (tA F τ)) (hs : starEach [a] X.env = [(false, eval a X.env)] := by rfl) : PI X tg (.Call (.Name "range" p) [a] [] pos) (tI F (iR1 τ)) :=
  pi_mono (pi_range1 hg hm ha hs) fun σ H R ⟨G, env, s, st, p⟩ => by
    refine seqA st p fun ds s1 vs G1 H1 e1 st1 r1 p1 => ?_
    match ds, p1, r1 with
    | [.int j], p1, ⟨_, _, e, rfl, e'⟩ =>
      subst e e'
      obtain ⟨h, p2⟩ := Post.grd p1
      refine ⟨j, rfl, h.1, h.2, p2 _ G1 H1 e1 st1 ?_⟩
      have := itd_rng (F := F) (G := G1) 0 j
      simpa using this
    | [], p1, _ => exact p1.elim
    | .non :: _, p1, _ => exact p1.elim
    | .bl _ :: _, p1, _ => exact p1.elim
    | .str _ :: _, p1, _ => exact p1.elim
    | .lst _ :: _, p1, _ => exact p1.elim
    | .tup _ :: _, p1, _ => exact p1.elim
    | .dct _ :: _, p1, _ => exact p1.elim
    | .ins _ _ :: _, p1, _ => exact p1.elim
    | .exc _ _ :: _, p1, _ => exact p1.elim
    | .hnd _ :: _, p1, _ => exact p1.elim
    | .dks _ :: _, p1, _ => exact p1.elim
    | .fn _ :: _, p1, _ => exact p1.elim
    | .adr _ _ :: _, p1, _ => exact p1.elim
    | .rps _ :: _, p1, _ => exact p1.elim
    | .scr _ :: _, p1, _ => exact p1.elim
    | .int _ :: _ :: _, p1, _ => exact p1.elim
end DL
set_option Elab.async false
set_option linter.all false
set_option maxRecDepth 100000
set_option maxHeartbeats 4000000
set_option autoImplicit false
namespace DL
open PySem PySem.Spec PyProof.Rows L2
variable {S : Type} {X : Cx} {F : Fx S}
/-! ### forms of data, forms of arguments -/
section
variable {α : Type}
def onInt (k : Int → M S α) : D → M S α
  | .int i => k i
  | _ => stk
def onBl (k : Bool → M S α) : D → M S α
  | .bl i => k i
  | _ => stk
def onLst (k : List D → M S α) : D → M S α
  | .lst i => k i
  | _ => stk
def onTup (k : List D → M S α) : D → M S α
  | .tup i => k i
  | _ => stk
def onSeq (k : List D → M S α) : D → M S α
  | .lst i => k i
  | .tup i => k i
  | _ => stk
def onIns (k : Str → List (Str × D) → M S α) : D → M S α
  | .ins c fs => k c fs
  | _ => stk
def a1 (k : D → M S α) : List D → M S α
  | [d] => k d
  | _ => stk
def a2 (k : D → D → M S α) : List D → M S α
  | [d, e] => k d e
  | _ => stk
def a3 (k : D → D → D → M S α) : List D → M S α
  | [d, e, f] => k d e f
  | _ => stk
variable {G H : Hp} {s : S} {P : α → S → Prop}
theorem Post.onInt {k : Int → M S α} {d : D} (p : Post F G H (DL.onInt k d s) P) : ∃ i, d = .int i ∧ Post F G H (k i s) P := by
  cases d <;> first | exact ⟨_, rfl, p⟩ | exact p.elim
theorem Post.onBl {k : Bool → M S α} {d : D} (p : Post F G H (DL.onBl k d s) P) : ∃ i, d = .bl i ∧ Post F G H (k i s) P := by
  cases d <;> first | exact ⟨_, rfl, p⟩ | exact p.elim
theorem Post.onLst {k : List D → M S α} {d : D} (p : Post F G H (DL.onLst k d s) P) : ∃ i, d = .lst i ∧ Post F G H (k i s) P := by
  cases d <;> first | exact ⟨_, rfl, p⟩ | exact p.elim
theorem Post.onTup {k : List D → M S α} {d : D} (p : Post F G H (DL.onTup k d s) P) : ∃ i, d = .tup i ∧ Post F G H (k i s) P := by
  cases d <;> first | exact ⟨_, rfl, p⟩ | exact p.elim
theorem Post.onSeq {k : List D → M S α} {d : D} (p : Post F G H (DL.onSeq k d s) P) : ∃ i, (d = .lst i ∨ d = .tup i) ∧ Post F G H (k i s) P := by
  cases d <;> first | exact ⟨_, .inl rfl, p⟩ | exact ⟨_, .inr rfl, p⟩ | exact p.elim
theorem Post.onIns {k : Str → List (Str × D) → M S α} {d : D} (p : Post F G H (DL.onIns k d s) P) : ∃ c fs, d = .ins c fs ∧ Post F G H (k c fs s) P := by
  cases d <;> first | exact ⟨_, _, rfl, p⟩ | exact p.elim
theorem Post.a1 {k : D → M S α} {ds : List D} (p : Post F G H (DL.a1 k ds s) P) : ∃ d, ds = [d] ∧ Post F G H (k d s) P := by
  match ds, p with
  | [d], p => exact ⟨d, rfl, p⟩
  | [], p => exact p.elim
  | _ :: _ :: _, p => exact p.elim
theorem Post.a2 {k : D → D → M S α} {ds : List D} (p : Post F G H (DL.a2 k ds s) P) : ∃ d e, ds = [d, e] ∧ Post F G H (k d e s) P := by
  match ds, p with
  | [d, e], p => exact ⟨d, e, rfl, p⟩
  | [], p => exact p.elim
  | [_], p => exact p.elim
  | _ :: _ :: _ :: _, p => exact p.elim
end
theorem RepL.r1 {C : Cc S} {G : Hp} {d : D} {vs : List V} (r : RepL C G [d] vs) : ∃ v, vs = [v] ∧ Rep C G d v := by
  obtain ⟨v, _, e, a, e'⟩ := r
  subst e e'
  exact ⟨v, rfl, a⟩
theorem RepL.r2 {C : Cc S} {G : Hp} {d e : D} {vs : List V} (r : RepL C G [d, e] vs) : ∃ v w, vs = [v, w] ∧ Rep C G d v ∧ Rep C G e w := by
  obtain ⟨v, _, e, a, b⟩ := r
  obtain ⟨w, rfl, q⟩ := b.r1
  subst e
  exact ⟨v, w, rfl, a, q⟩
/-! ### range(a, b) -/
def iR2 (τ : Env → M S (List D)) : Env → M S (List D) := fun env => do a2 (fun d e => onInt (fun i => onInt (fun j => grd (-(2 ^ 62) ≤ i ∧ i < 2 ^ 62 ∧ -(2 ^ 62) ≤ j ∧ j < 2 ^ 62) (pure (rngD i j))) e) d) (← τ env)
theorem di_range2 {tg a b : Expr} {τ : Env → M S (List D)} {p pos : Pos} (hg : Gl X "range") (hm : X.mg "range" = none) (ha : PA X [a, b] (tA F τ)) (hs : starEach [a, b] X.env = [(false, eval a X.env), (false, eval b X.env)] := by rfl) (hs2 : starEach [b] X.env = [(false, eval b X.env)] := by rfl) :
    PI X tg (.Call (.Name "range" p) [a, b] [] pos) (tI F (iR2 τ)) :=
  pi_mono (pi_range2 hg hm ha hs hs2) fun σ H R ⟨G, env, s, st, p⟩ => by
    refine seqA st p fun ds s1 vs G1 H1 e1 st1 r1 p1 => ?_
    obtain ⟨d, e, rfl, p1⟩ := Post.a2 p1
    obtain ⟨i, rfl, p1⟩ := p1.onInt
    obtain ⟨j, rfl, p1⟩ := p1.onInt
    obtain ⟨h, p1⟩ := p1.grd
    obtain ⟨v, w, rfl, ra, rb⟩ := r1.r2
    cases ra
    cases rb
    exact ⟨i, j, rfl, h, p1 _ G1 H1 e1 st1 (itd_rng i j)⟩
/-! ### for -/
def forL (γ : D → Env → M S Env) (τ : Env → M S Flw) : List D → Env → M S Flw
  | [], env => pure (.nx env)
  | x :: xs, env => do
    let env1 ← γ x env
    match ← τ env1 with
    | .nx e => forL γ τ xs e
    | .ct e => forL γ τ xs e
    | .bk e => pure (.nx e)
    | .rt d => pure (.rt d)
def sFor (ι : Env → M S (List D)) (γ : D → Env → M S Env) (τ : Env → M S Flw) : Env → M S Flw := fun env => do forL γ τ (← ι env) env
theorem ds_for {tg iter : Expr} {body : List Stmt} {ι : Env → M S (List D)} {γ : D → Env → M S Env} {τ : Env → M S Flw} {pos : Pos} (hp : PassesOwn (model X.prog X.w) X.A X.env X.xe) (hc : X.calm = true) (hi : PI X tg iter (tI F ι)) (hg : PG X tg (tG F γ)) (hb : PSs X body (tS F τ))
    (hs : ∀ x, foldedSetIterable iter X.env x = pure x := by intro _; rfl) : PS X (.For tg iter body [] pos) (tS F (sFor ι γ τ)) := ps_mono (ps_for hp hc hi hg hb hs) fun D σ H ⟨G, env, s, st, p⟩ => by
  refine ⟨G, env, s, st, (Post.bind p).mono fun ds s1 _ hk J G1 H1 e1 st1 it => ?_⟩
  refine ⟨fun i m σ H => m = ds.length - i ∧ ∃ G env s, Same G1 G ∧ StG F G σ H env s ∧ Post F G H (forL γ τ (ds.drop i) env s) (FP F G D),
    ⟨_, rfl, G1, env, s1, Same.refl _, st1, (hk.later e1.g).mono fun _ _ _ q => q.later e1.g⟩, ?_⟩
  rintro i m σ' H' ⟨rfl, G', env', s', sg, st', p'⟩
  obtain ⟨go, stop⟩ := it G' H' s' sg st'.gd
  by_cases hi : i < ds.length
  · obtain ⟨g, y⟩ := go i ds[i] (by simp [hi])
    refine .inr ⟨g, fun σ2 H2 => ∃ G env s, Same G1 G ∧ StG F G σ2 H2 env s ∧ Post F G H2 (forL γ τ (ds.drop (i + 1)) env s) (FP F G D), fun σ2 H2 h => ⟨_, by omega, rfl, h⟩, fun x H2 hy => ?_⟩
    obtain ⟨G2, e2, g2, r2⟩ := y x H2 hy
    have st2 := st'.ext' e2 g2
    rw [List.drop_eq_getElem_cons hi] at p'
    refine ⟨G2, env', s', ds[i], st2, r2, (Post.bind (p'.later e2.g)).mono fun env3 s3 _ hk3 σ3 G3 H3 e3 st3 => ?_⟩
    refine ⟨G3, env3, s3, st3, (Post.bind (hk3.later e3)).mono fun fl s4 _ hk4 => ?_⟩
    cases fl with
    | nx e => exact fun σ4 G4 H4 e4 st4 => ⟨G4, e, s4, ((sg.trans e2.g).trans e3).trans e4, st4, (hk4.later e4).mono fun _ _ _ q => q.later ((e2.g.trans e3).trans e4)⟩
    | ct e => exact fun σ4 G4 H4 e4 st4 => ⟨G4, e, s4, ((sg.trans e2.g).trans e3).trans e4, st4, (hk4.later e4).mono fun _ _ _ q => q.later ((e2.g.trans e3).trans e4)⟩
    | bk e => exact fun σ4 G4 H4 e4 st4 => hk4 σ4 G4 H4 ((e2.g.trans e3).trans e4) st4
    | rt d => exact fun v G4 H4 e4 => hk4 v G4 H4 ((e2.g.trans e3).trans e4)
  · rw [List.drop_eq_nil_of_le (by omega)] at p'
    exact .inl ⟨stop i (by omega), p' σ' G' H' (Same.refl _) st'⟩
/-! ### list comprehensions -/
def wipeE (env : Env) : List Nat → Env
  | [] => env
  | v :: vs => (wipeE env vs).set v none
theorem RepEnv.wipe {G H : Hp} {σ : L2.St} {env : Env} (h : RepEnv F G H σ env) : ∀ vs, RepEnv F G H (wipe σ vs) (wipeE env vs)
  | [] => h
  | v :: vs => (h.wipe vs).drop v none
theorem StG.wipe {G H : Hp} {σ : L2.St} {env : Env} {s : S} (h : StG F G σ H env s) (vs : List Nat) : StG F G (wipe σ vs) H (wipeE env vs) s := ⟨h.ext, h.gd, h.env_.wipe vs⟩
/-- nothing is wished of errors -/
def Fx.calm (F : Fx S) : Fx S := { F with wish := fun _ _ _ _ => False }
theorem RepSlot.calm {G H : Hp} {sl : Option Slot} {o : Option V} : RepSlot F G H sl o ↔ RepSlot F.calm G H sl o := by
  cases sl with
  | none => exact Iff.rfl
  | some sl => cases sl <;> exact Iff.rfl
theorem StG.calm {G H : Hp} {σ : L2.St} {env : Env} {s : S} (h : StG F G σ H env s) : StG F.calm G σ H env s :=
  ⟨h.ext, h.gd, h.env_.len, fun i sl e => let ⟨o, a, b⟩ := h.env_.at_ i sl e; ⟨o, a, RepSlot.calm.mp b⟩, h.env_.apart⟩
/-- a target of a comprehension: it changes the comprehension's own slots alone -/
def GW (F : Fx S) (own : List Nat) (g : TG) (γ : D → Env → M S Env) : Prop := ∀ σ0 G H env s d v (Q : L2.St → Hp → Prop), StG F G (wipe σ0 own) H env s → Rep F.toCc G d v →
  Post F G H (γ d env s) (fun env' s' => ∀ σ' G' H', Ext F.reg G H G' H' → wipe σ' own = wipe σ0 own → StG F G' σ' H' env' s' → Q σ' H') → g v (wipe σ0 own) H Q
theorem wipe_get (σ : L2.St) (own : List Nat) (j : Nat) : (wipe σ own)[j]? = if j ∈ own ∧ j < σ.length then some none else σ[j]? := by
  induction own with
  | nil => simp [wipe]
  | cons v vs ih =>
    unfold wipe
    by_cases e : v = j
    · subst e
      by_cases hl : v < σ.length
      · rw [List.getElem?_set_self (by rw [wipe_length]; exact hl), if_pos ⟨by simp, hl⟩]
      · rw [List.getElem?_eq_none (by rw [List.length_set, wipe_length]; omega), if_neg (fun h => hl h.2), List.getElem?_eq_none (by omega)]
    · rw [List.getElem?_set_ne e, ih]
      by_cases hj : j ∈ vs
      · simp [hj]
      · have : ¬ j ∈ v :: vs := by
          intro h
          rcases List.mem_cons.mp h with h | h
          · exact e h.symm
          · exact hj h
        simp [hj, this]
theorem wipe_set {σ : L2.St} {own : List Nat} {i : Nat} (h : i ∈ own) (o : Option V) : wipe (σ.set i o) own = wipe σ own := by
  apply List.ext_getElem?
  intro j
  rw [wipe_get, wipe_get, List.length_set]
  by_cases q : j ∈ own ∧ j < σ.length
  · rw [if_pos q, if_pos q]
  · rw [if_neg q, if_neg q]
    by_cases e : i = j
    · subst e
      have hl : ¬ i < σ.length := fun z => q ⟨h, z⟩
      rw [List.getElem?_eq_none (by rw [List.length_set]; omega), List.getElem?_eq_none (by omega)]
    · rw [List.getElem?_set_ne e]
theorem wipe_wipe {σ : L2.St} {own : List Nat} : wipe (wipe σ own) own = wipe σ own := by
  apply List.ext_getElem?
  intro j
  rw [wipe_get, wipe_get, wipe_length]
  by_cases q : j ∈ own ∧ j < σ.length
  · rw [if_pos q, if_pos q]
  · rw [if_neg q]
theorem gw_name {own : List Nat} {i : Nat} (h : i ∈ own) : GW F own (gName i) (gNm i) := fun σ0 G H env s d v Q st r p =>
  p _ G H (Ext.refl _ _ _) (by rw [wipe_set h, wipe_wipe]) (st.set i r)
def cmpL (γ : D → Env → M S Env) (t : Env → M S Bool) (e : Env → M S D) (env : Env) : List D → M S (List D)
  | [] => pure []
  | x :: xs => do
    let env1 ← γ x env
    if ← t env1 then do
      let y ← e env1
      let ys ← cmpL γ t e env xs
      pure (y :: ys)
    else cmpL γ t e env xs
def cmp (own : List Nat) (ι : Env → M S (List D)) (γ : D → Env → M S Env) (t : Env → M S Bool) (e : Env → M S D) : Env → M S D := fun env => do
  let xs ← ι env
  grd (xs.length ≤ sizeLine) (do return .lst (← calmM (cmpL γ t e (wipeE env own) xs)))
theorem calm_ok {α : Type} {m : M S α} {s : S} {G H : Hp} {P : α → S → Prop} (p : Post F G H (calmM m s) P) : ∃ a s', m s = .ok a s' ∧ P a s' := by
  unfold calmM at p
  cases q : m s with
  | ok a s' => rw [q] at p; exact ⟨a, s', rfl, p⟩
  | err x s' => rw [q] at p; exact p.elim
  | stk => rw [q] at p; exact p.elim
theorem bind_ok {α β : Type} {r : Res S α} {f : α → S → Res S β} {b : β} {s' : S} (h : r.bind f = .ok b s') : ∃ a s1, r = .ok a s1 ∧ f a s1 = .ok b s' := by
  cases r with
  | ok a s1 => exact ⟨a, s1, rfl, h⟩
  | err x s1 => exact nomatch h
  | stk => exact nomatch h
/-- the new list D, open, through a comprehension's turns -/
structure Acc (F : Fx S) (G1 H1 : Hp) (Dl : Addr) (G H : Hp) (acc : List D) (n : Nat) : Prop where
  ext : Ext F.reg G1 H1 G H
  h1 : H1 Dl = none
  nr : ¬ F.reg Dl
  at_ : ∃ vs, H Dl = some (.lst vs) ∧ RepL F.toCc G acc vs
  gn : G Dl = none
  len : acc.length ≤ n
/-- as tE, and the value is a new object -/
def tEN (F : Fx S) (τ : Env → M S D) : TE := fun σ H Q => ∃ G env s, StG F G σ H env s ∧
  Post F G H (τ env s) fun d s' => ∀ v G' H', (∃ a, v = .ref a ∧ H a = none) → Ext F.reg G H G' H' → StG F G' σ H' env s' → Rep F.toCc G' d v → Q v H'
theorem tLcN_of {own : List Nat} {ι : Env → M S (List D)} {γ : D → Env → M S Env} {t : Env → M S Bool} {e : Env → M S D} {g : TG} (hg : GW F.calm own g γ) (σ : L2.St) (H : Hp) (Q : VK) (h : tEN F (cmp own ι γ t e) σ H Q) :
    tLc (tI F ι) g (tT F.calm t) (tE F.calm e) own σ H Q := by
  obtain ⟨G, env, s, st, p⟩ := h
  refine ⟨G, env, s, st, (Post.bind p).mono fun ds s1 _ hk J G1 H1 e1 st1 it => ?_⟩
  obtain ⟨hz, hk⟩ := Post.grd hk
  obtain ⟨ys, sE, hys, hk⟩ := calm_ok (Post.bind hk)
  intro Dl nD
  obtain ⟨gd2, e2⟩ := st1.gd.open_ nD (.lst [])
  have nrD : ¬ F.reg Dl := fun z => by
    obtain ⟨u, e⟩ := F.there s1 H1 Dl st1.gd.w z
    rw [nD] at e; cases e
  refine ⟨fun i m H => m = ds.length - i ∧ ∃ G s acc, i ≤ ds.length ∧ Acc F G1 H1 Dl G H acc i ∧ Gd F.toCc G H s ∧ ∃ rest, cmpL γ t e (wipeE env own) (ds.drop i) s = .ok rest sE ∧ ys = acc ++ rest,
    ⟨_, rfl, G1, s1, [], Nat.zero_le _, ⟨e2, nD, nrD, ⟨[], upd_same, rfl⟩, st1.gd.gh.free nD, Nat.le_refl _⟩, gd2, ys, hys, rfl⟩, ?_⟩
  rintro i m H' ⟨rfl, G', s', acc, hi, A, gd', rest, hr, hy⟩
  have st' : StG F G' σ H' env s' := st1.ext' A.ext gd'
  obtain ⟨go, stop⟩ := it G' H' s' A.ext.g gd'
  obtain ⟨vs, hD, rv⟩ := A.at_
  by_cases hlt : i < ds.length
  · obtain ⟨gi, y⟩ := go i ds[i] (by simp [hlt])
    refine .inr ⟨gi, fun H2 => ∃ G s acc, i + 1 ≤ ds.length ∧ Acc F G1 H1 Dl G H2 acc (i + 1) ∧ Gd F.toCc G H2 s ∧ ∃ rest, cmpL γ t e (wipeE env own) (ds.drop (i + 1)) s = .ok rest sE ∧ ys = acc ++ rest, fun H2 h => ⟨_, by omega, rfl, h⟩, fun x H2 hy2 => ?_⟩
    obtain ⟨G2, ex2, g2, r2⟩ := y x H2 hy2
    have st2 : StG F.calm G2 (wipe σ own) H2 (wipeE env own) s' := ((st'.ext' ex2 g2).wipe own).calm
    rw [List.drop_eq_getElem_cons hlt] at hr
    obtain ⟨env3, s3, q3, hr⟩ := bind_ok hr
    refine hg σ G2 H2 (wipeE env own) s' ds[i] x _ st2 r2 ?_
    rw [q3]
    intro σ3 G3 H3 ex3 hw3 st3
    refine ⟨hw3, ?_⟩
    obtain ⟨b, s4, q4, hr⟩ := bind_ok hr
    refine ⟨G3, env3, s3, st3, ?_⟩
    rw [q4]
    intro G4 H4 ex4 st4
    have exA : Ext F.reg G' H' G4 H4 := (ex2.trans ex3).trans ex4
    cases b with
    | false =>
      rw [if_neg Bool.false_ne_true]
      exact ⟨G4, s4, acc, hlt, ⟨A.ext.trans exA, A.h1, A.nr, ⟨vs, exA.fr _ _ hD nrD (by intro _ h; cases h), rv.mono exA.g⟩, exA.un hD A.gn nrD, Nat.le_succ_of_le A.len⟩, st4.gd, rest, hr, hy⟩
    | true =>
      rw [if_pos rfl]
      obtain ⟨d5, s5, q5, hr⟩ := bind_ok hr
      obtain ⟨rs, s6, q6, hr⟩ := bind_ok hr
      refine ⟨G4, env3, s4, st4, ?_⟩
      rw [q5]
      intro v5 G5 H5 ex5 st5 r5
      have exB : Ext F.reg G' H' G5 H5 := exA.trans ex5
      have hD5 := exB.fr _ _ hD nrD (by intro _ h; cases h)
      have gn5 := exB.un hD A.gn nrD
      have hal := A.len
      refine ⟨vs, hD5, by rw [rv.length]; exact Nat.lt_of_lt_of_le (Nat.lt_of_le_of_lt hal hlt) hz, ?_⟩
      have gd6 := st5.gd.write hD5 gn5 nrD (.lst (vs ++ [v5]))
      have eC : Ext F.reg G1 H1 G5 H5 := A.ext.trans exB
      cases hr
      refine ⟨G5, s5, acc ++ [d5], hlt, ⟨⟨eC.g, fun b o q n nt => ?_, eC.nw, fun b q => ?_⟩, A.h1, A.nr, ⟨_, upd_same, (rv.mono exB.g).append (RepL.one r5)⟩, gn5, ?_⟩, gd6, rs, q6, by rw [hy, List.append_assoc]; rfl⟩
      · rw [upd_ne (ne_of_none q A.h1)]; exact eC.fr b o q n nt
      · by_cases hb : b = Dl
        · subst hb; rw [upd_same] at q; cases q
        · rw [upd_ne hb] at q; exact eC.tr b q
      · rw [List.length_append, List.length_singleton]; omega
  · rw [List.drop_eq_nil_of_le (by omega)] at hr
    cases hr
    rw [List.append_nil] at hy
    subst hy
    refine .inl ⟨stop i (by omega), ?_⟩
    have gdF := gd'.freeze hD nrD
    have eF : Ext F.reg G1 H1 (upd G' Dl (.lst vs)) H' := ⟨fun b o q => by rw [upd_ne (ne_of_none (A.ext.g b o q) A.gn)]; exact A.ext.g b o q, A.ext.fr, fun b o q => by
      by_cases hb : b = Dl
      · subst hb; exact .inr (.inl A.h1)
      · rw [upd_ne hb] at q; exact A.ext.nw b o q, A.ext.tr⟩
    refine hk (.ref Dl) _ H' ⟨Dl, rfl, e1.tr Dl nD⟩ (e1.trans eF) (st1.ext' eF gdF) ⟨Dl, vs, rfl, upd_same, ?_, rv.mono fun b o q => by rw [upd_ne (ne_of_none q A.gn)]; exact q⟩
    rw [rv.length]
    exact Nat.le_trans A.len (Nat.le_trans hi hz)
theorem tLc_of {own : List Nat} {ι : Env → M S (List D)} {γ : D → Env → M S Env} {t : Env → M S Bool} {e : Env → M S D} {g : TG} (hg : GW F.calm own g γ) (σ : L2.St) (H : Hp) (Q : VK) (h : tE F (cmp own ι γ t e) σ H Q) :
    tLc (tI F ι) g (tT F.calm t) (tE F.calm e) own σ H Q := by
  obtain ⟨G, env, s, st, p⟩ := h
  exact tLcN_of hg σ H Q ⟨G, env, s, st, p.mono fun _ _ _ q v G' H' _ => q v G' H'⟩
def tYs : Env → M S Bool := fun _ => pure true
theorem pts_mono {ifs : List Expr} {t t' : TT} (h : PTs X ifs t) (m : ∀ σ H Q, t' σ H Q → t σ H Q) : PTs X ifs t' := ⟨fun pins s σ H Q I q => h.run pins s σ H Q I (m σ H Q q)⟩
theorem dts_nil : PTs X [] (tT F tYs) := pts_mono pts_nil fun σ H Q ⟨G, env, s, st, p⟩ => p G H (Ext.refl _ _ _) st
theorem dts_one {c : Expr} {t : Env → M S Bool} (h : PT X c (tT F t)) : PTs X [c] (tT F t) := pts_one h
section
variable {elt tg iter : Expr} {ifs : List Expr} {scope : Scope} {own : List (Str × Nat)} {pos spos : Pos} {g : TG} {ι : Env → M S (List D)} {γ : D → Env → M S Env} {t : Env → M S Bool} {e : Env → M S D}
theorem de_lc (hc : X.calm = true) (hN : X.N.Nodup) (hi : PI X tg iter (tI F ι)) (ok : BlkOk X.N X.env.scope scope own) (gw : GW F.calm (own.map (·.2)) g γ)
    (hg : ∀ (s : Shared) (H : Hp) (C : Addr) (cl : List (Str × Addr)) (fp : List Addr), PG (X.blk s H scope (compEnvC scope cl C X.env) fp) tg g) (ht : ∀ (s : Shared) (H : Hp) (C : Addr) (cl : List (Str × Addr)) (fp : List Addr), PTs (X.blk s H scope (compEnvC scope cl C X.env) fp) ifs (tT F.calm t))
    (he : ∀ (s : Shared) (H : Hp) (C : Addr) (cl : List (Str × Addr)) (fp : List Addr), PE (X.blk s H scope (compEnvC scope cl C X.env) fp) elt (tE F.calm e)) (hs : ∀ x, foldedSetIterable iter X.env x = pure x := by intro _; rfl) :
    PE X (.ListComp elt [⟨tg, iter, ifs, 0⟩] scope pos) (tE F (cmp (own.map (·.2)) ι γ t e)) := pe_mono (pe_lc hc hN hi ok hg ht he hs) (tLc_of gw)
theorem tAsgLc_of {i : Nat} (gw : GW F.calm (own.map (·.2)) g γ) (D : Ends) (σ : L2.St) (H : Hp) (h : tS F (sAsg (cmp (own.map (·.2)) ι γ t e) (gNm i)) D σ H) : tAsg (tLc (tI F ι) g (tT F.calm t) (tE F.calm e) (own.map (·.2))) (gName i) D σ H := by
  obtain ⟨G, env, s, st, p⟩ := h
  refine tLc_of gw σ H _ (seqE st p fun d s1 v G1 H1 e1 st1 r1 p1 => ?_)
  exact p1 _ G1 H1 e1.g (st1.set i r1)
theorem ds_setLc {i : Nat} {y : Str} {py : Pos} (hc : X.calm = true) (hN : X.N.Nodup) (hy : X.N[i]? = some y) (hyl : X.env.scope.names.lookup y = some .local)
    (hsw : swapsWith (.ListComp elt [⟨tg, iter, ifs, 0⟩] scope pos) (some (.Name y py)) spos.line X.env = pure true) (hi : PI X tg iter (tI F ι)) (ok : BlkOk X.N X.env.scope scope own) (gw : GW F.calm (own.map (·.2)) g γ)
    (hg : ∀ (s : Shared) (H : Hp) (C : Addr) (cl : List (Str × Addr)) (fp : List Addr), PG (X.blk s H scope (compEnvC scope cl C X.env) fp) tg g) (ht : ∀ (s : Shared) (H : Hp) (C : Addr) (cl : List (Str × Addr)) (fp : List Addr), PTs (X.blk s H scope (compEnvC scope cl C X.env) fp) ifs (tT F.calm t))
    (he : ∀ (s : Shared) (H : Hp) (C : Addr) (cl : List (Str × Addr)) (fp : List Addr), PE (X.blk s H scope (compEnvC scope cl C X.env) fp) elt (tE F.calm e)) (hs : ∀ x, foldedSetIterable iter X.env x = pure x := by intro _; rfl) :
    PS X (.Assign [.Name y py] (.ListComp elt [⟨tg, iter, ifs, 0⟩] scope pos) spos) (tS F (sAsg (cmp (own.map (·.2)) ι γ t e) (gNm i))) := ps_mono (ps_setLc hc hN hy hyl hsw hi ok hg ht he hs) (tAsgLc_of gw)
end
end DL
set_option Elab.async false
set_option linter.all false
set_option maxRecDepth 100000
set_option maxHeartbeats 4000000
set_option autoImplicit false
namespace DL
open PySem PySem.Spec PyProof.Rows L2
variable {S : Type} {X : Cx} {F : Fx S}
/-! ### what a def promises -/
def PostC {α : Type} (C : Cc S) (reg : Addr → Prop) (G H : Hp) (E : XK) (r : Res S α) (Q : α → S → Prop) : Prop := match r with
  | .ok a s' => Q a s'
  | .err x s' => ∀ cls dd G' H', Ext reg G H G' H' → Gd C G' H' s' → RepX C G' x cls dd → E cls dd H'
  | .stk => False
def spD (C : Cc S) (n : Nat) (sem : List D → M S D) : Sp := fun vs H Q E => vs.length = n ∧ ∃ G ds s, Gd C G H s ∧ RepL C G ds vs ∧
  PostC C C.reg G H E (sem ds s) fun d s' => ∀ v G' H', Ext C.reg G H G' H' → Gd C G' H' s' → Rep C G' d v → Q v H'
theorem spD_len {C : Cc S} {n : Nat} {sem : List D → M S D} {ps : List Str} (h : ps.length = n) : ∀ vs H Q E, spD C n sem vs H Q E → vs.length = ps.length := fun _ _ _ _ q => q.1.trans h.symm
/-- sem' is sem where it claims anything -/
def Rfn (sem' sem : List D → M S D) : Prop := ∀ ds s, sem' ds s ≠ .stk → sem ds s = sem' ds s
theorem spD_imp {C : Cc S} {n : Nat} {sem sem' : List D → M S D} (h : Rfn sem' sem) (vs : List V) (H : Hp) (Q : VK) (E : XK) (q : spD C n sem' vs H Q E) : spD C n sem vs H Q E := by
  obtain ⟨l, G, ds, s, g, r, p⟩ := q
  refine ⟨l, G, ds, s, g, r, ?_⟩
  have e : sem ds s = sem' ds s := h ds s fun z => by rw [z] at p; exact p
  rw [e]; exact p
/-- what is wished of a callee's error -/
def eOf (F : Fx S) : XK := fun cls dd H' => ∀ σ', F.wish cls dd σ' H'
theorem passes_F (tk : Takes X F.wish) : Passes (L2.CX X.prog X.w) X (eOf F) := passes_call tk fun cls d σ H h => h σ
/-- the callee's promise from what the caller wants -/
theorem spD_of {n : Nat} {sem : List D → M S D} {ds : List D} {vs : List V} {G H : Hp} {σ : L2.St} {env : Env} {s : S} {Q : VK} (hn : ds.length = n) (st : StG F G σ H env s) (r : RepL F.toCc G ds vs) (p : Post F G H (sem ds s) (K1 F G H σ env Q)) : spD F.toCc n sem vs H Q (eOf F) := by
  refine ⟨by rw [r.length]; exact hn, G, ds, s, st.gd, r, ?_⟩
  cases q : sem ds s with
  | ok d s' => rw [q] at p; exact fun v G' H' e g rv => p v G' H' e (st.ext' e g) rv
  | err x s' => rw [q] at p; exact fun cls dd G' H' e g rx σ' => p cls dd σ' G' H' e.g (st.ext.trans (e.wide F.sub)) g rx
  | stk => rw [q] at p; exact p
/-! ### calls of defs -/
def cal (sem : List D → M S D) (dv : List D) (n : Nat) (τ : Env → M S (List D)) : Env → M S D := fun env => do
  let ds ← τ env
  grd (ds.length + dv.length = n) (sem (ds ++ dv))
/-- defaults, as values and as data -/
def DfR (C : Cc S) : List D → List V → Prop := fun dv dvs => ∀ G, RepL C G dv dvs
theorem DfR.nil {C : Cc S} : DfR C [] [] := fun _ => rfl
section
variable {k n : Nat} {f C : Addr} {fd : FuncData} {ps : List Str} {sem : List D → M S D} {dv : List D} {dvs : List V} {ds : List Value} {x m : Str} {p pos apos : Pos} {e o : Expr} {es : List Expr} {τ : Env → M S D} {α : Env → M S (List D)}
theorem tCall_of (dr : DfR F.toCc dv dvs) (σ : L2.St) (H : Hp) (Q : VK) (h : tE F (cal sem dv n α) σ H Q) : tCall (spD F.toCc n sem) dvs (eOf F) (tA F α) σ H Q := by
  obtain ⟨G, env, s, st, p⟩ := h
  refine seqA st p fun ds s1 vs G1 H1 e1 st1 r1 p1 => ?_
  obtain ⟨hl, p1⟩ := Post.grd p1
  exact spD_of (by rw [List.length_append]; exact hl) st1 (r1.append (dr G1)) (p1.K1 e1)
theorem de_call (G : FnOk X.prog X.w X.K X.mg X.base (L2.CX X.prog X.w) k f fd ps (spD F.toCc n sem)) (tk : Takes X F.wish) (hr : Room k X.A) (hg : Gl X x) (hm : X.mg x = some (.ref f)) (hk : PySem.W.keepIn X.K (.ref f) = true) (hb : Binds X.K fd ps ds) (hd : Vals dvs ds) (dr : DfR F.toCc dv dvs)
    (ha : PA X (e :: es) (tA F α)) (hdb : (x == ("__debug__" : Str)) = false := by decide) (he : starEach (e :: es) X.env = (false, eval e X.env) :: starEach es X.env := by rfl) (hpl : (backTo pos (starEach es X.env)).any (·.1) = false := by rfl) :
    PE X (.Call (.Name x p) (e :: es) [] pos) (tE F (cal sem dv n α)) := pe_mono (pe_call G hr hg hm hk hb hd (passes_F tk) ha hdb he hpl) (tCall_of dr)
/-! ### methods -/
theorem RepF.lookup {C : Cc S} {G : Hp} {m : Str} : ∀ {fs : List (Str × D)} {vs : List (Str × V)}, RepF C G fs vs → (fs.lookup m = none → vs.lookup m = none) ∧ ∀ d, fs.lookup m = some d → ∃ v, vs.lookup m = some v ∧ Rep C G d v
  | [], _, r => by
    have e : _ = [] := r
    subst e
    exact ⟨fun _ => rfl, fun d h => nomatch h⟩
  | (k, d) :: fs, _, ⟨v, r, e, a, b⟩ => by
    subst e
    obtain ⟨h1, h2⟩ := b.lookup (m := m)
    simp only [List.lookup]
    cases hk : m == k with
    | true => exact ⟨fun z => (nomatch z), fun d' z => by cases z; exact ⟨v, rfl, a⟩⟩
    | false => exact ⟨h1, h2⟩
/-- o.m(..), o of the class c -/
def cam (c m : Str) (sem : List D → M S D) (dv : List D) (n : Nat) (τ : Env → M S D) (α : Env → M S (List D)) : Env → M S D := fun env => do
  let o ← τ env
  onIns (fun c' fs => grd (c' = c ∧ fs.lookup m = none) (do
    let ds ← α env
    grd (ds.length + dv.length + 1 = n) (sem (o :: (ds ++ dv))))) o
theorem tMeth_of {c : Str} (dr : DfR F.toCc dv dvs) (hC : F.cad c = C) (σ : L2.St) (H : Hp) (Q : VK) (h : tE F (cam c m sem dv n τ α) σ H Q) : tMeth C m (spD F.toCc n sem) dvs (eOf F) (tE F τ) (tA F α) σ H Q := by
  obtain ⟨G, env, s, st, p⟩ := h
  refine seqE st p fun d s1 v G1 H1 e1 st1 r1 p1 => ?_
  obtain ⟨c', fs, rfl, p3⟩ := Post.onIns p1
  obtain ⟨⟨hc, hf⟩, p4⟩ := Post.grd p3
  obtain ⟨a, dx, vs, rfl, ha, hdx, rf⟩ := id r1
  refine ⟨a, dx, vs, rfl, by rw [← hC, ← hc]; exact st1.gd.gh _ _ ha, rf.lookup.1 hf, ?_⟩
  refine seqA st1 p4 fun ds s2 us G2 H2 e2 st2 r2 p2 => ?_
  obtain ⟨hl, p2⟩ := Post.grd p2
  exact spD_of (by rw [List.length_cons, List.length_append]; omega) st2 (RepL.cons (r1.mono e2.g) (r2.append (dr G2))) (p2.K1 (e1.trans e2))
theorem de_meth {c : Str} {pl : Sem Bool} (hC : F.cad c = C) (ho : PE X o (tE F τ)) (cl : Cls X.K C) (hm : Meth X.K C m f) (G : FnOk X.prog X.w X.K X.mg X.base (L2.CX X.prog X.w) k f fd ps (spD F.toCc n sem)) (tk : Takes X F.wish) (hr : Room k X.A) (hb : Binds X.K fd ps ds) (hd : Vals dvs ds) (dr : DfR F.toCc dv dvs) (ha : PA X (e :: es) (tA F α))
    (hst : starEach (e :: es) X.env = (false, eval e X.env) :: starEach es X.env := by rfl) (hpl : (backTo pos (starEach es X.env)).any (·.1) = false := by rfl)
    (ht : eval (.Call (.Attribute o m apos) (e :: es) [] pos) X.env = (do
      let ov ← eval o X.env
      standAt apos.atName
      let (f, first) ← holding [ov] (getMethod ov m pl)
      callWith pos f first (backTo pos (starEach (e :: es) X.env)) (backToKw pos (keywordEach [] X.env))) := by rfl) :
    PE X (.Call (.Attribute o m apos) (e :: es) [] pos) (tE F (cam c m sem dv n τ α)) := pe_mono (pe_meth ho cl hm G hr hb hd (passes_F tk) ha hst hpl ht) (tMeth_of dr hC)
/-! ### fields -/
def fldC (c f : Str) (τ : Env → M S D) : Env → M S D := fun env => do
  onIns (fun c' fs => grd (c' = c) (match fs.lookup f with
    | some d => pure d
    | none => stk)) (← τ env)
/-- o.f, o of the class c -/
theorem de_fldC {c f : Str} {τ : Env → M S D} (hK : X.K = F.K) (hC : F.cad c = C) (hcl : Cls X.K C) (hna : NoAttr X.K C f) (he : PE X e (tE F τ)) (hb : attributeBase e f X.env (eval e X.env) = eval e X.env := by rfl) : PE X (.Attribute e f pos) (tE F (fldC c f τ)) :=
  pe_mono (pe_fld he hb) fun σ H Q ⟨G, env, s, st, p⟩ => by
    refine seqE st p fun d s1 v G1 H1 e1 st1 r1 p1 => ?_
    obtain ⟨c', fs, rfl, p3⟩ := Post.onIns p1
    obtain ⟨hc, p4⟩ := Post.grd p3
    obtain ⟨a, dx, vs, rfl, ha, hdx, rf⟩ := r1
    cases q : fs.lookup f with
    | none => rw [q] at p4; exact p4.elim
    | some d =>
      rw [q] at p4
      obtain ⟨w, hw, rw_⟩ := (rf.lookup (m := f)).2 d q
      exact ⟨a, C, dx, vs, w, rfl, by rw [← hC, ← hc]; exact st1.gd.gh _ _ ha, hcl, hna, hw, p4 w G1 H1 e1 st1 rw_⟩
/-- o.f, a property of the class c -/
def prp (c : Str) (sem : List D → M S D) (τ : Env → M S D) : Env → M S D := fun env => do
  let o ← τ env
  onIns (fun c' _ => grd (c' = c) (calmM (sem [o]))) o
theorem de_prop {c f : Str} {q g : Addr} {τ : Env → M S D} (hC : F.cad c = C) (he : PE X e (tE F τ)) (cl : Cls X.K C) (hp : PropOf X.K C f q g) (G : FnOk X.prog X.w X.K X.mg X.base (L2.CX X.prog X.w) k g fd ps (spD F.toCc 1 sem)) (hr : Room (k + 1) X.A) (hb : Binds X.K fd ps [])
    (hab : attributeBase e f X.env (eval e X.env) = eval e X.env := by rfl) : PE X (.Attribute e f pos) (tE F (prp c sem τ)) :=
  pe_mono (pe_prop he cl hp G hr hb .nil (passL (X := X.nox)) hab) fun σ H Q ⟨G, env, s, st, p⟩ => by
    refine seqE st p fun d s1 v G1 H1 e1 st1 r1 p1 => ?_
    obtain ⟨c', fs, rfl, p3⟩ := Post.onIns p1
    obtain ⟨hc, p4⟩ := Post.grd p3
    obtain ⟨d', s2, hs, p5⟩ := calm_ok p4
    obtain ⟨a, dx, vs, rfl, ha, hdx, rf⟩ := id r1
    refine ⟨a, dx, vs, rfl, by rw [← hC, ← hc]; exact st1.gd.gh _ _ ha, rfl, G1, _, s1, st1.gd, RepL.one r1, ?_⟩
    rw [hs]
    exact fun v G' H' e' g' rv => p5 v G' H' (e1.trans e') (st1.ext' e' g') rv
end
/-! ### a def by its body -/
def startE (N : List Str) (ds : List D) : Env := ds.map (fun d => some (.val d)) ++ List.replicate (N.length - ds.length) none
def runB (rd : Env → M S Flw) (N : List Str) (ds : List D) : M S D := fun s => match rd (startE N ds) s with
  | .ok (.rt d) s' => .ok d s'
  | .ok (.nx _) s' => .ok .non s'
  | .ok _ _ => .stk
  | .err x s' => .err x s'
  | .stk => .stk
theorem repEnv_start {F : Fx S} {G H : Hp} {N : List Str} : ∀ {ds : List D} {vs : List V}, RepL F.toCc G ds vs → RepEnv F G H (L2.start N vs) (startE N ds) := fun {ds vs} r => by
  have hl := r.length
  have no : ∀ i, ¬ isOwn (startE N ds)[i]? := fun i h => by
    unfold startE at h
    by_cases hi : i < ds.length
    · rw [List.getElem?_append_left (by simpa using hi), List.getElem?_map, List.getElem?_eq_getElem hi] at h
      exact h
    · rw [List.getElem?_append_right (by simpa using hi), List.getElem?_replicate] at h
      split at h <;> exact h
  refine ⟨?_, fun i sl e => ?_, fun i j _ hi _ => (no i hi).elim⟩
  · unfold L2.start startE
    simp [hl]
  · unfold startE at e
    unfold L2.start
    by_cases hi : i < ds.length
    · rw [List.getElem?_append_left (by simpa using hi), List.getElem?_map, List.getElem?_eq_getElem hi] at e
      cases e
      obtain ⟨v, hv, rv⟩ := r.get (i := i) (d := ds[i]) (by simp [hi])
      refine ⟨some v, ?_, v, rfl, rv⟩
      rw [List.getElem?_append_left (by simpa [hl] using hi), List.getElem?_map, hv]; rfl
    · rw [List.getElem?_append_right (by simpa using hi), List.getElem?_replicate] at e
      split at e
      · rename_i hq
        cases e
        refine ⟨none, ?_, trivial⟩
        rw [List.length_map] at hq
        rw [List.getElem?_append_right (by simpa [hl] using hi), List.getElem?_replicate, if_pos (by simpa [hl] using hq)]
      · cases e
/-- the ground of a def's body -/
def fxOf (C : Cc S) (G H : Hp) (E : XK) : Fx S := { C with G0 := G, H0 := H, reg0 := C.reg, sub := fun _ h => h, wish := fun cls d _ H' => E cls d H' }
section
variable {P : Program} {w : World} {K : PySem.W.Frag} {mg : Str → Option Value} {base : Heap} {x qual : Str} {stm : Stmt} {f : Addr} {fd : FuncData} {N ps : List Str} {k : Nat}
theorem fn_body {C : Cc S} {rd : Env → M S Flw} {sem : List D → M S D} (Fn : Fun K x qual stm f fd) (Sc : FnScope N ps (defScope stm)) (hsem : Rfn sem (runB rd N))
    (hb : ∀ (cdv : Value) (A : Around) (outer : List PySem.Env) (s : Shared) (H G : Hp) (E : XK), Room k (A.deeper (envOfC qual (defScope stm) s.heap.objs.size f cdv)) →
      PSs (cxOf (L2.CX P w) P w K mg base N qual (defScope stm) f cdv A outer s H E) (defBody stm) (tS (fxOf C G H E) rd)) : FnOk P w K mg base (L2.CX P w) (k + 1) f fd ps (spD C ps.length sem) := by
  refine Fn.okX Sc (spD_len rfl) fun cdv A outer s H vs Q E hr h => ?_
  obtain ⟨hl, G, ds, st, g, r, p⟩ := spD_imp hsem vs H Q E h
  refine ⟨_, hb cdv A outer s H G E hr, G, startE N ds, st, ⟨Ext.refl _ _ _, g, repEnv_start r⟩, ?_⟩
  unfold runB at p
  cases q : rd (startE N ds) st with
  | stk => rw [q] at p; exact p
  | err e s' => rw [q] at p; exact fun cls dd σ' G' H' _ ex gd rx => p cls dd G' H' ex gd rx
  | ok fl s' =>
    rw [q] at p
    cases fl with
    | nx e => exact fun σ' G' H' _ st' => p .non G' H' st'.ext st'.gd rfl
    | rt d => exact fun v G' H' _ ex gd rv => p v G' H' ex gd rv
    | bk e => exact p.elim
    | ct e => exact p.elim
end
end DL
set_option Elab.async false
set_option linter.all false
set_option maxRecDepth 100000
set_option maxHeartbeats 4000000
set_option autoImplicit false
namespace DL
open PySem PySem.Spec PyProof.Rows L2
variable {S : Type} {X : Cx} {F : Fx S}
/-! ### what an __init__ promises -/
def spI (C : Cc S) (c : Str) (n : Nat) (sem : List D → M S (List (Str × D))) : Sp := fun vs H Q E => vs.length = n + 1 ∧ ∃ x dx vs' G ds s, vs = .ref x :: vs' ∧ H x = some (.ins (C.cad c) dx []) ∧ H dx = some (.own x) ∧ dx ≠ x ∧ G x = none ∧ G dx = none ∧ ¬ C.reg x ∧ ¬ C.reg dx ∧ Gd C G H s ∧ RepL C G ds vs' ∧
  PostC C (fun a => C.reg a ∨ a = x) G H E (sem ds s) fun fs s' => ∀ G' H' fv, Ext (fun a => C.reg a ∨ a = x) G H G' H' → Gd C G' H' s' → H' x = some (.ins (C.cad c) dx fv) → H' dx = some (.own x) → G' x = none → G' dx = none → RepF C G' fs fv → Q .non H'
def RfnI (sem' sem : List D → M S (List (Str × D))) : Prop := ∀ ds s, sem' ds s ≠ .stk → sem ds s = sem' ds s
theorem spI_imp {C : Cc S} {c : Str} {n : Nat} {sem sem' : List D → M S (List (Str × D))} (h : RfnI sem' sem) (vs : List V) (H : Hp) (Q : VK) (E : XK) (q : spI C c n sem' vs H Q E) : spI C c n sem vs H Q E := by
  obtain ⟨l, x, dx, vs', G, ds, s, h1, h2, h3, h4, h5, h6, h7, h8, h9, h10, p⟩ := q
  refine ⟨l, x, dx, vs', G, ds, s, h1, h2, h3, h4, h5, h6, h7, h8, h9, h10, ?_⟩
  have e : sem ds s = sem' ds s := h ds s fun z => by rw [z] at p; exact p
  rw [e]; exact p
/-! ### c(..) -/
def mk (c : Str) (sem : List D → M S (List (Str × D))) (dv : List D) (n : Nat) (τ : Env → M S (List D)) : Env → M S D := fun env => do
  let ds ← τ env
  grd (ds.length + dv.length = n) (do return .ins c (← sem (ds ++ dv)))
section
variable {k n : Nat} {f C : Addr} {fd : FuncData} {ps : List Str} {c : Str} {sem : List D → M S (List (Str × D))} {dv : List D} {dvs : List V} {ds : List Value} {x m : Str} {p pos apos : Pos} {e o : Expr} {es : List Expr} {α : Env → M S (List D)}
theorem spI_of {ds : List D} {vs : List V} {G H : Hp} {σ : L2.St} {env : Env} {s : S} {Q : VK} (hn : ds.length = n) (st : StG F G σ H env s) (r : RepL F.toCc G ds vs) (p : Post F G H (((sem ds s).bind fun fs s' => Res.ok (D.ins c fs) s')) (K1 F G H σ env Q))
    {x dx : Addr} (nx : H x = none) (nd : H dx = none) (ne : dx ≠ x) : spI F.toCc c n sem (.ref x :: vs) (upd (upd H dx (.own x)) x (.ins (F.cad c) dx [])) (fun v H2 => v = .non ∧ Q (.ref x) H2) (eOf F) := by
  have nreg : ∀ b, H b = none → ¬ F.reg b := fun b n z => by
    obtain ⟨u, e⟩ := F.there s H b st.gd.w z
    rw [n] at e; cases e
  obtain ⟨g1, e1⟩ := st.gd.open_ nd (.own x)
  obtain ⟨g2, e2⟩ := g1.open_ (show upd H dx (.own x) x = none by rw [upd_ne (Ne.symm ne)]; exact nx) (.ins (F.cad c) dx [])
  have e12 := e1.trans e2
  have gx : G x = none := st.gd.gh.free nx
  have gdx : G dx = none := st.gd.gh.free nd
  refine ⟨by rw [List.length_cons, r.length, hn], x, dx, vs, G, ds, s, rfl, upd_same, by rw [upd_ne ne, upd_same], ne, gx, gdx, nreg x nx, nreg dx nd, g2, r, ?_⟩
  cases q : sem ds s with
  | stk => rw [q] at p; exact p
  | err y s' =>
    rw [q] at p
    intro cls dd G' H' e g rx σ'
    refine p cls dd σ' G' H' e.g ?_ g rx
    refine ⟨st.ext.g.trans e.g, fun b o hb nb nt => ?_, fun b o hb => ?_, fun b hb => st.ext.tr b (e12.tr b (e.tr b hb))⟩
    · have hb1 := st.ext.fr b o hb nb nt
      have hb2 := e12.fr b o hb1 (fun z => nb (F.sub b z)) nt
      exact e.fr b o hb2 (fun z => z.elim (fun z => nb (F.sub b z)) fun z => by rw [z, nx] at hb1; cases hb1) nt
    · rcases e.nw b o hb with z | z | z
      · exact st.ext.nw b o z
      · exact .inr (.inl (st.ext.tr b (e12.tr b z)))
      · refine .inr (z.back (fun a u ha hn ht => e12.fr a u (st.ext.fr a u ha hn ht) (fun q => hn (F.sub a q)) ht) fun q => q.elim (fun q => .inl (F.sub b q)) fun q => .inr (st.ext.tr b (by rw [q]; exact nx)))
  | ok fs s' =>
    rw [q] at p
    intro G' H' fv e g hx hdx gx' gdx' rf
    refine ⟨rfl, ?_⟩
    have g3 := (g.freeze hdx (nreg dx nd))
    have g4 := g3.freeze hx (nreg x nx)
    have ss : Same G' (upd (upd G' dx (.own x)) x (.ins (F.cad c) dx fv)) := fun b o hb => by
      rw [upd_ne (ne_of_none hb gx'), upd_ne (ne_of_none hb gdx')]; exact hb
    have eX : Ext F.reg G H (upd (upd G' dx (.own x)) x (.ins (F.cad c) dx fv)) H' := by
      refine ⟨e.g.trans ss, fun b o hb nb nt => ?_, fun b o hb => ?_, fun b hb => e12.tr b (e.tr b hb)⟩
      · exact e.fr b o (e12.fr b o hb nb nt) (fun z => z.elim nb fun z => by rw [z, nx] at hb; cases hb) nt
      · by_cases h1 : b = x
        · subst h1; exact .inr (.inl nx)
        · rw [upd_ne h1] at hb
          by_cases h2 : b = dx
          · subst h2; exact .inr (.inl nd)
          · rw [upd_ne h2] at hb
            rcases e.nw b o hb with z | z | z
            · exact .inl z
            · exact .inr (.inl (e12.tr b z))
            · exact .inr (z.back e12.fr fun q => q.elim .inl fun q => .inr (by rw [q]; exact nx))
    exact p _ _ H' eX (st.ext' eX g4) ⟨x, dx, fv, rfl, upd_same, by rw [upd_ne ne, upd_same], rf.mono ss⟩
theorem tMake_of (dr : DfR F.toCc dv dvs) (hC : F.cad c = C) (σ : L2.St) (H : Hp) (Q : VK) (h : tE F (mk c sem dv n α) σ H Q) : tMake C (spI F.toCc c n sem) dvs (eOf F) (tA F α) σ H Q := by
  obtain ⟨G, env, s, st, p⟩ := h
  refine seqA st p fun ds s1 vs G1 H1 e1 st1 r1 p1 => ?_
  obtain ⟨hl, p1⟩ := Post.grd p1
  intro x dx nx nd ne
  subst hC
  exact spI_of (by rw [List.length_append]; exact hl) st1 (r1.append (dr G1)) (p1.K1 e1) nx nd ne
theorem de_make (hC : F.cad c = C) (Mk_ : Mk X.K C f) (G : FnOk X.prog X.w X.K X.mg X.base (L2.CX X.prog X.w) k f fd ps (spI F.toCc c n sem)) (tk : Takes X F.wish) (hr : Room (k + 1) X.A) (hg : Gl X x) (hm : X.mg x = some (.ref C)) (hb : Binds X.K fd ps ds) (hd : Vals dvs ds) (dr : DfR F.toCc dv dvs)
    (ha : PA X (e :: es) (tA F α)) (hdb : (x == ("__debug__" : Str)) = false := by decide) (he : starEach (e :: es) X.env = (false, eval e X.env) :: starEach es X.env := by rfl) (hpl : (backTo pos (starEach es X.env)).any (·.1) = false := by rfl) :
    PE X (.Call (.Name x p) (e :: es) [] pos) (tE F (mk c sem dv n α)) := pe_mono (pe_make Mk_ G hr hg hm hb hd (passes_F tk) ha hdb he hpl) (tMake_of dr hC)
end
/-! ### an __init__ by its body -/
def startI (c : Str) (N : List Str) (ds : List D) : Env := some (.obj c []) :: (ds.map (fun d => some (.val d)) ++ List.replicate (N.length - (ds.length + 1)) none)
def runI (rd : Env → M S Flw) (c : Str) (N : List Str) (ds : List D) : M S (List (Str × D)) := fun s => match rd (startI c N ds) s with
  | .ok (.nx (some (.obj c' fs) :: _)) s' => if c' = c then .ok fs s' else .stk
  | .ok _ _ => .stk
  | .err x s' => .err x s'
  | .stk => .stk
theorem isOwn_startI {c : Str} {N : List Str} {ds : List D} {i : Nat} (h : isOwn (startI c N ds)[i]?) : i = 0 := by
  cases i with
  | zero => rfl
  | succ i =>
    exfalso
    unfold startI at h
    rw [List.getElem?_cons_succ] at h
    by_cases hi : i < ds.length
    · rw [List.getElem?_append_left (by simpa using hi), List.getElem?_map, List.getElem?_eq_getElem hi] at h
      exact h
    · rw [List.getElem?_append_right (by simpa using hi), List.getElem?_replicate] at h
      split at h <;> exact h
def fxI (C : Cc S) (G H : Hp) (x : Addr) (E : XK) : Fx S := { C with G0 := G, H0 := H, reg0 := fun a => C.reg a ∨ a = x, sub := fun _ h => .inl h, wish := fun cls d _ H' => E cls d H' }
section
variable {P : Program} {w : World} {K : PySem.W.Frag} {mg : Str → Option Value} {base : Heap} {x qual : Str} {stm : Stmt} {f : Addr} {fd : FuncData} {N ps : List Str} {k n : Nat} {c : Str}
theorem repEnv_startI {C : Cc S} {G H : Hp} {x dx : Addr} {E : XK} {ds : List D} {vs : List V} (h1 : H x = some (.ins (C.cad c) dx [])) (h2 : H dx = some (.own x)) (g1 : G x = none) (g2 : G dx = none) (n1 : ¬ C.reg x) (n2 : ¬ C.reg dx) (r : RepL C G ds vs) :
    RepEnv (fxI C G H x E) G H (L2.start N (.ref x :: vs)) (startI c N ds) := by
  have hl := r.length
  refine ⟨?_, fun i sl e => ?_, fun i j ne hi hj => absurd ((isOwn_startI hi).trans (isOwn_startI hj).symm) ne⟩
  · unfold L2.start startI
    simp [hl]
  · cases i with
    | zero =>
      cases e
      exact ⟨some (.ref x), rfl, x, dx, [], rfl, h1, h2, g1, g2, n1, n2, .inr rfl, ⟨_, _, h1⟩, rfl⟩
    | succ i =>
      unfold startI at e
      rw [List.getElem?_cons_succ] at e
      have es : ∀ i : Nat, (L2.start N (V.ref x :: vs))[i + 1]? = (vs.map some ++ List.replicate (N.length - (vs.length + 1)) none)[i]? := fun i => by
        unfold L2.start
        rw [List.map_cons, List.cons_append, List.getElem?_cons_succ, List.length_cons]
      rw [es]
      by_cases hi : i < ds.length
      · rw [List.getElem?_append_left (by simpa using hi), List.getElem?_map, List.getElem?_eq_getElem hi] at e
        cases e
        obtain ⟨v, hv, rv⟩ := r.get (i := i) (d := ds[i]) (by simp [hi])
        refine ⟨some v, ?_, v, rfl, rv⟩
        rw [List.getElem?_append_left (by simpa [hl] using hi), List.getElem?_map, hv]; rfl
      · rw [List.getElem?_append_right (by simpa using hi), List.getElem?_replicate] at e
        split at e
        · rename_i hq
          cases e
          refine ⟨none, ?_, trivial⟩
          rw [List.length_map] at hq
          rw [List.getElem?_append_right (by simpa [hl] using hi), List.getElem?_replicate, if_pos (by simpa [hl] using hq)]
        · cases e
theorem fn_init {C : Cc S} {rd : Env → M S Flw} {sem : List D → M S (List (Str × D))} (Fn : Fun K x qual stm f fd) (Sc : FnScope N ps (defScope stm)) (hn : ps.length = n + 1) (hsem : RfnI sem (runI rd c N))
    (hb : ∀ (cdv : Value) (A : Around) (outer : List PySem.Env) (s : Shared) (H G : Hp) (xx : Addr) (E : XK), Room k (A.deeper (envOfC qual (defScope stm) s.heap.objs.size f cdv)) →
      PSs (cxOf (L2.CX P w) P w K mg base N qual (defScope stm) f cdv A outer s H E) (defBody stm) (tS (fxI C G H xx E) rd)) : FnOk P w K mg base (L2.CX P w) (k + 1) f fd ps (spI C c n sem) := by
  refine Fn.okX Sc (fun _ _ _ _ q => q.1.trans hn.symm) fun cdv A outer s H vs Q E hr h => ?_
  obtain ⟨hl, xx, dx, vs', G, ds, st, rfl, h1, h2, ne, g1, g2, n1, n2, g, r, p⟩ := spI_imp hsem vs H Q E h
  refine ⟨_, hb cdv A outer s H G xx E hr, G, startI c N ds, st, ⟨Ext.refl _ _ _, g, repEnv_startI h1 h2 g1 g2 n1 n2 r⟩, ?_⟩
  unfold runI at p
  cases q : rd (startI c N ds) st with
  | stk => rw [q] at p; exact p
  | err e s' => rw [q] at p; exact fun cls dd σ' G' H' _ ex gd rx => p cls dd G' H' ex gd rx
  | ok fl s' =>
    rw [q] at p
    match fl, p with
    | .nx (some (.obj c' fs) :: env), p =>
      intro σ' G' H' _ st'
      by_cases hc : c' = c
      · subst hc
        dsimp only at p
        rw [if_pos rfl] at p
        obtain ⟨o, ho, a, dx', fv, ea, ha, hda, gna, gnd, nra, nrd, r0, ⟨C', fv0, h0⟩, rf⟩ := st'.env_.at_ 0 _ rfl
        have eax : a = xx := r0.elim (fun z => absurd z nra) id
        subst eax
        have hdx : H' dx = some (.own a) := st'.ext.fr dx _ h2 (fun z => z.elim n2 ne) (by intro _ h; cases h)
        have gdx : G' dx = none := st'.ext.un h2 g2 (fun z => z.elim n2 ne)
        -- its dict is the one it had
        exact p G' H' fv st'.ext st'.gd (by
          have : dx' = dx := by
            have z : H a = some (.ins C' dx' fv0) := h0
            rw [h1] at z; cases z; rfl
          rw [← this]; exact ha) hdx gna gdx rf
      · dsimp only at p
        rw [if_neg hc] at p
        exact p.elim
    | .nx [], p => exact p.elim
    | .nx (none :: _), p => exact p.elim
    | .nx (some (.val _) :: _), p => exact p.elim
    | .nx (some (.own _) :: _), p => exact p.elim
    | .rt d, p => exact p.elim
    | .bk e, p => exact p.elim
    | .ct e, p => exact p.elim
end
/-! ### self.f = e -/
def putD (f : Str) (d : D) : List (Str × D) → List (Str × D)
  | [] => [(f, d)]
  | (g, x) :: r => if g = f then (g, d) :: r else (g, x) :: putD f d r
theorem RepF.put {C : Cc S} {G : Hp} {f : Str} {d : D} {v : V} (r : Rep C G d v) : ∀ {fs : List (Str × D)} {vs : List (Str × V)}, RepF C G fs vs → RepF C G (putD f d fs) (putF f v vs)
  | [], _, h => by
    have e : _ = [] := h
    subst e
    exact ⟨v, [], rfl, r, rfl⟩
  | (g, x) :: fs, _, ⟨w, q, e, a, b⟩ => by
    subst e
    unfold putD putF
    by_cases h : g = f
    · rw [if_pos h, if_pos h]; exact ⟨v, q, rfl, r, b⟩
    · rw [if_neg h, if_neg h]; exact ⟨w, _, rfl, a, b.put r⟩
theorem RepF.length {C : Cc S} {G : Hp} : ∀ {ds : List (Str × D)} {vs : List (Str × V)}, RepF C G ds vs → vs.length = ds.length
  | [], _, r => by rw [r]; rfl
  | (_, _) :: _, _, ⟨v, r, e, _, b⟩ => by rw [e, List.length_cons, List.length_cons, b.length]
def sFldO (i : Nat) (c f : Str) (τ : Env → M S D) : Env → M S Flw := fun env => do
  let d ← τ env
  match env[i]? with
  | some (some (.obj c' fs)) => grd (c' = c ∧ fs.length < 1000) (pure (.nx (env.set i (some (.obj c (putD f d fs))))))
  | _ => stk
theorem isOwn_same {env : Env} {i j : Nat} {a b : Slot} (hi : env[i]? = some (some a)) (ha : isOwn (some (some a))) (h : isOwn (env.set i (some b))[j]?) : isOwn env[j]? := by
  by_cases e : i = j
  · subst e; rw [hi]; exact ha
  · rw [List.getElem?_set_ne e] at h; exact h
/-- a slot's object is written -/
theorem StG.setObj {G H : Hp} {σ : L2.St} {env : Env} {s : S} {i : Nat} {c : Str} {fs fs' : List (Str × D)} (st : StG F G σ H env s) (hi : env[i]? = some (some (.obj c fs))) :
    ∃ a dx vs, σ[i]? = some (some (.ref a)) ∧ H a = some (.ins (F.cad c) dx vs) ∧ RepF F.toCc G fs vs ∧ ∀ vs', RepF F.toCc G fs' vs' → StG F G σ (upd H a (.ins (F.cad c) dx vs')) (env.set i (some (.obj c fs'))) s := by
  obtain ⟨o, ho, a, dx, vs, rfl, ha, hd, ga, gd, na, nd, r0, h0, rf⟩ := st.env_.at_ i _ hi
  refine ⟨a, dx, vs, ho, ha, rf, fun vs' rf' => ?_⟩
  have ne : dx ≠ a := ne_of hd ha (by intro z; cases z)
  have hl : i < env.length := (List.getElem?_eq_some_iff.mp hi).1
  refine ⟨⟨st.ext.g, fun b o hb nb => ?_, st.ext.nw, fun b hb => ?_⟩, st.gd.write ha ga na _, ?_, fun j sl e => ?_, fun p q n hp hq => ?_⟩
  · rw [upd_ne (fun z : b = a => nb (z ▸ r0))]; exact st.ext.fr b o hb nb
  · by_cases hba : b = a
    · subst hba; rw [upd_same] at hb; cases hb
    · rw [upd_ne hba] at hb; exact st.ext.tr b hb
  · rw [List.length_set]; exact st.env_.len
  · by_cases q : i = j
    · subst q
      rw [List.getElem?_set_self hl] at e
      cases e
      exact ⟨_, ho, a, dx, vs', rfl, upd_same, by rw [upd_ne ne]; exact hd, ga, gd, na, nd, r0, h0, rf'⟩
    · rw [List.getElem?_set_ne q] at e
      obtain ⟨o2, ho2, rs⟩ := st.env_.at_ j sl e
      refine ⟨o2, ho2, ?_⟩
      match sl, rs with
      | none, _ => trivial
      | some (.val d), rs => exact rs
      | some (.own ds), ⟨b, us, eb, hb, gb, nb, h0b, z, rb⟩ =>
        exact ⟨b, us, eb, by rw [upd_ne (ne_of hb ha (by intro z; cases z))]; exact hb, gb, nb, h0b, z, rb⟩
      | some (.obj c2 f2), ⟨b, dy, us, eb, hb, hdb, gb, gdb, nb, ndb, r0b, h0b, rb⟩ =>
        have nba : b ≠ a := fun z => by
          refine st.env_.apart i j q (by rw [hi]; trivial) (by rw [e]; trivial) ?_
          rw [ho, ho2, eb, z]
        exact ⟨b, dy, us, eb, by rw [upd_ne nba]; exact hb, by rw [upd_ne (ne_of hdb ha (by intro z; cases z))]; exact hdb, gb, gdb, nb, ndb, r0b, h0b, rb⟩
  · exact st.env_.apart p q n (isOwn_same hi trivial hp) (isOwn_same hi trivial hq)
theorem ds_fld {i : Nat} {c f : Str} {τ : Env → M S D} {o value : Expr} {pos pos' : Pos} (hK : X.K = F.K) (hcl : Cls X.K (F.cad c)) (hna : NoAttr X.K (F.cad c) f) (ho : PE X o (tVar i)) (hv : PE X value (tE F τ)) (hs : swapsWith value (some (.Attribute o f pos')) pos.line X.env = pure false := by rfl) :
    PS X (.Assign [.Attribute o f pos'] value pos) (tS F (sFldO i c f τ)) := ps_mono (ps_fld ho hv hs) fun D σ H ⟨G, env, s, st, p⟩ => by
  refine seqE st p fun d s1 v G1 H1 e1 st1 r1 p1 => ?_
  cases hi : env[i]? with
  | none => simp only [hi] at p1; exact p1.elim
  | some sl =>
    cases sl with
    | none => simp only [hi] at p1; exact p1.elim
    | some sl =>
      cases sl with
      | val d => simp only [hi] at p1; exact p1.elim
      | own d => simp only [hi] at p1; exact p1.elim
      | obj c' fs =>
        simp only [hi] at p1
        obtain ⟨⟨rfl, hl⟩, p2⟩ := Post.grd p1
        obtain ⟨a, dx, vs, h1, h2, h3, h4⟩ := st1.setObj (fs' := putD f d fs) hi
        exact ⟨_, h1, a, _, dx, vs, rfl, h2, hcl, hna, by rw [h3.length]; exact hl, p2 σ G1 _ e1.g (h4 _ (h3.put r1))⟩
end DL
set_option Elab.async false
set_option linter.all false
set_option maxRecDepth 100000
set_option maxHeartbeats 4000000
set_option autoImplicit false
namespace DL
open PySem PySem.Spec PyProof.Rows L2
variable {S : Type} {X : Cx} {F : Fx S}
/-! ### built-ins by name -/
def CallD (F : Fx S) (r : List V → Hp → VK → Prop) (f : List D → M S D) : Prop := ∀ G σ H env s ds vs Q, StG F G σ H env s → RepL F.toCc G ds vs → Post F G H (f ds s) (K1 F G H σ env Q) → r vs H Q
def bcl (f : List D → M S D) (α : Env → M S (List D)) : Env → M S D := fun env => do f (← α env)
theorem tCB_of {r : List V → Hp → VK → Prop} {f : List D → M S D} {α : Env → M S (List D)} (hd : CallD F r f) (σ : L2.St) (H : Hp) (Q : VK) (h : tE F (bcl f α) σ H Q) : tCB r (tA F α) σ H Q := by
  obtain ⟨G, env, s, st, p⟩ := h
  refine seqA st p fun ds s1 vs G1 H1 e1 st1 r1 p1 => ?_
  exact hd G1 σ H1 env s1 ds vs Q st1 r1 (p1.K1 e1)
section
variable {x : Str} {p pos : Pos} {e : Expr} {es : List Expr} {α : Env → M S (List D)} {id T : String} {r : List V → Hp → VK → Prop} {f : List D → M S D}
theorem de_callB (hc : CallR X (.builtin id) r) (hd : CallD F r f) (hg : Gl X x) (hm : X.mg x = none) (hv : bootBuiltins x = some (.builtin id)) (ha : PA X (e :: es) (tA F α)) (hn : x ≠ "__name__" := by decide) (hdb : (x == ("__debug__" : Str)) = false := by decide)
    (he : starEach (e :: es) X.env = (false, eval e X.env) :: starEach es X.env := by rfl) (hpl : (backTo pos (starEach es X.env)).any (·.1) = false := by rfl) : PE X (.Call (.Name x p) (e :: es) [] pos) (tE F (bcl f α)) := pe_mono (pe_callB hc hg hm hv ha hn hdb he hpl) (tCB_of hd)
theorem de_callTy (hc : CallR X (.type T) r) (hd : CallD F r f) (hg : Gl X x) (hm : X.mg x = none) (hv : bootBuiltins x = some (.type T)) (ha : PA X (e :: es) (tA F α)) (hn : x ≠ "__name__" := by decide) (hdb : (x == ("__debug__" : Str)) = false := by decide)
    (he : starEach (e :: es) X.env = (false, eval e X.env) :: starEach es X.env := by rfl) (hpl : (backTo pos (starEach es X.env)).any (·.1) = false := by rfl) : PE X (.Call (.Name x p) (e :: es) [] pos) (tE F (bcl f α)) := pe_mono (pe_callTy hc hg hm hv ha hn hdb he hpl) (tCB_of hd)
end
theorem CallR_or {f : Value} {r r' : List V → Hp → VK → Prop} (h : CallR X f r) (h' : CallR X f r') : CallR X f (fun xs H Q => r xs H Q ∨ r' xs H Q) := by
  intro pins s σ H xs us Q I rx q
  rcases q with q | q
  · exact h pins s σ H xs us Q I rx q
  · exact h' pins s σ H xs us Q I rx q
/-! ### ints -/
def intOp (C : Int → Int → Prop) [∀ i j, Decidable (C i j)] (g : Int → Int → D) : D → D → M S D := fun x y => onInt (fun i => onInt (fun j => grd (C i j) (pure (g i j))) y) x
theorem opd_int {C : Int → Int → Prop} [∀ i j, Decidable (C i j)] {g : Int → Int → D} {h : Int → Int → V} (hr : ∀ i j G, Rep F.toCc G (g i j) (h i j)) : OpD F (rI C h) (intOp C g) := fun G σ H env s d e x y Q st rx ry p => by
  obtain ⟨i, rfl, p1⟩ := p.onInt
  obtain ⟨j, rfl, p2⟩ := p1.onInt
  obtain ⟨c, p3⟩ := p2.grd
  cases rx
  cases ry
  exact ⟨i, j, rfl, rfl, c, p3 _ G H (Ext.refl _ _ _) st (hr i j G)⟩
def intOp0 (g : Int → Int → D) : D → D → M S D := fun x y => onInt (fun i => onInt (fun j => pure (g i j)) y) x
theorem opd_int0 {g : Int → Int → D} {h : Int → Int → V} (hr : ∀ i j G, Rep F.toCc G (g i j) (h i j)) : OpD F (rI0 h) (intOp0 g) := fun G σ H env s d e x y Q st rx ry p => by
  obtain ⟨i, rfl, p1⟩ := p.onInt
  obtain ⟨j, rfl, p2⟩ := p1.onInt
  cases rx
  cases ry
  exact ⟨i, j, rfl, rfl, p2 _ G H (Ext.refl _ _ _) st (hr i j G)⟩
instance (i j : Int) : Decidable (CMul i j) := by unfold CMul; exact inferInstance
instance (i j : Int) : Decidable (CDiv i j) := by unfold CDiv; exact inferInstance
instance (i j : Int) : Decidable (CPow i j) := by unfold CPow; exact inferInstance
abbrev subD : D → D → M S D := intOp0 fun i j => .int (i - j)
abbrev mulD : D → D → M S D := intOp CMul fun i j => .int (i * j)
abbrev divD : D → D → M S D := intOp CDiv fun i j => .int (i / j)
abbrev modD : D → D → M S D := intOp (fun _ j => 0 < j) fun i j => .int (i % j)
abbrev powD : D → D → M S D := intOp CPow fun i j => .int (i ^ j.toNat)
theorem od_sub : OpD F (rI0 fun i j => .int (i - j)) subD := opd_int0 fun _ _ _ => rfl
theorem od_mul : OpD F (rI CMul fun i j => .int (i * j)) mulD := opd_int fun _ _ _ => rfl
theorem od_div : OpD F (rI CDiv fun i j => .int (i / j)) divD := opd_int fun _ _ _ => rfl
theorem od_mod : OpD F (rI (fun _ j => 0 < j) fun i j => .int (i % j)) modD := opd_int fun _ _ _ => rfl
theorem od_pow : OpD F (rI CPow fun i j => .int (i ^ j.toNat)) powD := opd_int fun _ _ _ => rfl
abbrev ltD : D → D → M S D := intOp0 fun i j => .bl (decide (i < j))
abbrev leD : D → D → M S D := intOp0 fun i j => .bl (decide (i ≤ j))
abbrev gtD : D → D → M S D := intOp0 fun i j => .bl (decide (j < i))
abbrev geD : D → D → M S D := intOp0 fun i j => .bl (decide (j ≤ i))
theorem od_lt : OpD F (rI0 fun i j => .bl (decide (i < j))) ltD := opd_int0 fun _ _ _ => rfl
theorem od_le : OpD F (rI0 fun i j => .bl (decide (i ≤ j))) leD := opd_int0 fun _ _ _ => rfl
theorem od_gt : OpD F (rI0 fun i j => .bl (decide (j < i))) gtD := opd_int0 fun _ _ _ => rfl
theorem od_ge : OpD F (rI0 fun i j => .bl (decide (j ≤ i))) geD := opd_int0 fun _ _ _ => rfl
def negD (τ : Env → M S D) : Env → M S D := fun env => do onInt (fun i => pure (.int (-i))) (← τ env)
theorem de_neg {a : Expr} {pos : Pos} {τ : Env → M S D} (ha : PE X a (tE F τ)) : PE X (.UnaryOp .USub a pos) (tE F (negD τ)) := pe_mono (pe_un un_neg ha) fun σ H Q ⟨G, env, s, st, p⟩ => by
  refine seqE st p fun d s1 v G1 H1 e1 st1 r1 p1 => ?_
  obtain ⟨i, rfl, p2⟩ := Post.onInt p1
  cases r1
  exact ⟨i, rfl, p2 _ G1 H1 e1 st1 rfl⟩
/-! ### a + b -/
def addD : D → D → M S D := fun x y => match x, y with
  | .int i, .int j => pure (.int (i + j))
  | .str i, .str j => grd (i.length + j.length ≤ sizeLine) (pure (.str (i ++ j)))
  | .lst a, .lst b => grd (a.length + b.length ≤ sizeLine) (pure (.lst (a ++ b)))
  | .tup a, .tup b => grd (a.length + b.length ≤ sizeLine) (pure (.tup (a ++ b)))
  | _, _ => stk
def rAddS : R2 := fun x y H Q => ∃ i j, x = .str i ∧ y = .str j ∧ i.length + j.length ≤ sizeLine ∧ Q (.str (i ++ j)) H
abbrev rAddAll (K : PySem.W.Frag) : R2 := fun x y H Q => rI0 (fun i j => .int (i + j)) x y H Q ∨ rAddS x y H Q ∨ rCat x y H Q ∨ rCatA K x y H Q
theorem or_add : OpR X (binaryOp .Add) (rAddAll X.K) := OpR_or op_add (OpR_or op_add_str (OpR_or op_cat op_catA))
theorem od_add (hK : X.K = F.K) : OpD F (rAddAll X.K) addD := fun G σ H env s d e x y Q st rx ry p => by
  rw [hK]
  cases d with
  | int i =>
    cases e with
    | int j => cases rx; cases ry; exact .inl ⟨i, j, rfl, rfl, p _ G H (Ext.refl _ _ _) st rfl⟩
    | _ => exact p.elim
  | str i =>
    cases e with
    | str j =>
      cases rx; cases ry
      obtain ⟨h, p1⟩ := Post.grd p
      exact .inr (.inl ⟨i, j, rfl, rfl, h, p1 _ G H (Ext.refl _ _ _) st rfl⟩)
    | _ => exact p.elim
  | lst a =>
    cases e with
    | lst b =>
      obtain ⟨l, vs, e1, q1, z1, r1⟩ := rx
      obtain ⟨m, us, e2, q2, z2, r2⟩ := ry
      obtain ⟨h, p1⟩ := Post.grd p
      have hz : vs.length + us.length ≤ sizeLine := by rw [r1.length, r2.length]; exact h
      refine .inr (.inr (.inl ⟨l, m, vs, us, e1, e2, st.gd.gh _ _ q1, st.gd.gh _ _ q2, hz, fun q nq => ?_⟩))
      obtain ⟨e3, st3⟩ := st.new nq (.lst (vs ++ us))
      exact p1 _ _ _ e3 st3 ⟨q, _, rfl, upd_same, by rw [List.length_append]; exact hz, (r1.append r2).mono e3.g⟩
    | _ => exact p.elim
  | tup a =>
    cases e with
    | tup b =>
      obtain ⟨l, vs, e1, q1, z1, r1⟩ := rx
      obtain ⟨m, us, e2, q2, z2, r2⟩ := ry
      obtain ⟨h, p1⟩ := Post.grd p
      have hz : vs.length + us.length ≤ sizeLine := by rw [r1.length, r2.length]; exact h
      refine .inr (.inr (.inr ⟨l, m, vs, us, e1, e2, SqT.sub st.gd.gh q1, SqT.sub st.gd.gh q2, hz, fun e => ?_, fun _ e => ?_, fun _ _ q nq => ?_⟩))
      · subst e
        have ha : a = [] := List.length_eq_zero_iff.mp r1.length.symm
        subst ha
        exact p1 _ G H (Ext.refl _ _ _) st ⟨m, us, rfl, q2, z2, r2⟩
      · subst e
        have hb : b = [] := List.length_eq_zero_iff.mp r2.length.symm
        subst hb
        rw [List.append_nil] at p1
        exact p1 _ G H (Ext.refl _ _ _) st ⟨l, vs, rfl, q1, z1, r1⟩
      · obtain ⟨e3, st3⟩ := st.new nq (.tup (vs ++ us))
        exact p1 _ _ _ e3 st3 ⟨q, _, rfl, SqT.upd, by rw [List.length_append]; exact hz, (r1.append r2).mono e3.g⟩
    | _ => exact p.elim
  | _ => exact p.elim
/-! ### == of plain data -/
mutual
def pd : D → Option PyData
  | .non => some .none
  | .bl b => some (.bool b)
  | .int i => some (.int i)
  | .str x => some (.str x)
  | .lst ds => (pdL ds).map .list
  | .tup ds => (pdL ds).map .tuple
  | _ => none
def pdL : List D → Option (List PyData)
  | [] => some []
  | d :: ds => match pd d, pdL ds with
    | some a, some b => some (a :: b)
    | _, _ => none
end
mutual
theorem pd_dp {C : Cc S} {G H : Hp} (h : Same G H) : ∀ {d : D} {v : V} {a : PyData}, Rep C G d v → pd d = some a → Dp C.K H v a
  | .non, _, _, r, e => by cases r; cases e; exact .non
  | .bl _, _, _, r, e => by cases r; cases e; exact .bl _
  | .int _, _, _, r, e => by cases r; cases e; exact .int _
  | .str _, _, _, r, e => by cases r; cases e; exact .str _
  | .lst ds, _, _, ⟨l, vs, ev, q, z, r⟩, e => by
    subst ev
    unfold pd at e
    obtain ⟨as, ea, rfl⟩ := Option.map_eq_some_iff.mp e
    exact .lst (.inl (.inl (h _ _ q))) (pdL_dp h r ea)
  | .tup ds, _, _, ⟨l, vs, ev, q, z, r⟩, e => by
    subst ev
    unfold pd at e
    obtain ⟨as, ea, rfl⟩ := Option.map_eq_some_iff.mp e
    exact .tup (SqT.sub h q) (pdL_dp h r ea)
  | .dct _, _, _, _, e => nomatch e
  | .ins _ _, _, _, _, e => nomatch e
  | .exc _ _, _, _, _, e => nomatch e
  | .hnd _, _, _, _, e => nomatch e
  | .dks _, _, _, _, e => nomatch e
  | .fn _, _, _, _, e => nomatch e
  | .adr _ _, _, _, _, e => nomatch e
  | .rps _, _, _, _, e => nomatch e
  | .scr _, _, _, _, e => nomatch e
theorem pdL_dp {C : Cc S} {G H : Hp} (h : Same G H) : ∀ {ds : List D} {vs : List V} {as : List PyData}, RepL C G ds vs → pdL ds = some as → DpAll C.K H vs as
  | [], _, _, r, e => by
    have e1 : _ = [] := r
    subst e1
    cases e
    exact .nil
  | d :: ds, _, _, ⟨v, us, ev, a, b⟩, e => by
    subst ev
    unfold pdL at e
    split at e
    · rename_i x y hx hy
      cases e
      exact .cons (pd_dp h a hx) (pdL_dp h b hy)
    · cases e
end
/-- == on plain data -/
def eqP (d e : D) : Option Bool := match pd d, pd e with
  | some a, some b => if SeqAt.shaped a = true ∧ SeqAt.shaped b = true then some (PyData.eqv a b) else none
  | _, _ => none
def eqD (neg : Bool) : D → D → M S D := fun d e => match eqP d e with
  | some b => pure (.bl (if neg then !b else b))
  | none => stk
theorem od_eq (hK : X.K = F.K) : OpD F (rEqD X.K) (eqD false) := fun G σ H env s d e x y Q st rx ry p => by
  rw [hK]
  unfold eqD eqP at p
  cases hd : pd d with
  | none => simp only [hd] at p; exact p.elim
  | some a =>
    cases he : pd e with
    | none => simp only [hd, he] at p; exact p.elim
    | some b =>
      simp only [hd, he] at p
      by_cases hs : SeqAt.shaped a = true ∧ SeqAt.shaped b = true
      · rw [if_pos hs] at p
        exact ⟨a, b, pd_dp st.gd.gh rx hd, pd_dp st.gd.gh ry he, hs.1, hs.2, p _ G H (Ext.refl _ _ _) st rfl⟩
      · rw [if_neg hs] at p; exact p.elim
theorem od_ne (hK : X.K = F.K) : OpD F (rNeD X.K) (eqD true) := fun G σ H env s d e x y Q st rx ry p => by
  rw [hK]
  unfold eqD eqP at p
  cases hd : pd d with
  | none => simp only [hd] at p; exact p.elim
  | some a =>
    cases he : pd e with
    | none => simp only [hd, he] at p; exact p.elim
    | some b =>
      simp only [hd, he] at p
      by_cases hs : SeqAt.shaped a = true ∧ SeqAt.shaped b = true
      · rw [if_pos hs] at p
        exact ⟨a, b, pd_dp st.gd.gh rx hd, pd_dp st.gd.gh ry he, hs.1, hs.2, p _ G H (Ext.refl _ _ _) st rfl⟩
      · rw [if_neg hs] at p; exact p.elim
/-! ### x in xs, flat data -/
def flatD : D → Bool
  | .non => true
  | .bl _ => true
  | .int _ => true
  | .str _ => true
  | _ => false
def eqF : D → D → Bool
  | .non, .non => true
  | .bl a, .bl b => a == b
  | .bl a, .int b => (if a then 1 else 0) == b
  | .int a, .bl b => a == (if b then 1 else 0)
  | .int a, .int b => a == b
  | .str a, .str b => a == b
  | _, _ => false
theorem flat_rep {C : Cc S} {G : Hp} {d : D} {v : V} (h : flatD d = true) (r : Rep C G d v) : flatV v = true := by
  cases d <;> first | exact Bool.noConfusion h | (cases r; rfl)
theorem eqF_rep {C : Cc S} {G : Hp} {d e : D} {v u : V} (h : flatD d = true) (h' : flatD e = true) (r : Rep C G d v) (r' : Rep C G e u) : eqV v u = eqF d e := by
  cases d <;> first | exact Bool.noConfusion h | (cases e <;> first | exact Bool.noConfusion h' | (cases r; cases r'; rfl))
theorem flatL_rep {C : Cc S} {G : Hp} : ∀ {ds : List D} {vs : List V}, ds.all flatD = true → RepL C G ds vs → vs.all flatV = true
  | [], _, _, r => by
    have e1 : _ = [] := r
    subst e1; rfl
  | d :: ds, _, h, ⟨v, us, ev, a, b⟩ => by
    subst ev
    rw [List.all_cons, Bool.and_eq_true] at h
    rw [List.all_cons, flat_rep h.1 a, flatL_rep h.2 b]; rfl
theorem inF_rep {C : Cc S} {G : Hp} {d : D} {v : V} (hd : flatD d = true) (rd : Rep C G d v) : ∀ {ds : List D} {vs : List V}, ds.all flatD = true → RepL C G ds vs → inV v vs = ds.any fun y => eqF y d
  | [], _, _, r => by
    have e1 : _ = [] := r
    subst e1; rfl
  | e :: ds, _, h, ⟨u, us, ev, a, b⟩ => by
    subst ev
    rw [List.all_cons, Bool.and_eq_true] at h
    have ih := inF_rep hd rd h.2 b
    unfold inV at ih ⊢
    rw [List.any_cons, List.any_cons, eqF_rep h.1 hd a rd, ih]
def inD (neg : Bool) : D → D → M S D := fun d e => onSeq (fun ds => grd (flatD d = true ∧ ds.all flatD = true) (pure (.bl (if neg then !(ds.any fun y => eqF y d) else ds.any fun y => eqF y d)))) e
theorem od_in (neg : Bool) (hK : X.K = F.K) : OpD F (rIn X.K neg) (inD neg) := fun G σ H env s d e x y Q st rx ry p => by
  rw [hK]
  obtain ⟨ds, he, p1⟩ := p.onSeq
  obtain ⟨⟨h1, h2⟩, p2⟩ := p1.grd
  rcases he with rfl | rfl
  · obtain ⟨a, vs, rfl, q, z, r⟩ := ry
    refine ⟨a, vs, rfl, .inl (.inl (.inl (st.gd.gh _ _ q))), flat_rep h1 rx, flatL_rep h2 r, ?_⟩
    rw [inF_rep h1 rx h2 r]
    exact p2 _ G H (Ext.refl _ _ _) st rfl
  · obtain ⟨a, vs, rfl, q, z, r⟩ := ry
    refine ⟨a, vs, rfl, .inr (SqT.sub st.gd.gh q), flat_rep h1 rx, flatL_rep h2 r, ?_⟩
    rw [inF_rep h1 rx h2 r]
    exact p2 _ G H (Ext.refl _ _ _) st rfl
/-! ### xs[i] -/
def ixD : D → D → M S D := fun d e => onSeq (fun ds => onInt (fun i => match atI ds i with
  | some x => pure x
  | none => stk) e) d
theorem atI_rep {C : Cc S} {G : Hp} {ds : List D} {vs : List V} {i : Int} {d : D} (r : RepL C G ds vs) (h : atI ds i = some d) : ∃ v, atI vs i = some v ∧ Rep C G d v := by
  unfold atI at h ⊢
  rw [r.length]
  obtain ⟨j, hj, hd⟩ := Option.bind_eq_some_iff.mp h
  obtain ⟨v, hv, rv⟩ := r.get hd
  exact ⟨v, by rw [hj]; exact hv, rv⟩
theorem od_ix (hK : X.K = F.K) : OpD F (rIx X.K) ixD := fun G σ H env s d e x y Q st rx ry p => by
  rw [hK]
  obtain ⟨ds, he, p1⟩ := p.onSeq
  obtain ⟨i, rfl, p2⟩ := p1.onInt
  cases ry
  cases hi : atI ds i with
  | none => rw [hi] at p2; exact p2.elim
  | some z =>
    rw [hi] at p2
    rcases he with rfl | rfl
    · obtain ⟨a, vs, rfl, q, _, r⟩ := rx
      obtain ⟨v, hv, rv⟩ := atI_rep r hi
      exact .inl ⟨a, vs, i, v, rfl, rfl, .inl (.inl (st.gd.gh _ _ q)), hv, p2 _ G H (Ext.refl _ _ _) st rv⟩
    · obtain ⟨a, vs, rfl, q, _, r⟩ := rx
      obtain ⟨v, hv, rv⟩ := atI_rep r hi
      exact .inr (.inl ⟨a, vs, i, v, rfl, rfl, SqT.sub st.gd.gh q, hv, p2 _ G H (Ext.refl _ _ _) st rv⟩)
/-! ### slices -/
theorem RepL.drop {C : Cc S} {G : Hp} : ∀ (n : Nat) {ds : List D} {vs : List V}, RepL C G ds vs → RepL C G (ds.drop n) (vs.drop n)
  | 0, _, _, r => r
  | n + 1, [], _, r => by
    have e1 : _ = [] := r
    subst e1; rfl
  | n + 1, _ :: _, _, ⟨v, us, ev, a, b⟩ => by subst ev; exact b.drop n
/-! ### built-ins -/
def lenD : List D → M S D := a1 fun d => match d with
  | .str x => grd (x.length ≤ sizeLine) (pure (.int x.length))
  | .lst ds => pure (.int ds.length)
  | .tup ds => pure (.int ds.length)
  | .scr ns => pure (.int ns.length)
  | _ => stk
theorem cd_len (hK : X.K = F.K) : CallD F (fun xs H Q => ∃ x n, xs = [x] ∧ LenV X.K x H n ∧ Q (.int n) H) lenD := fun G σ H env s ds vs Q st r p => by
  rw [hK]
  obtain ⟨d, rfl, p1⟩ := p.a1
  obtain ⟨v, rfl, rv⟩ := r.r1
  cases d with
  | str x =>
    cases rv
    obtain ⟨h, p2⟩ := Post.grd p1
    exact ⟨_, _, rfl, ⟨h, rfl⟩, p2 _ G H (Ext.refl _ _ _) st rfl⟩
  | lst ds =>
    obtain ⟨a, us, rfl, q, z, rl⟩ := rv
    exact ⟨_, _, rfl, .inl ⟨us, .inl (.inl (st.gd.gh _ _ q)), rl.length.symm⟩, p1 _ G H (Ext.refl _ _ _) st rfl⟩
  | tup ds =>
    obtain ⟨a, us, rfl, q, z, rl⟩ := rv
    exact ⟨_, _, rfl, .inr ⟨us, SqT.sub st.gd.gh q, rl.length.symm⟩, p1 _ G H (Ext.refl _ _ _) st rfl⟩
  | scr ns =>
    obtain ⟨a, rfl, q⟩ := rv
    exact ⟨_, _, rfl, .inl ⟨_, st.gd.gh.seq q, by rw [List.length_map]⟩, p1 _ G H (Ext.refl _ _ _) st rfl⟩
  | _ => exact p1.elim
def absD : List D → M S D := a1 fun d => onInt (fun i => pure (.int (if i < 0 then -i else i))) d
theorem cd_abs : CallD F (fun xs H Q => ∃ i, xs = [.int i] ∧ Q (.int (if i < 0 then -i else i)) H) absD := fun G σ H env s ds vs Q st r p => by
  obtain ⟨d, rfl, p1⟩ := p.a1
  obtain ⟨i, rfl, p2⟩ := p1.onInt
  obtain ⟨v, rfl, rv⟩ := r.r1
  cases rv
  exact ⟨i, rfl, p2 _ G H (Ext.refl _ _ _) st rfl⟩
def int1D : List D → M S D := a1 fun d => match d with
  | .int i => pure (.int i)
  | .bl k => pure (.int (if k then 1 else 0))
  | _ => stk
theorem cd_int1 : CallD F (fun xs H Q => (∃ i, xs = [.int i] ∧ Q (.int i) H) ∨ ∃ k, xs = [.bl k] ∧ Q (.int (if k then 1 else 0)) H) int1D := fun G σ H env s ds vs Q st r p => by
  obtain ⟨d, rfl, p1⟩ := p.a1
  obtain ⟨v, rfl, rv⟩ := r.r1
  cases d with
  | int i => cases rv; exact .inl ⟨i, rfl, p1 _ G H (Ext.refl _ _ _) st rfl⟩
  | bl k => cases rv; exact .inr ⟨k, rfl, p1 _ G H (Ext.refl _ _ _) st rfl⟩
  | _ => exact p1.elim
def min2D : List D → M S D := a2 fun d e => onInt (fun i => onInt (fun j => pure (.int (if j < i then j else i))) e) d
theorem cd_min2 : CallD F (fun xs H Q => ∃ i j, xs = [.int i, .int j] ∧ Q (.int (if j < i then j else i)) H) min2D := fun G σ H env s ds vs Q st r p => by
  obtain ⟨d, e, rfl, p1⟩ := p.a2
  obtain ⟨i, rfl, p2⟩ := p1.onInt
  obtain ⟨j, rfl, p3⟩ := p2.onInt
  obtain ⟨v, w, rfl, rv, rw_⟩ := r.r2
  cases rv
  cases rw_
  exact ⟨i, j, rfl, p3 _ G H (Ext.refl _ _ _) st rfl⟩
def listD : List D → M S D := a1 (onSeq fun ds => pure (.lst ds))
theorem cd_list (hK : X.K = F.K) : CallD F (fun xs H Q => ∃ p ys, xs = [.ref p] ∧ (SqL X.K H p ys ∨ SqT X.K H p ys) ∧ ∀ l, H l = none → Q (.ref l) (upd H l (.lst ys))) listD := fun G σ H env s ds vs Q st r p => by
  rw [hK]
  obtain ⟨d, rfl, p1⟩ := p.a1
  obtain ⟨v, rfl, rv⟩ := r.r1
  obtain ⟨ds, hd, p2⟩ := p1.onSeq
  rcases hd with rfl | rfl
  · obtain ⟨a, us, rfl, q, z, rl⟩ := rv
    refine ⟨a, us, rfl, .inl (.inl (.inl (st.gd.gh _ _ q))), fun q nq => ?_⟩
    obtain ⟨e4, st4⟩ := st.new nq (.lst us)
    exact p2 _ _ _ e4 st4 ⟨q, us, rfl, upd_same, z, rl.mono e4.g⟩
  · obtain ⟨a, us, rfl, q, z, rl⟩ := rv
    refine ⟨a, us, rfl, .inr (SqT.sub st.gd.gh q), fun q nq => ?_⟩
    obtain ⟨e4, st4⟩ := st.new nq (.lst us)
    exact p2 _ _ _ e4 st4 ⟨q, us, rfl, upd_same, z, rl.mono e4.g⟩
def tupleD : List D → M S D := a1 (onSeq fun ds => pure (.tup ds))
theorem cd_tuple (hK : X.K = F.K) : CallD F (fun xs H Q => ∃ p ys, xs = [.ref p] ∧ ((SqL X.K H p ys ∧ ∀ l, H l = none → Q (.ref l) (upd H l (.tup ys))) ∨ (SqT X.K H p ys ∧ Q (.ref p) H))) tupleD := fun G σ H env s ds vs Q st r p => by
  rw [hK]
  obtain ⟨d, rfl, p1⟩ := p.a1
  obtain ⟨v, rfl, rv⟩ := r.r1
  obtain ⟨ds, hd, p2⟩ := p1.onSeq
  rcases hd with rfl | rfl
  · obtain ⟨a, us, rfl, q, z, rl⟩ := rv
    refine ⟨a, us, rfl, .inl ⟨.inl (.inl (st.gd.gh _ _ q)), fun q nq => ?_⟩⟩
    obtain ⟨e4, st4⟩ := st.new nq (.tup us)
    exact p2 _ _ _ e4 st4 ⟨q, us, rfl, SqT.upd, z, rl.mono e4.g⟩
  · obtain ⟨a, us, rfl, q, z, rl⟩ := rv
    exact ⟨a, us, rfl, .inr ⟨SqT.sub st.gd.gh q, p2 _ G H (Ext.refl _ _ _) st ⟨a, us, rfl, q, z, rl⟩⟩⟩
/-- a list of bools, of ints -/
def blsD : List D → Option (List Bool)
  | [] => some []
  | .bl b :: ds => (blsD ds).map (b :: ·)
  | _ => none
def intsD : List D → Option (List Int)
  | [] => some []
  | .int b :: ds => (intsD ds).map (b :: ·)
  | _ => none
theorem blsD_rep {C : Cc S} {G : Hp} : ∀ {ds : List D} {vs : List V} {bs : List Bool}, RepL C G ds vs → blsD ds = some bs → vs = bs.map V.bl := fun {ds} => by
  induction ds with
  | nil => intro vs bs r e; cases e; exact r
  | cons d ds ih =>
    rintro vs bs ⟨v, us, ev, a, q⟩ e
    cases d with
    | bl b =>
      have e : (blsD ds).map (b :: ·) = some bs := e
      obtain ⟨as, ea, rfl⟩ := Option.map_eq_some_iff.mp e
      subst ev
      cases a
      rw [ih q ea]; rfl
    | _ => cases (show (none : Option _) = some _ from e)
theorem intsD_rep {C : Cc S} {G : Hp} : ∀ {ds : List D} {vs : List V} {bs : List Int}, RepL C G ds vs → intsD ds = some bs → vs = bs.map V.int := fun {ds} => by
  induction ds with
  | nil => intro vs bs r e; cases e; exact r
  | cons d ds ih =>
    rintro vs bs ⟨v, us, ev, a, q⟩ e
    cases d with
    | int b =>
      have e : (intsD ds).map (b :: ·) = some bs := e
      obtain ⟨as, ea, rfl⟩ := Option.map_eq_some_iff.mp e
      subst ev
      cases a
      rw [ih q ea]; rfl
    | _ => cases (show (none : Option _) = some _ from e)
theorem intsD_of (ns : List Int) : intsD (ns.map D.int) = some ns := by
  induction ns with
  | nil => rfl
  | cons n ns ih => show (intsD (ns.map D.int)).map (n :: ·) = _; rw [ih]; rfl
theorem blsD_of (ns : List Bool) : blsD (ns.map D.bl) = some ns := by
  induction ns with
  | nil => rfl
  | cons n ns ih => show (blsD (ns.map D.bl)).map (n :: ·) = _; rw [ih]; rfl
theorem RepL.ints {C : Cc S} {G : Hp} : ∀ (ns : List Int), RepL C G (ns.map D.int) (ns.map V.int)
  | [] => rfl
  | n :: ns => ⟨_, _, rfl, rfl, RepL.ints ns⟩
def allD (any : Bool) : List D → M S D := a1 (onLst fun ds => match blsD ds with
  | some bs => pure (.bl (if any then bs.any id else bs.all id))
  | none => stk)
theorem cd_all (hK : X.K = F.K) : CallD F (rAll X.K) (allD false) := fun G σ H env s ds vs Q st r p => by
  rw [hK]
  obtain ⟨d, rfl, p1⟩ := p.a1
  obtain ⟨v, rfl, rv⟩ := r.r1
  obtain ⟨ds, rfl, p2⟩ := p1.onLst
  obtain ⟨a, us, rfl, q, z, rl⟩ := rv
  cases hb : blsD ds with
  | none => rw [hb] at p2; exact p2.elim
  | some bs =>
    rw [hb] at p2
    have e := blsD_rep rl hb
    subst e
    exact ⟨a, bs, rfl, .inl (.inl (st.gd.gh _ _ q)), p2 _ G H (Ext.refl _ _ _) st rfl⟩
/-- sorted, of ints -/
def srt (ns : List Int) : List Int := ns.mergeSort (fun a b => decide (a ≤ b))
theorem srt_perm (ns : List Int) : (srt ns).Perm ns := List.mergeSort_perm _ _
theorem srt_sorted (ns : List Int) : (srt ns).Pairwise (· ≤ ·) := by
  have h := List.pairwise_mergeSort (le := fun (a b : Int) => decide (a ≤ b)) (fun a b c h1 h2 => by simp at *; omega) (fun a b => by simp; omega) ns
  exact h.imp fun {a b} h => by simpa using h
theorem sorted_unique : ∀ {xs ys : List Int}, xs.Perm ys → xs.Pairwise (· ≤ ·) → ys.Pairwise (· ≤ ·) → xs = ys := fun {xs ys} h h1 h2 =>
  h.eq_of_pairwise (fun a b _ _ h3 h4 => Int.le_antisymm h3 h4) h1 h2
def sortD : List D → M S D := a1 (onLst fun ds => match intsD ds with
  | some bs => pure (.lst ((srt bs).map D.int))
  | none => stk)
theorem cd_sort (hK : X.K = F.K) : CallD F (rSortedI X.K) sortD := fun G σ H env s ds vs Q st r p => by
  rw [hK]
  obtain ⟨d, rfl, p1⟩ := p.a1
  obtain ⟨v, rfl, rv⟩ := r.r1
  obtain ⟨ds, rfl, p2⟩ := p1.onLst
  obtain ⟨a, us, rfl, q, z, rl⟩ := rv
  cases hb : intsD ds with
  | none => rw [hb] at p2; exact p2.elim
  | some bs =>
    rw [hb] at p2
    have e := intsD_rep rl hb
    subst e
    refine ⟨a, bs, rfl, .inl (.inl (st.gd.gh _ _ q)), fun ns' l hp hs nl => ?_⟩
    have ens : ns' = srt bs := sorted_unique (hp.trans (srt_perm bs).symm) hs (srt_sorted bs)
    subst ens
    obtain ⟨e4, st4⟩ := st.new nl (.lst ((srt bs).map V.int))
    refine p2 _ _ _ e4 st4 ⟨l, _, rfl, upd_same, ?_, RepL.ints _⟩
    rw [List.length_map] at z ⊢
    rw [(srt_perm bs).length_eq]; exact z
/-- len(set(xs)), of ints -/
def dedup (ns : List Int) : List Int := ns.foldl step_dedup []
def lenSetI : D → M S D := onLst fun ds => match intsD ds with
  | some ns => grd (ns.length ≤ 4000) (pure (.int (dedup ns).length))
  | none => stk
def lenSetD (τ : Env → M S D) : Env → M S D := fun env => do lenSetI (← τ env)
theorem firstMet_all (ns : List Int) : firstMet (fun i => ns.getD i 0) ns.length = dedup ns := by
  unfold firstMet dedup
  congr 1
  apply List.ext_getElem?
  intro i
  rw [List.getElem?_map]
  by_cases h : i < ns.length
  · rw [List.getElem?_range h, List.getElem?_eq_getElem h]; simp [h]
  · rw [List.getElem?_eq_none (by simpa using h), List.getElem?_eq_none (by omega)]; rfl
def tLenSet (K : PySem.W.Frag) (ta : TE) : TE := fun σ H Q => ta σ H fun x H1 => ∃ (l : Addr) (ns : List Int), x = .ref l ∧ SqL K H1 l (ns.map V.int) ∧ ns.length ≤ 4000 ∧ Q (.int (dedup ns).length) H1
theorem pe_lenSet {a : Expr} {ta : TE} {p p2 q pos : Pos} (hg : Gl X "len") (hm : X.mg "len" = none) (hg2 : Gl X "set") (hm2 : X.mg "set" = none) (ha : PE X a ta) (hc : X.calm = true := by rfl)
    (na : starEach [a] X.env = (false, eval a X.env) :: starEach [] X.env := by rfl) : PE X (.Call (.Name "len" p) [.Call (.Name "set" p2) [a] [] q] [] pos) (tLenSet X.K ta) := by
  refine ⟨fun pins s σ H Q I h => ?_⟩
  refine Call_ (ld_blt I hg hm boot_len ?_)
  refine PyProof.Rows.callWith_builtin1 (PyProof.Rows.args_cons ?_ rfl) rfl rfl
  refine Call_ (ld_blt I hg2 hm2 boot_set ?_)
  refine PyProof.Rows.callWith_type1 (PyProof.Rows.args_cons (thn (ha.run pins s σ H _ I h) fun v s1 ⟨x, H1, I1, r1, q1⟩ => PyProof.Rows.args_nil ?_) na) na rfl
  obtain ⟨l, ns, rfl, hq, hl, q1⟩ := q1
  cases r1
  obtain ⟨its, r, pl, hz⟩ := I1.list hq
  have hlen : its.toArray.size = ns.length := by rw [List.size_toArray, ← r.length, List.length_map]
  refine call_set_list (I1.ok.hd hc) pl.isList (by simpa using RZ.intsAre_vals r) (by rw [hlen]; unfold scanBound; omega) fun h' tk hS hk => ?_
  refine PyProof.Rows.args_nil ?_
  rw [hlen, firstMet_all] at hS
  have hdl : (dedup ns).length ≤ ns.length := by rw [← firstMet_all]; exact firstMet_length_le _ _
  obtain ⟨o, es, ep, t, ho, hex, hd, _, _, _, hf, hn⟩ := hS
  have I2 : Inv X pins σ H1 { s1 with heap := h', toks := tk } := I1.kept fun b o e => hk b o (Heap.lt_size e) e
  exact call_len_set ho hex hd hf (by rw [hn]; omega) ⟨.int (dedup ns).length, H1, I2.tok _, ⟨_, by rw [hn]⟩, q1⟩
theorem de_lenSet {a : Expr} {τ : Env → M S D} {p p2 q pos : Pos} (hK : X.K = F.K) (hg : Gl X "len") (hm : X.mg "len" = none) (hg2 : Gl X "set") (hm2 : X.mg "set" = none) (ha : PE X a (tE F τ)) (hc : X.calm = true := by rfl)
    (na : starEach [a] X.env = (false, eval a X.env) :: starEach [] X.env := by rfl) : PE X (.Call (.Name "len" p) [.Call (.Name "set" p2) [a] [] q] [] pos) (tE F (lenSetD τ)) := pe_mono (pe_lenSet hg hm hg2 hm2 ha hc na) fun σ H Q ⟨G, env, s, st, p⟩ => by
  rw [hK]
  refine seqE st p fun d s1 v G1 H1 e1 st1 r1 p1 => ?_
  obtain ⟨ds, rfl, p2⟩ := Post.onLst p1
  obtain ⟨a, us, rfl, q, z, rl⟩ := r1
  cases hb : intsD ds with
  | none => rw [hb] at p2; exact p2.elim
  | some bs =>
    rw [hb] at p2
    obtain ⟨h, p3⟩ := Post.grd p2
    have e := intsD_rep rl hb
    subst e
    exact ⟨a, bs, rfl, .inl (.inl (st1.gd.gh _ _ q)), h, p3 _ G1 H1 e1 st1 rfl⟩
end DL
set_option Elab.async false
set_option linter.all false
set_option maxRecDepth 100000
set_option maxHeartbeats 4000000
set_option autoImplicit false
namespace PySem.W
open PySem PySem.Calls PyProof.Rows Builtin
end PySem.W
set_option Elab.async false
set_option linter.all false
set_option maxRecDepth 100000
set_option maxHeartbeats 4000000
set_option autoImplicit false
namespace DL
open PySem PySem.Spec PyProof.Rows L2
variable {S : Type} {X : Cx} {F : Fx S}
/-! ### operators of an own class -/
section
variable {CX : CXT} {k : Nat} {f C : Addr} {fd : FuncData} {ps : List Str} {sp : Sp} {E : XK}
/-- the instance as the library's rules see it -/
theorem inst_of {pins : List (Addr × Obj)} {σ : L2.St} {H : Hp} {s : Shared} {a dx : Addr} {fs : List (Str × V)} (I : Inv X pins σ H s) (ea : H a = some (.ins C dx fs)) : ∃ od, PySem.W.InstAt s.heap a (PySem.W.instObj C dx) C (some od) := by
  obtain ⟨mA, O, _⟩ := ins_get I.hok ea
  obtain ⟨od, J, _⟩ := O.look
  exact ⟨od, J⟩
theorem run_fn0 {pins : List (Addr × Obj)} {σ : L2.St} {H : Hp} {s : Shared} {Q : VK} {us : List Value} {vs : List V} (G : FnOk X.prog X.w X.K X.mg X.base CX k f fd ps sp) (hr : Room k X.A) (hb : Binds X.K fd ps []) (hx : Passes CX X E)
    (I : Inv X pins σ H s) (r : Vals vs us) (h : sp vs H Q E) : wpAny (model X.prog X.w) X.A (call (.ref f) us) (EP X pins σ Q) X.xe s :=
  run_fn G hr hb .nil hx I r (by rw [List.append_nil]; exact h)
/-- a op b, both of the class at C -/
def rOwn (C : Addr) (sp : Sp) (E : XK) : R2 := fun x y H Q => ∃ a b dx dy fs gs, x = .ref a ∧ y = .ref b ∧ H a = some (.ins C dx fs) ∧ H b = some (.ins C dy gs) ∧ sp [x, y] H Q E
theorem or_own {op : Operator} (G : FnOk X.prog X.w X.K X.mg X.base CX k f fd ps sp) (hr : Room k X.A) (hb : Binds X.K fd ps []) (hx : Passes CX X E) (hc : PySem.W.selfFirst X.K C = true)
    (hs : PySem.W.findIn X.K (.ref C) (PySem.dunder op.info.2) = some (some (.ref f))) (hf : PySem.W.isFn X.K (.ref f) = true) : OpR X (binaryOp op) (rOwn C sp E) := by
  intro pins s σ H x y v u Q I rx ry h
  obtain ⟨a, b, dx, dy, fs, gs, rfl, rfl, ha, hb', q⟩ := h
  cases rx
  cases ry
  obtain ⟨od, J⟩ := inst_of I ha
  obtain ⟨od', J'⟩ := inst_of I hb'
  obtain ⟨m, hF⟩ := I.fr
  refine PySem.W.binop_K hF I.ok.mod.kin J J'.type hc hs hf ?_
  exact thn (run_fn0 (vs := [.ref a, .ref b]) G hr hb hx I (.cons rfl (.cons rfl .nil)) q) fun v s' ⟨z, H', I', rz, qz⟩ => SlX.cmpback rz ⟨z, H', I', rz, qz⟩
/-- a op n, n an int -/
def rOwnI (C : Addr) (sp : Sp) (E : XK) : R2 := fun x y H Q => ∃ a dx fs i, x = .ref a ∧ y = .int i ∧ H a = some (.ins C dx fs) ∧ sp [x, y] H Q E
theorem or_ownI {op : Operator} {fo ro rc : Option Value} (G : FnOk X.prog X.w X.K X.mg X.base CX k f fd ps sp) (hr : Room k X.A) (hb : Binds X.K fd ps []) (hx : Passes CX X E) (hc : PySem.W.selfFirst X.K C = true)
    (hs : PySem.W.findIn X.K (.ref C) (PySem.dunder op.info.2) = some (some (.ref f))) (hf : PySem.W.isFn X.K (.ref f) = true) (hr' : PySem.W.findIn X.K (.ref C) (PySem.dunderR op.info.2) = some rc) (hp : rc = none ∨ ∃ g : Addr, rc = some (.ref g))
    (h1 : PySem.W.findIn X.K (.type "int") (PySem.dunder op.info.2) = some fo) (h2 : PySem.W.findIn X.K (.type "int") (PySem.dunderR op.info.2) = some ro) (hsub : PySem.W.subIn X.K (.type "int") (.ref C) = some false) : OpR X (binaryOp op) (rOwnI C sp E) := by
  intro pins s σ H x y v u Q I rx ry h
  obtain ⟨a, dx, fs, i, rfl, rfl, ha, q⟩ := h
  cases rx
  obtain ⟨t, rfl⟩ := ry
  obtain ⟨od, J⟩ := inst_of I ha
  obtain ⟨m, hF⟩ := I.fr
  refine PySem.W.ksp_binT (T := "int") hF I.ok.mod.kin J rfl hc hs hf hr' hp h1 h2 hsub ?_
  exact thn (run_fn0 (vs := [.ref a, .int i]) G hr hb hx I (.cons rfl (.cons ⟨t, rfl⟩ .nil)) q) fun v s' ⟨z, H', I', rz, qz⟩ => SlX.cmpback rz ⟨z, H', I', rz, qz⟩
/-- v in a, v not in a -/
def rOwnIn (neg : Bool) (C : Addr) (sp : Sp) (E : XK) : R2 := fun x y H Q => ∃ a dx fs, y = .ref a ∧ H a = some (.ins C dx fs) ∧ sp [y, x] H (fun v H' => ∃ b, v = .bl b ∧ Q (.bl (if neg then !b else b)) H') E
theorem or_ownIn (G : FnOk X.prog X.w X.K X.mg X.base CX k f fd ps sp) (hr : Room k X.A) (hb : Binds X.K fd ps []) (hx : Passes CX X E) (hs : PySem.W.findIn X.K (.ref C) "__contains__" = some (some (.ref f))) (hf : PySem.W.isFn X.K (.ref f) = true) : OpR X (compareOp .In) (rOwnIn false C sp E) := by
  intro pins s σ H x y v u Q I rx ry h
  obtain ⟨a, dx, fs, rfl, ha, q⟩ := h
  cases ry
  obtain ⟨od, J⟩ := inst_of I ha
  obtain ⟨m, hF⟩ := I.fr
  refine PySem.W.in_K hF I.ok.mod.kin J hs hf ?_
  exact thn (run_fn0 (vs := [.ref a, x]) G hr hb hx I (.cons rfl (.cons rx .nil)) q) fun v s' ⟨z, H', I', rz, b, ez, qz⟩ => by
    subst ez
    cases rz
    exact wpAny_truthy_bool ⟨.bl b, H', I', rfl, qz⟩
theorem or_ownNotIn (G : FnOk X.prog X.w X.K X.mg X.base CX k f fd ps sp) (hr : Room k X.A) (hb : Binds X.K fd ps []) (hx : Passes CX X E) (hs : PySem.W.findIn X.K (.ref C) "__contains__" = some (some (.ref f))) (hf : PySem.W.isFn X.K (.ref f) = true) : OpR X (compareOp .NotIn) (rOwnIn true C sp E) := by
  intro pins s σ H x y v u Q I rx ry h
  obtain ⟨a, dx, fs, rfl, ha, q⟩ := h
  cases ry
  obtain ⟨od, J⟩ := inst_of I ha
  obtain ⟨m, hF⟩ := I.fr
  refine PySem.W.notIn_K hF I.ok.mod.kin J hs hf ?_
  exact thn (run_fn0 (vs := [.ref a, x]) G hr hb hx I (.cons rfl (.cons rx .nil)) q) fun v s' ⟨z, H', I', rz, b, ez, qz⟩ => by
    subst ez
    cases rz
    exact wpAny_truthy_bool ⟨.bl (!b), H', I', rfl, qz⟩
end
/-! ### .. over data -/
section
variable {n : Nat} {sem : List D → M S D} {c : Str} {C : Addr}
def opOwn (c : Str) (sem : List D → M S D) : D → D → M S D := fun x y => onIns (fun c1 _ => onIns (fun c2 _ => grd (c1 = c ∧ c2 = c) (sem [x, y])) y) x
theorem od_own (hC : F.cad c = C) : OpD F (rOwn C (spD F.toCc 2 sem) (eOf F)) (opOwn c sem) := fun G σ H env s d e x y Q st rx ry p => by
  obtain ⟨c1, fs, rfl, p1⟩ := p.onIns
  obtain ⟨c2, gs, rfl, p2⟩ := p1.onIns
  obtain ⟨⟨e1, e2⟩, p3⟩ := p2.grd
  have r2 : RepL F.toCc G [D.ins c1 fs, D.ins c2 gs] [x, y] := RepL.cons rx (RepL.one ry)
  obtain ⟨a, dx, vs, rfl, ha, _, _⟩ := rx
  obtain ⟨b, dy, us, rfl, hb, _, _⟩ := ry
  exact ⟨a, b, dx, dy, vs, us, rfl, rfl, by rw [← hC, ← e1]; exact st.gd.gh _ _ ha, by rw [← hC, ← e2]; exact st.gd.gh _ _ hb, spD_of rfl st r2 p3⟩
def opOwnI (c : Str) (sem : List D → M S D) : D → D → M S D := fun x y => onIns (fun c1 _ => onInt (fun i => grd (c1 = c) (sem [x, .int i])) y) x
theorem od_ownI (hC : F.cad c = C) : OpD F (rOwnI C (spD F.toCc 2 sem) (eOf F)) (opOwnI c sem) := fun G σ H env s d e x y Q st rx ry p => by
  obtain ⟨c1, fs, rfl, p1⟩ := p.onIns
  obtain ⟨i, rfl, p2⟩ := p1.onInt
  obtain ⟨e1, p3⟩ := p2.grd
  have r2 : RepL F.toCc G [D.ins c1 fs, D.int i] [x, y] := RepL.cons rx (RepL.one ry)
  obtain ⟨a, dx, vs, rfl, ha, _, _⟩ := rx
  cases ry
  exact ⟨a, dx, vs, i, rfl, rfl, by rw [← hC, ← e1]; exact st.gd.gh _ _ ha, spD_of rfl st r2 p3⟩
/-- the callee's answer is a bool -/
theorem spD_bl {ds : List D} {vs : List V} {G H : Hp} {σ : L2.St} {env : Env} {s : S} {Q : VK} {g : Bool → Bool} (hn : ds.length = n) (st : StG F G σ H env s) (r : RepL F.toCc G ds vs) (p : Post F G H (((sem ds s).bind fun d s' => onBl (fun b => pure (.bl (g b))) d s')) (K1 F G H σ env Q)) :
    spD F.toCc n sem vs H (fun v H' => ∃ b, v = .bl b ∧ Q (.bl (g b)) H') (eOf F) := by
  refine spD_of hn st r (p.bind.mono fun d s1 _ hk v G' H' e st' rv => ?_)
  obtain ⟨b, rfl, p1⟩ := Post.onBl hk
  cases rv
  exact ⟨b, rfl, p1 _ G' H' e st' rfl⟩
def inOwn (neg : Bool) (c : Str) (sem : List D → M S D) : D → D → M S D := fun x y => onIns (fun c1 _ => grd (c1 = c) (do onBl (fun b => pure (.bl (if neg then !b else b))) (← sem [y, x]))) y
theorem od_ownIn (neg : Bool) (hC : F.cad c = C) : OpD F (rOwnIn neg C (spD F.toCc 2 sem) (eOf F)) (inOwn neg c sem) := fun G σ H env s d e x y Q st rx ry p => by
  obtain ⟨c1, fs, rfl, p1⟩ := p.onIns
  obtain ⟨e1, p3⟩ := p1.grd
  have r2 : RepL F.toCc G [D.ins c1 fs, d] [y, x] := RepL.cons ry (RepL.one rx)
  obtain ⟨a, dx, vs, rfl, ha, _, _⟩ := ry
  exact ⟨a, dx, vs, rfl, by rw [← hC, ← e1]; exact st.gd.gh _ _ ha, spD_bl (g := fun b => if neg then !b else b) rfl st r2 p3⟩
/-- two readings, by what the operands are -/
def orD (f g : D → D → M S D) (isF : D → D → Bool) : D → D → M S D := fun x y => if isF x y then f x y else g x y
theorem od_or {r r' : R2} {f g : D → D → M S D} {isF : D → D → Bool} (h : OpD F r f) (h' : OpD F r' g) : OpD F (fun x y H Q => r x y H Q ∨ r' x y H Q) (orD f g isF) := fun G σ H env s d e x y Q st rx ry p => by
  unfold orD at p
  cases q : isF d e with
  | true => rw [q, if_pos rfl] at p; exact .inl (h G σ H env s d e x y Q st rx ry p)
  | false => rw [q, if_neg Bool.false_ne_true] at p; exact .inr (h' G σ H env s d e x y Q st rx ry p)
def orA (f g : List D → M S D) (isF : List D → Bool) : List D → M S D := fun ds => if isF ds then f ds else g ds
theorem cd_or {r r' : List V → Hp → VK → Prop} {f g : List D → M S D} {isF : List D → Bool} (h : CallD F r f) (h' : CallD F r' g) : CallD F (fun xs H Q => r xs H Q ∨ r' xs H Q) (orA f g isF) := fun G σ H env s ds vs Q st rl p => by
  unfold orA at p
  cases q : isF ds with
  | true => rw [q, if_pos rfl] at p; exact .inl (h G σ H env s ds vs Q st rl p)
  | false => rw [q, if_neg Bool.false_ne_true] at p; exact .inr (h' G σ H env s ds vs Q st rl p)
end
def isIns : D → Bool
  | .ins _ _ => true
  | _ => false
/-! ### isinstance -/
def tyNames : List Str := ["NoneType", "bool", "int", "str", "list", "tuple", "dict"]
def tagD : D → Option Str
  | .non => some "NoneType"
  | .bl _ => some "bool"
  | .int _ => some "int"
  | .str _ => some "str"
  | .lst _ => some "list"
  | .tup _ => some "tuple"
  | .dct _ => some "dict"
  | .ins c _ => if c ∈ tyNames then none else some c
  | .adr _ (.ins c _) => if c ∈ tyNames then none else some c
  | _ => none
/-- what isinstance asks of the class at C -/
structure InsOk (K : PySem.W.Frag) (C : Addr) : Prop where
  cl : Cls K C
  ca : PySem.W.findIn K (.ref C) "__class__" = some (some (.builtin "object.__class__"))
  cn : PySem.W.specialIn K (.builtin "object.__class__") "__get__" = some (some (.builtin "getset_descriptor.__get__"))
  ct : PySem.W.takesIn K (.builtin "object.__class__") = some true
  cm : PySem.W.mroIn K C (.type "object") = some true
def isiD (tb : Str → Option Bool) : D → M S D := fun d => match (tagD d).bind tb with
  | some b => pure (.bl b)
  | none => stk
/-- the answers of a table are the library's: t a type's name, or a class's -/
structure KitOk (K : PySem.W.Frag) (cad : Str → Addr) (an : Value → Option Bool) (tb : Str → Option Bool) : Prop where
  bt : ∀ t ∈ (["NoneType", "bool", "int", "str", "list", "tuple", "dict"] : List String), ∀ b, tb (Str.ofString t) = some b → an (.type t) = some b
  own : ∀ c b, tb c = some b → c ∉ tyNames → InsOk K (cad c) ∧ an (.ref (cad c)) = some b
theorem ty_of {an : Value → Option Bool} {tb : Str → Option Bool} {G H : Hp} {d : D} {v : V} {b : Bool} (kt : KitOk F.K F.cad an tb) (hgh : Same G H) (r : Rep F.toCc G d v) (h : (tagD d).bind tb = some b) :
    ∃ t, TyX F.K H v t ∧ an t = some b := by
  cases d with
  | non => cases r; exact ⟨_, .base .non, kt.bt _ (by simp) b h⟩
  | bl _ => cases r; exact ⟨_, .base (.bl _), kt.bt _ (by simp) b h⟩
  | int _ => cases r; exact ⟨_, .base (.int _), kt.bt _ (by simp) b h⟩
  | str _ => cases r; exact ⟨_, .base (.str _), kt.bt _ (by simp) b h⟩
  | lst _ =>
    obtain ⟨a, vs, rfl, q, _, _⟩ := r
    exact ⟨_, .base (.lst (hgh _ _ q)), kt.bt "list" (by simp) b h⟩
  | tup _ =>
    obtain ⟨a, vs, rfl, q, _, _⟩ := r
    rcases q with (q | ⟨o, q⟩) | ⟨o, its, n, q, ec, _⟩
    · exact ⟨_, .base (.tup (hgh _ _ q)), kt.bt "tuple" (by simp) b h⟩
    · exact ⟨_, .fTuple (hgh _ _ q), kt.bt "tuple" (by simp) b h⟩
    · exact ⟨_, .kTuple q ec, kt.bt "tuple" (by simp) b h⟩
  | dct _ =>
    obtain ⟨a, vs, rfl, q, _⟩ := r
    exact ⟨_, .base (.dK (hgh _ _ q)), kt.bt "dict" (by simp) b h⟩
  | ins c fs =>
    obtain ⟨a, dx, vs, rfl, q, _, _⟩ := r
    have hc : c ∉ tyNames := fun z => by
      have h : (if c ∈ tyNames then (none : Option Str) else some c).bind tb = some b := h
      rw [if_pos z] at h; cases h
    have h : (if c ∈ tyNames then (none : Option Str) else some c).bind tb = some b := h
    rw [if_neg hc] at h
    obtain ⟨i, e⟩ := kt.own c b h hc
    exact ⟨_, .base (.ins (hgh _ _ q) i.cl i.ca i.cn i.ct i.cm), e⟩
  | adr a' d' =>
    cases d' with
    | ins c fs =>
      obtain ⟨rfl, a, dx, vs, e1, q, _, _⟩ := r
      cases e1
      have hc : c ∉ tyNames := fun z => by
        have h : (if c ∈ tyNames then (none : Option Str) else some c).bind tb = some b := h
        rw [if_pos z] at h; cases h
      have h : (if c ∈ tyNames then (none : Option Str) else some c).bind tb = some b := h
      rw [if_neg hc] at h
      obtain ⟨i, e⟩ := kt.own c b h hc
      exact ⟨_, .base (.ins (hgh _ _ q) i.cl i.ca i.cn i.ct i.cm), e⟩
    | _ => cases h
  | _ => cases h
end DL
set_option Elab.async false
set_option linter.all false
set_option maxRecDepth 100000
set_option maxHeartbeats 4000000
set_option autoImplicit false
namespace DL
open PySem PySem.Spec PyProof.Rows L2
/-! ### isinstance, written -/
section
variable {S : Type} {X : Cx} {F : Fx S} {e T : Expr} {p pos : Pos} {τ : Env → M S D} {tb : Str → Option Bool}
def isi (tb : Str → Option Bool) (τ : Env → M S D) : Env → M S D := fun env => do isiD tb (← τ env)
theorem isiD_ok {G H : Hp} {d : D} {s : S} {P : D → S → Prop} (q : Post F G H (isiD tb d s) P) : ∃ b, (tagD d).bind tb = some b ∧ P (.bl b) s := by
  unfold isiD at q
  cases h : (tagD d).bind tb with
  | none => rw [h] at q; exact q.elim
  | some b => rw [h] at q; exact ⟨b, rfl, q⟩
theorem de_isi {c : V} {u : Value} (hK : X.K = F.K) (kt : KitOk F.K F.cad (fun t => PySem.W.kitOne F.K t u) tb) (hc : ClsV c u) (ha : PE X e (tE F τ)) (hT : PE X T (tC c)) (hg : Gl X "isinstance") (hm : X.mg "isinstance" = none)
    (he : starEach [e, T] X.env = (false, eval e X.env) :: starEach [T] X.env := by rfl) (he2 : starEach [T] X.env = (false, eval T X.env) :: starEach [] X.env := by rfl) (hpl : (backTo pos (starEach [T] X.env)).any (·.1) = false := by rfl) :
    PE X (.Call (.Name "isinstance" p) [e, T] [] pos) (tE F (isi tb τ)) :=
  pe_mono (pe_callB call_isi hg hm (by decide +kernel) (pa_cons ha (pa_cons hT pa_nil he2) he) (by decide) (by decide) he hpl) fun σ H Q ⟨G, env, s, st, p⟩ => by
    refine seqE st p fun d s1 v G1 H1 e1 st1 r1 p1 => ?_
    obtain ⟨b, hb, p2⟩ := isiD_ok p1
    obtain ⟨t, ht, ha⟩ := ty_of kt st1.gd.gh r1 hb
    rw [hK]
    exact ⟨v, c, t, u, b, rfl, hc, ht, ha, p2 _ G1 H1 e1 st1 rfl⟩
/-- isinstance(e, (T, U)) -/
theorem de_isi2 {U : Expr} {c c' : V} {u u' : Value} {k : Nat} {p2 : Pos} (hK : X.K = F.K) (kt : KitOk F.K F.cad (fun t => PySem.W.kitAny F.K t [u, u']) tb) (hc : ClsV c u) (hc' : ClsV c' u') (ha : PE X e (tE F τ)) (hT : PE X T (tC c)) (hU : PE X U (tC c')) (hg : Gl X "isinstance") (hm : X.mg "isinstance" = none)
    (hs1 : starEach [T, U] X.env = (false, eval T X.env) :: starEach [U] X.env := by rfl) (hs2 : starEach [U] X.env = (false, eval U X.env) :: starEach [] X.env := by rfl)
    (he : starEach [e, .Tuple [T, U] k p2] X.env = (false, eval e X.env) :: starEach [.Tuple [T, U] k p2] X.env := by rfl) (he2 : starEach [.Tuple [T, U] k p2] X.env = (false, eval (.Tuple [T, U] k p2) X.env) :: starEach [] X.env := by rfl) (hpl : (backTo pos (starEach [.Tuple [T, U] k p2] X.env)).any (·.1) = false := by rfl) :
    PE X (.Call (.Name "isinstance" p) [e, .Tuple [T, U] k p2] [] pos) (tE F (isi tb τ)) :=
  pe_mono (pe_callB call_isiT hg hm (by decide +kernel) (pa_cons ha (pa_cons (pe_tup (pa_cons hT (pa_cons hU pa_nil hs2) hs1)) pa_nil he2) he) (by decide) (by decide) he hpl) fun σ H Q ⟨G, env, s, st, p⟩ => by
    refine seqE st p fun d s1 v G1 H1 e1 st1 r1 p1 => ?_
    obtain ⟨b, hb, p2⟩ := isiD_ok p1
    refine ⟨by show 2 ≤ sizeLine; decide, fun q nq => ?_⟩
    obtain ⟨g2, e2⟩ := st1.gd.open_ nq (.tup [c, c'])
    have st2 := st1.ext' e2 g2
    obtain ⟨t, ht, ha⟩ := ty_of kt st2.gd.gh (r1.mono e2.g) hb
    rw [hK]
    exact ⟨v, q, [c, c'], t, [u, u'], b, rfl, upd_same, .cons hc (.cons hc' .nil), ht, ha, p2 _ G1 _ (e1.trans e2) st2 rfl⟩
end
/-! ### the world of the draws -/
structure DrS where
  wide : List Int
  left : Int
  turn : Int
structure RepDr (dp wl cl : Addr) (cells : List Int) (s : DrS) (H : Hp) : Prop where
  d : H dp = some (.dK [(.inr "wide", .ref wl), (.inr "left", .int s.left), (.inr "cells", .ref cl), (.inr "turn", .int s.turn)])
  w : H wl = some (.lst (s.wide.map V.int))
  c : H cl = some (.lst (cells.map V.int))
structure DrF (F : Fx DrS) (dp wl cl : Addr) (cells : List Int) : Prop where
  h0 : F.hnd 0 = .ref dp
  h1 : F.hnd 1 = .ref wl
  h2 : F.hnd 2 = .ref cl
  rep : ∀ s H, F.rep s H → RepDr dp wl cl cells s H
  put : ∀ s s' H a o o', F.rep s H → F.reg a → H a = some o' → ¬ Fixd o' → RepDr dp wl cl cells s' (upd H a o) → F.rep s' (upd H a o)
  reg : ∀ a, F.reg a ↔ a = dp ∨ a = wl ∨ a = cl
  dw : dp ≠ wl
  dc : dp ≠ cl
  wc : wl ≠ cl
/-- a code object is no dict -/
theorem codeO_ne_kso {c a : Addr} {q : Str} {xs : List (KK × V)} : LamX.CodeO c q ≠ KSO a xs := fun z => by
  injection z with z
  have e := congrFun z ⟨Array.replicate (c + 1) { cls := .none, data := .fields #[.none, .str q 0] }, {}⟩
  have hget : ∀ b o, Heap.get? ⟨Array.replicate (c + 1) { cls := .none, data := .fields #[.none, .str q 0] }, {}⟩ b = some o → o = { cls := .none, data := .fields #[.none, .str q 0] } := fun b o h => by
    unfold Heap.get? at h
    by_cases hb : b < c + 1
    · simp [Array.getElem?_replicate, hb] at h; exact h.symm
    · simp [Array.getElem?_replicate, hb] at h
  have l : ∃ (oc : Obj) (vs : Array Value) (t : Tok), Heap.get? ⟨Array.replicate (c + 1) { cls := .none, data := .fields #[.none, .str q 0] }, {}⟩ c = some oc ∧ oc.data = .fields vs ∧ vs[1]? = some (.str q t) :=
    ⟨{ cls := .none, data := .fields #[.none, .str q 0] }, #[.none, .str q 0], 0, by unfold Heap.get?; simp [Array.getElem?_replicate], rfl, rfl⟩
  rw [e] at l
  obtain ⟨_, _, _, _, o, _, _, ho, _, hd, _⟩ := l
  rw [hget _ _ ho] at hd
  cases hd
theorem tabs_keep {T : List (Addr × Str)} {H H' : Hp} (h : ∀ a o, H a = some o → Fixd o → H' a = some o) (t : LamX.Tabs T H) : LamX.Tabs T H' := fun p hp => by
  obtain ⟨ps, h1, h2, h3⟩ := t p hp
  refine ⟨ps, h _ _ h1 trivial, h2, fun pos cv hc => ?_⟩
  obtain ⟨c, e1, e2⟩ := h3 pos cv hc
  exact ⟨c, e1, h _ _ e2 fun _ _ => codeO_ne_kso⟩
/-- classes as values -/
def clsN : Nat → Str
  | 3 => "Rhythm"
  | _ => "Script"
-- what the draws and the tables are told of
/-- what the law's lambdas are: their objects, their name; the texts of instances -/
structure LamI where
  fno : Nat → Addr → Addr → HO := fun _ _ _ => .tbl #[]
  fnq : Str := ""
  rtx : D → Option Str := fun _ => none
def drawCcL (L : LamI) (K : PySem.W.Frag) (cad : Str → Addr) (dp wl cl : Addr) (cells : List Int) (T : List (Addr × Str)) : Cc DrS where
  fno := L.fno
  fnq := L.fnq
  rtx := L.rtx
  K := K
  cad := cad
  hnd := fun n => if n = 0 then .ref dp else if n = 1 then .ref wl else if n = 2 then .ref cl else .ref (cad (clsN n))
  rep := fun s H => RepDr dp wl cl cells s H ∧ LamX.Tabs T H
  reg := fun a => a = dp ∨ a = wl ∨ a = cl
  frame := fun s H H' h ⟨r, t⟩ => ⟨⟨h _ _ r.d (.inl (.inl rfl)), h _ _ r.w (.inl (.inr (.inl rfl))), h _ _ r.c (.inl (.inr (.inr rfl)))⟩, tabs_keep (fun a o e f => h a o e (.inr f)) t⟩
  there := fun s H a ⟨r, _⟩ h => by
    rcases h with h | h | h
    · subst h; exact ⟨_, r.d⟩
    · subst h; exact ⟨_, r.w⟩
    · subst h; exact ⟨_, r.c⟩
section
variable {X : Cx} {F : Fx DrS} {dp wl cl : Addr} {cells : List Int}
/-- the world is written -/
theorem DrF.write (R : DrF F dp wl cl cells) {G H : Hp} {σ : L2.St} {env : Env} {s s' : DrS} {a : Addr} {o o' : HO} (st : StG F G σ H env s) (ha : F.reg a) (e : H a = some o') (h : RepDr dp wl cl cells s' (upd H a o)) (nf : ¬ Fixd o' := by exact fun h => h) :
    Ext F.reg G H G (upd H a o) ∧ StG F G σ (upd H a o) env s' := by
  have ga := st.gd.gr a ha
  have ex : Ext F.reg G H G (upd H a o) := ⟨Same.refl _, fun b u q n _ => by rw [upd_ne (fun z : b = a => n (z ▸ ha))]; exact q, fun _ _ q => .inl q, fun b q => by
    by_cases hb : b = a
    · subst hb; rw [upd_same] at q; cases q
    · rw [upd_ne hb] at q; exact q⟩
  refine ⟨ex, st.ext' ex ⟨fun b u q => ?_, R.put _ _ _ _ _ _ st.gd.w ha e nf h, st.gd.gr, st.gd.nt⟩⟩
  rw [upd_ne (ne_of_none q ga)]
  exact st.gd.gh _ _ q
/-- draw["x"] -/
def drwGet (f : DrS → D) (τ : Env → M DrS D) : Env → M DrS D := fun env => do
  match ← τ env with
  | .hnd 0 => fun s => .ok (f s) s
  | _ => stk
def drwSet (f : Int → DrS → DrS) (τ υ : Env → M DrS D) : Env → M DrS Flw := fun env => do
  onInt (fun i => do
    match ← υ env with
    | .hnd 0 => fun s => .ok (.nx env) (f i s)
    | _ => stk) (← τ env)
theorem hnd0 {α : Type} {G H : Hp} {s : DrS} {d : D} {m : M DrS α} {P : α → DrS → Prop} (p : Post F G H ((match d with
    | .hnd 0 => m
    | _ => stk : M DrS α) s) P) : d = .hnd 0 ∧ Post F G H (m s) P := by
  cases d with
  | hnd n =>
    cases n with
    | zero => exact ⟨rfl, p⟩
    | succ n => exact p.elim
  | _ => exact p.elim
variable {o : Expr} {j : Nat} {pos p2 pos' : Pos} {τ υ : Env → M DrS D}
theorem valV_of {a : Str} {H : Hp} {s : DrS} (R : RepDr dp wl cl cells s H) {v : V} (h : valV [(.inr "wide", V.ref wl), (.inr "left", .int s.left), (.inr "cells", .ref cl), (.inr "turn", .int s.turn)] (Sum.inr a : Key) = some v) : DGet H dp (.str a) (some v) := by
  rw [← h]
  exact DGet.k (k := Sum.inr a) R.d
theorem de_drwGet {a : Str} {f : DrS → D} (R : DrF F dp wl cl cells) (hu : X.A.units + 1 < cLine) (hv : ∀ (s : DrS) (G : Hp), ∃ v, valV [(.inr "wide", V.ref wl), (.inr "left", .int s.left), (.inr "cells", .ref cl), (.inr "turn", .int s.turn)] (Sum.inr a : Key) = some v ∧ Rep F.toCc G (f s) v) (ho : PE X o (tE F τ)) :
    PE X (.Subscript o (.Constant (.str a) j p2) pos) (tE F (drwGet f τ)) := pe_mono (pe_dget hu ho pe_str (fun _ _ => rfl)) fun σ H Q ⟨G, env, s, st, p⟩ => by
  refine seqE st p fun d s1 v G1 H1 e1 st1 r1 p1 => ?_
  obtain ⟨rfl, p2⟩ := hnd0 p1
  obtain ⟨w, hw, rw_⟩ := hv s1 G1
  have r1 : v = F.hnd 0 := r1
  rw [R.h0] at r1
  subst r1
  exact ⟨dp, w, rfl, valV_of (R.rep _ _ st1.gd.w) hw, p2 _ G1 H1 e1 st1 rw_⟩
theorem ds_drwSet {a : Str} {f : Int → DrS → DrS} {value : Expr} (R : DrF F dp wl cl cells) (hu : X.A.units + 1 < cLine)
    (hput : ∀ (s : DrS) (i : Int), putK [(.inr "wide", V.ref wl), (.inr "left", .int s.left), (.inr "cells", .ref cl), (.inr "turn", .int s.turn)] (Sum.inr a : Key) (.int i) = [(.inr "wide", .ref wl), (.inr "left", .int (f i s).left), (.inr "cells", .ref cl), (.inr "turn", .int (f i s).turn)] ∧ (f i s).wide = s.wide)
    (ho : PE X o (tE F υ)) (hv : PE X value (tE F τ)) (hs : swapsWith value (some (.Subscript o (.Constant (.str a) j p2) pos')) pos.line X.env = pure false := by rfl) : PS X (.Assign [.Subscript o (.Constant (.str a) j p2) pos'] value pos) (tS F (drwSet f τ υ)) := ps_mono (ps_dput hu ho pe_str hv hs) fun D σ H ⟨G, env, s, st, p⟩ => by
  refine seqE st p fun d s1 v G1 H1 e1 st1 r1 p1 => ?_
  obtain ⟨i, rfl, p2⟩ := Post.onInt p1
  cases r1
  refine seqE st1 p2 fun d s2 v G2 H2 e2 st2 r2 p3 => ?_
  obtain ⟨rfl, p4⟩ := hnd0 p3
  have r2 : v = F.hnd 0 := r2
  rw [R.h0] at r2
  subst r2
  have W := R.rep _ _ st2.gd.w
  obtain ⟨e5, e6⟩ := hput s2 i
  have W' : RepDr dp wl cl cells (f i s2) (upd H2 dp (.dK (putK [(.inr "wide", V.ref wl), (.inr "left", .int s2.left), (.inr "cells", .ref cl), (.inr "turn", .int s2.turn)] (Sum.inr a : Key) (.int i)))) :=
    ⟨by rw [upd_same, e5], by rw [upd_ne R.dw.symm, e6]; exact W.w, by rw [upd_ne R.dc.symm]; exact W.c⟩
  obtain ⟨e7, st7⟩ := R.write st2 ((R.reg dp).mpr (.inl rfl)) W.d W'
  exact ⟨dp, _, rfl, DPut.k (k := Sum.inr a) W.d (by show 4 < sizeLine; decide), p4 σ G2 _ (e1.trans e2).g st7⟩
theorem drw_left : ∀ (s : DrS) (G : Hp), ∃ v, valV [(.inr "wide", V.ref wl), (.inr "left", .int s.left), (.inr "cells", .ref cl), (.inr "turn", .int s.turn)] (Sum.inr "left" : Key) = some v ∧ Rep F.toCc G (.int s.left) v := fun s G => ⟨.int s.left, by rfl, rfl⟩
theorem drw_turn : ∀ (s : DrS) (G : Hp), ∃ v, valV [(.inr "wide", V.ref wl), (.inr "left", .int s.left), (.inr "cells", .ref cl), (.inr "turn", .int s.turn)] (Sum.inr "turn" : Key) = some v ∧ Rep F.toCc G (.int s.turn) v := fun s G => ⟨.int s.turn, by rfl, rfl⟩
theorem drw_wide (R : DrF F dp wl cl cells) : ∀ (s : DrS) (G : Hp), ∃ v, valV [(.inr "wide", V.ref wl), (.inr "left", .int s.left), (.inr "cells", .ref cl), (.inr "turn", .int s.turn)] (Sum.inr "wide" : Key) = some v ∧ Rep F.toCc G (.hnd 1) v := fun s G => ⟨.ref wl, by rfl, R.h1.symm⟩
theorem drw_cells (R : DrF F dp wl cl cells) : ∀ (s : DrS) (G : Hp), ∃ v, valV [(.inr "wide", V.ref wl), (.inr "left", .int s.left), (.inr "cells", .ref cl), (.inr "turn", .int s.turn)] (Sum.inr "cells" : Key) = some v ∧ Rep F.toCc G (.hnd 2) v := fun s G => ⟨.ref cl, by rfl, R.h2.symm⟩
theorem put_left : ∀ (s : DrS) (i : Int), putK [(.inr "wide", V.ref wl), (.inr "left", .int s.left), (.inr "cells", .ref cl), (.inr "turn", .int s.turn)] (Sum.inr "left" : Key) (.int i) = [(.inr "wide", .ref wl), (.inr "left", .int ({ s with left := i } : DrS).left), (.inr "cells", .ref cl), (.inr "turn", .int ({ s with left := i } : DrS).turn)] ∧ ({ s with left := i } : DrS).wide = s.wide := fun s i => ⟨by rfl, rfl⟩
theorem put_turn : ∀ (s : DrS) (i : Int), putK [(.inr "wide", V.ref wl), (.inr "left", .int s.left), (.inr "cells", .ref cl), (.inr "turn", .int s.turn)] (Sum.inr "turn" : Key) (.int i) = [(.inr "wide", .ref wl), (.inr "left", .int ({ s with turn := i } : DrS).left), (.inr "cells", .ref cl), (.inr "turn", .int ({ s with turn := i } : DrS).turn)] ∧ ({ s with turn := i } : DrS).wide = s.wide := fun s i => ⟨by rfl, rfl⟩
end
end DL
set_option Elab.async false
set_option linter.all false
set_option maxRecDepth 100000
set_option maxHeartbeats 4000000
set_option autoImplicit false
namespace DL
open PySem PySem.Spec PyProof.Rows L2
section
variable {X : Cx} {F : Fx DrS} {dp wl cl : Addr} {cells : List Int} {o e : Expr} {pos apos cpos : Pos} {τ υ : Env → M DrS D}
theorem hndk {α : Type} {k : Nat} {G H : Hp} {s : DrS} {d : D} {m : M DrS α} {P : α → DrS → Prop} (p : Post F G H ((match d with
    | .hnd n => if n = k then m else stk
    | _ => stk : M DrS α) s) P) : d = .hnd k ∧ Post F G H (m s) P := by
  cases d with
  | hnd n =>
    by_cases h : n = k
    · subst h
      have p : Post F G H ((if n = n then m else stk : M DrS α) s) P := p
      rw [if_pos rfl] at p
      exact ⟨rfl, p⟩
    · have p : Post F G H ((if n = k then m else stk : M DrS α) s) P := p
      rw [if_neg h] at p
      exact p.elim
  | _ => exact p.elim
/-- draw["wide"].pop(0) -/
def popW (τ : Env → M DrS D) : Env → M DrS D := fun env => do
  match ← τ env with
  | .hnd n => if n = 1 then fun s => (match s.wide with
    | [] => .stk
    | w :: ws => .ok (.int w) { s with wide := ws }) else stk
  | _ => stk
theorem de_popW {j : Nat} {p2 : Pos} (R : DrF F dp wl cl cells) (ho : PE X o (tE F τ)) (hbase : attributeBase o "pop" X.env (eval o X.env) = eval o X.env := by rfl)
    (hfew : ((backTo cpos (starEach [.Constant (.int 0) j p2] X.env)).all (fun x => !x.1) && (backToKw cpos (keywordEach [] X.env)).all (fun x => x.1.isSome)
      && decide (([.Constant (.int 0) j p2] : List Expr).length + ([] : List Keyword).length + (if ([] : List Keyword).isEmpty then 0 else 1) < 30)) = true := by rfl)
    (hline : (apos.endLine == cpos.line) = true := by rfl) : PE X (.Call (.Attribute o "pop" apos) [.Constant (.int 0) j p2] [] cpos) (tE F (popW τ)) :=
  pe_mono (pe_bm PySem.F.plainAttrs_list PySem.F.slot_list_pop PySem.F.type_list_pop mt_popAt ho (pa_cons pe_int pa_nil) hbase hfew hline rfl rfl) fun σ H Q ⟨G, env, s, st, p⟩ => by
    refine seqE st p fun d s1 v G1 H1 e1 st1 r1 p1 => ?_
    obtain ⟨rfl, p2⟩ := hndk p1
    have r1 : v = F.hnd 1 := r1
    rw [R.h1] at r1
    subst r1
    have W := R.rep _ _ st1.gd.w
    cases hw : s1.wide with
    | nil => simp only [hw] at p2; exact p2.elim
    | cons w ws =>
      simp only [hw] at p2
      have ew : H1 wl = some (.lst (V.int w :: ws.map V.int)) := by rw [W.w, hw]; rfl
      refine ⟨.inl ⟨rfl, _, .inl (.inl ew)⟩, wl, _, 0, 0, .int w, rfl, rfl, ew, by decide, by decide, by simp [seqIndex?], rfl, ?_⟩
      have W' : RepDr dp wl cl cells { s1 with wide := ws } (upd H1 wl (.lst ((V.int w :: ws.map V.int).eraseIdx 0))) := ⟨by rw [upd_ne R.dw]; exact W.d, by rw [upd_same]; rfl, by rw [upd_ne R.wc.symm]; exact W.c⟩
      obtain ⟨e7, st7⟩ := R.write st1 ((R.reg wl).mpr (.inr (.inl rfl))) W.w W'
      exact p2 _ G1 _ (e1.trans e7) st7 rfl
/-- draw["wide"] != [] -/
def neW (τ : Env → M DrS D) : Env → M DrS Bool := fun env => do
  match ← τ env with
  | .hnd n => if n = 1 then fun s => .ok (!s.wide.isEmpty) s else stk
  | _ => stk
theorem depth_ints (ns : List Int) : PyData.depthAll (ns.map PyData.int) = 0 := by
  induction ns with
  | nil => rfl
  | cons n ns ih => simp [PyData.depthAll, PyData.depth, ih]
theorem lay_ints (ns : List Int) : PyData.canLayAll0 (ns.map PyData.int) = true := by
  induction ns with
  | nil => rfl
  | cons n ns ih => simp [PyData.canLayAll0, PyData.canLay0, ih]
theorem shaped_ints (ns : List Int) : SeqAt.shaped (.list (ns.map PyData.int)) = true := by
  simp [SeqAt.shaped, PyData.canLay0, PyData.depth, depth_ints, lay_ints]
theorem dpAll_ints {K : PySem.W.Frag} {H : Hp} : ∀ ns : List Int, DpAll K H (ns.map V.int) (ns.map PyData.int)
  | [] => .nil
  | n :: ns => .cons (.int n) (dpAll_ints ns)
theorem dt_neW {p2 : Pos} (R : DrF F dp wl cl cells) (hu : X.A.units + 64 < cLine) (ho : PE X o (tE F τ)) : PT X (.Compare o [.NotEq] [.List [] p2] pos) (tT F (neW τ)) :=
  pt_mono (pt_cmpR (op_neD hu) ho (pe_lst pa_nil) (nomark _)) fun σ H Q ⟨G, env, s, st, p⟩ => by
    refine seqE st p fun d s1 v G1 H1 e1 st1 r1 p1 => ?_
    obtain ⟨rfl, p2⟩ := hndk p1
    have r1 : v = F.hnd 1 := r1
    rw [R.h1] at r1
    subst r1
    refine ⟨Nat.zero_le _, fun q nq => ?_⟩
    obtain ⟨g2, e2⟩ := st1.gd.open_ nq (.lst [])
    have st2 := st1.ext' e2 g2
    have W := R.rep _ _ st2.gd.w
    refine ⟨.list (s1.wide.map PyData.int), .list [], .lst (.inl (.inl W.w)) (dpAll_ints _), .lst (.inl (.inl upd_same)) .nil, shaped_ints _, by decide, _, rfl, ?_⟩
    have e : (!PyData.eqv (.list (s1.wide.map PyData.int)) (.list [])) = !s1.wide.isEmpty := by cases s1.wide <;> rfl
    rw [e]
    exact p2 G1 _ (e1.trans e2) st2
/-- .. in draw["cells"] -/
def iCl (cells : List Int) (τ : Env → M DrS D) : Env → M DrS (List D) := fun env => do
  match ← τ env with
  | .hnd n => if n = 2 then pure (cells.map .int) else stk
  | _ => stk
theorem di_cells {tg : Expr} (R : DrF F dp wl cl cells) (ho : PE X o (tE F τ)) : PI X tg o (tI F (iCl cells τ)) := pi_mono (pi_list ho) fun σ H Q ⟨G, env, s, st, p⟩ => by
  refine seqE st p fun d s1 v G1 H1 e1 st1 r1 p1 => ?_
  obtain ⟨rfl, p2⟩ := hndk p1
  have r1 : v = F.hnd 2 := r1
  rw [R.h2] at r1
  subst r1
  have W := R.rep _ _ st1.gd.w
  refine ⟨cl, rfl, ⟨_, .inl (.inl W.c)⟩, p2 _ G1 H1 e1 st1 fun G' H' s' e g => ?_⟩
  have W' := R.rep _ _ g.w
  have q' : SqL X.K H' cl (cells.map V.int) := .inl (.inl W'.c)
  refine ⟨fun i d hd => ?_, fun i hi => ⟨_, q', by rw [List.length_map] at hi ⊢; exact hi⟩⟩
  rw [List.getElem?_map] at hd
  obtain ⟨n, hn, rfl⟩ := Option.map_eq_some_iff.mp hd
  have hv : (cells.map V.int)[i]? = some (.int n) := by rw [List.getElem?_map, hn]; rfl
  refine ⟨⟨_, _, q', hv⟩, fun x H2 y => ?_⟩
  obtain ⟨rfl, y⟩ := y
  have z := y _ q'
  rw [hv] at z
  cases z
  exact ⟨G', Ext.refl _ _ _, g, rfl⟩
end
/-! ### dict displays -/
section
variable {S : Type} {X : Cx} {F : Fx S}
def putKD (kvs : List (Key × D)) (k : Key) (v : D) : List (Key × D) :=
  if (kvs.any fun kv => decide (kv.1 = k)) = true then kvs.map (fun kv => if kv.1 = k then (kv.1, v) else kv) else kvs ++ [(k, v)]
def RepP (C : Cc S) (G : Hp) : List (D × D) → List (V × V) → Prop
  | [], vs => vs = []
  | (a, b) :: ds, vs => ∃ v w r, vs = (v, w) :: r ∧ Rep C G a v ∧ Rep C G b w ∧ RepP C G ds r
theorem RepP.mono {C : Cc S} {G G' : Hp} (h : Same G G') : ∀ {ds : List (D × D)} {vs : List (V × V)}, RepP C G ds vs → RepP C G' ds vs
  | [], _, r => r
  | (_, _) :: _, _, ⟨v, w, r, e, a, b, c⟩ => ⟨v, w, r, e, a.mono h, b.mono h, c.mono h⟩
theorem RepK.any {C : Cc S} {G : Hp} (k : Key) : ∀ {ds : List (Key × D)} {vs : List (Key × V)}, RepK C G ds vs → (vs.any fun kv => decide (kv.1 = k)) = ds.any fun kv => decide (kv.1 = k)
  | [], _, r => by
    have e1 : _ = [] := r
    subst e1; rfl
  | (_, _) :: _, _, ⟨v, r, e, _, b⟩ => by subst e; rw [List.any_cons, List.any_cons, b.any k]
theorem RepK.app {C : Cc S} {G : Hp} : ∀ {ds es : List (Key × D)} {vs us : List (Key × V)}, RepK C G ds vs → RepK C G es us → RepK C G (ds ++ es) (vs ++ us)
  | [], _, _, _, r, q => by
    have e1 : _ = [] := r
    subst e1; exact q
  | (_, _) :: _, _, _, _, ⟨v, r, e, a, b⟩, q => by subst e; exact ⟨v, _, rfl, a, b.app q⟩
theorem RepK.mapSet {C : Cc S} {G : Hp} {k : Key} {d : D} {w : V} (rd : Rep C G d w) : ∀ {ds : List (Key × D)} {vs : List (Key × V)}, RepK C G ds vs → RepK C G (ds.map fun kv => if kv.1 = k then (kv.1, d) else kv) (vs.map fun kv => if kv.1 = k then (kv.1, w) else kv)
  | [], _, r => by
    have e1 : _ = [] := r
    subst e1; rfl
  | (k', d') :: _, _, ⟨v, r, e, a, b⟩ => by
    subst e
    rw [List.map_cons, List.map_cons]
    by_cases h : k' = k
    · rw [if_pos h, if_pos h]; exact ⟨w, _, rfl, rd, b.mapSet rd⟩
    · rw [if_neg h, if_neg h]; exact ⟨v, _, rfl, a, b.mapSet rd⟩
theorem RepK.put {C : Cc S} {G : Hp} {k : Key} {d : D} {w : V} (rd : Rep C G d w) {ds : List (Key × D)} {vs : List (Key × V)} (r : RepK C G ds vs) : RepK C G (putKD ds k d) (putK vs k w) := by
  unfold putKD putK
  rw [r.any k]
  split
  · exact r.mapSet rd
  · exact r.app ⟨w, [], rfl, rd, rfl⟩
theorem de_dict0 {pos : Pos} : PE X (.Dict [] [] pos) (tE F (rC (.dct []))) := pe_mono pe_dnewK fun σ H Q ⟨G, env, s, st, p⟩ => by
  intro q nq
  obtain ⟨e2, st2⟩ := st.new nq (.dK [])
  exact p _ _ _ e2 st2 ⟨q, [], rfl, upd_same, rfl⟩
end
end DL
set_option Elab.async false
set_option linter.all false
set_option maxRecDepth 100000
set_option maxHeartbeats 4000000
set_option autoImplicit false
/-! enumerate(tuple): turned from the library's enumerate(list) -/
namespace DL
open PySem PySem.Spec PyProof.Rows L2
end DL
set_option Elab.async false
set_option linter.all false
set_option maxRecDepth 100000
set_option maxHeartbeats 4000000
set_option autoImplicit false
/-! DL: is None, lists of one's own (append, extend, returned), enumerate, list(range), calls of instances, defaults, bottom -/
namespace DL
open PySem PySem.Spec PyProof.Rows L2
variable {S : Type} {X : Cx} {F : Fx S}
/-! ### is None -/
def isND (neg : Bool) : D → D → M S D := fun d e => match e with
  | .non => (match d with
    | .non => pure (.bl (!neg))
    | .hnd _ => stk
    | .dks _ => stk
    | .exc _ _ => stk
    | _ => pure (.bl neg))
  | _ => stk
theorem isND_of {neg : Bool} {G σ H env s d e x y} {Q : VK} (st : StG F G σ H env s) (rx : Rep F.toCc G d x) (ry : Rep F.toCc G e y) (p : Post F G H (isND neg d e s) (K1 F G H σ env Q)) : y = .non ∧ Q (.bl (if neg then !decide (x = .non) else decide (x = .non))) H := by
  have no : ∀ z : V, z ≠ .non → decide (z = V.non) = false := fun z h => decide_eq_false h
  have fin : ∀ b : Bool, (K1 F G H σ env Q) (.bl b) s → Q (.bl b) H := fun b k => k (.bl b) G H (Ext.refl _ _ _) st rfl
  cases e with
  | non =>
    refine ⟨ry, ?_⟩
    cases d with
    | non => cases rx; cases neg <;> exact fin _ p
    | hnd _ => exact p.elim
    | dks _ => exact p.elim
    | exc _ _ => exact p.elim
    | bl b => cases rx; cases neg <;> exact fin _ p
    | int b => cases rx; cases neg <;> exact fin _ p
    | str b => cases rx; cases neg <;> exact fin _ p
    | lst ds => obtain ⟨a, vs, rfl, _⟩ := rx; cases neg <;> exact fin _ p
    | tup ds => obtain ⟨a, vs, rfl, _⟩ := rx; cases neg <;> exact fin _ p
    | dct ds => obtain ⟨a, vs, rfl, _⟩ := rx; cases neg <;> exact fin _ p
    | ins c fs => obtain ⟨a, dx, vs, rfl, _⟩ := rx; cases neg <;> exact fin _ p
    | scr ns => obtain ⟨a, rfl, _⟩ := rx; cases neg <;> exact fin _ p
    | fn i => obtain ⟨a, c, rfl, _⟩ := rx; cases neg <;> exact fin _ p
    | adr a d => obtain ⟨rfl, _⟩ := rx; cases neg <;> exact fin _ p
    | rps d => obtain ⟨x, rfl, _⟩ := rx; cases neg <;> exact fin _ p
  | _ => exact p.elim
/-! ### lists of one's own -/
theorem StG.nreg {G H : Hp} {σ : L2.St} {env : Env} {s : S} (st : StG F G σ H env s) {p : Addr} (n : H p = none) : ¬ F.reg p := fun z => by
  obtain ⟨u, e⟩ := F.there s H p st.gd.w z
  rw [n] at e; cases e
/-- a new list, in a slot of its own -/
theorem StG.own {G H : Hp} {σ : L2.St} {env : Env} {s : S} {ds : List D} {vs : List V} (i : Nat) (st : StG F G σ H env s) {p : Addr} (n : H p = none) (r : RepL F.toCc G ds vs) (hz : vs.length ≤ sizeLine) :
    StG F G (σ.set i (some (.ref p))) (upd H p (.lst vs)) (env.set i (some (.own ds))) s := by
  obtain ⟨g1, e1⟩ := st.gd.open_ n (.lst vs)
  have st1 := st.ext' e1 g1
  have gp : G p = none := st.gd.gh.free n
  refine ⟨st1.ext, g1, by rw [List.length_set, List.length_set]; exact st1.env_.len, fun j sl e => ?_, fun a b ne ha hb => ?_⟩
  · by_cases q : i = j
    · subst q
      have hl : i < env.length := by
        by_cases hl : i < env.length
        · exact hl
        · rw [List.set_eq_of_length_le (by omega), List.getElem?_eq_none (by omega)] at e; cases e
      rw [List.getElem?_set_self hl] at e
      cases e
      exact ⟨_, List.getElem?_set_self (by rw [st.env_.len]; exact hl), p, vs, rfl, upd_same, gp, st.nreg n, st.ext.tr p n, hz, r⟩
    · rw [List.getElem?_set_ne q] at e ⊢
      exact st1.env_.at_ j sl e
  · have own_ne : ∀ j, j ≠ i → isOwn env[j]? → σ[j]? ≠ some (some (V.ref p)) := fun j _ hj z => by
      cases hs : env[j]? with
      | none => rw [hs] at hj; exact hj
      | some sl =>
        rw [hs] at hj
        obtain ⟨o, ho, hr⟩ := st.env_.at_ j sl hs
        rw [ho] at z
        cases z
        cases sl with
        | none => exact hj
        | some sl =>
          cases sl with
          | val d => exact hj
          | own es => obtain ⟨a, us, e1, e2, _⟩ := hr; cases e1; rw [n] at e2; cases e2
          | obj c fs => obtain ⟨a, dx, us, e1, e2, _⟩ := hr; cases e1; rw [n] at e2; cases e2
    have un : ∀ j, j ≠ i → isOwn (env.set i (some (.own ds)))[j]? → isOwn env[j]? := fun j hj h => by
      rw [List.getElem?_set_ne (Ne.symm hj)] at h; exact h
    have at_i : ∀ j, j = i → isOwn (env.set i (some (.own ds)))[j]? → (σ.set i (some (V.ref p)))[j]? = some (some (V.ref p)) := fun j hj h => by
      subst hj
      have hl : j < env.length := by
        by_cases hl : j < env.length
        · exact hl
        · rw [List.set_eq_of_length_le (by omega), List.getElem?_eq_none (by omega)] at h; exact h.elim
      exact List.getElem?_set_self (by rw [st.env_.len]; exact hl)
    by_cases qa : a = i
    · by_cases qb : b = i
      · exact absurd (qa.trans qb.symm) ne
      · rw [at_i a qa ha, List.getElem?_set_ne (Ne.symm qb)]
        exact fun z => own_ne b qb (un b qb hb) z.symm
    · by_cases qb : b = i
      · rw [at_i b qb hb, List.getElem?_set_ne (Ne.symm qa)]
        exact own_ne a qa (un a qa ha)
      · rw [List.getElem?_set_ne (Ne.symm qa), List.getElem?_set_ne (Ne.symm qb)]
        exact st.env_.apart a b ne (un a qa ha) (un b qb hb)
/-- one's own list is written -/
theorem StG.put {G H : Hp} {σ : L2.St} {env : Env} {s : S} {ds es : List D} {us : List V} {i : Nat} {a : Addr} (st : StG F G σ H env s) (hi : env[i]? = some (some (.own ds))) (ha : σ[i]? = some (some (.ref a))) (r : RepL F.toCc G es us) (hz : us.length ≤ sizeLine) :
    StG F G σ (upd H a (.lst us)) (env.set i (some (.own es))) s := by
  obtain ⟨o, ho, a', vs, e1, hH, hG, nr, h0, hz0, r0⟩ := st.env_.at_ i _ hi
  rw [ha] at ho
  cases ho
  cases e1
  have hl : i < env.length := (List.getElem?_eq_some_iff.mp hi).1
  refine ⟨⟨st.ext.g, fun b o hb nb nt => ?_, st.ext.nw, fun b hb => ?_⟩, st.gd.write hH hG nr _, by rw [List.length_set]; exact st.env_.len, fun j sl e => ?_, fun x y ne hx hy => ?_⟩
  · have hb' := st.ext.fr b o hb nb nt
    rw [upd_ne (fun z => by rw [z, h0] at hb; cases hb)]; exact hb'
  · by_cases q : b = a
    · subst q; rw [upd_same] at hb; cases hb
    · rw [upd_ne q] at hb; exact st.ext.tr b hb
  · by_cases q : i = j
    · subst q
      rw [List.getElem?_set_self hl] at e
      cases e
      exact ⟨_, ha, a, us, rfl, upd_same, hG, nr, h0, hz, r⟩
    · rw [List.getElem?_set_ne q] at e
      obtain ⟨o, ho, hr⟩ := st.env_.at_ j sl e
      refine ⟨o, ho, ?_⟩
      cases sl with
      | none => trivial
      | some sl =>
        cases sl with
        | val d => exact hr
        | own ds' =>
          obtain ⟨b, ws, e1, e2, e3⟩ := hr
          have nb : b ≠ a := fun z => st.env_.apart i j q (by rw [hi]; trivial) (by rw [e]; trivial) (by rw [ha, ho, e1, z])
          exact ⟨b, ws, e1, by rw [upd_ne nb]; exact e2, e3⟩
        | obj c fs =>
          obtain ⟨b, dx, ws, e1, e2, e2', e3⟩ := hr
          have nb : b ≠ a := fun z => by rw [z, hH] at e2; cases e2
          have nd : dx ≠ a := fun z => by rw [z, hH] at e2'; cases e2'
          exact ⟨b, dx, ws, e1, by rw [upd_ne nb]; exact e2, by rw [upd_ne nd]; exact e2', e3⟩
  · have un : ∀ j, isOwn (env.set i (some (.own es)))[j]? → isOwn env[j]? := fun j h => by
      by_cases q : i = j
      · subst q; rw [hi]; trivial
      · rw [List.getElem?_set_ne q] at h; exact h
    exact st.env_.apart x y ne (un x hx) (un y hy)
/-- x = [..], a list of one's own from now on -/
def sOwn (i : Nat) (τ : Env → M S (List D)) : Env → M S Flw := fun env => do
  let ds ← τ env
  grd (ds.length ≤ sizeLine) (pure (.nx (env.set i (some (.own ds)))))
theorem ds_own {i : Nat} {tg : Expr} {es : List Expr} {τ : Env → M S (List D)} {p2 pos : Pos} (h : PA X es (tA F τ)) (hg : PG X tg (gName i)) (hs : swapsWithSole [tg] (.List es p2) pos.line X.env = pure false := by rfl) (hw : swappedStores [tg] (.List es p2) X.env = pure none := by rfl)
    (h1 : (assignEach [tg] X.env).map (·.2) = [assign tg X.env] := by rfl) : PS X (.Assign [tg] (.List es p2) pos) (tS F (sOwn i τ)) :=
  ps_mono (ps_asg (pe_lst h) hg hs hw h1) fun D σ H ⟨G, env, s, st, p⟩ => by
    refine seqA st p fun ds s1 vs G1 H1 e1 st1 r1 p1 => ?_
    obtain ⟨hl, p2⟩ := Post.grd p1
    have hz : vs.length ≤ sizeLine := by rw [r1.length]; exact hl
    refine ⟨hz, fun q nq => ?_⟩
    exact p2 _ G1 _ e1.g (st1.own i nq r1 hz)
/-- x.append(e), x a list of one's own -/
def sApp (i : Nat) (τ : Env → M S D) : Env → M S Flw := fun env => match env[i]? with
  | some (some (.own _)) => do
    let d ← τ env
    (match env[i]? with
    | some (some (.own ds)) => grd (ds.length < sizeLine) (pure (.nx (env.set i (some (.own (ds ++ [d]))))))
    | _ => stk)
  | _ => stk
theorem own_at {G H : Hp} {σ : L2.St} {env : Env} {s : S} {ds : List D} {i : Nat} (st : StG F G σ H env s) (hi : env[i]? = some (some (.own ds))) : ∃ a vs, σ[i]? = some (some (V.ref a)) ∧ H a = some (.lst vs) ∧ G a = none ∧ ¬ F.reg a ∧ F.H0 a = none ∧ vs.length ≤ sizeLine ∧ RepL F.toCc G ds vs := by
  obtain ⟨o, ho, a, vs, e1, r⟩ := st.env_.at_ i _ hi
  exact ⟨a, vs, by rw [ho, e1], r⟩
theorem ds_app {i : Nat} {o e : Expr} {τ : Env → M S D} {apos cpos pos : Pos} (ho : PE X o (tVar i)) (he : PE X e (tE F τ)) (hs : swapsWith (.Call (.Attribute o "append" apos) [e] [] cpos) none pos.line X.env = pure false := by rfl)
    (hbase : attributeBase o "append" X.env (eval o X.env) = eval o X.env := by rfl)
    (hfew : ((backTo cpos (starEach [e] X.env)).all (fun x => !x.1) && (backToKw cpos (keywordEach [] X.env)).all (fun x => x.1.isSome)
      && decide (([e] : List Expr).length + ([] : List Keyword).length + (if ([] : List Keyword).isEmpty then 0 else 1) < 30)) = true := by rfl)
    (hline : (apos.endLine == cpos.line) = true := by rfl) (hst : starEach [e] X.env = (false, eval e X.env) :: starEach [] X.env := by rfl) :
    PS X (.Expr (.Call (.Attribute o "append" apos) [e] [] cpos) pos) (tS F (sApp i τ)) :=
  ps_mono (ps_expr (pe_bm PySem.F.plainAttrs_list PySem.F.slot_list_append PySem.F.type_list_append (mt_append) ho (pa_cons he pa_nil hst) hbase hfew hline hst) hs) fun D σ H ⟨G, env, s, st, p⟩ => by
    have p : Post F G H ((match env[i]? with
      | some (some (.own _)) => do
        let d ← τ env
        (match env[i]? with
        | some (some (.own ds)) => grd (ds.length < sizeLine) (pure (.nx (env.set i (some (.own (ds ++ [d]))))))
        | _ => stk)
      | _ => stk : M S Flw) s) (FP F G D) := p
    cases hi : env[i]? with
    | none => rw [hi] at p; exact p.elim
    | some sl =>
      rw [hi] at p
      cases sl with
      | none => exact p.elim
      | some sl =>
        cases sl with
        | val _ => exact p.elim
        | obj _ _ => exact p.elim
        | own ds =>
          obtain ⟨a, vs, hσ, hH, _, _, _, _, _⟩ := own_at st hi
          refine ⟨.ref a, hσ, .inl ⟨rfl, vs, .inl (.inl hH)⟩, ?_⟩
          refine seqE st p fun d s1 v G1 H1 e1 st1 r1 p1 => ?_
          obtain ⟨a', vs1, hσ1, hH1, hG1, nr1, h01, hz1, rl1⟩ := own_at st1 hi
          rw [hσ] at hσ1
          cases hσ1
          obtain ⟨hl, p2⟩ := Post.grd p1
          have hlt : vs1.length < sizeLine := by rw [rl1.length]; exact hl
          refine ⟨a, vs1, v, rfl, rfl, hH1, hlt, ?_⟩
          exact p2 σ G1 _ e1.g (st1.put hi hσ (rl1.append (RepL.one r1)) (by rw [List.length_append]; simp only [List.length_cons, List.length_nil]; omega))
/-- x.extend(e), e a list -/
def sExt (i : Nat) (τ : Env → M S D) : Env → M S Flw := fun env => match env[i]? with
  | some (some (.own _)) => do
    let d ← τ env
    (match env[i]? with
    | some (some (.own ds)) => onLst (fun es => grd (ds.length + es.length ≤ sizeLine) (pure (.nx (env.set i (some (.own (ds ++ es))))))) d
    | _ => stk)
  | _ => stk
/-! ### enumerate(list) -/
/-! ### list(range(e)) -/
/-! ### an instance called -/
/-! ### no claim of a def -/
/-! ### an __init__ with defaults -/
end DL
set_option Elab.async false
set_option linter.all false
set_option maxRecDepth 100000
set_option maxHeartbeats 4000000
set_option autoImplicit false
/-! DL: exceptions as values: made (by place, by keyword), asked by isinstance, their attributes read -/
namespace DL
open PySem PySem.Spec PyProof.Rows L2
/-! ### an exception class called with keywords -/
end DL
set_option Elab.async false
set_option linter.all false
set_option maxRecDepth 100000
set_option maxHeartbeats 4000000
set_option autoImplicit false
/-! DL: exceptions as values: rules -/
namespace DL
open PySem PySem.Spec PyProof.Rows L2
variable {S : Type} {X : Cx} {F : Fx S}
/-! ### isinstance of an exception -/
def rIsX (K : PySem.W.Frag) : List V → Hp → VK → Prop := fun xs H Q => ∃ (a C : Addr) (dd : Option Addr) (c : V) (u : Value) (b : Bool), xs = [.ref a, c] ∧ ClsV c u ∧ H a = some (exv a C dd) ∧ (dd = none ∨ ∃ d fs, dd = some d ∧ H d = some (.xd fs)) ∧ ExcC K C ∧ PySem.W.kitOne K (.ref C) u = some b ∧ Q (.bl b) H
theorem inst_exv {pins : List (Addr × Obj)} {σ : L2.St} {H : Hp} {s : Shared} {a C : Addr} {dd : Option Addr} (I : Inv X pins σ H s) (ha : H a = some (exv a C dd)) (hd : dd = none ∨ ∃ d fs, dd = some d ∧ H d = some (.xd fs)) : ∃ oe od, PySem.W.InstAt s.heap a oe C od := by
  obtain ⟨oe, vs, ho, hz, hv⟩ := exv_at I.hok ha
  rcases hd with rfl | ⟨d, fs, rfl, hd⟩
  · exact ⟨oe, none, ho, hz.1, by unfold PySem.W.notCls; rw [hv] <;> rfl, by rw [hz.2]; trivial⟩
  · have hx : ObjOk X.prog X.w H s.heap d (.xd fs) := I.hok d _ hd
    obtain ⟨mA, hns, hr⟩ := hx
    obtain ⟨od, ho', _⟩ := lookIn_ns hns
    exact ⟨oe, some od, ho, hz.1, by unfold PySem.W.notCls; rw [hv] <;> rfl, by rw [hz.2]; exact ho'⟩
theorem call_isX : CallR X (.builtin "isinstance") (rIsX X.K) := by
  intro pins s σ H xs us Q I r h
  obtain ⟨a, C, dd, c, u, b, rfl, k, ha, hd, T, e, q⟩ := h
  obtain ⟨u1, u2, rfl, r1, r2⟩ := vals2 r
  have e2 := k.eq r2
  subst e2
  cases (show u1 = Value.ref a from r1)
  obtain ⟨oe, od, J⟩ := inst_exv I ha hd
  have hcl : (PySem.W.clsIn X.K C).isSome = true := by
    obtain ⟨cd, hc, _⟩ := PySem.W.any_some T.hd
    rw [hc]; rfl
  exact PySem.W.kia_one (PySem.W.kitx_exc hcl T.hg T.hk T.hs T.ha T.hn T.ht T.hm) I.kIn J e (fun z => nomatch z) fun tk => ⟨.bl b, H, I.tok tk, rfl, q⟩
/-- the answers of a table of exception classes are the library's -/
def KxOk (K : PySem.W.Frag) (cad : Str → Addr) (an : Value → Option Bool) (tbx : Str → Option Bool) : Prop := ∀ c b, tbx c = some b → ExcC K (cad c) ∧ an (.ref (cad c)) = some b
def isiXD (tb tbx : Str → Option Bool) : D → M S D := fun d => match d with
  | .exc c _ => (match tbx c with
    | some b => pure (.bl b)
    | none => stk)
  | d => isiD tb d
def isiX (tb tbx : Str → Option Bool) (τ : Env → M S D) : Env → M S D := fun env => do isiXD tb tbx (← τ env)
theorem excOr (tb tbx : Str → Option Bool) (d : D) : (∃ c fs, d = .exc c fs) ∨ (isiXD tb tbx d : M S D) = isiD tb d := by
  cases d <;> first | exact .inl ⟨_, _, rfl⟩ | exact .inr rfl
theorem de_isiX {e T : Expr} {p pos : Pos} {tb tbx : Str → Option Bool} {τ : Env → M S D} {c : V} {u : Value} (hK : X.K = F.K) (kt : KitOk F.K F.cad (fun t => PySem.W.kitOne F.K t u) tb) (kx : KxOk F.K F.cad (fun t => PySem.W.kitOne F.K t u) tbx) (hc : ClsV c u) (ha : PE X e (tE F τ)) (hT : PE X T (tC c)) (hg : Gl X "isinstance") (hm : X.mg "isinstance" = none)
    (he : starEach [e, T] X.env = (false, eval e X.env) :: starEach [T] X.env := by rfl) (he2 : starEach [T] X.env = (false, eval T X.env) :: starEach [] X.env := by rfl) (hpl : (backTo pos (starEach [T] X.env)).any (·.1) = false := by rfl) :
    PE X (.Call (.Name "isinstance" p) [e, T] [] pos) (tE F (isiX tb tbx τ)) :=
  pe_mono (pe_callB (CallR_or call_isi call_isX) hg hm (by decide +kernel) (pa_cons ha (pa_cons hT pa_nil he2) he) (by decide) (by decide) he hpl) fun σ H Q ⟨G, env, s, st, p⟩ => by
    refine seqE st p fun d s1 v G1 H1 e1 st1 r1 p1 => ?_
    rcases excOr (S := S) tb tbx d with ⟨cn, fs, rfl⟩ | he
    · obtain ⟨a, dd, rfl, ga, hd⟩ := r1
      have p1 : Post F G1 H1 ((match tbx cn with
        | some b => pure (.bl b)
        | none => stk : M S D) s1) (K1 F G H σ env Q) := p1
      cases hb : tbx cn with
      | none => rw [hb] at p1; exact p1.elim
      | some b =>
        rw [hb] at p1
        obtain ⟨T1, T2⟩ := kx cn b hb
        refine .inr ⟨a, F.cad cn, dd, c, u, b, rfl, hc, st1.gd.gh _ _ ga, ?_, hK ▸ T1, hK ▸ T2, p1 _ G1 H1 e1 st1 rfl⟩
        rcases hd with ⟨_, rfl⟩ | ⟨d, vs, rfl, gd, _⟩
        · exact .inl rfl
        · exact .inr ⟨d, vs, rfl, st1.gd.gh _ _ gd⟩
    · have p1 : Post F G1 H1 ((isiXD tb tbx d : M S D) s1) (K1 F G H σ env Q) := p1
      rw [he] at p1
      obtain ⟨b, hb, p2⟩ := isiD_ok p1
      obtain ⟨t, ht, ha⟩ := ty_of kt st1.gd.gh r1 hb
      exact .inl ⟨_, c, t, u, b, rfl, hc, hK ▸ ht, hK ▸ ha, p2 _ G1 H1 e1 st1 rfl⟩
/-! ### err.f -/
def tXv (K : PySem.W.Frag) (f : Str) (te : TE) : TE := fun σ H Q => te σ H fun x H1 => ∃ (a C d : Addr) (fs : List (Str × V)) (v : V), x = .ref a ∧ H1 a = some (exv a C (some d)) ∧ H1 d = some (.xd fs) ∧ ExcC K C ∧ PySem.W.findIn K (.ref C) f = some none ∧ fs.lookup f = some v ∧ Q v H1
theorem pe_xv {e : Expr} {te : TE} {pos : Pos} {n : Str} (he : PE X e te) (hb : attributeBase e n X.env (eval e X.env) = eval e X.env := by rfl) : PE X (.Attribute e n pos) (tXv X.K n te) := by
  refine ⟨fun pins s σ H Q I h => ?_⟩
  refine attr_of hb (thn (he.run pins s σ H _ I h) fun u s1 hh => ?_)
  obtain ⟨x, H1, I1, rx, a, C, d, fs, v, ex, ea, ed, T, hno, l, q⟩ := hh
  subst ex
  obtain rfl : u = Value.ref a := rx
  obtain ⟨oe, vs, ho, hz, hv⟩ := exv_at I1.hok ea
  have hx : ObjOk X.prog X.w H1 s1.heap d (.xd fs) := I1.hok d _ ed
  obtain ⟨mA, hns, hr⟩ := hx
  obtain ⟨od, ho', hl⟩ := lookIn_ns hns
  obtain ⟨u, hu, ru⟩ := RelO.some_of (v := v) (o := mA n) (by rw [← l]; exact hr n)
  have J : PySem.W.InstAt s1.heap a oe C (some od) := ⟨ho, hz.1, by unfold PySem.W.notCls; rw [hv] <;> rfl, by rw [hz.2]; exact ho'⟩
  exact HandSPX.exc_get I1.kIn J T.hg T.hk T.hs (PySem.W.findObj_own T.hd hno rfl (by rw [hl, hu])) (handed_of ru) ⟨v, H1, I1.tok _, ru, q⟩
/-- the attribute f of an exception of one of the classes cs -/
def xfD (cs : List Str) (f : Str) (τ : Env → M S D) : Env → M S D := fun env => do
  match ← τ env with
  | .exc c fs => (match fs.lookup f with
    | some d => grd (c ∈ cs) (pure d)
    | none => stk)
  | _ => stk
theorem de_xf {cs : List Str} {f : Str} {τ : Env → M S D} {e : Expr} {pos : Pos} (hK : X.K = F.K) (hcs : ∀ c ∈ cs, ExcC F.K (F.cad c) ∧ PySem.W.findIn F.K (.ref (F.cad c)) f = some none) (he : PE X e (tE F τ)) (hb : attributeBase e f X.env (eval e X.env) = eval e X.env := by rfl) : PE X (.Attribute e f pos) (tE F (xfD cs f τ)) :=
  pe_mono (pe_xv he hb) fun σ H Q ⟨G, env, s, st, p⟩ => by
    refine seqE st p fun d s1 v G1 H1 e1 st1 r1 p1 => ?_
    cases d with
    | exc c fs =>
      have p1 : Post F G1 H1 ((match fs.lookup f with
        | some d => grd (c ∈ cs) (pure d)
        | none => stk : M S D) s1) (K1 F G H σ env Q) := p1
      cases q : fs.lookup f with
      | none => rw [q] at p1; exact p1.elim
      | some d0 =>
        rw [q] at p1
        obtain ⟨hc, p2⟩ := Post.grd p1
        obtain ⟨a, dd, rfl, ga, hd⟩ := r1
        rcases hd with ⟨rfl, _⟩ | ⟨d, vs, rfl, gd, rf⟩
        · cases q
        · obtain ⟨w, hw, rw_⟩ := (rf.lookup (m := f)).2 d0 q
          obtain ⟨T1, T2⟩ := hcs c hc
          exact ⟨a, F.cad c, d, vs, w, rfl, st1.gd.gh _ _ ga, st1.gd.gh _ _ gd, hK ▸ T1, hK ▸ T2, hw, p2 w G1 H1 e1 st1 rw_⟩
    | _ => exact p1.elim
/-! ### an exception made -/
/-- what __init__(self, p): self.f = p promises -/
def spXI (C : Addr) (f : Str) : Sp := fun vs H Q _ => ∃ (a : Addr) (y : V), vs = [.ref a, y] ∧ H a = some (exo a C none) ∧ ∀ dx, H dx = none → dx ≠ a → Q .non (upd (upd H dx (exd dx [(f, y)])) a (exo a C (some dx)))
theorem spXI_len {C : Addr} {f : Str} {ps : List Str} (h : ps.length = 2) : ∀ vs H Q E, spXI C f vs H Q E → vs.length = ps.length := fun vs H Q E ⟨a, y, e, _⟩ => by rw [e, h]; rfl
theorem fn_xinit {P : Program} {w : World} {K : PySem.W.Frag} {mg : Str → Option Value} {base : Heap} {x qual fld : Str} {stm : Stmt} {f C : Addr} {fd : FuncData} {N ps : List Str} {k : Nat} (Fn : Fun K x qual stm f fd) (Sc : FnScope N ps (defScope stm)) (hl : ps.length = 2) (hN : 2 ≤ N.length) (T : OexC K C) (hno : PySem.W.findIn K (.ref C) fld = some none)
    (hb : ∀ (cdv : Value) (A : Around) (outer : List PySem.Env) (s : Shared) (H : Hp) (E : XK), PSs (cxOf (L2.CX P w) P w K mg base N qual (defScope stm) f cdv A outer s H E) (defBody stm) (tOst K fld (tVar 0) (tVar 1))) : FnOk P w K mg base (L2.CX P w) (k + 1) f fd ps (spXI C fld) := by
  refine Fn.okX Sc (spXI_len hl) fun cdv A outer s H vs Q E hr h => ?_
  obtain ⟨a, y, rfl, ha, hq⟩ := h
  exact ⟨_, hb cdv A outer s H E, y, rfl, .ref a, rfl, a, C, rfl, T, hno, .inl ⟨ha, fun dx n ne => hq dx n ne⟩⟩
/-! ### the rules over data -/
end DL
set_option Elab.async false
set_option linter.all false
set_option maxRecDepth 100000
set_option maxHeartbeats 4000000
set_option autoImplicit false
/-! DL: repr of plain data, where no repr is under way -/
namespace DL
open PySem PySem.Spec PyProof.Rows L2
variable {S : Type} {X : Cx} {F : Fx S}
def keyP : Key → PyData
  | .inl i => .int i
  | .inr x => .str x
def leafV : V → PyData → Prop
  | .non, d => d = .none
  | .bl b, d => d = .bool b
  | .int i, d => d = .int i
  | .str x, d => d = .str x
  | _, _ => False
theorem leaf_reads {h : Heap} {v : V} {u : Value} {d : PyData} (l : leafV v d) (r : RelV v u) : Reads h u d [] := by
  cases v with
  | non => cases (show u = Value.none from r); cases l; exact .none
  | bl b => cases (show u = Value.bool b from r); cases l; exact .bool b
  | int i => obtain ⟨t, rfl⟩ := (show ∃ t, u = Value.int i t from r); cases l; exact .int i t
  | str x => obtain ⟨t, rfl⟩ := (show ∃ t, u = Value.str x t from r); cases l; exact .str x t
  | _ => exact l.elim
theorem key_reads {h : Heap} {k : Key} {u : Value} (e : keyIs k u = true) : Reads h u (keyP k) [] := by
  rcases keyIs_shape e with ⟨i, t, rfl, rfl⟩ | ⟨x, t, rfl, rfl⟩
  · exact .int i t
  · exact .str x t
def rRepr (K : PySem.W.Frag) : List V → Hp → VK → Prop := fun xs H Q => ∃ x, xs = [x] ∧
  ((∃ d : PyData, Dp K H x d ∧ d.hasDict = false ∧ d.showable = true ∧ d.depth ≤ 64 ∧ d.shown.length ≤ sizeLine ∧ Q (.str d.shown) H) ∨
   ∃ (a : Addr) (kvs : List (Key × V)) (ds : List (PyData × PyData)), x = .ref a ∧ H a = some (.dK kvs) ∧ Paired (fun (p : Key × V) (q : PyData × PyData) => q.1 = keyP p.1 ∧ leafV p.2 q.2) kvs ds ∧ (PyData.dict ds).showable = true ∧ (PyData.dict ds).depth ≤ 64 ∧ (PyData.dict ds).shown.length ≤ sizeLine ∧ Q (.str (PyData.dict ds).shown) H)
theorem dict_reads {P : Program} {w : World} {h : Heap} {es : List DictEntry} {vs : List (Key × Value)} {kvs : List (Key × V)} {ds : List (PyData × PyData)} (p : Pairs (mixKind P w) es vs) (k : KV kvs vs) (l : Paired (fun (p : Key × V) (q : PyData × PyData) => q.1 = keyP p.1 ∧ leafV p.2 q.2) kvs ds) :
    ReadsAll h (es.map (·.key)) (ds.map (·.1)) [] ∧ ReadsAll h (es.map (·.val)) (ds.map (·.2)) [] := by
    induction p generalizing kvs ds with
    | nil =>
      cases k
      cases l
      exact ⟨.nil, .nil⟩
    | cons hk hv rest ih =>
      cases k with
      | cons k1 kr =>
        cases l with
        | cons l1 lr =>
          obtain ⟨i1, i2⟩ := ih kr lr
          obtain ⟨e1, r1⟩ := k1
          obtain ⟨f1, f2⟩ := l1
          refine ⟨?_, ?_⟩
          · rw [List.map_cons, List.map_cons, f1, e1]
            exact .cons (as := []) (bs := []) (key_reads hk) i1
          · rw [List.map_cons, List.map_cons]
            exact .cons (as := []) (bs := []) (leaf_reads f2 (by rw [hv]; exact r1)) i2
theorem call_repr (hg : X.A.guards = some []) (hu : X.A.units + 70 < cLine) : CallR X (.builtin "repr") (rRepr X.K) := by
  intro pins s σ H xs us Q I r h
  obtain ⟨x, rfl, h⟩ := h
  obtain ⟨u, rfl, rx⟩ := vals1 r
  rcases h with ⟨d, hd, hn, hs, hdp, hz, q⟩ | ⟨a, kvs, ds, rfl, ha, hl, hs, hdp, hz, q⟩
  · have big : ∀ a : Addr, x = .ref a → wpAny (model X.prog X.w) X.A (call (.builtin "repr") [u]) (EP X pins σ Q) X.xe s := fun a ea => by
      subst ea
      obtain rfl : u = Value.ref a := rx
      obtain ⟨as, rd⟩ := Dp.reads I d (.ref a) (.ref a) hd rfl
      exact repr_of_reads' rd hs (PyData.noDict_hsm hn) hg (by omega) (fun _ _ e => e) (fun h' t tk k => ⟨.str d.shown, H, I.kept (t' := tk) k, ⟨t, rfl⟩, q⟩) hz
    cases hd with
    | non => cases (show u = Value.none from rx); exact P.repr_of_none ⟨.str _, H, I.tok _, ⟨_, rfl⟩, q⟩
    | bl b => cases (show u = Value.bool b from rx); exact P.repr_of_bool ⟨.str _, H, I.tok _, ⟨_, rfl⟩, by cases b <;> exact q⟩
    | int i => obtain ⟨t, rfl⟩ := (show ∃ t, u = Value.int i t from rx); exact P.repr_of_int (by simpa [PyData.showable] using hs) ⟨.str _, H, I.tok _, ⟨_, rfl⟩, q⟩
    | str y => obtain ⟨t, rfl⟩ := (show ∃ t, u = Value.str y t from rx); exact P.repr_of_str ⟨.str _, H, I.tok _, ⟨_, rfl⟩, q⟩ (by simpa only [PyData.shown] using hz)
    | lst _ _ => exact big _ rfl
    | tup _ _ => exact big _ rfl
  · obtain rfl : u = Value.ref a := rx
    obtain ⟨_, hsys, vs, kv, o, es, ep, ho, hx, hdt, _, ps, _⟩ := (show ObjOk X.prog X.w H s.heap a (.dK kvs) from I.hok a _ ha)
    obtain ⟨r1, r2⟩ := dict_reads (h := s.heap) ps kv hl
    have rd : Reads s.heap (.ref a) (.dict ds) (a :: [] ++ []) := .dict ho hx.1 hdt r1 r2
    exact repr_of_reads' rd hs (fun _ z => by
      have e : sysModules = a := by simpa using z
      rw [e] at hsys; simp at hsys) hg (by omega) (fun _ _ e => e) (fun h' t tk k => ⟨.str (PyData.dict ds).shown, H, I.kept (t' := tk) k, ⟨t, rfl⟩, q⟩) hz
/-! ### over data -/
def leafD : D → Option PyData
  | .non => some .none
  | .bl b => some (.bool b)
  | .int i => some (.int i)
  | .str x => some (.str x)
  | _ => none
def leafKv : List (Key × D) → Option (List (PyData × PyData))
  | [] => some []
  | (k, d) :: r => match leafD d, leafKv r with
    | some a, some b => some ((keyP k, a) :: b)
    | _, _ => none
def shwD : D → Option PyData
  | .dct kvs => (leafKv kvs).map .dict
  | d => pd d
def reprD : List D → M S D := a1 fun d => match shwD d with
  | some a => grd (a.showable = true ∧ a.depth ≤ 64 ∧ a.shown.length ≤ sizeLine) (pure (.str a.shown))
  | none => stk
mutual
theorem pd_nodict : ∀ {d : D} {a : PyData}, pd d = some a → a.hasDict = false
  | .non, _, e => by cases e; rfl
  | .bl _, _, e => by cases e; rfl
  | .int _, _, e => by cases e; rfl
  | .str _, _, e => by cases e; rfl
  | .lst ds, _, e => by
    unfold pd at e
    obtain ⟨as, ea, rfl⟩ := Option.map_eq_some_iff.mp e
    simp only [PyData.hasDict, pdL_nodict ea]
  | .tup ds, _, e => by
    unfold pd at e
    obtain ⟨as, ea, rfl⟩ := Option.map_eq_some_iff.mp e
    simp only [PyData.hasDict, pdL_nodict ea]
  | .dct _, _, e => nomatch e
  | .ins _ _, _, e => nomatch e
  | .exc _ _, _, e => nomatch e
  | .hnd _, _, e => nomatch e
  | .dks _, _, e => nomatch e
  | .fn _, _, e => nomatch e
  | .adr _ _, _, e => nomatch e
  | .rps _, _, e => nomatch e
  | .scr _, _, e => nomatch e
theorem pdL_nodict : ∀ {ds : List D} {as : List PyData}, pdL ds = some as → PyData.hasDictAll as = false
  | [], _, e => by cases e; rfl
  | d :: ds, _, e => by
    unfold pdL at e
    split at e
    · rename_i x y hx hy
      cases e
      simp only [PyData.hasDictAll, pd_nodict hx, pdL_nodict hy, Bool.or_self]
    · cases e
end
theorem leafD_rep {C : Cc S} {G : Hp} {d : D} {v : V} {a : PyData} (h : leafD d = some a) (r : Rep C G d v) : leafV v a := by
  cases d <;> first | cases h; cases r; rfl | cases h
theorem leafKv_rep {C : Cc S} {G : Hp} : ∀ {kvs : List (Key × D)} {vs : List (Key × V)} {ds : List (PyData × PyData)}, leafKv kvs = some ds → RepK C G kvs vs → Paired (fun (p : Key × V) (q : PyData × PyData) => q.1 = keyP p.1 ∧ leafV p.2 q.2) vs ds
  | [], _, _, h, r => by
    have e : _ = [] := r
    subst e
    cases h
    exact .nil
  | (k, d) :: kvs, _, _, h, ⟨v, r, e, a, b⟩ => by
    subst e
    unfold leafKv at h
    split at h
    · rename_i x y hx hy
      cases h
      exact .cons ⟨rfl, leafD_rep hx a⟩ (leafKv_rep hy b)
    · cases h
theorem shwOr (d : D) : (∃ kvs, d = .dct kvs) ∨ shwD d = pd d := by cases d <;> first | exact .inl ⟨_, rfl⟩ | exact .inr rfl
theorem cd_repr (hK : X.K = F.K) : CallD F (rRepr X.K) reprD := fun G σ H env s ds vs Q st r p => by
  rw [hK]
  obtain ⟨d, rfl, p1⟩ := p.a1
  obtain ⟨v, rfl, rv⟩ := r.r1
  cases hs : shwD d with
  | none => rw [hs] at p1; exact p1.elim
  | some a =>
    rw [hs] at p1
    obtain ⟨⟨h1, h2, h3⟩, p2⟩ := Post.grd p1
    have fin := p2 (.str a.shown) G H (Ext.refl _ _ _) st rfl
    rcases shwOr d with ⟨kvs, rfl⟩ | e
    · have hs : (leafKv kvs).map PyData.dict = some a := hs
      obtain ⟨ds, hd, rfl⟩ := Option.map_eq_some_iff.mp hs
      obtain ⟨q, us, rfl, gq, rk⟩ := rv
      exact ⟨_, rfl, .inr ⟨q, us, ds, rfl, st.gd.gh _ _ gq, leafKv_rep hd rk, h1, h2, h3, fin⟩⟩
    · rw [e] at hs
      exact ⟨_, rfl, .inl ⟨a, pd_dp st.gd.gh rv hs, pd_nodict hs, h1, h2, h3, fin⟩⟩
end DL
set_option Elab.async false
set_option linter.all false
set_option maxRecDepth 100000
set_option maxHeartbeats 4000000
set_option autoImplicit false
namespace DL
open PySem PySem.Spec PyProof.Rows L2
/-! ### what the readings do, one turn -/
section
variable {S : Type} {α : Type} {env : Env} {s : S} {τ υ ω : Env → M S D} {t u : Env → M S Bool} {a b : Env → M S Flw} {l : Env → M S (List D)} {d e : D}
@[simp] theorem grd_run {p : Prop} [Decidable p] {m : M S α} : grd p m s = if p then m s else .stk := by
  unfold grd; split <;> rfl
@[simp] theorem sNx_run : (sNx : Env → M S Flw) env s = .ok (.nx env) s := rfl
@[simp] theorem sBk_run : (sBk : Env → M S Flw) env s = .ok (.bk env) s := rfl
@[simp] theorem sCt_run : (sCt : Env → M S Flw) env s = .ok (.ct env) s := rfl
@[simp] theorem sNo_run : (sNo : Env → M S Flw) env s = .stk := rfl
@[simp] theorem sRetN_run : (sRetN : Env → M S Flw) env s = .ok (.rt .non) s := rfl
@[simp] theorem sRet_run : sRet τ env s = (τ env s).bind fun d s' => .ok (.rt d) s' := rfl
@[simp] theorem sDrop_run : sDrop τ env s = (τ env s).bind fun _ s' => .ok (.nx env) s' := rfl
@[simp] theorem sSeq_run : sSeq a b env s = (a env s).bind fun f s' => match f with
  | .nx e => b e s'
  | f => .ok f s' := by
  show (a env s).bind _ = _
  cases a env s with
  | ok f s' => cases f <;> rfl
  | err _ _ => rfl
  | stk => rfl
@[simp] theorem sIf_run : sIf t a b env s = (t env s).bind fun k s' => if k then a env s' else b env s' := by
  show (t env s).bind _ = _
  cases t env s with
  | ok k s' => cases k <;> rfl
  | err _ _ => rfl
  | stk => rfl
@[simp] theorem sAsg_run {γ : D → Env → M S Env} : sAsg τ γ env s = (τ env s).bind fun d s1 => (γ d env s1).bind fun e s2 => .ok (.nx e) s2 := rfl
@[simp] theorem gNm_run {i : Nat} : (gNm i : D → Env → M S Env) d env s = .ok (env.set i (some (.val d))) s := rfl
@[simp] theorem rC_run : (rC d : Env → M S D) env s = .ok d s := rfl
@[simp] theorem rNo_run : (rNo : Env → M S D) env s = .stk := rfl
theorem rVar_run {i : Nat} (h : env[i]? = some (some (.val d))) : (rVar i : Env → M S D) env s = .ok d s := by
  unfold rVar; rw [h]; rfl
@[simp] theorem rVar_zero {env : Env} : (rVar 0 : Env → M S D) (some (.val d) :: env) s = .ok d s := rfl
@[simp] theorem rVar_succ {i : Nat} {x : Option Slot} {env : Env} : (rVar (i + 1) : Env → M S D) (x :: env) s = rVar i env s := by
  unfold rVar; rw [List.getElem?_cons_succ]
@[simp] theorem bin_run {f : D → D → M S D} : bin f τ υ env s = (τ env s).bind fun x s1 => (υ env s1).bind fun y s2 => f x y s2 := rfl
@[simp] theorem chn_run {f g : D → D → M S D} : chn f g τ υ ω env s = (τ env s).bind fun x s1 => (υ env s1).bind fun y s2 => (f x y s2).bind fun k s3 => match k with
  | .bl true => (ω env s3).bind fun z s4 => (g y z s4).bind fun k s5 => (match k with
    | .bl b => .ok (.bl b) s5
    | _ => .stk)
  | .bl false => .ok (.bl false) s3
  | _ => .stk := by
  show (τ env s).bind _ = _
  congr 1; funext x s1
  show (υ env s1).bind _ = _
  congr 1; funext y s2
  show (f x y s2).bind _ = _
  congr 1; funext k s3
  cases k with
  | bl b =>
    cases b with
    | false => rfl
    | true =>
      show (ω env s3).bind _ = _
      congr 1; funext z s4
      show (g y z s4).bind _ = _
      congr 1; funext k s5
      cases k <;> rfl
  | _ => rfl
@[simp] theorem asT_run : asT τ env s = (τ env s).bind fun d s' => match d with
  | .bl b => .ok b s'
  | _ => .stk := by
  show (τ env s).bind _ = _
  congr 1; funext k s3
  cases k <;> rfl
@[simp] theorem asTr_run : asTr τ env s = (τ env s).bind fun d s' => truD d s' := rfl
@[simp] theorem andT_run : andT t u env s = (t env s).bind fun k s' => if k then u env s' else .ok false s' := by
  show (t env s).bind _ = _
  congr 1; funext k s3
  cases k <;> rfl
@[simp] theorem orT_run : orT t u env s = (t env s).bind fun k s' => if k then .ok true s' else u env s' := by
  show (t env s).bind _ = _
  congr 1; funext k s3
  cases k <;> rfl
@[simp] theorem notT_run : notT t env s = (t env s).bind fun k s' => .ok (!k) s' := rfl
@[simp] theorem iteE_run : iteE t τ υ env s = (t env s).bind fun k s' => if k then τ env s' else υ env s' := by
  show (t env s).bind _ = _
  congr 1; funext k s3
  cases k <;> rfl
@[simp] theorem andV_run : andV τ υ env s = (τ env s).bind fun x s1 => (truD x s1).bind fun k s2 => if k then υ env s2 else .ok x s2 := by
  show (τ env s).bind _ = _
  congr 1; funext x s1
  show (truD x s1).bind _ = _
  congr 1; funext k s3
  cases k <;> rfl
@[simp] theorem orV_run : orV τ υ env s = (τ env s).bind fun x s1 => (truD x s1).bind fun k s2 => if k then .ok x s2 else υ env s2 := by
  show (τ env s).bind _ = _
  congr 1; funext x s1
  show (truD x s1).bind _ = _
  congr 1; funext k s3
  cases k <;> rfl
@[simp] theorem notV_run : notV τ env s = (τ env s).bind fun x s1 => (truD x s1).bind fun k s2 => .ok (.bl (!k)) s2 := rfl
@[simp] theorem aNil_run : (aNil : Env → M S (List D)) env s = .ok [] s := rfl
@[simp] theorem aCons_run : aCons τ l env s = (τ env s).bind fun x s1 => (l env s1).bind fun xs s2 => .ok (x :: xs) s2 := rfl
@[simp] theorem lstD_run : lstD l env s = (l env s).bind fun xs s1 => if xs.length ≤ sizeLine then .ok (.lst xs) s1 else .stk := by
  show (l env s).bind _ = _
  congr 1; funext xs s1
  exact grd_run
@[simp] theorem tupD_run : tupD l env s = (l env s).bind fun xs s1 => if xs.length ≤ sizeLine then .ok (.tup xs) s1 else .stk := by
  show (l env s).bind _ = _
  congr 1; funext xs s1
  exact grd_run
@[simp] theorem cal_run {sem : List D → M S D} {dv : List D} {n : Nat} : cal sem dv n l env s = (l env s).bind fun ds s1 => if ds.length + dv.length = n then sem (ds ++ dv) s1 else .stk := by
  show (l env s).bind _ = _
  congr 1; funext xs s1
  exact grd_run
@[simp] theorem mk_run {c : Str} {sem : List D → M S (List (Str × D))} {dv : List D} {n : Nat} : mk c sem dv n l env s = (l env s).bind fun ds s1 => if ds.length + dv.length = n then (sem (ds ++ dv) s1).bind fun fs s2 => .ok (.ins c fs) s2 else .stk := by
  show (l env s).bind _ = _
  congr 1; funext xs s1
  exact grd_run
@[simp] theorem bcl_run {f : List D → M S D} : bcl f l env s = (l env s).bind fun ds s1 => f ds s1 := rfl
@[simp] theorem isi_run {tb : Str → Option Bool} : isi tb τ env s = (τ env s).bind fun d s1 => isiD tb d s1 := rfl
@[simp] theorem iSq_run : iSq τ env s = (τ env s).bind fun d s1 => match d with
  | .lst ds => .ok ds s1
  | .tup ds => .ok ds s1
  | .scr ns => .ok (ns.map .int) s1
  | _ => .stk := by
  show (τ env s).bind _ = _
  congr 1; funext k s3
  cases k <;> rfl
@[simp] theorem iR1_run : iR1 l env s = (l env s).bind fun ds s1 => match ds with
  | [.int j] => if -(2 ^ 62) ≤ j ∧ j < 2 ^ 62 then .ok (rngD 0 j) s1 else .stk
  | _ => .stk := by
  show (l env s).bind _ = _
  congr 1; funext k s3
  match k with
  | [.int j] => exact grd_run
  | [] => rfl
  | [.non] => rfl
  | [.bl _] => rfl
  | [.str _] => rfl
  | [.lst _] => rfl
  | [.tup _] => rfl
  | [.dct _] => rfl
  | [.ins _ _] => rfl
  | [.exc _ _] => rfl
  | [.hnd _] => rfl
  | [.dks _] => rfl
  | [.fn _] => rfl
  | [.adr _ _] => rfl
  | [.rps _] => rfl
  | [.scr _] => rfl
  | .int _ :: _ :: _ => rfl
  | .non :: _ :: _ => rfl
  | .bl _ :: _ :: _ => rfl
  | .str _ :: _ :: _ => rfl
  | .lst _ :: _ :: _ => rfl
  | .tup _ :: _ :: _ => rfl
  | .dct _ :: _ :: _ => rfl
  | .ins _ _ :: _ :: _ => rfl
  | .exc _ _ :: _ :: _ => rfl
  | .hnd _ :: _ :: _ => rfl
  | .dks _ :: _ :: _ => rfl
  | .fn _ :: _ :: _ => rfl
  | .adr _ _ :: _ :: _ => rfl
  | .rps _ :: _ :: _ => rfl
  | .scr _ :: _ :: _ => rfl
@[simp] theorem iR2_run : iR2 l env s = (l env s).bind fun ds s1 => a2 (fun d e => onInt (fun i => onInt (fun j => grd (-(2 ^ 62) ≤ i ∧ i < 2 ^ 62 ∧ -(2 ^ 62) ≤ j ∧ j < 2 ^ 62) (pure (rngD i j))) e) d) ds s1 := rfl
@[simp] theorem sPar_run {i j : Nat} {x y : D} {s1 : S} (h : l env s = .ok [x, y] s1) : sPar i j l env s = .ok (.nx ((env.set i (some (.val x))).set j (some (.val y)))) s1 := by
  show (l env s).bind _ = _
  rw [h]; rfl
@[simp] theorem sFor_run {γ : D → Env → M S Env} : sFor l γ a env s = (l env s).bind fun ds s1 => forL γ a ds env s1 := rfl
@[simp] theorem cmp_run {own : List Nat} {γ : D → Env → M S Env} : cmp own l γ t τ env s = (l env s).bind fun xs s1 => if xs.length ≤ sizeLine then (calmM (cmpL γ t τ (wipeE env own) xs) s1).bind fun ys s2 => .ok (.lst ys) s2 else .stk := by
  show (l env s).bind _ = _
  congr 1; funext xs s1
  exact grd_run
@[simp] theorem tYs_run : (tYs : Env → M S Bool) env s = .ok true s := rfl
theorem calm_of {m : M S α} {x : α} {s1 : S} (h : m s = .ok x s1) : calmM m s = .ok x s1 := by unfold calmM; rw [h]
@[simp] theorem onInt_run {k : Int → M S α} {i : Int} : onInt k (.int i) s = k i s := rfl
@[simp] theorem onLst_run {k : List D → M S α} {i : List D} : onLst k (.lst i) s = k i s := rfl
@[simp] theorem onTup_run {k : List D → M S α} {i : List D} : onTup k (.tup i) s = k i s := rfl
@[simp] theorem onSeq_lst {k : List D → M S α} {i : List D} : onSeq k (.lst i) s = k i s := rfl
@[simp] theorem onSeq_tup {k : List D → M S α} {i : List D} : onSeq k (.tup i) s = k i s := rfl
@[simp] theorem onIns_run {k : Str → List (Str × D) → M S α} {c : Str} {fs : List (Str × D)} : onIns k (.ins c fs) s = k c fs s := rfl
@[simp] theorem onBl_run {k : Bool → M S α} {i : Bool} : onBl k (.bl i) s = k i s := rfl
@[simp] theorem a1_run {k : D → M S α} : a1 k [d] s = k d s := rfl
@[simp] theorem a2_run {k : D → D → M S α} : a2 k [d, e] s = k d e s := rfl
@[simp] theorem a3_run {k : D → D → D → M S α} {f : D} : a3 k [d, e, f] s = k d e f s := rfl
@[simp] theorem truD_bl {b : Bool} : (truD (.bl b) : M S Bool) s = .ok b s := rfl
@[simp] theorem truD_int {i : Int} : (truD (.int i) : M S Bool) s = .ok (i != 0) s := rfl
@[simp] theorem truD_non : (truD .non : M S Bool) s = .ok false s := rfl
@[simp] theorem intOp_run {C : Int → Int → Prop} [∀ i j, Decidable (C i j)] {g : Int → Int → D} {i j : Int} : (intOp C g (.int i) (.int j) : M S D) s = if C i j then .ok (g i j) s else .stk := by
  show grd _ _ s = _; exact grd_run
@[simp] theorem intOp0_run {g : Int → Int → D} {i j : Int} : (intOp0 g (.int i) (.int j) : M S D) s = .ok (g i j) s := rfl
@[simp] theorem addD_int {i j : Int} : (addD (.int i) (.int j) : M S D) s = .ok (.int (i + j)) s := rfl
@[simp] theorem addD_lst {x y : List D} : (addD (.lst x) (.lst y) : M S D) s = if x.length + y.length ≤ sizeLine then .ok (.lst (x ++ y)) s else .stk := by
  show grd _ _ s = _; exact grd_run
@[simp] theorem eqD_int {neg : Bool} {i j : Int} : (eqD neg (.int i) (.int j) : M S D) s = .ok (.bl (if neg then !(i == j) else (i == j))) s := rfl
@[simp] theorem eqD_bl {neg : Bool} {i j : Bool} : (eqD neg (.bl i) (.bl j) : M S D) s = .ok (.bl (if neg then !(i == j) else (i == j))) s := rfl
@[simp] theorem fldC_run {c f : Str} : fldC c f τ env s = (τ env s).bind fun d s1 => onIns (fun c' fs => grd (c' = c) (match fs.lookup f with
    | some d => pure d
    | none => stk)) d s1 := rfl
@[simp] theorem prp_run {c : Str} {sem : List D → M S D} : prp c sem τ env s = (τ env s).bind fun o s1 => onIns (fun c' _ => grd (c' = c) (calmM (sem [o]))) o s1 := rfl
@[simp] theorem lenSetD_run : lenSetD τ env s = (τ env s).bind fun d s1 => lenSetI d s1 := rfl
end
/-! ### where something is claimed -/
section
variable {S : Type} {α : Type} {s : S} {d : D} {ds : List D}
theorem grd_ne {p : Prop} [Decidable p] {m : M S α} (h : grd p m s ≠ .stk) : p ∧ m s ≠ .stk := by
  rw [grd_run] at h
  by_cases q : p
  · rw [if_pos q] at h; exact ⟨q, h⟩
  · rw [if_neg q] at h; exact absurd rfl h
theorem onInt_ne {k : Int → M S α} (h : onInt k d s ≠ .stk) : ∃ i, d = .int i ∧ k i s ≠ .stk := by
  cases d <;> first | exact ⟨_, rfl, h⟩ | exact absurd rfl h
theorem onLst_ne {k : List D → M S α} (h : onLst k d s ≠ .stk) : ∃ i, d = .lst i ∧ k i s ≠ .stk := by
  cases d <;> first | exact ⟨_, rfl, h⟩ | exact absurd rfl h
theorem a1_ne {k : D → M S α} (h : a1 k ds s ≠ .stk) : ∃ d, ds = [d] ∧ k d s ≠ .stk := by
  match ds, h with
  | [d], h => exact ⟨d, rfl, h⟩
  | [], h => exact absurd rfl h
  | _ :: _ :: _, h => exact absurd rfl h
theorem a2_ne {k : D → D → M S α} (h : a2 k ds s ≠ .stk) : ∃ d e, ds = [d, e] ∧ k d e s ≠ .stk := by
  match ds, h with
  | [d, e], h => exact ⟨d, e, rfl, h⟩
  | [], h => exact absurd rfl h
  | [_], h => exact absurd rfl h
  | _ :: _ :: _ :: _, h => exact absurd rfl h
theorem a3_ne {k : D → D → D → M S α} (h : a3 k ds s ≠ .stk) : ∃ d e f, ds = [d, e, f] ∧ k d e f s ≠ .stk := by
  match ds, h with
  | [d, e, f], h => exact ⟨d, e, f, rfl, h⟩
  | [], h => exact absurd rfl h
  | [_], h => exact absurd rfl h
  | [_, _], h => exact absurd rfl h
  | _ :: _ :: _ :: _ :: _, h => exact absurd rfl h
/-- a list of ints; a list or tuple of ints -/
def onInts (k : List Int → M S α) : D → M S α := onLst fun ds => match intsD ds with
  | some ns => k ns
  | none => stk
def onIntsS (k : List Int → M S α) : D → M S α := onSeq fun ds => match intsD ds with
  | some ns => k ns
  | none => stk
theorem intsD_inv : ∀ {ds : List D} {ns : List Int}, intsD ds = some ns → ds = ns.map .int := fun {ds} => by
  induction ds with
  | nil => intro ns e; cases e; rfl
  | cons d ds ih =>
    intro ns e
    cases d with
    | int b =>
      have e : (intsD ds).map (b :: ·) = some ns := e
      obtain ⟨as, ea, rfl⟩ := Option.map_eq_some_iff.mp e
      rw [ih ea]; rfl
    | _ => cases (show (none : Option _) = some _ from e)
theorem onInts_ne {k : List Int → M S α} (h : onInts k d s ≠ .stk) : ∃ ns : List Int, d = .lst (ns.map .int) ∧ k ns s ≠ .stk := by
  obtain ⟨ds, rfl, h2⟩ := onLst_ne h
  cases e : intsD ds with
  | none => rw [e] at h2; exact absurd rfl h2
  | some ns => rw [e] at h2; exact ⟨ns, by rw [intsD_inv e], h2⟩
@[simp] theorem onInts_run {k : List Int → M S α} {ns : List Int} : onInts k (.lst (ns.map .int)) s = k ns s := by
  show (match intsD (ns.map .int) with
    | some ns => k ns
    | none => stk : M S α) s = _
  rw [intsD_of]
theorem onIntsS_ne {k : List Int → M S α} (h : onIntsS k d s ≠ .stk) : ∃ ns : List Int, (d = .lst (ns.map .int) ∨ d = .tup (ns.map .int)) ∧ k ns s ≠ .stk := by
  cases d with
  | lst ds =>
    have h : (match intsD ds with
      | some ns => k ns
      | none => stk : M S α) s ≠ .stk := h
    cases e : intsD ds with
    | none => rw [e] at h; exact absurd rfl h
    | some ns => rw [e] at h; exact ⟨ns, .inl (by rw [intsD_inv e]), h⟩
  | tup ds =>
    have h : (match intsD ds with
      | some ns => k ns
      | none => stk : M S α) s ≠ .stk := h
    cases e : intsD ds with
    | none => rw [e] at h; exact absurd rfl h
    | some ns => rw [e] at h; exact ⟨ns, .inr (by rw [intsD_inv e]), h⟩
  | _ => exact absurd rfl h
@[simp] theorem onIntsS_lst {k : List Int → M S α} {ns : List Int} : onIntsS k (.lst (ns.map .int)) s = k ns s := by
  show (match intsD (ns.map .int) with
    | some ns => k ns
    | none => stk : M S α) s = _
  rw [intsD_of]
@[simp] theorem onIntsS_tup {k : List Int → M S α} {ns : List Int} : onIntsS k (.tup (ns.map .int)) s = k ns s := by
  show (match intsD (ns.map .int) with
    | some ns => k ns
    | none => stk : M S α) s = _
  rw [intsD_of]
end
/-! ### comprehensions and loops that change nothing -/
section
variable {S : Type} {env : Env} {s : S} {t : Env → M S Bool} {e : Env → M S D} {i : Nat}
theorem cmpL_pure (p : D → Bool) (f : D → D) : ∀ {xs : List D}, (∀ x ∈ xs, t (env.set i (some (.val x))) s = .ok (p x) s) → (∀ x ∈ xs, p x = true → e (env.set i (some (.val x))) s = .ok (f x) s) →
    cmpL (gNm i) t e env xs s = .ok ((xs.filter p).map f) s
  | [], _, _ => rfl
  | x :: xs, ht, he => by
    have ih := cmpL_pure (xs := xs) p f (fun y hy => ht y (List.mem_cons_of_mem _ hy)) fun y hy => he y (List.mem_cons_of_mem _ hy)
    show (t (env.set i (some (.val x))) s).bind _ = _
    rw [ht x List.mem_cons_self]
    cases hp : p x with
    | true =>
      show (e (env.set i (some (.val x))) s).bind _ = _
      rw [he x List.mem_cons_self hp]
      show (cmpL (gNm i) t e env xs s).bind _ = _
      rw [ih, List.filter_cons_of_pos hp]
      rfl
    | false =>
      show cmpL (gNm i) t e env xs s = _
      rw [ih, List.filter_cons_of_neg (by rw [hp]; exact Bool.false_ne_true)]
theorem cmpL_map (f : D → D) {xs : List D} (he : ∀ x ∈ xs, e (env.set i (some (.val x))) s = .ok (f x) s) : cmpL (gNm i) tYs e env xs s = .ok (xs.map f) s := by
  rw [cmpL_pure (fun _ => true) f (fun _ _ => rfl) fun x hx _ => he x hx]
  rw [List.filter_eq_self.mpr (fun _ _ => rfl)]
end
end DL
set_option Elab.async false
set_option linter.all false
set_option maxRecDepth 100000
set_option maxHeartbeats 4000000
set_option autoImplicit false
/-! the mathematics of rhythms: sets of days that repeat, their least form -/
namespace Rh
open DL
abbrev has (p : Int) (rs : List Int) (d : Int) : Prop := d % p ∈ rs
/-- m is a period of A, both ways -/
def Per (A : Int → Prop) (m : Int) : Prop := ∀ d, A d ↔ A (d + m)
theorem Per.zero {A : Int → Prop} : Per A 0 := fun d => by rw [Int.add_zero]
theorem Per.add {A : Int → Prop} {a b : Int} (h : Per A a) (h' : Per A b) : Per A (a + b) := fun d => by
  rw [h d, h' (d + a), Int.add_assoc]
theorem Per.neg {A : Int → Prop} {a : Int} (h : Per A a) : Per A (-a) := fun d => by
  rw [h (d + -a)]
  rw [show d + -a + a = d by omega]
theorem Per.sub {A : Int → Prop} {a b : Int} (h : Per A a) (h' : Per A b) : Per A (a - b) := by
  rw [Int.sub_eq_add_neg]; exact h.add h'.neg
theorem Per.mulN {A : Int → Prop} {a : Int} (h : Per A a) : ∀ k : Nat, Per A (a * k)
  | 0 => by rw [Int.natCast_zero, Int.mul_zero]; exact Per.zero
  | k + 1 => by
    rw [Int.natCast_succ, Int.mul_add, Int.mul_one]
    exact (h.mulN k).add h
theorem Per.mul {A : Int → Prop} {a : Int} (h : Per A a) (k : Int) : Per A (a * k) := by
  rcases Int.le_total 0 k with hk | hk
  · have e : ((k.toNat : Nat) : Int) = k := Int.toNat_of_nonneg hk
    rw [← e]; exact h.mulN _
  · have e : ((((-k).toNat) : Nat) : Int) = -k := Int.toNat_of_nonneg (by omega)
    have := (h.mulN (-k).toNat).neg
    rw [e] at this
    rw [Int.mul_neg, Int.neg_neg] at this
    exact this
theorem Per.mod {A : Int → Prop} {a b : Int} (h : Per A a) (h' : Per A b) : Per A (a % b) := by
  rw [Int.emod_def]
  exact h.sub (h'.mul _)
theorem per_has (p : Int) (rs : List Int) : Per (has p rs) p := fun d => by
  show d % p ∈ rs ↔ (d + p) % p ∈ rs
  rw [Int.add_emod_right]
theorem Per.congr {A B : Int → Prop} {m : Int} (h : Per A m) (e : ∀ d, A d ↔ B d) : Per B m := fun d => by rw [← e, ← e]; exact h d
/-- rests of a round -/
structure Wf (n : Int) (rs : List Int) : Prop where
  pos : 1 ≤ n
  lt : ∀ r ∈ rs, 0 ≤ r ∧ r < n
  nd : rs.Nodup
def rep (n : Int) (rs : List Int) (q : Int) : Bool := rs.all fun r => decide ((r + q) % n ∈ rs)
def rngI (lo hi : Int) : List Int := (List.range (hi - lo).toNat).map fun (i : Nat) => lo + (i : Int)
theorem mem_rngI {lo hi x : Int} : x ∈ rngI lo hi ↔ lo ≤ x ∧ x < hi := by
  unfold rngI
  rw [List.mem_map]
  constructor
  · rintro ⟨i, hi', rfl⟩
    rw [List.mem_range] at hi'
    omega
  · rintro ⟨h1, h2⟩
    exact ⟨(x - lo).toNat, by rw [List.mem_range]; omega, by omega⟩
theorem rngI_sorted (lo hi : Int) : (rngI lo hi).Pairwise (· < ·) := by
  unfold rngI
  rw [List.pairwise_map]
  exact List.pairwise_lt_range.imp fun {a b} h => by omega
def parts (n : Int) (rs : List Int) : List Int := (rngI 1 (n + 1)).filter fun q => decide (n % q = 0) && rep n rs q
def leastP (n : Int) (rs : List Int) : Int := (parts n rs).headD 1
def formR (n : Int) (rs : List Int) : List Int := (srt rs).filter fun r => decide (r < leastP n rs)
theorem rep_iff {n : Int} {rs : List Int} {q : Int} : rep n rs q = true ↔ ∀ r ∈ rs, (r + q) % n ∈ rs := by
  unfold rep
  rw [List.all_eq_true]
  simp
theorem rep_self {n : Int} {rs : List Int} (w : Wf n rs) : rep n rs n = true := rep_iff.mpr fun r hr => by
  have := w.lt r hr
  rw [Int.add_emod_right, Int.emod_eq_of_lt this.1 this.2]; exact hr
theorem n_mem_parts {n : Int} {rs : List Int} (w : Wf n rs) : n ∈ parts n rs := by
  unfold parts
  rw [List.mem_filter]
  have := w.pos
  exact ⟨mem_rngI.mpr (by omega), by simp [rep_self w]⟩
theorem leastP_mem {n : Int} {rs : List Int} (w : Wf n rs) : leastP n rs ∈ parts n rs := by
  have := n_mem_parts w
  unfold leastP
  cases h : parts n rs with
  | nil => rw [h] at this; cases this
  | cons a l => simp
theorem leastP_le {n : Int} {rs : List Int} {q : Int} (h : q ∈ parts n rs) : leastP n rs ≤ q := by
  have hs : (parts n rs).Pairwise (· < ·) := (rngI_sorted _ _).filter _
  unfold leastP
  cases e : parts n rs with
  | nil => rw [e] at h; cases h
  | cons a l =>
    rw [e] at h hs
    simp only [List.headD_cons]
    rcases List.mem_cons.mp h with h | h
    · omega
    · exact Int.le_of_lt ((List.pairwise_cons.mp hs).1 q h)
theorem mem_parts {n : Int} {rs : List Int} {q : Int} : q ∈ parts n rs ↔ 1 ≤ q ∧ q ≤ n ∧ n % q = 0 ∧ ∀ r ∈ rs, (r + q) % n ∈ rs := by
  unfold parts
  rw [List.mem_filter, mem_rngI, Bool.and_eq_true, rep_iff]
  simp only [decide_eq_true_eq]
  constructor
  · rintro ⟨⟨h1, h2⟩, h3, h4⟩; exact ⟨h1, by omega, h3, h4⟩
  · rintro ⟨h1, h2, h3, h4⟩; exact ⟨⟨h1, by omega⟩, h3, h4⟩
/-- a divisor with which the rests repeat is a period -/
theorem per_of_part {n : Int} {rs : List Int} {q : Int} (h : q ∈ parts n rs) : Per (has n rs) q := by
  obtain ⟨h1, h2, h3, h4⟩ := mem_parts.mp h
  have up : ∀ d, has n rs d → has n rs (d + q) := fun d hd => by
    have := h4 _ hd
    show (d + q) % n ∈ rs
    rw [← Int.emod_add_emod]; exact this
  have ups : ∀ (k : Nat) d, has n rs d → has n rs (d + q * k) := fun k => by
    induction k with
    | zero => intro d hd; simpa using hd
    | succ k ih =>
      intro d hd
      have := up _ (ih d hd)
      rw [Int.natCast_succ, Int.mul_add, Int.mul_one, ← Int.add_assoc]; exact this
  intro d
  refine ⟨up d, fun hd => ?_⟩
  -- n = q * k, k ≥ 1: from d + q go on k - 1 times, to d + n
  obtain ⟨k, hk⟩ : ∃ k : Int, n = q * k := ⟨n / q, by have := Int.mul_ediv_add_emod n q; rw [h3] at this; omega⟩
  have hk1 : 1 ≤ k := by
    rcases Int.lt_or_le k 1 with hlt | hge
    · have : q * k ≤ q * 0 := Int.mul_le_mul_of_nonneg_left (by omega) (by omega)
      rw [Int.mul_zero] at this
      omega
    · exact hge
  have e : (((k - 1).toNat : Nat) : Int) = k - 1 := Int.toNat_of_nonneg (by omega)
  have := ups (k - 1).toNat (d + q) hd
  rw [e, Int.mul_sub, Int.mul_one, ← hk] at this
  have e2 : d + q + (n - q) = d + n := by omega
  rw [e2] at this
  exact (per_has n rs d).mpr this
theorem part_of_per {n : Int} {rs : List Int} (w : Wf n rs) {q : Int} (h1 : 1 ≤ q) (h2 : q ≤ n) (h3 : n % q = 0) (h : Per (has n rs) q) : q ∈ parts n rs :=
  mem_parts.mpr ⟨h1, h2, h3, fun r hr => by
    have e : r % n = r := Int.emod_eq_of_lt (w.lt r hr).1 (w.lt r hr).2
    exact (h r).mp (show r % n ∈ rs by rw [e]; exact hr)⟩
/-- it is the least period of all -/
theorem leastP_min {n : Int} {rs : List Int} (w : Wf n rs) : ∀ (k : Nat) (m : Int), m.toNat = k → 1 ≤ m → Per (has n rs) m → leastP n rs ≤ m := by
  intro k
  induction k using Nat.strongRecOn with
  | ind k ih =>
    intro m hm h1 h
    have hr0 : 0 ≤ n % m := Int.emod_nonneg _ (by omega)
    have hr1 : n % m < m := Int.emod_lt_of_pos _ (by omega)
    rcases Int.lt_or_eq_of_le hr0 with hr | hr
    · have := ih (n % m).toNat (by omega) (n % m) rfl (by omega) ((per_has n rs).mod h)
      omega
    · rcases Int.lt_or_le n m with hlt | hge
      · have hn := w.pos
        rw [Int.emod_eq_of_lt (by omega) hlt] at hr
        omega
      · exact leastP_le (part_of_per w h1 hge hr.symm h)
/-! ### least forms -/
structure Can (p : Int) (rs : List Int) : Prop where
  pos : 1 ≤ p
  lt : ∀ r ∈ rs, 0 ≤ r ∧ r < p
  asc : rs.Pairwise (· < ·)
  min : ∀ m, 1 ≤ m → Per (has p rs) m → p ≤ m
theorem Can.wf {p : Int} {rs : List Int} (c : Can p rs) : Wf p rs := ⟨c.pos, c.lt, c.asc.imp fun {a b} h => by omega⟩
theorem mem_srt {ns : List Int} {x : Int} : x ∈ srt ns ↔ x ∈ ns := (srt_perm ns).mem_iff
theorem srt_lt {ns : List Int} (h : ns.Nodup) : (srt ns).Pairwise (· < ·) := by
  have h1 := srt_sorted ns
  have h2 : (srt ns).Nodup := (srt_perm ns).nodup_iff.mpr h
  exact (List.Pairwise.and h1 h2).imp fun {a b} ⟨h, h'⟩ => by omega
/-- the form tells the same days -/
theorem form_has {n : Int} {rs : List Int} (w : Wf n rs) (d : Int) : has (leastP n rs) (formR n rs) d ↔ has n rs d := by
  obtain ⟨h1, h2, h3, h4⟩ := mem_parts.mp (leastP_mem w)
  have hp := per_of_part (leastP_mem w)
  have e : has n rs d ↔ has n rs (d % leastP n rs) := by
    have := (hp.mul (-(d / leastP n rs))) d
    rw [this]
    have e : d + leastP n rs * -(d / leastP n rs) = d % leastP n rs := by
      rw [Int.emod_def, Int.mul_neg]; omega
    rw [e]
  have g0 : 0 ≤ d % leastP n rs := Int.emod_nonneg _ (by omega)
  have g1 : d % leastP n rs < leastP n rs := Int.emod_lt_of_pos _ (by omega)
  rw [e]
  show d % leastP n rs ∈ formR n rs ↔ d % leastP n rs % n ∈ rs
  rw [Int.emod_eq_of_lt g0 (by omega)]
  unfold formR
  rw [List.mem_filter, mem_srt]
  simp [g1]
theorem form_can {n : Int} {rs : List Int} (w : Wf n rs) : Can (leastP n rs) (formR n rs) := by
  obtain ⟨h1, h2, h3, h4⟩ := mem_parts.mp (leastP_mem w)
  refine ⟨h1, fun r hr => ?_, (srt_lt w.nd).filter _, fun m hm h => ?_⟩
  · unfold formR at hr
    rw [List.mem_filter, mem_srt] at hr
    exact ⟨(w.lt r hr.1).1, by simpa using hr.2⟩
  · exact leastP_min w _ m rfl hm (h.congr fun d => form_has w d)
theorem sorted_ext : ∀ {xs ys : List Int}, xs.Pairwise (· < ·) → ys.Pairwise (· < ·) → (∀ x, x ∈ xs ↔ x ∈ ys) → xs = ys := fun {xs ys} h h' e => by
  have p : xs.Perm ys := (List.perm_ext_iff_of_nodup (h.imp fun {a b} h => by omega) (h'.imp fun {a b} h => by omega)).mpr e
  exact sorted_unique p (h.imp fun {a b} h => by omega) (h'.imp fun {a b} h => by omega)
/-- least forms of the same days are the same -/
theorem can_ext {p q : Int} {rs ts : List Int} (c : Can p rs) (c' : Can q ts) (e : ∀ d, has p rs d ↔ has q ts d) : p = q ∧ rs = ts := by
  have e1 : p = q := Int.le_antisymm (c.min q c'.pos ((per_has q ts).congr fun d => (e d).symm)) (c'.min p c.pos ((per_has p rs).congr e))
  subst e1
  refine ⟨rfl, sorted_ext c.asc c'.asc fun x => ?_⟩
  constructor
  · intro hx
    have := c.lt x hx
    have z := (e x).mp (show x % p ∈ rs by rw [Int.emod_eq_of_lt this.1 this.2]; exact hx)
    have z : x % p ∈ ts := z
    rw [Int.emod_eq_of_lt this.1 this.2] at z; exact z
  · intro hx
    have := c'.lt x hx
    have z := (e x).mpr (show x % p ∈ ts by rw [Int.emod_eq_of_lt this.1 this.2]; exact hx)
    have z : x % p ∈ rs := z
    rw [Int.emod_eq_of_lt this.1 this.2] at z; exact z
/-- a least form is its own -/
theorem can_form {p : Int} {rs : List Int} (c : Can p rs) : leastP p rs = p ∧ formR p rs = rs :=
  can_ext (form_can c.wf) c (form_has c.wf)
theorem form_le {n : Int} {rs : List Int} (w : Wf n rs) : leastP n rs ≤ n ∧ n % leastP n rs = 0 := by
  obtain ⟨h1, h2, h3, h4⟩ := mem_parts.mp (leastP_mem w)
  exact ⟨h2, h3⟩
/-- the least period divides each period -/
theorem can_dvd {p m : Int} {rs : List Int} (c : Can p rs) (h : Per (has p rs) m) : m % p = 0 := by
  have h0 : 0 ≤ m % p := Int.emod_nonneg _ (by have := c.pos; omega)
  have h1 : m % p < p := Int.emod_lt_of_pos _ (by have := c.pos; omega)
  rcases Int.lt_or_eq_of_le h0 with hr | hr
  · have := c.min (m % p) (by omega) (h.mod (per_has p rs))
    omega
  · exact hr.symm
end Rh
set_option Elab.async false
set_option linter.all false
set_option maxRecDepth 100000
set_option maxHeartbeats 4000000
set_option autoImplicit false
/-! what the defs of rhythms.py are worth, over data -/
namespace DL
open PySem PySem.Spec PyProof.Rows L2 Rh
/-- values that isinstance is asked of: the built-in ones, and objects of the classes cs -/
def okD (cs : List Str) : D → Bool
  | .non => true
  | .bl _ => true
  | .int _ => true
  | .str _ => true
  | .lst _ => true
  | .tup _ => true
  | .dct _ => true
  | .ins c _ => decide (c ∈ cs) && decide (c ∉ tyNames)
  | _ => false
def isNumD : D → Bool
  | .int _ => true
  | _ => false
def isSeqD : D → Bool
  | .lst _ => true
  | .tup _ => true
  | _ => false
def isRhD : D → Bool
  | .ins c _ => decide (c = "Rhythm")
  | _ => false
section
variable {S : Type}
def sem_is_number (cs : List Str) : List D → M S D := a1 fun d => grd (okD cs d = true) (pure (.bl (isNumD d)))
def sem_is_list (cs : List Str) : List D → M S D := a1 fun d => grd (okD cs d = true) (pure (.bl (isSeqD d)))
def numIn (lo hi : Int) : D → Bool
  | .int i => decide (lo ≤ i) && decide (i ≤ hi)
  | _ => false
def diffs (lo hi : Int) (ds : List D) : Bool := ds.all (numIn lo hi) && (match intsD ds with
  | some ns => decide ns.Nodup
  | none => false)
def diffM (cs : List Str) (lo hi : Int) : D → M S D
  | .lst ds => grd (ds.length ≤ 4000 ∧ ds.all (okD cs) = true) (pure (.bl (diffs lo hi ds)))
  | .tup ds => grd (ds.length ≤ 4000 ∧ ds.all (okD cs) = true) (pure (.bl (diffs lo hi ds)))
  | d => grd (okD cs d = true) (pure (.bl false))
def sem_are_different (cs : List Str) : List D → M S D := a3 fun d l h => onInt (fun lo => onInt (fun hi => diffM cs lo hi d) h) l
def lcmI (i j : Int) : Int := i / (Int.gcd i j : Int) * j
def sem_common : List D → M S D := a2 fun x y => onInt (fun i => onInt (fun j => grd (1 ≤ i ∧ i < 1073741824 ∧ 1 ≤ j ∧ j < 1073741824) (pure (.int (lcmI i j)))) y) x
def sem_repeats : List D → M S D := a3 fun a b c => onInt (fun n => onInts (fun rs => onInt (fun q => grd (0 < n ∧ rs.length ≤ 3000) (pure (.bl (rep n rs q)))) c) b) a
def wfB (n : Int) (rs : List Int) : Bool := decide (1 ≤ n) && (rs.all (fun r => decide (0 ≤ r) && decide (r < n)) && decide rs.Nodup)
theorem wfB_iff {n : Int} {rs : List Int} : wfB n rs = true ↔ Wf n rs := by
  unfold wfB
  simp only [Bool.and_eq_true, decide_eq_true_eq, List.all_eq_true]
  exact ⟨fun ⟨a, b, c⟩ => ⟨a, b, c⟩, fun w => ⟨w.pos, w.lt, w.nd⟩⟩
def formD (n : Int) (rs : List Int) : D := .tup [.int (leastP n rs), .tup ((formR n rs).map .int)]
def sem_least_form : List D → M S D := a2 fun a b => onInt (fun n => onInts (fun rs => grd (wfB n rs = true ∧ n ≤ 3000 ∧ rs.length ≤ 3000) (pure (formD n rs))) b) a
def sem_Rhythm___init__ (cs : List Str) : List D → M S (List (Str × D)) := a2 fun a b => onInt (fun n => onIntsS (fun rs => grd (wfB n rs = true ∧ n ≤ 3000 ∧ rs.length ≤ 3000) (pure [("own_form", formD n rs)])) b) a
/-- a rhythm -/
def rhD (p : Int) (rs : List Int) : D := .ins "Rhythm" [("own_form", .tup [.int p, .tup (rs.map .int)])]
def rhO : D → Option (Int × List Int)
  | .ins c [(f, .tup [.int p, .tup ds])] => if c = "Rhythm" ∧ f = "own_form" then (intsD ds).map fun rs => (p, rs) else none
  | _ => none
theorem rhO_rhD (p : Int) (rs : List Int) : rhO (rhD p rs) = some (p, rs) := by
  show (if ("Rhythm" : Str) = "Rhythm" ∧ ("own_form" : Str) = "own_form" then (intsD (rs.map .int)).map fun rs => (p, rs) else none) = _
  rw [if_pos ⟨rfl, rfl⟩, intsD_of]; rfl
theorem rhO_inv {d : D} {p : Int} {rs : List Int} (h : rhO d = some (p, rs)) : d = rhD p rs := by
  unfold rhO at h
  split at h
  · rename_i c f p' ds
    split at h
    · rename_i hc
      obtain ⟨ns, e, e2⟩ := Option.map_eq_some_iff.mp h
      cases e2
      rw [hc.1, hc.2, intsD_inv e]; rfl
    · cases h
  · cases h
def onRh {α : Type} (k : Int → List Int → M S α) (d : D) : M S α := match rhO d with
  | some (p, rs) => k p rs
  | none => stk
theorem onRh_ne {α : Type} {k : Int → List Int → M S α} {d : D} {s : S} (h : onRh k d s ≠ .stk) : ∃ p rs, d = rhD p rs ∧ k p rs s ≠ .stk := by
  unfold onRh at h
  cases e : rhO d with
  | none => rw [e] at h; exact absurd rfl h
  | some q =>
    obtain ⟨p, rs⟩ := q
    rw [e] at h
    exact ⟨p, rs, rhO_inv e, h⟩
@[simp] theorem onRh_run {α : Type} {k : Int → List Int → M S α} {p : Int} {rs : List Int} {s : S} : onRh k (rhD p rs) s = k p rs s := by
  unfold onRh; rw [rhO_rhD]
def sem_Rhythm_size : List D → M S D := a1 (onRh fun p _ => pure (.int p))
def sem_Rhythm_rests : List D → M S D := a1 (onRh fun _ rs => pure (.tup (rs.map .int)))
def inRh (p : Int) (rs : List Int) : D → Bool
  | .int d => decide (d % p ∈ rs)
  | _ => false
def sem_Rhythm___contains__ (cs : List Str) : List D → M S D := a2 fun d e => onRh (fun p rs => grd (0 < p ∧ okD cs e = true) (pure (.bl (inRh p rs e)))) d
def sem_Rhythm___eq__ (cs : List Str) : List D → M S D := a2 fun d e => onRh (fun p rs => grd (okD cs e = true) (if isRhD e = true then onRh (fun q ts => pure (.bl (decide (p = q ∧ rs = ts)))) e else pure (.bl false))) d
def mkR (n : Int) (rs : List Int) : D := rhD (leastP n rs) (formR n rs)
/-- a round and rests as they may be -/
def okR (cs : List Str) (p : Int) : Prop := 1 ≤ p ∧ p ≤ 3000 ∧ ("Rhythm" : Str) ∈ cs
instance (cs : List Str) (p : Int) : Decidable (okR cs p) := by unfold okR; exact inferInstance
def sem_Rhythm_within (cs : List Str) : List D → M S D := a2 fun d e => onRh (fun p rs => onRh (fun q ts => grd (okR cs p ∧ okR cs q) (pure (.bl (((rngI 0 (lcmI p q)).filter fun x => decide (x % p ∈ rs)).all fun x => decide (x % q ∈ ts))))) e) d
def semOp (cs : List Str) (f : Bool → Bool → Bool) : List D → M S D := a2 fun d e => onRh (fun p rs => onRh (fun q ts => grd (okR cs p ∧ okR cs q ∧ lcmI p q ≤ 3000) (pure (mkR (lcmI p q) ((rngI 0 (lcmI p q)).filter fun x => f (decide (x % p ∈ rs)) (decide (x % q ∈ ts)))))) e) d
def sem_Rhythm___or__ (cs : List Str) : List D → M S D := semOp cs fun a b => a || b
def sem_Rhythm___and__ (cs : List Str) : List D → M S D := semOp cs fun a b => a && b
def sem_Rhythm___sub__ (cs : List Str) : List D → M S D := semOp cs fun a b => a && !b
def sem_Rhythm___rshift__ (cs : List Str) : List D → M S D := a2 fun d e => onInt (fun k => onRh (fun p rs => grd (wfB p rs = true ∧ p ≤ 3000 ∧ rs.length ≤ 3000) (pure (mkR p (rs.map fun r => (r + k) % p)))) d) e
end
end DL
set_option Elab.async false
set_option linter.all false
set_option maxRecDepth 100000
set_option maxHeartbeats 4000000
set_option autoImplicit false
/-! printed by tools/gen05.py: the readings of rhythms.py -/
namespace DL
open PySem PySem.Spec PyProof.Rows L2 Rh
abbrev N_is_number : List Str := ["thing"]
def rd_is_number {S : Type} (cs : List Str) : Env → M S Flw :=
  (sRet (andV (isi (tb_kit_ty_int cs) (rVar 0)) (notV (isi (tb_kit_ty_bool cs) (rVar 0)))))
abbrev N_is_list : List Str := ["thing"]
def rd_is_list {S : Type} (cs : List Str) : Env → M S Flw :=
  (sRet (isi (tb_kit_two_list_tuple cs) (rVar 0)))
abbrev N_are_different : List Str := ["thing", "least", "most", "item"]
def rd_are_different {S : Type} (cs : List Str) : Env → M S Flw :=
  (sSeq (sIf (orT (notT (asT (cal (sem_is_list cs) [] 1 (aCons (rVar 0) aNil)))) (notT (asT (bcl (allD false) (aCons (cmp [3] (iSq (rVar 0)) (gNm 3) tYs (andV (cal (sem_is_number cs) [] 1 (aCons (rVar 3) aNil)) (chn leD leD (rVar 1) (rVar 3) (rVar 2)))) aNil))))) (sRet (rC (.bl false))) sNx) (sRet (bin (eqD false) (lenSetD (bcl listD (aCons (rVar 0) aNil))) (bcl lenD (aCons (rVar 0) aNil)))))
abbrev N_repeats : List Str := ["size", "rests", "part", "rest"]
def rd_repeats {S : Type} : Env → M S Flw :=
  (sRet (bcl (allD false) (aCons (cmp [3] (iSq (rVar 1)) (gNm 3) tYs (bin (inD false) (bin modD (bin addD (rVar 3) (rVar 2)) (rVar 0)) (rVar 1))) aNil)))
abbrev N_least_form : List Str := ["size", "rests", "parts", "part", "rest"]
def rd_least_form {S : Type} : Env → M S Flw :=
  (sSeq (sAsg (cmp [3] (iR2 (aCons (rC (.int 1)) (aCons (bin addD (rVar 0) (rC (.int 1))) aNil))) (gNm 3) (andT (asT (bin (eqD false) (bin modD (rVar 0) (rVar 3)) (rC (.int 0)))) (asT (cal sem_repeats [] 3 (aCons (rVar 0) (aCons (rVar 1) (aCons (rVar 3) aNil)))))) (rVar 3)) (gNm 2)) (sRet (tupD (aCons (bin ixD (rVar 2) (rC (.int 0))) (aCons (bcl tupleD (aCons (cmp [4] (iSq (bcl sortD (aCons (rVar 1) aNil))) (gNm 4) (asT (bin ltD (rVar 4) (bin ixD (rVar 2) (rC (.int 0))))) (rVar 4)) aNil)) aNil)))))
abbrev N_Rhythm___init__ : List Str := ["self", "size", "rests"]
def rd_Rhythm___init__ {S : Type} (cs : List Str) : Env → M S Flw :=
  (sSeq (sIf (orT (notT (asT (cal (sem_is_number cs) [] 1 (aCons (rVar 1) aNil)))) (notT (asT (chn leD leD (rC (.int 1)) (rVar 1) (rC (.int 3000)))))) sNo sNx) (sSeq (sIf (notT (asT (cal (sem_are_different cs) [] 3 (aCons (rVar 2) (aCons (rC (.int 0)) (aCons (bin subD (rVar 1) (rC (.int 1))) aNil)))))) sNo sNx) (sFldO 0 "Rhythm" "own_form" (cal sem_least_form [] 2 (aCons (rVar 1) (aCons (bcl listD (aCons (rVar 2) aNil)) aNil))))))
abbrev N_Rhythm_size : List Str := ["self"]
def rd_Rhythm_size {S : Type} : Env → M S Flw :=
  (sRet (bin ixD (fldC "Rhythm" "own_form" (rVar 0)) (rC (.int 0))))
abbrev N_Rhythm_rests : List Str := ["self"]
def rd_Rhythm_rests {S : Type} : Env → M S Flw :=
  (sRet (bin ixD (fldC "Rhythm" "own_form" (rVar 0)) (rC (.int 1))))
abbrev N_Rhythm___contains__ : List Str := ["self", "day"]
def rd_Rhythm___contains__ {S : Type} (cs : List Str) : Env → M S Flw :=
  (sRet (andV (cal (sem_is_number cs) [] 1 (aCons (rVar 1) aNil)) (bin (inD false) (bin modD (rVar 1) (bin ixD (fldC "Rhythm" "own_form" (rVar 0)) (rC (.int 0)))) (bin ixD (fldC "Rhythm" "own_form" (rVar 0)) (rC (.int 1))))))
abbrev N_common : List Str := ["one", "other", "left", "right"]
noncomputable def rd_common {S : Type} : Env → M S Flw :=
  (sSeq (sPar 2 3 (aCons (rVar 0) (aCons (rVar 1) aNil))) (sSeq (sWhl (asT (bin gtD (rVar 3) (rC (.int 0)))) (sPar 2 3 (aCons (rVar 3) (aCons (bin modD (rVar 2) (rVar 3)) aNil)))) (sRet (bin mulD (bin divD (rVar 0) (rVar 2)) (rVar 1)))))
abbrev N_Rhythm_within : List Str := ["self", "other", "day"]
def rd_Rhythm_within {S : Type} (cs : List Str) : Env → M S Flw :=
  (sRet (bcl (allD false) (aCons (cmp [2] (iR1 (aCons (cal sem_common [] 2 (aCons (prp "Rhythm" sem_Rhythm_size (rVar 0)) (aCons (prp "Rhythm" sem_Rhythm_size (rVar 1)) aNil))) aNil)) (gNm 2) (asT (bin (orD (inOwn false "Rhythm" (sem_Rhythm___contains__ cs)) (inD false) fun _ e => isIns e) (rVar 2) (rVar 0))) (bin (orD (inOwn false "Rhythm" (sem_Rhythm___contains__ cs)) (inD false) fun _ e => isIns e) (rVar 2) (rVar 1))) aNil)))
abbrev N_Rhythm___or__ : List Str := ["self", "other", "size", "day"]
def rd_Rhythm___or__ {S : Type} (cs : List Str) : Env → M S Flw :=
  (sSeq (sIf (notT (asT (isi (tb_kit_own_Rhythm cs) (rVar 1)))) sNo sNx) (sSeq (sAsg (cal sem_common [] 2 (aCons (prp "Rhythm" sem_Rhythm_size (rVar 0)) (aCons (prp "Rhythm" sem_Rhythm_size (rVar 1)) aNil))) (gNm 2)) (sRet (mk "Rhythm" (sem_Rhythm___init__ cs) [] 2 (aCons (rVar 2) (aCons (cmp [3] (iR1 (aCons (rVar 2) aNil)) (gNm 3) (orT (asT (bin (orD (inOwn false "Rhythm" (sem_Rhythm___contains__ cs)) (inD false) fun _ e => isIns e) (rVar 3) (rVar 0))) (asT (bin (orD (inOwn false "Rhythm" (sem_Rhythm___contains__ cs)) (inD false) fun _ e => isIns e) (rVar 3) (rVar 1)))) (rVar 3)) aNil))))))
abbrev N_Rhythm___and__ : List Str := ["self", "other", "size", "day"]
def rd_Rhythm___and__ {S : Type} (cs : List Str) : Env → M S Flw :=
  (sSeq (sIf (notT (asT (isi (tb_kit_own_Rhythm cs) (rVar 1)))) sNo sNx) (sSeq (sAsg (cal sem_common [] 2 (aCons (prp "Rhythm" sem_Rhythm_size (rVar 0)) (aCons (prp "Rhythm" sem_Rhythm_size (rVar 1)) aNil))) (gNm 2)) (sRet (mk "Rhythm" (sem_Rhythm___init__ cs) [] 2 (aCons (rVar 2) (aCons (cmp [3] (iR1 (aCons (rVar 2) aNil)) (gNm 3) (andT (asT (bin (orD (inOwn false "Rhythm" (sem_Rhythm___contains__ cs)) (inD false) fun _ e => isIns e) (rVar 3) (rVar 0))) (asT (bin (orD (inOwn false "Rhythm" (sem_Rhythm___contains__ cs)) (inD false) fun _ e => isIns e) (rVar 3) (rVar 1)))) (rVar 3)) aNil))))))
abbrev N_Rhythm___sub__ : List Str := ["self", "other", "size", "day"]
def rd_Rhythm___sub__ {S : Type} (cs : List Str) : Env → M S Flw :=
  (sSeq (sIf (notT (asT (isi (tb_kit_own_Rhythm cs) (rVar 1)))) sNo sNx) (sSeq (sAsg (cal sem_common [] 2 (aCons (prp "Rhythm" sem_Rhythm_size (rVar 0)) (aCons (prp "Rhythm" sem_Rhythm_size (rVar 1)) aNil))) (gNm 2)) (sRet (mk "Rhythm" (sem_Rhythm___init__ cs) [] 2 (aCons (rVar 2) (aCons (cmp [3] (iR1 (aCons (rVar 2) aNil)) (gNm 3) (andT (asT (bin (orD (inOwn false "Rhythm" (sem_Rhythm___contains__ cs)) (inD false) fun _ e => isIns e) (rVar 3) (rVar 0))) (asT (bin (orD (inOwn true "Rhythm" (sem_Rhythm___contains__ cs)) (inD true) fun _ e => isIns e) (rVar 3) (rVar 1)))) (rVar 3)) aNil))))))
abbrev N_Rhythm___rshift__ : List Str := ["self", "number", "size", "rest"]
def rd_Rhythm___rshift__ {S : Type} (cs : List Str) : Env → M S Flw :=
  (sSeq (sIf (notT (asT (cal (sem_is_number cs) [] 1 (aCons (rVar 1) aNil)))) sNo sNx) (sSeq (sAsg (bin ixD (fldC "Rhythm" "own_form" (rVar 0)) (rC (.int 0))) (gNm 2)) (sRet (mk "Rhythm" (sem_Rhythm___init__ cs) [] 2 (aCons (rVar 2) (aCons (cmp [3] (iSq (bin ixD (fldC "Rhythm" "own_form" (rVar 0)) (rC (.int 1)))) (gNm 3) tYs (bin modD (bin addD (rVar 3) (rVar 1)) (rVar 2))) aNil))))))
end DL
set_option Elab.async false
set_option linter.all false
set_option maxRecDepth 100000
set_option maxHeartbeats 4000000
set_option autoImplicit false
/-! the readings of rhythms.py are worth what RhSem says -/
namespace DL
open PySem PySem.Spec PyProof.Rows L2 Rh
section
variable {S : Type}
theorem tbOf_t {tr fa : List Str} {t : Str} (h : t ∈ tr) : tbOf tr fa t = some true := if_pos h
theorem tbOf_f {tr fa : List Str} {t : Str} (h : t ∉ tr) (h' : t ∈ fa) : tbOf tr fa t = some false := by
  unfold tbOf; rw [if_neg h, if_pos h']
theorem isiD_of {tb : Str → Option Bool} {d : D} {t : Str} {b : Bool} {s : S} (h : tagD d = some t) (h' : tb t = some b) : (isiD tb d : M S D) s = .ok (.bl b) s := by
  unfold isiD; rw [h]; show (match tb t with | some b => pure (.bl b) | none => stk : M S D) s = _; rw [h']; rfl
theorem tag_ins {cs : List Str} {c : Str} {fs : List (Str × D)} (h : okD cs (.ins c fs) = true) : tagD (.ins c fs) = some c ∧ c ∈ cs ∧ c ∉ tyNames := by
  have h : (decide (c ∈ cs) && decide (c ∉ tyNames)) = true := h
  simp only [Bool.and_eq_true, decide_eq_true_eq] at h
  exact ⟨if_neg h.2, h.1, h.2⟩
theorem isi_int {cs : List Str} {d : D} {s : S} (h : okD cs d = true) : (isiD (tb_kit_ty_int cs) d : M S D) s = .ok (.bl (match d with | .int _ => true | .bl _ => true | _ => false)) s := by
  cases d with
  | ins c fs =>
    obtain ⟨h1, h2, h3⟩ := tag_ins h
    refine isiD_of h1 (tbOf_f (fun z => h3 ?_) (List.mem_append_right _ h2))
    revert z; simp [tyNames]; intro z; rcases z with z | z <;> simp [z]
  | exc _ _ => cases h
  | hnd _ => cases h
  | dks _ => cases h
  | fn _ => cases h
  | adr _ _ => cases h
  | rps _ => cases h
  | scr _ => cases h
  | non => exact isiD_of rfl (tbOf_f (by decide +kernel) (List.mem_append_left _ (by decide +kernel)))
  | bl _ => exact isiD_of rfl (tbOf_t (by decide +kernel))
  | int _ => exact isiD_of rfl (tbOf_t (by decide +kernel))
  | str _ => exact isiD_of rfl (tbOf_f (by decide +kernel) (List.mem_append_left _ (by decide +kernel)))
  | lst _ => exact isiD_of rfl (tbOf_f (by decide +kernel) (List.mem_append_left _ (by decide +kernel)))
  | tup _ => exact isiD_of rfl (tbOf_f (by decide +kernel) (List.mem_append_left _ (by decide +kernel)))
  | dct _ => exact isiD_of rfl (tbOf_f (by decide +kernel) (List.mem_append_left _ (by decide +kernel)))
theorem isi_bool {cs : List Str} {d : D} {s : S} (h : okD cs d = true) : (isiD (tb_kit_ty_bool cs) d : M S D) s = .ok (.bl (match d with | .bl _ => true | _ => false)) s := by
  cases d with
  | ins c fs =>
    obtain ⟨h1, h2, h3⟩ := tag_ins h
    refine isiD_of h1 (tbOf_f (fun z => h3 ?_) (List.mem_append_right _ h2))
    revert z; simp [tyNames]; intro z; simp [z]
  | exc _ _ => cases h
  | hnd _ => cases h
  | dks _ => cases h
  | fn _ => cases h
  | adr _ _ => cases h
  | rps _ => cases h
  | scr _ => cases h
  | bl _ => exact isiD_of rfl (tbOf_t (by decide +kernel))
  | non => exact isiD_of rfl (tbOf_f (by decide +kernel) (List.mem_append_left _ (by decide +kernel)))
  | int _ => exact isiD_of rfl (tbOf_f (by decide +kernel) (List.mem_append_left _ (by decide +kernel)))
  | str _ => exact isiD_of rfl (tbOf_f (by decide +kernel) (List.mem_append_left _ (by decide +kernel)))
  | lst _ => exact isiD_of rfl (tbOf_f (by decide +kernel) (List.mem_append_left _ (by decide +kernel)))
  | tup _ => exact isiD_of rfl (tbOf_f (by decide +kernel) (List.mem_append_left _ (by decide +kernel)))
  | dct _ => exact isiD_of rfl (tbOf_f (by decide +kernel) (List.mem_append_left _ (by decide +kernel)))
theorem isi_seq {cs : List Str} {d : D} {s : S} (h : okD cs d = true) : (isiD (tb_kit_two_list_tuple cs) d : M S D) s = .ok (.bl (isSeqD d)) s := by
  cases d with
  | ins c fs =>
    obtain ⟨h1, h2, h3⟩ := tag_ins h
    refine isiD_of h1 (tbOf_f (fun z => h3 ?_) (List.mem_append_right _ h2))
    revert z; simp [tyNames]; intro z; rcases z with z | z <;> simp [z]
  | exc _ _ => cases h
  | hnd _ => cases h
  | dks _ => cases h
  | fn _ => cases h
  | adr _ _ => cases h
  | rps _ => cases h
  | scr _ => cases h
  | lst _ => exact isiD_of rfl (tbOf_t (by decide +kernel))
  | tup _ => exact isiD_of rfl (tbOf_t (by decide +kernel))
  | bl _ => exact isiD_of rfl (tbOf_f (by decide +kernel) (List.mem_append_left _ (by decide +kernel)))
  | non => exact isiD_of rfl (tbOf_f (by decide +kernel) (List.mem_append_left _ (by decide +kernel)))
  | int _ => exact isiD_of rfl (tbOf_f (by decide +kernel) (List.mem_append_left _ (by decide +kernel)))
  | str _ => exact isiD_of rfl (tbOf_f (by decide +kernel) (List.mem_append_left _ (by decide +kernel)))
  | dct _ => exact isiD_of rfl (tbOf_f (by decide +kernel) (List.mem_append_left _ (by decide +kernel)))
theorem isi_rh {cs : List Str} {d : D} {s : S} (h : okD cs d = true) : (isiD (tb_kit_own_Rhythm cs) d : M S D) s = .ok (.bl (isRhD d)) s := by
  cases d with
  | ins c fs =>
    obtain ⟨h1, h2, h3⟩ := tag_ins h
    by_cases hc : c = "Rhythm"
    · have e : isRhD (.ins c fs) = true := decide_eq_true hc
      rw [e]
      exact isiD_of h1 (tbOf_t (by rw [hc]; exact List.mem_singleton_self _))
    · have e : isRhD (.ins c fs) = false := decide_eq_false hc
      rw [e]
      exact isiD_of h1 (tbOf_f (fun z => hc (List.mem_singleton.mp z)) (List.mem_append_right _ h2))
  | exc _ _ => cases h
  | hnd _ => cases h
  | dks _ => cases h
  | fn _ => cases h
  | adr _ _ => cases h
  | rps _ => cases h
  | scr _ => cases h
  | lst _ => exact isiD_of rfl (tbOf_f (by decide +kernel) (List.mem_append_left _ (by decide +kernel)))
  | tup _ => exact isiD_of rfl (tbOf_f (by decide +kernel) (List.mem_append_left _ (by decide +kernel)))
  | bl _ => exact isiD_of rfl (tbOf_f (by decide +kernel) (List.mem_append_left _ (by decide +kernel)))
  | non => exact isiD_of rfl (tbOf_f (by decide +kernel) (List.mem_append_left _ (by decide +kernel)))
  | int _ => exact isiD_of rfl (tbOf_f (by decide +kernel) (List.mem_append_left _ (by decide +kernel)))
  | str _ => exact isiD_of rfl (tbOf_f (by decide +kernel) (List.mem_append_left _ (by decide +kernel)))
  | dct _ => exact isiD_of rfl (tbOf_f (by decide +kernel) (List.mem_append_left _ (by decide +kernel)))
theorem sem_num {cs : List Str} {d : D} {s : S} (h : okD cs d = true) : (sem_is_number cs [d] : M S D) s = .ok (.bl (isNumD d)) s := by
  show grd _ _ s = _; rw [grd_run, if_pos h]; rfl
theorem sem_isl {cs : List Str} {d : D} {s : S} (h : okD cs d = true) : (sem_is_list cs [d] : M S D) s = .ok (.bl (isSeqD d)) s := by
  show grd _ _ s = _; rw [grd_run, if_pos h]; rfl
theorem rfn_is_number {cs : List Str} : Rfn (S := S) (sem_is_number cs) (runB (rd_is_number cs) N_is_number) := fun ds s h => by
  obtain ⟨d, rfl, h1⟩ := a1_ne h
  obtain ⟨hd, _⟩ := grd_ne h1
  rw [sem_num hd]
  unfold runB rd_is_number
  rw [show startE N_is_number [d] = [some (.val d)] from rfl]
  simp only [sRet_run, andV_run, isi_run, notV_run, rVar_zero, Res.bind_ok, isi_int hd, isi_bool hd, truD_bl]
  cases d <;> simp [isNumD]
theorem rfn_is_list {cs : List Str} : Rfn (S := S) (sem_is_list cs) (runB (rd_is_list cs) N_is_list) := fun ds s h => by
  obtain ⟨d, rfl, h1⟩ := a1_ne h
  obtain ⟨hd, _⟩ := grd_ne h1
  rw [sem_isl hd]
  unfold runB rd_is_list
  rw [show startE N_is_list [d] = [some (.val d)] from rfl]
  simp only [sRet_run, isi_run, rVar_zero, Res.bind_ok, isi_seq hd]
/-! ### are_different -/
theorem dedup_len : ∀ (ns acc : List Int), (ns.foldl step_dedup acc).length ≤ acc.length + ns.length ∧ ((ns.foldl step_dedup acc).length = acc.length + ns.length ↔ ns.Nodup ∧ ∀ x ∈ ns, x ∉ acc)
  | [], acc => ⟨Nat.le_refl _, by simp⟩
  | n :: ns, acc => by
    rw [List.foldl_cons]
    rw [show step_dedup acc n = if acc.any (· == n) then acc else acc ++ [n] from rfl]
    by_cases h : (acc.any (· == n)) = true
    · rw [if_pos h]
      have ih := dedup_len ns acc
      have hm : n ∈ acc := by
        obtain ⟨x, hx, e⟩ := List.any_eq_true.mp h
        rw [← eq_of_beq e]; exact hx
      refine ⟨by rw [List.length_cons]; have := ih.1; omega, fun e => ?_, fun ⟨_, z⟩ => absurd hm (z n List.mem_cons_self)⟩
      have := ih.1
      rw [List.length_cons] at e
      omega
    · rw [if_neg h]
      have ih := dedup_len ns (acc ++ [n])
      have hm : n ∉ acc := fun z => h (List.any_eq_true.mpr ⟨n, z, beq_self_eq_true n⟩)
      rw [List.length_append, List.length_singleton] at ih
      refine ⟨by rw [List.length_cons]; have := ih.1; omega, fun e => ?_, fun ⟨z1, z2⟩ => ?_⟩
      · rw [List.length_cons] at e
        obtain ⟨h1, h2⟩ := ih.2.mp (by omega)
        refine ⟨List.nodup_cons.mpr ⟨fun z => h2 n z (by simp), h1⟩, fun x hx => ?_⟩
        rcases List.mem_cons.mp hx with e | hx
        · subst e; exact hm
        · exact fun z => h2 x hx (List.mem_append_left _ z)
      · obtain ⟨z3, z4⟩ := List.nodup_cons.mp z1
        rw [List.length_cons]
        have := ih.2.mpr ⟨z4, fun x hx z => by
          rcases List.mem_append.mp z with z | z
          · exact z2 x (List.mem_cons_of_mem _ hx) z
          · rw [List.mem_singleton.mp z] at hx; exact z3 hx⟩
        omega
theorem dedup_iff (ns : List Int) : ((dedup ns).length : Int) = (ns.length : Int) ↔ ns.Nodup := by
  have := (dedup_len ns []).2
  unfold dedup
  simp only [List.length_nil, Nat.zero_add] at this
  rw [Int.natCast_inj, this]
  simp
theorem numIn_ints {lo hi : Int} : ∀ {ds : List D}, ds.all (numIn lo hi) = true → ∃ ns, intsD ds = some ns ∧ ∀ n ∈ ns, lo ≤ n ∧ n ≤ hi := fun {ds} => by
  induction ds with
  | nil => intro _; exact ⟨[], rfl, by simp⟩
  | cons d ds ih =>
    intro h
    rw [List.all_cons, Bool.and_eq_true] at h
    obtain ⟨ns, e, hn⟩ := ih h.2
    cases d with
    | int i =>
      have h1 : (decide (lo ≤ i) && decide (i ≤ hi)) = true := h.1
      simp only [Bool.and_eq_true, decide_eq_true_eq] at h1
      refine ⟨i :: ns, by show (intsD ds).map (i :: ·) = _; rw [e]; rfl, fun n hn' => ?_⟩
      rcases List.mem_cons.mp hn' with z | z
      · subst z; exact h1
      · exact hn n z
    | _ => cases (show false = true from h.1)
theorem intsD_length {ds : List D} {ns : List Int} (h : intsD ds = some ns) : ds.length = ns.length := by rw [intsD_inv h, List.length_map]
/-- the test of each item -/
theorem diff_item {cs : List Str} {th x : D} {lo hi : Int} {s : S} (h : okD cs x = true) :
    andV (cal (sem_is_number cs) [] 1 (aCons (rVar 3) aNil)) (chn leD leD (rVar 1) (rVar 3) (rVar 2)) ([some (.val th), some (.val (.int lo)), some (.val (.int hi)), some (.val x)] : Env) s = .ok (.bl (numIn lo hi x)) s := by
  simp only [andV_run, cal_run, aCons_run, aNil_run, rVar_zero, rVar_succ, Res.bind_ok]
  simp only [List.length_cons, List.length_nil, List.append_nil, sem_num h, Res.bind_ok, truD_bl, if_true, Nat.zero_add, Nat.add_zero, chn_run, rVar_zero, rVar_succ]
  cases x with
  | int i =>
    simp only [isNumD, if_true, intOp0_run, Res.bind_ok]
    by_cases hl : lo ≤ i
    · simp [numIn, hl]
    · simp [numIn, hl]
  | _ => simp [isNumD, numIn]
theorem diff_comp {cs : List Str} {th : D} {lo hi : Int} {s : S} {ds : List D} (h : ds.all (okD cs) = true) :
    cmpL (gNm 3) tYs (andV (cal (sem_is_number cs) [] 1 (aCons (rVar 3) aNil)) (chn leD leD (rVar 1) (rVar 3) (rVar 2))) ([some (.val th), some (.val (.int lo)), some (.val (.int hi)), none] : Env) ds s = .ok (ds.map fun x => .bl (numIn lo hi x)) s :=
  cmpL_map _ fun x hx => diff_item (List.all_eq_true.mp h x hx)
theorem diff_run {cs : List Str} {th : D} {lo hi : Int} {s : S} {ds : List D} (hth : th = .lst ds ∨ th = .tup ds) (hl : ds.length ≤ 4000) (h : ds.all (okD cs) = true) : runB (rd_are_different cs) N_are_different [th, .int lo, .int hi] s = .ok (.bl (diffs lo hi ds)) s := by
  have hsz : ds.length ≤ sizeLine := Nat.le_trans hl (by decide)
  unfold runB rd_are_different
  rw [show startE N_are_different [th, .int lo, .int hi] = [some (.val th), some (.val (.int lo)), some (.val (.int hi)), none] from rfl]
  have e0 : (rVar 0 : Env → M S D) [some (.val th), some (.val (.int lo)), some (.val (.int hi)), none] s = .ok th s := rVar_run rfl
  have okt : okD cs th = true := by rcases hth with rfl | rfl <;> rfl
  have ist : isSeqD th = true := by rcases hth with rfl | rfl <;> rfl
  have eit : (iSq (rVar 0) : Env → M S (List D)) [some (.val th), some (.val (.int lo)), some (.val (.int hi)), none] s = .ok ds s := by
    rw [iSq_run, e0]
    rcases hth with rfl | rfl <;> rfl
  have elst : (bcl listD (aCons (rVar 0) aNil) : Env → M S D) [some (.val th), some (.val (.int lo)), some (.val (.int hi)), none] s = .ok (.lst ds) s := by
    simp only [bcl_run, aCons_run, aNil_run, e0, Res.bind_ok]
    rcases hth with rfl | rfl <;> rfl
  have elen : (bcl lenD (aCons (rVar 0) aNil) : Env → M S D) [some (.val th), some (.val (.int lo)), some (.val (.int hi)), none] s = .ok (.int ds.length) s := by
    simp only [bcl_run, aCons_run, aNil_run, e0, Res.bind_ok]
    rcases hth with rfl | rfl <;> rfl
  have ec : wipeE ([some (.val th), some (.val (.int lo)), some (.val (.int hi)), none] : Env) [3] = [some (.val th), some (.val (.int lo)), some (.val (.int hi)), none] := rfl
  have eall : (allD false [.lst (ds.map fun x => .bl (numIn lo hi x))] : M S D) s = .ok (.bl (ds.all (numIn lo hi))) s := by
    have eb : blsD (ds.map fun x => D.bl (numIn lo hi x)) = some (ds.map (numIn lo hi)) := by
      rw [← blsD_of, List.map_map]; rfl
    show (match blsD (ds.map fun x => D.bl (numIn lo hi x)) with
      | some bs => pure (.bl (if false then bs.any id else bs.all id))
      | none => stk : M S D) s = _
    rw [eb]
    show Res.ok (D.bl ((ds.map (numIn lo hi)).all id)) s = _
    rw [List.all_map]; rfl
  simp only [sSeq_run, sIf_run, orT_run, notT_run, asT_run, cal_run, aCons_run, aNil_run, e0, Res.bind_ok, List.length_cons, List.length_nil, Nat.zero_add, Nat.add_zero, if_true, List.append_nil, sem_isl okt, ist, Bool.not_true, Bool.false_eq_true, if_false,
    bcl_run (f := allD false), cmp_run, eit, hsz, ec, calm_of (diff_comp (th := th) (lo := lo) (hi := hi) (s := s) h), eall]
  cases ha : ds.all (numIn lo hi) with
  | false => simp [diffs, ha]
  | true =>
    obtain ⟨ns, en, hn⟩ := numIn_ints ha
    have hnl : ns.length ≤ 4000 := by rw [← intsD_length en]; exact hl
    have els : (lenSetI (.lst ds) : M S D) s = .ok (.int (dedup ns).length) s := by
      show (match intsD ds with
        | some ns => grd (ns.length ≤ 4000) (pure (.int (dedup ns).length))
        | none => stk : M S D) s = _
      rw [en]
      show grd _ _ s = _
      rw [grd_run, if_pos hnl]; rfl
    simp only [Bool.not_true, Bool.false_eq_true, if_false, sNx_run, Res.bind_ok, sRet_run, bin_run, lenSetD_run, elst, elen, els, eqD_int]
    have : ((dedup ns).length : Int) = (ds.length : Int) ↔ ns.Nodup := by rw [intsD_length en]; exact dedup_iff ns
    simp only [diffs, ha, en, Bool.true_and]
    congr 2
    by_cases hnd : ns.Nodup
    · simp [this.mpr hnd, hnd]
    · simp only [hnd, decide_false]
      exact beq_eq_false_iff_ne.mpr fun z => hnd (this.mp z)
theorem rfn_are_different {cs : List Str} : Rfn (S := S) (sem_are_different cs) (runB (rd_are_different cs) N_are_different) := fun ds s h => by
  have other : ∀ (d : D) (lo hi : Int), isSeqD d = false → okD cs d = true → runB (rd_are_different cs) N_are_different [d, .int lo, .int hi] s = .ok (.bl false) s := fun d lo hi hq ok => by
    unfold runB rd_are_different
    rw [show startE N_are_different [d, .int lo, .int hi] = [some (.val d), some (.val (.int lo)), some (.val (.int hi)), none] from rfl]
    simp only [sSeq_run, sIf_run, orT_run, notT_run, asT_run, cal_run, aCons_run, aNil_run, rVar_zero, rVar_succ, Res.bind_ok, List.length_cons, List.length_nil, Nat.zero_add, Nat.add_zero, if_true, List.append_nil, sem_isl ok, hq, Bool.not_false, sRet_run, rC_run]
  obtain ⟨d, e, f, rfl, h1⟩ := a3_ne h
  obtain ⟨lo, rfl, h2⟩ := onInt_ne h1
  obtain ⟨hi, rfl, h3⟩ := onInt_ne h2
  show _ = diffM cs lo hi d s
  cases d with
  | lst ds =>
    obtain ⟨hc, _⟩ := grd_ne h3
    rw [diff_run (.inl rfl) hc.1 hc.2]
    show _ = grd _ _ s
    rw [grd_run, if_pos hc]; rfl
  | tup ds =>
    obtain ⟨hc, _⟩ := grd_ne h3
    rw [diff_run (.inr rfl) hc.1 hc.2]
    show _ = grd _ _ s
    rw [grd_run, if_pos hc]; rfl
  | non => exact other _ _ _ rfl rfl
  | bl _ => exact other _ _ _ rfl rfl
  | int _ => exact other _ _ _ rfl rfl
  | str _ => exact other _ _ _ rfl rfl
  | dct _ => exact other _ _ _ rfl rfl
  | ins c fs =>
    obtain ⟨hc, _⟩ := grd_ne h3
    rw [other _ _ _ rfl hc]
    show _ = grd _ _ s
    rw [grd_run, if_pos hc]; rfl
  | exc _ _ => exact absurd (grd_ne h3).1 Bool.false_ne_true
  | hnd _ => exact absurd (grd_ne h3).1 Bool.false_ne_true
  | dks _ => exact absurd (grd_ne h3).1 Bool.false_ne_true
  | fn _ => exact absurd (grd_ne h3).1 Bool.false_ne_true
  | adr _ _ => exact absurd (grd_ne h3).1 Bool.false_ne_true
  | rps _ => exact absurd (grd_ne h3).1 Bool.false_ne_true
  | scr _ => exact absurd (grd_ne h3).1 Bool.false_ne_true
end
end DL
set_option Elab.async false
set_option linter.all false
set_option maxRecDepth 100000
set_option maxHeartbeats 4000000
set_option autoImplicit false
namespace DL
open PySem PySem.Spec PyProof.Rows L2 Rh
section
variable {S : Type}
/-! ### common -/
theorem gcd_step {a b : Int} (ha : 0 ≤ a) : Int.gcd b (a % b) = Int.gcd a b := by
  show Nat.gcd b.natAbs (a % b).natAbs = Nat.gcd a.natAbs b.natAbs
  rw [Int.natAbs_emod_of_nonneg ha, Nat.gcd_comm a.natAbs b.natAbs, Nat.gcd_rec b.natAbs a.natAbs, Nat.gcd_comm]
theorem common_loop {i j : D} {s : S} : ∀ (k : Nat) (a b : Int), b.toNat = k → 0 ≤ a → 0 ≤ b →
    sWhl (asT (bin gtD (rVar 3) (rC (.int 0)))) (sPar 2 3 (aCons (rVar 3) (aCons (bin modD (rVar 2) (rVar 3)) aNil))) ([some (.val i), some (.val j), some (.val (.int a)), some (.val (.int b))] : Env) s
      = .ok (.nx [some (.val i), some (.val j), some (.val (.int (Int.gcd a b))), some (.val (.int 0))]) s := by
  intro k
  induction k using Nat.strongRecOn with
  | ind k ih =>
    intro a b hk ha hb
    rw [sWhl_eq]
    have ec : asT (bin gtD (rVar 3) (rC (.int 0))) ([some (.val i), some (.val j), some (.val (.int a)), some (.val (.int b))] : Env) s = .ok (decide (0 < b)) s := by
      simp only [asT_run, bin_run, rVar_succ, rVar_zero, rC_run, Res.bind_ok, intOp0_run]
    show (Res.bind _ _) = _
    rw [ec]
    by_cases h : 0 < b
    · have el : (aCons (rVar 3) (aCons (bin modD (rVar 2) (rVar 3)) aNil) : Env → M S (List D)) [some (.val i), some (.val j), some (.val (.int a)), some (.val (.int b))] s = .ok [.int b, .int (a % b)] s := by
        simp only [aCons_run, aNil_run, bin_run, rVar_succ, rVar_zero, Res.bind_ok, intOp_run, if_pos h]
      have e2 := ih (a % b).toNat (by have := Int.emod_lt_of_pos a h; have := Int.emod_nonneg a (show b ≠ 0 by omega); omega) b (a % b) rfl hb (Int.emod_nonneg a (by omega))
      rw [gcd_step ha] at e2
      simp only [Res.bind_ok, decide_eq_true h]
      show (Res.bind _ _) = _
      rw [sPar_run el]
      exact e2
    · have : b = 0 := by omega
      subst this
      simp only [Res.bind_ok]
      show Res.ok (Flw.nx _) s = _
      rw [Int.gcd_zero_right]
      have : (a.natAbs : Int) = a := by omega
      rw [this]
theorem sem_com {i j : Int} {s : S} (h : 1 ≤ i ∧ i < 1073741824 ∧ 1 ≤ j ∧ j < 1073741824) : (sem_common [.int i, .int j] : M S D) s = .ok (.int (lcmI i j)) s := by
  show grd _ _ s = _; rw [grd_run, if_pos h]; rfl
theorem rfn_common : Rfn (S := S) sem_common (runB rd_common N_common) := fun ds s h => by
  obtain ⟨x, y, rfl, h1⟩ := a2_ne h
  obtain ⟨i, rfl, h2⟩ := onInt_ne h1
  obtain ⟨j, rfl, h3⟩ := onInt_ne h2
  obtain ⟨hc, _⟩ := grd_ne h3
  rw [sem_com hc]
  unfold runB rd_common
  rw [show startE N_common [.int i, .int j] = [some (.val (.int i)), some (.val (.int j)), none, none] from rfl]
  have el : (aCons (rVar 0) (aCons (rVar 1) aNil) : Env → M S (List D)) [some (.val (.int i)), some (.val (.int j)), none, none] s = .ok [.int i, .int j] s := by
    simp only [aCons_run, aNil_run, rVar_succ, rVar_zero, Res.bind_ok]
  have hg1 : 0 < (Int.gcd i j : Int) := by
    have : 0 < Int.gcd i j := Nat.gcd_pos_of_pos_left _ (by omega)
    omega
  have hg2 : (Int.gcd i j : Int) ≤ i := Int.le_of_dvd (by omega) (Int.gcd_dvd_left i j)
  have hg3 : 0 ≤ i / (Int.gcd i j : Int) := Int.ediv_nonneg (by omega) (by omega)
  have hg4 : i / (Int.gcd i j : Int) ≤ i := Int.ediv_le_self _ (by omega)
  have hd : CDiv i (Int.gcd i j) := ⟨hg1, by omega⟩
  have hm : CMul (i / (Int.gcd i j : Int)) j := .inl ⟨by omega, by omega⟩
  have eS : ((([some (.val (.int i)), some (.val (.int j)), none, none] : Env).set 2 (some (.val (.int i)))).set 3 (some (.val (.int j)))) = [some (.val (.int i)), some (.val (.int j)), some (.val (.int i)), some (.val (.int j))] := rfl
  simp only [sSeq_run, sPar_run el, Res.bind_ok, eS, common_loop j.toNat i j rfl (by omega) (by omega), sRet_run, bin_run, rVar_succ, rVar_zero, intOp_run, if_pos hd, if_pos hm]
  rfl
/-! ### repeats, least_form -/
theorem inD_ints {x : Int} {ns : List Int} {s : S} {neg : Bool} : (inD neg (.int x) (.lst (ns.map .int)) : M S D) s = .ok (.bl (if neg then !decide (x ∈ ns) else decide (x ∈ ns))) s := by
  have hf : (ns.map D.int).all flatD = true := by
    rw [List.all_eq_true]
    intro d hd
    obtain ⟨n, _, rfl⟩ := List.mem_map.mp hd
    rfl
  have ha : ((ns.map D.int).any fun y => eqF y (.int x)) = decide (x ∈ ns) := by
    rw [List.any_map, Bool.eq_iff_iff, List.any_eq_true]
    simp only [decide_eq_true_eq]
    constructor
    · rintro ⟨n, hn, e⟩
      have e : (n == x) = true := e
      rw [← eq_of_beq e]; exact hn
    · intro hx
      exact ⟨x, hx, by show (x == x) = true; exact beq_self_eq_true x⟩
  show grd _ _ s = _
  rw [grd_run, if_pos ⟨rfl, hf⟩, ha]; rfl
theorem inD_intsT {x : Int} {ns : List Int} {s : S} {neg : Bool} : (inD neg (.int x) (.tup (ns.map .int)) : M S D) s = .ok (.bl (if neg then !decide (x ∈ ns) else decide (x ∈ ns))) s := inD_ints
theorem allD_map {α : Type} {s : S} (f : α → Bool) (xs : List α) : (allD false [.lst (xs.map fun x => .bl (f x))] : M S D) s = .ok (.bl (xs.all f)) s := by
  have eb : blsD (xs.map fun x => D.bl (f x)) = some (xs.map f) := by
    rw [← blsD_of, List.map_map]; rfl
  show (match blsD (xs.map fun x => D.bl (f x)) with
    | some bs => pure (.bl (if false then bs.any id else bs.all id))
    | none => stk : M S D) s = _
  rw [eb]
  show Res.ok (D.bl ((xs.map f).all id)) s = _
  rw [List.all_map]; rfl
/-- a comprehension over ints -/
theorem cmpL_ints {env : Env} {s : S} {t : Env → M S Bool} {e : Env → M S D} {i : Nat} (p : Int → Bool) (f : Int → D) {ns : List Int} (ht : ∀ n ∈ ns, t (env.set i (some (.val (.int n)))) s = .ok (p n) s) (he : ∀ n ∈ ns, p n = true → e (env.set i (some (.val (.int n)))) s = .ok (f n) s) :
    cmpL (gNm i) t e env (ns.map .int) s = .ok ((ns.filter p).map f) s := by
  induction ns with
  | nil => rfl
  | cons x xs ih =>
    have ih := ih (fun y hy => ht y (List.mem_cons_of_mem _ hy)) fun y hy => he y (List.mem_cons_of_mem _ hy)
    show (t (env.set i (some (.val (.int x)))) s).bind _ = _
    rw [ht x List.mem_cons_self]
    cases hp : p x with
    | true =>
      show (e (env.set i (some (.val (.int x)))) s).bind _ = _
      rw [he x List.mem_cons_self hp]
      show (cmpL (gNm i) t e env (xs.map .int) s).bind _ = _
      rw [ih, List.filter_cons_of_pos hp]
      rfl
    | false =>
      show cmpL (gNm i) t e env (xs.map .int) s = _
      rw [ih, List.filter_cons_of_neg (by rw [hp]; exact Bool.false_ne_true)]
theorem cmpL_intsM {env : Env} {s : S} {e : Env → M S D} {i : Nat} (f : Int → D) {ns : List Int} (he : ∀ n ∈ ns, e (env.set i (some (.val (.int n)))) s = .ok (f n) s) :
    cmpL (gNm i) tYs e env (ns.map .int) s = .ok (ns.map f) s := by
  rw [cmpL_ints (fun _ => true) f (fun _ _ => rfl) fun n hn _ => he n hn, List.filter_eq_self.mpr (fun _ _ => rfl)]
theorem rngD_eq (lo hi : Int) : rngD lo hi = (rngI lo hi).map .int := by
  unfold rngD rngI
  rw [List.map_map]; rfl
theorem rngI_length (lo hi : Int) : (rngI lo hi).length = (hi - lo).toNat := by unfold rngI; rw [List.length_map, List.length_range]
theorem sz3 {n : Nat} (h : n ≤ 3000) : n ≤ sizeLine := Nat.le_trans h (by decide)
theorem sem_rep {n q : Int} {rs : List Int} {s : S} (h : 0 < n) (hl : rs.length ≤ 3000) : (sem_repeats [.int n, .lst (rs.map .int), .int q] : M S D) s = .ok (.bl (rep n rs q)) s := by
  simp only [sem_repeats, a3_run, onInt_run, onInts_run, grd_run, if_pos (And.intro h hl), pure_run]
theorem rfn_repeats : Rfn (S := S) sem_repeats (runB rd_repeats N_repeats) := fun ds s h => by
  obtain ⟨x, y, z, rfl, h1⟩ := a3_ne h
  obtain ⟨n, rfl, h2⟩ := onInt_ne h1
  obtain ⟨rs, rfl, h3⟩ := onInts_ne h2
  obtain ⟨q, rfl, h4⟩ := onInt_ne h3
  obtain ⟨⟨hc, hl⟩, h5⟩ := grd_ne h4
  rw [sem_rep hc hl]
  unfold runB rd_repeats
  rw [show startE N_repeats [.int n, .lst (rs.map .int), .int q] = [some (.val (.int n)), some (.val (.lst (rs.map .int))), some (.val (.int q)), none] from rfl]
  have ew : wipeE ([some (.val (.int n)), some (.val (.lst (rs.map .int))), some (.val (.int q)), none] : Env) [3] = [some (.val (.int n)), some (.val (.lst (rs.map .int))), some (.val (.int q)), none] := rfl
  have ec := cmpL_intsM (S := S) (s := s) (env := [some (.val (.int n)), some (.val (.lst (rs.map .int))), some (.val (.int q)), none]) (i := 3) (e := bin (inD false) (bin modD (bin addD (rVar 3) (rVar 2)) (rVar 0)) (rVar 1)) (fun r => .bl (decide ((r + q) % n ∈ rs))) (ns := rs) (fun r hr => by
    simp only [List.set_cons_succ, List.set_cons_zero, bin_run, rVar_succ, rVar_zero, Res.bind_ok, addD_int, intOp_run, if_pos hc, inD_ints]; rfl)
  simp only [sRet_run, bcl_run, aCons_run, aNil_run, cmp_run, iSq_run, rVar_succ, rVar_zero, Res.bind_ok, List.length_map, sz3 hl, if_true, ew, calm_of ec, allD_map]
  rfl
theorem sem_lf {n : Int} {rs : List Int} {s : S} (h : wfB n rs = true ∧ n ≤ 3000 ∧ rs.length ≤ 3000) : (sem_least_form [.int n, .lst (rs.map .int)] : M S D) s = .ok (formD n rs) s := by
  simp only [sem_least_form, a2_run, onInt_run, onInts_run, grd_run, if_pos h, pure_run]
theorem atI_zero {α : Type} {x : α} {xs : List α} : atI (x :: xs) 0 = some x := by simp [atI, ixN]
theorem atI_one {α : Type} {x y : α} {xs : List α} : atI (x :: y :: xs) 1 = some y := by
  unfold atI ixN
  rw [if_pos (by decide), if_pos (by simp only [List.length_cons]; omega)]
  rfl
theorem ixD_lst0 {x : D} {xs : List D} {s : S} : (ixD (.lst (x :: xs)) (.int 0) : M S D) s = .ok x s := by
  show (match atI (x :: xs) 0 with | some x => pure x | none => stk : M S D) s = _
  rw [atI_zero]; rfl
theorem ixD_tup0 {x : D} {xs : List D} {s : S} : (ixD (.tup (x :: xs)) (.int 0) : M S D) s = .ok x s := ixD_lst0
theorem ixD_tup1 {x y : D} {xs : List D} {s : S} : (ixD (.tup (x :: y :: xs)) (.int 1) : M S D) s = .ok y s := by
  show (match atI (x :: y :: xs) 1 with | some x => pure x | none => stk : M S D) s = _
  rw [atI_one]; rfl
theorem ixD_lst1 {x y : D} {xs : List D} {s : S} : (ixD (.lst (x :: y :: xs)) (.int 1) : M S D) s = .ok y s := ixD_tup1
theorem sortD_ints {ns : List Int} {s : S} : (sortD [.lst (ns.map .int)] : M S D) s = .ok (.lst ((srt ns).map .int)) s := by
  show (match intsD (ns.map .int) with
    | some bs => pure (.lst ((srt bs).map D.int))
    | none => stk : M S D) s = _
  rw [intsD_of]; rfl
theorem parts_cons {n : Int} {rs : List Int} (w : Wf n rs) : ∃ l, parts n rs = leastP n rs :: l := by
  have := leastP_mem w
  unfold leastP at this ⊢
  cases e : parts n rs with
  | nil => rw [e] at this; cases this
  | cons a l => exact ⟨l, rfl⟩
theorem rfn_least_form : Rfn (S := S) sem_least_form (runB rd_least_form N_least_form) := fun ds s h => by
  obtain ⟨x, y, rfl, h1⟩ := a2_ne h
  obtain ⟨n, rfl, h2⟩ := onInt_ne h1
  obtain ⟨rs, rfl, h3⟩ := onInts_ne h2
  obtain ⟨hc, h5⟩ := grd_ne h3
  rw [sem_lf hc]
  obtain ⟨hw, hn, hl⟩ := hc
  have w := wfB_iff.mp hw
  have hp := w.pos
  unfold runB rd_least_form
  rw [show startE N_least_form [.int n, .lst (rs.map .int)] = [some (.val (.int n)), some (.val (.lst (rs.map .int))), none, none, none] from rfl]
  have ew : wipeE ([some (.val (.int n)), some (.val (.lst (rs.map .int))), none, none, none] : Env) [3] = [some (.val (.int n)), some (.val (.lst (rs.map .int))), none, none, none] := rfl
  have ec := cmpL_ints (S := S) (s := s) (env := [some (.val (.int n)), some (.val (.lst (rs.map .int))), none, none, none]) (i := 3)
    (t := andT (asT (bin (eqD false) (bin modD (rVar 0) (rVar 3)) (rC (.int 0)))) (asT (cal sem_repeats [] 3 (aCons (rVar 0) (aCons (rVar 1) (aCons (rVar 3) aNil)))))) (e := rVar 3)
    (fun q => decide (n % q = 0) && rep n rs q) (fun q => .int q) (ns := rngI 1 (n + 1)) (fun q hq => by
      have hq := mem_rngI.mp hq
      simp only [List.set_cons_succ, List.set_cons_zero, andT_run, asT_run, bin_run, rVar_succ, rVar_zero, rC_run, Res.bind_ok, intOp_run, if_pos (show 0 < q by omega), eqD_int, cal_run, aCons_run, aNil_run, List.length_cons, List.length_nil, List.append_nil, Nat.zero_add, Nat.add_zero, if_true, sem_rep (show 0 < n by omega) hl]
      by_cases hz : n % q = 0 <;> simp [hz]) (fun q hq _ => by simp only [List.set_cons_succ, List.set_cons_zero, rVar_succ, rVar_zero])
  have hr : ((rngI 1 (n + 1)).map D.int).length ≤ sizeLine := by rw [List.length_map, rngI_length]; exact sz3 (by omega)
  obtain ⟨l, el⟩ := parts_cons w
  have ec2 : cmpL (gNm 3) (andT (asT (bin (eqD false) (bin modD (rVar 0) (rVar 3)) (rC (.int 0)))) (asT (cal sem_repeats [] 3 (aCons (rVar 0) (aCons (rVar 1) (aCons (rVar 3) aNil)))))) (rVar 3) ([some (.val (.int n)), some (.val (.lst (rs.map .int))), none, none, none] : Env) ((rngI 1 (n + 1)).map .int) s = .ok (.int (leastP n rs) :: l.map .int) s := by
    rw [ec]
    show Res.ok ((parts n rs).map D.int) s = _
    rw [el]; rfl
  have hb : -(2 ^ 62) ≤ (1 : Int) ∧ (1 : Int) < 2 ^ 62 ∧ -(2 ^ 62) ≤ n + 1 ∧ n + 1 < 2 ^ 62 := by omega
  have ew2 : wipeE ([some (.val (.int n)), some (.val (.lst (rs.map .int))), some (.val (.lst (.int (leastP n rs) :: l.map .int))), none, none] : Env) [4] = [some (.val (.int n)), some (.val (.lst (rs.map .int))), some (.val (.lst (.int (leastP n rs) :: l.map .int))), none, none] := rfl
  have ec3 := cmpL_ints (S := S) (s := s) (env := [some (.val (.int n)), some (.val (.lst (rs.map .int))), some (.val (.lst (.int (leastP n rs) :: l.map .int))), none, none]) (i := 4)
    (t := asT (bin ltD (rVar 4) (bin ixD (rVar 2) (rC (.int 0))))) (e := rVar 4) (fun r => decide (r < leastP n rs)) (fun q => .int q) (ns := srt rs) (fun q hq => by
      simp only [List.set_cons_succ, List.set_cons_zero, asT_run, bin_run, rVar_succ, rVar_zero, rC_run, Res.bind_ok, ixD_lst0, intOp0_run]) (fun q hq _ => by simp only [List.set_cons_succ, List.set_cons_zero, rVar_succ, rVar_zero])
  have hs : ((srt rs).map D.int).length ≤ sizeLine := by rw [List.length_map, (srt_perm rs).length_eq]; exact sz3 hl
  simp only [sSeq_run, sAsg_run, cmp_run, iR2_run, aCons_run, aNil_run, rC_run, bin_run, rVar_succ, rVar_zero, Res.bind_ok, addD_int, a2_run, onInt_run, grd_run, if_pos hb, pure_run, rngD_eq, if_pos hr, ew, calm_of ec2, gNm_run, List.set_cons_succ, List.set_cons_zero,
    sRet_run, tupD_run, ixD_lst0, bcl_run, iSq_run, sortD_ints, if_pos hs, ew2, calm_of ec3]
  simp only [tupleD, a1_run, onSeq_lst, pure_run, Res.bind_ok, List.length_cons, List.length_nil]
  rw [if_pos (show 0 + 1 + 1 ≤ sizeLine by decide)]
  rfl
end
end DL
set_option Elab.async false
set_option linter.all false
set_option maxRecDepth 100000
set_option maxHeartbeats 4000000
set_option autoImplicit false
/-! printed by tools/mklw.py: the drawing helpers of the laws -/
namespace DL
open PySem PySem.Spec PyProof.Rows L2
abbrev N__law_mixed : List Str := ["_law_draw", "_law_turn", "_law_found", "_law_prime", "_law_blend", "_law_cell"]
def rd__law_mixed (cells : List Int) : Env → M DrS Flw :=
  (sSeq (sAsg (bin addD (drwGet (fun s => .int s.turn) (rVar 0)) (rC (.int 1))) (gNm 1)) (sSeq (drwSet (fun i s => { s with turn := i }) (rVar 1) (rVar 0)) (sSeq (sAsg (rC (.int 0)) (gNm 2)) (sSeq (sFor (iSq (lstD (aCons (rC (.int 2147483629)) (aCons (rC (.int 2147483587)) (aCons (rC (.int 2147483579)) (aCons (rC (.int 2147483563)) aNil)))))) (gNm 3) (sSeq (sAsg (bin modD (bcl int1D (aCons (bin addD (bin mulD (rVar 1) (rC (.int 69621))) (bin divD (rVar 3) (rC (.int 7)))) aNil)) (rVar 3)) (gNm 4)) (sSeq (sFor (iCl cells (drwGet (fun _ => .hnd 2) (rVar 0))) (gNm 5) (sAsg (bin modD (bcl int1D (aCons (bin addD (bin mulD (rVar 4) (rC (.int 48271))) (rVar 5)) aNil)) (rVar 3)) (gNm 4))) (sAsg (bin addD (bin mulD (rVar 2) (rC (.int 2147483647))) (bin modD (bcl int1D (aCons (bin powD (rVar 4) (rC (.int 5))) aNil)) (rVar 3))) (gNm 2))))) (sRet (rVar 2))))))
def sem__law_mixed (cells : List Int) : List D → M DrS D := runB (rd__law_mixed cells) N__law_mixed
abbrev N__law_take : List Str := ["_law_draw", "_law_many", "_law_found"]
def rd__law_take (cells : List Int) : Env → M DrS Flw :=
  (sSeq (sIf (andT (asT (bin (eqD false) (drwGet (fun s => .int s.left) (rVar 0)) (rC (.int 0)))) (neW (drwGet (fun _ => .hnd 1) (rVar 0)))) (drwSet (fun i s => { s with left := i }) (popW (drwGet (fun _ => .hnd 1) (rVar 0))) (rVar 0)) sNx) (sSeq (sIf (asT (bin (eqD false) (drwGet (fun s => .int s.left) (rVar 0)) (rC (.int 0)))) (drwSet (fun i s => { s with left := i }) (cal (sem__law_mixed cells) [] 1 (aCons (rVar 0) aNil)) (rVar 0)) sNx) (sSeq (sAsg (bin modD (bcl int1D (aCons (drwGet (fun s => .int s.left) (rVar 0)) aNil)) (rVar 1)) (gNm 2)) (sSeq (drwSet (fun i s => { s with left := i }) (bin divD (drwGet (fun s => .int s.left) (rVar 0)) (rVar 1)) (rVar 0)) (sRet (rVar 2))))))
def sem__law_take (cells : List Int) : List D → M DrS D := runB (rd__law_take cells) N__law_take
abbrev N__law_pick : List Str := ["_law_draw", "_law_some"]
def rd__law_pick (cells : List Int) : Env → M DrS Flw :=
  (sRet (bin ixD (rVar 1) (cal (sem__law_take cells) [] 2 (aCons (rVar 0) (aCons (bcl lenD (aCons (rVar 1) aNil)) aNil)))))
def sem__law_pick (cells : List Int) : List D → M DrS D := runB (rd__law_pick cells) N__law_pick
end DL
set_option Elab.async false
set_option linter.all false
set_option maxRecDepth 100000
set_option maxHeartbeats 4000000
set_option autoImplicit false
namespace DL
open PySem PySem.Spec PyProof.Rows L2 Rh
/-! ### the draws begin -/
def absI (i : Int) : Int := if i < 0 then -i else i
def widesOf (ns : List Int) : List Int := (ns.filter fun n => decide (10 ^ 18 ≤ absI n)).map fun n => absI n - 10 ^ 18
/-- all but the tables of code objects -/
def noT (H : Hp) : Hp := fun a => match H a with
  | some (.tbl _) => none
  | o => o
theorem noT_of {H : Hp} {a : Addr} {o : HO} (e : H a = some o) (n : NoTbl o) : noT H a = some o := by
  unfold noT
  rw [e]
  cases o <;> first | rfl | exact absurd rfl (n _)
theorem noT_same (H : Hp) : Same (noT H) H := fun a o e => by
  unfold noT at e
  cases h : H a with
  | none => rw [h] at e; cases e
  | some u =>
    rw [h] at e
    cases u <;> first | exact e | cases e
theorem noT_nt (H : Hp) (a : Addr) (o : HO) (e : noT H a = some o) : NoTbl o := fun ps z => by
  subst z
  unfold noT at e
  cases h : H a with
  | none => rw [h] at e; cases e
  | some u =>
    rw [h] at e
    cases u <;> cases e
theorem noT_none {H : Hp} {a : Addr} (e : H a = none) : noT H a = none := by unfold noT; rw [e]
theorem noT_sq {K : PySem.W.Frag} {H : Hp} {a : Addr} {xs : List V} (h : SqL K H a xs) : SqL K (noT H) a xs := by
  rcases h with (h | ⟨o, h⟩) | h
  · exact .inl (.inl (noT_of h (by intro _ h; cases h)))
  · exact .inl (.inr ⟨o, noT_of h (by intro _ h; cases h)⟩)
  · exact .inr h
def unitCc (K : PySem.W.Frag) (cad : Str → Addr) (H0 : Hp) : Cc Unit where
  K := K
  cad := cad
  hnd := fun _ => .non
  rep := fun _ H => ∀ a ps, H0 a = some (.tbl ps) → H a = some (.tbl ps)
  reg := fun _ => False
  frame := fun _ _ _ h r a ps e => h _ _ (r a ps e) (.inr trivial)
  there := fun _ _ _ _ h => h.elim
def spBegun (K : PySem.W.Frag) : Sp := fun vs H Q _ => ∃ a ns, vs = [.ref a] ∧ SqL K H a (ns.map V.int) ∧ ns.length ≤ 3000 ∧
  ∀ dp wl cl H', dp ≠ wl → dp ≠ cl → wl ≠ cl → H dp = none → H wl = none → H cl = none → Same H H' → (∀ b, H' b = none → H b = none) → RepDr dp wl cl (ns.map absI) ⟨widesOf ns, 0, 0⟩ H' → Q (.ref dp) H'
theorem repL_ints {S : Type} {C : Cc S} {G : Hp} : ∀ {ns : List Int} {vs : List V}, RepL C G (ns.map .int) vs → vs = ns.map V.int
  | [], _, r => r
  | n :: ns, _, ⟨v, r, e, a, b⟩ => by
    subst e
    have a : v = .int n := a
    subst a
    rw [repL_ints b]; rfl
theorem wide_run {ns : List Int} {x y : Option Slot} (h : ns.length ≤ 3000) : (cmp [2] (iSq (rVar 0)) (gNm 2) (asT (bin geD (bcl absD (aCons (rVar 2) aNil)) (bin powD (rC (.int 10)) (rC (.int 18))))) (bin subD (bcl absD (aCons (rVar 2) aNil)) (bin powD (rC (.int 10)) (rC (.int 18)))) : Env → M Unit D) [some (.val (.scr ns)), x, y] () = .ok (.lst ((widesOf ns).map .int)) () := by
  rw [cmp_run, iSq_run, rVar_zero, Res.bind_ok, Res.bind_ok, if_pos (by rw [List.length_map]; exact sz3 h)]
  rw [calm_of (cmpL_ints (fun n => decide (10 ^ 18 ≤ absI n)) (fun n => .int (absI n - 10 ^ 18)) ?_ ?_)]
  · show Res.ok (D.lst _) () = Res.ok (D.lst _) ()
    unfold widesOf
    rw [List.map_map]; rfl
  · intro n _
    rfl
  · intro n _ _
    rfl
theorem cells_run {ns : List Int} {x y : Option Slot} (h : ns.length ≤ 3000) : (cmp [2] (iSq (rVar 0)) (gNm 2) tYs (bcl absD (aCons (rVar 2) aNil)) : Env → M Unit D) [some (.val (.scr ns)), x, y] () = .ok (.lst ((ns.map absI).map .int)) () := by
  rw [cmp_run, iSq_run, rVar_zero, Res.bind_ok, Res.bind_ok, if_pos (by rw [List.length_map]; exact sz3 h)]
  rw [calm_of (cmpL_intsM (fun n => .int (absI n)) ?_)]
  · show Res.ok (D.lst _) () = Res.ok (D.lst _) ()
    rw [List.map_map]; rfl
  · intro n _
    rfl
def tBegun (F : Fx Unit) : TS := tSeq (tAsg (tLc (tI F (iSq (rVar 0))) (gName 2) (tT F.calm (asT (bin geD (bcl absD (aCons (rVar 2) aNil)) (bin powD (rC (.int 10)) (rC (.int 18)))))) (tE F.calm (bin subD (bcl absD (aCons (rVar 2) aNil)) (bin powD (rC (.int 10)) (rC (.int 18))))) [2]) (gName 1))
      (tRet (tDisp [(tE F (rC (.str "wide")), tVar 1), (tE F (rC (.str "left")), tE F (rC (.int 0))),
        (tE F (rC (.str "cells")), tLc (tI F (iSq (rVar 0))) (gName 2) (tT F.calm tYs) (tE F.calm (bcl absD (aCons (rVar 2) aNil))) [2]),
        (tE F (rC (.str "turn")), tE F (rC (.int 0)))]))
section
variable {K : PySem.W.Frag} {cad : Str → Addr} {H0 : Hp} {E : XK}
theorem begun_of {a : Addr} {ns : List Int} {Q : VK} {D : Ends} (hD : D.rt = Q) (hs : SqL K H0 a (ns.map V.int)) (hl : ns.length ≤ 3000)
    (hq : ∀ dp wl cl H', dp ≠ wl → dp ≠ cl → wl ≠ cl → H0 dp = none → H0 wl = none → H0 cl = none → Same H0 H' → (∀ b, H' b = none → H0 b = none) → RepDr dp wl cl (ns.map absI) ⟨widesOf ns, 0, 0⟩ H' → Q (.ref dp) H') :
    tBegun (fxOf (unitCc K cad H0) (noT H0) H0 E) D (L2.start ["_law_script", "_law_wide", "_law_cell"] [.ref a]) H0 := by
  have st0 : StG (fxOf (unitCc K cad H0) (noT H0) H0 E) (noT H0) (L2.start ["_law_script", "_law_wide", "_law_cell"] [.ref a]) H0 (startE ["_law_script", "_law_wide", "_law_cell"] [.scr ns]) () :=
    ⟨Ext.refl _ _ _, ⟨noT_same _, fun _ _ e => e, fun _ z => z.elim, noT_nt _⟩, repEnv_start (RepL.one ⟨a, rfl, noT_sq hs⟩)⟩
  unfold tBegun tSeq tAsg
  refine tLcN_of (F := fxOf (unitCc K cad H0) (noT H0) H0 E) (own := [2]) (γ := gNm 2) (gw_name (by decide)) _ _ _ ⟨noT H0, _, (), st0, ?_⟩
  show Post _ _ _ ((cmp [2] (iSq (rVar 0)) (gNm 2) _ _ : Env → M Unit DL.D) [some (.val (.scr ns)), none, none] ()) _
  rw [wide_run hl]
  intro v G1 H1 ⟨wl, hv, nw⟩ e1 st1 r1
  subst hv
  have st2 := st1.set 1 r1
  obtain ⟨wl', vw, ew, gw, zw, rw_⟩ := r1
  cases ew
  have hw1 := st1.gd.gh _ _ gw
  rw [repL_ints rw_] at hw1
  intro dp ndp
  have nrd : ∀ b : Addr, ¬ (fxOf (unitCc K cad H0) (noT H0) H0 E).reg b := fun _ z => z
  have ndp0 : H0 dp = none := e1.tr dp ndp
  have hdw : dp ≠ wl := fun z => by rw [z, hw1] at ndp; cases ndp
  obtain ⟨g3, e3⟩ := st2.gd.open_ ndp (.dK [])
  have st3 := st2.ext' e3 g3
  -- wide
  refine ⟨_, _, _, st3, fun v G4 H4 e4 st4 r4 => ?_⟩
  have r4 : v = .str "wide" := r4
  subst r4
  refine ⟨.ref wl, by rfl, ?_⟩
  -- left
  refine ⟨_, _, _, st4, fun v G5 H5 e5 st5 r5 => ?_⟩
  have r5 : v = .str "left" := r5
  subst r5
  refine ⟨_, _, _, st5, fun v G6 H6 e6 st6 r6 => ?_⟩
  have r6 : v = .int 0 := r6
  subst r6
  -- cells
  refine ⟨_, _, _, st6, fun v G7 H7 e7 st7 r7 => ?_⟩
  have r7 : v = .str "cells" := r7
  subst r7
  refine tLcN_of (F := fxOf (unitCc K cad H0) (noT H0) H0 E) (own := [2]) (γ := gNm 2) (gw_name (by decide)) _ _ _ ⟨_, _, _, st7, ?_⟩
  show Post _ _ _ ((cmp [2] (iSq (rVar 0)) (gNm 2) _ _ : Env → M Unit DL.D) [some (.val (.scr ns)), some (.val (.lst ((widesOf ns).map .int))), none] ()) _
  rw [cells_run hl]
  intro v G8 H8 ⟨cl, hv, ncl⟩ e8 st8 r8
  subst hv
  obtain ⟨cl', vc, ec, gc, zc, rc_⟩ := r8
  cases ec
  -- turn
  refine ⟨_, _, _, st8, fun v G9 H9 e9 st9 r9 => ?_⟩
  have r9 : v = .str "turn" := r9
  subst r9
  refine ⟨_, _, _, st9, fun v GA HA eA stA rA => ?_⟩
  have rA : v = .int 0 := rA
  subst rA
  have e37 := (e4.trans e5).trans (e6.trans e7)
  have e8A := e9.trans eA
  have e3A := e37.trans (e8.trans e8A)
  have hdA := e3A.fr dp _ upd_same (nrd dp) (by intro _ h; cases h)
  have hw3 : upd H1 dp (.dK []) wl = some (.lst ((widesOf ns).map V.int)) := by rw [upd_ne hdw.symm]; exact hw1
  have hwA := e3A.fr wl _ hw3 (nrd wl) (by intro _ h; cases h)
  have hc8 := st8.gd.gh _ _ gc
  rw [repL_ints rc_] at hc8
  have hcA := e8A.fr cl _ hc8 (nrd cl) (by intro _ h; cases h)
  have ncl3 := e37.tr cl ncl
  have hcd : dp ≠ cl := fun z => by rw [← z, upd_same] at ncl3; cases ncl3
  have hcw : wl ≠ cl := fun z => by rw [← z, hw3] at ncl3; cases ncl3
  have ncl1 : H1 cl = none := by rw [upd_ne hcd.symm] at ncl3; exact ncl3
  refine ⟨hdA, [(.inr "wide", .ref wl), (.inr "left", .int 0), (.inr "cells", .ref cl), (.inr "turn", .int 0)], rfl, by simp, ?_⟩
  show D.rt _ _
  rw [hD]
  have ne : ∀ b, (upd H1 dp (.dK [])) b = none → H0 b = none := fun b hb => by
    by_cases h : b = dp
    · subst h; exact ndp0
    · rw [upd_ne h] at hb; exact e1.tr b hb
  refine hq dp wl cl _ hdw hcd hcw ndp0 nw (e1.tr cl ncl1) (fun b o hb => ?_) (fun b hb => ?_) ⟨?_, ?_, ?_⟩
  · have h : b ≠ dp := ne_of_none hb ndp0
    rw [upd_ne h]
    by_cases nt : NoTbl o
    · refine e3A.fr b o ?_ (nrd b) nt
      rw [upd_ne h]
      exact e1.fr b o hb (nrd b) nt
    · obtain ⟨ps, hp⟩ := Classical.not_forall.mp nt
      have hp := Classical.not_not.mp hp
      subst hp
      exact stA.gd.w b ps hb
  · by_cases h : b = dp
    · subst h; rw [upd_same] at hb; cases hb
    · rw [upd_ne h] at hb; exact ne b (e3A.tr b hb)
  · rw [upd_same]; rfl
  · rw [upd_ne hdw.symm]; exact hwA
  · rw [upd_ne hcd.symm]; exact hcA
end
end DL
set_option Elab.async false
set_option linter.all false
set_option maxRecDepth 100000
set_option maxHeartbeats 4000000
set_option autoImplicit false
namespace DL
open PySem PySem.Spec PyProof.Rows L2
/-! ### a law by its body -/
theorem drF_ofT {L : LamI} {K : PySem.W.Frag} {cad : Str → Addr} {dp wl cl : Addr} {cells : List Int} {T : List (Addr × Str)} {G H : Hp} {E : XK} (hd : dp ≠ wl ∧ dp ≠ cl ∧ wl ≠ cl) : DrF (fxOf (drawCcL L K cad dp wl cl cells T) G H E) dp wl cl cells :=
  ⟨rfl, rfl, rfl, fun _ _ h => h.1, fun s s' H a o o' r _ e nf h => ⟨h, tabs_keep (fun b u q f => by
    rw [upd_ne (fun z : b = a => by subst z; rw [e] at q; cases q; exact nf f)]; exact q) r.2⟩, fun _ => Iff.rfl, hd.1, hd.2.1, hd.2.2⟩
def spLawT (K : PySem.W.Frag) (T : List (Addr × Str)) : Sp := fun vs H Q _ => ∃ (a : Addr) (ns : List Int), vs = [.ref a] ∧ SqL K H a (ns.map V.int) ∧ ns.length ≤ 3000 ∧ LamX.Tabs T H ∧ ∀ H', Q (.bl true) H'
def tRestL (L : LamI) (K : PySem.W.Frag) (cad : Str → Addr) (H0 : Hp) (E : XK) (T : List (Addr × Str)) (rd : List Int → Env → M DrS Flw) : TS := fun D σ H1 => ∃ dp wl cl cells, (dp ≠ wl ∧ dp ≠ cl ∧ wl ≠ cl) ∧ tS (fxOf (drawCcL L K cad dp wl cl cells T) (noT H0) H1 E) (rd cells) D σ H1
theorem pss_restL {L : LamI} {X : Cx} {rest : List Stmt} {K : PySem.W.Frag} {cad : Str → Addr} {H0 : Hp} {E : XK} {T : List (Addr × Str)} {rd : List Int → Env → M DrS Flw} (h : ∀ (H1 : Hp) (dp wl cl : Addr) (cells : List Int), (dp ≠ wl ∧ dp ≠ cl ∧ wl ≠ cl) → PSs X rest (tS (fxOf (drawCcL L K cad dp wl cl cells T) (noT H0) H1 E) (rd cells))) :
    PSs X rest (tRestL L K cad H0 E T rd) := ⟨fun pins s σ H D I q => by
  obtain ⟨dp, wl, cl, cells, hd, q⟩ := q
  exact (h H dp wl cl cells hd).run pins s σ H D I q⟩
theorem law_ofL {L : LamI} {K : PySem.W.Frag} {cad : Str → Addr} {H0 : Hp} {E E' : XK} {T : List (Addr × Str)} {rd : List Int → Env → M DrS Flw} {N : List Str} {a : Addr} {ns : List Int} {Q : VK} {D : Ends} (hD : D.rt = Q) (hs : SqL K H0 a (ns.map V.int)) (hl : ns.length ≤ 3000) (hT : LamX.Tabs T H0) (hq : ∀ H', Q (.bl true) H')
    (hrd : ∀ (cells : List Int) (s : DrS), ∃ s', rd cells ((startE N [.scr ns]).set 1 (some (.val (.hnd 0)))) s = .ok (.rt (.bl true)) s') :
    tSeq (tAsg (tCall (spBegun K) [] E' (tCons (tVar 0) tNil)) (gName 1)) (tRestL L K cad H0 E T rd) D (L2.start N [.ref a]) H0 := by
  refine ⟨.ref a, rfl, a, ns, rfl, hs, hl, fun dp wl cl H' h1 h2 h3 n1 n2 n3 hsm htr hr => ?_⟩
  refine ⟨dp, wl, cl, ns.map absI, ⟨h1, h2, h3⟩, noT H0, (startE N [.scr ns]).set 1 (some (.val (.hnd 0))), ⟨widesOf ns, 0, 0⟩, ?_, ?_⟩
  · have st : StG (fxOf (drawCcL L K cad dp wl cl (ns.map absI) T) (noT H0) H' E) (noT H0) (L2.start N [.ref a]) H' (startE N [.scr ns]) ⟨widesOf ns, 0, 0⟩ :=
      ⟨Ext.refl _ _ _, ⟨(noT_same H0).trans hsm, ⟨hr, hT.ext hsm⟩, fun b hb => by
        have hb : b = dp ∨ b = wl ∨ b = cl := hb
        rcases hb with rfl | rfl | rfl <;> exact noT_none (by assumption), noT_nt _⟩, repEnv_start (RepL.one ⟨a, rfl, noT_sq hs⟩)⟩
    exact st.set 1 (d := .hnd 0) rfl
  · obtain ⟨s', e⟩ := hrd (ns.map absI) ⟨widesOf ns, 0, 0⟩
    rw [e]
    intro v G' H2 _ _ _ rv
    have rv : v = .bl true := rv
    subst rv
    show D.rt _ _
    rw [hD]
    exact hq H2
/-! ### a head's facts, as one truth -/
section
variable {K : PySem.W.Frag}
theorem propB_ok {C : Addr} {f : Str} (h : propB K C f = true) : PropOf K C f (He.ma K C f) (He5.wf K C "property" f) := by
  obtain ⟨h1, h⟩ := He.ba h
  obtain ⟨h2, h⟩ := He.ba h
  obtain ⟨h3, h4⟩ := He.ba h
  refine ⟨He.eqO_ok h1, He.eqO_ok h2, of_decide_eq_true h3, ?_⟩
  unfold He5.wf
  split at h4
  · rename_i g r e
    exact ⟨r, by rw [e]⟩
  · cases h4
theorem insB_ok {x : Str} (h : insB K x = true) : InsOk K (He.ga K x) := by
  obtain ⟨h1, h⟩ := He.ba h
  obtain ⟨h2, h⟩ := He.ba h
  obtain ⟨h3, h⟩ := He.ba h
  obtain ⟨h4, h5⟩ := He.ba h
  exact ⟨He.cls_ok h1, He.eqO_ok h2, He.eqO_ok h3, of_decide_eq_true h4, of_decide_eq_true h5⟩
theorem kitB_ok {cs : List Str} {an : Value → Option Bool} {tr fa : List Str} (h : kitB K cs an (tbOf tr fa) = true) (hi : cs.all (insB K) = true) (ht : ∀ c ∈ tr, c ∉ tyNames → c ∈ cs) (hf : ∀ c ∈ fa, c ∉ tyNames → c ∈ cs) : KitOk K (He.ga K) an (tbOf tr fa) := by
  obtain ⟨h1, h2⟩ := He.ba h
  refine ⟨fun t hm b e => ?_, fun c b e hn => ?_⟩
  · have := List.all_eq_true.mp h1 t hm
    rw [e] at this
    exact of_decide_eq_true this
  · have hc : c ∈ cs := by
      unfold tbOf at e
      split at e
      · rename_i z; exact ht c z hn
      · split at e
        · rename_i z; exact hf c z hn
        · cases e
    refine ⟨insB_ok (List.all_eq_true.mp hi c hc), ?_⟩
    have := List.all_eq_true.mp h2 c hc
    rw [e] at this
    exact of_decide_eq_true this
theorem kit_own {cs : List Str} {ty : List Str} (h : ∀ c ∈ ty, c ∈ tyNames) : ∀ c ∈ ty ++ cs, c ∉ tyNames → c ∈ cs := fun c hc hn => by
  rcases List.mem_append.mp hc with q | q
  · exact absurd (h c q) hn
  · exact q
theorem someB_ok {o : Option (Option Value)} (h : someB o = true) : ∃ v, o = some v := Option.isSome_iff_exists.mp h
/-! ### the hook: facts as a list of truths, defs as data -/
variable {fb : PySem.W.Frag → List Bool} {fn : List He5.DefA}
theorem SaysB.fact (c : SaysB fb fn K) (i : Nat) {b : Bool} (h : (fb K)[i]? = some b := by rfl) : b = true := by
  have c1 := (He.ba (show ((fb K).all id && fn.all fun d => d.ok K) = true from congrArg (fun z : He.AlD => z.1) c)).1
  exact List.all_eq_true.mp c1 b (List.mem_of_getElem? h)
theorem SaysB.def_ (c : SaysB fb fn K) (i : Nat) {d : He5.DefA} (h : fn[i]? = some d := by rfl) : ∃ fd, L2.FunD K d.name d.qual d.params d.body d.scope (d.dvs K) (d.kws K) (d.at_ K) fd := by
  have c2 := (He.ba (show ((fb K).all id && fn.all fun d => d.ok K) = true from congrArg (fun z : He.AlD => z.1) c)).2
  have e : fn.map (fun d => He5.fnA K (d.at_ K)) = fn.map He5.DefA.val := congrArg (fun z : He.AlD => z.2) c
  have e2 : (fn.map fun d => He5.fnA K (d.at_ K))[i]? = (fn.map He5.DefA.val)[i]? := by rw [e]
  rw [List.getElem?_map, List.getElem?_map, h] at e2
  exact He5.DefA.funD (Option.some.inj e2) (List.all_eq_true.mp c2 d (List.mem_of_getElem? h))
theorem SaysB.fun_ (c : SaysB fb fn K) (i : Nat) {a : PySem.W.Frag → Addr} {x qual : Str} {st : Stmt} (h : fn[i]? = some (defA a x qual st) := by rfl) : ∃ fd, Fun K x qual st (a K) fd := by
  obtain ⟨fd, F⟩ := c.def_ i h
  exact ⟨fd, He5.fun_of F⟩
end
end DL
set_option Elab.async false
set_option linter.all false
set_option maxRecDepth 100000
set_option maxHeartbeats 4000000
set_option autoImplicit false
/-! more of the ends: defs with defaults, instances that are called -/
namespace DL
open PySem PySem.Spec PyProof.Rows L2
end DL
set_option Elab.async false
set_option linter.all false
set_option maxRecDepth 100000
set_option maxHeartbeats 4000000
set_option autoImplicit false
/-! DL: a def's promise where no repr is under way; the law's call, told so -/
namespace DL
open PySem PySem.Spec PyProof.Rows L2
/-- as FnOk, for callers under which no repr runs -/
structure FnG (P : Program) (w : World) (K : PySem.W.Frag) (mg : Str → Option Value) (base : Heap) (CX : CXT) (k : Nat) (f : Addr) (fd : FuncData) (ps : List Str) (sp : Sp) : Prop where
  len : ∀ vs H Q E, sp vs H Q E → vs.length = ps.length
  run : ∀ (A : Around) (outer : List PySem.Env) (s : Shared) (H : Hp) (args : Args) (us : List Value) (vs : List V) (Q : VK) (E : XK), A.guards = some [] → Room k A → Env0 P w K mg base A outer s H → BindsTo s fd args (ps.zip us) → Vals vs us → sp vs H Q E →
    codeAny (model P w) A (.call (.ref f) args) (CR CX outer P w H s Q E) s
section
variable {P : Program} {w : World} {K : PySem.W.Frag} {mg : Str → Option Value} {base : Heap}
theorem fun_okG {x qual : Str} {st : Stmt} {f : Addr} {fd : FuncData} {N ps : List Str} {k : Nat} {sp : Sp} (F : Fun K x qual st f fd) (S : FnScope N ps (defScope st)) (len : ∀ vs H Q E, sp vs H Q E → vs.length = ps.length)
    (hbody : ∀ (cdv : Value) (A : Around) (outer : List PySem.Env) (s : Shared) (H : Hp) (vs : List V) (Q : VK) (E : XK), A.guards = some [] → Room k (A.deeper (envOfC qual (defScope st) s.heap.objs.size f cdv)) → sp vs H Q E →
      ∃ t, PSs (cxOf (L2.CX P w) P w K mg base N qual (defScope st) f cdv A outer s H E) (defBody st) t ∧ t { nx := fun _ H' => Q .non H', rt := Q } (L2.start N vs) H) : FnG P w K mg base (L2.CX P w) (k + 1) f fd ps sp := by
  obtain ⟨oc, od, kV, doc, pm, an, cdv, ct, osl, rfl, lk, hcd⟩ := F.ex
  exact ⟨len, fun A outer s H args us vs Q E hg hr e0 hb r hsp => LamX.run_ofS lk hcd S hr e0 hb r (len _ _ _ _ hsp) fun hr' => hbody cdv A outer s H vs Q E hg hr' hsp⟩
end
end DL
set_option Elab.async false
set_option linter.all false
set_option maxRecDepth 100000
set_option maxHeartbeats 4000000
set_option autoImplicit false
/-! DL: facts of exception classes as truths; tuples as targets of comprehensions; a list many times -/
namespace DL
open PySem PySem.Spec PyProof.Rows L2
section
variable {K : PySem.W.Frag}
def oexB (K : PySem.W.Frag) (C : Addr) : Bool := (match K.lookup C with
  | some ⟨.type "type", _, .cls cd, sl⟩ => (match cd.mro, sl.toList with
    | .ref C' :: bm, [_, _, _, _, some (.builtin n), _] => C' == C && n == "ValueError.__new__" && !cd.hasDel && cd.hasDict && PySem.HandSPX.refsVE bm
    | _, _ => false)
  | _ => false) && (He.eqO (PySem.W.findIn K (.ref C) "__setattr__") (some (some (.builtin "object.__setattr__"))) && (decide (PySem.W.subIn K (.ref C) (.type "BaseException") = some true) && (decide (PySem.W.typeIn K (.ref C) = some (.type "type")) && PySem.W.keepIn K (.ref C))))
theorem oexB_ok {C : Addr} (h : oexB K C = true) : OexC K C := by
  obtain ⟨h1, h⟩ := He.ba h
  obtain ⟨h2, h⟩ := He.ba h
  obtain ⟨h3, h⟩ := He.ba h
  obtain ⟨h4, h5⟩ := He.ba h
  refine ⟨?_, He.eqO_ok h2, of_decide_eq_true h3, of_decide_eq_true h4, h5⟩
  split at h1
  · rename_i dd cd sl ho
    split at h1
    · rename_i C' bm k0 k1 k2 k3 n k5 hm hs
      simp only [Bool.and_eq_true, beq_iff_eq, Bool.not_eq_true'] at h1
      obtain ⟨⟨⟨⟨rfl, rfl⟩, hdel⟩, hhd⟩, hr⟩ := h1
      obtain ⟨nm, bs, mro, ns, qn, hd, sn, sub, ab, col, del⟩ := cd
      dsimp only at hm hdel hhd
      subst hm hdel hhd
      have hsl : sl = #[k0, k1, k2, k3, some (.builtin "ValueError.__new__"), k5] := by
        obtain ⟨l⟩ := sl
        simp only at hs
        rw [hs]
      subst hsl
      exact ⟨nm, qn, ns, bs, bm, sn, sub, ab, col, dd, k0, k1, k2, k3, k5, ho, hr⟩
    · cases h1
  · cases h1
theorem xcB_ok {x : Str} (h : xcB K x = true) : ExcC K (He.ga K x) := by
  obtain ⟨h1, h⟩ := He.ba h
  obtain ⟨h2, h⟩ := He.ba h
  obtain ⟨h3, h⟩ := He.ba h
  obtain ⟨h4, h⟩ := He.ba h
  obtain ⟨h5, h⟩ := He.ba h
  obtain ⟨h6, h⟩ := He.ba h
  obtain ⟨h7, h8⟩ := He.ba h
  exact ⟨He.eqO_ok h1, He.eqO_ok h2, of_decide_eq_true h3, h4, He.eqO_ok h5, He.eqO_ok h6, of_decide_eq_true h7, of_decide_eq_true h8⟩
/-- a table of exception classes: those of which isinstance tells True, those of False -/
theorem kxB_ok {an : Value → Option Bool} {tr fa xs : List Str} (h : kxB K an tr fa = true) (hx : xs.all (xcB K) = true) (ht : ∀ c ∈ tr, c ∈ xs) (hf : ∀ c ∈ fa, c ∈ xs) : KxOk K (He.ga K) an (tbOf tr fa) := by
  obtain ⟨h1, h2⟩ := He.ba h
  intro c b e
  unfold tbOf at e
  split at e
  · rename_i z
    cases e
    exact ⟨xcB_ok (List.all_eq_true.mp hx c (ht c z)), of_decide_eq_true (List.all_eq_true.mp h1 c z)⟩
  · split at e
    · rename_i z
      cases e
      exact ⟨xcB_ok (List.all_eq_true.mp hx c (hf c z)), of_decide_eq_true (List.all_eq_true.mp h2 c z)⟩
    · cases e
/-- classes of exceptions whose attribute f is their instances' own -/
theorem xfB_ok {f : Str} {cs : List Str} (h : xfB K f cs = true) : ∀ c ∈ cs, ExcC K (He.ga K c) ∧ PySem.W.findIn K (.ref (He.ga K c)) f = some none := fun c hc => by
  obtain ⟨h1, h2⟩ := He.ba (List.all_eq_true.mp h c hc)
  exact ⟨xcB_ok h1, He.eqO_ok h2⟩
end
end DL
namespace DL
open PySem PySem.Spec PyProof.Rows L2
theorem u70 {k : Nat} {A : Around} (r : Room k A) : A.units + 70 < cLine := by have := r.un; omega
theorem xf_cast {S : Type} {K : PySem.W.Frag} {C : Cc S} {cs : List Str} {f : Str} (h1 : K = C.K) (h2 : C.cad = He.ga K) (h : ∀ c ∈ cs, ExcC K (He.ga K c) ∧ PySem.W.findIn K (.ref (He.ga K c)) f = some none) : ∀ c ∈ cs, ExcC C.K (C.cad c) ∧ PySem.W.findIn C.K (.ref (C.cad c)) f = some none := by
  subst h1
  rw [h2]
  exact h
end DL
set_option Elab.async false
set_option linter.all false
set_option maxRecDepth 100000
set_option maxHeartbeats 4000000
set_option autoImplicit false
/-! DL: raise; an error that is caught and kept -/
namespace DL
open PySem PySem.Spec PyProof.Rows L2
section
variable {S : Type} {X : Cx} {F : Fx S}
/-! ### raise C(e) -/
def sRaise (c f : Str) (τ : Env → M S D) : Env → M S Flw := fun env => do throwD (.exc c [(f, ← τ env)])
theorem ds_raise {x f c : Str} {C fI : Addr} {k : Nat} {fd : FuncData} {ps : List Str} {e : Expr} {p pos pos2 : Pos} {τ : Env → M S D} (hC : F.cad c = C) (T : OexC X.K C) (iC : PySem.W.findIn X.K (.ref C) "__init__" = some (some (.ref fI))) (tI : PySem.W.typeIn X.K (.ref fI) = some (.type "function"))
    (F1 : FnOk X.prog X.w X.K X.mg X.base (L2.CX X.prog X.w) k fI fd ps (spXI C f)) (hr : Room (k + 1) X.A) (hb : Binds X.K fd ps []) (hx : Passes (L2.CX X.prog X.w) X (fun _ _ _ => False)) (hg : Gl X x) (hm : X.mg x = some (.ref C)) (hc : X.calm = true) (tk : Takes X F.wish) (ha : PE X e (tE F τ))
    (hdb : (x == ("__debug__" : Str)) = false := by decide) (he : starEach [e] X.env = (false, eval e X.env) :: starEach [] X.env := by rfl) : PS X (.Raise (some (.Call (.Name x p) [e] [] pos2)) none pos) (tS F (sRaise c f τ)) :=
  ps_mono (ps_raise hc tk (pmk_oex T iC tI F1 hr hb .nil hx hg hm (pa_cons ha pa_nil he) hdb he rfl)) fun D σ H ⟨G, env, s, st, p⟩ => by
    refine seqE st p fun d s1 v G1 H1 e1 st1 r1 p1 => ?_
    refine ⟨by show 1 ≤ 1000; decide, fun a na => ⟨a, v, rfl, upd_same, fun dx n ne => ⟨rfl, dx, [(f, v)], upd_same, by rw [upd_ne ne, upd_same], ?_, ?_⟩⟩⟩
    · rw [upd_ne ne] at n; exact n
    · have nd : H1 dx = none := by rw [upd_ne ne] at n; exact n
      have eH : upd (L2.del (upd (upd (upd H1 a (exo a C none)) dx (exd dx [(f, v)])) a (exo a C (some dx))) a) dx (.xd [(f, v)]) = upd H1 dx (.xd [(f, v)]) := by
        funext b
        by_cases h1 : b = dx
        · subst h1; rw [upd_same, upd_same]
        · rw [upd_ne h1, upd_ne h1]
          by_cases h2 : b = a
          · subst h2; rw [L2.del_same, na]
          · rw [L2.del_ne h2, upd_ne h2, upd_ne h1, upd_ne h2]
      rw [eH]
      obtain ⟨e2, st2⟩ := st1.new nd (.xd [(f, v)])
      subst hC
      exact p1 _ _ σ _ _ e2.g st2.ext st2.gd ⟨rfl, .inr ⟨dx, [(f, v)], rfl, upd_same, v, [], rfl, r1.mono e2.g, rfl⟩⟩
end
/-! ### an exception object is tracked from now on -/
section
variable {X : Cx} {pins : List (Addr × Obj)} {σ : L2.St} {H : Hp} {s : Shared}
theorem adopt {a C : Addr} {d : Option Addr} {oe : Obj} {vs : Array Value} (I : Inv X ((a, oe) :: pins) σ H s) (hz : Zc (.ref C) d oe) (hv : oe.data = .fields vs) (n0 : X.s_0.heap.get? a = none) (np : ∀ p ∈ X.pn ++ pins, p.1 ≠ a) : Inv X pins σ (upd H a (exv a C d)) s := by
  obtain ⟨ha, na, nL, nF, _⟩ := I.pin (a, oe) (List.mem_append.mpr (.inr List.mem_cons_self))
  have ne0 : ∀ b o, X.s_0.heap.get? b = some o → b ≠ a := fun b o e z => by rw [z, n0] at e; cases e
  have neH : ∀ {b o}, H b = some o → b ≠ a := fun {b o} e => ne_of_none e na
  refine ⟨I.ok, I.os, I.bare, ⟨I.base.keep, I.base.slot, fun b o e n hq => ?_, I.base.there, fun b xs e => ?_, fun b o u e => ?_, fun b ps e => ?_⟩, I.loc, I.cell, ?_, fun x c e => ?_, fun p hp => ?_, fun b u e => ?_, I.len⟩
  · rw [upd_ne (ne0 b o e)]; exact I.base.free b o e n hq
  · have q := I.base.tups b xs e
    rw [upd_ne (neH q)]; exact q
  · have q := I.base.frzs b o u e
    rw [upd_ne (neH q)]; exact q
  · obtain ⟨m, q⟩ := I.base.tbls b ps e
    exact ⟨m, by rw [upd_ne (neH q)]; exact q⟩
  · rw [upd_ne (Ne.symm nL)]; exact I.free
  · have hc : c ≠ a := fun z => by
      obtain ⟨v, o, ho, hd⟩ := I.cell x c e
      rw [z, ha] at ho
      cases ho
      rw [hv] at hd; cases hd
    rw [upd_ne hc]; exact I.freeC x c e
  · obtain ⟨e, n, r⟩ := I.pin p (by
      rcases List.mem_append.mp hp with h | h
      · exact List.mem_append.mpr (.inl h)
      · exact List.mem_append.mpr (.inr (List.mem_cons_of_mem _ h)))
    exact ⟨e, by rw [upd_ne (np p hp)]; exact n, r⟩
  · by_cases hb : b = a
    · subst hb
      rw [upd_same] at e
      cases e
      exact exv_ok ha hz hv
    · rw [upd_ne hb] at e
      exact (I.hok b u e).stay (fun c v _ q => q) (fun c q => by rw [upd_ne (neH q)]; exact q) fun c xs q => by rw [upd_ne (neH q)]; exact q
/-- what 'try: body / except x as n: m = n' wishes of an exception of the body: slot i is n's, slot j m's -/
def wKeep (K : PySem.W.Frag) (c : Value) (i j : Nat) (D : Ends) : WX := fun cls d σ H => ∃ C : Addr, cls = .ref C ∧ PySem.W.exmOne K cls c = some true ∧ ∀ a, H a = none → D.nx (((σ.set i (some (.ref a))).set j (some (.ref a))).set i none) (upd H a (exv a C d))
theorem ps_keep {x n m : Str} {c : Value} {i j : Nat} {body : List Stmt} {np pos pos' pm pn' pos2 : Pos} {tb : WX → TS} (hs : X.stack = X.env :: X.outer) (hf : X.env.frame = some X.env.locals) (hex : X.ex = []) (hN : X.N.Nodup) (hi : X.N[i]? = some n) (hln : X.env.kindOf n = some .local) (hj : X.N[j]? = some m) (hlm : X.env.scope.names.lookup m = some .local) (hc : Names X x c)
    (hdn : (n == ("__debug__" : Str)) = false) (hcn : (n == ("__classdict__" : Str)) = false)
    (hb : ∀ (W : WX) (pn : List (Addr × Obj)) (xe : Value → Shared → Prop), Takes (X.tr pn xe) W → PassesOwn (model X.prog X.w) X.A X.env xe → PSs (X.tr pn xe) body (tb W))
    (hsw : swapsWithSole [.Name m pm] (.Name n pn') pos2.line X.env = pure false) (hsw2 : swappedStores [.Name m pm] (.Name n pn') X.env = pure none) (hsw3 : (assignEach [.Name m pm] X.env).map (·.2) = [assign (.Name m pm) X.env]) :
    PS X (.Try body [.ExceptHandler (some (.Name x np)) (some n) [.Assign [.Name m pm] (.Name n pn') pos2] pos'] [] [] pos) (fun D σ H => tb (wKeep X.K c i j D) D σ H) := by
  refine ⟨fun pins s σ H D I h => ?_⟩
  have ok := I.ok
  have hfr : X.A.frames = some (X.env :: X.outer) := by rw [ok.frames, hs]
  have hloc : Loc X.env.scope n := .inl hln
  refine wpAny_Try_except ?_
  refine wpAny_mono ((hb (wKeep X.K c i j D) (X.pn ++ pins) (fun e s₁ => wpAny (model X.prog X.w) X.A (noteFrame e X.env) (fun _ s₂ => wpAny (model X.prog X.w) X.A (setFlight e none) (fun _ s₃ =>
    wpAny (model X.prog X.w) X.A (handleBy e X.env [.ExceptHandler (some (.Name x np)) (some n) [.Assign [.Name m pm] (.Name n pn') pos2] pos']) (SP X pins D) X.xe s₃) X.xe s₂) X.xe s₁) (fun u s' xx => ?_) PassesOwn.looking).run [] s σ H D (I.toTry _) h) (fun f s1 hsp => ?_) (fun e s1 he => he)
  · obtain ⟨a, B, sI, pins', σ', H', cls, d, rfl, J', nb, up, sky, na, os, ag, C, rfl, hb1, hyes⟩ := xx
    have J : Inv X pins σ' H' sI := J'.ofTry ok
    have sky' : Sky B (X.env :: X.outer) a (Zc (.ref C) d) X.env.locals s'.heap := by rw [← hs]; exact sky
    show wpAny (model X.prog X.w) X.A (noteFrame (.ref a) X.env) _ _ _
    refine Sky.land Zc.steady hfr hf sky' fun h3 fl3 up3 => ?_
    have J3 : Inv X pins σ' H' { s' with heap := h3 } := J.landed nb fl3.1 (up.trans up3) os ag
    obtain ⟨oe3, vs3, he3, hz3, hd3⟩ := fl3.there
    have nfr : a ∉ frs (X.env :: X.outer) := fun hm => by
      obtain ⟨_, o', e', hnf⟩ := fl3.2.2.1.mem hm
      rw [he3] at e'; cases e'
      exact hnf _ hd3
    have nI : sI.heap.get? a = none := by
      cases q : sI.heap.get? a with
      | none => rfl
      | some o =>
        have z := nb a o q (by
          show a ∉ frs X.stack
          rw [hs]; exact nfr)
        rw [fl3.2.1] at z; cases z
    have nL : a ≠ X.env.locals := fun z => nfr (List.mem_filterMap.mpr ⟨X.env, List.mem_cons_self, by rw [hf, z]⟩)
    have nF : a ∉ X.fs := fun hm => by
      obtain ⟨e, he, q⟩ := List.mem_filterMap.mp hm
      exact nfr (List.mem_filterMap.mpr ⟨e, List.mem_cons_of_mem _ he, q⟩)
    have n0 : X.s_0.heap.get? a = none := by
      cases q : X.s_0.heap.get? a with
      | none => rfl
      | some o =>
        obtain ⟨o', z⟩ := J.base.there a o q (by rw [hex]; exact fun z => nomatch z)
        rw [nI] at z; cases z
    have npa : ∀ p ∈ X.pn ++ pins, p.1 ≠ a := fun p hp z => by
      obtain ⟨e, _⟩ := J.pin p hp
      rw [z, nI] at e; cases e
    have S3 := J3.suite he3 hd3 na nL nF
    refine wpAny_handleBy_cons (codeAny_handlers_test ?_) (by intro q; cases q)
    have LT : PySem.W.Looks (model X.prog X.w) h3 (typeOf (.ref a)) (.ref C) := fun A Q E s k q => wpAny_typeOf_ref (k _ _ he3) (by rw [hz3.1]; exact q)
    have LM := PySem.W.exm_one (M := model X.prog X.w) (J3.kIn) LT hb1
    have test : ∀ {Q : Value → Shared → Prop} {E : Value → Shared → Prop}, Q c { s' with heap := h3 } → wpAny (model X.prog X.w) (X.A.mark (some (.ref a))) (eval (.Name x np) X.env) Q E { s' with heap := h3 } := fun {Q E} q => by
      obtain ⟨hg, hdbg, hm | ⟨hm, hv, hnn⟩⟩ := hc
      · exact ld_glob (X := X.suite a ((a, oe3) :: (X.pn ++ pins))) S3 hg hm q hdbg
      · exact ld_blt (X := X.suite a ((a, oe3) :: (X.pn ++ pins))) S3 hg hm hv q hnn hdbg
    refine test (LM.here ?_)
    refine codeAny_handlers_suite_as ?_
    refine HandSPX.lands_againZ fl3 fun h4 fl4 up4 => ?_
    have J4 : Inv X pins σ' H' { s' with heap := h4 } := J.landed nb fl4.1 ((up.trans up3).trans up4) os ag
    obtain ⟨oe4, vs4, he4, hz4, hd4⟩ := fl4.there
    have S4 := J4.suite he4 hd4 na nL nF
    refine store_ok (X := X.suite a ((a, oe4) :: (X.pn ++ pins))) (v := .ref a) S4 hN hi hloc rfl (fun s5 S5 => ?_) (.inr hln)
    have iσ : i < σ'.length := by rw [J.len]; exact (List.getElem?_eq_some_iff.mp hi).1
    have suite : PSs (X.suite a ((a, oe4) :: (X.pn ++ pins))) [.Assign [.Name m pm] (.Name n pn') pos2] (tAsg (tVar i) (gName j)) := pss_one (ps_asg (pe_var (i := i) hi (.inl hln) hdn hcn) (pg_name (i := j) hN hj (.inl hlm) (.inr hlm)) hsw hsw2 hsw3)
    refine wpAny_mono (suite.run [] s5 _ H' { nx := fun σ6 H6 => σ6 = (σ'.set i (some (.ref a))).set j (some (.ref a)) ∧ H6 = H', rt := fun _ _ => False } S5 ⟨.ref a, List.getElem?_set_self iσ, rfl, rfl⟩) (fun f s6 hsp => ?_) (fun _ _ z => False.elim z)
    cases f with
    | next =>
      obtain ⟨σ6, H6, S6, e6, eH⟩ := hsp
      subst e6
      subst eH
      have I6 : Inv X ((a, oe4) :: pins) ((σ'.set i (some (.ref a))).set j (some (.ref a))) H6 s6 := ⟨ok, S6.os, S6.bare, S6.base, S6.loc, S6.cell, S6.free, S6.freeC, fun p hp => S6.pin p (by
        have hp' : p ∈ X.pn ++ (a, oe4) :: pins := hp
        rcases List.mem_append.mp hp' with h | h
        · exact List.mem_append_left _ (List.mem_cons_of_mem _ (List.mem_append_left _ h))
        · rcases List.mem_cons.mp h with h | h
          · rw [h]; exact List.mem_append_left _ List.mem_cons_self
          · exact List.mem_append_left _ (List.mem_cons_of_mem _ (List.mem_append_right _ h))), S6.hok, S6.len⟩
      refine gone_ok I6 hN hi hln fun s7 J7 => ?_
      exact ⟨_, _, adopt J7 hz4 hd4 n0 npa, hyes a na⟩
    | brk => obtain ⟨_, _, _, z⟩ := hsp; exact z.elim
    | cont => obtain ⟨_, _, _, z⟩ := hsp; exact z.elim
    | ret u => obtain ⟨_, _, _, _, _, z⟩ := hsp; exact z.elim
  · cases f with
    | next =>
      obtain ⟨σ', H', J', q⟩ := hsp
      exact wpAny_execs_nil ⟨σ', H', J'.ofTry ok, q⟩
    | brk =>
      obtain ⟨σ', H', J', q⟩ := hsp
      exact ⟨σ', H', J'.ofTry ok, q⟩
    | cont =>
      obtain ⟨σ', H', J', q⟩ := hsp
      exact ⟨σ', H', J'.ofTry ok, q⟩
    | ret u =>
      obtain ⟨v, σ', H', J', r, q⟩ := hsp
      exact ⟨v, σ', H', J'.ofTry ok, r, q⟩
end
end DL
set_option Elab.async false
set_option linter.all false
set_option maxRecDepth 100000
set_option maxHeartbeats 4000000
set_option autoImplicit false
/-! DL: a lambda handed to a def: the library's two rules (HandS.Lambda), turned so that they tell that nothing is lost -/
namespace DL
open PySem PySem.Spec PyProof.Rows L2 LamX
def tLamR (T : List (Addr × Str)) (TT : (XK → Hp → VK → Prop) → Hp → VK → Prop) (t : XK → TE) : TE := fun σ H Q => Tabs T H ∧ ∀ H1, ExtN H H1 → (∀ b, H1 b = none → H b = none) → Tabs T H1 → TT (fun E H' Q' => t E σ H' Q') H1 Q
end DL
namespace DL
open PySem PySem.Spec PyProof.Rows L2 LamX
/-! ### caught: found = None / try: work() / except x as error: found = error / return found -/
def EKeep (K : PySem.W.Frag) (c : Value) (Q : VK) : XK := fun cls d H' => ∃ C : Addr, cls = .ref C ∧ PySem.W.exmOne K cls c = some true ∧ ∀ a, H' a = none → Q (.ref a) (upd H' a (exv a C d))
def TKeep (K : PySem.W.Frag) (c : Value) : (XK → Hp → VK → Prop) → Hp → VK → Prop := fun tl H Q => tl (EKeep K c Q) H fun _ H' => Q .non H'
theorem takes_len {X : Cx} {W : WX} (tk : Takes X W) : Takes X (fun cls d σ H => σ.length = X.N.length → W cls d σ H) := fun u s' ⟨a, B, sI, pins, σ, H, cls, d, e, I, nb, up, sky, na, os, ag, w⟩ =>
  tk u s' ⟨a, B, sI, pins, σ, H, cls, d, e, I, nb, up, sky, na, os, ag, w I.len⟩
/-- return m, slot 1 -/
def uRet1 : TS := fun D σ H => match σ[1]? with
  | some (some v) => D.rt v H
  | _ => False
theorem keep_gives {X : Cx} {x a n m e q : Str} {sg : Scope} {g CS : Addr} {cdg : Value} {j0 : Nat} {p1 p2 p3 p4 p5 p6 p7 p8 p9 p10 p11 p12 p13 p14 : Pos} (hnd : [a, m, n].Nodup) (hsc : sg.kind = .function) (hge : sg.names.lookup e = some .globalImplicit) (hme : X.mg e = some (.ref CS)) (hde : (e == ("__debug__" : Str)) = false)
    (hln : sg.names.lookup n = some .local) (hlm : sg.names.lookup m = some .local) (hdn : (n == ("__debug__" : Str)) = false) (hcn : (n == ("__classdict__" : Str)) = false) (hdm : (m == ("__debug__" : Str)) = false) (hcm : (m == ("__classdict__" : Str)) = false)
    (hsw1 : ∀ env : PySem.Env, swapsWithSole [.Name m p1] (.Constant .none j0 p2) p3.line env = pure false) (hsw1b : ∀ env : PySem.Env, swappedStores [.Name m p1] (.Constant .none j0 p2) env = pure none)
    (hsx : ∀ env : PySem.Env, env.scope = sg → swapsWith (.Call (.Name a p4) [] [] p5) none p6.line env = pure false)
    (hsw2 : ∀ env : PySem.Env, env.scope = sg → swapsWithSole [.Name m p8] (.Name n p9) p10.line env = pure false) (hsw2b : ∀ env : PySem.Env, swappedStores [.Name m p8] (.Name n p9) env = pure none) :
    GivesTo X [a, m, n] x sg g cdg [.Assign [.Name m p1] (.Constant .none j0 p2) p3, .Try [.Expr (.Call (.Name a p4) [] [] p5) p6] [.ExceptHandler (some (.Name e p7)) (some n) [.Assign [.Name m p8] (.Name n p9) p10] p11] [] [] p12, .Return (some (.Name m p13)) p14] a q (TKeep X.K (.ref CS)) := by
  intro f c' s H Q tl act hc h
  have hgl : Gl (cxOf C8.CX0 X.prog X.w X.K X.mg X.base [a, m, n] x sg g cdg X.A X.stack s H C8.E0).nox e := hge
  have hret : PSs (cxOf C8.CX0 X.prog X.w X.K X.mg X.base [a, m, n] x sg g cdg X.A X.stack s H C8.E0).nox [.Return (some (.Name m p13)) p14] uRet1 := pss_mono (pss_one (ps_ret (pe_var (i := 1) rfl (.inl hlm) hdm hcm))) fun D σ H q => by
    unfold uRet1 at q
    split at q
    · rename_i v e; exact ⟨v, e, q⟩
    · exact q.elim
  refine ⟨_, pss_cons (ps_asg pe_non (pg_name (i := 1) hnd rfl (.inl hlm) (.inr hlm)) (hsw1 _) (hsw1b _)) (pss_cons (ps_keep (X := (cxOf C8.CX0 X.prog X.w X.K X.mg X.base [a, m, n] x sg g cdg X.A X.stack s H C8.E0).nox) (i := 2) (j := 1) (c := .ref CS)
      (tb := fun W D σ H => ∃ Ech : XK, (∀ cls d σ' H', Ech cls d H' → σ'.length = 3 → W cls d σ' H') ∧ σ[0]? = some (some (.ref f)) ∧ H c' = some (CodeO c' q) ∧ tl Ech H fun _ H' => D.nx σ H')
      rfl rfl rfl hnd rfl hln rfl hlm ⟨hgl, hde, .inl hme⟩ hdn hcn (fun W pn xe tk _ => ?_) (hsw2 _ rfl) (hsw2b _) rfl) hret), ?_⟩
  · refine ⟨fun pins s' σ H' D I h' => ?_⟩
    obtain ⟨Ech, hW, h1, h2, h3⟩ := h'
    have hp := act _ pn xe Ech p4 p5 (takes_len tk) (fun cls d σ' H' he hl => hW cls d σ' H' he hl)
    have hq := pss_one (ps_expr (pos := p6) hp (hsx _ rfl))
    exact hq.run pins s' σ H' D I ⟨h1, h2, h3⟩
  · refine ⟨EKeep X.K (.ref CS) Q, fun cls d σ' H' ⟨C, ec, ex, hq⟩ hl => ⟨C, ec, ex, fun a na => ?_⟩, rfl, hc, h⟩
    match σ', hl with
    | [o1, o2, o3], _ => exact hq a na
end DL
set_option Elab.async false
set_option linter.all false
set_option maxRecDepth 100000
set_option maxHeartbeats 4000000
set_option autoImplicit false
/-! DL: caught(lambda: work): the error that some work raises, or None -/
namespace DL
open PySem PySem.Spec PyProof.Rows L2 LamX
/-- what a lambda's body may see of its maker's slots: values -/
def hide1 : Option Slot → Option Slot
  | some (.val d) => some (.val d)
  | _ => none
def hide (env : Env) : Env := env.map hide1
variable {S : Type}
def cau (xs : List Str) (τ : Env → M S D) : Env → M S D := fun env s => match τ (hide env) s with
  | .ok _ s' => .ok .non s'
  | .err (.exc c fs) s' => if c ∈ xs then .ok (.exc c fs) s' else .stk
  | _ => .stk
/-- the lambda's reading, from the ground at its entry -/
def tLb (C : Cc S) (τ : Env → M S D) (E : XK) : TE := fun σ H Q => ∃ G, tE (fxOf C G H E) τ σ H Q
theorem pe_lb {X : Cx} {C : Cc S} {τ : Env → M S D} {E : XK} {e : Expr} (h : ∀ G H : Hp, PE X e (tE (fxOf C G H E) τ)) : PE X e (tLb C τ E) := ⟨fun pins s σ H Q I ⟨G, q⟩ => (h G H).run pins s σ H Q I q⟩
theorem hide_at {env : Env} {i : Nat} {sl : Option Slot} (h : (hide env)[i]? = some sl) : ∃ s0, env[i]? = some s0 ∧ sl = hide1 s0 := by
  unfold hide at h
  rw [List.getElem?_map] at h
  cases q : env[i]? with
  | none => rw [q] at h; cases h
  | some s0 => rw [q] at h; cases h; exact ⟨s0, rfl, rfl⟩
theorem hide_own {env : Env} {i : Nat} : ¬ isOwn (hide env)[i]? := fun h => by
  cases q : (hide env)[i]? with
  | none => rw [q] at h; exact h
  | some sl =>
    rw [q] at h
    obtain ⟨s0, _, rfl⟩ := hide_at q
    match s0 with
    | none => exact h
    | some (.val _) => exact h
    | some (.own _) => exact h
    | some (.obj _ _) => exact h
theorem repEnv_hide {F : Fx S} {G H : Hp} {E : XK} {σ : L2.St} {env : Env} (r : RepEnv F G H σ env) : RepEnv (fxOf F.toCc G H E) G H σ (hide env) :=
  ⟨by unfold hide; rw [List.length_map]; exact r.len, fun i sl h => by
    obtain ⟨s0, h0, rfl⟩ := hide_at h
    obtain ⟨o, ho, q⟩ := r.at_ i s0 h0
    refine ⟨o, ho, ?_⟩
    match s0, q with
    | none, _ => trivial
    | some (.val d), q => exact q
    | some (.own _), _ => trivial
    | some (.obj _ _), _ => trivial, fun i j _ h => (hide_own h).elim⟩
section
variable {X : Cx} {F : Fx S}
/-- the world is told with the tables T -/
structure TabW (F : Fx S) (T : List (Addr × Str)) : Prop where
  at_ : ∀ s H, F.rep s H → Tabs T H
  put : ∀ s H H1, F.rep s H → ExtN H H1 → Tabs T H1 → F.rep s H1
theorem cau_of {T : List (Addr × Str)} {SE : Addr} {xs : List Str} {τ : Env → M S D} (W : TabW F T) (hx : ∀ c ∈ xs, PySem.W.exmOne X.K (.ref (F.cad c)) (.ref SE) = some true) (σ : L2.St) (H : Hp) (Q : VK) (h : tE F (cau xs τ) σ H Q) :
    tLamR T (TKeep X.K (.ref SE)) (fun E => tLb F.toCc τ E) σ H Q := by
  obtain ⟨G, env, s, st, p⟩ := h
  refine ⟨W.at_ _ _ st.gd.w, fun H1 eN eR hT1 => ?_⟩
  have e1 : Ext F.reg G H G H1 := ⟨fun _ _ h => h, fun a o h _ n => eN a o h n, fun _ _ h => .inl h, eR⟩
  have g1 : Gd F.toCc G H1 s := ⟨fun b o e => eN b o (st.gd.gh b o e) (st.gd.nt b o e), W.put _ _ _ st.gd.w eN hT1, st.gd.gr, st.gd.nt⟩
  have st1 := st.ext' e1 g1
  refine ⟨G, G, hide env, s, ⟨Ext.refl _ _ _, g1, repEnv_hide st1.env_⟩, ?_⟩
  have p : Post F G H (cau xs τ env s) _ := p
  unfold cau at p
  cases q : τ (hide env) s with
  | stk => rw [q] at p; exact p.elim
  | ok d s' =>
    rw [q] at p
    intro v G' H' e' st' _
    exact p .non G' H' (e1.trans e') (st1.ext' e' st'.gd) rfl
  | err x s' =>
    rw [q] at p
    intro cls dd σ' G' H' sm e' gd' rx
    cases x with
    | exc c fs =>
      have rx : cls = .ref (F.cad c) ∧ ((fs = [] ∧ dd = none) ∨ ∃ d vs, dd = some d ∧ G' d = some (.xd vs) ∧ RepF F.toCc G' fs vs) := rx
      obtain ⟨rfl, rx2⟩ := rx
      by_cases hc : c ∈ xs
      · have p : Post F G H ((if c ∈ xs then .ok (.exc c fs) s' else .stk : Res S D)) _ := p
        rw [if_pos hc] at p
        refine ⟨F.cad c, rfl, hx c hc, fun a na => ?_⟩
        have e' : Ext F.reg G H1 G' H' := e'
        have st' := st1.ext' e' gd'
        obtain ⟨e2, st2⟩ := st'.new na (exv a (F.cad c) dd) (by intro _ h; cases h)
        refine p (.ref a) _ _ ((e1.trans e').trans e2) st2 ⟨a, dd, rfl, upd_same, ?_⟩
        exact rx2.elim (fun z => .inl z) fun ⟨d, vs, z1, z2, z3⟩ => .inr ⟨d, vs, z1, e2.g _ _ z2, z3.mono e2.g⟩
      · have p : Post F G H ((if c ∈ xs then .ok (.exc c fs) s' else .stk : Res S D)) _ := p
        rw [if_neg hc] at p
        exact p.elim
    | _ => exact rx.elim
end
end DL
set_option Elab.async false
set_option linter.all false
set_option maxRecDepth 100000
set_option maxHeartbeats 4000000
set_option autoImplicit false
/-! DL: calls by keywords alone; a classmethod called of its class; a class held in a local called -/
namespace DL
open PySem PySem.Spec PyProof.Rows L2
variable {S : Type} {X : Cx} {F : Fx S}
/-! ### keywords -/
theorem dk_nil : PK X [] (tA F aNil) := ⟨fun pos pins s σ H Q I ⟨G, env, st', st, p⟩ => pk_nil.run pos pins s σ H Q I (p [] G H (Ext.refl _ _ _) st rfl)⟩
theorem dk_cons {e : Expr} {kws : List Keyword} {nm : Option Str} {kpos : Pos} {τ : Env → M S D} {υ : Env → M S (List D)} (ha : PE X e (tE F τ)) (hr : PK X kws (tA F υ)) : PK X (⟨nm, e, kpos⟩ :: kws) (tA F (aCons τ υ)) := ⟨fun pos pins s0 σ H Q I ⟨G, env, s, st, p⟩ =>
  (pk_cons ha hr).run pos pins s0 σ H Q I (by
    refine seqE st p fun d s1 v G1 H1 e1 st1 r1 p1 => ?_
    refine ⟨G1, env, s1, st1, ?_⟩
    refine (Post.bind p1).mono fun ds s2 _ q vs G2 H2 e2 st2 r2 => ?_
    exact q _ G2 H2 (e1.trans e2) st2 (RepL.cons (r1.mono e2.g) r2))⟩
/-- the values at ix -/
def perm {α : Type} (ix : List Nat) (xs : List α) : List α := ix.filterMap fun i => xs[i]?
theorem vals_get : ∀ {vs : List V} {us : List Value} (i : Nat), Vals vs us → (vs[i]? = none ∧ us[i]? = none) ∨ ∃ v u, vs[i]? = some v ∧ us[i]? = some u ∧ RelV v u
  | _, _, _, .nil => .inl ⟨by simp, by simp⟩
  | _, _, 0, .cons r _ => .inr ⟨_, _, rfl, rfl, r⟩
  | _, _, i + 1, .cons _ q => by simpa using vals_get i q
theorem vals_perm {vs : List V} {us : List Value} (r : Vals vs us) : ∀ ix : List Nat, Vals (perm ix vs) (perm ix us)
  | [] => .nil
  | i :: ix => by
    unfold perm
    rcases vals_get i r with ⟨h1, h2⟩ | ⟨v, u, h1, h2, q⟩
    · rw [List.filterMap_cons_none h1, List.filterMap_cons_none h2]; exact vals_perm r ix
    · rw [List.filterMap_cons_some h1, List.filterMap_cons_some h2]; exact .cons q (vals_perm r ix)
theorem RepL.perm {C : Cc S} {G : Hp} {ds : List D} {vs : List V} (r : RepL C G ds vs) : ∀ ix : List Nat, RepL C G (DL.perm ix ds) (DL.perm ix vs)
  | [] => rfl
  | i :: ix => by
    unfold DL.perm
    cases h : ds[i]? with
    | none =>
      have h2 : vs[i]? = none := by
        rw [List.getElem?_eq_none_iff] at h ⊢
        rw [r.length]; exact h
      rw [List.filterMap_cons_none h, List.filterMap_cons_none h2]; exact RepL.perm r ix
    | some d =>
      obtain ⟨v, h2, q⟩ := r.get h
      rw [List.filterMap_cons_some h, List.filterMap_cons_some h2]; exact .cons q (RepL.perm r ix)
/-- bound by keywords ks alone, behind the values first: ix tells each further parameter's keyword -/
structure KwB (K : PySem.W.Frag) (fd : FuncData) (ps : List Str) (n : Nat) (ks : List Str) (ix : List Nat) : Prop where
  to : ∀ (s : Shared) (us ws : List Value), K.In s.heap → us.length = n → ws.length = ks.length → BindsTo s fd ⟨us, ks.zip ws⟩ (ps.zip (us ++ perm ix ws))
theorem KwB.n {K : PySem.W.Frag} {fd : FuncData} {ps ks : List Str} {n : Nat} {ix : List Nat} (b : KwB K fd ps n ks ix) : KBn K fd ps n ks (fun us ws => us ++ perm ix ws) (fun vs zs => vs ++ perm ix zs) := ⟨b.to, fun r1 r2 => r1.append (vals_perm r2 ix)⟩
/-! ### a classmethod of the class at C, told by the handle h -/
/-! ### x(..), x a local that holds the class c, told by the handle h -/
end DL
set_option Elab.async false
set_option linter.all false
set_option maxRecDepth 100000
set_option maxHeartbeats 4000000
set_option autoImplicit false
/-! DL: a law that makes lambdas: its code object and the table of it -/
namespace DL
open PySem PySem.Spec PyProof.Rows L2 LamX
section
variable {P : Program} {w : World} {K : PySem.W.Frag} {mg : Str → Option Value} {base : Heap}
/-- a def's body, its code object told -/
theorem fun_okGT {x qual : Str} {st : Stmt} {f c : Addr} {fd : FuncData} {N ps : List Str} {k : Nat} {sp : Sp} (F : Fun K x qual st f fd) (hc : fd.code = .ref c) (S : FnScope N ps (defScope st)) (len : ∀ vs H Q E, sp vs H Q E → vs.length = ps.length)
    (hbody : ∀ (A : Around) (outer : List PySem.Env) (s : Shared) (H : Hp) (vs : List V) (Q : VK) (E : XK), A.guards = some [] → Room k (A.deeper (envOfC qual (defScope st) s.heap.objs.size f (.ref c))) → sp vs H Q E →
      ∃ t, PSs (cxOf (L2.CX P w) P w K mg base N qual (defScope st) f (.ref c) A outer s H E) (defBody st) t ∧ t { nx := fun _ H' => Q .non H', rt := Q } (L2.start N vs) H) : FnG P w K mg base (L2.CX P w) (k + 1) f fd ps sp := by
  obtain ⟨oc, od, kV, doc, pm, an, cdv, ct, osl, rfl, lk, hcd⟩ := F.ex
  have hc : cdv = .ref c := hc
  subst hc
  exact ⟨len, fun A outer s H args us vs Q E hg hr e0 hb r hsp => LamX.run_ofS lk hcd S hr e0 hb r (len _ _ _ _ hsp) fun hr' => hbody A outer s H vs Q E hg hr' hsp⟩
end
/-! ### the hook: as hookB, with the law's table: empty, not in K -/
section
variable {fb : PySem.W.Frag → List Bool} {fn : List He5.DefA}
def cTl (K : PySem.W.Frag) : Addr × Addr := He.cT K ("law", none)
abbrev AlT1 : Type := He.AlD × Bool
end
theorem lam_in {S : Type} {X : Cx} {F : Fx S} {e : Expr} {τ : Env → M S D} (h : X.K = F.K → Takes X F.wish → PE X e (tE F τ)) (hK : X.K = F.K) (tk : Takes X F.wish) : PE X e (tE F τ) := h hK tk
abbrev Tl (K : PySem.W.Frag) : List (Addr × Str) := [((cTl K).2, ("law" : Str) ++ ".<locals>." ++ "<lambda>")]
/-! ### the world of the draws with tables -/
theorem tabW_draw {L : LamI} {K : PySem.W.Frag} {cad : Str → Addr} {dp wl cl : Addr} {cells : List Int} {T : List (Addr × Str)} {G H : Hp} {E : XK} : TabW (fxOf (drawCcL L K cad dp wl cl cells T) G H E) T :=
  ⟨fun _ _ h => h.2, fun s H H1 h eN hT => ⟨⟨eN _ _ h.1.d (by intro _ h; cases h), eN _ _ h.1.w (by intro _ h; cases h), eN _ _ h.1.c (by intro _ h; cases h)⟩, hT⟩⟩
end DL
set_option Elab.async false
set_option linter.all false
set_option maxRecDepth 100000
set_option maxHeartbeats 400000
set_option autoImplicit false
/-! the same with the law's table -/
namespace DL
open PySem PySem.Spec PyProof.Rows L2 LamX
end DL
set_option Elab.async false
set_option linter.all false
set_option maxRecDepth 100000
set_option maxHeartbeats 4000000
set_option autoImplicit false
/-! DL: a law of which several defs make lambdas: their code objects and the tables of these -/
namespace DL
open PySem PySem.Spec PyProof.Rows L2 LamX
section
variable {P : Program} {w : World} {K : PySem.W.Frag} {mg : Str → Option Value} {base : Heap}
abbrev tabOb : Obj := { cls := .none, data := .fields #[] }
/-- the law is called: its script and the tables are tracked -/
theorem law_callGN {mb : Str → Option Value} {CX : CXT} {k : Nat} {fa a : Addr} {ts : List (Addr × Addr)} {fd : FuncData} {x : Str} {sp : Sp} {s₁ : Shared} {vs : List Value} {ns : List Int}
    (KX : K.In s₁.heap) (hns : s₁.heap.Ns mainGlobals mg) (hb : s₁.heap.Ns builtinsNs mb) (hbb : ∀ x : Str, x ≠ "__name__" → mb x = bootBuiltins x) (hlim : s₁.heap.NoLimit) (hg : s₁.gens = #[])
    (hT : ∀ p ∈ ts, s₁.heap.get? p.2 = some tabOb) (nT : ∀ p ∈ ts, K.lookup p.2 = none) (C : ∀ p ∈ ts, PySem.W.CodeHd s₁.heap p.1 p.2)
    (hbm : ∃ (bm : Addr) (ob : Obj), mg "__builtins__" = some (.ref bm) ∧ bm ≠ builtinsNs ∧ s₁.heap.get? bm = some ob ∧ ob.cls = .type "module" ∧ ob.dict = some builtinsNs ∧ ob.data = .plain)
    (ha : s₁.heap.get? a = some { cls := .type "list", data := .seq vs.toArray }) (hi : IntsAre vs ns) (hl : ns.length ≤ sizeLine) (hr : Room k callerA)
    (F : ∀ base : Heap, K.In base → base.Ns mainGlobals mg → (∀ p ∈ ts, TabB base mg p.1 p.2) → FnG P w K mg base CX k fa fd [x] sp) (hbind : ∀ (s : Shared) (u : Value), BindsTo s fd ⟨[u], []⟩ [(x, u)])
    (hsp : ∀ H : Hp, (∀ p ∈ ts, H p.2 = some (.tbl #[])) → SqL K H a (ns.map V.int) → sp [.ref a] H (fun v _ => v = .bl true) fun _ _ _ => False)
    (hCX : ∀ H e s', CX [] H s₁ (fun _ _ _ => False) e s' → False) :
    codeAny (model P w) callerA (.call (.ref fa) ⟨[.ref a], []⟩) (fun r s' => r = .ok (.ret (.bool true)) ∧ OldK s₁.heap s'.heap ∧ s'.os = s₁.os ∧ AllBare s'.gens) s₁ := by
  have rv := vals_ints hi
  obtain ⟨TT, eTT⟩ : ∃ TT, TT = ts.map (·.2) := ⟨_, rfl⟩
  have tIn : ∀ b, b ∈ TT → ∃ p ∈ ts, p.2 = b := fun b h => by rw [eTT] at h; exact List.mem_map.mp h
  have inT : ∀ p ∈ ts, p.2 ∈ TT := fun p h => by rw [eTT]; exact List.mem_map.mpr ⟨p, h, rfl⟩
  have hTT : ∀ b ∈ TT, s₁.heap.get? b = some tabOb := fun b h => by obtain ⟨p, hp, rfl⟩ := tIn b h; exact hT p hp
  have nTT : ∀ b ∈ TT, K.lookup b = none := fun b h => by obtain ⟨p, hp, rfl⟩ := tIn b h; exact nT p hp
  have aT : a ∉ TT := fun z => by
    have := hTT a z
    rw [ha] at this
    have z' := congrArg Obj.data (Option.some.inj this)
    cases z'
  -- what is tracked: the tables; the script, unless the written part has it
  obtain ⟨H, hS, hHT, hok, hA, hZ, hK⟩ : ∃ H : Hp, SqL K H a (ns.map V.int) ∧ (∀ b ∈ TT, H b = some (.tbl #[])) ∧ HOk P w H s₁.heap ∧ (∀ b, H b ≠ none → b = a ∨ b ∈ TT) ∧ (∀ b, H b = none ∨ b ∈ TT ∨ ∃ o xs, H b = some (.frz o (.lst xs))) ∧ (H a ≠ none → K.lookup a = none) := by
    cases hk : K.lookup a with
    | some o =>
      have e := KX a o hk
      rw [ha] at e
      cases e
      refine ⟨fun b => if b ∈ TT then some (.tbl #[]) else none, .inr ⟨_, vs.toArray, _, hk, rfl, rfl, rfl, by rw [List.size_toArray, hi.length]; exact hl, by simpa using rv⟩, fun b h => if_pos h, fun b u z => ?_, fun b z => ?_, fun b => ?_, fun z => absurd (if_neg aT) z⟩
      · dsimp only at z
        by_cases e : b ∈ TT
        · rw [if_pos e] at z; cases z; exact hTT b e
        · rw [if_neg e] at z; cases z
      · by_cases e : b ∈ TT
        · exact .inr e
        · exact absurd (if_neg e) z
      · by_cases e : b ∈ TT
        · exact .inr (.inl e)
        · exact .inl (if_neg e)
    | none =>
      refine ⟨fun b => if b ∈ TT then some (.tbl #[]) else if b = a then some (.frz { cls := .type "list", data := .seq vs.toArray } (.lst (ns.map V.int))) else none, .inl (.inr ⟨_, by show (if a ∈ TT then _ else _) = _; rw [if_neg aT, if_pos rfl]⟩), fun b h => if_pos h, fun b u z => ?_, fun b z => ?_, fun b => ?_, fun _ => rfl⟩
      · dsimp only at z
        by_cases e : b ∈ TT
        · rw [if_pos e] at z; cases z; exact hTT b e
        · rw [if_neg e] at z
          by_cases e : b = a
          · subst e
            rw [if_pos rfl] at z
            cases z
            exact ⟨ha, by rw [List.length_map]; exact hl, vs, _, rv, ha⟩
          · rw [if_neg e] at z; cases z
      · by_cases e : b ∈ TT
        · exact .inr e
        · by_cases e2 : b = a
          · exact .inl e2
          · exact absurd (by show (if b ∈ TT then _ else _) = _; rw [if_neg e, if_neg e2]) z
      · by_cases e : b ∈ TT
        · exact .inr (.inl e)
        · by_cases e2 : b = a
          · exact .inr (.inr ⟨{ cls := .type "list", data := .seq vs.toArray }, ns.map V.int, by show (if b ∈ TT then _ else _) = _; rw [if_neg e, if_pos e2]⟩)
          · exact .inl (by show (if b ∈ TT then _ else _) = _; rw [if_neg e, if_neg e2])
  have base_of : ∀ {b : Addr} {o : Obj}, s₁.heap.get? b = some o → H b = none → (hidT s₁.heap H).get? b = some o := fun e n => hidT_get e n
  have noD : ∀ {b : Addr} {o : Obj}, s₁.heap.get? b = some o → (∀ vs n, o.data ≠ .seq vs n) → o.data ≠ .fields #[] → H b = none := fun {b o} e h1 h2 => by
    cases q : H b with
    | none => rfl
    | some u =>
      rcases hA b (by rw [q]; simp) with e' | e'
      · rw [e', ha] at e; cases e; exact (h1 _ _ rfl).elim
      · rw [hTT b e'] at e; cases e; exact (h2 rfl).elim
  have nsK : ∀ {b : Addr} {m : Str → Option Value}, s₁.heap.Ns b m → (hidT s₁.heap H).Ns b m := fun {b m} ⟨o, es, ep, e, d, r⟩ => ⟨o, es, ep, base_of e (noD e (fun vs n z => by rw [d] at z; cases z) fun z => by rw [d] at z; cases z), d, r⟩
  have hKb : K.In (hidT s₁.heap H) := fun b o e => base_of (KX b o e) (by
    cases q : H b with
    | none => rfl
    | some u =>
      rcases hA b (by rw [q]; simp) with e' | e'
      · subst e'
        rw [hK (by rw [q]; simp)] at e
        cases e
      · rw [nTT b e'] at e; cases e)
  have hM : L2.Mod K mg (hidT s₁.heap H) := ⟨hKb, nsK hns, ⟨mb, nsK hb, hbb⟩, let ⟨mc, h1, h2⟩ := hlim; ⟨mc, nsK h1, h2⟩⟩
  have TB : ∀ p ∈ ts, TabB (hidT s₁.heap H) mg p.1 p.2 := fun p hp => by
    refine ⟨?_, ?_, fun z => ?_⟩
    · obtain ⟨o, us, file, tf, flags, tg, inF, text, tt, e1, r1, r2, r3, r4⟩ := C p hp
      refine ⟨o, us, file, tf, flags, tg, inF, text, tt, base_of e1 (noD e1 (fun vs n z => by rw [r2] at z; cases z) fun z => ?_), r1, r2, r3, r4⟩
      rw [r2] at z
      cases z
      simp at r3
    · obtain ⟨bm, ob, b1, b2, b3, b4, b5, b6⟩ := hbm
      have nG : bm ≠ mainGlobals := fun q => by
        obtain ⟨o, es, ep, e, hd, _⟩ := hns
        rw [q, e] at b3
        cases b3
        rw [hd] at b6
        cases b6
      have nP : bm ≠ p.2 := fun q => by
        rw [q, hT p hp] at b3
        cases b3
        cases b6
      exact ⟨bm, ob, b1, b2, nG, nP, base_of b3 (noD b3 (fun vs n z => by rw [b6] at z; cases z) fun z => by rw [b6] at z; cases z), b4, b5, b6⟩
    · obtain ⟨o, es, ep, e, hd, _⟩ := hns
      rw [z, hT p hp] at e
      cases e
      cases hd
  have e0 : Env0 P w K mg (hidT s₁.heap H) callerA [] s₁ H := ⟨rfl, hM, fun b o e => of_hidT e, Nat.le_of_eq (hidT_size _ _), trivial, fun b hb => absurd (show b ∈ ([] : List Addr) from hb) (by simp), hok, .of_eq hg⟩
  refine codeAny_mono ((F _ hKb (nsK hns) TB).run callerA [] s₁ H ⟨[.ref a], []⟩ [.ref a] [.ref a] _ _ rfl hr e0 (hbind s₁ (.ref a)) (.cons rfl .nil) (hsp H (fun p hp => hHT _ (inT p hp)) hS)) fun r s' h => ?_
  match r, h with
  | .error e, h => exact (hCX H e s' h).elim
  | .ok (.ret u), ⟨v, H', os, bare, un, hok', r', q⟩ =>
    have q' : v = .bl true := q
    subst q'
    obtain rfl : u = Value.bool true := r'
    have key : ∀ b o, b ∉ TT → s₁.heap.get? b = some o → s'.heap.get? b = some o := fun b o nb e => by
      rcases hZ b with z | z | ⟨ob, xs, z⟩
      · exact un.keep b o e z (by intro z; exact absurd (show b ∈ ([] : List Addr) from z) (by simp)) (by simp)
      · exact absurd z nb
      · obtain ⟨e1, _⟩ := hok b _ z
        obtain ⟨e2, _⟩ := hok' b _ (un.frzs b ob _ z)
        rw [e] at e1
        cases e1
        exact e2
    have more : ∀ T ∈ TT, ∃ more : Array Value, s'.heap.get? T = some { cls := .none, data := .fields more } := fun T h => by
      obtain ⟨more, z⟩ := un.tbls T #[] (hHT T h)
      exact ⟨_, hok' T _ z⟩
    refine ⟨rfl, ⟨fun b o e => ?_, fun b o e => ?_⟩, os, bare⟩
    · by_cases hb : b ∈ TT
      · obtain ⟨p, hp, rfl⟩ := tIn b hb
        rw [hT p hp] at e
        cases e
        obtain ⟨m, hm⟩ := more _ hb
        exact .inr (.inl ⟨((C p hp).tab (hT p hp)).isCodeTable, rfl, #[], m, rfl, by rw [Array.empty_append]; exact hm⟩)
      · exact .inl (key b o hb e)
    · by_cases hb : b ∈ TT
      · obtain ⟨m, hm⟩ := more b hb
        exact ⟨_, hm⟩
      · exact ⟨o, key b o hb e⟩
  | .ok .next, h => exact False.elim h
  | .ok .brk, h => exact False.elim h
  | .ok .cont, h => exact False.elim h
end
theorem walk_ofGN {l : PySem.W.OpenLaw} {n k : Nat} {q : Program} {loose : List Str} {XP : (Str → Option Value) → Heap → Prop} {YP : World → Heap → Prop} {d : DefRec} {x : Str}
    (hn : l.most = some n) (hn2 : n ≤ sizeLine) (hdf : d.params.defaults = []) (hr : Room k callerA)
    (F : ∀ (w : World) (mg : Str → Option Value) (fa : Addr) (h : Heap), YP w h → h.Ns mainGlobals mg → mg d.name = some (.ref fa) →
      ∃ (K : PySem.W.Frag) (fd : FuncData) (ts : List (Addr × Addr)) (sp : Sp), K.In h ∧ (∀ p ∈ ts, h.get? p.2 = some tabOb) ∧ (∀ p ∈ ts, K.lookup p.2 = none) ∧ (∀ p ∈ ts, PySem.W.CodeHd h p.1 p.2) ∧ (∀ (s : Shared) (u : Value), BindsTo s fd ⟨[u], []⟩ [(x, u)]) ∧
        (∀ (H : Hp) (a : Addr) (ns : List Int), ns.length ≤ n → (∀ p ∈ ts, H p.2 = some (.tbl #[])) → SqL K H a (ns.map V.int) → sp [.ref a] H (fun v _ => v = .bl true) fun _ _ _ => False) ∧
        ∀ base : Heap, K.In base → base.Ns mainGlobals mg → (∀ p ∈ ts, TabB base mg p.1 p.2) → FnG l.prog w K mg base (L2.CX l.prog w) k fa fd [x] sp) :
    PySem.W.WalkO q loose XP YP l.row.toRowW d [] (fun f vs => PySem.call f vs) := by
  refine Att.attach_call hn hdf fun w s₀ s₁ mg mb fa o pm cd doc a vs ns G Y ho hd hcd hmg hobj hints hlen hg => ?_
  obtain ⟨K, fd, ts, sp, KX, hT, nT, C, hb, hsp, hF⟩ := F w mg fa _ Y G.T.g hmg
  refine law_callGN KX G.T.g G.T.b G.T.builtins G.T.nolimit hg hT nT C G.T.bmain hobj hints (Nat.le_trans hlen hn2) hr hF hb (fun H hH hS => hsp H a ns hlen hH hS) fun H e s' z => ?_
  obtain ⟨_, _, _, _, _, _, _, _, _, _, _, _, z⟩ := z
  exact z
/-! ### the hook, with the tables of some defs: empty, not in K -/
section
variable {fb : PySem.W.Frag → List Bool} {fn : List He5.DefA}
def cTn (K : PySem.W.Frag) (x : Str) : Addr × Addr := He.cT K (x, none)
structure SaysBN (fb : PySem.W.Frag → List Bool) (fn : List He5.DefA) (xs : List Str) (h : Heap) (K : PySem.W.Frag) : Prop where
  t : SaysB fb fn K
  hd : ∀ x ∈ xs, PySem.W.codeHdIn K (cTn K x).1 (cTn K x).2 = true
  out : ∀ x ∈ xs, K.lookup (cTn K x).2 = none
  empty : ∀ x ∈ xs, h.get? (cTn K x).2 = some tabOb
  nd : (xs.map fun x => (cTn K x).2).Nodup
def tabN1 (g : Addr → Option Obj) (K : PySem.W.Frag) (x : Str) : Bool := PySem.W.codeHdIn K (cTn K x).1 (cTn K x).2 && (match g (cTn K x).2 with
  | some o => He.emptyTab o
  | none => false)
def tabsN (xs : List Str) (g : Addr → Option Obj) (K : PySem.W.Frag) : Bool := xs.all (tabN1 g K) && decide ((xs.map fun x => (cTn K x).2).Nodup)
def obsBN (n : Nat) (fb : PySem.W.Frag → List Bool) (fn : List He5.DefA) (xs : List Str) (g : Addr → Option Obj) : AlT1 := (obsB fb fn (He.frT g (asF g n)), tabsN xs g (He.frT g (asF g n)))
theorem saysBN_of {xs : List Str} {as : List Addr} {h : Heap} (e : ((obsB fb fn (He.frT h.get? as), tabsN xs h.get? (He.frT h.get? as)) : AlT1) = (He5.valA fn, true)) : SaysBN fb fn xs h (He.frT h.get? as) := by
  have e1 : obsB fb fn (He.frT h.get? as) = He5.valA fn := congrArg (fun z : AlT1 => z.1) e
  have e2 : tabsN xs h.get? (He.frT h.get? as) = true := congrArg (fun z : AlT1 => z.2) e
  obtain ⟨h1, h2⟩ := He.ba e2
  have one : ∀ x ∈ xs, PySem.W.codeHdIn (He.frT h.get? as) (cTn (He.frT h.get? as) x).1 (cTn (He.frT h.get? as) x).2 = true ∧ (He.frT h.get? as).lookup (cTn (He.frT h.get? as) x).2 = none ∧ h.get? (cTn (He.frT h.get? as) x).2 = some tabOb := fun x hx => by
    obtain ⟨h1, h2⟩ := He.ba (List.all_eq_true.mp h1 x hx)
    cases q : h.get? (cTn (He.frT h.get? as) x).2 with
    | none => rw [q] at h2; cases h2
    | some o =>
      rw [q] at h2
      exact ⟨h1, He.frT_none q h2, by rw [He.emptyTab_eq h2]⟩
  exact ⟨e1, fun x hx => (one x hx).1, fun x hx => (one x hx).2.1, fun x hx => (one x hx).2.2, of_decide_eq_true h2⟩
def hookBN (n : Nat) (fb : PySem.W.Frag → List Bool) (fn : List He5.DefA) (xs : List Str) : PySem.W.Hook where
  α := AlT1
  obs := fun s => obsBN n fb fn xs s.heap.get?
  val := fun _ => (He5.valA fn, true)
  says := fun _ h => ∃ K : PySem.W.Frag, K.In h ∧ SaysBN fb fn xs h K
  of := fun _ _ e => ⟨_, He.frT_in, saysBN_of e⟩
  keeps := fun _ _ _ ⟨K, hK, c⟩ k => ⟨K, PySem.W.Frag.In.keeps hK k, c.t, c.hd, c.out, fun x hx => k _ _ (c.empty x hx), c.nd⟩
theorem obsBN_eq {n : Nat} {xs : List Str} {g : Addr → Option Obj} {s : Shared} (h : ∀ a, g a = s.heap.get? a) : obsBN n fb fn xs g = (hookBN n fb fn xs).obs s := by
  have e : g = s.heap.get? := funext h
  rw [e] <;> rfl
end
/-- a def's code object is the one told -/
theorem code_ofN {K : PySem.W.Frag} {fd : FuncData} {x y qual : Str} {st : Stmt} (F : Fun K y qual st (He.ga K x) fd) : fd.code = .ref (cTn K x).1 := by
  obtain ⟨oc, od, kV, doc, pm, an, cdv, ct, osl, e, lk, hcd⟩ := F.ex
  have hc : (cTn K x).1 = (match fd.code with
    | .ref c => c
    | _ => 0) := by
    show He.codeOf K (x, none) = _
    unfold He.codeOf
    show (match K.lookup (He.ga K x) with
      | some ⟨_, _, .func fd, _⟩ => (match fd.code with
        | .ref c => c
        | _ => 0)
      | _ => 0) = _
    rw [lk]
  have e2 : fd.code = cdv := by rw [e]
  cases cdv with
  | ref c => rw [e2] at hc ⊢; first | done | rw [hc]
  | _ => exact (Bool.false_ne_true hcd).elim
def lamQ (x : Str) : Str := x ++ ".<locals>." ++ "<lambda>"
abbrev TlN (K : PySem.W.Frag) (xs : List Str) : List (Addr × Str) := xs.map fun x => ((cTn K x).2, lamQ x)
theorem tlN_mem {K : PySem.W.Frag} {xs : List Str} {x : Str} (h : x ∈ xs) : ((cTn K x).2, lamQ x) ∈ TlN K xs := List.mem_map.mpr ⟨x, h, rfl⟩
theorem tlN_u {K : PySem.W.Frag} {xs : List Str} (nd : (xs.map fun x => (cTn K x).2).Nodup) {x : Str} (h : x ∈ xs) : ∀ p ∈ TlN K xs, p.1 = (cTn K x).2 → p.2 = lamQ x := fun p hp e => by
  obtain ⟨y, hy, rfl⟩ := List.mem_map.mp hp
  have e : (cTn K y).2 = (cTn K x).2 := e
  have inj : ∀ (l : List Str), (l.map fun x => (cTn K x).2).Nodup → ∀ a ∈ l, ∀ b ∈ l, (cTn K a).2 = (cTn K b).2 → a = b := fun l => by
    induction l with
    | nil => intro _ a ha; cases ha
    | cons z l ih =>
      intro nd a ha b hb e
      rw [List.map_cons, List.nodup_cons] at nd
      rcases List.mem_cons.mp ha with rfl | ha2
      · rcases List.mem_cons.mp hb with rfl | hb2
        · rfl
        · exact absurd (show (cTn K a).2 ∈ l.map fun x => (cTn K x).2 from List.mem_map.mpr ⟨b, hb2, e.symm⟩) nd.1
      · rcases List.mem_cons.mp hb with rfl | hb2
        · exact absurd (show (cTn K b).2 ∈ l.map fun x => (cTn K x).2 from List.mem_map.mpr ⟨a, ha2, e⟩) nd.1
        · exact ih nd.2 a ha2 b hb2 e
  rw [inj xs nd y hy x h e]
theorem tlN_nil {K : PySem.W.Frag} {xs : List Str} {H : Hp} (h : ∀ x ∈ xs, H (cTn K x).2 = some (.tbl #[])) : LamX.Tabs (TlN K xs) H := fun p hp => by
  obtain ⟨x, hx, rfl⟩ := List.mem_map.mp hp
  exact LamX.TabS.nil (h x hx)
end DL
set_option Elab.async false
set_option linter.all false
set_option maxRecDepth 100000
set_option maxHeartbeats 400000
set_option autoImplicit false
/-! DL: the body of a def that makes lambdas: its code object told -/
namespace DL
open PySem PySem.Spec PyProof.Rows L2 LamX
end DL
namespace DL
open PySem PySem.Spec PyProof.Rows L2 LamX
section
variable {fb : PySem.W.Frag → List Bool} {fn : List He5.DefA} {xs : List Str} {h : Heap} {K : PySem.W.Frag}
theorem SaysBN.t1 (c : SaysBN fb fn xs h K) : ∀ p ∈ xs.map (cTn K), h.get? p.2 = some tabOb := fun p hp => by
  obtain ⟨x, hx, rfl⟩ := List.mem_map.mp hp
  exact c.empty x hx
theorem SaysBN.t2 (c : SaysBN fb fn xs h K) : ∀ p ∈ xs.map (cTn K), K.lookup p.2 = none := fun p hp => by
  obtain ⟨x, hx, rfl⟩ := List.mem_map.mp hp
  exact c.out x hx
theorem SaysBN.t3 (c : SaysBN fb fn xs h K) (KX : K.In h) : ∀ p ∈ xs.map (cTn K), PySem.W.CodeHd h p.1 p.2 := fun p hp => by
  obtain ⟨x, hx, rfl⟩ := List.mem_map.mp hp
  exact PySem.W.codeHd_of_K KX (c.hd x hx)
end
end DL
set_option Elab.async false
set_option linter.all false
set_option maxRecDepth 100000
set_option maxHeartbeats 4000000
set_option autoImplicit false
/-! printed by tools/k03.py: tables of k03 -/
namespace DL
open PySem PySem.Spec PyProof.Rows L2
def tb_kit_xty_BadRhythm (cs : List Str) := tbOf [] ((["NoneType", "bool", "int", "str", "list", "tuple", "dict"] : List Str) ++ cs)
def tbx_BadRhythm := tbOf [("BadRhythm" : Str)] [("SeriesError" : Str)]
end DL
set_option Elab.async false
set_option linter.all false
set_option maxRecDepth 100000
set_option maxHeartbeats 4000000
set_option autoImplicit false
/-! printed by tools/fin.py: the top is run -/
namespace DL
open PySem PySem.Spec PyProof.Rows L2
def topS (i : Nat) : Stmt := PySem.Challenge.pw_stillstruck_k03_rhythms_as_sets.main.body.getD i (.Pass ⟨0, 0, 0, 0⟩)
abbrev cs : List Str := ["Rhythm"]
abbrev s__law_mixed : Stmt := topS 15
abbrev s__law_take : Stmt := topS 16
abbrev s__law_pick : Stmt := topS 17
abbrev s__law_any_rhythm : Stmt := topS 22
abbrev s_is_number : Stmt := topS 6
abbrev s_is_list : Stmt := topS 7
abbrev s_are_different : Stmt := topS 8
abbrev s_repeats : Stmt := topS 10
abbrev s_least_form : Stmt := topS 11
abbrev s_Rhythm___init__ : Stmt := inClass (topS 12) 0
abbrev s_Rhythm_size : Stmt := inClass (topS 12) 2
abbrev s_Rhythm_rests : Stmt := inClass (topS 12) 3
abbrev s__law_lcm : Stmt := topS 20
abbrev s__law_has : Stmt := topS 19
abbrev s__law_least : Stmt := topS 21
abbrev s__law_is_made : Stmt := topS 23
abbrev s_common : Stmt := topS 9
abbrev s_Rhythm___contains__ : Stmt := inClass (topS 12) 5
abbrev s_Rhythm___or__ : Stmt := inClass (topS 12) 8
abbrev s_Rhythm___and__ : Stmt := inClass (topS 12) 9
abbrev s_Rhythm___sub__ : Stmt := inClass (topS 12) 10
abbrev s_Rhythm_within : Stmt := inClass (topS 12) 7
abbrev s_Rhythm___rshift__ : Stmt := inClass (topS 12) 11
abbrev s_BadRhythm___init__ : Stmt := inClass (topS 3) 0
abbrev s_Rhythm___init__X : Stmt := inClass (topS 12) 0
abbrev s_Rhythm___or__X : Stmt := inClass (topS 12) 8
abbrev s_Rhythm___and__X : Stmt := inClass (topS 12) 9
abbrev s_Rhythm___sub__X : Stmt := inClass (topS 12) 10
abbrev s__law_caught : Stmt := topS 18
abbrev s__law_begun : Stmt := topS 14
abbrev s_law : Stmt := topS 24
def fbs : PySem.W.Frag → List Bool := fun K => [
  (He.Fa.cls "Rhythm").ok K,
  exmB K "SeriesError" (["BadRhythm"] : List Str),
  PySem.W.selfFirst K (He.ga K "Rhythm"),
  (He.Fa.free "abs").ok K,
  (He.Fa.free "all").ok K,
  (He.Fa.free "bool").ok K,
  (He.Fa.free "int").ok K,
  (He.Fa.free "isinstance").ok K,
  (He.Fa.free "len").ok K,
  (He.Fa.free "list").ok K,
  (He.Fa.free "min").ok K,
  (He.Fa.free "range").ok K,
  (He.Fa.free "repr").ok K,
  (He.Fa.free "set").ok K,
  (He.Fa.free "sorted").ok K,
  (He.Fa.free "tuple").ok K,
  (He.Fa.glo "BadRhythm").ok K,
  (He.Fa.glo "Rhythm").ok K,
  (He.Fa.glo "SeriesError").ok K,
  (He.Fa.glo "_law_any_rhythm").ok K,
  (He.Fa.glo "_law_begun").ok K,
  (He.Fa.glo "_law_caught").ok K,
  (He.Fa.glo "_law_has").ok K,
  (He.Fa.glo "_law_is_made").ok K,
  (He.Fa.glo "_law_lcm").ok K,
  (He.Fa.glo "_law_least").ok K,
  (He.Fa.glo "_law_mixed").ok K,
  (He.Fa.glo "_law_pick").ok K,
  (He.Fa.glo "_law_take").ok K,
  (He.Fa.glo "are_different").ok K,
  (He.Fa.glo "common").ok K,
  (He.Fa.glo "is_list").ok K,
  (He.Fa.glo "is_number").ok K,
  (He.Fa.glo "least_form").ok K,
  (He.Fa.glo "repeats").ok K,
  someB (PySem.W.findIn K (.type "int") (PySem.dunder (Operator.RShift).info.2)),
  someB (PySem.W.findIn K (.type "int") (PySem.dunderR (Operator.RShift).info.2)),
  He.eqO (PySem.W.findIn K (.ref (He.ga K "BadRhythm")) "__init__") (some (some (.ref (He.ma K (He.ga K "BadRhythm") "__init__")))),
  (He.Fa.int "MOST_SIZE" 3000).ok K,
  decide (PySem.W.subIn K (.type "int") (.ref (He.ga K "Rhythm")) = some false),
  (He.Fa.meth "Rhythm" "__and__").ok K,
  (He.Fa.meth "Rhythm" "__contains__").ok K,
  (He.Fa.meth "Rhythm" "__or__").ok K,
  (He.Fa.meth "Rhythm" "__rshift__").ok K,
  (He.Fa.meth "Rhythm" "__sub__").ok K,
  (He.Fa.meth "Rhythm" "within").ok K,
  (He.Fa.mkr "Rhythm").ok K,
  (He.Fa.noat "Rhythm" "own_form").ok K,
  oexB K (He.ga K "BadRhythm"),
  He.eqO (PySem.W.findIn K (.ref (He.ga K "Rhythm")) (PySem.dunder (Operator.BitAnd).info.2)) (some (some (.ref (He.ma K (He.ga K "Rhythm") "__and__")))),
  He.eqO (PySem.W.findIn K (.ref (He.ga K "Rhythm")) (PySem.dunder (Operator.BitOr).info.2)) (some (some (.ref (He.ma K (He.ga K "Rhythm") "__or__")))),
  He.eqO (PySem.W.findIn K (.ref (He.ga K "Rhythm")) (PySem.dunder (Operator.RShift).info.2)) (some (some (.ref (He.ma K (He.ga K "Rhythm") "__rshift__")))),
  He.eqO (PySem.W.findIn K (.ref (He.ga K "Rhythm")) (PySem.dunder (Operator.Sub).info.2)) (some (some (.ref (He.ma K (He.ga K "Rhythm") "__sub__")))),
  propB K (He.ga K "Rhythm") "rests",
  propB K (He.ga K "Rhythm") "size",
  He.eqO (PySem.W.findIn K (.ref (He.ga K "Rhythm")) (PySem.dunderR (Operator.RShift).info.2)) (some none),
  decide (PySem.W.typeIn K (.ref (He.ma K (He.ga K "BadRhythm") "__init__")) = some (.type "function")),
  xfB K "part" (["BadRhythm"] : List Str),
  He.eqO (PySem.W.findIn K (.ref (He.ga K "BadRhythm")) "part") (some none),
  ([("SeriesError" : Str), ("BadRhythm" : Str)] : List Str).all (xcB K),
  kxB K (fun t => PySem.W.kitOne K t (.ref (He.ga K "BadRhythm"))) [("BadRhythm" : Str)] [("SeriesError" : Str)],
  cs.all (insB K),
  kitB K cs (fun t => PySem.W.kitOne K t (.ref (He.ga K "Rhythm"))) (tb_kit_own_Rhythm cs),
  kitB K cs (fun t => PySem.W.kitAny K t [.type "list", .type "tuple"]) (tb_kit_two_list_tuple cs),
  kitB K cs (fun t => PySem.W.kitOne K t (.type "bool")) (tb_kit_ty_bool cs),
  kitB K cs (fun t => PySem.W.kitOne K t (.type "int")) (tb_kit_ty_int cs),
  kitB K cs (fun t => PySem.W.kitOne K t (.ref (He.ga K "BadRhythm"))) (tb_kit_xty_BadRhythm cs),
  (He.Fa.glo "law").ok K]
def fns : List He5.DefA := [
  defA (fun K => (He.ga K "_law_mixed")) "_law_mixed" "_law_mixed" s__law_mixed,
  defA (fun K => (He.ga K "_law_take")) "_law_take" "_law_take" s__law_take,
  defA (fun K => (He.ga K "_law_pick")) "_law_pick" "_law_pick" s__law_pick,
  defA (fun K => (He.ga K "_law_any_rhythm")) "_law_any_rhythm" "_law_any_rhythm" s__law_any_rhythm,
  defA (fun K => (He.ga K "is_number")) "is_number" "is_number" s_is_number,
  defA (fun K => (He.ga K "is_list")) "is_list" "is_list" s_is_list,
  defA (fun K => (He.ga K "are_different")) "are_different" "are_different" s_are_different,
  defA (fun K => (He.ga K "repeats")) "repeats" "repeats" s_repeats,
  defA (fun K => (He.ga K "least_form")) "least_form" "least_form" s_least_form,
  defA (fun K => (He.ma K (He.ga K "Rhythm") "__init__")) "__init__" "Rhythm.__init__" s_Rhythm___init__,
  defA (fun K => (He5.wf K (He.ga K "Rhythm") "property" "size")) "size" "Rhythm.size" s_Rhythm_size,
  defA (fun K => (He5.wf K (He.ga K "Rhythm") "property" "rests")) "rests" "Rhythm.rests" s_Rhythm_rests,
  defA (fun K => (He.ga K "_law_lcm")) "_law_lcm" "_law_lcm" s__law_lcm,
  defA (fun K => (He.ga K "_law_has")) "_law_has" "_law_has" s__law_has,
  defA (fun K => (He.ga K "_law_least")) "_law_least" "_law_least" s__law_least,
  defA (fun K => (He.ga K "_law_is_made")) "_law_is_made" "_law_is_made" s__law_is_made,
  defA (fun K => (He.ga K "common")) "common" "common" s_common,
  defA (fun K => (He.ma K (He.ga K "Rhythm") "__contains__")) "__contains__" "Rhythm.__contains__" s_Rhythm___contains__,
  defA (fun K => (He.ma K (He.ga K "Rhythm") "__or__")) "__or__" "Rhythm.__or__" s_Rhythm___or__,
  defA (fun K => (He.ma K (He.ga K "Rhythm") "__and__")) "__and__" "Rhythm.__and__" s_Rhythm___and__,
  defA (fun K => (He.ma K (He.ga K "Rhythm") "__sub__")) "__sub__" "Rhythm.__sub__" s_Rhythm___sub__,
  defA (fun K => (He.ma K (He.ga K "Rhythm") "within")) "within" "Rhythm.within" s_Rhythm_within,
  defA (fun K => (He.ma K (He.ga K "Rhythm") "__rshift__")) "__rshift__" "Rhythm.__rshift__" s_Rhythm___rshift__,
  defA (fun K => (He.ma K (He.ga K "BadRhythm") "__init__")) "__init__" "BadRhythm.__init__" s_BadRhythm___init__,
  defA (fun K => (He.ga K "_law_caught")) "_law_caught" "_law_caught" s__law_caught,
  defA (fun K => (He.ga K "_law_begun")) "_law_begun" "_law_begun" s__law_begun,
  defA (fun K => (He.ga K "law")) "law" "law" s_law]
abbrev Rw : PySem.W.OpenRow := PySem.W.OpenLaw.row PySem.Challenge.rw_stillstruck_k03_rhythms_as_sets
def loose : List Str := [("_wall" : Str), ("__name__" : Str), ("SeriesError" : Str), ("BadRhythm" : Str), ("MOST_SIZE" : Str), ("is_number" : Str), ("is_list" : Str), ("are_different" : Str), ("common" : Str), ("repeats" : Str), ("least_form" : Str), ("Rhythm" : Str), ("_law_begun" : Str), ("_law_mixed" : Str), ("_law_take" : Str), ("_law_pick" : Str), ("_law_caught" : Str), ("_law_has" : Str), ("_law_lcm" : Str), ("_law_least" : Str), ("_law_any_rhythm" : Str), ("_law_is_made" : Str)]
abbrev txs : List Str := [("law" : Str)]
abbrev hk : PySem.W.Hook := hookBN 6 fbs fns txs
def ob (s : PySem.W.SharedT) : AlT1 := obsBN 6 fbs fns txs (HandSHeadRun.getT s)
theorem ob_eq (s : PySem.W.SharedT) : ob s = hk.obs s.abs := obsBN_eq (HandSHeadRun.getT_eq s)
set_option maxHeartbeats 0 in
theorem run1 (w : World) (os : OsState) : (HandSHeadRun.endF (HandSHeadRun.stepQ (HandSHeadRun.denQ HandSHeadRun.tabQ) Rw.prog w) 20000 Rw.prog w os).map (fun s => (HandSHeadRun.looksF Rw.prog (PySem.W.boot_heap w.params) s.abs, HandSHeadRun.seenQ (PySem.W.view Rw.prog [24]) loose (PySem.importedModules Rw.prog.main.body) (fun s => PySem.W.xlAt (PySem.W.view Rw.prog [24]) [] s && PySem.W.recOk Rw.toRowW.records s) s.abs)) = some ((true, PySem.W.openGood (PySem.W.view Rw.prog [24]) loose)) := by
  kernel_rfl
set_option maxHeartbeats 0 in
theorem run2 (w : World) (os : OsState) : (HandSHeadRun.endF (HandSHeadRun.stepQ (HandSHeadRun.denQ HandSHeadRun.tabQ) Rw.prog w) 20000 Rw.prog w os).map (fun s => ((ob s).1).1) = some (((hk.val w).1).1) := by
  kernel_rfl
set_option maxHeartbeats 0 in
theorem run3 (w : World) (os : OsState) : (HandSHeadRun.endF (HandSHeadRun.stepQ (HandSHeadRun.denQ HandSHeadRun.tabQ) Rw.prog w) 20000 Rw.prog w os).map (fun s => ((ob s).1).2) = some (((hk.val w).1).2) := by
  kernel_rfl
set_option maxHeartbeats 0 in
theorem run4 (w : World) (os : OsState) : (HandSHeadRun.endF (HandSHeadRun.stepQ (HandSHeadRun.denQ HandSHeadRun.tabQ) Rw.prog w) 20000 Rw.prog w os).map (fun s => (ob s).2) = some ((hk.val w).2) := by
  kernel_rfl
theorem run (w : World) : HandSHeadRun.RunEq Rw (PySem.W.view Rw.prog [24]) hk ob 20000 loose w := fun os => by
  have a1 := run1 w os
  have a2 := run2 w os
  have a3 := run3 w os
  have a4 := run4 w os
  revert a1 a2 a3 a4
  generalize (HandSHeadRun.endF (HandSHeadRun.stepQ (HandSHeadRun.denQ HandSHeadRun.tabQ) Rw.prog w) 20000 Rw.prog w os) = x
  intro a1 a2 a3 a4
  cases x with
  | none => cases a1
  | some s =>
    have a1 := Option.some.inj a1
    have a2 := Option.some.inj a2
    have a3 := Option.some.inj a3
    have a4 := Option.some.inj a4
    have b1 := congrArg Prod.fst a1
    have b2 := congrArg Prod.snd a1
    exact congrArg some (Prod.ext b1 (Prod.ext b2 (Prod.ext (Prod.ext a2 a3) a4)))
end DL
set_option Elab.async false
set_option linter.all false
set_option maxRecDepth 100000
set_option maxHeartbeats 4000000
set_option autoImplicit false
namespace DL
open PySem PySem.Spec PyProof.Rows L2 Rh
section
variable {S : Type}
/-! ### a rhythm made -/
theorem diffs_wf {n : Int} {rs : List Int} (w : Wf n rs) : diffs 0 (n - 1) (rs.map .int) = true := by
  unfold diffs
  rw [intsD_of]
  have h1 : (rs.map D.int).all (numIn 0 (n - 1)) = true := by
    rw [List.all_eq_true]
    intro d hd
    obtain ⟨r, hr, rfl⟩ := List.mem_map.mp hd
    have := w.lt r hr
    show (decide (0 ≤ r) && decide (r ≤ n - 1)) = true
    simp only [Bool.and_eq_true, decide_eq_true_eq]
    omega
  rw [h1, Bool.true_and]
  exact decide_eq_true w.nd
theorem ok_ints {cs : List Str} {rs : List Int} : (rs.map D.int).all (okD cs) = true := by
  rw [List.all_eq_true]
  intro d hd
  obtain ⟨r, hr, rfl⟩ := List.mem_map.mp hd
  rfl
theorem sem_dif {cs : List Str} {th : D} {lo hi : Int} {ds : List D} {s : S} (hth : th = .lst ds ∨ th = .tup ds) (hl : ds.length ≤ 4000) (h : ds.all (okD cs) = true) : (sem_are_different cs [th, .int lo, .int hi] : M S D) s = .ok (.bl (diffs lo hi ds)) s := by
  rcases hth with rfl | rfl
  · show grd _ _ s = _; rw [grd_run, if_pos ⟨hl, h⟩]; rfl
  · show grd _ _ s = _; rw [grd_run, if_pos ⟨hl, h⟩]; rfl
@[simp] theorem sFldO_run {c f : Str} {τ : Env → M S D} {fs : List (Str × D)} {env : Env} {s : S} : sFldO 0 c f τ (some (.obj c fs) :: env) s = (τ (some (.obj c fs) :: env) s).bind fun d s1 => if fs.length < 1000 then .ok (.nx (some (.obj c (putD f d fs)) :: env)) s1 else .stk := by
  show (τ _ s).bind _ = _
  congr 1; funext d s1
  show grd _ _ s1 = _
  rw [grd_run]
  by_cases h : fs.length < 1000
  · rw [if_pos ⟨rfl, h⟩, if_pos h]; rfl
  · rw [if_neg (fun z => h z.2), if_neg h]
theorem init_run {cs : List Str} {n : Int} {rs : List Int} {th : D} {s : S} (hth : th = .lst (rs.map .int) ∨ th = .tup (rs.map .int)) (h : wfB n rs = true ∧ n ≤ 3000 ∧ rs.length ≤ 3000) :
    runI (rd_Rhythm___init__ cs) "Rhythm" N_Rhythm___init__ [.int n, th] s = .ok [("own_form", formD n rs)] s := by
  have w := wfB_iff.mp h.1
  have hp := w.pos
  have hlen : (rs.map D.int).length ≤ 4000 := by rw [List.length_map]; omega
  have els : (bcl listD (aCons (rVar 2) aNil) : Env → M S D) [some (.obj "Rhythm" []), some (.val (.int n)), some (.val th)] s = .ok (.lst (rs.map .int)) s := by
    simp only [bcl_run, aCons_run, aNil_run, rVar_succ, rVar_zero, Res.bind_ok]
    rcases hth with rfl | rfl <;> rfl
  unfold runI rd_Rhythm___init__
  rw [show startI "Rhythm" N_Rhythm___init__ [.int n, th] = [some (.obj "Rhythm" []), some (.val (.int n)), some (.val th)] from rfl]
  simp only [sSeq_run, sIf_run, orT_run, notT_run, asT_run, cal_run, aCons_run, aNil_run, rVar_succ, rVar_zero, rC_run, Res.bind_ok, List.length_cons, List.length_nil, List.append_nil, Nat.zero_add, Nat.add_zero, if_true, sem_num (show okD cs (.int n) = true from rfl), isNumD, Bool.not_true, Bool.false_eq_true, if_false,
    chn_run, intOp0_run, decide_eq_true (show (1 : Int) ≤ n from hp), decide_eq_true h.2.1, sNx_run, bin_run, sem_dif hth hlen ok_ints, diffs_wf w, sFldO_run, els, sem_lf h]
  rfl
theorem sem_ini {cs : List Str} {n : Int} {rs : List Int} {th : D} {s : S} (hth : th = .lst (rs.map .int) ∨ th = .tup (rs.map .int)) (h : wfB n rs = true ∧ n ≤ 3000 ∧ rs.length ≤ 3000) : (sem_Rhythm___init__ cs [.int n, th] : M S (List (Str × D))) s = .ok [("own_form", formD n rs)] s := by
  rcases hth with rfl | rfl
  · simp only [sem_Rhythm___init__, a2_run, onInt_run, onIntsS_lst, grd_run, if_pos h, pure_run]
  · simp only [sem_Rhythm___init__, a2_run, onInt_run, onIntsS_tup, grd_run, if_pos h, pure_run]
theorem rfn_Rhythm___init__ {cs : List Str} : RfnI (S := S) (sem_Rhythm___init__ cs) (runI (rd_Rhythm___init__ cs) "Rhythm" N_Rhythm___init__) := fun ds s h => by
  obtain ⟨x, y, rfl, h1⟩ := a2_ne h
  obtain ⟨n, rfl, h2⟩ := onInt_ne h1
  obtain ⟨rs, hth, h3⟩ := onIntsS_ne h2
  obtain ⟨hc, h5⟩ := grd_ne h3
  rw [init_run hth hc, sem_ini hth hc]
theorem formD_eq (n : Int) (rs : List Int) : D.ins "Rhythm" [("own_form", formD n rs)] = mkR n rs := rfl
/-- Rhythm(n, rests), from a list -/
theorem mk_rh {cs : List Str} {α : Env → M S (List D)} {env : Env} {s s1 : S} {n : Int} {rs : List Int} {th : D} (ha : α env s = .ok [.int n, th] s1) (hth : th = .lst (rs.map .int) ∨ th = .tup (rs.map .int)) (h : wfB n rs = true ∧ n ≤ 3000 ∧ rs.length ≤ 3000) :
    mk "Rhythm" (sem_Rhythm___init__ cs) [] 2 α env s = .ok (mkR n rs) s1 := by
  simp only [mk_run, ha, Res.bind_ok, List.length_cons, List.length_nil, List.append_nil, Nat.zero_add, Nat.add_zero, if_true, sem_ini hth h, formD_eq]
/-! ### its parts -/
theorem fldC_rh {p : Int} {rs : List Int} {τ : Env → M S D} {env : Env} {s s1 : S} (h : τ env s = .ok (rhD p rs) s1) : fldC "Rhythm" "own_form" τ env s = .ok (.tup [.int p, .tup (rs.map .int)]) s1 := by
  have e : List.lookup ("own_form" : Str) [(("own_form" : Str), D.tup [.int p, .tup (rs.map .int)])] = some (D.tup [.int p, .tup (rs.map .int)]) := by simp [List.lookup]
  rw [fldC_run, h]
  simp only [Res.bind_ok, rhD, onIns_run, grd_run, if_true]
  rw [e]; rfl
theorem own0 {p : Int} {rs : List Int} {τ : Env → M S D} {env : Env} {s s1 : S} (h : τ env s = .ok (rhD p rs) s1) : bin ixD (fldC "Rhythm" "own_form" τ) (rC (.int 0)) env s = .ok (.int p) s1 := by
  simp only [bin_run, fldC_rh h, Res.bind_ok, rC_run, ixD_tup0]
theorem own1 {p : Int} {rs : List Int} {τ : Env → M S D} {env : Env} {s s1 : S} (h : τ env s = .ok (rhD p rs) s1) : bin ixD (fldC "Rhythm" "own_form" τ) (rC (.int 1)) env s = .ok (.tup (rs.map .int)) s1 := by
  simp only [bin_run, fldC_rh h, Res.bind_ok, rC_run, ixD_tup1]
theorem rfn_Rhythm_size : Rfn (S := S) sem_Rhythm_size (runB rd_Rhythm_size N_Rhythm_size) := fun ds s h => by
  obtain ⟨x, rfl, h1⟩ := a1_ne h
  obtain ⟨p, rs, rfl, h2⟩ := onRh_ne h1
  unfold runB rd_Rhythm_size
  rw [show startE N_Rhythm_size [rhD p rs] = [some (.val (rhD p rs))] from rfl]
  simp only [sRet_run, own0 (τ := rVar 0) (env := [some (.val (rhD p rs))]) (s := s) (s1 := s) rVar_zero, Res.bind_ok, sem_Rhythm_size, a1_run, onRh_run, pure_run]
theorem rfn_Rhythm_rests : Rfn (S := S) sem_Rhythm_rests (runB rd_Rhythm_rests N_Rhythm_rests) := fun ds s h => by
  obtain ⟨x, rfl, h1⟩ := a1_ne h
  obtain ⟨p, rs, rfl, h2⟩ := onRh_ne h1
  unfold runB rd_Rhythm_rests
  rw [show startE N_Rhythm_rests [rhD p rs] = [some (.val (rhD p rs))] from rfl]
  simp only [sRet_run, own1 (τ := rVar 0) (env := [some (.val (rhD p rs))]) (s := s) (s1 := s) rVar_zero, Res.bind_ok, sem_Rhythm_rests, a1_run, onRh_run, pure_run]
theorem sem_has {cs : List Str} {p : Int} {rs : List Int} {e : D} {s : S} (h : 0 < p ∧ okD cs e = true) : (sem_Rhythm___contains__ cs [rhD p rs, e] : M S D) s = .ok (.bl (inRh p rs e)) s := by
  simp only [sem_Rhythm___contains__, a2_run, onRh_run, grd_run, if_pos h, pure_run]
theorem rfn_Rhythm___contains__ {cs : List Str} : Rfn (S := S) (sem_Rhythm___contains__ cs) (runB (rd_Rhythm___contains__ cs) N_Rhythm___contains__) := fun ds s h => by
  obtain ⟨x, e, rfl, h1⟩ := a2_ne h
  obtain ⟨p, rs, rfl, h2⟩ := onRh_ne h1
  obtain ⟨hc, h3⟩ := grd_ne h2
  rw [sem_has hc]
  unfold runB rd_Rhythm___contains__
  rw [show startE N_Rhythm___contains__ [rhD p rs, e] = [some (.val (rhD p rs)), some (.val e)] from rfl]
  simp only [sRet_run, andV_run, cal_run, aCons_run, aNil_run, rVar_succ, rVar_zero, Res.bind_ok, List.length_cons, List.length_nil, List.append_nil, Nat.zero_add, Nat.add_zero, if_true, sem_num hc.2, truD_bl]
  cases e with
  | int d =>
    simp only [isNumD, if_true, bin_run (f := inD false), bin_run (f := modD), own0 (τ := rVar 0) (env := [some (.val (rhD p rs)), some (.val (.int d))]) (s := s) (s1 := s) rVar_zero, own1 (τ := rVar 0) (env := [some (.val (rhD p rs)), some (.val (.int d))]) (s := s) (s1 := s) rVar_zero, rVar_succ, rVar_zero, Res.bind_ok, intOp_run, if_pos hc.1, inD_intsT]
    rfl
  | _ => simp [isNumD, inRh]
/-! ### == -/
theorem pdL_ints (rs : List Int) : pdL (rs.map .int) = some (rs.map PyData.int) := by
  induction rs with
  | nil => rfl
  | cons r rs ih =>
    show (match pd (.int r), pdL (rs.map .int) with
      | some a, some b => some (a :: b)
      | _, _ => none) = _
    rw [ih]; rfl
theorem eqv_ints : ∀ (rs ts : List Int), PyData.eqvAll (rs.map PyData.int) (ts.map PyData.int) = decide (rs = ts)
  | [], [] => rfl
  | [], _ :: _ => rfl
  | _ :: _, [] => rfl
  | r :: rs, t :: ts => by
    show ((r == t) && PyData.eqvAll (rs.map PyData.int) (ts.map PyData.int)) = _
    rw [eqv_ints rs ts, Bool.eq_iff_iff]
    simp
theorem sem_eq {cs : List Str} {p q : Int} {rs ts : List Int} {s : S} (h : ("Rhythm" : Str) ∈ cs) : (sem_Rhythm___eq__ cs [rhD p rs, rhD q ts] : M S D) s = .ok (.bl (decide (p = q ∧ rs = ts))) s := by
  have ho : okD cs (rhD q ts) = true := by
    show (decide (("Rhythm" : Str) ∈ cs) && decide (("Rhythm" : Str) ∉ tyNames)) = true
    rw [decide_eq_true h]; decide +kernel
  have hr : isRhD (rhD q ts) = true := by show decide (("Rhythm" : Str) = "Rhythm") = true; exact decide_eq_true rfl
  simp only [sem_Rhythm___eq__, a2_run, onRh_run, grd_run, if_pos ho, if_pos hr, pure_run]
end
end DL
set_option Elab.async false
set_option linter.all false
set_option maxRecDepth 100000
set_option maxHeartbeats 4000000
set_option autoImplicit false
namespace Rh
open DL
/-! ### the least common multiple -/
theorem lcmI_eq {i j : Int} (hi : 1 ≤ i) (hj : 1 ≤ j) : lcmI i j = (Int.lcm i j : Int) := by
  have hg : (Int.gcd i j : Int) ∣ i := Int.gcd_dvd_left i j
  unfold lcmI
  rw [Int.mul_comm, ← Int.mul_ediv_assoc _ hg]
  show j * i / ((Nat.gcd i.natAbs j.natAbs : Nat) : Int) = ((Nat.lcm i.natAbs j.natAbs : Nat) : Int)
  unfold Nat.lcm
  rw [Int.natCast_ediv, Int.natCast_mul]
  have e1 : (i.natAbs : Int) = i := by omega
  have e2 : (j.natAbs : Int) = j := by omega
  rw [e1, e2, Int.mul_comm]
theorem lcmI_dvd_left {i j : Int} (hi : 1 ≤ i) (hj : 1 ≤ j) : i ∣ lcmI i j := by rw [lcmI_eq hi hj]; exact Int.dvd_lcm_left i j
theorem lcmI_dvd_right {i j : Int} (hi : 1 ≤ i) (hj : 1 ≤ j) : j ∣ lcmI i j := by rw [lcmI_eq hi hj]; exact Int.dvd_lcm_right i j
theorem lcmI_pos {i j : Int} (hi : 1 ≤ i) (hj : 1 ≤ j) : 1 ≤ lcmI i j := by
  unfold lcmI
  have hg1 : 0 < (Int.gcd i j : Int) := by
    have : 0 < Int.gcd i j := Nat.gcd_pos_of_pos_left _ (by omega)
    omega
  have hg2 : (Int.gcd i j : Int) ≤ i := Int.le_of_dvd (by omega) (Int.gcd_dvd_left i j)
  have h1 : 1 ≤ i / (Int.gcd i j : Int) := by
    rw [Int.le_ediv_iff_mul_le hg1]; omega
  have := Int.mul_le_mul h1 hj (by omega) (by omega)
  omega
theorem lcmI_le {i j : Int} (hi : 1 ≤ i) (hj : 1 ≤ j) : lcmI i j ≤ i * j := by
  unfold lcmI
  exact Int.mul_le_mul_of_nonneg_right (Int.ediv_le_self _ (by omega)) (by omega)
theorem lcmI_least {i j c : Int} (hi : 1 ≤ i) (hj : 1 ≤ j) (hc : 1 ≤ c) (h1 : i ∣ c) (h2 : j ∣ c) : lcmI i j ∣ c := by
  rw [lcmI_eq hi hj]
  have e : ((c.toNat : Nat) : Int) = c := Int.toNat_of_nonneg (by omega)
  rw [← e] at h1 h2 ⊢
  exact Int.natCast_dvd_natCast.mpr (Int.lcm_dvd h1 h2)
/-- a day by a round, by a multiple of it -/
theorem mod_mod {d n p : Int} (h : p ∣ n) : d % n % p = d % p := Int.emod_emod_of_dvd d h
/-- rests of a common round -/
theorem wf_filter {n : Int} (hn : 1 ≤ n) (f : Int → Bool) : Wf n ((rngI 0 n).filter f) :=
  ⟨hn, fun r hr => by have := mem_rngI.mp (List.mem_filter.mp hr).1; omega, ((rngI_sorted 0 n).imp fun {a b} h => by omega : (rngI 0 n).Nodup).filter _⟩
theorem has_filter {n : Int} (hn : 1 ≤ n) (f : Int → Bool) (d : Int) : has n ((rngI 0 n).filter f) d ↔ f (d % n) = true := by
  have h0 : 0 ≤ d % n := Int.emod_nonneg _ (by omega)
  have h1 : d % n < n := Int.emod_lt_of_pos _ (by omega)
  show d % n ∈ _ ↔ _
  rw [List.mem_filter, mem_rngI]
  simp [h0, h1]
/-- rests moved -/
theorem wf_shift {n : Int} {rs : List Int} (w : Wf n rs) (k : Int) : Wf n (rs.map fun r => (r + k) % n) := by
  have hn := w.pos
  refine ⟨hn, fun r hr => ?_, ?_⟩
  · obtain ⟨x, _, rfl⟩ := List.mem_map.mp hr
    exact ⟨Int.emod_nonneg _ (by omega), Int.emod_lt_of_pos _ (by omega)⟩
  · rw [List.nodup_iff_pairwise_ne, List.pairwise_map]
    refine (List.Pairwise.imp_of_mem ?_ (List.nodup_iff_pairwise_ne.mp w.nd))
    intro a b ha hb hne e
    have h1 := w.lt a ha
    have h2 := w.lt b hb
    have e2 : (a + k - (b + k)) % n = 0 := Int.emod_eq_emod_iff_emod_sub_eq_zero.mp e
    have e3 : (a - b) % n = 0 := by rw [show a - b = a + k - (b + k) by omega]; exact e2
    obtain ⟨c, hc⟩ := Int.dvd_of_emod_eq_zero e3
    have hc0 : c = 0 := by
      rcases Int.lt_trichotomy c 0 with z | z | z
      · have : n * c ≤ n * (-1) := Int.mul_le_mul_of_nonneg_left (by omega) (by omega)
        omega
      · exact z
      · have : n * 1 ≤ n * c := Int.mul_le_mul_of_nonneg_left (by omega) (by omega)
        omega
    rw [hc0, Int.mul_zero] at hc
    omega
theorem has_shift {n : Int} {rs : List Int} (w : Wf n rs) (k d : Int) : has n (rs.map fun r => (r + k) % n) d ↔ has n rs (d - k) := by
  show d % n ∈ _ ↔ (d - k) % n ∈ rs
  rw [List.mem_map]
  constructor
  · rintro ⟨r, hr, e⟩
    have h1 := w.lt r hr
    have : (d - k) % n = r := by
      have e2 : (r + k - d) % n = 0 := Int.emod_eq_emod_iff_emod_sub_eq_zero.mp e
      have e3 : (d - k) % n = (r + (d - k - r)) % n := by rw [show r + (d - k - r) = d - k by omega]
      have e4 : (d - k - r) % n = 0 := by
        rw [show d - k - r = -(r + k - d) by omega]
        exact Int.emod_eq_zero_of_dvd (Int.dvd_neg.mpr (Int.dvd_of_emod_eq_zero e2))
      rw [e3, Int.add_emod, e4, Int.add_zero, Int.emod_emod, Int.emod_eq_of_lt h1.1 h1.2]
    rw [this]; exact hr
  · intro h
    exact ⟨_, h, by rw [Int.emod_add_emod, show d - k + k = d by omega]⟩
end Rh
namespace DL
open PySem PySem.Spec PyProof.Rows L2 Rh
section
variable {S : Type}
theorem prp_size {τ : Env → M S D} {env : Env} {s s1 : S} {p : Int} {rs : List Int} (h : τ env s = .ok (rhD p rs) s1) : prp "Rhythm" sem_Rhythm_size τ env s = .ok (.int p) s1 := by
  rw [prp_run, h]
  have e : (sem_Rhythm_size [rhD p rs] : M S D) s1 = .ok (.int p) s1 := by simp only [sem_Rhythm_size, a1_run, onRh_run, pure_run]
  show (grd (("Rhythm" : Str) = "Rhythm") (calmM (sem_Rhythm_size [rhD p rs])) : M S D) s1 = _
  rw [grd_run, if_pos rfl, calm_of e]
theorem prp_rests {τ : Env → M S D} {env : Env} {s s1 : S} {p : Int} {rs : List Int} (h : τ env s = .ok (rhD p rs) s1) : prp "Rhythm" sem_Rhythm_rests τ env s = .ok (.tup (rs.map .int)) s1 := by
  rw [prp_run, h]
  have e : (sem_Rhythm_rests [rhD p rs] : M S D) s1 = .ok (.tup (rs.map .int)) s1 := by simp only [sem_Rhythm_rests, a1_run, onRh_run, pure_run]
  show (grd (("Rhythm" : Str) = "Rhythm") (calmM (sem_Rhythm_rests [rhD p rs])) : M S D) s1 = _
  rw [grd_run, if_pos rfl, calm_of e]
/-- x in a rhythm -/
theorem inR_rh {cs : List Str} {x p : Int} {rs : List Int} {s : S} (hp : 0 < p) : (orD (inOwn false "Rhythm" (sem_Rhythm___contains__ cs)) (inD false) (fun _ e => isIns e) (.int x) (rhD p rs) : M S D) s = .ok (.bl (decide (x % p ∈ rs))) s := by
  show (inOwn false "Rhythm" (sem_Rhythm___contains__ cs) (.int x) (rhD p rs) : M S D) s = _
  show (grd (("Rhythm" : Str) = "Rhythm") _ : M S D) s = _
  rw [grd_run, if_pos rfl]
  show ((sem_Rhythm___contains__ cs [rhD p rs, .int x] : M S D) s).bind _ = _
  rw [sem_has ⟨hp, rfl⟩]
  rfl
theorem ninR_rh {cs : List Str} {x p : Int} {rs : List Int} {s : S} (hp : 0 < p) : (orD (inOwn true "Rhythm" (sem_Rhythm___contains__ cs)) (inD true) (fun _ e => isIns e) (.int x) (rhD p rs) : M S D) s = .ok (.bl (!decide (x % p ∈ rs))) s := by
  show (inOwn true "Rhythm" (sem_Rhythm___contains__ cs) (.int x) (rhD p rs) : M S D) s = _
  show (grd (("Rhythm" : Str) = "Rhythm") _ : M S D) s = _
  rw [grd_run, if_pos rfl]
  show ((sem_Rhythm___contains__ cs [rhD p rs, .int x] : M S D) s).bind _ = _
  rw [sem_has ⟨hp, rfl⟩]
  rfl
theorem sizes {p q : Int} {rs ts : List Int} {s : S} {env : Env} (hp : 1 ≤ p ∧ p ≤ 3000) (hq : 1 ≤ q ∧ q ≤ 3000) : cal sem_common [] 2 (aCons (prp "Rhythm" sem_Rhythm_size (rVar 0)) (aCons (prp "Rhythm" sem_Rhythm_size (rVar 1)) aNil)) (some (.val (rhD p rs)) :: some (.val (rhD q ts)) :: env) s = .ok (.int (lcmI p q)) s := by
  have e0 : prp "Rhythm" sem_Rhythm_size (rVar 0) (some (.val (rhD p rs)) :: some (.val (rhD q ts)) :: env) s = .ok (.int p) s := prp_size (rs := rs) (by simp only [rVar_zero])
  have e1 : prp "Rhythm" sem_Rhythm_size (rVar 1) (some (.val (rhD p rs)) :: some (.val (rhD q ts)) :: env) s = .ok (.int q) s := prp_size (rs := ts) (by simp only [rVar_succ, rVar_zero])
  simp only [cal_run, aCons_run, aNil_run, e0, e1, Res.bind_ok, List.length_cons, List.length_nil, List.append_nil, Nat.zero_add, Nat.add_zero, if_true, sem_com (show 1 ≤ p ∧ p < 1073741824 ∧ 1 ≤ q ∧ q < 1073741824 by omega)]
theorem sem_wit {cs : List Str} {p q : Int} {rs ts : List Int} {s : S} (h : okR cs p ∧ okR cs q) : (sem_Rhythm_within cs [rhD p rs, rhD q ts] : M S D) s = .ok (.bl (((rngI 0 (lcmI p q)).filter fun x => decide (x % p ∈ rs)).all fun x => decide (x % q ∈ ts))) s := by
  simp only [sem_Rhythm_within, a2_run, onRh_run, grd_run, if_pos h, pure_run]
theorem lcm_small {p q : Int} (hp : 1 ≤ p ∧ p ≤ 3000) (hq : 1 ≤ q ∧ q ≤ 3000) : 1 ≤ lcmI p q ∧ lcmI p q ≤ 9000000 := by
  refine ⟨lcmI_pos hp.1 hq.1, Int.le_trans (lcmI_le hp.1 hq.1) ?_⟩
  have := Int.mul_le_mul hp.2 hq.2 (by omega) (by omega)
  omega
theorem rfn_Rhythm_within {cs : List Str} : Rfn (S := S) (sem_Rhythm_within cs) (runB (rd_Rhythm_within cs) N_Rhythm_within) := fun ds s h => by
  obtain ⟨x, y, rfl, h1⟩ := a2_ne h
  obtain ⟨p, rs, rfl, h2⟩ := onRh_ne h1
  obtain ⟨q, ts, rfl, h3⟩ := onRh_ne h2
  obtain ⟨hc, h4⟩ := grd_ne h3
  rw [sem_wit hc]
  obtain ⟨⟨hp1, hp2, _⟩, hq1, hq2, _⟩ := hc
  have hL := lcm_small ⟨hp1, hp2⟩ ⟨hq1, hq2⟩
  unfold runB rd_Rhythm_within
  rw [show startE N_Rhythm_within [rhD p rs, rhD q ts] = [some (.val (rhD p rs)), some (.val (rhD q ts)), none] from rfl]
  have ew : wipeE ([some (.val (rhD p rs)), some (.val (rhD q ts)), none] : Env) [2] = [some (.val (rhD p rs)), some (.val (rhD q ts)), none] := rfl
  have ec := cmpL_ints (S := S) (s := s) (env := [some (.val (rhD p rs)), some (.val (rhD q ts)), none]) (i := 2) (t := asT (bin (orD (inOwn false "Rhythm" (sem_Rhythm___contains__ cs)) (inD false) fun _ e => isIns e) (rVar 2) (rVar 0))) (e := bin (orD (inOwn false "Rhythm" (sem_Rhythm___contains__ cs)) (inD false) fun _ e => isIns e) (rVar 2) (rVar 1))
    (fun x => decide (x % p ∈ rs)) (fun x => .bl (decide (x % q ∈ ts))) (ns := rngI 0 (lcmI p q)) (fun x _ => by
      simp only [List.set_cons_succ, List.set_cons_zero, asT_run, bin_run, rVar_succ, rVar_zero, Res.bind_ok, inR_rh (show 0 < p by omega)]) (fun x _ _ => by
      simp only [List.set_cons_succ, List.set_cons_zero, bin_run, rVar_succ, rVar_zero, Res.bind_ok, inR_rh (show 0 < q by omega)])
  have hr : ((rngI 0 (lcmI p q)).map D.int).length ≤ sizeLine := by rw [List.length_map, rngI_length]; exact Nat.le_trans (show _ ≤ 9000000 by omega) (by decide)
  have hb : -(2 ^ 62) ≤ lcmI p q ∧ lcmI p q < 2 ^ 62 := by omega
  simp only [sRet_run, bcl_run, aCons_run, aNil_run, cmp_run, iR1_run, sizes (env := [none]) ⟨hp1, hp2⟩ ⟨hq1, hq2⟩, Res.bind_ok, if_pos hb, rngD_eq, if_pos hr, ew, calm_of ec, allD_map]
theorem sem_op {cs : List Str} {f : Bool → Bool → Bool} {p q : Int} {rs ts : List Int} {s : S} (h : okR cs p ∧ okR cs q ∧ lcmI p q ≤ 3000) : (semOp cs f [rhD p rs, rhD q ts] : M S D) s = .ok (mkR (lcmI p q) ((rngI 0 (lcmI p q)).filter fun x => f (decide (x % p ∈ rs)) (decide (x % q ∈ ts)))) s := by
  simp only [semOp, a2_run, onRh_run, grd_run, if_pos h, pure_run]
theorem ok_rh {cs : List Str} {p : Int} {rs : List Int} (h : ("Rhythm" : Str) ∈ cs) : okD cs (rhD p rs) = true := by
  show (decide (("Rhythm" : Str) ∈ cs) && decide (("Rhythm" : Str) ∉ tyNames)) = true
  rw [decide_eq_true h]; decide +kernel
theorem isRh_rh {p : Int} {rs : List Int} : isRhD (rhD p rs) = true := by show decide (("Rhythm" : Str) = "Rhythm") = true; exact decide_eq_true rfl
/-- the body of |, & and -, by its test -/
theorem op_run {cs : List Str} {f : Bool → Bool → Bool} {t : Env → M S Bool} {p q : Int} {rs ts : List Int} {s : S} (h : okR cs p ∧ okR cs q ∧ lcmI p q ≤ 3000)
    (ht : ∀ x : Int, t ([some (.val (rhD p rs)), some (.val (rhD q ts)), some (.val (.int (lcmI p q))), some (.val (.int x))] : Env) s = .ok (f (decide (x % p ∈ rs)) (decide (x % q ∈ ts))) s) :
    sSeq (sIf (notT (asT (isi (tb_kit_own_Rhythm cs) (rVar 1)))) sNo sNx) (sSeq (sAsg (cal sem_common [] 2 (aCons (prp "Rhythm" sem_Rhythm_size (rVar 0)) (aCons (prp "Rhythm" sem_Rhythm_size (rVar 1)) aNil))) (gNm 2)) (sRet (mk "Rhythm" (sem_Rhythm___init__ cs) [] 2 (aCons (rVar 2) (aCons (cmp [3] (iR1 (aCons (rVar 2) aNil)) (gNm 3) t (rVar 3)) aNil)))))
      ([some (.val (rhD p rs)), some (.val (rhD q ts)), none, none] : Env) s = .ok (.rt (mkR (lcmI p q) ((rngI 0 (lcmI p q)).filter fun x => f (decide (x % p ∈ rs)) (decide (x % q ∈ ts))))) s := by
  obtain ⟨⟨hp1, hp2, hcs⟩, ⟨hq1, hq2, _⟩, hl⟩ := h
  have hL := lcmI_pos hp1 hq1
  have ew : wipeE ([some (.val (rhD p rs)), some (.val (rhD q ts)), some (.val (.int (lcmI p q))), none] : Env) [3] = [some (.val (rhD p rs)), some (.val (rhD q ts)), some (.val (.int (lcmI p q))), none] := rfl
  have ec := cmpL_ints (S := S) (s := s) (env := [some (.val (rhD p rs)), some (.val (rhD q ts)), some (.val (.int (lcmI p q))), none]) (i := 3) (t := t) (e := rVar 3)
    (fun x => f (decide (x % p ∈ rs)) (decide (x % q ∈ ts))) (fun x => .int x) (ns := rngI 0 (lcmI p q)) (fun x _ => by
      simp only [List.set_cons_succ, List.set_cons_zero, ht]) (fun x _ _ => by simp only [List.set_cons_succ, List.set_cons_zero, rVar_succ, rVar_zero])
  have hr : ((rngI 0 (lcmI p q)).map D.int).length ≤ sizeLine := by rw [List.length_map, rngI_length]; exact sz3 (by omega)
  have hb : -(2 ^ 62) ≤ lcmI p q ∧ lcmI p q < 2 ^ 62 := by omega
  have ea : (aCons (rVar 2) (aCons (cmp [3] (iR1 (aCons (rVar 2) aNil)) (gNm 3) t (rVar 3)) aNil)) ([some (.val (rhD p rs)), some (.val (rhD q ts)), some (.val (.int (lcmI p q))), none] : Env) s = .ok [.int (lcmI p q), .lst (((rngI 0 (lcmI p q)).filter fun x => f (decide (x % p ∈ rs)) (decide (x % q ∈ ts))).map .int)] s := by
    simp only [aCons_run, aNil_run, cmp_run, iR1_run, rVar_succ, rVar_zero, Res.bind_ok, if_pos hb, rngD_eq, if_pos hr, ew, calm_of ec]
  have hw : wfB (lcmI p q) ((rngI 0 (lcmI p q)).filter fun x => f (decide (x % p ∈ rs)) (decide (x % q ∈ ts))) = true ∧ lcmI p q ≤ 3000 ∧ ((rngI 0 (lcmI p q)).filter fun x => f (decide (x % p ∈ rs)) (decide (x % q ∈ ts))).length ≤ 3000 :=
    ⟨wfB_iff.mpr (wf_filter hL _), hl, Nat.le_trans (List.length_filter_le _ _) (by rw [rngI_length]; omega)⟩
  simp only [sSeq_run, sIf_run, notT_run, asT_run, isi_run, rVar_succ, rVar_zero, Res.bind_ok, isi_rh (ok_rh (p := q) (rs := ts) hcs), isRh_rh, Bool.not_true, Bool.false_eq_true, if_false, sNx_run, sAsg_run, sizes (env := [none, none]) ⟨hp1, hp2⟩ ⟨hq1, hq2⟩, gNm_run, List.set_cons_succ, List.set_cons_zero, sRet_run, mk_rh ea (.inl rfl) hw]
theorem rfn_Rhythm___or__ {cs : List Str} : Rfn (S := S) (sem_Rhythm___or__ cs) (runB (rd_Rhythm___or__ cs) N_Rhythm___or__) := fun ds s h => by
  obtain ⟨x, y, rfl, h1⟩ := a2_ne h
  obtain ⟨p, rs, rfl, h2⟩ := onRh_ne h1
  obtain ⟨q, ts, rfl, h3⟩ := onRh_ne h2
  obtain ⟨hc, h4⟩ := grd_ne h3
  have e := op_run (S := S) (s := s) (rs := rs) (ts := ts) (f := fun a b => a || b) hc (t := orT (asT (bin (orD (inOwn false "Rhythm" (sem_Rhythm___contains__ cs)) (inD false) fun _ e => isIns e) (rVar 3) (rVar 0))) (asT (bin (orD (inOwn false "Rhythm" (sem_Rhythm___contains__ cs)) (inD false) fun _ e => isIns e) (rVar 3) (rVar 1)))) (fun x => by
    have := hc.1.1; have := hc.2.1.1
    simp only [orT_run, asT_run, bin_run, rVar_succ, rVar_zero, Res.bind_ok, inR_rh (show 0 < p by omega), inR_rh (show 0 < q by omega)]
    cases decide (x % p ∈ rs) <;> simp)
  show runB _ _ _ s = (semOp cs _ _ : M S D) s
  rw [sem_op hc]
  unfold runB rd_Rhythm___or__
  rw [show startE N_Rhythm___or__ [rhD p rs, rhD q ts] = [some (.val (rhD p rs)), some (.val (rhD q ts)), none, none] from rfl, e]
theorem rfn_Rhythm___and__ {cs : List Str} : Rfn (S := S) (sem_Rhythm___and__ cs) (runB (rd_Rhythm___and__ cs) N_Rhythm___and__) := fun ds s h => by
  obtain ⟨x, y, rfl, h1⟩ := a2_ne h
  obtain ⟨p, rs, rfl, h2⟩ := onRh_ne h1
  obtain ⟨q, ts, rfl, h3⟩ := onRh_ne h2
  obtain ⟨hc, h4⟩ := grd_ne h3
  have e := op_run (S := S) (s := s) (rs := rs) (ts := ts) (f := fun a b => a && b) hc (t := andT (asT (bin (orD (inOwn false "Rhythm" (sem_Rhythm___contains__ cs)) (inD false) fun _ e => isIns e) (rVar 3) (rVar 0))) (asT (bin (orD (inOwn false "Rhythm" (sem_Rhythm___contains__ cs)) (inD false) fun _ e => isIns e) (rVar 3) (rVar 1)))) (fun x => by
    have := hc.1.1; have := hc.2.1.1
    simp only [andT_run, asT_run, bin_run, rVar_succ, rVar_zero, Res.bind_ok, inR_rh (show 0 < p by omega), inR_rh (show 0 < q by omega)]
    cases decide (x % p ∈ rs) <;> simp)
  show runB _ _ _ s = (semOp cs _ _ : M S D) s
  rw [sem_op hc]
  unfold runB rd_Rhythm___and__
  rw [show startE N_Rhythm___and__ [rhD p rs, rhD q ts] = [some (.val (rhD p rs)), some (.val (rhD q ts)), none, none] from rfl, e]
theorem rfn_Rhythm___sub__ {cs : List Str} : Rfn (S := S) (sem_Rhythm___sub__ cs) (runB (rd_Rhythm___sub__ cs) N_Rhythm___sub__) := fun ds s h => by
  obtain ⟨x, y, rfl, h1⟩ := a2_ne h
  obtain ⟨p, rs, rfl, h2⟩ := onRh_ne h1
  obtain ⟨q, ts, rfl, h3⟩ := onRh_ne h2
  obtain ⟨hc, h4⟩ := grd_ne h3
  have e := op_run (S := S) (s := s) (rs := rs) (ts := ts) (f := fun a b => a && !b) hc (t := andT (asT (bin (orD (inOwn false "Rhythm" (sem_Rhythm___contains__ cs)) (inD false) fun _ e => isIns e) (rVar 3) (rVar 0))) (asT (bin (orD (inOwn true "Rhythm" (sem_Rhythm___contains__ cs)) (inD true) fun _ e => isIns e) (rVar 3) (rVar 1)))) (fun x => by
    have := hc.1.1; have := hc.2.1.1
    simp only [andT_run, asT_run, bin_run, rVar_succ, rVar_zero, Res.bind_ok, inR_rh (show 0 < p by omega), ninR_rh (show 0 < q by omega)]
    cases decide (x % p ∈ rs) <;> simp)
  show runB _ _ _ s = (semOp cs _ _ : M S D) s
  rw [sem_op hc]
  unfold runB rd_Rhythm___sub__
  rw [show startE N_Rhythm___sub__ [rhD p rs, rhD q ts] = [some (.val (rhD p rs)), some (.val (rhD q ts)), none, none] from rfl, e]
theorem sem_shr {cs : List Str} {p k : Int} {rs : List Int} {s : S} (h : wfB p rs = true ∧ p ≤ 3000 ∧ rs.length ≤ 3000) : (sem_Rhythm___rshift__ cs [rhD p rs, .int k] : M S D) s = .ok (mkR p (rs.map fun r => (r + k) % p)) s := by
  simp only [sem_Rhythm___rshift__, a2_run, onInt_run, onRh_run, grd_run, if_pos h, pure_run]
theorem rfn_Rhythm___rshift__ {cs : List Str} : Rfn (S := S) (sem_Rhythm___rshift__ cs) (runB (rd_Rhythm___rshift__ cs) N_Rhythm___rshift__) := fun ds s h => by
  obtain ⟨x, y, rfl, h1⟩ := a2_ne h
  obtain ⟨k, rfl, h2⟩ := onInt_ne h1
  obtain ⟨p, rs, rfl, h3⟩ := onRh_ne h2
  obtain ⟨hc, h4⟩ := grd_ne h3
  rw [sem_shr hc]
  have w := wfB_iff.mp hc.1
  have hp := w.pos
  unfold runB rd_Rhythm___rshift__
  rw [show startE N_Rhythm___rshift__ [rhD p rs, .int k] = [some (.val (rhD p rs)), some (.val (.int k)), none, none] from rfl]
  have o0 : bin ixD (fldC "Rhythm" "own_form" (rVar 0)) (rC (.int 0)) ([some (.val (rhD p rs)), some (.val (.int k)), none, none] : Env) s = .ok (.int p) s := own0 (rs := rs) (by simp only [rVar_zero])
  have o1 : bin ixD (fldC "Rhythm" "own_form" (rVar 0)) (rC (.int 1)) ([some (.val (rhD p rs)), some (.val (.int k)), some (.val (.int p)), none] : Env) s = .ok (.tup (rs.map .int)) s := own1 (p := p) (by simp only [rVar_zero])
  have ew : wipeE ([some (.val (rhD p rs)), some (.val (.int k)), some (.val (.int p)), none] : Env) [3] = [some (.val (rhD p rs)), some (.val (.int k)), some (.val (.int p)), none] := rfl
  have ec := cmpL_intsM (S := S) (s := s) (env := [some (.val (rhD p rs)), some (.val (.int k)), some (.val (.int p)), none]) (i := 3) (e := bin modD (bin addD (rVar 3) (rVar 1)) (rVar 2)) (fun r => .int ((r + k) % p)) (ns := rs) (fun r hr => by
    simp only [List.set_cons_succ, List.set_cons_zero, bin_run, rVar_succ, rVar_zero, Res.bind_ok, addD_int, intOp_run, if_pos (show 0 < p by omega)])
  have ea : (aCons (rVar 2) (aCons (cmp [3] (iSq (bin ixD (fldC "Rhythm" "own_form" (rVar 0)) (rC (.int 1)))) (gNm 3) tYs (bin modD (bin addD (rVar 3) (rVar 1)) (rVar 2))) aNil)) ([some (.val (rhD p rs)), some (.val (.int k)), some (.val (.int p)), none] : Env) s = .ok [.int p, .lst ((rs.map fun r => (r + k) % p).map .int)] s := by
    simp only [aCons_run, aNil_run, cmp_run, iSq_run, rVar_succ, rVar_zero, o1, Res.bind_ok, List.length_map, if_pos (sz3 hc.2.2), ew, calm_of ec, List.map_map]
    rfl
  simp only [sSeq_run, sIf_run, notT_run, asT_run, cal_run, aCons_run, aNil_run, rVar_succ, rVar_zero, Res.bind_ok, List.length_cons, List.length_nil, List.append_nil, Nat.zero_add, Nat.add_zero, if_true, sem_num (show okD cs (.int k) = true from rfl), isNumD, Bool.not_true, Bool.false_eq_true, if_false, sNx_run, sAsg_run, o0, gNm_run, List.set_cons_succ, List.set_cons_zero, sRet_run,
    mk_rh ea (.inl rfl) ⟨wfB_iff.mpr (wf_shift w k), hc.2.1, by rw [List.length_map]; exact hc.2.2⟩]
end
end DL
set_option Elab.async false
set_option linter.all false
set_option maxRecDepth 100000
set_option maxHeartbeats 4000000
set_option autoImplicit false
namespace DL
open PySem PySem.Spec PyProof.Rows L2
/-! ### what always ends, whatever is drawn -/
section
variable {S α β : Type}
def Yes (m : M S α) (P : α → Prop) : Prop := ∀ s, ∃ a s', m s = .ok a s' ∧ P a
theorem Yes.pure {a : α} {P : α → Prop} (h : P a) : Yes (Pure.pure a : M S α) P := fun s => ⟨a, s, rfl, h⟩
theorem Yes.bind {m : M S α} {f : α → M S β} {P : α → Prop} {Q : β → Prop} (h : Yes m P) (k : ∀ a, P a → Yes (f a) Q) : Yes (m >>= f) Q := fun s => by
  obtain ⟨a, s1, e, p⟩ := h s
  obtain ⟨b, s2, e2, q⟩ := k a p s1
  refine ⟨b, s2, ?_, q⟩
  show (m s).bind _ = _
  rw [e]; exact e2
theorem Yes.mono {m : M S α} {P Q : α → Prop} (h : Yes m P) (k : ∀ a, P a → Q a) : Yes m Q := fun s => by
  obtain ⟨a, s1, e, p⟩ := h s
  exact ⟨a, s1, e, k a p⟩
theorem Yes.calm {m : M S α} {P : α → Prop} (h : Yes m P) : Yes (calmM m) P := fun s => by
  obtain ⟨a, s1, e, p⟩ := h s
  exact ⟨a, s1, by unfold calmM; rw [e], p⟩
theorem Yes.of {m : M S α} {a : α} (h : ∀ s, m s = .ok a s) : Yes m (· = a) := fun s => ⟨a, s, h s, rfl⟩
/-- a loop that only goes on -/
theorem Yes.loop {γ : D → Env → M S Env} {τ : Env → M S Flw} (I : Env → Prop) : ∀ {xs : List D}, (∀ x ∈ xs, ∀ env, I env → Yes (γ x env) fun e => Yes (τ e) fun f => ∃ e', f = .nx e' ∧ I e') → ∀ {env : Env}, I env → Yes (forL γ τ xs env) fun f => ∃ e', f = .nx e' ∧ I e'
  | [], _, env, i => Yes.pure ⟨env, rfl, i⟩
  | x :: xs, h, env, i => by
    refine Yes.bind (h x List.mem_cons_self env i) fun e he => Yes.bind he ?_
    rintro f ⟨e', rfl, i'⟩
    exact Yes.loop I (xs := xs) (fun y hy => h y (List.mem_cons_of_mem _ hy)) i'
/-- a list that is picked out -/
theorem Yes.comp {γ : D → Env → M S Env} {t : Env → M S Bool} {e : Env → M S D} {env : Env} : ∀ {xs : List D}, (∀ x ∈ xs, Yes (γ x env) fun e1 => Yes (t e1) fun _ => Yes (e e1) (· = x)) → Yes (cmpL γ t e env xs) fun ys => ys.Sublist xs
  | [], _ => Yes.pure (List.Sublist.refl _)
  | x :: xs, h => by
    have ih := Yes.comp (xs := xs) (fun y hy => h y (List.mem_cons_of_mem _ hy))
    refine Yes.bind (h x List.mem_cons_self) fun e1 he => Yes.bind he fun b hb => ?_
    cases b with
    | true => exact Yes.bind hb fun y hy => Yes.bind ih fun ys hys => Yes.pure (by subst hy; exact hys.cons_cons _)
    | false => exact Yes.mono ih fun ys hys => hys.cons _
/-- a list of what is drawn -/
theorem Yes.list {γ : D → Env → M S Env} {e : Env → M S D} {env : Env} (P : D → Prop) : ∀ {xs : List D}, (∀ x ∈ xs, Yes (γ x env) fun e1 => Yes (e e1) P) → Yes (cmpL γ tYs e env xs) fun ys => ys.length = xs.length ∧ ∀ y ∈ ys, P y
  | [], _ => Yes.pure ⟨rfl, by simp⟩
  | x :: xs, h => by
    have ih := Yes.list P (xs := xs) (fun y hy => h y (List.mem_cons_of_mem _ hy))
    refine Yes.bind (h x List.mem_cons_self) fun e1 he => Yes.bind (P := (· = true)) (fun s => ⟨true, s, rfl, rfl⟩) fun b hb => ?_
    subst hb
    exact Yes.bind he fun y hy => Yes.bind ih fun ys hys => Yes.pure ⟨by simp [hys.1], by
      intro z hz
      rcases List.mem_cons.mp hz with rfl | hz
      · exact hy
      · exact hys.2 z hz⟩
theorem Yes.runB {rd : Env → M S Flw} {N : List Str} {ds : List D} {P : D → Prop} (h : Yes (rd (startE N ds)) fun f => ∃ d, f = .rt d ∧ P d) : Yes (runB rd N ds) P := fun s => by
  obtain ⟨a, s1, e, d, rfl, p⟩ := h s
  exact ⟨d, s1, by unfold DL.runB; rw [e], p⟩
theorem Yes.seq {a b : Env → M S Flw} {env : Env} {I : Env → Prop} {Q : Flw → Prop} (h : Yes (a env) fun f => ∃ e, f = .nx e ∧ I e) (k : ∀ e, I e → Yes (b e) Q) : Yes (sSeq a b env) Q := fun s => by
  obtain ⟨f, s1, e, e', rfl, i⟩ := h s
  obtain ⟨g, s2, e2, q⟩ := k e' i s1
  refine ⟨g, s2, ?_, q⟩
  rw [sSeq_run, e]; exact e2
theorem Yes.set {τ : Env → M S D} {env : Env} {i : Nat} {P : D → Prop} (h : Yes (τ env) P) : Yes (sAsg τ (gNm i) env) fun f => ∃ e, f = .nx e ∧ ∃ d, P d ∧ e = env.set i (some (.val d)) := fun s => by
  obtain ⟨d, s1, e, p⟩ := h s
  exact ⟨_, s1, by rw [sAsg_run, e]; rfl, _, rfl, d, p, rfl⟩
theorem Yes.ret {τ : Env → M S D} {env : Env} {P : D → Prop} (h : Yes (τ env) P) : Yes (sRet τ env) fun f => ∃ d, f = .rt d ∧ P d := fun s => by
  obtain ⟨d, s1, e, p⟩ := h s
  exact ⟨_, s1, by rw [sRet_run, e]; rfl, d, rfl, p⟩
theorem Yes.if_ {t : Env → M S Bool} {a b : Env → M S Flw} {env : Env} {P : Bool → Prop} {Q : Flw → Prop} (h : Yes (t env) P) (k : P true → Yes (a env) Q) (k' : P false → Yes (b env) Q) : Yes (sIf t a b env) Q := fun s => by
  obtain ⟨c, s1, e, p⟩ := h s
  cases c with
  | true => obtain ⟨g, s2, e2, q⟩ := k p s1; exact ⟨g, s2, by rw [sIf_run, e]; exact e2, q⟩
  | false => obtain ⟨g, s2, e2, q⟩ := k' p s1; exact ⟨g, s2, by rw [sIf_run, e]; exact e2, q⟩
theorem Yes.bin {f : D → D → M S D} {τ υ : Env → M S D} {env : Env} {P Q R : D → Prop} (h : Yes (τ env) P) (h' : Yes (υ env) Q) (k : ∀ x y, P x → Q y → Yes (f x y) R) : Yes (DL.bin f τ υ env) R :=
  Yes.bind h fun x hx => Yes.bind h' fun y hy => k x y hx hy
theorem Yes.asT {τ : Env → M S D} {env : Env} {P : Bool → Prop} (h : Yes (τ env) fun d => ∃ b, d = .bl b ∧ P b) : Yes (DL.asT τ env) P := fun s => by
  obtain ⟨d, s1, e, b, rfl, p⟩ := h s
  exact ⟨b, s1, by rw [asT_run, e]; rfl, p⟩
theorem Yes.cal {sem : List D → M S D} {n : Nat} {l : Env → M S (List D)} {env : Env} {P : List D → Prop} {Q : D → Prop} (h : Yes (l env) fun ds => ds.length = n ∧ P ds) (k : ∀ ds, P ds → Yes (sem ds) Q) : Yes (DL.cal sem [] n l env) Q := fun s => by
  obtain ⟨ds, s1, e, hl, p⟩ := h s
  obtain ⟨d, s2, e2, q⟩ := k ds p s1
  exact ⟨d, s2, by rw [cal_run, e]; simp [hl, e2], q⟩
end
/-! ### whole numbers -/
section
variable {S : Type} {env : Env} {τ υ : Env → M S D}
def IntE (τ : Env → M S D) (env : Env) (P : Int → Prop) : Prop := Yes (τ env) fun d => ∃ v, d = .int v ∧ P v
theorem IntE.c {i : Int} {P : Int → Prop} (h : P i) : IntE (rC (.int i) : Env → M S D) env P := fun s => ⟨_, s, rfl, i, rfl, h⟩
theorem IntE.var {i : Nat} {v : Int} {P : Int → Prop} (e : env[i]? = some (some (.val (.int v)))) (h : P v) : IntE (rVar i : Env → M S D) env P := fun s => ⟨_, s, rVar_run e, v, rfl, h⟩
theorem IntE.op {C : Int → Int → Prop} [∀ i j, Decidable (C i j)] {g : Int → Int → Int} {P Q R : Int → Prop} (h : IntE τ env P) (h' : IntE υ env Q) (k : ∀ i j, P i → Q j → C i j ∧ R (g i j)) : IntE (bin (intOp C fun i j => .int (g i j)) τ υ) env R :=
  Yes.bin h h' (by
    rintro x y ⟨i, rfl, hi⟩ ⟨j, rfl, hj⟩ s
    obtain ⟨c, r⟩ := k i j hi hj
    exact ⟨_, s, by rw [intOp_run, if_pos c], _, rfl, r⟩)
theorem IntE.add {P Q R : Int → Prop} (h : IntE τ env P) (h' : IntE υ env Q) (k : ∀ i j, P i → Q j → R (i + j)) : IntE (bin addD τ υ) env R :=
  Yes.bin h h' (by
    rintro x y ⟨i, rfl, hi⟩ ⟨j, rfl, hj⟩ s
    exact ⟨_, s, addD_int, _, rfl, k i j hi hj⟩)
theorem IntE.int1 {P : Int → Prop} (h : IntE τ env P) : IntE (bcl int1D (aCons τ aNil)) env P := fun s => by
  obtain ⟨d, s1, e, v, rfl, p⟩ := h s
  exact ⟨.int v, s1, by rw [bcl_run, aCons_run, e]; rfl, v, rfl, p⟩
theorem IntE.set {i : Nat} {P : Int → Prop} (h : IntE τ env P) : Yes (sAsg τ (gNm i) env) fun f => ∃ e, f = .nx e ∧ ∃ v, P v ∧ e = env.set i (some (.val (.int v))) := Yes.mono (Yes.set h) (by
  rintro _ ⟨e, rfl, d, ⟨v, rfl, p⟩, rfl⟩
  exact ⟨_, rfl, v, p, rfl⟩)
/-- a test of two whole numbers -/
theorem IntE.eq {P Q : Int → Prop} {neg : Bool} (h : IntE τ env P) (h' : IntE υ env Q) : Yes (asT (bin (eqD neg) τ υ) env) fun b => ∃ i j, P i ∧ Q j ∧ b = (if neg then !(i == j) else (i == j)) :=
  Yes.asT (Yes.bin h h' (by
    rintro x y ⟨i, rfl, hi⟩ ⟨j, rfl, hj⟩ s
    exact ⟨_, s, eqD_int, _, rfl, i, j, hi, hj, rfl⟩))
end
section
variable {s : DrS} {τ υ : Env → M DrS D}
@[simp] theorem drwGet_run {f : DrS → D} {es : Env} : drwGet f (rVar 0) (some (.val (.hnd 0)) :: es) s = .ok (f s) s := rfl
@[simp] theorem drwSet_run {f : Int → DrS → DrS} {es : Env} : drwSet f τ (rVar 0) (some (.val (.hnd 0)) :: es) s = (τ (some (.val (.hnd 0)) :: es) s).bind fun d s1 => onInt (fun i => fun s2 => .ok (.nx (some (.val (.hnd 0)) :: es)) (f i s2)) d s1 := rfl
@[simp] theorem iCl_run {cells : List Int} {es : Env} {f : DrS → D} (h : f s = .hnd 2) : iCl cells (drwGet f (rVar 0)) (some (.val (.hnd 0)) :: es) s = .ok (cells.map .int) s := by
  unfold iCl
  show (drwGet f (rVar 0) (some (.val (.hnd 0)) :: es) s).bind _ = _
  rw [drwGet_run, h]; rfl
theorem IntE.put {f : Int → DrS → DrS} {es : Env} {P : Int → Prop} (h : IntE τ (some (.val (.hnd 0)) :: es) P) : Yes (drwSet f τ (rVar 0) (some (.val (.hnd 0)) :: es)) fun g => ∃ e, g = .nx e ∧ e = some (.val (.hnd 0)) :: es := fun s => by
  obtain ⟨d, s1, e, v, rfl, p⟩ := h s
  exact ⟨_, _, by rw [drwSet_run, e]; rfl, _, rfl, rfl⟩
theorem IntE.turn {es : Env} : IntE (drwGet (fun s => .int s.turn) (rVar 0)) (some (.val (.hnd 0)) :: es) fun _ => True := fun s => ⟨_, s, rfl, _, rfl, trivial⟩
theorem IntE.left {es : Env} : IntE (drwGet (fun s => .int s.left) (rVar 0)) (some (.val (.hnd 0)) :: es) fun _ => True := fun s => ⟨_, s, rfl, _, rfl, trivial⟩
theorem mixed_ok (cells : List Int) : Yes (sem__law_mixed cells [.hnd 0]) fun d => ∃ v, d = .int v ∧ True := by
  refine Yes.runB ?_
  show Yes (rd__law_mixed cells [some (.val (.hnd 0)), none, none, none, none, none]) _
  unfold rd__law_mixed
  refine Yes.seq (IntE.set (IntE.add (R := fun _ => True) IntE.turn (IntE.c (P := fun _ => True) trivial) fun _ _ _ _ => trivial)) ?_
  rintro _ ⟨t, -, rfl⟩
  refine Yes.seq (IntE.put (IntE.var (P := fun _ => True) rfl trivial)) ?_
  rintro _ rfl
  refine Yes.seq (IntE.set (IntE.c (P := fun _ => True) trivial)) ?_
  rintro _ ⟨f0, -, rfl⟩
  refine Yes.seq (I := fun e => ∃ (f : Int) (x y z : Option Slot), e = [some (.val (.hnd 0)), some (.val (.int t)), some (.val (.int f)), x, y, z]) ?_ ?_
  · show Yes (sFor _ _ _ _) _
    refine Yes.bind (P := (· = [D.int 2147483629, .int 2147483587, .int 2147483579, .int 2147483563])) (fun s => ⟨_, s, by simp [sizeLine_eq], rfl⟩) fun ds hd => ?_
    subst hd
    refine Yes.loop _ ?_ ⟨f0, none, none, none, rfl⟩
    rintro x hx _ ⟨f, a, b, c, rfl⟩
    obtain ⟨p, rfl, hp⟩ : ∃ p : Int, x = .int p ∧ 0 < p ∧ p < 2147483648 := by
      simp only [List.mem_cons, List.not_mem_nil, or_false] at hx
      rcases hx with rfl | rfl | rfl | rfl <;> exact ⟨_, rfl, by decide⟩
    refine Yes.mono (Yes.of fun s => gNm_run) ?_
    rintro _ rfl
    show Yes (sSeq _ _ [some (.val (.hnd 0)), some (.val (.int t)), some (.val (.int f)), some (.val (.int p)), b, c]) _
    have md : ∀ i j : Int, True → j = p → 0 < j ∧ (0 ≤ i % j ∧ i % j < 2147483648) := fun i j _ hj => by
      subst hj
      exact ⟨hp.1, Int.emod_nonneg _ (by omega), by have := Int.emod_lt_of_pos i hp.1; omega⟩
    refine Yes.seq (IntE.set (IntE.op (R := fun v => 0 ≤ v ∧ v < 2147483648) (IntE.int1 (IntE.add (R := fun _ => True) (IntE.op (P := fun _ => True) (Q := fun j => j = 69621) (R := fun _ => True) (IntE.var rfl trivial) (IntE.c rfl) fun i j _ hj => ⟨.inr (by subst hj; decide), trivial⟩) (IntE.op (P := fun _ => True) (Q := fun j => j = 7) (R := fun _ => True) (IntE.var rfl trivial) (IntE.c rfl) fun i j _ hj => ⟨by subst hj; exact ⟨by decide, by decide⟩, trivial⟩) fun _ _ _ _ => trivial)) (IntE.var (P := fun j => j = p) rfl rfl) md)) ?_
    rintro _ ⟨v, hv, rfl⟩
    refine Yes.seq (I := fun e => ∃ (v : Int) (z : Option Slot), (0 ≤ v ∧ v < 2147483648) ∧ e = [some (.val (.hnd 0)), some (.val (.int t)), some (.val (.int f)), some (.val (.int p)), some (.val (.int v)), z]) ?_ ?_
    · show Yes (sFor _ _ _ _) _
      refine Yes.bind (P := (· = cells.map D.int)) (fun s => ⟨_, s, iCl_run rfl, rfl⟩) fun ds hd => ?_
      subst hd
      refine Yes.loop _ ?_ ⟨v, c, hv, rfl⟩
      rintro x hx _ ⟨w, z, hw, rfl⟩
      obtain ⟨n, -, rfl⟩ := List.mem_map.mp hx
      refine Yes.mono (Yes.of fun s => gNm_run) ?_
      rintro _ rfl
      refine Yes.mono (IntE.set (IntE.op (R := fun v => 0 ≤ v ∧ v < 2147483648) (IntE.int1 (IntE.add (R := fun _ => True) (IntE.op (P := fun _ => True) (Q := fun j => j = 48271) (R := fun _ => True) (IntE.var rfl trivial) (IntE.c rfl) fun i j _ hj => ⟨.inr (by subst hj; decide), trivial⟩) (IntE.var (P := fun _ => True) rfl trivial) fun _ _ _ _ => trivial)) (IntE.var (P := fun j => j = p) rfl rfl) md)) ?_
      rintro _ ⟨e, rfl, u, hu, rfl⟩
      exact ⟨_, rfl, u, _, hu, rfl⟩
    · rintro _ ⟨w, z, hw, rfl⟩
      refine Yes.mono (IntE.set (IntE.add (R := fun _ => True) (IntE.op (P := fun _ => True) (Q := fun j => j = 2147483647) (R := fun _ => True) (IntE.var rfl trivial) (IntE.c rfl) fun i j _ hj => ⟨.inr (by subst hj; decide), trivial⟩) (IntE.op (R := fun v => 0 ≤ v ∧ v < 2147483648) (IntE.int1 (IntE.op (P := fun i => i = w) (Q := fun j => j = 5) (R := fun _ => True) (IntE.var rfl rfl) (IntE.c rfl) fun i j hi hj => ⟨⟨by omega, by omega, by subst hi; omega⟩, trivial⟩)) (IntE.var (P := fun j => j = p) rfl rfl) md) fun _ _ _ _ => trivial)) ?_
      rintro _ ⟨e, rfl, u, hu, rfl⟩
      exact ⟨_, rfl, u, _, _, _, rfl⟩
  · rintro _ ⟨f, x, y, z, rfl⟩
    exact Yes.ret (IntE.var rfl trivial)
theorem args2 {S : Type} {τ υ : Env → M S D} {env : Env} {P Q : D → Prop} (h : Yes (τ env) P) (h' : Yes (υ env) Q) : Yes (aCons τ (aCons υ aNil) env) fun ds => ds.length = 2 ∧ ∃ x y, ds = [x, y] ∧ P x ∧ Q y :=
  Yes.bind h fun x hx => Yes.bind (P := fun ds => ∃ y, ds = [y] ∧ Q y) (Yes.bind h' fun y hy => Yes.bind (P := (· = [])) (fun s => ⟨[], s, rfl, rfl⟩) fun l hl => Yes.pure ⟨y, by rw [hl], hy⟩) fun ds hd => by
    obtain ⟨y, rfl, hy⟩ := hd
    exact Yes.pure ⟨rfl, x, y, rfl, hx, hy⟩
theorem args1 {S : Type} {τ : Env → M S D} {env : Env} {P : D → Prop} (h : Yes (τ env) P) : Yes (aCons τ aNil env) fun ds => ds.length = 1 ∧ ∃ x, ds = [x] ∧ P x :=
  Yes.bind h fun x hx => Yes.bind (P := (· = [])) (fun s => ⟨[], s, rfl, rfl⟩) fun l hl => Yes.pure (by subst hl; exact ⟨rfl, x, rfl, hx⟩)
theorem take_ok (cells : List Int) {many : Int} (h : 0 < many) (h' : many < 1073741824) : Yes (sem__law_take cells [.hnd 0, .int many]) fun d => ∃ v, d = .int v ∧ (0 ≤ v ∧ v < many) := by
  refine Yes.runB ?_
  show Yes (rd__law_take cells [some (.val (.hnd 0)), some (.val (.int many)), none]) _
  unfold rd__law_take
  refine Yes.seq (I := fun e => e = [some (.val (.hnd 0)), some (.val (.int many)), none]) ?_ ?_
  · intro s
    rw [sIf_run, andT_run, asT_run, bin_run, drwGet_run, Res.bind_ok, rC_run, Res.bind_ok, eqD_int, Res.bind_ok]
    by_cases hl : s.left = 0
    · cases hw : s.wide with
      | nil => exact ⟨_, s, by simp [hl, neW, hw], _, rfl, rfl⟩
      | cons w ws => exact ⟨_, _, by simp [hl, neW, hw, popW]; rfl, _, rfl, rfl⟩
    · exact ⟨_, s, by simp [hl], _, rfl, rfl⟩
  rintro _ rfl
  refine Yes.seq (I := fun e => e = [some (.val (.hnd 0)), some (.val (.int many)), none]) ?_ ?_
  · refine Yes.if_ (IntE.eq IntE.left (IntE.c (P := fun _ => True) trivial)) (fun _ => ?_) fun _ => fun s => ⟨_, s, rfl, _, rfl, rfl⟩
    refine IntE.put (P := fun _ => True) (Yes.cal (args1 (P := (· = .hnd 0)) fun s => ⟨_, s, rfl, rfl⟩) ?_)
    rintro _ ⟨_, rfl, rfl⟩
    exact mixed_ok cells
  rintro _ rfl
  refine Yes.seq (IntE.set (IntE.op (R := fun v => 0 ≤ v ∧ v < many) (IntE.int1 IntE.left) (IntE.var (P := fun j => j = many) rfl rfl) fun i j _ hj => ⟨by omega, by subst hj; exact ⟨Int.emod_nonneg _ (by omega), Int.emod_lt_of_pos i h⟩⟩)) ?_
  rintro _ ⟨v, hv, rfl⟩
  refine Yes.seq (IntE.put (IntE.op (R := fun _ => True) IntE.left (IntE.var (P := fun j => j = many) rfl rfl) fun i j _ hj => ⟨⟨by omega, by omega⟩, trivial⟩)) ?_
  rintro _ rfl
  exact Yes.ret (IntE.var rfl hv)
theorem take_in {cells : List Int} {env : Env} {τ : Env → M DrS D} {i : Nat} {many : Int} (e : env[i]? = some (some (.val (.hnd 0)))) (ht : IntE τ env (· = many)) (h : 0 < many) (h' : many < 1073741824) : IntE (cal (sem__law_take cells) [] 2 (aCons (rVar i) (aCons τ aNil))) env fun v => 0 ≤ v ∧ v < many :=
  Yes.cal (args2 (P := (· = .hnd 0)) (fun s => ⟨_, s, rVar_run e, rfl⟩) ht) (by
    rintro _ ⟨x, y, rfl, rfl, v, rfl, rfl⟩
    exact take_ok cells h h')
theorem pick_ok (cells : List Int) {ds : List D} (h : 0 < ds.length) (h' : ds.length ≤ 100000000) : Yes (sem__law_pick cells [.hnd 0, .lst ds]) fun d => d ∈ ds := by
  refine Yes.runB ?_
  show Yes (rd__law_pick cells [some (.val (.hnd 0)), some (.val (.lst ds))]) _
  unfold rd__law_pick
  refine Yes.ret (Yes.bin (P := (· = .lst ds)) (fun s => ⟨_, s, rfl, rfl⟩) (take_in (many := (ds.length : Int)) rfl (fun s => ⟨_, s, rfl, _, rfl, rfl⟩) (by omega) (by omega)) ?_)
  rintro x y rfl ⟨v, rfl, h1, h2⟩ s
  have hv : v.toNat < ds.length := by omega
  refine ⟨ds[v.toNat], s, ?_, List.getElem_mem hv⟩
  show (match atI ds v with
    | some x => pure x
    | none => stk : M DrS D) s = _
  have : atI ds v = some ds[v.toNat] := by
    unfold atI ixN
    simp [h1, h2, hv]
  rw [this]; rfl
end
end DL
set_option Elab.async false
set_option linter.all false
set_option maxRecDepth 100000
set_option maxHeartbeats 4000000
set_option autoImplicit false
/-! printed by tools/mklw.py: the helpers of k05 -/
namespace DL
open PySem PySem.Spec PyProof.Rows L2
abbrev N__law_any_rhythm : List Str := ["_law_draw", "_law_size", "_law_way", "_law_rests", "_law_rest", "_law_part", "_law_one"]
def rd__law_any_rhythm (cells : List Int) : Env → M DrS Flw :=
  (sSeq (sAsg (bin addD (rC (.int 1)) (cal (sem__law_take cells) [] 2 (aCons (rVar 0) (aCons (rC (.int 14)) aNil)))) (gNm 1)) (sSeq (sAsg (cal (sem__law_take cells) [] 2 (aCons (rVar 0) (aCons (rC (.int 4)) aNil))) (gNm 2)) (sSeq (sAsg (cmp [4] (iR1 (aCons (rVar 1) aNil)) (gNm 4) (asT (bin (eqD false) (cal (sem__law_take cells) [] 2 (aCons (rVar 0) (aCons (bin addD (rC (.int 2)) (cal (sem__law_take cells) [] 2 (aCons (rVar 0) (aCons (rC (.int 3)) aNil)))) aNil))) (rC (.int 0)))) (rVar 4)) (gNm 3)) (sSeq (sIf (asT (bin (eqD false) (rVar 2) (rC (.int 0)))) (sSeq (sAsg (cal (sem__law_pick cells) [] 2 (aCons (rVar 0) (aCons (cmp [6] (iR2 (aCons (rC (.int 1)) (aCons (bin addD (rVar 1) (rC (.int 1))) aNil))) (gNm 6) (asT (bin (eqD false) (bin modD (rVar 1) (rVar 6)) (rC (.int 0)))) (rVar 6)) aNil))) (gNm 5)) (sAsg (cmp [4] (iR1 (aCons (rVar 1) aNil)) (gNm 4) (asT (bin (eqD false) (bin modD (bcl int1D (aCons (rVar 4) aNil)) (rVar 5)) (cal (sem__law_take cells) [] 2 (aCons (rVar 0) (aCons (rC (.int 1)) aNil))))) (rVar 4)) (gNm 3))) sNx) (sRet (tupD (aCons (rVar 1) (aCons (bcl tupleD (aCons (rVar 3) aNil)) aNil))))))))
def sem__law_any_rhythm (cells : List Int) : List D → M DrS D := runB (rd__law_any_rhythm cells) N__law_any_rhythm
abbrev N__law_has : List Str := ["_law_rhythm", "_law_day"]
def rd__law_has {S : Type} : Env → M S Flw :=
  (sRet (bin (inD false) (bin modD (bcl int1D (aCons (rVar 1) aNil)) (bin ixD (rVar 0) (rC (.int 0)))) (bin ixD (rVar 0) (rC (.int 1)))))
def sem__law_has {S : Type} : List D → M S D := runB (rd__law_has) N__law_has
end DL
set_option Elab.async false
set_option linter.all false
set_option maxRecDepth 100000
set_option maxHeartbeats 4000000
set_option autoImplicit false
namespace DL
open PySem PySem.Spec PyProof.Rows L2 Rh
/-! ### expressions that are a rhythm, whatever the state -/
abbrev eqOr {S : Type} (cs : List Str) : D → D → M S D := orD (opOwn "Rhythm" (sem_Rhythm___eq__ cs)) (eqD false) fun d _ => isIns d
abbrev inOr {S : Type} (cs : List Str) : D → D → M S D := orD (inOwn false "Rhythm" (sem_Rhythm___contains__ cs)) (inD false) fun _ e => isIns e
abbrev subOr {S : Type} (cs : List Str) : D → D → M S D := orD (opOwn "Rhythm" (sem_Rhythm___sub__ cs)) subD fun d _ => isIns d
section
variable {S : Type} {env : Env} {τ υ κ : Env → M S D} {A B : Int → Prop} {L : Int} {cs : List Str}
/-- an expression that is the data d -/
def Det (τ : Env → M S D) (env : Env) (d : D) : Prop := ∀ s, τ env s = .ok d s
def DetT (t : Env → M S Bool) (env : Env) (b : Bool) : Prop := ∀ s, t env s = .ok b s
/-- a rhythm whose days are A, of a period that divides L -/
def RE (L : Int) (τ : Env → M S D) (env : Env) (A : Int → Prop) : Prop := ∃ p rs, Det τ env (rhD p rs) ∧ Can p rs ∧ (∀ x, has p rs x ↔ A x) ∧ p ∣ L
theorem Det.var {i : Nat} {d : D} (h : env[i]? = some (some (.val d))) : Det (rVar i : Env → M S D) env d := fun s => rVar_run h
theorem Det.c {d : D} : Det (rC d : Env → M S D) env d := fun s => rfl
theorem Det.bin {f : D → D → M S D} {x y z : D} (h : Det τ env x) (h' : Det υ env y) (k : ∀ s, f x y s = .ok z s) : Det (bin f τ υ) env z := fun s => by
  rw [bin_run, h s, Res.bind_ok, h' s, Res.bind_ok, k s]
theorem per_le {p m : Int} (h : p ∣ L) (hL : 1 ≤ L) (hp : 1 ≤ p) : p ≤ L := Int.le_of_dvd (by omega) h
theorem asc_len : ∀ {rs : List Int} {a n : Int}, rs.Pairwise (· < ·) → (∀ r ∈ rs, a ≤ r ∧ r < n) → rs.length ≤ (n - a).toNat
  | [], _, _, _, _ => Nat.zero_le _
  | r :: rs, a, n, h, b => by
    have hr := b r List.mem_cons_self
    have h2 := List.pairwise_cons.mp h
    have ih := asc_len (rs := rs) (a := r + 1) (n := n) h2.2 fun x hx => by
      have := h2.1 x hx
      have := b x (List.mem_cons_of_mem _ hx)
      omega
    simp only [List.length_cons]
    omega
theorem wf_len {n : Int} {rs : List Int} (w : Wf n rs) : rs.length ≤ n.toNat := by
  have h := asc_len (a := 0) (n := n) (srt_lt w.nd) fun r hr => w.lt r (mem_srt.mp hr)
  rw [(srt_perm rs).length_eq] at h
  omega
theorem mk_can {n : Int} {rs : List Int} (w : Wf n rs) (h : n ∣ L) (hA : ∀ x, has n rs x ↔ A x) : Can (leastP n rs) (formR n rs) ∧ (∀ x, has (leastP n rs) (formR n rs) x ↔ A x) ∧ leastP n rs ∣ L :=
  ⟨form_can w, fun x => (form_has w x).trans (hA x), Int.dvd_trans (Int.dvd_of_emod_eq_zero (form_le w).2) h⟩
theorem RE.op {f : Bool → Bool → Bool} {g : D → D → M S D} (hc : ("Rhythm" : Str) ∈ cs) (hL : 1 ≤ L) (hL' : L ≤ 3000) (hg : ∀ p rs q ts s, g (rhD p rs) (rhD q ts) s = (semOp cs f [rhD p rs, rhD q ts] : M S D) s) (h : RE L τ env A) (h' : RE L υ env B)
    {C : Int → Prop} (hC : ∀ (a b : Bool) x, (a = true ↔ A x) → (b = true ↔ B x) → (f a b = true ↔ C x)) : RE L (bin g τ υ) env C := by
  obtain ⟨p, rs, d, c, e, l⟩ := h
  obtain ⟨q, ts, d', c', e', l'⟩ := h'
  have hp := per_le (m := 0) l hL c.pos
  have hq := per_le (m := 0) l' hL c'.pos
  have hm : lcmI p q ∣ L := lcmI_least c.pos c'.pos hL l l'
  have h1 := lcmI_pos c.pos c'.pos
  have h2 := per_le (m := 0) hm hL h1
  have w := wf_filter h1 fun x => f (decide (x % p ∈ rs)) (decide (x % q ∈ ts))
  obtain ⟨a1, a2, a3⟩ := mk_can (A := C) w hm fun x => by
    rw [has_filter h1]
    refine hC _ _ x ?_ ?_
    · rw [mod_mod (lcmI_dvd_left c.pos c'.pos), decide_eq_true_iff]; exact e x
    · rw [mod_mod (lcmI_dvd_right c.pos c'.pos), decide_eq_true_iff]; exact e' x
  exact ⟨_, _, Det.bin d d' fun s => by rw [hg, sem_op ⟨⟨c.pos, by omega, hc⟩, ⟨c'.pos, by omega, hc⟩, by omega⟩]; rfl, a1, a2, a3⟩
theorem own_run {sem : List D → M S D} {p q : Int} {rs ts : List Int} {s : S} : opOwn "Rhythm" sem (rhD p rs) (rhD q ts) s = sem [rhD p rs, rhD q ts] s := by
  simp only [opOwn, rhD, onIns_run, grd_run, and_self, if_true]
theorem RE.or (hc : ("Rhythm" : Str) ∈ cs) (hL : 1 ≤ L) (hL' : L ≤ 3000) (h : RE L τ env A) (h' : RE L υ env B) : RE L (bin (opOwn "Rhythm" (sem_Rhythm___or__ cs)) τ υ) env fun x => A x ∨ B x :=
  RE.op hc hL hL' (fun p rs q ts s => own_run) h h' fun a b x ha hb => by rw [Bool.or_eq_true, ha, hb]
theorem RE.and (hc : ("Rhythm" : Str) ∈ cs) (hL : 1 ≤ L) (hL' : L ≤ 3000) (h : RE L τ env A) (h' : RE L υ env B) : RE L (bin (opOwn "Rhythm" (sem_Rhythm___and__ cs)) τ υ) env fun x => A x ∧ B x :=
  RE.op hc hL hL' (fun p rs q ts s => own_run) h h' fun a b x ha hb => by rw [Bool.and_eq_true, ha, hb]
theorem RE.sub (hc : ("Rhythm" : Str) ∈ cs) (hL : 1 ≤ L) (hL' : L ≤ 3000) (h : RE L τ env A) (h' : RE L υ env B) : RE L (bin (subOr cs) τ υ) env fun x => A x ∧ ¬ B x :=
  RE.op (g := subOr cs) (f := fun a b => a && !b) hc hL hL' (fun p rs q ts s => own_run) h h' fun a b x ha hb => by rw [Bool.and_eq_true, ha, ← hb]; simp
theorem RE.shr {k : Int} (hc : ("Rhythm" : Str) ∈ cs) (hL : 1 ≤ L) (hL' : L ≤ 3000) (h : RE L τ env A) (hk : Det κ env (.int k)) : RE L (bin (opOwnI "Rhythm" (sem_Rhythm___rshift__ cs)) τ κ) env fun x => A (x - k) := by
  obtain ⟨p, rs, d, c, e, l⟩ := h
  have hp := per_le (m := 0) l hL c.pos
  have w := wf_shift c.wf k
  obtain ⟨a1, a2, a3⟩ := mk_can (A := fun x => A (x - k)) w l fun x => (has_shift c.wf k x).trans (e _)
  have hl : rs.length ≤ 3000 := by have := wf_len c.wf; omega
  refine ⟨_, _, Det.bin d hk fun s => ?_, a1, a2, a3⟩
  have e1 : opOwnI "Rhythm" (sem_Rhythm___rshift__ cs) (rhD p rs) (.int k) s = (sem_Rhythm___rshift__ cs [rhD p rs, .int k] : M S D) s := by
    simp only [opOwnI, rhD, onIns_run, onInt_run, grd_run, if_true]
  rw [e1, sem_shr ⟨wfB_iff.mpr c.wf, by omega, hl⟩]
  rfl
theorem RE.mk {n : Int} {rs : List Int} {α : Env → M S (List D)} {th : D} (hn : n ≤ 3000) (hl : rs.length ≤ 3000) (w : Wf n rs) (hd : n ∣ L) (ha : ∀ s, α env s = .ok [.int n, th] s) (hth : th = .lst (rs.map .int) ∨ th = .tup (rs.map .int)) : RE L (mk "Rhythm" (sem_Rhythm___init__ cs) [] 2 α) env (has n rs) := by
  obtain ⟨a1, a2, a3⟩ := mk_can (A := has n rs) w hd fun x => Iff.rfl
  exact ⟨_, _, fun s => mk_rh (ha s) hth ⟨wfB_iff.mpr w, hn, hl⟩, a1, a2, a3⟩
theorem RE.none {n : Int} (hn : 1 ≤ n) (hn' : n ≤ 3000) : RE n (DL.mk "Rhythm" (sem_Rhythm___init__ cs) [] 2 (aCons (rC (.int n)) (aCons (lstD aNil) aNil)) : Env → M S D) env fun _ => False := by
  obtain ⟨p, rs, d, c, e, l⟩ := RE.mk (S := S) (cs := cs) (env := env) (L := n) (n := n) (rs := []) (α := aCons (rC (.int n)) (aCons (lstD aNil) aNil)) (th := .lst []) hn' (by decide) ⟨hn, by simp, List.nodup_nil⟩ (Int.dvd_refl n) (fun s => by simp) (.inl rfl)
  exact ⟨p, rs, d, c, fun x => (e x).trans (by simp), l⟩
theorem RE.eqv {M1 M2 : Int} (hc : ("Rhythm" : Str) ∈ cs) (h : RE M1 τ env A) (h' : RE M2 υ env B) : ∃ b, Det (bin (eqOr cs) τ υ) env (.bl b) ∧ (b = true ↔ ∀ x, A x ↔ B x) := by
  obtain ⟨p, rs, d, c, e, l⟩ := h
  obtain ⟨q, ts, d', c', e', l'⟩ := h'
  refine ⟨_, Det.bin d d' fun s => own_run.trans (sem_eq hc), ?_⟩
  rw [decide_eq_true_iff]
  constructor
  · rintro ⟨rfl, rfl⟩ x
    exact (e x).symm.trans (e' x)
  · intro z
    exact can_ext c c' fun x => (e x).trans ((z x).trans (e' x).symm)
theorem RE.in_ {M1 : Int} {x : Int} (hx : Det κ env (.int x)) (h : RE M1 τ env A) : ∃ b, Det (bin (inOr cs) κ τ) env (.bl b) ∧ (b = true ↔ A x) := by
  obtain ⟨p, rs, d, c, e, l⟩ := h
  exact ⟨_, Det.bin hx d fun s => inR_rh (by have := c.pos; omega), by rw [decide_eq_true_iff]; exact e x⟩
theorem RE.within {M1 M2 : Int} (hc : ("Rhythm" : Str) ∈ cs) (hM1 : 1 ≤ M1 ∧ M1 ≤ 3000) (hM2 : 1 ≤ M2 ∧ M2 ≤ 3000) (h : RE M1 τ env A) (h' : RE M2 υ env B) : ∃ b, Det (cam "Rhythm" "within" (sem_Rhythm_within cs) [] 2 τ (aCons υ aNil)) env (.bl b) ∧ (b = true ↔ ∀ x, A x → B x) := by
  obtain ⟨p, rs, d, c, e, l⟩ := h
  obtain ⟨q, ts, d', c', e', l'⟩ := h'
  have hp := per_le (m := 0) l hM1.1 c.pos
  have hq := per_le (m := 0) l' hM2.1 c'.pos
  have h1 := lcmI_pos c.pos c'.pos
  refine ⟨((rngI 0 (lcmI p q)).filter fun x => decide (x % p ∈ rs)).all fun x => decide (x % q ∈ ts), fun s => ?_, ?_⟩
  · show (τ env s).bind _ = _
    rw [d s, Res.bind_ok]
    show grd _ _ s = _
    rw [grd_run, if_pos ⟨rfl, by simp only [List.lookup, show (("within" : Str) == "own_form") = false by decide]⟩]
    show ((aCons υ aNil) env s).bind _ = _
    rw [aCons_run, d' s, Res.bind_ok, aNil_run, Res.bind_ok, Res.bind_ok]
    show grd _ _ s = _
    rw [grd_run, if_pos (by rfl)]
    exact sem_wit ⟨⟨c.pos, by omega, hc⟩, ⟨c'.pos, by omega, hc⟩⟩
  · rw [List.all_eq_true]
    constructor
    · intro z x hx
      have hx := (e x).mpr hx
      have hm := z (x % lcmI p q) (List.mem_filter.mpr ⟨mem_rngI.mpr ⟨Int.emod_nonneg _ (by omega), Int.emod_lt_of_pos _ (by omega)⟩, by rw [mod_mod (lcmI_dvd_left c.pos c'.pos), decide_eq_true_iff]; exact hx⟩)
      rw [mod_mod (lcmI_dvd_right c.pos c'.pos), decide_eq_true_iff] at hm
      exact (e' x).mp hm
    · intro z x hx
      obtain ⟨-, hx⟩ := List.mem_filter.mp hx
      rw [decide_eq_true_iff] at hx ⊢
      exact (e' x).mpr (z x ((e x).mp hx))
/-- the period of a rhythm is that of its days -/
theorem RE.size {M1 : Int} (h : RE M1 τ env A) : ∃ p rs, Det τ env (rhD p rs) ∧ 1 ≤ p ∧ (∀ m, Per A m ↔ p ∣ m) := by
  obtain ⟨p, rs, d, c, e, l⟩ := h
  refine ⟨p, rs, d, c.pos, fun m => ⟨fun z => Int.dvd_of_emod_eq_zero (can_dvd c (z.congr fun x => (e x).symm)), ?_⟩⟩
  rintro ⟨k, rfl⟩
  exact ((per_has p rs).mul k).congr e
theorem DetT.not {t : Env → M S Bool} (h : DetT t env true) : DetT (notT t) env false := fun s => by rw [notT_run, h s]; rfl
theorem DetT.as {b : Bool} (h : Det τ env (.bl b)) : DetT (asT τ) env b := fun s => by rw [asT_run, h s]; rfl
theorem DetT.skip {t : Env → M S Bool} {a : Env → M S Flw} (h : DetT t env false) (s : S) : sIf t a sNx env s = .ok (.nx env) s := by
  rw [sIf_run, h s]; rfl
end
end DL
set_option Elab.async false
set_option linter.all false
set_option maxRecDepth 100000
set_option maxHeartbeats 4000000
set_option autoImplicit false
/-! DL: defs with defaults; how keywords bind -/
namespace DL
open PySem PySem.Spec PyProof.Rows L2
section
variable {S : Type} {P : Program} {w : World} {K : PySem.W.Frag} {mg : Str → Option Value} {base : Heap} {x qual : Str} {params : Arguments} {body : List Stmt} {scope : Scope} {dvs : List V} {f : Addr} {fd : FuncData} {N ps : List Str} {k : Nat}
theorem kwB_of {st : Stmt} {ks : List Str} {n : Nat} {ix : List Nat} (F : Fun K x qual st f fd)
    (h : ∀ (kV doc pm : Value) (an : Option Addr) (cdv ct : Value) (us ws : List Value), us.length = n → ws.length = ks.length → bindArgs (PySem.W.fnOf x qual (defArgs st) (defBody st) (defScope st) .none kV doc pm an cdv ct) ⟨us, ks.zip ws⟩ = pure (ps.zip (us ++ perm ix ws))) : KwB K fd ps n ks ix := ⟨fun s us ws _ l1 l2 => by
  obtain ⟨oc, od, kV, doc, pm, an, cdv, ct, osl, rfl, lk, hcd⟩ := F.ex
  exact .of_eq (h kV doc pm an cdv ct us ws l1 l2)⟩
/-! ### facts of a class whose classmethods are called -/
theorem exmB_ok {t : Str} {xs : List Str} (h : exmB K t xs = true) : ∀ c ∈ xs, PySem.W.exmOne K (.ref (He.ga K c)) (.ref (He.ga K t)) = some true := fun c hc => of_decide_eq_true (List.all_eq_true.mp h c hc)
end
end DL
set_option Elab.async false
set_option linter.all false
set_option maxRecDepth 100000
set_option maxHeartbeats 4000000
set_option autoImplicit false
/-! DL: sorted, of a tuple of ints too -/
namespace DL
section
open PySem PyProof.Rows Srt SrtO
variable {prog : Program} {w : World} {A : Around} {E : Value → Shared → Prop} {s : Shared}
theorem collect_tup {l : Addr} {vs : List Value} {Q : List Value → Shared → Prop} (hl : IsTup s.heap l vs.toArray)
    (h : Q vs { s with heap := (s.heap.push (seqObj "list" #[] 0)).update s.heap.objs.size (Obj.mapSeq (· ++ vs.toArray)) }) (hsz : vs.length ≤ sizeLine) :
    wpAny (model prog w) A (collect (.ref l)) Q E s := by
  obtain ⟨o, ho, hc, n, hd⟩ := id hl
  unfold collect
  refine wpAny_bind (wpAny_runValue (codeAny_builtin entry_proto_collect' ?_))
  show wpAny _ _ (do again (.builtin "list.__iadd__" ⟨[← newList [], .ref l], []⟩)) _ _ s
  refine wpAny_bind (wpAny_newList (wpAny_pure ⟨Code.quiet_builtin _ (by decide +kernel), codeAny_builtin entry_list_iadd' ?_⟩))
  show wpAny _ _ (Builtin.List.listExtendWith (.ref s.heap.objs.size) (.ref l) (.ref s.heap.objs.size)) _ _ { s with heap := s.heap.push (seqObj "list" #[] 0) }
  unfold Builtin.List.listExtendWith
  have ho' : (s.heap.push (seqObj "list" #[] 0)).get? l = some o := Heap.get?_push_of_some _ ho
  refine wpAny_bind (wpAny_typeOf (T := "tuple") ⟨o, ho', hc⟩ ?_)
  have ht : (Value.type "tuple" == Value.type "tuple") = true := by rfl
  rw [if_pos (by rw [ht]; simp)]
  refine wpAny_bind (listItems_at ho' hd ?_)
  refine wpAny_bind (listItems_at (xs := #[]) (n := 0) (Heap.get?_push_size _ rfl) rfl ?_)
  rw [if_neg (by simp)]
  refine wpAny_bind (listUpdate_at (xs := #[]) (n := 0) (Heap.get?_push_size _ rfl) rfl ?_ (Nat.zero_le _) (by show (#[] ++ vs.toArray).size ≤ sizeLine + 1; simp only [Array.size_append, List.size_toArray, List.length_nil]; omega))
  refine wpAny_pure ?_
  show wpAny (model prog w) A (do
      let o ← load s.heap.objs.size
      match o.data with
      | .seq xs _ => pure xs.toList
      | _ => unsupported "internal:collect") Q E { s with heap := (s.heap.push (seqObj "list" #[] 0)).update s.heap.objs.size (Obj.mapSeq (· ++ vs.toArray)) }
  refine wpAny_bind (wpAny_load (get?_update_seq (Heap.get?_push_size _ rfl) _) ?_)
  show wpAny _ _ (pure ((#[] : Array Value) ++ vs.toArray).toList) Q E _
  rw [show ((#[] : Array Value) ++ vs.toArray).toList = vs by simp]
  exact wpAny_pure h
theorem sorted_tup {l : Addr} {vs : List Value} {ltv : Value → Value → Bool} {Q : Value → Shared → Prop} (O : Swo ltv) (hl : IsTup s.heap l vs.toArray) (hz : vs.length ≤ sizeLine)
    (hS : 2 ≤ vs.length → ∀ (h₁ : Heap) (a : Addr), h₁.get? a = some (seqObj "list" vs.toArray 0) → (∀ b o, s.heap.get? b = some o → b ≠ a ∧ h₁.get? b = some o) → SortableO prog w A.in1.in1 { s with heap := h₁ } a vs ltv)
    (h : ∀ out : List Value, Srtd ltv out → Stb ltv out vs → Q (.ref (s.heap.objs.size + 1)) { s with heap := sortedAll s.heap vs out.toArray }) :
    wpAny (model prog w) A (call (.builtin "sorted") [.ref l]) Q E s := by
  refine Calls.call_function_entry kind_sorted plain_sorted entry_sorted (args_sorted1 _) ?_
  unfold Builtin.«sorted»
  refine wpAny_bind (m := checkCount "sorted" 1 1 _) (wpAny_pure ?_)
  refine wpAny_bind (collect_tup hl ?_ hz)
  refine wpAny_bind (wpAny_newList ?_ hz)
  have hsz : ((s.heap.push (seqObj "list" #[] 0)).update s.heap.objs.size (Obj.mapSeq (· ++ vs.toArray))).objs.size = s.heap.objs.size + 1 := by
    rw [Heap.size_update, size_push']
  have hoL : (((s.heap.push (seqObj "list" #[] 0)).update s.heap.objs.size (Obj.mapSeq (· ++ vs.toArray))).push (seqObj "list" vs.toArray 0)).get? (s.heap.objs.size + 1) = some (seqObj "list" vs.toArray 0) := by
    rw [← hsz]; exact Heap.get?_push_size _ rfl
  have keep : ∀ b o, s.heap.get? b = some o → b ≠ s.heap.objs.size + 1 ∧ (((s.heap.push (seqObj "list" #[] 0)).update s.heap.objs.size (Obj.mapSeq (· ++ vs.toArray))).push (seqObj "list" vs.toArray 0)).get? b = some o := fun b o q => by
    have hlt : b < s.heap.objs.size := Heap.lt_size q
    refine ⟨Nat.ne_of_lt (Nat.lt_succ_of_lt hlt), Heap.get?_push_of_some _ ?_⟩
    rw [Heap.get?_update_ne _ _ _ _ (Nat.ne_of_lt hlt)]
    exact Heap.get?_push_of_some _ q
  show wpAny _ _ _ _ _ { s with heap := ((s.heap.push (seqObj "list" #[] 0)).update s.heap.objs.size (Obj.mapSeq (· ++ vs.toArray))).push (seqObj "list" vs.toArray 0) }
  rw [hsz]
  refine wpAny_bind (wpAny_holding (wpAny_call_entry slot_list_sort ⟨_, hoL, rfl⟩ entry_list_sort (list_sort_ord O hoL hz (fun h2 => hS h2 _ _ hoL keep) fun out hs hb => ⟨_, rfl, ?_⟩) (args_list_sort _)))
  exact wpAny_pure ⟨_, rfl, h out hs hb⟩
end
open PySem PySem.Spec PyProof.Rows L2
def rSortedTI (K : PySem.W.Frag) : List V → Hp → VK → Prop := fun vs H Q => ∃ (a : Addr) (ns : List Int), vs = [V.ref a] ∧ SqT K H a (ns.map V.int) ∧ ∀ (ns' : List Int) (p : Addr), ns'.Perm ns → ns'.Pairwise (· ≤ ·) → H p = none → Q (.ref p) (upd H p (.lst (ns'.map V.int)))
section
variable {X : Cx}
theorem cr_sortedTI : CallR X (.builtin "sorted") (rSortedTI X.K) := by
  intro pins s σ H vs us Q I r h
  obtain ⟨a, ns, rfl, hs, q⟩ := h
  obtain ⟨its, rv, hl, hz⟩ := I.tuple hs
  rw [Vals.ref1 r]
  have hi := rv.ints
  refine sorted_tup SrtO.swo_int hl (by rw [← rv.length]; exact hz) (fun h2 h₁ a' _ _ => SrtO.ints_sortable hi h2) fun out h1 h2 => ?_
  obtain ⟨k1, k2, k3⟩ := SrtO.ints_out hi h1 h2
  obtain ⟨ep, he'⟩ := PyProof.Rows.sortedAll_at s.heap its out.toArray
  have hlen : ((out.map SrtO.iv).map V.int).length ≤ sizeLine := by
    rw [List.length_map, k2.length_eq]
    rw [List.length_map] at hz
    exact hz
  exact ⟨.ref _, upd H (s.heap.objs.size + 1) (.lst ((out.map SrtO.iv).map V.int)), I.laid (t' := s.toks) (fun _ _ => PyProof.Rows.sortedAll_old) (Nat.le_succ _) ⟨hlen, out, ep, vals_of_ints k1, he'⟩, rfl, q _ _ k2 k3 (I.hok.fresh (Nat.le_succ _))⟩
end
section
variable {S : Type} {X : Cx} {F : Fx S}
def sortTD : List D → M S D := a1 (onTup fun ds => match intsD ds with
  | some bs => pure (.lst ((srt bs).map D.int))
  | none => stk)
def isTup1 : List D → Bool
  | [.tup _] => true
  | _ => false
/-- sorted, of a list or a tuple of ints -/
def sortSD : List D → M S D := orA sortTD sortD isTup1
theorem cd_sortT (hK : X.K = F.K) : CallD F (rSortedTI X.K) sortTD := fun G σ H env s ds vs Q st r p => by
  rw [hK]
  obtain ⟨d, rfl, p1⟩ := p.a1
  obtain ⟨v, rfl, rv⟩ := r.r1
  obtain ⟨ds, rfl, p2⟩ := p1.onTup
  obtain ⟨a, us, rfl, q, z, rl⟩ := rv
  cases hb : intsD ds with
  | none => rw [hb] at p2; exact p2.elim
  | some bs =>
    rw [hb] at p2
    have e := intsD_rep rl hb
    subst e
    refine ⟨a, bs, rfl, ?_, fun ns' l hp hs nl => ?_⟩
    · rcases q with (q | ⟨o, q⟩) | q
      · exact .inl (.inl (st.gd.gh _ _ q))
      · exact .inl (.inr ⟨o, st.gd.gh _ _ q⟩)
      · exact .inr q
    have ens : ns' = srt bs := sorted_unique (hp.trans (srt_perm bs).symm) hs (srt_sorted bs)
    subst ens
    obtain ⟨e4, st4⟩ := st.new nl (.lst ((srt bs).map V.int))
    refine p2 _ _ _ e4 st4 ⟨l, _, rfl, upd_same, ?_, RepL.ints _⟩
    rw [List.length_map] at z ⊢
    rw [(srt_perm bs).length_eq]; exact z
theorem cd_sortS (hK : X.K = F.K) : CallD F (fun xs H Q => rSortedTI X.K xs H Q ∨ rSortedI X.K xs H Q) sortSD := cd_or (cd_sortT hK) (cd_sort hK)
theorem cr_sortS : CallR X (.builtin "sorted") (fun xs H Q => rSortedTI X.K xs H Q ∨ rSortedI X.K xs H Q) := CallR_or cr_sortedTI cr_sortedI
end
end DL
set_option Elab.async false
set_option linter.all false
set_option maxRecDepth 100000
set_option maxHeartbeats 400000
set_option autoImplicit false
/-! DL: o.m(k = v, ..), keywords alone -/
namespace DL
open PySem PySem.Spec PyProof.Rows L2
variable {S : Type} {X : Cx} {F : Fx S}
def camK (c m : Str) (sem : List D → M S D) (ix : List Nat) (n : Nat) (τ : Env → M S D) (α : Env → M S (List D)) : Env → M S D := fun env => do
  let o ← τ env
  onIns (fun c' fs => grd (c' = c ∧ fs.lookup m = none) (do
    let ds ← α env
    grd (ds.length = n ∧ (perm ix ds).length = ix.length) (sem (o :: perm ix ds)))) o
theorem de_methK {c m : Str} {pl : Sem Bool} {o : Expr} {kws : List Keyword} {pos apos : Pos} {C f : Addr} {fd : FuncData} {ps ks : List Str} {k nk : Nat} {ix : List Nat} {sem : List D → M S D} {τ : Env → M S D} {α : Env → M S (List D)}
    (hC : F.cad c = C) (ho : PE X o (tE F τ)) (cl : Cls X.K C) (hm : Meth X.K C m f) (G : FnOk X.prog X.w X.K X.mg X.base (L2.CX X.prog X.w) k f fd ps (spD F.toCc (ix.length + 1) sem)) (tk : Takes X F.wish) (hr : Room k X.A) (hb : KwB X.K fd ps 1 ks ix) (hkw : PK X kws (tA F α)) (hnk : nk = ks.length := by rfl)
    (hall : (backToKw pos (keywordEach kws X.env)).all (·.1.isSome) = true := by rfl) (hks : (backToKw pos (keywordEach kws X.env)).filterMap (·.1) = ks := by rfl)
    (hpl : ((backTo pos (starEach [] X.env)).any (·.1) || (backToKw pos (keywordEach kws X.env)).any (·.1.isNone)) = false := by rfl)
    (ht : eval (.Call (.Attribute o m apos) [] kws pos) X.env = (do
      let ov ← eval o X.env
      standAt apos.atName
      let (f, first) ← holding [ov] (getMethod ov m pl)
      callWith pos f first (backTo pos (starEach [] X.env)) (backToKw pos (keywordEach kws X.env))) := by rfl) :
    PE X (.Call (.Attribute o m apos) [] kws pos) (tE F (camK c m sem ix nk τ α)) := by
  subst hnk
  refine ⟨fun pins s σ H Q I h => ?_⟩
  have h : tE F τ σ H fun v H1 => ∃ a dx fs, v = .ref a ∧ H1 a = some (.ins C dx fs) ∧ fs.lookup m = none ∧ tA F α σ H1 fun zs H2 => zs.length = ks.length ∧ spD F.toCc (ix.length + 1) sem ([.ref a] ++ perm ix zs) H2 Q (eOf F) := by
    obtain ⟨G0, env, s0, st, p0⟩ := h
    refine seqE st p0 fun d s1 v G1 H1 e1 st1 r1 p1 => ?_
    obtain ⟨c', fs, rfl, p3⟩ := Post.onIns p1
    obtain ⟨⟨hc, hf⟩, p4⟩ := Post.grd p3
    obtain ⟨a, dx, vs, rfl, ha, hdx, rf⟩ := id r1
    refine ⟨a, dx, vs, rfl, by rw [← hC, ← hc]; exact st1.gd.gh _ _ ha, rf.lookup.1 hf, ?_⟩
    refine seqA st1 p4 fun ds s2 us G2 H2 e2 st2 r2 p2 => ?_
    obtain ⟨⟨hl, hl2⟩, p2⟩ := Post.grd p2
    exact ⟨by rw [r2.length]; exact hl, spD_of (by rw [List.length_cons, hl2]) st2 (RepL.cons (r1.mono e2.g) (r2.perm ix)) (p2.K1 (e1.trans e2))⟩
  refine PySem.W.methodCall_KW (pl := pl) (thn (ho.run pins s σ H _ I h) fun u s1 ⟨x, H1, I1, rx, a, dx, fs, ex, ea, l, q⟩ => ?_) ht
  subst ex
  obtain rfl : u = Value.ref a := rx
  refine getmeth_ok I1 ea cl hm l ?_
  refine PySem.W.callWith_KW0 (first := [.ref a]) (h₀ := X.base) I.ok.mod.kin hm.kp hall (thn (hkw.run pos pins s1 σ H1 _ I1 q) fun ws s2 ⟨zs, H2, I2, rz, l2, q2⟩ => ⟨I2.kIn, ?_⟩) hpl
  rw [hks]
  exact run_fnN (us := [.ref a]) (vs := [.ref a]) G hr hb.n (passes_F tk) I2 (.cons rfl .nil) rz rfl l2 q2
end DL
set_option Elab.async false
set_option linter.all false
set_option maxRecDepth 100000
set_option maxHeartbeats 4000000
set_option autoImplicit false
/-! set(xs), xs a list of ints: the library's call_set_tupI (HandS.SetFor), turned to lists -/
namespace DL
open PySem PySem.Spec PyProof.Rows L2
section
variable {P : Program} {w : World} {A : Around} {E : Value → Shared → Prop} {s : Shared}
set_option maxRecDepth 100000 in
set_option maxHeartbeats 3200000 in
theorem call_set_lstI {l : Addr} {items : Array Value} (ns : List Int) {Q : Value → Shared → Prop} (hh : A.handled = none) (hl : s.heap.IsList l items) (hit : IntsAre items.toList ns) (hb : ns.length + 1 < scanBound)
    (h : ∀ (h' : Heap) (tk c : Nat), SetR w h' s.heap.objs.size (fun j => decide (j ∈ ns)) c → c ≤ ns.length → (∀ b o, s.heap.get? b = some o → h'.get? b = some o) → Q (.ref s.heap.objs.size) { s with heap := h', toks := tk }) :
    wpAny (model P w) A (call (.type "set") [.ref l]) Q E s := by
  have hisz : items.size = ns.length := by
    have q := IntsAre.length hit
    rw [Array.length_toList] at q
    exact q
  obtain ⟨c, tl, hmro⟩ := F.called_set.mro
  have hmade := F.called_set.made
  have hsub := F.called_set.sub
  refine wpAny_call (codeAny_of_tree ?_)
  show wpAny _ _ (callAny (.type "set") _) _ _ _
  refine wpAny_pure ⟨Code.quiet_builtin _ (by decide +kernel), codeAny_builtin F.entry_type_call ?_⟩
  rw [Around.under_plain (weight_type_call_type "set" [.ref l] []) rfl]
  have h1 := F.called_set.notType
  have h2 := F.called_set.canCreate
  have hct := F.typeCall_set_1 (.ref l)
  repeat (any_goals (first | assumption | wp_step))

  refine codeAny_mono (code_set_led1 (.ref l) (E := E) (Q₁ := fun obj s₁ => obj = .ref s.heap.objs.size ∧ s₁ = { s with heap := s.heap.push { cls := .type "set", dict := none, data := .set #[] 0 (.fresh 0 0 (!w.params.followText "set-order")) } }) ⟨rfl, rfl⟩) fun r s₁ hr => ?_
  cases r with
  | error e => exact hr
  | ok fl =>
    cases fl with
    | ret obj =>
      obtain ⟨rfl, rfl⟩ := hr
      have hS : (s.heap.push { cls := .type "set", dict := none, data := .set #[] 0 (.fresh 0 0 (!w.params.followText "set-order")) }).get? s.heap.objs.size = some { cls := .type "set", dict := none, data := .set #[] 0 (.fresh 0 0 (!w.params.followText "set-order")) } := Heap.get?_push_size _ rfl
      have hT : Shared.TypeIs { s with heap := s.heap.push { cls := .type "set", dict := none, data := .set #[] 0 (.fresh 0 0 (!w.params.followText "set-order")) } } (.ref s.heap.objs.size) "set" := ⟨_, hS, rfl⟩
      have hli := F.called_set.init.lookup
      have hbi := F.called_set.init.bind (.ref s.heap.objs.size)
      repeat (any_goals (first | assumption | wp_step))

      refine codeAny_mono (codeAny_call_builtin (R := wants (fun r s₂ => r = .none ∧ ∃ h' tk c, s₂ = { s with heap := h', toks := tk } ∧ SetR w h' s.heap.objs.size (fun j => decide (j ∈ ns)) c ∧ c ≤ ns.length ∧
          (∀ b o, s.heap.get? b = some o → h'.get? b = some o)) E) F.called_set.init.plain F.entry_set_init (check_set_init_1 hT ?_)) fun r₂ s₂ hr₂ => ?_
      · obtain ⟨ol, hol, hcl, nl, hdl⟩ := hl
        obtain ⟨ocls, odict, odata, oslots⟩ := ol
        simp only at hcl hdl
        subst hcl; subst hdl
        have hol' : (s.heap.push { cls := .type "set", dict := none, data := .set #[] 0 (.fresh 0 0 (!w.params.followText "set-order")) }).get? l = some { cls := .type "list", dict := odict, data := .seq items nl, slots := oslots } := Heap.get?_push_of_some _ hol
        have hsls := F.sub_list_set
        have hslf := F.sub_list_frozenset
        have hne : (Value.type "list" == Value.type "dict") = false := by decide
        have hl1 : (s.heap.push { cls := .type "set", dict := none, data := .set #[] 0 (.fresh 0 0 (!w.params.followText "set-order")) }).IsList l items := ⟨_, hol', rfl, nl, rfl⟩
        unfold Builtin.«set.__init__» noKeywords Builtin.Frozenset.updateFrom
        generalize hPI : pyIter = PI
        wp_walk
        subst hPI

        refine wpAny_pyIter_list hl1 ?_
        refine wpAny_bind (wpAny_runValue ?_)
        have hlS : l < s.heap.objs.size := Heap.lt_size hol
        have hh3 : A.in1.in1.in1.handled = none := by simp [hh]
        have hz1 : (s.heap.push { cls := .type "set", dict := none, data := .set #[] 0 (.fresh 0 0 (!w.params.followText "set-order")) }).objs.size = s.heap.objs.size + 1 := Heap.size_push ..
        have hneI : l ≠ (s.heap.push { cls := .type "set", dict := none, data := .set #[] 0 (.fresh 0 0 (!w.params.followText "set-order")) }).objs.size := by
          rw [Heap.size_push]; exact Nat.ne_of_lt (Nat.lt_succ_of_lt hlS)
        have hSf : s.heap.objs.size ∉ [(s.heap.push { cls := .type "set", dict := none, data := .set #[] 0 (.fresh 0 0 (!w.params.followText "set-order")) }).objs.size, l] := by
          rw [Heap.size_push]; simp only [List.mem_cons, List.mem_singleton, List.not_mem_nil, or_false, not_or]
          exact ⟨Nat.ne_of_lt (Nat.lt_succ_self _), Nat.ne_of_gt hlS⟩
        have hval : ∀ (i : Nat) (v : Value), items[i]? = some v → ∃ k t, ns[i]? = some k ∧ v = .int k t := fun i v hv => by
          have hi : i < ns.length := by rw [← hisz]; exact (Array.getElem?_eq_some_iff.mp hv).1
          obtain ⟨t, e⟩ := PyProof.Rows.IntsAre.int_at hit i v (by rw [Array.getElem?_toList]; exact hv)
          refine ⟨ns[i], t, List.getElem?_eq_getElem hi, ?_⟩
          rw [e, List.getD_eq_getElem?_getD, List.getElem?_eq_getElem hi] <;> rfl
        refine set_update_ints ((Walks.list hh3 _ l hneI items).toS) s.heap.objs.size
          hSf ns hisz hb hval (items.size - 0) 0 _ (by omega) (Nat.zero_le _)
          ⟨⟨_, Heap.get?_push_size _ rfl, rfl, rfl⟩, (hl1.push _)⟩ ?hS0 ?hR
        case hS0 =>
          have hget : ((s.heap.push { cls := .type "set", dict := none, data := .set #[] 0 (.fresh 0 0 (!w.params.followText "set-order")) }).push { cls := .type "list_iterator", data := .fields #[.ref l, .int 0 0] }).get? s.heap.objs.size
              = some { cls := .type "set", dict := none, data := .set #[] 0 (.fresh 0 0 (!w.params.followText "set-order")) } := Heap.get?_push_of_some _ hS
          exact ⟨0, Nat.le_refl 0, setR_new_at hget⟩
        case hR =>
          intro s' c' hm hc' hS'
          obtain ⟨h', g2, d', tk', os'⟩ := s'
          have eg : g2 = s.gens := hm.gens
          have ed : d' = s.drawn := hm.drawn
          have eo : os' = s.os := hm.os
          subst eg; subst ed; subst eo
          show wpAny _ _ _ _ _ _
          refine wpAny_pure ?_
          show wpAny _ _ (ret Value.none) _ _ _
          rw [hisz] at hc'
          refine wpAny_pure ⟨rfl, h', tk', c', rfl, hS', hc', fun b o e => ?_⟩
          have hb0 : b < s.heap.objs.size := Heap.lt_size e
          have hb1 : b ≠ s.heap.objs.size := Nat.ne_of_lt hb0
          have hb2 : b ≠ (s.heap.push { cls := .type "set", dict := none, data := .set #[] 0 (.fresh 0 0 (!w.params.followText "set-order")) }).objs.size := by
            rw [Heap.size_push]; exact Nat.ne_of_lt (Nat.lt_succ_of_lt hb0)
          exact hm.heap b o (by simp only [List.mem_cons, List.mem_singleton, List.not_mem_nil, or_false, not_or]; exact ⟨hb1, hb2⟩) (Heap.get?_push_of_some _ (Heap.get?_push_of_some _ e))

      · cases r₂ with
        | error e => exact hr₂
        | ok fl₂ =>
          cases fl₂ with
          | ret r =>
            obtain ⟨rfl, h', tk, c', rfl, hS', hc', hk'⟩ := hr₂
            repeat (any_goals (first | assumption | wp_step))
            exact h _ _ _ hS' hc' hk'
          | _ => exact hr₂.elim
    | _ => exact hr.elim
end
end DL
set_option Elab.async false
set_option linter.all false
set_option maxRecDepth 100000
set_option maxHeartbeats 1000000
set_option autoImplicit false
/-! DL: sorted(set(xs)), xs a list of ints -/
namespace DL
open PySem PySem.Spec PyProof.Rows L2
section
variable {P : Program} {w : World} {A : Around} {E : Value → Shared → Prop} {s : Shared} {a : Addr}
/-- the library's sorted_set (HandS.Set), for sets that are not small: with list_sort_treeAny -/
theorem sorted_setB {S : Int → Bool} {n : Nat} {Q : Value → Shared → Prop} (R : SetR w s.heap a S n) (hh : A.handled = none) (hL : n ≤ 4096)
    (hQ : ∀ s' p (out : Array Value) (c : Nat) (ns : List Int), (∀ b o, s.heap.get? b = some o → s'.heap.get? b = some o) → s'.gens = s.gens → s'.os = s.os → s.heap.objs.size ≤ p →
      s'.heap.get? p = some (seqObj "list" out c) → IntsAre out.toList ns → ns.Pairwise (· < ·) → (∀ k, k ∈ ns ↔ S k = true) → ns.length = n → Q (.ref p) s') :
    wpAny (model P w) A (call (.builtin "sorted") [.ref a]) Q E s := by
  obtain ⟨o, es, ep, t, ho, hex, hd, g, nd, hm, hb, hf, hn, hr, hl⟩ := R
  refine Calls.call_function_entry kind_sorted plain_sorted entry_sorted (args_sorted1 _) ?_
  unfold Builtin.«sorted»
  refine wpAny_bind (m := checkCount "sorted" 1 1 _) (wpAny_pure ?_)
  refine wpAny_bind (collect_set (A := A.in1) hh ⟨o, ho, hex.1, hd⟩ hf hb hr hl fun s1 vs k1 hz g1 o1 pm => ?_)
  have hvl : vs.length = n := by rw [pm.length_eq, List.length_map, Array.length_toList]; exact hn
  have hI : IntsAre vs (vs.map Builtin.Re.reRawOf) := ints_of vs fun v hv => by
    obtain ⟨e, he, q⟩ := List.mem_map.mp (pm.mem_iff.mp hv)
    obtain ⟨k, tk, h1, _⟩ := g e he
    exact ⟨k, tk, by rw [← q]; exact h1⟩
  have pk : (vs.map Builtin.Re.reRawOf).Perm (es.toList.map keyOf) := by
    have q := pm.map Builtin.Re.reRawOf
    rw [List.map_map] at q
    exact q
  refine wpAny_bind (wpAny_newList ?_ (by rw [hvl, sizeLine_eq]; omega))
  have hoL : (s1.heap.push (seqObj "list" vs.toArray 0)).get? s1.heap.objs.size = some (seqObj "list" vs.toArray 0) := Heap.get?_push_size _ rfl
  refine wpAny_bind (wpAny_holding (wpAny_call_entry slot_list_sort ⟨_, hoL, rfl⟩ entry_list_sort (list_sort_treeAny hoL hI (by rw [hvl, sizeLine_eq]; omega) fun out ns' a1 a2 a3 => ⟨_, rfl, ?_⟩) (args_list_sort _)))
  obtain ⟨c, hc⟩ := sortedHeap_at (vs := vs) (out := out) hoL
  have pn : ns'.Perm (es.toList.map keyOf) := a2.trans pk
  refine wpAny_pure ⟨_, rfl, hQ _ s1.heap.objs.size out c ns' (fun b u e => ?_) g1 o1 hz hc a1 (lt_of_le_nodup ns' a3 (pn.nodup_iff.mpr nd)) (fun k => by rw [pn.mem_iff, ← hm k]) ?_⟩
  · have q := k1 b u e
    have hlt := Heap.lt_size q
    show (sortedHeap (s1.heap.push (seqObj "list" vs.toArray 0)) s1.heap.objs.size vs out).get? b = some u
    rw [sortedHeap_old (Nat.ne_of_lt hlt) (by rw [size_push']; exact Nat.lt_succ_of_lt hlt)]
    exact Heap.get?_push_of_some _ q
  · rw [pn.length_eq, List.length_map, Array.length_toList]; exact hn
end
section
variable {S : Type} {X : Cx} {F : Fx S}
def tSortSet (K : PySem.W.Frag) (ta : TE) : TE := fun σ H Q => ta σ H fun x H1 => ∃ (l : Addr) (ns : List Int), x = .ref l ∧ SqL K H1 l (ns.map V.int) ∧ ns.length < 4000 ∧
  ∀ (ms : List Int) (p : Addr), ms.Pairwise (· < ·) → (∀ k : Int, k ∈ ms ↔ k ∈ ns) → H1 p = none → Q (.ref p) (upd H1 p (.lst (ms.map V.int)))
theorem pe_sortSet {a : Expr} {ta : TE} {p p2 q pos : Pos} (hg : Gl X "sorted") (hm : X.mg "sorted" = none) (hg2 : Gl X "set") (hm2 : X.mg "set" = none) (ha : PE X a ta) (hc : X.calm = true := by rfl)
    (na : starEach [a] X.env = (false, eval a X.env) :: starEach [] X.env := by rfl) : PE X (.Call (.Name "sorted" p) [.Call (.Name "set" p2) [a] [] q] [] pos) (tSortSet X.K ta) := by
  refine ⟨fun pins s σ H Q I h => ?_⟩
  refine Call_ (ld_blt I hg hm boot_sorted ?_)
  refine PyProof.Rows.callWith_builtin1 (PyProof.Rows.args_cons ?_ rfl) rfl rfl
  refine Call_ (ld_blt I hg2 hm2 boot_set ?_)
  refine PyProof.Rows.callWith_type1 (PyProof.Rows.args_cons (thn (ha.run pins s σ H _ I h) fun v s1 ⟨x, H1, I1, r1, q1⟩ => PyProof.Rows.args_nil ?_) na) na rfl
  obtain ⟨l, ns, rfl, hq, hl, q1⟩ := q1
  cases r1
  obtain ⟨its, r, pl, hz⟩ := I1.list hq
  refine call_set_lstI ns (I1.ok.hd hc) pl.isList (by simpa using RZ.intsAre_vals r) (by unfold scanBound; omega) fun h' tk c hS hcl hk => ?_
  refine PyProof.Rows.args_nil ?_
  have I2 : Inv X pins σ H1 { s1 with heap := h', toks := tk } := I1.kept fun b o e => hk b o e
  refine sorted_setB hS (I2.ok.hd hc) (by omega) fun s' p out c2 ms k g o hp hgp hi hs hmm hlen => ?_
  have hlen2 : (ms.map V.int).length ≤ sizeLine := by rw [List.length_map, hlen, sizeLine_eq]; omega
  have hn : H1 p = none := I2.hok.fresh hp
  have J : Inv X pins σ (upd H1 p (.lst (ms.map V.int))) s' := I2.call' (ch := []) o (Un.laid k hp hn) (I2.hok.laid k hp ⟨hlen2, out.toList, c2, vals_of_ints hi, hgp⟩) (by rw [g]; exact I2.bare) (fun _ z => nomatch z)
  exact ⟨.ref p, _, J, rfl, q1 ms p hs (fun k => by rw [hmm k]; simp) hn⟩
end
def nubI : List Int → List Int
  | [] => []
  | x :: xs => if x ∈ nubI xs then nubI xs else x :: nubI xs
theorem nub_mem {k : Int} : ∀ {ns : List Int}, k ∈ nubI ns ↔ k ∈ ns
  | [] => Iff.rfl
  | x :: xs => by
    have ih := nub_mem (k := k) (ns := xs)
    unfold nubI
    split
    · rename_i h
      rw [ih, List.mem_cons]
      exact ⟨.inr, fun z => z.elim (fun e => e ▸ nub_mem.mp h) id⟩
    · rw [List.mem_cons, List.mem_cons, ih]
theorem nub_nodup : ∀ ns : List Int, (nubI ns).Nodup
  | [] => List.nodup_nil
  | x :: xs => by
    unfold nubI
    split
    · exact nub_nodup xs
    · rename_i h
      exact List.nodup_cons.mpr ⟨h, nub_nodup xs⟩
theorem asc_unique : ∀ {a b : List Int}, a.Pairwise (· < ·) → b.Pairwise (· < ·) → (∀ k, k ∈ a ↔ k ∈ b) → a = b
  | [], [], _, _, _ => rfl
  | [], y :: b, _, _, h => nomatch (h y).mpr List.mem_cons_self
  | x :: a, [], _, _, h => nomatch (h x).mp List.mem_cons_self
  | x :: a, y :: b, ha, hb, h => by
    have ha' := List.pairwise_cons.mp ha
    have hb' := List.pairwise_cons.mp hb
    have e : x = y := by
      rcases List.mem_cons.mp ((h x).mp List.mem_cons_self) with e | hx
      · exact e
      · rcases List.mem_cons.mp ((h y).mpr List.mem_cons_self) with e | hy
        · exact e.symm
        · have := hb'.1 x hx
          have := ha'.1 y hy
          omega
    subst e
    rw [asc_unique ha'.2 hb'.2 fun k => ⟨fun hk => by
      rcases List.mem_cons.mp ((h k).mp (List.mem_cons_of_mem _ hk)) with e | q
      · have := ha'.1 k hk; omega
      · exact q, fun hk => by
      rcases List.mem_cons.mp ((h k).mpr (List.mem_cons_of_mem _ hk)) with e | q
      · have := hb'.1 k hk; omega
      · exact q⟩]
theorem srt_asc0 {l : List Int} (h : l.Nodup) : (srt l).Pairwise (· < ·) := by
  have h1 := srt_sorted l
  have h2 : (srt l).Nodup := (srt_perm l).nodup_iff.mpr h
  have := List.pairwise_and_iff.mpr ⟨h1, h2⟩
  exact this.imp fun {a b} ⟨q1, q2⟩ => by have := q2; omega
section
variable {S : Type} {X : Cx} {F : Fx S}
def sortSetI : D → M S D := onLst fun ds => match intsD ds with
  | some ns => grd (ns.length < 4000) (pure (.lst ((srt (nubI ns)).map D.int)))
  | none => stk
def sortSetD (τ : Env → M S D) : Env → M S D := fun env => do sortSetI (← τ env)
theorem de_sortSet {a : Expr} {τ : Env → M S D} {p p2 q pos : Pos} (hK : X.K = F.K) (hg : Gl X "sorted") (hm : X.mg "sorted" = none) (hg2 : Gl X "set") (hm2 : X.mg "set" = none) (ha : PE X a (tE F τ)) (hc : X.calm = true := by rfl)
    (na : starEach [a] X.env = (false, eval a X.env) :: starEach [] X.env := by rfl) : PE X (.Call (.Name "sorted" p) [.Call (.Name "set" p2) [a] [] q] [] pos) (tE F (sortSetD τ)) := pe_mono (pe_sortSet hg hm hg2 hm2 ha hc na) fun σ H Q ⟨G, env, s, st, p⟩ => by
  rw [hK]
  refine seqE st p fun d s1 v G1 H1 e1 st1 r1 p1 => ?_
  obtain ⟨ds, rfl, p2⟩ := Post.onLst p1
  obtain ⟨a, us, rfl, q, z, rl⟩ := r1
  cases hb : intsD ds with
  | none => rw [hb] at p2; exact p2.elim
  | some bs =>
    rw [hb] at p2
    obtain ⟨h, p3⟩ := Post.grd p2
    have e := intsD_rep rl hb
    subst e
    refine ⟨a, bs, rfl, .inl (.inl (st1.gd.gh _ _ q)), h, fun ms p hms hmm np => ?_⟩
    have em : ms = srt (nubI bs) := asc_unique hms (srt_asc0 (nub_nodup bs)) fun k => by rw [hmm k, (srt_perm _).mem_iff, nub_mem]
    rw [em]
    obtain ⟨e4, st4⟩ := st1.new np (.lst ((srt (nubI bs)).map V.int))
    refine p3 _ _ _ (e1.trans e4) st4 ⟨p, _, rfl, upd_same, ?_, RepL.ints _⟩
    have := (srt_perm (nubI bs)).length_eq
    have h2 : ∀ l : List Int, (nubI l).length ≤ l.length := fun l => by
      induction l with
      | nil => exact Nat.le_refl _
      | cons x l ih =>
        unfold nubI
        split
        · rw [List.length_cons]; omega
        · rw [List.length_cons, List.length_cons]; omega
    have := h2 bs
    rw [List.length_map, sizeLine_eq]; omega
end
end DL
set_option Elab.async false
set_option linter.all false
set_option maxRecDepth 100000
set_option maxHeartbeats 4000000
set_option autoImplicit false
/-! DL: a list of one's own walked in a comprehension, added to, its greatest item; stars in displays; range downwards; x -= 1; tuples many times -/
namespace DL
open PySem PySem.Spec PyProof.Rows L2
section
variable {S : Type} {X : Cx} {F : Fx S}
/-! ### comprehensions over what stays outside the world -/
def ownD (env : Env) (i : Nat) : Option (List D) := match env[i]? with
  | some (some (.own ds)) => some ds
  | _ => none
theorem ownD_at {env : Env} {i : Nat} {ds : List D} (h : ownD env i = some ds) : env[i]? = some (some (.own ds)) := by
  unfold ownD at h
  cases q : env[i]? with
  | none => rw [q] at h; cases h
  | some o =>
    rw [q] at h
    cases o with
    | none => cases h
    | some sl =>
      cases sl with
      | own es => cases h; rfl
      | val _ => cases h
      | obj _ _ => cases h
/-! ### x = x + e, x a list of one's own -/
/-! ### max, of ints -/
/-! ### [.., *e, ..] -/
/-! ### range(a, b, -1) -/
/-! ### x -= e -/
/-! ### a, b = e, [] where b is a list of one's own -/
end
end DL
set_option Elab.async false
set_option linter.all false
set_option maxRecDepth 100000
set_option maxHeartbeats 4000000
set_option autoImplicit false
/-! DL: dicts of keys (all values True): comprehensions, in, not in -/
namespace DL
open PySem PySem.Spec PyProof.Rows L2
/-! ### keys as data -/
end DL
set_option Elab.async false
set_option linter.all false
set_option maxRecDepth 100000
set_option maxHeartbeats 400000
set_option autoImplicit false
/-! DL: sorted, of a list of tuples of ints -/
namespace DL
/-! ### the order, plain -/
open PySem PySem.Spec PyProof.Rows L2
end DL
set_option Elab.async false
set_option linter.all false
set_option maxRecDepth 100000
set_option maxHeartbeats 400000
set_option autoImplicit false
/-! DL: new lists that are not frozen: comprehensions into slots of their own; xs[::-1] -/
namespace DL
open PySem PySem.Spec PyProof.Rows L2
end DL
set_option Elab.async false
set_option linter.all false
set_option maxRecDepth 100000
set_option maxHeartbeats 4000000
set_option autoImplicit false
/-! DL: sums with a truth value at the left; tuple(x), x a list of one's own -/
namespace DL
open PySem PySem.Spec PyProof.Rows L2
end DL
set_option Elab.async false
set_option linter.all false
set_option maxRecDepth 100000
set_option maxHeartbeats 400000
set_option autoImplicit false
/-! DL: defs that return a new list; lists of one's own: insert, len, freezing; xs.count(n); own __getitem__ -/
namespace DL
open PySem PySem.Spec PyProof.Rows L2
section
variable {S : Type} {X : Cx} {F : Fx S}
/-! ### a def that returns a new list which nothing else holds -/
def FPO (F : Fx S) (G : Hp) (D : Ends) (fl : Flw) (s' : S) : Prop := match fl with
  | .rt d => ∃ es, d = .lst es ∧ ∀ a us G' H', Same G G' → Ext F.reg0 F.G0 F.H0 G' H' → Gd F.toCc G' H' s' → H' a = some (.lst us) → G' a = none → ¬ F.reg a → F.H0 a = none → us.length ≤ sizeLine → RepL F.toCc G' es us → D.rt (.ref a) H'
  | _ => False
theorem FPO.later {G G' : Hp} {D : Ends} {fl : Flw} {s' : S} (h : FPO F G D fl s') (e : Same G G') : FPO F G' D fl s' := by
  cases fl with
  | rt d =>
    obtain ⟨es, rfl, h⟩ := h
    exact ⟨es, rfl, fun a us G2 H2 q => h a us G2 H2 (e.trans q)⟩
  | _ => exact h
/-! ### x = f(..), f such a def -/
/-! ### freezing a list of one's own -/
theorem StG.frz {G H : Hp} {σ : L2.St} {env : Env} {s : S} {ds : List D} {i : Nat} (st : StG F G σ H env s) (hi : env[i]? = some (some (.own ds))) : ∃ G', Same G G' ∧ StG F G' σ H (env.set i (some (.val (.lst ds)))) s := by
  obtain ⟨a, vs, hσ, hH, hG, nr, h0, hz, rl⟩ := own_at st hi
  have ss : Same G (upd G a (.lst vs)) := fun b o hb => by rw [upd_ne (ne_of_none hb hG)]; exact hb
  have hl : i < env.length := (List.getElem?_eq_some_iff.mp hi).1
  refine ⟨upd G a (.lst vs), ss, ⟨st.ext.g.trans ss, st.ext.fr, fun b o hb => ?_, st.ext.tr⟩, st.gd.freeze hH nr, ?_⟩
  · by_cases q : b = a
    · subst q; exact .inr (.inl h0)
    · rw [upd_ne q] at hb; exact st.ext.nw b o hb
  · refine ⟨by rw [List.length_set]; exact st.env_.len, fun j sl e => ?_, fun x y ne hx hy => ?_⟩
    · by_cases q : i = j
      · subst q
        rw [List.getElem?_set_self hl] at e
        cases e
        exact ⟨_, hσ, .ref a, rfl, a, vs, rfl, upd_same, hz, rl.mono ss⟩
      · rw [List.getElem?_set_ne q] at e
        obtain ⟨o, ho, r⟩ := st.env_.at_ j sl e
        refine ⟨o, ho, ?_⟩
        cases sl with
        | none => exact trivial
        | some sl =>
          cases sl with
          | val d => obtain ⟨v, e1, r⟩ := r; exact ⟨v, e1, r.mono ss⟩
          | own es =>
            obtain ⟨b, us, e1, hb, gb, nb, b0, zb, rb⟩ := r
            have hne : b ≠ a := fun z => st.env_.apart i j q (by rw [hi]; trivial) (by rw [e]; trivial) (by rw [hσ, ho, e1, z])
            exact ⟨b, us, e1, hb, by rw [upd_ne hne]; exact gb, nb, b0, zb, rb.mono ss⟩
          | obj c fs =>
            obtain ⟨b, dx, us, e1, hb, hd, gb, gd, nb, nd, r0, b0, rb⟩ := r
            have hne : b ≠ a := fun z => by subst z; rw [hH] at hb; cases hb
            have hnd : dx ≠ a := fun z => by subst z; rw [hH] at hd; cases hd
            exact ⟨b, dx, us, e1, hb, hd, by rw [upd_ne hne]; exact gb, by rw [upd_ne hnd]; exact gd, nb, nd, r0, b0, rb.mono ss⟩
    · exact st.env_.apart x y ne (isOwn_set hx).1 (isOwn_set hy).1
/-! ### x.insert(k, y), x a list of one's own -/
/-! ### len(x), x a list of one's own -/
/-! ### xs.count(k), numbers -/
/-! ### a[i] by an own __getitem__ -/
end
end DL
set_option Elab.async false
set_option linter.all false
set_option maxRecDepth 100000
set_option maxHeartbeats 400000
set_option autoImplicit false
/-! DL: statements that always go on (no return, break, continue in them) -/
namespace DL
open PySem PySem.Spec PyProof.Rows L2
section
variable {S : Type} {X : Cx} {F : Fx S}
def NxO (τ : Env → M S Flw) : Prop := ∀ env s fl s', τ env s = .ok fl s' → ∃ e, fl = .nx e
theorem NxO.seq {τ υ : Env → M S Flw} (h : NxO τ) (h' : NxO υ) : NxO (sSeq τ υ) := fun env s fl s' q => by
  obtain ⟨f1, s1, q1, q2⟩ := bind_ok q
  obtain ⟨e, rfl⟩ := h env s f1 s1 q1
  exact h' e s1 fl s' q2
theorem NxO.nx : NxO (sNx : Env → M S Flw) := fun env s fl s' q => by cases q; exact ⟨_, rfl⟩
theorem NxO.app {i : Nat} {τ : Env → M S D} : NxO (sApp i τ) := fun env s fl s' q => by
  have q : (match env[i]? with
    | some (some (.own _)) => do
      let d ← τ env
      (match env[i]? with
      | some (some (.own ds)) => grd (ds.length < sizeLine) (pure (.nx (env.set i (some (.own (ds ++ [d]))))))
      | _ => stk)
    | _ => stk : M S Flw) s = .ok fl s' := q
  cases hi : env[i]? with
  | none => rw [hi] at q; cases q
  | some sl =>
    rw [hi] at q
    cases sl with
    | none => cases q
    | some sl =>
      cases sl with
      | val _ => cases q
      | obj _ _ => cases q
      | own ds =>
        obtain ⟨d, s1, q1, q2⟩ := bind_ok q
        by_cases hl : ds.length < sizeLine
        · have q2 : grd (ds.length < sizeLine) (pure (.nx (env.set i (some (.own (ds ++ [d])))))) s1 = Res.ok fl s' := q2
          rw [grd_pos hl] at q2
          cases q2
          exact ⟨_, rfl⟩
        · have q2 : grd (ds.length < sizeLine) (pure (.nx (env.set i (some (.own (ds ++ [d])))))) s1 = Res.ok fl s' := q2
          unfold grd at q2
          rw [if_neg hl] at q2
          cases q2
end
end DL
set_option Elab.async false
set_option linter.all false
set_option maxRecDepth 100000
set_option maxHeartbeats 400000
set_option autoImplicit false
/-! DL: dict(list of pairs), in and not in of dicts with values -/
namespace DL
open PySem PySem.Spec PyProof.Rows L2
end DL
set_option Elab.async false
set_option linter.all false
set_option maxRecDepth 100000
set_option maxHeartbeats 400000
set_option autoImplicit false
/-! DL: lists of one's own in tests; defs that return what another one made new; pairs of new lists; pop -/
namespace DL
open PySem PySem.Spec PyProof.Rows L2
section
variable {S : Type} {X : Cx} {F : Fx S}
/-! ### a test that only looks at lists of one's own -/
def frzE : List Nat → Env → Option Env
  | [], env => some env
  | i :: is, env => match ownD env i with
    | some ds => frzE is (env.set i (some (.val (.lst ds))))
    | none => none
theorem StG.frzs {H : Hp} {σ : L2.St} {s : S} : ∀ {is : List Nat} {G : Hp} {env e : Env}, StG F G σ H env s → frzE is env = some e → ∃ G', Same G G' ∧ StG F G' σ H e s
  | [], G, env, e, st, h => by cases h; exact ⟨G, Same.refl _, st⟩
  | i :: is, G, env, e, st, h => by
    unfold frzE at h
    cases q : ownD env i with
    | none => rw [q] at h; cases h
    | some ds =>
      rw [q] at h
      obtain ⟨G1, s1, st1⟩ := st.frz (ownD_at q)
      obtain ⟨G2, s2, st2⟩ := StG.frzs st1 h
      exact ⟨G2, s1.trans s2, st2⟩
/-! ### return f(..), return [..]: what is returned is new -/
theorem NxO.drop {τ : Env → M S D} : NxO (sDrop τ) := fun env s fl s' q => by
  obtain ⟨d, s1, q1, q2⟩ := bind_ok q
  cases q2
  exact ⟨_, rfl⟩
/-! ### list(x), [] as new lists -/
/-! ### a, b = (two new lists) -/
end
end DL
set_option Elab.async false
set_option linter.all false
set_option maxRecDepth 100000
set_option maxHeartbeats 400000
set_option autoImplicit false
/-! DL: found.append(left.pop(k)) -/
namespace DL
open PySem PySem.Spec PyProof.Rows L2
end DL
set_option Elab.async false
set_option linter.all false
set_option maxRecDepth 100000
set_option maxHeartbeats 400000
set_option autoImplicit false
/-! DL: an item of a list of one's own; raise C('m'), C without own __init__ -/
namespace DL
open PySem PySem.Spec PyProof.Rows L2
end DL
set_option Elab.async false
set_option linter.all false
set_option maxRecDepth 100000
set_option maxHeartbeats 400000
set_option autoImplicit false
/-! DL: expressions that look at lists of one's own and hold none; parts of a list of one's own; own.pop(); C(k = v) -/
namespace DL
open PySem PySem.Spec PyProof.Rows L2
/-! ### values without lists -/
end DL
set_option Elab.async false
set_option linter.all false
set_option maxRecDepth 100000
set_option maxHeartbeats 400000
set_option autoImplicit false
/-! DL: return e, lists of one's own handed on for good -/
namespace DL
open PySem PySem.Spec PyProof.Rows L2
end DL
set_option Elab.async false
set_option linter.all false
set_option maxRecDepth 100000
set_option maxHeartbeats 4000000
set_option autoImplicit false
/-! DL: a, b = (a new list), (a value) -/
namespace DL
open PySem PySem.Spec PyProof.Rows L2
section
variable {S : Type} {X : Cx} {F : Fx S}
/-- is None, also of an error -/
def isXD (neg : Bool) : D → D → M S D := fun d e => match d with
  | .exc _ _ => (match e with
    | .non => pure (.bl neg)
    | _ => stk)
  | d => isND neg d e
theorem isXD_of {neg : Bool} {G σ H env s d e x y} {Q : VK} (st : StG F G σ H env s) (rx : Rep F.toCc G d x) (ry : Rep F.toCc G e y) (p : Post F G H (isXD neg d e s) (K1 F G H σ env Q)) : y = .non ∧ Q (.bl (if neg then !decide (x = .non) else decide (x = .non))) H := by
  cases d with
  | exc c fs =>
    cases e with
    | non =>
      refine ⟨ry, ?_⟩
      obtain ⟨a, dd, rfl, _⟩ := rx
      have fin : ∀ b : Bool, (K1 F G H σ env Q) (.bl b) s → Q (.bl b) H := fun b k => k (.bl b) G H (Ext.refl _ _ _) st rfl
      cases neg <;> exact fin _ p
    | _ => exact p.elim
  | _ => exact isND_of st rx ry p
theorem od_notX : OpD F (fun x y H Q => y = .non ∧ Q (.bl (!decide (x = .non))) H) (isXD true) := fun G σ H env s d e x y Q st rx ry p => isXD_of st rx ry p
end
end DL
set_option Elab.async false
set_option linter.all false
set_option maxRecDepth 100000
set_option maxHeartbeats 400000
set_option autoImplicit false
/-! DL: x = a comprehension over any thing, as a list of one's own -/
namespace DL
open PySem PySem.Spec PyProof.Rows L2
section
variable {S : Type} {X : Cx} {F : Fx S}
variable {elt tg iter : Expr} {ifs : List Expr} {scope : Scope} {own : List (Str × Nat)} {pos spos : Pos} {g : TG} {ι : Env → M S (List D)} {γ : D → Env → M S Env} {t : Env → M S Bool} {e : Env → M S D}
theorem NxO.ext {i : Nat} {τ : Env → M S D} : NxO (sExt i τ) := fun env s fl s' q => by
  have q : (match env[i]? with
    | some (some (.own _)) => do
      let d ← τ env
      (match env[i]? with
      | some (some (.own ds)) => onLst (fun es => grd (ds.length + es.length ≤ sizeLine) (pure (.nx (env.set i (some (.own (ds ++ es))))))) d
      | _ => stk)
    | _ => stk : M S Flw) s = .ok fl s' := q
  cases hi : env[i]? with
  | none => rw [hi] at q; cases q
  | some sl =>
    rw [hi] at q
    cases sl with
    | none => cases q
    | some sl =>
      cases sl with
      | val _ => cases q
      | obj _ _ => cases q
      | own ds =>
        obtain ⟨d, s1, q1, q2⟩ := bind_ok q
        cases d with
        | lst es =>
          have q2 : grd (ds.length + es.length ≤ sizeLine) (pure (.nx (env.set i (some (.own (ds ++ es)))))) s1 = Res.ok fl s' := q2
          by_cases h : ds.length + es.length ≤ sizeLine
          · rw [grd_pos h] at q2; cases q2; exact ⟨_, rfl⟩
          · unfold grd at q2; rw [if_neg h] at q2; cases q2
        | _ => cases q2
end
end DL
set_option Elab.async false
set_option linter.all false
set_option maxRecDepth 100000
set_option maxHeartbeats 4000000
set_option autoImplicit false
/-! DL: own[i] = e -/
namespace DL
open PySem PySem.Spec PyProof.Rows L2
section
variable {S : Type} {X : Cx} {F : Fx S}
theorem RepL.set {C : Cc S} {G : Hp} : ∀ (n : Nat) {ds : List D} {vs : List V} {d : D} {v : V}, RepL C G ds vs → Rep C G d v → RepL C G (ds.set n d) (vs.set n v)
  | _, [], _, _, _, r, _ => by
    have e1 : _ = [] := r
    subst e1; rfl
  | 0, _ :: _, _, _, _, ⟨_, _, ev, _, b⟩, rd => by subst ev; exact RepL.cons rd b
  | n + 1, _ :: _, _, _, _, ⟨_, _, ev, a, b⟩, rd => by subst ev; exact RepL.cons a (b.set n rd)
end
end DL
set_option Elab.async false
set_option linter.all false
set_option maxRecDepth 100000
set_option maxHeartbeats 1000000
set_option autoImplicit false
/-! DL: x, y, z = (a new list), e, f; lists of one's own that are handed on for good -/
namespace DL
open PySem PySem.Spec PyProof.Rows L2
section
variable {S : Type} {X : Cx} {F : Fx S}
/-- a statement ahead of which lists of one's own become values for good -/
def sFz (is : List Nat) (τ : Env → M S Flw) : Env → M S Flw := fun env => match frzE is env with
  | some e => τ e
  | none => stk
theorem ds_fz {st : Stmt} {is : List Nat} {τ : Env → M S Flw} (h : PS X st (tS F τ)) : PS X st (tS F (sFz is τ)) := ps_mono h fun D σ H ⟨G, env, s, st, p⟩ => by
  have p : Post F G H ((match frzE is env with
    | some e => τ e
    | none => stk : M S Flw) s) (FP F G D) := p
  cases q : frzE is env with
  | none => rw [q] at p; exact p.elim
  | some e =>
    rw [q] at p
    obtain ⟨G', ss, stF⟩ := st.frzs q
    exact ⟨G', e, s, stF, (p.later ss).mono fun _ _ _ k => k.later ss⟩
end
/-! ### `x, y = new list, e`, one of them a cell -/
end DL
set_option Elab.async false
set_option linter.all false
set_option maxRecDepth 100000
set_option maxHeartbeats 1000000
set_option autoImplicit false
/-! DL: a law's lambdas as values: made, kept in lists, handed on by name -/
namespace DL
open PySem PySem.Spec PyProof.Rows L2 LamX
/-- the function object at f that a lambda makes -/
def lamHO (q : Str) (params : Arguments) (body : Expr) (scope : Scope) (cl : List (Str × Addr)) (f c' : Addr) : HO := .ext fun h => ∃ pm ctv, h.get? f = some (PySem.W.kla_obj "<lambda>" q params body scope cl pm c' ctv)
theorem lamHO_ok {P : Program} {w : World} {H : Hp} {h : Heap} {q : Str} {params : Arguments} {body : Expr} {scope : Scope} {cl : List (Str × Addr)} {f c' : Addr} {pm ctv : Value} (e : h.get? f = some (PySem.W.kla_obj "<lambda>" q params body scope cl pm c' ctv)) : ObjOk P w H h f (lamHO q params body scope cl f c') :=
  ⟨⟨pm, ctv, e⟩, ⟨_, e⟩, fun _ _ ⟨pm, ctv, e⟩ k => ⟨pm, ctv, k _ e⟩⟩
section
variable {X : Cx} {pins : List (Addr × Obj)} {σ : L2.St} {H : Hp} {s : Shared}
/-- the lambda is made, its object known from now on -/
theorem lam_makeT {T : List (Addr × Str)} {c P : Addr} {params : Arguments} {body : Expr} {scope : Scope} {pos : Pos} {E : Value → Shared → Prop} {Q : Value → Shared → Prop} (I : Inv X pins σ H s) (TB : TabB X.base X.mg c P) (hcode : X.env.code = .ref c)
    (hm : (P, X.env.qual ++ "<lambda>") ∈ T) (hu : ∀ p ∈ T, p.1 = P → p.2 = X.env.qual ++ "<lambda>") (hT : Tabs T H) (hdef : defaultsOf params X.env = ([], [])) (hfree : ∀ y ∈ scope.names, y.2 = .free → ∃ c, X.env.cells.lookup y.1 = some c)
    (h : ∀ (f c' : Addr) (H1 : Hp) (s' : Shared), Inv X pins σ H1 s' → ExtN H H1 → (∀ b, H1 b = none → H b = none) → Tabs T H1 → H f = none → f ≠ c' →
      H1 f = some (lamHO (X.env.qual ++ "<lambda>") params body scope (cloFrom X.env.cells scope.names []) f c') → H1 c' = some (CodeO c' (X.env.qual ++ "<lambda>")) → (H c' = none ∨ H c' = some (CodeO c' (X.env.qual ++ "<lambda>"))) → Q (.ref f) s') :
    wpAny (model X.prog X.w) X.A (eval (.Lambda params body scope pos) X.env) Q E s := by
  obtain ⟨ps, hP, ht, ha⟩ := hT _ hm
  refine PySem.W.kla_eval hdef ?_
  have bP : s.heap.BuiltinsAt X.mg P := TB.bm.keeps I.bk
  have hP' : s.heap.get? P = some { cls := .none, data := .fields ps } := I.hok P _ hP
  cases hc : codeAmong pos ps.toList with
  | none =>
    refine PySem.W.kla_makeFunction (mg := X.mg) (c := c) (P := P) (ps := ps) (closure_ok hfree) I.ok.glob (I.mod.glob.keeps I.bk) hcode (TB.code.keeps I.bk) hP' ht hc TB.gP bP fun c' ctv h' tk hx hge hlt hrec htb => ?_
    obtain ⟨c2, oc, vs, t, e2, hoc, hd, hv⟩ := hrec
    cases e2
    have hsz : s.heap.objs.size ≤ h'.objs.size := Nat.le_trans hge (Nat.le_of_lt hlt)
    have nC : H c' = none := I.hok.fresh hge
    have I1 := inv_table (t' := tk) (more := #[rawInt pos.line, rawInt pos.col, .ref c']) (h' := h') I hP hx htb hge ⟨oc, vs, t, hoc, hd, hv⟩
    have I2 := I1.laid (a := h'.objs.size) (o := lamHO (X.env.qual ++ "<lambda>") params body scope (cloFrom X.env.cells scope.names []) h'.objs.size c') (t' := tk)
      (h' := h'.push (PySem.W.kla_obj "<lambda>" (X.env.qual ++ "<lambda>") params body scope (cloFrom X.env.cells scope.names []) ((X.mg "__name__").getD .none) c' ctv)) (fun b u e => Heap.get?_push_of_some _ e) (Nat.le_refl _) (lamHO_ok (Heap.get?_push_size _ rfl))
    have n1 : h'.objs.size ≠ c' := Nat.ne_of_gt hlt
    have n2 : h'.objs.size ≠ P := Nat.ne_of_gt (Nat.lt_of_lt_of_le (Heap.lt_size hP') hsz)
    have nF : H h'.objs.size = none := I.hok.fresh hsz
    have hE : ExtN H (upd (upd (upd H P (.tbl (ps ++ #[rawInt pos.line, rawInt pos.col, .ref c']))) c' (CodeO c' (X.env.qual ++ "<lambda>"))) h'.objs.size (lamHO (X.env.qual ++ "<lambda>") params body scope (cloFrom X.env.cells scope.names []) h'.objs.size c')) := fun b o e n => by
      rw [upd_ne (ne_of_none e nF), upd_ne (ne_of_none e nC), upd_ne (fun z => n ps (Option.some.inj (e.symm.trans (by rw [z]; exact hP))))]
      exact e
    have hR : ∀ b, (upd (upd (upd H P (.tbl (ps ++ #[rawInt pos.line, rawInt pos.col, .ref c']))) c' (CodeO c' (X.env.qual ++ "<lambda>"))) h'.objs.size (lamHO (X.env.qual ++ "<lambda>") params body scope (cloFrom X.env.cells scope.names []) h'.objs.size c')) b = none → H b = none := fun b e => by
      by_cases h0 : b = h'.objs.size
      · rw [h0]; exact nF
      · rw [upd_ne h0] at e
        by_cases h1 : b = c'
        · rw [h1]; exact nC
        · rw [upd_ne h1] at e
          by_cases h2 : b = P
          · rw [h2, upd_same] at e; cases e
          · rw [upd_ne h2] at e; exact e
    have eL : (ps ++ #[rawInt pos.line, rawInt pos.col, .ref c']).toList = ps.toList ++ [rawInt pos.line, rawInt pos.col, .ref c'] := by simp
    have hC1 : (upd (upd (upd H P (.tbl (ps ++ #[rawInt pos.line, rawInt pos.col, .ref c']))) c' (CodeO c' (X.env.qual ++ "<lambda>"))) h'.objs.size (lamHO (X.env.qual ++ "<lambda>") params body scope (cloFrom X.env.cells scope.names []) h'.objs.size c')) c' = some (CodeO c' (X.env.qual ++ "<lambda>")) := by rw [upd_ne n1.symm, upd_same]
    refine h h'.objs.size c' _ _ I2 hE hR (fun p hp => ?_) nF n1 upd_same hC1 (.inl nC)
    by_cases hb : p.1 = P
    · rw [hu p hp hb, hb]
      refine ⟨_, by rw [upd_ne n2.symm, upd_ne (ne_of_none hP nC), upd_same], by rw [eL]; exact PySem.TriplesOk_snoc _ _ _ _ ht, fun p' cv hcv => ?_⟩
      rw [eL] at hcv
      rcases among_app _ ht hcv with z | z
      · obtain ⟨c0, e1, e2⟩ := ha p' cv z
        exact ⟨c0, e1, hE _ _ e2 codeO_ne⟩
      · exact ⟨c', z, hC1⟩
    · obtain ⟨ps', a1, a2, a3⟩ := hT p hp
      refine ⟨ps', by rw [upd_ne (ne_of_none a1 nF), upd_ne (ne_of_none a1 nC), upd_ne hb]; exact a1, a2, fun p' cv hcv => ?_⟩
      obtain ⟨c0, e1, e2⟩ := a3 p' cv hcv
      exact ⟨c0, e1, hE _ _ e2 codeO_ne⟩
  | some cv =>
    obtain ⟨c', e, hco⟩ := ha pos cv hc
    subst e
    refine PySem.W.kla_makeFunctionHit (mg := X.mg) (c := c) (P := P) (ps := ps) (closure_ok hfree) I.ok.glob (I.mod.glob.keeps I.bk) hcode (TB.code.keeps I.bk) hP' ht hc bP fun ctv h' tk hx hsz => ?_
    have nF : H h'.objs.size = none := I.hok.fresh hsz
    have n1 : h'.objs.size ≠ c' := fun z => by rw [z, hco] at nF; cases nF
    have I2 := I.laid (a := h'.objs.size) (o := lamHO (X.env.qual ++ "<lambda>") params body scope (cloFrom X.env.cells scope.names []) h'.objs.size c') (t' := tk)
      (h' := h'.push (PySem.W.kla_obj "<lambda>" (X.env.qual ++ "<lambda>") params body scope (cloFrom X.env.cells scope.names []) ((X.mg "__name__").getD .none) c' ctv)) (fun b u e => Heap.get?_push_of_some _ (hx b u e)) hsz (lamHO_ok (Heap.get?_push_size _ rfl))
    have hE : ExtN H (upd H h'.objs.size (lamHO (X.env.qual ++ "<lambda>") params body scope (cloFrom X.env.cells scope.names []) h'.objs.size c')) := fun b o e n => by rw [upd_ne (ne_of_none e nF)]; exact e
    exact h h'.objs.size c' _ _ I2 hE (fun b e => by
      by_cases h0 : b = h'.objs.size
      · rw [h0]; exact nF
      · rw [upd_ne h0] at e; exact e) (hT.ext fun b o e => by rw [upd_ne (ne_of_none e nF)]; exact e) nF n1 upd_same (hE _ _ hco codeO_ne) (.inr hco)
end
/-- a law's lambda: its parameters, its body, its names -/
structure Lam1 where
  params : Arguments
  body : Expr
  scope : Scope
/-- what the lambdas of a law make -/
def lamsHO (q : Str) (ls : List Lam1) (cells : List (Str × Addr)) (i : Nat) (f c' : Addr) : HO := match ls[i]? with
  | some l => lamHO q l.params l.body l.scope (cloFrom cells l.scope.names []) f c'
  | none => .tbl #[]
variable {S : Type}
section
variable {X : Cx} {F : Fx S}
/-- no code object is the world's -/
def NoCode (F : Fx S) : Prop := ∀ s H a c q, F.rep s H → F.reg a → H a ≠ some (CodeO c q)
/-- what F is told of the law's lambdas -/
structure LamF (X : Cx) (F : Fx S) (ls : List Lam1) : Prop where
  fno : F.fno = lamsHO (X.env.qual ++ "<lambda>") ls X.env.cells
  fnq : F.fnq = X.env.qual ++ "<lambda>"
  nc : NoCode F
theorem lamHO_nt {q : Str} {params : Arguments} {body : Expr} {scope : Scope} {cl : List (Str × Addr)} {f c' : Addr} : NoTbl (lamHO q params body scope cl f c') := fun _ z => by cases z
theorem de_lam {T : List (Addr × Str)} {c P : Addr} {ls : List Lam1} (i : Nat) {params : Arguments} {body : Expr} {scope : Scope} {pos : Pos} (LF : LamF X F ls) (hl : ls[i]? = some ⟨params, body, scope⟩) (TB : TabB X.base X.mg c P) (hcode : X.env.code = .ref c)
    (hm : (P, X.env.qual ++ "<lambda>") ∈ T) (hu : ∀ p ∈ T, p.1 = P → p.2 = X.env.qual ++ "<lambda>") (W : TabW F T) (hdef : defaultsOf params X.env = ([], [])) (L : LamS X.env.scope scope) :
    PE X (.Lambda params body scope pos) (tE F (rC (.fn i))) := by
  refine ⟨fun pins sh σ H Q I ⟨G, env, s, st, p⟩ => ?_⟩
  refine lam_makeT I TB hcode hm hu (W.at_ _ _ st.gd.w) hdef (L.has I.ok) fun f c' H1 s' I1 eN eR T1 nF ne hF hC hC0 => ?_
  have gF : G f = none := st.gd.gh.free nF
  have w1 : F.rep s H1 := W.put _ _ _ st.gd.w eN T1
  have eG : ∀ b o, G b = some o → upd (upd G c' (CodeO c' (X.env.qual ++ "<lambda>"))) f (lamHO (X.env.qual ++ "<lambda>") params body scope (cloFrom X.env.cells scope.names []) f c') b = some o := fun b o h => by
    rw [upd_ne (ne_of_none h gF)]
    by_cases hb : b = c'
    · subst hb
      have h2 := st.gd.gh _ _ h
      rcases hC0 with z | z
      · rw [z] at h2; cases h2
      · rw [z] at h2; rw [upd_same]; exact h2
    · rw [upd_ne hb]; exact h
  have inv : ∀ b o, upd (upd G c' (CodeO c' (X.env.qual ++ "<lambda>"))) f (lamHO (X.env.qual ++ "<lambda>") params body scope (cloFrom X.env.cells scope.names []) f c') b = some o → (b = f ∧ o = lamHO (X.env.qual ++ "<lambda>") params body scope (cloFrom X.env.cells scope.names []) f c') ∨ (b = c' ∧ o = CodeO c' (X.env.qual ++ "<lambda>")) ∨ G b = some o := fun b o h => by
    by_cases h1 : b = f
    · subst h1; rw [upd_same] at h; exact .inl ⟨rfl, (Option.some.inj h).symm⟩
    · rw [upd_ne h1] at h
      by_cases h2 : b = c'
      · subst h2; rw [upd_same] at h; exact .inr (.inl ⟨rfl, (Option.some.inj h).symm⟩)
      · rw [upd_ne h2] at h; exact .inr (.inr h)
  have ex : Ext F.reg G H (upd (upd G c' (CodeO c' (X.env.qual ++ "<lambda>"))) f (lamHO (X.env.qual ++ "<lambda>") params body scope (cloFrom X.env.cells scope.names []) f c')) H1 := by
    refine ⟨eG, fun a o h _ n => eN a o h n, fun a o h => ?_, eR⟩
    rcases inv a o h with ⟨rfl, _⟩ | ⟨rfl, rfl⟩ | h
    · exact .inr (.inl nF)
    · rcases hC0 with z | z
      · exact .inr (.inl z)
      · exact .inr (.inr ⟨_, _, rfl, .inr (.inl z)⟩)
    · exact .inl h
  have gd1 : Gd F.toCc (upd (upd G c' (CodeO c' (X.env.qual ++ "<lambda>"))) f (lamHO (X.env.qual ++ "<lambda>") params body scope (cloFrom X.env.cells scope.names []) f c')) H1 s := by
    refine ⟨fun a o h => ?_, w1, fun a ha => ?_, fun a o h => ?_⟩
    · rcases inv a o h with ⟨rfl, rfl⟩ | ⟨rfl, rfl⟩ | h
      · exact hF
      · exact hC
      · exact eN a o (st.gd.gh _ _ h) (st.gd.nt a o h)
    · cases q : upd (upd G c' (CodeO c' (X.env.qual ++ "<lambda>"))) f (lamHO (X.env.qual ++ "<lambda>") params body scope (cloFrom X.env.cells scope.names []) f c') a with
      | none => rfl
      | some o =>
        rcases inv a o q with ⟨rfl, rfl⟩ | ⟨rfl, rfl⟩ | h
        · obtain ⟨u, e⟩ := F.there s H _ st.gd.w ha
          rw [nF] at e; cases e
        · exact absurd hC (LF.nc s H1 _ _ _ w1 ha)
        · rw [st.gd.gr a ha] at h; cases h
    · rcases inv a o h with ⟨rfl, rfl⟩ | ⟨rfl, rfl⟩ | h
      · exact lamHO_nt
      · exact codeO_ne
      · exact st.gd.nt a o h
  refine ⟨.ref f, H1, I1, rfl, p (.ref f) _ H1 ex (st.ext' ex gd1) ⟨f, c', rfl, ?_, ?_⟩⟩
  · rw [upd_same, LF.fno]
    show _ = some (lamsHO (X.env.qual ++ "<lambda>") ls X.env.cells i f c')
    unfold lamsHO
    rw [hl]
  · rw [upd_ne ne.symm, upd_same, LF.fnq]
end
section
variable {X : Cx} {pins : List (Addr × Obj)} {σ : L2.St} {H HZ : Hp} {s s1 : Shared}
/-- x(), in the def that got a lambda made before: Z is that def's context, entered at s -/
theorem pe_actT {CXg : CXT} {Eg : XK} {Ng : List Str} {qg : Str} {sg : Scope} {g f c' : Addr} {cdg : Value} {params : Arguments} {body : Expr} {scope : Scope} {k i : Nat} {a : Str} {pn : List (Addr × Obj)} {xe : Value → Shared → Prop} {W : WX} {E : XK} {tb : TE} {p1 p2 : Pos}
    (I : Inv X pins σ H s) (L : LamS X.env.scope scope)
    (hbind : ∀ (pm ctv : Value), bindArgs (PySem.W.kla_fn "<lambda>" (X.env.qual ++ "<lambda>") params body scope (cloFrom X.env.cells scope.names []) pm (.ref c') ctv) ⟨[], []⟩ = pure [])
    (tk : Takes ((cxOf CXg X.prog X.w X.K X.mg X.base Ng qg sg g cdg X.A X.stack s H Eg).tr pn xe) W) (hW : ∀ cls d σ' H', E cls d H' → W cls d σ' H') (hr : Room (k + 1) (X.A.deeper (envOfC qg sg s.heap.objs.size g cdg)))
    (hbody : ∀ (A : Around) (outer : List PySem.Env) (s : Shared) (H : Hp), Room k (A.deeper (lamEnv X scope s.heap.objs.size f c')) → PE (lamCx X A outer s H E scope f c') body tb)
    (hN : Ng[i]? = some a) (hv : Vis sg a) (hd : (a == ("__debug__" : Str)) = false := by decide) (hcd : (a == ("__classdict__" : Str)) = false := by decide) :
    PE ((cxOf CXg X.prog X.w X.K X.mg X.base Ng qg sg g cdg X.A X.stack s H Eg).tr pn xe) (.Call (.Name a p1) [] [] p2)
      (fun σZ HZ Q => σZ[i]? = some (some (.ref f)) ∧ HZ c' = some (CodeO c' (X.env.qual ++ "<lambda>")) ∧ HZ f = some (lamHO (X.env.qual ++ "<lambda>") params body scope (cloFrom X.env.cells scope.names []) f c') ∧ tb σ HZ Q) := by
  refine ⟨fun pinsZ sZ σZ HZ Q IZ h => ?_⟩
  obtain ⟨hs, hc, hF, ht⟩ := h
  refine wpAny_Call_Name_kw (thn ((pe_var (pos := p1) (i := i) hN hv hd hcd).run pinsZ sZ σZ HZ (fun v H1 => v = .ref f ∧ H1 = HZ) IZ ⟨.ref f, hs, rfl, rfl⟩) fun u s1 ⟨v, H1, I1, r1, q1⟩ => ?_)
  obtain ⟨ev, eH⟩ := q1
  subst ev
  rw [eH] at I1
  obtain rfl : u = Value.ref f := r1
  obtain ⟨⟨pm, ctv, of1⟩, _, _⟩ := I1.hok f _ hF
  refine PySem.W.callWith_F0 ⟨_, _, _, _, of1⟩ ?_
  have un : Un (frs X.stack) [] H HZ s.heap s1.heap := I1.base
  obtain ⟨⟨oc, vs, t, hoc, hdc, hvc⟩, _, _⟩ := I1.hok c' _ hc
  have rc : codeAny (model X.prog X.w) (X.A.deeper (envOfC qg sg s.heap.objs.size g cdg)) (.call (.ref f) ⟨[], []⟩) (CR (L2.CX X.prog X.w) (envOfC qg sg s.heap.objs.size g cdg :: X.stack) X.prog X.w HZ s1 Q E) s1 := by
    refine PySem.W.kla_callFunE hr.depth of1 rfl L.co L.gen rfl ⟨c', oc, vs, t, rfl, hoc, hdc, hvc⟩ ?_
    rw [hbind]
    refine wpAny_pure (wpAny_newFunctionEnv (fun y hy => (L.own y hy).2) (fun y hy => absurd hy (by simp)) (fun h₁ hns hsb => ⟨I1.nolimit.fresh _ hsb, ?_⟩) L.kind)
    show codeAny _ _ (.expr body (lamEnv X scope s1.heap.objs.size f c')) _ _
    have kp : ∀ b o, s1.heap.get? b = some o → h₁.get? b = some o := fun b o e => hsb.extBut b o (Nat.ne_of_lt (Heap.lt_size e)) (Heap.get?_push_of_some _ e)
    have J : Inv (lamCx X (X.A.deeper (envOfC qg sg s.heap.objs.size g cdg)) (envOfC qg sg s.heap.objs.size g cdg :: X.stack) s1 HZ E scope f c') [] σ HZ { s1 with heap := h₁, toks := s1.toks + ([] : List (Str × Value)).length } :=
      lam_start2 I L I1.env0 hr.hd un hns kp
    refine PySem.W.kla_codeExpr (wpAny_mono ((hbody _ _ s1 HZ (hr.deeper _)).run [] _ _ HZ Q J ht) (fun v s' hq => ?_) fun e s' hq => hq)
    obtain ⟨w', H', J', rv, q⟩ := hq
    exact ⟨w', H', J'.os, J'.bare, J'.base, J'.hok, rv, q⟩
  have hx : Passes (L2.CX X.prog X.w) ((cxOf CXg X.prog X.w X.K X.mg X.base Ng qg sg g cdg X.A X.stack s H Eg).tr pn xe) E := passes_call tk hW
  refine wpAny_call (codeAny_mono rc fun r s' hq => ?_)
  cases r with
  | error e => exact hx pinsZ σZ HZ s1 e s' I1 hq
  | ok fl =>
    cases fl with
    | ret u => exact I1.after hq
    | next => exact False.elim hq
    | brk => exact False.elim hq
    | cont => exact False.elim hq
end
section
variable {X : Cx} {F : Fx S}
/-- the lambdas of a law and their readings -/
inductive LamsOk (X : Cx) (F : Fx S) (k : Nat) : List Lam1 → List (Env → M S D) → Prop where
  | nil : LamsOk X F k [] []
  | cons {params : Arguments} {body : Expr} {scope : Scope} {τ : Env → M S D} {ls : List Lam1} {τs : List (Env → M S D)} (L : LamS X.env.scope scope)
      (hbind : ∀ (q : Str) (cl : List (Str × Addr)) (pm cv ctv : Value), bindArgs (PySem.W.kla_fn "<lambda>" q params body scope cl pm cv ctv) ⟨[], []⟩ = pure [])
      (hbody : ∀ (A : Around) (outer : List PySem.Env) (s : Shared) (H0 : Hp) (E : XK) (f c' : Addr), Room k (A.deeper (lamEnv X scope s.heap.objs.size f c')) → ∀ G H : Hp, PE (lamCx X A outer s H0 E scope f c') body (tE (fxOf F.toCc G H E) τ))
      (rest : LamsOk X F k ls τs) : LamsOk X F k (⟨params, body, scope⟩ :: ls) (τ :: τs)
theorem LamsOk.at_ {k : Nat} : ∀ {ls : List Lam1} {τs : List (Env → M S D)}, LamsOk X F k ls τs → ∀ {i : Nat} {l : Lam1}, ls[i]? = some l → ∃ τ, τs[i]? = some τ ∧ LamS X.env.scope l.scope ∧
      (∀ (q : Str) (cl : List (Str × Addr)) (pm cv ctv : Value), bindArgs (PySem.W.kla_fn "<lambda>" q l.params l.body l.scope cl pm cv ctv) ⟨[], []⟩ = pure []) ∧
      (∀ (A : Around) (outer : List PySem.Env) (s : Shared) (H0 : Hp) (E : XK) (f c' : Addr), Room k (A.deeper (lamEnv X l.scope s.heap.objs.size f c')) → ∀ G H : Hp, PE (lamCx X A outer s H0 E l.scope f c') l.body (tE (fxOf F.toCc G H E) τ))
  | _, _, .nil, i, l, h => by simp at h
  | _, _, .cons L hb hy rest, 0, l, h => by
    have h : some _ = some l := h
    cases h
    exact ⟨_, rfl, L, hb, hy⟩
  | _, _, .cons L hb hy rest, i + 1, l, h => rest.at_ (i := i) (by simpa using h)
/-- caught(work), work a value: what its lambda says -/
def cauV (xs : List Str) (τs : List (Env → M S D)) (τ : Env → M S D) : Env → M S D := fun env s => match τ env s with
  | .ok (.fn i) s1 => match τs[i]? with
    | some τ1 => cau xs τ1 env s1
    | none => .stk
  | _ => .stk
theorem de_cauV {T : List (Addr × Str)} {x a : Str} {g SE : Addr} {k : Nat} {stm : Stmt} {fd : FuncData} {Ng : List Str} {xs : List Str} {ls : List Lam1} {τs : List (Env → M S D)} {τ : Env → M S D} {e : Expr}
    {p pos : Pos} (LF : LamF X F ls) (LO : LamsOk X F k ls τs) (Fn : Fun X.K x x stm g fd) (Sg : FnScope Ng [a] (defScope stm)) (hb : L2.Binds X.K fd [a] []) (hg : Gl X x) (hm : X.mg x = some (.ref g)) (hNg : Ng[0]? = some a) (hva : Vis (defScope stm) a)
    (hG : ∀ cdv, GivesTo X Ng x (defScope stm) g cdv (defBody stm) a (X.env.qual ++ "<lambda>") (TKeep X.K (.ref SE)))
    (W : TabW F T) (hx : ∀ c ∈ xs, PySem.W.exmOne X.K (.ref (F.cad c)) (.ref SE) = some true)
    (hr : Room (k + 2) X.A) (he : PE X e (tE F τ))
    (hse : starEach [e] X.env = (false, eval e X.env) :: starEach [] X.env := by rfl) (hdb : (x == ("__debug__" : Str)) = false := by decide) (hd : (a == ("__debug__" : Str)) = false := by decide) (hcd : (a == ("__classdict__" : Str)) = false := by decide) :
    PE X (.Call (.Name x p) [e] [] pos) (tE F (cauV xs τs τ)) := by
  obtain ⟨oc, od, kV, doc, pm, an, cdv, ct, osl, rfl, lk, hcg⟩ := Fn.ex
  refine ⟨fun pins s σ H Q I h => ?_⟩
  obtain ⟨G, env, s0, st, q0⟩ := h
  refine wpAny_Call_Name_kw (ld_glob I hg hm ?_ hdb)
  refine PySem.W.callWith_K (h₀ := X.base) I.ok.mod.kin Fn.kp ?_ hse (by rfl)
  rw [hse]
  show wpAny _ _ (spliced ((false, eval e X.env) :: backTo pos (starEach [] X.env))) _ _ s
  have he1 := he.run pins s σ H (fun v H1 => ∃ (f c' : Addr) (i : Nat) (l : Lam1) (τ1 : Env → M S D), v = .ref f ∧ ls[i]? = some l ∧ τs[i]? = some τ1 ∧ H1 f = some (lamHO (X.env.qual ++ "<lambda>") l.params l.body l.scope (cloFrom X.env.cells l.scope.names []) f c') ∧
      H1 c' = some (CodeO c' (X.env.qual ++ "<lambda>")) ∧ TKeep X.K (.ref SE) (fun E H' Q' => tLb F.toCc τ1 E σ H' Q') H1 Q) I ⟨G, env, s0, st, by
    have q0 : Post F G H (cauV xs τs τ env s0) _ := q0
    unfold cauV at q0
    cases hτ : τ env s0 with
    | stk => rw [hτ] at q0; exact q0.elim
    | err y s1 => rw [hτ] at q0; exact q0.elim
    | ok d s1 =>
      rw [hτ] at q0
      intro v G1 H1 e1 st1 r1
      cases d with
      | fn i =>
        obtain ⟨f, c', rfl, gf, gc⟩ := r1
        have q0 : Post F G H (match τs[i]? with
          | some τ1 => cau xs τ1 env s1
          | none => .stk) _ := q0
        cases hτi : τs[i]? with
        | none => rw [hτi] at q0; exact q0.elim
        | some τ1 =>
          rw [hτi] at q0
          have q0 : Post F G H (cau xs τ1 env s1) (K1 F G H σ env Q) := q0
          rw [LF.fno] at gf
          rw [LF.fnq] at gc
          have gf : G1 f = some (lamsHO (X.env.qual ++ "<lambda>") ls X.env.cells i f c') := gf
          unfold lamsHO at gf
          cases hli : ls[i]? with
          | none =>
            rw [hli] at gf
            exact absurd rfl (st1.gd.nt _ _ gf #[])
          | some l =>
            rw [hli] at gf
            refine ⟨f, c', i, l, τ1, rfl, hli, hτi, st1.gd.gh _ _ gf, st1.gd.gh _ _ gc, ?_⟩
            have hh := cau_of W hx σ H1 Q (show tE F (cau xs τ1) σ H1 Q from ⟨G1, env, s1, st1, (q0.later (H' := H1) e1.g).K1 e1⟩)
            exact hh.2 H1 (ExtN.refl _) (fun _ h => h) (W.at_ _ _ st1.gd.w)
      | _ => exact q0.elim⟩
  refine Calls.spliced_cons (thn he1 fun u s1 ⟨v, H1, I1, r1, q1⟩ => ?_)
  obtain ⟨f, c', i, l, τ1, ev, hli, hτi, hF, hC, hT⟩ := q1
  subst ev
  obtain rfl : u = Value.ref f := r1
  obtain ⟨τ2, e2, L, hbind, hbody⟩ := LO.at_ hli
  rw [hτi] at e2
  cases e2
  refine Calls.spliced_nil ⟨I1.kIn, ?_⟩
  have rc : codeAny (model X.prog X.w) X.A (.call (.ref g) ⟨[.ref f], []⟩) (CR C8.CX0 X.stack X.prog X.w H1 s1 Q C8.E0) s1 := by
    refine run_ofS (N := Ng) (ps := [a]) (us := [.ref f]) (vs := [.ref f]) lk hcg Sg hr I1.env0 (hb s1 [.ref f] I1.kIn rfl) (.cons rfl .nil) rfl fun hr' => ?_
    obtain ⟨t', ht', hq'⟩ := hG cdv f c' s1 H1 Q (fun E H' Q' => H' f = some (lamHO (X.env.qual ++ "<lambda>") l.params l.body l.scope (cloFrom X.env.cells l.scope.names []) f c') ∧ tLb F.toCc τ1 E σ H' Q')
      (fun W' pn xe E p1 p2 tk hW => pe_actT (i := 0) I1 L (fun pm ctv => hbind _ _ _ _ _) tk hW hr' (fun A outer s H hr2 => pe_lb (hbody A outer s H E f c' hr2)) hNg hva hd hcd) hC ⟨hF, hT⟩
    exact ⟨t', ht'.nox, hq'⟩
  refine wpAny_call (codeAny_mono rc fun r s2 hq => ?_)
  cases r with
  | error e => exact (show False from hq).elim
  | ok fl =>
    cases fl with
    | ret u => exact I1.after hq
    | next => exact False.elim hq
    | brk => exact False.elim hq
    | cont => exact False.elim hq
theorem noCode_draw {L : LamI} {K : PySem.W.Frag} {cad : Str → Addr} {dp wl cl : Addr} {cells : List Int} {T : List (Addr × Str)} {G H : Hp} {E : XK} : NoCode (fxOf (drawCcL L K cad dp wl cl cells T) G H E) := fun s H a c q r ha z => by
  have ha : a = dp ∨ a = wl ∨ a = cl := ha
  rcases ha with h | h | h
  · subst h; rw [r.1.d] at z; cases z
  · subst h; rw [r.1.w] at z; cases z
  · subst h; rw [r.1.c] at z; cases z
end
end DL
namespace DL
open PySem PySem.Spec PyProof.Rows L2 LamX
/-! ### where a law's lambdas stand -/
def stN (ss : List Stmt) (i : Nat) : Stmt := ss.getD i (.Pass ⟨0, 0, 0, 0⟩)
def noneE : Expr := .Constant .none 0 ⟨0, 0, 0, 0⟩
def asE : Stmt → Expr
  | .Assign _ v _ => v
  | _ => noneE
def exE : Stmt → Expr
  | .Expr v _ => v
  | _ => noneE
def elN : Expr → Nat → Expr
  | .List es _, i => es.getD i noneE
  | _, _ => noneE
def arN : Expr → Nat → Expr
  | .Call _ es _ _, i => es.getD i noneE
  | _, _ => noneE
def lamOf : Expr → Lam1
  | .Lambda p b s _ => ⟨p, b, s⟩
  | _ => ⟨⟨[], [], none, [], [], none, []⟩, noneE, ⟨.function, [], false, false, []⟩⟩
end DL
set_option Elab.async false
set_option linter.all false
set_option maxRecDepth 100000
set_option maxHeartbeats 400000
set_option autoImplicit false
/-! DL: is True, is not True -/
namespace DL
open PySem PySem.Spec PyProof.Rows L2
end DL
set_option Elab.async false
set_option linter.all false
set_option maxRecDepth 100000
set_option maxHeartbeats 4000000
set_option autoImplicit false
/-! printed by tools/k03.py: the law k03 -/
namespace DL
open PySem PySem.Spec PyProof.Rows L2
abbrev N__law_lcm : List Str := ["_law_one", "_law_due_one", "_law_found", "_law_turn"]
def rd__law_lcm {S : Type} : Env → M S Flw :=
  (sSeq (sAsg (rVar 0) (gNm 2)) (sSeq (sFor (iR1 (aCons (rVar 1) aNil)) (gNm 3) (sIf (asT (bin (eqD true) (bin modD (rVar 2) (rVar 1)) (rC (.int 0)))) (sAsg (bin addD (rVar 2) (rVar 0)) (gNm 2)) sNx)) (sRet (rVar 2))))
def sem__law_lcm {S : Type} : List D → M S D := runB (rd__law_lcm) N__law_lcm
abbrev N__law_least : List Str := ["_law_rhythm", "_law_size", "_law_rests", "_law_part", "_law_moved", "_law_rest"]
def rd__law_least {S : Type} : Env → M S Flw :=
  (sSeq (sAsg (rVar 0) (gTp 2 (gsCons (gNm 1) (gsCons (gNm 2) gsNil)))) (sSeq (sFor (iR2 (aCons (rC (.int 1)) (aCons (bin addD (rVar 1) (rC (.int 1))) aNil))) (gNm 3) (sSeq (sAsg (bcl sortSD (aCons (cmp [5] (iSq (rVar 2)) (gNm 5) tYs (bin modD (bcl int1D (aCons (bin addD (rVar 5) (rVar 3)) aNil)) (rVar 1))) aNil)) (gNm 4)) (sIf (andT (asT (bin (eqD false) (bin modD (rVar 1) (rVar 3)) (rC (.int 0)))) (asT (bin (eqD false) (rVar 4) (bcl sortSD (aCons (rVar 2) aNil))))) (sRet (tupD (aCons (rVar 3) (aCons (bcl tupleD (aCons (cmp [5] (iSq (bcl sortSD (aCons (rVar 2) aNil))) (gNm 5) (asT (bin ltD (rVar 5) (rVar 3))) (rVar 5)) aNil)) aNil)))) sNx))) (sRet (tupD (aCons (rVar 1) (aCons (bcl tupleD (aCons (bcl sortSD (aCons (rVar 2) aNil)) aNil)) aNil))))))
def sem__law_least {S : Type} : List D → M S D := runB (rd__law_least) N__law_least
abbrev N__law_is_made : List Str := ["_law_told", "_law_days", "_law_size", "_law_due"]
def rd__law_is_made {S : Type} (cs : List Str) : Env → M S Flw :=
  (sSeq (sAsg (cal sem__law_least [] 1 (aCons (tupD (aCons (rVar 2) (aCons (bcl tupleD (aCons (rVar 1) aNil)) aNil))) aNil)) (gNm 3)) (sRet (andV (isi (tb_kit_own_Rhythm cs) (rVar 0)) (bin (eqD false) (bcl reprD (aCons (lstD (aCons (prp "Rhythm" sem_Rhythm_size (rVar 0)) (aCons (prp "Rhythm" sem_Rhythm_rests (rVar 0)) aNil))) aNil)) (bcl reprD (aCons (lstD (aCons (bin ixD (rVar 3) (rC (.int 0))) (aCons (bin ixD (rVar 3) (rC (.int 1))) aNil))) aNil))))))
def sem__law_is_made {S : Type} (cs : List Str) : List D → M S D := runB (rd__law_is_made cs) N__law_is_made
abbrev N_Rhythm___init__X : List Str := ["self", "size", "rests"]
def rd_Rhythm___init__X {S : Type} (cs : List Str) : Env → M S Flw :=
  (sSeq (sIf (orT (notT (asT (cal (sem_is_number cs) [] 1 (aCons (rVar 1) aNil)))) (notT (asT (chn leD leD (rC (.int 1)) (rVar 1) (rC (.int 3000)))))) (sRaise "BadRhythm" "part" (rC (.str "size"))) sNx) (sSeq (sIf (notT (asT (cal (sem_are_different cs) [] 3 (aCons (rVar 2) (aCons (rC (.int 0)) (aCons (bin subD (rVar 1) (rC (.int 1))) aNil)))))) (sRaise "BadRhythm" "part" (rC (.str "rests"))) sNx) (sFldO 0 "Rhythm" "own_form" (cal sem_least_form [] 2 (aCons (rVar 1) (aCons (bcl listD (aCons (rVar 2) aNil)) aNil))))))
def sem_Rhythm___init__X {S : Type} (cs : List Str) : List D → M S (List (Str × D)) := runI (rd_Rhythm___init__X cs) "Rhythm" N_Rhythm___init__X
abbrev N_Rhythm___or__X : List Str := ["self", "other", "size", "day"]
noncomputable def rd_Rhythm___or__X {S : Type} (cs : List Str) : Env → M S Flw :=
  (sSeq (sIf (notT (asT (isi (tb_kit_own_Rhythm cs) (rVar 1)))) sNo sNx) (sSeq (sAsg (cal sem_common [] 2 (aCons (prp "Rhythm" sem_Rhythm_size (rVar 0)) (aCons (prp "Rhythm" sem_Rhythm_size (rVar 1)) aNil))) (gNm 2)) (sRet (mk "Rhythm" (sem_Rhythm___init__X cs) [] 2 (aCons (rVar 2) (aCons (cmp [3] (iR1 (aCons (rVar 2) aNil)) (gNm 3) (orT (asT (bin (orD (inOwn false "Rhythm" (sem_Rhythm___contains__ cs)) (inD false) fun _ e => isIns e) (rVar 3) (rVar 0))) (asT (bin (orD (inOwn false "Rhythm" (sem_Rhythm___contains__ cs)) (inD false) fun _ e => isIns e) (rVar 3) (rVar 1)))) (rVar 3)) aNil))))))
noncomputable def sem_Rhythm___or__X {S : Type} (cs : List Str) : List D → M S D := runB (rd_Rhythm___or__X cs) N_Rhythm___or__X
abbrev N_Rhythm___and__X : List Str := ["self", "other", "size", "day"]
noncomputable def rd_Rhythm___and__X {S : Type} (cs : List Str) : Env → M S Flw :=
  (sSeq (sIf (notT (asT (isi (tb_kit_own_Rhythm cs) (rVar 1)))) sNo sNx) (sSeq (sAsg (cal sem_common [] 2 (aCons (prp "Rhythm" sem_Rhythm_size (rVar 0)) (aCons (prp "Rhythm" sem_Rhythm_size (rVar 1)) aNil))) (gNm 2)) (sRet (mk "Rhythm" (sem_Rhythm___init__X cs) [] 2 (aCons (rVar 2) (aCons (cmp [3] (iR1 (aCons (rVar 2) aNil)) (gNm 3) (andT (asT (bin (orD (inOwn false "Rhythm" (sem_Rhythm___contains__ cs)) (inD false) fun _ e => isIns e) (rVar 3) (rVar 0))) (asT (bin (orD (inOwn false "Rhythm" (sem_Rhythm___contains__ cs)) (inD false) fun _ e => isIns e) (rVar 3) (rVar 1)))) (rVar 3)) aNil))))))
noncomputable def sem_Rhythm___and__X {S : Type} (cs : List Str) : List D → M S D := runB (rd_Rhythm___and__X cs) N_Rhythm___and__X
abbrev N_Rhythm___sub__X : List Str := ["self", "other", "size", "day"]
noncomputable def rd_Rhythm___sub__X {S : Type} (cs : List Str) : Env → M S Flw :=
  (sSeq (sIf (notT (asT (isi (tb_kit_own_Rhythm cs) (rVar 1)))) sNo sNx) (sSeq (sAsg (cal sem_common [] 2 (aCons (prp "Rhythm" sem_Rhythm_size (rVar 0)) (aCons (prp "Rhythm" sem_Rhythm_size (rVar 1)) aNil))) (gNm 2)) (sRet (mk "Rhythm" (sem_Rhythm___init__X cs) [] 2 (aCons (rVar 2) (aCons (cmp [3] (iR1 (aCons (rVar 2) aNil)) (gNm 3) (andT (asT (bin (orD (inOwn false "Rhythm" (sem_Rhythm___contains__ cs)) (inD false) fun _ e => isIns e) (rVar 3) (rVar 0))) (asT (bin (orD (inOwn true "Rhythm" (sem_Rhythm___contains__ cs)) (inD true) fun _ e => isIns e) (rVar 3) (rVar 1)))) (rVar 3)) aNil))))))
noncomputable def sem_Rhythm___sub__X {S : Type} (cs : List Str) : List D → M S D := runB (rd_Rhythm___sub__X cs) N_Rhythm___sub__X
noncomputable def lamR (cs : List Str) (cells : List Int) : List (Env → M DrS D) := [(bin (opOwn "Rhythm" (sem_Rhythm___or__X cs)) (bin ixD (rVar 15) (rC (.int 0))) (bin ixD (rVar 15) (rC (.int 1)))),
  (bin (opOwn "Rhythm" (sem_Rhythm___and__X cs)) (bin ixD (rVar 15) (rC (.int 0))) (bin ixD (rVar 15) (rC (.int 1)))),
  (bin (orD (opOwn "Rhythm" (sem_Rhythm___sub__X cs)) subD fun d _ => isIns d) (bin ixD (rVar 15) (rC (.int 1))) (bin ixD (rVar 15) (rC (.int 0))))]
abbrev N_law : List Str := ["_law_script", "_law_draw", "_law_turn", "_law_models", "_law_one", "_law_that", "_law_model", "_law_seen", "_law_size", "_law_days", "_law_day", "_law_by", "_law_moved", "_law_rest", "_law_thing", "_law_some", "_law_is_wide", "_law_works", "_law_inner", "_law_told", "_law_work", "_law_error"]
noncomputable def rd_law (cs : List Str) (cells : List Int) : Env → M DrS Flw :=
  (sSeq (sFor (iR1 (aCons (bin addD (rC (.int 5)) (bcl min2D (aCons (bcl lenD (aCons (rVar 0) aNil)) (aCons (rC (.int 20)) aNil)))) aNil)) (gNm 2) (sSeq (sAsg (lstD (aCons (cal (sem__law_any_rhythm cells) [] 1 (aCons (rVar 1) aNil)) (aCons (cal (sem__law_any_rhythm cells) [] 1 (aCons (rVar 1) aNil)) aNil))) (gNm 3)) (sSeq (sAsg (cmp [6] (iSq (rVar 3)) (gNm 6) tYs (mk "Rhythm" (sem_Rhythm___init__ cs) [] 2 (aCons (bin ixD (rVar 6) (rC (.int 0))) (aCons (bcl listD (aCons (bin ixD (rVar 6) (rC (.int 1))) aNil)) aNil)))) (gTp 2 (gsCons (gNm 4) (gsCons (gNm 5) gsNil)))) (sSeq (sAsg (bcl reprD (aCons (lstD (aCons (prp "Rhythm" sem_Rhythm_size (rVar 4)) (aCons (prp "Rhythm" sem_Rhythm_rests (rVar 4)) (aCons (prp "Rhythm" sem_Rhythm_size (rVar 5)) (aCons (prp "Rhythm" sem_Rhythm_rests (rVar 5)) aNil))))) aNil)) (gNm 7)) (sSeq (sAsg (cal sem__law_lcm [] 2 (aCons (bin ixD (bin ixD (rVar 3) (rC (.int 0))) (rC (.int 0))) (aCons (bin ixD (bin ixD (rVar 3) (rC (.int 1))) (rC (.int 0))) aNil))) (gNm 8)) (sSeq (sAsg (cmp [6] (iSq (rVar 3)) (gNm 6) tYs (cmp [10] (iR1 (aCons (rVar 8) aNil)) (gNm 10) (asT (cal sem__law_has [] 2 (aCons (rVar 6) (aCons (rVar 10) aNil)))) (rVar 10))) (gNm 9)) (sSeq (sIf (notT (asT (cal (sem__law_is_made cs) [] 3 (aCons (bin (opOwn "Rhythm" (sem_Rhythm___or__ cs)) (rVar 4) (rVar 5)) (aCons (sortSetD (bin addD (bin ixD (rVar 9) (rC (.int 0))) (bin ixD (rVar 9) (rC (.int 1))))) (aCons (rVar 8) aNil)))))) (sRet (rC (.bl false))) sNx) (sSeq (sIf (notT (asT (cal (sem__law_is_made cs) [] 3 (aCons (bin (opOwn "Rhythm" (sem_Rhythm___and__ cs)) (rVar 4) (rVar 5)) (aCons (cmp [10] (iSq (bin ixD (rVar 9) (rC (.int 0)))) (gNm 10) (asT (bin (inD false) (rVar 10) (bin ixD (rVar 9) (rC (.int 1))))) (rVar 10)) (aCons (rVar 8) aNil)))))) (sRet (rC (.bl false))) sNx) (sSeq (sIf (notT (asT (cal (sem__law_is_made cs) [] 3 (aCons (bin (orD (opOwn "Rhythm" (sem_Rhythm___sub__ cs)) subD fun d _ => isIns d) (rVar 4) (rVar 5)) (aCons (cmp [10] (iSq (bin ixD (rVar 9) (rC (.int 0)))) (gNm 10) (asT (bin (inD true) (rVar 10) (bin ixD (rVar 9) (rC (.int 1))))) (rVar 10)) (aCons (rVar 8) aNil)))))) (sRet (rC (.bl false))) sNx) (sSeq (sIf (asT (bin (eqD true) (bcl reprD (aCons (cam "Rhythm" "within" (sem_Rhythm_within cs) [] 2 (rVar 4) (aCons (rVar 5) aNil)) aNil)) (bcl reprD (aCons (bin (eqD false) (cmp [10] (iSq (bin ixD (rVar 9) (rC (.int 0)))) (gNm 10) (asT (bin (inD true) (rVar 10) (bin ixD (rVar 9) (rC (.int 1))))) (rVar 10)) (lstD aNil)) aNil)))) (sRet (rC (.bl false))) sNx) (sSeq (sIf (asT (bin (eqD true) (bcl reprD (aCons (camK "Rhythm" "within" (sem_Rhythm_within cs) [0] 1 (rVar 5) (aCons (rVar 4) aNil)) aNil)) (bcl reprD (aCons (bin (eqD false) (cmp [10] (iSq (bin ixD (rVar 9) (rC (.int 1)))) (gNm 10) (asT (bin (inD true) (rVar 10) (bin ixD (rVar 9) (rC (.int 0))))) (rVar 10)) (lstD aNil)) aNil)))) (sRet (rC (.bl false))) sNx) (sSeq (sAsg (cal (sem__law_pick cells) [] 2 (aCons (rVar 1) (aCons (lstD (aCons (rC (.int 0)) (aCons (rC (.int 1)) (aCons (negD (rC (.int 1))) (aCons (bin subD (cal (sem__law_take cells) [] 2 (aCons (rVar 1) (aCons (rC (.int 99)) aNil))) (rC (.int 50))) (aCons (bin powD (rC (.int 10)) (rC (.int 6))) aNil)))))) aNil))) (gNm 11)) (sSeq (sAsg (bcl sortD (aCons (cmp [13] (iSq (bin ixD (bin ixD (rVar 3) (rC (.int 0))) (rC (.int 1)))) (gNm 13) tYs (bin modD (bcl int1D (aCons (bin addD (rVar 13) (rVar 11)) aNil)) (bin ixD (bin ixD (rVar 3) (rC (.int 0))) (rC (.int 0))))) aNil)) (gNm 12)) (sSeq (sIf (notT (asT (cal (sem__law_is_made cs) [] 3 (aCons (bin (opOwnI "Rhythm" (sem_Rhythm___rshift__ cs)) (rVar 4) (rVar 11)) (aCons (rVar 12) (aCons (bin ixD (bin ixD (rVar 3) (rC (.int 0))) (rC (.int 0))) aNil)))))) (sRet (rC (.bl false))) sNx) (sSeq (sFor (iSq (lstD (aCons (bin subD (cal (sem__law_take cells) [] 2 (aCons (rVar 1) (aCons (rC (.int 400)) aNil))) (rC (.int 200))) (aCons (bin subD (bin powD (rC (.int 10)) (rC (.int 6))) (cal (sem__law_take cells) [] 2 (aCons (rVar 1) (aCons (rC (.int 99)) aNil)))) (aCons (bin subD (rC (.int 0)) (cal (sem__law_take cells) [] 2 (aCons (rVar 1) (aCons (rC (.int 9)) aNil)))) aNil))))) (gNm 10) (sIf (asT (bin (eqD true) (bcl reprD (aCons (bin (orD (inOwn false "Rhythm" (sem_Rhythm___contains__ cs)) (inD false) fun _ e => isIns e) (rVar 10) (rVar 4)) aNil)) (bcl reprD (aCons (cal sem__law_has [] 2 (aCons (bin ixD (rVar 3) (rC (.int 0))) (aCons (rVar 10) aNil))) aNil)))) (sRet (rC (.bl false))) sNx)) (sSeq (sIf (asT (bin (eqD true) (cmp [14] (iSq (lstD (aCons (rC .non) (aCons (rC (.str "0")) (aCons (rC (.bl true)) (aCons (rC (.bl false)) (aCons (tupD (aCons (rC (.int 0)) aNil)) (aCons (lstD (aCons (rC (.int 0)) aNil)) (aCons (rVar 4) (aCons (rC (.str "")) (aCons (rC (.dct [])) aNil))))))))))) (gNm 14) (asT (bin (orD (inOwn false "Rhythm" (sem_Rhythm___contains__ cs)) (inD false) fun _ e => isIns e) (rVar 14) (rVar 4))) (rVar 14)) (lstD aNil))) (sRet (rC (.bl false))) sNx) (sIf (asT (bin (eqD true) (bcl reprD (aCons (lstD (aCons (prp "Rhythm" sem_Rhythm_size (rVar 4)) (aCons (prp "Rhythm" sem_Rhythm_rests (rVar 4)) (aCons (prp "Rhythm" sem_Rhythm_size (rVar 5)) (aCons (prp "Rhythm" sem_Rhythm_rests (rVar 5)) aNil))))) aNil)) (rVar 7))) (sRet (rC (.bl false))) sNx))))))))))))))))) (sSeq (sAsg (cmp [8] (iSq (cal (sem__law_pick cells) [] 2 (aCons (rVar 1) (aCons (lstD (aCons (tupD (aCons (rC (.int 59)) (aCons (rC (.int 53)) aNil))) (aCons (tupD (aCons (rC (.int 60)) (aCons (rC (.int 53)) aNil))) (aCons (tupD (aCons (rC (.int 60)) (aCons (rC (.int 84)) aNil))) (aCons (tupD (aCons (rC (.int 1000)) (aCons (rC (.int 1500)) aNil))) (aCons (tupD (aCons (rC (.int 2999)) (aCons (rC (.int 2)) aNil))) aNil)))))) aNil)))) (gNm 8) tYs (mk "Rhythm" (sem_Rhythm___init__ cs) [] 2 (aCons (rVar 8) (aCons (lstD (aCons (rC (.int 1)) aNil)) aNil)))) (gNm 15)) (sSeq (sAsg (bin gtD (cal sem__law_lcm [] 2 (aCons (prp "Rhythm" sem_Rhythm_size (bin ixD (rVar 15) (rC (.int 0)))) (aCons (prp "Rhythm" sem_Rhythm_size (bin ixD (rVar 15) (rC (.int 1)))) aNil))) (rC (.int 3000))) (gNm 16)) (sSeq (sOwn 17 (aCons (rC (.fn 0)) aNil)) (sSeq (sApp 17 (rC (.fn 1))) (sSeq (sApp 17 (rC (.fn 2))) (sSeq (sFz [17] (sAsg (cal (sem__law_pick cells) [] 2 (aCons (rVar 1) (aCons (lstD (aCons (tupD (aCons (rC (.int 59)) (aCons (rC (.int 53)) aNil))) (aCons (tupD (aCons (rC (.int 60)) (aCons (rC (.int 84)) aNil))) (aCons (tupD (aCons (rC (.int 2999)) (aCons (rC (.int 2)) aNil))) (aCons (tupD (aCons (rC (.int 100)) (aCons (rC (.int 50)) aNil))) aNil))))) aNil))) (gNm 18))) (sSeq (sAsg (lstD (aCons (cam "Rhythm" "within" (sem_Rhythm_within cs) [] 2 (mk "Rhythm" (sem_Rhythm___init__ cs) [] 2 (aCons (bin ixD (rVar 18) (rC (.int 0))) (aCons (lstD (aCons (rC (.int 1)) aNil)) aNil))) (aCons (mk "Rhythm" (sem_Rhythm___init__ cs) [] 2 (aCons (bin ixD (rVar 18) (rC (.int 1))) (aCons (lstD (aCons (rC (.int 1)) aNil)) aNil))) aNil)) (aCons (cam "Rhythm" "within" (sem_Rhythm_within cs) [] 2 (mk "Rhythm" (sem_Rhythm___init__ cs) [] 2 (aCons (bin ixD (rVar 18) (rC (.int 0))) (aCons (lstD aNil) aNil))) (aCons (mk "Rhythm" (sem_Rhythm___init__ cs) [] 2 (aCons (bin ixD (rVar 18) (rC (.int 1))) (aCons (lstD (aCons (rC (.int 1)) aNil)) aNil))) aNil)) aNil))) (gNm 19)) (sSeq (sIf (asT (bin (eqD true) (bcl reprD (aCons (rVar 19) aNil)) (bcl reprD (aCons (lstD (aCons (bin (eqD false) (bin modD (bin ixD (rVar 18) (rC (.int 0))) (bin ixD (rVar 18) (rC (.int 1)))) (rC (.int 0))) (aCons (rC (.bl true)) aNil))) aNil)))) (sRet (rC (.bl false))) sNx) (sSeq (sFor (iSq (rVar 17)) (gNm 20) (sSeq (sAsg (cauV ["BadRhythm"] (lamR cs cells) (rVar 20)) (gNm 21)) (sIf (orT (asT (bin (eqD true) (bin (isXD true) (rVar 21) (rC .non)) (rVar 16))) (andT (asT (rVar 16)) (orT (notT (asT (isiX (tb_kit_xty_BadRhythm cs) tbx_BadRhythm (rVar 21)))) (asT (bin (eqD true) (xfD ["BadRhythm"] "part" (rVar 21)) (rC (.str "size"))))))) (sRet (rC (.bl false))) sNx))) (sRet (rC (.bl true)))))))))))))
end DL
set_option Elab.async false
set_option linter.all false
set_option maxRecDepth 100000
set_option maxHeartbeats 4000000
set_option autoImplicit false
namespace DL
open PySem PySem.Spec PyProof.Rows L2 Rh
section
variable {S : Type} {env : Env}
/-- some of range(n), as the draws will have it -/
theorem Yes.some_of {own : List Nat} {i : Nat} {t : Env → M S Bool} {τ : Env → M S D} {n : Int} (hn : 0 ≤ n) (hn' : n ≤ 3000) (h : IntE τ env (· = n)) (hi : ∀ d, ((wipeE env own).set i (some (.val d)))[i]? = some (some (.val d)))
    (ht : ∀ x : Int, 0 ≤ x → x < n → Yes (t ((wipeE env own).set i (some (.val (.int x))))) fun _ => True) :
    Yes (cmp own (iR1 (aCons τ aNil)) (gNm i) t (rVar i) env) fun d => ∃ rs : List Int, d = .lst (rs.map .int) ∧ rs.Sublist (rngI 0 n) := fun s => by
  obtain ⟨d, s1, e, v, rfl, rfl⟩ := h s
  have hc : Yes (cmpL (gNm i) t (rVar i) (wipeE env own) (rngD 0 v)) fun ys => ys.Sublist (rngD 0 v) := by
    refine Yes.comp fun x hx => ?_
    rw [rngD_eq] at hx
    obtain ⟨m, hm, rfl⟩ := List.mem_map.mp hx
    rw [mem_rngI] at hm
    refine Yes.mono (Yes.of fun s => gNm_run) ?_
    rintro _ rfl
    exact Yes.mono (ht m hm.1 hm.2) fun _ _ => Yes.of fun s => rVar_run (hi _)
  obtain ⟨ys, s2, e2, q⟩ := (Yes.calm hc) s1
  rw [rngD_eq] at q
  obtain ⟨rs, hrs, rfl⟩ := List.sublist_map_iff.mp q
  refine ⟨_, s2, ?_, rs, rfl, hrs⟩
  have hl : (rngD 0 v).length ≤ sizeLine := by rw [rngD_eq, List.length_map, rngI_length]; exact sz3 (by omega)
  rw [cmp_run, iR1_run, aCons_run, e]
  simp only [Res.bind_ok, aNil_run]
  rw [if_pos (show -(2 ^ 62) ≤ v ∧ v < 2 ^ 62 by omega), Res.bind_ok, if_pos hl, e2]
  rfl
theorem wf_sub {n : Int} {rs : List Int} (hn : 1 ≤ n) (h : rs.Sublist (rngI 0 n)) : Wf n rs :=
  ⟨hn, fun r hr => by have := mem_rngI.mp (h.subset hr); omega, ((rngI_sorted 0 n).sublist h).imp fun {a b} z => by omega⟩
end
end DL
set_option Elab.async false
set_option linter.all false
set_option maxRecDepth 100000
set_option maxHeartbeats 4000000
set_option autoImplicit false
namespace DL
open PySem PySem.Spec PyProof.Rows L2 Rh
section
variable {S : Type} {env : Env}
theorem has_ok {n d : Int} {rs : List Int} {s : S} (hn : 0 < n) : (sem__law_has [.tup [.int n, .tup (rs.map .int)], .int d] : M S D) s = .ok (.bl (decide (d % n ∈ rs))) s := by
  have e : rd__law_has [some (.val (.tup [.int n, .tup (rs.map .int)])), some (.val (.int d))] s = .ok (.rt (.bl (decide (d % n ∈ rs)))) s := by
    simp [rd__law_has, ixD_tup0, ixD_tup1, int1D, hn, inD_intsT]
  show (match rd__law_has [some (.val (.tup [.int n, .tup (rs.map .int)])), some (.val (.int d))] s with
    | .ok (.rt d) s' => .ok d s'
    | .ok (.nx _) s' => .ok .non s'
    | .ok _ _ => .stk
    | .err x s' => .err x s'
    | .stk => .stk : Res S D) = _
  rw [e]
end
theorem any_ok (cells : List Int) : Yes (sem__law_any_rhythm cells [.hnd 0]) fun d => ∃ (n : Int) (rs : List Int), d = .tup [.int n, .tup (rs.map .int)] ∧ n ≤ 14 ∧ Wf n rs := by
  refine Yes.runB ?_
  show Yes (rd__law_any_rhythm cells [some (.val (.hnd 0)), none, none, none, none, none, none]) _
  unfold rd__law_any_rhythm
  refine Yes.seq (IntE.set (IntE.add (R := fun v => 1 ≤ v ∧ v ≤ 14) (IntE.c (P := (· = 1)) rfl) (take_in rfl (IntE.c rfl) (by decide) (by decide)) fun i j hi hj => by omega)) ?_
  rintro _ ⟨n, hn, rfl⟩
  refine Yes.seq (IntE.set (take_in rfl (IntE.c rfl) (by decide) (by decide))) ?_
  rintro _ ⟨w, hw, rfl⟩
  refine Yes.seq (Yes.set (Yes.some_of (n := n) (by omega) (by omega) (IntE.var rfl rfl) (fun _ => rfl) fun x _ _ => Yes.mono (IntE.eq (?_ : IntE _ _ fun _ => True) (IntE.c (P := fun _ => True) trivial)) fun _ _ => trivial)) ?_
  · refine Yes.cal (args2 (P := (· = .hnd 0)) (fun s => ⟨_, s, rVar_run rfl, rfl⟩) (IntE.add (R := fun v => 2 ≤ v ∧ v ≤ 4) (IntE.c (P := (· = 2)) rfl) (take_in rfl (IntE.c rfl) (by decide) (by decide)) fun i j hi hj => by omega)) ?_
    rintro _ ⟨_, _, rfl, rfl, v, rfl, hv⟩
    exact Yes.mono (take_ok cells (by omega) (by omega)) fun d ⟨u, hu, _⟩ => ⟨u, hu, trivial⟩
  rintro _ ⟨_, ⟨rs, rfl, hrs⟩, rfl⟩
  refine Yes.seq (I := fun e => ∃ (rs : List Int) (x y z : Option Slot), rs.Sublist (rngI 0 n) ∧ e = [some (.val (.hnd 0)), some (.val (.int n)), some (.val (.int w)), some (.val (.lst (rs.map .int))), x, y, z]) ?_ ?_
  · refine Yes.if_ (IntE.eq (IntE.var (P := fun _ => True) rfl trivial) (IntE.c (P := fun _ => True) trivial)) (fun _ => ?_) fun _ => fun s => ⟨_, s, rfl, _, rfl, rs, none, none, none, hrs, rfl⟩
    refine Yes.seq (IntE.set (i := 5) (P := fun v => 1 ≤ v ∧ v ≤ 14) (Yes.cal (args2 (P := (· = .hnd 0)) (Q := fun d => d = .lst (((rngI 1 (n + 1)).filter fun q => decide (n % q = 0)).map .int)) (fun s => ⟨_, s, rVar_run rfl, rfl⟩) ?_) ?_)) ?_
    · refine fun s => ⟨_, s, ?_, rfl⟩
      rw [cmp_run, iR2_run]
      have hl : (rngD 1 (n + 1)).length ≤ sizeLine := by rw [rngD_eq, List.length_map, rngI_length]; exact sz3 (by omega)
      simp only [aCons_run, rC_run, Res.bind_ok, bin_run, aNil_run]
      rw [rVar_run (i := 1) (d := .int n) rfl]
      simp only [Res.bind_ok, addD_int, a2_run, onInt_run, grd_run]
      rw [if_pos (by omega), pure_run, Res.bind_ok, if_pos hl, rngD_eq, calm_of (cmpL_ints (fun q => decide (n % q = 0)) (fun q => .int q) ?_ ?_)]
      · rfl
      · intro q hq
        have hq := mem_rngI.mp hq
        simp [wipeE, rVar_run]
        rw [if_pos (by omega)]
        simp
        rw [Bool.eq_iff_iff]; simp
      · intro q hq _
        exact rVar_run rfl
    · rintro _ ⟨_, _, rfl, rfl, rfl⟩
      have h1 : (1 : Int) ∈ (rngI 1 (n + 1)).filter fun q => decide (n % q = 0) := List.mem_filter.mpr ⟨mem_rngI.mpr (by omega), by simp⟩
      have hl : ((rngI 1 (n + 1)).filter fun q => decide (n % q = 0)).length ≤ 14 := Nat.le_trans (List.length_filter_le _ _) (by rw [rngI_length]; omega)
      refine Yes.mono (pick_ok cells ?_ ?_) fun d hd => ?_
      · rw [List.length_map]; exact List.length_pos_of_mem h1
      · rw [List.length_map]; omega
      · obtain ⟨q, hq, rfl⟩ := List.mem_map.mp hd
        have := mem_rngI.mp (List.mem_filter.mp hq).1
        exact ⟨q, rfl, by omega⟩
    rintro _ ⟨p, hp, rfl⟩
    refine Yes.mono (Yes.set (Yes.some_of (n := n) (by omega) (by omega) (IntE.var rfl rfl) (fun _ => rfl) fun x _ _ => Yes.mono (IntE.eq (IntE.op (R := fun _ => True) (IntE.int1 (IntE.var (P := fun _ => True) rfl trivial)) (IntE.var (P := (· = p)) rfl rfl) fun i j _ hj => ⟨by omega, trivial⟩) (take_in rfl (IntE.c rfl) (by decide) (by decide))) fun _ _ => trivial)) ?_
    rintro _ ⟨_, rfl, _, ⟨ts, rfl, hts⟩, rfl⟩
    exact ⟨_, rfl, ts, _, _, _, hts, rfl⟩
  rintro _ ⟨ts, x, y, z, hts, rfl⟩
  refine Yes.ret fun s => ⟨_, s, ?_, n, ts, rfl, hn.2, wf_sub hn.1 hts⟩
  simp [tupleD, sizeLine_eq]
end DL
set_option Elab.async false
set_option linter.all false
set_option maxRecDepth 100000
set_option maxHeartbeats 4000000
set_option autoImplicit false
/-! expressions that are a fixed datum: more of them; what repr is told of -/
namespace DL
open PySem PySem.Spec PyProof.Rows L2 Rh
section
variable {S : Type} {env : Env} {τ υ : Env → M S D} {i j k : Int} {x y z : D}
theorem Yes.det (h : Det τ env x) : Yes (τ env) (· = x) := fun s => ⟨x, s, h s, rfl⟩
theorem Yes.skip {t : Env → M S Bool} {a : Env → M S Flw} (h : DetT t env false) : Yes (sIf t a sNx env) fun f => ∃ e, f = .nx e ∧ e = env := fun s => ⟨_, s, h.skip s, env, rfl, rfl⟩
theorem Yes.seqSkip {t : Env → M S Bool} {a b : Env → M S Flw} {Q : Flw → Prop} (h : DetT t env false) (k : Yes (b env) Q) : Yes (sSeq (sIf t a sNx) b env) Q := Yes.seq (Yes.skip h) (by rintro _ rfl; exact k)
theorem Yes.seqSet {n : Nat} {b : Env → M S Flw} {Q : Flw → Prop} (h : Det τ env x) (k : Yes (b (env.set n (some (.val x)))) Q) : Yes (sSeq (sAsg τ (gNm n)) b env) Q := Yes.seq (Yes.set (Yes.det h)) (by rintro _ ⟨_, rfl, rfl⟩; exact k)
theorem Det.call1 {f : List D → M S D} (h : Det τ env x) (k : ∀ s, f [x] s = .ok z s) : Det (bcl f (aCons τ aNil)) env z := fun s => by
  rw [bcl_run, aCons_run, h s]; exact k s
theorem Det.call2 {f : List D → M S D} (h : Det τ env x) (h' : Det υ env y) (k : ∀ s, f [x, y] s = .ok z s) : Det (bcl f (aCons τ (aCons υ aNil))) env z := fun s => by
  rw [bcl_run, aCons_run, h s, Res.bind_ok, aCons_run, h' s]; exact k s
theorem Det.cal1 {f : List D → M S D} (h : Det τ env x) (k : ∀ s, f [x] s = .ok z s) : Det (cal f [] 1 (aCons τ aNil)) env z := fun s => by
  rw [cal_run, aCons_run, h s]; exact k s
theorem Det.cal2 {f : List D → M S D} (h : Det τ env x) (h' : Det υ env y) (k : ∀ s, f [x, y] s = .ok z s) : Det (cal f [] 2 (aCons τ (aCons υ aNil))) env z := fun s => by
  rw [cal_run, aCons_run, h s, Res.bind_ok, aCons_run, h' s]; exact k s
theorem Det.rng (h : Det τ env (.int j)) (hj : -(2 ^ 62) ≤ j ∧ j < 2 ^ 62) (s : S) : iR1 (aCons τ aNil) env s = .ok (rngD 0 j) s := by
  rw [iR1_run, aCons_run, h s]
  show (if -(2 ^ 62) ≤ j ∧ j < 2 ^ 62 then Res.ok (rngD 0 j) s else .stk) = _
  rw [if_pos hj]
theorem lstD_det {α : Env → M S (List D)} {ds : List D} (h : ∀ s, α env s = .ok ds s) (hl : ds.length ≤ 100 := by simp) : Det (lstD α) env (.lst ds) := fun s => by
  rw [lstD_run, h s, Res.bind_ok, if_pos (by rw [sizeLine_eq]; omega)]
theorem tupD_det {α : Env → M S (List D)} {ds : List D} (h : ∀ s, α env s = .ok ds s) (hl : ds.length ≤ 100 := by simp) : Det (tupD α) env (.tup ds) := fun s => by
  rw [tupD_run, h s, Res.bind_ok, if_pos (by rw [sizeLine_eq]; omega)]
theorem aNil_det (s : S) : (aNil : Env → M S (List D)) env s = .ok [] s := rfl
theorem aCons_det {α : Env → M S (List D)} {d : D} {ds : List D} (h : Det τ env d) (k : ∀ s, α env s = .ok ds s) (s : S) : aCons τ α env s = .ok (d :: ds) s := by
  rw [aCons_run, h s, Res.bind_ok, k s]; rfl
theorem Det.add (h : Det τ env (.int i)) (h' : Det υ env (.int j)) : Det (DL.bin addD τ υ) env (.int (i + j)) := Det.bin h h' fun s => addD_int
theorem Det.mul (h : Det τ env (.int i)) (h' : Det υ env (.int j)) (c : CMul i j) : Det (DL.bin mulD τ υ) env (.int (i * j)) := Det.bin h h' fun s => intOp_run.trans (if_pos c)
theorem Det.mod (h : Det τ env (.int i)) (h' : Det υ env (.int j)) (c : 0 < j) : Det (DL.bin modD τ υ) env (.int (i % j)) := Det.bin h h' fun s => intOp_run.trans (if_pos c)
theorem DetT.lt (h : Det τ env (.int i)) (h' : Det υ env (.int j)) : DetT (asT (bin ltD τ υ)) env (decide (i < j)) := DetT.as (Det.bin h h' fun s => rfl)
theorem DetT.eqI (h : Det τ env (.int i)) (h' : Det υ env (.int j)) : DetT (asT (bin (eqD false) τ υ)) env (decide (i = j)) := DetT.as (Det.bin h h' fun s => by
  rw [eqD_int]
  by_cases e : i = j <;> simp [e])
end
/-- repr is told of it, and is equal to itself -/
def Shw (item : D) : Prop := ∃ z : Str, ∀ s : DrS, (reprD [item] : M DrS D) s = .ok (.str z) s ∧ (eqD true (.str z) (.str z) : M DrS D) s = .ok (.bl false) s
theorem aCons_of {S : Type} {env : Env} {τ : Env → M S D} {α : Env → M S (List D)} {d : D} {ds : List D} {s s1 s2 : S} (h : τ env s = .ok d s1) (k : α env s1 = .ok ds s2) : aCons τ α env s = .ok (d :: ds) s2 := by
  rw [aCons_run, h, Res.bind_ok, k]; rfl
theorem lstD_of {S : Type} {env : Env} {α : Env → M S (List D)} {ds : List D} {s s1 : S} (h : α env s = .ok ds s1) (hl : ds.length ≤ 100) : lstD α env s = .ok (.lst ds) s1 := by
  rw [lstD_run, h, Res.bind_ok, if_pos (by rw [sizeLine_eq]; omega)]
theorem iSq_of {S : Type} {env : Env} {τ : Env → M S D} {ds : List D} {s s1 : S} (h : τ env s = .ok (.lst ds) s1) : iSq τ env s = .ok ds s1 := by
  rw [iSq_run, h]; rfl
theorem neq_of {S : Type} {env : Env} {f : List D → M S D} {τ υ : Env → M S D} {x : D} {z : Str} {s : S} (h : τ env s = .ok x s) (h' : υ env s = .ok x s) (k : f [x] s = .ok (.str z) s) (q : (eqD true (.str z) (.str z) : M S D) s = .ok (.bl false) s) : asT (bin (eqD true) (bcl f (aCons τ aNil)) (bcl f (aCons υ aNil))) env s = .ok false s := by
  have e1 : bcl f (aCons τ aNil) env s = .ok (.str z) s := by rw [bcl_run, aCons_run, h]; exact k
  have e2 : bcl f (aCons υ aNil) env s = .ok (.str z) s := by rw [bcl_run, aCons_run, h']; exact k
  rw [asT_run, bin_run, e1, Res.bind_ok, e2, Res.bind_ok, q]; rfl
theorem seq_of {S : Type} {env e : Env} {a b : Env → M S Flw} {s s1 : S} {r : Res S Flw} (h : a env s = .ok (.nx e) s1) (k : b e s1 = r) : sSeq a b env s = r := by
  rw [sSeq_run, h]; exact k
end DL
set_option Elab.async false
set_option linter.all false
set_option maxRecDepth 100000
set_option maxHeartbeats 4000000
set_option autoImplicit false
/-! more of fixed data -/
namespace DL
open PySem PySem.Spec PyProof.Rows L2 Rh
section
variable {S : Type} {env : Env} {cs : List Str} {s : S}
theorem tupD_of {α : Env → M S (List D)} {ds : List D} {s1 : S} (h : α env s = .ok ds s1) (hl : ds.length ≤ 100) : tupD α env s = .ok (.tup ds) s1 := by
  rw [tupD_run, h, Res.bind_ok, if_pos (by rw [sizeLine_eq]; omega)]
theorem call1_of {τ : Env → M S D} {f : List D → M S D} {x z : D} {s1 s2 : S} (h : τ env s = .ok x s1) (k : f [x] s1 = .ok z s2) : bcl f (aCons τ aNil) env s = .ok z s2 := by
  rw [bcl_run, aCons_run, h]; exact k
theorem ret_of {τ : Env → M S D} {d : D} {s1 : S} (h : τ env s = .ok d s1) : sRet τ env s = .ok (.rt d) s1 := by rw [sRet_run, h]; rfl
theorem iR2_of {α : Env → M S (List D)} {i j : Int} {s1 : S} (h : α env s = .ok [.int i, .int j] s1) (hb : -(2 ^ 62) ≤ i ∧ i < 2 ^ 62 ∧ -(2 ^ 62) ≤ j ∧ j < 2 ^ 62) : iR2 α env s = .ok (rngD i j) s1 := by
  rw [iR2_run, h, Res.bind_ok, a2_run, onInt_run, onInt_run, grd_run, if_pos hb]; rfl
theorem sortS_lst {ns : List Int} : (sortSD [.lst (ns.map .int)] : M S D) s = .ok (.lst ((srt ns).map .int)) s := sortD_ints
theorem sortS_tup {ns : List Int} : (sortSD [.tup (ns.map .int)] : M S D) s = .ok (.lst ((srt ns).map .int)) s := by
  show (match intsD (ns.map .int) with
    | some bs => pure (.lst ((srt bs).map D.int))
    | none => stk : M S D) s = _
  rw [intsD_of]; rfl
theorem eqD_lints {a b : List Int} : (eqD false (.lst (a.map .int)) (.lst (b.map .int)) : M S D) s = .ok (.bl (decide (a = b))) s := by
  have e : eqP (.lst (a.map .int)) (.lst (b.map .int)) = some (decide (a = b)) := by
    have p : ∀ a : List Int, pd (.lst (a.map .int)) = some (.list (a.map PyData.int)) := fun a => by
      show (pdL (a.map .int)).map PyData.list = _
      rw [pdL_ints]; rfl
    unfold eqP
    rw [p, p]
    show (if _ then some _ else none) = _
    rw [if_pos ⟨shaped_ints a, shaped_ints b⟩]
    show some (PyData.eqvAll (a.map PyData.int) (b.map PyData.int)) = _
    rw [eqv_ints]
  unfold eqD; rw [e]; rfl
end
end DL
set_option Elab.async false
set_option linter.all false
set_option maxRecDepth 100000
set_option maxHeartbeats 4000000
set_option autoImplicit false
/-! plain facts behind the laws' own helpers -/
namespace DL
open PySem PySem.Spec PyProof.Rows L2 Rh
/-! ### plain facts -/
theorem emod_up {a n : Int} (h0 : n ≤ a) (h1 : a < n + n) : a % n = a - n := by
  have e : (a - n + n) % n = (a - n) % n := Int.add_emod_right ..
  rw [Int.sub_add_cancel] at e
  rw [e, Int.emod_eq_of_lt (by omega) (by omega)]
theorem single_can {n x : Int} (h0 : 0 ≤ x) (h1 : x < n) : Can n [x] := by
  refine ⟨by omega, by simp; omega, by simp, fun m hm hp => ?_⟩
  have h := (hp x).mp (show x % n ∈ [x] by rw [Int.emod_eq_of_lt h0 h1]; simp)
  have h : (x + m) % n ∈ [x] := h
  have h2 : (x + m) % n = x := by simpa using h
  by_cases c : m < n
  · by_cases c2 : x + m < n
    · rw [Int.emod_eq_of_lt (by omega) c2] at h2; omega
    · rw [emod_up (by omega) (by omega)] at h2; omega
  · omega
/-- adding up, as the law does -/
def stepL (a b v : Int) : Int := if v % b = 0 then v else v + a
def iterL (a b : Int) : Nat → Int → Int
  | 0, v => v
  | k + 1, v => iterL a b k (stepL a b v)
theorem iterL_ok {a b : Int} (ha : 1 ≤ a) (hb : 1 ≤ b) : ∀ (k : Nat) (v : Int), a ∣ v → 1 ≤ v → v ≤ lcmI a b → iterL a b k v = lcmI a b ∨ (iterL a b k v = v + a * k ∧ v + a * k ≤ lcmI a b)
  | 0, v, _, _, h => .inr ⟨by simp [iterL], by simpa using h⟩
  | k + 1, v, h1, h0, h => by
    unfold iterL stepL
    by_cases c : v % b = 0
    · rw [if_pos c]
      have e : v = lcmI a b := Int.le_antisymm h (Int.le_of_dvd (by omega) (lcmI_least ha hb h0 h1 (Int.dvd_of_emod_eq_zero c)))
      have st : ∀ k : Nat, iterL a b k v = v := fun k => by
        induction k with
        | zero => rfl
        | succ k ih => unfold iterL stepL; rw [if_pos c]; exact ih
      left; rw [st, e]
    · rw [if_neg c]
      have hne : v ≠ lcmI a b := fun e => c (by rw [e]; exact Int.emod_eq_zero_of_dvd (lcmI_dvd_right ha hb))
      obtain ⟨p, hp⟩ := h1
      obtain ⟨q, hq⟩ := lcmI_dvd_left ha hb
      have hlt : v < lcmI a b := by omega
      have hpq : p < q := by
        rw [hp, hq] at hlt
        exact Int.lt_of_mul_lt_mul_left hlt (by omega)
      have hle : v + a ≤ lcmI a b := by
        rw [hp, hq]
        have : a * (p + 1) ≤ a * q := Int.mul_le_mul_of_nonneg_left (by omega) (by omega)
        rw [Int.mul_add, Int.mul_one] at this
        exact this
      have e2 : v + a + a * k = v + a * ((k + 1 : Nat) : Int) := by rw [show ((k + 1 : Nat) : Int) = (k : Int) + 1 from rfl, Int.mul_add, Int.mul_one]; omega
      rcases iterL_ok ha hb k (v + a) ⟨p + 1, by rw [Int.mul_add, Int.mul_one, hp]⟩ (by omega) hle with z | ⟨z, z2⟩
      · exact .inl z
      · right; rw [z, ← e2]; exact ⟨rfl, z2⟩
theorem iterL_lcm {a b : Int} (ha : 1 ≤ a) (hb : 1 ≤ b) : iterL a b b.toNat a = lcmI a b := by
  rcases iterL_ok ha hb b.toNat a (Int.dvd_refl a) ha (Int.le_of_dvd (by have := lcmI_pos ha hb; omega) (lcmI_dvd_left ha hb)) with z | ⟨_, z⟩
  · exact z
  · have h := lcmI_le ha hb
    rw [Int.toNat_of_nonneg (by omega)] at z
    omega
/-- the rests moved and sorted are the rests iff they repeat -/
theorem moved_iff {n q : Int} {rs : List Int} (w : Wf n rs) (h1 : 1 ≤ q) (h2 : q ≤ n) (h3 : n % q = 0) : (srt (rs.map fun r => (r + q) % n) = srt rs) ↔ rep n rs q = true := by
  rw [rep_iff]
  constructor
  · intro e r hr
    have : (r + q) % n ∈ srt (rs.map fun r => (r + q) % n) := mem_srt.mpr (List.mem_map.mpr ⟨r, hr, rfl⟩)
    rw [e] at this
    exact mem_srt.mp this
  · intro h
    have hp : q ∈ parts n rs := mem_parts.mpr ⟨h1, h2, h3, h⟩
    have per := per_of_part hp
    have nd : (rs.map fun r => (r + q) % n).Nodup := by
      refine List.pairwise_map.mpr (w.nd.imp_of_mem ?_)
      intro a b ha hb hne e
      have la := w.lt a ha
      have lb := w.lt b hb
      by_cases ca : a + q < n
      · by_cases cb : b + q < n
        · rw [Int.emod_eq_of_lt (by omega) ca, Int.emod_eq_of_lt (by omega) cb] at e; exact hne (by omega)
        · rw [Int.emod_eq_of_lt (by omega) ca, emod_up (by omega) (by omega)] at e; omega
      · by_cases cb : b + q < n
        · rw [emod_up (by omega) (by omega), Int.emod_eq_of_lt (by omega) cb] at e; omega
        · rw [emod_up (by omega) (by omega), emod_up (by omega) (by omega)] at e; exact hne (by omega)
    refine sorted_ext (srt_lt nd) (srt_lt w.nd) fun x => ?_
    rw [mem_srt, mem_srt]
    constructor
    · intro hx
      obtain ⟨r, hr, rfl⟩ := List.mem_map.mp hx
      exact h r hr
    · intro hx
      have lx := w.lt x hx
      have hh : has n rs ((x - q) + q) := by
        show ((x - q) + q) % n ∈ rs
        rw [Int.sub_add_cancel, Int.emod_eq_of_lt lx.1 lx.2]; exact hx
      have hm : (x - q) % n ∈ rs := (per (x - q)).mpr hh
      refine List.mem_map.mpr ⟨(x - q) % n, hm, ?_⟩
      rw [Int.emod_add_emod, Int.sub_add_cancel, Int.emod_eq_of_lt lx.1 lx.2]
theorem leastP_find {n : Int} {rs : List Int} (w : Wf n rs) : (rngI 1 (n + 1)).find? (fun q => decide (n % q = 0) && decide (srt (rs.map fun r => (r + q) % n) = srt rs)) = some (leastP n rs) := by
  have e : parts n rs = (rngI 1 (n + 1)).filter fun q => decide (n % q = 0) && decide (srt (rs.map fun r => (r + q) % n) = srt rs) := by
    unfold parts
    refine List.filter_congr fun q hq => ?_
    have hq := mem_rngI.mp hq
    by_cases c : n % q = 0
    · rw [decide_eq_true c, Bool.true_and, Bool.true_and, Bool.eq_iff_iff, decide_eq_true_iff]
      exact (moved_iff w (by omega) (by omega) c).symm
    · rw [decide_eq_false c, Bool.false_and, Bool.false_and]
  rw [← List.head?_filter, ← e]
  have hm := n_mem_parts w
  unfold leastP
  cases hp : parts n rs with
  | nil => rw [hp] at hm; cases hm
  | cons a r => rfl
end DL
set_option Elab.async false
set_option linter.all false
set_option maxRecDepth 100000
set_option maxHeartbeats 4000000
set_option autoImplicit false
/-! what repr is told of -/
namespace DL
open PySem PySem.Spec PyProof.Rows L2 Rh
theorem strOk_of (x : String) : PyData.strOk (Str.ofString x) = true := by
  unfold PyData.strOk
  rw [Str.ofString_eq_toList, List.all_toArray, List.all_eq_true]
  intro c hc
  obtain ⟨ch, _, rfl⟩ := List.mem_map.mp hc
  have := ch.valid
  simp only [UInt32.isValidChar, Nat.isValidChar] at this
  have e : ch.toNat = ch.val.toNat := rfl
  simp only [decide_eq_true_eq]
  omega
theorem strOk_app {a b : Str} (ha : PyData.strOk a = true) (hb : PyData.strOk b = true) : PyData.strOk (a ++ b) = true := by
  unfold PyData.strOk at *
  show (a.cps ++ b.cps).all _ = true
  rw [Array.all_append, ha, hb]; rfl
theorem strOk_from : ∀ (ts : List Str) (k : Nat) (acc : Str), PyData.strOk acc = true → (∀ t ∈ ts, PyData.strOk t = true) → PyData.strOk (textFrom k acc ts) = true
  | [], _, _, h, _ => h
  | t :: ts, k, acc, h, ht => strOk_from ts (k + 1) _ (strOk_app (strOk_app h (strOk_of _)) (ht t List.mem_cons_self)) fun u hu => ht u (List.mem_cons_of_mem _ hu)
theorem strOk_list {ts : List Str} (ht : ∀ t ∈ ts, PyData.strOk t = true) : PyData.strOk (listText ts) = true := strOk_app (strOk_from ts 0 _ (strOk_of _) ht) (strOk_of _)
theorem shaped_str {x : Str} (h : PyData.strOk x = true) : SeqAt.shaped (.str x) = true := by
  simp only [SeqAt.shaped, PyData.canLay0, h, Bool.true_and]
  rfl
theorem int_small {a : Int} (h : a.natAbs < 10 ^ 12) : a.natAbs.log2 < 1920 := by
  by_cases h0 : a.natAbs = 0
  · rw [h0]; decide
  · exact (Nat.log2_lt h0).mpr (Nat.lt_trans h (by decide))
theorem DetT.same {env : Env} {τ υ : Env → M DrS D} {x : D} (hx : Shw x) (h : Det τ env x) (h' : Det υ env x) : DetT (asT (bin (eqD true) (bcl reprD (aCons τ aNil)) (bcl reprD (aCons υ aNil)))) env false := fun s => by
  obtain ⟨z, hz⟩ := hx
  exact neq_of (h s) (h' s) (hz s).1 (hz s).2
end DL
set_option Elab.async false
set_option linter.all false
set_option maxRecDepth 100000
set_option maxHeartbeats 4000000
set_option autoImplicit false
/-! printed by tools/k10.py: the readings of scripts.py as k10 reaches it -/
namespace DL
open PySem PySem.Spec PyProof.Rows L2 Rh
end DL
set_option Elab.async false
set_option linter.all false
set_option maxRecDepth 100000
set_option maxHeartbeats 4000000
set_option autoImplicit false
/-! what scripts.py is worth: steps, fates, rounds -/
namespace DL
open PySem PySem.Spec PyProof.Rows L2 Rh
/-- a plain step -/
inductive Pl where
  | shift (n : Int) | frm (n : Int) | unt (n : Int) | keep (p : Int) (rs : List Int) | strike (p : Int) (rs : List Int)
inductive Stp where
  | pl (x : Pl) | add (p : Int) (rs : List Int) (a : Int) (b : Option Int) | since (n : Int) (xs : List Pl)
def Pl.go : Pl → Int → Option Int
  | .shift n, d => some (d + n)
  | .frm n, d => if n ≤ d then some d else none
  | .unt n, d => if d ≤ n then some d else none
  | .keep p rs, d => if d % p ∈ rs then some d else none
  | .strike p rs, d => if d % p ∈ rs then none else some d
def gos {T : Type} (g : T → Int → Option Int) : List T → Option Int → Option Int
  | [], o => o
  | x :: xs, o => gos g xs (o.bind (g x))
abbrev goPs : List Pl → Option Int → Option Int := gos Pl.go
def Stp.go : Stp → Int → Option Int
  | .pl x, d => x.go d
  | .add _ _ _ _, d => some d
  | .since n xs, d => if n ≤ d then goPs xs (some d) else some d
section
variable {S : Type} {s : S} {cs : List Str}
theorem runB_rt {rd : Env → M S Flw} {N : List Str} {ds : List D} {d : D} {s' : S} (h : rd (startE N ds) s = .ok (.rt d) s') : runB rd N ds s = .ok d s' := by unfold runB; rw [h]
end
end DL
set_option Elab.async false
set_option linter.all false
set_option maxRecDepth 100000
set_option maxHeartbeats 4000000
set_option autoImplicit false
/-! plain data: what == and repr are told of -/
namespace DL
open PySem PySem.Spec PyProof.Rows L2 Rh
def Pln (d : D) (dep wt : Nat) : Prop := ∃ a, pd d = some a ∧ a.canLay0 = true ∧ a.intsShort 13 = true ∧ a.showable = true ∧ PyData.strOk a.shown = true ∧ a.depth ≤ dep ∧ a.weight ≤ wt
def PlnL (ds : List D) (dep wt : Nat) : Prop := ∃ as, pdL ds = some as ∧ PyData.canLayAll0 as = true ∧ PyData.intsShortAll 13 as = true ∧ PyData.showableAll as = true ∧ (∀ t ∈ PyData.shownAll as, PyData.strOk t = true) ∧ PyData.depthAll as ≤ dep ∧ PyData.weightAll as ≤ wt
theorem Pln.mono {d : D} {a b a' b' : Nat} (h : Pln d a b) (ha : a ≤ a') (hb : b ≤ b') : Pln d a' b' := by
  obtain ⟨x, h1, h2, h3, h4, h5, h6, h7⟩ := h
  exact ⟨x, h1, h2, h3, h4, h5, by omega, by omega⟩
theorem PlnL.mono {ds : List D} {a b a' b' : Nat} (h : PlnL ds a b) (ha : a ≤ a') (hb : b ≤ b') : PlnL ds a' b' := by
  obtain ⟨x, h1, h2, h3, h4, h5, h6, h7⟩ := h
  exact ⟨x, h1, h2, h3, h4, h5, by omega, by omega⟩
theorem Pln.non : Pln .non 0 0 := ⟨.none, rfl, rfl, rfl, rfl, strOk_of "None", Nat.le_refl _, Nat.le_refl _⟩
theorem Pln.bl {b : Bool} : Pln (.bl b) 0 0 := ⟨.bool b, rfl, rfl, rfl, rfl, by cases b; exact strOk_of "False"; exact strOk_of "True", Nat.le_refl _, Nat.le_refl _⟩
theorem log_small {i : Int} (h : i.natAbs < 10 ^ 12) : (PyData.int i).weight ≤ 40 := by
  show (if i == 0 then 0 else i.natAbs.log2 + 1) ≤ 40
  split
  · omega
  · rename_i c
    have h0 : i.natAbs ≠ 0 := fun z => c (by simp; omega)
    have : i.natAbs.log2 < 40 := (Nat.log2_lt h0).mpr (Nat.lt_trans h (by decide))
    omega
theorem Pln.int {i : Int} (h : i.natAbs < 10 ^ 12) : Pln (.int i) 0 40 := ⟨.int i, rfl, rfl, by
  show decide _ = true
  exact decide_eq_true (PyData.shown_int_le h), by
  show decide _ = true
  exact decide_eq_true (int_small h), strOk_of _, Nat.le_refl _, log_small h⟩
theorem Pln.str {x : Str} (h : PyData.strOk x = true) (h' : PyData.strOk (reprText x) = true) : Pln (.str x) 0 x.cps.size := ⟨.str x, rfl, h, rfl, rfl, h', Nat.le_refl _, Nat.le_refl _⟩
theorem PlnL.nil {dep : Nat} : PlnL [] dep 0 := ⟨[], rfl, rfl, rfl, rfl, by simp [PyData.shownAll], Nat.zero_le _, Nat.le_refl _⟩
theorem PlnL.cons {d : D} {ds : List D} {a w w' : Nat} (h : Pln d a w) (k : PlnL ds a w') : PlnL (d :: ds) a (w + 1 + w') := by
  obtain ⟨x, h1, h2, h3, h4, h5, h6, h7⟩ := h
  obtain ⟨xs, k1, k2, k3, k4, k5, k6, k7⟩ := k
  refine ⟨x :: xs, by simp only [pdL, h1, k1], by simp only [PyData.canLayAll0, h2, k2, Bool.and_self], by simp only [PyData.intsShortAll, h3, k3, Bool.and_self], by simp only [PyData.showableAll, h4, k4, Bool.and_self], ?_, ?_, ?_⟩
  · intro t ht
    rcases List.mem_cons.mp (show t ∈ x.shown :: PyData.shownAll xs from ht) with rfl | ht
    · exact h5
    · exact k5 t ht
  · show max x.depth (PyData.depthAll xs) ≤ a
    omega
  · show x.weight + 1 + PyData.weightAll xs ≤ _
    omega
theorem PlnL.map {T : Type} {f : T → D} {a w : Nat} : ∀ {xs : List T}, (∀ x ∈ xs, Pln (f x) a w) → PlnL (xs.map f) a ((w + 1) * xs.length)
  | [], _ => PlnL.nil
  | x :: xs, h => by
    have ih := PlnL.map (xs := xs) fun y hy => h y (List.mem_cons_of_mem _ hy)
    have := PlnL.cons (h x List.mem_cons_self) ih
    rw [List.length_cons, Nat.mul_succ]
    exact this.mono (Nat.le_refl _) (by omega)
theorem PlnL.all {a w : Nat} {ds : List D} (h : ∀ d ∈ ds, Pln d a w) : PlnL ds a ((w + 1) * ds.length) := by
  have := PlnL.map (f := id) (xs := ds) h
  rw [List.map_id] at this
  exact this
theorem PlnL.append {ds es : List D} {a w w' : Nat} (h : PlnL ds a w) (k : PlnL es a w') : PlnL (ds ++ es) a (w + w') := by
  obtain ⟨xs, h1, h2, h3, h4, h5, h6, h7⟩ := h
  induction ds generalizing xs w with
  | nil => cases h1; exact k.mono (Nat.le_refl _) (by omega)
  | cons d ds ih =>
    unfold pdL at h1
    cases hd : pd d with
    | none => rw [hd] at h1; cases h1
    | some x =>
      cases hs : pdL ds with
      | none => rw [hd, hs] at h1; cases h1
      | some ys =>
        rw [hd, hs] at h1
        cases h1
        simp only [PyData.canLayAll0, PyData.intsShortAll, PyData.showableAll, Bool.and_eq_true] at h2 h3 h4
        have h6 : max x.depth (PyData.depthAll ys) ≤ a := h6
        have h7 : x.weight + 1 + PyData.weightAll ys ≤ w := h7
        have := PlnL.cons (d := d) (a := a) (w := x.weight) ⟨x, hd, h2.1, h3.1, h4.1, h5 _ List.mem_cons_self, by omega, Nat.le_refl _⟩ (ih (w := PyData.weightAll ys) ys hs h2.2 h3.2 h4.2 (fun t ht => h5 t (List.mem_cons_of_mem _ ht)) (by omega) (Nat.le_refl _))
        exact this.mono (Nat.le_refl _) (by omega)
theorem strOk_join : ∀ {ts : List Str}, (∀ t ∈ ts, PyData.strOk t = true) → PyData.strOk (Str.join ", " ts) = true
  | [], _ => strOk_of ""
  | [x], h => h x List.mem_cons_self
  | x :: y :: r, h => by
    show PyData.strOk (x ++ ", " ++ Str.join ", " (y :: r)) = true
    exact strOk_app (strOk_app (h x List.mem_cons_self) (strOk_of _)) (strOk_join fun t ht => h t (List.mem_cons_of_mem _ ht))
theorem strOk_tup {ts : List Str} (h : ∀ t ∈ ts, PyData.strOk t = true) : PyData.strOk (tupleText ts) = true := strOk_app (strOk_app (strOk_of _) (strOk_join h)) (strOk_of _)
theorem Pln.lst {ds : List D} {a w : Nat} (h : PlnL ds a w) : Pln (.lst ds) (a + 1) w := by
  obtain ⟨xs, h1, h2, h3, h4, h5, h6, h7⟩ := h
  refine ⟨.list xs, ?_, h2, h3, h4, strOk_list h5, ?_, h7⟩
  · show (pdL ds).map PyData.list = _
    rw [h1]; rfl
  · show PyData.depthAll xs + 1 ≤ a + 1
    omega
theorem Pln.tup {ds : List D} {a w : Nat} (h : PlnL ds a w) : Pln (.tup ds) (a + 1) w := by
  obtain ⟨xs, h1, h2, h3, h4, h5, h6, h7⟩ := h
  refine ⟨.tuple xs, ?_, h2, h3, h4, strOk_tup h5, ?_, h7⟩
  · show (pdL ds).map PyData.tuple = _
    rw [h1]; rfl
  · show PyData.depthAll xs + 1 ≤ a + 1
    omega
section
variable {S : Type} {s : S} {env : Env}
theorem Pln.eq {d : D} {a w : Nat} (h : Pln d a w) (ha : a ≤ 64) {neg : Bool} : (eqD neg d d : M S D) s = .ok (.bl (!neg)) s := by
  obtain ⟨x, h1, h2, h3, h4, h5, h6, h7⟩ := h
  have hs : SeqAt.shaped x = true := by
    unfold SeqAt.shaped
    rw [h2, decide_eq_true (by omega)]; rfl
  have e : eqP d d = some true := by
    unfold eqP
    rw [h1]
    show (if _ then some _ else none) = _
    rw [if_pos ⟨hs, hs⟩, SeqAt.eqv_refl x h2]
  unfold eqD; rw [e]; cases neg <;> rfl
theorem Pln.shw {d : D} {a w : Nat} (h : Pln d a w) (ha : a ≤ 64) (hw : w ≤ 2 ^ 20) : Shw d := by
  obtain ⟨x, h1, h2, h3, h4, h5, h6, h7⟩ := h
  have hf : x.shown.length ≤ sizeLine := PyData.shown_fits (B := 13) (by decide) (by decide) (PyData.leavesShort_of_canLay0 13 x h2 h3) (by omega)
  have hsd : shwD d = some x := by
    cases d <;> first | exact h1 | cases h1
  refine ⟨x.shown, fun s => ⟨?_, ?_⟩⟩
  · show (match shwD d with
      | some a => grd (a.showable = true ∧ a.depth ≤ 64 ∧ a.shown.length ≤ sizeLine) (pure (.str a.shown))
      | none => stk : M DrS D) s = _
    rw [hsd]
    show (grd (x.showable = true ∧ x.depth ≤ 64 ∧ x.shown.length ≤ sizeLine) (pure (.str x.shown)) : M DrS D) s = _
    rw [grd_pos ⟨h4, by omega, hf⟩]; rfl
  · have e : eqP (.str x.shown) (.str x.shown) = some true := by
      show (if SeqAt.shaped (.str x.shown) = true ∧ SeqAt.shaped (.str x.shown) = true then some (PyData.eqv (.str x.shown) (.str x.shown)) else none) = _
      rw [if_pos ⟨shaped_str h5, shaped_str h5⟩]
      simp only [PyData.eqv, beq_self_eq_true]
    unfold eqD; rw [e]; rfl
end
end DL
set_option Elab.async false
set_option linter.all false
set_option maxRecDepth 100000
set_option maxHeartbeats 4000000
set_option autoImplicit false
/-! scripts that are made -/
namespace DL
open PySem PySem.Spec PyProof.Rows L2 Rh
def small (n : Int) : Prop := -100 ≤ n ∧ n ≤ 100
instance (n : Int) : Decidable (small n) := by unfold small; exact inferInstance
def Pl.wf : Pl → Prop
  | .shift n => small n
  | .frm n => small n
  | .unt n => small n
  | .keep p rs => Wf p rs
  | .strike p rs => Wf p rs
def optOk : Option Int → Prop
  | none => True
  | some n => small n
def Stp.wf : Stp → Prop
  | .pl x => x.wf
  | .add p rs a b => Wf p rs ∧ small a ∧ optOk b
  | .since n xs => small n ∧ xs ≠ [] ∧ ∀ x ∈ xs, x.wf
end DL
set_option Elab.async false
set_option linter.all false
set_option maxRecDepth 100000
set_option maxHeartbeats 4000000
set_option autoImplicit false
/-! scripts that are made: their steps counted, their round -/
namespace DL
open PySem PySem.Spec PyProof.Rows L2 Rh
end DL
set_option Elab.async false
set_option linter.all false
set_option maxRecDepth 100000
set_option maxHeartbeats 4000000
set_option autoImplicit false
/-! scripts that are made: rounds, Script(..) -/
namespace DL
open PySem PySem.Spec PyProof.Rows L2 Rh
end DL
set_option Elab.async false
set_option linter.all false
set_option maxRecDepth 100000
set_option maxHeartbeats 4000000
set_option autoImplicit false
/-! steps of a run, one by one -/
namespace DL
open PySem PySem.Spec PyProof.Rows L2 Rh
section
variable {S : Type} {env e : Env} {s s1 s2 : S} {t : Env → M S Bool} {a b : Env → M S Flw} {τ υ : Env → M S D} {r : Res S Flw} {d : D}
theorem asg_of {i : Nat} (h : τ env s = .ok d s1) : sAsg τ (gNm i) env s = .ok (.nx (env.set i (some (.val d)))) s1 := by rw [sAsg_run, h]; rfl
theorem seq_asg {i : Nat} (h : τ env s = .ok d s1) (k : b (env.set i (some (.val d))) s1 = r) : sSeq (sAsg τ (gNm i)) b env s = r := seq_of (asg_of h) k
theorem asT_of {b : Bool} (h : τ env s = .ok (.bl b) s1) : asT τ env s = .ok b s1 := by rw [asT_run, h]; rfl
theorem bin_of {f : D → D → M S D} {x y : D} {q : Res S D} (h : τ env s = .ok x s1) (h' : υ env s1 = .ok y s2) (k : f x y s2 = q) : bin f τ υ env s = q := by rw [bin_run, h, Res.bind_ok, h', Res.bind_ok, k]
theorem isi_of1 {tb : Str → Option Bool} {x : D} {q : Res S D} (h : τ env s = .ok x s1) (k : isiD tb x s1 = q) : isi tb τ env s = q := by rw [isi_run, h, Res.bind_ok, k]
theorem cmp_of {own : List Nat} {ι : Env → M S (List D)} {γ : D → Env → M S Env} {xs ys : List D} (h : ι env s = .ok xs s1) (hl : xs.length ≤ sizeLine) (k : cmpL γ t τ (wipeE env own) xs s1 = .ok ys s2) : cmp own ι γ t τ env s = .ok (.lst ys) s2 := by
  rw [cmp_run, h, Res.bind_ok, if_pos hl, calm_of k]; rfl
end
end DL
set_option Elab.async false
set_option linter.all false
set_option maxRecDepth 100000
set_option maxHeartbeats 4000000
set_option autoImplicit false
/-! lcm, least of the law (as in LsHlp, the least form told whole), is_made, the operators that raise -/
namespace DL
open PySem PySem.Spec PyProof.Rows L2 Rh
section
variable {S : Type} {env : Env} {cs : List Str} {s : S}
/-! ### adding up -/
theorem lcm_loop {a b : Int} (hb : 0 < b) : ∀ (xs : List D) (v : Int) (x3 : Option Slot), ∃ y3, forL (gNm 3) (sIf (asT (bin (eqD true) (bin modD (rVar 2) (rVar 1)) (rC (.int 0)))) (sAsg (bin addD (rVar 2) (rVar 0)) (gNm 2)) sNx) xs [some (.val (.int a)), some (.val (.int b)), some (.val (.int v)), x3] s = .ok (.nx [some (.val (.int a)), some (.val (.int b)), some (.val (.int (iterL a b xs.length v))), y3]) s
  | [], v, x3 => ⟨x3, rfl⟩
  | x :: xs, v, x3 => by
    obtain ⟨y3, ih⟩ := lcm_loop hb xs (stepL a b v) (some (.val x))
    refine ⟨y3, ?_⟩
    have e : (sIf (asT (bin (eqD true) (bin modD (rVar 2) (rVar 1)) (rC (.int 0)))) (sAsg (bin addD (rVar 2) (rVar 0)) (gNm 2)) sNx : Env → M S Flw) [some (.val (.int a)), some (.val (.int b)), some (.val (.int v)), some (.val x)] s = .ok (.nx [some (.val (.int a)), some (.val (.int b)), some (.val (.int (stepL a b v))), some (.val x)]) s := by
      have em : (bin modD (rVar 2) (rVar 1) : Env → M S D) [some (.val (.int a)), some (.val (.int b)), some (.val (.int v)), some (.val x)] s = .ok (.int (v % b)) s := Det.mod (Det.var rfl) (Det.var rfl) hb s
      rw [sIf_run, asT_run, bin_run, em, Res.bind_ok, rC_run, Res.bind_ok, eqD_int]
      unfold stepL
      by_cases c : v % b = 0
      · rw [if_pos c, c]; rfl
      · rw [if_neg c]
        have : (v % b == 0) = false := by simpa using c
        simp only [this, if_true, Bool.not_false, Res.bind_ok]
        rfl
    show ((sIf _ _ _ : Env → M S Flw) [some (.val (.int a)), some (.val (.int b)), some (.val (.int v)), some (.val x)] s).bind _ = _
    rw [e]
    exact ih
theorem lcm_run {a b : Int} (ha : 1 ≤ a) (hb : 1 ≤ b) (hb2 : b < 1000000) : (sem__law_lcm [.int a, .int b] : M S D) s = .ok (.int (lcmI a b)) s := by
  refine runB_rt ?_
  show rd__law_lcm [some (.val (.int a)), some (.val (.int b)), none, none] s = _
  refine seq_of (e := [some (.val (.int a)), some (.val (.int b)), some (.val (.int a)), none]) (s1 := s) rfl ?_
  obtain ⟨y3, e⟩ := lcm_loop (S := S) (s := s) (a := a) (b := b) (by omega) (rngD 0 b) a none
  have hl : (rngD 0 b).length = b.toNat := by rw [rngD_eq, List.length_map, rngI_length]; omega
  rw [hl, iterL_lcm ha hb] at e
  refine seq_of (e := [some (.val (.int a)), some (.val (.int b)), some (.val (.int (lcmI a b))), y3]) (s1 := s) ?_ rfl
  rw [sFor_run, Det.rng (Det.var rfl) (by omega) s]
  exact e
/-! ### the least round, as the law looks for it -/
abbrev EnL (h : D) (n : Int) (rs : List Int) (x3 x4 x5 : Option Slot) : Env := [some (.val h), some (.val (.int n)), some (.val (.tup (rs.map .int))), x3, x4, x5]
theorem moved_det {h : D} {n q : Int} {rs : List Int} {x4 x5 : Option Slot} (hn : 0 < n) (hl : rs.length ≤ 3000) : Det (S := S) (bcl sortSD (aCons (cmp [5] (iSq (rVar 2)) (gNm 5) tYs (bin modD (bcl int1D (aCons (bin addD (rVar 5) (rVar 3)) aNil)) (rVar 1))) aNil)) (EnL h n rs (some (.val (.int q))) x4 x5) (.lst ((srt (rs.map fun r => (r + q) % n)).map .int)) := by
  refine Det.call1 (x := .lst ((rs.map fun r => (r + q) % n).map .int)) (fun s => ?_) fun s => sortS_lst
  have hl' : (rs.map D.int).length ≤ sizeLine := by rw [List.length_map]; exact sz3 hl
  rw [cmp_run, iSq_run, rVar_run (d := .tup (rs.map .int)) rfl]
  show (if (rs.map D.int).length ≤ sizeLine then _ else _) = _
  rw [if_pos hl', calm_of (cmpL_intsM (fun r => .int ((r + q) % n)) fun r hr => ?_)]
  · rw [List.map_map]; rfl
  · exact Det.mod (Det.call1 (x := .int (r + q)) (Det.add (Det.var rfl) (Det.var rfl)) fun s => rfl) (Det.var rfl) hn s
theorem least_loop {h : D} {n : Int} {rs : List Int} (hn : 0 < n) (hl : rs.length ≤ 3000) : ∀ (xs : List Int) (p : Int) (x3 x4 : Option Slot), (∀ q ∈ xs, 1 ≤ q) → xs.find? (fun q => decide (n % q = 0) && decide (srt (rs.map fun r => (r + q) % n) = srt rs)) = some p →
    forL (gNm 3) (sSeq (sAsg (bcl sortSD (aCons (cmp [5] (iSq (rVar 2)) (gNm 5) tYs (bin modD (bcl int1D (aCons (bin addD (rVar 5) (rVar 3)) aNil)) (rVar 1))) aNil)) (gNm 4)) (sIf (andT (asT (bin (eqD false) (bin modD (rVar 1) (rVar 3)) (rC (.int 0)))) (asT (bin (eqD false) (rVar 4) (bcl sortSD (aCons (rVar 2) aNil))))) (sRet (tupD (aCons (rVar 3) (aCons (bcl tupleD (aCons (cmp [5] (iSq (bcl sortSD (aCons (rVar 2) aNil))) (gNm 5) (asT (bin ltD (rVar 5) (rVar 3))) (rVar 5)) aNil)) aNil)))) sNx)) (xs.map .int) (EnL h n rs x3 x4 none) s = .ok (.rt (.tup [.int p, .tup (((srt rs).filter fun r => decide (r < p)).map .int)])) s
  | [], p, x3, x4, _, hf => by cases hf
  | q :: xs, p, x3, x4, h1, hf => by
    have hq := h1 q List.mem_cons_self
    have e1 : DetT (S := S) (asT (bin (eqD false) (bin modD (rVar 1) (rVar 3)) (rC (.int 0)))) (EnL h n rs (some (.val (.int q))) (some (.val (.lst ((srt (rs.map fun r => (r + q) % n)).map .int)))) none) (decide (n % q = 0)) := DetT.eqI (Det.mod (Det.var rfl) (Det.var rfl) (by omega)) Det.c
    have e2 : DetT (S := S) (asT (bin (eqD false) (rVar 4) (bcl sortSD (aCons (rVar 2) aNil)))) (EnL h n rs (some (.val (.int q))) (some (.val (.lst ((srt (rs.map fun r => (r + q) % n)).map .int)))) none) (decide (srt (rs.map fun r => (r + q) % n) = srt rs)) :=
      DetT.as (Det.bin (Det.var rfl) (Det.call1 (x := .tup (rs.map .int)) (Det.var rfl) fun s => sortS_tup) fun s => eqD_lints)
    have e3 : (andT (asT (bin (eqD false) (bin modD (rVar 1) (rVar 3)) (rC (.int 0)))) (asT (bin (eqD false) (rVar 4) (bcl sortSD (aCons (rVar 2) aNil)))) : Env → M S Bool) (EnL h n rs (some (.val (.int q))) (some (.val (.lst ((srt (rs.map fun r => (r + q) % n)).map .int)))) none) s = .ok (decide (n % q = 0) && decide (srt (rs.map fun r => (r + q) % n) = srt rs)) s := by
      rw [andT_run, e1 s, Res.bind_ok]
      cases decide (n % q = 0) with
      | true => rw [if_pos rfl, e2 s, Bool.true_and]
      | false => rfl
    have em := moved_det (S := S) (h := h) (n := n) (q := q) (rs := rs) (x4 := x4) (x5 := none) hn hl s
    cases ct : (decide (n % q = 0) && decide (srt (rs.map fun r => (r + q) % n) = srt rs)) with
    | true =>
      rw [List.find?_cons, ct] at hf
      cases hf
      have hl' : ((srt rs).map D.int).length ≤ sizeLine := by rw [List.length_map, (srt_perm rs).length_eq]; exact sz3 hl
      have ec : (cmp [5] (iSq (bcl sortSD (aCons (rVar 2) aNil))) (gNm 5) (asT (bin ltD (rVar 5) (rVar 3))) (rVar 5) : Env → M S D) (EnL h n rs (some (.val (.int q))) (some (.val (.lst ((srt (rs.map fun r => (r + q) % n)).map .int)))) none) s = .ok (.lst (((srt rs).filter fun r => decide (r < q)).map .int)) s := by
        rw [cmp_run, iSq_run, Det.call1 (x := .tup (rs.map .int)) (z := .lst ((srt rs).map .int)) (Det.var rfl) (fun s => sortS_tup) s]
        show (if ((srt rs).map D.int).length ≤ sizeLine then _ else _) = _
        rw [if_pos hl', calm_of (cmpL_ints (fun r => decide (r < q)) (fun r => .int r) (fun r _ => ?_) fun r _ _ => ?_)]
        · rfl
        · exact DetT.lt (Det.var rfl) (Det.var rfl) s
        · exact Det.var (S := S) rfl s
      show ((sSeq _ _ : Env → M S Flw) (EnL h n rs (some (.val (.int q))) x4 none) s).bind _ = _
      rw [seq_of (e := EnL h n rs (some (.val (.int q))) (some (.val (.lst ((srt (rs.map fun r => (r + q) % n)).map .int)))) none) (s1 := s) (r := .ok (.rt (.tup [.int q, .tup (((srt rs).filter fun r => decide (r < q)).map .int)])) s) (by rw [sAsg_run, em]; rfl) ?_]
      · rfl
      · rw [sIf_run, e3, ct]
        show (sRet _ _ s) = _
        exact ret_of (tupD_of (aCons_of (rVar_run rfl) (aCons_of (call1_of ec rfl) rfl)) (by simp))
    | false =>
      rw [List.find?_cons, ct] at hf
      have ih := least_loop (h := h) hn hl xs p (some (.val (.int q))) (some (.val (.lst ((srt (rs.map fun r => (r + q) % n)).map .int)))) (fun q hq => h1 q (List.mem_cons_of_mem _ hq)) hf
      show ((sSeq _ _ : Env → M S Flw) (EnL h n rs (some (.val (.int q))) x4 none) s).bind _ = _
      rw [seq_of (e := EnL h n rs (some (.val (.int q))) (some (.val (.lst ((srt (rs.map fun r => (r + q) % n)).map .int)))) none) (s1 := s) (r := .ok (.nx (EnL h n rs (some (.val (.int q))) (some (.val (.lst ((srt (rs.map fun r => (r + q) % n)).map .int)))) none)) s) (by rw [sAsg_run, em]; rfl) ?_]
      · exact ih
      · rw [sIf_run, e3, ct]; rfl
theorem least_run {n : Int} {rs : List Int} (w : Wf n rs) (hn : n ≤ 3000) : (sem__law_least [.tup [.int n, .tup (rs.map .int)]] : M S D) s = .ok (.tup [.int (leastP n rs), .tup ((formR n rs).map .int)]) s := by
  have hp := w.pos
  have hl : rs.length ≤ 3000 := Nat.le_trans (wf_len w) (by omega)
  have e := least_loop (S := S) (s := s) (h := .tup [.int n, .tup (rs.map .int)]) (n := n) (rs := rs) (by omega) hl (rngI 1 (n + 1)) (leastP n rs) none none (fun q hq => (mem_rngI.mp hq).1) (leastP_find w)
  refine runB_rt ?_
  show rd__law_least [some (.val (.tup [.int n, .tup (rs.map .int)])), none, none, none, none, none] s = _
  refine seq_of (e := EnL (.tup [.int n, .tup (rs.map .int)]) n rs none none none) (s1 := s) rfl ?_
  have er : (iR2 (aCons (rC (.int 1)) (aCons (bin addD (rVar 1) (rC (.int 1))) aNil)) : Env → M S (List D)) (EnL (.tup [.int n, .tup (rs.map .int)]) n rs none none none) s = .ok (rngD 1 (n + 1)) s := iR2_of (aCons_det Det.c (aCons_det (Det.add (i := n) (j := 1) (Det.var rfl) Det.c) aNil_det) s) (by omega)
  rw [sSeq_run, sFor_run, er, Res.bind_ok, rngD_eq, e]
  rfl
end
/-! ### what repr is told of -/
theorem pln_form {p : Int} {rs : List Int} (hp : 1 ≤ p ∧ p ≤ 3000) (hr : Wf p rs) (hl : rs.length ≤ 3000) : PlnL [.int p, .tup (rs.map .int)] 1 200000 := by
  have h1 : Pln (.int p) 1 40 := (Pln.int (by omega)).mono (by omega) (by omega)
  have h2 : Pln (.tup (rs.map .int)) 1 (41 * rs.length) := Pln.tup (PlnL.map (f := D.int) fun x hx => Pln.int (by have := hr.lt x hx; omega))
  exact (PlnL.cons h1 (PlnL.cons h2 PlnL.nil)).mono (by omega) (by omega)
theorem shw_form {p : Int} {rs : List Int} (hp : 1 ≤ p ∧ p ≤ 3000) (hr : Wf p rs) (hl : rs.length ≤ 3000) : Shw (.lst [.int p, .tup (rs.map .int)]) := Pln.shw (Pln.lst (pln_form hp hr hl)) (by decide) (by decide)
theorem shw_form2 {p q : Int} {rs ts : List Int} (hp : 1 ≤ p ∧ p ≤ 3000) (hr : Wf p rs) (hl : rs.length ≤ 3000) (hq : 1 ≤ q ∧ q ≤ 3000) (ht : Wf q ts) (hl' : ts.length ≤ 3000) : Shw (.lst [.int p, .tup (rs.map .int), .int q, .tup (ts.map .int)]) :=
  Pln.shw (Pln.lst (PlnL.append (pln_form hp hr hl) (pln_form hq ht hl'))) (by decide) (by decide)
/-! ### made as it should be -/
theorem made_ok {cs : List Str} {n p : Int} {rs days : List Int} {s : DrS} (hc : ("Rhythm" : Str) ∈ cs) (w : Wf n days) (hn : n ≤ 3000) (c : Can p rs) (h : ∀ x, has p rs x ↔ has n days x) : (sem__law_is_made cs [rhD p rs, .lst (days.map .int), .int n] : M DrS D) s = .ok (.bl true) s := by
  have hl : days.length ≤ 3000 := by have := wf_len w; omega
  have e1 := can_ext c (form_can w) fun x => (h x).trans (form_has w x).symm
  obtain ⟨ep, er⟩ := e1
  have hp := form_le w
  have hp3 : 1 ≤ p ∧ p ≤ 3000 := ⟨c.pos, by omega⟩
  have hlr : rs.length ≤ 3000 := by have := wf_len c.wf; omega
  obtain ⟨z, hz⟩ := shw_form hp3 c.wf hlr
  have eqz : (eqD false (.str z) (.str z) : M DrS D) s = .ok (.bl true) s := by
    have h2 := (hz s).2
    unfold eqD at h2 ⊢
    cases q : eqP (D.str z) (D.str z) with
    | none => rw [q] at h2; exact absurd h2 (by intro z; cases z)
    | some b =>
      rw [q] at h2
      cases b with
      | true => rfl
      | false => exact absurd h2 (by intro z; cases z)
  refine runB_rt ?_
  show rd__law_is_made cs [some (.val (rhD p rs)), some (.val (.lst (days.map .int))), some (.val (.int n)), none] s = _
  have ea : Det (S := DrS) (cal sem__law_least [] 1 (aCons (tupD (aCons (rVar 2) (aCons (bcl tupleD (aCons (rVar 1) aNil)) aNil))) aNil)) [some (.val (rhD p rs)), some (.val (.lst (days.map .int))), some (.val (.int n)), none] (.tup [.int p, .tup (rs.map .int)]) := by
    refine Det.cal1 (x := .tup [.int n, .tup (days.map .int)]) (tupD_det (aCons_det (Det.var rfl) (aCons_det (Det.call1 (x := .lst (days.map .int)) (Det.var rfl) fun s => ?_) aNil_det))) fun s => ?_
    · have hz : (days.map D.int).length ≤ sizeLine := by rw [List.length_map, sizeLine_eq]; omega
      simp only [tupleD, a1_run]
      first | exact grd_pos hz | rfl
    · rw [least_run w hn, ← ep, ← er]
  refine seq_asg (ea s) ?_
  show sRet _ [some (.val (rhD p rs)), some (.val (.lst (days.map .int))), some (.val (.int n)), some (.val (.tup [.int p, .tup (rs.map .int)]))] s = _
  refine ret_of ?_
  have e0 : Det (S := DrS) (rVar 0) [some (.val (rhD p rs)), some (.val (.lst (days.map .int))), some (.val (.int n)), some (.val (.tup [.int p, .tup (rs.map .int)]))] (rhD p rs) := Det.var rfl
  have e2 : Det (S := DrS) (lstD (aCons (prp "Rhythm" sem_Rhythm_size (rVar 0)) (aCons (prp "Rhythm" sem_Rhythm_rests (rVar 0)) aNil))) [some (.val (rhD p rs)), some (.val (.lst (days.map .int))), some (.val (.int n)), some (.val (.tup [.int p, .tup (rs.map .int)]))] (.lst [.int p, .tup (rs.map .int)]) :=
    lstD_det (aCons_det (fun s => prp_size (e0 s)) (aCons_det (fun s => prp_rests (e0 s)) aNil_det))
  have e3 : Det (S := DrS) (lstD (aCons (bin ixD (rVar 3) (rC (.int 0))) (aCons (bin ixD (rVar 3) (rC (.int 1))) aNil))) [some (.val (rhD p rs)), some (.val (.lst (days.map .int))), some (.val (.int n)), some (.val (.tup [.int p, .tup (rs.map .int)]))] (.lst [.int p, .tup (rs.map .int)]) :=
    lstD_det (aCons_det (Det.bin (Det.var rfl) Det.c fun s => ixD_tup0) (aCons_det (Det.bin (Det.var rfl) Det.c fun s => ixD_tup1) aNil_det))
  have e4 : Det (S := DrS) (isi (tb_kit_own_Rhythm cs) (rVar 0)) [some (.val (rhD p rs)), some (.val (.lst (days.map .int))), some (.val (.int n)), some (.val (.tup [.int p, .tup (rs.map .int)]))] (.bl true) := fun s => isi_of1 (e0 s) (by rw [isi_rh (ok_rh hc), isRh_rh])
  rw [andV_run, e4 s, Res.bind_ok, truD_bl, Res.bind_ok]
  exact bin_of (call1_of (e2 s) (hz s).1) (call1_of (e3 s) (hz s).1) eqz
theorem made_skip {cs : List Str} {env : Env} {τ υ κ : Env → M DrS D} {L n : Int} {A : Int → Prop} {days : List Int} (hc : ("Rhythm" : Str) ∈ cs) (R : RE L τ env A) (hu : Det υ env (.lst (days.map .int))) (hk : Det κ env (.int n)) (w : Wf n days) (hn : n ≤ 3000) (h : ∀ x, has n days x ↔ A x) :
    DetT (notT (asT (cal (sem__law_is_made cs) [] 3 (aCons τ (aCons υ (aCons κ aNil)))))) env false := by
  obtain ⟨p, rs, d, c, e, l⟩ := R
  refine DetT.not (DetT.as fun s => ?_)
  rw [cal_run, aCons_det d (aCons_det hu (aCons_det hk aNil_det)) s]
  exact made_ok hc w hn c fun x => (e x).trans (h x).symm
/-! ### the operators, as they raise -/
section
variable {S : Type} {cs : List Str} {s : S}
theorem initX_ok {n : Int} {rs : List Int} {th : D} (hth : th = .lst (rs.map .int) ∨ th = .tup (rs.map .int)) (h : wfB n rs = true ∧ n ≤ 3000 ∧ rs.length ≤ 3000) :
    (sem_Rhythm___init__X cs [.int n, th] : M S (List (Str × D))) s = .ok [("own_form", formD n rs)] s := by
  have w := wfB_iff.mp h.1
  have hp := w.pos
  have hlen : (rs.map D.int).length ≤ 4000 := by rw [List.length_map]; omega
  have els : (bcl listD (aCons (rVar 2) aNil) : Env → M S D) [some (.obj "Rhythm" []), some (.val (.int n)), some (.val th)] s = .ok (.lst (rs.map .int)) s := by
    simp only [bcl_run, aCons_run, aNil_run, rVar_succ, rVar_zero, Res.bind_ok]
    rcases hth with rfl | rfl <;> rfl
  unfold sem_Rhythm___init__X runI rd_Rhythm___init__X
  rw [show startI "Rhythm" N_Rhythm___init__X [.int n, th] = [some (.obj "Rhythm" []), some (.val (.int n)), some (.val th)] from rfl]
  simp only [sSeq_run, sIf_run, orT_run, notT_run, asT_run, cal_run, aCons_run, aNil_run, rVar_succ, rVar_zero, rC_run, Res.bind_ok, List.length_cons, List.length_nil, List.append_nil, Nat.zero_add, Nat.add_zero, if_true, sem_num (show okD cs (.int n) = true from rfl), isNumD, Bool.not_true, Bool.false_eq_true, if_false,
    chn_run, intOp0_run, decide_eq_true (show (1 : Int) ≤ n from hp), decide_eq_true h.2.1, sNx_run, bin_run, sem_dif hth hlen ok_ints, diffs_wf w, sFldO_run, els, sem_lf h]
  rfl
abbrev xSize : D := .exc "BadRhythm" [("part", .str "size")]
theorem initX_err {n : Int} {th : D} (h : 3000 < n) : (sem_Rhythm___init__X cs [.int n, th] : M S (List (Str × D))) s = .err xSize s := by
  have h1 : (1 : Int) ≤ n := by omega
  have h2 : ¬ n ≤ 3000 := by omega
  unfold sem_Rhythm___init__X runI rd_Rhythm___init__X
  rw [show startI "Rhythm" N_Rhythm___init__X [.int n, th] = [some (.obj "Rhythm" []), some (.val (.int n)), some (.val th)] from rfl]
  simp only [sSeq_run, sIf_run, orT_run, notT_run, asT_run, cal_run, aCons_run, aNil_run, rVar_succ, rVar_zero, rC_run, Res.bind_ok, List.length_cons, List.length_nil, List.append_nil, Nat.zero_add, Nat.add_zero, if_true, sem_num (show okD cs (.int n) = true from rfl), isNumD, Bool.not_true, Bool.false_eq_true, if_false,
    chn_run, intOp0_run, decide_eq_true h1, decide_eq_false h2]
  rfl
theorem mkX_ok {α : Env → M S (List D)} {env : Env} {s1 : S} {n : Int} {rs : List Int} {th : D} (ha : α env s = .ok [.int n, th] s1) (hth : th = .lst (rs.map .int) ∨ th = .tup (rs.map .int)) (h : wfB n rs = true ∧ n ≤ 3000 ∧ rs.length ≤ 3000) :
    mk "Rhythm" (sem_Rhythm___init__X cs) [] 2 α env s = .ok (mkR n rs) s1 := by
  simp only [mk_run, ha, Res.bind_ok, List.length_cons, List.length_nil, List.append_nil, Nat.zero_add, Nat.add_zero, if_true, initX_ok hth h, formD_eq]
theorem mkX_err {α : Env → M S (List D)} {env : Env} {s1 : S} {n : Int} {th : D} (ha : α env s = .ok [.int n, th] s1) (h : 3000 < n) :
    mk "Rhythm" (sem_Rhythm___init__X cs) [] 2 α env s = .err xSize s1 := by
  simp only [mk_run, ha, Res.bind_ok, List.length_cons, List.length_nil, List.append_nil, Nat.zero_add, Nat.add_zero, if_true, initX_err h]
  rfl
theorem opX_run {f : Bool → Bool → Bool} {t : Env → M S Bool} {p q : Int} {rs ts : List Int} (h : okR cs p ∧ okR cs q)
    (ht : ∀ x : Int, t ([some (.val (rhD p rs)), some (.val (rhD q ts)), some (.val (.int (lcmI p q))), some (.val (.int x))] : Env) s = .ok (f (decide (x % p ∈ rs)) (decide (x % q ∈ ts))) s) :
    sSeq (sIf (notT (asT (isi (tb_kit_own_Rhythm cs) (rVar 1)))) sNo sNx) (sSeq (sAsg (cal sem_common [] 2 (aCons (prp "Rhythm" sem_Rhythm_size (rVar 0)) (aCons (prp "Rhythm" sem_Rhythm_size (rVar 1)) aNil))) (gNm 2)) (sRet (mk "Rhythm" (sem_Rhythm___init__X cs) [] 2 (aCons (rVar 2) (aCons (cmp [3] (iR1 (aCons (rVar 2) aNil)) (gNm 3) t (rVar 3)) aNil)))))
      ([some (.val (rhD p rs)), some (.val (rhD q ts)), none, none] : Env) s = if 3000 < lcmI p q then .err xSize s else .ok (.rt (mkR (lcmI p q) ((rngI 0 (lcmI p q)).filter fun x => f (decide (x % p ∈ rs)) (decide (x % q ∈ ts))))) s := by
  obtain ⟨⟨hp1, hp2, hcs⟩, ⟨hq1, hq2, _⟩⟩ := h
  have hL := lcmI_pos hp1 hq1
  have hS := lcm_small ⟨hp1, hp2⟩ ⟨hq1, hq2⟩
  have ew : wipeE ([some (.val (rhD p rs)), some (.val (rhD q ts)), some (.val (.int (lcmI p q))), none] : Env) [3] = [some (.val (rhD p rs)), some (.val (rhD q ts)), some (.val (.int (lcmI p q))), none] := rfl
  have ec := cmpL_ints (S := S) (s := s) (env := [some (.val (rhD p rs)), some (.val (rhD q ts)), some (.val (.int (lcmI p q))), none]) (i := 3) (t := t) (e := rVar 3)
    (fun x => f (decide (x % p ∈ rs)) (decide (x % q ∈ ts))) (fun x => .int x) (ns := rngI 0 (lcmI p q)) (fun x _ => by
      simp only [List.set_cons_succ, List.set_cons_zero, ht]) (fun x _ _ => by simp only [List.set_cons_succ, List.set_cons_zero, rVar_succ, rVar_zero])
  have hr : ((rngI 0 (lcmI p q)).map D.int).length ≤ sizeLine := by rw [List.length_map, rngI_length]; exact Nat.le_trans (show _ ≤ 9000000 by omega) (by decide)
  have hb : -(2 ^ 62) ≤ lcmI p q ∧ lcmI p q < 2 ^ 62 := by omega
  have ea : (aCons (rVar 2) (aCons (cmp [3] (iR1 (aCons (rVar 2) aNil)) (gNm 3) t (rVar 3)) aNil)) ([some (.val (rhD p rs)), some (.val (rhD q ts)), some (.val (.int (lcmI p q))), none] : Env) s = .ok [.int (lcmI p q), .lst (((rngI 0 (lcmI p q)).filter fun x => f (decide (x % p ∈ rs)) (decide (x % q ∈ ts))).map .int)] s := by
    simp only [aCons_run, aNil_run, cmp_run, iR1_run, rVar_succ, rVar_zero, Res.bind_ok, if_pos hb, rngD_eq, if_pos hr, ew, calm_of ec]
  by_cases hl : 3000 < lcmI p q
  · rw [if_pos hl]
    simp only [sSeq_run, sIf_run, notT_run, asT_run, isi_run, rVar_succ, rVar_zero, Res.bind_ok, isi_rh (ok_rh (p := q) (rs := ts) hcs), isRh_rh, Bool.not_true, Bool.false_eq_true, if_false, sNx_run, sAsg_run, sizes (env := [none, none]) ⟨hp1, hp2⟩ ⟨hq1, hq2⟩, gNm_run, List.set_cons_succ, List.set_cons_zero, sRet_run, mkX_err ea hl]
    rfl
  · rw [if_neg hl]
    have hw : wfB (lcmI p q) ((rngI 0 (lcmI p q)).filter fun x => f (decide (x % p ∈ rs)) (decide (x % q ∈ ts))) = true ∧ lcmI p q ≤ 3000 ∧ ((rngI 0 (lcmI p q)).filter fun x => f (decide (x % p ∈ rs)) (decide (x % q ∈ ts))).length ≤ 3000 :=
      ⟨wfB_iff.mpr (wf_filter hL _), by omega, Nat.le_trans (List.length_filter_le _ _) (by rw [rngI_length]; omega)⟩
    simp only [sSeq_run, sIf_run, notT_run, asT_run, isi_run, rVar_succ, rVar_zero, Res.bind_ok, isi_rh (ok_rh (p := q) (rs := ts) hcs), isRh_rh, Bool.not_true, Bool.false_eq_true, if_false, sNx_run, sAsg_run, sizes (env := [none, none]) ⟨hp1, hp2⟩ ⟨hq1, hq2⟩, gNm_run, List.set_cons_succ, List.set_cons_zero, sRet_run, mkX_ok ea (.inl rfl) hw]
/-- what an operator that may raise is worth -/
def OpX (sem : List D → M S D) (cs : List Str) : Prop := ∀ (p q : Int) (rs ts : List Int) (s : S), okR cs p → okR cs q → if 3000 < lcmI p q then sem [rhD p rs, rhD q ts] s = .err xSize s else ∃ d, sem [rhD p rs, rhD q ts] s = .ok d s
theorem opX_of {rd : Env → M S Flw} {N : List Str} {p q : Int} {rs ts : List Int} {s : S} {d : D} (e : rd (startE N [rhD p rs, rhD q ts]) s = if 3000 < lcmI p q then .err xSize s else .ok (.rt d) s) : if 3000 < lcmI p q then runB rd N [rhD p rs, rhD q ts] s = .err xSize s else ∃ d, runB rd N [rhD p rs, rhD q ts] s = .ok d s := by
  by_cases hl : 3000 < lcmI p q
  · rw [if_pos hl] at e ⊢; unfold runB; rw [e]
  · rw [if_neg hl] at e ⊢; exact ⟨d, runB_rt e⟩
theorem orX (cs : List Str) : OpX (S := S) (sem_Rhythm___or__X cs) cs := fun p q rs ts s hp hq => by
  have e := opX_run (S := S) (cs := cs) (s := s) (rs := rs) (ts := ts) (f := fun a b => a || b) ⟨hp, hq⟩ (t := orT (asT (bin (orD (inOwn false "Rhythm" (sem_Rhythm___contains__ cs)) (inD false) fun _ e => isIns e) (rVar 3) (rVar 0))) (asT (bin (orD (inOwn false "Rhythm" (sem_Rhythm___contains__ cs)) (inD false) fun _ e => isIns e) (rVar 3) (rVar 1)))) (fun x => by
    have := hp.1; have := hq.1
    simp only [orT_run, asT_run, bin_run, rVar_succ, rVar_zero, Res.bind_ok, inR_rh (show 0 < p by omega), inR_rh (show 0 < q by omega)]
    cases decide (x % p ∈ rs) <;> simp)
  exact opX_of (rd := rd_Rhythm___or__X cs) (N := N_Rhythm___or__X) e
theorem andX (cs : List Str) : OpX (S := S) (sem_Rhythm___and__X cs) cs := fun p q rs ts s hp hq => by
  have e := opX_run (S := S) (cs := cs) (s := s) (rs := rs) (ts := ts) (f := fun a b => a && b) ⟨hp, hq⟩ (t := andT (asT (bin (orD (inOwn false "Rhythm" (sem_Rhythm___contains__ cs)) (inD false) fun _ e => isIns e) (rVar 3) (rVar 0))) (asT (bin (orD (inOwn false "Rhythm" (sem_Rhythm___contains__ cs)) (inD false) fun _ e => isIns e) (rVar 3) (rVar 1)))) (fun x => by
    have := hp.1; have := hq.1
    simp only [andT_run, asT_run, bin_run, rVar_succ, rVar_zero, Res.bind_ok, inR_rh (show 0 < p by omega), inR_rh (show 0 < q by omega)]
    cases decide (x % p ∈ rs) <;> simp)
  exact opX_of (rd := rd_Rhythm___and__X cs) (N := N_Rhythm___and__X) e
theorem subX (cs : List Str) : OpX (S := S) (sem_Rhythm___sub__X cs) cs := fun p q rs ts s hp hq => by
  have e := opX_run (S := S) (cs := cs) (s := s) (rs := rs) (ts := ts) (f := fun a b => a && !b) ⟨hp, hq⟩ (t := andT (asT (bin (orD (inOwn false "Rhythm" (sem_Rhythm___contains__ cs)) (inD false) fun _ e => isIns e) (rVar 3) (rVar 0))) (asT (bin (orD (inOwn true "Rhythm" (sem_Rhythm___contains__ cs)) (inD true) fun _ e => isIns e) (rVar 3) (rVar 1)))) (fun x => by
    have := hp.1; have := hq.1
    simp only [andT_run, asT_run, bin_run, rVar_succ, rVar_zero, Res.bind_ok, inR_rh (show 0 < p by omega), ninR_rh (show 0 < q by omega)]
    cases decide (x % p ∈ rs) <;> simp)
  exact opX_of (rd := rd_Rhythm___sub__X cs) (N := N_Rhythm___sub__X) e
end
end DL
set_option Elab.async false
set_option linter.all false
set_option maxRecDepth 100000
set_option maxHeartbeats 1000000
set_option autoImplicit false
/-! k03: the law's reading, parted -/
namespace DL
open PySem PySem.Spec PyProof.Rows L2
noncomputable def bodyK (cs : List Str) (cells : List Int) : Env → M DrS Flw := (sSeq (sAsg (lstD (aCons (cal (sem__law_any_rhythm cells) [] 1 (aCons (rVar 1) aNil)) (aCons (cal (sem__law_any_rhythm cells) [] 1 (aCons (rVar 1) aNil)) aNil))) (gNm 3)) (sSeq (sAsg (cmp [6] (iSq (rVar 3)) (gNm 6) tYs (mk "Rhythm" (sem_Rhythm___init__ cs) [] 2 (aCons (bin ixD (rVar 6) (rC (.int 0))) (aCons (bcl listD (aCons (bin ixD (rVar 6) (rC (.int 1))) aNil)) aNil)))) (gTp 2 (gsCons (gNm 4) (gsCons (gNm 5) gsNil)))) (sSeq (sAsg (bcl reprD (aCons (lstD (aCons (prp "Rhythm" sem_Rhythm_size (rVar 4)) (aCons (prp "Rhythm" sem_Rhythm_rests (rVar 4)) (aCons (prp "Rhythm" sem_Rhythm_size (rVar 5)) (aCons (prp "Rhythm" sem_Rhythm_rests (rVar 5)) aNil))))) aNil)) (gNm 7)) (sSeq (sAsg (cal sem__law_lcm [] 2 (aCons (bin ixD (bin ixD (rVar 3) (rC (.int 0))) (rC (.int 0))) (aCons (bin ixD (bin ixD (rVar 3) (rC (.int 1))) (rC (.int 0))) aNil))) (gNm 8)) (sSeq (sAsg (cmp [6] (iSq (rVar 3)) (gNm 6) tYs (cmp [10] (iR1 (aCons (rVar 8) aNil)) (gNm 10) (asT (cal sem__law_has [] 2 (aCons (rVar 6) (aCons (rVar 10) aNil)))) (rVar 10))) (gNm 9)) (sSeq (sIf (notT (asT (cal (sem__law_is_made cs) [] 3 (aCons (bin (opOwn "Rhythm" (sem_Rhythm___or__ cs)) (rVar 4) (rVar 5)) (aCons (sortSetD (bin addD (bin ixD (rVar 9) (rC (.int 0))) (bin ixD (rVar 9) (rC (.int 1))))) (aCons (rVar 8) aNil)))))) (sRet (rC (.bl false))) sNx) (sSeq (sIf (notT (asT (cal (sem__law_is_made cs) [] 3 (aCons (bin (opOwn "Rhythm" (sem_Rhythm___and__ cs)) (rVar 4) (rVar 5)) (aCons (cmp [10] (iSq (bin ixD (rVar 9) (rC (.int 0)))) (gNm 10) (asT (bin (inD false) (rVar 10) (bin ixD (rVar 9) (rC (.int 1))))) (rVar 10)) (aCons (rVar 8) aNil)))))) (sRet (rC (.bl false))) sNx) (sSeq (sIf (notT (asT (cal (sem__law_is_made cs) [] 3 (aCons (bin (orD (opOwn "Rhythm" (sem_Rhythm___sub__ cs)) subD fun d _ => isIns d) (rVar 4) (rVar 5)) (aCons (cmp [10] (iSq (bin ixD (rVar 9) (rC (.int 0)))) (gNm 10) (asT (bin (inD true) (rVar 10) (bin ixD (rVar 9) (rC (.int 1))))) (rVar 10)) (aCons (rVar 8) aNil)))))) (sRet (rC (.bl false))) sNx) (sSeq (sIf (asT (bin (eqD true) (bcl reprD (aCons (cam "Rhythm" "within" (sem_Rhythm_within cs) [] 2 (rVar 4) (aCons (rVar 5) aNil)) aNil)) (bcl reprD (aCons (bin (eqD false) (cmp [10] (iSq (bin ixD (rVar 9) (rC (.int 0)))) (gNm 10) (asT (bin (inD true) (rVar 10) (bin ixD (rVar 9) (rC (.int 1))))) (rVar 10)) (lstD aNil)) aNil)))) (sRet (rC (.bl false))) sNx) (sSeq (sIf (asT (bin (eqD true) (bcl reprD (aCons (camK "Rhythm" "within" (sem_Rhythm_within cs) [0] 1 (rVar 5) (aCons (rVar 4) aNil)) aNil)) (bcl reprD (aCons (bin (eqD false) (cmp [10] (iSq (bin ixD (rVar 9) (rC (.int 1)))) (gNm 10) (asT (bin (inD true) (rVar 10) (bin ixD (rVar 9) (rC (.int 0))))) (rVar 10)) (lstD aNil)) aNil)))) (sRet (rC (.bl false))) sNx) (sSeq (sAsg (cal (sem__law_pick cells) [] 2 (aCons (rVar 1) (aCons (lstD (aCons (rC (.int 0)) (aCons (rC (.int 1)) (aCons (negD (rC (.int 1))) (aCons (bin subD (cal (sem__law_take cells) [] 2 (aCons (rVar 1) (aCons (rC (.int 99)) aNil))) (rC (.int 50))) (aCons (bin powD (rC (.int 10)) (rC (.int 6))) aNil)))))) aNil))) (gNm 11)) (sSeq (sAsg (bcl sortD (aCons (cmp [13] (iSq (bin ixD (bin ixD (rVar 3) (rC (.int 0))) (rC (.int 1)))) (gNm 13) tYs (bin modD (bcl int1D (aCons (bin addD (rVar 13) (rVar 11)) aNil)) (bin ixD (bin ixD (rVar 3) (rC (.int 0))) (rC (.int 0))))) aNil)) (gNm 12)) (sSeq (sIf (notT (asT (cal (sem__law_is_made cs) [] 3 (aCons (bin (opOwnI "Rhythm" (sem_Rhythm___rshift__ cs)) (rVar 4) (rVar 11)) (aCons (rVar 12) (aCons (bin ixD (bin ixD (rVar 3) (rC (.int 0))) (rC (.int 0))) aNil)))))) (sRet (rC (.bl false))) sNx) (sSeq (sFor (iSq (lstD (aCons (bin subD (cal (sem__law_take cells) [] 2 (aCons (rVar 1) (aCons (rC (.int 400)) aNil))) (rC (.int 200))) (aCons (bin subD (bin powD (rC (.int 10)) (rC (.int 6))) (cal (sem__law_take cells) [] 2 (aCons (rVar 1) (aCons (rC (.int 99)) aNil)))) (aCons (bin subD (rC (.int 0)) (cal (sem__law_take cells) [] 2 (aCons (rVar 1) (aCons (rC (.int 9)) aNil)))) aNil))))) (gNm 10) (sIf (asT (bin (eqD true) (bcl reprD (aCons (bin (orD (inOwn false "Rhythm" (sem_Rhythm___contains__ cs)) (inD false) fun _ e => isIns e) (rVar 10) (rVar 4)) aNil)) (bcl reprD (aCons (cal sem__law_has [] 2 (aCons (bin ixD (rVar 3) (rC (.int 0))) (aCons (rVar 10) aNil))) aNil)))) (sRet (rC (.bl false))) sNx)) (sSeq (sIf (asT (bin (eqD true) (cmp [14] (iSq (lstD (aCons (rC .non) (aCons (rC (.str "0")) (aCons (rC (.bl true)) (aCons (rC (.bl false)) (aCons (tupD (aCons (rC (.int 0)) aNil)) (aCons (lstD (aCons (rC (.int 0)) aNil)) (aCons (rVar 4) (aCons (rC (.str "")) (aCons (rC (.dct [])) aNil))))))))))) (gNm 14) (asT (bin (orD (inOwn false "Rhythm" (sem_Rhythm___contains__ cs)) (inD false) fun _ e => isIns e) (rVar 14) (rVar 4))) (rVar 14)) (lstD aNil))) (sRet (rC (.bl false))) sNx) (sIf (asT (bin (eqD true) (bcl reprD (aCons (lstD (aCons (prp "Rhythm" sem_Rhythm_size (rVar 4)) (aCons (prp "Rhythm" sem_Rhythm_rests (rVar 4)) (aCons (prp "Rhythm" sem_Rhythm_size (rVar 5)) (aCons (prp "Rhythm" sem_Rhythm_rests (rVar 5)) aNil))))) aNil)) (rVar 7))) (sRet (rC (.bl false))) sNx))))))))))))))))
noncomputable def tailK (cs : List Str) (cells : List Int) : Env → M DrS Flw := (sSeq (sAsg (cmp [8] (iSq (cal (sem__law_pick cells) [] 2 (aCons (rVar 1) (aCons (lstD (aCons (tupD (aCons (rC (.int 59)) (aCons (rC (.int 53)) aNil))) (aCons (tupD (aCons (rC (.int 60)) (aCons (rC (.int 53)) aNil))) (aCons (tupD (aCons (rC (.int 60)) (aCons (rC (.int 84)) aNil))) (aCons (tupD (aCons (rC (.int 1000)) (aCons (rC (.int 1500)) aNil))) (aCons (tupD (aCons (rC (.int 2999)) (aCons (rC (.int 2)) aNil))) aNil)))))) aNil)))) (gNm 8) tYs (mk "Rhythm" (sem_Rhythm___init__ cs) [] 2 (aCons (rVar 8) (aCons (lstD (aCons (rC (.int 1)) aNil)) aNil)))) (gNm 15)) (sSeq (sAsg (bin gtD (cal sem__law_lcm [] 2 (aCons (prp "Rhythm" sem_Rhythm_size (bin ixD (rVar 15) (rC (.int 0)))) (aCons (prp "Rhythm" sem_Rhythm_size (bin ixD (rVar 15) (rC (.int 1)))) aNil))) (rC (.int 3000))) (gNm 16)) (sSeq (sOwn 17 (aCons (rC (.fn 0)) aNil)) (sSeq (sApp 17 (rC (.fn 1))) (sSeq (sApp 17 (rC (.fn 2))) (sSeq (sFz [17] (sAsg (cal (sem__law_pick cells) [] 2 (aCons (rVar 1) (aCons (lstD (aCons (tupD (aCons (rC (.int 59)) (aCons (rC (.int 53)) aNil))) (aCons (tupD (aCons (rC (.int 60)) (aCons (rC (.int 84)) aNil))) (aCons (tupD (aCons (rC (.int 2999)) (aCons (rC (.int 2)) aNil))) (aCons (tupD (aCons (rC (.int 100)) (aCons (rC (.int 50)) aNil))) aNil))))) aNil))) (gNm 18))) (sSeq (sAsg (lstD (aCons (cam "Rhythm" "within" (sem_Rhythm_within cs) [] 2 (mk "Rhythm" (sem_Rhythm___init__ cs) [] 2 (aCons (bin ixD (rVar 18) (rC (.int 0))) (aCons (lstD (aCons (rC (.int 1)) aNil)) aNil))) (aCons (mk "Rhythm" (sem_Rhythm___init__ cs) [] 2 (aCons (bin ixD (rVar 18) (rC (.int 1))) (aCons (lstD (aCons (rC (.int 1)) aNil)) aNil))) aNil)) (aCons (cam "Rhythm" "within" (sem_Rhythm_within cs) [] 2 (mk "Rhythm" (sem_Rhythm___init__ cs) [] 2 (aCons (bin ixD (rVar 18) (rC (.int 0))) (aCons (lstD aNil) aNil))) (aCons (mk "Rhythm" (sem_Rhythm___init__ cs) [] 2 (aCons (bin ixD (rVar 18) (rC (.int 1))) (aCons (lstD (aCons (rC (.int 1)) aNil)) aNil))) aNil)) aNil))) (gNm 19)) (sSeq (sIf (asT (bin (eqD true) (bcl reprD (aCons (rVar 19) aNil)) (bcl reprD (aCons (lstD (aCons (bin (eqD false) (bin modD (bin ixD (rVar 18) (rC (.int 0))) (bin ixD (rVar 18) (rC (.int 1)))) (rC (.int 0))) (aCons (rC (.bl true)) aNil))) aNil)))) (sRet (rC (.bl false))) sNx) (sSeq (sFor (iSq (rVar 17)) (gNm 20) (sSeq (sAsg (cauV ["BadRhythm"] (lamR cs cells) (rVar 20)) (gNm 21)) (sIf (orT (asT (bin (eqD true) (bin (isXD true) (rVar 21) (rC .non)) (rVar 16))) (andT (asT (rVar 16)) (orT (notT (asT (isiX (tb_kit_xty_BadRhythm cs) tbx_BadRhythm (rVar 21)))) (asT (bin (eqD true) (xfD ["BadRhythm"] "part" (rVar 21)) (rC (.str "size"))))))) (sRet (rC (.bl false))) sNx))) (sRet (rC (.bl true))))))))))))
theorem rd_law_eq (cs : List Str) (cells : List Int) : rd_law cs cells = sSeq (sFor (iR1 (aCons (bin addD (rC (.int 5)) (bcl min2D (aCons (bcl lenD (aCons (rVar 0) aNil)) (aCons (rC (.int 20)) aNil)))) aNil)) (gNm 2) (bodyK cs cells)) (tailK cs cells) := rfl
end DL
set_option Elab.async false
set_option linter.all false
set_option maxRecDepth 100000
set_option maxHeartbeats 1000000
set_option autoImplicit false
/-! k03: the plain law, the rounds -/
namespace DL
open PySem PySem.Spec PyProof.Rows L2 Rh
/-! ### the days of a round -/
def daysOf (L n : Int) (rs : List Int) : List Int := (rngI 0 L).filter fun x => decide (x % n ∈ rs)
theorem mem_daysOf {L n x : Int} {rs : List Int} : x ∈ daysOf L n rs ↔ (0 ≤ x ∧ x < L) ∧ x % n ∈ rs := by
  unfold daysOf; rw [List.mem_filter, mem_rngI, decide_eq_true_iff]
theorem days_at {L n x : Int} {rs : List Int} (hL : 1 ≤ L) (hd : n ∣ L) : x % L ∈ daysOf L n rs ↔ has n rs x := by
  rw [mem_daysOf, mod_mod hd]
  exact ⟨fun h => h.2, fun h => ⟨⟨Int.emod_nonneg _ (by omega), Int.emod_lt_of_pos _ (by omega)⟩, h⟩⟩
theorem days_len (L n : Int) (rs : List Int) : (daysOf L n rs).length ≤ L.toNat := Nat.le_trans (List.length_filter_le _ _) (by rw [rngI_length]; omega)
theorem days_sub (L n : Int) (rs : List Int) : (daysOf L n rs).Sublist (rngI 0 L) := List.filter_sublist
theorem wf_both {L n m : Int} {rs ts : List Int} (hL : 1 ≤ L) : Wf L (srt (nubI (daysOf L n rs ++ daysOf L m ts))) := by
  refine ⟨hL, fun r hr => ?_, (srt_perm _).nodup_iff.mpr (nub_nodup _)⟩
  rw [mem_srt, nub_mem, List.mem_append, mem_daysOf, mem_daysOf] at hr
  rcases hr with h | h <;> omega
section
variable {S : Type} {env : Env}
/-- [x for x in d if x in e], or not in -/
theorem part_det {neg : Bool} {τ υ : Env → M S D} {da db : List Int} (h : Det τ env (.lst (da.map .int))) (hl : da.length ≤ 3000) (h10 : ∀ x, ((wipeE env [10]).set 10 (some (.val x)))[10]? = some (some (.val x)))
    (h' : ∀ x, Det υ ((wipeE env [10]).set 10 (some (.val x))) (.lst (db.map .int))) :
    Det (cmp [10] (iSq τ) (gNm 10) (asT (bin (inD neg) (rVar 10) υ)) (rVar 10)) env (.lst ((da.filter fun x => if neg then !decide (x ∈ db) else decide (x ∈ db)).map .int)) := fun s => by
  refine cmp_of (iSq_of (h s)) (by rw [List.length_map]; exact sz3 hl) (cmpL_ints (fun x => if neg then !decide (x ∈ db) else decide (x ∈ db)) (fun x => .int x) (fun x _ => ?_) fun x _ _ => rVar_run (h10 _))
  exact asT_of (bin_of (rVar_run (h10 _)) (h' _ s) inD_ints)
theorem sets_det {τ υ : Env → M S D} {da db : List Int} (h : Det τ env (.lst (da.map .int))) (h' : Det υ env (.lst (db.map .int))) (hl : da.length + db.length < 3000) : Det (sortSetD (bin addD τ υ)) env (.lst ((srt (nubI (da ++ db))).map .int)) := fun s => by
  have e : (bin addD τ υ) env s = .ok (.lst ((da ++ db).map .int)) s := bin_of (h s) (h' s) (by rw [addD_lst, if_pos (by rw [List.length_map, List.length_map]; exact sz3 (by omega)), List.map_append])
  show ((bin addD τ υ) env s).bind _ = _
  rw [e]
  have hz : (da ++ db).length < 4000 := by rw [List.length_append]; omega
  have e2 : intsD ((da ++ db).map .int) = some (da ++ db) := intsD_of _
  show (match intsD ((da ++ db).map .int) with
    | some ns => grd (ns.length < 4000) (pure (.lst ((srt (nubI ns)).map D.int)))
    | none => stk : M S D) s = _
  simp only [e2]
  rw [grd_pos hz]; rfl
theorem nil_det {τ : Env → M S D} {ns : List Int} (h : Det τ env (.lst (ns.map .int))) : Det (bin (eqD false) τ (lstD aNil)) env (.bl (decide (ns = []))) := Det.bin h (lstD_det aNil_det) fun s => by
  have := eqD_lints (S := S) (s := s) (a := ns) (b := [])
  exact this
end
theorem bl_shw (b : Bool) : Shw (.bl b) := Pln.shw Pln.bl (by decide) (by decide)
/-- the environment of a round -/
abbrev Mod (n : Int) (rs : List Int) : D := .tup [.int n, .tup (rs.map .int)]
abbrev Rnd (ns : List Int) (x2 x3 x4 x5 x6 x7 x8 x9 x10 x11 x12 : Option Slot) : Env := [some (.val (.scr ns)), some (.val (.hnd 0)), x2, x3, x4, x5, x6, x7, x8, x9, x10, x11, x12, none, none, none, none, none, none, none, none, none]
abbrev Rd9 (ns : List Int) (tn : D) (n m : Int) (rs ts : List Int) (sn : D) (L : Int) (x6 x10 x11 x12 : Option Slot) : Env := Rnd ns (some (.val tn)) (some (.val (.lst [Mod n rs, Mod m ts]))) (some (.val (mkR n rs))) (some (.val (mkR m ts))) x6 (some (.val sn)) (some (.val (.int L))) (some (.val (.lst [.lst ((daysOf L n rs).map .int), .lst ((daysOf L m ts).map .int)]))) x10 x11 x12
theorem Det.has {S : Type} {env : Env} {τ υ : Env → M S D} {n x : Int} {rs : List Int} (hn : 0 < n) (h : Det τ env (.tup [.int n, .tup (rs.map .int)])) (h' : Det υ env (.int x)) : Det (cal sem__law_has [] 2 (DL.aCons τ (DL.aCons υ DL.aNil))) env (.bl (decide (Rh.has n rs x))) := Det.cal2 h h' fun s => has_ok hn
theorem Det.ix0 {S : Type} {env : Env} {τ : Env → M S D} {x y : D} (h : Det τ env (.lst [x, y])) : Det (DL.bin ixD τ (rC (.int 0))) env x := Det.bin h Det.c fun s => ixD_lst0
theorem Det.ix1 {S : Type} {env : Env} {τ : Env → M S D} {x y : D} (h : Det τ env (.lst [x, y])) : Det (DL.bin ixD τ (rC (.int 1))) env y := Det.bin h Det.c fun s => ixD_lst1
theorem Det.tx0 {S : Type} {env : Env} {τ : Env → M S D} {x y : D} (h : Det τ env (.tup [x, y])) : Det (DL.bin ixD τ (rC (.int 0))) env x := Det.bin h Det.c fun s => ixD_tup0
theorem Det.tx1 {S : Type} {env : Env} {τ : Env → M S D} {x y : D} (h : Det τ env (.tup [x, y])) : Det (DL.bin ixD τ (rC (.int 1))) env y := Det.bin h Det.c fun s => ixD_tup1
theorem days_det {S : Type} {ns : List Int} {n m L : Int} {rs ts : List Int} {x2 x4 x5 x6 x7 x9 x10 x11 x12 : Option Slot} (hn : 0 < n) (hm : 0 < m) (hL : 1 ≤ L ∧ L ≤ 3000) :
    Det (S := S) (cmp [6] (iSq (rVar 3)) (gNm 6) tYs (cmp [10] (iR1 (aCons (rVar 8) aNil)) (gNm 10) (asT (cal sem__law_has [] 2 (aCons (rVar 6) (aCons (rVar 10) aNil)))) (rVar 10))) (Rnd ns x2 (some (.val (.lst [Mod n rs, Mod m ts]))) x4 x5 x6 x7 (some (.val (.int L))) x9 x10 x11 x12) (.lst [.lst ((daysOf L n rs).map .int), .lst ((daysOf L m ts).map .int)]) := fun s => by
  have one : ∀ (q : Int) (us : List Int), 0 < q → ∀ s : S, (cmp [10] (iR1 (aCons (rVar 8) aNil)) (gNm 10) (asT (cal sem__law_has [] 2 (aCons (rVar 6) (aCons (rVar 10) aNil)))) (rVar 10) : Env → M S D) (Rnd ns x2 (some (.val (.lst [Mod n rs, Mod m ts]))) x4 x5 (some (.val (Mod q us))) x7 (some (.val (.int L))) x9 x10 x11 x12) s = .ok (.lst ((daysOf L q us).map .int)) s := fun q us hq s => by
    refine cmp_of (xs := (rngI 0 L).map .int) ?_ (by rw [List.length_map, rngI_length]; exact sz3 (by omega)) (cmpL_ints (fun x => decide (x % q ∈ us)) (fun x => .int x) (fun x _ => ?_) fun x _ _ => rVar_run rfl)
    · rw [← rngD_eq]; exact Det.rng (Det.var rfl) (by omega) s
    · exact asT_of (Det.has hq (Det.var rfl) (Det.var rfl) s)
  refine cmp_of (xs := [Mod n rs, Mod m ts]) (iSq_of (rVar_run rfl)) (by simp [sizeLine_eq]) ?_
  show ((cmp [10] _ _ _ _ : Env → M S D) (Rnd ns x2 (some (.val (.lst [Mod n rs, Mod m ts]))) x4 x5 (some (.val (Mod n rs))) x7 (some (.val (.int L))) x9 x10 x11 x12) s).bind _ = _
  rw [one n rs hn]
  show (Res.bind (Res.bind ((cmp [10] _ _ _ _ : Env → M S D) (Rnd ns x2 (some (.val (.lst [Mod n rs, Mod m ts]))) x4 x5 (some (.val (Mod m ts))) x7 (some (.val (.int L))) x9 x10 x11 x12) s) _) _) = _
  rw [one m ts hm]
  rfl
/-- what a round draws -/
def Round (ns : List Int) (e : Env) : Prop := ∃ x2 x3 x4 x5 x6 x7 x8 x9 x10 x11 x12 : Option Slot, e = Rnd ns x2 x3 x4 x5 x6 x7 x8 x9 x10 x11 x12
theorem odd_det {cs : List Str} (hc : ("Rhythm" : Str) ∈ cs) {p : Int} {rs : List Int} (hp : 0 < p) {env : Env} (h : ∀ x, ((wipeE env [14]).set 14 (some (.val x)))[4]? = some (some (.val (rhD p rs)))) (h14 : ∀ x, ((wipeE env [14]).set 14 (some (.val x)))[14]? = some (some (.val x))) (h4 : env[4]? = some (some (.val (rhD p rs)))) :
    DetT (S := DrS) (asT (bin (eqD true) (cmp [14] (iSq (lstD (aCons (rC .non) (aCons (rC (.str "0")) (aCons (rC (.bl true)) (aCons (rC (.bl false)) (aCons (tupD (aCons (rC (.int 0)) aNil)) (aCons (lstD (aCons (rC (.int 0)) aNil)) (aCons (rVar 4) (aCons (rC (.str "")) (aCons (rC (.dct [])) aNil))))))))))) (gNm 14) (asT (bin (inOr cs) (rVar 14) (rVar 4))) (rVar 14)) (lstD aNil))) env false := by
  have hx : ∀ x : D, okD cs x = true → inRh p rs x = false → ∀ s : DrS, (inOr cs x (rhD p rs) : M DrS D) s = .ok (.bl false) s := fun x ho hi s => by
    show inOwn false "Rhythm" (sem_Rhythm___contains__ cs) x (rhD p rs) s = _
    simp only [inOwn, rhD, onIns_run, grd_run, and_self, if_true]
    show ((sem_Rhythm___contains__ cs [rhD p rs, x] : M DrS D) s).bind _ = _
    rw [sem_has ⟨hp, ho⟩, hi]
    rfl
  have e : Det (S := DrS) (cmp [14] (iSq (lstD (aCons (rC .non) (aCons (rC (.str "0")) (aCons (rC (.bl true)) (aCons (rC (.bl false)) (aCons (tupD (aCons (rC (.int 0)) aNil)) (aCons (lstD (aCons (rC (.int 0)) aNil)) (aCons (rVar 4) (aCons (rC (.str "")) (aCons (rC (.dct [])) aNil))))))))))) (gNm 14) (asT (bin (inOr cs) (rVar 14) (rVar 4))) (rVar 14)) env (.lst []) := fun s => by
    refine cmp_of (ys := []) (xs := [.non, .str "0", .bl true, .bl false, .tup [.int 0], .lst [.int 0], rhD p rs, .str "", .dct []]) (iSq_of (lstD_of (aCons_det Det.c (aCons_det Det.c (aCons_det Det.c (aCons_det Det.c (aCons_det (tupD_det (aCons_det Det.c aNil_det) (by simp)) (aCons_det (lstD_det (aCons_det Det.c aNil_det) (by simp)) (aCons_det (Det.var h4) (aCons_det Det.c (aCons_det Det.c aNil_det)))))))) s) (by simp))) (by simp [sizeLine_eq]) ?_
    have hq := cmpL_pure (env := wipeE env [14]) (s := s) (i := 14) (t := asT (bin (inOr cs) (rVar 14) (rVar 4))) (e := rVar 14) (fun _ => false) (fun x => x) (xs := [.non, .str "0", .bl true, .bl false, .tup [.int 0], .lst [.int 0], rhD p rs, .str "", .dct []]) (fun x hm => ?_) fun x _ hf => by cases hf
    · rw [hq]; rfl
    · refine asT_of (bin_of (rVar_run (h14 x)) (rVar_run (h x)) (hx x ?_ ?_ s))
      · simp only [List.mem_cons, List.not_mem_nil, or_false] at hm
        rcases hm with rfl | rfl | rfl | rfl | rfl | rfl | rfl | rfl | rfl
        case inr.inr.inr.inr.inr.inr.inl => exact ok_rh hc
        all_goals rfl
      · simp only [List.mem_cons, List.not_mem_nil, or_false] at hm
        rcases hm with rfl | rfl | rfl | rfl | rfl | rfl | rfl | rfl | rfl <;> rfl
  exact DetT.as (Det.bin e (lstD_det aNil_det) fun s => rfl)
/-- pick of a list of expressions that are numbers -/
theorem pick_ints {cells : List Int} {env : Env} {i : Nat} {α : Env → M DrS (List D)} {n : Nat} {P : D → Prop} (hi : env[i]? = some (some (.val (.hnd 0)))) (h : Yes (α env) fun ds => ds.length = n ∧ ∀ d ∈ ds, P d) (h0 : 0 < n) (h1 : n ≤ 100) :
    Yes (cal (sem__law_pick cells) [] 2 (aCons (rVar i) (aCons (lstD α) aNil)) env) P := by
  refine Yes.cal (args2 (P := (· = .hnd 0)) (Q := fun d => ∃ ds, d = .lst ds ∧ ds.length = n ∧ ∀ d ∈ ds, P d) (fun s => ⟨_, s, rVar_run hi, rfl⟩) fun s => ?_) ?_
  · obtain ⟨ds, s1, e, hl, hp⟩ := h s
    exact ⟨_, s1, lstD_of e (by omega), ds, rfl, hl, hp⟩
  · rintro _ ⟨_, _, rfl, rfl, ds, rfl, hl, hp⟩
    exact Yes.mono (pick_ok cells (by omega) (by omega)) fun d hd => hp d hd
theorem consY {S : Type} {env : Env} {τ : Env → M S D} {α : Env → M S (List D)} {n : Nat} {P : D → Prop} (h : Yes (τ env) P) (k : Yes (α env) fun ds => ds.length = n ∧ ∀ d ∈ ds, P d) : Yes (aCons τ α env) fun ds => ds.length = n + 1 ∧ ∀ d ∈ ds, P d := fun s => by
  obtain ⟨d, s1, e1, p⟩ := h s
  obtain ⟨ds, s2, e2, l, q⟩ := k s1
  exact ⟨_, s2, aCons_of e1 e2, by rw [List.length_cons, l], fun x hx => by
    rcases List.mem_cons.mp hx with rfl | hx
    · exact p
    · exact q x hx⟩
theorem nilY {S : Type} {env : Env} {P : D → Prop} : Yes ((aNil : Env → M S (List D)) env) fun ds => ds.length = 0 ∧ ∀ d ∈ ds, P d := fun s => ⟨[], s, rfl, rfl, by simp⟩
def IsInt (d : D) : Prop := ∃ v : Int, d = .int v
theorem takeY {cells : List Int} {env : Env} {i : Nat} {many : Int} (e : env[i]? = some (some (.val (.hnd 0)))) (h : 0 < many) (h' : many < 1073741824) : Yes (cal (sem__law_take cells) [] 2 (aCons (rVar i) (aCons (rC (.int many)) aNil)) env) IsInt := Yes.mono (take_in e (IntE.c rfl) h h') fun d ⟨v, q, _⟩ => ⟨v, q⟩
theorem subY {S : Type} {env : Env} {τ υ : Env → M S D} (h : Yes (τ env) IsInt) (h' : Yes (υ env) IsInt) : Yes (bin subD τ υ env) IsInt := Yes.bin h h' fun x y ⟨v, hv⟩ ⟨w, hw⟩ s => by
  subst hv; subst hw; exact ⟨_, s, rfl, _, rfl⟩
theorem intY {S : Type} {env : Env} {v : Int} : Yes ((rC (.int v) : Env → M S D) env) IsInt := fun s => ⟨_, s, rfl, v, rfl⟩
theorem withinK {S : Type} {env : Env} {τ υ : Env → M S D} {A B : Int → Prop} {M1 M2 : Int} {cs : List Str} (hc : ("Rhythm" : Str) ∈ cs) (hM1 : 1 ≤ M1 ∧ M1 ≤ 3000) (hM2 : 1 ≤ M2 ∧ M2 ≤ 3000) (h : RE M1 τ env A) (h' : RE M2 υ env B) : ∃ b, Det (camK "Rhythm" "within" (sem_Rhythm_within cs) [0] 1 τ (aCons υ aNil)) env (.bl b) ∧ (b = true ↔ ∀ x, A x → B x) := by
  obtain ⟨p, rs, d, c, e, l⟩ := h
  obtain ⟨q, ts, d', c', e', l'⟩ := h'
  have hp := per_le (m := 0) l hM1.1 c.pos
  have hq := per_le (m := 0) l' hM2.1 c'.pos
  obtain ⟨b, hb, z⟩ := RE.within (S := S) (env := env) (τ := τ) (υ := υ) hc hM1 hM2 ⟨p, rs, d, c, e, l⟩ ⟨q, ts, d', c', e', l'⟩
  refine ⟨b, fun s => ?_, z⟩
  have hb := hb s
  have h1 : cam "Rhythm" "within" (sem_Rhythm_within cs) [] 2 τ (aCons υ aNil) env s = sem_Rhythm_within cs [rhD p rs, rhD q ts] s := by
    show (τ env s).bind _ = _
    rw [d s, Res.bind_ok]
    show grd _ _ s = _
    rw [grd_run, if_pos ⟨rfl, by simp only [List.lookup, show (("within" : Str) == "own_form") = false by decide]⟩]
    show ((aCons υ aNil) env s).bind _ = _
    rw [aCons_run, d' s, Res.bind_ok, aNil_run, Res.bind_ok, Res.bind_ok]
    show grd _ _ s = _
    rw [grd_run, if_pos (by rfl)]
    rfl
  rw [h1] at hb
  show (τ env s).bind _ = _
  rw [d s, Res.bind_ok]
  show grd _ _ s = _
  rw [grd_run, if_pos ⟨rfl, by simp only [List.lookup, show (("within" : Str) == "own_form") = false by decide]⟩]
  show ((aCons υ aNil) env s).bind _ = _
  rw [aCons_run, d' s, Res.bind_ok, aNil_run, Res.bind_ok, Res.bind_ok]
  show grd _ _ s = _
  rw [grd_run, if_pos ⟨rfl, rfl⟩]
  exact hb
theorem nil_iff {L n m : Int} {rs ts : List Int} (hL : 1 ≤ L) (dn : n ∣ L) (dm : m ∣ L) : ((daysOf L n rs).filter fun x => if true then !decide (x ∈ daysOf L m ts) else decide (x ∈ daysOf L m ts)) = [] ↔ ∀ x, has n rs x → has m ts x := by
  rw [List.filter_eq_nil_iff]
  simp only [if_true, Bool.not_eq_true', decide_eq_false_iff_not, Classical.not_not]
  constructor
  · intro h x hx
    exact (days_at hL dm).mp (h _ ((days_at hL dn).mpr hx))
  · intro h x hx
    rw [mem_daysOf] at hx ⊢
    exact ⟨hx.1, h x hx.2⟩
theorem round_yes {cs : List Str} (hc : ("Rhythm" : Str) ∈ cs) (cells ns : List Int) {tn : D} {x3 x4 x5 x6 x7 x8 x9 x10 x11 x12 : Option Slot} : Yes (bodyK cs cells (Rnd ns (some (.val tn)) x3 x4 x5 x6 x7 x8 x9 x10 x11 x12)) fun f => ∃ e, f = .nx e ∧ Round ns e := by
  unfold bodyK
  -- the two models
  refine Yes.seq (Yes.set (P := fun d => ∃ (n m : Int) (rs ts : List Int), (n ≤ 14 ∧ Wf n rs) ∧ (m ≤ 14 ∧ Wf m ts) ∧ d = .lst [Mod n rs, Mod m ts]) ?_) ?_
  · have ha : ∀ env : Env, env[1]? = some (some (.val (.hnd 0))) → Yes (cal (sem__law_any_rhythm cells) [] 1 (aCons (rVar 1) aNil) env) fun d => ∃ (n : Int) (rs : List Int), d = .tup [.int n, .tup (rs.map .int)] ∧ n ≤ 14 ∧ Wf n rs := fun env he => Yes.cal (args1 (P := (· = .hnd 0)) fun s => ⟨_, s, rVar_run he, rfl⟩) (by
      rintro _ ⟨_, rfl, rfl⟩
      exact any_ok cells)
    refine Yes.bind (args2 (ha _ rfl) (ha _ rfl)) ?_
    rintro _ ⟨_, x, y, rfl, ⟨n, rs, rfl, h1⟩, ⟨m, ts, rfl, h2⟩⟩ s
    exact ⟨_, s, by simp [grd_run, sizeLine_eq], n, m, rs, ts, h1, h2, rfl⟩
  rintro _ ⟨_, ⟨n, m, rs, ts, ⟨hn, w1⟩, ⟨hm, w2⟩, rfl⟩, rfl⟩
  have n1 := w1.pos
  have m1 := w2.pos
  obtain ⟨L, hLe⟩ : ∃ L, L = lcmI n m := ⟨_, rfl⟩
  have hL : 1 ≤ L := by rw [hLe]; exact lcmI_pos n1 m1
  have hL9 : L ≤ 196 := by rw [hLe]; exact Int.le_trans (lcmI_le n1 m1) (by have := Int.mul_le_mul hn hm (by omega) (by omega); omega)
  have hL' : L ≤ 3000 := by omega
  have dn : n ∣ L := by rw [hLe]; exact lcmI_dvd_left n1 m1
  have dm : m ∣ L := by rw [hLe]; exact lcmI_dvd_right n1 m1
  have l1 := wf_len w1
  have l2 := wf_len w2
  obtain ⟨c1, o1, d1⟩ := mk_can (A := has n rs) (L := L) w1 dn fun x => Iff.rfl
  obtain ⟨c2, o2, d2⟩ := mk_can (A := has m ts) (L := L) w2 dm fun x => Iff.rfl
  have p1 : leastP n rs ≤ n := (form_le w1).1
  have p2 : leastP m ts ≤ m := (form_le w2).1
  have q1 := c1.pos
  have q2 := c2.pos
  have f1 := wf_len c1.wf
  have f2 := wf_len c2.wf
  -- the two rhythms
  refine Yes.seq (I := fun e => e = Rnd ns (some (.val tn)) (some (.val (.lst [Mod n rs, Mod m ts]))) (some (.val (mkR n rs))) (some (.val (mkR m ts))) x6 x7 x8 x9 x10 x11 x12) ?_ ?_
  · intro s
    refine ⟨_, s, ?_, _, rfl, rfl⟩
    have e1 : ∀ (q : Int) (us : List Int) (z : Env) (hz : z[6]? = some (some (.val (.tup [.int q, .tup (us.map .int)])))) (hq : q ≤ 14) (w : Wf q us) (s : DrS), mk "Rhythm" (sem_Rhythm___init__ cs) [] 2 (aCons (bin ixD (rVar 6) (rC (.int 0))) (aCons (bcl listD (aCons (bin ixD (rVar 6) (rC (.int 1))) aNil)) aNil)) z s = .ok (mkR q us) s := fun q us z hz hq w s => by
      have := wf_len w
      exact mk_rh (th := .lst (us.map .int)) (by simp only [aCons_run, bin_run, rVar_run hz, Res.bind_ok, rC_run, ixD_tup0, ixD_tup1, bcl_run, aNil_run]; rfl) (.inl rfl) ⟨wfB_iff.mpr w, by omega, by omega⟩
    rw [sAsg_run, cmp_run, iSq_run, rVar_run (i := 3) rfl, Res.bind_ok, Res.bind_ok, if_pos (by simp [sizeLine_eq])]
    rw [calm_of (s1 := s) (x := [mkR n rs, mkR m ts])]
    · rfl
    · show (DL.mk "Rhythm" _ [] 2 _ _ s).bind _ = _
      rw [e1 n rs _ rfl hn w1]
      show (Res.bind (Res.bind (DL.mk "Rhythm" _ [] 2 _ _ s) _) _) = _
      rw [e1 m ts _ rfl hm w2]
      rfl
  rintro _ rfl
  -- what is seen of them
  obtain ⟨sn, hsn⟩ := shw_form2 ⟨q1, by omega⟩ c1.wf (by omega) ⟨q2, by omega⟩ c2.wf (by omega)
  have seen : ∀ {e : Env}, e[4]? = some (some (.val (mkR n rs))) → e[5]? = some (some (.val (mkR m ts))) → Det (S := DrS) (bcl reprD (aCons (lstD (aCons (prp "Rhythm" sem_Rhythm_size (rVar 4)) (aCons (prp "Rhythm" sem_Rhythm_rests (rVar 4)) (aCons (prp "Rhythm" sem_Rhythm_size (rVar 5)) (aCons (prp "Rhythm" sem_Rhythm_rests (rVar 5)) aNil))))) aNil)) e (.str sn) := fun h4 h5 =>
    Det.call1 (lstD_det (aCons_det (fun s => prp_size (rVar_run h4)) (aCons_det (fun s => prp_rests (rVar_run h4)) (aCons_det (fun s => prp_size (rVar_run h5)) (aCons_det (fun s => prp_rests (rVar_run h5)) aNil_det)))) (by simp)) fun s => (hsn s).1
  refine Yes.seqSet (seen rfl rfl) ?_
  refine Yes.seqSet (x := .int L) (Det.cal2 (Det.tx0 (Det.ix0 (Det.var rfl))) (Det.tx0 (Det.ix1 (Det.var rfl))) fun s => by rw [hLe]; exact lcm_run n1 m1 (by omega)) ?_
  refine Yes.seqSet (days_det (by omega) (by omega) ⟨hL, hL'⟩) ?_
  have en : Rd9 ns tn n m rs ts (.str sn) L x6 x10 x11 x12 = Rd9 ns tn n m rs ts (.str sn) L x6 x10 x11 x12 := rfl
  have R1 : ∀ {e : Env}, e[4]? = some (some (.val (mkR n rs))) → RE (S := DrS) L (rVar 4) e (has n rs) := fun h => ⟨_, _, Det.var h, c1, o1, d1⟩
  have R2 : ∀ {e : Env}, e[5]? = some (some (.val (mkR m ts))) → RE (S := DrS) L (rVar 5) e (has m ts) := fun h => ⟨_, _, Det.var h, c2, o2, d2⟩
  have z1 := days_len L n rs
  have z2 := days_len L m ts
  -- one or both
  refine Yes.seqSkip (b := _) (made_skip (L := L) hc (RE.or hc hL hL' (R1 rfl) (R2 rfl)) (sets_det (Det.ix0 (Det.var rfl)) (Det.ix1 (Det.var rfl)) (by omega)) (Det.var rfl) (wf_both hL) hL' fun x => ?_) ?_
  · show x % L ∈ _ ↔ _
    rw [mem_srt, nub_mem, List.mem_append, days_at hL dn, days_at hL dm]
  refine Yes.seqSkip (made_skip (L := L) hc (RE.and hc hL hL' (R1 rfl) (R2 rfl)) (part_det (Det.ix0 (Det.var rfl)) (by omega) (fun _ => rfl) fun _ => Det.ix1 (Det.var rfl)) (Det.var rfl) (wf_sub hL (List.filter_sublist.trans (days_sub L n rs))) hL' fun x => ?_) ?_
  · show x % L ∈ _ ↔ _
    rw [List.mem_filter, days_at hL dn]
    simp only [Bool.false_eq_true, if_false, decide_eq_true_iff, days_at hL dm]
  refine Yes.seqSkip (made_skip (L := L) hc (RE.sub hc hL hL' (R1 rfl) (R2 rfl)) (part_det (Det.ix0 (Det.var rfl)) (by omega) (fun _ => rfl) fun _ => Det.ix1 (Det.var rfl)) (Det.var rfl) (wf_sub hL (List.filter_sublist.trans (days_sub L n rs))) hL' fun x => ?_) ?_
  · show x % L ∈ _ ↔ _
    rw [List.mem_filter, days_at hL dn]
    simp only [if_true, Bool.not_eq_true', decide_eq_false_iff_not, days_at hL dm]
  -- within
  obtain ⟨b, B, hb⟩ := RE.within (env := Rd9 ns tn n m rs ts (.str sn) L x6 x10 x11 x12) hc ⟨hL, hL'⟩ ⟨hL, hL'⟩ (R1 rfl) (R2 rfl)
  obtain ⟨b2, B2, hb2⟩ := withinK (env := Rd9 ns tn n m rs ts (.str sn) L x6 x10 x11 x12) hc ⟨hL, hL'⟩ ⟨hL, hL'⟩ (R2 rfl) (R1 rfl)
  have N1 := nil_det (S := DrS) (env := Rd9 ns tn n m rs ts (.str sn) L x6 x10 x11 x12) (part_det (neg := true) (Det.ix0 (Det.var (i := 9) rfl)) (by omega) (fun _ => rfl) fun _ => Det.ix1 (Det.var (i := 9) rfl))
  have N2 := nil_det (S := DrS) (env := Rd9 ns tn n m rs ts (.str sn) L x6 x10 x11 x12) (part_det (neg := true) (Det.ix1 (Det.var (i := 9) rfl)) (by omega) (fun _ => rfl) fun _ => Det.ix0 (Det.var (i := 9) rfl))
  rw [show decide (((daysOf L n rs).filter fun x => if true then !decide (x ∈ daysOf L m ts) else decide (x ∈ daysOf L m ts)) = []) = b from Bool.eq_iff_iff.mpr (by rw [hb, decide_eq_true_iff, nil_iff hL dn dm])] at N1
  rw [show decide (((daysOf L m ts).filter fun x => if true then !decide (x ∈ daysOf L n rs) else decide (x ∈ daysOf L n rs)) = []) = b2 from Bool.eq_iff_iff.mpr (by rw [hb2, decide_eq_true_iff, nil_iff hL dm dn])] at N2
  refine Yes.seqSkip (DetT.same (bl_shw b) B N1) ?_
  refine Yes.seqSkip (DetT.same (bl_shw b2) B2 N2) ?_
  -- shifted
  refine Yes.seq (Yes.set (P := IsInt) (pick_ints (n := 5) rfl (consY intY (consY intY (consY (fun s => ⟨_, s, rfl, _, rfl⟩) (consY (subY (takeY rfl (by decide) (by decide)) intY) (consY (fun s => ⟨_, s, rfl, _, rfl⟩) nilY))))) (by decide) (by decide))) ?_
  rintro _ ⟨_, ⟨k, rfl⟩, rfl⟩
  have hlr : (rs.map D.int).length ≤ sizeLine := by rw [List.length_map]; exact sz3 (by omega)
  refine Yes.seqSet (x := .lst ((srt (rs.map fun r => (r + k) % n)).map .int)) (Det.call1 (x := .lst ((rs.map fun r => (r + k) % n).map .int)) (fun s => cmp_of (s1 := s) (xs := rs.map .int) ?_ hlr ?_) fun s => sortD_ints) ?_
  · rw [iSq_run, Det.tx1 (Det.ix0 (Det.var rfl)) s]; rfl
  · rw [cmpL_intsM (fun r => .int ((r + k) % n)) fun r hr => ?_, List.map_map]
    · rfl
    · exact Det.mod (Det.call1 (x := .int (r + k)) (Det.add (Det.var rfl) (Det.var rfl)) fun s => rfl) (Det.tx0 (Det.ix0 (Det.var rfl))) (by omega) s
  have w3 := wf_shift w1 k
  have w4 : Wf n (srt (rs.map fun r => (r + k) % n)) := ⟨n1, fun r hr => w3.lt r (mem_srt.mp hr), (srt_perm _).nodup_iff.mpr w3.nd⟩
  refine Yes.seqSkip (made_skip (L := L) hc (RE.shr hc hL hL' (R1 rfl) (Det.var (i := 11) rfl)) (Det.var (i := 12) rfl) (Det.tx0 (Det.ix0 (Det.var (i := 3) rfl))) w4 (by omega) fun x => ?_) ?_
  · show x % n ∈ _ ↔ _
    rw [mem_srt]; exact has_shift w1 k x
  -- days
  refine Yes.seq (I := fun e => ∃ x10 : Option Slot, e = Rd9 ns tn n m rs ts (.str sn) L x6 x10 (some (.val (.int k))) (some (.val (.lst ((srt (rs.map fun r => (r + k) % n)).map .int))))) ?_ ?_
  · show Yes (sFor _ _ _ _) _
    refine Yes.bind (P := fun ds => ∀ d ∈ ds, IsInt d) (fun s => ?_) fun ds hd => ?_
    · obtain ⟨ds, s1, e1, hl3, hp⟩ := (consY (subY (takeY rfl (by decide) (by decide)) intY) (consY (subY (fun s => ⟨_, s, rfl, _, rfl⟩) (takeY rfl (by decide) (by decide))) (consY (subY intY (takeY rfl (by decide) (by decide))) nilY)) : Yes (aCons (bin subD (cal (sem__law_take cells) [] 2 (aCons (rVar 1) (aCons (rC (.int 400)) aNil))) (rC (.int 200))) (aCons (bin subD (bin powD (rC (.int 10)) (rC (.int 6))) (cal (sem__law_take cells) [] 2 (aCons (rVar 1) (aCons (rC (.int 99)) aNil)))) (aCons (bin subD (rC (.int 0)) (cal (sem__law_take cells) [] 2 (aCons (rVar 1) (aCons (rC (.int 9)) aNil)))) aNil)) (Rd9 ns tn n m rs ts (.str sn) L x6 x10 (some (.val (.int k))) (some (.val (.lst ((srt (rs.map fun r => (r + k) % n)).map .int)))))) _) s
      exact ⟨ds, s1, iSq_of (lstD_of e1 (by rw [hl3]; decide)), hp⟩
    refine Yes.loop _ ?_ ⟨x10, rfl⟩
    rintro d hdm _ ⟨y10, rfl⟩
    obtain ⟨x, rfl⟩ := hd d hdm
    refine Yes.mono (Yes.of fun s => gNm_run) ?_
    rintro _ rfl
    obtain ⟨c, C, hcc⟩ := RE.in_ (cs := cs) (env := Rd9 ns tn n m rs ts (.str sn) L x6 (some (.val (.int x))) (some (.val (.int k))) (some (.val (.lst ((srt (rs.map fun r => (r + k) % n)).map .int))))) (Det.var (S := DrS) (i := 10) rfl) (R1 rfl)
    have H := Det.has (S := DrS) (env := Rd9 ns tn n m rs ts (.str sn) L x6 (some (.val (.int x))) (some (.val (.int k))) (some (.val (.lst ((srt (rs.map fun r => (r + k) % n)).map .int))))) (n := n) (rs := rs) (by omega) (Det.ix0 (Det.var (i := 3) rfl)) (Det.var (i := 10) (d := .int x) rfl)
    rw [show decide (has n rs x) = c from Bool.eq_iff_iff.mpr (by rw [hcc, decide_eq_true_iff])] at H
    refine Yes.mono (Yes.skip (DetT.same (bl_shw c) C H)) ?_
    rintro _ ⟨_, rfl, rfl⟩
    exact ⟨_, rfl, _, rfl⟩
  rintro _ ⟨y10, rfl⟩
  -- what is no number
  refine Yes.seqSkip (odd_det hc (by omega) (fun _ => rfl) (fun _ => rfl) rfl) ?_
  refine Yes.mono (Yes.skip (DetT.as (Det.bin (seen rfl rfl) (Det.var rfl) fun s => (hsn s).2))) ?_
  rintro _ ⟨_, rfl, rfl⟩
  exact ⟨_, rfl, _, _, _, _, _, _, _, _, _, _, _, rfl⟩
end DL
set_option Elab.async false
set_option linter.all false
set_option maxRecDepth 100000
set_option maxHeartbeats 1000000
set_option autoImplicit false
/-! k03: the plain law, what stands behind the rounds; the whole -/
namespace DL
open PySem PySem.Spec PyProof.Rows L2 Rh
section
variable {S : Type} {s : S} {cs : List Str} {env : Env}
theorem sFz_run3 {is : List Nat} {τ : Env → M S Flw} {e : Env} (h : frzE is env = some e) : sFz is τ env s = τ e s := by
  unfold sFz; rw [h]
theorem cau_err3 {xs : List Str} {τ : Env → M S D} {c : Str} {fs : List (Str × D)} {s1 : S} (h : τ (hide env) s = .err (.exc c fs) s1) (hc : c ∈ xs) : cau xs τ env s = .ok (.exc c fs) s1 := by
  unfold cau
  rw [h]
  exact if_pos hc
theorem cau_ok3 {xs : List Str} {τ : Env → M S D} {d : D} {s1 : S} (h : τ (hide env) s = .ok d s1) : cau xs τ env s = .ok .non s1 := by
  unfold cau
  rw [h]
theorem sApp_of3 {i : Nat} {τ : Env → M S D} {ds : List D} {d : D} {s1 : S} (hi : env[i]? = some (some (.own ds))) (hl : ds.length < 100000) (h : τ env s = .ok d s1) : sApp i τ env s = .ok (.nx (env.set i (some (.own (ds ++ [d]))))) s1 := by
  unfold sApp
  rw [hi]
  show (Res.bind (τ env s) _ : Res S Flw) = _
  rw [h, Res.bind_ok]
  simp only [hi]
  exact congrFun (grd_pos (m := (pure (.nx _) : M S Flw)) (show ds.length < sizeLine by rw [sizeLine_eq]; omega)) s1
/-- the rhythm of one day of a round -/
theorem one_mk {a : Int} (h : 2 ≤ a ∧ a ≤ 2999) : mkR a [1] = rhD a [1] := by
  obtain ⟨e1, e2⟩ := can_form (single_can (n := a) (x := 1) (by decide) (by omega))
  unfold mkR; rw [e1, e2]
theorem one_det {τ : Env → M S D} {a : Int} (h : 2 ≤ a ∧ a ≤ 2999) (ht : Det τ env (.int a)) : Det (mk "Rhythm" (sem_Rhythm___init__ cs) [] 2 (aCons τ (aCons (lstD (aCons (rC (.int 1)) aNil)) aNil))) env (rhD a [1]) := fun s => by
  have w : Wf a [1] := (single_can (n := a) (x := 1) (by decide) (by omega)).wf
  rw [← one_mk h]
  exact mk_rh (rs := [1]) (th := .lst ([1].map .int)) (aCons_of (ht s) (aCons_of (s1 := s) rfl rfl)) (.inl rfl) ⟨wfB_iff.mpr w, by omega, by decide⟩
theorem none_wf {a : Int} (h : 2 ≤ a ∧ a ≤ 2999) : Wf a [] := ⟨by omega, by simp, List.nodup_nil⟩
theorem none_det {τ : Env → M S D} {a : Int} (h : 2 ≤ a ∧ a ≤ 2999) (ht : Det τ env (.int a)) : Det (mk "Rhythm" (sem_Rhythm___init__ cs) [] 2 (aCons τ (aCons (lstD aNil) aNil))) env (mkR a []) := fun s => by
  exact mk_rh (rs := []) (th := .lst (([] : List Int).map .int)) (aCons_of (ht s) (aCons_of (s1 := s) rfl rfl)) (.inl rfl) ⟨wfB_iff.mpr (none_wf h), by omega, by decide⟩
end
theorem lcmI_comm3 (a b : Int) : lcmI a b = lcmI b a := by
  unfold lcmI
  rw [Int.gcd_comm b a, Int.mul_comm (a / _) b, ← Int.mul_ediv_assoc b (Int.gcd_dvd_left _ _), Int.mul_comm b a, Int.mul_ediv_assoc a (Int.gcd_dvd_right _ _), Int.mul_comm]
theorem re_det3 {S : Type} {τ : Env → M S D} {env : Env} {n : Int} {rs : List Int} (h : Det τ env (rhD n rs)) (c : Can n rs) : RE n τ env (has n rs) := ⟨n, rs, h, c, fun _ => Iff.rfl, Int.dvd_refl n⟩
def IsPair (d : D) : Prop := ∃ a b : Int, ((2 ≤ a ∧ a ≤ 2999) ∧ 2 ≤ b ∧ b ≤ 2999) ∧ d = .tup [.int a, .int b]
theorem pairY {S : Type} {env : Env} (a b : Int) (h : (2 ≤ a ∧ a ≤ 2999) ∧ 2 ≤ b ∧ b ≤ 2999) : Yes ((tupD (aCons (rC (.int a)) (aCons (rC (.int b)) aNil)) : Env → M S D) env) IsPair := fun s => ⟨_, s, tupD_of (aCons_of (s1 := s) rfl (aCons_of (s1 := s) rfl rfl)) (by show 2 ≤ _; decide), a, b, h, rfl⟩
abbrev T22 (ns : List Int) (x2 x3 x4 x5 x6 x7 x8 x9 x10 x11 x12 x15 x16 x17 x18 x19 x20 x21 : Option Slot) : Env := [some (.val (.scr ns)), some (.val (.hnd 0)), x2, x3, x4, x5, x6, x7, x8, x9, x10, x11, x12, none, none, x15, x16, x17, x18, x19, x20, x21]
abbrev vl (d : D) : Option Slot := some (.val d)
theorem within_one {a b : Int} (ha : 2 ≤ a ∧ a ≤ 2999) (hb : 2 ≤ b ∧ b ≤ 2999) : (∀ x, has a [1] x → has b [1] x) ↔ a % b = 0 := by
  constructor
  · intro h
    have h1 : has a [1] (1 + a) := by
      show (1 + a) % a ∈ [1]
      rw [Int.add_emod_right, Int.emod_eq_of_lt (by decide) (by omega)]; simp
    have h2 : (1 + a) % b ∈ [1] := h _ h1
    have h2 : (1 + a) % b = 1 := by simpa using h2
    have e : (1 + a - 1) % b = 0 := by
      rw [Int.sub_emod, h2, Int.emod_eq_of_lt (a := 1) (by decide) (by omega)]; rfl
    have e1 : 1 + a - 1 = a := by omega
    rwa [e1] at e
  · intro h x hx
    have hx : x % a = 1 := by simpa [has] using hx
    show x % b ∈ [1]
    have d : b ∣ a := Int.dvd_of_emod_eq_zero h
    have e : x % a % b = x % b := Int.emod_emod_of_dvd x d
    rw [← e, hx, Int.emod_eq_of_lt (by decide) (by omega)]; simp
/-- one of the three works -/
theorem work_ok {cs : List Str} (hc : ("Rhythm" : Str) ∈ cs) (cells : List Int) {a b : Int} (ha : 2 ≤ a ∧ a ≤ 2999) (hb : 2 ≤ b ∧ b ≤ 2999) {env : Env} (h : (hide env)[15]? = some (vl (.lst [rhD a [1], rhD b [1]]))) {i : Nat} (hi : i < 3) (s : DrS) :
    ∃ τ, (lamR cs cells)[i]? = some τ ∧ cau ["BadRhythm"] τ env s = .ok (if 3000 < lcmI a b then xSize else .non) s := by
  have h0 : ∀ s : DrS, (bin ixD (rVar 15) (rC (.int 0)) : Env → M DrS D) (hide env) s = .ok (rhD a [1]) s := fun s => bin_of (s1 := s) (s2 := s) (rVar_run h) rfl rfl
  have h1 : ∀ s : DrS, (bin ixD (rVar 15) (rC (.int 1)) : Env → M DrS D) (hide env) s = .ok (rhD b [1]) s := fun s => bin_of (s1 := s) (s2 := s) (rVar_run h) rfl rfl
  have ka : okR cs a := ⟨by omega, by omega, hc⟩
  have kb : okR cs b := ⟨by omega, by omega, hc⟩
  have fin : ∀ (τ : Env → M DrS D) (r : Res DrS D), τ (hide env) s = r → (if 3000 < lcmI a b then r = .err xSize s else ∃ d, r = .ok d s) → cau ["BadRhythm"] τ env s = .ok (if 3000 < lcmI a b then xSize else .non) s := fun τ r e q => by
    by_cases hl : 3000 < lcmI a b
    · rw [if_pos hl] at q ⊢
      exact cau_err3 (e.trans q) (by decide)
    · rw [if_neg hl] at q ⊢
      obtain ⟨d, q⟩ := q
      exact cau_ok3 (e.trans q)
  have o1 := orX (S := DrS) cs a b [1] [1] s ka kb
  have o2 := andX (S := DrS) cs a b [1] [1] s ka kb
  have o3 := subX (S := DrS) cs b a [1] [1] s kb ka
  rw [show lcmI b a = lcmI a b from lcmI_comm3 _ _] at o3
  have hr : i = 0 ∨ i = 1 ∨ i = 2 := by omega
  rcases hr with rfl | rfl | rfl
  · exact ⟨_, rfl, fin _ _ (by rw [bin_run, h0 s, Res.bind_ok, h1 s, Res.bind_ok]; rfl) o1⟩
  · exact ⟨_, rfl, fin _ _ (by rw [bin_run, h0 s, Res.bind_ok, h1 s, Res.bind_ok]; rfl) o2⟩
  · exact ⟨_, rfl, fin _ _ (by rw [bin_run, h1 s, Res.bind_ok, h0 s, Res.bind_ok]; rfl) o3⟩
theorem tail_yes {cs : List Str} (hc : ("Rhythm" : Str) ∈ cs) (cells ns : List Int) {x2 x3 x4 x5 x6 x7 x8 x9 x10 x11 x12 : Option Slot} : Yes (tailK cs cells (Rnd ns x2 x3 x4 x5 x6 x7 x8 x9 x10 x11 x12)) fun f => f = .rt (.bl true) := by
  unfold tailK
  show Yes (sSeq _ _ (T22 ns x2 x3 x4 x5 x6 x7 x8 x9 x10 x11 x12 none none none none none none none)) _
  refine Yes.seq (Yes.set (P := fun d => ∃ a b : Int, ((2 ≤ a ∧ a ≤ 2999) ∧ 2 ≤ b ∧ b ≤ 2999) ∧ d = .lst [rhD a [1], rhD b [1]]) ?_) ?_
  · intro s
    obtain ⟨_, s1, e1, a, b, hab, rfl⟩ := (pick_ints (cells := cells) (i := 1) (n := 5) (P := IsPair) (env := T22 ns x2 x3 x4 x5 x6 x7 x8 x9 x10 x11 x12 none none none none none none none) rfl (consY (pairY 59 53 (by decide)) (consY (pairY 60 53 (by decide)) (consY (pairY 60 84 (by decide)) (consY (pairY 1000 1500 (by decide)) (consY (pairY 2999 2 (by decide)) nilY))))) (by decide) (by decide)) s
    refine ⟨_, s1, cmp_of (s1 := s1) (s2 := s1) (xs := [.int a, .int b]) (ys := [rhD a [1], rhD b [1]]) ?_ (by show 2 ≤ _; decide) ?_, a, b, hab, rfl⟩
    · rw [iSq_run, e1]; rfl
    · show (mk "Rhythm" (sem_Rhythm___init__ cs) [] 2 _ _ s1).bind _ = _
      rw [one_det hab.1 (Det.var rfl) s1]
      show Res.bind (Res.bind (mk "Rhythm" (sem_Rhythm___init__ cs) [] 2 _ _ s1) _) _ = _
      rw [one_det hab.2 (Det.var rfl) s1]
      rfl
  rintro _ ⟨_, ⟨a, b, ⟨ha, hb⟩, rfl⟩, rfl⟩
  have sz : ∀ (i : Int) (c : Int) (e : Env), e[15]? = some (vl (.lst [rhD a [1], rhD b [1]])) → (∀ s : DrS, (ixD (.lst [rhD a [1], rhD b [1]]) (.int i) : M DrS D) s = .ok (rhD c [1]) s) → Det (S := DrS) (prp "Rhythm" sem_Rhythm_size (bin ixD (rVar 15) (rC (.int i)))) e (.int c) := fun i c e he hi s => prp_size (bin_of (s1 := s) (s2 := s) (rVar_run he) rfl (hi s))
  refine Yes.seqSet (x := .bl (decide (3000 < lcmI a b))) ?_ ?_
  · refine Det.bin (x := .int (lcmI a b)) (Det.cal2 (sz 0 a _ rfl fun s => rfl) (sz 1 b _ rfl fun s => rfl) fun s => lcm_run (by omega) (by omega) (by omega)) Det.c fun s => ?_
    rfl
  refine Yes.seq (I := fun e => e = T22 ns x2 x3 x4 x5 x6 x7 x8 x9 x10 x11 x12 (vl (.lst [rhD a [1], rhD b [1]])) (vl (.bl (decide (3000 < lcmI a b)))) (some (.own [.fn 0])) none none none none) (fun s => ⟨_, s, rfl, _, rfl, rfl⟩) ?_
  rintro _ rfl
  refine Yes.seq (I := fun e => e = T22 ns x2 x3 x4 x5 x6 x7 x8 x9 x10 x11 x12 (vl (.lst [rhD a [1], rhD b [1]])) (vl (.bl (decide (3000 < lcmI a b)))) (some (.own [.fn 0, .fn 1])) none none none none) (fun s => ⟨_, s, sApp_of3 (ds := [.fn 0]) rfl (by decide) rfl, _, rfl, rfl⟩) ?_
  rintro _ rfl
  refine Yes.seq (I := fun e => e = T22 ns x2 x3 x4 x5 x6 x7 x8 x9 x10 x11 x12 (vl (.lst [rhD a [1], rhD b [1]])) (vl (.bl (decide (3000 < lcmI a b)))) (some (.own [.fn 0, .fn 1, .fn 2])) none none none none) (fun s => ⟨_, s, sApp_of3 (ds := [.fn 0, .fn 1]) rfl (by decide) rfl, _, rfl, rfl⟩) ?_
  rintro _ rfl
  refine Yes.seq (I := fun e => ∃ p q : Int, ((2 ≤ p ∧ p ≤ 2999) ∧ 2 ≤ q ∧ q ≤ 2999) ∧ e = T22 ns x2 x3 x4 x5 x6 x7 x8 x9 x10 x11 x12 (vl (.lst [rhD a [1], rhD b [1]])) (vl (.bl (decide (3000 < lcmI a b)))) (vl (.lst [.fn 0, .fn 1, .fn 2])) (vl (.tup [.int p, .int q])) none none none) (fun s => ?_) ?_
  · obtain ⟨_, s1, e1, p, q, hpq, rfl⟩ := (pick_ints (cells := cells) (i := 1) (n := 4) (P := IsPair) (env := T22 ns x2 x3 x4 x5 x6 x7 x8 x9 x10 x11 x12 (vl (.lst [rhD a [1], rhD b [1]])) (vl (.bl (decide (3000 < lcmI a b)))) (vl (.lst [.fn 0, .fn 1, .fn 2])) none none none none) rfl (consY (pairY 59 53 (by decide)) (consY (pairY 60 84 (by decide)) (consY (pairY 2999 2 (by decide)) (consY (pairY 100 50 (by decide)) nilY)))) (by decide) (by decide)) s
    exact ⟨_, s1, (sFz_run3 (e := T22 ns x2 x3 x4 x5 x6 x7 x8 x9 x10 x11 x12 (vl (.lst [rhD a [1], rhD b [1]])) (vl (.bl (decide (3000 < lcmI a b)))) (vl (.lst [.fn 0, .fn 1, .fn 2])) none none none none) rfl).trans (asg_of e1), _, rfl, p, q, hpq, rfl⟩
  rintro _ ⟨p, q, ⟨hp, hq⟩, rfl⟩
  -- within
  have P0 : ∀ {e : Env}, e[18]? = some (vl (.tup [.int p, .int q])) → Det (S := DrS) (bin ixD (rVar 18) (rC (.int 0))) e (.int p) := fun h => Det.tx0 (Det.var h)
  have P1 : ∀ {e : Env}, e[18]? = some (vl (.tup [.int p, .int q])) → Det (S := DrS) (bin ixD (rVar 18) (rC (.int 1))) e (.int q) := fun h => Det.tx1 (Det.var h)
  have cp := single_can (n := p) (x := 1) (by decide) (by omega)
  have cq := single_can (n := q) (x := 1) (by decide) (by omega)
  obtain ⟨b1, B1, hb1⟩ := RE.within (S := DrS) (env := T22 ns x2 x3 x4 x5 x6 x7 x8 x9 x10 x11 x12 (vl (.lst [rhD a [1], rhD b [1]])) (vl (.bl (decide (3000 < lcmI a b)))) (vl (.lst [.fn 0, .fn 1, .fn 2])) (vl (.tup [.int p, .int q])) none none none) hc ⟨by omega, by omega⟩ ⟨by omega, by omega⟩ (re_det3 (one_det (cs := cs) hp (P0 rfl)) cp) (re_det3 (one_det (cs := cs) hq (P1 rfl)) cq)
  obtain ⟨f1, f2, f3⟩ := mk_can (A := fun _ => False) (L := p) (none_wf hp) (Int.dvd_refl p) fun x => by simp [has]
  obtain ⟨b2, B2, hb2⟩ := RE.within (S := DrS) (env := T22 ns x2 x3 x4 x5 x6 x7 x8 x9 x10 x11 x12 (vl (.lst [rhD a [1], rhD b [1]])) (vl (.bl (decide (3000 < lcmI a b)))) (vl (.lst [.fn 0, .fn 1, .fn 2])) (vl (.tup [.int p, .int q])) none none none) hc ⟨by omega, by omega⟩ ⟨by omega, by omega⟩ (M1 := p) (A := fun _ => False) ⟨_, _, none_det (cs := cs) hp (P0 rfl), f1, f2, f3⟩ (re_det3 (one_det (cs := cs) hq (P1 rfl)) cq)
  have t2 : b2 = true := hb2.mpr fun x hx => hx.elim
  have t1 : b1 = decide (p % q = 0) := Bool.eq_iff_iff.mpr (by rw [hb1, decide_eq_true_iff, within_one hp hq])
  subst t2
  refine Yes.seqSet (x := .lst [.bl b1, .bl true]) (lstD_det (aCons_det B1 (aCons_det B2 aNil_det)) (by simp)) ?_
  have hs2 : Shw (.lst [.bl b1, .bl true]) := (Pln.lst (PlnL.cons Pln.bl (PlnL.cons Pln.bl PlnL.nil))).shw (by decide) (by decide)
  refine Yes.seqSkip (DetT.same hs2 (Det.var rfl) (lstD_det (aCons_det ?_ (aCons_det Det.c aNil_det)) (by simp))) ?_
  · rw [t1]
    exact Det.bin (x := .int (p % q)) (Det.mod (P0 rfl) (P1 rfl) (by omega)) Det.c fun s => by rw [eqD_int]; congr 2
  -- the works
  refine Yes.seq (I := fun e => True) ?_ fun e _ => fun s => ⟨_, s, rfl, rfl⟩
  have hI : Yes (sFor (iSq (rVar 17)) (gNm 20) (sSeq (sAsg (cauV ["BadRhythm"] (lamR cs cells) (rVar 20)) (gNm 21)) (sIf (orT (asT (bin (eqD true) (bin (isXD true) (rVar 21) (rC .non)) (rVar 16))) (andT (asT (rVar 16)) (orT (notT (asT (isiX (tb_kit_xty_BadRhythm cs) tbx_BadRhythm (rVar 21)))) (asT (bin (eqD true) (xfD ["BadRhythm"] "part" (rVar 21)) (rC (.str "size"))))))) (sRet (rC (.bl false))) sNx)) (T22 ns x2 x3 x4 x5 x6 x7 x8 x9 x10 x11 x12 (vl (.lst [rhD a [1], rhD b [1]])) (vl (.bl (decide (3000 < lcmI a b)))) (vl (.lst [.fn 0, .fn 1, .fn 2])) (vl (.tup [.int p, .int q])) (vl (.lst [.bl b1, .bl true])) none none)) fun f => ∃ e, f = .nx e ∧ ∃ x20 x21, e = T22 ns x2 x3 x4 x5 x6 x7 x8 x9 x10 x11 x12 (vl (.lst [rhD a [1], rhD b [1]])) (vl (.bl (decide (3000 < lcmI a b)))) (vl (.lst [.fn 0, .fn 1, .fn 2])) (vl (.tup [.int p, .int q])) (vl (.lst [.bl b1, .bl true])) x20 x21 := by
    refine Yes.bind (P := fun ds => ds = [.fn 0, .fn 1, .fn 2]) (fun s => ⟨_, s, rfl, rfl⟩) fun ds hd => ?_
    subst hd
    refine Yes.loop _ ?_ ⟨none, none, rfl⟩
    rintro d hdm _ ⟨y20, y21, rfl⟩
    refine Yes.mono (Yes.of fun s => gNm_run) ?_
    rintro _ rfl
    obtain ⟨i, hi, rfl⟩ : ∃ i : Nat, i < 3 ∧ d = .fn i := by
      simp only [List.mem_cons, List.not_mem_nil, or_false] at hdm
      rcases hdm with rfl | rfl | rfl
      · exact ⟨0, by decide, rfl⟩
      · exact ⟨1, by decide, rfl⟩
      · exact ⟨2, by decide, rfl⟩
    refine Yes.seqSet (x := if 3000 < lcmI a b then xSize else .non) (fun s => ?_) ?_
    · obtain ⟨τ, e1, e2⟩ := work_ok hc cells ha hb (env := T22 ns x2 x3 x4 x5 x6 x7 x8 x9 x10 x11 x12 (vl (.lst [rhD a [1], rhD b [1]])) (vl (.bl (decide (3000 < lcmI a b)))) (vl (.lst [.fn 0, .fn 1, .fn 2])) (vl (.tup [.int p, .int q])) (vl (.lst [.bl b1, .bl true])) (vl (.fn i)) y21) rfl hi s
      have e0 : (rVar 20 : Env → M DrS D) (T22 ns x2 x3 x4 x5 x6 x7 x8 x9 x10 x11 x12 (vl (.lst [rhD a [1], rhD b [1]])) (vl (.bl (decide (3000 < lcmI a b)))) (vl (.lst [.fn 0, .fn 1, .fn 2])) (vl (.tup [.int p, .int q])) (vl (.lst [.bl b1, .bl true])) (vl (.fn i)) y21) s = .ok (.fn i) s := rVar_run rfl
      show cauV _ _ _ (T22 ns x2 x3 x4 x5 x6 x7 x8 x9 x10 x11 x12 (vl (.lst [rhD a [1], rhD b [1]])) (vl (.bl (decide (3000 < lcmI a b)))) (vl (.lst [.fn 0, .fn 1, .fn 2])) (vl (.tup [.int p, .int q])) (vl (.lst [.bl b1, .bl true])) (vl (.fn i)) y21) s = _
      unfold cauV
      simp only [e0, e1]
      exact e2
    intro s
    refine ⟨_, s, ?_, _, rfl, vl (.fn i), vl (if 3000 < lcmI a b then xSize else .non), rfl⟩
    by_cases hl : 3000 < lcmI a b
    · rw [if_pos hl, decide_eq_true hl]; kernel_rfl
    · rw [if_neg hl, decide_eq_false hl]; kernel_rfl
  exact Yes.mono hI fun f ⟨e, he, _⟩ => ⟨e, he, trivial⟩
theorem law_yes {cs : List Str} (hc : ("Rhythm" : Str) ∈ cs) (cells ns : List Int) : Yes (rd_law cs cells (Rnd ns none none none none none none none none none none none)) fun f => f = .rt (.bl true) := by
  rw [rd_law_eq]
  refine Yes.seq (I := Round ns) ?_ ?_
  rotate_left
  · rintro _ ⟨x2, x3, x4, x5, x6, x7, x8, x9, x10, x11, x12, rfl⟩
    exact tail_yes hc cells ns
  show Yes (sFor _ _ _ _) _
  refine Yes.bind (P := fun _ => True) ?_ fun ds hd => ?_
  · intro s
    refine ⟨rngD 0 (5 + (if (20 : Int) < ns.length then (20 : Int) else (ns.length : Int))), s, ?_, trivial⟩
    refine Det.rng (j := 5 + (if (20 : Int) < ns.length then (20 : Int) else (ns.length : Int))) (Det.bin Det.c (y := .int (if (20 : Int) < ns.length then 20 else ns.length)) (Det.call2 (y := .int 20) (Det.call1 (z := .int ns.length) (Det.var rfl) fun s => rfl) Det.c fun s => rfl) fun s => addD_int) ?_ s
    split <;> omega
  refine Yes.loop _ ?_ ⟨_, _, _, _, _, _, _, _, _, _, _, rfl⟩
  rintro tn - _ ⟨x2, x3, x4, x5, x6, x7, x8, x9, x10, x11, x12, rfl⟩
  refine Yes.mono (Yes.of fun s => gNm_run) ?_
  rintro _ rfl
  exact round_yes hc cells ns
end DL
set_option Elab.async false
set_option linter.all false
set_option maxRecDepth 100000
set_option maxHeartbeats 4000000
set_option autoImplicit false
/-! DL: a tuple many times (the library's op_repT with other bounds); C() with a default -/
namespace DL
open PySem PySem.Spec PyProof.Rows L2
end DL
set_option Elab.async false
set_option linter.all false
set_option maxRecDepth 100000
set_option maxHeartbeats 400000
set_option autoImplicit false
/-! DL: defs that ask for repr, and calls of them, where no repr is under way -/
namespace DL
open PySem PySem.Spec PyProof.Rows L2
section
variable {X : Cx} {CX : CXT} {k : Nat} {f : Addr} {fd : FuncData} {ps : List Str} {sp : Sp} {ds : List Value} {dvs : List V} {E : XK} {x : Str} {p pos : Pos} {e : Expr} {es : List Expr} {t : TA}
theorem run_fnG (hgd : X.A.guards = some []) {pins : List (Addr × Obj)} {σ : L2.St} {H : Hp} {s : Shared} {Q : VK} {us : List Value} {vs : List V} (F : FnG X.prog X.w X.K X.mg X.base CX k f fd ps sp) (hr : Room k X.A) (hb : Binds X.K fd ps ds) (hd : Vals dvs ds) (hx : Passes CX X E)
    (I : Inv X pins σ H s) (r : Vals vs us) (h : sp (vs ++ dvs) H Q E) : wpAny (model X.prog X.w) X.A (call (.ref f) us) (EP X pins σ Q) X.xe s := by
  have r2 : Vals (vs ++ dvs) (us ++ ds) := r.append hd
  have hl : (us ++ ds).length = ps.length := by rw [← r2.length]; exact F.len _ _ _ _ h
  refine wpAny_call (codeAny_mono (F.run X.A X.stack s H ⟨us, []⟩ (us ++ ds) (vs ++ dvs) Q E hgd hr I.env0 (hb s us I.kIn hl) r2 h) fun r s' hq => ?_)
  cases r with
  | error e => exact hx pins σ H s e s' I hq
  | ok fl =>
    cases fl with
    | ret u => exact I.after hq
    | next => exact False.elim hq
    | brk => exact False.elim hq
    | cont => exact False.elim hq
theorem pe_callG (hgd : X.A.guards = some []) (F : FnG X.prog X.w X.K X.mg X.base CX k f fd ps sp) (hr : Room k X.A) (hg : Gl X x) (hm : X.mg x = some (.ref f)) (hk : PySem.W.keepIn X.K (.ref f) = true) (hb : Binds X.K fd ps ds) (hd : Vals dvs ds) (hx : Passes CX X E)
    (ha : PA X (e :: es) t) (hdb : (x == ("__debug__" : Str)) = false := by decide) (he : starEach (e :: es) X.env = (false, eval e X.env) :: starEach es X.env := by rfl) (hpl : (backTo pos (starEach es X.env)).any (·.1) = false := by rfl) :
    PE X (.Call (.Name x p) (e :: es) [] pos) (tCall sp dvs E t) := by
  refine ⟨fun pins s σ H Q I h => ?_⟩
  refine wpAny_Call_Name_kw (ld_glob I hg hm ?_ hdb)
  refine PySem.W.callWith_K (h₀ := X.base) I.ok.mod.kin hk (thn (ha.run pos pins s σ H _ I h) fun us s1 ⟨vs, H1, I1, r, q⟩ => ⟨I1.kIn, ?_⟩) he hpl
  exact run_fnG hgd F hr hb hd hx I1 r q
end
section
variable {S : Type} {X : Cx} {F : Fx S} {k n : Nat} {f : Addr} {fd : FuncData} {ps : List Str} {sem : List D → M S D} {dv : List D} {dvs : List V} {ds : List Value} {x : Str} {p pos : Pos} {e : Expr} {es : List Expr} {α : Env → M S (List D)}
theorem de_callG (hgd : X.A.guards = some []) (G : FnG X.prog X.w X.K X.mg X.base (L2.CX X.prog X.w) k f fd ps (spD F.toCc n sem)) (tk : Takes X F.wish) (hr : Room k X.A) (hg : Gl X x) (hm : X.mg x = some (.ref f)) (hk : PySem.W.keepIn X.K (.ref f) = true) (hb : Binds X.K fd ps ds) (hd : Vals dvs ds) (dr : DfR F.toCc dv dvs)
    (ha : PA X (e :: es) (tA F α)) (hdb : (x == ("__debug__" : Str)) = false := by decide) (he : starEach (e :: es) X.env = (false, eval e X.env) :: starEach es X.env := by rfl) (hpl : (backTo pos (starEach es X.env)).any (·.1) = false := by rfl) :
    PE X (.Call (.Name x p) (e :: es) [] pos) (tE F (cal sem dv n α)) := pe_mono (pe_callG hgd G hr hg hm hk hb hd (passes_F tk) ha hdb he hpl) (tCall_of dr)
end
section
variable {S : Type} {P : Program} {w : World} {K : PySem.W.Frag} {mg : Str → Option Value} {base : Heap} {x qual : Str} {stm : Stmt} {f : Addr} {fd : FuncData} {N ps : List Str} {k : Nat}
theorem fn_bodyG {C : Cc S} {rd : Env → M S Flw} {sem : List D → M S D} (Fn : Fun K x qual stm f fd) (Sc : FnScope N ps (defScope stm)) (hsem : Rfn sem (runB rd N))
    (hb : ∀ (cdv : Value) (A : Around) (outer : List PySem.Env) (s : Shared) (H G : Hp) (E : XK), A.guards = some [] → Room k (A.deeper (envOfC qual (defScope stm) s.heap.objs.size f cdv)) →
      PSs (cxOf (L2.CX P w) P w K mg base N qual (defScope stm) f cdv A outer s H E) (defBody stm) (tS (fxOf C G H E) rd)) : FnG P w K mg base (L2.CX P w) (k + 1) f fd ps (spD C ps.length sem) := by
  refine fun_okG Fn Sc (spD_len rfl) fun cdv A outer s H vs Q E hgd hr h => ?_
  obtain ⟨hl, G, ds, st, g, r, p⟩ := spD_imp hsem vs H Q E h
  refine ⟨_, hb cdv A outer s H G E hgd hr, G, startE N ds, st, ⟨Ext.refl _ _ _, g, repEnv_start r⟩, ?_⟩
  unfold runB at p
  cases q : rd (startE N ds) st with
  | stk => rw [q] at p; exact p
  | err e s' => rw [q] at p; exact fun cls dd σ' G' H' _ ex gd rx => p cls dd G' H' ex gd rx
  | ok fl s' =>
    rw [q] at p
    cases fl with
    | nx e => exact fun σ' G' H' _ st' => p .non G' H' st'.ext st'.gd rfl
    | rt d => exact fun v G' H' _ ex gd rv => p v G' H' ex gd rv
    | bk e => exact p.elim
    | ct e => exact p.elim
end
end DL
set_option Elab.async false
set_option linter.all false
set_option maxRecDepth 100000
set_option maxHeartbeats 4000000
set_option autoImplicit false
namespace DL
open PySem PySem.Spec PyProof.Rows L2 Rh
abbrev NE__law_mixed : List Str := ["_law_draw", "_law_turn", "_law_found", "_law_prime", "_law_blend", "_law_cell"]
abbrev NE__law_take : List Str := ["_law_draw", "_law_many", "_law_found"]
abbrev NE__law_pick : List Str := ["_law_draw", "_law_some"]
abbrev NE__law_any_rhythm : List Str := ["_law_draw", "_law_size", "_law_way", "_law_rests", "_law_rest", "_law_part", "_law_one"]
abbrev NE_is_number : List Str := ["thing"]
abbrev NE_is_list : List Str := ["thing"]
abbrev NE_are_different : List Str := ["thing", "least", "most", "item"]
abbrev NE_repeats : List Str := ["size", "rests", "part", "rest"]
abbrev NE_least_form : List Str := ["size", "rests", "parts", "part", "rest"]
abbrev NE_Rhythm___init__ : List Str := ["self", "size", "rests"]
abbrev NE_Rhythm_size : List Str := ["self"]
abbrev NE_Rhythm_rests : List Str := ["self"]
abbrev NE__law_lcm : List Str := ["_law_one", "_law_due_one", "_law_found", "_law_turn"]
abbrev NE__law_has : List Str := ["_law_rhythm", "_law_day"]
abbrev NE__law_least : List Str := ["_law_rhythm", "_law_size", "_law_rests", "_law_part", "_law_moved", "_law_rest"]
abbrev NE__law_is_made : List Str := ["_law_told", "_law_days", "_law_size", "_law_due"]
abbrev NE_common : List Str := ["one", "other", "left", "right"]
abbrev NE_Rhythm___contains__ : List Str := ["self", "day"]
abbrev NE_Rhythm___or__ : List Str := ["self", "other", "size", "day"]
abbrev NE_Rhythm___and__ : List Str := ["self", "other", "size", "day"]
abbrev NE_Rhythm___sub__ : List Str := ["self", "other", "size", "day"]
abbrev NE_Rhythm_within : List Str := ["self", "other", "day"]
abbrev NE_Rhythm___rshift__ : List Str := ["self", "number", "size", "rest"]
abbrev NE_Rhythm___init__X : List Str := ["self", "size", "rests"]
abbrev NE_Rhythm___or__X : List Str := ["self", "other", "size", "day"]
abbrev NE_Rhythm___and__X : List Str := ["self", "other", "size", "day"]
abbrev NE_Rhythm___sub__X : List Str := ["self", "other", "size", "day"]
theorem rfn__law_mixed {cells : List Int} : Rfn (S := DrS) (sem__law_mixed cells) (runB (rd__law_mixed cells) NE__law_mixed) := fun _ _ _ => rfl
theorem rfn__law_take {cells : List Int} : Rfn (S := DrS) (sem__law_take cells) (runB (rd__law_take cells) NE__law_take) := fun _ _ _ => rfl
theorem rfn__law_pick {cells : List Int} : Rfn (S := DrS) (sem__law_pick cells) (runB (rd__law_pick cells) NE__law_pick) := fun _ _ _ => rfl
theorem rfn__law_any_rhythm {cells : List Int} : Rfn (S := DrS) (sem__law_any_rhythm cells) (runB (rd__law_any_rhythm cells) NE__law_any_rhythm) := fun _ _ _ => rfl
theorem rfn__law_lcm {S : Type} : Rfn (S := S) (sem__law_lcm) (runB (rd__law_lcm) NE__law_lcm) := fun _ _ _ => rfl
theorem rfn__law_has {S : Type} : Rfn (S := S) (sem__law_has) (runB (rd__law_has) NE__law_has) := fun _ _ _ => rfl
theorem rfn__law_least {S : Type} : Rfn (S := S) (sem__law_least) (runB (rd__law_least) NE__law_least) := fun _ _ _ => rfl
theorem rfn__law_is_made {S : Type} {cs : List Str} : Rfn (S := S) (sem__law_is_made cs) (runB (rd__law_is_made cs) NE__law_is_made) := fun _ _ _ => rfl
theorem rfn_Rhythm___init__X {S : Type} {cs : List Str} : RfnI (S := S) (sem_Rhythm___init__X cs) (runI (rd_Rhythm___init__X cs) "Rhythm" NE_Rhythm___init__X) := fun _ _ _ => rfl
theorem rfn_Rhythm___or__X {S : Type} {cs : List Str} : Rfn (S := S) (sem_Rhythm___or__X cs) (runB (rd_Rhythm___or__X cs) NE_Rhythm___or__X) := fun _ _ _ => rfl
theorem rfn_Rhythm___and__X {S : Type} {cs : List Str} : Rfn (S := S) (sem_Rhythm___and__X cs) (runB (rd_Rhythm___and__X cs) NE_Rhythm___and__X) := fun _ _ _ => rfl
theorem rfn_Rhythm___sub__X {S : Type} {cs : List Str} : Rfn (S := S) (sem_Rhythm___sub__X cs) (runB (rd_Rhythm___sub__X cs) NE_Rhythm___sub__X) := fun _ _ _ => rfl
abbrev N_BadRhythm___init__ : List Str := ["self", "part"]
abbrev N__law_caught : List Str := ["_law_work", "_law_found", "_law_error"]
abbrev N__law_begun : List Str := ["_law_script", "_law_wide", "_law_cell"]
theorem sc__law_mixed : FnScope NE__law_mixed ["_law_draw"] (defScope s__law_mixed) := ⟨rfl, rfl, rfl, by decide +kernel, rfl, by decide +kernel, by decide +kernel⟩
theorem sc__law_take : FnScope NE__law_take ["_law_draw", "_law_many"] (defScope s__law_take) := ⟨rfl, rfl, rfl, by decide +kernel, rfl, by decide +kernel, by decide +kernel⟩
theorem sc__law_pick : FnScope NE__law_pick ["_law_draw", "_law_some"] (defScope s__law_pick) := ⟨rfl, rfl, rfl, by decide +kernel, rfl, by decide +kernel, by decide +kernel⟩
theorem sc__law_any_rhythm : FnScope NE__law_any_rhythm ["_law_draw"] (defScope s__law_any_rhythm) := ⟨rfl, rfl, rfl, by decide +kernel, rfl, by decide +kernel, by decide +kernel⟩
theorem sc_is_number : FnScope NE_is_number ["thing"] (defScope s_is_number) := ⟨rfl, rfl, rfl, by decide +kernel, rfl, by decide +kernel, by decide +kernel⟩
theorem sc_is_list : FnScope NE_is_list ["thing"] (defScope s_is_list) := ⟨rfl, rfl, rfl, by decide +kernel, rfl, by decide +kernel, by decide +kernel⟩
theorem sc_are_different : FnScope NE_are_different ["thing", "least", "most"] (defScope s_are_different) := ⟨rfl, rfl, rfl, by decide +kernel, rfl, by decide +kernel, by decide +kernel⟩
theorem sc_repeats : FnScope NE_repeats ["size", "rests", "part"] (defScope s_repeats) := ⟨rfl, rfl, rfl, by decide +kernel, rfl, by decide +kernel, by decide +kernel⟩
theorem sc_least_form : FnScope NE_least_form ["size", "rests"] (defScope s_least_form) := ⟨rfl, rfl, rfl, by decide +kernel, rfl, by decide +kernel, by decide +kernel⟩
theorem sc_Rhythm___init__ : FnScope NE_Rhythm___init__ ["self", "size", "rests"] (defScope s_Rhythm___init__) := ⟨rfl, rfl, rfl, by decide +kernel, rfl, by decide +kernel, by decide +kernel⟩
theorem sc_Rhythm_size : FnScope NE_Rhythm_size ["self"] (defScope s_Rhythm_size) := ⟨rfl, rfl, rfl, by decide +kernel, rfl, by decide +kernel, by decide +kernel⟩
theorem sc_Rhythm_rests : FnScope NE_Rhythm_rests ["self"] (defScope s_Rhythm_rests) := ⟨rfl, rfl, rfl, by decide +kernel, rfl, by decide +kernel, by decide +kernel⟩
theorem sc__law_lcm : FnScope NE__law_lcm ["_law_one", "_law_due_one"] (defScope s__law_lcm) := ⟨rfl, rfl, rfl, by decide +kernel, rfl, by decide +kernel, by decide +kernel⟩
theorem sc__law_has : FnScope NE__law_has ["_law_rhythm", "_law_day"] (defScope s__law_has) := ⟨rfl, rfl, rfl, by decide +kernel, rfl, by decide +kernel, by decide +kernel⟩
theorem sc__law_least : FnScope NE__law_least ["_law_rhythm"] (defScope s__law_least) := ⟨rfl, rfl, rfl, by decide +kernel, rfl, by decide +kernel, by decide +kernel⟩
theorem sc__law_is_made : FnScope NE__law_is_made ["_law_told", "_law_days", "_law_size"] (defScope s__law_is_made) := ⟨rfl, rfl, rfl, by decide +kernel, rfl, by decide +kernel, by decide +kernel⟩
theorem sc_common : FnScope NE_common ["one", "other"] (defScope s_common) := ⟨rfl, rfl, rfl, by decide +kernel, rfl, by decide +kernel, by decide +kernel⟩
theorem sc_Rhythm___contains__ : FnScope NE_Rhythm___contains__ ["self", "day"] (defScope s_Rhythm___contains__) := ⟨rfl, rfl, rfl, by decide +kernel, rfl, by decide +kernel, by decide +kernel⟩
theorem sc_Rhythm___or__ : FnScope NE_Rhythm___or__ ["self", "other"] (defScope s_Rhythm___or__) := ⟨rfl, rfl, rfl, by decide +kernel, rfl, by decide +kernel, by decide +kernel⟩
theorem sc_Rhythm___and__ : FnScope NE_Rhythm___and__ ["self", "other"] (defScope s_Rhythm___and__) := ⟨rfl, rfl, rfl, by decide +kernel, rfl, by decide +kernel, by decide +kernel⟩
theorem sc_Rhythm___sub__ : FnScope NE_Rhythm___sub__ ["self", "other"] (defScope s_Rhythm___sub__) := ⟨rfl, rfl, rfl, by decide +kernel, rfl, by decide +kernel, by decide +kernel⟩
theorem sc_Rhythm_within : FnScope NE_Rhythm_within ["self", "other"] (defScope s_Rhythm_within) := ⟨rfl, rfl, rfl, by decide +kernel, rfl, by decide +kernel, by decide +kernel⟩
theorem sc_Rhythm___rshift__ : FnScope NE_Rhythm___rshift__ ["self", "number"] (defScope s_Rhythm___rshift__) := ⟨rfl, rfl, rfl, by decide +kernel, rfl, by decide +kernel, by decide +kernel⟩
theorem sc_BadRhythm___init__ : FnScope N_BadRhythm___init__ ["self", "part"] (defScope s_BadRhythm___init__) := ⟨rfl, rfl, rfl, by decide +kernel, rfl, by decide +kernel, by decide +kernel⟩
theorem sc_Rhythm___init__X : FnScope NE_Rhythm___init__X ["self", "size", "rests"] (defScope s_Rhythm___init__X) := ⟨rfl, rfl, rfl, by decide +kernel, rfl, by decide +kernel, by decide +kernel⟩
theorem sc_Rhythm___or__X : FnScope NE_Rhythm___or__X ["self", "other"] (defScope s_Rhythm___or__X) := ⟨rfl, rfl, rfl, by decide +kernel, rfl, by decide +kernel, by decide +kernel⟩
theorem sc_Rhythm___and__X : FnScope NE_Rhythm___and__X ["self", "other"] (defScope s_Rhythm___and__X) := ⟨rfl, rfl, rfl, by decide +kernel, rfl, by decide +kernel, by decide +kernel⟩
theorem sc_Rhythm___sub__X : FnScope NE_Rhythm___sub__X ["self", "other"] (defScope s_Rhythm___sub__X) := ⟨rfl, rfl, rfl, by decide +kernel, rfl, by decide +kernel, by decide +kernel⟩
theorem sc__law_caught : FnScope N__law_caught ["_law_work"] (defScope s__law_caught) := ⟨rfl, rfl, rfl, by decide +kernel, rfl, by decide +kernel, by decide +kernel⟩
theorem sc__law_begun : FnScope N__law_begun ["_law_script"] (defScope s__law_begun) := ⟨rfl, rfl, rfl, by decide +kernel, rfl, by decide +kernel, by decide +kernel⟩
theorem sc_law : FnScope N_law ["_law_script"] (defScope s_law) := ⟨rfl, rfl, rfl, by decide +kernel, rfl, by decide +kernel, by decide +kernel⟩
structure Txt (K : PySem.W.Frag) (mg : Str → Option Value) : Prop where
  cls_Rhythm : Cls K (He.ga K "Rhythm")
  exm_SeriesError : ∀ c ∈ (["BadRhythm"] : List Str), PySem.W.exmOne K (.ref (He.ga K c)) (.ref (He.ga K "SeriesError")) = some true
  first_Rhythm : PySem.W.selfFirst K (He.ga K "Rhythm") = true
  free_abs : mg "abs" = none
  free_all : mg "all" = none
  free_bool : mg "bool" = none
  free_int : mg "int" = none
  free_isinstance : mg "isinstance" = none
  free_len : mg "len" = none
  free_list : mg "list" = none
  free_min : mg "min" = none
  free_range : mg "range" = none
  free_repr : mg "repr" = none
  free_set : mg "set" = none
  free_sorted : mg "sorted" = none
  free_tuple : mg "tuple" = none
  glo_BadRhythm : mg "BadRhythm" = some (.ref (He.ga K "BadRhythm"))
  glo_Rhythm : mg "Rhythm" = some (.ref (He.ga K "Rhythm"))
  glo_SeriesError : mg "SeriesError" = some (.ref (He.ga K "SeriesError"))
  glo__law_any_rhythm : mg "_law_any_rhythm" = some (.ref (He.ga K "_law_any_rhythm"))
  glo__law_begun : mg "_law_begun" = some (.ref (He.ga K "_law_begun"))
  glo__law_caught : mg "_law_caught" = some (.ref (He.ga K "_law_caught"))
  glo__law_has : mg "_law_has" = some (.ref (He.ga K "_law_has"))
  glo__law_is_made : mg "_law_is_made" = some (.ref (He.ga K "_law_is_made"))
  glo__law_lcm : mg "_law_lcm" = some (.ref (He.ga K "_law_lcm"))
  glo__law_least : mg "_law_least" = some (.ref (He.ga K "_law_least"))
  glo__law_mixed : mg "_law_mixed" = some (.ref (He.ga K "_law_mixed"))
  glo__law_pick : mg "_law_pick" = some (.ref (He.ga K "_law_pick"))
  glo__law_take : mg "_law_take" = some (.ref (He.ga K "_law_take"))
  glo_are_different : mg "are_different" = some (.ref (He.ga K "are_different"))
  glo_common : mg "common" = some (.ref (He.ga K "common"))
  glo_is_list : mg "is_list" = some (.ref (He.ga K "is_list"))
  glo_is_number : mg "is_number" = some (.ref (He.ga K "is_number"))
  glo_least_form : mg "least_form" = some (.ref (He.ga K "least_form"))
  glo_repeats : mg "repeats" = some (.ref (He.ga K "repeats"))
  i1_rshift : ∃ o, PySem.W.findIn K (.type "int") (PySem.dunder (Operator.RShift).info.2) = some o
  i2_rshift : ∃ o, PySem.W.findIn K (.type "int") (PySem.dunderR (Operator.RShift).info.2) = some o
  ini_BadRhythm : PySem.W.findIn K (.ref (He.ga K "BadRhythm")) "__init__" = some (some (.ref (He.ma K (He.ga K "BadRhythm") "__init__")))
  int_MOST_SIZE : ∃ t, mg "MOST_SIZE" = some (.int 3000 t)
  isub_Rhythm : PySem.W.subIn K (.type "int") (.ref (He.ga K "Rhythm")) = some false
  meth_Rhythm___and__ : Meth K (He.ga K "Rhythm") "__and__" (He.ma K (He.ga K "Rhythm") "__and__")
  meth_Rhythm___contains__ : Meth K (He.ga K "Rhythm") "__contains__" (He.ma K (He.ga K "Rhythm") "__contains__")
  meth_Rhythm___or__ : Meth K (He.ga K "Rhythm") "__or__" (He.ma K (He.ga K "Rhythm") "__or__")
  meth_Rhythm___rshift__ : Meth K (He.ga K "Rhythm") "__rshift__" (He.ma K (He.ga K "Rhythm") "__rshift__")
  meth_Rhythm___sub__ : Meth K (He.ga K "Rhythm") "__sub__" (He.ma K (He.ga K "Rhythm") "__sub__")
  meth_Rhythm_within : Meth K (He.ga K "Rhythm") "within" (He.ma K (He.ga K "Rhythm") "within")
  mk_Rhythm : Mk K (He.ga K "Rhythm") (He.ma K (He.ga K "Rhythm") "__init__")
  noat_Rhythm_own_form : NoAttr K (He.ga K "Rhythm") "own_form"
  oex_BadRhythm : OexC K (He.ga K "BadRhythm")
  op_Rhythm_BitAnd : PySem.W.findIn K (.ref (He.ga K "Rhythm")) (PySem.dunder (Operator.BitAnd).info.2) = some (some (.ref (He.ma K (He.ga K "Rhythm") "__and__")))
  op_Rhythm_BitOr : PySem.W.findIn K (.ref (He.ga K "Rhythm")) (PySem.dunder (Operator.BitOr).info.2) = some (some (.ref (He.ma K (He.ga K "Rhythm") "__or__")))
  op_Rhythm_RShift : PySem.W.findIn K (.ref (He.ga K "Rhythm")) (PySem.dunder (Operator.RShift).info.2) = some (some (.ref (He.ma K (He.ga K "Rhythm") "__rshift__")))
  op_Rhythm_Sub : PySem.W.findIn K (.ref (He.ga K "Rhythm")) (PySem.dunder (Operator.Sub).info.2) = some (some (.ref (He.ma K (He.ga K "Rhythm") "__sub__")))
  prop_Rhythm_rests : PropOf K (He.ga K "Rhythm") "rests" (He.ma K (He.ga K "Rhythm") "rests") (He5.wf K (He.ga K "Rhythm") "property" "rests")
  prop_Rhythm_size : PropOf K (He.ga K "Rhythm") "size" (He.ma K (He.ga K "Rhythm") "size") (He5.wf K (He.ga K "Rhythm") "property" "size")
  r_Rhythm_rshift : PySem.W.findIn K (.ref (He.ga K "Rhythm")) (PySem.dunderR (Operator.RShift).info.2) = some none
  tin_BadRhythm : PySem.W.typeIn K (.ref (He.ma K (He.ga K "BadRhythm") "__init__")) = some (.type "function")
  xf_part : ∀ c ∈ (["BadRhythm"] : List Str), ExcC K (He.ga K c) ∧ PySem.W.findIn K (.ref (He.ga K c)) "part" = some none
  xno_BadRhythm_part : PySem.W.findIn K (.ref (He.ga K "BadRhythm")) "part" = some none
  kx_BadRhythm : ∀ {S : Type} {C : Cc S}, K = C.K → C.cad = He.ga K → KxOk C.K C.cad (fun t => PySem.W.kitOne C.K t (.ref (He.ga K "BadRhythm"))) tbx_BadRhythm
  kit_own_Rhythm : ∀ {S : Type} {C : Cc S}, K = C.K → C.cad = He.ga K → KitOk C.K C.cad (fun t => PySem.W.kitOne C.K t (.ref (He.ga K "Rhythm"))) (tb_kit_own_Rhythm cs)
  kit_two_list_tuple : ∀ {S : Type} {C : Cc S}, K = C.K → C.cad = He.ga K → KitOk C.K C.cad (fun t => PySem.W.kitAny C.K t [.type "list", .type "tuple"]) (tb_kit_two_list_tuple cs)
  kit_ty_bool : ∀ {S : Type} {C : Cc S}, K = C.K → C.cad = He.ga K → KitOk C.K C.cad (fun t => PySem.W.kitOne C.K t (.type "bool")) (tb_kit_ty_bool cs)
  kit_ty_int : ∀ {S : Type} {C : Cc S}, K = C.K → C.cad = He.ga K → KitOk C.K C.cad (fun t => PySem.W.kitOne C.K t (.type "int")) (tb_kit_ty_int cs)
  kit_xty_BadRhythm : ∀ {S : Type} {C : Cc S}, K = C.K → C.cad = He.ga K → KitOk C.K C.cad (fun t => PySem.W.kitOne C.K t (.ref (He.ga K "BadRhythm"))) (tb_kit_xty_BadRhythm cs)
theorem dd__law_mixed {P : Program} {w : World} {K : PySem.W.Frag} {mg : Str → Option Value} {base : Heap} {Lm : LamI} {dp wl cl : Addr} {cells : List Int} {Tl : List (Addr × Str)} (hd : dp ≠ wl ∧ dp ≠ cl ∧ wl ≠ cl) (T : Txt K mg) {fd : FuncData} (Fn : Fun K "_law_mixed" "_law_mixed" s__law_mixed (He.ga K "_law_mixed") fd)
   :
  FnOk P w K mg base (L2.CX P w) 1 (He.ga K "_law_mixed") fd ["_law_draw"] (spD (drawCcL Lm K (He.ga K) dp wl cl cells Tl) 1 (sem__law_mixed cells)) := by
  have hCK : K = (drawCcL Lm K (He.ga K) dp wl cl cells Tl).K := rfl
  have hcad : (drawCcL Lm K (He.ga K) dp wl cl cells Tl).cad = He.ga K := rfl
  refine fn_body (N := NE__law_mixed) (rd := rd__law_mixed cells) Fn sc__law_mixed rfn__law_mixed fun cdv A outer s H G E hr => ?_
  have nd := sc__law_mixed.nd
  have hK : (cxOf (L2.CX P w) P w K mg base NE__law_mixed "_law_mixed" (defScope s__law_mixed) (He.ga K "_law_mixed") cdv A outer s H E).K = (fxOf (drawCcL Lm K (He.ga K) dp wl cl cells Tl) G H E).K := hCK
  have tk : Takes (cxOf (L2.CX P w) P w K mg base NE__law_mixed "_law_mixed" (defScope s__law_mixed) (He.ga K "_law_mixed") cdv A outer s H E) (fxOf (drawCcL Lm K (He.ga K) dp wl cl cells Tl) G H E).wish := takes_of rfl rfl rfl rfl
  have R := drF_ofT (L := Lm) (T := Tl) (G := G) (H := H) (E := E) (K := K) (cad := He.ga K) (cells := cells) hd
  exact (dss_cons (ds_asg (de_op or_add (od_add hK) (de_drwGet R (hu_of hr) drw_turn (de_var 0 (pv 0))) de_int) (dg_name 1 (pg_name (i := 1) nd rfl (.inl rfl))))
    (dss_cons (ds_drwSet R (hu_of hr) put_turn (de_var 0 (pv 0)) (de_var 1 (pv 1)))
    (dss_cons (ds_asg de_int (dg_name 2 (pg_name (i := 2) nd rfl (.inl rfl))))
    (dss_cons (ds_for (passes_of rfl) rfl (di_seq hK (de_lst (da_cons de_int (da_cons de_int (da_cons de_int (da_cons de_int da_nil)))))) (dg_name 3 (pg_name (i := 3) nd rfl (.inl rfl))) (dss_cons (ds_asg (de_op op_mod od_mod (de_callTy call_int1 cd_int1 rfl T.free_int (by decide +kernel) (da_cons (de_op or_add (od_add hK) (de_op op_mul od_mul (de_var 1 (pv 1)) de_int) (de_op op_fdiv od_div (de_var 3 (pv 3)) de_int)) da_nil)) (de_var 3 (pv 3))) (dg_name 4 (pg_name (i := 4) nd rfl (.inl rfl))))
    (dss_cons (ds_for (passes_of rfl) rfl (di_cells R (de_drwGet R (hu_of hr) (drw_cells R) (de_var 0 (pv 0)))) (dg_name 5 (pg_name (i := 5) nd rfl (.inl rfl))) (dss_one (ds_asg (de_op op_mod od_mod (de_callTy call_int1 cd_int1 rfl T.free_int (by decide +kernel) (da_cons (de_op or_add (od_add hK) (de_op op_mul od_mul (de_var 4 (pv 4)) de_int) (de_var 5 (pv 5))) da_nil)) (de_var 3 (pv 3))) (dg_name 4 (pg_name (i := 4) nd rfl (.inl rfl))))))
    (dss_one (ds_asg (de_op or_add (od_add hK) (de_op op_mul od_mul (de_var 2 (pv 2)) de_int) (de_op op_mod od_mod (de_callTy call_int1 cd_int1 rfl T.free_int (by decide +kernel) (da_cons (de_op op_pow od_pow (de_var 4 (pv 4)) de_int) da_nil)) (de_var 3 (pv 3)))) (dg_name 2 (pg_name (i := 2) nd rfl (.inl rfl))))))))
    (dss_one (ds_ret (de_var 2 (pv 2))))))))
theorem dd__law_take {P : Program} {w : World} {K : PySem.W.Frag} {mg : Str → Option Value} {base : Heap} {Lm : LamI} {dp wl cl : Addr} {cells : List Int} {Tl : List (Addr × Str)} (hd : dp ≠ wl ∧ dp ≠ cl ∧ wl ≠ cl) (T : Txt K mg) {fd : FuncData} (Fn : Fun K "_law_take" "_law_take" s__law_take (He.ga K "_law_take") fd)
  {fd__law_mixed : FuncData} (F__law_mixed : Fun K "_law_mixed" "_law_mixed" s__law_mixed (He.ga K "_law_mixed") fd__law_mixed) (B__law_mixed : Binds K fd__law_mixed ["_law_draw"] [])
  (G__law_mixed : FnOk P w K mg base (L2.CX P w) 1 (He.ga K "_law_mixed") fd__law_mixed ["_law_draw"] (spD (drawCcL Lm K (He.ga K) dp wl cl cells Tl) 1 (sem__law_mixed cells))) :
  FnOk P w K mg base (L2.CX P w) 2 (He.ga K "_law_take") fd ["_law_draw", "_law_many"] (spD (drawCcL Lm K (He.ga K) dp wl cl cells Tl) 2 (sem__law_take cells)) := by
  have hCK : K = (drawCcL Lm K (He.ga K) dp wl cl cells Tl).K := rfl
  have hcad : (drawCcL Lm K (He.ga K) dp wl cl cells Tl).cad = He.ga K := rfl
  refine fn_body (N := NE__law_take) (rd := rd__law_take cells) Fn sc__law_take rfn__law_take fun cdv A outer s H G E hr => ?_
  have nd := sc__law_take.nd
  have hK : (cxOf (L2.CX P w) P w K mg base NE__law_take "_law_take" (defScope s__law_take) (He.ga K "_law_take") cdv A outer s H E).K = (fxOf (drawCcL Lm K (He.ga K) dp wl cl cells Tl) G H E).K := hCK
  have tk : Takes (cxOf (L2.CX P w) P w K mg base NE__law_take "_law_take" (defScope s__law_take) (He.ga K "_law_take") cdv A outer s H E) (fxOf (drawCcL Lm K (He.ga K) dp wl cl cells Tl) G H E).wish := takes_of rfl rfl rfl rfl
  have R := drF_ofT (L := Lm) (T := Tl) (G := G) (H := H) (E := E) (K := K) (cad := He.ga K) (cells := cells) hd
  exact (dss_cons (ds_if (PW.pt (dw_and (dt_cmp (op_eqD hr.units) (od_eq hK) (de_drwGet R (hu_of hr) drw_left (de_var 0 (pv 0))) de_int (by rfl)) (dw_and1 (dt_neW R hr.units (de_drwGet R (hu_of hr) (drw_wide R) (de_var 0 (pv 0))))))) (dss_one (ds_drwSet R (hu_of hr) put_left (de_var 0 (pv 0)) (de_popW R (de_drwGet R (hu_of hr) (drw_wide R) (de_var 0 (pv 0)))))) dss_nil)
    (dss_cons (ds_if (dt_cmp (op_eqD hr.units) (od_eq hK) (de_drwGet R (hu_of hr) drw_left (de_var 0 (pv 0))) de_int (by rfl)) (dss_one (ds_drwSet R (hu_of hr) put_left (de_var 0 (pv 0)) (de_call G__law_mixed tk (hr.mono (by decide)) rfl T.glo__law_mixed F__law_mixed.kp B__law_mixed .nil DfR.nil (da_cons (de_var 0 (pv 0)) da_nil)))) dss_nil)
    (dss_cons (ds_asg (de_op op_mod od_mod (de_callTy call_int1 cd_int1 rfl T.free_int (by decide +kernel) (da_cons (de_drwGet R (hu_of hr) drw_left (de_var 0 (pv 0))) da_nil)) (de_var 1 (pv 1))) (dg_name 2 (pg_name (i := 2) nd rfl (.inl rfl))))
    (dss_cons (ds_drwSet R (hu_of hr) put_left (de_var 0 (pv 0)) (de_op op_fdiv od_div (de_drwGet R (hu_of hr) drw_left (de_var 0 (pv 0))) (de_var 1 (pv 1))))
    (dss_one (ds_ret (de_var 2 (pv 2))))))))
theorem dd__law_pick {P : Program} {w : World} {K : PySem.W.Frag} {mg : Str → Option Value} {base : Heap} {Lm : LamI} {dp wl cl : Addr} {cells : List Int} {Tl : List (Addr × Str)} (hd : dp ≠ wl ∧ dp ≠ cl ∧ wl ≠ cl) (T : Txt K mg) {fd : FuncData} (Fn : Fun K "_law_pick" "_law_pick" s__law_pick (He.ga K "_law_pick") fd)
  {fd__law_take : FuncData} (F__law_take : Fun K "_law_take" "_law_take" s__law_take (He.ga K "_law_take") fd__law_take) (B__law_take : Binds K fd__law_take ["_law_draw", "_law_many"] [])
  (G__law_take : FnOk P w K mg base (L2.CX P w) 2 (He.ga K "_law_take") fd__law_take ["_law_draw", "_law_many"] (spD (drawCcL Lm K (He.ga K) dp wl cl cells Tl) 2 (sem__law_take cells))) :
  FnOk P w K mg base (L2.CX P w) 3 (He.ga K "_law_pick") fd ["_law_draw", "_law_some"] (spD (drawCcL Lm K (He.ga K) dp wl cl cells Tl) 2 (sem__law_pick cells)) := by
  have hCK : K = (drawCcL Lm K (He.ga K) dp wl cl cells Tl).K := rfl
  have hcad : (drawCcL Lm K (He.ga K) dp wl cl cells Tl).cad = He.ga K := rfl
  refine fn_body (N := NE__law_pick) (rd := rd__law_pick cells) Fn sc__law_pick rfn__law_pick fun cdv A outer s H G E hr => ?_
  have nd := sc__law_pick.nd
  have hK : (cxOf (L2.CX P w) P w K mg base NE__law_pick "_law_pick" (defScope s__law_pick) (He.ga K "_law_pick") cdv A outer s H E).K = (fxOf (drawCcL Lm K (He.ga K) dp wl cl cells Tl) G H E).K := hCK
  have tk : Takes (cxOf (L2.CX P w) P w K mg base NE__law_pick "_law_pick" (defScope s__law_pick) (He.ga K "_law_pick") cdv A outer s H E) (fxOf (drawCcL Lm K (He.ga K) dp wl cl cells Tl) G H E).wish := takes_of rfl rfl rfl rfl
  have R := drF_ofT (L := Lm) (T := Tl) (G := G) (H := H) (E := E) (K := K) (cad := He.ga K) (cells := cells) hd
  exact (dss_one (ds_ret (de_ix ix_seq (od_ix hK) (de_var 1 (pv 1)) (de_call G__law_take tk (hr.mono (by decide)) rfl T.glo__law_take F__law_take.kp B__law_take .nil DfR.nil (da_cons (de_var 0 (pv 0)) (da_cons (de_callB call_len (cd_len hK) rfl T.free_len (by decide +kernel) (da_cons (de_var 1 (pv 1)) da_nil)) da_nil))) (fun _ _ => rfl))))
theorem dd__law_any_rhythm {P : Program} {w : World} {K : PySem.W.Frag} {mg : Str → Option Value} {base : Heap} {Lm : LamI} {dp wl cl : Addr} {cells : List Int} {Tl : List (Addr × Str)} (hd : dp ≠ wl ∧ dp ≠ cl ∧ wl ≠ cl) (T : Txt K mg) {fd : FuncData} (Fn : Fun K "_law_any_rhythm" "_law_any_rhythm" s__law_any_rhythm (He.ga K "_law_any_rhythm") fd)
  {fd__law_take : FuncData} (F__law_take : Fun K "_law_take" "_law_take" s__law_take (He.ga K "_law_take") fd__law_take) (B__law_take : Binds K fd__law_take ["_law_draw", "_law_many"] [])
  (G__law_take : FnOk P w K mg base (L2.CX P w) 2 (He.ga K "_law_take") fd__law_take ["_law_draw", "_law_many"] (spD (drawCcL Lm K (He.ga K) dp wl cl cells Tl) 2 (sem__law_take cells)))
  {fd__law_pick : FuncData} (F__law_pick : Fun K "_law_pick" "_law_pick" s__law_pick (He.ga K "_law_pick") fd__law_pick) (B__law_pick : Binds K fd__law_pick ["_law_draw", "_law_some"] [])
  (G__law_pick : FnOk P w K mg base (L2.CX P w) 3 (He.ga K "_law_pick") fd__law_pick ["_law_draw", "_law_some"] (spD (drawCcL Lm K (He.ga K) dp wl cl cells Tl) 2 (sem__law_pick cells))) :
  FnOk P w K mg base (L2.CX P w) 4 (He.ga K "_law_any_rhythm") fd ["_law_draw"] (spD (drawCcL Lm K (He.ga K) dp wl cl cells Tl) 1 (sem__law_any_rhythm cells)) := by
  have hCK : K = (drawCcL Lm K (He.ga K) dp wl cl cells Tl).K := rfl
  have hcad : (drawCcL Lm K (He.ga K) dp wl cl cells Tl).cad = He.ga K := rfl
  refine fn_body (N := NE__law_any_rhythm) (rd := rd__law_any_rhythm cells) Fn sc__law_any_rhythm rfn__law_any_rhythm fun cdv A outer s H G E hr => ?_
  have nd := sc__law_any_rhythm.nd
  have hK : (cxOf (L2.CX P w) P w K mg base NE__law_any_rhythm "_law_any_rhythm" (defScope s__law_any_rhythm) (He.ga K "_law_any_rhythm") cdv A outer s H E).K = (fxOf (drawCcL Lm K (He.ga K) dp wl cl cells Tl) G H E).K := hCK
  have tk : Takes (cxOf (L2.CX P w) P w K mg base NE__law_any_rhythm "_law_any_rhythm" (defScope s__law_any_rhythm) (He.ga K "_law_any_rhythm") cdv A outer s H E) (fxOf (drawCcL Lm K (He.ga K) dp wl cl cells Tl) G H E).wish := takes_of rfl rfl rfl rfl
  have R := drF_ofT (L := Lm) (T := Tl) (G := G) (H := H) (E := E) (K := K) (cad := He.ga K) (cells := cells) hd
  exact (dss_cons (ds_asg (de_op or_add (od_add hK) de_int (de_call G__law_take tk (hr.mono (by decide)) rfl T.glo__law_take F__law_take.kp B__law_take .nil DfR.nil (da_cons (de_var 0 (pv 0)) (da_cons de_int da_nil)))) (dg_name 1 (pg_name (i := 1) nd rfl (.inr rfl))))
    (dss_cons (ds_asg (de_call G__law_take tk (hr.mono (by decide)) rfl T.glo__law_take F__law_take.kp B__law_take .nil DfR.nil (da_cons (de_var 0 (pv 0)) (da_cons de_int da_nil))) (dg_name 2 (pg_name (i := 2) nd rfl (.inl rfl))))
    (dss_cons (ds_setLc (i := 3) (own := [("_law_rest", 4)]) (g := gName 4) rfl nd rfl rfl (sw_true rfl rfl rfl (by decide +kernel)) (di_range1 rfl T.free_range (da_cons (de_var 1 (pv 1)) da_nil)) (blkOk_by (N := NE__law_any_rhythm) (sc := defScope s__law_any_rhythm) (by decide +kernel)) (gw_name (by decide)) (fun _ _ _ _ _ => pg_name (i := 4) nd rfl (Or.inl rfl)) (fun _ _ _ _ _ => (dts_one (dt_cmp (op_eqD hr.units) (od_eq hK) (de_call G__law_take takes0 (hr.mono (by decide)) rfl T.glo__law_take F__law_take.kp B__law_take .nil DfR.nil (da_cons (de_var 0 (pv 0)) (da_cons (de_op or_add (od_add hK) de_int (de_call G__law_take takes0 (hr.mono (by decide)) rfl T.glo__law_take F__law_take.kp B__law_take .nil DfR.nil (da_cons (de_var 0 (pv 0)) (da_cons de_int da_nil)))) da_nil))) de_int (by rfl)))) (fun _ _ _ _ _ => (de_var 4 (pv 4))))
    (dss_cons (ds_if (dt_cmp (op_eqD hr.units) (od_eq hK) (de_var 2 (pv 2)) de_int (by rfl)) (dss_cons (ds_asg (de_call G__law_pick tk (hr.mono (by decide)) rfl T.glo__law_pick F__law_pick.kp B__law_pick .nil DfR.nil (da_cons (de_var 0 (pv 0)) (da_cons (de_lc (own := [("_law_one", 6)]) (g := gName 6) rfl nd (di_range2 rfl T.free_range (da_cons de_int (da_cons (de_op or_add (od_add hK) (de_var 1 (pv 1)) de_int) da_nil))) (blkOk_by (N := NE__law_any_rhythm) (sc := defScope s__law_any_rhythm) (by decide +kernel)) (gw_name (by decide)) (fun _ _ _ _ _ => pg_name (i := 6) nd rfl (Or.inl rfl)) (fun _ _ _ _ _ => (dts_one (dt_cmp (op_eqD hr.units) (od_eq hK) (de_op op_mod od_mod (de_var 1 (pv 1)) (de_var 6 (pv 6))) de_int (by rfl)))) (fun _ _ _ _ _ => (de_var 6 (pv 6)))) da_nil))) (dg_name 5 (pg_name (i := 5) nd rfl (.inr rfl))))
    (dss_one (ds_setLc (i := 3) (own := [("_law_rest", 4)]) (g := gName 4) rfl nd rfl rfl (sw_true rfl rfl rfl (by decide +kernel)) (di_range1 rfl T.free_range (da_cons (de_var 1 (pv 1)) da_nil)) (blkOk_by (N := NE__law_any_rhythm) (sc := defScope s__law_any_rhythm) (by decide +kernel)) (gw_name (by decide)) (fun _ _ _ _ _ => pg_name (i := 4) nd rfl (Or.inl rfl)) (fun _ _ _ _ _ => (dts_one (dt_cmp (op_eqD hr.units) (od_eq hK) (de_op op_mod od_mod (de_callTy call_int1 cd_int1 rfl T.free_int (by decide +kernel) (da_cons (de_var 4 (pv 4)) da_nil)) (de_var 5 (pv 5))) (de_call G__law_take takes0 (hr.mono (by decide)) rfl T.glo__law_take F__law_take.kp B__law_take .nil DfR.nil (da_cons (de_var 0 (pv 0)) (da_cons de_int da_nil))) (by rfl)))) (fun _ _ _ _ _ => (de_var 4 (pv 4)))))) dss_nil)
    (dss_one (ds_ret (de_tup (da_cons (de_var 1 (pv 1)) (da_cons (de_callTy call_tuple_of (cd_tuple hK) rfl T.free_tuple (by decide +kernel) (da_cons (de_var 3 (pv 3)) da_nil)) da_nil)))))))))
theorem dd_is_number {P : Program} {w : World} {K : PySem.W.Frag} {mg : Str → Option Value} {base : Heap} {S : Type} {C : Cc S} (hCK : K = C.K) (hcad : C.cad = He.ga K) (T : Txt K mg) {fd : FuncData} (Fn : Fun K "is_number" "is_number" s_is_number (He.ga K "is_number") fd)
   :
  FnOk P w K mg base (L2.CX P w) 1 (He.ga K "is_number") fd ["thing"] (spD C 1 (sem_is_number cs)) := by
  refine fn_body (N := NE_is_number) (rd := rd_is_number cs) Fn sc_is_number rfn_is_number fun cdv A outer s H G E hr => ?_
  have nd := sc_is_number.nd
  have hK : (cxOf (L2.CX P w) P w K mg base NE_is_number "is_number" (defScope s_is_number) (He.ga K "is_number") cdv A outer s H E).K = (fxOf C G H E).K := hCK
  have tk : Takes (cxOf (L2.CX P w) P w K mg base NE_is_number "is_number" (defScope s_is_number) (He.ga K "is_number") cdv A outer s H E) (fxOf C G H E).wish := takes_of rfl rfl rfl rfl
  exact (dss_one (ds_ret (de_and hK (de_isi hK (T.kit_ty_int hCK hcad) (.ty _) (de_var 0 (pv 0)) (pe_bltn (by rfl) T.free_int (by decide +kernel) (v := .ty "int") rfl) rfl T.free_isinstance) (de_one (de_not hK (de_isi hK (T.kit_ty_bool hCK hcad) (.ty _) (de_var 0 (pv 0)) (pe_bltn (by rfl) T.free_bool (by decide +kernel) (v := .ty "bool") rfl) rfl T.free_isinstance))))))
theorem dd_is_list {P : Program} {w : World} {K : PySem.W.Frag} {mg : Str → Option Value} {base : Heap} {S : Type} {C : Cc S} (hCK : K = C.K) (hcad : C.cad = He.ga K) (T : Txt K mg) {fd : FuncData} (Fn : Fun K "is_list" "is_list" s_is_list (He.ga K "is_list") fd)
   :
  FnOk P w K mg base (L2.CX P w) 1 (He.ga K "is_list") fd ["thing"] (spD C 1 (sem_is_list cs)) := by
  refine fn_body (N := NE_is_list) (rd := rd_is_list cs) Fn sc_is_list rfn_is_list fun cdv A outer s H G E hr => ?_
  have nd := sc_is_list.nd
  have hK : (cxOf (L2.CX P w) P w K mg base NE_is_list "is_list" (defScope s_is_list) (He.ga K "is_list") cdv A outer s H E).K = (fxOf C G H E).K := hCK
  have tk : Takes (cxOf (L2.CX P w) P w K mg base NE_is_list "is_list" (defScope s_is_list) (He.ga K "is_list") cdv A outer s H E) (fxOf C G H E).wish := takes_of rfl rfl rfl rfl
  exact (dss_one (ds_ret (de_isi2 hK (T.kit_two_list_tuple hCK hcad) (.ty _) (.ty _) (de_var 0 (pv 0)) (pe_bltn (by rfl) T.free_list (by decide +kernel) (v := .ty "list") rfl) (pe_bltn (by rfl) T.free_tuple (by decide +kernel) (v := .ty "tuple") rfl) rfl T.free_isinstance)))
theorem dd_are_different {P : Program} {w : World} {K : PySem.W.Frag} {mg : Str → Option Value} {base : Heap} {S : Type} {C : Cc S} (hCK : K = C.K) (hcad : C.cad = He.ga K) (T : Txt K mg) {fd : FuncData} (Fn : Fun K "are_different" "are_different" s_are_different (He.ga K "are_different") fd)
  {fd_is_list : FuncData} (F_is_list : Fun K "is_list" "is_list" s_is_list (He.ga K "is_list") fd_is_list) (B_is_list : Binds K fd_is_list ["thing"] [])
  (G_is_list : FnOk P w K mg base (L2.CX P w) 1 (He.ga K "is_list") fd_is_list ["thing"] (spD C 1 (sem_is_list cs)))
  {fd_is_number : FuncData} (F_is_number : Fun K "is_number" "is_number" s_is_number (He.ga K "is_number") fd_is_number) (B_is_number : Binds K fd_is_number ["thing"] [])
  (G_is_number : FnOk P w K mg base (L2.CX P w) 1 (He.ga K "is_number") fd_is_number ["thing"] (spD C 1 (sem_is_number cs))) :
  FnOk P w K mg base (L2.CX P w) 2 (He.ga K "are_different") fd ["thing", "least", "most"] (spD C 3 (sem_are_different cs)) := by
  refine fn_body (N := NE_are_different) (rd := rd_are_different cs) Fn sc_are_different rfn_are_different fun cdv A outer s H G E hr => ?_
  have nd := sc_are_different.nd
  have hK : (cxOf (L2.CX P w) P w K mg base NE_are_different "are_different" (defScope s_are_different) (He.ga K "are_different") cdv A outer s H E).K = (fxOf C G H E).K := hCK
  have tk : Takes (cxOf (L2.CX P w) P w K mg base NE_are_different "are_different" (defScope s_are_different) (He.ga K "are_different") cdv A outer s H E) (fxOf C G H E).wish := takes_of rfl rfl rfl rfl
  exact (dss_cons (ds_if (PW.pt (dw_or (dt_not (dt_val (de_call G_is_list tk (hr.mono (by decide)) rfl T.glo_is_list F_is_list.kp B_is_list .nil DfR.nil (da_cons (de_var 0 (pv 0)) da_nil)))) (dw_or1 (dt_not (dt_val (de_callB (cr_all rfl) (cd_all hK) rfl T.free_all (by decide +kernel) (da_cons (de_lc (own := [("item", 3)]) (g := gName 3) rfl nd (di_seq hK (de_var 0 (pv 0))) (blkOk_by (N := NE_are_different) (sc := defScope s_are_different) (by decide +kernel)) (gw_name (by decide)) (fun _ _ _ _ _ => pg_name (i := 3) nd rfl (Or.inl rfl)) (fun _ _ _ _ _ => dts_nil) (fun _ _ _ _ _ => (de_and hK (de_call G_is_number takes0 (hr.mono (by decide)) rfl T.glo_is_number F_is_number.kp B_is_number .nil DfR.nil (da_cons (de_var 3 (pv 3)) da_nil)) (de_one (de_chain op_le od_le op_le od_le (de_var 1 (pv 1)) (de_var 3 (pv 3)) (de_var 2 (pv 2))))))) da_nil))))))) (dss_one (ds_ret de_bl)) dss_nil)
    (dss_one (ds_ret (de_cmp (op_eqD hr.units) (od_eq hK) (de_lenSet hK rfl T.free_len rfl T.free_set (de_callTy call_list_of (cd_list hK) rfl T.free_list (by decide +kernel) (da_cons (de_var 0 (pv 0)) da_nil))) (de_callB call_len (cd_len hK) rfl T.free_len (by decide +kernel) (da_cons (de_var 0 (pv 0)) da_nil)) (by rfl)))))
theorem dd_repeats {P : Program} {w : World} {K : PySem.W.Frag} {mg : Str → Option Value} {base : Heap} {S : Type} {C : Cc S} (hCK : K = C.K) (hcad : C.cad = He.ga K) (T : Txt K mg) {fd : FuncData} (Fn : Fun K "repeats" "repeats" s_repeats (He.ga K "repeats") fd)
   :
  FnOk P w K mg base (L2.CX P w) 1 (He.ga K "repeats") fd ["size", "rests", "part"] (spD C 3 sem_repeats) := by
  refine fn_body (N := NE_repeats) (rd := rd_repeats) Fn sc_repeats rfn_repeats fun cdv A outer s H G E hr => ?_
  have nd := sc_repeats.nd
  have hK : (cxOf (L2.CX P w) P w K mg base NE_repeats "repeats" (defScope s_repeats) (He.ga K "repeats") cdv A outer s H E).K = (fxOf C G H E).K := hCK
  have tk : Takes (cxOf (L2.CX P w) P w K mg base NE_repeats "repeats" (defScope s_repeats) (He.ga K "repeats") cdv A outer s H E) (fxOf C G H E).wish := takes_of rfl rfl rfl rfl
  exact (dss_one (ds_ret (de_callB (cr_all rfl) (cd_all hK) rfl T.free_all (by decide +kernel) (da_cons (de_lc (own := [("rest", 3)]) (g := gName 3) rfl nd (di_seq hK (de_var 1 (pv 1))) (blkOk_by (N := NE_repeats) (sc := defScope s_repeats) (by decide +kernel)) (gw_name (by decide)) (fun _ _ _ _ _ => pg_name (i := 3) nd rfl (Or.inl rfl)) (fun _ _ _ _ _ => dts_nil) (fun _ _ _ _ _ => (de_cmp op_in_seq (od_in false hK) (de_op op_mod od_mod (de_op or_add (od_add hK) (de_var 3 (pv 3)) (de_var 2 (pv 2))) (de_var 0 (pv 0))) (de_var 1 (pv 1)) (by rfl)))) da_nil))))
theorem dd_least_form {P : Program} {w : World} {K : PySem.W.Frag} {mg : Str → Option Value} {base : Heap} {S : Type} {C : Cc S} (hCK : K = C.K) (hcad : C.cad = He.ga K) (T : Txt K mg) {fd : FuncData} (Fn : Fun K "least_form" "least_form" s_least_form (He.ga K "least_form") fd)
  {fd_repeats : FuncData} (F_repeats : Fun K "repeats" "repeats" s_repeats (He.ga K "repeats") fd_repeats) (B_repeats : Binds K fd_repeats ["size", "rests", "part"] [])
  (G_repeats : FnOk P w K mg base (L2.CX P w) 1 (He.ga K "repeats") fd_repeats ["size", "rests", "part"] (spD C 3 sem_repeats)) :
  FnOk P w K mg base (L2.CX P w) 2 (He.ga K "least_form") fd ["size", "rests"] (spD C 2 sem_least_form) := by
  refine fn_body (N := NE_least_form) (rd := rd_least_form) Fn sc_least_form rfn_least_form fun cdv A outer s H G E hr => ?_
  have nd := sc_least_form.nd
  have hK : (cxOf (L2.CX P w) P w K mg base NE_least_form "least_form" (defScope s_least_form) (He.ga K "least_form") cdv A outer s H E).K = (fxOf C G H E).K := hCK
  have tk : Takes (cxOf (L2.CX P w) P w K mg base NE_least_form "least_form" (defScope s_least_form) (He.ga K "least_form") cdv A outer s H E) (fxOf C G H E).wish := takes_of rfl rfl rfl rfl
  exact (dss_cons (ds_asg (de_lc (own := [("part", 3)]) (g := gName 3) rfl nd (di_range2 rfl T.free_range (da_cons de_int (da_cons (de_op or_add (od_add hK) (de_var 0 (pv 0)) de_int) da_nil))) (blkOk_by (N := NE_least_form) (sc := defScope s_least_form) (by decide +kernel)) (gw_name (by decide)) (fun _ _ _ _ _ => pg_name (i := 3) nd rfl (Or.inl rfl)) (fun _ _ _ _ _ => (dts_one (PW.pt (dw_and (dt_cmp (op_eqD hr.units) (od_eq hK) (de_op op_mod od_mod (de_var 0 (pv 0)) (de_var 3 (pv 3))) de_int (by rfl)) (dw_and1 (dt_val (de_call G_repeats takes0 (hr.mono (by decide)) rfl T.glo_repeats F_repeats.kp B_repeats .nil DfR.nil (da_cons (de_var 0 (pv 0)) (da_cons (de_var 1 (pv 1)) (da_cons (de_var 3 (pv 3)) da_nil)))))))))) (fun _ _ _ _ _ => (de_var 3 (pv 3)))) (dg_name 2 (pg_name (i := 2) nd rfl (.inr rfl))))
    (dss_one (ds_ret (de_tup (da_cons (de_ix ix_seq (od_ix hK) (de_var 2 (pv 2)) de_int (fun _ _ => rfl)) (da_cons (de_callTy call_tuple_of (cd_tuple hK) rfl T.free_tuple (by decide +kernel) (da_cons (de_lc (own := [("rest", 4)]) (g := gName 4) rfl nd (di_seq hK (de_callB cr_sortedI (cd_sort hK) rfl T.free_sorted (by decide +kernel) (da_cons (de_var 1 (pv 1)) da_nil))) (blkOk_by (N := NE_least_form) (sc := defScope s_least_form) (by decide +kernel)) (gw_name (by decide)) (fun _ _ _ _ _ => pg_name (i := 4) nd rfl (Or.inl rfl)) (fun _ _ _ _ _ => (dts_one (dt_cmp op_lt od_lt (de_var 4 (pv 4)) (de_ix ix_seq (od_ix hK) (de_var 2 (pv 2)) de_int (fun _ _ => rfl)) (by rfl)))) (fun _ _ _ _ _ => (de_var 4 (pv 4)))) da_nil)) da_nil))))))
theorem dd_Rhythm___init__ {P : Program} {w : World} {K : PySem.W.Frag} {mg : Str → Option Value} {base : Heap} {S : Type} {C : Cc S} (hCK : K = C.K) (hcad : C.cad = He.ga K) (T : Txt K mg) {fd : FuncData} (Fn : Fun K "__init__" "Rhythm.__init__" s_Rhythm___init__ (He.ma K (He.ga K "Rhythm") "__init__") fd)
  {fd_is_number : FuncData} (F_is_number : Fun K "is_number" "is_number" s_is_number (He.ga K "is_number") fd_is_number) (B_is_number : Binds K fd_is_number ["thing"] [])
  (G_is_number : FnOk P w K mg base (L2.CX P w) 1 (He.ga K "is_number") fd_is_number ["thing"] (spD C 1 (sem_is_number cs)))
  {fd_are_different : FuncData} (F_are_different : Fun K "are_different" "are_different" s_are_different (He.ga K "are_different") fd_are_different) (B_are_different : Binds K fd_are_different ["thing", "least", "most"] [])
  (G_are_different : FnOk P w K mg base (L2.CX P w) 2 (He.ga K "are_different") fd_are_different ["thing", "least", "most"] (spD C 3 (sem_are_different cs)))
  {fd_least_form : FuncData} (F_least_form : Fun K "least_form" "least_form" s_least_form (He.ga K "least_form") fd_least_form) (B_least_form : Binds K fd_least_form ["size", "rests"] [])
  (G_least_form : FnOk P w K mg base (L2.CX P w) 2 (He.ga K "least_form") fd_least_form ["size", "rests"] (spD C 2 sem_least_form)) :
  FnOk P w K mg base (L2.CX P w) 3 (He.ma K (He.ga K "Rhythm") "__init__") fd ["self", "size", "rests"] (spI C "Rhythm" 2 (sem_Rhythm___init__ cs)) := by
  refine fn_init (N := NE_Rhythm___init__) (rd := rd_Rhythm___init__ cs) (n := 2) Fn sc_Rhythm___init__ rfl rfn_Rhythm___init__ fun cdv A outer s H G xx E hr => ?_
  have nd := sc_Rhythm___init__.nd
  have hK : (cxOf (L2.CX P w) P w K mg base NE_Rhythm___init__ "Rhythm.__init__" (defScope s_Rhythm___init__) (He.ma K (He.ga K "Rhythm") "__init__") cdv A outer s H E).K = (fxI C G H xx E).K := hCK
  have tk : Takes (cxOf (L2.CX P w) P w K mg base NE_Rhythm___init__ "Rhythm.__init__" (defScope s_Rhythm___init__) (He.ma K (He.ga K "Rhythm") "__init__") cdv A outer s H E) (fxI C G H xx E).wish := takes_of rfl rfl rfl rfl
  exact (dss_cons (ds_if (PW.pt (dw_or (dt_not (dt_val (de_call G_is_number tk (hr.mono (by decide)) rfl T.glo_is_number F_is_number.kp B_is_number .nil DfR.nil (da_cons (de_var 1 (pv 1)) da_nil)))) (dw_or1 (dt_not (dt_chain op_le od_le op_le od_le de_int (de_var 1 (pv 1)) (de_gint rfl T.int_MOST_SIZE)))))) (dss_one ds_no) dss_nil)
    (dss_cons (ds_if (dt_not (dt_val (de_call G_are_different tk (hr.mono (by decide)) rfl T.glo_are_different F_are_different.kp B_are_different .nil DfR.nil (da_cons (de_var 2 (pv 2)) (da_cons de_int (da_cons (de_op op_sub od_sub (de_var 1 (pv 1)) de_int) da_nil)))))) (dss_one ds_no) dss_nil)
    (dss_one (ds_fld hK (by rw [show (fxI C G H xx E).cad = He.ga K from hcad]; exact T.cls_Rhythm) (by rw [show (fxI C G H xx E).cad = He.ga K from hcad]; exact T.noat_Rhythm_own_form) (pv 0) (de_call G_least_form tk (hr.mono (by decide)) rfl T.glo_least_form F_least_form.kp B_least_form .nil DfR.nil (da_cons (de_var 1 (pv 1)) (da_cons (de_callTy call_list_of (cd_list hK) rfl T.free_list (by decide +kernel) (da_cons (de_var 2 (pv 2)) da_nil)) da_nil)))))))
theorem dd_Rhythm_size {P : Program} {w : World} {K : PySem.W.Frag} {mg : Str → Option Value} {base : Heap} {S : Type} {C : Cc S} (hCK : K = C.K) (hcad : C.cad = He.ga K) (T : Txt K mg) {fd : FuncData} (Fn : Fun K "size" "Rhythm.size" s_Rhythm_size (He5.wf K (He.ga K "Rhythm") "property" "size") fd)
   :
  FnOk P w K mg base (L2.CX P w) 1 (He5.wf K (He.ga K "Rhythm") "property" "size") fd ["self"] (spD C 1 sem_Rhythm_size) := by
  refine fn_body (N := NE_Rhythm_size) (rd := rd_Rhythm_size) Fn sc_Rhythm_size rfn_Rhythm_size fun cdv A outer s H G E hr => ?_
  have nd := sc_Rhythm_size.nd
  have hK : (cxOf (L2.CX P w) P w K mg base NE_Rhythm_size "Rhythm.size" (defScope s_Rhythm_size) (He5.wf K (He.ga K "Rhythm") "property" "size") cdv A outer s H E).K = (fxOf C G H E).K := hCK
  have tk : Takes (cxOf (L2.CX P w) P w K mg base NE_Rhythm_size "Rhythm.size" (defScope s_Rhythm_size) (He5.wf K (He.ga K "Rhythm") "property" "size") cdv A outer s H E) (fxOf C G H E).wish := takes_of rfl rfl rfl rfl
  exact (dss_one (ds_ret (de_ix ix_seq (od_ix hK) (de_fldC hK (congrFun hcad "Rhythm") T.cls_Rhythm T.noat_Rhythm_own_form (de_var 0 (pv 0))) de_int (fun _ _ => rfl))))
theorem dd_Rhythm_rests {P : Program} {w : World} {K : PySem.W.Frag} {mg : Str → Option Value} {base : Heap} {S : Type} {C : Cc S} (hCK : K = C.K) (hcad : C.cad = He.ga K) (T : Txt K mg) {fd : FuncData} (Fn : Fun K "rests" "Rhythm.rests" s_Rhythm_rests (He5.wf K (He.ga K "Rhythm") "property" "rests") fd)
   :
  FnOk P w K mg base (L2.CX P w) 1 (He5.wf K (He.ga K "Rhythm") "property" "rests") fd ["self"] (spD C 1 sem_Rhythm_rests) := by
  refine fn_body (N := NE_Rhythm_rests) (rd := rd_Rhythm_rests) Fn sc_Rhythm_rests rfn_Rhythm_rests fun cdv A outer s H G E hr => ?_
  have nd := sc_Rhythm_rests.nd
  have hK : (cxOf (L2.CX P w) P w K mg base NE_Rhythm_rests "Rhythm.rests" (defScope s_Rhythm_rests) (He5.wf K (He.ga K "Rhythm") "property" "rests") cdv A outer s H E).K = (fxOf C G H E).K := hCK
  have tk : Takes (cxOf (L2.CX P w) P w K mg base NE_Rhythm_rests "Rhythm.rests" (defScope s_Rhythm_rests) (He5.wf K (He.ga K "Rhythm") "property" "rests") cdv A outer s H E) (fxOf C G H E).wish := takes_of rfl rfl rfl rfl
  exact (dss_one (ds_ret (de_ix ix_seq (od_ix hK) (de_fldC hK (congrFun hcad "Rhythm") T.cls_Rhythm T.noat_Rhythm_own_form (de_var 0 (pv 0))) de_int (fun _ _ => rfl))))
theorem dd__law_lcm {P : Program} {w : World} {K : PySem.W.Frag} {mg : Str → Option Value} {base : Heap} {S : Type} {C : Cc S} (hCK : K = C.K) (hcad : C.cad = He.ga K) (T : Txt K mg) {fd : FuncData} (Fn : Fun K "_law_lcm" "_law_lcm" s__law_lcm (He.ga K "_law_lcm") fd)
   :
  FnOk P w K mg base (L2.CX P w) 1 (He.ga K "_law_lcm") fd ["_law_one", "_law_due_one"] (spD C 2 sem__law_lcm) := by
  refine fn_body (N := NE__law_lcm) (rd := rd__law_lcm) Fn sc__law_lcm rfn__law_lcm fun cdv A outer s H G E hr => ?_
  have nd := sc__law_lcm.nd
  have hK : (cxOf (L2.CX P w) P w K mg base NE__law_lcm "_law_lcm" (defScope s__law_lcm) (He.ga K "_law_lcm") cdv A outer s H E).K = (fxOf C G H E).K := hCK
  have tk : Takes (cxOf (L2.CX P w) P w K mg base NE__law_lcm "_law_lcm" (defScope s__law_lcm) (He.ga K "_law_lcm") cdv A outer s H E) (fxOf C G H E).wish := takes_of rfl rfl rfl rfl
  exact (dss_cons (ds_asg (de_var 0 (pv 0)) (dg_name 2 (pg_name (i := 2) nd rfl (.inl rfl))))
    (dss_cons (ds_for (passes_of rfl) rfl (di_range1 rfl T.free_range (da_cons (de_var 1 (pv 1)) da_nil)) (dg_name 3 (pg_name (i := 3) nd rfl (.inl rfl))) (dss_one (ds_if (dt_cmp (op_neD hr.units) (od_ne hK) (de_op op_mod od_mod (de_var 2 (pv 2)) (de_var 1 (pv 1))) de_int (by rfl)) (dss_one (ds_asg (de_op or_add (od_add hK) (de_var 2 (pv 2)) (de_var 0 (pv 0))) (dg_name 2 (pg_name (i := 2) nd rfl (.inl rfl))))) dss_nil)))
    (dss_one (ds_ret (de_var 2 (pv 2))))))
theorem dd__law_has {P : Program} {w : World} {K : PySem.W.Frag} {mg : Str → Option Value} {base : Heap} {S : Type} {C : Cc S} (hCK : K = C.K) (hcad : C.cad = He.ga K) (T : Txt K mg) {fd : FuncData} (Fn : Fun K "_law_has" "_law_has" s__law_has (He.ga K "_law_has") fd)
   :
  FnOk P w K mg base (L2.CX P w) 1 (He.ga K "_law_has") fd ["_law_rhythm", "_law_day"] (spD C 2 sem__law_has) := by
  refine fn_body (N := NE__law_has) (rd := rd__law_has) Fn sc__law_has rfn__law_has fun cdv A outer s H G E hr => ?_
  have nd := sc__law_has.nd
  have hK : (cxOf (L2.CX P w) P w K mg base NE__law_has "_law_has" (defScope s__law_has) (He.ga K "_law_has") cdv A outer s H E).K = (fxOf C G H E).K := hCK
  have tk : Takes (cxOf (L2.CX P w) P w K mg base NE__law_has "_law_has" (defScope s__law_has) (He.ga K "_law_has") cdv A outer s H E) (fxOf C G H E).wish := takes_of rfl rfl rfl rfl
  exact (dss_one (ds_ret (de_cmp op_in_seq (od_in false hK) (de_op op_mod od_mod (de_callTy call_int1 cd_int1 rfl T.free_int (by decide +kernel) (da_cons (de_var 1 (pv 1)) da_nil)) (de_ix ix_seq (od_ix hK) (de_var 0 (pv 0)) de_int (fun _ _ => rfl))) (de_ix ix_seq (od_ix hK) (de_var 0 (pv 0)) de_int (fun _ _ => rfl)) (by rfl))))
theorem dd__law_least {P : Program} {w : World} {K : PySem.W.Frag} {mg : Str → Option Value} {base : Heap} {S : Type} {C : Cc S} (hCK : K = C.K) (hcad : C.cad = He.ga K) (T : Txt K mg) {fd : FuncData} (Fn : Fun K "_law_least" "_law_least" s__law_least (He.ga K "_law_least") fd)
   :
  FnOk P w K mg base (L2.CX P w) 1 (He.ga K "_law_least") fd ["_law_rhythm"] (spD C 1 sem__law_least) := by
  refine fn_body (N := NE__law_least) (rd := rd__law_least) Fn sc__law_least rfn__law_least fun cdv A outer s H G E hr => ?_
  have nd := sc__law_least.nd
  have hK : (cxOf (L2.CX P w) P w K mg base NE__law_least "_law_least" (defScope s__law_least) (He.ga K "_law_least") cdv A outer s H E).K = (fxOf C G H E).K := hCK
  have tk : Takes (cxOf (L2.CX P w) P w K mg base NE__law_least "_law_least" (defScope s__law_least) (He.ga K "_law_least") cdv A outer s H E) (fxOf C G H E).wish := takes_of rfl rfl rfl rfl
  exact (dss_cons (ds_asg (de_var 0 (pv 0)) (dg_tup hK rfl (dgs_cons (dg_name 1 (pg_name (i := 1) nd rfl (.inr rfl))) (dgs_cons (dg_name 2 (pg_name (i := 2) nd rfl (.inl rfl))) dgs_nil))))
    (dss_cons (ds_for (passes_of rfl) rfl (di_range2 rfl T.free_range (da_cons de_int (da_cons (de_op or_add (od_add hK) (de_var 1 (pv 1)) de_int) da_nil))) (dg_name 3 (pg_name (i := 3) nd rfl (.inr rfl))) (dss_cons (ds_asg (de_callB cr_sortS (cd_sortS hK) rfl T.free_sorted (by decide +kernel) (da_cons (de_lc (own := [("_law_rest", 5)]) (g := gName 5) rfl nd (di_seq hK (de_var 2 (pv 2))) (blkOk_by (N := NE__law_least) (sc := defScope s__law_least) (by decide +kernel)) (gw_name (by decide)) (fun _ _ _ _ _ => pg_name (i := 5) nd rfl (Or.inl rfl)) (fun _ _ _ _ _ => dts_nil) (fun _ _ _ _ _ => (de_op op_mod od_mod (de_callTy call_int1 cd_int1 rfl T.free_int (by decide +kernel) (da_cons (de_op or_add (od_add hK) (de_var 5 (pv 5)) (de_var 3 (pv 3))) da_nil)) (de_var 1 (pv 1))))) da_nil)) (dg_name 4 (pg_name (i := 4) nd rfl (.inl rfl))))
    (dss_one (ds_if (PW.pt (dw_and (dt_cmp (op_eqD hr.units) (od_eq hK) (de_op op_mod od_mod (de_var 1 (pv 1)) (de_var 3 (pv 3))) de_int (by rfl)) (dw_and1 (dt_cmp (op_eqD hr.units) (od_eq hK) (de_var 4 (pv 4)) (de_callB cr_sortS (cd_sortS hK) rfl T.free_sorted (by decide +kernel) (da_cons (de_var 2 (pv 2)) da_nil)) (by rfl))))) (dss_one (ds_ret (de_tup (da_cons (de_var 3 (pv 3)) (da_cons (de_callTy call_tuple_of (cd_tuple hK) rfl T.free_tuple (by decide +kernel) (da_cons (de_lc (own := [("_law_rest", 5)]) (g := gName 5) rfl nd (di_seq hK (de_callB cr_sortS (cd_sortS hK) rfl T.free_sorted (by decide +kernel) (da_cons (de_var 2 (pv 2)) da_nil))) (blkOk_by (N := NE__law_least) (sc := defScope s__law_least) (by decide +kernel)) (gw_name (by decide)) (fun _ _ _ _ _ => pg_name (i := 5) nd rfl (Or.inl rfl)) (fun _ _ _ _ _ => (dts_one (dt_cmp op_lt od_lt (de_var 5 (pv 5)) (de_var 3 (pv 3)) (by rfl)))) (fun _ _ _ _ _ => (de_var 5 (pv 5)))) da_nil)) da_nil))))) dss_nil))))
    (dss_one (ds_ret (de_tup (da_cons (de_var 1 (pv 1)) (da_cons (de_callTy call_tuple_of (cd_tuple hK) rfl T.free_tuple (by decide +kernel) (da_cons (de_callB cr_sortS (cd_sortS hK) rfl T.free_sorted (by decide +kernel) (da_cons (de_var 2 (pv 2)) da_nil)) da_nil)) da_nil)))))))
theorem dd__law_is_made {P : Program} {w : World} {K : PySem.W.Frag} {mg : Str → Option Value} {base : Heap} {S : Type} {C : Cc S} (hCK : K = C.K) (hcad : C.cad = He.ga K) (T : Txt K mg) {fd : FuncData} (Fn : Fun K "_law_is_made" "_law_is_made" s__law_is_made (He.ga K "_law_is_made") fd)
  {fd__law_least : FuncData} (F__law_least : Fun K "_law_least" "_law_least" s__law_least (He.ga K "_law_least") fd__law_least) (B__law_least : Binds K fd__law_least ["_law_rhythm"] [])
  (G__law_least : FnOk P w K mg base (L2.CX P w) 1 (He.ga K "_law_least") fd__law_least ["_law_rhythm"] (spD C 1 sem__law_least))
  {fd_Rhythm_size : FuncData} (F_Rhythm_size : Fun K "size" "Rhythm.size" s_Rhythm_size (He5.wf K (He.ga K "Rhythm") "property" "size") fd_Rhythm_size) (B_Rhythm_size : Binds K fd_Rhythm_size ["self"] [])
  (G_Rhythm_size : FnOk P w K mg base (L2.CX P w) 1 (He5.wf K (He.ga K "Rhythm") "property" "size") fd_Rhythm_size ["self"] (spD C 1 sem_Rhythm_size))
  {fd_Rhythm_rests : FuncData} (F_Rhythm_rests : Fun K "rests" "Rhythm.rests" s_Rhythm_rests (He5.wf K (He.ga K "Rhythm") "property" "rests") fd_Rhythm_rests) (B_Rhythm_rests : Binds K fd_Rhythm_rests ["self"] [])
  (G_Rhythm_rests : FnOk P w K mg base (L2.CX P w) 1 (He5.wf K (He.ga K "Rhythm") "property" "rests") fd_Rhythm_rests ["self"] (spD C 1 sem_Rhythm_rests)) :
  FnG P w K mg base (L2.CX P w) 3 (He.ga K "_law_is_made") fd ["_law_told", "_law_days", "_law_size"] (spD C 3 (sem__law_is_made cs)) := by
  refine fn_bodyG (N := NE__law_is_made) (rd := rd__law_is_made cs) Fn sc__law_is_made rfn__law_is_made fun cdv A outer s H G E hgd0 hr => ?_
  have hgd : (cxOf (L2.CX P w) P w K mg base NE__law_is_made "_law_is_made" (defScope s__law_is_made) (He.ga K "_law_is_made") cdv A outer s H E).A.guards = some [] := hgd0
  have nd := sc__law_is_made.nd
  have hK : (cxOf (L2.CX P w) P w K mg base NE__law_is_made "_law_is_made" (defScope s__law_is_made) (He.ga K "_law_is_made") cdv A outer s H E).K = (fxOf C G H E).K := hCK
  have tk : Takes (cxOf (L2.CX P w) P w K mg base NE__law_is_made "_law_is_made" (defScope s__law_is_made) (He.ga K "_law_is_made") cdv A outer s H E) (fxOf C G H E).wish := takes_of rfl rfl rfl rfl
  exact (dss_cons (ds_asg (de_call G__law_least tk (hr.mono (by decide)) rfl T.glo__law_least F__law_least.kp B__law_least .nil DfR.nil (da_cons (de_tup (da_cons (de_var 2 (pv 2)) (da_cons (de_callTy call_tuple_of (cd_tuple hK) rfl T.free_tuple (by decide +kernel) (da_cons (de_var 1 (pv 1)) da_nil)) da_nil))) da_nil)) (dg_name 3 (pg_name (i := 3) nd rfl (.inl rfl))))
    (dss_one (ds_ret (de_and hK (de_isi hK (T.kit_own_Rhythm hCK hcad) (.own _) (de_var 0 (pv 0)) (pe_glob rfl T.glo_Rhythm rfl) rfl T.free_isinstance) (de_one (de_cmp (op_eqD hr.units) (od_eq hK) (de_callB (call_repr hgd (u70 hr)) (cd_repr hK) rfl T.free_repr (by decide +kernel) (da_cons (de_lst (da_cons (de_prop (congrFun hcad "Rhythm") (de_var 0 (pv 0)) T.cls_Rhythm T.prop_Rhythm_size G_Rhythm_size (hr.mono (by decide)) B_Rhythm_size) (da_cons (de_prop (congrFun hcad "Rhythm") (de_var 0 (pv 0)) T.cls_Rhythm T.prop_Rhythm_rests G_Rhythm_rests (hr.mono (by decide)) B_Rhythm_rests) da_nil))) da_nil)) (de_callB (call_repr hgd (u70 hr)) (cd_repr hK) rfl T.free_repr (by decide +kernel) (da_cons (de_lst (da_cons (de_ix ix_seq (od_ix hK) (de_var 3 (pv 3)) de_int (fun _ _ => rfl)) (da_cons (de_ix ix_seq (od_ix hK) (de_var 3 (pv 3)) de_int (fun _ _ => rfl)) da_nil))) da_nil)) (by rfl)))))))
theorem dd_common {P : Program} {w : World} {K : PySem.W.Frag} {mg : Str → Option Value} {base : Heap} {S : Type} {C : Cc S} (hCK : K = C.K) (hcad : C.cad = He.ga K) (T : Txt K mg) {fd : FuncData} (Fn : Fun K "common" "common" s_common (He.ga K "common") fd)
   :
  FnOk P w K mg base (L2.CX P w) 1 (He.ga K "common") fd ["one", "other"] (spD C 2 sem_common) := by
  refine fn_body (N := NE_common) (rd := rd_common) Fn sc_common rfn_common fun cdv A outer s H G E hr => ?_
  have nd := sc_common.nd
  have hK : (cxOf (L2.CX P w) P w K mg base NE_common "common" (defScope s_common) (He.ga K "common") cdv A outer s H E).K = (fxOf C G H E).K := hCK
  have tk : Takes (cxOf (L2.CX P w) P w K mg base NE_common "common" (defScope s_common) (He.ga K "common") cdv A outer s H E) (fxOf C G H E).wish := takes_of rfl rfl rfl rfl
  exact (dss_cons (ds_par rfl nd rfl rfl (by decide) rfl rfl (da_cons (de_var 0 (pv 0)) (da_cons (de_var 1 (pv 1)) da_nil)) (by rfl))
    (dss_cons (ds_while (passes_of rfl) (dt_cmp op_gt od_gt (de_var 3 (pv 3)) de_int (by rfl)) (dss_one (ds_par rfl nd rfl rfl (by decide) rfl rfl (da_cons (de_var 3 (pv 3)) (da_cons (de_op op_mod od_mod (de_var 2 (pv 2)) (de_var 3 (pv 3))) da_nil)) (by rfl))))
    (dss_one (ds_ret (de_op op_mul od_mul (de_op op_fdiv od_div (de_var 0 (pv 0)) (de_var 2 (pv 2))) (de_var 1 (pv 1)))))))
theorem dd_Rhythm___contains__ {P : Program} {w : World} {K : PySem.W.Frag} {mg : Str → Option Value} {base : Heap} {S : Type} {C : Cc S} (hCK : K = C.K) (hcad : C.cad = He.ga K) (T : Txt K mg) {fd : FuncData} (Fn : Fun K "__contains__" "Rhythm.__contains__" s_Rhythm___contains__ (He.ma K (He.ga K "Rhythm") "__contains__") fd)
  {fd_is_number : FuncData} (F_is_number : Fun K "is_number" "is_number" s_is_number (He.ga K "is_number") fd_is_number) (B_is_number : Binds K fd_is_number ["thing"] [])
  (G_is_number : FnOk P w K mg base (L2.CX P w) 1 (He.ga K "is_number") fd_is_number ["thing"] (spD C 1 (sem_is_number cs))) :
  FnOk P w K mg base (L2.CX P w) 2 (He.ma K (He.ga K "Rhythm") "__contains__") fd ["self", "day"] (spD C 2 (sem_Rhythm___contains__ cs)) := by
  refine fn_body (N := NE_Rhythm___contains__) (rd := rd_Rhythm___contains__ cs) Fn sc_Rhythm___contains__ rfn_Rhythm___contains__ fun cdv A outer s H G E hr => ?_
  have nd := sc_Rhythm___contains__.nd
  have hK : (cxOf (L2.CX P w) P w K mg base NE_Rhythm___contains__ "Rhythm.__contains__" (defScope s_Rhythm___contains__) (He.ma K (He.ga K "Rhythm") "__contains__") cdv A outer s H E).K = (fxOf C G H E).K := hCK
  have tk : Takes (cxOf (L2.CX P w) P w K mg base NE_Rhythm___contains__ "Rhythm.__contains__" (defScope s_Rhythm___contains__) (He.ma K (He.ga K "Rhythm") "__contains__") cdv A outer s H E) (fxOf C G H E).wish := takes_of rfl rfl rfl rfl
  exact (dss_one (ds_ret (de_and hK (de_call G_is_number tk (hr.mono (by decide)) rfl T.glo_is_number F_is_number.kp B_is_number .nil DfR.nil (da_cons (de_var 1 (pv 1)) da_nil)) (de_one (de_cmp op_in_seq (od_in false hK) (de_op op_mod od_mod (de_var 1 (pv 1)) (de_ix ix_seq (od_ix hK) (de_fldC hK (congrFun hcad "Rhythm") T.cls_Rhythm T.noat_Rhythm_own_form (de_var 0 (pv 0))) de_int (fun _ _ => rfl))) (de_ix ix_seq (od_ix hK) (de_fldC hK (congrFun hcad "Rhythm") T.cls_Rhythm T.noat_Rhythm_own_form (de_var 0 (pv 0))) de_int (fun _ _ => rfl)) (by rfl))))))
theorem dd_Rhythm___or__ {P : Program} {w : World} {K : PySem.W.Frag} {mg : Str → Option Value} {base : Heap} {S : Type} {C : Cc S} (hCK : K = C.K) (hcad : C.cad = He.ga K) (T : Txt K mg) {fd : FuncData} (Fn : Fun K "__or__" "Rhythm.__or__" s_Rhythm___or__ (He.ma K (He.ga K "Rhythm") "__or__") fd)
  {fd_common : FuncData} (F_common : Fun K "common" "common" s_common (He.ga K "common") fd_common) (B_common : Binds K fd_common ["one", "other"] [])
  (G_common : FnOk P w K mg base (L2.CX P w) 1 (He.ga K "common") fd_common ["one", "other"] (spD C 2 sem_common))
  {fd_Rhythm_size : FuncData} (F_Rhythm_size : Fun K "size" "Rhythm.size" s_Rhythm_size (He5.wf K (He.ga K "Rhythm") "property" "size") fd_Rhythm_size) (B_Rhythm_size : Binds K fd_Rhythm_size ["self"] [])
  (G_Rhythm_size : FnOk P w K mg base (L2.CX P w) 1 (He5.wf K (He.ga K "Rhythm") "property" "size") fd_Rhythm_size ["self"] (spD C 1 sem_Rhythm_size))
  {fd_Rhythm___init__ : FuncData} (F_Rhythm___init__ : Fun K "__init__" "Rhythm.__init__" s_Rhythm___init__ (He.ma K (He.ga K "Rhythm") "__init__") fd_Rhythm___init__) (B_Rhythm___init__ : Binds K fd_Rhythm___init__ ["self", "size", "rests"] [])
  (G_Rhythm___init__ : FnOk P w K mg base (L2.CX P w) 3 (He.ma K (He.ga K "Rhythm") "__init__") fd_Rhythm___init__ ["self", "size", "rests"] (spI C "Rhythm" 2 (sem_Rhythm___init__ cs)))
  {fd_Rhythm___contains__ : FuncData} (F_Rhythm___contains__ : Fun K "__contains__" "Rhythm.__contains__" s_Rhythm___contains__ (He.ma K (He.ga K "Rhythm") "__contains__") fd_Rhythm___contains__) (B_Rhythm___contains__ : Binds K fd_Rhythm___contains__ ["self", "day"] [])
  (G_Rhythm___contains__ : FnOk P w K mg base (L2.CX P w) 2 (He.ma K (He.ga K "Rhythm") "__contains__") fd_Rhythm___contains__ ["self", "day"] (spD C 2 (sem_Rhythm___contains__ cs))) :
  FnOk P w K mg base (L2.CX P w) 5 (He.ma K (He.ga K "Rhythm") "__or__") fd ["self", "other"] (spD C 2 (sem_Rhythm___or__ cs)) := by
  refine fn_body (N := NE_Rhythm___or__) (rd := rd_Rhythm___or__ cs) Fn sc_Rhythm___or__ rfn_Rhythm___or__ fun cdv A outer s H G E hr => ?_
  have nd := sc_Rhythm___or__.nd
  have hK : (cxOf (L2.CX P w) P w K mg base NE_Rhythm___or__ "Rhythm.__or__" (defScope s_Rhythm___or__) (He.ma K (He.ga K "Rhythm") "__or__") cdv A outer s H E).K = (fxOf C G H E).K := hCK
  have tk : Takes (cxOf (L2.CX P w) P w K mg base NE_Rhythm___or__ "Rhythm.__or__" (defScope s_Rhythm___or__) (He.ma K (He.ga K "Rhythm") "__or__") cdv A outer s H E) (fxOf C G H E).wish := takes_of rfl rfl rfl rfl
  exact (dss_cons (ds_if (dt_not (dt_val (de_isi hK (T.kit_own_Rhythm hCK hcad) (.own _) (de_var 1 (pv 1)) (pe_glob rfl T.glo_Rhythm rfl) rfl T.free_isinstance))) (dss_one ds_no) dss_nil)
    (dss_cons (ds_asg (de_call G_common tk (hr.mono (by decide)) rfl T.glo_common F_common.kp B_common .nil DfR.nil (da_cons (de_prop (congrFun hcad "Rhythm") (de_var 0 (pv 0)) T.cls_Rhythm T.prop_Rhythm_size G_Rhythm_size (hr.mono (by decide)) B_Rhythm_size) (da_cons (de_prop (congrFun hcad "Rhythm") (de_var 1 (pv 1)) T.cls_Rhythm T.prop_Rhythm_size G_Rhythm_size (hr.mono (by decide)) B_Rhythm_size) da_nil))) (dg_name 2 (pg_name (i := 2) nd rfl (.inl rfl))))
    (dss_one (ds_ret (de_make (congrFun hcad "Rhythm") T.mk_Rhythm G_Rhythm___init__ tk (hr.mono (by decide)) rfl T.glo_Rhythm B_Rhythm___init__ .nil DfR.nil (da_cons (de_var 2 (pv 2)) (da_cons (de_lc (own := [("day", 3)]) (g := gName 3) rfl nd (di_range1 rfl T.free_range (da_cons (de_var 2 (pv 2)) da_nil)) (blkOk_by (N := NE_Rhythm___or__) (sc := defScope s_Rhythm___or__) (by decide +kernel)) (gw_name (by decide)) (fun _ _ _ _ _ => pg_name (i := 3) nd rfl (Or.inl rfl)) (fun _ _ _ _ _ => (dts_one (PW.pt (dw_or (dt_cmp (OpR_or (or_ownIn G_Rhythm___contains__ (hr.mono (by decide)) B_Rhythm___contains__ (passes_F takes0) T.meth_Rhythm___contains__.at_ T.meth_Rhythm___contains__.fn) op_in_seq) (od_or (od_ownIn false (congrFun hcad "Rhythm")) (od_in false hK)) (de_var 3 (pv 3)) (de_var 0 (pv 0)) (by rfl)) (dw_or1 (dt_cmp (OpR_or (or_ownIn G_Rhythm___contains__ (hr.mono (by decide)) B_Rhythm___contains__ (passes_F takes0) T.meth_Rhythm___contains__.at_ T.meth_Rhythm___contains__.fn) op_in_seq) (od_or (od_ownIn false (congrFun hcad "Rhythm")) (od_in false hK)) (de_var 3 (pv 3)) (de_var 1 (pv 1)) (by rfl))))))) (fun _ _ _ _ _ => (de_var 3 (pv 3)))) da_nil)))))))
theorem dd_Rhythm___and__ {P : Program} {w : World} {K : PySem.W.Frag} {mg : Str → Option Value} {base : Heap} {S : Type} {C : Cc S} (hCK : K = C.K) (hcad : C.cad = He.ga K) (T : Txt K mg) {fd : FuncData} (Fn : Fun K "__and__" "Rhythm.__and__" s_Rhythm___and__ (He.ma K (He.ga K "Rhythm") "__and__") fd)
  {fd_common : FuncData} (F_common : Fun K "common" "common" s_common (He.ga K "common") fd_common) (B_common : Binds K fd_common ["one", "other"] [])
  (G_common : FnOk P w K mg base (L2.CX P w) 1 (He.ga K "common") fd_common ["one", "other"] (spD C 2 sem_common))
  {fd_Rhythm_size : FuncData} (F_Rhythm_size : Fun K "size" "Rhythm.size" s_Rhythm_size (He5.wf K (He.ga K "Rhythm") "property" "size") fd_Rhythm_size) (B_Rhythm_size : Binds K fd_Rhythm_size ["self"] [])
  (G_Rhythm_size : FnOk P w K mg base (L2.CX P w) 1 (He5.wf K (He.ga K "Rhythm") "property" "size") fd_Rhythm_size ["self"] (spD C 1 sem_Rhythm_size))
  {fd_Rhythm___init__ : FuncData} (F_Rhythm___init__ : Fun K "__init__" "Rhythm.__init__" s_Rhythm___init__ (He.ma K (He.ga K "Rhythm") "__init__") fd_Rhythm___init__) (B_Rhythm___init__ : Binds K fd_Rhythm___init__ ["self", "size", "rests"] [])
  (G_Rhythm___init__ : FnOk P w K mg base (L2.CX P w) 3 (He.ma K (He.ga K "Rhythm") "__init__") fd_Rhythm___init__ ["self", "size", "rests"] (spI C "Rhythm" 2 (sem_Rhythm___init__ cs)))
  {fd_Rhythm___contains__ : FuncData} (F_Rhythm___contains__ : Fun K "__contains__" "Rhythm.__contains__" s_Rhythm___contains__ (He.ma K (He.ga K "Rhythm") "__contains__") fd_Rhythm___contains__) (B_Rhythm___contains__ : Binds K fd_Rhythm___contains__ ["self", "day"] [])
  (G_Rhythm___contains__ : FnOk P w K mg base (L2.CX P w) 2 (He.ma K (He.ga K "Rhythm") "__contains__") fd_Rhythm___contains__ ["self", "day"] (spD C 2 (sem_Rhythm___contains__ cs))) :
  FnOk P w K mg base (L2.CX P w) 5 (He.ma K (He.ga K "Rhythm") "__and__") fd ["self", "other"] (spD C 2 (sem_Rhythm___and__ cs)) := by
  refine fn_body (N := NE_Rhythm___and__) (rd := rd_Rhythm___and__ cs) Fn sc_Rhythm___and__ rfn_Rhythm___and__ fun cdv A outer s H G E hr => ?_
  have nd := sc_Rhythm___and__.nd
  have hK : (cxOf (L2.CX P w) P w K mg base NE_Rhythm___and__ "Rhythm.__and__" (defScope s_Rhythm___and__) (He.ma K (He.ga K "Rhythm") "__and__") cdv A outer s H E).K = (fxOf C G H E).K := hCK
  have tk : Takes (cxOf (L2.CX P w) P w K mg base NE_Rhythm___and__ "Rhythm.__and__" (defScope s_Rhythm___and__) (He.ma K (He.ga K "Rhythm") "__and__") cdv A outer s H E) (fxOf C G H E).wish := takes_of rfl rfl rfl rfl
  exact (dss_cons (ds_if (dt_not (dt_val (de_isi hK (T.kit_own_Rhythm hCK hcad) (.own _) (de_var 1 (pv 1)) (pe_glob rfl T.glo_Rhythm rfl) rfl T.free_isinstance))) (dss_one ds_no) dss_nil)
    (dss_cons (ds_asg (de_call G_common tk (hr.mono (by decide)) rfl T.glo_common F_common.kp B_common .nil DfR.nil (da_cons (de_prop (congrFun hcad "Rhythm") (de_var 0 (pv 0)) T.cls_Rhythm T.prop_Rhythm_size G_Rhythm_size (hr.mono (by decide)) B_Rhythm_size) (da_cons (de_prop (congrFun hcad "Rhythm") (de_var 1 (pv 1)) T.cls_Rhythm T.prop_Rhythm_size G_Rhythm_size (hr.mono (by decide)) B_Rhythm_size) da_nil))) (dg_name 2 (pg_name (i := 2) nd rfl (.inl rfl))))
    (dss_one (ds_ret (de_make (congrFun hcad "Rhythm") T.mk_Rhythm G_Rhythm___init__ tk (hr.mono (by decide)) rfl T.glo_Rhythm B_Rhythm___init__ .nil DfR.nil (da_cons (de_var 2 (pv 2)) (da_cons (de_lc (own := [("day", 3)]) (g := gName 3) rfl nd (di_range1 rfl T.free_range (da_cons (de_var 2 (pv 2)) da_nil)) (blkOk_by (N := NE_Rhythm___and__) (sc := defScope s_Rhythm___and__) (by decide +kernel)) (gw_name (by decide)) (fun _ _ _ _ _ => pg_name (i := 3) nd rfl (Or.inl rfl)) (fun _ _ _ _ _ => (dts_one (PW.pt (dw_and (dt_cmp (OpR_or (or_ownIn G_Rhythm___contains__ (hr.mono (by decide)) B_Rhythm___contains__ (passes_F takes0) T.meth_Rhythm___contains__.at_ T.meth_Rhythm___contains__.fn) op_in_seq) (od_or (od_ownIn false (congrFun hcad "Rhythm")) (od_in false hK)) (de_var 3 (pv 3)) (de_var 0 (pv 0)) (by rfl)) (dw_and1 (dt_cmp (OpR_or (or_ownIn G_Rhythm___contains__ (hr.mono (by decide)) B_Rhythm___contains__ (passes_F takes0) T.meth_Rhythm___contains__.at_ T.meth_Rhythm___contains__.fn) op_in_seq) (od_or (od_ownIn false (congrFun hcad "Rhythm")) (od_in false hK)) (de_var 3 (pv 3)) (de_var 1 (pv 1)) (by rfl))))))) (fun _ _ _ _ _ => (de_var 3 (pv 3)))) da_nil)))))))
theorem dd_Rhythm___sub__ {P : Program} {w : World} {K : PySem.W.Frag} {mg : Str → Option Value} {base : Heap} {S : Type} {C : Cc S} (hCK : K = C.K) (hcad : C.cad = He.ga K) (T : Txt K mg) {fd : FuncData} (Fn : Fun K "__sub__" "Rhythm.__sub__" s_Rhythm___sub__ (He.ma K (He.ga K "Rhythm") "__sub__") fd)
  {fd_common : FuncData} (F_common : Fun K "common" "common" s_common (He.ga K "common") fd_common) (B_common : Binds K fd_common ["one", "other"] [])
  (G_common : FnOk P w K mg base (L2.CX P w) 1 (He.ga K "common") fd_common ["one", "other"] (spD C 2 sem_common))
  {fd_Rhythm_size : FuncData} (F_Rhythm_size : Fun K "size" "Rhythm.size" s_Rhythm_size (He5.wf K (He.ga K "Rhythm") "property" "size") fd_Rhythm_size) (B_Rhythm_size : Binds K fd_Rhythm_size ["self"] [])
  (G_Rhythm_size : FnOk P w K mg base (L2.CX P w) 1 (He5.wf K (He.ga K "Rhythm") "property" "size") fd_Rhythm_size ["self"] (spD C 1 sem_Rhythm_size))
  {fd_Rhythm___init__ : FuncData} (F_Rhythm___init__ : Fun K "__init__" "Rhythm.__init__" s_Rhythm___init__ (He.ma K (He.ga K "Rhythm") "__init__") fd_Rhythm___init__) (B_Rhythm___init__ : Binds K fd_Rhythm___init__ ["self", "size", "rests"] [])
  (G_Rhythm___init__ : FnOk P w K mg base (L2.CX P w) 3 (He.ma K (He.ga K "Rhythm") "__init__") fd_Rhythm___init__ ["self", "size", "rests"] (spI C "Rhythm" 2 (sem_Rhythm___init__ cs)))
  {fd_Rhythm___contains__ : FuncData} (F_Rhythm___contains__ : Fun K "__contains__" "Rhythm.__contains__" s_Rhythm___contains__ (He.ma K (He.ga K "Rhythm") "__contains__") fd_Rhythm___contains__) (B_Rhythm___contains__ : Binds K fd_Rhythm___contains__ ["self", "day"] [])
  (G_Rhythm___contains__ : FnOk P w K mg base (L2.CX P w) 2 (He.ma K (He.ga K "Rhythm") "__contains__") fd_Rhythm___contains__ ["self", "day"] (spD C 2 (sem_Rhythm___contains__ cs))) :
  FnOk P w K mg base (L2.CX P w) 5 (He.ma K (He.ga K "Rhythm") "__sub__") fd ["self", "other"] (spD C 2 (sem_Rhythm___sub__ cs)) := by
  refine fn_body (N := NE_Rhythm___sub__) (rd := rd_Rhythm___sub__ cs) Fn sc_Rhythm___sub__ rfn_Rhythm___sub__ fun cdv A outer s H G E hr => ?_
  have nd := sc_Rhythm___sub__.nd
  have hK : (cxOf (L2.CX P w) P w K mg base NE_Rhythm___sub__ "Rhythm.__sub__" (defScope s_Rhythm___sub__) (He.ma K (He.ga K "Rhythm") "__sub__") cdv A outer s H E).K = (fxOf C G H E).K := hCK
  have tk : Takes (cxOf (L2.CX P w) P w K mg base NE_Rhythm___sub__ "Rhythm.__sub__" (defScope s_Rhythm___sub__) (He.ma K (He.ga K "Rhythm") "__sub__") cdv A outer s H E) (fxOf C G H E).wish := takes_of rfl rfl rfl rfl
  exact (dss_cons (ds_if (dt_not (dt_val (de_isi hK (T.kit_own_Rhythm hCK hcad) (.own _) (de_var 1 (pv 1)) (pe_glob rfl T.glo_Rhythm rfl) rfl T.free_isinstance))) (dss_one ds_no) dss_nil)
    (dss_cons (ds_asg (de_call G_common tk (hr.mono (by decide)) rfl T.glo_common F_common.kp B_common .nil DfR.nil (da_cons (de_prop (congrFun hcad "Rhythm") (de_var 0 (pv 0)) T.cls_Rhythm T.prop_Rhythm_size G_Rhythm_size (hr.mono (by decide)) B_Rhythm_size) (da_cons (de_prop (congrFun hcad "Rhythm") (de_var 1 (pv 1)) T.cls_Rhythm T.prop_Rhythm_size G_Rhythm_size (hr.mono (by decide)) B_Rhythm_size) da_nil))) (dg_name 2 (pg_name (i := 2) nd rfl (.inl rfl))))
    (dss_one (ds_ret (de_make (congrFun hcad "Rhythm") T.mk_Rhythm G_Rhythm___init__ tk (hr.mono (by decide)) rfl T.glo_Rhythm B_Rhythm___init__ .nil DfR.nil (da_cons (de_var 2 (pv 2)) (da_cons (de_lc (own := [("day", 3)]) (g := gName 3) rfl nd (di_range1 rfl T.free_range (da_cons (de_var 2 (pv 2)) da_nil)) (blkOk_by (N := NE_Rhythm___sub__) (sc := defScope s_Rhythm___sub__) (by decide +kernel)) (gw_name (by decide)) (fun _ _ _ _ _ => pg_name (i := 3) nd rfl (Or.inl rfl)) (fun _ _ _ _ _ => (dts_one (PW.pt (dw_and (dt_cmp (OpR_or (or_ownIn G_Rhythm___contains__ (hr.mono (by decide)) B_Rhythm___contains__ (passes_F takes0) T.meth_Rhythm___contains__.at_ T.meth_Rhythm___contains__.fn) op_in_seq) (od_or (od_ownIn false (congrFun hcad "Rhythm")) (od_in false hK)) (de_var 3 (pv 3)) (de_var 0 (pv 0)) (by rfl)) (dw_and1 (dt_cmp (OpR_or (or_ownNotIn G_Rhythm___contains__ (hr.mono (by decide)) B_Rhythm___contains__ (passes_F takes0) T.meth_Rhythm___contains__.at_ T.meth_Rhythm___contains__.fn) op_notIn_seq) (od_or (od_ownIn true (congrFun hcad "Rhythm")) (od_in true hK)) (de_var 3 (pv 3)) (de_var 1 (pv 1)) (by rfl))))))) (fun _ _ _ _ _ => (de_var 3 (pv 3)))) da_nil)))))))
theorem dd_Rhythm_within {P : Program} {w : World} {K : PySem.W.Frag} {mg : Str → Option Value} {base : Heap} {S : Type} {C : Cc S} (hCK : K = C.K) (hcad : C.cad = He.ga K) (T : Txt K mg) {fd : FuncData} (Fn : Fun K "within" "Rhythm.within" s_Rhythm_within (He.ma K (He.ga K "Rhythm") "within") fd)
  {fd_common : FuncData} (F_common : Fun K "common" "common" s_common (He.ga K "common") fd_common) (B_common : Binds K fd_common ["one", "other"] [])
  (G_common : FnOk P w K mg base (L2.CX P w) 1 (He.ga K "common") fd_common ["one", "other"] (spD C 2 sem_common))
  {fd_Rhythm_size : FuncData} (F_Rhythm_size : Fun K "size" "Rhythm.size" s_Rhythm_size (He5.wf K (He.ga K "Rhythm") "property" "size") fd_Rhythm_size) (B_Rhythm_size : Binds K fd_Rhythm_size ["self"] [])
  (G_Rhythm_size : FnOk P w K mg base (L2.CX P w) 1 (He5.wf K (He.ga K "Rhythm") "property" "size") fd_Rhythm_size ["self"] (spD C 1 sem_Rhythm_size))
  {fd_Rhythm___contains__ : FuncData} (F_Rhythm___contains__ : Fun K "__contains__" "Rhythm.__contains__" s_Rhythm___contains__ (He.ma K (He.ga K "Rhythm") "__contains__") fd_Rhythm___contains__) (B_Rhythm___contains__ : Binds K fd_Rhythm___contains__ ["self", "day"] [])
  (G_Rhythm___contains__ : FnOk P w K mg base (L2.CX P w) 2 (He.ma K (He.ga K "Rhythm") "__contains__") fd_Rhythm___contains__ ["self", "day"] (spD C 2 (sem_Rhythm___contains__ cs))) :
  FnOk P w K mg base (L2.CX P w) 3 (He.ma K (He.ga K "Rhythm") "within") fd ["self", "other"] (spD C 2 (sem_Rhythm_within cs)) := by
  refine fn_body (N := NE_Rhythm_within) (rd := rd_Rhythm_within cs) Fn sc_Rhythm_within rfn_Rhythm_within fun cdv A outer s H G E hr => ?_
  have nd := sc_Rhythm_within.nd
  have hK : (cxOf (L2.CX P w) P w K mg base NE_Rhythm_within "Rhythm.within" (defScope s_Rhythm_within) (He.ma K (He.ga K "Rhythm") "within") cdv A outer s H E).K = (fxOf C G H E).K := hCK
  have tk : Takes (cxOf (L2.CX P w) P w K mg base NE_Rhythm_within "Rhythm.within" (defScope s_Rhythm_within) (He.ma K (He.ga K "Rhythm") "within") cdv A outer s H E) (fxOf C G H E).wish := takes_of rfl rfl rfl rfl
  exact (dss_one (ds_ret (de_callB (cr_all rfl) (cd_all hK) rfl T.free_all (by decide +kernel) (da_cons (de_lc (own := [("day", 2)]) (g := gName 2) rfl nd (di_range1 rfl T.free_range (da_cons (de_call G_common tk (hr.mono (by decide)) rfl T.glo_common F_common.kp B_common .nil DfR.nil (da_cons (de_prop (congrFun hcad "Rhythm") (de_var 0 (pv 0)) T.cls_Rhythm T.prop_Rhythm_size G_Rhythm_size (hr.mono (by decide)) B_Rhythm_size) (da_cons (de_prop (congrFun hcad "Rhythm") (de_var 1 (pv 1)) T.cls_Rhythm T.prop_Rhythm_size G_Rhythm_size (hr.mono (by decide)) B_Rhythm_size) da_nil))) da_nil)) (blkOk_by (N := NE_Rhythm_within) (sc := defScope s_Rhythm_within) (by decide +kernel)) (gw_name (by decide)) (fun _ _ _ _ _ => pg_name (i := 2) nd rfl (Or.inl rfl)) (fun _ _ _ _ _ => (dts_one (dt_cmp (OpR_or (or_ownIn G_Rhythm___contains__ (hr.mono (by decide)) B_Rhythm___contains__ (passes_F takes0) T.meth_Rhythm___contains__.at_ T.meth_Rhythm___contains__.fn) op_in_seq) (od_or (od_ownIn false (congrFun hcad "Rhythm")) (od_in false hK)) (de_var 2 (pv 2)) (de_var 0 (pv 0)) (by rfl)))) (fun _ _ _ _ _ => (de_cmp (OpR_or (or_ownIn G_Rhythm___contains__ (hr.mono (by decide)) B_Rhythm___contains__ (passes_F takes0) T.meth_Rhythm___contains__.at_ T.meth_Rhythm___contains__.fn) op_in_seq) (od_or (od_ownIn false (congrFun hcad "Rhythm")) (od_in false hK)) (de_var 2 (pv 2)) (de_var 1 (pv 1)) (by rfl)))) da_nil))))
theorem dd_Rhythm___rshift__ {P : Program} {w : World} {K : PySem.W.Frag} {mg : Str → Option Value} {base : Heap} {S : Type} {C : Cc S} (hCK : K = C.K) (hcad : C.cad = He.ga K) (T : Txt K mg) {fd : FuncData} (Fn : Fun K "__rshift__" "Rhythm.__rshift__" s_Rhythm___rshift__ (He.ma K (He.ga K "Rhythm") "__rshift__") fd)
  {fd_is_number : FuncData} (F_is_number : Fun K "is_number" "is_number" s_is_number (He.ga K "is_number") fd_is_number) (B_is_number : Binds K fd_is_number ["thing"] [])
  (G_is_number : FnOk P w K mg base (L2.CX P w) 1 (He.ga K "is_number") fd_is_number ["thing"] (spD C 1 (sem_is_number cs)))
  {fd_Rhythm___init__ : FuncData} (F_Rhythm___init__ : Fun K "__init__" "Rhythm.__init__" s_Rhythm___init__ (He.ma K (He.ga K "Rhythm") "__init__") fd_Rhythm___init__) (B_Rhythm___init__ : Binds K fd_Rhythm___init__ ["self", "size", "rests"] [])
  (G_Rhythm___init__ : FnOk P w K mg base (L2.CX P w) 3 (He.ma K (He.ga K "Rhythm") "__init__") fd_Rhythm___init__ ["self", "size", "rests"] (spI C "Rhythm" 2 (sem_Rhythm___init__ cs))) :
  FnOk P w K mg base (L2.CX P w) 5 (He.ma K (He.ga K "Rhythm") "__rshift__") fd ["self", "number"] (spD C 2 (sem_Rhythm___rshift__ cs)) := by
  refine fn_body (N := NE_Rhythm___rshift__) (rd := rd_Rhythm___rshift__ cs) Fn sc_Rhythm___rshift__ rfn_Rhythm___rshift__ fun cdv A outer s H G E hr => ?_
  have nd := sc_Rhythm___rshift__.nd
  have hK : (cxOf (L2.CX P w) P w K mg base NE_Rhythm___rshift__ "Rhythm.__rshift__" (defScope s_Rhythm___rshift__) (He.ma K (He.ga K "Rhythm") "__rshift__") cdv A outer s H E).K = (fxOf C G H E).K := hCK
  have tk : Takes (cxOf (L2.CX P w) P w K mg base NE_Rhythm___rshift__ "Rhythm.__rshift__" (defScope s_Rhythm___rshift__) (He.ma K (He.ga K "Rhythm") "__rshift__") cdv A outer s H E) (fxOf C G H E).wish := takes_of rfl rfl rfl rfl
  exact (dss_cons (ds_if (dt_not (dt_val (de_call G_is_number tk (hr.mono (by decide)) rfl T.glo_is_number F_is_number.kp B_is_number .nil DfR.nil (da_cons (de_var 1 (pv 1)) da_nil)))) (dss_one ds_no) dss_nil)
    (dss_cons (ds_asg (de_ix ix_seq (od_ix hK) (de_fldC hK (congrFun hcad "Rhythm") T.cls_Rhythm T.noat_Rhythm_own_form (de_var 0 (pv 0))) de_int (fun _ _ => rfl)) (dg_name 2 (pg_name (i := 2) nd rfl (.inr rfl))))
    (dss_one (ds_ret (de_make (congrFun hcad "Rhythm") T.mk_Rhythm G_Rhythm___init__ tk (hr.mono (by decide)) rfl T.glo_Rhythm B_Rhythm___init__ .nil DfR.nil (da_cons (de_var 2 (pv 2)) (da_cons (de_lc (own := [("rest", 3)]) (g := gName 3) rfl nd (di_seq hK (de_ix ix_seq (od_ix hK) (de_fldC hK (congrFun hcad "Rhythm") T.cls_Rhythm T.noat_Rhythm_own_form (de_var 0 (pv 0))) de_int (fun _ _ => rfl))) (blkOk_by (N := NE_Rhythm___rshift__) (sc := defScope s_Rhythm___rshift__) (by decide +kernel)) (gw_name (by decide)) (fun _ _ _ _ _ => pg_name (i := 3) nd rfl (Or.inl rfl)) (fun _ _ _ _ _ => dts_nil) (fun _ _ _ _ _ => (de_op op_mod od_mod (de_op or_add (od_add hK) (de_var 3 (pv 3)) (de_var 1 (pv 1))) (de_var 2 (pv 2))))) da_nil)))))))
theorem dd_BadRhythm___init__ {P : Program} {w : World} {K : PySem.W.Frag} {mg : Str → Option Value} {base : Heap} (T : Txt K mg) {fd : FuncData} (Fn : Fun K "__init__" "BadRhythm.__init__" s_BadRhythm___init__ (He.ma K (He.ga K "BadRhythm") "__init__") fd) : FnOk P w K mg base (L2.CX P w) 1 (He.ma K (He.ga K "BadRhythm") "__init__") fd ["self", "part"] (spXI (He.ga K "BadRhythm") "part") :=
  fn_xinit Fn sc_BadRhythm___init__ rfl (by decide) T.oex_BadRhythm T.xno_BadRhythm_part fun cdv A outer s H E => pss_one (ps_ost (pv 0) (pv 1))
theorem dd_Rhythm___init__X {P : Program} {w : World} {K : PySem.W.Frag} {mg : Str → Option Value} {base : Heap} {S : Type} {C : Cc S} (hCK : K = C.K) (hcad : C.cad = He.ga K) (T : Txt K mg) {fd : FuncData} (Fn : Fun K "__init__" "Rhythm.__init__" s_Rhythm___init__X (He.ma K (He.ga K "Rhythm") "__init__") fd)
  {fd_is_number : FuncData} (F_is_number : Fun K "is_number" "is_number" s_is_number (He.ga K "is_number") fd_is_number) (B_is_number : Binds K fd_is_number ["thing"] [])
  (G_is_number : FnOk P w K mg base (L2.CX P w) 1 (He.ga K "is_number") fd_is_number ["thing"] (spD C 1 (sem_is_number cs)))
  {fd_BadRhythm___init__ : FuncData} (F_BadRhythm___init__ : Fun K "__init__" "BadRhythm.__init__" s_BadRhythm___init__ (He.ma K (He.ga K "BadRhythm") "__init__") fd_BadRhythm___init__) (B_BadRhythm___init__ : Binds K fd_BadRhythm___init__ ["self", "part"] [])
  (G_BadRhythm___init__ : FnOk P w K mg base (L2.CX P w) 1 (He.ma K (He.ga K "BadRhythm") "__init__") fd_BadRhythm___init__ ["self", "part"] (spXI (He.ga K "BadRhythm") "part"))
  {fd_are_different : FuncData} (F_are_different : Fun K "are_different" "are_different" s_are_different (He.ga K "are_different") fd_are_different) (B_are_different : Binds K fd_are_different ["thing", "least", "most"] [])
  (G_are_different : FnOk P w K mg base (L2.CX P w) 2 (He.ga K "are_different") fd_are_different ["thing", "least", "most"] (spD C 3 (sem_are_different cs)))
  {fd_least_form : FuncData} (F_least_form : Fun K "least_form" "least_form" s_least_form (He.ga K "least_form") fd_least_form) (B_least_form : Binds K fd_least_form ["size", "rests"] [])
  (G_least_form : FnOk P w K mg base (L2.CX P w) 2 (He.ga K "least_form") fd_least_form ["size", "rests"] (spD C 2 sem_least_form)) :
  FnOk P w K mg base (L2.CX P w) 3 (He.ma K (He.ga K "Rhythm") "__init__") fd ["self", "size", "rests"] (spI C "Rhythm" 2 (sem_Rhythm___init__X cs)) := by
  refine fn_init (N := NE_Rhythm___init__X) (rd := rd_Rhythm___init__X cs) (n := 2) Fn sc_Rhythm___init__X rfl rfn_Rhythm___init__X fun cdv A outer s H G xx E hr => ?_
  have nd := sc_Rhythm___init__X.nd
  have hK : (cxOf (L2.CX P w) P w K mg base NE_Rhythm___init__X "Rhythm.__init__" (defScope s_Rhythm___init__X) (He.ma K (He.ga K "Rhythm") "__init__") cdv A outer s H E).K = (fxI C G H xx E).K := hCK
  have tk : Takes (cxOf (L2.CX P w) P w K mg base NE_Rhythm___init__X "Rhythm.__init__" (defScope s_Rhythm___init__X) (He.ma K (He.ga K "Rhythm") "__init__") cdv A outer s H E) (fxI C G H xx E).wish := takes_of rfl rfl rfl rfl
  exact (dss_cons (ds_if (PW.pt (dw_or (dt_not (dt_val (de_call G_is_number tk (hr.mono (by decide)) rfl T.glo_is_number F_is_number.kp B_is_number .nil DfR.nil (da_cons (de_var 1 (pv 1)) da_nil)))) (dw_or1 (dt_not (dt_chain op_le od_le op_le od_le de_int (de_var 1 (pv 1)) (de_gint rfl T.int_MOST_SIZE)))))) (dss_one (ds_raise (congrFun hcad "BadRhythm") T.oex_BadRhythm T.ini_BadRhythm T.tin_BadRhythm G_BadRhythm___init__ (hr.mono (by decide)) B_BadRhythm___init__ (passes_call takes0 fun _ _ _ _ h => h.elim) rfl T.glo_BadRhythm rfl tk de_str)) dss_nil)
    (dss_cons (ds_if (dt_not (dt_val (de_call G_are_different tk (hr.mono (by decide)) rfl T.glo_are_different F_are_different.kp B_are_different .nil DfR.nil (da_cons (de_var 2 (pv 2)) (da_cons de_int (da_cons (de_op op_sub od_sub (de_var 1 (pv 1)) de_int) da_nil)))))) (dss_one (ds_raise (congrFun hcad "BadRhythm") T.oex_BadRhythm T.ini_BadRhythm T.tin_BadRhythm G_BadRhythm___init__ (hr.mono (by decide)) B_BadRhythm___init__ (passes_call takes0 fun _ _ _ _ h => h.elim) rfl T.glo_BadRhythm rfl tk de_str)) dss_nil)
    (dss_one (ds_fld hK (by rw [show (fxI C G H xx E).cad = He.ga K from hcad]; exact T.cls_Rhythm) (by rw [show (fxI C G H xx E).cad = He.ga K from hcad]; exact T.noat_Rhythm_own_form) (pv 0) (de_call G_least_form tk (hr.mono (by decide)) rfl T.glo_least_form F_least_form.kp B_least_form .nil DfR.nil (da_cons (de_var 1 (pv 1)) (da_cons (de_callTy call_list_of (cd_list hK) rfl T.free_list (by decide +kernel) (da_cons (de_var 2 (pv 2)) da_nil)) da_nil)))))))
theorem dd_Rhythm___or__X {P : Program} {w : World} {K : PySem.W.Frag} {mg : Str → Option Value} {base : Heap} {S : Type} {C : Cc S} (hCK : K = C.K) (hcad : C.cad = He.ga K) (T : Txt K mg) {fd : FuncData} (Fn : Fun K "__or__" "Rhythm.__or__" s_Rhythm___or__X (He.ma K (He.ga K "Rhythm") "__or__") fd)
  {fd_common : FuncData} (F_common : Fun K "common" "common" s_common (He.ga K "common") fd_common) (B_common : Binds K fd_common ["one", "other"] [])
  (G_common : FnOk P w K mg base (L2.CX P w) 1 (He.ga K "common") fd_common ["one", "other"] (spD C 2 sem_common))
  {fd_Rhythm_size : FuncData} (F_Rhythm_size : Fun K "size" "Rhythm.size" s_Rhythm_size (He5.wf K (He.ga K "Rhythm") "property" "size") fd_Rhythm_size) (B_Rhythm_size : Binds K fd_Rhythm_size ["self"] [])
  (G_Rhythm_size : FnOk P w K mg base (L2.CX P w) 1 (He5.wf K (He.ga K "Rhythm") "property" "size") fd_Rhythm_size ["self"] (spD C 1 sem_Rhythm_size))
  {fd_Rhythm___init__X : FuncData} (F_Rhythm___init__X : Fun K "__init__" "Rhythm.__init__" s_Rhythm___init__X (He.ma K (He.ga K "Rhythm") "__init__") fd_Rhythm___init__X) (B_Rhythm___init__X : Binds K fd_Rhythm___init__X ["self", "size", "rests"] [])
  (G_Rhythm___init__X : FnOk P w K mg base (L2.CX P w) 3 (He.ma K (He.ga K "Rhythm") "__init__") fd_Rhythm___init__X ["self", "size", "rests"] (spI C "Rhythm" 2 (sem_Rhythm___init__X cs)))
  {fd_Rhythm___contains__ : FuncData} (F_Rhythm___contains__ : Fun K "__contains__" "Rhythm.__contains__" s_Rhythm___contains__ (He.ma K (He.ga K "Rhythm") "__contains__") fd_Rhythm___contains__) (B_Rhythm___contains__ : Binds K fd_Rhythm___contains__ ["self", "day"] [])
  (G_Rhythm___contains__ : FnOk P w K mg base (L2.CX P w) 2 (He.ma K (He.ga K "Rhythm") "__contains__") fd_Rhythm___contains__ ["self", "day"] (spD C 2 (sem_Rhythm___contains__ cs))) :
  FnOk P w K mg base (L2.CX P w) 5 (He.ma K (He.ga K "Rhythm") "__or__") fd ["self", "other"] (spD C 2 (sem_Rhythm___or__X cs)) := by
  refine fn_body (N := NE_Rhythm___or__X) (rd := rd_Rhythm___or__X cs) Fn sc_Rhythm___or__X rfn_Rhythm___or__X fun cdv A outer s H G E hr => ?_
  have nd := sc_Rhythm___or__X.nd
  have hK : (cxOf (L2.CX P w) P w K mg base NE_Rhythm___or__X "Rhythm.__or__" (defScope s_Rhythm___or__X) (He.ma K (He.ga K "Rhythm") "__or__") cdv A outer s H E).K = (fxOf C G H E).K := hCK
  have tk : Takes (cxOf (L2.CX P w) P w K mg base NE_Rhythm___or__X "Rhythm.__or__" (defScope s_Rhythm___or__X) (He.ma K (He.ga K "Rhythm") "__or__") cdv A outer s H E) (fxOf C G H E).wish := takes_of rfl rfl rfl rfl
  exact (dss_cons (ds_if (dt_not (dt_val (de_isi hK (T.kit_own_Rhythm hCK hcad) (.own _) (de_var 1 (pv 1)) (pe_glob rfl T.glo_Rhythm rfl) rfl T.free_isinstance))) (dss_one ds_no) dss_nil)
    (dss_cons (ds_asg (de_call G_common tk (hr.mono (by decide)) rfl T.glo_common F_common.kp B_common .nil DfR.nil (da_cons (de_prop (congrFun hcad "Rhythm") (de_var 0 (pv 0)) T.cls_Rhythm T.prop_Rhythm_size G_Rhythm_size (hr.mono (by decide)) B_Rhythm_size) (da_cons (de_prop (congrFun hcad "Rhythm") (de_var 1 (pv 1)) T.cls_Rhythm T.prop_Rhythm_size G_Rhythm_size (hr.mono (by decide)) B_Rhythm_size) da_nil))) (dg_name 2 (pg_name (i := 2) nd rfl (.inl rfl))))
    (dss_one (ds_ret (de_make (congrFun hcad "Rhythm") T.mk_Rhythm G_Rhythm___init__X tk (hr.mono (by decide)) rfl T.glo_Rhythm B_Rhythm___init__X .nil DfR.nil (da_cons (de_var 2 (pv 2)) (da_cons (de_lc (own := [("day", 3)]) (g := gName 3) rfl nd (di_range1 rfl T.free_range (da_cons (de_var 2 (pv 2)) da_nil)) (blkOk_by (N := NE_Rhythm___or__X) (sc := defScope s_Rhythm___or__X) (by decide +kernel)) (gw_name (by decide)) (fun _ _ _ _ _ => pg_name (i := 3) nd rfl (Or.inl rfl)) (fun _ _ _ _ _ => (dts_one (PW.pt (dw_or (dt_cmp (OpR_or (or_ownIn G_Rhythm___contains__ (hr.mono (by decide)) B_Rhythm___contains__ (passes_F takes0) T.meth_Rhythm___contains__.at_ T.meth_Rhythm___contains__.fn) op_in_seq) (od_or (od_ownIn false (congrFun hcad "Rhythm")) (od_in false hK)) (de_var 3 (pv 3)) (de_var 0 (pv 0)) (by rfl)) (dw_or1 (dt_cmp (OpR_or (or_ownIn G_Rhythm___contains__ (hr.mono (by decide)) B_Rhythm___contains__ (passes_F takes0) T.meth_Rhythm___contains__.at_ T.meth_Rhythm___contains__.fn) op_in_seq) (od_or (od_ownIn false (congrFun hcad "Rhythm")) (od_in false hK)) (de_var 3 (pv 3)) (de_var 1 (pv 1)) (by rfl))))))) (fun _ _ _ _ _ => (de_var 3 (pv 3)))) da_nil)))))))
theorem dd_Rhythm___and__X {P : Program} {w : World} {K : PySem.W.Frag} {mg : Str → Option Value} {base : Heap} {S : Type} {C : Cc S} (hCK : K = C.K) (hcad : C.cad = He.ga K) (T : Txt K mg) {fd : FuncData} (Fn : Fun K "__and__" "Rhythm.__and__" s_Rhythm___and__X (He.ma K (He.ga K "Rhythm") "__and__") fd)
  {fd_common : FuncData} (F_common : Fun K "common" "common" s_common (He.ga K "common") fd_common) (B_common : Binds K fd_common ["one", "other"] [])
  (G_common : FnOk P w K mg base (L2.CX P w) 1 (He.ga K "common") fd_common ["one", "other"] (spD C 2 sem_common))
  {fd_Rhythm_size : FuncData} (F_Rhythm_size : Fun K "size" "Rhythm.size" s_Rhythm_size (He5.wf K (He.ga K "Rhythm") "property" "size") fd_Rhythm_size) (B_Rhythm_size : Binds K fd_Rhythm_size ["self"] [])
  (G_Rhythm_size : FnOk P w K mg base (L2.CX P w) 1 (He5.wf K (He.ga K "Rhythm") "property" "size") fd_Rhythm_size ["self"] (spD C 1 sem_Rhythm_size))
  {fd_Rhythm___init__X : FuncData} (F_Rhythm___init__X : Fun K "__init__" "Rhythm.__init__" s_Rhythm___init__X (He.ma K (He.ga K "Rhythm") "__init__") fd_Rhythm___init__X) (B_Rhythm___init__X : Binds K fd_Rhythm___init__X ["self", "size", "rests"] [])
  (G_Rhythm___init__X : FnOk P w K mg base (L2.CX P w) 3 (He.ma K (He.ga K "Rhythm") "__init__") fd_Rhythm___init__X ["self", "size", "rests"] (spI C "Rhythm" 2 (sem_Rhythm___init__X cs)))
  {fd_Rhythm___contains__ : FuncData} (F_Rhythm___contains__ : Fun K "__contains__" "Rhythm.__contains__" s_Rhythm___contains__ (He.ma K (He.ga K "Rhythm") "__contains__") fd_Rhythm___contains__) (B_Rhythm___contains__ : Binds K fd_Rhythm___contains__ ["self", "day"] [])
  (G_Rhythm___contains__ : FnOk P w K mg base (L2.CX P w) 2 (He.ma K (He.ga K "Rhythm") "__contains__") fd_Rhythm___contains__ ["self", "day"] (spD C 2 (sem_Rhythm___contains__ cs))) :
  FnOk P w K mg base (L2.CX P w) 5 (He.ma K (He.ga K "Rhythm") "__and__") fd ["self", "other"] (spD C 2 (sem_Rhythm___and__X cs)) := by
  refine fn_body (N := NE_Rhythm___and__X) (rd := rd_Rhythm___and__X cs) Fn sc_Rhythm___and__X rfn_Rhythm___and__X fun cdv A outer s H G E hr => ?_
  have nd := sc_Rhythm___and__X.nd
  have hK : (cxOf (L2.CX P w) P w K mg base NE_Rhythm___and__X "Rhythm.__and__" (defScope s_Rhythm___and__X) (He.ma K (He.ga K "Rhythm") "__and__") cdv A outer s H E).K = (fxOf C G H E).K := hCK
  have tk : Takes (cxOf (L2.CX P w) P w K mg base NE_Rhythm___and__X "Rhythm.__and__" (defScope s_Rhythm___and__X) (He.ma K (He.ga K "Rhythm") "__and__") cdv A outer s H E) (fxOf C G H E).wish := takes_of rfl rfl rfl rfl
  exact (dss_cons (ds_if (dt_not (dt_val (de_isi hK (T.kit_own_Rhythm hCK hcad) (.own _) (de_var 1 (pv 1)) (pe_glob rfl T.glo_Rhythm rfl) rfl T.free_isinstance))) (dss_one ds_no) dss_nil)
    (dss_cons (ds_asg (de_call G_common tk (hr.mono (by decide)) rfl T.glo_common F_common.kp B_common .nil DfR.nil (da_cons (de_prop (congrFun hcad "Rhythm") (de_var 0 (pv 0)) T.cls_Rhythm T.prop_Rhythm_size G_Rhythm_size (hr.mono (by decide)) B_Rhythm_size) (da_cons (de_prop (congrFun hcad "Rhythm") (de_var 1 (pv 1)) T.cls_Rhythm T.prop_Rhythm_size G_Rhythm_size (hr.mono (by decide)) B_Rhythm_size) da_nil))) (dg_name 2 (pg_name (i := 2) nd rfl (.inl rfl))))
    (dss_one (ds_ret (de_make (congrFun hcad "Rhythm") T.mk_Rhythm G_Rhythm___init__X tk (hr.mono (by decide)) rfl T.glo_Rhythm B_Rhythm___init__X .nil DfR.nil (da_cons (de_var 2 (pv 2)) (da_cons (de_lc (own := [("day", 3)]) (g := gName 3) rfl nd (di_range1 rfl T.free_range (da_cons (de_var 2 (pv 2)) da_nil)) (blkOk_by (N := NE_Rhythm___and__X) (sc := defScope s_Rhythm___and__X) (by decide +kernel)) (gw_name (by decide)) (fun _ _ _ _ _ => pg_name (i := 3) nd rfl (Or.inl rfl)) (fun _ _ _ _ _ => (dts_one (PW.pt (dw_and (dt_cmp (OpR_or (or_ownIn G_Rhythm___contains__ (hr.mono (by decide)) B_Rhythm___contains__ (passes_F takes0) T.meth_Rhythm___contains__.at_ T.meth_Rhythm___contains__.fn) op_in_seq) (od_or (od_ownIn false (congrFun hcad "Rhythm")) (od_in false hK)) (de_var 3 (pv 3)) (de_var 0 (pv 0)) (by rfl)) (dw_and1 (dt_cmp (OpR_or (or_ownIn G_Rhythm___contains__ (hr.mono (by decide)) B_Rhythm___contains__ (passes_F takes0) T.meth_Rhythm___contains__.at_ T.meth_Rhythm___contains__.fn) op_in_seq) (od_or (od_ownIn false (congrFun hcad "Rhythm")) (od_in false hK)) (de_var 3 (pv 3)) (de_var 1 (pv 1)) (by rfl))))))) (fun _ _ _ _ _ => (de_var 3 (pv 3)))) da_nil)))))))
theorem dd_Rhythm___sub__X {P : Program} {w : World} {K : PySem.W.Frag} {mg : Str → Option Value} {base : Heap} {S : Type} {C : Cc S} (hCK : K = C.K) (hcad : C.cad = He.ga K) (T : Txt K mg) {fd : FuncData} (Fn : Fun K "__sub__" "Rhythm.__sub__" s_Rhythm___sub__X (He.ma K (He.ga K "Rhythm") "__sub__") fd)
  {fd_common : FuncData} (F_common : Fun K "common" "common" s_common (He.ga K "common") fd_common) (B_common : Binds K fd_common ["one", "other"] [])
  (G_common : FnOk P w K mg base (L2.CX P w) 1 (He.ga K "common") fd_common ["one", "other"] (spD C 2 sem_common))
  {fd_Rhythm_size : FuncData} (F_Rhythm_size : Fun K "size" "Rhythm.size" s_Rhythm_size (He5.wf K (He.ga K "Rhythm") "property" "size") fd_Rhythm_size) (B_Rhythm_size : Binds K fd_Rhythm_size ["self"] [])
  (G_Rhythm_size : FnOk P w K mg base (L2.CX P w) 1 (He5.wf K (He.ga K "Rhythm") "property" "size") fd_Rhythm_size ["self"] (spD C 1 sem_Rhythm_size))
  {fd_Rhythm___init__X : FuncData} (F_Rhythm___init__X : Fun K "__init__" "Rhythm.__init__" s_Rhythm___init__X (He.ma K (He.ga K "Rhythm") "__init__") fd_Rhythm___init__X) (B_Rhythm___init__X : Binds K fd_Rhythm___init__X ["self", "size", "rests"] [])
  (G_Rhythm___init__X : FnOk P w K mg base (L2.CX P w) 3 (He.ma K (He.ga K "Rhythm") "__init__") fd_Rhythm___init__X ["self", "size", "rests"] (spI C "Rhythm" 2 (sem_Rhythm___init__X cs)))
  {fd_Rhythm___contains__ : FuncData} (F_Rhythm___contains__ : Fun K "__contains__" "Rhythm.__contains__" s_Rhythm___contains__ (He.ma K (He.ga K "Rhythm") "__contains__") fd_Rhythm___contains__) (B_Rhythm___contains__ : Binds K fd_Rhythm___contains__ ["self", "day"] [])
  (G_Rhythm___contains__ : FnOk P w K mg base (L2.CX P w) 2 (He.ma K (He.ga K "Rhythm") "__contains__") fd_Rhythm___contains__ ["self", "day"] (spD C 2 (sem_Rhythm___contains__ cs))) :
  FnOk P w K mg base (L2.CX P w) 5 (He.ma K (He.ga K "Rhythm") "__sub__") fd ["self", "other"] (spD C 2 (sem_Rhythm___sub__X cs)) := by
  refine fn_body (N := NE_Rhythm___sub__X) (rd := rd_Rhythm___sub__X cs) Fn sc_Rhythm___sub__X rfn_Rhythm___sub__X fun cdv A outer s H G E hr => ?_
  have nd := sc_Rhythm___sub__X.nd
  have hK : (cxOf (L2.CX P w) P w K mg base NE_Rhythm___sub__X "Rhythm.__sub__" (defScope s_Rhythm___sub__X) (He.ma K (He.ga K "Rhythm") "__sub__") cdv A outer s H E).K = (fxOf C G H E).K := hCK
  have tk : Takes (cxOf (L2.CX P w) P w K mg base NE_Rhythm___sub__X "Rhythm.__sub__" (defScope s_Rhythm___sub__X) (He.ma K (He.ga K "Rhythm") "__sub__") cdv A outer s H E) (fxOf C G H E).wish := takes_of rfl rfl rfl rfl
  exact (dss_cons (ds_if (dt_not (dt_val (de_isi hK (T.kit_own_Rhythm hCK hcad) (.own _) (de_var 1 (pv 1)) (pe_glob rfl T.glo_Rhythm rfl) rfl T.free_isinstance))) (dss_one ds_no) dss_nil)
    (dss_cons (ds_asg (de_call G_common tk (hr.mono (by decide)) rfl T.glo_common F_common.kp B_common .nil DfR.nil (da_cons (de_prop (congrFun hcad "Rhythm") (de_var 0 (pv 0)) T.cls_Rhythm T.prop_Rhythm_size G_Rhythm_size (hr.mono (by decide)) B_Rhythm_size) (da_cons (de_prop (congrFun hcad "Rhythm") (de_var 1 (pv 1)) T.cls_Rhythm T.prop_Rhythm_size G_Rhythm_size (hr.mono (by decide)) B_Rhythm_size) da_nil))) (dg_name 2 (pg_name (i := 2) nd rfl (.inl rfl))))
    (dss_one (ds_ret (de_make (congrFun hcad "Rhythm") T.mk_Rhythm G_Rhythm___init__X tk (hr.mono (by decide)) rfl T.glo_Rhythm B_Rhythm___init__X .nil DfR.nil (da_cons (de_var 2 (pv 2)) (da_cons (de_lc (own := [("day", 3)]) (g := gName 3) rfl nd (di_range1 rfl T.free_range (da_cons (de_var 2 (pv 2)) da_nil)) (blkOk_by (N := NE_Rhythm___sub__X) (sc := defScope s_Rhythm___sub__X) (by decide +kernel)) (gw_name (by decide)) (fun _ _ _ _ _ => pg_name (i := 3) nd rfl (Or.inl rfl)) (fun _ _ _ _ _ => (dts_one (PW.pt (dw_and (dt_cmp (OpR_or (or_ownIn G_Rhythm___contains__ (hr.mono (by decide)) B_Rhythm___contains__ (passes_F takes0) T.meth_Rhythm___contains__.at_ T.meth_Rhythm___contains__.fn) op_in_seq) (od_or (od_ownIn false (congrFun hcad "Rhythm")) (od_in false hK)) (de_var 3 (pv 3)) (de_var 0 (pv 0)) (by rfl)) (dw_and1 (dt_cmp (OpR_or (or_ownNotIn G_Rhythm___contains__ (hr.mono (by decide)) B_Rhythm___contains__ (passes_F takes0) T.meth_Rhythm___contains__.at_ T.meth_Rhythm___contains__.fn) op_notIn_seq) (od_or (od_ownIn true (congrFun hcad "Rhythm")) (od_in true hK)) (de_var 3 (pv 3)) (de_var 1 (pv 1)) (by rfl))))))) (fun _ _ _ _ _ => (de_var 3 (pv 3)))) da_nil)))))))
abbrev lamL : List Lam1 := [(lamOf (elN (asE (stN (defBody s_law) 4)) 0)), (lamOf (arN (exE (stN (defBody s_law) 5)) 0)), (lamOf (arN (exE (stN (defBody s_law) 6)) 0))]
theorem dd__law_begun {P : Program} {w : World} {K : PySem.W.Frag} {mg : Str → Option Value} {base : Heap} (T : Txt K mg) {fd : FuncData} (Fn : Fun K "_law_begun" "_law_begun" s__law_begun (He.ga K "_law_begun") fd) : FnOk P w K mg base (L2.CX P w) 1 (He.ga K "_law_begun") fd ["_law_script"] (spBegun K) := by
  refine Fn.okX sc__law_begun (fun vs H Q E h => by obtain ⟨a, ns, rfl, _⟩ := h; rfl) fun cdv A outer s H vs Q E hr h => ?_
  obtain ⟨a, ns, rfl, hs, hl, hq⟩ := h
  have nd := sc__law_begun.nd
  have hK : (cxOf (L2.CX P w) P w K mg base N__law_begun "_law_begun" (defScope s__law_begun) (He.ga K "_law_begun") cdv A outer s H E).K = (fxOf (unitCc K (He.ga K) H) (noT H) H E).K := rfl
  refine ⟨tBegun (fxOf (unitCc K (He.ga K) H) (noT H) H E), ?_, begun_of rfl hs hl hq⟩
  exact (pss_cons (ps_setLc (i := 1) (own := [("_law_cell", 2)]) (g := gName 2) rfl nd rfl rfl (sw_true rfl rfl rfl (by decide +kernel)) (di_seq hK (de_var 0 (pv 0))) (blkOk_by (N := N__law_begun) (sc := defScope s__law_begun) (by decide +kernel)) (fun _ _ _ _ _ => pg_name (i := 2) nd rfl (Or.inl rfl)) (fun _ _ _ _ _ => (dts_one (dt_cmp op_ge od_ge (de_callB call_abs cd_abs rfl T.free_abs (by decide +kernel) (da_cons (de_var 2 (pv 2)) da_nil)) (de_op op_pow od_pow de_int de_int) (by rfl)))) (fun _ _ _ _ _ => (de_op op_sub od_sub (de_callB call_abs cd_abs rfl T.free_abs (by decide +kernel) (da_cons (de_var 2 (pv 2)) da_nil)) (de_op op_pow od_pow de_int de_int))))
    (pss_one (ps_ret (pe_disp (pps_cons de_str (pv 1) (pps_cons de_str de_int (pps_cons de_str (pe_lc (own := [("_law_cell", 2)]) (g := gName 2) rfl nd (di_seq hK (de_var 0 (pv 0))) (blkOk_by (N := N__law_begun) (sc := defScope s__law_begun) (by decide +kernel)) (fun _ _ _ _ _ => pg_name (i := 2) nd rfl (Or.inl rfl)) (fun _ _ _ _ _ => dts_nil) (fun _ _ _ _ _ => (de_callB call_abs cd_abs rfl T.free_abs (by decide +kernel) (da_cons (de_var 2 (pv 2)) da_nil)))) (pps_cons de_str de_int pps_nil)))) rfl rfl (by intro z; cases z) (by decide)))))
theorem dd_law {P : Program} {w : World} {K : PySem.W.Frag} {mg : Str → Option Value} {base : Heap} (T : Txt K mg) {fd : FuncData} (Fn : Fun K "law" "law" s_law (He.ga K "law") fd) (hcode : fd.code = .ref (cTn K "law").1) (ndT : (txs.map fun x => (cTn K x).2).Nodup) (TBn : ∀ p ∈ txs.map (cTn K), LamX.TabB base mg p.1 p.2)
  {fd__law_mixed : FuncData} (F__law_mixed : Fun K "_law_mixed" "_law_mixed" s__law_mixed (He.ga K "_law_mixed") fd__law_mixed) (B__law_mixed : Binds K fd__law_mixed ["_law_draw"] [])
  {fd__law_take : FuncData} (F__law_take : Fun K "_law_take" "_law_take" s__law_take (He.ga K "_law_take") fd__law_take) (B__law_take : Binds K fd__law_take ["_law_draw", "_law_many"] [])
  {fd__law_pick : FuncData} (F__law_pick : Fun K "_law_pick" "_law_pick" s__law_pick (He.ga K "_law_pick") fd__law_pick) (B__law_pick : Binds K fd__law_pick ["_law_draw", "_law_some"] [])
  {fd__law_any_rhythm : FuncData} (F__law_any_rhythm : Fun K "_law_any_rhythm" "_law_any_rhythm" s__law_any_rhythm (He.ga K "_law_any_rhythm") fd__law_any_rhythm) (B__law_any_rhythm : Binds K fd__law_any_rhythm ["_law_draw"] [])
  {fd_is_number : FuncData} (F_is_number : Fun K "is_number" "is_number" s_is_number (He.ga K "is_number") fd_is_number) (B_is_number : Binds K fd_is_number ["thing"] [])
  {fd_is_list : FuncData} (F_is_list : Fun K "is_list" "is_list" s_is_list (He.ga K "is_list") fd_is_list) (B_is_list : Binds K fd_is_list ["thing"] [])
  {fd_are_different : FuncData} (F_are_different : Fun K "are_different" "are_different" s_are_different (He.ga K "are_different") fd_are_different) (B_are_different : Binds K fd_are_different ["thing", "least", "most"] [])
  {fd_repeats : FuncData} (F_repeats : Fun K "repeats" "repeats" s_repeats (He.ga K "repeats") fd_repeats) (B_repeats : Binds K fd_repeats ["size", "rests", "part"] [])
  {fd_least_form : FuncData} (F_least_form : Fun K "least_form" "least_form" s_least_form (He.ga K "least_form") fd_least_form) (B_least_form : Binds K fd_least_form ["size", "rests"] [])
  {fd_Rhythm___init__ : FuncData} (F_Rhythm___init__ : Fun K "__init__" "Rhythm.__init__" s_Rhythm___init__ (He.ma K (He.ga K "Rhythm") "__init__") fd_Rhythm___init__) (B_Rhythm___init__ : Binds K fd_Rhythm___init__ ["self", "size", "rests"] [])
  {fd_Rhythm_size : FuncData} (F_Rhythm_size : Fun K "size" "Rhythm.size" s_Rhythm_size (He5.wf K (He.ga K "Rhythm") "property" "size") fd_Rhythm_size) (B_Rhythm_size : Binds K fd_Rhythm_size ["self"] [])
  {fd_Rhythm_rests : FuncData} (F_Rhythm_rests : Fun K "rests" "Rhythm.rests" s_Rhythm_rests (He5.wf K (He.ga K "Rhythm") "property" "rests") fd_Rhythm_rests) (B_Rhythm_rests : Binds K fd_Rhythm_rests ["self"] [])
  {fd__law_lcm : FuncData} (F__law_lcm : Fun K "_law_lcm" "_law_lcm" s__law_lcm (He.ga K "_law_lcm") fd__law_lcm) (B__law_lcm : Binds K fd__law_lcm ["_law_one", "_law_due_one"] [])
  {fd__law_has : FuncData} (F__law_has : Fun K "_law_has" "_law_has" s__law_has (He.ga K "_law_has") fd__law_has) (B__law_has : Binds K fd__law_has ["_law_rhythm", "_law_day"] [])
  {fd__law_least : FuncData} (F__law_least : Fun K "_law_least" "_law_least" s__law_least (He.ga K "_law_least") fd__law_least) (B__law_least : Binds K fd__law_least ["_law_rhythm"] [])
  {fd__law_is_made : FuncData} (F__law_is_made : Fun K "_law_is_made" "_law_is_made" s__law_is_made (He.ga K "_law_is_made") fd__law_is_made) (B__law_is_made : Binds K fd__law_is_made ["_law_told", "_law_days", "_law_size"] [])
  {fd_common : FuncData} (F_common : Fun K "common" "common" s_common (He.ga K "common") fd_common) (B_common : Binds K fd_common ["one", "other"] [])
  {fd_Rhythm___contains__ : FuncData} (F_Rhythm___contains__ : Fun K "__contains__" "Rhythm.__contains__" s_Rhythm___contains__ (He.ma K (He.ga K "Rhythm") "__contains__") fd_Rhythm___contains__) (B_Rhythm___contains__ : Binds K fd_Rhythm___contains__ ["self", "day"] [])
  {fd_Rhythm___or__ : FuncData} (F_Rhythm___or__ : Fun K "__or__" "Rhythm.__or__" s_Rhythm___or__ (He.ma K (He.ga K "Rhythm") "__or__") fd_Rhythm___or__) (B_Rhythm___or__ : Binds K fd_Rhythm___or__ ["self", "other"] [])
  {fd_Rhythm___and__ : FuncData} (F_Rhythm___and__ : Fun K "__and__" "Rhythm.__and__" s_Rhythm___and__ (He.ma K (He.ga K "Rhythm") "__and__") fd_Rhythm___and__) (B_Rhythm___and__ : Binds K fd_Rhythm___and__ ["self", "other"] [])
  {fd_Rhythm___sub__ : FuncData} (F_Rhythm___sub__ : Fun K "__sub__" "Rhythm.__sub__" s_Rhythm___sub__ (He.ma K (He.ga K "Rhythm") "__sub__") fd_Rhythm___sub__) (B_Rhythm___sub__ : Binds K fd_Rhythm___sub__ ["self", "other"] [])
  {fd_Rhythm_within : FuncData} (F_Rhythm_within : Fun K "within" "Rhythm.within" s_Rhythm_within (He.ma K (He.ga K "Rhythm") "within") fd_Rhythm_within) (B_Rhythm_within : Binds K fd_Rhythm_within ["self", "other"] [])
  {fd_Rhythm___rshift__ : FuncData} (F_Rhythm___rshift__ : Fun K "__rshift__" "Rhythm.__rshift__" s_Rhythm___rshift__ (He.ma K (He.ga K "Rhythm") "__rshift__") fd_Rhythm___rshift__) (B_Rhythm___rshift__ : Binds K fd_Rhythm___rshift__ ["self", "number"] [])
  {fd_BadRhythm___init__ : FuncData} (F_BadRhythm___init__ : Fun K "__init__" "BadRhythm.__init__" s_BadRhythm___init__ (He.ma K (He.ga K "BadRhythm") "__init__") fd_BadRhythm___init__) (B_BadRhythm___init__ : Binds K fd_BadRhythm___init__ ["self", "part"] [])
  {fd_Rhythm___init__X : FuncData} (F_Rhythm___init__X : Fun K "__init__" "Rhythm.__init__" s_Rhythm___init__X (He.ma K (He.ga K "Rhythm") "__init__") fd_Rhythm___init__X) (B_Rhythm___init__X : Binds K fd_Rhythm___init__X ["self", "size", "rests"] [])
  {fd_Rhythm___or__X : FuncData} (F_Rhythm___or__X : Fun K "__or__" "Rhythm.__or__" s_Rhythm___or__X (He.ma K (He.ga K "Rhythm") "__or__") fd_Rhythm___or__X) (B_Rhythm___or__X : Binds K fd_Rhythm___or__X ["self", "other"] [])
  {fd_Rhythm___and__X : FuncData} (F_Rhythm___and__X : Fun K "__and__" "Rhythm.__and__" s_Rhythm___and__X (He.ma K (He.ga K "Rhythm") "__and__") fd_Rhythm___and__X) (B_Rhythm___and__X : Binds K fd_Rhythm___and__X ["self", "other"] [])
  {fd_Rhythm___sub__X : FuncData} (F_Rhythm___sub__X : Fun K "__sub__" "Rhythm.__sub__" s_Rhythm___sub__X (He.ma K (He.ga K "Rhythm") "__sub__") fd_Rhythm___sub__X) (B_Rhythm___sub__X : Binds K fd_Rhythm___sub__X ["self", "other"] [])
  {fd__law_caught : FuncData} (F__law_caught : Fun K "_law_caught" "_law_caught" s__law_caught (He.ga K "_law_caught") fd__law_caught) (B__law_caught : Binds K fd__law_caught ["_law_work"] [])
  {fd__law_begun : FuncData} (F__law_begun : Fun K "_law_begun" "_law_begun" s__law_begun (He.ga K "_law_begun") fd__law_begun) (B__law_begun : Binds K fd__law_begun ["_law_script"] [])
  (KB_Rhythm_within_other : KwB K fd_Rhythm_within ["self", "other"] 1 ["other"] [0]) :
  FnG P w K mg base (L2.CX P w) 8 (He.ga K "law") fd ["_law_script"] (spLawT K (TlN K txs)) := by
  refine fun_okGT Fn hcode sc_law (fun vs H Q E h => by obtain ⟨a, ns, rfl, _⟩ := h; rfl) fun A outer s H vs Q E hgd0 hr h => ?_
  have hgd : (cxOf (L2.CX P w) P w K mg base N_law "law" (defScope s_law) (He.ga K "law") (.ref (cTn K "law").1) A outer s H E).A.guards = some [] := hgd0
  obtain ⟨a, ns, rfl, hs, hl, hT, hq⟩ := h
  have nd := sc_law.nd
  have TB := TBn _ (List.mem_map.mpr ⟨"law", by decide, rfl⟩)
  have G__law_begun := dd__law_begun (P := P) (w := w) (base := base) T F__law_begun
  have tk0 : Takes (cxOf (L2.CX P w) P w K mg base N_law "law" (defScope s_law) (He.ga K "law") (.ref (cTn K "law").1) A outer s H E) (fxOf (unitCc K (He.ga K) H) (noT H) H E).wish := takes_of rfl rfl rfl rfl
  have hrest : ∀ (H1 : Hp) (dp wl cl : Addr) (cells : List Int), (dp ≠ wl ∧ dp ≠ cl ∧ wl ≠ cl) → PSs (cxOf (L2.CX P w) P w K mg base N_law "law" (defScope s_law) (He.ga K "law") (.ref (cTn K "law").1) A outer s H E) ((defBody s_law).drop 1) (tS (fxOf (drawCcL ({ fno := lamsHO ((cxOf (L2.CX P w) P w K mg base N_law "law" (defScope s_law) (He.ga K "law") (.ref (cTn K "law").1) A outer s H E).env.qual ++ "<lambda>") lamL (cxOf (L2.CX P w) P w K mg base N_law "law" (defScope s_law) (He.ga K "law") (.ref (cTn K "law").1) A outer s H E).env.cells, fnq := (cxOf (L2.CX P w) P w K mg base N_law "law" (defScope s_law) (He.ga K "law") (.ref (cTn K "law").1) A outer s H E).env.qual ++ "<lambda>" } : LamI) K (He.ga K) dp wl cl cells (TlN K txs)) (noT H) H1 E) (rd_law cs cells)) := by
    intro H1 dp wl cl cells hd
    have hCK : K = (drawCcL ({ fno := lamsHO ((cxOf (L2.CX P w) P w K mg base N_law "law" (defScope s_law) (He.ga K "law") (.ref (cTn K "law").1) A outer s H E).env.qual ++ "<lambda>") lamL (cxOf (L2.CX P w) P w K mg base N_law "law" (defScope s_law) (He.ga K "law") (.ref (cTn K "law").1) A outer s H E).env.cells, fnq := (cxOf (L2.CX P w) P w K mg base N_law "law" (defScope s_law) (He.ga K "law") (.ref (cTn K "law").1) A outer s H E).env.qual ++ "<lambda>" } : LamI) K (He.ga K) dp wl cl cells (TlN K txs)).K := rfl
    have hcad : (drawCcL ({ fno := lamsHO ((cxOf (L2.CX P w) P w K mg base N_law "law" (defScope s_law) (He.ga K "law") (.ref (cTn K "law").1) A outer s H E).env.qual ++ "<lambda>") lamL (cxOf (L2.CX P w) P w K mg base N_law "law" (defScope s_law) (He.ga K "law") (.ref (cTn K "law").1) A outer s H E).env.cells, fnq := (cxOf (L2.CX P w) P w K mg base N_law "law" (defScope s_law) (He.ga K "law") (.ref (cTn K "law").1) A outer s H E).env.qual ++ "<lambda>" } : LamI) K (He.ga K) dp wl cl cells (TlN K txs)).cad = He.ga K := rfl
    have hK : (cxOf (L2.CX P w) P w K mg base N_law "law" (defScope s_law) (He.ga K "law") (.ref (cTn K "law").1) A outer s H E).K = (fxOf (drawCcL ({ fno := lamsHO ((cxOf (L2.CX P w) P w K mg base N_law "law" (defScope s_law) (He.ga K "law") (.ref (cTn K "law").1) A outer s H E).env.qual ++ "<lambda>") lamL (cxOf (L2.CX P w) P w K mg base N_law "law" (defScope s_law) (He.ga K "law") (.ref (cTn K "law").1) A outer s H E).env.cells, fnq := (cxOf (L2.CX P w) P w K mg base N_law "law" (defScope s_law) (He.ga K "law") (.ref (cTn K "law").1) A outer s H E).env.qual ++ "<lambda>" } : LamI) K (He.ga K) dp wl cl cells (TlN K txs)) (noT H) H1 E).K := hCK
    have tk : Takes (cxOf (L2.CX P w) P w K mg base N_law "law" (defScope s_law) (He.ga K "law") (.ref (cTn K "law").1) A outer s H E) (fxOf (drawCcL ({ fno := lamsHO ((cxOf (L2.CX P w) P w K mg base N_law "law" (defScope s_law) (He.ga K "law") (.ref (cTn K "law").1) A outer s H E).env.qual ++ "<lambda>") lamL (cxOf (L2.CX P w) P w K mg base N_law "law" (defScope s_law) (He.ga K "law") (.ref (cTn K "law").1) A outer s H E).env.cells, fnq := (cxOf (L2.CX P w) P w K mg base N_law "law" (defScope s_law) (He.ga K "law") (.ref (cTn K "law").1) A outer s H E).env.qual ++ "<lambda>" } : LamI) K (He.ga K) dp wl cl cells (TlN K txs)) (noT H) H1 E).wish := takes_of rfl rfl rfl rfl
    have R := drF_ofT (L := ({ fno := lamsHO ((cxOf (L2.CX P w) P w K mg base N_law "law" (defScope s_law) (He.ga K "law") (.ref (cTn K "law").1) A outer s H E).env.qual ++ "<lambda>") lamL (cxOf (L2.CX P w) P w K mg base N_law "law" (defScope s_law) (He.ga K "law") (.ref (cTn K "law").1) A outer s H E).env.cells, fnq := (cxOf (L2.CX P w) P w K mg base N_law "law" (defScope s_law) (He.ga K "law") (.ref (cTn K "law").1) A outer s H E).env.qual ++ "<lambda>" } : LamI)) (T := (TlN K txs)) (G := noT H) (H := H1) (E := E) (K := K) (cad := He.ga K) (cells := cells) hd
    have G__law_mixed := dd__law_mixed (P := P) (w := w) (base := base) (Lm := ({ fno := lamsHO ((cxOf (L2.CX P w) P w K mg base N_law "law" (defScope s_law) (He.ga K "law") (.ref (cTn K "law").1) A outer s H E).env.qual ++ "<lambda>") lamL (cxOf (L2.CX P w) P w K mg base N_law "law" (defScope s_law) (He.ga K "law") (.ref (cTn K "law").1) A outer s H E).env.cells, fnq := (cxOf (L2.CX P w) P w K mg base N_law "law" (defScope s_law) (He.ga K "law") (.ref (cTn K "law").1) A outer s H E).env.qual ++ "<lambda>" } : LamI)) (cells := cells) (Tl := (TlN K txs)) hd T F__law_mixed
    have G__law_take := dd__law_take (P := P) (w := w) (base := base) (Lm := ({ fno := lamsHO ((cxOf (L2.CX P w) P w K mg base N_law "law" (defScope s_law) (He.ga K "law") (.ref (cTn K "law").1) A outer s H E).env.qual ++ "<lambda>") lamL (cxOf (L2.CX P w) P w K mg base N_law "law" (defScope s_law) (He.ga K "law") (.ref (cTn K "law").1) A outer s H E).env.cells, fnq := (cxOf (L2.CX P w) P w K mg base N_law "law" (defScope s_law) (He.ga K "law") (.ref (cTn K "law").1) A outer s H E).env.qual ++ "<lambda>" } : LamI)) (cells := cells) (Tl := (TlN K txs)) hd T F__law_take F__law_mixed B__law_mixed G__law_mixed
    have G__law_pick := dd__law_pick (P := P) (w := w) (base := base) (Lm := ({ fno := lamsHO ((cxOf (L2.CX P w) P w K mg base N_law "law" (defScope s_law) (He.ga K "law") (.ref (cTn K "law").1) A outer s H E).env.qual ++ "<lambda>") lamL (cxOf (L2.CX P w) P w K mg base N_law "law" (defScope s_law) (He.ga K "law") (.ref (cTn K "law").1) A outer s H E).env.cells, fnq := (cxOf (L2.CX P w) P w K mg base N_law "law" (defScope s_law) (He.ga K "law") (.ref (cTn K "law").1) A outer s H E).env.qual ++ "<lambda>" } : LamI)) (cells := cells) (Tl := (TlN K txs)) hd T F__law_pick F__law_take B__law_take G__law_take
    have G__law_any_rhythm := dd__law_any_rhythm (P := P) (w := w) (base := base) (Lm := ({ fno := lamsHO ((cxOf (L2.CX P w) P w K mg base N_law "law" (defScope s_law) (He.ga K "law") (.ref (cTn K "law").1) A outer s H E).env.qual ++ "<lambda>") lamL (cxOf (L2.CX P w) P w K mg base N_law "law" (defScope s_law) (He.ga K "law") (.ref (cTn K "law").1) A outer s H E).env.cells, fnq := (cxOf (L2.CX P w) P w K mg base N_law "law" (defScope s_law) (He.ga K "law") (.ref (cTn K "law").1) A outer s H E).env.qual ++ "<lambda>" } : LamI)) (cells := cells) (Tl := (TlN K txs)) hd T F__law_any_rhythm F__law_take B__law_take G__law_take F__law_pick B__law_pick G__law_pick
    have G_is_number := dd_is_number (P := P) (w := w) (base := base) (C := drawCcL ({ fno := lamsHO ((cxOf (L2.CX P w) P w K mg base N_law "law" (defScope s_law) (He.ga K "law") (.ref (cTn K "law").1) A outer s H E).env.qual ++ "<lambda>") lamL (cxOf (L2.CX P w) P w K mg base N_law "law" (defScope s_law) (He.ga K "law") (.ref (cTn K "law").1) A outer s H E).env.cells, fnq := (cxOf (L2.CX P w) P w K mg base N_law "law" (defScope s_law) (He.ga K "law") (.ref (cTn K "law").1) A outer s H E).env.qual ++ "<lambda>" } : LamI) K (He.ga K) dp wl cl cells (TlN K txs)) rfl rfl T F_is_number
    have G_is_list := dd_is_list (P := P) (w := w) (base := base) (C := drawCcL ({ fno := lamsHO ((cxOf (L2.CX P w) P w K mg base N_law "law" (defScope s_law) (He.ga K "law") (.ref (cTn K "law").1) A outer s H E).env.qual ++ "<lambda>") lamL (cxOf (L2.CX P w) P w K mg base N_law "law" (defScope s_law) (He.ga K "law") (.ref (cTn K "law").1) A outer s H E).env.cells, fnq := (cxOf (L2.CX P w) P w K mg base N_law "law" (defScope s_law) (He.ga K "law") (.ref (cTn K "law").1) A outer s H E).env.qual ++ "<lambda>" } : LamI) K (He.ga K) dp wl cl cells (TlN K txs)) rfl rfl T F_is_list
    have G_are_different := dd_are_different (P := P) (w := w) (base := base) (C := drawCcL ({ fno := lamsHO ((cxOf (L2.CX P w) P w K mg base N_law "law" (defScope s_law) (He.ga K "law") (.ref (cTn K "law").1) A outer s H E).env.qual ++ "<lambda>") lamL (cxOf (L2.CX P w) P w K mg base N_law "law" (defScope s_law) (He.ga K "law") (.ref (cTn K "law").1) A outer s H E).env.cells, fnq := (cxOf (L2.CX P w) P w K mg base N_law "law" (defScope s_law) (He.ga K "law") (.ref (cTn K "law").1) A outer s H E).env.qual ++ "<lambda>" } : LamI) K (He.ga K) dp wl cl cells (TlN K txs)) rfl rfl T F_are_different F_is_list B_is_list G_is_list F_is_number B_is_number G_is_number
    have G_repeats := dd_repeats (P := P) (w := w) (base := base) (C := drawCcL ({ fno := lamsHO ((cxOf (L2.CX P w) P w K mg base N_law "law" (defScope s_law) (He.ga K "law") (.ref (cTn K "law").1) A outer s H E).env.qual ++ "<lambda>") lamL (cxOf (L2.CX P w) P w K mg base N_law "law" (defScope s_law) (He.ga K "law") (.ref (cTn K "law").1) A outer s H E).env.cells, fnq := (cxOf (L2.CX P w) P w K mg base N_law "law" (defScope s_law) (He.ga K "law") (.ref (cTn K "law").1) A outer s H E).env.qual ++ "<lambda>" } : LamI) K (He.ga K) dp wl cl cells (TlN K txs)) rfl rfl T F_repeats
    have G_least_form := dd_least_form (P := P) (w := w) (base := base) (C := drawCcL ({ fno := lamsHO ((cxOf (L2.CX P w) P w K mg base N_law "law" (defScope s_law) (He.ga K "law") (.ref (cTn K "law").1) A outer s H E).env.qual ++ "<lambda>") lamL (cxOf (L2.CX P w) P w K mg base N_law "law" (defScope s_law) (He.ga K "law") (.ref (cTn K "law").1) A outer s H E).env.cells, fnq := (cxOf (L2.CX P w) P w K mg base N_law "law" (defScope s_law) (He.ga K "law") (.ref (cTn K "law").1) A outer s H E).env.qual ++ "<lambda>" } : LamI) K (He.ga K) dp wl cl cells (TlN K txs)) rfl rfl T F_least_form F_repeats B_repeats G_repeats
    have G_Rhythm___init__ := dd_Rhythm___init__ (P := P) (w := w) (base := base) (C := drawCcL ({ fno := lamsHO ((cxOf (L2.CX P w) P w K mg base N_law "law" (defScope s_law) (He.ga K "law") (.ref (cTn K "law").1) A outer s H E).env.qual ++ "<lambda>") lamL (cxOf (L2.CX P w) P w K mg base N_law "law" (defScope s_law) (He.ga K "law") (.ref (cTn K "law").1) A outer s H E).env.cells, fnq := (cxOf (L2.CX P w) P w K mg base N_law "law" (defScope s_law) (He.ga K "law") (.ref (cTn K "law").1) A outer s H E).env.qual ++ "<lambda>" } : LamI) K (He.ga K) dp wl cl cells (TlN K txs)) rfl rfl T F_Rhythm___init__ F_is_number B_is_number G_is_number F_are_different B_are_different G_are_different F_least_form B_least_form G_least_form
    have G_Rhythm_size := dd_Rhythm_size (P := P) (w := w) (base := base) (C := drawCcL ({ fno := lamsHO ((cxOf (L2.CX P w) P w K mg base N_law "law" (defScope s_law) (He.ga K "law") (.ref (cTn K "law").1) A outer s H E).env.qual ++ "<lambda>") lamL (cxOf (L2.CX P w) P w K mg base N_law "law" (defScope s_law) (He.ga K "law") (.ref (cTn K "law").1) A outer s H E).env.cells, fnq := (cxOf (L2.CX P w) P w K mg base N_law "law" (defScope s_law) (He.ga K "law") (.ref (cTn K "law").1) A outer s H E).env.qual ++ "<lambda>" } : LamI) K (He.ga K) dp wl cl cells (TlN K txs)) rfl rfl T F_Rhythm_size
    have G_Rhythm_rests := dd_Rhythm_rests (P := P) (w := w) (base := base) (C := drawCcL ({ fno := lamsHO ((cxOf (L2.CX P w) P w K mg base N_law "law" (defScope s_law) (He.ga K "law") (.ref (cTn K "law").1) A outer s H E).env.qual ++ "<lambda>") lamL (cxOf (L2.CX P w) P w K mg base N_law "law" (defScope s_law) (He.ga K "law") (.ref (cTn K "law").1) A outer s H E).env.cells, fnq := (cxOf (L2.CX P w) P w K mg base N_law "law" (defScope s_law) (He.ga K "law") (.ref (cTn K "law").1) A outer s H E).env.qual ++ "<lambda>" } : LamI) K (He.ga K) dp wl cl cells (TlN K txs)) rfl rfl T F_Rhythm_rests
    have G__law_lcm := dd__law_lcm (P := P) (w := w) (base := base) (C := drawCcL ({ fno := lamsHO ((cxOf (L2.CX P w) P w K mg base N_law "law" (defScope s_law) (He.ga K "law") (.ref (cTn K "law").1) A outer s H E).env.qual ++ "<lambda>") lamL (cxOf (L2.CX P w) P w K mg base N_law "law" (defScope s_law) (He.ga K "law") (.ref (cTn K "law").1) A outer s H E).env.cells, fnq := (cxOf (L2.CX P w) P w K mg base N_law "law" (defScope s_law) (He.ga K "law") (.ref (cTn K "law").1) A outer s H E).env.qual ++ "<lambda>" } : LamI) K (He.ga K) dp wl cl cells (TlN K txs)) rfl rfl T F__law_lcm
    have G__law_has := dd__law_has (P := P) (w := w) (base := base) (C := drawCcL ({ fno := lamsHO ((cxOf (L2.CX P w) P w K mg base N_law "law" (defScope s_law) (He.ga K "law") (.ref (cTn K "law").1) A outer s H E).env.qual ++ "<lambda>") lamL (cxOf (L2.CX P w) P w K mg base N_law "law" (defScope s_law) (He.ga K "law") (.ref (cTn K "law").1) A outer s H E).env.cells, fnq := (cxOf (L2.CX P w) P w K mg base N_law "law" (defScope s_law) (He.ga K "law") (.ref (cTn K "law").1) A outer s H E).env.qual ++ "<lambda>" } : LamI) K (He.ga K) dp wl cl cells (TlN K txs)) rfl rfl T F__law_has
    have G__law_least := dd__law_least (P := P) (w := w) (base := base) (C := drawCcL ({ fno := lamsHO ((cxOf (L2.CX P w) P w K mg base N_law "law" (defScope s_law) (He.ga K "law") (.ref (cTn K "law").1) A outer s H E).env.qual ++ "<lambda>") lamL (cxOf (L2.CX P w) P w K mg base N_law "law" (defScope s_law) (He.ga K "law") (.ref (cTn K "law").1) A outer s H E).env.cells, fnq := (cxOf (L2.CX P w) P w K mg base N_law "law" (defScope s_law) (He.ga K "law") (.ref (cTn K "law").1) A outer s H E).env.qual ++ "<lambda>" } : LamI) K (He.ga K) dp wl cl cells (TlN K txs)) rfl rfl T F__law_least
    have G__law_is_made := dd__law_is_made (P := P) (w := w) (base := base) (C := drawCcL ({ fno := lamsHO ((cxOf (L2.CX P w) P w K mg base N_law "law" (defScope s_law) (He.ga K "law") (.ref (cTn K "law").1) A outer s H E).env.qual ++ "<lambda>") lamL (cxOf (L2.CX P w) P w K mg base N_law "law" (defScope s_law) (He.ga K "law") (.ref (cTn K "law").1) A outer s H E).env.cells, fnq := (cxOf (L2.CX P w) P w K mg base N_law "law" (defScope s_law) (He.ga K "law") (.ref (cTn K "law").1) A outer s H E).env.qual ++ "<lambda>" } : LamI) K (He.ga K) dp wl cl cells (TlN K txs)) rfl rfl T F__law_is_made F__law_least B__law_least G__law_least F_Rhythm_size B_Rhythm_size G_Rhythm_size F_Rhythm_rests B_Rhythm_rests G_Rhythm_rests
    have G_common := dd_common (P := P) (w := w) (base := base) (C := drawCcL ({ fno := lamsHO ((cxOf (L2.CX P w) P w K mg base N_law "law" (defScope s_law) (He.ga K "law") (.ref (cTn K "law").1) A outer s H E).env.qual ++ "<lambda>") lamL (cxOf (L2.CX P w) P w K mg base N_law "law" (defScope s_law) (He.ga K "law") (.ref (cTn K "law").1) A outer s H E).env.cells, fnq := (cxOf (L2.CX P w) P w K mg base N_law "law" (defScope s_law) (He.ga K "law") (.ref (cTn K "law").1) A outer s H E).env.qual ++ "<lambda>" } : LamI) K (He.ga K) dp wl cl cells (TlN K txs)) rfl rfl T F_common
    have G_Rhythm___contains__ := dd_Rhythm___contains__ (P := P) (w := w) (base := base) (C := drawCcL ({ fno := lamsHO ((cxOf (L2.CX P w) P w K mg base N_law "law" (defScope s_law) (He.ga K "law") (.ref (cTn K "law").1) A outer s H E).env.qual ++ "<lambda>") lamL (cxOf (L2.CX P w) P w K mg base N_law "law" (defScope s_law) (He.ga K "law") (.ref (cTn K "law").1) A outer s H E).env.cells, fnq := (cxOf (L2.CX P w) P w K mg base N_law "law" (defScope s_law) (He.ga K "law") (.ref (cTn K "law").1) A outer s H E).env.qual ++ "<lambda>" } : LamI) K (He.ga K) dp wl cl cells (TlN K txs)) rfl rfl T F_Rhythm___contains__ F_is_number B_is_number G_is_number
    have G_Rhythm___or__ := dd_Rhythm___or__ (P := P) (w := w) (base := base) (C := drawCcL ({ fno := lamsHO ((cxOf (L2.CX P w) P w K mg base N_law "law" (defScope s_law) (He.ga K "law") (.ref (cTn K "law").1) A outer s H E).env.qual ++ "<lambda>") lamL (cxOf (L2.CX P w) P w K mg base N_law "law" (defScope s_law) (He.ga K "law") (.ref (cTn K "law").1) A outer s H E).env.cells, fnq := (cxOf (L2.CX P w) P w K mg base N_law "law" (defScope s_law) (He.ga K "law") (.ref (cTn K "law").1) A outer s H E).env.qual ++ "<lambda>" } : LamI) K (He.ga K) dp wl cl cells (TlN K txs)) rfl rfl T F_Rhythm___or__ F_common B_common G_common F_Rhythm_size B_Rhythm_size G_Rhythm_size F_Rhythm___init__ B_Rhythm___init__ G_Rhythm___init__ F_Rhythm___contains__ B_Rhythm___contains__ G_Rhythm___contains__
    have G_Rhythm___and__ := dd_Rhythm___and__ (P := P) (w := w) (base := base) (C := drawCcL ({ fno := lamsHO ((cxOf (L2.CX P w) P w K mg base N_law "law" (defScope s_law) (He.ga K "law") (.ref (cTn K "law").1) A outer s H E).env.qual ++ "<lambda>") lamL (cxOf (L2.CX P w) P w K mg base N_law "law" (defScope s_law) (He.ga K "law") (.ref (cTn K "law").1) A outer s H E).env.cells, fnq := (cxOf (L2.CX P w) P w K mg base N_law "law" (defScope s_law) (He.ga K "law") (.ref (cTn K "law").1) A outer s H E).env.qual ++ "<lambda>" } : LamI) K (He.ga K) dp wl cl cells (TlN K txs)) rfl rfl T F_Rhythm___and__ F_common B_common G_common F_Rhythm_size B_Rhythm_size G_Rhythm_size F_Rhythm___init__ B_Rhythm___init__ G_Rhythm___init__ F_Rhythm___contains__ B_Rhythm___contains__ G_Rhythm___contains__
    have G_Rhythm___sub__ := dd_Rhythm___sub__ (P := P) (w := w) (base := base) (C := drawCcL ({ fno := lamsHO ((cxOf (L2.CX P w) P w K mg base N_law "law" (defScope s_law) (He.ga K "law") (.ref (cTn K "law").1) A outer s H E).env.qual ++ "<lambda>") lamL (cxOf (L2.CX P w) P w K mg base N_law "law" (defScope s_law) (He.ga K "law") (.ref (cTn K "law").1) A outer s H E).env.cells, fnq := (cxOf (L2.CX P w) P w K mg base N_law "law" (defScope s_law) (He.ga K "law") (.ref (cTn K "law").1) A outer s H E).env.qual ++ "<lambda>" } : LamI) K (He.ga K) dp wl cl cells (TlN K txs)) rfl rfl T F_Rhythm___sub__ F_common B_common G_common F_Rhythm_size B_Rhythm_size G_Rhythm_size F_Rhythm___init__ B_Rhythm___init__ G_Rhythm___init__ F_Rhythm___contains__ B_Rhythm___contains__ G_Rhythm___contains__
    have G_Rhythm_within := dd_Rhythm_within (P := P) (w := w) (base := base) (C := drawCcL ({ fno := lamsHO ((cxOf (L2.CX P w) P w K mg base N_law "law" (defScope s_law) (He.ga K "law") (.ref (cTn K "law").1) A outer s H E).env.qual ++ "<lambda>") lamL (cxOf (L2.CX P w) P w K mg base N_law "law" (defScope s_law) (He.ga K "law") (.ref (cTn K "law").1) A outer s H E).env.cells, fnq := (cxOf (L2.CX P w) P w K mg base N_law "law" (defScope s_law) (He.ga K "law") (.ref (cTn K "law").1) A outer s H E).env.qual ++ "<lambda>" } : LamI) K (He.ga K) dp wl cl cells (TlN K txs)) rfl rfl T F_Rhythm_within F_common B_common G_common F_Rhythm_size B_Rhythm_size G_Rhythm_size F_Rhythm___contains__ B_Rhythm___contains__ G_Rhythm___contains__
    have G_Rhythm___rshift__ := dd_Rhythm___rshift__ (P := P) (w := w) (base := base) (C := drawCcL ({ fno := lamsHO ((cxOf (L2.CX P w) P w K mg base N_law "law" (defScope s_law) (He.ga K "law") (.ref (cTn K "law").1) A outer s H E).env.qual ++ "<lambda>") lamL (cxOf (L2.CX P w) P w K mg base N_law "law" (defScope s_law) (He.ga K "law") (.ref (cTn K "law").1) A outer s H E).env.cells, fnq := (cxOf (L2.CX P w) P w K mg base N_law "law" (defScope s_law) (He.ga K "law") (.ref (cTn K "law").1) A outer s H E).env.qual ++ "<lambda>" } : LamI) K (He.ga K) dp wl cl cells (TlN K txs)) rfl rfl T F_Rhythm___rshift__ F_is_number B_is_number G_is_number F_Rhythm___init__ B_Rhythm___init__ G_Rhythm___init__
    have G_BadRhythm___init__ := dd_BadRhythm___init__ (P := P) (w := w) (base := base) T F_BadRhythm___init__
    have G_Rhythm___init__X := dd_Rhythm___init__X (P := P) (w := w) (base := base) (C := drawCcL ({ fno := lamsHO ((cxOf (L2.CX P w) P w K mg base N_law "law" (defScope s_law) (He.ga K "law") (.ref (cTn K "law").1) A outer s H E).env.qual ++ "<lambda>") lamL (cxOf (L2.CX P w) P w K mg base N_law "law" (defScope s_law) (He.ga K "law") (.ref (cTn K "law").1) A outer s H E).env.cells, fnq := (cxOf (L2.CX P w) P w K mg base N_law "law" (defScope s_law) (He.ga K "law") (.ref (cTn K "law").1) A outer s H E).env.qual ++ "<lambda>" } : LamI) K (He.ga K) dp wl cl cells (TlN K txs)) rfl rfl T F_Rhythm___init__X F_is_number B_is_number G_is_number F_BadRhythm___init__ B_BadRhythm___init__ G_BadRhythm___init__ F_are_different B_are_different G_are_different F_least_form B_least_form G_least_form
    have G_Rhythm___or__X := dd_Rhythm___or__X (P := P) (w := w) (base := base) (C := drawCcL ({ fno := lamsHO ((cxOf (L2.CX P w) P w K mg base N_law "law" (defScope s_law) (He.ga K "law") (.ref (cTn K "law").1) A outer s H E).env.qual ++ "<lambda>") lamL (cxOf (L2.CX P w) P w K mg base N_law "law" (defScope s_law) (He.ga K "law") (.ref (cTn K "law").1) A outer s H E).env.cells, fnq := (cxOf (L2.CX P w) P w K mg base N_law "law" (defScope s_law) (He.ga K "law") (.ref (cTn K "law").1) A outer s H E).env.qual ++ "<lambda>" } : LamI) K (He.ga K) dp wl cl cells (TlN K txs)) rfl rfl T F_Rhythm___or__X F_common B_common G_common F_Rhythm_size B_Rhythm_size G_Rhythm_size F_Rhythm___init__X B_Rhythm___init__X G_Rhythm___init__X F_Rhythm___contains__ B_Rhythm___contains__ G_Rhythm___contains__
    have G_Rhythm___and__X := dd_Rhythm___and__X (P := P) (w := w) (base := base) (C := drawCcL ({ fno := lamsHO ((cxOf (L2.CX P w) P w K mg base N_law "law" (defScope s_law) (He.ga K "law") (.ref (cTn K "law").1) A outer s H E).env.qual ++ "<lambda>") lamL (cxOf (L2.CX P w) P w K mg base N_law "law" (defScope s_law) (He.ga K "law") (.ref (cTn K "law").1) A outer s H E).env.cells, fnq := (cxOf (L2.CX P w) P w K mg base N_law "law" (defScope s_law) (He.ga K "law") (.ref (cTn K "law").1) A outer s H E).env.qual ++ "<lambda>" } : LamI) K (He.ga K) dp wl cl cells (TlN K txs)) rfl rfl T F_Rhythm___and__X F_common B_common G_common F_Rhythm_size B_Rhythm_size G_Rhythm_size F_Rhythm___init__X B_Rhythm___init__X G_Rhythm___init__X F_Rhythm___contains__ B_Rhythm___contains__ G_Rhythm___contains__
    have G_Rhythm___sub__X := dd_Rhythm___sub__X (P := P) (w := w) (base := base) (C := drawCcL ({ fno := lamsHO ((cxOf (L2.CX P w) P w K mg base N_law "law" (defScope s_law) (He.ga K "law") (.ref (cTn K "law").1) A outer s H E).env.qual ++ "<lambda>") lamL (cxOf (L2.CX P w) P w K mg base N_law "law" (defScope s_law) (He.ga K "law") (.ref (cTn K "law").1) A outer s H E).env.cells, fnq := (cxOf (L2.CX P w) P w K mg base N_law "law" (defScope s_law) (He.ga K "law") (.ref (cTn K "law").1) A outer s H E).env.qual ++ "<lambda>" } : LamI) K (He.ga K) dp wl cl cells (TlN K txs)) rfl rfl T F_Rhythm___sub__X F_common B_common G_common F_Rhythm_size B_Rhythm_size G_Rhythm_size F_Rhythm___init__X B_Rhythm___init__X G_Rhythm___init__X F_Rhythm___contains__ B_Rhythm___contains__ G_Rhythm___contains__
    have LF : LamF (cxOf (L2.CX P w) P w K mg base N_law "law" (defScope s_law) (He.ga K "law") (.ref (cTn K "law").1) A outer s H E) (fxOf (drawCcL ({ fno := lamsHO ((cxOf (L2.CX P w) P w K mg base N_law "law" (defScope s_law) (He.ga K "law") (.ref (cTn K "law").1) A outer s H E).env.qual ++ "<lambda>") lamL (cxOf (L2.CX P w) P w K mg base N_law "law" (defScope s_law) (He.ga K "law") (.ref (cTn K "law").1) A outer s H E).env.cells, fnq := (cxOf (L2.CX P w) P w K mg base N_law "law" (defScope s_law) (He.ga K "law") (.ref (cTn K "law").1) A outer s H E).env.qual ++ "<lambda>" } : LamI) K (He.ga K) dp wl cl cells (TlN K txs)) (noT H) H1 E) lamL := ⟨rfl, rfl, noCode_draw⟩
    have LO : LamsOk (cxOf (L2.CX P w) P w K mg base N_law "law" (defScope s_law) (He.ga K "law") (.ref (cTn K "law").1) A outer s H E) (fxOf (drawCcL ({ fno := lamsHO ((cxOf (L2.CX P w) P w K mg base N_law "law" (defScope s_law) (He.ga K "law") (.ref (cTn K "law").1) A outer s H E).env.qual ++ "<lambda>") lamL (cxOf (L2.CX P w) P w K mg base N_law "law" (defScope s_law) (He.ga K "law") (.ref (cTn K "law").1) A outer s H E).env.cells, fnq := (cxOf (L2.CX P w) P w K mg base N_law "law" (defScope s_law) (He.ga K "law") (.ref (cTn K "law").1) A outer s H E).env.qual ++ "<lambda>" } : LamI) K (He.ga K) dp wl cl cells (TlN K txs)) (noT H) H1 E) 5 lamL (lamR cs cells) := (.cons (LamX.lamS_by (sc := defScope s_law) (by decide +kernel)) (fun _ _ _ _ _ => rfl) (fun A outer s H0 E f c' hr G H => lam_in (fun hK tk => (de_op (or_own G_Rhythm___or__X (hr.mono (by decide)) B_Rhythm___or__X (passes_F tk) T.first_Rhythm T.op_Rhythm_BitOr T.meth_Rhythm___or__.fn) (od_own (congrFun hcad "Rhythm")) (de_ix ix_seq (od_ix hK) (de_var 15 (pv 15)) de_int (fun _ _ => rfl)) (de_ix ix_seq (od_ix hK) (de_var 15 (pv 15)) de_int (fun _ _ => rfl)))) hCK (takes_of rfl rfl rfl rfl))
      (.cons (LamX.lamS_by (sc := defScope s_law) (by decide +kernel)) (fun _ _ _ _ _ => rfl) (fun A outer s H0 E f c' hr G H => lam_in (fun hK tk => (de_op (or_own G_Rhythm___and__X (hr.mono (by decide)) B_Rhythm___and__X (passes_F tk) T.first_Rhythm T.op_Rhythm_BitAnd T.meth_Rhythm___and__.fn) (od_own (congrFun hcad "Rhythm")) (de_ix ix_seq (od_ix hK) (de_var 15 (pv 15)) de_int (fun _ _ => rfl)) (de_ix ix_seq (od_ix hK) (de_var 15 (pv 15)) de_int (fun _ _ => rfl)))) hCK (takes_of rfl rfl rfl rfl))
      (.cons (LamX.lamS_by (sc := defScope s_law) (by decide +kernel)) (fun _ _ _ _ _ => rfl) (fun A outer s H0 E f c' hr G H => lam_in (fun hK tk => (de_op (OpR_or (or_own G_Rhythm___sub__X (hr.mono (by decide)) B_Rhythm___sub__X (passes_F tk) T.first_Rhythm T.op_Rhythm_Sub T.meth_Rhythm___sub__.fn) op_sub) (od_or (od_own (congrFun hcad "Rhythm")) od_sub) (de_ix ix_seq (od_ix hK) (de_var 15 (pv 15)) de_int (fun _ _ => rfl)) (de_ix ix_seq (od_ix hK) (de_var 15 (pv 15)) de_int (fun _ _ => rfl)))) hCK (takes_of rfl rfl rfl rfl))
      .nil)))
    exact (dss_cons (ds_for (passes_of rfl) rfl (di_range1 rfl T.free_range (da_cons (de_op or_add (od_add hK) de_int (de_callB (call_min2 rfl) cd_min2 rfl T.free_min (by decide +kernel) (da_cons (de_callB call_len (cd_len hK) rfl T.free_len (by decide +kernel) (da_cons (de_var 0 (pv 0)) da_nil)) (da_cons de_int da_nil)))) da_nil)) (dg_name 2 (pg_name (i := 2) nd rfl (.inl rfl))) (dss_cons (ds_asg (de_lst (da_cons (de_call G__law_any_rhythm tk (hr.mono (by decide)) rfl T.glo__law_any_rhythm F__law_any_rhythm.kp B__law_any_rhythm .nil DfR.nil (da_cons (de_var 1 (pv 1)) da_nil)) (da_cons (de_call G__law_any_rhythm tk (hr.mono (by decide)) rfl T.glo__law_any_rhythm F__law_any_rhythm.kp B__law_any_rhythm .nil DfR.nil (da_cons (de_var 1 (pv 1)) da_nil)) da_nil))) (dg_name 3 (pg_name (i := 3) nd rfl (.inr rfl))))
    (dss_cons (ds_asg (de_lc (own := [("_law_model", 6)]) (g := gName 6) rfl nd (di_seq hK (de_var 3 (pv 3))) (blkOk_by (N := N_law) (sc := defScope s_law) (by decide +kernel)) (gw_name (by decide)) (fun _ _ _ _ _ => pg_name (i := 6) nd rfl (Or.inl rfl)) (fun _ _ _ _ _ => dts_nil) (fun _ _ _ _ _ => (de_make (congrFun hcad "Rhythm") T.mk_Rhythm G_Rhythm___init__ takes0 (hr.mono (by decide)) rfl T.glo_Rhythm B_Rhythm___init__ .nil DfR.nil (da_cons (de_ix ix_seq (od_ix hK) (de_var 6 (pv 6)) de_int (fun _ _ => rfl)) (da_cons (de_callTy call_list_of (cd_list hK) rfl T.free_list (by decide +kernel) (da_cons (de_ix ix_seq (od_ix hK) (de_var 6 (pv 6)) de_int (fun _ _ => rfl)) da_nil)) da_nil))))) (dg_tup hK rfl (dgs_cons (dg_name 4 (pg_name (i := 4) nd rfl (.inr rfl))) (dgs_cons (dg_name 5 (pg_name (i := 5) nd rfl (.inl rfl))) dgs_nil))))
    (dss_cons (ds_asg (de_callB (call_repr hgd (u70 hr)) (cd_repr hK) rfl T.free_repr (by decide +kernel) (da_cons (de_lst (da_cons (de_prop (congrFun hcad "Rhythm") (de_var 4 (pv 4)) T.cls_Rhythm T.prop_Rhythm_size G_Rhythm_size (hr.mono (by decide)) B_Rhythm_size) (da_cons (de_prop (congrFun hcad "Rhythm") (de_var 4 (pv 4)) T.cls_Rhythm T.prop_Rhythm_rests G_Rhythm_rests (hr.mono (by decide)) B_Rhythm_rests) (da_cons (de_prop (congrFun hcad "Rhythm") (de_var 5 (pv 5)) T.cls_Rhythm T.prop_Rhythm_size G_Rhythm_size (hr.mono (by decide)) B_Rhythm_size) (da_cons (de_prop (congrFun hcad "Rhythm") (de_var 5 (pv 5)) T.cls_Rhythm T.prop_Rhythm_rests G_Rhythm_rests (hr.mono (by decide)) B_Rhythm_rests) da_nil))))) da_nil)) (dg_name 7 (pg_name (i := 7) nd rfl (.inl rfl))))
    (dss_cons (ds_asg (de_call G__law_lcm tk (hr.mono (by decide)) rfl T.glo__law_lcm F__law_lcm.kp B__law_lcm .nil DfR.nil (da_cons (de_ix ix_seq (od_ix hK) (de_ix ix_seq (od_ix hK) (de_var 3 (pv 3)) de_int (fun _ _ => rfl)) de_int (fun _ _ => rfl)) (da_cons (de_ix ix_seq (od_ix hK) (de_ix ix_seq (od_ix hK) (de_var 3 (pv 3)) de_int (fun _ _ => rfl)) de_int (fun _ _ => rfl)) da_nil))) (dg_name 8 (pg_name (i := 8) nd rfl (.inr rfl))))
    (dss_cons (ds_asg (de_lc (own := [("_law_model", 6)]) (g := gName 6) rfl nd (di_seq hK (de_var 3 (pv 3))) (blkOk_by (N := N_law) (sc := defScope s_law) (by decide +kernel)) (gw_name (by decide)) (fun _ _ _ _ _ => pg_name (i := 6) nd rfl (Or.inr rfl)) (fun _ _ _ _ _ => dts_nil) (fun _ _ _ _ _ => (de_lc (own := [("_law_day", 10)]) (g := gName 10) rfl nd (di_range1 rfl T.free_range (da_cons (de_var 8 (pv 8)) da_nil)) (blkOk_by (by kernel_rfl)) (gw_name (by decide)) (fun _ _ _ _ _ => pg_name (i := 10) nd rfl (Or.inl rfl)) (fun _ _ _ _ _ => (dts_one (dt_val (de_call G__law_has takes0 (hr.mono (by decide)) rfl T.glo__law_has F__law_has.kp B__law_has .nil DfR.nil (da_cons (de_var 6 (pv 6)) (da_cons (de_var 10 (pv 10)) da_nil)))))) (fun _ _ _ _ _ => (de_var 10 (pv 10)))))) (dg_name 9 (pg_name (i := 9) nd rfl (.inr rfl))))
    (dss_cons (ds_if (dt_not (dt_val (de_callG hgd G__law_is_made tk (hr.mono (by decide)) rfl T.glo__law_is_made F__law_is_made.kp B__law_is_made .nil DfR.nil (da_cons (de_op (or_own G_Rhythm___or__ (hr.mono (by decide)) B_Rhythm___or__ (passes_F tk) T.first_Rhythm T.op_Rhythm_BitOr T.meth_Rhythm___or__.fn) (od_own (congrFun hcad "Rhythm")) (de_var 4 (pv 4)) (de_var 5 (pv 5))) (da_cons (de_sortSet hK rfl T.free_sorted rfl T.free_set (de_op or_add (od_add hK) (de_ix ix_seq (od_ix hK) (de_var 9 (pv 9)) de_int (fun _ _ => rfl)) (de_ix ix_seq (od_ix hK) (de_var 9 (pv 9)) de_int (fun _ _ => rfl)))) (da_cons (de_var 8 (pv 8)) da_nil)))))) (dss_one (ds_ret de_bl)) dss_nil)
    (dss_cons (ds_if (dt_not (dt_val (de_callG hgd G__law_is_made tk (hr.mono (by decide)) rfl T.glo__law_is_made F__law_is_made.kp B__law_is_made .nil DfR.nil (da_cons (de_op (or_own G_Rhythm___and__ (hr.mono (by decide)) B_Rhythm___and__ (passes_F tk) T.first_Rhythm T.op_Rhythm_BitAnd T.meth_Rhythm___and__.fn) (od_own (congrFun hcad "Rhythm")) (de_var 4 (pv 4)) (de_var 5 (pv 5))) (da_cons (de_lc (own := [("_law_day", 10)]) (g := gName 10) rfl nd (di_seq hK (de_ix ix_seq (od_ix hK) (de_var 9 (pv 9)) de_int (fun _ _ => rfl))) (blkOk_by (N := N_law) (sc := defScope s_law) (by decide +kernel)) (gw_name (by decide)) (fun _ _ _ _ _ => pg_name (i := 10) nd rfl (Or.inl rfl)) (fun _ _ _ _ _ => (dts_one (dt_cmp op_in_seq (od_in false hK) (de_var 10 (pv 10)) (de_ix ix_seq (od_ix hK) (de_var 9 (pv 9)) de_int (fun _ _ => rfl)) (by rfl)))) (fun _ _ _ _ _ => (de_var 10 (pv 10)))) (da_cons (de_var 8 (pv 8)) da_nil)))))) (dss_one (ds_ret de_bl)) dss_nil)
    (dss_cons (ds_if (dt_not (dt_val (de_callG hgd G__law_is_made tk (hr.mono (by decide)) rfl T.glo__law_is_made F__law_is_made.kp B__law_is_made .nil DfR.nil (da_cons (de_op (OpR_or (or_own G_Rhythm___sub__ (hr.mono (by decide)) B_Rhythm___sub__ (passes_F tk) T.first_Rhythm T.op_Rhythm_Sub T.meth_Rhythm___sub__.fn) op_sub) (od_or (od_own (congrFun hcad "Rhythm")) od_sub) (de_var 4 (pv 4)) (de_var 5 (pv 5))) (da_cons (de_lc (own := [("_law_day", 10)]) (g := gName 10) rfl nd (di_seq hK (de_ix ix_seq (od_ix hK) (de_var 9 (pv 9)) de_int (fun _ _ => rfl))) (blkOk_by (N := N_law) (sc := defScope s_law) (by decide +kernel)) (gw_name (by decide)) (fun _ _ _ _ _ => pg_name (i := 10) nd rfl (Or.inl rfl)) (fun _ _ _ _ _ => (dts_one (dt_cmp op_notIn_seq (od_in true hK) (de_var 10 (pv 10)) (de_ix ix_seq (od_ix hK) (de_var 9 (pv 9)) de_int (fun _ _ => rfl)) (by rfl)))) (fun _ _ _ _ _ => (de_var 10 (pv 10)))) (da_cons (de_var 8 (pv 8)) da_nil)))))) (dss_one (ds_ret de_bl)) dss_nil)
    (dss_cons (ds_if (dt_cmp (op_neD hr.units) (od_ne hK) (de_callB (call_repr hgd (u70 hr)) (cd_repr hK) rfl T.free_repr (by decide +kernel) (da_cons (de_meth (congrFun hcad "Rhythm") (de_var 4 (pv 4)) T.cls_Rhythm T.meth_Rhythm_within G_Rhythm_within tk (hr.mono (by decide)) B_Rhythm_within .nil DfR.nil (da_cons (de_var 5 (pv 5)) da_nil)) da_nil)) (de_callB (call_repr hgd (u70 hr)) (cd_repr hK) rfl T.free_repr (by decide +kernel) (da_cons (de_cmp (op_eqD hr.units) (od_eq hK) (de_lc (own := [("_law_day", 10)]) (g := gName 10) rfl nd (di_seq hK (de_ix ix_seq (od_ix hK) (de_var 9 (pv 9)) de_int (fun _ _ => rfl))) (blkOk_by (N := N_law) (sc := defScope s_law) (by decide +kernel)) (gw_name (by decide)) (fun _ _ _ _ _ => pg_name (i := 10) nd rfl (Or.inl rfl)) (fun _ _ _ _ _ => (dts_one (dt_cmp op_notIn_seq (od_in true hK) (de_var 10 (pv 10)) (de_ix ix_seq (od_ix hK) (de_var 9 (pv 9)) de_int (fun _ _ => rfl)) (by rfl)))) (fun _ _ _ _ _ => (de_var 10 (pv 10)))) (de_lst da_nil) (by rfl)) da_nil)) (by rfl)) (dss_one (ds_ret de_bl)) dss_nil)
    (dss_cons (ds_if (dt_cmp (op_neD hr.units) (od_ne hK) (de_callB (call_repr hgd (u70 hr)) (cd_repr hK) rfl T.free_repr (by decide +kernel) (da_cons (de_methK (congrFun hcad "Rhythm") (de_var 5 (pv 5)) T.cls_Rhythm T.meth_Rhythm_within G_Rhythm_within tk (hr.mono (by decide)) KB_Rhythm_within_other (dk_cons (de_var 4 (pv 4)) dk_nil)) da_nil)) (de_callB (call_repr hgd (u70 hr)) (cd_repr hK) rfl T.free_repr (by decide +kernel) (da_cons (de_cmp (op_eqD hr.units) (od_eq hK) (de_lc (own := [("_law_day", 10)]) (g := gName 10) rfl nd (di_seq hK (de_ix ix_seq (od_ix hK) (de_var 9 (pv 9)) de_int (fun _ _ => rfl))) (blkOk_by (N := N_law) (sc := defScope s_law) (by decide +kernel)) (gw_name (by decide)) (fun _ _ _ _ _ => pg_name (i := 10) nd rfl (Or.inl rfl)) (fun _ _ _ _ _ => (dts_one (dt_cmp op_notIn_seq (od_in true hK) (de_var 10 (pv 10)) (de_ix ix_seq (od_ix hK) (de_var 9 (pv 9)) de_int (fun _ _ => rfl)) (by rfl)))) (fun _ _ _ _ _ => (de_var 10 (pv 10)))) (de_lst da_nil) (by rfl)) da_nil)) (by rfl)) (dss_one (ds_ret de_bl)) dss_nil)
    (dss_cons (ds_asg (de_call G__law_pick tk (hr.mono (by decide)) rfl T.glo__law_pick F__law_pick.kp B__law_pick .nil DfR.nil (da_cons (de_var 1 (pv 1)) (da_cons (de_lst (da_cons de_int (da_cons de_int (da_cons (de_neg de_int) (da_cons (de_op op_sub od_sub (de_call G__law_take tk (hr.mono (by decide)) rfl T.glo__law_take F__law_take.kp B__law_take .nil DfR.nil (da_cons (de_var 1 (pv 1)) (da_cons de_int da_nil))) de_int) (da_cons (de_op op_pow od_pow de_int de_int) da_nil)))))) da_nil))) (dg_name 11 (pg_name (i := 11) nd rfl (.inr rfl))))
    (dss_cons (ds_asg (de_callB cr_sortedI (cd_sort hK) rfl T.free_sorted (by decide +kernel) (da_cons (de_lc (own := [("_law_rest", 13)]) (g := gName 13) rfl nd (di_seq hK (de_ix ix_seq (od_ix hK) (de_ix ix_seq (od_ix hK) (de_var 3 (pv 3)) de_int (fun _ _ => rfl)) de_int (fun _ _ => rfl))) (blkOk_by (N := N_law) (sc := defScope s_law) (by decide +kernel)) (gw_name (by decide)) (fun _ _ _ _ _ => pg_name (i := 13) nd rfl (Or.inl rfl)) (fun _ _ _ _ _ => dts_nil) (fun _ _ _ _ _ => (de_op op_mod od_mod (de_callTy call_int1 cd_int1 rfl T.free_int (by decide +kernel) (da_cons (de_op or_add (od_add hK) (de_var 13 (pv 13)) (de_var 11 (pv 11))) da_nil)) (de_ix ix_seq (od_ix hK) (de_ix ix_seq (od_ix hK) (de_var 3 (pv 3)) de_int (fun _ _ => rfl)) de_int (fun _ _ => rfl))))) da_nil)) (dg_name 12 (pg_name (i := 12) nd rfl (.inl rfl))))
    (dss_cons (ds_if (dt_not (dt_val (de_callG hgd G__law_is_made tk (hr.mono (by decide)) rfl T.glo__law_is_made F__law_is_made.kp B__law_is_made .nil DfR.nil (da_cons (de_op (or_ownI G_Rhythm___rshift__ (hr.mono (by decide)) B_Rhythm___rshift__ (passes_F tk) T.first_Rhythm T.op_Rhythm_RShift T.meth_Rhythm___rshift__.fn T.r_Rhythm_rshift (.inl rfl) (Exists.choose_spec T.i1_rshift) (Exists.choose_spec T.i2_rshift) T.isub_Rhythm) (od_ownI (congrFun hcad "Rhythm")) (de_var 4 (pv 4)) (de_var 11 (pv 11))) (da_cons (de_var 12 (pv 12)) (da_cons (de_ix ix_seq (od_ix hK) (de_ix ix_seq (od_ix hK) (de_var 3 (pv 3)) de_int (fun _ _ => rfl)) de_int (fun _ _ => rfl)) da_nil)))))) (dss_one (ds_ret de_bl)) dss_nil)
    (dss_cons (ds_for (passes_of rfl) rfl (di_seq hK (de_lst (da_cons (de_op op_sub od_sub (de_call G__law_take tk (hr.mono (by decide)) rfl T.glo__law_take F__law_take.kp B__law_take .nil DfR.nil (da_cons (de_var 1 (pv 1)) (da_cons de_int da_nil))) de_int) (da_cons (de_op op_sub od_sub (de_op op_pow od_pow de_int de_int) (de_call G__law_take tk (hr.mono (by decide)) rfl T.glo__law_take F__law_take.kp B__law_take .nil DfR.nil (da_cons (de_var 1 (pv 1)) (da_cons de_int da_nil)))) (da_cons (de_op op_sub od_sub de_int (de_call G__law_take tk (hr.mono (by decide)) rfl T.glo__law_take F__law_take.kp B__law_take .nil DfR.nil (da_cons (de_var 1 (pv 1)) (da_cons de_int da_nil)))) da_nil))))) (dg_name 10 (pg_name (i := 10) nd rfl (.inl rfl))) (dss_one (ds_if (dt_cmp (op_neD hr.units) (od_ne hK) (de_callB (call_repr hgd (u70 hr)) (cd_repr hK) rfl T.free_repr (by decide +kernel) (da_cons (de_cmp (OpR_or (or_ownIn G_Rhythm___contains__ (hr.mono (by decide)) B_Rhythm___contains__ (passes_F tk) T.meth_Rhythm___contains__.at_ T.meth_Rhythm___contains__.fn) op_in_seq) (od_or (od_ownIn false (congrFun hcad "Rhythm")) (od_in false hK)) (de_var 10 (pv 10)) (de_var 4 (pv 4)) (by rfl)) da_nil)) (de_callB (call_repr hgd (u70 hr)) (cd_repr hK) rfl T.free_repr (by decide +kernel) (da_cons (de_call G__law_has tk (hr.mono (by decide)) rfl T.glo__law_has F__law_has.kp B__law_has .nil DfR.nil (da_cons (de_ix ix_seq (od_ix hK) (de_var 3 (pv 3)) de_int (fun _ _ => rfl)) (da_cons (de_var 10 (pv 10)) da_nil))) da_nil)) (by rfl)) (dss_one (ds_ret de_bl)) dss_nil)))
    (dss_cons (ds_if (dt_cmp (op_neD hr.units) (od_ne hK) (de_lc (own := [("_law_thing", 14)]) (g := gName 14) rfl nd (di_seq hK (de_lst (da_cons de_non (da_cons de_str (da_cons de_bl (da_cons de_bl (da_cons (de_tup (da_cons de_int da_nil)) (da_cons (de_lst (da_cons de_int da_nil)) (da_cons (de_var 4 (pv 4)) (da_cons de_str (da_cons de_dict0 da_nil))))))))))) (blkOk_by (N := N_law) (sc := defScope s_law) (by decide +kernel)) (gw_name (by decide)) (fun _ _ _ _ _ => pg_name (i := 14) nd rfl (Or.inl rfl)) (fun _ _ _ _ _ => (dts_one (dt_cmp (OpR_or (or_ownIn G_Rhythm___contains__ (hr.mono (by decide)) B_Rhythm___contains__ (passes_F takes0) T.meth_Rhythm___contains__.at_ T.meth_Rhythm___contains__.fn) op_in_seq) (od_or (od_ownIn false (congrFun hcad "Rhythm")) (od_in false hK)) (de_var 14 (pv 14)) (de_var 4 (pv 4)) (by rfl)))) (fun _ _ _ _ _ => (de_var 14 (pv 14)))) (de_lst da_nil) (by rfl)) (dss_one (ds_ret de_bl)) dss_nil)
    (dss_one (ds_if (dt_cmp (op_neD hr.units) (od_ne hK) (de_callB (call_repr hgd (u70 hr)) (cd_repr hK) rfl T.free_repr (by decide +kernel) (da_cons (de_lst (da_cons (de_prop (congrFun hcad "Rhythm") (de_var 4 (pv 4)) T.cls_Rhythm T.prop_Rhythm_size G_Rhythm_size (hr.mono (by decide)) B_Rhythm_size) (da_cons (de_prop (congrFun hcad "Rhythm") (de_var 4 (pv 4)) T.cls_Rhythm T.prop_Rhythm_rests G_Rhythm_rests (hr.mono (by decide)) B_Rhythm_rests) (da_cons (de_prop (congrFun hcad "Rhythm") (de_var 5 (pv 5)) T.cls_Rhythm T.prop_Rhythm_size G_Rhythm_size (hr.mono (by decide)) B_Rhythm_size) (da_cons (de_prop (congrFun hcad "Rhythm") (de_var 5 (pv 5)) T.cls_Rhythm T.prop_Rhythm_rests G_Rhythm_rests (hr.mono (by decide)) B_Rhythm_rests) da_nil))))) da_nil)) (de_var 7 (pv 7)) (by rfl)) (dss_one (ds_ret de_bl)) dss_nil))))))))))))))))))
    (dss_cons (ds_asg (de_lc (own := [("_law_size", 8)]) (g := gName 8) rfl nd (di_seq hK (de_call G__law_pick tk (hr.mono (by decide)) rfl T.glo__law_pick F__law_pick.kp B__law_pick .nil DfR.nil (da_cons (de_var 1 (pv 1)) (da_cons (de_lst (da_cons (de_tup (da_cons de_int (da_cons de_int da_nil))) (da_cons (de_tup (da_cons de_int (da_cons de_int da_nil))) (da_cons (de_tup (da_cons de_int (da_cons de_int da_nil))) (da_cons (de_tup (da_cons de_int (da_cons de_int da_nil))) (da_cons (de_tup (da_cons de_int (da_cons de_int da_nil))) da_nil)))))) da_nil)))) (blkOk_by (N := N_law) (sc := defScope s_law) (by decide +kernel)) (gw_name (by decide)) (fun _ _ _ _ _ => pg_name (i := 8) nd rfl (Or.inl rfl)) (fun _ _ _ _ _ => dts_nil) (fun _ _ _ _ _ => (de_make (congrFun hcad "Rhythm") T.mk_Rhythm G_Rhythm___init__ takes0 (hr.mono (by decide)) rfl T.glo_Rhythm B_Rhythm___init__ .nil DfR.nil (da_cons (de_var 8 (pv 8)) (da_cons (de_lst (da_cons de_int da_nil)) da_nil))))) (dg_name 15 (pg_name (i := 15) nd rfl (.inr rfl))))
    (dss_cons (ds_asg (de_cmp op_gt od_gt (de_call G__law_lcm tk (hr.mono (by decide)) rfl T.glo__law_lcm F__law_lcm.kp B__law_lcm .nil DfR.nil (da_cons (de_prop (congrFun hcad "Rhythm") (de_ix ix_seq (od_ix hK) (de_var 15 (pv 15)) de_int (fun _ _ => rfl)) T.cls_Rhythm T.prop_Rhythm_size G_Rhythm_size (hr.mono (by decide)) B_Rhythm_size) (da_cons (de_prop (congrFun hcad "Rhythm") (de_ix ix_seq (od_ix hK) (de_var 15 (pv 15)) de_int (fun _ _ => rfl)) T.cls_Rhythm T.prop_Rhythm_size G_Rhythm_size (hr.mono (by decide)) B_Rhythm_size) da_nil))) de_int (by rfl)) (dg_name 16 (pg_name (i := 16) nd rfl (.inl rfl))))
    (dss_cons (ds_own (da_cons (de_lam 0 LF rfl TB rfl (tlN_mem (by decide)) (tlN_u ndT (by decide)) tabW_draw rfl (LamX.lamS_by (sc := defScope s_law) (by decide +kernel))) da_nil) (pg_name (i := 17) nd rfl (.inl rfl)))
    (dss_cons (ds_app (pv 17) (de_lam 1 LF rfl TB rfl (tlN_mem (by decide)) (tlN_u ndT (by decide)) tabW_draw rfl (LamX.lamS_by (sc := defScope s_law) (by decide +kernel))))
    (dss_cons (ds_app (pv 17) (de_lam 2 LF rfl TB rfl (tlN_mem (by decide)) (tlN_u ndT (by decide)) tabW_draw rfl (LamX.lamS_by (sc := defScope s_law) (by decide +kernel))))
    (dss_cons (ds_fz (ds_asg (de_call G__law_pick tk (hr.mono (by decide)) rfl T.glo__law_pick F__law_pick.kp B__law_pick .nil DfR.nil (da_cons (de_var 1 (pv 1)) (da_cons (de_lst (da_cons (de_tup (da_cons de_int (da_cons de_int da_nil))) (da_cons (de_tup (da_cons de_int (da_cons de_int da_nil))) (da_cons (de_tup (da_cons de_int (da_cons de_int da_nil))) (da_cons (de_tup (da_cons de_int (da_cons de_int da_nil))) da_nil))))) da_nil))) (dg_name 18 (pg_name (i := 18) nd rfl (.inl rfl)))))
    (dss_cons (ds_asg (de_lst (da_cons (de_meth (congrFun hcad "Rhythm") (de_make (congrFun hcad "Rhythm") T.mk_Rhythm G_Rhythm___init__ tk (hr.mono (by decide)) rfl T.glo_Rhythm B_Rhythm___init__ .nil DfR.nil (da_cons (de_ix ix_seq (od_ix hK) (de_var 18 (pv 18)) de_int (fun _ _ => rfl)) (da_cons (de_lst (da_cons de_int da_nil)) da_nil))) T.cls_Rhythm T.meth_Rhythm_within G_Rhythm_within tk (hr.mono (by decide)) B_Rhythm_within .nil DfR.nil (da_cons (de_make (congrFun hcad "Rhythm") T.mk_Rhythm G_Rhythm___init__ tk (hr.mono (by decide)) rfl T.glo_Rhythm B_Rhythm___init__ .nil DfR.nil (da_cons (de_ix ix_seq (od_ix hK) (de_var 18 (pv 18)) de_int (fun _ _ => rfl)) (da_cons (de_lst (da_cons de_int da_nil)) da_nil))) da_nil)) (da_cons (de_meth (congrFun hcad "Rhythm") (de_make (congrFun hcad "Rhythm") T.mk_Rhythm G_Rhythm___init__ tk (hr.mono (by decide)) rfl T.glo_Rhythm B_Rhythm___init__ .nil DfR.nil (da_cons (de_ix ix_seq (od_ix hK) (de_var 18 (pv 18)) de_int (fun _ _ => rfl)) (da_cons (de_lst da_nil) da_nil))) T.cls_Rhythm T.meth_Rhythm_within G_Rhythm_within tk (hr.mono (by decide)) B_Rhythm_within .nil DfR.nil (da_cons (de_make (congrFun hcad "Rhythm") T.mk_Rhythm G_Rhythm___init__ tk (hr.mono (by decide)) rfl T.glo_Rhythm B_Rhythm___init__ .nil DfR.nil (da_cons (de_ix ix_seq (od_ix hK) (de_var 18 (pv 18)) de_int (fun _ _ => rfl)) (da_cons (de_lst (da_cons de_int da_nil)) da_nil))) da_nil)) da_nil))) (dg_name 19 (pg_name (i := 19) nd rfl (.inl rfl))))
    (dss_cons (ds_if (dt_cmp (op_neD hr.units) (od_ne hK) (de_callB (call_repr hgd (u70 hr)) (cd_repr hK) rfl T.free_repr (by decide +kernel) (da_cons (de_var 19 (pv 19)) da_nil)) (de_callB (call_repr hgd (u70 hr)) (cd_repr hK) rfl T.free_repr (by decide +kernel) (da_cons (de_lst (da_cons (de_cmp (op_eqD hr.units) (od_eq hK) (de_op op_mod od_mod (de_ix ix_seq (od_ix hK) (de_var 18 (pv 18)) de_int (fun _ _ => rfl)) (de_ix ix_seq (od_ix hK) (de_var 18 (pv 18)) de_int (fun _ _ => rfl))) de_int (by rfl)) (da_cons de_bl da_nil))) da_nil)) (by rfl)) (dss_one (ds_ret de_bl)) dss_nil)
    (dss_cons (ds_for (passes_of rfl) rfl (di_seq hK (de_var 17 (pv 17))) (dg_name 20 (pg_name (i := 20) nd rfl (.inl rfl))) (dss_cons (ds_asg (de_cauV (SE := He.ga K "SeriesError") (a := "_law_work") (Ng := N__law_caught) (k := 5) LF LO F__law_caught sc__law_caught B__law_caught rfl T.glo__law_caught rfl (.inl rfl) (fun cdv => keep_gives (a := "_law_work") (m := "_law_found") (n := "_law_error") (e := "SeriesError") (by decide) rfl rfl T.glo_SeriesError rfl rfl rfl rfl rfl rfl rfl (fun _ => rfl) (fun _ => rfl) (fun _ _ => rfl) (fun _ _ => rfl) (fun _ => rfl)) tabW_draw T.exm_SeriesError (hr.mono (by decide)) (de_var 20 (pv 20))) (dg_name 21 (pg_name (i := 21) nd rfl (.inl rfl))))
    (dss_one (ds_if (PW.pt (dw_or (dt_cmp (op_neD hr.units) (od_ne hK) (de_cmp op_notN od_notX (de_var 21 (pv 21)) de_non (by rfl)) (de_var 16 (pv 16)) (by rfl)) (dw_or1 (PW.pt (dw_and (dt_val (de_var 16 (pv 16))) (dw_and1 (PW.pt (dw_or (dt_not (dt_val (de_isiX hK (T.kit_xty_BadRhythm hCK hcad) (T.kx_BadRhythm hCK hcad) (.own _) (de_var 21 (pv 21)) (pe_glob rfl T.glo_BadRhythm rfl) rfl T.free_isinstance))) (dw_or1 (dt_cmp (op_neD hr.units) (od_ne hK) (de_xf hK (xf_cast hCK hcad T.xf_part) (de_var 21 (pv 21))) de_str (by rfl))))))))))) (dss_one (ds_ret de_bl)) dss_nil))))
    (dss_one (ds_ret de_bl))))))))))))
  refine ⟨_, pss_cons (ps_asg (pe_call G__law_begun (hr.mono (by decide)) rfl T.glo__law_begun F__law_begun.kp B__law_begun .nil (passes_F tk0) (pa_cons (pv 0) pa_nil)) (pg_name (i := 1) nd rfl (.inl rfl))) (pss_restL (rd := rd_law cs) hrest), law_ofL rfl hs hl hT hq fun cells st => ?_⟩
  obtain ⟨f, s', e, rfl⟩ := law_yes (cs := cs) (by decide +kernel) cells ns st
  exact ⟨s', e⟩
theorem txt_of {K : PySem.W.Frag} {h : Heap} {mg : Str → Option Value} (X : K.In h) (G : h.Ns mainGlobals mg) (c : SaysB fbs fns K) : Txt K mg := ⟨
  He.cls_ok (c.fact 0),
  exmB_ok (c.fact 1),
  c.fact 2,
  He.free_ok X G (c.fact 3),
  He.free_ok X G (c.fact 4),
  He.free_ok X G (c.fact 5),
  He.free_ok X G (c.fact 6),
  He.free_ok X G (c.fact 7),
  He.free_ok X G (c.fact 8),
  He.free_ok X G (c.fact 9),
  He.free_ok X G (c.fact 10),
  He.free_ok X G (c.fact 11),
  He.free_ok X G (c.fact 12),
  He.free_ok X G (c.fact 13),
  He.free_ok X G (c.fact 14),
  He.free_ok X G (c.fact 15),
  He.glo_ok X G (c.fact 16),
  He.glo_ok X G (c.fact 17),
  He.glo_ok X G (c.fact 18),
  He.glo_ok X G (c.fact 19),
  He.glo_ok X G (c.fact 20),
  He.glo_ok X G (c.fact 21),
  He.glo_ok X G (c.fact 22),
  He.glo_ok X G (c.fact 23),
  He.glo_ok X G (c.fact 24),
  He.glo_ok X G (c.fact 25),
  He.glo_ok X G (c.fact 26),
  He.glo_ok X G (c.fact 27),
  He.glo_ok X G (c.fact 28),
  He.glo_ok X G (c.fact 29),
  He.glo_ok X G (c.fact 30),
  He.glo_ok X G (c.fact 31),
  He.glo_ok X G (c.fact 32),
  He.glo_ok X G (c.fact 33),
  He.glo_ok X G (c.fact 34),
  someB_ok (c.fact 35),
  someB_ok (c.fact 36),
  He.eqO_ok (c.fact 37),
  He.int_ok X G (c.fact 38),
  of_decide_eq_true (c.fact 39),
  He.meth_ok (c.fact 40),
  He.meth_ok (c.fact 41),
  He.meth_ok (c.fact 42),
  He.meth_ok (c.fact 43),
  He.meth_ok (c.fact 44),
  He.meth_ok (c.fact 45),
  He.mkr_ok (c.fact 46),
  He.noat_ok (c.fact 47),
  oexB_ok (c.fact 48),
  He.eqO_ok (c.fact 49),
  He.eqO_ok (c.fact 50),
  He.eqO_ok (c.fact 51),
  He.eqO_ok (c.fact 52),
  propB_ok (c.fact 53),
  propB_ok (c.fact 54),
  He.eqO_ok (c.fact 55),
  of_decide_eq_true (c.fact 56),
  xfB_ok (c.fact 57),
  He.eqO_ok (c.fact 58),
  fun {S C} h1 h2 => by subst h1; rw [h2]; exact kxB_ok (c.fact 60) (c.fact 59) (by decide +kernel) (by decide +kernel),
  fun {S C} h1 h2 => by subst h1; rw [h2]; exact kitB_ok (c.fact 62) (c.fact 61) (by decide +kernel) (kit_own (by decide +kernel)),
  fun {S C} h1 h2 => by subst h1; rw [h2]; exact kitB_ok (c.fact 63) (c.fact 61) (by decide +kernel) (kit_own (by decide +kernel)),
  fun {S C} h1 h2 => by subst h1; rw [h2]; exact kitB_ok (c.fact 64) (c.fact 61) (by decide +kernel) (kit_own (by decide +kernel)),
  fun {S C} h1 h2 => by subst h1; rw [h2]; exact kitB_ok (c.fact 65) (c.fact 61) (by decide +kernel) (kit_own (by decide +kernel)),
  fun {S C} h1 h2 => by subst h1; rw [h2]; exact kitB_ok (c.fact 66) (c.fact 61) (by decide +kernel) (kit_own (by decide +kernel))⟩
theorem facts {P : Program} {w : World} {K : PySem.W.Frag} {h : Heap} {mg : Str → Option Value} {f : Addr} (X : K.In h) (G : h.Ns mainGlobals mg) (hfa : mg ("law" : Str) = some (.ref f)) (c : SaysBN fbs fns txs h K) :
    ∃ fd : FuncData, (∀ (s : Shared) (v : Value), BindsTo s fd ⟨[v], []⟩ [("_law_script", v)]) ∧ ∀ base : Heap, K.In base → base.Ns mainGlobals mg → (∀ p ∈ txs.map (cTn K), LamX.TabB base mg p.1 p.2) → FnG P w K mg base (L2.CX P w) 8 f fd ["_law_script"] (spLawT K (TlN K txs)) := by
  obtain ⟨c, _, _, _, ndT⟩ := c
  have T := txt_of X G c
  obtain ⟨fd__law_mixed, F__law_mixed⟩ := c.fun_ 0 (a := fun K => (He.ga K "_law_mixed")) (x := "_law_mixed") (qual := "_law_mixed") (st := s__law_mixed) rfl
  obtain ⟨fd__law_take, F__law_take⟩ := c.fun_ 1 (a := fun K => (He.ga K "_law_take")) (x := "_law_take") (qual := "_law_take") (st := s__law_take) rfl
  obtain ⟨fd__law_pick, F__law_pick⟩ := c.fun_ 2 (a := fun K => (He.ga K "_law_pick")) (x := "_law_pick") (qual := "_law_pick") (st := s__law_pick) rfl
  obtain ⟨fd__law_any_rhythm, F__law_any_rhythm⟩ := c.fun_ 3 (a := fun K => (He.ga K "_law_any_rhythm")) (x := "_law_any_rhythm") (qual := "_law_any_rhythm") (st := s__law_any_rhythm) rfl
  obtain ⟨fd_is_number, F_is_number⟩ := c.fun_ 4 (a := fun K => (He.ga K "is_number")) (x := "is_number") (qual := "is_number") (st := s_is_number) rfl
  obtain ⟨fd_is_list, F_is_list⟩ := c.fun_ 5 (a := fun K => (He.ga K "is_list")) (x := "is_list") (qual := "is_list") (st := s_is_list) rfl
  obtain ⟨fd_are_different, F_are_different⟩ := c.fun_ 6 (a := fun K => (He.ga K "are_different")) (x := "are_different") (qual := "are_different") (st := s_are_different) rfl
  obtain ⟨fd_repeats, F_repeats⟩ := c.fun_ 7 (a := fun K => (He.ga K "repeats")) (x := "repeats") (qual := "repeats") (st := s_repeats) rfl
  obtain ⟨fd_least_form, F_least_form⟩ := c.fun_ 8 (a := fun K => (He.ga K "least_form")) (x := "least_form") (qual := "least_form") (st := s_least_form) rfl
  obtain ⟨fd_Rhythm___init__, F_Rhythm___init__⟩ := c.fun_ 9 (a := fun K => (He.ma K (He.ga K "Rhythm") "__init__")) (x := "__init__") (qual := "Rhythm.__init__") (st := s_Rhythm___init__) rfl
  obtain ⟨fd_Rhythm_size, F_Rhythm_size⟩ := c.fun_ 10 (a := fun K => (He5.wf K (He.ga K "Rhythm") "property" "size")) (x := "size") (qual := "Rhythm.size") (st := s_Rhythm_size) rfl
  obtain ⟨fd_Rhythm_rests, F_Rhythm_rests⟩ := c.fun_ 11 (a := fun K => (He5.wf K (He.ga K "Rhythm") "property" "rests")) (x := "rests") (qual := "Rhythm.rests") (st := s_Rhythm_rests) rfl
  obtain ⟨fd__law_lcm, F__law_lcm⟩ := c.fun_ 12 (a := fun K => (He.ga K "_law_lcm")) (x := "_law_lcm") (qual := "_law_lcm") (st := s__law_lcm) rfl
  obtain ⟨fd__law_has, F__law_has⟩ := c.fun_ 13 (a := fun K => (He.ga K "_law_has")) (x := "_law_has") (qual := "_law_has") (st := s__law_has) rfl
  obtain ⟨fd__law_least, F__law_least⟩ := c.fun_ 14 (a := fun K => (He.ga K "_law_least")) (x := "_law_least") (qual := "_law_least") (st := s__law_least) rfl
  obtain ⟨fd__law_is_made, F__law_is_made⟩ := c.fun_ 15 (a := fun K => (He.ga K "_law_is_made")) (x := "_law_is_made") (qual := "_law_is_made") (st := s__law_is_made) rfl
  obtain ⟨fd_common, F_common⟩ := c.fun_ 16 (a := fun K => (He.ga K "common")) (x := "common") (qual := "common") (st := s_common) rfl
  obtain ⟨fd_Rhythm___contains__, F_Rhythm___contains__⟩ := c.fun_ 17 (a := fun K => (He.ma K (He.ga K "Rhythm") "__contains__")) (x := "__contains__") (qual := "Rhythm.__contains__") (st := s_Rhythm___contains__) rfl
  obtain ⟨fd_Rhythm___or__, F_Rhythm___or__⟩ := c.fun_ 18 (a := fun K => (He.ma K (He.ga K "Rhythm") "__or__")) (x := "__or__") (qual := "Rhythm.__or__") (st := s_Rhythm___or__) rfl
  obtain ⟨fd_Rhythm___and__, F_Rhythm___and__⟩ := c.fun_ 19 (a := fun K => (He.ma K (He.ga K "Rhythm") "__and__")) (x := "__and__") (qual := "Rhythm.__and__") (st := s_Rhythm___and__) rfl
  obtain ⟨fd_Rhythm___sub__, F_Rhythm___sub__⟩ := c.fun_ 20 (a := fun K => (He.ma K (He.ga K "Rhythm") "__sub__")) (x := "__sub__") (qual := "Rhythm.__sub__") (st := s_Rhythm___sub__) rfl
  obtain ⟨fd_Rhythm_within, F_Rhythm_within⟩ := c.fun_ 21 (a := fun K => (He.ma K (He.ga K "Rhythm") "within")) (x := "within") (qual := "Rhythm.within") (st := s_Rhythm_within) rfl
  obtain ⟨fd_Rhythm___rshift__, F_Rhythm___rshift__⟩ := c.fun_ 22 (a := fun K => (He.ma K (He.ga K "Rhythm") "__rshift__")) (x := "__rshift__") (qual := "Rhythm.__rshift__") (st := s_Rhythm___rshift__) rfl
  obtain ⟨fd_BadRhythm___init__, F_BadRhythm___init__⟩ := c.fun_ 23 (a := fun K => (He.ma K (He.ga K "BadRhythm") "__init__")) (x := "__init__") (qual := "BadRhythm.__init__") (st := s_BadRhythm___init__) rfl
  obtain ⟨fd_Rhythm___init__X, F_Rhythm___init__X⟩ := c.fun_ 9 (a := fun K => (He.ma K (He.ga K "Rhythm") "__init__")) (x := "__init__") (qual := "Rhythm.__init__") (st := s_Rhythm___init__X) rfl
  obtain ⟨fd_Rhythm___or__X, F_Rhythm___or__X⟩ := c.fun_ 18 (a := fun K => (He.ma K (He.ga K "Rhythm") "__or__")) (x := "__or__") (qual := "Rhythm.__or__") (st := s_Rhythm___or__X) rfl
  obtain ⟨fd_Rhythm___and__X, F_Rhythm___and__X⟩ := c.fun_ 19 (a := fun K => (He.ma K (He.ga K "Rhythm") "__and__")) (x := "__and__") (qual := "Rhythm.__and__") (st := s_Rhythm___and__X) rfl
  obtain ⟨fd_Rhythm___sub__X, F_Rhythm___sub__X⟩ := c.fun_ 20 (a := fun K => (He.ma K (He.ga K "Rhythm") "__sub__")) (x := "__sub__") (qual := "Rhythm.__sub__") (st := s_Rhythm___sub__X) rfl
  obtain ⟨fd__law_caught, F__law_caught⟩ := c.fun_ 24 (a := fun K => (He.ga K "_law_caught")) (x := "_law_caught") (qual := "_law_caught") (st := s__law_caught) rfl
  obtain ⟨fd__law_begun, F__law_begun⟩ := c.fun_ 25 (a := fun K => (He.ga K "_law_begun")) (x := "_law_begun") (qual := "_law_begun") (st := s__law_begun) rfl
  obtain ⟨fd_law, D_law⟩ := c.def_ 26 (d := defA (fun K => (He.ga K "law")) "law" "law" s_law) rfl
  have F_law : Fun K "law" "law" s_law (He.ga K "law") fd_law := He5.fun_of D_law
  have e := hfa.symm.trans (He.glo_ok X G (c.fact 67))
  cases e
  have B__law_mixed : Binds K fd__law_mixed ["_law_draw"] [] := F__law_mixed.binds fun _ _ _ _ _ _ us hl => match us, hl with | [_], _ => rfl
  have B__law_take : Binds K fd__law_take ["_law_draw", "_law_many"] [] := F__law_take.binds fun _ _ _ _ _ _ us hl => match us, hl with | [_, _], _ => rfl
  have B__law_pick : Binds K fd__law_pick ["_law_draw", "_law_some"] [] := F__law_pick.binds fun _ _ _ _ _ _ us hl => match us, hl with | [_, _], _ => rfl
  have B__law_any_rhythm : Binds K fd__law_any_rhythm ["_law_draw"] [] := F__law_any_rhythm.binds fun _ _ _ _ _ _ us hl => match us, hl with | [_], _ => rfl
  have B_is_number : Binds K fd_is_number ["thing"] [] := F_is_number.binds fun _ _ _ _ _ _ us hl => match us, hl with | [_], _ => rfl
  have B_is_list : Binds K fd_is_list ["thing"] [] := F_is_list.binds fun _ _ _ _ _ _ us hl => match us, hl with | [_], _ => rfl
  have B_are_different : Binds K fd_are_different ["thing", "least", "most"] [] := F_are_different.binds fun _ _ _ _ _ _ us hl => match us, hl with | [_, _, _], _ => rfl
  have B_repeats : Binds K fd_repeats ["size", "rests", "part"] [] := F_repeats.binds fun _ _ _ _ _ _ us hl => match us, hl with | [_, _, _], _ => rfl
  have B_least_form : Binds K fd_least_form ["size", "rests"] [] := F_least_form.binds fun _ _ _ _ _ _ us hl => match us, hl with | [_, _], _ => rfl
  have B_Rhythm___init__ : Binds K fd_Rhythm___init__ ["self", "size", "rests"] [] := F_Rhythm___init__.binds fun _ _ _ _ _ _ us hl => match us, hl with | [_, _, _], _ => rfl
  have B_Rhythm_size : Binds K fd_Rhythm_size ["self"] [] := F_Rhythm_size.binds fun _ _ _ _ _ _ us hl => match us, hl with | [_], _ => rfl
  have B_Rhythm_rests : Binds K fd_Rhythm_rests ["self"] [] := F_Rhythm_rests.binds fun _ _ _ _ _ _ us hl => match us, hl with | [_], _ => rfl
  have B__law_lcm : Binds K fd__law_lcm ["_law_one", "_law_due_one"] [] := F__law_lcm.binds fun _ _ _ _ _ _ us hl => match us, hl with | [_, _], _ => rfl
  have B__law_has : Binds K fd__law_has ["_law_rhythm", "_law_day"] [] := F__law_has.binds fun _ _ _ _ _ _ us hl => match us, hl with | [_, _], _ => rfl
  have B__law_least : Binds K fd__law_least ["_law_rhythm"] [] := F__law_least.binds fun _ _ _ _ _ _ us hl => match us, hl with | [_], _ => rfl
  have B__law_is_made : Binds K fd__law_is_made ["_law_told", "_law_days", "_law_size"] [] := F__law_is_made.binds fun _ _ _ _ _ _ us hl => match us, hl with | [_, _, _], _ => rfl
  have B_common : Binds K fd_common ["one", "other"] [] := F_common.binds fun _ _ _ _ _ _ us hl => match us, hl with | [_, _], _ => rfl
  have B_Rhythm___contains__ : Binds K fd_Rhythm___contains__ ["self", "day"] [] := F_Rhythm___contains__.binds fun _ _ _ _ _ _ us hl => match us, hl with | [_, _], _ => rfl
  have B_Rhythm___or__ : Binds K fd_Rhythm___or__ ["self", "other"] [] := F_Rhythm___or__.binds fun _ _ _ _ _ _ us hl => match us, hl with | [_, _], _ => rfl
  have B_Rhythm___and__ : Binds K fd_Rhythm___and__ ["self", "other"] [] := F_Rhythm___and__.binds fun _ _ _ _ _ _ us hl => match us, hl with | [_, _], _ => rfl
  have B_Rhythm___sub__ : Binds K fd_Rhythm___sub__ ["self", "other"] [] := F_Rhythm___sub__.binds fun _ _ _ _ _ _ us hl => match us, hl with | [_, _], _ => rfl
  have B_Rhythm_within : Binds K fd_Rhythm_within ["self", "other"] [] := F_Rhythm_within.binds fun _ _ _ _ _ _ us hl => match us, hl with | [_, _], _ => rfl
  have B_Rhythm___rshift__ : Binds K fd_Rhythm___rshift__ ["self", "number"] [] := F_Rhythm___rshift__.binds fun _ _ _ _ _ _ us hl => match us, hl with | [_, _], _ => rfl
  have B_BadRhythm___init__ : Binds K fd_BadRhythm___init__ ["self", "part"] [] := F_BadRhythm___init__.binds fun _ _ _ _ _ _ us hl => match us, hl with | [_, _], _ => rfl
  have B_Rhythm___init__X : Binds K fd_Rhythm___init__X ["self", "size", "rests"] [] := F_Rhythm___init__X.binds fun _ _ _ _ _ _ us hl => match us, hl with | [_, _, _], _ => rfl
  have B_Rhythm___or__X : Binds K fd_Rhythm___or__X ["self", "other"] [] := F_Rhythm___or__X.binds fun _ _ _ _ _ _ us hl => match us, hl with | [_, _], _ => rfl
  have B_Rhythm___and__X : Binds K fd_Rhythm___and__X ["self", "other"] [] := F_Rhythm___and__X.binds fun _ _ _ _ _ _ us hl => match us, hl with | [_, _], _ => rfl
  have B_Rhythm___sub__X : Binds K fd_Rhythm___sub__X ["self", "other"] [] := F_Rhythm___sub__X.binds fun _ _ _ _ _ _ us hl => match us, hl with | [_, _], _ => rfl
  have B__law_caught : Binds K fd__law_caught ["_law_work"] [] := F__law_caught.binds fun _ _ _ _ _ _ us hl => match us, hl with | [_], _ => rfl
  have B__law_begun : Binds K fd__law_begun ["_law_script"] [] := F__law_begun.binds fun _ _ _ _ _ _ us hl => match us, hl with | [_], _ => rfl
  have KB_Rhythm_within_other : KwB K fd_Rhythm_within ["self", "other"] 1 ["other"] [0] := kwB_of F_Rhythm_within fun _ _ _ _ _ _ us ws h1 h2 => match us, h1, ws, h2 with | [_], _, [_], _ => rfl
  have b := FunD.bindsA (ps := ["_law_script"]) D_law fun _ _ _ _ _ _ us hl => match us, hl with | [_], _ => rfl
  exact ⟨fd_law, fun s v => b s [v] rfl, fun base _ _ TBn => dd_law T F_law (code_ofN F_law) ndT TBn F__law_mixed B__law_mixed F__law_take B__law_take F__law_pick B__law_pick F__law_any_rhythm B__law_any_rhythm F_is_number B_is_number F_is_list B_is_list F_are_different B_are_different F_repeats B_repeats F_least_form B_least_form F_Rhythm___init__ B_Rhythm___init__ F_Rhythm_size B_Rhythm_size F_Rhythm_rests B_Rhythm_rests F__law_lcm B__law_lcm F__law_has B__law_has F__law_least B__law_least F__law_is_made B__law_is_made F_common B_common F_Rhythm___contains__ B_Rhythm___contains__ F_Rhythm___or__ B_Rhythm___or__ F_Rhythm___and__ B_Rhythm___and__ F_Rhythm___sub__ B_Rhythm___sub__ F_Rhythm_within B_Rhythm_within F_Rhythm___rshift__ B_Rhythm___rshift__ F_BadRhythm___init__ B_BadRhythm___init__ F_Rhythm___init__X B_Rhythm___init__X F_Rhythm___or__X B_Rhythm___or__X F_Rhythm___and__X B_Rhythm___and__X F_Rhythm___sub__X B_Rhythm___sub__X F__law_caught B__law_caught F__law_begun B__law_begun KB_Rhythm_within_other⟩
end DL
open PySem PySem.W PySem.Calls PyProof.Rows
set_option maxHeartbeats 0 in
theorem PySem.Challenge.cw_stillstruck_k03_rhythms_as_sets_holds : PySem.Challenge.rw_stillstruck_k03_rhythms_as_sets.Holds := by
  w_on; o_law
  refine HandSHeadRun.head_any (r := OpenLaw.row PySem.Challenge.rw_stillstruck_k03_rhythms_as_sets) (q := view (OpenLaw.row PySem.Challenge.rw_stillstruck_k03_rhythms_as_sets).prog [24]) (H := DL.hk) (ob := DL.ob) (M := 20000) (loose := DL.loose) (d := HandSHeadRun.topDef (OpenLaw.row PySem.Challenge.rw_stillstruck_k03_rhythms_as_sets).prog 24) (kwd := []) DL.ob_eq
    (by kernel_rfl) (fun s => by kernel_rfl) DL.run (by kernel_rfl) (by kernel_rfl) (by kernel_rfl) (by rfl) (by first | assumption | decide +kernel) (by decide +kernel) ⟨rfl, rfl, rfl, rfl, rfl, by decide +kernel⟩ ?hw ?hc
  case hw => w_witness2
  case hc =>
    refine DL.walk_ofGN (l := PySem.Challenge.rw_stillstruck_k03_rhythms_as_sets) (n := 63) (k := 8) (x := "_law_script") rfl (by decide) (by kernel_rfl) ⟨rfl, by decide, by decide⟩ ?F
    intro w mg fa h Y G hmg0
    obtain ⟨K, KX, c⟩ := Y
    have hmg : mg ("law" : PySem.Str) = some (.ref fa) := by
      have e : (HandSHeadRun.topDef (OpenLaw.row PySem.Challenge.rw_stillstruck_k03_rhythms_as_sets).prog 24).name = ("law" : PySem.Str) := by kernel_rfl
      rw [← e]
      exact hmg0
    obtain ⟨fd, hb, hF⟩ := DL.facts (P := (PySem.Challenge.rw_stillstruck_k03_rhythms_as_sets).prog) (w := w) KX G hmg c
    exact ⟨K, fd, DL.txs.map (DL.cTn K), DL.spLawT K (DL.TlN K DL.txs), KX, c.t1, c.t2, c.t3 KX, hb, fun H a ns hl hHT hS => ⟨a, ns, rfl, hS, by omega, DL.tlN_nil (fun x hx => hHT _ (List.mem_map.mpr ⟨x, hx, rfl⟩)), fun _ => rfl⟩, hF⟩
