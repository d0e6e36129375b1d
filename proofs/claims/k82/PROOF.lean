import PyProof.Rows.All
import HandS.Conv
import HandS.Deep
import HandS.Defaults
import HandS.Dict
import HandS.EndTab
import HandS.ExcField
import HandS.ExcInit
import HandS.ExcIs
import HandS.ExcOwn
import HandS.ForExc
import HandS.ForMost
import HandS.Head0
import HandS.Head1
import HandS.Head2
import HandS.HeadEnd
import HandS.HeadHook1
import HandS.HeadHook2
import HandS.HeadWalk
import HandS.IsInst
import HandS.List
import HandS.MakeKw
import HandS.Property
import HandS.RaiseMore
import HandS.SetFor
import HandS.SetKeys
import HandS.SortInts
import HandS.Strs
import HandS.TupAny
import HandS.TupLe
import HandS.TupLen
import HandS.TupMul
import HandS.Walk
import HandS.Wide
import HandS.Zip
import KE.DataCmp
import KE.GoesEnum
import KE.KDictDisplayH
import KE.KDictKeyed
import KE.KExcIs
import KE.KStateDown
import KE.KeyNested
import OpenK.AllK
import PyProof.EqLayable
import PyProof.ExcBaseAll.ValueError
import PyProof.P3Statements
import PyProof.ReprLen
import PyProof.ReprReads
import PyProof.ReprRoads
import PyProof.Rows.TupDisplay
import PySem.PyData
import PySem.Syntax
import Wide.All
import Wide.FinOn
import PySem.Challenge.RW_arrivesalike_k82_logs_by_their_numbers
set_option Elab.async false
set_option linter.all false
set_option maxRecDepth 100000
set_option maxHeartbeats 4000000
namespace AH
open PySem PySem.Spec PyProof.Rows L2 He
/-- a def with its address by a path -/
structure DefP where
  adr : PySem.W.Frag → Addr
  name : Str
  qual : Str
  params : Arguments
  body : List Stmt
  scope : Scope
def DefP.of (adr : PySem.W.Frag → Addr) (name qual : Str) (st : Stmt) : DefP := ⟨adr, name, qual, defArgs st, defBody st, defScope st⟩
def fnP (K : PySem.W.Frag) (a : Addr) : FnV := match K.lookup a with
  | some ⟨_, _, .func fd, _⟩ => some (fd.name, fd.qualname, fd.params, fd.body, fd.scope, fd.globals, fd.closure, fd.defaults, fd.builtins)
  | _ => none
def DefP.val (d : DefP) : FnV := some (d.name, d.qual, d.params, .stmts d.body, d.scope, mainGlobals, [], .none, builtinsNs)
def DefP.ok (K : PySem.W.Frag) (d : DefP) : Bool := PySem.W.keepIn K (.ref (d.adr K)) && (match K.lookup (d.adr K) with
  | some ⟨_, _, .func fd, _⟩ => PySem.W.codeIn K fd.code d.qual
  | _ => false)
structure FunP (K : PySem.W.Frag) (d : DefP) (f : Addr) (fd : FuncData) : Prop where
  ex : ∃ (oc : Value) (od : Option Addr) (kV doc pm : Value) (an : Option Addr) (cdv ct : Value) (osl : Array (Option Value)),
    fd = PySem.W.fnOf d.name d.qual d.params d.body d.scope .none kV doc pm an cdv ct ∧ K.lookup f = some ⟨oc, od, .func fd, osl⟩ ∧ PySem.W.codeIn K cdv d.qual = true
  kp : PySem.W.keepIn K (.ref f) = true
theorem DefP.funP {K : PySem.W.Frag} {d : DefP} (e : fnP K (d.adr K) = d.val) (c : d.ok K = true) : ∃ fd, FunP K d (d.adr K) fd := by
  obtain ⟨kp, c2⟩ := ba c
  unfold fnP at e
  cases q : K.lookup (d.adr K) with
  | none =>
    rw [q] at c2
    cases c2
  | some o =>
    obtain ⟨oc, od, dt, osl⟩ := o
    rw [q] at c2 e
    cases dt with
    | func fd =>
      obtain ⟨n1, n2, n3, n4, n5, n6, n7, n8, n9, n10, n11, n12, n13, n14, n15⟩ := fd
      have e2 : (some (n1, n2, n3, n4, n5, n6, n7, n8, n15) : FnV) = some (d.name, d.qual, d.params, .stmts d.body, d.scope, mainGlobals, [], .none, builtinsNs) := e
      simp only [Option.some.injEq, Prod.mk.injEq] at e2
      obtain ⟨h1, h2, h3, h4, h5, h6, h7, h8, h9⟩ := e2
      subst h1 h2 h3 h4 h5 h6 h7 h8 h9
      exact ⟨_, ⟨oc, od, n9, n10, n11, n12, n13, n14, osl, rfl, q, c2⟩, kp⟩
    | _ => cases c2
/-! properties -/
def prA (K : PySem.W.Frag) (C f : Str) : Addr := ma K (ga K C) f
def pgA (K : PySem.W.Frag) (C f : Str) : Addr := match PySem.W.recIn K (prA K C f) "property" with
  | some (.ref g :: _) => g
  | _ => 0
def propB (C f : Str) (K : PySem.W.Frag) : Bool := eqO (PySem.W.findIn K (.ref (ga K C)) f) (some (some (.ref (prA K C f)))) &&
  (eqO (PySem.W.specialIn K (.ref (prA K C f)) "__get__") (some (some (.builtin "property.__get__"))) && (decide (PySem.W.takesIn K (.ref (prA K C f)) = some true) &&
  (match PySem.W.recIn K (prA K C f) "property" with
   | some (.ref _ :: _) => true
   | _ => false)))
theorem propB_ok {C f : Str} {K : PySem.W.Frag} (h : propB C f K = true) : PropOf K (ga K C) f (prA K C f) (pgA K C f) := by
  obtain ⟨h1, h⟩ := ba h
  obtain ⟨h2, h⟩ := ba h
  obtain ⟨h3, h4⟩ := ba h
  refine ⟨eqO_ok h1, eqO_ok h2, of_decide_eq_true h3, ?_⟩
  unfold pgA
  revert h4
  split
  · rename_i g r e
    intro _
    rw [e]
    exact ⟨r, rfl⟩
  · intro z; cases z
/-! the hook -/
abbrev AlP : Type := Bool × List FnV
def obsP (fa : PySem.W.Frag → Bool) (fn : List DefP) (K : PySem.W.Frag) : AlP := (fa K && fn.all fun d => d.ok K, fn.map fun d => fnP K (d.adr K))
def valP (fn : List DefP) : AlP := (true, fn.map DefP.val)
def SaysP (fa : PySem.W.Frag → Bool) (fn : List DefP) (K : PySem.W.Frag) : Prop := obsP fa fn K = valP fn
def obsPG (n : Nat) (fa : PySem.W.Frag → Bool) (fn : List DefP) (g : Addr → Option Obj) : AlP := obsP fa fn (frG g (asD g n ++ [cStatics]))
def hookP (n : Nat) (fa : PySem.W.Frag → Bool) (fn : List DefP) : PySem.W.Hook where
  α := AlP
  obs := fun s => obsPG n fa fn s.heap.get?
  val := fun _ => valP fn
  says := fun _ h => ∃ K : PySem.W.Frag, K.In h ∧ SaysP fa fn K
  of := fun _ _ e => ⟨_, frG_in, e⟩
  keeps := fun _ _ _ ⟨K, hK, c⟩ k => ⟨K, PySem.W.Frag.In.keeps hK k, c⟩
theorem obsPG_eq {n : Nat} {fa : PySem.W.Frag → Bool} {fn : List DefP} {g : Addr → Option Obj} {s : Shared} (h : ∀ a, g a = s.heap.get? a) : obsPG n fa fn g = (hookP n fa fn).obs s := by
  have e : g = s.heap.get? := funext h
  rw [e] <;> rfl
section
variable {fa : PySem.W.Frag → Bool} {fn : List DefP} {K : PySem.W.Frag}
theorem SaysP.fact (c : SaysP fa fn K) : fa K = true := (ba (show (fa K && fn.all fun d => d.ok K) = true from congrArg (fun z : AlP => z.1) c)).1
theorem SaysP.def_ (c : SaysP fa fn K) (i : Nat) {d : DefP} (h : fn[i]? = some d := by rfl) : ∃ fd, FunP K d (d.adr K) fd := by
  have c2 := (ba (show (fa K && fn.all fun d => d.ok K) = true from congrArg (fun z : AlP => z.1) c)).2
  have e : fn.map (fun d => fnP K (d.adr K)) = fn.map DefP.val := congrArg (fun z : AlP => z.2) c
  have e2 : (fn.map fun d => fnP K (d.adr K))[i]? = (fn.map DefP.val)[i]? := by rw [e]
  rw [List.getElem?_map, List.getElem?_map, h] at e2
  exact DefP.funP (Option.some.inj e2) (List.all_eq_true.mp c2 d (List.mem_of_getElem? h))
end
end AH
/-! The abstract machine: values without addresses for tuples, a heap of lists and instances by number, an interpreter of a small core. -/
namespace AM
open PySem

inductive W where
  | non | bl (b : Bool) | int (i : Int) | str (s : Str) | tup (ws : List W) | loc (l : Nat) | exo (c : Nat) (xs : List Str) (ws : List W) | scr

mutual
def W.beq : W → W → Bool
  | .non, .non => true
  | .bl a, .bl b => a == b
  | .int i, .int j => i == j
  | .str x, .str y => decide (x = y)
  | .tup xs, .tup ys => W.beqs xs ys
  | .loc l, .loc m => l == m
  | .exo c fs xs, .exo d gs ys => c == d && decide (fs = gs) && W.beqs xs ys
  | .scr, .scr => true
  | _, _ => false
def W.beqs : List W → List W → Bool
  | [], [] => true
  | x :: xs, y :: ys => W.beq x y && W.beqs xs ys
  | _, _ => false
end
mutual
theorem W.eq_of_beq : ∀ (x y : W), W.beq x y = true → x = y
  | .non, y, h => by cases y <;> simp_all [W.beq]
  | .bl a, y, h => by cases y <;> simp_all [W.beq]
  | .int a, y, h => by cases y <;> simp_all [W.beq]
  | .str a, y, h => by cases y <;> simp_all [W.beq]
  | .loc a, y, h => by cases y <;> simp_all [W.beq]
  | .exo a b xs, y, h => by
    cases y with
    | exo c d ys =>
      simp only [W.beq, Bool.and_eq_true, beq_iff_eq, decide_eq_true_eq] at h
      rw [h.1.1, h.1.2, W.eqs_of_beqs xs ys h.2]
    | _ => simp [W.beq] at h
  | .scr, y, h => by cases y <;> simp_all [W.beq]
  | .tup xs, y, h => by
    cases y with
    | tup ys => rw [W.eqs_of_beqs xs ys (by simpa [W.beq] using h)]
    | _ => simp [W.beq] at h
theorem W.eqs_of_beqs : ∀ (xs ys : List W), W.beqs xs ys = true → xs = ys
  | [], [], _ => rfl
  | x :: xs, y :: ys, h => by
    simp only [W.beqs, Bool.and_eq_true] at h
    rw [W.eq_of_beq x y h.1, W.eqs_of_beqs xs ys h.2]
  | [], _ :: _, h => by simp [W.beqs] at h
  | _ :: _, [], h => by simp [W.beqs] at h
end
mutual
theorem W.beq_self : ∀ x : W, W.beq x x = true
  | .non | .bl _ | .int _ | .str _ | .loc _ | .scr => by simp [W.beq]
  | .exo _ _ xs => by simp [W.beq, W.beqs_self xs]
  | .tup xs => by simp [W.beq, W.beqs_self xs]
theorem W.beqs_self : ∀ xs : List W, W.beqs xs xs = true
  | [] => rfl
  | x :: xs => by simp [W.beqs, W.beq_self x, W.beqs_self xs]
end
instance : DecidableEq W := fun x y => if h : W.beq x y = true then isTrue (W.eq_of_beq x y h) else isFalse fun e => h (e ▸ W.beq_self x)

/-! no place of the heap within -/
mutual
def W.flat : W → Bool
  | .tup ws => W.flats ws
  | .loc _ => false
  | .exo _ _ _ => false
  | _ => true
def W.flats : List W → Bool
  | [] => true
  | w :: ws => W.flat w && W.flats ws
end
mutual
def W.shift (n : Nat) : W → W
  | .tup ws => .tup (W.shifts n ws)
  | .loc l => .loc (l + n)
  | w => w
def W.shifts (n : Nat) : List W → List W
  | [] => []
  | w :: ws => W.shift n w :: W.shifts n ws
end

inductive O where
  | lst (ws : List W)
  | ins (c : Nat) (fs : List (Str × W))
  | dic (kvs : List (W × W))
deriving DecidableEq
abbrev AH := List O
def O.shift (n : Nat) : O → O
  | .lst ws => .lst (W.shifts n ws)
  | .ins c fs => .ins c (fs.map fun p => (p.1, p.2.shift n))
  | .dic kvs => .dic (kvs.map fun p => (p.1.shift n, p.2.shift n))

inductive Res (α : Type) where
  | ok (a : α) (h : AH)
  | exc (c : Nat) (xs : List Str) (ws : List W) (h : AH)
  | stuck
def Res.bind {α β : Type} (r : Res α) (f : α → AH → Res β) : Res β := match r with
  | .ok a h => f a h
  | .exc c xs ws h => .exc c xs ws h
  | .stuck => .stuck
@[simp] theorem Res.bind_ok {α β : Type} (a : α) (h : AH) (f : α → AH → Res β) : (Res.ok a h).bind f = f a h := Eq.trans rfl rfl
@[simp] theorem Res.bind_exc {α β : Type} (c xs ws h) (f : α → AH → Res β) : (Res.exc c xs ws h : Res α).bind f = .exc c xs ws h := Eq.trans rfl rfl
@[simp] theorem Res.bind_stuck {α β : Type} (f : α → AH → Res β) : (Res.stuck : Res α).bind f = .stuck := Eq.trans rfl rfl

abbrev St := List (Option W)
inductive Out where
  | next (σ : St) (h : AH)
  | ret (w : W) (h : AH)
  | brk (σ : St) (h : AH)
  | cont (σ : St) (h : AH)
  | exc (c : Nat) (xs : List Str) (ws : List W) (σ : St) (h : AH)
  | stuck
def Out.seq (o : Out) (f : St → AH → Out) : Out := match o with
  | .next σ h => f σ h
  | o => o
@[simp] theorem Out.seq_next (σ h) (f : St → AH → Out) : (Out.next σ h).seq f = f σ h := Eq.trans rfl rfl
@[simp] theorem Out.seq_ret (w h) (f : St → AH → Out) : (Out.ret w h).seq f = .ret w h := Eq.trans rfl rfl
@[simp] theorem Out.seq_brk (σ h) (f : St → AH → Out) : (Out.brk σ h).seq f = .brk σ h := Eq.trans rfl rfl
@[simp] theorem Out.seq_cont (σ h) (f : St → AH → Out) : (Out.cont σ h).seq f = .cont σ h := Eq.trans rfl rfl
@[simp] theorem Out.seq_exc (c xs ws σ h) (f : St → AH → Out) : (Out.exc c xs ws σ h).seq f = .exc c xs ws σ h := Eq.trans rfl rfl
@[simp] theorem Out.seq_stuck (f : St → AH → Out) : Out.stuck.seq f = .stuck := Eq.trans rfl rfl
/-- an expression's result, then a statement's -/
def Res.then {α : Type} (r : Res α) (σ : St) (f : α → AH → Out) : Out := match r with
  | .ok a h => f a h
  | .exc c xs ws h => .exc c xs ws σ h
  | .stuck => .stuck
@[simp] theorem Res.then_ok {α : Type} (a : α) (h σ) (f : α → AH → Out) : (Res.ok a h).then σ f = f a h := Eq.trans rfl rfl
@[simp] theorem Res.then_exc {α : Type} (c xs ws h σ) (f : α → AH → Out) : (Res.exc c xs ws h : Res α).then σ f = .exc c xs ws σ h := Eq.trans rfl rfl
@[simp] theorem Res.then_stuck {α : Type} (σ) (f : α → AH → Out) : (Res.stuck : Res α).then σ f = .stuck := Eq.trans rfl rfl

/-! ### the core -/
inductive Bop where | add | sub | mul | fdiv | mod | pow
deriving DecidableEq
inductive Cop where | eq | ne | lt | le | gt | ge | isn | isnt | in_ | nin
deriving DecidableEq
inductive Prim where
  | len | int | abs | str | repr | max2 | min2 | tuple | list | isi (ts : List String) (cs : List Nat)
  | all | any | sum | min | max | sorted | sortedSet | lenSet | lenOwn
deriving DecidableEq
inductive Bm where | append | extend | pop0 | pop1 | index | count | get1 | get2 | setdefault | join | split1 | items | values
deriving DecidableEq
mutual
inductive C where
  | var (i : Nat)
  | con (w : W)
  | glo (x : Str) (w : W)
  | bin (op : Bop) (a b : C)
  | neg (a : C)
  | cmp (op : Cop) (a b : C)
  | not (a : C)
  | and (cs : List C)
  | or (cs : List C)
  | ife (t : T) (a b : C)
  | sub (a i : C)
  | slc (a : C) (lo hi : List C)
  | tup (cs : List C)
  | lst (cs : List C)
  | call (f : Nat) (cs : List C) (ks : List Str) (kcs : List C)
  | new (c : Nat) (cs : List C) (ks : List Str) (kcs : List C)
  | meth (m : Str) (o : C) (cs : List C) (ks : List Str) (kcs : List C)
  | attr (o : C) (x : Str)
  | prim (p : Prim) (cs : List C)
  | primc (p : Prim) (c : C)
  | bm (m : Bm) (o : C) (cs : List C)
  | bmc (m : Bm) (o : C) (c : C)
  | comp (own : List (Str × Nat)) (tg : Tg) (it : It) (ifs : List T) (elt : C)
  | dict (cs : List C)
  | primr (p : Prim) (cs : List C)
inductive T where
  | val (c : C)
  | not (t : T)
  | and (ts : List T)
  | or (ts : List T)
inductive Tg where
  | nm (i : Nat)
  | tp (ts : List Tg)
  | sub (o i : C)
  | attr (o : C) (x : Str)
inductive It where
  | over (c : C)
  | rng (cs : List C)
  | enum (c : C)
  | zip (a b : C)
end
inductive Hd where
  | keep (c : Nat) (e y : Nat)
deriving DecidableEq
inductive S where
  | asg (t : Tg) (e : C)
  | aug (t : Tg) (op : Bop) (e : C)
  | iff (t : T) (a b : List S)
  | for_ (t : Tg) (it : It) (b : List S)
  | whl (t : T) (b : List S)
  | ret (e : C)
  | retn
  | raise (c : Nat) (fs : List Str) (cs : List C)
  | del (o i : C)
  | try_ (b : List S) (h : Hd)
  | ex (e : C)
  | pass | brk | cont | never

structure DefC where
  ps : List Str
  ns : List Str
  body : List S
structure ClsC where
  init : Nat
  meths : List (Str × Nat)
  props : List (Str × Nat)
  flds : List Str
/-- an exception's own __init__: its def, its field, its message -/
structure IniC where
  f : Nat
  x : Str
  m : Str
  b : Nat
deriving DecidableEq
structure Gc where
  defs : List DefC
  clss : List (Nat × ClsC)
  kws : List (Nat × Nat × List Str)
  excs : List (Nat × List Nat)
  rais : List Nat
  inis : List (Nat × IniC)
  lim : Nat
/-- is the exception class c the class d or under it -/
def Gc.exm (gc : Gc) (c d : Nat) : Option Bool := match gc.excs.lookup c, gc.excs.lookup d with
  | some ds, some _ => some (ds.contains d)
  | _, _ => none

/-! ### values -/
def bigI (i : Int) : Nat := i.natAbs.log2
def mulOk (i j : Int) : Bool := decide (i.natAbs < 2 ^ 64) || decide (j.natAbs < 2 ^ 64) || decide (bigI i + bigI j < 1000000)
def fdivOk (j : Int) : Bool := decide (0 < j) && decide (bigI j < 9000)
def powOk (i n : Int) : Bool := decide (0 ≤ n) && decide ((bigI i + 1 : Int) * n ≤ 134217728)
def szOk (n : Nat) : Bool := decide (n ≤ 1000000)
/-! a tuple, a list as data -/
mutual
def toDf : W → Option PyData
  | .non => some .none
  | .bl b => some (.bool b)
  | .int i => some (.int i)
  | .str s => some (.str s)
  | .tup ws => (toDfs ws).map .tuple
  | _ => none
def toDfs : List W → Option (List PyData)
  | [] => some []
  | w :: ws => match toDf w, toDfs ws with
    | some d, some ds => some (d :: ds)
    | _, _ => none
end
def toD (h : AH) (w : W) : Option PyData := match w with
  | .loc l => (match h[l]? with
    | some (.lst ws) => (toDfs ws).map .list
    | _ => none)
  | w => toDf w
end AM
/-! The interpreter of the core. -/
namespace AM
open PySem

/-! ### on values -/
def shp (d : PyData) : Bool := SeqAt.shaped d
def eqD (h : AH) (x y : W) : Option Bool := match toD h x, toD h y with
  | some d, some e => if shp d && shp e then some (PyData.eqv d e) else none
  | _, _ => none
def eqW (h : AH) (x y : W) : Option Bool := match x, y with
  | .str a, .str b => some (decide (a = b))
  | x, y => eqD h x y
/-! x < y of data -/
def ltD (h : AH) (x y : W) : Option Bool := match toD h x, toD h y with
  | some (.tuple ds), some (.tuple es) => if PySem.W.alike (.tuple ds) (.tuple es) && decide ((PyData.tuple ds).depth ≤ 60) then some (PySem.W.dataLt (.tuple ds) (.tuple es)) else none
  | _, _ => none
/-! dicts -/
def keyS : W → Bool
  | .int _ => true
  | .str _ => true
  | _ => false
mutual
def keyE : W → Bool
  | .int _ => true
  | .str _ => true
  | .tup ws => keyEs ws
  | _ => false
def keyEs : List W → Bool
  | [] => true
  | w :: ws => keyE w && keyEs ws
end
mutual
def depK : W → Nat
  | .tup ws => depKs ws + 1
  | _ => 0
def depKs : List W → Nat
  | [] => 0
  | w :: ws => max (depK w) (depKs ws)
end
/-- a tuple that may be a key -/
def keyT : W → Bool
  | .tup ws => keyEs ws && decide (depKs ws ≤ 7)
  | _ => false
def dicOkS (kvs : List (W × W)) (k : W) : Bool := keyS k && kvs.all fun p => keyS p.1
def dicOk (kvs : List (W × W)) (k : W) : Bool := (keyS k && kvs.all fun p => keyS p.1) || (keyT k && kvs.all fun p => keyT p.1)
def dicGet (kvs : List (W × W)) (k : W) : Option W := (kvs.find? fun p => decide (p.1 = k)).map (·.2)
def dicPut (kvs : List (W × W)) (k v : W) : List (W × W) := if (dicGet kvs k).isSome then kvs.map fun p => if p.1 = k then (p.1, v) else p else kvs ++ [(k, v)]
def dicDel (kvs : List (W × W)) (k : W) : List (W × W) := kvs.filter fun p => decide (p.1 ≠ k)
def repOk (n : Nat) (k : Int) : Bool := decide (n ≤ 1000) && decide (0 ≤ k) && decide (k ≤ 1000)
def binW (op : Bop) (x y : W) (h : AH) : Res W := match op, x, y with
  | .add, .int i, .int j => .ok (.int (i + j)) h
  | .add, .str a, .str b => if szOk (a.length + b.length) then .ok (.str (a ++ b)) h else .stuck
  | .add, .tup a, .tup b => if szOk (a.length + b.length) then .ok (.tup (a ++ b)) h else .stuck
  | .add, .loc l, .loc m => (match h[l]?, h[m]? with
    | some (.lst a), some (.lst b) => if szOk (a.length + b.length) then .ok (.loc h.length) (h ++ [.lst (a ++ b)]) else .stuck
    | _, _ => .stuck)
  | .sub, .int i, .int j => .ok (.int (i - j)) h
  | .mul, .int i, .int j => if mulOk i j then .ok (.int (i * j)) h else .stuck
  | .mul, .tup a, .int k => if repOk a.length k then .ok (.tup (List.replicate k.toNat a).flatten) h else .stuck
  | .mul, .loc l, .int k => (match h[l]? with
    | some (.lst a) => if repOk a.length k then .ok (.loc h.length) (h ++ [.lst (List.replicate k.toNat a).flatten]) else .stuck
    | _ => .stuck)
  | .fdiv, .int i, .int j => if fdivOk j then .ok (.int (i / j)) h else .stuck
  | .mod, .int i, .int j => if 0 < j then .ok (.int (i % j)) h else .stuck
  | .pow, .int i, .int j => if powOk i j then .ok (.int (i ^ j.toNat)) h else .stuck
  | _, _, _ => .stuck
/-- x op= y for values that never change -/
def augW (op : Bop) (x y : W) : Option W := match op, x, y with
  | .add, .int i, .int j => some (.int (i + j))
  | .sub, .int i, .int j => some (.int (i - j))
  | _, _, _ => none
def optR (o : Option Bool) (f : Bool → Bool) (h : AH) : Res W := match o with
  | some b => .ok (.bl (f b)) h
  | none => .stuck
def scalW : W → Bool
  | .non => true
  | .bl _ => true
  | .int _ => true
  | .str _ => true
  | _ => false
/-- a constant of the module -/
def gloW : W → Bool
  | .tup ws => ws.all scalW
  | w => scalW w
/-- x in y -/
def inData (x : W) (ws : List W) : Option Bool := match toDf x, toDfs ws with
  | some d, some ds => if shp d && shp (.list ds) then some (ds.any fun z => PyData.eqv z d) else none
  | _, _ => none
def inW (h : AH) (x y : W) : Option Bool := match y with
  | .tup ws => if scalW x && ws.all scalW then inData x ws else none
  | .loc l => (match h[l]? with
    | some (.lst ws) => inData x ws
    | some (.dic kvs) => if dicOk kvs x then some (dicGet kvs x).isSome else none
    | _ => none)
  | _ => none
def isW (x y : W) : Option Bool := match x, y with
  | x, .non => some (decide (x = .non))
  | .bl a, .bl b => some (decide (a = b))
  | _, _ => none
def cmpW (op : Cop) (x y : W) (h : AH) : Res W := match op with
  | .eq => optR (eqW h x y) id h
  | .ne => optR (eqW h x y) not h
  | .lt => (match x, y with
    | .int i, .int j => .ok (.bl (decide (i < j))) h
    | .tup a, .tup b => optR (ltD h (.tup a) (.tup b)) id h
    | _, _ => .stuck)
  | .le => (match x, y with
    | .int i, .int j => .ok (.bl (decide (i ≤ j))) h
    | _, _ => .stuck)
  | .gt => (match x, y with
    | .int i, .int j => .ok (.bl (decide (j < i))) h
    | _, _ => .stuck)
  | .ge => (match x, y with
    | .int i, .int j => .ok (.bl (decide (j ≤ i))) h
    | _, _ => .stuck)
  | .isn => optR (isW x y) id h
  | .isnt => optR (isW x y) not h
  | .in_ => optR (inW h x y) id h
  | .nin => optR (inW h x y) not h
/-- truth -/
def truW (h : AH) (x : W) : Option Bool := match x with
  | .non => some false
  | .bl b => some b
  | .int i => some (i != 0)
  | .tup ws => some (!ws.isEmpty)
  | .loc l => (match h[l]? with
    | some (.lst ws) => some (!ws.isEmpty)
    | _ => none)
  | _ => none
def ixN (n : Nat) (i : Int) : Option Nat := L2.ixN n i
def dicR (kvs : List (W × W)) (k : W) (h : AH) : Res W := if dicOk kvs k then (match dicGet kvs k with
  | some w => .ok w h
  | none => .stuck) else .stuck
def subW (x i : W) (h : AH) : Res W := match x, i with
  | .tup ws, .int k => (match L2.atI ws k with
    | some w => .ok w h
    | none => .stuck)
  | .loc l, .int k => (match h[l]? with
    | some (.lst ws) => (match L2.atI ws k with
      | some w => .ok w h
      | none => .stuck)
    | some (.dic kvs) => dicR kvs (.int k) h
    | _ => .stuck)
  | .loc l, i => (match h[l]? with
    | some (.dic kvs) => dicR kvs i h
    | _ => .stuck)
  | _, _ => .stuck
/-- the script's items are read by a function of their own -/
def subS (ns : List Int) (i : W) (h : AH) : Res W := match i with
  | .int k => (match L2.atI ns k with
    | some n => .ok (.int n) h
    | none => .stuck)
  | _ => .stuck
def cutW {α : Type} (xs : List α) (lo hi : Option Int) : List α := (xs.drop (HT.sIx xs.length 0 lo)).take (HT.sIx xs.length xs.length hi - HT.sIx xs.length 0 lo)
def slcW (x : W) (lo hi : Option Int) (h : AH) : Res W := match x with
  | .tup ws => .ok (.tup (cutW ws lo hi)) h
  | .loc l => (match h[l]? with
    | some (.lst ws) => .ok (.loc h.length) (h ++ [.lst (cutW ws lo hi)])
    | _ => .stuck)
  | _ => .stuck
/-- of the script a new list is cut -/
def slcR (ns : List Int) (x : W) (lo hi : Option Int) (h : AH) : Res W := match x with
  | .scr => .ok (.loc h.length) (h ++ [.lst ((cutW ns lo hi).map .int)])
  | x => slcW x lo hi h
def typW (h : AH) (x : W) : Option String := match x with
  | .non => some "NoneType"
  | .bl _ => some "bool"
  | .int _ => some "int"
  | .str _ => some "str"
  | .tup _ => some "tuple"
  | .loc l => (match h[l]? with
    | some (.lst _) => some "list"
    | _ => none)
  | _ => none
def isiB (t : String) (k : String) : Bool := t == k || (t == "bool" && k == "int")
def tynames : List String := ["NoneType", "bool", "int", "str", "tuple", "list"]
def kinds : List String := ["int", "bool", "str", "tuple", "list"]
def bools : List W → Option (List Bool)
  | [] => some []
  | .bl b :: ws => (bools ws).map (b :: ·)
  | _ => none
def intsOf : List W → Option (List Int)
  | [] => some []
  | .int i :: ws => (intsOf ws).map (i :: ·)
  | _ => none
/-- the numbers in order -/
def insI (i : Int) : List Int → List Int
  | [] => [i]
  | j :: r => if i ≤ j then i :: j :: r else j :: insI i r
def sortI : List Int → List Int
  | [] => []
  | i :: r => insI i (sortI r)
def maxI : Int → List Int → Int
  | m, [] => m
  | m, i :: r => maxI (if i > m then i else m) r
def minI : Int → List Int → Int
  | m, [] => m
  | m, i :: r => minI (if i < m then i else m) r
def sumI : List Int → Int
  | [] => 0
  | i :: r => i + sumI r
def seqL (p : Prim) (ws : List W) (h : AH) : Res W := match p, intsOf ws with
  | .sum, some is => .ok (.int is.sum) h
  | .max, some (i :: is) => .ok (.int (maxI i is)) h
  | .min, some (i :: is) => .ok (.int (minI i is)) h
  | .sorted, some is => .ok (.loc h.length) (h ++ [.lst ((sortI is).map .int)])
  | _, _ => .stuck
/-- the unlike numbers -/
def dedI : List Int → List Int
  | [] => []
  | i :: r => if i ∈ r then dedI r else i :: dedI r
def strI (i : Int) : Option Str := if decide (i.natAbs.log2 < 1920) then some (Str.ofString (toString i)) else none
/-- repr of data -/
def reprD (d : PyData) : Option Str := if d.showable && !d.hasDict && decide (d.depth ≤ 60) && decide (d.shown.length ≤ sizeLine) then some d.shown else none
def reprW (h : AH) (x : W) : Option Str := match x with
  | .tup ws => (toDf (.tup ws)).bind reprD
  | .loc l => (toD h (.loc l)).bind reprD
  | .int i => strI i
  | _ => none
/-- the keys of a dict in order -/
def sortKs (kvs : List (W × W)) (h : AH) : Res W := match intsOf (kvs.map (·.1)) with
  | some is => if decide (is.length < 64) then .ok (.loc h.length) (h ++ [.lst ((sortI is).map .int)]) else .stuck
  | none => .stuck
/-- the list of values behind all, any, sum .. -/
def primL (p : Prim) (ws : List W) (h : AH) : Res W := match p with
  | .tuple => .ok (.tup ws) h
  | .all => (match bools ws with
    | some bs => .ok (.bl (bs.all id)) h
    | none => .stuck)
  | .any => (match bools ws with
    | some bs => .ok (.bl (bs.any id)) h
    | none => .stuck)
  | p => seqL p ws h
structure Ev where
  gc : Gc
  sc : List Int
  cf : Nat → List W → AH → Res W
def lenR : Res W → Res W
  | .ok (.int i) h => if decide (0 ≤ i) && decide (i < 9223372036854775808) then .ok (.int i) h else .stuck
  | _ => .stuck
def primW (g : Ev) (p : Prim) (ws : List W) (h : AH) : Res W := match p, ws with
  | .len, [.tup xs] => .ok (.int xs.length) h
  | .len, [.loc l] => (match h[l]? with
    | some (.lst xs) => .ok (.int xs.length) h
    | some (.dic kvs) => .ok (.int kvs.length) h
    | _ => .stuck)
  | .len, [.scr] => .ok (.int g.sc.length) h
  | .int, [.int i] => .ok (.int i) h
  | .int, [.bl b] => .ok (.int (if b then 1 else 0)) h
  | .abs, [.int i] => .ok (.int (if i < 0 then -i else i)) h
  | .max2, [.int i, .int j] => .ok (.int (if j > i then j else i)) h
  | .min2, [.int i, .int j] => .ok (.int (if j < i then j else i)) h
  | .str, [.str x] => .ok (.str x) h
  | .str, [x] => (match reprW h x with
    | some y => .ok (.str y) h
    | none => .stuck)
  | .repr, [x] => (match reprW h x with
    | some y => .ok (.str y) h
    | none => .stuck)
  | .list, [.tup xs] => .ok (.loc h.length) (h ++ [.lst xs])
  | .list, [.loc l] => (match h[l]? with
    | some (.lst xs) => .ok (.loc h.length) (h ++ [.lst xs])
    | _ => .stuck)
  | .sum, [.loc l] => (match h[l]? with
    | some (.lst xs) => seqL .sum xs h
    | _ => .stuck)
  | .max, [.loc l] => (match h[l]? with
    | some (.lst xs) => seqL .max xs h
    | _ => .stuck)
  | .min, [.loc l] => (match h[l]? with
    | some (.lst xs) => seqL .min xs h
    | _ => .stuck)
  | .sorted, [.loc l] => (match h[l]? with
    | some (.lst xs) => seqL .sorted xs h
    | some (.dic kvs) => sortKs kvs h
    | _ => .stuck)
  | .sortedSet, [.loc l] => (match h[l]? with
    | some (.lst xs) => (match intsOf xs with
      | some is => if decide (is.length < 64) then .ok (.loc h.length) (h ++ [.lst ((sortI (dedI is)).map .int)]) else .stuck
      | none => .stuck)
    | _ => .stuck)
  | .lenSet, [.loc l] => (match h[l]? with
    | some (.lst xs) => (match intsOf xs with
      | some is => if decide (is.length < 1000) then .ok (.int (dedI is).length) h else .stuck
      | none => .stuck)
    | _ => .stuck)
  | .tuple, [.tup xs] => .ok (.tup xs) h
  | .tuple, [.loc l] => (match h[l]? with
    | some (.lst xs) => .ok (.tup xs) h
    | _ => .stuck)
  | .lenOwn, [.loc l] => (match h[l]? with
    | some (.ins c _) => (match g.gc.clss.lookup c with
      | some cl => (match cl.meths.lookup ("__len__" : Str) with
        | some f => lenR (g.cf f [.loc l] h)
        | none => .stuck)
      | none => .stuck)
    | _ => .stuck)
  | .isi ts cs, [x] => (match x with
    | .exo c xs vs => (match ts, cs with
      | [], [d] => (match g.gc.exm c d with
        | some b => .ok (.bl b) h
        | none => .stuck)
      | _, _ => .stuck)
    | x => (match typW h x with
      | some t => if cs = [] then .ok (.bl (ts.any (isiB t))) h else (match ts, cs with
        | [], [d] => if (g.gc.exm d d).isSome then .ok (.bl false) h else .stuck
        | _, _ => .stuck)
      | none => .stuck))
  | _, _ => .stuck
def findD (d : PyData) : Nat → List PyData → Option Nat
  | _, [] => none
  | n, z :: r => if PyData.eqv z d then some n else findD d (n + 1) r
def bmW (m : Bm) (x : W) (ws : List W) (h : AH) : Res W := match m, x, ws with
  | .append, .loc l, [w] => (match h[l]? with
    | some (.lst xs) => if xs.length < 1000000 then .ok .non (h.set l (.lst (xs ++ [w]))) else .stuck
    | _ => .stuck)
  | .extend, .loc l, [.loc b] => (match h[l]?, h[b]? with
    | some (.lst xs), some (.lst ys) => if szOk (xs.length + ys.length) then .ok .non (h.set l (.lst (xs ++ ys))) else .stuck
    | _, _ => .stuck)
  | .count, .loc l, [.bl b] => (match h[l]? with
    | some (.lst xs) => (match bools xs with
      | some bs => .ok (.int (bs.count b)) h
      | none => .stuck)
    | _ => .stuck)
  | .index, .loc l, [w] => (match h[l]? with
    | some (.lst xs) => (match toDfs xs, toDf w with
      | some ds, some d => if shp (.list ds) && shp d then (match findD d 0 ds with
        | some j => .ok (.int j) h
        | none => .stuck) else .stuck
      | _, _ => .stuck)
    | _ => .stuck)
  | .get2, .loc l, [k, d] => (match h[l]? with
    | some (.dic kvs) => if dicOk kvs k then .ok ((dicGet kvs k).getD d) h else .stuck
    | _ => .stuck)
  | .setdefault, .loc l, [k, d] => (match h[l]? with
    | some (.dic kvs) => if dicOk kvs k && decide (kvs.length < 1000000) then (match dicGet kvs k with
      | some w => .ok w h
      | none => .ok d (h.set l (.dic (dicPut kvs k d)))) else .stuck
    | _ => .stuck)
  | .pop1, .loc l, [k] => (match h[l]? with
    | some (.dic kvs) => if dicOkS kvs k then (match dicGet kvs k with
      | some w => .ok w (h.set l (.dic (dicDel kvs k)))
      | none => .stuck) else .stuck
    | _ => .stuck)
  | _, _, _ => .stuck
/-- l.extend([..]) -/
def bmL (m : Bm) (x : W) (ws : List W) (h : AH) : Res W := match m, x with
  | .extend, .loc l => (match h[l]? with
    | some (.lst xs) => if szOk (xs.length + ws.length) then .ok .non (h.set l (.lst (xs ++ ws))) else .stuck
    | _ => .stuck)
  | _, _ => .stuck
/-- l.pop() -/
def bm0 (m : Bm) (x : W) (h : AH) : Res W := match m, x with
  | .pop0, .loc l => (match h[l]? with
    | some (.lst xs) => (match xs[xs.length - 1]? with
      | some w => .ok w (h.set l (.lst xs.dropLast))
      | none => .stuck)
    | _ => .stuck)
  | _, _ => .stuck
/-- what a built-in method is asked of -/
def bmT (m : Bm) (x : W) (h : AH) : Bool := match m, x with
  | .append, .loc l => (match h[l]? with
    | some (.lst _) => true
    | _ => false)
  | .extend, .loc l => (match h[l]? with
    | some (.lst _) => true
    | _ => false)
  | .pop0, .loc l => (match h[l]? with
    | some (.lst _) => true
    | _ => false)
  | .count, .loc l => (match h[l]? with
    | some (.lst _) => true
    | _ => false)
  | .index, .loc l => (match h[l]? with
    | some (.lst _) => true
    | _ => false)
  | .get2, .loc l => (match h[l]? with
    | some (.dic _) => true
    | _ => false)
  | .setdefault, .loc l => (match h[l]? with
    | some (.dic _) => true
    | _ => false)
  | .pop1, .loc l => (match h[l]? with
    | some (.dic _) => true
    | _ => false)
  | _, _ => false
def putA (f : Str) (v : W) : List (Str × W) → List (Str × W)
  | [] => [(f, v)]
  | (k, x) :: r => if k = f then (k, v) :: r else (k, x) :: putA f v r
def setA (g : Ev) (x : W) (f : Str) (v : W) (h : AH) : Res Unit := match x with
  | .loc l => (match h[l]? with
    | some (.ins c fs) => (match g.gc.clss.lookup c with
      | some cl => if decide (fs.length < 1000) && decide (f ∈ cl.flds) then .ok () (h.set l (.ins c (putA f v fs))) else .stuck
      | none => .stuck)
    | _ => .stuck)
  | _ => .stuck
def dicS (l : Nat) (kvs : List (W × W)) (i v : W) (h : AH) : Res Unit := if dicOk kvs i && decide (kvs.length < 1000000) then .ok () (h.set l (.dic (dicPut kvs i v))) else .stuck
def setI (x i v : W) (h : AH) : Res Unit := match x, i with
  | .loc l, .int k => (match h[l]? with
    | some (.lst xs) => (match L2.ixN xs.length k with
      | some j => .ok () (h.set l (.lst (xs.set j v)))
      | none => .stuck)
    | some (.dic kvs) => dicS l kvs (.int k) v h
    | _ => .stuck)
  | .loc l, i => (match h[l]? with
    | some (.dic kvs) => dicS l kvs i v h
    | _ => .stuck)
  | _, _ => .stuck
/-- del x[i] -/
def delI (x i : W) (h : AH) : Res Unit := match x with
  | .loc l => (match h[l]? with
    | some (.dic kvs) => if dicOkS kvs i && (dicGet kvs i).isSome then .ok () (h.set l (.dic (dicDel kvs i))) else .stuck
    | _ => .stuck)
  | _ => .stuck
/-- n positional values, then keywords: which of both stands at each parameter -/
def permOf (ps : List Str) (n : Nat) (ks : List Str) : Option (List Nat) :=
  if n + ks.length = ps.length then ((ps.drop n).mapM fun p => (ks.idxOf? p).map (n + ·)).map (List.range n ++ ·) else none
def pick {α : Type} (l : List α) : List Nat → Option (List α)
  | [] => some []
  | i :: is => match l[i]?, pick l is with
    | some x, some r => some (x :: r)
    | _, _ => none
def callW (g : Ev) (f : Nat) (ws : List W) (ks : List Str) (kws : List W) (h : AH) : Res W := match ks with
  | [] => (match kws with
    | [] => g.cf f ws h
    | _ => .stuck)
  | _ => (match g.gc.defs[f]? with
    | some d => if decide (kws.length = ks.length) && decide ((f, ws.length, ks) ∈ g.gc.kws) then (match (permOf d.ps ws.length ks).bind (pick (ws ++ kws)) with
      | some vs => g.cf f vs h
      | none => .stuck) else .stuck
    | none => .stuck)
def toNoExc {α : Type} (r : Res α) : Res α := match r with
  | .exc _ _ _ _ => .stuck
  | r => r
def newW (g : Ev) (c : Nat) (ws : List W) (ks : List Str) (kws : List W) (h : AH) : Res W := match g.gc.clss.lookup c with
  | some cl => (callW g cl.init (.loc h.length :: ws) ks kws (h ++ [.ins c []])).bind fun w h2 => if w = .non then .ok (.loc h.length) h2 else .stuck
  | none => .stuck
def methL (g : Ev) (m : Str) (x : W) (h : AH) : Option Nat := match x with
  | .loc l => (match h[l]? with
    | some (.ins c fs) => (match g.gc.clss.lookup c with
      | some cl => (match fs.lookup m with
        | none => cl.meths.lookup m
        | some _ => none)
      | none => none)
    | _ => none)
  | _ => none
def attrW (g : Ev) (x : W) (f : Str) (h : AH) : Res W := match x with
  | .loc l => (match h[l]? with
    | some (.ins c fs) => (match g.gc.clss.lookup c with
      | some cl => (match cl.props.lookup f with
        | some p => toNoExc (g.cf p [x] h)
        | none => (match fs.lookup f with
          | some w => if decide (f ∈ cl.flds) then .ok w h else .stuck
          | none => .stuck))
      | none => .stuck)
    | _ => .stuck)
  | .exo c xs ws => if decide ((g.gc.inis.lookup c).map (·.x) = some f) then (match (xs.zip ws).lookup f with
    | some w => .ok w h
    | none => .stuck) else .stuck
  | _ => .stuck

/-! ### walks -/
structure Src where
  items : List W
  held : List (Nat × List W)
def heldOk (hs : List (Nat × List W)) (h : AH) : Bool := hs.all fun p => decide (h[p.1]? = some (.lst p.2))
def overW (g : Ev) (x : W) (h : AH) : Option Src := match x with
  | .tup ws => some ⟨ws, []⟩
  | .loc l => (match h[l]? with
    | some (.lst ws) => some ⟨ws, [(l, ws)]⟩
    | _ => none)
  | .scr => some ⟨g.sc.map .int, []⟩
  | _ => none
def isTup : W → Bool
  | .tup _ => true
  | _ => false
def enumFrom : Nat → List W → List W
  | _, [] => []
  | n, w :: ws => .tup [.int n, w] :: enumFrom (n + 1) ws
def rngW (lo hi : Int) : List W := (List.range (hi - lo).toNat).map fun i => .int (lo + (i : Nat))
def rngD (hi lo : Int) : List W := (List.range (hi - lo).toNat).map fun i => .int (hi - (i : Nat))
def rngOk (i : Int) : Bool := decide (-1000000 ≤ i) && decide (i ≤ 1000000)
def rngR (ws : List W) (h : AH) : Res Src := match ws with
  | [.int j] => if rngOk j then .ok ⟨rngW 0 j, []⟩ h else .stuck
  | [.int i, .int j] => if rngOk i && rngOk j then .ok ⟨rngW i j, []⟩ h else .stuck
  | [.int i, .int j, .int k] => if k = -1 && rngOk i && rngOk j then .ok ⟨rngD i j, []⟩ h else .stuck
  | _ => .stuck
/-- tuple(range(..)), list(range(..)) -/
def rngP (p : Prim) (ws : List W) (h : AH) : Res W := match p, rngR ws h with
  | .tuple, .ok s h1 => .ok (.tup s.items) h1
  | .list, .ok s h1 => .ok (.loc h1.length) (h1 ++ [.lst s.items])
  | _, _ => .stuck
/-- a display of at most one pair -/
def dispR (l : Nat) (ws : List W) (h : AH) : Res W := match ws with
  | [] => .ok (.loc l) h
  | [kw, w] => if decide (h[l]? = some (.dic [])) && (keyS kw || keyT kw) then .ok (.loc l) (h.set l (.dic [(kw, w)])) else .stuck
  | _ => .stuck
def wipeA (σ : St) : List Nat → St
  | [] => σ
  | v :: vs => (wipeA σ vs).set v none

/-- items one by one: the state of a fold with results -/
def compLoop (f : W → AH → Res (Option W)) (held : List (Nat × List W)) : List W → AH → Res (List W)
  | [], h => if heldOk held h then .ok [] h else .stuck
  | w :: ws, h => if heldOk held h then (f w h).bind fun o h1 => (compLoop f held ws h1).bind fun r h2 => .ok (o.toList ++ r) h2 else .stuck

def compW (itf : Res Src) (asg : W → AH → Res St) (iff : St → AH → Res Bool) (elt : St → AH → Res W) : Res (List W) :=
  itf.bind fun src h1 => toNoExc (compLoop (fun w h2 => (asg w h2).bind fun σ2 h3 => (iff σ2 h3).bind fun c h4 =>
    if c then (elt σ2 h4).bind fun y h5 => .ok (some y) h5 else .ok none h4) src.held src.items h1) |>.bind fun ws h => if szOk ws.length then .ok ws h else .stuck

mutual
def evalE (g : Ev) : C → St → AH → Res W
  | .var i, σ, h => (match σ[i]? with
    | some (some w) => .ok w h
    | _ => .stuck)
  | .con w, _, h => .ok w h
  | .glo _ w, _, h => .ok w h
  | .bin op a b, σ, h => (evalE g a σ h).bind fun x h1 => (evalE g b σ h1).bind fun y h2 => binW op x y h2
  | .neg a, σ, h => (evalE g a σ h).bind fun x h1 => (match x with
    | .int i => .ok (.int (-i)) h1
    | _ => .stuck)
  | .cmp op a b, σ, h => (evalE g a σ h).bind fun x h1 => (evalE g b σ h1).bind fun y h2 => cmpW op x y h2
  | .not a, σ, h => (evalE g a σ h).bind fun x h1 => (match x with
    | .bl b => .ok (.bl (!b)) h1
    | _ => .stuck)
  | .and cs, σ, h => evalAnd g cs σ h
  | .or cs, σ, h => evalOr g cs σ h
  | .ife t a b, σ, h => (evalT g t σ h).bind fun c h1 => if c then evalE g a σ h1 else evalE g b σ h1
  | .sub a i, σ, h => (evalE g a σ h).bind fun x h1 => (evalE g i σ h1).bind fun y h2 => (match x with
    | .scr => subS g.sc y h2
    | x => subW x y h2)
  | .slc a lo hi, σ, h => (evalE g a σ h).bind fun x h1 => (evalP g lo σ h1).bind fun l h2 => (evalP g hi σ h2).bind fun u h3 => slcR g.sc x l u h3
  | .tup cs, σ, h => (evalEs g cs σ h).bind fun ws h1 => if szOk ws.length then .ok (.tup ws) h1 else .stuck
  | .lst cs, σ, h => (evalEs g cs σ h).bind fun ws h1 => if szOk ws.length then .ok (.loc h1.length) (h1 ++ [.lst ws]) else .stuck
  | .call f cs ks kcs, σ, h => (evalEs g cs σ h).bind fun ws h1 => (evalEs g kcs σ h1).bind fun kws h2 => callW g f ws ks kws h2
  | .new c cs ks kcs, σ, h => (evalEs g cs σ h).bind fun ws h1 => (evalEs g kcs σ h1).bind fun kws h2 => newW g c ws ks kws h2
  | .meth m o cs ks kcs, σ, h => (evalE g o σ h).bind fun x h0 => (match methL g m x h0 with
    | some f => (evalEs g cs σ h0).bind fun ws h1 => (evalEs g kcs σ h1).bind fun kws h2 => callW g f (x :: ws) ks kws h2
    | none => .stuck)
  | .attr o f, σ, h => (evalE g o σ h).bind fun x h1 => attrW g x f h1
  | .prim p cs, σ, h => (evalEs g cs σ h).bind fun ws h1 => primW g p ws h1
  | .primc p c, σ, h => (evalL g c σ h).bind fun ws h1 => primL p ws h1
  | .bm m o cs, σ, h => (evalE g o σ h).bind fun x h1 => if bmT m x h1 then (match cs with
    | [] => bm0 m x h1
    | c :: cs => (evalEs g (c :: cs) σ h1).bind fun ws h2 => bmW m x ws h2) else .stuck
  | .bmc m o c, σ, h => (evalE g o σ h).bind fun x h1 => if bmT m x h1 then (evalL g c σ h1).bind fun ws h2 => bmL m x ws h2 else .stuck
  | .comp own tg it ifs elt, σ, h => (compW (evalI g it σ h) (fun w h2 => asgT g tg w (wipeA σ (own.map (·.2))) h2) (fun σ2 h3 => evalIf g ifs σ2 h3) (fun σ2 h4 => evalE g elt σ2 h4)).bind fun ws h1 =>
    .ok (.loc h1.length) (h1 ++ [.lst ws])
  | .dict cs, σ, h => (evalEs g cs σ (h ++ [.dic []])).bind fun ws h1 => dispR h.length ws h1
  | .primr p cs, σ, h => (evalEs g cs σ h).bind fun ws h1 => rngP p ws h1
def evalT (g : Ev) : T → St → AH → Res Bool
  | .not a, σ, h => (evalT g a σ h).bind fun c h1 => .ok (!c) h1
  | .and ts, σ, h => evalTA g ts σ h
  | .or ts, σ, h => evalTO g ts σ h
  | .val c, σ, h => (evalE g c σ h).bind fun x h1 => (match truW h1 x with
    | some b => .ok b h1
    | none => .stuck)
def evalTA (g : Ev) : List T → St → AH → Res Bool
  | [], _, h => .ok true h
  | t :: ts, σ, h => (evalT g t σ h).bind fun c h1 => if c then evalTA g ts σ h1 else .ok false h1
def evalTO (g : Ev) : List T → St → AH → Res Bool
  | [], _, h => .ok false h
  | t :: ts, σ, h => (evalT g t σ h).bind fun c h1 => if c then .ok true h1 else evalTO g ts σ h1
def evalAnd (g : Ev) : List C → St → AH → Res W
  | [], _, _ => .stuck
  | [c], σ, h => evalE g c σ h
  | c :: cs, σ, h => (evalE g c σ h).bind fun x h1 => (match x with
    | .bl true => evalAnd g cs σ h1
    | .bl false => .ok (.bl false) h1
    | _ => .stuck)
def evalOr (g : Ev) : List C → St → AH → Res W
  | [], _, _ => .stuck
  | [c], σ, h => evalE g c σ h
  | c :: cs, σ, h => (evalE g c σ h).bind fun x h1 => (match x with
    | .bl false => evalOr g cs σ h1
    | .bl true => .ok (.bl true) h1
    | _ => .stuck)
def evalEs (g : Ev) : List C → St → AH → Res (List W)
  | [], _, h => .ok [] h
  | c :: cs, σ, h => (evalE g c σ h).bind fun w h1 => (evalEs g cs σ h1).bind fun ws h2 => .ok (w :: ws) h2
def evalP (g : Ev) : List C → St → AH → Res (Option Int)
  | [], _, h => .ok none h
  | c :: _, σ, h => (evalE g c σ h).bind fun w h1 => (match w with
    | .int i => .ok (some i) h1
    | _ => .stuck)
/-- a comprehension's list of values -/
def evalL (g : Ev) : C → St → AH → Res (List W)
  | .comp own tg it ifs elt, σ, h => compW (evalI g it σ h) (fun w h2 => asgT g tg w (wipeA σ (own.map (·.2))) h2) (fun σ2 h3 => evalIf g ifs σ2 h3) (fun σ2 h4 => evalE g elt σ2 h4)
  | _, _, _ => .stuck
def evalIf (g : Ev) : List T → St → AH → Res Bool
  | [], _, h => .ok true h
  | c :: _, σ, h => evalT g c σ h
def evalI (g : Ev) : It → St → AH → Res Src
  | .over c, σ, h => (evalE g c σ h).bind fun x h1 => (match overW g x h1 with
    | some s => .ok s h1
    | none => .stuck)
  | .rng cs, σ, h => (evalEs g cs σ h).bind fun ws h1 => if ws.length = cs.length then rngR ws h1 else .stuck
  | .enum c, σ, h => (evalE g c σ h).bind fun x h1 => (match overW g x h1 with
    | some s => .ok ⟨enumFrom 0 s.items, s.held⟩ h1
    | none => .stuck)
  | .zip a b, σ, h => (evalE g a σ h).bind fun x h1 => (evalE g b σ h1).bind fun y h2 => if isTup x = isTup y then (match overW g x h2, overW g y h2 with
    | some s, some t => .ok ⟨List.zipWith (fun u v => .tup [u, v]) s.items t.items, s.held ++ t.held⟩ h2
    | _, _ => .stuck) else .stuck
/-- a target takes a value -/
def asgT (g : Ev) : Tg → W → St → AH → Res St
  | .nm i, w, σ, h => .ok (σ.set i (some w)) h
  | .tp ts, w, σ, h => (match w with
    | .tup ws => if ws.length = ts.length then asgTs g ts ws σ h else .stuck
    | _ => .stuck)
  | .sub o i, w, σ, h => (evalE g o σ h).bind fun x h1 => (evalE g i σ h1).bind fun y h2 => (setI x y w h2).bind fun _ h3 => .ok σ h3
  | .attr o f, w, σ, h => (evalE g o σ h).bind fun x h1 => (setA g x f w h1).bind fun _ h2 => .ok σ h2
def asgTs (g : Ev) : List Tg → List W → St → AH → Res St
  | [], [], σ, h => .ok σ h
  | t :: ts, w :: ws, σ, h => (asgT g t w σ h).bind fun σ1 h1 => asgTs g ts ws σ1 h1
  | _, _, _, _ => .stuck
end

def forLoop (f : W → St → AH → Out) (held : List (Nat × List W)) : List W → St → AH → Out
  | [], σ, h => if heldOk held h then .next σ h else .stuck
  | w :: ws, σ, h => if heldOk held h then (match f w σ h with
    | .next σ1 h1 => forLoop f held ws σ1 h1
    | .cont σ1 h1 => forLoop f held ws σ1 h1
    | .brk σ1 h1 => .next σ1 h1
    | o => o) else .stuck
def whlLoop (t : St → AH → Res Bool) (f : St → AH → Out) : Nat → St → AH → Out
  | 0, _, _ => .stuck
  | n + 1, σ, h => (t σ h).then σ fun c h1 => if c then (match f σ h1 with
    | .next σ1 h2 => whlLoop t f n σ1 h2
    | .cont σ1 h2 => whlLoop t f n σ1 h2
    | .brk σ1 h2 => .next σ1 h2
    | o => o) else .next σ h1
/-- what an except clause makes of an exception of the body -/
def hdW (g : Ev) (hd : Hd) (c : Nat) (xs : List Str) (ws : List W) (σ : St) (h : AH) : Out := match hd with
  | .keep d e y => (match g.gc.exm c d with
    | some true => .next ((σ.set y (some (.exo c xs ws))).set e none) h
    | some false => .exc c xs ws σ h
    | none => .stuck)
/-- an exception's message may be made -/
def msgOk (m : Str) (w : W) : Bool := match w with
  | .int i => (match strI i with
    | some y => szOk (m.length + y.length)
    | none => false)
  | .tup ws => (match reprW [] (.tup ws) with
    | some y => szOk (m.length + y.length)
    | none => false)
  | _ => false
def raiOk (gc : Gc) (c : Nat) (fs : List Str) (ws : List W) : Bool := match fs, ws with
  | [], [] => decide (c ∈ gc.rais)
  | [x], [w] => (match gc.inis.lookup c with
    | some i => decide (i.x = x) && msgOk i.m w
    | none => false)
  | _, _ => false
def raiPre (gc : Gc) (c : Nat) (fs : List Str) : Bool := fs.isEmpty || (gc.inis.lookup c).isSome
mutual
def evalS (g : Ev) : S → St → AH → Out
  | .asg t e, σ, h => (evalE g e σ h).then σ fun w h1 => (toNoExc (asgT g t w σ h1)).then σ fun σ1 h2 => .next σ1 h2
  | .aug t op e, σ, h => (match t with
    | .nm i => (match σ[i]? with
      | some (some x) => (evalE g e σ h).then σ fun y h1 => (match augW op x y with
        | some z => .next (σ.set i (some z)) h1
        | none => .stuck)
      | _ => .stuck)
    | .sub o i => (evalE g o σ h).then σ fun x h1 => (evalE g i σ h1).then σ fun y h2 => (subW x y h2).then σ fun v h3 => (evalE g e σ h3).then σ fun u h4 => (match augW op v u with
      | some z => (setI x y z h4).then σ fun _ h5 => .next σ h5
      | none => .stuck)
    | _ => .stuck)
  | .iff t a b, σ, h => (evalT g t σ h).then σ fun c h1 => if c then evalSs g a σ h1 else evalSs g b σ h1
  | .for_ t it b, σ, h => (evalI g it σ h).then σ fun src h1 => forLoop (fun w σ1 h2 => (toNoExc (asgT g t w σ1 h2)).then σ1 fun σ2 h3 => evalSs g b σ2 h3) src.held src.items σ h1
  | .whl t b, σ, h => whlLoop (fun σ1 h1 => evalT g t σ1 h1) (fun σ1 h1 => evalSs g b σ1 h1) g.gc.lim σ h
  | .ret e, σ, h => (evalE g e σ h).then σ fun w h1 => .ret w h1
  | .retn, σ, h => .ret .non h
  | .raise c fs cs, σ, h => if raiPre g.gc c fs then (evalEs g cs σ h).then σ fun ws h1 => if W.flats ws && raiOk g.gc c fs ws then .exc c fs ws σ h1 else .stuck else .stuck
  | .del o i, σ, h => (evalE g o σ h).then σ fun x h1 => (evalE g i σ h1).then σ fun y h2 => (delI x y h2).then σ fun _ h3 => .next σ h3
  | .try_ b hd, σ, h => (match evalSs g b σ h with
    | .exc c xs ws σ1 h1 => hdW g hd c xs ws σ1 h1
    | o => o)
  | .ex e, σ, h => (evalE g e σ h).then σ fun _ h1 => .next σ h1
  | .pass, σ, h => .next σ h
  | .brk, σ, h => .brk σ h
  | .cont, σ, h => .cont σ h
  | .never, _, _ => .stuck
def evalSs (g : Ev) : List S → St → AH → Out
  | [], σ, h => .next σ h
  | s :: ss, σ, h => (evalS g s σ h).seq fun σ1 h1 => evalSs g ss σ1 h1
end

/-! ### calls -/
def startA (nn : Nat) (ws : List W) : St := ws.map some ++ List.replicate (nn - ws.length) none
def runBody (g : Ev) (d : DefC) (ws : List W) (h : AH) : Res W := match evalSs g d.body (startA d.ns.length ws) h with
  | .next _ h1 => .ok .non h1
  | .ret w h1 => .ok w h1
  | .exc c xs ws _ h1 => .exc c xs ws h1
  | _ => .stuck
/-- what a call with plain values gave over a heap of its own, put behind h -/
def pull (h h2 : AH) (w : W) : Res W := match w with
  | .loc l => (match h2[l]? with
    | some (.lst ws) => if W.flats ws then .ok (.loc h.length) (h ++ [.lst ws]) else .ok (w.shift h.length) (h ++ h2.map (O.shift h.length))
    | _ => .ok (w.shift h.length) (h ++ h2.map (O.shift h.length)))
  | w => if W.flat w then .ok w h else .ok (w.shift h.length) (h ++ h2.map (O.shift h.length))
def callF (gc : Gc) (sc : List Int) : Nat → Nat → List W → AH → Res W
  | 0, _, _, _ => .stuck
  | k + 1, f, ws, h => match gc.defs[f]? with
    | none => .stuck
    | some d => if ws.length = d.ps.length then
        if W.flats ws then (match runBody ⟨gc, sc, callF gc sc k⟩ d ws [] with
          | .ok w h2 => pull h h2 w
          | .exc c xs vs _ => if W.flats vs then .exc c xs vs h else .stuck
          | .stuck => .stuck)
        else runBody ⟨gc, sc, callF gc sc k⟩ d ws h
      else .stuck
end AM

namespace AM
example (g : Ev) (w : W) (σ : St) (h : AH) : evalE g (.bin .add (.con (.int 1)) (.con (.int 2))) σ h = .ok (.int 3) h := rfl
example (g : Ev) (w : W) (σ : St) (h : AH) : evalS g (.asg (.nm 0) (.bin .add (.con (.int 1)) (.con (.int 2)))) σ h = .next (σ.set 0 (some (.int 3))) h := rfl
end AM
/-! The machine's states beside the hand layer's heaps. -/
namespace AM
open PySem L2
structure Cst where
  K : PySem.W.Frag
  cA : Nat → Addr
  aS : Addr
  sc : List Int
  w : World
/-- an exception object of a class at a -/
def ExC (cls : Value) (d : Option Addr) (a : Addr) : HO := .ext fun h => ∃ oe, h.get? a = some oe ∧ oe.cls = cls ∧ oe.dict = d ∧ ∃ vs, oe.data = .fields vs
/-! ### dicts -/
def keyOf : W → Option Key
  | .int i => some (.inl i)
  | .str s => some (.inr s)
  | _ => none
mutual
def nkOf : W → Option NestedKey
  | .int i => some (.num i)
  | .str s => some (.text s)
  | .tup ws => (nkOfs ws).map .tup
  | _ => none
def nkOfs : List W → Option (List NestedKey)
  | [] => some []
  | w :: ws => match nkOf w, nkOfs ws with
    | some d, some ds => some (d :: ds)
    | _, _ => none
end
def isTupW : W → Bool
  | .tup _ => true
  | _ => false
/-- at a: a dict whose keys are the tuples at the addresses told -/
def DicN (w : World) (a : Addr) (xs : List (NestedKey × Addr × V)) : HO := .ext fun h => xs.length ≤ sizeLine ∧ (a == sysModules) = false ∧ (xs.map (·.1)).Nodup ∧ ∃ us : List Value, Vals (xs.map (·.2.2)) us ∧
  ∃ o es ep, h.get? a = some o ∧ o.ExactDict ∧ o.data = .dict es ep ∧ es.toList = List.zipWith (fun x u => (⟨x.1.hash w, .ref x.2.1, u⟩ : DictEntry)) xs us
theorem exc_ne_dic {cls : Value} {d : Option Addr} {a b : Addr} {w : World} {xs : List (NestedKey × Addr × V)} : ExC cls d a ≠ DicN w a xs := fun z => by
  have z : HO.ext _ = HO.ext _ := z
  injection z with z
  let o : Obj := { cls := cls, dict := d, data := .fields #[] }
  let h : Heap := { objs := Array.replicate (a + 1) o }
  have g : h.get? a = some o := by
    show (match (Array.replicate (a + 1) o)[a]? with
      | some ⟨_, _, .freed, _⟩ => none
      | o => o) = some o
    rw [Array.getElem?_replicate]
    simp [o]
  have p := congrFun z h
  have q : ∃ oe, h.get? a = some oe ∧ oe.cls = cls ∧ oe.dict = d ∧ ∃ vs, oe.data = .fields vs := ⟨o, g, rfl, rfl, #[], rfl⟩
  rw [p] at q
  obtain ⟨_, _, _, us, _, o2, es, ep, e1, _, e3, _⟩ := q
  rw [g] at e1
  cases e1
  cases e3
section
variable (k : Cst) (ι : Nat → Addr) (n : Nat) (H : Hp)
mutual
def RelW : W → V → Prop
  | .non, v => v = .non
  | .bl b, v => v = .bl b
  | .int i, v => v = .int i
  | .str s, v => v = .str s
  | .tup ws, v => ∃ a vs, v = .ref a ∧ SqT k.K H a vs ∧ RelWs ws vs
  | .loc l, v => l < n ∧ v = .ref (ι l)
  | .exo c xs ws, v => ∃ a d, v = .ref a ∧ H a = some (ExC (.ref (k.cA c)) d a) ∧ W.flats ws = true ∧ ((xs = [] ∧ ws = [] ∧ d = none) ∨ ∃ dd vs, d = some dd ∧ RelWs ws vs ∧ H dd = some (.xd (xs.zip vs)))
  | .scr, v => v = .ref k.aS
def RelWs : List W → List V → Prop
  | [], vs => vs = []
  | w :: ws, vs => ∃ v r, vs = v :: r ∧ RelW w v ∧ RelWs ws r
end
def RelF : List (Str × W) → List (Str × V) → Prop
  | [], vs => vs = []
  | p :: ps, vs => ∃ v r, vs = (p.1, v) :: r ∧ RelW k ι n H p.2 v ∧ RelF ps r
/-- keys that are numbers and texts -/
def RelKs : List (W × W) → List (Key × V) → Prop
  | [], xs => xs = []
  | p :: ps, xs => ∃ key v r, xs = (key, v) :: r ∧ keyOf p.1 = some key ∧ RelW k ι n H p.2 v ∧ RelKs ps r
/-- keys that are tuples -/
def RelNs : List (W × W) → List (NestedKey × Addr × V) → Prop
  | [], xs => xs = []
  | p :: ps, xs => ∃ key b v r, xs = (key, b, v) :: r ∧ keyT p.1 = true ∧ nkOf p.1 = some key ∧ RelW k ι n H p.1 (.ref b) ∧ RelW k ι n H p.2 v ∧ RelNs ps r
def RelO (a : Addr) : O → Prop
  | .lst ws => ∃ vs, H a = some (.lst vs) ∧ RelWs k ι n H ws vs
  | .ins c fs => ∃ dx vs, H a = some (.ins (k.cA c) dx vs) ∧ RelF k ι n H fs vs
  | .dic kvs => (∃ xs, H a = some (.dK xs) ∧ RelKs k ι n H kvs xs) ∨ (kvs ≠ [] ∧ ∃ xs, H a = some (DicN k.w a xs) ∧ RelNs k ι n H kvs xs)
def RelS (as : St) (σ : L2.St) : Prop := as.length = σ.length ∧ ∀ (i : Nat) (w : W), as[i]? = some (some w) → ∃ v, σ[i]? = some (some v) ∧ RelW k ι n H w v
end
/-- the script's list is a part of K -/
def KScr (k : Cst) : Prop := ∃ (o : Obj) (its : Array Value) (n : Nat), k.K.lookup k.aS = some o ∧ o.cls = .type "list" ∧ o.dict = none ∧ o.data = .seq its n ∧ its.size ≤ sizeLine ∧ Vals (k.sc.map .int) its.toList
structure Scr (k : Cst) (ι : Nat → Addr) (n : Nat) (H : Hp) : Prop where
  sq : SqL k.K H k.aS (k.sc.map .int)
  ap : KScr k ∨ (Rd H k.aS (.lst (k.sc.map .int)) ∧ ∀ l, l < n → ι l ≠ k.aS)
structure R (k : Cst) (ι : Nat → Addr) (h : AH) (H : Hp) : Prop where
  obj : ∀ l o, h[l]? = some o → RelO k ι h.length H (ι l) o
  inj : ∀ l m, l < h.length → m < h.length → ι l = ι m → l = m
  scr : Scr k ι h.length H
structure Post (k : Cst) (ι : Nat → Addr) (h : AH) (H : Hp) (ι' : Nat → Addr) (h' : AH) (H' : Hp) : Prop where
  len : h.length ≤ h'.length
  old : ∀ l, l < h.length → ι' l = ι l
  rel : R k ι' h' H'
  fr : ∀ a o, H a = some o → (∀ l, l < h.length → ι l ≠ a) → H' a = some o
  new : ∀ l, h.length ≤ l → l < h'.length → H (ι' l) = none
section
variable {k : Cst} {ι ι' ι1 ι2 : Nat → Addr} {n n' : Nat} {H H' H1 H2 : Hp} {h h' h1 h2 : AH}
theorem RelWs.len : ∀ {ws : List W} {vs : List V}, RelWs k ι n H ws vs → ws.length = vs.length
  | [], vs, e => by
    unfold RelWs at e
    rw [e]
    rfl
  | w :: ws, vs, e => by
    unfold RelWs at e
    obtain ⟨v, r, rfl, _, q⟩ := e
    exact congrArg Nat.succ q.len
theorem RelWs.get : ∀ {ws : List W} {vs : List V} {i : Nat} {w : W}, RelWs k ι n H ws vs → ws[i]? = some w → ∃ v, vs[i]? = some v ∧ RelW k ι n H w v
  | [], _, _, _, _, e => by simp at e
  | w :: ws, vs, 0, w', q, e => by
    unfold RelWs at q
    obtain ⟨v, r, rfl, q, _⟩ := q
    simp at e
    subst e
    exact ⟨v, rfl, q⟩
  | w :: ws, vs, i + 1, w', q, e => by
    unfold RelWs at q
    obtain ⟨v, r, rfl, _, q⟩ := q
    exact q.get (i := i) (by simpa using e)
theorem RelWs.none_of {ws : List W} {vs : List V} {i : Nat} (q : RelWs k ι n H ws vs) (e : ws[i]? = none) : vs[i]? = none := by
  have := q.len
  rw [List.getElem?_eq_none_iff] at e ⊢
  omega
theorem RelWs.cons {w : W} {v : V} {ws : List W} {vs : List V} (a : RelW k ι n H w v) (b : RelWs k ι n H ws vs) : RelWs k ι n H (w :: ws) (v :: vs) := by
  unfold RelWs
  exact ⟨v, vs, rfl, a, b⟩
theorem RelWs.nil : RelWs k ι n H [] [] := by
  unfold RelWs
  rfl
theorem RelWs.append : ∀ {ws us : List W} {vs zs : List V}, RelWs k ι n H ws vs → RelWs k ι n H us zs → RelWs k ι n H (ws ++ us) (vs ++ zs)
  | [], us, vs, zs, a, b => by
    unfold RelWs at a
    rw [a]
    exact b
  | w :: ws, us, vs, zs, a, b => by
    unfold RelWs at a
    obtain ⟨v, r, rfl, q, a⟩ := a
    exact .cons q (a.append b)
theorem RelWs.take : ∀ {ws : List W} {vs : List V} (m : Nat), RelWs k ι n H ws vs → RelWs k ι n H (ws.take m) (vs.take m)
  | _, _, 0, _ => by simpa using RelWs.nil
  | [], vs, m + 1, a => by
    unfold RelWs at a
    rw [a]
    exact .nil
  | w :: ws, vs, m + 1, a => by
    unfold RelWs at a
    obtain ⟨v, r, rfl, q, a⟩ := a
    exact .cons q (a.take m)
theorem RelWs.drop : ∀ {ws : List W} {vs : List V} (m : Nat), RelWs k ι n H ws vs → RelWs k ι n H (ws.drop m) (vs.drop m)
  | _, _, 0, a => a
  | [], vs, m + 1, a => by
    unfold RelWs at a
    rw [a]
    exact .nil
  | w :: ws, vs, m + 1, a => by
    unfold RelWs at a
    obtain ⟨v, r, rfl, q, a⟩ := a
    exact a.drop m
theorem RelWs.set {w : W} {v : V} (r : RelW k ι n H w v) : ∀ {ws : List W} {vs : List V} (i : Nat), RelWs k ι n H ws vs → RelWs k ι n H (ws.set i w) (vs.set i v)
  | [], vs, _, a => by
    unfold RelWs at a
    rw [a]
    exact .nil
  | w :: ws, vs, 0, a => by
    unfold RelWs at a
    obtain ⟨u, t, rfl, q, a⟩ := a
    exact .cons r a
  | w :: ws, vs, i + 1, a => by
    unfold RelWs at a
    obtain ⟨u, t, rfl, q, a⟩ := a
    exact .cons q (RelWs.set r i a)
/-! ### what stays -/
structure Keep (k : Cst) (ι : Nat → Addr) (n : Nat) (H : Hp) (ι' : Nat → Addr) (n' : Nat) (H' : Hp) : Prop where
  len : n ≤ n'
  old : ∀ l, l < n → ι' l = ι l
  tup : ∀ a vs, SqT k.K H a vs → SqT k.K H' a vs
  ext : ∀ a cls d, H a = some (ExC cls d a) → H' a = some (ExC cls d a)
  xd : ∀ a fs, H a = some (.xd fs) → H' a = some (.xd fs)
mutual
theorem RelW.keep (p : Keep k ι n H ι' n' H') : ∀ (w : W) {v : V}, RelW k ι n H w v → RelW k ι' n' H' w v
  | .non, _, e => by simpa only [RelW] using e
  | .bl _, _, e => by simpa only [RelW] using e
  | .int _, _, e => by simpa only [RelW] using e
  | .str _, _, e => by simpa only [RelW] using e
  | .scr, _, e => by simpa only [RelW] using e
  | .loc l, v, e => by
    unfold RelW at e ⊢
    exact ⟨Nat.lt_of_lt_of_le e.1 p.len, by rw [p.old l e.1]; exact e.2⟩
  | .exo c xs ws, v, e => by
    unfold RelW at e ⊢
    obtain ⟨a, d, e1, e2, e3, e4⟩ := e
    refine ⟨a, d, e1, p.ext a _ _ e2, e3, ?_⟩
    rcases e4 with e4 | ⟨dd, vs, e4, e5, e6⟩
    · exact .inl e4
    · exact .inr ⟨dd, vs, e4, RelWs.keep p ws e5, p.xd dd _ e6⟩
  | .tup ws, v, e => by
    unfold RelW at e ⊢
    obtain ⟨a, vs, e1, e2, e3⟩ := e
    exact ⟨a, vs, e1, p.tup a vs e2, RelWs.keep p ws e3⟩
theorem RelWs.keep (p : Keep k ι n H ι' n' H') : ∀ (ws : List W) {vs : List V}, RelWs k ι n H ws vs → RelWs k ι' n' H' ws vs
  | [], vs, e => by
    unfold RelWs at e ⊢
    exact e
  | w :: ws, vs, e => by
    unfold RelWs at e ⊢
    obtain ⟨v, r, e1, e2, e3⟩ := e
    exact ⟨v, r, e1, RelW.keep p w e2, RelWs.keep p ws e3⟩
end
theorem RelF.keep (p : Keep k ι n H ι' n' H') : ∀ (ws : List (Str × W)) {vs : List (Str × V)}, RelF k ι n H ws vs → RelF k ι' n' H' ws vs
  | [], vs, e => e
  | w :: ws, vs, e => by
    obtain ⟨v, r, e1, e2, e3⟩ := e
    exact ⟨v, r, e1, RelW.keep p _ e2, RelF.keep p ws e3⟩
theorem RelKs.keep (p : Keep k ι n H ι' n' H') : ∀ (ws : List (W × W)) {vs : List (Key × V)}, RelKs k ι n H ws vs → RelKs k ι' n' H' ws vs
  | [], vs, e => e
  | w :: ws, vs, e => by
    obtain ⟨key, v, r, e1, e2, e3, e4⟩ := e
    exact ⟨key, v, r, e1, e2, RelW.keep p _ e3, RelKs.keep p ws e4⟩
theorem RelNs.keep (p : Keep k ι n H ι' n' H') : ∀ (ws : List (W × W)) {vs : List (NestedKey × Addr × V)}, RelNs k ι n H ws vs → RelNs k ι' n' H' ws vs
  | [], vs, e => e
  | w :: ws, vs, e => by
    obtain ⟨key, b, v, r, e1, e0, e2, e3, e4, e5⟩ := e
    exact ⟨key, b, v, r, e1, e0, e2, RelW.keep p _ e3, RelW.keep p _ e4, RelNs.keep p ws e5⟩
theorem RelS.keep (p : Keep k ι n H ι' n' H') {as : St} {σ : L2.St} (e : RelS k ι n H as σ) : RelS k ι' n' H' as σ := ⟨e.1, fun i w q => by
  obtain ⟨v, e1, e2⟩ := e.2 i w q
  exact ⟨v, e1, RelW.keep p _ e2⟩⟩
/-- an object of ours is a list, an instance, a dict -/
inductive Ours (k : Cst) (a : Addr) : HO → Prop where
  | lst (vs) : Ours k a (.lst vs)
  | ins (C dx fs) : Ours k a (.ins C dx fs)
  | dk (xs) : Ours k a (.dK xs)
  | dn (xs) : Ours k a (DicN k.w a xs)
theorem R.at (r : R k ι h H) {l : Nat} (hl : l < h.length) : ∃ o, H (ι l) = some o ∧ Ours k (ι l) o := by
  have q := r.obj l h[l] (by simp [hl])
  cases e : h[l] with
  | lst ws =>
    rw [e] at q
    obtain ⟨vs, q, _⟩ := q
    exact ⟨_, q, .lst _⟩
  | ins c fs =>
    rw [e] at q
    obtain ⟨dx, vs, q, _⟩ := q
    exact ⟨_, q, .ins _ _ _⟩
  | dic kvs =>
    rw [e] at q
    rcases q with ⟨xs, q, _⟩ | ⟨_, xs, q, _⟩
    · exact ⟨_, q, .dk _⟩
    · exact ⟨_, q, .dn _⟩
theorem R.ne (r : R k ι h H) {a : Addr} {o : HO} (e : H a = some o) (h1 : ¬ Ours k a o) : ∀ l, l < h.length → ι l ≠ a := fun l hl z => by
  obtain ⟨o', q, y⟩ := r.at hl
  rw [z] at q y
  rw [e] at q
  cases q
  exact h1 y
def notOurs : HO → Bool
  | .tup _ => true
  | .frz _ _ => true
  | .xd _ => true
  | _ => false
theorem ours_ne {a : Addr} {o : HO} (y : Ours k a o) (h : notOurs o = true) : False := by
  cases y <;> cases h
theorem ours_exc {a : Addr} {cls : Value} {d : Option Addr} (y : Ours k a (ExC cls d a)) : False := by
  generalize e : ExC cls d a = o at y
  cases y with
  | lst _ =>
    have e : HO.ext _ = HO.lst _ := e
    cases e
  | ins _ _ _ =>
    have e : HO.ext _ = HO.ins _ _ _ := e
    cases e
  | dk _ =>
    have e : HO.ext _ = HO.dK _ := e
    cases e
  | dn _ => exact exc_ne_dic (b := a) e
theorem R.has (r : R k ι h H) {l : Nat} (hl : l < h.length) : ∃ o, H (ι l) = some o := by
  obtain ⟨o, q, _⟩ := r.at hl
  exact ⟨o, q⟩
theorem keep_of (r : R k ι h H) (len : h.length ≤ n') (old : ∀ l, l < h.length → ι' l = ι l) (fr : ∀ a o, H a = some o → (∀ l, l < h.length → ι l ≠ a) → H' a = some o) : Keep k ι h.length H ι' n' H' where
  len := len
  old := old
  tup := fun a vs e => by
    rcases e with (e | ⟨o, e⟩) | e
    · exact .inl (.inl (fr a _ e (r.ne e fun z => ours_ne z rfl)))
    · exact .inl (.inr ⟨o, fr a _ e (r.ne e fun z => ours_ne z rfl)⟩)
    · exact .inr e
  ext := fun a cls d e => fr a _ e (r.ne e fun z => ours_exc z)
  xd := fun a fs e => fr a _ e (r.ne e fun z => ours_ne z rfl)
theorem Post.keep (r : R k ι h H) (p : Post k ι h H ι' h' H') : Keep k ι h.length H ι' h'.length H' := keep_of r p.len p.old p.fr
theorem Post.refl (r : R k ι h H) : Post k ι h H ι h H := ⟨Nat.le_refl _, fun _ _ => rfl, r, fun _ _ e _ => e, fun l a b => absurd (Nat.lt_of_lt_of_le b a) (Nat.lt_irrefl _)⟩
theorem Post.trans (r : R k ι h H) (p : Post k ι h H ι1 h1 H1) (q : Post k ι1 h1 H1 ι2 h2 H2) : Post k ι h H ι2 h2 H2 where
  len := Nat.le_trans p.len q.len
  old := fun l hl => (q.old l (Nat.lt_of_lt_of_le hl p.len)).trans (p.old l hl)
  rel := q.rel
  fr := fun a o e hn => q.fr a o (p.fr a o e hn) fun l hl z => by
    by_cases hlt : l < h.length
    · exact hn l hlt (by rw [← p.old l hlt]; exact z)
    · have := p.new l (by omega) hl
      rw [z, e] at this
      cases this
  new := fun l h1' h2' => by
    by_cases hlt : l < h1.length
    · rw [q.old l hlt]
      exact p.new l h1' hlt
    · have e := q.new l (by omega) h2'
      cases eH : H (ι2 l) with
      | none => rfl
      | some o =>
        have z := p.fr (ι2 l) o eH (fun m hm z => by
          obtain ⟨o', e'⟩ := p.rel.has (Nat.lt_of_lt_of_le hm p.len)
          rw [p.old m hm, z, e] at e'
          cases e')
        rw [e] at z
        cases z
theorem Scr.upd (s : Scr k ι n H) {p : Addr} {o : HO} (hp : H p = none) : Scr k ι n (upd H p o) := by
  rcases s.ap with q | ⟨q1, q2⟩
  · exact ⟨.inr q, .inl q⟩
  · have e : Rd (L2.upd H p o) k.aS (.lst (k.sc.map .int)) := by
      rcases q1 with e | ⟨ob, e⟩
      · exact .inl (by rw [upd_ne (ne_of_none e hp)]; exact e)
      · exact .inr ⟨ob, by rw [upd_ne (ne_of_none e hp)]; exact e⟩
    exact ⟨.inl e, .inr ⟨e, q2⟩⟩
def snoc (ι : Nat → Addr) (n : Nat) (p : Addr) : Nat → Addr := fun l => if l = n then p else ι l
theorem snoc_lt {l : Nat} {p : Addr} (hl : l < n) : snoc ι n p l = ι l := if_neg (Nat.ne_of_lt hl)
theorem snoc_eq {p : Addr} : snoc ι n p n = p := if_pos rfl
theorem RelO.keep (p : Keep k ι n H ι' n' H') {a : Addr} {o : O} (e : RelO k ι n H a o) (hs : ∀ ho, H a = some ho → H' a = some ho) : RelO k ι' n' H' a o := by
  cases o with
  | lst ws =>
    obtain ⟨vs, e1, e2⟩ := e
    exact ⟨vs, hs _ e1, RelWs.keep p ws e2⟩
  | ins c fs =>
    obtain ⟨dx, vs, e1, e2⟩ := e
    exact ⟨dx, vs, hs _ e1, RelF.keep p fs e2⟩
  | dic kvs =>
    rcases e with ⟨xs, e1, e2⟩ | ⟨e0, xs, e1, e2⟩
    · exact .inl ⟨xs, hs _ e1, RelKs.keep p kvs e2⟩
    · exact .inr ⟨e0, xs, hs _ e1, RelNs.keep p kvs e2⟩
/-- a new thing that is none of ours -/
theorem Post.side (r : R k ι h H) {p : Addr} {o : HO} (hp : H p = none) : Post k ι h H ι h (upd H p o) := by
  have fr : ∀ a u, H a = some u → (∀ l, l < h.length → ι l ≠ a) → upd H p o a = some u := fun a u e _ => by
    rw [upd_ne (ne_of_none e hp)]
    exact e
  have kp : Keep k ι h.length H ι h.length (upd H p o) := keep_of r (Nat.le_refl _) (fun _ _ => rfl) fr
  refine ⟨Nat.le_refl _, fun _ _ => rfl, ⟨fun l u e => (r.obj l u e).keep kp fun ho z => ?_, r.inj, r.scr.upd hp⟩, fr, fun l a b => absurd (Nat.lt_of_lt_of_le b a) (Nat.lt_irrefl _)⟩
  rw [upd_ne (ne_of_none z hp)]
  exact z
/-- a new object of ours -/
theorem Post.alloc (r : R k ι h H) {p : Addr} {ho : HO} {o : O} (hp : H p = none) (ro : ∀ ι' n' H', Keep k ι h.length H ι' n' H' → H' p = some ho → RelO k ι' n' H' p o) :
    Post k ι h H (snoc ι h.length p) (h ++ [o]) (upd H p ho) := by
  have fr : ∀ a u, H a = some u → (∀ l, l < h.length → ι l ≠ a) → upd H p ho a = some u := fun a u e _ => by
    rw [upd_ne (ne_of_none e hp)]
    exact e
  have ln : (h ++ [o]).length = h.length + 1 := by simp
  have kp : Keep k ι h.length H (snoc ι h.length p) (h ++ [o]).length (upd H p ho) := keep_of r (by rw [ln]; exact Nat.le_succ _) (fun l hl => snoc_lt hl) fr
  refine ⟨by rw [ln]; exact Nat.le_succ _, fun l hl => snoc_lt hl, ⟨fun l u e => ?_, fun l m hl hm e => ?_, ?_⟩, fr, fun l a b => ?_⟩
  · by_cases hl : l < h.length
    · rw [List.getElem?_append_left hl] at e
      rw [snoc_lt hl]
      refine (r.obj l u e).keep kp fun ho z => ?_
      rw [upd_ne (ne_of_none z hp)]
      exact z
    · have hl2 : l < (h ++ [o]).length := (List.getElem?_eq_some_iff.mp e).1
      have el : l = h.length := by rw [ln] at hl2; omega
      subst el
      simp at e
      subst e
      rw [snoc_eq]
      exact ro _ _ _ kp upd_same
  · rw [ln] at hl hm
    by_cases h1 : l < h.length
    · by_cases h2 : m < h.length
      · rw [snoc_lt h1, snoc_lt h2] at e
        exact r.inj l m h1 h2 e
      · have : m = h.length := by omega
        subst this
        rw [snoc_lt h1, snoc_eq] at e
        obtain ⟨u, z⟩ := r.has h1
        rw [e, hp] at z
        cases z
    · have : l = h.length := by omega
      subst this
      by_cases h2 : m < h.length
      · rw [snoc_lt h2, snoc_eq] at e
        obtain ⟨u, z⟩ := r.has h2
        rw [← e, hp] at z
        cases z
      · omega
  · have s := r.scr.upd (o := ho) hp
    refine ⟨s.sq, ?_⟩
    rcases r.scr.ap with q | ⟨q1, q2⟩
    · exact .inl q
    · rcases s.ap with z | ⟨z1, z2⟩
      · exact .inl z
      · refine .inr ⟨z1, fun l hl => ?_⟩
        by_cases h1 : l < h.length
        · rw [snoc_lt h1]
          exact q2 l h1
        · have : l = h.length := by rw [ln] at hl; omega
          subst this
          rw [snoc_eq]
          intro z
          rcases q1 with q | ⟨ob, q⟩
          · rw [← z, hp] at q
            cases q
          · rw [← z, hp] at q
            cases q
  · rw [ln] at b
    have : l = h.length := by omega
    subst this
    rw [snoc_eq]
    exact hp
/-- an object of ours changes -/
theorem Post.set (r : R k ι h H) {l : Nat} {ho : HO} {o : O} (hl : l < h.length) (ro : ∀ H', Keep k ι h.length H ι h.length H' → H' (ι l) = some ho → RelO k ι h.length H' (ι l) o) :
    Post k ι h H ι (h.set l o) (upd H (ι l) ho) := by
  have fr : ∀ a u, H a = some u → (∀ m, m < h.length → ι m ≠ a) → upd H (ι l) ho a = some u := fun a u e hn => by
    rw [upd_ne (fun z => hn l hl z.symm)]
    exact e
  have kp : Keep k ι h.length H ι h.length (upd H (ι l) ho) := keep_of r (Nat.le_refl _) (fun _ _ => rfl) fr
  refine ⟨by simp, fun _ _ => rfl, ⟨fun m u e => ?_, fun a b ha hb => by simp at ha hb; exact r.inj a b ha hb, ?_⟩, fr, fun m a b => by simp at b; omega⟩
  · by_cases hm : m = l
    · subst hm
      rw [List.getElem?_set_self hl] at e
      cases e
      simpa using ro _ kp upd_same
    · rw [List.getElem?_set_ne (Ne.symm hm)] at e
      have hml : m < h.length := (List.getElem?_eq_some_iff.mp e).1
      have q := (r.obj m u e).keep kp fun w z => by
        rw [upd_ne (fun y => hm (r.inj m l hml hl y))]
        exact z
      simpa using q
  · have hs : (h.set l o).length = h.length := by simp
    rw [hs]
    rcases r.scr.ap with q | ⟨q1, q2⟩
    · exact ⟨.inr q, .inl q⟩
    · have e : Rd (upd H (ι l) ho) k.aS (.lst (k.sc.map .int)) := by
        rcases q1 with e | ⟨ob, e⟩
        · exact .inl (by rw [upd_ne (fun z => q2 l hl z.symm)]; exact e)
        · exact .inr ⟨ob, by rw [upd_ne (fun z => q2 l hl z.symm)]; exact e⟩
      exact ⟨.inl e, .inr ⟨e, q2⟩⟩
end
end AM
/-! tuple * int for any few; repr of data. -/
namespace AM
open PySem PySem.Spec PyProof.Rows L2
abbrev tupO (items : Array Value) (n : Nat) (dd : Option Addr) (sl : Array (Option Value)) : Obj := { cls := .type "tuple", dict := dd, data := .seq items n, slots := sl }
theorem mul_same (l : Addr) (items : Array Value) (n : Nat) (dd : Option Addr) (sl : Array (Option Value)) (x : Int) (u : Tok) (c0 : (decide (x < -(2 ^ 63)) || decide (x ≥ 2 ^ 63)) = false) (c1 : (items.isEmpty || x == 1) = true) :
    Meets (Builtin.«tuple.__mul__» ⟨[.ref l, .int x u], []⟩) (fun _ R s => s.heap.get? l = some (tupO items n dd sl) ∧ R (.ok (.ret (.ref l))) s) := .of_wp fun prog w A R s q => by
  obtain ⟨hp, g, d, tk, os⟩ := s
  obtain ⟨hl, fin⟩ := q
  have f1 := AutoSeq1.idx_int
  wp_walk using wpAny_loadPart' hl
  repeat (first
    | (refine wpAny_ite_false (decide_eq_false (by rw [c0]; exact Bool.false_ne_true)) ?_; wp_walk using wpAny_loadPart' hl)
    | (refine wpAny_ite_true (decide_eq_true (by rw [c1])) ?_; wp_walk using wpAny_loadPart' hl))
  exact ⟨_, rfl, fin⟩
theorem mul_none (l : Addr) (items : Array Value) (n : Nat) (dd : Option Addr) (sl : Array (Option Value)) (x : Int) (u : Tok) (c0 : (decide (x < -(2 ^ 63)) || decide (x ≥ 2 ^ 63)) = false) (c1 : (items.isEmpty || x == 1) = false) (c2 : (decide (x ≤ 0) || items.isEmpty) = true) :
    Meets (Builtin.«tuple.__mul__» ⟨[.ref l, .int x u], []⟩) (fun _ R s => s.heap.get? l = some (tupO items n dd sl) ∧
      R (.ok (.ret (.ref s.heap.objs.size))) { s with heap := s.heap.push { cls := .type "tuple", data := .seq #[] }, toks := s.toks }) := .of_wp fun prog w A R s q => by
  obtain ⟨hp, g, d, tk, os⟩ := s
  obtain ⟨hl, fin⟩ := q
  have f1 := AutoSeq1.idx_int
  wp_walk using wpAny_loadPart' hl
  repeat (first
    | (refine wpAny_ite_false (decide_eq_false (by rw [c0]; exact Bool.false_ne_true)) ?_; wp_walk using wpAny_loadPart' hl)
    | (refine wpAny_ite_false (decide_eq_false (by rw [c1]; exact Bool.false_ne_true)) ?_; wp_walk using wpAny_loadPart' hl)
    | (refine wpAny_ite_true (decide_eq_true (by rw [c2])) ?_; wp_walk using wpAny_loadPart' hl))
  exact ⟨_, rfl, fin⟩
def rTimes (K : PySem.W.Frag) : R2 := fun x y H Q => ∃ l k xs, x = .ref l ∧ y = .int k ∧ SqT K H l xs ∧ 0 ≤ k ∧ k ≤ 1000 ∧ xs.length ≤ 1000 ∧ ((xs = [] ∨ k = 1) → Q (.ref l) H) ∧
  (xs ≠ [] → k ≠ 1 → ∀ p, H p = none → Q (.ref p) (upd H p (.tup (List.replicate k.toNat xs).flatten)))
theorem op_times {X : Cx} : OpR X (binaryOp .Mult) (rTimes X.K) := by
  intro pins s σ H x y v u Q I rx ry h
  obtain ⟨l, k, xs, rfl, rfl, hT, h1, h2, hz, q1, q2⟩ := h
  by_cases hk : xs ≠ [] ∧ 2 ≤ k
  · exact op_repT pins s σ H _ _ v u Q I rx ry ⟨l, k, xs, rfl, rfl, hT, hk.1, hk.2, h2, hz, q2 hk.1 (by omega)⟩
  · cases rx
    obtain ⟨t, rfl⟩ := ry
    obtain ⟨its, r, ⟨⟨cls, dd, data, sl⟩, ho, hc, n, hd⟩, hs⟩ := I.tuple hT
    simp only at hc hd
    subst hc hd
    have c0 : (decide (k < -(2 ^ 63)) || decide (k ≥ 2 ^ 63)) = false := by
      rw [decide_eq_false (by omega), decide_eq_false (by omega)]
      rfl
    by_cases hs1 : xs = [] ∨ k = 1
    · have c1 : (its.toArray.isEmpty || k == 1) = true := by
        rcases hs1 with e | e
        · have : its = [] := List.eq_nil_of_length_eq_zero (by rw [← r.length, e]; rfl)
          rw [this]
          rfl
        · subst e
          simp
      refine wpAny_binaryOp_repeat_ref (T := "tuple") (U := "int") (by decide) ⟨_, ho, rfl⟩ (fun s' => typeIs_int s' k t) noFill_tuple_mul F.fills_int_mul F.slot_int_rmul repeat_tuple F.slot_int_index.lookup
        (call_meets F.slot_int_rmul (typeIs_int s k t) F.entry_int_rmul (F.args_int_rmul_2 _ _) (int_rmul_tuple k t l its.toArray n dd sl)
          ⟨ho, rfl, ⟨_, ho, rfl⟩, call_meets F.slot_tuple_mul ⟨_, ho, rfl⟩ F.entry_tuple_mul (F.args_tuple_mul_2 _ _) (mul_same l its.toArray n dd sl k t c0 c1) ⟨ho, ?_⟩⟩)
      exact ⟨.ref l, H, I, rfl, q1 hs1⟩
    · have hne : xs ≠ [] := fun e => hs1 (.inl e)
      have hk1 : k ≠ 1 := fun e => hs1 (.inr e)
      have hk0 : k = 0 := by
        have : ¬ 2 ≤ k := fun z => hk ⟨hne, z⟩
        omega
      subst hk0
      have hni : its ≠ [] := fun e => hne (List.eq_nil_of_length_eq_zero (by rw [r.length, e]; rfl))
      have c1 : (its.toArray.isEmpty || (0 : Int) == 1) = false := by
        cases its with
        | nil => exact absurd rfl hni
        | cons a b => rfl
      refine wpAny_binaryOp_repeat_ref (T := "tuple") (U := "int") (by decide) ⟨_, ho, rfl⟩ (fun s' => typeIs_int s' 0 t) noFill_tuple_mul F.fills_int_mul F.slot_int_rmul repeat_tuple F.slot_int_index.lookup
        (call_meets F.slot_int_rmul (typeIs_int s 0 t) F.entry_int_rmul (F.args_int_rmul_2 _ _) (int_rmul_tuple 0 t l its.toArray n dd sl)
          ⟨ho, rfl, ⟨_, ho, rfl⟩, call_meets F.slot_tuple_mul ⟨_, ho, rfl⟩ F.entry_tuple_mul (F.args_tuple_mul_2 _ _) (mul_none l its.toArray n dd sl 0 t c0 c1 rfl) ⟨ho, ?_⟩⟩)
      refine ⟨.ref s.heap.objs.size, _, I.laid (t' := s.toks) (o := .tup []) (fun b ob q => Heap.get?_push_of_some _ q) (Nat.le_refl _) ?_, rfl, q2 hne hk1 _ (I.hok.fresh (Nat.le_refl _))⟩
      exact ⟨Nat.zero_le _, [], .nil, IsTup.new _ _⟩
/-! ### repr -/
def rRepr (K : PySem.W.Frag) : List V → Hp → VK → Prop := fun xs H Q => ∃ a d, xs = [.ref a] ∧ Dp K H (.ref a) d ∧ d.showable = true ∧ d.hasDict = false ∧ d.depth ≤ 60 ∧ d.shown.length ≤ sizeLine ∧ Q (.str d.shown) H
theorem call_reprD {X : Cx} (hq : X.A.guards = some []) (hu : X.A.units + 65 < cLine) : CallR X (.builtin "repr") (rRepr X.K) := by
  intro pins s σ H xs us Q I r h
  obtain ⟨a, d, rfl, hd, h1, h2, h3, h4, q⟩ := h
  obtain ⟨u, rfl, r1⟩ := vals1 r
  cases r1
  obtain ⟨as, rd⟩ := Dp.reads I d _ _ hd rfl
  exact repr_of_reads' rd h1 (PyData.noDict_hsm h2) hq (by omega) (fun _ _ e => e) (fun h' u tk hk => ⟨.str d.shown, H, I.kept (t' := tk) hk, ⟨u, rfl⟩, q⟩) h4
theorem call_strD {X : Cx} (hq : X.A.guards = some []) (hu : X.A.units + 65 < cLine) : CallR X (.type "str") (rRepr X.K) := by
  intro pins s σ H xs us Q I r h
  obtain ⟨a, d, rfl, hd, h1, h2, h3, h4, q⟩ := h
  obtain ⟨u, rfl, r1⟩ := vals1 r
  cases r1
  obtain ⟨as, rd⟩ := Dp.reads I d _ _ hd rfl
  exact str_of_reads rd h1 (PyData.noDict_hsm h2) hq (by omega) (fun _ _ e => e) (fun h' u tk hk => ⟨.str d.shown, H, I.kept (t' := tk) hk, ⟨u, rfl⟩, q⟩) h4
/-- x < y of data -/
def rLtD (K : PySem.W.Frag) : R2 := fun x y H Q => ∃ d e, Dp K H x d ∧ Dp K H y e ∧ PySem.W.alike d e = true ∧ d ≠ .none ∧ d.depth ≤ 60 ∧ Q (.bl (PySem.W.dataLt d e)) H
theorem op_ltD {X : Cx} (hu : X.A.units + 65 < cLine) : OpR X (compareOp .Lt) (rLtD X.K) := by
  intro pins s σ H x y v u Q I rx ry h
  obtain ⟨d, e, h1, h2, h3, h4, h5, q⟩ := h
  obtain ⟨as, rd⟩ := Dp.reads I d _ _ h1 rx
  obtain ⟨bs, re⟩ := Dp.reads I e _ _ h2 ry
  exact PySem.W.lt_data rd re h3 h4 (by omega) ⟨.bl _, H, I, rfl, q⟩
end AM
/-! Dicts: the machine's and the hand layer's. -/
namespace AM
open PySem PySem.Spec PyProof.Rows L2
section
variable {X : Cx} {k : Cst} {ι : Nat → Addr} {h : AH} {H : Hp} {n : Nat}
/-! ### keys -/
theorem keyOf_inj {a b : W} {x : Key} (ha : keyOf a = some x) (hb : keyOf b = some x) : a = b := by
  cases a <;> cases b <;> simp_all [keyOf] <;> (subst ha; simp_all)
theorem keyOf_S {a : W} (h : keyS a = true) : ∃ x, keyOf a = some x := by
  cases a <;> first | exact ⟨_, rfl⟩ | cases h
theorem keyOf_V {a : W} {x : Key} {v : V} (r : RelW k ι n H a v) (ha : keyOf a = some x) : v = kV x := by
  cases a <;> first | (cases ha; done) | (cases ha; unfold RelW at r; exact r)
theorem keyS_T {a : W} (h : keyS a = true) (h2 : keyT a = true) : False := by
  cases a <;> first | (cases h; done) | (cases h2; done) | (unfold keyT at h2; cases h2; done)
mutual
theorem nk_inj : ∀ {a b : W} {x : NestedKey}, nkOf a = some x → nkOf b = some x → a = b
  | .int _, b, x, ha, hb => by
    unfold nkOf at ha
    cases ha
    cases b <;> unfold nkOf at hb <;> first | (cases hb; rfl) | cases hb | (obtain ⟨_, _, hb⟩ := Option.map_eq_some_iff.mp hb; cases hb)
  | .str _, b, x, ha, hb => by
    unfold nkOf at ha
    cases ha
    cases b <;> unfold nkOf at hb <;> first | (cases hb; rfl) | cases hb | (obtain ⟨_, _, hb⟩ := Option.map_eq_some_iff.mp hb; cases hb)
  | .tup as, b, x, ha, hb => by
    unfold nkOf at ha
    obtain ⟨ds, ha2, rfl⟩ := Option.map_eq_some_iff.mp ha
    cases b with
    | tup bs =>
      unfold nkOf at hb
      obtain ⟨ds', hb2, e⟩ := Option.map_eq_some_iff.mp hb
      cases e
      rw [nks_inj ha2 hb2]
    | _ => unfold nkOf at hb; cases hb
  | .non, _, _, ha, _ => by unfold nkOf at ha; cases ha
  | .bl _, _, _, ha, _ => by unfold nkOf at ha; cases ha
  | .loc _, _, _, ha, _ => by unfold nkOf at ha; cases ha
  | .exo _ _ _, _, _, ha, _ => by unfold nkOf at ha; cases ha
  | .scr, _, _, ha, _ => by unfold nkOf at ha; cases ha
theorem nks_inj : ∀ {a b : List W} {x : List NestedKey}, nkOfs a = some x → nkOfs b = some x → a = b
  | [], b, x, ha, hb => by
    unfold nkOfs at ha
    cases ha
    cases b with
    | nil => rfl
    | cons w r =>
      unfold nkOfs at hb
      split at hb <;> cases hb
  | w :: ws, b, x, ha, hb => by
    unfold nkOfs at ha
    split at ha
    · rename_i d ds e1 e2
      cases ha
      cases b with
      | nil => unfold nkOfs at hb; cases hb
      | cons u us =>
        unfold nkOfs at hb
        split at hb
        · rename_i d' ds' e3 e4
          cases hb
          rw [nk_inj e1 e3, nks_inj e2 e4]
        · cases hb
    · cases ha
end
mutual
theorem nk_depth : ∀ {a : W} {x : NestedKey}, nkOf a = some x → x.depth = depK a
  | .int _, x, ha => by
    unfold nkOf at ha
    cases ha
    rfl
  | .str _, x, ha => by
    unfold nkOf at ha
    cases ha
    rfl
  | .tup as, x, ha => by
    unfold nkOf at ha
    obtain ⟨ds, ha2, rfl⟩ := Option.map_eq_some_iff.mp ha
    unfold NestedKey.depth depK
    rw [nks_depth ha2]
  | .non, _, ha => by unfold nkOf at ha; cases ha
  | .bl _, _, ha => by unfold nkOf at ha; cases ha
  | .loc _, _, ha => by unfold nkOf at ha; cases ha
  | .exo _ _ _, _, ha => by unfold nkOf at ha; cases ha
  | .scr, _, ha => by unfold nkOf at ha; cases ha
theorem nks_depth : ∀ {a : List W} {x : List NestedKey}, nkOfs a = some x → NestedKey.depthAll x = depKs a
  | [], x, ha => by
    unfold nkOfs at ha
    cases ha
    rfl
  | w :: ws, x, ha => by
    unfold nkOfs at ha
    split at ha
    · rename_i d ds e1 e2
      cases ha
      unfold NestedKey.depthAll depKs
      rw [nk_depth e1, nks_depth e2]
    · cases ha
end
mutual
theorem nk_E : ∀ {a : W}, keyE a = true → ∃ x, nkOf a = some x
  | .int _, _ => ⟨_, by unfold nkOf; rfl⟩
  | .str _, _ => ⟨_, by unfold nkOf; rfl⟩
  | .tup as, h => by
    unfold keyE at h
    obtain ⟨x, e⟩ := nks_E h
    exact ⟨.tup x, by unfold nkOf; rw [e]; rfl⟩
  | .non, h => by unfold keyE at h; cases h
  | .bl _, h => by unfold keyE at h; cases h
  | .loc _, h => by unfold keyE at h; cases h
  | .exo _ _ _, h => by unfold keyE at h; cases h
  | .scr, h => by unfold keyE at h; cases h
theorem nks_E : ∀ {a : List W}, keyEs a = true → ∃ x, nkOfs a = some x
  | [], _ => ⟨[], by unfold nkOfs; rfl⟩
  | w :: ws, h => by
    unfold keyEs at h
    rw [Bool.and_eq_true] at h
    obtain ⟨x, e⟩ := nk_E h.1
    obtain ⟨y, e2⟩ := nks_E h.2
    exact ⟨x :: y, by unfold nkOfs; rw [e, e2]⟩
end
theorem keyT_nk {a : W} (h : keyT a = true) : ∃ x, nkOf a = some x ∧ x.depth ≤ 8 := by
  cases a with
  | tup ws =>
    unfold keyT at h
    rw [Bool.and_eq_true, decide_eq_true_eq] at h
    obtain ⟨x, e⟩ := nks_E h.1
    have e2 : nkOf (.tup ws) = some (.tup x) := by unfold nkOf; rw [e]; rfl
    refine ⟨.tup x, e2, ?_⟩
    rw [nk_depth e2]
    unfold depK
    omega
  | _ => cases h
mutual
theorem nested_is {pins : List (Addr × Obj)} {σ : L2.St} {s : Shared} (hK : X.K = k.K) (I : L2.Inv X pins σ H s) : ∀ {w : W} {v : V} {u : Value} {x : NestedKey}, RelW k ι n H w v → RelV v u → nkOf w = some x → NestedIs s.heap x u
  | .int _, v, u, x, r, rv, e => by
    unfold nkOf at e
    cases e
    unfold RelW at r
    subst r
    obtain ⟨t, rfl⟩ := rv
    exact .int _ _
  | .str _, v, u, x, r, rv, e => by
    unfold nkOf at e
    cases e
    unfold RelW at r
    subst r
    obtain ⟨t, rfl⟩ := rv
    exact .text _ _
  | .tup ws, v, u, x, r, rv, e => by
    unfold nkOf at e
    obtain ⟨ds, e2, rfl⟩ := Option.map_eq_some_iff.mp e
    unfold RelW at r
    obtain ⟨a, vs, rfl, hs, rs⟩ := r
    cases rv
    rw [← hK] at hs
    obtain ⟨its, r2, ⟨o, ho, hc, m, hd⟩, _⟩ := I.tuple hs
    exact .tup ho hc hd (by simpa using nesteds_is hK I rs r2 e2)
  | .non, _, _, _, _, _, e => by unfold nkOf at e; cases e
  | .bl _, _, _, _, _, _, e => by unfold nkOf at e; cases e
  | .loc _, _, _, _, _, _, e => by unfold nkOf at e; cases e
  | .exo _ _ _, _, _, _, _, _, e => by unfold nkOf at e; cases e
  | .scr, _, _, _, _, _, e => by unfold nkOf at e; cases e
theorem nesteds_is {pins : List (Addr × Obj)} {σ : L2.St} {s : Shared} (hK : X.K = k.K) (I : L2.Inv X pins σ H s) : ∀ {ws : List W} {vs : List V} {us : List Value} {xs : List NestedKey}, RelWs k ι n H ws vs → Vals vs us → nkOfs ws = some xs → NestedAll s.heap xs us
  | [], vs, us, xs, r, rv, e => by
    unfold nkOfs at e
    cases e
    unfold RelWs at r
    subst r
    cases rv
    exact .nil
  | w :: ws, vs, us, xs, r, rv, e => by
    unfold RelWs at r
    obtain ⟨v, t, rfl, r1, r2⟩ := r
    cases rv with
    | cons q1 q2 =>
      unfold nkOfs at e
      split at e
      · rename_i d ds e1 e2
        cases e
        exact .cons (nested_is hK I r1 q1 e1) (nesteds_is hK I r2 q2 e2)
      · cases e
end
/-! ### numbers and texts as keys -/
theorem ks_len : ∀ {kvs : List (W × W)} {xs : List (Key × V)}, RelKs k ι n H kvs xs → kvs.length = xs.length
  | [], xs, r => by
    have r : xs = [] := r
    rw [r]
    rfl
  | p :: kvs, xs, r => by
    obtain ⟨key, v, t, rfl, _, _, r⟩ := r
    exact congrArg Nat.succ (ks_len r)
theorem dicGet_pos {p : W × W} {kvs : List (W × W)} {kw : W} (e : p.1 = kw) : dicGet (p :: kvs) kw = some p.2 := by simp [dicGet, List.find?_cons, e]
theorem dicGet_neg {p : W × W} {kvs : List (W × W)} {kw : W} (e : ¬ p.1 = kw) : dicGet (p :: kvs) kw = dicGet kvs kw := by simp [dicGet, List.find?_cons, e]
theorem ks_val {kw : W} {key : Key} (hk : keyOf kw = some key) : ∀ {kvs : List (W × W)} {xs : List (Key × V)}, RelKs k ι n H kvs xs → (dicGet kvs kw = none ∧ valV xs key = none) ∨ ∃ w v, dicGet kvs kw = some w ∧ valV xs key = some v ∧ RelW k ι n H w v
  | [], xs, r => by
    have r : xs = [] := r
    rw [r]
    exact .inl ⟨rfl, rfl⟩
  | p :: kvs, xs, r => by
    obtain ⟨key', v, t, rfl, r1, r2, r⟩ := r
    by_cases e : p.1 = kw
    · rw [e, hk] at r1
      cases r1
      exact .inr ⟨p.2, v, dicGet_pos e, valV_pos rfl, r2⟩
    · rw [dicGet_neg e, valV_neg (fun z => e (keyOf_inj r1 (by rw [hk]; exact congrArg some z.symm)))]
      exact ks_val hk r
theorem ks_map {kw w : W} {key : Key} {v : V} (hk : keyOf kw = some key) (rw0 : RelW k ι n H w v) : ∀ {kvs : List (W × W)} {xs : List (Key × V)}, RelKs k ι n H kvs xs →
    RelKs k ι n H (kvs.map fun p => if p.1 = kw then (p.1, w) else p) (xs.map fun kv => if kv.1 = key then (kv.1, v) else kv)
  | [], xs, r => by
    have r : xs = [] := r
    rw [r]
    exact rfl
  | p :: kvs, xs, r => by
    obtain ⟨key', v', t, rfl, r1, r2, r⟩ := r
    rw [List.map_cons, List.map_cons]
    by_cases e : p.1 = kw
    · have e2 : key' = key := by
        rw [e, hk] at r1
        exact (Option.some.inj r1).symm
      rw [if_pos e, if_pos e2]
      exact ⟨key', v, _, rfl, r1, rw0, ks_map hk rw0 r⟩
    · rw [if_neg e, if_neg (fun z : key' = key => e (keyOf_inj r1 (by rw [hk, z])))]
      exact ⟨key', v', _, rfl, r1, r2, ks_map hk rw0 r⟩
theorem ks_snoc {kw w : W} {key : Key} {v : V} (hk : keyOf kw = some key) (rw0 : RelW k ι n H w v) : ∀ {kvs : List (W × W)} {xs : List (Key × V)}, RelKs k ι n H kvs xs → RelKs k ι n H (kvs ++ [(kw, w)]) (xs ++ [(key, v)])
  | [], xs, r => by
    have r : xs = [] := r
    rw [r]
    exact ⟨key, v, [], rfl, hk, rw0, rfl⟩
  | p :: kvs, xs, r => by
    obtain ⟨key', v', t, rfl, r1, r2, r⟩ := r
    exact ⟨key', v', _, rfl, r1, r2, ks_snoc hk rw0 r⟩
theorem ks_put {kw w : W} {key : Key} {v : V} {kvs : List (W × W)} {xs : List (Key × V)} (hk : keyOf kw = some key) (rw0 : RelW k ι n H w v) (r : RelKs k ι n H kvs xs) : RelKs k ι n H (dicPut kvs kw w) (putK xs key v) := by
  unfold dicPut putK
  rw [valV_any]
  rcases ks_val hk r with ⟨e1, e2⟩ | ⟨w', v', e1, e2, _⟩
  · rw [e1, e2]
    exact ks_snoc hk rw0 r
  · rw [e1, e2]
    exact ks_map hk rw0 r
theorem ks_del {kw : W} {key : Key} (hk : keyOf kw = some key) : ∀ {kvs : List (W × W)} {xs : List (Key × V)}, RelKs k ι n H kvs xs → RelKs k ι n H (dicDel kvs kw) (dropK xs key)
  | [], xs, r => by
    have r : xs = [] := r
    rw [r]
    exact rfl
  | p :: kvs, xs, r => by
    obtain ⟨key', v', t, rfl, r1, r2, r⟩ := r
    have ih := ks_del hk r
    unfold dicDel dropK at ih ⊢
    by_cases e : p.1 = kw
    · have e2 : key' = key := by
        rw [e, hk] at r1
        exact (Option.some.inj r1).symm
      rw [List.filter_cons_of_neg (by simp [e]), List.filter_cons_of_neg (by simp [e2])]
      exact ih
    · have e2 : key' ≠ key := fun z => e (keyOf_inj r1 (by rw [hk, z]))
      rw [List.filter_cons_of_pos (by simp [e]), List.filter_cons_of_pos (by simp [e2])]
      exact ⟨key', v', _, rfl, r1, r2, ih⟩
theorem ks_ints : ∀ {kvs : List (W × W)} {xs : List (Key × V)} {is : List Int}, RelKs k ι n H kvs xs → intsOf (kvs.map (·.1)) = some is → xs.map (·.1) = is.map Sum.inl
  | [], xs, is, r, e => by
    have r : xs = [] := r
    cases e
    rw [r]
    rfl
  | p :: kvs, xs, is, r, e => by
    obtain ⟨key', v', t, rfl, r1, r2, r⟩ := r
    rw [List.map_cons] at e
    unfold intsOf at e
    split at e
    · cases ‹_ :: _ = []›
    · rename_i b ws' hb
      obtain ⟨hb1, hb2⟩ := List.cons.inj hb
      obtain ⟨cs, q1, rfl⟩ := Option.map_eq_some_iff.mp e
      rw [hb1] at r1
      cases r1
      rw [List.map_cons, List.map_cons, ks_ints r (by rw [hb2]; exact q1)]
    · cases e
theorem dk_any {l : Nat} {kvs : List (W × W)} {kw : W} (r : R k ι h H) (e : h[l]? = some (.dic kvs)) (ok : dicOkS kvs kw = true) : ∃ xs key, H (ι l) = some (.dK xs) ∧ RelKs k ι h.length H kvs xs ∧ keyOf kw = some key := by
  unfold dicOkS at ok
  rw [Bool.and_eq_true] at ok
  obtain ⟨key, hk⟩ := keyOf_S ok.1
  rcases r.obj l _ e with ⟨xs, q1, q2⟩ | ⟨q0, xs, q1, q2⟩
  · exact ⟨xs, key, q1, q2, hk⟩
  · cases kvs with
    | nil => exact absurd rfl q0
    | cons p ps =>
      obtain ⟨_, _, _, _, _, q3, _⟩ := q2
      have o := ok.2
      rw [List.all_cons, Bool.and_eq_true] at o
      exact (keyS_T o.1 q3).elim
/-! ### tuples as keys -/
def zipN (xs : List (NestedKey × Addr × V)) (us : List Value) : List (NestedKey × Addr × Value) := List.zipWith (fun x u => (x.1, x.2.1, u)) xs us
theorem zipN_len {xs : List (NestedKey × Addr × V)} {us : List Value} (r : Vals (xs.map (·.2.2)) us) : (zipN xs us).length = xs.length := by
  have := r.length
  unfold zipN
  rw [List.length_map] at this
  rw [List.length_zipWith]
  omega
theorem zipN_keys : ∀ {xs : List (NestedKey × Addr × V)} {us : List Value}, Vals (xs.map (·.2.2)) us → (zipN xs us).map (·.1) = xs.map (·.1)
  | [], us, r => by
    cases r
    rfl
  | x :: xs, us, r => by
    cases r with
    | cons r1 r2 =>
      have := zipN_keys r2
      unfold zipN at this ⊢
      rw [List.zipWith_cons_cons, List.map_cons, List.map_cons, this]
theorem zipN_entries {P : Program} {w : World} : ∀ {xs : List (NestedKey × Addr × V)} {us : List Value}, Vals (xs.map (·.2.2)) us → (zipN xs us).map (entryOfKey (nestedKind P w)) = List.zipWith (fun x u => (⟨x.1.hash w, .ref x.2.1, u⟩ : DictEntry)) xs us
  | [], us, r => by
    cases r
    rfl
  | x :: xs, us, r => by
    cases r with
    | cons r1 r2 =>
      have := zipN_entries (P := P) (w := w) r2
      unfold zipN at this ⊢
      rw [List.zipWith_cons_cons, List.map_cons, List.zipWith_cons_cons, this]
      rfl
theorem ns_len : ∀ {kvs : List (W × W)} {xs : List (NestedKey × Addr × V)}, RelNs k ι n H kvs xs → kvs.length = xs.length
  | [], xs, r => by
    have r : xs = [] := r
    rw [r]
    rfl
  | p :: kvs, xs, r => by
    obtain ⟨key, b, v, t, rfl, _, _, _, _, r⟩ := r
    exact congrArg Nat.succ (ns_len r)
theorem ns_is {pins : List (Addr × Obj)} {σ : L2.St} {s : Shared} (hK : X.K = k.K) (I : L2.Inv X pins σ H s) : ∀ {kvs : List (W × W)} {xs : List (NestedKey × Addr × V)} {us : List Value}, RelNs k ι n H kvs xs → Vals (xs.map (·.2.2)) us →
    ∀ y ∈ zipN xs us, (nestedKind X.prog X.w).is s.heap y.1 y.2.1
  | [], xs, us, r, rv, y, hy => by
    have r : xs = [] := r
    subst r
    cases rv
    cases hy
  | p :: kvs, xs, us, r, rv, y, hy => by
    obtain ⟨key, b, v, t, rfl, r0, r1, r2, r3, r⟩ := r
    cases rv with
    | cons q1 q2 =>
      unfold zipN at hy
      rw [List.zipWith_cons_cons, List.mem_cons] at hy
      rcases hy with rfl | hy
      · obtain ⟨x, e, z⟩ := keyT_nk r0
        rw [r1] at e
        cases e
        exact ⟨nested_is hK I r2 rfl r1, z⟩
      · exact ns_is hK I r q2 y hy
theorem atKey_cons (y : NestedKey × Addr × Value) (ys : List (NestedKey × Addr × Value)) (key : NestedKey) : atKey (y :: ys) key = if y.1 = key then some y.2 else atKey ys key := by
  unfold atKey
  rw [List.find?_cons]
  by_cases e : y.1 = key
  · simp [e]
  · simp [e]
theorem ns_val {kw : W} {key : NestedKey} (hk : nkOf kw = some key) : ∀ {kvs : List (W × W)} {xs : List (NestedKey × Addr × V)} {us : List Value}, RelNs k ι n H kvs xs → Vals (xs.map (·.2.2)) us →
    (dicGet kvs kw = none ∧ atKey (zipN xs us) key = none) ∨ ∃ w b v u, dicGet kvs kw = some w ∧ atKey (zipN xs us) key = some (b, u) ∧ RelV v u ∧ RelW k ι n H w v
  | [], xs, us, r, rv => by
    have r : xs = [] := r
    subst r
    cases rv
    exact .inl ⟨rfl, rfl⟩
  | p :: kvs, xs, us, r, rv => by
    obtain ⟨key', b, v, t, rfl, r0, r1, r2, r3, r⟩ := r
    cases rv with
    | cons q1 q2 =>
      rename_i u us
      have ez : zipN ((key', b, v) :: t) (u :: us) = (key', b, u) :: zipN t us := rfl
      rw [ez, atKey_cons]
      by_cases e : p.1 = kw
      · rw [e, hk] at r1
        cases r1
        exact .inr ⟨p.2, b, v, u, dicGet_pos e, if_pos rfl, q1, r3⟩
      · rw [dicGet_neg e, if_neg (fun z : key' = key => e (nk_inj r1 (by rw [hk, z])))]
        exact ns_val hk r q2
theorem ns_map {kw w : W} {key : NestedKey} {v : V} {u : Value} (hk : nkOf kw = some key) (ru : RelV v u) (rw0 : RelW k ι n H w v) : ∀ {kvs : List (W × W)} {xs : List (NestedKey × Addr × V)} {us : List Value}, RelNs k ι n H kvs xs → Vals (xs.map (·.2.2)) us →
    ∃ xs' us', RelNs k ι n H (kvs.map fun p => if p.1 = kw then (p.1, w) else p) xs' ∧ Vals (xs'.map (·.2.2)) us' ∧ zipN xs' us' = (zipN xs us).map (putAt key u) ∧ xs'.length = xs.length
  | [], xs, us, r, rv => by
    have r : xs = [] := r
    subst r
    cases rv
    exact ⟨[], [], rfl, .nil, rfl, rfl⟩
  | p :: kvs, xs, us, r, rv => by
    obtain ⟨key', b, v', t, rfl, r0, r1, r2, r3, r⟩ := r
    cases rv with
    | cons q1 q2 =>
      rename_i u' us
      obtain ⟨xs', us', z1, z2, z3, z4⟩ := ns_map hk ru rw0 r q2
      have ez : zipN ((key', b, v') :: t) (u' :: us) = (key', b, u') :: zipN t us := rfl
      rw [ez, List.map_cons, List.map_cons]
      by_cases e : p.1 = kw
      · have e2 : key' = key := by
          rw [e, hk] at r1
          exact (Option.some.inj r1).symm
        refine ⟨(key', b, v) :: xs', u :: us', ?_, .cons ru z2, ?_, by rw [List.length_cons, z4]; rfl⟩
        · rw [if_pos e]
          exact ⟨key', b, v, xs', rfl, r0, r1, r2, rw0, z1⟩
        · show (key', b, u) :: zipN xs' us' = _
          rw [z3]
          unfold putAt
          rw [if_pos e2]
      · have e2 : ¬ key' = key := fun z => e (nk_inj r1 (by rw [hk, z]))
        refine ⟨(key', b, v') :: xs', u' :: us', ?_, .cons q1 z2, ?_, by rw [List.length_cons, z4]; rfl⟩
        · rw [if_neg e]
          exact ⟨key', b, v', xs', rfl, r0, r1, r2, r3, z1⟩
        · show (key', b, u') :: zipN xs' us' = _
          rw [z3]
          unfold putAt
          rw [if_neg e2]
theorem ns_snoc {kw w : W} {key : NestedKey} {b : Addr} {v : V} {u : Value} (h0 : keyT kw = true) (hk : nkOf kw = some key) (rb : RelW k ι n H kw (.ref b)) (ru : RelV v u) (rw0 : RelW k ι n H w v) : ∀ {kvs : List (W × W)} {xs : List (NestedKey × Addr × V)} {us : List Value}, RelNs k ι n H kvs xs → Vals (xs.map (·.2.2)) us →
    RelNs k ι n H (kvs ++ [(kw, w)]) (xs ++ [(key, b, v)]) ∧ Vals ((xs ++ [(key, b, v)]).map (·.2.2)) (us ++ [u]) ∧ zipN (xs ++ [(key, b, v)]) (us ++ [u]) = zipN xs us ++ [(key, b, u)]
  | [], xs, us, r, rv => by
    have r : xs = [] := r
    subst r
    cases rv
    exact ⟨⟨key, b, v, [], rfl, h0, hk, rb, rw0, rfl⟩, .cons ru .nil, rfl⟩
  | p :: kvs, xs, us, r, rv => by
    obtain ⟨key', b', v', t, rfl, r0, r1, r2, r3, r⟩ := r
    cases rv with
    | cons q1 q2 =>
      rename_i u' us
      obtain ⟨z1, z2, z3⟩ := ns_snoc h0 hk rb ru rw0 r q2
      exact ⟨⟨key', b', v', _, rfl, r0, r1, r2, r3, z1⟩, .cons q1 z2, congrArg (List.cons (key', b', u')) z3⟩
theorem ns_put {kw w : W} {key : NestedKey} {b : Addr} {v : V} {u : Value} {kvs : List (W × W)} {xs : List (NestedKey × Addr × V)} {us : List Value} (h0 : keyT kw = true) (hk : nkOf kw = some key) (rb : RelW k ι n H kw (.ref b)) (ru : RelV v u) (rw0 : RelW k ι n H w v)
    (r : RelNs k ι n H kvs xs) (rv : Vals (xs.map (·.2.2)) us) : ∃ xs' us', RelNs k ι n H (dicPut kvs kw w) xs' ∧ Vals (xs'.map (·.2.2)) us' ∧ zipN xs' us' = storedH (zipN xs us) key b u ∧ xs'.length ≤ xs.length + 1 := by
  unfold dicPut storedH
  rcases ns_val hk r rv with ⟨e1, e2⟩ | ⟨w', b', v', u', e1, e2, _⟩
  · rw [e1, e2]
    obtain ⟨z1, z2, z3⟩ := ns_snoc h0 hk rb ru rw0 r rv
    exact ⟨_, _, z1, z2, z3, by rw [List.length_append]; exact Nat.le_refl _⟩
  · rw [e1, e2]
    obtain ⟨xs', us', z1, z2, z3, z4⟩ := ns_map hk ru rw0 r rv
    exact ⟨xs', us', z1, z2, z3, by omega⟩
theorem dicPut_ne {kvs : List (W × W)} {kw w : W} : dicPut kvs kw w ≠ [] := by
  unfold dicPut
  split
  · rename_i z
    cases kvs with
    | nil => cases z
    | cons _ _ => simp
  · simp
/-- what is known of a dict whose keys are tuples, or of an empty one -/
theorem dn_any {pins : List (Addr × Obj)} {σ : L2.St} {s : Shared} {l : Nat} {kvs : List (W × W)} (hK : X.K = k.K) (hw : X.w = k.w) (I : L2.Inv X pins σ H s) (r : R k ι h H) (e : h[l]? = some (.dic kvs)) (ok : kvs.all (fun p => keyT p.1) = true) :
    ∃ xs us, RelNs k ι h.length H kvs xs ∧ Vals (xs.map (·.2.2)) us ∧ s.heap.DictOfH (nestedKind X.prog X.w) (ι l) (zipN xs us) ∧ xs.length ≤ sizeLine ∧ (ι l == sysModules) = false ∧ Mut (H (ι l)) := by
  rcases r.obj l _ e with ⟨xs, q1, q2⟩ | ⟨q0, xs, q1, q2⟩
  · cases kvs with
    | cons p ps =>
      obtain ⟨key, _, _, _, q3, _⟩ := q2
      rw [List.all_cons, Bool.and_eq_true] at ok
      have : keyS p.1 = true := by
        revert q3
        cases p.1 <;> intro q3 <;> first | rfl | cases q3
      exact (keyS_T this ok.1).elim
    | nil =>
      have q2 : xs = [] := q2
      subst q2
      obtain ⟨z, hd, vs, rel, o, es, ep, h1, h2, h3, h4, h5, h6⟩ := dk_of I.hok q1
      cases rel
      have he : es.toList = [] := by
        have := PySem.Pairs.length h5
        exact List.eq_nil_of_length_eq_zero this
      exact ⟨[], [], rfl, .nil, ⟨o, es, ep, h1, h2, h3, he, (fun _ z => nomatch z), List.nodup_nil⟩, Nat.zero_le _, hd, by rw [q1]; trivial⟩
  · obtain ⟨⟨z, hd, nd, us, rv, o, es, ep, h1, h2, h3, h4⟩, _⟩ := (show ObjOk X.prog X.w H s.heap (ι l) (DicN k.w (ι l) xs) from I.hok _ _ q1)
    refine ⟨xs, us, q2, rv, ⟨o, es, ep, h1, h2, h3, ?_, ns_is hK I q2 rv, by rw [zipN_keys rv]; exact nd⟩, z, hd, by rw [q1]; trivial⟩
    rw [h4, zipN_entries rv, hw]
theorem dn_new {P : Program} {w : World} {H' : Hp} {h' : Heap} {a : Addr} {xs : List (NestedKey × Addr × V)} {us : List Value} (z : xs.length ≤ sizeLine) (hd : (a == sysModules) = false) (rv : Vals (xs.map (·.2.2)) us) (dd : h'.DictOfH (nestedKind P w) a (zipN xs us)) :
    ObjOk P w H' h' a (DicN w a xs) := by
  obtain ⟨o, es, ep, h1, h2, h3, h4, h5, h6⟩ := dd
  rw [zipN_keys rv] at h6
  rw [zipN_entries rv] at h4
  exact ⟨⟨z, hd, h6, us, rv, o, es, ep, h1, h2, h3, h4⟩, ⟨o, h1⟩, fun g1 g2 ⟨z, hd, nd, us, rv, o, es, ep, h1, h2, h3, h4⟩ kk => ⟨z, hd, nd, us, rv, o, es, ep, kk _ h1, h2, h3, h4⟩⟩
/-! ### what is done with a dict -/
section
variable {pins : List (Addr × Obj)} {σ : L2.St} {s : Shared} {A : Around} {E : Value → Shared → Prop} {l : Nat} {kvs : List (W × W)} {kw : W} {y : V} {u : Value}
theorem dicOk_or (ok : dicOk kvs kw = true) : dicOkS kvs kw = true ∨ (keyT kw = true ∧ kvs.all (fun p => keyT p.1) = true) := by
  unfold dicOk at ok
  rw [Bool.or_eq_true, Bool.and_eq_true, Bool.and_eq_true] at ok
  rcases ok with ok | ok
  · exact .inl (by unfold dicOkS; rw [ok.1, ok.2]; rfl)
  · exact .inr ok
theorem keyT_ref (h0 : keyT kw = true) (ry : RelW k ι n H kw y) (ru : RelV y u) : ∃ b, y = .ref b ∧ u = .ref b ∧ RelW k ι n H kw (.ref b) := by
  cases kw with
  | tup ws =>
    have ry0 := ry
    unfold RelW at ry
    obtain ⟨b, vs, rfl, _⟩ := ry
    exact ⟨b, rfl, ru, ry0⟩
  | _ => cases h0
theorem dic_is (I : L2.Inv X pins σ H s) (hK : X.K = k.K) (hw : X.w = k.w) (r : R k ι h H) (e : h[l]? = some (.dic kvs)) : s.TypeIs (.ref (ι l)) "dict" ∧ ∀ b, Value.ref (ι l) = .ref b → ∃ ob, s.heap.get? b = some ob ∧ ob.dict = none := by
  rcases r.obj l _ e with ⟨xs, q1, _⟩ | ⟨_, xs, q1, _⟩
  · obtain ⟨_, hd, vs, _, dd⟩ := dk_of I.hok q1
    refine ⟨dd.typeIs, fun b q => ?_⟩
    cases q
    obtain ⟨ob, _, _, h1, h2, _⟩ := dd
    exact ⟨ob, h1, h2.2.1⟩
  · obtain ⟨⟨z, hd, nd, us, rv, o, es, ep, h1, h2, h3, h4⟩, _⟩ := (show ObjOk X.prog X.w H s.heap (ι l) (DicN k.w (ι l) xs) from I.hok _ _ q1)
    refine ⟨⟨o, h1, h2.1⟩, fun b q => ?_⟩
    cases q
    exact ⟨o, h1, h2.2.1⟩
theorem room_nk (hu : A.units + 65 < cLine) : (nestedKind X.prog X.w).room A.in1 := by
  show A.units + 1 + 8 < cLine
  omega
/-- y in d -/
theorem room_nk0 (hu : A.units + 65 < cLine) : (nestedKind X.prog X.w).room A := by
  show A.units + 8 < cLine
  omega
theorem dic_in {Q : Value → Shared → Prop} (hu : A.units + 65 < cLine) (I : L2.Inv X pins σ H s) (hK : X.K = k.K) (hw : X.w = k.w) (r : R k ι h H) (e : h[l]? = some (.dic kvs)) (ok : dicOk kvs kw = true) (ry : RelW k ι h.length H kw y) (ru : RelV y u)
    (hq : ∀ s', L2.Inv X pins σ H s' → Q (.bool (dicGet kvs kw).isSome) s') : wpAny (model X.prog X.w) A (compareOp .In u (.ref (ι l))) Q E s := by
  rcases dicOk_or ok with ok | ⟨h0, ok⟩
  · obtain ⟨xs, key, e1, e2, e3⟩ := dk_any r e ok
    obtain rfl := keyOf_V ry e3
    refine d_in (by omega) I (DGet.k e1) ru fun s' I' => ?_
    rcases ks_val e3 e2 with ⟨z1, z2⟩ | ⟨w, v, z1, z2, _⟩
    · have := hq s' I'
      rw [z1] at this
      rw [z2]
      exact this
    · have := hq s' I'
      rw [z1] at this
      rw [z2]
      exact this
  · obtain ⟨xs, us, q1, q2, q3, q4, q5, _⟩ := dn_any hK hw I r e ok
    obtain ⟨b, rfl, rfl, rb⟩ := keyT_ref h0 ry ru
    obtain ⟨key, e3, e4⟩ := keyT_nk h0
    refine wpAny_in_heap (room_nk hu) ⟨nested_is hK I rb rfl e3, e4⟩ q5 q3 ?_
    have eq : (atKey (zipN xs us) key).isSome = (dicGet kvs kw).isSome := by
      rcases ns_val e3 q1 q2 with ⟨z1, z2⟩ | ⟨w, b', v, u', z1, z2, _⟩
      · rw [z1, z2]
        rfl
      · rw [z1, z2]
        rfl
    rw [eq]
    exact hq _ (I.tok _)
theorem dic_notIn {Q : Value → Shared → Prop} (hu : A.units + 65 < cLine) (I : L2.Inv X pins σ H s) (hK : X.K = k.K) (hw : X.w = k.w) (r : R k ι h H) (e : h[l]? = some (.dic kvs)) (ok : dicOk kvs kw = true) (ry : RelW k ι h.length H kw y) (ru : RelV y u)
    (hq : ∀ s', L2.Inv X pins σ H s' → Q (.bool (!(dicGet kvs kw).isSome)) s') : wpAny (model X.prog X.w) A (compareOp .NotIn u (.ref (ι l))) Q E s := by
  rcases dicOk_or ok with ok | ⟨h0, ok⟩
  · obtain ⟨xs, key, e1, e2, e3⟩ := dk_any r e ok
    obtain rfl := keyOf_V ry e3
    refine d_notIn (by omega) I (DGet.k e1) ru fun s' I' => ?_
    rcases ks_val e3 e2 with ⟨z1, z2⟩ | ⟨w, v, z1, z2, _⟩
    · have := hq s' I'
      rw [z1] at this
      rw [z2]
      exact this
    · have := hq s' I'
      rw [z1] at this
      rw [z2]
      exact this
  · obtain ⟨xs, us, q1, q2, q3, q4, q5, _⟩ := dn_any hK hw I r e ok
    obtain ⟨b, rfl, rfl, rb⟩ := keyT_ref h0 ry ru
    obtain ⟨key, e3, e4⟩ := keyT_nk h0
    refine wpAny_notIn_heap (room_nk hu) ⟨nested_is hK I rb rfl e3, e4⟩ q5 q3 ?_
    have eq : (atKey (zipN xs us) key).isSome = (dicGet kvs kw).isSome := by
      rcases ns_val e3 q1 q2 with ⟨z1, z2⟩ | ⟨w, b', v, u', z1, z2, _⟩
      · rw [z1, z2]
        rfl
      · rw [z1, z2]
        rfl
    rw [eq]
    exact hq _ (I.tok _)
/-- d[y] -/
theorem dic_getItem {w : W} (hu : A.units + 65 < cLine) (I : L2.Inv X pins σ H s) (hK : X.K = k.K) (hw : X.w = k.w) (r : R k ι h H) (e : h[l]? = some (.dic kvs)) (ok : dicOk kvs kw = true) (hg : dicGet kvs kw = some w) (ry : RelW k ι h.length H kw y) (ru : RelV y u) :
    ∃ v w', RelV v w' ∧ RelW k ι h.length H w v ∧ ∀ Q : Value → Shared → Prop, (∀ s', L2.Inv X pins σ H s' → Q w' s') → wpAny (model X.prog X.w) A (getItem (.ref (ι l)) u) Q E s := by
  rcases dicOk_or ok with ok | ⟨h0, ok⟩
  · obtain ⟨xs, key, e1, e2, e3⟩ := dk_any r e ok
    obtain rfl := keyOf_V ry e3
    rcases ks_val e3 e2 with ⟨z1, z2⟩ | ⟨w', v, z1, z2, z3⟩
    · rw [hg] at z1
      cases z1
    · rw [hg] at z1
      cases z1
      obtain ⟨_, hd, vs, rel, dd⟩ := dk_of I.hok e1
      obtain ⟨x, hx, rx⟩ := RelO.some_of (v := v) (o := valueAt vs key) (by rw [← z2]; exact rel.val key)
      exact ⟨v, x, rx, z3, fun Q hq => wpAny_getItem_of (kV_is ru) dd.mapOf hx (hq _ (I.tok _))⟩
  · obtain ⟨xs, us, q1, q2, q3, q4, q5, _⟩ := dn_any hK hw I r e ok
    obtain ⟨b, rfl, rfl, rb⟩ := keyT_ref h0 ry ru
    obtain ⟨key, e3, e4⟩ := keyT_nk h0
    rcases ns_val e3 q1 q2 with ⟨z1, z2⟩ | ⟨w', b', v, u', z1, z2, z3, z4⟩
    · rw [hg] at z1
      cases z1
    · rw [hg] at z1
      cases z1
      exact ⟨v, u', z3, z4, fun Q hq => wpAny_getItem_heap (room_nk hu) ⟨nested_is hK I rb rfl e3, e4⟩ q3 z2 (hq _ (I.tok _))⟩
/-- d.get(y, d) -/
theorem dic_get2 {d : W} {z : V} {uz : Value} {Q : Value → Shared → Prop} (hu : A.units + 65 < cLine) (I : L2.Inv X pins σ H s) (hK : X.K = k.K) (hw : X.w = k.w) (r : R k ι h H) (e : h[l]? = some (.dic kvs)) (ok : dicOk kvs kw = true) (ry : RelW k ι h.length H kw y) (ru : RelV y u)
    (rz : RelW k ι h.length H d z) (rvz : RelV z uz) (hq : ∀ v w' s', L2.Inv X pins σ H s' → RelV v w' → RelW k ι h.length H ((dicGet kvs kw).getD d) v → Q w' s') : wpAny (model X.prog X.w) A (call (.builtin "dict.get") [.ref (ι l), u, uz]) Q E s := by
  rcases dicOk_or ok with ok | ⟨h0, ok⟩
  · obtain ⟨xs, key, e1, e2, e3⟩ := dk_any r e ok
    obtain rfl := keyOf_V ry e3
    refine d_get2 (by omega) I (DGet.k e1) ru rvz fun w' s' I' r' => hq _ w' s' I' r' ?_
    rcases ks_val e3 e2 with ⟨z1, z2⟩ | ⟨w', v, z1, z2, z3⟩
    · rw [z1, z2]
      exact rz
    · rw [z1, z2]
      exact z3
  · obtain ⟨xs, us, q1, q2, q3, q4, q5, _⟩ := dn_any hK hw I r e ok
    obtain ⟨b, rfl, rfl, rb⟩ := keyT_ref h0 ry ru
    obtain ⟨key, e3, e4⟩ := keyT_nk h0
    refine call_meetsIn PySem.F.slot_dict_get q3.typeIs PySem.F.entry_dict_get (PySem.F.args_dict_get_3 _ _ _) (meetsH_dict_get_default (nestedKind X.prog X.w) (ι l) b q5 uz) ⟨room_nk hu, key, _, ⟨nested_is hK I rb rfl e3, e4⟩, q3, ?_⟩
    rcases ns_val e3 q1 q2 with ⟨z1, z2⟩ | ⟨w', b', v, u', z1, z2, z3, z4⟩
    · rw [z2]
      exact hq z uz _ (I.tok _) rvz (by rw [z1]; exact rz)
    · rw [z2]
      exact hq v u' _ (I.tok _) z3 (by rw [z1]; exact z4)
theorem stored_len {xs : List (NestedKey × Addr × V)} {us : List Value} (r : Vals (xs.map (·.2.2)) us) (z : xs.length ≤ sizeLine) : (zipN xs us).length ≤ sizeLine := by
  rw [zipN_len r]
  exact z
/-- d[y] = z -/
theorem dic_setItem {d : W} {z : V} {uz : Value} {Q : Unit → Shared → Prop} (hu : A.units + 65 < cLine) (I : L2.Inv X pins σ H s) (hK : X.K = k.K) (hw : X.w = k.w) (r : R k ι h H) (e : h[l]? = some (.dic kvs)) (ok : dicOk kvs kw = true) (hz : kvs.length < 1000000) (ry : RelW k ι h.length H kw y) (ru : RelV y u)
    (rz : RelW k ι h.length H d z) (rvz : RelV z uz) (hq : ∀ ho s', L2.Inv X pins σ (L2.upd H (ι l) ho) s' → Post k ι h H ι (h.set l (.dic (dicPut kvs kw d))) (L2.upd H (ι l) ho) → Q () s') : wpAny (model X.prog X.w) A (setItem (.ref (ι l)) u uz) Q E s := by
  have hl : l < h.length := (List.getElem?_eq_some_iff.mp e).1
  rcases dicOk_or ok with ok | ⟨h0, ok⟩
  · obtain ⟨xs, key, e1, e2, e3⟩ := dk_any r e ok
    obtain rfl := keyOf_V ry e3
    have e4 : xs.length < sizeLine := by
      rw [← ks_len e2, sizeLine_eq]
      omega
    refine d_setItem (by omega) I (DPut.k (k := key) (v := z) e1 e4) ru rvz fun s' I' => hq _ s' I' ?_
    exact Post.set r hl fun H' kp q => .inl ⟨_, q, ks_put e3 (rz.keep kp) (RelKs.keep kp _ e2)⟩
  · obtain ⟨xs, us, q1, q2, q3, q4, q5, q6⟩ := dn_any hK hw I r e ok
    obtain ⟨b, rfl, rfl, rb⟩ := keyT_ref h0 ry ru
    obtain ⟨key, e3, e4⟩ := keyT_nk h0
    have e5 : xs.length + 1 ≤ sizeLine := by
      rw [← ns_len q1, sizeLine_eq]
      omega
    obtain ⟨xs', us', p1, p2, p3, p4⟩ := ns_put h0 e3 rb rvz rz q1 q2
    refine wpAny_setItem_heap (hsz := stored_len q2 q4) (room_nk hu) ⟨nested_is hK I rb rfl e3, e4⟩ q3 fun h' dd hs => hq (DicN X.w (ι l) xs') _ ?_ ?_
    · rw [← p3] at dd
      obtain ⟨o, es, ep, g1, g2⟩ := id dd
      exact d_write I q6 hs ⟨o, g1⟩ (dn_new (by omega) q5 p2 dd)
    · rw [hw]
      exact Post.set r hl fun H' kp q => .inr ⟨dicPut_ne, _, q, RelNs.keep kp _ p1⟩
/-- a display's one pair -/
theorem dic_store1 {d : W} {z : V} {uz : Value} {Q : PUnit → Shared → Prop} (hu : A.units + 65 < cLine) (I : L2.Inv X pins σ H s) (hK : X.K = k.K) (hw : X.w = k.w) (r : R k ι h H) (e : h[l]? = some (.dic [])) (ok : (keyS kw || keyT kw) = true) (ry : RelW k ι h.length H kw y) (ru : RelV y u)
    (rz : RelW k ι h.length H d z) (rvz : RelV z uz) (hq : ∀ ho s', L2.Inv X pins σ (L2.upd H (ι l) ho) s' → Post k ι h H ι (h.set l (.dic [(kw, d)])) (L2.upd H (ι l) ho) → Q .unit s') : wpAny (model X.prog X.w) A (storeAll (ι l) [(u, uz)]) Q E s := by
  have hl : l < h.length := (List.getElem?_eq_some_iff.mp e).1
  rw [Bool.or_eq_true] at ok
  rcases ok with ok | ok
  · obtain ⟨xs, key, e1, e2, e3⟩ := dk_any r e (kw := kw) (by unfold dicOkS; rw [ok]; rfl)
    obtain rfl := keyOf_V ry e3
    have e2 : xs = [] := e2
    subst e2
    obtain ⟨z1, hd, vs, rel, dd⟩ := dk_of I.hok e1
    cases rel
    refine wpAny_storeAll (knd := mixKind X.prog X.w) [(u, uz)] [(key, uz)] [] s _ ⟨kV_is ru, rfl, trivial⟩ dd (by rw [sizeLine_eq]; simp) fun h' dd' hs => hq (.dK [(key, z)]) _ ?_ ?_
    · have he : ∃ q, h'.get? (ι l) = some q := let ⟨q, _, _, hq, _⟩ := dd'; ⟨q, hq⟩
      exact d_write I (by rw [e1]; trivial) hs he (dk_new (by rw [sizeLine_eq]; simp) hd (.cons ⟨rfl, rvz⟩ .nil) dd')
    · exact Post.set r hl fun H' kp q => .inl ⟨_, q, key, z, [], rfl, e3, rz.keep kp, rfl⟩
  · obtain ⟨xs, us, q1, q2, q3, q4, q5, q6⟩ := dn_any hK hw I r e rfl
    obtain ⟨b, rfl, rfl, rb⟩ := keyT_ref ok ry ru
    obtain ⟨key, e3, e4⟩ := keyT_nk ok
    have q1 : xs = [] := q1
    subst q1
    obtain ⟨xs', us', p1, p2, p3, p4⟩ := ns_put ok e3 rb rvz rz (kvs := []) (xs := []) rfl q2
    refine wpAny_storeAllH (knd := nestedKind X.prog X.w) (room_nk0 hu) [(.ref b, uz)] [(key, b, uz)] (zipN [] us) s _ ⟨rfl, rfl, ⟨nested_is hK I rb rfl e3, e4⟩, trivial⟩ q3 (by rw [zipN_len q2, sizeLine_eq]; simp) fun h' tk dd hs => hq (DicN X.w (ι l) xs') _ ?_ ?_
    · have dd : h'.DictOfH (nestedKind X.prog X.w) (ι l) (storedH (zipN [] us) key b uz) := dd
      rw [← p3] at dd
      obtain ⟨o, es, ep, g1, g2⟩ := id dd
      exact d_write I q6 hs ⟨o, g1⟩ (dn_new (by rw [sizeLine_eq]; simp at p4; omega) q5 p2 dd)
    · rw [hw]
      exact Post.set r hl fun H' kp q => .inr ⟨by simp, _, q, RelNs.keep kp _ p1⟩
/-- d.setdefault(y, z) -/
theorem dic_setd {d : W} {z : V} {uz : Value} {Q : Value → Shared → Prop} (hu : A.units + 65 < cLine) (I : L2.Inv X pins σ H s) (hK : X.K = k.K) (hw : X.w = k.w) (r : R k ι h H) (e : h[l]? = some (.dic kvs)) (ok : dicOk kvs kw = true) (hz : kvs.length < 1000000) (ry : RelW k ι h.length H kw y) (ru : RelV y u)
    (rz : RelW k ι h.length H d z) (rvz : RelV z uz) (h1 : ∀ w v w' s', dicGet kvs kw = some w → L2.Inv X pins σ H s' → RelV v w' → RelW k ι h.length H w v → Q w' s')
    (h2 : dicGet kvs kw = none → ∀ ho s', L2.Inv X pins σ (L2.upd H (ι l) ho) s' → Post k ι h H ι (h.set l (.dic (dicPut kvs kw d))) (L2.upd H (ι l) ho) → ∀ w', RelV z w' → Q w' s') : wpAny (model X.prog X.w) A (call (.builtin "dict.setdefault") [.ref (ι l), u, uz]) Q E s := by
  have hl : l < h.length := (List.getElem?_eq_some_iff.mp e).1
  rcases dicOk_or ok with ok | ⟨h0, ok⟩
  · obtain ⟨xs, key, e1, e2, e3⟩ := dk_any r e ok
    obtain rfl := keyOf_V ry e3
    have e4 : xs.length < sizeLine := by
      rw [← ks_len e2, sizeLine_eq]
      omega
    refine d_setd I e1 ru rvz e4 (fun v hv w' s' I' r' => ?_) (fun hv w' s' I' r' => ?_)
    · rcases ks_val e3 e2 with ⟨z1, z2⟩ | ⟨w, v', z1, z2, z3⟩
      · rw [hv] at z2
        cases z2
      · rw [hv] at z2
        cases z2
        exact h1 w v w' s' z1 I' r' z3
    · rcases ks_val e3 e2 with ⟨z1, z2⟩ | ⟨w, v', z1, z2, z3⟩
      · exact h2 z1 _ s' I' (Post.set r hl fun H' kp q => .inl ⟨_, q, ks_put e3 (rz.keep kp) (RelKs.keep kp _ e2)⟩) w' r'
      · rw [hv] at z2
        cases z2
  · obtain ⟨xs, us, q1, q2, q3, q4, q5, q6⟩ := dn_any hK hw I r e ok
    obtain ⟨b, rfl, rfl, rb⟩ := keyT_ref h0 ry ru
    obtain ⟨key, e3, e4⟩ := keyT_nk h0
    have e5 : xs.length + 1 ≤ sizeLine := by
      rw [← ns_len q1, sizeLine_eq]
      omega
    obtain ⟨xs', us', p1, p2, p3, p4⟩ := ns_put h0 e3 rb rvz rz q1 q2
    refine call_setdefault_heap (hsz := stored_len q2 q4) (room_nk hu) ⟨nested_is hK I rb rfl e3, e4⟩ q5 q3 (fun p hp => ?_) fun hn h' dd hs => ?_
    · rcases ns_val e3 q1 q2 with ⟨z1, z2⟩ | ⟨w', b', v, u', z1, z2, z3, z4⟩
      · rw [hp] at z2
        cases z2
      · rw [hp] at z2
        cases z2
        exact h1 w' v u' _ z1 (I.tok _) z3 z4
    · rcases ns_val e3 q1 q2 with ⟨z1, z2⟩ | ⟨w', b', v, u', z1, z2, z3, z4⟩
      · refine h2 z1 (DicN X.w (ι l) xs') _ ?_ ?_ uz rvz
        · rw [← p3] at dd
          obtain ⟨o, es, ep, g1, g2⟩ := id dd
          exact d_write I q6 hs ⟨o, g1⟩ (dn_new (by omega) q5 p2 dd)
        · rw [hw]
          exact Post.set r hl fun H' kp q => .inr ⟨dicPut_ne, _, q, RelNs.keep kp _ p1⟩
      · rw [hn] at z2
        cases z2
/-- d.pop(y) -/
theorem dic_pop {w : W} {Q : Value → Shared → Prop} (I : L2.Inv X pins σ H s) (r : R k ι h H) (e : h[l]? = some (.dic kvs)) (ok : dicOkS kvs kw = true) (hg : dicGet kvs kw = some w) (ry : RelW k ι h.length H kw y) (ru : RelV y u)
    (hq : ∀ ho v w' s', L2.Inv X pins σ (L2.upd H (ι l) ho) s' → Post k ι h H ι (h.set l (.dic (dicDel kvs kw))) (L2.upd H (ι l) ho) → RelV v w' → RelW k ι h.length H w v → Q w' s') : wpAny (model X.prog X.w) A (call (.builtin "dict.pop") [.ref (ι l), u]) Q E s := by
  have hl : l < h.length := (List.getElem?_eq_some_iff.mp e).1
  obtain ⟨xs, key, e1, e2, e3⟩ := dk_any r e ok
  obtain rfl := keyOf_V ry e3
  rcases ks_val e3 e2 with ⟨z1, z2⟩ | ⟨w', v, z1, z2, z3⟩
  · rw [hg] at z1
    cases z1
  · rw [hg] at z1
    cases z1
    exact d_pop I e1 ru z2 (.inl rfl) fun w' s' I' r' => hq _ v w' s' I' (Post.set r hl fun H' kp q => .inl ⟨_, q, ks_del e3 (RelKs.keep kp _ e2)⟩) r' z3
/-- del d[y] -/
theorem dic_del {Q : Unit → Shared → Prop} (I : L2.Inv X pins σ H s) (r : R k ι h H) (e : h[l]? = some (.dic kvs)) (ok : dicOkS kvs kw = true) (hg : (dicGet kvs kw).isSome = true) (ry : RelW k ι h.length H kw y) (ru : RelV y u)
    (hq : ∀ ho s', L2.Inv X pins σ (L2.upd H (ι l) ho) s' → Post k ι h H ι (h.set l (.dic (dicDel kvs kw))) (L2.upd H (ι l) ho) → Q () s') : wpAny (model X.prog X.w) A (delItem (.ref (ι l)) u) Q E s := by
  have hl : l < h.length := (List.getElem?_eq_some_iff.mp e).1
  obtain ⟨xs, key, e1, e2, e3⟩ := dk_any r e ok
  obtain rfl := keyOf_V ry e3
  refine d_delItem I e1 ru ?_ fun s' I' => hq _ s' I' (Post.set r hl fun H' kp q => .inl ⟨_, q, ks_del e3 (RelKs.keep kp _ e2)⟩)
  rcases ks_val e3 e2 with ⟨z1, z2⟩ | ⟨w', v, z1, z2, z3⟩
  · rw [z1] at hg
    cases hg
  · rw [z2]
    rfl
theorem ns_keyT : ∀ {kvs : List (W × W)} {xs : List (NestedKey × Addr × V)}, RelNs k ι n H kvs xs → kvs.all (fun p => keyT p.1) = true
  | [], _, _ => rfl
  | p :: kvs, xs, r => by
    obtain ⟨key, b, v, t, rfl, r0, _, _, _, r⟩ := r
    rw [List.all_cons, r0, ns_keyT r]
    rfl
/-- len(d) -/
theorem dic_len {Q : Value → Shared → Prop} (I : L2.Inv X pins σ H s) (hK : X.K = k.K) (hw : X.w = k.w) (r : R k ι h H) (e : h[l]? = some (.dic kvs)) (hq : ∀ t s', L2.Inv X pins σ H s' → Q (.int kvs.length t) s') : wpAny (model X.prog X.w) A (call (.builtin "len") [.ref (ι l)]) Q E s := by
  rcases r.obj l _ e with ⟨xs, q1, q2⟩ | ⟨q0, xs, q1, q2⟩
  · refine d_len I (.of q1) fun t s' I' => ?_
    rw [← ks_len q2]
    exact hq t s' I'
  · have ok := ns_keyT q2
    obtain ⟨xs, us, q1, q2, q3, q4, q5, _⟩ := dn_any hK hw I r e ok
    refine call_len_dictH q5 q3 (by rw [zipN_len q2]; rw [sizeLine_eq] at q4; omega) ?_
    rw [zipN_len q2, ← ns_len q1]
    exact hq _ _ (I.tok _)
end
end
end AM
/-! set(list of numbers), then sorted, len; count of truths; str of data. -/
namespace AM
open PySem PySem.Spec PyProof.Rows L2
section
variable {P : Program} {w : World} {A : Around} {E : Value → Shared → Prop} {s : Shared}
abbrev setO (w : World) : Obj := { cls := .type "set", dict := none, data := .set #[] 0 (.fresh 0 0 (!w.params.followText "set-order")) }
/-- what stands behind set(l) -/
def MadeSet (w : World) (s : Shared) (ns : List Int) (h' : Heap) : Prop := ∃ c, c ≤ ns.length ∧ SetR w h' s.heap.objs.size (fun j => decide (j ∈ ns)) c ∧ ∀ b o, s.heap.get? b = some o → h'.get? b = some o
theorem set_init_list {l : Addr} {items : Array Value} (ns : List Int) (hh : A.handled = none) (hl : s.heap.IsList l items) (hit : IntsAre items.toList ns) (hb : ns.length + 1 < scanBound) :
    codeAny (model P w) A (.call (.builtin "set.__init__") ⟨[.ref s.heap.objs.size, .ref l], []⟩) (wants (fun r s₂ => r = .none ∧ ∃ h' tk, s₂ = { s with heap := h', toks := tk } ∧ MadeSet w s ns h') E) { s with heap := s.heap.push (setO w) } := by
  have hisz : items.size = ns.length := by
    have q := IntsAre.length hit
    rw [Array.length_toList] at q
    exact q
  have new : (s.heap.push (setO w)).get? s.heap.objs.size = some (setO w) := Heap.get?_push_size _ rfl
  have isS : Shared.TypeIs { s with heap := s.heap.push (setO w) } (.ref s.heap.objs.size) "set" := ⟨_, new, rfl⟩
  refine codeAny_call_builtin F.called_set.init.plain F.entry_set_init (check_set_init_1 isS ?_)
  obtain ⟨⟨ocls, odict, odata, oslots⟩, hol, hcl, nl, hdl⟩ := hl
  simp only at hcl hdl
  subst hcl hdl
  have at_ : (s.heap.push (setO w)).get? l = some { cls := .type "list", dict := odict, data := .seq items nl, slots := oslots } := Heap.get?_push_of_some _ hol
  have h1 := F.sub_list_set
  have h2 := F.sub_list_frozenset
  have h3 : (Value.type "list" == Value.type "dict") = false := by decide
  have isL : (s.heap.push (setO w)).IsList l items := ⟨_, at_, rfl, nl, rfl⟩
  unfold Builtin.«set.__init__» noKeywords Builtin.Frozenset.updateFrom
  generalize it : pyIter = PI
  wp_walk
  subst it
  refine wpAny_pyIter_list isL (wpAny_bind (wpAny_runValue ?_))
  have lt := Heap.lt_size hol
  have size : (s.heap.push (setO w)).objs.size = s.heap.objs.size + 1 := Heap.size_push ..
  have ne1 : l ≠ (s.heap.push (setO w)).objs.size := by
    rw [size]
    exact Nat.ne_of_lt (Nat.lt_succ_of_lt lt)
  have off : s.heap.objs.size ∉ [(s.heap.push (setO w)).objs.size, l] := by
    rw [size]
    simp only [List.mem_cons, List.mem_singleton, List.not_mem_nil, or_false, not_or]
    exact ⟨Nat.ne_of_lt (Nat.lt_succ_self _), Nat.ne_of_gt lt⟩
  have vals : ∀ (i : Nat) (v : Value), items[i]? = some v → ∃ k t, ns[i]? = some k ∧ v = .int k t := fun i v hv => by
    have hi : i < ns.length := by rw [← hisz]; exact (Array.getElem?_eq_some_iff.mp hv).1
    obtain ⟨t, e⟩ := IntsAre.int_at hit i v (by rw [Array.getElem?_toList]; exact hv)
    exact ⟨ns[i], t, List.getElem?_eq_getElem hi, by rw [e, List.getD_eq_getElem?_getD, List.getElem?_eq_getElem hi] <;> rfl⟩
  refine set_update_ints ((Walks.list (by simp [hh]) _ l ne1 items).toS) s.heap.objs.size off ns hisz hb vals (items.size - 0) 0 _ (by omega) (Nat.zero_le _) ⟨⟨_, Heap.get?_push_size _ rfl, rfl, rfl⟩, isL.push _⟩
    ⟨0, Nat.le_refl 0, setR_new_at (Heap.get?_push_of_some _ new)⟩ fun s' c' mv hc R => ?_
  obtain ⟨h', g2, d', tk', os'⟩ := s'
  have eg : g2 = s.gens := mv.gens
  have ed : d' = s.drawn := mv.drawn
  have eo : os' = s.os := mv.os
  subst eg ed eo
  show wpAny _ _ _ _ _ _
  refine wpAny_pure ?_
  show wpAny _ _ (ret Value.none) _ _ _
  refine wpAny_pure ⟨rfl, h', tk', rfl, c', by omega, R, fun b o e => ?_⟩
  have hb := Heap.lt_size e
  exact mv.heap b o (by
    rw [size]
    simp only [List.mem_cons, List.mem_singleton, List.not_mem_nil, or_false, not_or]
    exact ⟨Nat.ne_of_lt hb, Nat.ne_of_lt (Nat.lt_succ_of_lt hb)⟩) (Heap.get?_push_of_some _ (Heap.get?_push_of_some _ e))
theorem call_set_listI {l : Addr} {items : Array Value} (ns : List Int) {Q : Value → Shared → Prop} (hh : A.handled = none) (hl : s.heap.IsList l items) (hit : IntsAre items.toList ns) (hb : ns.length + 1 < scanBound)
    (h : ∀ (h' : Heap) (tk : Nat), MadeSet w s ns h' → Q (.ref s.heap.objs.size) { s with heap := h', toks := tk }) : wpAny (model P w) A (call (.type "set") [.ref l]) Q E s := by
  obtain ⟨c, tl, mro⟩ := F.called_set.mro
  have made := F.called_set.made
  have sub := F.called_set.sub
  refine wpAny_call (codeAny_of_tree ?_)
  show wpAny _ _ (callAny (.type "set") _) _ _ _
  refine wpAny_pure ⟨Code.quiet_builtin _ (by decide +kernel), codeAny_builtin F.entry_type_call ?_⟩
  rw [Around.under_plain (weight_type_call_type "set" [.ref l] []) rfl]
  have h1 := F.called_set.notType
  have h2 := F.called_set.canCreate
  have h3 := F.typeCall_set_1 (.ref l)
  repeat (any_goals (first | assumption | wp_step))
  refine codeAny_mono (code_set_led1 (.ref l) (E := E) (Q₁ := fun obj s₁ => obj = .ref s.heap.objs.size ∧ s₁ = { s with heap := s.heap.push (setO w) }) ⟨rfl, rfl⟩) fun r s₁ hr => ?_
  cases r with
  | error e => exact hr
  | ok fl =>
    cases fl with
    | ret obj =>
      obtain ⟨rfl, rfl⟩ := hr
      have isS : Shared.TypeIs { s with heap := s.heap.push (setO w) } (.ref s.heap.objs.size) "set" := ⟨_, Heap.get?_push_size _ rfl, rfl⟩
      have look := F.called_set.init.lookup
      have bind := F.called_set.init.bind (.ref s.heap.objs.size)
      repeat (any_goals (first | assumption | wp_step))
      refine codeAny_mono (set_init_list (P := P) (A := A.in1) (E := E) ns (by simpa using hh) hl hit hb) fun r₂ s₂ hr₂ => ?_
      cases r₂ with
      | error e => exact hr₂
      | ok fl₂ =>
        cases fl₂ with
        | ret r =>
          obtain ⟨rfl, h', tk, rfl, M⟩ := hr₂
          repeat (any_goals (first | assumption | wp_step))
          exact h _ _ M
        | _ => exact hr₂.elim
    | _ => exact hr.elim
end
/-! ### set, sorted, len, count, str as rules -/
section
variable {X : Cx}
theorem mem_dedI {k : Int} : ∀ {l : List Int}, k ∈ dedI l ↔ k ∈ l
  | [] => Iff.rfl
  | i :: r => by
    unfold dedI
    split
    · rename_i hi
      rw [mem_dedI (l := r), List.mem_cons]
      exact ⟨.inr, fun h => h.elim (fun e => e ▸ hi) id⟩
    · rw [List.mem_cons, List.mem_cons, mem_dedI (l := r)]
theorem nodup_dedI : ∀ {l : List Int}, (dedI l).Nodup
  | [] => .nil
  | i :: r => by
    unfold dedI
    split
    · exact nodup_dedI
    · rename_i hi
      exact List.nodup_cons.mpr ⟨fun z => hi (mem_dedI.mp z), nodup_dedI⟩
theorem nodup_len {a b : List Int} (ha : a.Nodup) (hb : b.Nodup) (h : ∀ k, k ∈ a ↔ k ∈ b) : a.length = b.length := ((List.perm_ext_iff_of_nodup ha hb).mpr h).length_eq
theorem setR_count {w : World} {h : Heap} {a : Addr} {ns : List Int} {c : Nat} (R : SetR w h a (fun j => decide (j ∈ ns)) c) : c = (dedI ns).length := by
  obtain ⟨o, es, ep, t, ho, h1, h2, h3, h4, h5, h6, h7, h8, _⟩ := R
  have e := nodup_len (a := es.toList.map L2.keyOf) (b := dedI ns) h4 nodup_dedI fun k => by
    rw [← h5 k, mem_dedI]
    simp
  rw [List.length_map] at e
  rw [← h8, ← e]
  simp
/-- set(xs) of numbers -/
def rSetI (K : PySem.W.Frag) (w : World) : List V → Hp → VK → Prop := fun xs H Q => ∃ l ns, xs = [.ref l] ∧ SqL K H l (ns.map V.int) ∧ ns.length < 1000 ∧ ∀ p, H p = none → Q (.ref p) (upd H p (SetO w p (fun j => decide (j ∈ ns)) (dedI ns).length))
theorem cr_setI (hc : X.calm = true) : CallR X (.type "set") (rSetI X.K X.w) := by
  intro pins s σ H xs us Q I r h
  obtain ⟨l, ns, rfl, hl, hz, q⟩ := h
  rw [Vals.ref1 r]
  obtain ⟨its, rv, pl, _⟩ := I.list hl
  refine call_set_listI (P := X.prog) (w := X.w) ns (I.ok.hd hc) pl.isList (by simpa using RZ.intsAre_vals rv) (by unfold scanBound; omega) fun h' tk M => ?_
  obtain ⟨c, hcn, R, kp⟩ := M
  have ec := setR_count R
  subst ec
  exact ⟨.ref s.heap.objs.size, _, I.laid (t' := tk) kp (Nat.le_refl _) (setO_new R), rfl, q _ (I.hok.fresh (Nat.le_refl _))⟩
/-- len(set) -/
def rLenSet (w : World) : List V → Hp → VK → Prop := fun vs H Q => ∃ (a : Addr) (S : Int → Bool) (n : Nat), vs = [V.ref a] ∧ H a = some (SetO w a S n) ∧ n < 1000 ∧ Q (.int n) H
theorem cr_lenSet : CallR X (.builtin "len") (rLenSet X.w) := by
  intro pins s σ H vs us Q I r h
  obtain ⟨a, S, n, rfl, ha, hz, q⟩ := h
  rw [Vals.ref1 r]
  obtain ⟨o, es, ep, t, ho, h1, h2, h3, h4, h5, h6, h7, h8, _⟩ := setO_get I ha
  refine call_len_set ho h1 h2 h7 (by omega) ⟨.int n, H, I.tok _, ⟨s.toks + 1, ?_⟩, q⟩
  rw [h8]
/-- list.count of truths -/
def rCntB (K : PySem.W.Frag) : V → List V → Hp → VK → Prop := fun x xs H Q => ∃ (p : Addr) (bs : List Bool) (b : Bool), x = .ref p ∧ xs = [.bl b] ∧ SqL K H p (bs.map V.bl) ∧ Q (.int (bs.count b : Nat)) H
theorem bools_count (b : Bool) : ∀ {bs : List Bool} {us : List Value}, Vals (bs.map V.bl) us → us.countP (isBoolOf b) = bs.count b
  | [], us, r => by
    cases r
    rfl
  | c :: bs, us, r => by
    cases r with
    | cons r1 r2 =>
      cases (show _ = Value.bool c from r1)
      rw [List.countP_cons, List.count_cons, bools_count b r2]
      cases c <;> cases b <;> rfl
theorem mt_countB : MtR X "list.count" (rCntB X.K) := by
  intro pins s σ H x xs v us Q I rx rxs h
  obtain ⟨p, bs, b, rfl, rfl, hs, q⟩ := h
  cases rx
  obtain ⟨u, rfl, ru⟩ := vals1 rxs
  cases (show u = Value.bool b from ru)
  obtain ⟨its, rv, ⟨⟨cls, dd, data, sl⟩, n, ho, hc, hdn, hd⟩, hlen⟩ := I.list hs
  simp only at hc hd
  subst hc hd
  have ra : ∀ {bs : List Bool} {us : List Value}, Vals (bs.map V.bl) us → ReadsAll s.heap us (bs.map PyData.bool) [] := by
    intro bs
    induction bs with
    | nil =>
      intro us r
      cases r
      exact .nil
    | cons c bs ih =>
      intro us r
      cases r with
      | cons r1 r2 =>
        cases (show _ = Value.bool c from r1)
        exact .cons (.bool c) (ih r2)
  have hall : ∀ bs : List Bool, (bs.map PyData.bool).all Shape.bool.has = true := fun bs => by
    induction bs with
    | nil => rfl
    | cons c bs ih => rw [List.map_cons, List.all_cons, ih]; rfl
  refine call_meets PySem.F.slot_list_count ⟨_, ho, rfl⟩ PySem.F.entry_list_count (PySem.F.args_list_count_2 _ _) (SeqAt.list_countAt p its.toArray n dd sl (.bool b) (isBoolOf b)) ⟨ho, fun y hy => eq_isBoolOf b (ra rv) (hall bs) y (by simpa using hy) _ _, ?_⟩
  refine ⟨.int (bs.count b : Nat), H, I.tok _, ⟨s.toks, ?_⟩, q⟩
  show Value.int ((its.toArray.toList.countP (isBoolOf b) : Nat) : Int) s.toks = _
  rw [show its.toArray.toList = its from rfl, bools_count b rv]
end
end AM
/-! Operations on values: the machine's and the hand layer's. -/
namespace AM
open PySem L2
abbrev Rel (α β : Type) := α → (Nat → Addr) → Nat → Hp → β → Prop
def ExD (k : Cst) (ι : Nat → Addr) (n : Nat) (H : Hp) (d : Option Addr) (xs : List Str) (ws : List W) : Prop :=
  (xs = [] ∧ ws = [] ∧ d = none) ∨ ∃ dd vs, d = some dd ∧ H dd = some (.xd (xs.zip vs)) ∧ RelWs k ι n H ws vs ∧ W.flats ws = true
def WPE (k : Cst) (Wx : WX) (σ : L2.St) {α β : Type} (r : Res α) (ι : Nat → Addr) (h : AH) (H : Hp) (rel : Rel α β) (Q : β → Hp → Prop) : Prop := match r with
  | .ok a h' => ∀ ι' H' b, Post k ι h H ι' h' H' → rel a ι' h'.length H' b → Q b H'
  | .exc c xs ws h' => ∀ ι' H' d, Post k ι h H ι' h' H' → ExD k ι' h'.length H' d xs ws → Wx (.ref (k.cA c)) d σ H'
  | .stuck => False
/-- no exception -/
def WPV (k : Cst) {α β : Type} (r : Res α) (ι : Nat → Addr) (h : AH) (H : Hp) (rel : Rel α β) (Q : β → Hp → Prop) : Prop := match r with
  | .ok a h' => ∀ ι' H' b, Post k ι h H ι' h' H' → rel a ι' h'.length H' b → Q b H'
  | _ => False
section
variable {k : Cst} {Wx : WX} {σ : L2.St} {α β γ δ : Type} {ι ι1 : Nat → Addr} {h h1 : AH} {H H1 : Hp} {rel : Rel α β} {rel2 : Rel γ δ}
theorem WPE.move {r : Res α} {Q : β → Hp → Prop} (r0 : R k ι h H) (p : Post k ι h H ι1 h1 H1) (w : WPE k Wx σ r ι h H rel Q) : WPE k Wx σ r ι1 h1 H1 rel Q := by
  cases r with
  | ok a h' => exact fun ι' H' b q e => w ι' H' b (p.trans r0 q) e
  | exc c xs ws h' => exact fun ι' H' d q e => w ι' H' d (p.trans r0 q) e
  | stuck => exact w
theorem WPE.bind {r : Res α} {f : α → AH → Res γ} {Q : δ → Hp → Prop} (r0 : R k ι h H) (w : WPE k Wx σ (r.bind f) ι h H rel2 Q) :
    WPE k Wx σ r ι h H rel fun b H1 => ∃ a ι1 h1, Post k ι h H ι1 h1 H1 ∧ rel a ι1 h1.length H1 b ∧ WPE k Wx σ (f a h1) ι1 h1 H1 rel2 Q := by
  cases r with
  | ok a h' => exact fun ι' H' b p e => ⟨a, ι', h', p, e, WPE.move (rel := rel2) r0 p w⟩
  | exc c xs ws h' => exact w
  | stuck => exact w
theorem WPE.imp {r : Res α} {Q Q' : β → Hp → Prop} (w : WPE k Wx σ r ι h H rel Q) (f : ∀ b H', Q b H' → Q' b H') : WPE k Wx σ r ι h H rel Q' := by
  cases r with
  | ok a h' => exact fun ι' H' b p e => f _ _ (w ι' H' b p e)
  | exc c xs ws h' => exact w
  | stuck => exact w
theorem WPV.of {r : Res α} {Q : β → Hp → Prop} (w : WPE k Wx σ r ι h H rel Q) (hn : ∀ c xs ws h', r ≠ .exc c xs ws h') : WPV k r ι h H rel Q := by
  cases r with
  | ok a h' => exact w
  | exc c xs ws h' => exact absurd rfl (hn _ _ _ _)
  | stuck => exact w
end
abbrev relW (k : Cst) : Rel W V := fun w ι n H v => RelW k ι n H w v
abbrev relB : Rel Bool Bool := fun a _ _ _ b => a = b
abbrev relWs (k : Cst) : Rel (List W) (List V) := fun w ι n H v => RelWs k ι n H w v
abbrev relI : Rel (Option Int) (Option Int) := fun a _ _ _ b => a = b
abbrev relU : Rel Unit Unit := fun _ _ _ _ _ => True

def bopOf : Bop → Operator
  | .add => .Add | .sub => .Sub | .mul => .Mult | .fdiv => .FloorDiv | .mod => .Mod | .pow => .Pow
def copOf : Cop → CmpOp
  | .eq => .Eq | .ne => .NotEq | .lt => .Lt | .le => .LtE | .gt => .Gt | .ge => .GtE | .isn => .Is | .isnt => .IsNot | .in_ => .In | .nin => .NotIn
theorem binW_nx {op : Bop} {x y : W} {h : AH} (c xs ws h') : binW op x y h ≠ .exc c xs ws h' := by
  unfold binW
  split <;> (try split) <;> (try split) <;> simp
theorem optR_nx {o f h} (c xs ws h') : optR o f h ≠ .exc c xs ws h' := by
  unfold optR
  split <;> simp
theorem cmpW_nx {op : Cop} {x y : W} {h : AH} (c xs ws h') : cmpW op x y h ≠ .exc c xs ws h' := by
  unfold cmpW
  split <;> first | exact optR_nx _ _ _ _ | (split <;> first | exact optR_nx _ _ _ _ | simp) | simp
def rB (k : Cst) (op : Bop) : R2 := fun x y H Q => ∃ ι h a b, R k ι h H ∧ RelW k ι h.length H a x ∧ RelW k ι h.length H b y ∧ WPV k (binW op a b h) ι h H (relW k) Q
def rC (k : Cst) (op : Cop) : R2 := fun x y H Q => ∃ ι h a b, R k ι h H ∧ RelW k ι h.length H a x ∧ RelW k ι h.length H b y ∧ WPV k (cmpW op a b h) ι h H (relW k) Q

section
variable {X : Cx} {k : Cst} {ι : Nat → Addr} {h : AH} {H : Hp}
theorem sz_ok {n : Nat} (e : szOk n = true) : n ≤ sizeLine := by
  have e2 := of_decide_eq_true e
  rw [sizeLine_eq]
  omega
theorem R.lst (r : R k ι h H) {l : Nat} {ws : List W} (e : h[l]? = some (.lst ws)) : ∃ vs, H (ι l) = some (.lst vs) ∧ RelWs k ι h.length H ws vs := r.obj l _ e
theorem intBits_le (i : Int) : (Builtin.Int.intBits i : Int) ≤ (bigI i + 1 : Int) := by
  unfold Builtin.Int.intBits bigI
  split <;> omega
theorem log2_lt64 {i : Int} (h : i.natAbs < 2 ^ 64) : -(2 ^ 64) < i ∧ i < 2 ^ 64 := by omega
/-- a new tuple is the answer -/
theorem WPV.tup {ws : List W} {vs : List V} {Q : VK} (r : R k ι h H) (q : RelWs k ι h.length H ws vs) (w : WPV k (.ok (.tup ws) h) ι h H (relW k) Q) : ∀ p, H p = none → Q (.ref p) (upd H p (.tup vs)) := fun p hp => by
  have po := Post.side (o := .tup vs) r hp
  refine w ι _ _ po ?_
  show RelW k ι h.length _ (.tup ws) _
  unfold RelW
  exact ⟨p, vs, rfl, .of upd_same, RelWs.keep (po.keep r) ws q⟩
/-- a new list -/
theorem WPV.lst {ws : List W} {vs : List V} {Q : VK} (r : R k ι h H) (q : RelWs k ι h.length H ws vs) (w : WPV k (.ok (.loc h.length) (h ++ [.lst ws])) ι h H (relW k) Q) : ∀ p, H p = none → Q (.ref p) (upd H p (.lst vs)) := fun p hp => by
  have po := Post.alloc (o := .lst ws) (ho := .lst vs) r hp fun ι' n' H' kp e => ⟨vs, e, RelWs.keep kp ws q⟩
  refine w _ _ _ po ?_
  show RelW k _ _ _ (.loc h.length) _
  unfold RelW
  exact ⟨by simp, by rw [snoc_eq]⟩
theorem WPV.same {a : W} {v : V} {Q : VK} (r : R k ι h H) (w : WPV k (.ok a h) ι h H (relW k) Q) (e : RelW k ι h.length H a v) : Q v H := w ι H v (Post.refl r) e

theorem flat_nil {α : Type} : ∀ n : Nat, (List.replicate n ([] : List α)).flatten = []
  | 0 => rfl
  | n + 1 => by rw [List.replicate_succ, List.flatten_cons, flat_nil n]; rfl
theorem RelWs.rep {n : Nat} {ws : List W} {vs : List V} (r : RelWs k ι n H ws vs) : ∀ m : Nat, RelWs k ι n H (List.replicate m ws).flatten (List.replicate m vs).flatten
  | 0 => .nil
  | m + 1 => by
    rw [List.replicate_succ, List.replicate_succ, List.flatten_cons, List.flatten_cons]
    exact r.append (r.rep m)
theorem op_binA (hK : X.K = k.K) (op : Bop) : OpR X (binaryOp (bopOf op)) (rB k op) := by
  intro pins s σ H x y v u Q I rx ry hq
  obtain ⟨ι, h, a, b, r, ra, rb, w⟩ := hq
  unfold binW at w
  split at w
  · -- add ints
    unfold RelW at ra rb
    subst ra rb
    exact op_add pins s σ H _ _ v u Q I rx ry ⟨_, _, rfl, rfl, WPV.same r w (by unfold RelW; rfl)⟩
  · split at w
    · rename_i e
      unfold RelW at ra rb
      subst ra rb
      exact op_add_str pins s σ H _ _ v u Q I rx ry ⟨_, _, rfl, rfl, sz_ok e, WPV.same r w (by unfold RelW; rfl)⟩
    · exact w.elim
  · split at w
    · rename_i e
      unfold RelW at ra rb
      obtain ⟨p, vs, rfl, hp, rv⟩ := ra
      obtain ⟨p2, vs2, rfl, hp2, rv2⟩ := rb
      refine op_catA pins s σ H _ _ v u Q I rx ry ⟨p, p2, vs, vs2, rfl, rfl, by rw [hK]; exact hp, by rw [hK]; exact hp2, by rw [← rv.len, ← rv2.len]; exact sz_ok e, fun z => ?_, fun _ z => ?_, fun _ _ => WPV.tup r (rv.append rv2) w⟩
      · subst z
        refine WPV.same r w ?_
        unfold RelW
        refine ⟨p2, vs2, rfl, hp2, ?_⟩
        have := rv.append rv2
        simpa using this
      · subst z
        refine WPV.same r w ?_
        unfold RelW
        refine ⟨p, vs, rfl, hp, ?_⟩
        have := rv.append rv2
        simpa using this
    · exact w.elim
  · split at w
    · rename_i e1 e2
      split at w
      · rename_i e
        unfold RelW at ra rb
        obtain ⟨_, rfl⟩ := ra
        obtain ⟨_, rfl⟩ := rb
        obtain ⟨vs, hv, rv⟩ := r.lst e1
        obtain ⟨vs2, hv2, rv2⟩ := r.lst e2
        exact op_cat pins s σ H _ _ v u Q I rx ry ⟨_, _, vs, vs2, rfl, rfl, hv, hv2, by rw [← rv.len, ← rv2.len]; exact sz_ok e, WPV.lst r (rv.append rv2) w⟩
      · exact w.elim
    · exact w.elim
  · unfold RelW at ra rb
    subst ra rb
    exact op_sub pins s σ H _ _ v u Q I rx ry ⟨_, _, rfl, rfl, WPV.same r w (by unfold RelW; rfl)⟩
  · split at w
    · rename_i e
      unfold RelW at ra rb
      subst ra rb
      unfold mulOk at e
      simp only [Bool.or_eq_true, decide_eq_true_eq] at e
      rcases e with (e | e) | e
      · exact op_mul pins s σ H _ _ v u Q I rx ry ⟨_, _, rfl, rfl, .inl (log2_lt64 e), WPV.same r w (by unfold RelW; rfl)⟩
      · exact op_mul pins s σ H _ _ v u Q I rx ry ⟨_, _, rfl, rfl, .inr (log2_lt64 e), WPV.same r w (by unfold RelW; rfl)⟩
      · exact op_mulW pins s σ H _ _ v u Q I rx ry ⟨_, _, rfl, rfl, e, WPV.same r w (by unfold RelW; rfl)⟩
    · exact w.elim
  · split at w
    · rename_i e
      unfold repOk at e
      simp only [Bool.and_eq_true, decide_eq_true_eq] at e
      have ra0 := ra
      unfold RelW at ra rb
      obtain ⟨p, vs, rfl, hp, rv⟩ := ra
      subst rb
      refine op_times pins s σ H _ _ v u Q I rx ry ⟨p, _, vs, rfl, rfl, by rw [hK]; exact hp, e.1.2, e.2, by rw [← rv.len]; exact e.1.1, fun z => ?_, fun _ _ => WPV.tup r (rv.rep _) w⟩
      refine WPV.same r w ?_
      rcases z with z | z
      · subst z
        have l0 := List.eq_nil_of_length_eq_zero (rv.len.trans rfl)
        subst l0
        rw [flat_nil]
        exact ra0
      · subst z
        show RelW k ι h.length H (.tup (List.replicate 1 _).flatten) _
        simpa using ra0
    · exact w.elim
  · split at w
    · rename_i e1
      split at w
      · rename_i e
        unfold repOk at e
        simp only [Bool.and_eq_true, decide_eq_true_eq] at e
        unfold RelW at ra rb
        obtain ⟨_, rfl⟩ := ra
        subst rb
        obtain ⟨vs, hv, rv⟩ := r.lst e1
        refine op_rep pins s σ H _ _ v u Q I rx ry ⟨_, _, vs, rfl, rfl, hv, by omega, by omega, ?_, WPV.lst r (rv.rep _) w⟩
        rw [← rv.len, sizeLine_eq]
        exact Nat.le_trans (Nat.mul_le_mul e.1.1 (Int.toNat_le.mpr e.2 : _ ≤ 1000)) (by decide)
      · exact w.elim
    · exact w.elim
  · split at w
    · rename_i e
      unfold RelW at ra rb
      subst ra rb
      unfold fdivOk at e
      simp only [Bool.and_eq_true, decide_eq_true_eq] at e
      exact op_fdivW pins s σ H _ _ v u Q I rx ry ⟨_, _, rfl, rfl, ⟨e.1, e.2⟩, WPV.same r w (by unfold RelW; rfl)⟩
    · exact w.elim
  · split at w
    · rename_i e
      unfold RelW at ra rb
      subst ra rb
      exact op_mod pins s σ H _ _ v u Q I rx ry ⟨_, _, rfl, rfl, e, WPV.same r w (by unfold RelW; rfl)⟩
    · exact w.elim
  · split at w
    · rename_i e
      unfold RelW at ra rb
      subst ra rb
      unfold powOk at e
      simp only [Bool.and_eq_true, decide_eq_true_eq] at e
      refine opI (C := fun i n => 0 ≤ n ∧ (Builtin.Int.intBits i : Int) * n ≤ 2 ^ 27) (g := fun i n => i ^ n.toNat) (fun i n t u s Q E hc q => PyProof.Rows.pow_int hc.1 hc.2 q) pins s σ H _ _ v u Q I rx ry ⟨_, _, rfl, rfl, ⟨e.1, ?_⟩, WPV.same r w (by unfold RelW; rfl)⟩
      have e2 := e.2
      exact Int.le_trans (Int.mul_le_mul_of_nonneg_right (intBits_le _) e.1) e2
    · exact w.elim
  · exact w.elim

/-! ### comparisons -/
mutual
theorem dp_of (r : R k ι h H) : ∀ (w : W) {v : V} {d : PyData}, RelW k ι h.length H w v → toDf w = some d → Dp k.K H v d
  | .non, v, d, e, q => by
    unfold RelW at e
    cases q
    subst e
    exact .non
  | .bl b, v, d, e, q => by
    unfold RelW at e
    cases q
    subst e
    exact .bl b
  | .int b, v, d, e, q => by
    unfold RelW at e
    cases q
    subst e
    exact .int b
  | .str b, v, d, e, q => by
    unfold RelW at e
    cases q
    subst e
    exact .str b
  | .tup ws, v, d, e, q => by
    unfold RelW at e
    obtain ⟨a, vs, rfl, hs, rs⟩ := e
    unfold toDf at q
    obtain ⟨ds, q1, rfl⟩ := Option.map_eq_some_iff.mp q
    exact .tup hs (dps_of r ws rs q1)
  | .loc l, v, d, e, q => by cases q
  | .exo _ _ _, v, d, e, q => by cases q
  | .scr, v, d, e, q => by cases q
theorem dps_of (r : R k ι h H) : ∀ (ws : List W) {vs : List V} {ds : List PyData}, RelWs k ι h.length H ws vs → toDfs ws = some ds → DpAll k.K H vs ds
  | [], vs, ds, e, q => by
    unfold RelWs at e
    cases q
    subst e
    exact .nil
  | w :: ws, vs, ds, e, q => by
    unfold RelWs at e
    obtain ⟨v, t, rfl, rv, rt⟩ := e
    unfold toDfs at q
    split at q
    · rename_i d ds' q1 q2
      cases q
      exact .cons (dp_of r w rv q1) (dps_of r ws rt q2)
    · cases q
end
theorem dpH_of (r : R k ι h H) {w : W} {v : V} {d : PyData} (e : RelW k ι h.length H w v) (q : toD h w = some d) : Dp k.K H v d := by
  unfold toD at q
  split at q
  · split at q
    · rename_i ws e2
      obtain ⟨ds, q1, rfl⟩ := Option.map_eq_some_iff.mp q
      unfold RelW at e
      obtain ⟨_, rfl⟩ := e
      obtain ⟨vs, hv, rv⟩ := r.lst e2
      exact .lst (.of hv) (dps_of r ws rv q1)
    · cases q
  · exact dp_of r _ e q
theorem eqW_cases {x y : W} {b : Bool} (e : eqW h x y = some b) : (∃ s t, x = .str s ∧ y = .str t ∧ decide (s = t) = b) ∨ eqD h x y = some b := by
  unfold eqW at e
  split at e
  · cases e
    exact .inl ⟨_, _, rfl, rfl, rfl⟩
  · exact .inr e
theorem eqW_some {x y : W} {b : Bool} (e : eqD h x y = some b) : ∃ d d', toD h x = some d ∧ toD h y = some d' ∧ shp d = true ∧ shp d' = true ∧ PyData.eqv d d' = b := by
  unfold eqD at e
  split at e
  · rename_i d d' e1 e2
    split at e
    · rename_i z
      simp only [Bool.and_eq_true] at z
      cases e
      exact ⟨d, d', e1, e2, z.1, z.2, rfl⟩
    · cases e
  · cases e
theorem optR_v {o : Option Bool} {f : Bool → Bool} {Q : VK} (r : R k ι h H) (w : WPV k (optR o f h) ι h H (relW k) Q) : ∃ b, o = some b ∧ Q (.bl (f b)) H := by
  unfold optR at w
  split at w
  · exact ⟨_, rfl, WPV.same r w (by unfold RelW; rfl)⟩
  · exact w.elim
theorem RelW.isn {w : W} {v : V} {n : Nat} (e : RelW k ι n H w v) : decide (v = .non) = decide (w = .non) := by
  cases w <;> unfold RelW at e
  · subst e
    rfl
  · subst e
    rfl
  · subst e
    rfl
  · subst e
    rfl
  · obtain ⟨a, vs, rfl, _⟩ := e
    rfl
  · obtain ⟨_, rfl⟩ := e
    rfl
  · obtain ⟨a, _, rfl, _⟩ := e
    rfl
  · subst e
    rfl
theorem scal_flat {w : W} {v : V} {n : Nat} (e : RelW k ι n H w v) (z : scalW w = true) : flatV v = true := by
  cases w <;> first
    | (unfold RelW at e; subst e; rfl)
    | (unfold scalW at z; cases z)
theorem scals_flat {n : Nat} : ∀ {ws : List W} {vs : List V}, RelWs k ι n H ws vs → ws.all scalW = true → vs.all flatV = true
  | [], vs, e, _ => by
    unfold RelWs at e
    subst e
    rfl
  | w :: ws, vs, e, z => by
    unfold RelWs at e
    obtain ⟨v, t, rfl, rv, rt⟩ := e
    rw [List.all_cons, Bool.and_eq_true] at z
    rw [List.all_cons, scal_flat rv z.1, scals_flat rt z.2]
    rfl
theorem eqv_eqV {n : Nat} {w u : W} {v y : V} {d e : PyData} (r1 : RelW k ι n H w v) (r2 : RelW k ι n H u y) (z1 : scalW w = true) (z2 : scalW u = true) (q1 : toDf w = some d) (q2 : toDf u = some e) : eqV v y = PyData.eqv d e := by
  cases w <;> first
    | (unfold scalW at z1; cases z1; done)
    | (cases u <;> first
        | (unfold scalW at z2; cases z2; done)
        | (unfold RelW at r1 r2; subst r1 r2; cases q1; cases q2; simp [eqV, PyData.eqv]))
theorem anyV_eqv {n : Nat} {x : W} {v : V} {d : PyData} (rx : RelW k ι n H x v) (zx : scalW x = true) (qx : toDf x = some d) : ∀ {ws : List W} {vs : List V} {ds : List PyData}, RelWs k ι n H ws vs → ws.all scalW = true → toDfs ws = some ds → (vs.any fun y => eqV y v) = ds.any fun z => PyData.eqv z d
  | [], vs, ds, e, _, q => by
    unfold RelWs at e
    subst e
    cases q
    rfl
  | w :: ws, vs, ds, e, z, q => by
    unfold RelWs at e
    obtain ⟨u, t, rfl, rv, rt⟩ := e
    rw [List.all_cons, Bool.and_eq_true] at z
    unfold toDfs at q
    split at q
    · rename_i d1 ds1 q1 q2
      cases q
      rw [List.any_cons, List.any_cons, eqv_eqV rv rx z.1 zx q1 qx, anyV_eqv rx zx qx rt z.2 q2]
    · cases q
theorem inData_some {x : W} {ws : List W} {b : Bool} (e : inData x ws = some b) : ∃ d ds, toDf x = some d ∧ toDfs ws = some ds ∧ shp d = true ∧ shp (.list ds) = true ∧ b = ds.any fun z => PyData.eqv z d := by
  unfold inData at e
  split at e
  · rename_i d ds q1 q2
    split at e
    · rename_i z
      simp only [Bool.and_eq_true] at z
      cases e
      exact ⟨d, ds, q1, q2, z.1, z.2, rfl⟩
    · cases e
  · cases e
theorem str_dec {x y : Str} : decide (V.str x = V.str y) = decide (x = y) := by
  by_cases e : x = y
  · subst e
    simp
  · rw [decide_eq_false e, decide_eq_false fun z => e (V.str.inj z)]
theorem op_cmpA (hK : X.K = k.K) (hw : X.w = k.w) (hu : X.A.units + 65 < cLine) (op : Cop) : OpR X (compareOp (copOf op)) (rC k op) := by
  intro pins s σ H x y v u Q I rx ry hq
  obtain ⟨ι, h, a, b, r, ra, rb, w⟩ := hq
  unfold cmpW at w
  split at w
  · obtain ⟨c, e, q⟩ := optR_v r w
    rcases eqW_cases e with ⟨x1, y1, rfl, rfl, rfl⟩ | e
    · unfold RelW at ra rb
      subst ra rb
      exact op_eq pins s σ H _ _ v u Q I rx ry ⟨rfl, by rw [str_dec]; exact q⟩
    obtain ⟨d, d', q1, q2, s1, s2, rfl⟩ := eqW_some e
    exact op_eqD (by omega) pins s σ H _ _ v u Q I rx ry ⟨d, d', by rw [hK]; exact dpH_of r ra q1, by rw [hK]; exact dpH_of r rb q2, s1, s2, q⟩
  · obtain ⟨c, e, q⟩ := optR_v r w
    rcases eqW_cases e with ⟨x1, y1, rfl, rfl, rfl⟩ | e
    · unfold RelW at ra rb
      subst ra rb
      exact op_ne pins s σ H _ _ v u Q I rx ry ⟨rfl, by rw [str_dec]; exact q⟩
    obtain ⟨d, d', q1, q2, s1, s2, rfl⟩ := eqW_some e
    exact op_neD (by omega) pins s σ H _ _ v u Q I rx ry ⟨d, d', by rw [hK]; exact dpH_of r ra q1, by rw [hK]; exact dpH_of r rb q2, s1, s2, q⟩
  · split at w
    · unfold RelW at ra rb
      subst ra rb
      exact op_lt pins s σ H _ _ v u Q I rx ry ⟨_, _, rfl, rfl, WPV.same r w (by unfold RelW; rfl)⟩
    · obtain ⟨c, e, q⟩ := optR_v r w
      unfold ltD at e
      split at e
      · rename_i ds es q1 q2
        split at e
        · rename_i z
          rw [Bool.and_eq_true, decide_eq_true_eq] at z
          cases e
          exact op_ltD hu pins s σ H _ _ v u Q I rx ry ⟨_, _, by rw [hK]; exact dpH_of r ra q1, by rw [hK]; exact dpH_of r rb q2, z.1, (fun z => by cases z), z.2, q⟩
        · cases e
      · cases e
    · exact w.elim
  · split at w
    · unfold RelW at ra rb
      subst ra rb
      exact op_le pins s σ H _ _ v u Q I rx ry ⟨_, _, rfl, rfl, WPV.same r w (by unfold RelW; rfl)⟩
    · exact w.elim
  · split at w
    · unfold RelW at ra rb
      subst ra rb
      exact op_gt pins s σ H _ _ v u Q I rx ry ⟨_, _, rfl, rfl, WPV.same r w (by unfold RelW; rfl)⟩
    · exact w.elim
  · split at w
    · unfold RelW at ra rb
      subst ra rb
      exact op_ge pins s σ H _ _ v u Q I rx ry ⟨_, _, rfl, rfl, WPV.same r w (by unfold RelW; rfl)⟩
    · exact w.elim
  · obtain ⟨c, e, q⟩ := optR_v r w
    unfold isW at e
    split at e
    · cases e
      unfold RelW at rb
      subst rb
      exact op_isN pins s σ H _ _ v u Q I rx ry ⟨rfl, by rw [ra.isn]; exact q⟩
    · cases e
      unfold RelW at ra rb
      subst ra rb
      exact op_is_bl pins s σ H _ _ v u Q I rx ry ⟨_, _, rfl, rfl, q⟩
    · cases e
  · obtain ⟨c, e, q⟩ := optR_v r w
    unfold isW at e
    split at e
    · cases e
      unfold RelW at rb
      subst rb
      exact op_notN pins s σ H _ _ v u Q I rx ry ⟨rfl, by rw [ra.isn]; exact q⟩
    · cases e
      unfold RelW at ra rb
      subst ra rb
      exact op_isnot_bl pins s σ H _ _ v u Q I rx ry ⟨_, _, rfl, rfl, q⟩
    · cases e
  · obtain ⟨c, e, q⟩ := optR_v r w
    unfold inW at e
    split at e
    · split at e
      · rename_i z
        simp only [Bool.and_eq_true] at z
        obtain ⟨d, ds, q1, q2, s1, s2, rfl⟩ := inData_some e
        unfold RelW at rb
        obtain ⟨p, vs, rfl, hp, rv⟩ := rb
        refine op_in_seq pins s σ H _ _ v u Q I rx ry ⟨p, vs, rfl, .inr (by rw [hK]; exact hp), scal_flat ra z.1, scals_flat rv z.2, ?_⟩
        unfold inV
        rw [anyV_eqv ra z.1 q1 rv z.2 q2]
        exact q
      · cases e
    · split at e
      · rename_i ws e2
        obtain ⟨d, ds, q1, q2, s1, s2, rfl⟩ := inData_some e
        unfold RelW at rb
        obtain ⟨_, rfl⟩ := rb
        obtain ⟨vs, hv, rv⟩ := r.lst e2
        exact op_inD hu pins s σ H _ _ v u Q I rx ry ⟨d, ds, by rw [hK]; exact dp_of r _ ra q1, by rw [hK]; exact .lst (.of hv) (dps_of r ws rv q2), s1, s2, q⟩
      · rename_i kvs e2
        split at e
        · rename_i ok
          cases e
          unfold RelW at rb
          obtain ⟨_, rfl⟩ := rb
          cases ry
          exact dic_in hu I hK hw r e2 ok ra rx fun s' I' => ⟨.bl _, H, I', rfl, q⟩
        · cases e
      · cases e
    · cases e
  · obtain ⟨c, e, q⟩ := optR_v r w
    unfold inW at e
    split at e
    · split at e
      · rename_i z
        simp only [Bool.and_eq_true] at z
        obtain ⟨d, ds, q1, q2, s1, s2, rfl⟩ := inData_some e
        unfold RelW at rb
        obtain ⟨p, vs, rfl, hp, rv⟩ := rb
        refine op_notIn_seq pins s σ H _ _ v u Q I rx ry ⟨p, vs, rfl, .inr (by rw [hK]; exact hp), scal_flat ra z.1, scals_flat rv z.2, ?_⟩
        unfold inV
        rw [anyV_eqv ra z.1 q1 rv z.2 q2]
        exact q
      · cases e
    · split at e
      · rename_i ws e2
        obtain ⟨d, ds, q1, q2, s1, s2, rfl⟩ := inData_some e
        unfold RelW at rb
        obtain ⟨_, rfl⟩ := rb
        obtain ⟨vs, hv, rv⟩ := r.lst e2
        exact op_notInD hu pins s σ H _ _ v u Q I rx ry ⟨d, ds, by rw [hK]; exact dp_of r _ ra q1, by rw [hK]; exact .lst (.of hv) (dps_of r ws rv q2), s1, s2, q⟩
      · rename_i kvs e2
        split at e
        · rename_i ok
          cases e
          unfold RelW at rb
          obtain ⟨_, rfl⟩ := rb
          cases ry
          exact dic_notIn hu I hK hw r e2 ok ra rx fun s' I' => ⟨.bl _, H, I', rfl, q⟩
        · cases e
      · cases e
    · cases e
end
end AM
/-! Truth, subscripts, slices, built-in functions. -/
namespace AM
open PySem L2
section
variable {X : Cx} {k : Cst} {ι : Nat → Addr} {h : AH} {H : Hp}
theorem empty_len {ws : List W} {vs : List V} (e : ws.length = vs.length) : (!ws.isEmpty) = !vs.isEmpty := by
  cases ws with
  | nil =>
    cases vs with
    | nil => rfl
    | cons _ _ => cases e
  | cons _ _ =>
    cases vs with
    | nil => cases e
    | cons _ _ => rfl
theorem truV_of (hK : X.K = k.K) (r : R k ι h H) {w : W} {v : V} {b : Bool} (e : RelW k ι h.length H w v) (q : truW h w = some b) : TruV X.K v H b := by
  unfold truW at q
  split at q
  · cases q
    unfold RelW at e
    subst e
    exact rfl
  · cases q
    unfold RelW at e
    subst e
    exact rfl
  · cases q
    unfold RelW at e
    subst e
    exact rfl
  · cases q
    unfold RelW at e
    obtain ⟨a, vs, rfl, hs, rs⟩ := e
    exact .inr (.inl ⟨vs, by rw [hK]; exact hs, empty_len rs.len⟩)
  · split at q
    · rename_i ws e2
      cases q
      unfold RelW at e
      obtain ⟨_, rfl⟩ := e
      obtain ⟨vs, hv, rv⟩ := r.lst e2
      exact .inl ⟨vs, .of hv, empty_len rv.len⟩
    · cases q
  · cases q
theorem atI_get2 {n : Nat} {ws : List W} {vs : List V} {i : Int} {w : W} (r : RelWs k ι n H ws vs) (e : atI ws i = some w) : ∃ v, atI vs i = some v ∧ RelW k ι n H w v := by
  unfold atI at e ⊢
  obtain ⟨j, e1, e2⟩ := Option.bind_eq_some_iff.mp e
  obtain ⟨v, q1, q2⟩ := r.get e2
  exact ⟨v, by rw [← r.len, e1]; exact q1, q2⟩
def subR (g : Ev) (x i : W) (h : AH) : Res W := match x with
  | .scr => subS g.sc i h
  | x => subW x i h
def rSub (k : Cst) (g : Ev) : R2 := fun x y H Q => ∃ ι h a b, R k ι h H ∧ RelW k ι h.length H a x ∧ RelW k ι h.length H b y ∧ WPV k (subR g a b h) ι h H (relW k) Q
theorem subR_nx {g : Ev} {x i : W} {h : AH} (c xs ws h') : subR g x i h ≠ .exc c xs ws h' := by
  have z : ∀ kvs i, dicR kvs i h ≠ .exc c xs ws h' := fun kvs i => by
    unfold dicR
    split <;> (try split) <;> simp
  unfold subR subS subW
  split <;> split <;> (try split) <;> (try split) <;> first | exact z _ _ | simp
theorem atI_map {ns : List Int} {i : Int} {n : Int} (e : atI ns i = some n) : atI (ns.map V.int) i = some (.int n) := by
  unfold atI at e ⊢
  obtain ⟨j, e1, e2⟩ := Option.bind_eq_some_iff.mp e
  rw [List.length_map, e1]
  show (ns.map V.int)[j]? = _
  rw [List.getElem?_map, e2]
  rfl
theorem ix_dic {value slice : Expr} {pins : List (Addr × Obj)} {s : Shared} {σ : L2.St} {x y : V} {v u : Value} {Q : VK} {l : Nat} {kvs : List (W × W)} {kw : W} (hK : X.K = k.K) (hw : X.w = k.w) (hu : X.A.units + 65 < cLine) (I : L2.Inv X pins σ H s) (rx : RelV x v) (ry : RelV y u) (r : R k ι h H)
    (e : h[l]? = some (.dic kvs)) (ra : RelW k ι h.length H (.loc l) x) (rb : RelW k ι h.length H kw y) (w : WPV k (dicR kvs kw h) ι h H (relW k) Q) (hs : subscripted slice false v u = operate [v, u] (getItem v u)) :
    wpAny (model X.prog X.w) X.A (PyProof.Rows.subscriptTail value slice v u) (EP X pins σ Q) X.xe s := by
  unfold RelW at ra
  obtain ⟨_, rfl⟩ := ra
  cases rx
  unfold dicR at w
  split at w
  · rename_i ok
    split at w
    · rename_i w1 hg
      obtain ⟨v1, w', rv, rw1, go⟩ := dic_getItem (A := X.A) (E := X.xe) hu I hK hw r e ok hg rb ry
      exact PyProof.Rows.subscriptTail_builtinR (x := w') (dic_is I hK hw r e).1 PySem.F.slot_dict_getitem.lookup (go _ fun s' I' => ⟨rfl, v1, H, I', rv, WPV.same r w rw1⟩) hs
    · exact w.elim
  · exact w.elim
theorem ix_A {g : Ev} (hK : X.K = k.K) (hw : X.w = k.w) (hu : X.A.units + 65 < cLine) (hg : g.sc = k.sc) : IxR X (rSub k g) := by
  intro value slice pins s σ H x y v u Q I rx ry hq hs'
  obtain ⟨ι, h, a, b, r, ra, rb, w⟩ := hq
  unfold subR at w
  split at w
  · unfold subS at w
    split at w
    · split at w
      · rename_i n e
        unfold RelW at ra rb
        subst ra rb
        rw [hg] at e
        exact ix_list value slice pins s σ H _ _ v u Q I rx ry ⟨_, _, _, _, rfl, rfl, by rw [hK]; exact r.scr.sq, atI_map e, WPV.same r w (by unfold RelW; rfl)⟩ hs'
      · exact w.elim
    · exact w.elim
  · unfold subW at w
    split at w
    · split at w
      · rename_i e
        unfold RelW at ra rb
        obtain ⟨p, vs, rfl, hp, rv⟩ := ra
        subst rb
        obtain ⟨z, e1, e2⟩ := atI_get2 rv e
        exact ix_tup value slice pins s σ H _ _ v u Q I rx ry ⟨_, _, _, _, rfl, rfl, by rw [hK]; exact hp, e1, WPV.same r w e2⟩ hs'
      · exact w.elim
    · split at w
      · rename_i e0
        split at w
        · rename_i e
          unfold RelW at ra rb
          obtain ⟨_, rfl⟩ := ra
          subst rb
          obtain ⟨vs, hv, rv⟩ := r.lst e0
          obtain ⟨z, e1, e2⟩ := atI_get2 rv e
          exact ix_list value slice pins s σ H _ _ v u Q I rx ry ⟨_, _, _, _, rfl, rfl, .of hv, e1, WPV.same r w e2⟩ hs'
        · exact w.elim
      · exact ix_dic hK hw hu I rx ry r ‹_› ra rb w hs'
      · exact w.elim
    · split at w
      · exact ix_dic hK hw hu I rx ry r ‹_› ra rb w hs'
      · exact w.elim
    · exact w.elim
theorem cut_rel {n : Nat} {ws : List W} {vs : List V} (r : RelWs k ι n H ws vs) (lo hi : Option Int) : RelWs k ι n H (cutW ws lo hi) (cutV vs lo hi) := by
  unfold cutW cutV
  rw [r.len]
  exact (r.drop _).take _
theorem relWs_ints {n : Nat} : ∀ (is : List Int), RelWs k ι n H (is.map .int) (is.map V.int)
  | [] => .nil
  | i :: is => .cons (by unfold RelW; rfl) (relWs_ints is)
def rSlc (k : Cst) : V → Option Int → Option Int → Hp → VK → Prop := fun x lo hi H Q => ∃ ι h a, R k ι h H ∧ RelW k ι h.length H a x ∧ WPV k (slcR k.sc a lo hi h) ι h H (relW k) Q
theorem slcR_nx {ns : List Int} {x : W} {lo hi : Option Int} {h : AH} (c xs ws h') : slcR ns x lo hi h ≠ .exc c xs ws h' := by
  unfold slcR slcW
  split <;> (try split) <;> (try split) <;> simp
theorem slcW_nx {x : W} {lo hi : Option Int} {h : AH} (c xs ws h') : slcW x lo hi h ≠ .exc c xs ws h' := by
  unfold slcW
  split <;> (try split) <;> simp
theorem cutV_whole (vs : List V) (lo hi : Option Int) (e : HT.sIx vs.length 0 lo = 0 ∧ HT.sIx vs.length vs.length hi = vs.length) : cutV vs lo hi = vs := by
  unfold cutV
  rw [e.1, e.2]
  simp
theorem sl_A (hK : X.K = k.K) : SlR X (rSlc k) := by
  intro pins s σ H x v vl vu lo hi sl Q I rx hs pl pu hq
  obtain ⟨ι, h, a, r, ra, w⟩ := hq
  unfold slcR at w
  split at w
  · unfold RelW at ra
    subst ra
    have rc : RelWs k ι h.length H ((cutW k.sc lo hi).map .int) (cutV (k.sc.map V.int) lo hi) := by
      unfold cutW cutV
      rw [List.length_map, ← List.map_drop, ← List.map_take]
      exact relWs_ints _
    exact sl_list pins s σ H _ v vl vu lo hi sl Q I rx hs pl pu ⟨_, _, rfl, by rw [hK]; exact r.scr.sq, WPV.lst r rc w⟩
  unfold slcW at w
  split at w
  · rename_i ws
    unfold RelW at ra
    obtain ⟨p, vs, rfl, hp, rv⟩ := ra
    have rc := cut_rel rv lo hi
    refine sl_tupA pins s σ H _ v vl vu lo hi sl Q I rx hs pl pu ⟨p, vs, rfl, by rw [hK]; exact hp, fun z => ?_, fun _ => WPV.tup r rc w⟩
    refine WPV.same r w ?_
    unfold RelW
    rw [cutV_whole vs lo hi z] at rc
    exact ⟨p, vs, rfl, hp, rc⟩
  · split at w
    · rename_i e
      unfold RelW at ra
      obtain ⟨_, rfl⟩ := ra
      obtain ⟨vs, hv, rv⟩ := r.lst e
      exact sl_list pins s σ H _ v vl vu lo hi sl Q I rx hs pl pu ⟨_, vs, rfl, .of hv, WPV.lst r (cut_rel rv lo hi) w⟩
    · exact w.elim
  · exact w.elim
/-! ### built-in functions -/
def primV : Prim → Value
  | .len => .builtin "len" | .int => .type "int" | .abs => .builtin "abs" | .str => .type "str" | .repr => .builtin "repr" | .max2 => .builtin "max" | .min2 => .builtin "min"
  | .tuple => .type "tuple" | .list => .type "list" | .isi _ _ => .builtin "isinstance" | .all => .builtin "all" | .any => .builtin "any" | .sum => .builtin "sum" | .min => .builtin "min" | .max => .builtin "max"
  | .sorted => .builtin "sorted" | .sortedSet => .builtin "sorted" | .lenSet => .builtin "len" | .lenOwn => .builtin "len"
def rPrim (k : Cst) (g : Ev) (p : Prim) : List V → Hp → VK → Prop := fun xs H Q => ∃ ι h ws, R k ι h H ∧ RelWs k ι h.length H ws xs ∧ WPV k (primW g p ws h) ι h H (relW k) Q
theorem seqL_nx {p : Prim} {ws : List W} {h : AH} (c xs vs h') : seqL p ws h ≠ .exc c xs vs h' := by
  unfold seqL
  split <;> simp
theorem sortKs_nx {kvs : List (W × W)} {h : AH} (c xs vs h') : sortKs kvs h ≠ .exc c xs vs h' := by
  unfold sortKs
  split <;> (try split) <;> simp
theorem lenR_nx {r : Res W} (c xs vs h') : lenR r ≠ .exc c xs vs h' := by
  unfold lenR
  split <;> (try split) <;> simp
theorem primW_nx {g : Ev} {p : Prim} {ws : List W} {h : AH} (c xs vs h') : primW g p ws h ≠ .exc c xs vs h' := by
  unfold primW
  split <;> (try split) <;> (try split) <;> (try split) <;> (try split) <;> (try split) <;> first | exact seqL_nx _ _ _ _ | exact sortKs_nx _ _ _ _ | exact lenR_nx _ _ _ _ | simp
theorem RelWs.one {n : Nat} {w : W} {xs : List V} (e : RelWs k ι n H [w] xs) : ∃ v, xs = [v] ∧ RelW k ι n H w v := by
  unfold RelWs at e
  obtain ⟨v, r, rfl, q, e⟩ := e
  unfold RelWs at e
  subst e
  exact ⟨v, rfl, q⟩
theorem RelWs.two {n : Nat} {w u : W} {xs : List V} (e : RelWs k ι n H [w, u] xs) : ∃ v z, xs = [v, z] ∧ RelW k ι n H w v ∧ RelW k ι n H u z := by
  unfold RelWs at e
  obtain ⟨v, r, rfl, q, e⟩ := e
  obtain ⟨z, rfl, q2⟩ := e.one
  exact ⟨v, z, rfl, q, q2⟩
theorem ints_rel {n : Nat} : ∀ {ws : List W} {vs : List V} {is : List Int}, RelWs k ι n H ws vs → intsOf ws = some is → vs = is.map V.int
  | [], vs, is, e, q => by
    unfold RelWs at e
    cases q
    exact e
  | w :: ws, vs, is, e, q => by
    unfold RelWs at e
    obtain ⟨v, t, rfl, rv, rt⟩ := e
    unfold intsOf at q
    split at q
    · cases ‹_ :: _ = []›
    · rename_i b ws' hb
      cases hb
      obtain ⟨cs, q1, rfl⟩ := Option.map_eq_some_iff.mp q
      unfold RelW at rv
      subst rv
      rw [ints_rel rt q1]
      rfl
    · cases q
theorem maxI_ok : ∀ (is : List Int) (m : Int), (maxI m is = m ∨ maxI m is ∈ is) ∧ m ≤ maxI m is ∧ ∀ y ∈ is, y ≤ maxI m is
  | [], m => ⟨.inl rfl, Int.le_refl _, fun _ z => nomatch z⟩
  | i :: is, m => by
    have q := maxI_ok is (if i > m then i else m)
    unfold maxI
    refine ⟨?_, ?_, fun y hy => ?_⟩
    · rcases q.1 with e | e
      · rw [e]
        split
        · exact .inr List.mem_cons_self
        · exact .inl rfl
      · exact .inr (List.mem_cons_of_mem _ e)
    · have := q.2.1
      split at this <;> omega
    · rcases List.mem_cons.mp hy with rfl | hy
      · have := q.2.1
        split at this <;> omega
      · exact q.2.2 y hy
theorem minI_ok : ∀ (is : List Int) (m : Int), (minI m is = m ∨ minI m is ∈ is) ∧ minI m is ≤ m ∧ ∀ y ∈ is, minI m is ≤ y
  | [], m => ⟨.inl rfl, Int.le_refl _, fun _ z => nomatch z⟩
  | i :: is, m => by
    have q := minI_ok is (if i < m then i else m)
    unfold minI
    refine ⟨?_, ?_, fun y hy => ?_⟩
    · rcases q.1 with e | e
      · rw [e]
        split
        · exact .inr List.mem_cons_self
        · exact .inl rfl
      · exact .inr (List.mem_cons_of_mem _ e)
    · have := q.2.1
      split at this <;> omega
    · rcases List.mem_cons.mp hy with rfl | hy
      · have := q.2.1
        split at this <;> omega
      · exact q.2.2 y hy
theorem insI_perm (i : Int) : ∀ l : List Int, (insI i l).Perm (i :: l)
  | [] => .refl _
  | j :: r => by
    unfold insI
    split
    · exact .refl _
    · exact ((insI_perm i r).cons j).trans (.swap i j r)
theorem insI_sorted (i : Int) : ∀ {l : List Int}, l.Pairwise (· ≤ ·) → (insI i l).Pairwise (· ≤ ·)
  | [], _ => by simp [insI]
  | j :: r, h => by
    rw [List.pairwise_cons] at h
    unfold insI
    split
    · rename_i c
      refine List.pairwise_cons.mpr ⟨fun x hx => ?_, List.pairwise_cons.mpr h⟩
      rcases List.mem_cons.mp hx with rfl | hx
      · exact c
      · exact Int.le_trans c (h.1 x hx)
    · rename_i c
      refine List.pairwise_cons.mpr ⟨fun x hx => ?_, insI_sorted i h.2⟩
      rcases List.mem_cons.mp ((insI_perm i r).mem_iff.mp hx) with rfl | hx
      · omega
      · exact h.1 x hx
theorem sortI_perm : ∀ l : List Int, (sortI l).Perm l
  | [] => .refl _
  | i :: r => (insI_perm i _).trans ((sortI_perm r).cons i)
theorem sortI_sorted : ∀ l : List Int, (sortI l).Pairwise (· ≤ ·)
  | [] => .nil
  | i :: r => insI_sorted i (sortI_sorted r)
theorem sorted_eq : ∀ {a b : List Int}, a.Perm b → a.Pairwise (· ≤ ·) → b.Pairwise (· ≤ ·) → a = b
  | [], b, p, _, _ => (List.Perm.eq_nil p.symm).symm
  | x :: a, b, p, ha, hb => by
    cases b with
    | nil => exact absurd p.length_eq (by simp)
    | cons y b =>
      rw [List.pairwise_cons] at ha hb
      have h1 : x ≤ y := by
        rcases List.mem_cons.mp (p.mem_iff.mpr List.mem_cons_self) with e | e
        · omega
        · exact ha.1 y e
      have h2 : y ≤ x := by
        rcases List.mem_cons.mp (p.mem_iff.mp List.mem_cons_self) with e | e
        · omega
        · exact hb.1 x e
      obtain rfl : x = y := Int.le_antisymm h1 h2
      rw [sorted_eq p.cons_inv ha.2 hb.2]
/-- sum, max, min, sorted of numbers -/
theorem call_seq (hc : X.calm = true) (p : Prim) {pins : List (Addr × Obj)} {s : Shared} {σ : L2.St} {us : List Value} {Q : VK} {D : Addr} {ws : List W} {vs : List V} (I : L2.Inv X pins σ H s) (rx : Vals [.ref D] us) (r : R k ι h H) (sq : SqL X.K H D vs) (ra : RelWs k ι h.length H ws vs)
    (w : WPV k (seqL p ws h) ι h H (relW k) Q) : wpAny (model X.prog X.w) X.A (call (primV p) us) (EP X pins σ Q) X.xe s := by
  unfold seqL at w
  split at w
  · rename_i e
    have e2 := ints_rel ra e
    subst e2
    exact cr_sum hc pins s σ H _ us Q I rx ⟨D, _, rfl, sq, WPV.same r w (by unfold RelW; rfl)⟩
  · rename_i i is e
    have e2 := ints_rel ra e
    subst e2
    refine cr_max hc pins s σ H _ us Q I rx ⟨D, _, rfl, sq, Nat.succ_pos _, fun m hm hle => ?_⟩
    have q := maxI_ok is i
    have : m = maxI i is := by
      have h1 : maxI i is ≤ m := hle _ (by rcases q.1 with e | e <;> simp [e])
      have h2 : m ≤ maxI i is := by
        rcases List.mem_cons.mp hm with rfl | hm
        · exact q.2.1
        · exact q.2.2 m hm
      omega
    subst this
    exact WPV.same r w (by unfold RelW; rfl)
  · rename_i i is e
    have e2 := ints_rel ra e
    subst e2
    refine cr_min hc pins s σ H _ us Q I rx ⟨D, _, rfl, sq, Nat.succ_pos _, fun m hm hle => ?_⟩
    have q := minI_ok is i
    have : m = minI i is := by
      have h1 : m ≤ minI i is := hle _ (by rcases q.1 with e | e <;> simp [e])
      have h2 : minI i is ≤ m := by
        rcases List.mem_cons.mp hm with rfl | hm
        · exact q.2.1
        · exact q.2.2 m hm
      omega
    subst this
    exact WPV.same r w (by unfold RelW; rfl)
  · rename_i is e
    have e2 := ints_rel ra e
    subst e2
    refine cr_sortedI pins s σ H _ us Q I rx ⟨D, _, rfl, sq, fun ns' q h1 h2 hq => ?_⟩
    rw [sorted_eq (h1.trans (sortI_perm is).symm) h2 (sortI_sorted is)]
    exact WPV.lst r (relWs_ints _) w q hq
  · exact w.elim
theorem strI_some {i : Int} {x : Str} (e : strI i = some x) : i.natAbs.log2 < 1920 ∧ x = Str.ofString (toString i) := by
  unfold strI at e
  split at e
  · rename_i c
    cases e
    exact ⟨of_decide_eq_true c, rfl⟩
  · cases e
theorem reprD_some {d : PyData} {x : Str} (e : reprD d = some x) : d.showable = true ∧ d.hasDict = false ∧ d.depth ≤ 60 ∧ d.shown.length ≤ sizeLine ∧ x = d.shown := by
  unfold reprD at e
  split at e
  · rename_i c
    simp only [Bool.and_eq_true, decide_eq_true_eq, Bool.not_eq_true'] at c
    cases e
    exact ⟨c.1.1.1, c.1.1.2, c.1.2, c.2, rfl⟩
  · cases e
theorem call_primA {g : Ev} (hK : X.K = k.K) (hw : X.w = k.w) (hg : g.sc = k.sc) (hc : X.calm = true) (hq : X.A.guards = some []) (hu : X.A.units + 65 < cLine) (p : Prim) (hp : ∀ ts cs, p ≠ .isi ts cs) (hp2 : p ≠ .sortedSet) (hp3 : p ≠ .lenSet) (hp4 : p ≠ .lenOwn) : CallR X (primV p) (rPrim k g p) := by
  intro pins s σ H xs us Q I rx hq
  obtain ⟨ι, h, ws, r, ra, w⟩ := hq
  unfold primW at w
  split at w
  · obtain ⟨v, rfl, e⟩ := ra.one
    unfold RelW at e
    obtain ⟨a, vs, rfl, hs, rs⟩ := e
    refine call_len pins s σ H _ us Q I rx ⟨_, vs.length, rfl, .inr ⟨vs, by rw [hK]; exact hs, rfl⟩, ?_⟩
    rw [← rs.len]
    exact WPV.same r w (by unfold RelW; rfl)
  · split at w
    · rename_i e2
      obtain ⟨v, rfl, e⟩ := ra.one
      unfold RelW at e
      obtain ⟨_, rfl⟩ := e
      obtain ⟨vs, hv, rv⟩ := r.lst e2
      refine call_len pins s σ H _ us Q I rx ⟨_, vs.length, rfl, .inl ⟨vs, .of hv, rfl⟩, ?_⟩
      rw [← rv.len]
      exact WPV.same r w (by unfold RelW; rfl)
    · rename_i kvs e2
      obtain ⟨v, rfl, e⟩ := ra.one
      unfold RelW at e
      obtain ⟨_, rfl⟩ := e
      rw [Vals.ref1 rx]
      exact dic_len I hK hw r e2 fun t s' I' => ⟨.int kvs.length, H, I', ⟨t, rfl⟩, WPV.same r w (by unfold RelW; rfl)⟩
    · exact w.elim
  · obtain ⟨v, rfl, e⟩ := ra.one
    unfold RelW at e
    subst e
    refine call_len pins s σ H _ us Q I rx ⟨_, (k.sc.map V.int).length, rfl, .inl ⟨_, by rw [hK]; exact r.scr.sq, rfl⟩, ?_⟩
    rw [List.length_map, ← hg]
    exact WPV.same r w (by unfold RelW; rfl)
  · obtain ⟨v, rfl, e⟩ := ra.one
    unfold RelW at e
    subst e
    exact call_int1 pins s σ H _ us Q I rx (.inl ⟨_, rfl, WPV.same r w (by unfold RelW; rfl)⟩)
  · obtain ⟨v, rfl, e⟩ := ra.one
    unfold RelW at e
    subst e
    exact call_int1 pins s σ H _ us Q I rx (.inr ⟨_, rfl, WPV.same r w (by unfold RelW; rfl)⟩)
  · obtain ⟨v, rfl, e⟩ := ra.one
    unfold RelW at e
    subst e
    exact call_abs pins s σ H _ us Q I rx ⟨_, rfl, WPV.same r w (by unfold RelW; rfl)⟩
  · obtain ⟨v, z, rfl, e, e2⟩ := ra.two
    unfold RelW at e e2
    subst e e2
    exact call_max2 hc pins s σ H _ us Q I rx ⟨_, _, rfl, WPV.same r w (by unfold RelW; rfl)⟩
  · obtain ⟨v, z, rfl, e, e2⟩ := ra.two
    unfold RelW at e e2
    subst e e2
    exact call_min2 hc pins s σ H _ us Q I rx ⟨_, _, rfl, WPV.same r w (by unfold RelW; rfl)⟩
  · obtain ⟨v, rfl, e⟩ := ra.one
    unfold RelW at e
    subst e
    exact SkE.call_str_str pins s σ H _ us Q I rx ⟨_, rfl, WPV.same r w (by unfold RelW; rfl)⟩
  · split at w
    · rename_i y e2
      obtain ⟨v, rfl, e⟩ := ra.one
      unfold reprW at e2
      split at e2
      · obtain ⟨d, e3, e4⟩ := Option.bind_eq_some_iff.mp e2
        obtain ⟨z1, z2, z3, z4, rfl⟩ := reprD_some e4
        have dp := dp_of r _ e e3
        unfold RelW at e
        obtain ⟨a, vs, rfl, _⟩ := e
        exact call_strD hq hu pins s σ H _ us Q I rx ⟨a, d, rfl, by rw [hK]; exact dp, z1, z2, z3, z4, WPV.same r w (by unfold RelW; rfl)⟩
      · obtain ⟨d, e3, e4⟩ := Option.bind_eq_some_iff.mp e2
        obtain ⟨z1, z2, z3, z4, rfl⟩ := reprD_some e4
        have dp := dpH_of r e e3
        unfold RelW at e
        obtain ⟨_, rfl⟩ := e
        exact call_strD hq hu pins s σ H _ us Q I rx ⟨_, d, rfl, by rw [hK]; exact dp, z1, z2, z3, z4, WPV.same r w (by unfold RelW; rfl)⟩
      · unfold RelW at e
        subst e
        obtain ⟨e3, rfl⟩ := strI_some e2
        exact call_str_int pins s σ H _ us Q I rx ⟨_, rfl, e3, WPV.same r w (by unfold RelW; rfl)⟩
      · cases e2
    · exact w.elim
  · split at w
    · rename_i y e2
      obtain ⟨v, rfl, e⟩ := ra.one
      unfold reprW at e2
      split at e2
      · obtain ⟨d, e3, e4⟩ := Option.bind_eq_some_iff.mp e2
        obtain ⟨z1, z2, z3, z4, rfl⟩ := reprD_some e4
        have dp := dp_of r _ e e3
        unfold RelW at e
        obtain ⟨a, vs, rfl, _⟩ := e
        exact call_reprD hq hu pins s σ H _ us Q I rx ⟨a, d, rfl, by rw [hK]; exact dp, z1, z2, z3, z4, WPV.same r w (by unfold RelW; rfl)⟩
      · obtain ⟨d, e3, e4⟩ := Option.bind_eq_some_iff.mp e2
        obtain ⟨z1, z2, z3, z4, rfl⟩ := reprD_some e4
        have dp := dpH_of r e e3
        unfold RelW at e
        obtain ⟨_, rfl⟩ := e
        exact call_reprD hq hu pins s σ H _ us Q I rx ⟨_, d, rfl, by rw [hK]; exact dp, z1, z2, z3, z4, WPV.same r w (by unfold RelW; rfl)⟩
      · unfold RelW at e
        subst e
        obtain ⟨e3, rfl⟩ := strI_some e2
        exact SkE.call_repr_int pins s σ H _ us Q I rx ⟨_, rfl, e3, WPV.same r w (by unfold RelW; rfl)⟩
      · cases e2
    · exact w.elim
  · obtain ⟨v, rfl, e⟩ := ra.one
    unfold RelW at e
    obtain ⟨a, vs, rfl, hs, rs⟩ := e
    exact call_list_of pins s σ H _ us Q I rx ⟨_, vs, rfl, .inr (by rw [hK]; exact hs), WPV.lst r rs w⟩
  · split at w
    · rename_i e2
      obtain ⟨v, rfl, e⟩ := ra.one
      unfold RelW at e
      obtain ⟨_, rfl⟩ := e
      obtain ⟨vs, hv, rv⟩ := r.lst e2
      exact call_list_of pins s σ H _ us Q I rx ⟨_, vs, rfl, .inl (.of hv), WPV.lst r rv w⟩
    · exact w.elim
  iterate 3
    · split at w
      · rename_i e2
        obtain ⟨v, rfl, e⟩ := ra.one
        unfold RelW at e
        obtain ⟨_, rfl⟩ := e
        obtain ⟨vs, hv, rv⟩ := r.lst e2
        exact call_seq hc _ I rx r (.of hv) rv w
      · exact w.elim
  · split at w
    · rename_i e2
      obtain ⟨v, rfl, e⟩ := ra.one
      unfold RelW at e
      obtain ⟨_, rfl⟩ := e
      obtain ⟨vs, hv, rv⟩ := r.lst e2
      exact call_seq hc _ I rx r (.of hv) rv w
    · rename_i kvs e2
      obtain ⟨v, rfl, e⟩ := ra.one
      unfold RelW at e
      obtain ⟨_, rfl⟩ := e
      unfold sortKs at w
      split at w
      · rename_i is e3
        split at w
        · rename_i hz
          have hz := of_decide_eq_true hz
          rcases r.obj _ _ e2 with ⟨zs, q1, q2⟩ | ⟨q0, zs, q1, q2⟩
          · refine call_sortedDI hc pins s σ H _ us Q I rx ⟨_, zs, is, rfl, .of q1, ks_ints q2 e3, hz, fun ys q h1 h2 hq => ?_⟩
            rw [sorted_eq (h1.trans (sortI_perm is).symm) h2 (sortI_sorted is)]
            exact WPV.lst r (relWs_ints _) w q hq
          · cases kvs with
            | nil => exact absurd rfl q0
            | cons p ps =>
              obtain ⟨_, _, _, _, _, q3, _⟩ := q2
              rw [List.map_cons] at e3
              revert q3 e3
              cases p.1 <;> intro q3 e3 <;> first | cases q3 | cases e3
        · exact w.elim
      · exact w.elim
    · exact w.elim
  · exact absurd rfl hp2
  · exact absurd rfl hp3
  · obtain ⟨v, rfl, e⟩ := ra.one
    have e0 := e
    unfold RelW at e
    obtain ⟨a, vs, rfl, hs, rs⟩ := e
    exact call_tuple_of pins s σ H _ us Q I rx ⟨_, vs, rfl, .inr ⟨by rw [hK]; exact hs, WPV.same r w e0⟩⟩
  · split at w
    · rename_i e2
      obtain ⟨v, rfl, e⟩ := ra.one
      unfold RelW at e
      obtain ⟨_, rfl⟩ := e
      obtain ⟨vs, hv, rv⟩ := r.lst e2
      exact call_tuple_of pins s σ H _ us Q I rx ⟨_, vs, rfl, .inl ⟨.of hv, WPV.tup r rv w⟩⟩
    · exact w.elim
  · exact absurd rfl hp4
  · exact absurd rfl (hp _ _)
  · exact w.elim
theorem bools_rel {n : Nat} : ∀ {ws : List W} {vs : List V} {bs : List Bool}, RelWs k ι n H ws vs → bools ws = some bs → vs = bs.map V.bl
  | [], vs, bs, e, q => by
    unfold RelWs at e
    cases q
    exact e
  | w :: ws, vs, bs, e, q => by
    unfold RelWs at e
    obtain ⟨v, t, rfl, rv, rt⟩ := e
    unfold bools at q
    split at q
    · cases ‹_ :: _ = []›
    · rename_i b ws' hb
      cases hb
      obtain ⟨cs, q1, rfl⟩ := Option.map_eq_some_iff.mp q
      unfold RelW at rv
      subst rv
      rw [bools_rel rt q1]
      rfl
    · cases q
/-- a list of its own, handed to a built-in -/
def rPrimL (k : Cst) (p : Prim) : List V → Hp → VK → Prop := fun xs H Q => ∃ ι h ws vs D, R k ι h H ∧ xs = [.ref D] ∧ H D = some (.lst vs) ∧ RelWs k ι h.length H ws vs ∧ WPV k (primL p ws h) ι h H (relW k) Q
theorem primL_nx {p : Prim} {ws : List W} {h : AH} (c xs vs h') : primL p ws h ≠ .exc c xs vs h' := by
  unfold primL
  split <;> (try split) <;> first | exact seqL_nx _ _ _ _ | simp
theorem call_primL (hK : X.K = k.K) (hc : X.calm = true) (p : Prim) : CallR X (primV p) (rPrimL k p) := by
  intro pins s σ H xs us Q I rx hq
  obtain ⟨ι, h, ws, vs, D, r, rfl, hD, ra, w⟩ := hq
  unfold primL at w
  split at w
  · exact call_tuple_of pins s σ H _ us Q I rx ⟨_, vs, rfl, .inl ⟨.of hD, WPV.tup r ra w⟩⟩
  · split at w
    · rename_i bs e
      have e2 := bools_rel ra e
      subst e2
      exact cr_all hc pins s σ H _ us Q I rx ⟨D, bs, rfl, .of hD, WPV.same r w (by unfold RelW; rfl)⟩
    · exact w.elim
  · split at w
    · rename_i bs e
      have e2 := bools_rel ra e
      subst e2
      exact cr_any hc pins s σ H _ us Q I rx ⟨D, bs, rfl, .of hD, WPV.same r w (by unfold RelW; rfl)⟩
    · exact w.elim
  · exact call_seq hc _ I rx r (.of hD) ra w
end
end AM
/-! Which text a piece of the core stands for. -/
namespace AM
open PySem
inductive GK where | fn (f : Nat) | cls (c : Nat) | blt | con (w : W)
deriving DecidableEq
structure SE where
  N : List Str
  sc : Scope
  fb : Str → Bool
abbrev Gl := List (Str × GK)
def visB : Option NameKind → Bool
  | some .local => true
  | some .cell => true
  | some .free => true
  | _ => false
def okN (se : SE) (x : Str) (i : Nat) : Bool := decide (se.N[i]? = some x) && visB (se.sc.names.lookup x) && !(x == ("__debug__" : Str)) && !(x == ("__classdict__" : Str))
def okSt (se : SE) (x : Str) (i : Nat) : Bool := decide (se.N[i]? = some x) && (match se.sc.names.lookup x with
  | some .local => true
  | some .cell => se.fb x
  | _ => false)
def okG (gl : Gl) (se : SE) (x : Str) (gk : GK) : Bool := decide (se.sc.names.lookup x = some .globalImplicit) && decide (gl.lookup x = some gk) && !(x == ("__debug__" : Str)) && !(x == ("__name__" : Str))
def okCon (w : W) (c : Const) : Bool := match w, c with
  | .int i, .int j => i == j
  | .str x, .str y => decide (x = y)
  | .bl a, .bool b => a == b
  | .non, .none => true
  | _, _ => false
def noStar : Expr → Bool
  | .Starred _ _ => false
  | _ => true
def noSet : Expr → Bool
  | .Set _ _ _ => false
  | _ => true
def noSlice : Expr → Bool
  | .Slice _ _ _ _ => false
  | _ => true
def noComp : Expr → Bool
  | .ListComp _ _ _ _ => false
  | .SetComp _ _ _ _ => false
  | .DictComp _ _ _ _ _ => false
  | _ => true
def noSuper : Expr → Bool
  | .Call (.Name _ _) [] [] _ => false
  | _ => true
/-- an expression whose test is the truth of its value -/
def noTest : Expr → Bool
  | .BoolOp _ _ _ => false
  | .UnaryOp .Not _ _ => false
  | .IfExp _ _ _ _ => false
  | .Compare _ _ _ _ => false
  | _ => true
def primName : Prim → Str
  | .len => "len" | .int => "int" | .abs => "abs" | .str => "str" | .repr => "repr" | .max2 => "max" | .min2 => "min" | .tuple => "tuple" | .list => "list" | .isi _ _ => "isinstance"
  | .all => "all" | .any => "any" | .sum => "sum" | .min => "min" | .max => "max" | .sorted => "sorted" | .sortedSet => "sorted" | .lenSet => "len" | .lenOwn => "len"
def isIsi : Prim → Bool
  | .isi _ _ => true
  | _ => false
def isSetP : Prim → Bool
  | .sortedSet => true
  | .lenSet => true
  | .lenOwn => true
  | _ => false
def okTyN (gl : Gl) (se : SE) (t : String) : Expr → Bool
  | .Name x _ => decide (x = Str.ofString t) && kinds.contains t && okG gl se x .blt
  | _ => false
def okTyL (gl : Gl) (se : SE) : List String → List Expr → Bool
  | [], [] => true
  | t :: ts, e :: es => okTyN gl se t e && okTyL gl se ts es
  | _, _ => false
def okTy (gl : Gl) (se : SE) (ts : List String) (cs : List Nat) (e : Expr) : Bool := match ts, cs, e with
  | [], [c], .Name x _ => okG gl se x (.cls c)
  | [t], [], .Name x p => okTyN gl se t (.Name x p)
  | t :: ts, [], .Tuple es _ _ => decide ((t :: ts).length ≤ 10) && okTyL gl se (t :: ts) es
  | _, _, _ => false
def kwNames : List Keyword → List Str
  | [] => []
  | ⟨some x, _, _⟩ :: r => x :: kwNames r
  | ⟨none, _, _⟩ :: r => kwNames r
def kwNamed : List Keyword → Bool
  | [] => true
  | ⟨some _, _, _⟩ :: r => kwNamed r
  | ⟨none, _, _⟩ :: _ => false
def kwVals : List Keyword → List Expr
  | [] => []
  | ⟨_, e, _⟩ :: r => e :: kwVals r
mutual
def slotsT : Tg → List Nat
  | .nm i => [i]
  | .tp ts => slotsTs ts
  | .sub _ _ => []
  | .attr _ _ => []
def slotsTs : List Tg → List Nat
  | [] => []
  | t :: ts => slotsT t ++ slotsTs ts
end
def slotsIn (tg : Tg) (own : List (Str × Nat)) : Bool := (slotsT tg).all fun i => (own.map (·.2)).contains i
mutual
def okE (gl : Gl) : C → SE → Expr → Bool
  | .var i, se, e => (match e with
    | .Name x _ => okN se x i
    | _ => false)
  | .con w, se, e => (match e with
    | .Constant c _ _ => okCon w c
    | _ => false)
  | .glo x w, se, e => (match e with
    | .Name y _ => decide (x = y) && okG gl se y (.con w) && gloW w
    | _ => false)
  | .bin op a b, se, e => (match e with
    | .BinOp l o r _ => decide (o = bopOf op) && okE gl a se l && okE gl b se r
    | _ => false)
  | .neg a, se, e => (match e with
    | .UnaryOp .USub x _ => okE gl a se x
    | _ => false)
  | .cmp op a b, se, e => (match e with
    | .Compare l [o] [r] _ => decide (o = copOf op) && noSet r && okE gl a se l && okE gl b se r
    | _ => false)
  | .not a, se, e => (match e with
    | .UnaryOp .Not x _ => okE gl a se x
    | _ => false)
  | .and cs, se, e => (match e with
    | .BoolOp .And es _ => okEs gl cs se es
    | _ => false)
  | .or cs, se, e => (match e with
    | .BoolOp .Or es _ => okEs gl cs se es
    | _ => false)
  | .ife t a b, se, e => (match e with
    | .IfExp c x y _ => okT gl t se c && okE gl a se x && okE gl b se y
    | _ => false)
  | .sub a i, se, e => (match e with
    | .Subscript v s _ => noSlice s && okE gl a se v && okE gl i se s
    | _ => false)
  | .slc a lo hi, se, e => (match e with
    | .Subscript v (.Slice l u none _) _ => okE gl a se v && okO gl lo se l && okO gl hi se u
    | _ => false)
  | .tup cs, se, e => (match e with
    | .Tuple es _ _ => okEs gl cs se es
    | _ => false)
  | .lst cs, se, e => (match e with
    | .List es _ => okEs gl cs se es
    | _ => false)
  | .call f cs ks kcs, se, e => (match e with
    | .Call (.Name x _) es kws _ => okG gl se x (.fn f) && okEs gl cs se es && kwNamed kws && decide (ks = kwNames kws) && okEs gl kcs se (kwVals kws)
    | _ => false)
  | .new c cs ks kcs, se, e => (match e with
    | .Call (.Name x _) es kws _ => okG gl se x (.cls c) && okEs gl cs se es && kwNamed kws && decide (ks = kwNames kws) && okEs gl kcs se (kwVals kws)
    | _ => false)
  | .meth m o cs ks kcs, se, e => (match e with
    | .Call (.Attribute v m' apos) es kws pos => decide (m = m') && noSuper v && okE gl o se v && okEs gl cs se es && kwNamed kws && decide (ks = kwNames kws) && okEs gl kcs se (kwVals kws) &&
        (apos.endLine == pos.line) && decide (es.length + kws.length < 12)
    | _ => false)
  | .attr o x, se, e => (match e with
    | .Attribute v x' _ => decide (x = x') && noSuper v && okE gl o se v
    | _ => false)
  | .prim p cs, se, e => (match e with
    | .Call (.Name x _) es [] _ => (match p, cs, es with
      | .isi ts ds, [c], [y, t] => okG gl se x .blt && decide (x = primName (.isi ts ds)) && okE gl c se y && okTy gl se ts ds t
      | .sortedSet, [c], [.Call (.Name y _) [z] [] _] => okG gl se x .blt && decide (x = ("sorted" : Str)) && okG gl se y .blt && decide (y = ("set" : Str)) && okE gl c se z
      | .lenSet, [c], [.Call (.Name y _) [z] [] _] => okG gl se x .blt && decide (x = ("len" : Str)) && okG gl se y .blt && decide (y = ("set" : Str)) && okE gl c se z
      | .lenOwn, [c], [y] => okG gl se x .blt && decide (x = ("len" : Str)) && okE gl c se y
      | p, c :: cs, es => !isIsi p && !isSetP p && okG gl se x .blt && decide (x = primName p) && okEs gl (c :: cs) se es
      | _, _, _ => false)
    | _ => false)
  | .primc p c, se, e => (match e with
    | .Call (.Name x _) [y] [] _ => !isIsi p && okG gl se x .blt && decide (x = primName p) && okL gl c se y
    | _ => false)
  | .bm m o cs, se, e => (match e with
    | .Call (.Attribute v x apos) es [] pos => (match m with
      | .append => decide (x = ("append" : Str)) && decide (es.length = 1)
      | .extend => decide (x = ("extend" : Str)) && decide (es.length = 1)
      | .pop0 => decide (x = ("pop" : Str)) && decide (es.length = 0)
      | .count => decide (x = ("count" : Str)) && decide (es.length = 1)
      | .index => decide (x = ("index" : Str)) && decide (es.length = 1)
      | .get2 => decide (x = ("get" : Str)) && decide (es.length = 2)
      | .setdefault => decide (x = ("setdefault" : Str)) && decide (es.length = 2)
      | .pop1 => decide (x = ("pop" : Str)) && decide (es.length = 1)
      | _ => false) && noSuper v && okE gl o se v && okEs gl cs se es && (apos.endLine == pos.line)
    | _ => false)
  | .bmc m o c, se, e => (match e with
    | .Call (.Attribute v x apos) [y] [] pos => (match m with
      | .extend => decide (x = ("extend" : Str))
      | _ => false) && noSuper v && okE gl o se v && okL gl c se y && (apos.endLine == pos.line)
    | _ => false)
  | .comp own tg it ifs elt, se, e => (match e with
    | .ListComp y [⟨t, i, fs, 0⟩] scope _ => L2.blkC se.N se.sc scope own && slotsIn tg own && noSet i && okI gl it se i t && okTg gl tg { se with sc := L2.relS scope se.sc, fb := fun x => scope.names.lookup x == some .cell } t &&
        okIf gl ifs { se with sc := L2.relS scope se.sc, fb := fun x => scope.names.lookup x == some .cell } fs && okE gl elt { se with sc := L2.relS scope se.sc, fb := fun x => scope.names.lookup x == some .cell } y
    | _ => false)
  | .dict cs, se, e => (match e with
    | .Dict ks vs _ => (match cs, ks, vs with
      | [], [], [] => true
      | [c1, c2], [some e1], [e2] => okE gl c1 se e1 && okE gl c2 se e2
      | _, _, _ => false)
    | _ => false)
  | .primr p cs, se, e => (match e with
    | .Call (.Name x _) [.Call (.Name y _) es [] _] [] _ => (p == .tuple || p == .list) && okG gl se x .blt && decide (x = primName p) && okG gl se y .blt && decide (y = ("range" : Str)) && okEs gl cs se es && decide (es.length = 1)
    | _ => false)
def okL (gl : Gl) : C → SE → Expr → Bool
  | .comp own tg it ifs elt, se, e => (match e with
    | .ListComp y [⟨t, i, fs, 0⟩] scope _ => L2.blkC se.N se.sc scope own && slotsIn tg own && noSet i && okI gl it se i t && okTg gl tg { se with sc := L2.relS scope se.sc, fb := fun x => scope.names.lookup x == some .cell } t &&
        okIf gl ifs { se with sc := L2.relS scope se.sc, fb := fun x => scope.names.lookup x == some .cell } fs && okE gl elt { se with sc := L2.relS scope se.sc, fb := fun x => scope.names.lookup x == some .cell } y
    | _ => false)
  | _, _, _ => false
def okT (gl : Gl) : T → SE → Expr → Bool
  | .not t, se, e => (match e with
    | .UnaryOp .Not x _ => okT gl t se x
    | _ => false)
  | .and ts, se, e => (match e with
    | .BoolOp .And es _ => okTs gl ts se es && !es.isEmpty
    | _ => false)
  | .or ts, se, e => (match e with
    | .BoolOp .Or es _ => okTs gl ts se es && !es.isEmpty
    | _ => false)
  | .val c, se, e => okE gl c se e && (noTest e || (match e with
    | .Compare _ _ _ _ => true
    | _ => false))
def okTs (gl : Gl) : List T → SE → List Expr → Bool
  | [], _, es => es.isEmpty
  | t :: ts, se, es => (match es with
    | e :: es => okT gl t se e && okTs gl ts se es
    | [] => false)
def okEs (gl : Gl) : List C → SE → List Expr → Bool
  | [], _, es => es.isEmpty
  | c :: cs, se, es => (match es with
    | e :: es => okE gl c se e && okEs gl cs se es
    | [] => false)
def okO (gl : Gl) : List C → SE → Option Expr → Bool
  | [], _, e => e.isNone
  | c :: cs, se, e => cs.isEmpty && (match e with
    | some e => okE gl c se e
    | none => false)
def okIf (gl : Gl) : List T → SE → List Expr → Bool
  | [], _, es => es.isEmpty
  | t :: ts, se, es => ts.isEmpty && (match es with
    | [e] => okT gl t se e
    | _ => false)
def okI (gl : Gl) : It → SE → Expr → Expr → Bool
  | .over c, se, e, _ => okE gl c se e
  | .rng cs, se, e, _ => (match e with
    | .Call (.Name x _) es [] _ => okG gl se x .blt && decide (x = ("range" : Str)) && okEs gl cs se es && (decide (es.length = 1) || decide (es.length = 2) || decide (es.length = 3))
    | _ => false)
  | .enum c, se, e, t => (match e, t with
    | .Call (.Name x _) [y] [] _, .Tuple _ _ _ => okG gl se x .blt && decide (x = ("enumerate" : Str)) && okE gl c se y
    | _, _ => false)
  | .zip a b, se, e, t => (match e, t with
    | .Call (.Name x _) [y, z] [] _, .Tuple _ _ _ => okG gl se x .blt && decide (x = ("zip" : Str)) && okE gl a se y && okE gl b se z
    | _, _ => false)
def okTg (gl : Gl) : Tg → SE → Expr → Bool
  | .nm i, se, e => (match e with
    | .Name x _ => okSt se x i
    | _ => false)
  | .tp ts, se, e => (match e with
    | .Tuple es _ _ => okTgs gl ts se es
    | _ => false)
  | .sub o i, se, e => (match e with
    | .Subscript v s _ => noSlice s && okE gl o se v && okE gl i se s
    | _ => false)
  | .attr o x, se, e => (match e with
    | .Attribute v x' _ => decide (x = x') && noSuper v && okE gl o se v
    | _ => false)
def okTgs (gl : Gl) : List Tg → SE → List Expr → Bool
  | [], _, es => es.isEmpty
  | t :: ts, se, es => (match es with
    | e :: es => okTg gl t se e && okTgs gl ts se es
    | [] => false)
end
/-- two or three names at once: the stores go from the right -/
def swapS (targets : List Expr) (value : Expr) (se : SE) : Option (Option (List Str)) :=
  match targets, value with
  | [.Tuple ts _ _], .Tuple vs _ _ =>
    if !(ts.length == 2 || ts.length == 3) || vs.length != ts.length then some none
    else if vs.any (fun | .Starred .. => true | _ => false) then some none
    else
      let line := (ts.head?.map (·.pos.line)).getD 0
      let names := ts.filterMap fun
        | .Name id pos => if se.sc.names.lookup id == some .local && pos.line == line then some id else none
        | _ => none
      if names.length != ts.length || names.eraseDups.length != names.length then some none
      else if vs.all (foldedForSure 8) then some none
      else if vs.all (constantsAlone 8) then none
      else some (some names)
  | [.List _ _], .Tuple _ _ _ => none
  | _, _ => some none
/-- y = [..] on one line, y a name of the block's around -/
def swapsB (se : SE) (value : Expr) (target : Expr) : Bool := match value, target with
  | .ListComp _ _ s _, .Name t pos => decide (se.sc.names.lookup t = some .local) && (pos.line == value.pos.line) && !(s.names.any fun (n, k) => n == t && (k == .local || k == .cell))
  | _, _ => false
mutual
def okS (gl : Gl) (se : SE) : S → Stmt → Bool
  | .asg t e, st => (match st with
    | .Assign [tg] v _ => okTg gl t se tg && okE gl e se v && (noComp v || (match tg with
        | .Name _ _ => true
        | .Attribute _ _ _ => true
        | _ => false)) && (match swapS [tg] v se with
      | none => false
      | some none => true
      | some (some _) => decide (slotsT t).Nodup)
    | _ => false)
  | .aug t op e, st => (match t, st with
    | .nm i, .AugAssign (.Name x _) o v _ => okSt se x i && okN se x i && decide (o = bopOf op) && okE gl e se v && (op == .add || op == .sub)
    | .sub o i, .AugAssign (.Subscript x y _) oo v _ => noSlice y && okE gl o se x && okE gl i se y && decide (oo = bopOf op) && okE gl e se v && (op == .add || op == .sub)
    | _, _ => false)
  | .iff t a b, st => (match st with
    | .If c x y _ => okT gl t se c && okSs gl se a x && okSs gl se b y
    | _ => false)
  | .for_ t it b, st => (match st with
    | .For tg i x [] _ => noSet i && okI gl it se i tg && okTg gl t se tg && okSs gl se b x
    | _ => false)
  | .whl t b, st => (match st with
    | .While c x [] _ => okT gl t se c && okSs gl se b x
    | _ => false)
  | .ret e, st => (match st with
    | .Return (some v) _ => okE gl e se v
    | _ => false)
  | .retn, st => (match st with
    | .Return none _ => true
    | _ => false)
  | .raise c fs cs, st => (match st, fs, cs with
    | .Raise (some (.Call (.Name x _) [.Constant (.str _) _ _] [] _)) none _, [], [] => okG gl se x (.cls c)
    | .Raise (some (.Call (.Name x _) [y] [] _)) none _, [_], [e] => okG gl se x (.cls c) && okE gl e se y
    | _, _, _ => false)
  | .del o i, st => (match st with
    | .Delete [.Subscript v s _] _ => noSlice s && okE gl o se v && okE gl i se s
    | _ => false)
  | .try_ b hd, st => (match hd, st with
    | .keep c e y, .Try x [.ExceptHandler (some (.Name cn _)) (some n) [.Assign [.Name yn _] (.Name en _) _] _] [] [] _ => okSs gl se b x && okG gl se cn (.cls c) && decide (en = n) && okSt se yn y && decide (se.N[e]? = some n) && decide (y ≠ e) &&
        decide (se.sc.names.lookup n = some .local) && !(n == ("__debug__" : Str)) && !(n == ("__classdict__" : Str)) && decide (se.sc.names.lookup yn = some .local)
    | _, _ => false)
  | .ex e, st => (match st with
    | .Expr v _ => okE gl e se v && noComp v
    | _ => false)
  | .pass, st => (match st with
    | .Pass _ => true
    | _ => false)
  | .brk, st => (match st with
    | .Break _ => true
    | _ => false)
  | .cont, st => (match st with
    | .Continue _ => true
    | _ => false)
  | .never, _ => true
def okSs (gl : Gl) (se : SE) : List S → List Stmt → Bool
  | [], xs => xs.isEmpty
  | s :: ss, xs => (match xs with
    | x :: xs => okS gl se s x && okSs gl se ss xs
    | [] => false)
end
/-- the names in their slots -/
def okScope (d : DefC) (sc : Scope) : Bool := (match sc.kind with
  | .function => true
  | _ => false) && !sc.isCoroutine && !sc.isGenerator && decide d.ns.Nodup && decide (d.ns.take d.ps.length = d.ps) &&
  (d.ps.all fun x => match sc.names.lookup x with
    | some .local => true
    | some .cell => true
    | _ => false) && (sc.names.all fun y => match y.2 with
    | .free => false
    | _ => true)
/-- an exception's own __init__ -/
def okIni (gl : Gl) (i : IniC) (d : DefC) (sc : Scope) (body : List Stmt) : Bool := match body with
  | [.Expr (.Call (.Attribute (.Name b _) ini apos) [.Name s1 _, .BinOp (.Constant (.str m) _ _) .Add (.Call (.Name st _) [.Name x1 _] [] _) _] [] cpos) _, .Assign [.Attribute (.Name s2 _) f _] (.Name x2 _) _] =>
    (apos.endLine == cpos.line) && okScope d sc && decide (d.ps.length = 2) && decide (ini = ("__init__" : Str)) && okG gl ⟨d.ns, sc, fun _ => true⟩ b (.cls i.b) && okN ⟨d.ns, sc, fun _ => true⟩ s1 0 && decide (m = i.m) && okG gl ⟨d.ns, sc, fun _ => true⟩ st .blt && decide (st = ("str" : Str)) &&
      okN ⟨d.ns, sc, fun _ => true⟩ x1 1 && okN ⟨d.ns, sc, fun _ => true⟩ s2 0 && decide (f = i.x) && okN ⟨d.ns, sc, fun _ => true⟩ x2 1
  | _ => false
def okD (gl : Gl) (d : DefC) (st : Stmt) : Bool := okScope d (L2.defScope st) && okSs gl ⟨d.ns, L2.defScope st, fun _ => true⟩ d.body (L2.defBody st)
end AM
/-! A def's promise where nothing is being shown (no repr under way); the law's end from it. -/
namespace AM
open PySem PySem.Spec PyProof.Rows L2
structure FnG (P : Program) (w : World) (K : PySem.W.Frag) (mg : Str → Option Value) (base : Heap) (CX : CXT) (k : Nat) (f : Addr) (fd : FuncData) (ps : List Str) (sp : Sp) : Prop where
  size : ∀ {vs H Q E}, sp vs H Q E → vs.length = ps.length
  go : ∀ {A : Around} {outer : List Env} {s : Shared} {H : Hp} {args : Args} {us : List Value} {vs : List V} {Q : VK} {E : XK}, Room k A → A.guards = some [] → Env0 P w K mg base A outer s H →
    BindsTo s fd args (ps.zip us) → Vals vs us → sp vs H Q E → codeAny (model P w) A (.call (.ref f) args) (CR CX outer P w H s Q E) s
/-- the context of the body of a def -/
abbrev bodyCx (P : Program) (w : World) (K : PySem.W.Frag) (mg : Str → Option Value) (base : Heap) (N : List Str) (qual : Str) (sc : Scope) (f : Addr) (cd : Value) (A : Around) (outer : List Env) (s : Shared) (H : Hp) (E : XK) : Cx :=
  cxOf (L2.CX P w) P w K mg base N qual sc f cd A outer s H E
theorem fng_of {P : Program} {w : World} {K : PySem.W.Frag} {mg : Str → Option Value} {base : Heap} {k : Nat} {f : Addr} {fn qual : Str} {prm : Arguments} {body : List Stmt} {sc : Scope} {df kw dc pm cd ct oc : Value} {an od : Option Addr}
    {sl : Array (Option Value)} {N ps : List Str} {sp : Sp} (at_ : K.lookup f = some ⟨oc, od, .func (PySem.W.fnOf fn qual prm body sc df kw dc pm an cd ct), sl⟩) (code : PySem.W.codeIn K cd qual = true) (S : FnScope N ps sc)
    (size : ∀ {vs H Q E}, sp vs H Q E → vs.length = ps.length)
    (text : ∀ {A : Around} {outer : List Env} {s : Shared} {H : Hp} {vs : List V} {Q : VK} {E : XK}, Room k (A.deeper (envOfC qual sc s.heap.objs.size f cd)) → A.guards = some [] → sp vs H Q E →
      ∃ t : TS, PSs (bodyCx P w K mg base N qual sc f cd A outer s H E) body t ∧ t { nx := fun _ H1 => Q .non H1, rt := Q } (L2.start N vs) H) :
    FnG P w K mg base (L2.CX P w) (k + 1) f (PySem.W.fnOf fn qual prm body sc df kw dc pm an cd ct) ps sp where
  size := size
  go := by
    intro A outer s H args us vs Q E room quiet en bound vals want
    have there : ∀ b o, base.get? b = some o → s.heap.get? b = some o := fun b o e => (en.bs b o e).1
    have part : K.In s.heap := en.mod.kin.keeps there
    have nolim : s.heap.NoLimit := en.mod.nolimit.keeps there
    have kinds : ∀ y ∈ ps.zip us, sc.names.lookup y.1 = some .local ∨ (sc.names.lookup y.1 = some .cell ∧ ((cellsFrom (s.heap.objs.size + 1) sc.names []).lookup y.1).isSome = true) := by
      rintro ⟨x, v⟩ hy
      exact (S.par x (List.of_mem_zip hy).1).imp id fun c => ⟨c, PySem.W.cellsFrom_some _ _ _ (.inl c)⟩
    obtain ⟨t, run, start⟩ := text (outer := outer) (s := s) (room.deeper _) quiet want
    refine codeAny_call_function room.depth (part _ _ at_) rfl S.co S.gen rfl (PySem.W.codeRec_of part code) (bound _ _ _ _ ?_)
    refine wpAny_newFunctionEnv_cells S.kind kinds ?_
    rintro env rfl s1 call
    refine ⟨nolim.keeps call.toInCall.keep, codeAny_func ?_⟩
    have J : L2.Inv (bodyCx P w K mg base N qual sc f cd A outer s H E) [] (L2.start N vs) H s1 := inv_start S room.hd en (size want) vals call
    have done : ∀ {σ' H' s' v u}, L2.Inv (bodyCx P w K mg base N qual sc f cd A outer s H E) [] σ' H' s' → RelV v u → Q v H' → CE outer P w H s Q u s' :=
      fun {σ' H' s' v u} I r q => ⟨v, H', I.os, I.bare, I.base, I.hok, r, q⟩
    refine wpAny_mono (run.run [] s1 (L2.start N vs) H _ J start) (fun flow s2 ends => ?_) fun _ _ z => z
    match flow, ends with
    | .ret u, ⟨v, σ', H', I, r, q⟩ => exact done I r q
    | .next, ⟨σ', H', I, q⟩ => exact done (v := V.non) (u := Value.none) I rfl q
    | .brk, ⟨_, _, _, z⟩ => exact z.elim
    | .cont, ⟨_, _, _, z⟩ => exact z.elim
theorem make_guards {A : Around} {C : Addr} {us : List Value} {kw : List (Str × Value)} (q : A.guards = some []) : (A.under (.builtin "type.__call__" ⟨.ref C :: us, kw⟩)).guards = some [] := by
  first
    | exact q
    | simp [Around.under, pushGuards, Code.guards, Code.isGuard, guardIds, q]
/-- a property is read -/
theorem prop_got {X : Cx} {k : Nat} {C p g a dx : Addr} {fs : List (Str × V)} {f : Str} {fd : FuncData} {ps : List Str} {sp : Sp} {E : XK} {pins : List (Addr × Obj)} {σ : L2.St} {H : Hp} {s : Shared} {Q : VK} {b : Bool} {E' : Value → Shared → Prop} (I : L2.Inv X pins σ H s)
    (at_ : H a = some (.ins C dx fs)) (c : Cls X.K C) (P : PropOf X.K C f p g) (F : FnG X.prog X.w X.K X.mg X.base (L2.CX X.prog X.w) k g fd ps sp) (room : Room (k + 1) X.A) (quiet : X.A.guards = some []) (bound : Binds X.K fd ps [])
    (calm : Passes (L2.CX X.prog X.w) X.nox E) (want : sp [.ref a] H Q E) : wpAny (model X.prog X.w) X.A (getAttr (.ref a) f b) (EP X pins σ Q) E' s := by
  obtain ⟨mA, ob, _, _, _, _⟩ := ins_get I.hok at_
  obtain ⟨od, look, _⟩ := ob.look
  obtain ⟨more, rec_⟩ := P.rec_
  have J := I.tok (s.toks + 1)
  have isC : (PySem.W.clsIn X.K C).isSome = true := by
    obtain ⟨cd, z, _⟩ := PySem.W.any_some c.hd
    simp [z]
  have one : ([Value.ref a] ++ []).length = ps.length := (F.size want).symm ▸ rfl
  have g2 := PySem.W.plainGet_of (c.get f)
  refine PySem.W.get_bind I.kIn look g2.1 (PySem.W.findObj_data isC P.at_ P.get P.tak) g2.2 (wpAny_call (PySem.W.prop_get (s := { s with toks := s.toks + 1 }) I.kIn rec_ ?_))
  refine codeAny_mono (F.go (A := X.A.in1) (outer := X.stack) (args := ⟨[.ref a], []⟩) (us := [.ref a]) (vs := [.ref a]) room.in1 quiet J.env0.in1 (bound _ [.ref a] J.kIn one) (.cons rfl .nil) want) ?_
  rintro (er | fl) s' back
  · exact (calm pins σ H { s with toks := s.toks + 1 } er s' (J.wish _) back).elim
  · match fl, back with
    | .ret u, back =>
      obtain ⟨v, H', I3, r3, q3⟩ := J.after back
      show wpAny _ _ (handedOut u) _ _ _
      rw [PySem.W.handedOut_of (handed_of r3)]
      exact wpAny_pure ⟨v, H', I3, r3, q3⟩
    | .next, back => exact back.elim
    | .brk, back => exact back.elim
    | .cont, back => exact back.elim
/-! ### the law's end -/
/-- the script alone is tracked, where it is none of the known part -/
def scrH (K : PySem.W.Frag) (a : Addr) (vs : List Value) (ns : List Int) : Hp := fun b => if b = a ∧ K.lookup a = none then some (.frz { cls := .type "list", data := .seq vs.toArray } (.lst (ns.map V.int))) else none
theorem scrH_some {K : PySem.W.Frag} {a b : Addr} {vs : List Value} {ns : List Int} {u : HO} (e : scrH K a vs ns b = some u) : b = a ∧ K.lookup a = none ∧ u = .frz { cls := .type "list", data := .seq vs.toArray } (.lst (ns.map V.int)) := by
  unfold scrH at e
  split at e
  · rename_i c
    exact ⟨c.1, c.2, (Option.some.inj e).symm⟩
  · cases e
theorem law_goes {P : Program} {w : World} {K : PySem.W.Frag} {mg mb : Str → Option Value} {k : Nat} {fa a : Addr} {fd : FuncData} {x : Str} {sp : Sp} {s0 : Shared} {vs : List Value} {ns : List Int}
    (inK : K.In s0.heap) (glob : s0.heap.Ns mainGlobals mg) (blts : s0.heap.Ns builtinsNs mb) (boot : ∀ y : Str, y ≠ "__name__" → mb y = bootBuiltins y) (nolim : s0.heap.NoLimit) (gens : s0.gens = #[])
    (list : s0.heap.get? a = some { cls := .type "list", data := .seq vs.toArray }) (nums : IntsAre vs ns) (short : ns.length ≤ sizeLine) (room : Room k callerA)
    (F : ∀ base : Heap, K.In base → base.Ns mainGlobals mg → FnG P w K mg base (L2.CX P w) k fa fd [x] sp) (bound : ∀ (s : Shared) (u : Value), BindsTo s fd ⟨[u], []⟩ [(x, u)])
    (want : ∀ H : Hp, SqL K H a (ns.map V.int) → sp [.ref a] H (fun v _ => v = .bl true) fun _ _ _ => False) (noX : ∀ H e s', L2.CX P w [] H s0 (fun _ _ _ => False) e s' → False) :
    codeAny (model P w) callerA (.call (.ref fa) ⟨[.ref a], []⟩) (fun r s' => r = .ok (.ret (.bool true)) ∧ OldK s0.heap s'.heap ∧ s'.os = s0.os ∧ AllBare s'.gens) s0 := by
  have rel := vals_ints nums
  have seen : SqL K (scrH K a vs ns) a (ns.map V.int) := by
    cases q : K.lookup a with
    | none =>
      refine .inl (.inr ⟨{ cls := .type "list", data := .seq vs.toArray }, ?_⟩)
      unfold scrH
      exact if_pos ⟨rfl, q⟩
    | some o =>
      have e := inK a o q
      rw [list] at e
      cases e
      exact .inr ⟨_, vs.toArray, _, q, rfl, rfl, rfl, by rw [List.size_toArray, nums.length]; exact short, by simpa using rel⟩
  have held : HOk P w (scrH K a vs ns) s0.heap := fun b u e => by
    obtain ⟨rfl, _, rfl⟩ := scrH_some e
    exact ⟨list, by rw [List.length_map]; exact short, vs, _, rel, list⟩
  have off : ∀ {b : Addr} {o : Obj}, s0.heap.get? b = some o → (∀ ws n, o.data ≠ .seq ws n) → scrH K a vs ns b = none := fun {b o} e d => by
    cases q : scrH K a vs ns b with
    | none => rfl
    | some u =>
      obtain ⟨rfl, _, _⟩ := scrH_some q
      rw [list] at e
      cases e
      exact absurd rfl (d _ _)
  have names : ∀ {b : Addr} {m : Str → Option Value}, s0.heap.Ns b m → (hidT s0.heap (scrH K a vs ns)).Ns b m := fun {b m} ⟨o, es, ep, e, d, r⟩ =>
    ⟨o, es, ep, hidT_get e (off e fun ws n z => by rw [d] at z; cases z), d, r⟩
  have inB : K.In (hidT s0.heap (scrH K a vs ns)) := fun b o e => hidT_get (inK b o e) (by
    cases q : scrH K a vs ns b with
    | none => rfl
    | some u =>
      obtain ⟨rfl, z, _⟩ := scrH_some q
      rw [z] at e
      cases e)
  have md : L2.Mod K mg (hidT s0.heap (scrH K a vs ns)) := ⟨inB, names glob, ⟨mb, names blts, boot⟩, let ⟨mc, h1, h2⟩ := nolim; ⟨mc, names h1, h2⟩⟩
  have en : Env0 P w K mg (hidT s0.heap (scrH K a vs ns)) callerA [] s0 (scrH K a vs ns) :=
    ⟨rfl, md, fun _ _ e => of_hidT e, Nat.le_of_eq (hidT_size _ _), trivial, fun b hb => absurd (show b ∈ ([] : List Addr) from hb) (by simp), held, .of_eq gens⟩
  refine codeAny_mono ((F _ inB (names glob)).go (outer := []) (args := ⟨[.ref a], []⟩) (us := [.ref a]) (vs := [.ref a]) room rfl en (bound s0 (.ref a)) (.cons rfl .nil) (want _ seen)) ?_
  rintro (er | fl) s' back
  · exact (noX _ er s' back).elim
  · match fl, back with
    | .next, back => exact False.elim back
    | .brk, back => exact False.elim back
    | .cont, back => exact False.elim back
    | .ret u, ⟨v, H', os, bare, un, held', r, q⟩ =>
      obtain rfl : v = .bl true := q
      obtain rfl : u = Value.bool true := r
      have stay : ∀ b o, s0.heap.get? b = some o → s'.heap.get? b = some o := fun b o e => by
        cases q : scrH K a vs ns b with
        | none => exact un.keep b o e q (fun z => absurd (show b ∈ ([] : List Addr) from z) (by simp)) (by simp)
        | some u =>
          obtain ⟨rfl, _, rfl⟩ := scrH_some q
          obtain ⟨e2, _⟩ := held' _ _ (un.frzs _ _ _ q)
          rw [list] at e
          cases e
          exact e2
      exact ⟨rfl, ⟨fun b o e => .inl (stay b o e), fun b o e => ⟨o, stay b o e⟩⟩, os, bare⟩
/-- what is known of the law at the head's heap -/
def LawG (l : PySem.W.OpenLaw) (w : World) (K : PySem.W.Frag) (k n : Nat) (x : Str) (mg : Str → Option Value) (fa : Addr) : Prop :=
  ∃ (fd : FuncData) (sp : Sp), (∀ (s : Shared) (u : Value), BindsTo s fd ⟨[u], []⟩ [(x, u)]) ∧
    (∀ (H : Hp) (a : Addr) (ns : List Int), ns.length ≤ n → (∀ z ∈ ns, Builtin.Int.intBits z ≤ 1048576) → SqL K H a (ns.map V.int) → sp [.ref a] H (fun v _ => v = .bl true) fun _ _ _ => False) ∧
    ∀ base : Heap, K.In base → base.Ns mainGlobals mg → FnG l.prog w K mg base (L2.CX l.prog w) k fa fd [x] sp
theorem walk_ofG {l : PySem.W.OpenLaw} {n k : Nat} {q : Program} {loose : List Str} {XP : (Str → Option Value) → Heap → Prop} {YP : World → Heap → Prop} {d : DefRec} {x : Str}
    (most : l.most = some n) (few : n ≤ sizeLine) (plain : d.params.defaults = []) (room : Room k callerA)
    (F : ∀ (w : World) (mg : Str → Option Value) (fa : Addr) (h : Heap), YP w h → h.Ns mainGlobals mg → mg d.name = some (.ref fa) → ∃ K : PySem.W.Frag, K.In h ∧ LawG l w K k n x mg fa)
    (noX : ∀ (w : World) (H : Hp) (s : Shared) (e : Value) (s' : Shared), L2.CX l.prog w [] H s (fun _ _ _ => False) e s' → False) :
    PySem.W.WalkO q loose XP YP l.row.toRowW d [] (fun f vs => PySem.call f vs) := by
  refine Att.attach_callB most plain ?_
  intro w s₀ s₁ mg mb fa o pm cd doc a vs ns G Y ho hd hcd name list nums len bits gens
  obtain ⟨K, inK, fd, sp, bound, want, go⟩ := F w mg fa _ Y G.T.g name
  exact law_goes inK G.T.g G.T.b G.T.builtins G.T.nolimit gens list nums (Nat.le_trans len few) room go bound (fun H seen => want H a ns len bits seen) fun H e s' => noX w H s₁ e s'
end AM
/-! The core's expressions, sound: the context, names, operators. -/
namespace AM
open PySem L2
/-- what a def's promise is, by the machine -/
def spA (k : Cst) (cf : Nat → List W → AH → Res W) (n f : Nat) : Sp := fun vs H Q E => vs.length = n ∧ ∃ ι h ws, R k ι h H ∧ RelWs k ι h.length H ws vs ∧ WPE k (fun c d _ H => E c d H) [] (cf f ws h) ι h H (relW k) Q
structure FnS (P : Program) (w : World) (mg : Str → Option Value) (base : Heap) (k : Cst) (g : Ev) (lv f : Nat) (d : DefC) (a : Addr) : Prop where
  fn : ∃ fd, (∃ oc od osl, k.K.lookup a = some ⟨oc, od, .func fd, osl⟩) ∧ FnG P w k.K mg base (L2.CX P w) lv a fd d.ps (spA k g.cf d.ps.length f) ∧ Binds k.K fd d.ps [] ∧
    ∀ n ks, (f, n, ks) ∈ g.gc.kws → ∀ (us ws vs : List Value), us.length = n → ws.length = ks.length → (permOf d.ps n ks).bind (pick (us ++ ws)) = some vs → bindArgs fd ⟨us, ks.zip ws⟩ = pure (d.ps.zip vs)
  kp : PySem.W.keepIn k.K (.ref a) = true
structure ClsS (k : Cst) (fA : Nat → Addr) (c : Nat) (cl : ClsC) : Prop where
  cls : Cls k.K (k.cA c)
  mak : L2.Mk k.K (k.cA c) (fA cl.init)
  ms : ∀ m f, cl.meths.lookup m = some f → Meth k.K (k.cA c) m (fA f)
  prs : ∀ m f, cl.props.lookup m = some f → ∃ p, PropOf k.K (k.cA c) m p (fA f)
  fl : ∀ x, x ∈ cl.flds → NoAttr k.K (k.cA c) x
/-- a message may be made of y -/
def msgV (K : PySem.W.Frag) (H : Hp) (m : Str) (y : V) : Prop := (∃ i : Int, y = .int i ∧ i.natAbs.log2 < 1920 ∧ m.length + (Str.ofString (toString i)).length ≤ sizeLine) ∨
  ∃ a d, y = .ref a ∧ Dp K H (.ref a) d ∧ d.showable = true ∧ d.hasDict = false ∧ d.depth ≤ 60 ∧ d.shown.length ≤ sizeLine ∧ m.length + d.shown.length ≤ sizeLine
theorem msgV_of {k : Cst} {ι : Nat → Addr} {h : AH} {H : Hp} {m : Str} {w : W} {y : V} (r : R k ι h H) (rw0 : RelW k ι h.length H w y) (ok : msgOk m w = true) : msgV k.K H m y := by
  unfold msgOk at ok
  split at ok
  · split at ok
    · rename_i z e
      obtain ⟨e1, rfl⟩ := strI_some e
      unfold RelW at rw0
      subst rw0
      exact .inl ⟨_, rfl, e1, sz_ok ok⟩
    · cases ok
  · split at ok
    · rename_i z e
      unfold reprW at e
      obtain ⟨d, e3, e4⟩ := Option.bind_eq_some_iff.mp e
      obtain ⟨z1, z2, z3, z4, rfl⟩ := reprD_some e4
      have dp := dp_of r _ rw0 e3
      unfold RelW at rw0
      obtain ⟨a, vs, rfl, _⟩ := rw0
      exact .inr ⟨a, d, rfl, dp, z1, z2, z3, z4, sz_ok ok⟩
    · cases ok
  · cases ok
/-- an exception with a message and a field may be made -/
def spIni (k : Cst) (c : Nat) (i : IniC) : Sp := fun vs H Q _ => ∃ a y, vs = [.ref a, y] ∧ H a = some (exo a (k.cA c) none) ∧ msgV k.K H i.m y ∧
  ∀ dx, H dx = none → dx ≠ a → Q .non (L2.upd (L2.upd H dx (exd dx [(i.x, y)])) a (exo a (k.cA c) (some dx)))
structure IniS (P : Program) (w : World) (mg : Str → Option Value) (base : Heap) (k : Cst) (c : Nat) (i : IniC) : Prop where
  oex : OexC k.K (k.cA c)
  xf : XfC k.K (k.cA c)
  no : PySem.W.findIn k.K (.ref (k.cA c)) i.x = some none
  go : ∃ fI fd ps, PySem.W.findIn k.K (.ref (k.cA c)) "__init__" = some (some (.ref fI)) ∧ PySem.W.typeIn k.K (.ref fI) = some (.type "function") ∧ Binds k.K fd ps [] ∧ FnG P w k.K mg base (L2.CX P w) 1 fI fd ps (spIni k c i)
/-- the program's facts -/
structure Fx (P : Program) (w : World) (mg : Str → Option Value) (base : Heap) (k : Cst) (gl : Gl) (g : Ev) (lv : Nat) (fA : Nat → Addr) : Prop where
  sc : g.sc = k.sc
  gfn : ∀ x f, gl.lookup x = some (.fn f) → mg x = some (.ref (fA f)) ∧ ∃ d, g.gc.defs[f]? = some d
  gcl : ∀ x c, gl.lookup x = some (.cls c) → mg x = some (.ref (k.cA c)) ∧ PySem.W.keepIn k.K (.ref (k.cA c)) = true
  gbl : ∀ x, gl.lookup x = some .blt → mg x = none
  gco : ∀ x v, gl.lookup x = some (.con v) → gloW v = true → ∃ u V, mg x = some u ∧ L2.RelV V u ∧ ∀ ι n H, RelW k ι n H v V
  len : ∀ f ws h d, g.gc.defs[f]? = some d → ws.length ≠ d.ps.length → g.cf f ws h = .stuck
  fn : ∀ f d, g.gc.defs[f]? = some d → FnS P w mg base k g lv f d (fA f)
  cl : ∀ c cl, g.gc.clss.lookup c = some cl → ClsS k fA c cl
  met : ∀ c cl m f, g.gc.clss.lookup c = some cl → cl.meths.lookup m = some f → ∃ d, g.gc.defs[f]? = some d
  prp : ∀ c cl m f, g.gc.clss.lookup c = some cl → cl.props.lookup m = some f → ∃ d, g.gc.defs[f]? = some d
  exr : ∀ c, c ∈ g.gc.rais → PySem.W.excIn k.K (k.cA c) He.veBase "ValueError.__new__" = true ∧ PySem.W.subIn k.K (.ref (k.cA c)) (.type "BaseException") = some true ∧ PySem.W.typeIn k.K (.ref (k.cA c)) = some (.type "type")
  exo : ∀ c d b, g.gc.exm c d = some b → PySem.W.exmOne k.K (.ref (k.cA c)) (.ref (k.cA d)) = some b
  exm : ∀ c d b, g.gc.exm c d = some b → PySem.W.kitOne k.K (.ref (k.cA c)) (.ref (k.cA d)) = some b ∧ (∀ t ∈ tynames, PySem.W.kitOne k.K (.type t) (.ref (k.cA c)) = some false) ∧ ∀ x : Addr, PySem.W.KitX k.K (.ref x) (.ref (k.cA c)) (fun h => ∃ ox od, PySem.W.InstAt h x ox (k.cA c) od)
  ini : ∀ c cl, g.gc.clss.lookup c = some cl → ∃ d, g.gc.defs[cl.init]? = some d
  ixs : ∀ c i, g.gc.inis.lookup c = some i → IniS P w mg base k c i
/-- the context of a piece of code -/
structure CxO (X : Cx) (k : Cst) (gl : Gl) (g : Ev) (lv : Nat) (fA : Nat → Addr) (se : SE) : Prop where
  K : X.K = k.K
  w : X.w = k.w
  quiet : X.A.guards = some []
  calm : X.calm = true
  N : X.N = se.N
  sc : X.env.scope = se.sc
  fn : ∀ x, se.fb x = true → X.fn x = true
  nd : X.N.Nodup
  room : Room (lv + 2) X.A
  fx : Fx X.prog X.w X.mg X.base k gl g lv fA
section
variable {X : Cx} {k : Cst} {gl : Gl} {g : Ev} {lv : Nat} {fA : Nat → Addr} {se : SE} {Wx : WX}
theorem CxO.un (cx : CxO X k gl g lv fA se) : X.A.units + 65 < cLine := by have := cx.room.un; omega
theorem PE.of {X : Cx} {e : Expr} {t t' : TE} (h : PE X e t) (f : ∀ σ H Q, t' σ H Q → t σ H Q) : PE X e t' := ⟨fun pins s σ H Q I q => h.run pins s σ H Q I (f σ H Q q)⟩
theorem PT.of {X : Cx} {e : Expr} {t t' : TT} (h : PT X e t) (f : ∀ σ H Q, t' σ H Q → t σ H Q) : PT X e t' := ⟨fun pins s σ H Q I q => h.run pins s σ H Q I (f σ H Q q)⟩
theorem PW.of {X : Cx} {e : Expr} {t t' : TT} (h : PW X e t) (f : ∀ σ H Q, t' σ H Q → t σ H Q) : PW X e t' := ⟨fun wh pins s σ H Q I q => h.run wh pins s σ H Q I (f σ H Q q)⟩
theorem PA.of {X : Cx} {e : List Expr} {t t' : TA} (h : PA X e t) (f : ∀ σ H Q, t' σ H Q → t σ H Q) : PA X e t' := ⟨fun ps pins s σ H Q I q => h.run ps pins s σ H Q I (f σ H Q q)⟩
theorem PS.of {X : Cx} {e : Stmt} {t t' : TS} (h : PS X e t) (f : ∀ D σ H, t' D σ H → t D σ H) : PS X e t' := ⟨fun pins s σ H Q I q => h.run pins s σ H Q I (f Q σ H q)⟩
theorem PSs.of {X : Cx} {e : List Stmt} {t t' : TS} (h : PSs X e t) (f : ∀ D σ H, t' D σ H → t D σ H) : PSs X e t' := ⟨fun pins s σ H Q I q => h.run pins s σ H Q I (f Q σ H q)⟩
theorem PI.of {X : Cx} {tg e : Expr} {t t' : TI} (h : PI X tg e t) (f : ∀ σ H Q, t' σ H Q → t σ H Q) : PI X tg e t' := ⟨fun pins s σ H Q I q => h.run pins s σ H Q I (f σ H Q q)⟩
theorem PG.of {X : Cx} {e : Expr} {t t' : TG} (h : PG X e t) (f : ∀ v σ H Q, t' v σ H Q → t v σ H Q) : PG X e t' := ⟨fun pins s σ H v u Q I r q => h.run pins s σ H v u Q I r (f v σ H Q q)⟩
theorem PGs.of {X : Cx} {e : List Expr} {t t' : TGs} (h : PGs X e t) (f : ∀ v σ H Q, t' v σ H Q → t v σ H Q) : PGs X e t' := ⟨fun pins s σ H v u Q I r q => h.run pins s σ H v u Q I r (f v σ H Q q)⟩

/-! ### readings -/
/-- an answer of the machine at its states beside σ, H -/
def tR (k : Cst) (Wx : WX) {α β : Type} (rel : Rel α β) (f : St → AH → Res α) : L2.St → Hp → (β → Hp → Prop) → Prop := fun σ H Q => ∃ ι as h, RelS k ι h.length H as σ ∧ R k ι h H ∧ WPE k Wx σ (f as h) ι h H rel Q
def tE (k : Cst) (g : Ev) (Wx : WX) (c : C) : TE := tR k Wx (relW k) fun as h => evalE g c as h
def tT (k : Cst) (g : Ev) (Wx : WX) (c : T) : TT := tR k Wx relB fun as h => evalT g c as h
def tEs (k : Cst) (g : Ev) (Wx : WX) (cs : List C) : TA := tR k Wx (relWs k) fun as h => evalEs g cs as h
variable {α β γ δ : Type} {rel : Rel α β} {rel2 : Rel γ δ}
/-- first one answer, then another -/
theorem tR.bind {f : St → AH → Res α} {f2 : α → St → AH → Res γ} {σ : L2.St} {H : Hp} {Q : δ → Hp → Prop} (w : tR k Wx rel2 (fun as h => (f as h).bind fun a h1 => f2 a as h1) σ H Q) :
    tR k Wx rel f σ H fun b H1 => ∃ ι as h a, RelS k ι h.length H1 as σ ∧ R k ι h H1 ∧ rel a ι h.length H1 b ∧ WPE k Wx σ (f2 a as h) ι h H1 rel2 Q := by
  obtain ⟨ι, as, h, rs, r, w⟩ := w
  dsimp only at w
  refine ⟨ι, as, h, rs, r, (WPE.bind (rel := rel) (rel2 := rel2) r w).imp fun b H1 ⟨a, ι1, h1, p, ra, w1⟩ => ⟨ι1, as, h1, a, rs.keep (p.keep r), p.rel, ra, w1⟩⟩
theorem tR.imp {f : St → AH → Res α} {σ : L2.St} {H : Hp} {Q Q' : β → Hp → Prop} (w : tR k Wx rel f σ H Q) (h : ∀ b H', Q b H' → Q' b H') : tR k Wx rel f σ H Q' := by
  obtain ⟨ι, as, hh, rs, r, w⟩ := w
  exact ⟨ι, as, hh, rs, r, w.imp h⟩
theorem tR.eq {f f' : St → AH → Res α} {σ : L2.St} {H : Hp} {Q : β → Hp → Prop} (w : tR k Wx rel f σ H Q) (h : ∀ as h, f as h = f' as h) : tR k Wx rel f' σ H Q := by
  have e : f = f' := funext fun a => funext fun b => h a b
  rw [← e]
  exact w
/-- an answer that is there -/
theorem WPE.same {a : W} {v : V} {h : AH} {H : Hp} {ι : Nat → Addr} {σ : L2.St} {Q : VK} (r : R k ι h H) (w : WPE k Wx σ (.ok a h) ι h H (relW k) Q) (e : RelW k ι h.length H a v) : Q v H := w ι H v (Post.refl r) e
theorem WPE.sameB {a : Bool} {h : AH} {H : Hp} {ι : Nat → Addr} {σ : L2.St} {Q : Bool → Hp → Prop} (r : R k ι h H) (w : WPE k Wx σ (.ok a h) ι h H relB Q) : Q a H := w ι H a (Post.refl r) rfl

/-! ### names, constants -/
theorem vis_of {se : SE} (cx : CxO X k gl g lv fA se) {x : Str} (h : visB (se.sc.names.lookup x) = true) : Vis X.env.scope x := by
  rw [← cx.sc] at h
  unfold Vis
  revert h
  cases X.env.scope.names.lookup x with
  | none => intro h; cases h
  | some kk => cases kk <;> intro h <;> first | exact .inl rfl | exact .inr (.inl rfl) | exact .inr (.inr rfl) | cases h
theorem e_var {i : Nat} {x : Str} {pos : Pos} (cx : CxO X k gl g lv fA se) (ok : okN se x i = true) : PE X (.Name x pos) (tE k g Wx (.var i)) := by
  unfold okN at ok
  simp only [Bool.and_eq_true, decide_eq_true_eq, Bool.not_eq_true'] at ok
  obtain ⟨⟨⟨e1, e2⟩, e3⟩, e4⟩ := ok
  refine PE.of (pe_var (i := i) (by rw [cx.N]; exact e1) (vis_of cx e2) e3 e4) fun σ H Q ⟨ι, as, h, rs, r, w⟩ => ?_
  dsimp only at w
  unfold evalE at w
  split at w
  · rename_i w0 e
    obtain ⟨v, e1, e2⟩ := rs.2 i w0 e
    exact ⟨v, e1, WPE.same r w e2⟩
  · exact w.elim
theorem e_con {c : Const} {w0 : W} {j : Nat} {pos : Pos} (ok : okCon w0 c = true) : PE X (.Constant c j pos) (tE k g Wx (.con w0)) := by
  unfold okCon at ok
  split at ok
  · rw [beq_iff_eq] at ok
    subst ok
    exact PE.of pe_int fun σ H Q ⟨ι, as, h, rs, r, w⟩ => WPE.same r w (by unfold RelW; rfl)
  · have ok := of_decide_eq_true ok
    subst ok
    exact PE.of pe_str fun σ H Q ⟨ι, as, h, rs, r, w⟩ => WPE.same r w (by unfold RelW; rfl)
  · rw [beq_iff_eq] at ok
    subst ok
    exact PE.of pe_bl fun σ H Q ⟨ι, as, h, rs, r, w⟩ => WPE.same r w (by unfold RelW; rfl)
  · exact PE.of pe_non fun σ H Q ⟨ι, as, h, rs, r, w⟩ => WPE.same r w (by unfold RelW; rfl)
  · cases ok
structure GOk (X : Cx) (gl : Gl) (x : Str) (gk : GK) : Prop where
  gi : L2.Gl X x
  lk : gl.lookup x = some gk
  db : (x == ("__debug__" : Str)) = false
  nm : x ≠ "__name__"
theorem g_of (cx : CxO X k gl g lv fA se) {x : Str} {gk : GK} (ok : okG gl se x gk = true) : GOk X gl x gk := by
  unfold okG at ok
  simp only [Bool.and_eq_true, decide_eq_true_eq, Bool.not_eq_true'] at ok
  obtain ⟨⟨⟨e1, e2⟩, e3⟩, e4⟩ := ok
  refine ⟨?_, e2, e3, by simpa using e4⟩
  show X.env.scope.names.lookup x = _
  rw [cx.sc]
  exact e1
theorem e_glo {x y : Str} {w0 : W} {pos : Pos} (cx : CxO X k gl g lv fA se) (e : x = y) (ok : okG gl se y (.con w0) = true) (sc : gloW w0 = true) : PE X (.Name y pos) (tE k g Wx (.glo x w0)) := by
  have go := g_of cx ok
  obtain ⟨u, v, e1, e2, e3⟩ := cx.fx.gco y w0 go.lk sc
  exact PE.of (pe_glob go.gi e1 e2 go.db) fun σ H Q ⟨ι, as, h, rs, r, w⟩ => WPE.same r w (e3 _ _ _)

/-! ### operators -/
abbrev Ctx := (Nat → Addr) → Nat → Hp → Prop
def KeepP (k : Cst) (P : Ctx) : Prop := ∀ ι n H ι' n' H', Keep k ι n H ι' n' H' → P ι n H → P ι' n' H'
theorem nxt {f : St → AH → Res α} {f2 : α → AH → Res γ} {σ : L2.St} {H : Hp} {Q : δ → Hp → Prop} {ι : Nat → Addr} {as : St} {h : AH} (P : Ctx) (kp : KeepP k P) (rs : RelS k ι h.length H as σ) (r : R k ι h H) (p : P ι h.length H)
    (w : WPE k Wx σ ((f as h).bind f2) ι h H rel2 Q) :
    tR k Wx rel f σ H fun b H1 => ∃ ι h a, RelS k ι h.length H1 as σ ∧ R k ι h H1 ∧ P ι h.length H1 ∧ rel a ι h.length H1 b ∧ WPE k Wx σ (f2 a h) ι h H1 rel2 Q :=
  ⟨ι, as, h, rs, r, (WPE.bind (rel := rel) (rel2 := rel2) r w).imp fun b H1 ⟨a, ι1, h1, q, ra, w1⟩ => ⟨ι1, h1, a, rs.keep (q.keep r), q.rel, kp _ _ _ _ _ _ (q.keep r) p, ra, w1⟩⟩
theorem kpW {w : W} {v : V} : KeepP k fun ι n H => RelW k ι n H w v := fun _ _ _ _ _ _ kp e => e.keep kp
theorem kpWs {w : List W} {v : List V} : KeepP k fun ι n H => RelWs k ι n H w v := fun _ _ _ _ _ _ kp e => e.keep kp
theorem kpAnd {P P' : Ctx} (a : KeepP k P) (b : KeepP k P') : KeepP k fun ι n H => P ι n H ∧ P' ι n H := fun _ _ _ _ _ _ kp e => ⟨a _ _ _ _ _ _ kp e.1, b _ _ _ _ _ _ kp e.2⟩
theorem kpT : KeepP k fun _ _ _ => True := fun _ _ _ _ _ _ _ _ => trivial
theorem e_op {a b : Expr} {ca cb : C} {f : W → W → AH → Res W} {σ : L2.St} {H : Hp} {Q : VK} (nx : ∀ x y h c xs ws h', f x y h ≠ .exc c xs ws h')
    (w : tR k Wx (relW k) (fun as h => (evalE g ca as h).bind fun x h1 => (evalE g cb as h1).bind fun y h2 => f x y h2) σ H Q) :
    tOp (fun x y H Q => ∃ ι h a b, R k ι h H ∧ RelW k ι h.length H a x ∧ RelW k ι h.length H b y ∧ WPV k (f a b h) ι h H (relW k) Q) (tE k g Wx ca) (tE k g Wx cb) σ H Q := by
  obtain ⟨ι, as, h, rs, r, w⟩ := w
  dsimp only at w
  refine (nxt (fun _ _ _ => True) kpT rs r trivial w).imp fun x H1 ⟨ι, h, wx, rs, r, _, rx, w⟩ => ?_
  refine (nxt (fun ι n H => RelW k ι n H wx x) kpW rs r rx w).imp fun y H2 ⟨ι, h, wy, rs, r, rx, ry, w⟩ => ?_
  exact ⟨ι, h, wx, wy, r, rx, ry, WPV.of w (nx _ _ _)⟩
theorem e_bin {a b : Expr} {ca cb : C} {op : Bop} {pos : Pos} (cx : CxO X k gl g lv fA se) (ha : PE X a (tE k g Wx ca)) (hb : PE X b (tE k g Wx cb)) : PE X (.BinOp a (bopOf op) b pos) (tE k g Wx (.bin op ca cb)) := by
  refine PE.of (pe_op (op_binA cx.K op) ha hb) fun σ H Q w => ?_
  exact e_op (a := a) (b := b) (fun x y h => binW_nx) (tR.eq w fun _ _ => by rw [evalE])
theorem mark_of {op : CmpOp} {b : Expr} (h : noSet b = true) : behindInMarks op b = false := by
  cases b <;> first | rfl | (cases h; done) | (cases op <;> rfl)
theorem e_cmp {a b : Expr} {ca cb : C} {op : Cop} {pos : Pos} (cx : CxO X k gl g lv fA se) (hs : noSet b = true) (ha : PE X a (tE k g Wx ca)) (hb : PE X b (tE k g Wx cb)) : PE X (.Compare a [copOf op] [b] pos) (tE k g Wx (.cmp op ca cb)) := by
  refine PE.of (pe_cmpR (op_cmpA cx.K cx.w cx.un op) ha hb (mark_of hs)) fun σ H Q w => ?_
  exact e_op (a := a) (b := b) (fun x y h => cmpW_nx) (tR.eq w fun _ _ => by rw [evalE])
theorem e_neg {a : Expr} {ca : C} {pos : Pos} (ha : PE X a (tE k g Wx ca)) : PE X (.UnaryOp .USub a pos) (tE k g Wx (.neg ca)) := by
  refine PE.of (pe_un un_neg ha) fun σ H Q w => ?_
  obtain ⟨ι, as, h, rs, r, w⟩ := w
  dsimp only at w
  rw [evalE] at w
  refine (nxt (fun _ _ _ => True) kpT rs r trivial w).imp fun x H1 ⟨ι, h, wx, rs, r, _, rx, w⟩ => ?_
  split at w
  · unfold RelW at rx
    subst rx
    exact ⟨_, rfl, WPE.same r w (by unfold RelW; rfl)⟩
  · exact w.elim
theorem optR_bl {o f h} : optR o f h = .stuck ∨ ∃ c, optR o f h = .ok (.bl c) h := by
  unfold optR
  split
  · exact .inr ⟨_, rfl⟩
  · exact .inl rfl
theorem cmpW_bl {op : Cop} {x y : W} {h : AH} : cmpW op x y h = .stuck ∨ ∃ c, cmpW op x y h = .ok (.bl c) h := by
  unfold cmpW
  split <;> first | exact optR_bl | (split <;> first | exact optR_bl | exact .inl rfl | exact .inr ⟨_, rfl⟩)
theorem e_not {a : Expr} {ca : C} {pos : Pos} (ha : PE X a (tE k g Wx ca)) : PE X (.UnaryOp .Not a pos) (tE k g Wx (.not ca)) := by
  refine PE.of (pe_not ha) fun σ H Q w => ?_
  obtain ⟨ι, as, h, rs, r, w⟩ := w
  dsimp only at w
  rw [evalE] at w
  refine (nxt (fun _ _ _ => True) kpT rs r trivial w).imp fun x H1 ⟨ι, h, wx, rs, r, _, rx, w⟩ => ?_
  split at w
  · unfold RelW at rx
    subst rx
    exact ⟨_, rfl, WPE.same r w (by unfold RelW; rfl)⟩
  · exact w.elim
/-! ### and, or -/
def tAn (k : Cst) (g : Ev) (Wx : WX) (cs : List C) : TE := tR k Wx (relW k) fun as h => evalAnd g cs as h
def tOr_ (k : Cst) (g : Ev) (Wx : WX) (cs : List C) : TE := tR k Wx (relW k) fun as h => evalOr g cs as h
theorem e_and1 {a : Expr} {ca : C} {pos : Pos} (ha : PE X a (tE k g Wx ca)) : PE X (.BoolOp .And [a] pos) (tAn k g Wx [ca]) :=
  PE.of (pe_one ha) fun σ H Q w => tR.eq w fun _ _ => by rw [evalAnd]
theorem e_or1 {a : Expr} {ca : C} {pos : Pos} (ha : PE X a (tE k g Wx ca)) : PE X (.BoolOp .Or [a] pos) (tOr_ k g Wx [ca]) :=
  PE.of (pe_one ha) fun σ H Q w => tR.eq w fun _ _ => by rw [evalOr]
theorem e_and {a b : Expr} {rest : List Expr} {ca cb : C} {cs : List C} {pos : Pos} (ha : PE X a (tE k g Wx ca)) (hb : PE X (.BoolOp .And (b :: rest) pos) (tAn k g Wx (cb :: cs))) : PE X (.BoolOp .And (a :: b :: rest) pos) (tAn k g Wx (ca :: cb :: cs)) := by
  refine PE.of (pe_and ha hb) fun σ H Q w => ?_
  obtain ⟨ι, as, h, rs, r, w⟩ := w
  dsimp only at w
  rw [evalAnd.eq_3 _ _ _ _ _ (by simp)] at w
  refine (nxt (fun _ _ _ => True) kpT rs r trivial w).imp fun x H1 ⟨ι, h, wx, rs, r, _, rx, w⟩ => ?_
  split at w
  · unfold RelW at rx
    subst rx
    exact ⟨true, rfl, ⟨ι, as, h, rs, r, w⟩⟩
  · unfold RelW at rx
    subst rx
    exact ⟨false, rfl, WPE.same r w (by unfold RelW; rfl)⟩
  · exact w.elim
theorem e_or {a b : Expr} {rest : List Expr} {ca cb : C} {cs : List C} {pos : Pos} (ha : PE X a (tE k g Wx ca)) (hb : PE X (.BoolOp .Or (b :: rest) pos) (tOr_ k g Wx (cb :: cs))) : PE X (.BoolOp .Or (a :: b :: rest) pos) (tOr_ k g Wx (ca :: cb :: cs)) := by
  refine PE.of (pe_or ha hb) fun σ H Q w => ?_
  obtain ⟨ι, as, h, rs, r, w⟩ := w
  dsimp only at w
  rw [evalOr.eq_3 _ _ _ _ _ (by simp)] at w
  refine (nxt (fun _ _ _ => True) kpT rs r trivial w).imp fun x H1 ⟨ι, h, wx, rs, r, _, rx, w⟩ => ?_
  split at w
  · unfold RelW at rx
    subst rx
    exact ⟨false, rfl, ⟨ι, as, h, rs, r, w⟩⟩
  · unfold RelW at rx
    subst rx
    exact ⟨true, rfl, WPE.same r w (by unfold RelW; rfl)⟩
  · exact w.elim
/-! ### tests -/
theorem t_not {a : Expr} {ca : T} {pos : Pos} (ha : PT X a (tT k g Wx ca)) : PT X (.UnaryOp .Not a pos) (tT k g Wx (.not ca)) := by
  refine PT.of (pt_not ha) fun σ H Q w => ?_
  obtain ⟨ι, as, h, rs, r, w⟩ := w
  dsimp only at w
  rw [evalT] at w
  refine (nxt (fun _ _ _ => True) kpT rs r trivial w).imp fun x H1 ⟨ι, h, wx, rs, r, _, rx, w⟩ => ?_
  have rx : wx = x := rx
  subst rx
  exact WPE.sameB r w
def tTA (k : Cst) (g : Ev) (Wx : WX) (cs : List T) : TT := tR k Wx relB fun as h => evalTA g cs as h
def tTO (k : Cst) (g : Ev) (Wx : WX) (cs : List T) : TT := tR k Wx relB fun as h => evalTO g cs as h
theorem bind_okB {r : Res Bool} : (r.bind fun c h1 => if c then Res.ok true h1 else Res.ok false h1) = r := by
  cases r <;> (try rfl)
  rename_i a _
  cases a <;> rfl
theorem t_and1 {a : Expr} {ca : T} {pos : Pos} (ha : PT X a (tT k g Wx ca)) : PW X (.BoolOp .And [a] pos) (tTA k g Wx [ca]) :=
  PW.of (pw_and1 ha) fun σ H Q w => tR.eq w fun _ _ => by
    rw [evalTA]
    simp only [evalTA]
    exact bind_okB
theorem t_or1 {a : Expr} {ca : T} {pos : Pos} (ha : PT X a (tT k g Wx ca)) : PW X (.BoolOp .Or [a] pos) (tTO k g Wx [ca]) :=
  PW.of (pw_or1 ha) fun σ H Q w => tR.eq w fun _ _ => by
    rw [evalTO]
    simp only [evalTO]
    exact bind_okB
theorem t_and {a b : Expr} {rest : List Expr} {ca : T} {cs : List T} {pos : Pos} (ha : PT X a (tT k g Wx ca)) (hb : PW X (.BoolOp .And (b :: rest) pos) (tTA k g Wx cs)) : PW X (.BoolOp .And (a :: b :: rest) pos) (tTA k g Wx (ca :: cs)) := by
  refine PW.of (pw_and ha hb) fun σ H Q w => ?_
  obtain ⟨ι, as, h, rs, r, w⟩ := w
  dsimp only at w
  rw [evalTA] at w
  refine (nxt (fun _ _ _ => True) kpT rs r trivial w).imp fun x H1 ⟨ι, h, wx, rs, r, _, rx, w⟩ => ?_
  have rx : wx = x := rx
  subst rx
  cases wx with
  | true => exact ⟨ι, as, h, rs, r, w⟩
  | false => exact WPE.sameB r w
theorem t_or {a b : Expr} {rest : List Expr} {ca : T} {cs : List T} {pos : Pos} (ha : PT X a (tT k g Wx ca)) (hb : PW X (.BoolOp .Or (b :: rest) pos) (tTO k g Wx cs)) : PW X (.BoolOp .Or (a :: b :: rest) pos) (tTO k g Wx (ca :: cs)) := by
  refine PW.of (pw_or ha hb) fun σ H Q w => ?_
  obtain ⟨ι, as, h, rs, r, w⟩ := w
  dsimp only at w
  rw [evalTO] at w
  refine (nxt (fun _ _ _ => True) kpT rs r trivial w).imp fun x H1 ⟨ι, h, wx, rs, r, _, rx, w⟩ => ?_
  have rx : wx = x := rx
  subst rx
  cases wx with
  | true => exact WPE.sameB r w
  | false => exact ⟨ι, as, h, rs, r, w⟩
theorem t_val {e : Expr} {c : C} (cx : CxO X k gl g lv fA se) (he : PE X e (tE k g Wx c)) (ok : noTest e = true) : PT X e (tT k g Wx (.val c)) := by
  refine PT.of (pt_truth he (fun whole => by
    cases e <;> first | rfl | (cases ok; done) | skip
    rename_i op _ _
    cases op <;> first | rfl | (cases ok; done))) fun σ H Q w => ?_
  obtain ⟨ι, as, h, rs, r, w⟩ := w
  dsimp only at w
  rw [evalT] at w
  refine (nxt (fun _ _ _ => True) kpT rs r trivial w).imp fun x H1 ⟨ι, h, wx, rs, r, _, rx, w⟩ => ?_
  split at w
  · rename_i b e
    exact ⟨b, truV_of cx.K r rx e, WPE.sameB r w⟩
  · exact w.elim
theorem Res.bind_assoc {α β γ : Type} (r : Res α) (f : α → AH → Res β) (f2 : β → AH → Res γ) : (r.bind f).bind f2 = r.bind fun a h => (f a h).bind f2 := by cases r <;> rfl
theorem t_cmp {a b : Expr} {ca cb : C} {op : Cop} {pos : Pos} (cx : CxO X k gl g lv fA se) (hs : noSet b = true) (ha : PE X a (tE k g Wx ca)) (hb : PE X b (tE k g Wx cb)) : PT X (.Compare a [copOf op] [b] pos) (tT k g Wx (.val (.cmp op ca cb))) := by
  refine PT.of (pt_cmpR (op_cmpA cx.K cx.w cx.un op) ha hb (mark_of hs)) fun σ H Q w => ?_
  obtain ⟨ι, as, h, rs, r, w⟩ := w
  dsimp only at w
  rw [evalT, evalE, Res.bind_assoc] at w
  unfold tTest tOp
  refine (nxt (fun _ _ _ => True) kpT rs r trivial w).imp fun x H1 ⟨ι, h, wx, rs, r, _, rx, w⟩ => ?_
  rw [Res.bind_assoc] at w
  refine (nxt (fun ι n H => RelW k ι n H wx x) kpW rs r rx w).imp fun y H2 ⟨ι, h, wy, rs, r, rx, ry, w⟩ => ?_
  refine ⟨ι, h, wx, wy, r, rx, ry, ?_⟩
  rcases cmpW_bl (op := op) (x := wx) (y := wy) (h := h) with e | ⟨c, e⟩
  · rw [e] at w
    exact w.elim
  · rw [e] at w ⊢
    intro ι' H' v p e2
    have e2 : RelW k ι' h.length H' (.bl c) v := e2
    unfold RelW at e2
    exact ⟨c, e2, w ι' H' c p rfl⟩
theorem e_ife {c a b : Expr} {tc : T} {ca cb : C} {pos : Pos} (hc : PT X c (tT k g Wx tc)) (ha : PE X a (tE k g Wx ca)) (hb : PE X b (tE k g Wx cb)) : PE X (.IfExp c a b pos) (tE k g Wx (.ife tc ca cb)) := by
  refine PE.of (pe_ifExp hc ha hb) fun σ H Q w => ?_
  obtain ⟨ι, as, h, rs, r, w⟩ := w
  dsimp only at w
  rw [evalE] at w
  refine (nxt (fun _ _ _ => True) kpT rs r trivial w).imp fun x H1 ⟨ι, h, wx, rs, r, _, rx, w⟩ => ?_
  have rx : wx = x := rx
  subst rx
  cases wx with
  | true => exact ⟨ι, as, h, rs, r, w⟩
  | false => exact ⟨ι, as, h, rs, r, w⟩
/-! ### subscripts, slices, displays -/
theorem plainIx {s : Expr} (h : noSlice s = true) : PlainIx s := by
  cases s <;> first | (cases h; done) | exact fun _ _ => rfl
theorem e_sub {a b : Expr} {ca cb : C} {pos : Pos} (cx : CxO X k gl g lv fA se) (hs : noSlice b = true) (ha : PE X a (tE k g Wx ca)) (hb : PE X b (tE k g Wx cb)) : PE X (.Subscript a b pos) (tE k g Wx (.sub ca cb)) := by
  refine PE.of (pe_ix (ix_A cx.K cx.w cx.un cx.fx.sc) ha hb (plainIx hs)) fun σ H Q w => ?_
  exact e_op (a := a) (b := b) (f := subR g) (fun x y h => subR_nx) (tR.eq w fun _ _ => by
    rw [evalE]
    rfl)
def tP (k : Cst) (g : Ev) (Wx : WX) (cs : List C) : TO := tR k Wx relI fun as h => evalP g cs as h
theorem o_none : PO X none (tP k g Wx []) := by
  refine ⟨fun pins s σ H Q I w => po_none.run pins s σ H Q I ?_⟩
  obtain ⟨ι, as, h, rs, r, w⟩ := w
  dsimp only at w
  rw [evalP] at w
  exact w ι H none (Post.refl r) rfl
theorem o_some {e : Expr} {c : C} {cs : List C} (he : PE X e (tE k g Wx c)) : PO X (some e) (tP k g Wx (c :: cs)) := by
  refine ⟨fun pins s σ H Q I w => (po_some he).run pins s σ H Q I ?_⟩
  obtain ⟨ι, as, h, rs, r, w⟩ := w
  dsimp only at w
  rw [evalP] at w
  refine (nxt (fun _ _ _ => True) kpT rs r trivial w).imp fun x H1 ⟨ι, h, wx, rs, r, _, rx, w⟩ => ?_
  split at w
  · unfold RelW at rx
    subst rx
    exact ⟨_, rfl, w ι H1 _ (Post.refl r) rfl⟩
  · exact w.elim
theorem e_slc {e : Expr} {lo hi : Option Expr} {c : C} {cl ch : List C} {pos p2 : Pos} (cx : CxO X k gl g lv fA se) (he : PE X e (tE k g Wx c)) (hl : PO X lo (tP k g Wx cl)) (hu : PO X hi (tP k g Wx ch)) : PE X (.Subscript e (.Slice lo hi none p2) pos) (tE k g Wx (.slc c cl ch)) := by
  refine PE.of (pe_slice (sl_A cx.K) he hl hu) fun σ H Q w => ?_
  obtain ⟨ι, as, h, rs, r, w⟩ := w
  dsimp only at w
  rw [evalE] at w
  refine (nxt (fun _ _ _ => True) kpT rs r trivial w).imp fun x H1 ⟨ι, h, wx, rs, r, _, rx, w⟩ => ?_
  refine (nxt (rel := relI) (fun ι n H => RelW k ι n H wx x) kpW rs r rx w).imp fun l H2 ⟨ι, h, wl, rs, r, rx, rl, w⟩ => ?_
  refine (nxt (rel := relI) (fun ι n H => RelW k ι n H wx x) kpW rs r rx w).imp fun u H3 ⟨ι, h, wu, rs, r, rx, ru, w⟩ => ?_
  have rl : wl = l := rl
  have ru : wu = u := ru
  subst rl ru
  rw [cx.fx.sc] at w
  exact ⟨ι, h, wx, r, rx, WPV.of w fun c xs ws h' => slcR_nx c xs ws h'⟩
theorem star_of {e : Expr} {es : List Expr} {env : Env} (h : noStar e = true) : starEach (e :: es) env = (false, eval e env) :: starEach es env := by
  cases e <;> first | rfl | (cases h; done)
theorem a_nil : PA X [] (tEs k g Wx []) := PA.of pa_nil fun σ H Q ⟨ι, as, h, rs, r, w⟩ => by
  dsimp only at w
  rw [evalEs] at w
  exact w ι H [] (Post.refl r) .nil
theorem a_cons {e : Expr} {es : List Expr} {c : C} {cs : List C} (hs : noStar e = true) (he : PE X e (tE k g Wx c)) (hr : PA X es (tEs k g Wx cs)) : PA X (e :: es) (tEs k g Wx (c :: cs)) := by
  refine PA.of (pa_cons he hr (star_of hs)) fun σ H Q w => ?_
  obtain ⟨ι, as, h, rs, r, w⟩ := w
  dsimp only at w
  rw [evalEs] at w
  refine (nxt (fun _ _ _ => True) kpT rs r trivial w).imp fun x H1 ⟨ι, h, wx, rs, r, _, rx, w⟩ => ?_
  refine (nxt (rel := relWs k) (fun ι n H => RelW k ι n H wx x) kpW rs r rx w).imp fun l H2 ⟨ι, h, wl, rs, r, rx, rl, w⟩ => ?_
  exact w ι H2 _ (Post.refl r) (RelWs.cons rx rl)
end
end AM
/-! Calls, methods, attributes, built-in functions. -/
namespace AM
open PySem L2
section
variable {X : Cx} {k : Cst} {gl : Gl} {g : Ev} {lv : Nat} {fA : Nat → Addr} {se : SE} {Wx : WX}
theorem noStar_of {c : C} {e : Expr} (h : okE gl c se e = true) : noStar e = true := by
  cases e <;> first | rfl | skip
  cases c <;> (unfold okE at h; cases h)
theorem star_any {env : Env} {pos : Pos} : ∀ {es : List Expr}, es.all noStar = true → (backTo pos (starEach es env)).any (·.1) = false
  | [], _ => rfl
  | e :: es, h => by
    rw [List.all_cons, Bool.and_eq_true] at h
    rw [star_of h.1]
    show (false || (backTo pos (starEach es env)).any (·.1)) = false
    rw [star_any h.2]
    rfl
theorem star_all {env : Env} {pos : Pos} : ∀ {es : List Expr}, es.all noStar = true → (backTo pos (starEach es env)).all (!·.1) = true
  | [], _ => rfl
  | e :: es, h => by
    rw [List.all_cons, Bool.and_eq_true] at h
    rw [star_of h.1]
    show (true && (backTo pos (starEach es env)).all (!·.1)) = true
    rw [star_all h.2]
    rfl
theorem kw_all {env : Env} {pos : Pos} : ∀ {kws : List Keyword}, kwNamed kws = true → (backToKw pos (keywordEach kws env)).all (·.1.isSome) = true
  | [], _ => rfl
  | ⟨some x, e, p⟩ :: r, h => by
    show (true && (backToKw pos (keywordEach r env)).all (·.1.isSome)) = true
    rw [kw_all (by simpa [kwNamed] using h)]
    rfl
  | ⟨none, e, p⟩ :: r, h => by cases h
theorem kw_none {env : Env} {pos : Pos} : ∀ {kws : List Keyword}, kwNamed kws = true → (backToKw pos (keywordEach kws env)).any (·.1.isNone) = false
  | [], _ => rfl
  | ⟨some x, e, p⟩ :: r, h => by
    show (false || (backToKw pos (keywordEach r env)).any (·.1.isNone)) = false
    rw [kw_none (by simpa [kwNamed] using h)]
    rfl
  | ⟨none, e, p⟩ :: r, h => by cases h
theorem kw_names {env : Env} {pos : Pos} : ∀ {kws : List Keyword}, kwNamed kws = true → (backToKw pos (keywordEach kws env)).filterMap (·.1) = kwNames kws
  | [], _ => rfl
  | ⟨some x, e, p⟩ :: r, h => by
    show x :: (backToKw pos (keywordEach r env)).filterMap (·.1) = x :: kwNames r
    rw [kw_names (by simpa [kwNamed] using h)]
  | ⟨none, e, p⟩ :: r, h => by cases h
theorem kw_len {env : Env} {pos : Pos} : ∀ {kws : List Keyword}, (backToKw pos (keywordEach kws env)).isEmpty = kws.isEmpty
  | [] => rfl
  | ⟨some x, e, p⟩ :: r => rfl
  | ⟨none, e, p⟩ :: r => rfl
/-- a call's arguments, then its keywords, then the call -/
theorem cw {f : Value} {first : List Value} {es : List Expr} {kws : List Keyword} {t tk : TA} {pos : Pos} {pins : List (Addr × Obj)} {σ : L2.St} {H : Hp} {s : Shared} {Q : Value → Shared → Prop} {Rr : List V → List V → Hp → Prop}
    (hk : PySem.W.keepIn X.K f = true) (ha : PA X es t) (hkw : PK X kws tk) (hst : es.all noStar = true) (hn : kwNamed kws = true) (hnil : es = [] → ∀ σ H Q, t σ H Q → Q [] H) (I : Inv X pins σ H s) (h : t σ H fun vs H1 => tk σ H1 fun zs H2 => Rr vs zs H2)
    (hf : ∀ us ws s2 vs zs H2, Inv X pins σ H2 s2 → Vals vs us → Vals zs ws → Rr vs zs H2 → wpAny (model X.prog X.w) X.A (call f (first ++ us) ((kwNames kws).zip ws)) Q X.xe s2) :
    wpAny (model X.prog X.w) X.A (callWith pos f first (backTo pos (starEach es X.env)) (backToKw pos (keywordEach kws X.env))) Q X.xe s := by
  have key : ∀ us s1 vs H1, Inv X pins σ H1 s1 → Vals vs us → tk σ H1 (fun zs H2 => Rr vs zs H2) → wpAny (model X.prog X.w) X.A (evalAll ((backToKw pos (keywordEach kws X.env)).map (·.2)))
      (fun ks s₂ => X.K.In s₂.heap ∧ wpAny (model X.prog X.w) X.A (call f (first ++ us) (((backToKw pos (keywordEach kws X.env)).filterMap (·.1)).zip ks)) Q X.xe s₂) X.xe s1 := fun us s1 vs H1 I1 r q =>
    thn (hkw.run pos pins s1 σ H1 _ I1 q) fun ws s2 ⟨zs, H2, I2, rz, q2⟩ => ⟨I2.kIn, by rw [kw_names hn]; exact hf us ws s2 vs zs H2 I2 r rz q2⟩
  cases es with
  | nil =>
    refine PySem.W.callWith_KW0 (h₀ := X.base) I.ok.mod.kin hk (kw_all hn) ?_ (by rw [kw_none hn]; rfl)
    exact key [] s [] H I .nil (hnil rfl σ H _ h)
  | cons e es =>
    have hst2 := hst
    rw [List.all_cons, Bool.and_eq_true] at hst2
    exact PySem.W.callWith_KW (h₀ := X.base) I.ok.mod.kin hk (kw_all hn) (thn (ha.run pos pins s σ H _ I h) fun us s1 ⟨vs, H1, I1, r, q⟩ => key us s1 vs H1 I1 r q) (by rw [kw_none hn, star_any hst]; rfl) (star_of hst2.1)
/-! ### keyword binding -/
theorem pick_rel {α β : Type} {l : List α} {l2 : List β} (P : α → β → Prop) (h : ∀ (i : Nat) (x : α), l[i]? = some x → ∃ y, l2[i]? = some y ∧ P x y) : ∀ (is : List Nat) {r : List α}, pick l is = some r → ∃ r2, pick l2 is = some r2 ∧ Paired P r r2
  | [], r, e => by
    cases e
    exact ⟨[], rfl, .nil⟩
  | i :: is, r, e => by
    unfold pick at e
    split at e
    · rename_i x r' e1 e2
      cases e
      obtain ⟨y, q1, q2⟩ := h i x e1
      obtain ⟨r2, q3, q4⟩ := pick_rel P h is e2
      refine ⟨y :: r2, ?_, .cons q2 q4⟩
      unfold pick
      rw [q1, q3]
    · cases e
theorem relWs_of {ι : Nat → Addr} {n : Nat} {H : Hp} : ∀ {ws : List W} {vs : List V}, Paired (fun w v => RelW k ι n H w v) ws vs → RelWs k ι n H ws vs
  | _, _, .nil => .nil
  | _, _, .cons a b => .cons a (relWs_of b)
theorem Paired.len {α β : Type} {P : α → β → Prop} {l : List α} {l2 : List β} (h : Paired P l l2) : l.length = l2.length := Paired.length h
theorem WPE.wish {α β : Type} {rel : Rel α β} {σ : L2.St} {ι : Nat → Addr} {h : AH} {H : Hp} {r : Res α} {Q : β → Hp → Prop} (w : WPE k Wx σ r ι h H rel Q) : WPE k (fun c d _ H => WE Wx σ c d H) [] r ι h H rel Q := by
  revert w
  cases r <;> exact fun z => z
/-- the def at f called with us by place and uz by name -/
theorem run_any {P : Program} {w0 : World} {mg : Str → Option Value} {base : Heap} {a : Addr} {f : Nat} {d : DefC} {ι : Nat → Addr} {h : AH} {ws wz : List W} {ks : List Str} {vs zs : List V} {us uz : List Value} {A : Around} {outer : List Env} {H : Hp} {s : Shared} {Q : VK} {E : XK}
    (fs : FnS P w0 mg base k g lv f d a) (len : ∀ ws h, ws.length ≠ d.ps.length → g.cf f ws h = .stuck) (hd : g.gc.defs[f]? = some d) (hr : Room lv A) (hq : A.guards = some []) (e0 : Env0 P w0 k.K mg base A outer s H) (r : R k ι h H) (r1 : RelWs k ι h.length H ws vs) (r2 : RelWs k ι h.length H wz zs)
    (v1 : Vals vs us) (v2 : Vals zs uz) (w : WPE k (fun c d _ H => E c d H) [] (callW g f ws ks wz h) ι h H (relW k) Q) : codeAny (model P w0) A (.call (.ref a) ⟨us, ks.zip uz⟩) (CR (L2.CX P w0) outer P w0 H s Q E) s := by
  obtain ⟨fd, _, F, hb, hkw⟩ := fs.fn
  have kin : k.K.In s.heap := e0.mod.kin.keeps fun b o e => (e0.bs b o e).1
  have key : ∀ (ws' : List W) (vs' : List V) (us' : List Value) (args : Args), RelWs k ι h.length H ws' vs' → Vals vs' us' → BindsTo s fd args (d.ps.zip us') → WPE k (fun c d _ H => E c d H) [] (g.cf f ws' h) ι h H (relW k) Q →
      codeAny (model P w0) A (.call (.ref a) args) (CR (L2.CX P w0) outer P w0 H s Q E) s := fun ws' vs' us' args q1 q2 q3 q4 => by
    by_cases hn : ws'.length = d.ps.length
    · exact F.go hr hq e0 q3 q2 ⟨by rw [← q1.len]; exact hn, ι, h, ws', r, q1, q4⟩
    · rw [len ws' h hn] at q4
      exact q4.elim
  unfold callW at w
  split at w
  · split at w
    · rw [show uz = [] from by
        have e1 := v2.length
        have e2 := r2.len
        cases uz with
        | nil => rfl
        | cons _ _ =>
          rw [e1] at e2
          cases e2]
      refine key ws vs us ⟨us, []⟩ r1 v1 ?_ w
      by_cases hn : ws.length = d.ps.length
      · have := hb s us kin (by rw [List.append_nil, ← v1.length, ← r1.len]; exact hn)
        rw [List.append_nil] at this
        exact this
      · rw [len ws h hn] at w
        exact w.elim
    · exact w.elim
  · rw [hd] at w
    dsimp only at w
    split at w
    · rename_i hm
      rw [Bool.and_eq_true, decide_eq_true_eq, decide_eq_true_eq] at hm
      obtain ⟨hl, hm⟩ := hm
      split at w
      · rename_i ws' e
        obtain ⟨is, e1, e2⟩ := Option.bind_eq_some_iff.mp e
        obtain ⟨vs', e3, p1⟩ := pick_rel (l2 := vs ++ zs) (fun w v => RelW k ι h.length H w v) (fun i x q => (r1.append r2).get q) is e2
        obtain ⟨us', e4, p2⟩ := pick_rel (l2 := us ++ uz) L2.RelV (fun i x q => (v1.append v2).get q) is e3
        have l1 : us.length = ws.length := by rw [← v1.length, ← r1.len]
        have l2 : uz.length = ks.length := by rw [← v2.length, ← r2.len, hl]
        exact key ws' vs' us' ⟨us, ks.zip uz⟩ (relWs_of p1) p2 (.of_eq (hkw ws.length ks hm us uz us' l1 l2 (by rw [e1]; exact e4))) w
      · exact w.elim
    · exact w.elim
theorem env0K {k : Cst} {P : Program} {w : World} {mg : Str → Option Value} {base : Heap} {A : Around} {outer : List Env} {s : Shared} {H : Hp} {K : PySem.W.Frag} (e : K = k.K) (x : Env0 P w K mg base A outer s H) : Env0 P w k.K mg base A outer s H := by
  rw [← e]
  exact x
theorem run_call {f : Nat} {d : DefC} {ι : Nat → Addr} {h : AH} {ws wz : List W} {ks : List Str} {vs zs : List V} {us uz : List Value} {pins : List (Addr × Obj)} {σ : L2.St} {H : Hp} {s : Shared} {Q : VK} (cx : CxO X k gl g lv fA se) (tk : Takes X Wx)
    (hd : g.gc.defs[f]? = some d) (I : Inv X pins σ H s) (r : R k ι h H) (r1 : RelWs k ι h.length H ws vs) (r2 : RelWs k ι h.length H wz zs) (v1 : Vals vs us) (v2 : Vals zs uz) (w : WPE k Wx σ (callW g f ws ks wz h) ι h H (relW k) Q) :
    wpAny (model X.prog X.w) X.A (call (.ref (fA f)) us (ks.zip uz)) (EP X pins σ Q) X.xe s := by
  refine wpAny_call (codeAny_mono (run_any (cx.fx.fn f d hd) (fun ws h hn => cx.fx.len f ws h d hd hn) hd (cx.room.mono (by omega)) cx.quiet (env0K cx.K I.env0) r r1 r2 v1 v2 w.wish) fun r s' hq => ?_)
  cases r with
  | error e => exact passAt tk σ pins H s e s' I hq
  | ok fl =>
    cases fl with
    | ret u => exact I.after hq
    | next => exact False.elim hq
    | brk => exact False.elim hq
    | cont => exact False.elim hq
/-- f(..) -/
theorem e_call {x : Str} {f : Nat} {es : List Expr} {kws : List Keyword} {cs kcs : List C} {ks : List Str} {p pos : Pos} (cx : CxO X k gl g lv fA se) (tk : Takes X Wx) (go : GOk X gl x (.fn f)) (ha : PA X es (tEs k g Wx cs)) (hkw : PK X kws (tEs k g Wx kcs))
    (hst : es.all noStar = true) (hn : kwNamed kws = true) (hks : ks = kwNames kws) (hnil : es = [] → cs = []) : PE X (.Call (.Name x p) es kws pos) (tE k g Wx (.call f cs ks kcs)) := by
  refine ⟨fun pins s σ H Q I w => ?_⟩
  obtain ⟨ι, as, h, rs, r, w⟩ := w
  dsimp only at w
  rw [evalE] at w
  obtain ⟨e1, d, hd⟩ := cx.fx.gfn x f go.lk
  refine wpAny_Call_Name_kw (ld_glob I go.gi e1 ?_ go.db)
  refine cw (Rr := fun vs zs H2 => ∃ ι h ws wz, R k ι h H2 ∧ RelWs k ι h.length H2 ws vs ∧ RelWs k ι h.length H2 wz zs ∧ WPE k Wx σ (callW g f ws ks wz h) ι h H2 (relW k) Q) (by rw [cx.K]; exact (cx.fx.fn f d hd).kp) ha hkw hst hn (fun e σ H Q w => ?_) I ?_ ?_
  · rw [hnil e] at w
    obtain ⟨ι, as, h, rs, r, w⟩ := w
    dsimp only at w
    rw [evalEs] at w
    exact w ι H [] (Post.refl r) .nil
  · refine (nxt (fun _ _ _ => True) kpT rs r trivial w).imp fun vs H1 ⟨ι, h, ws, rs, r, _, rx, w⟩ => ?_
    refine (nxt (rel := relWs k) (fun ι n H => RelWs k ι n H ws vs) kpWs rs r rx w).imp fun zs H2 ⟨ι, h, wz, rs, r, rx, rz, w⟩ => ?_
    exact ⟨ι, h, ws, wz, r, rx, rz, w⟩
  · intro us uz s2 vs zs H2 I2 v1 v2 ⟨ι, h, ws, wz, r, r1, r2, w⟩
    rw [← hks]
    exact run_call cx tk hd I2 r r1 r2 v1 v2 w
/-- C(..) -/
theorem run_new {c : Nat} {ι : Nat → Addr} {h : AH} {ws wz : List W} {ks : List Str} {vs zs : List V} {us uz : List Value} {pins : List (Addr × Obj)} {σ : L2.St} {H : Hp} {s : Shared} {Q : VK} (cx : CxO X k gl g lv fA se) (tk : Takes X Wx)
    (I : Inv X pins σ H s) (r : R k ι h H) (r1 : RelWs k ι h.length H ws vs) (r2 : RelWs k ι h.length H wz zs) (v1 : Vals vs us) (v2 : Vals zs uz) (w : WPE k Wx σ (newW g c ws ks wz h) ι h H (relW k) Q) :
    wpAny (model X.prog X.w) X.A (call (.ref (k.cA c)) us (ks.zip uz)) (EP X pins σ Q) X.xe s := by
  unfold newW at w
  split at w
  · rename_i cl hc
    have M := (cx.fx.cl c cl hc).mak
    have M : L2.Mk X.K (k.cA c) (fA cl.init) := by rw [cx.K]; exact M
    obtain ⟨d, hd⟩ := cx.fx.ini c cl hc
    have key : ∀ x dx, H x = none → H dx = none → x ≠ dx → R k (snoc ι h.length x) (h ++ [O.ins c []]) (L2.upd (L2.upd H dx (HO.own x)) x (HO.ins (k.cA c) dx [])) ∧
        RelWs k (snoc ι h.length x) (h ++ [O.ins c []]).length (L2.upd (L2.upd H dx (HO.own x)) x (HO.ins (k.cA c) dx [])) (W.loc h.length :: ws) (V.ref x :: vs) ∧
        RelWs k (snoc ι h.length x) (h ++ [O.ins c []]).length (L2.upd (L2.upd H dx (HO.own x)) x (HO.ins (k.cA c) dx [])) wz zs ∧
        WPE k Wx σ (callW g cl.init (W.loc h.length :: ws) ks wz (h ++ [O.ins c []])) (snoc ι h.length x) (h ++ [O.ins c []]) (L2.upd (L2.upd H dx (HO.own x)) x (HO.ins (k.cA c) dx [])) (relW k) (fun v H2 => v = .non ∧ Q (.ref x) H2) := by
      intro x dx hx0 hd0 ne
      have p1 : Post k ι h H ι h (L2.upd H dx (.own x)) := Post.side r hd0
      have hx1 : (L2.upd H dx (.own x)) x = none := by rw [upd_ne ne]; exact hx0
      have p2 : Post k ι h (L2.upd H dx (.own x)) (snoc ι h.length x) (h ++ [O.ins c []]) (L2.upd (L2.upd H dx (.own x)) x (.ins (k.cA c) dx [])) :=
        Post.alloc p1.rel hx1 fun ι' n' H' kp e => ⟨dx, [], e, rfl⟩
      have p := p1.trans r p2
      refine ⟨p.rel, RelWs.cons ?_ (RelWs.keep (p.keep r) ws r1), RelWs.keep (p.keep r) wz r2, (WPE.bind (rel := relW k) p.rel (WPE.move r p w)).imp fun v H2 ⟨a, ι1, h1, q, ra, w⟩ => ?_⟩
      · unfold RelW
        exact ⟨by simp, by rw [snoc_eq]⟩
      · split at w
        · rename_i e
          subst e
          unfold relW RelW at ra
          refine ⟨ra, WPE.same q.rel w ?_⟩
          unfold RelW
          have := q.len
          rw [List.length_append] at this
          refine ⟨by simp at this; omega, ?_⟩
          rw [q.old _ (by simp), snoc_eq]
        · exact w.elim
    obtain ⟨k1, k2, k3, k4⟩ := key (s.heap.objs.size + 1) s.heap.objs.size (I.hok.fresh (Nat.le_succ _)) (I.hok.fresh (Nat.le_refl _)) (Nat.succ_ne_self _)
    have I2 := Inv.made (C := k.cA c) I
    refine wpAny_call (make_map (f := fA cl.init) I.kIn M.makes M.init (beq_iff_eq.mp M.fn) (codeAny_mono (run_any (us := .ref (s.heap.objs.size + 1) :: us) (cx.fx.fn cl.init d hd) (fun ws h hn => cx.fx.len cl.init ws h d hd hn) hd
      ((cx.room.mono (by omega) : Room (lv + 1) X.A).make _ _ _) (make_guards cx.quiet) (env0K cx.K (I2.env0.make _ _ _)) k1 k2 k3 (.cons rfl v1) v2 k4.wish) fun r s' hq' => ?_))
    cases r with
    | error e => exact passAt tk σ pins _ _ e s' I2 hq'
    | ok fl =>
      cases fl with
      | ret u =>
        obtain ⟨v, H', I3, rv, ev, q3⟩ := I2.after hq'
        subst ev
        exact ⟨rv, ⟨V.ref (s.heap.objs.size + 1), H', I3, rfl, q3⟩⟩
      | next => exact False.elim hq'
      | brk => exact False.elim hq'
      | cont => exact False.elim hq'
  · exact w.elim
theorem e_new {x : Str} {c : Nat} {es : List Expr} {kws : List Keyword} {cs kcs : List C} {ks : List Str} {p pos : Pos} (cx : CxO X k gl g lv fA se) (tk : Takes X Wx) (go : GOk X gl x (.cls c)) (ha : PA X es (tEs k g Wx cs)) (hkw : PK X kws (tEs k g Wx kcs))
    (hst : es.all noStar = true) (hn : kwNamed kws = true) (hks : ks = kwNames kws) (hnil : es = [] → cs = []) : PE X (.Call (.Name x p) es kws pos) (tE k g Wx (.new c cs ks kcs)) := by
  refine ⟨fun pins s σ H Q I w => ?_⟩
  obtain ⟨ι, as, h, rs, r, w⟩ := w
  dsimp only at w
  rw [evalE] at w
  obtain ⟨e1, kp⟩ := cx.fx.gcl x c go.lk
  refine wpAny_Call_Name_kw (ld_glob I go.gi e1 ?_ go.db)
  refine cw (Rr := fun vs zs H2 => ∃ ι h ws wz, R k ι h H2 ∧ RelWs k ι h.length H2 ws vs ∧ RelWs k ι h.length H2 wz zs ∧ WPE k Wx σ (newW g c ws ks wz h) ι h H2 (relW k) Q) (by rw [cx.K]; exact kp) ha hkw hst hn (fun e σ H Q w => ?_) I ?_ ?_
  · rw [hnil e] at w
    obtain ⟨ι, as, h, rs, r, w⟩ := w
    dsimp only at w
    rw [evalEs] at w
    exact w ι H [] (Post.refl r) .nil
  · refine (nxt (fun _ _ _ => True) kpT rs r trivial w).imp fun vs H1 ⟨ι, h, ws, rs, r, _, rx, w⟩ => ?_
    refine (nxt (rel := relWs k) (fun ι n H => RelWs k ι n H ws vs) kpWs rs r rx w).imp fun zs H2 ⟨ι, h, wz, rs, r, rx, rz, w⟩ => ?_
    exact ⟨ι, h, ws, wz, r, rx, rz, w⟩
  · intro us uz s2 vs zs H2 I2 v1 v2 ⟨ι, h, ws, wz, r, r1, r2, w⟩
    rw [← hks]
    exact run_new cx tk I2 r r1 r2 v1 v2 w
/-! ### instances -/
theorem relF_none {ι : Nat → Addr} {n : Nat} {H : Hp} {m : Str} : ∀ {fs : List (Str × W)} {vs : List (Str × V)}, RelF k ι n H fs vs → fs.lookup m = none → vs.lookup m = none
  | [], vs, e, _ => by
    have e : vs = [] := e
    rw [e]
    rfl
  | p :: ps, vs, e, q => by
    obtain ⟨v, r, rfl, _, e3⟩ := e
    obtain ⟨p1, p2⟩ := p
    simp only [List.lookup] at q ⊢
    split at q
    · cases q
    · rename_i hb
      exact relF_none e3 q
theorem relF_some {ι : Nat → Addr} {n : Nat} {H : Hp} {m : Str} {w : W} : ∀ {fs : List (Str × W)} {vs : List (Str × V)}, RelF k ι n H fs vs → fs.lookup m = some w → ∃ v, vs.lookup m = some v ∧ RelW k ι n H w v
  | [], vs, e, q => by cases q
  | p :: ps, vs, e, q => by
    obtain ⟨v, r, rfl, e2, e3⟩ := e
    obtain ⟨p1, p2⟩ := p
    simp only [List.lookup] at q ⊢
    split at q
    · cases q
      exact ⟨v, rfl, e2⟩
    · exact relF_some e3 q
theorem relF_len {ι : Nat → Addr} {n : Nat} {H : Hp} : ∀ {fs : List (Str × W)} {vs : List (Str × V)}, RelF k ι n H fs vs → fs.length = vs.length
  | [], vs, e => by
    have e : vs = [] := e
    rw [e]
    rfl
  | p :: ps, vs, e => by
    obtain ⟨v, r, rfl, e2, e3⟩ := e
    exact congrArg Nat.succ (relF_len e3)
theorem relF_put {ι : Nat → Addr} {n : Nat} {H : Hp} {f : Str} {w : W} {v : V} (rv : RelW k ι n H w v) : ∀ {fs : List (Str × W)} {vs : List (Str × V)}, RelF k ι n H fs vs → RelF k ι n H (putA f w fs) (putF f v vs)
  | [], vs, e => by
    have e : vs = [] := e
    rw [e]
    exact ⟨v, [], rfl, rv, rfl⟩
  | p :: ps, vs, e => by
    obtain ⟨u, r, rfl, e2, e3⟩ := e
    obtain ⟨p1, p2⟩ := p
    unfold putA putF
    split
    · rename_i hp
      exact ⟨v, r, rfl, rv, e3⟩
    · exact ⟨u, _, rfl, e2, relF_put rv e3⟩
theorem R.ins {ι : Nat → Addr} {h : AH} {H : Hp} {l c : Nat} {fs : List (Str × W)} (r : R k ι h H) (e : h[l]? = some (.ins c fs)) : ∃ dx vs, H (ι l) = some (.ins (k.cA c) dx vs) ∧ RelF k ι h.length H fs vs := r.obj l _ e
theorem base_of {o : Expr} {f : Str} {env : Env} {x : Sem Value} (h : noSuper o = true) : attributeBase o f env x = x := by
  unfold attributeBase
  split
  · cases h
  · rfl
theorem meth_form {o : Expr} {m : Str} {apos pos : Pos} {es : List Expr} {kws : List Keyword} {env : Env} (h0 : noSuper o = true) (hst : es.all noStar = true) (hn : kwNamed kws = true) (hl : (apos.endLine == pos.line) = true) (hz : es.length + kws.length < 12) :
    eval (.Call (.Attribute o m apos) es kws pos) env = (do
      let ov ← eval o env
      standAt apos.atName
      let (f, first) ← holding [ov] (getMethod ov m (plainOf o env))
      callWith pos f first (backTo pos (starEach es env)) (backToKw pos (keywordEach kws env))) := by
  have e : eval (.Call (.Attribute o m apos) es kws pos) env = (do
      let ov ← attributeBase o m env (eval o env)
      standAt apos.atName
      methodCall o m apos pos env ov (es.length + kws.length) (backTo pos (starEach es env)) (backToKw pos (keywordEach kws env))) := by rfl
  rw [e, base_of h0]
  have hf : methodCallForm (es.length + kws.length) (backTo pos (starEach es env)) (backToKw pos (keywordEach kws env)) = true := by
    unfold methodCallForm
    rw [star_all hst, kw_all hn]
    simp only [Bool.true_and, decide_eq_true_eq]
    split <;> omega
  congr 1
  funext ov
  congr 1
  funext _
  exact mcall_line hf hl
theorem e_meth {o : Expr} {m : Str} {es : List Expr} {kws : List Keyword} {c : C} {cs kcs : List C} {ks : List Str} {apos pos : Pos} (cx : CxO X k gl g lv fA se) (tk : Takes X Wx) (ho : PE X o (tE k g Wx c)) (ha : PA X es (tEs k g Wx cs)) (hkw : PK X kws (tEs k g Wx kcs))
    (h0 : noSuper o = true) (hst : es.all noStar = true) (hn : kwNamed kws = true) (hks : ks = kwNames kws) (hnil : es = [] → cs = []) (hl : (apos.endLine == pos.line) = true) (hz : es.length + kws.length < 12) :
    PE X (.Call (.Attribute o m apos) es kws pos) (tE k g Wx (.meth m c cs ks kcs)) := by
  refine ⟨fun pins s σ H Q I w => ?_⟩
  obtain ⟨ι, as, h, rs, r, w⟩ := w
  dsimp only at w
  rw [evalE] at w
  refine PySem.W.methodCall_KW (pl := plainOf o X.env) (thn (ho.run pins s σ H _ I (nxt (fun _ _ _ => True) kpT rs r trivial w)) fun u s1 ⟨x, H1, I1, rx, ι, h, wx, rs, r, _, rw1, w⟩ => ?_) (meth_form h0 hst hn hl hz)
  split at w
  · rename_i f hf
    unfold methL at hf
    split at hf
    · rename_i l
      split at hf
      · rename_i c0 fs e1
        split at hf
        · rename_i cl hc
          split at hf
          · rename_i hl0
            obtain ⟨dx, vs, e2, e3⟩ := r.ins e1
            have rw2 := rw1
            unfold relW RelW at rw2
            obtain ⟨hlt, ex⟩ := rw2
            subst ex
            obtain rfl : u = Value.ref (ι l) := rx
            have CS := cx.fx.cl c0 cl hc
            have M := CS.ms m f hf
            have c1 : Cls X.K (k.cA c0) := by rw [cx.K]; exact CS.cls
            have c2 : Meth X.K (k.cA c0) m (fA f) := by rw [cx.K]; exact M
            obtain ⟨d, hd⟩ := cx.fx.met c0 cl m f hc hf
            refine getmeth_ok I1 e2 c1 c2 (relF_none e3 hl0) ?_
            refine cw (Rr := fun vs zs H2 => ∃ ι' h ws wz, R k ι' h H2 ∧ RelW k ι' h.length H2 (.loc l) (.ref (ι l)) ∧ RelWs k ι' h.length H2 ws vs ∧ RelWs k ι' h.length H2 wz zs ∧ WPE k Wx σ (callW g f (.loc l :: ws) ks wz h) ι' h H2 (relW k) Q)
              c2.kp ha hkw hst hn (fun e σ H Q w => ?_) I1 ?_ ?_
            · rw [hnil e] at w
              obtain ⟨ι, as, h, rs, r, w⟩ := w
              dsimp only at w
              rw [evalEs] at w
              exact w ι H [] (Post.refl r) .nil
            · refine (nxt (rel := relWs k) (fun ι' n H => RelW k ι' n H (.loc l) (.ref (ι l))) kpW rs r rw1 w).imp fun vs H1 ⟨ι', h, ws, rs, r, rw1, rx, w⟩ => ?_
              refine (nxt (rel := relWs k) (fun ι' n H => RelW k ι' n H (.loc l) (.ref (ι l)) ∧ RelWs k ι' n H ws vs) (kpAnd kpW kpWs) rs r ⟨rw1, rx⟩ w).imp fun zs H2 ⟨ι', h, wz, rs, r, rx, rz, w⟩ => ?_
              exact ⟨ι', h, ws, wz, r, rx.1, rx.2, rz, w⟩
            · intro us uz s2 vs zs H2 I2 v1 v2 ⟨ι', h, ws, wz, r, rx, r1, r2, w⟩
              rw [← hks]
              exact run_call cx tk hd I2 r (RelWs.cons rx r1) r2 (.cons rfl v1) v2 w
          · cases hf
        · cases hf
      · cases hf
    · cases hf
  · exact w.elim
theorem zip_lookup {ι : Nat → Addr} {n : Nat} {H : Hp} {f : Str} {w : W} : ∀ {xs : List Str} {ws : List W} {vs : List V}, RelWs k ι n H ws vs → (xs.zip ws).lookup f = some w → ∃ v, (xs.zip vs).lookup f = some v ∧ RelW k ι n H w v
  | [], _, _, _, h => by cases h
  | x :: xs, [], vs, _, h => by cases h
  | x :: xs, w1 :: ws, vs, r, h => by
    unfold RelWs at r
    obtain ⟨v, t, rfl, r1, r2⟩ := r
    rw [List.zip_cons_cons, List.lookup_cons] at h ⊢
    split at h
    · rename_i e
      cases h
      exact ⟨v, rfl, r1⟩
    · exact zip_lookup r2 h
theorem e_attr {o : Expr} {f : Str} {c : C} {pos : Pos} (cx : CxO X k gl g lv fA se) (ho : PE X o (tE k g Wx c)) (h0 : noSuper o = true) : PE X (.Attribute o f pos) (tE k g Wx (.attr c f)) := by
  refine ⟨fun pins s σ H Q I w => ?_⟩
  obtain ⟨ι, as, h, rs, r, w⟩ := w
  dsimp only at w
  rw [evalE] at w
  refine attr_of (base_of h0) (thn (ho.run pins s σ H _ I (nxt (fun _ _ _ => True) kpT rs r trivial w)) fun u s1 ⟨x, H1, I1, rx, ι, h, wx, rs, r, _, rw1, w⟩ => ?_)
  unfold attrW at w
  split at w
  · rename_i l
    split at w
    · rename_i c0 fs e1
      split at w
      · rename_i cl hc
        obtain ⟨dx, vs, e2, e3⟩ := r.ins e1
        have rw2 := rw1
        unfold relW RelW at rw2
        obtain ⟨hlt, ex⟩ := rw2
        subst ex
        obtain rfl : u = Value.ref (ι l) := rx
        have CS := cx.fx.cl c0 cl hc
        have c1 : Cls X.K (k.cA c0) := by rw [cx.K]; exact CS.cls
        split at w
        · rename_i p hp
          obtain ⟨pa, P0⟩ := CS.prs f p hp
          have P : PropOf X.K (k.cA c0) f pa (fA p) := by rw [cx.K]; exact P0
          obtain ⟨d, hd⟩ := cx.fx.prp c0 cl f p hc hp
          obtain ⟨fd, _, F, hb, hkw⟩ := (cx.fx.fn p d hd).fn
          have F' : FnG X.prog X.w X.K X.mg X.base (L2.CX X.prog X.w) lv (fA p) fd d.ps (spA k g.cf d.ps.length p) := by rw [cx.K]; exact F
          have hb' : Binds X.K fd d.ps [] := by rw [cx.K]; exact hb
          by_cases hn : ([W.loc l]).length = d.ps.length
          · refine prop_got I1 e2 c1 P F' (cx.room.mono (by omega)) cx.quiet hb' (E := fun _ _ _ => False) ?_ ?_
            · exact fun pins σ H s e s' I c => (XE.of_call (W := fun _ _ _ _ => False) I (fun _ _ _ z => z) c).elim fun a z => by
                obtain ⟨_, _, _, _, _, _, _, _, _, _, _, _, _, _, _, z⟩ := z
                exact z
            · refine ⟨hn, ι, h, [.loc l], r, RelWs.cons rw1 .nil, ?_⟩
              revert w
              cases g.cf p [.loc l] h <;> first | exact fun z => z | exact fun z => z.elim
          · rw [cx.fx.len p [.loc l] h d hd hn] at w
            exact w.elim
        · split at w
          · rename_i v hl
            split at w
            · rename_i hfl
              obtain ⟨v', l2, rv⟩ := relF_some e3 hl
              have N : NoAttr X.K (k.cA c0) f := by rw [cx.K]; exact CS.fl f (of_decide_eq_true hfl)
              exact getattr_ok I1 e2 c1 N l2 fun u' s2 I2 ru => ⟨v', H1, I2, ru, WPE.same r w rv⟩
            · exact w.elim
          · exact w.elim
      · exact w.elim
    · exact w.elim
  · rename_i c0 xs ws
    split at w
    · rename_i hc
      split at w
      · rename_i w1 hl
        obtain ⟨i, hi, ei2⟩ := Option.map_eq_some_iff.mp (of_decide_eq_true hc)
        obtain ⟨_, T, hno, _⟩ := cx.fx.ixs _ _ hi
        rw [← cx.K] at T hno
        rw [ei2] at hno
        unfold relW RelW at rw1
        obtain ⟨a, d, rfl, hA, _, hx⟩ := rw1
        rcases hx with ⟨rfl, _, _⟩ | ⟨dd, vs, rfl, rvs, hx⟩
        · cases hl
        obtain rfl : u = Value.ref a := rx
        obtain ⟨⟨oe, h1, h2, h3, fs, h4⟩, _⟩ := (show ObjOk X.prog X.w H1 s1.heap a (ExC (.ref (k.cA c0)) (some dd) a) from I1.hok a _ hA)
        obtain ⟨mA, hns, hr⟩ := (show ObjOk X.prog X.w H1 s1.heap dd (.xd (xs.zip vs)) from I1.hok dd _ hx)
        obtain ⟨od, ho, hlk⟩ := lookIn_ns hns
        obtain ⟨v, l2, rv⟩ := zip_lookup rvs hl
        obtain ⟨u2, hu, ru⟩ := RelO.some_of (v := v) (o := mA f) (by rw [← l2]; exact hr f)
        have J : PySem.W.InstAt s1.heap a oe (k.cA c0) (some od) := ⟨h1, h2, by unfold PySem.W.notCls; rw [h4] <;> rfl, by rw [h3]; exact ho⟩
        exact HandSPX.exc_get I1.kIn J T.ga T.gg T.exC (PySem.W.findObj_own T.hdC hno rfl (by rw [hlk, hu])) (handed_of ru) ⟨v, H1, I1.tok _, ru, WPE.same r w rv⟩
      · exact w.elim
    · exact w.elim
  · exact w.elim
end
end AM
/-! Built-in functions, isinstance, append. -/
namespace AM
open PySem L2
section
variable {X : Cx} {k : Cst} {gl : Gl} {g : Ev} {lv : Nat} {fA : Nat → Addr} {se : SE} {Wx : WX}
theorem WPV.of' {α β : Type} {rel : Rel α β} {σ : L2.St} {ι : Nat → Addr} {h : AH} {H : Hp} {r : Res α} {Q : β → Hp → Prop} (w : WPE k Wx σ r ι h H rel Q) (hn : ∀ c xs ws h', r ≠ .exc c xs ws h') : WPV k r ι h H rel Q := WPV.of w hn
theorem e_prim {x : Str} {p : Prim} {e : Expr} {es : List Expr} {c : C} {cs : List C} {px pos : Pos} (cx : CxO X k gl g lv fA se) (go : GOk X gl x .blt) (hx : x = primName p) (hp : isIsi p = false) (hp2 : isSetP p = false) (ha : PA X (e :: es) (tEs k g Wx (c :: cs))) (hst : (e :: es).all noStar = true) :
    PE X (.Call (.Name x px) (e :: es) [] pos) (tE k g Wx (.prim p (c :: cs))) := by
  have hst2 := hst
  rw [List.all_cons, Bool.and_eq_true] at hst2
  have hm := cx.fx.gbl x go.lk
  have rd : ∀ σ H Q, tE k g Wx (.prim p (c :: cs)) σ H Q → tCB (rPrim k g p) (tEs k g Wx (c :: cs)) σ H Q := fun σ H Q w => by
    obtain ⟨ι, as, h, rs, r, w⟩ := w
    dsimp only at w
    rw [evalE] at w
    unfold tCB
    refine (nxt (rel := relWs k) (fun _ _ _ => True) kpT rs r trivial w).imp fun vs H1 ⟨ι, h, ws, rs, r, _, rx, w⟩ => ?_
    exact ⟨ι, h, ws, r, rx, WPV.of w fun c xs ws h' => primW_nx c xs ws h'⟩
  have hc := call_primA (X := X) cx.K cx.w cx.fx.sc cx.calm cx.quiet cx.un p (g := g) (fun ts cs e => by subst e; cases hp) (fun e => by subst e; cases hp2) (fun e => by subst e; cases hp2) (fun e => by subst e; cases hp2)
  have hn := go.nm
  subst hx
  cases p <;> first
    | (cases hp; done)
    | (cases hp2; done)
    | exact PE.of (pe_callB hc go.gi hm (by decide +kernel) ha hn go.db (star_of hst2.1) (star_any hst2.2)) rd
    | exact PE.of (pe_callTy hc go.gi hm (by decide +kernel) ha hn go.db (star_of hst2.1) (star_any hst2.2)) rd
/-! ### isinstance -/
theorem ty_of {ι : Nat → Addr} {h : AH} {H : Hp} (hK : X.K = k.K) (r : R k ι h H) {w : W} {v : V} {t : String} (e : RelW k ι h.length H w v) (q : typW h w = some t) : TyX X.K H v (.type t) := by
  unfold typW at q
  split at q
  · cases q
    unfold RelW at e
    subst e
    exact .base .non
  · cases q
    unfold RelW at e
    subst e
    exact .base (.bl _)
  · cases q
    unfold RelW at e
    subst e
    exact .base (.int _)
  · cases q
    unfold RelW at e
    subst e
    exact .base (.str _)
  · cases q
    unfold RelW at e
    obtain ⟨a, vs, rfl, hs, rs⟩ := e
    rcases hs with (hs | ⟨o, hs⟩) | ⟨o, its, n, e1, e2, _⟩
    · exact .base (.tup hs)
    · exact .fTuple hs
    · exact .kTuple (by rw [hK]; exact e1) e2
  · split at q
    · rename_i e2
      cases q
      unfold RelW at e
      obtain ⟨_, rfl⟩ := e
      obtain ⟨vs, hv, rv⟩ := r.lst e2
      exact .base (.lst hv)
    · cases q
  · cases q
theorem typW_mem {h : AH} {w : W} {t : String} (q : typW h w = some t) : t ∈ tynames := by
  unfold typW at q
  split at q <;> first | (cases q; decide) | (split at q <;> first | (cases q; decide) | cases q) | cases q
theorem kitB_all : ∀ a ∈ tynames, ∀ b ∈ kinds, kitB a b = some (isiB a b) := by decide +kernel
theorem kitAny_all {K : PySem.W.Frag} {a : String} (ha : a ∈ tynames) : ∀ {ts : List String}, (∀ b ∈ ts, b ∈ kinds) → PySem.W.kitAny K (.type a) (ts.map .type) = some (ts.any (isiB a))
  | [], _ => rfl
  | b :: ts, hb => by
    rw [List.map_cons, List.any_cons]
    have q := kitB_all a ha b (hb b List.mem_cons_self)
    cases e : isiB a b with
    | true =>
      rw [e] at q
      exact kitAny_cons (kit_ty q) (fun z => nomatch z) fun _ => rfl
    | false =>
      rw [e] at q
      exact kitAny_cons (kit_ty q) (fun _ => by rw [Bool.false_or]; exact kitAny_all ha fun b h => hb b (List.mem_cons_of_mem _ h)) fun z => nomatch z
theorem boot_kinds : ∀ b ∈ kinds, bootBuiltins (Str.ofString b) = some (.type b) := by decide +kernel
theorem e_tyN {t : String} {e : Expr} (cx : CxO X k gl g lv fA se) (ok : okTyN gl se t e = true) : PE X e (tC (.ty t)) ∧ t ∈ kinds ∧ noStar e = true := by
  unfold okTyN at ok
  split at ok
  · rename_i x p
    simp only [Bool.and_eq_true, decide_eq_true_eq] at ok
    obtain ⟨⟨e1, e2⟩, e3⟩ := ok
    have go := g_of cx e3
    have hk : t ∈ kinds := by simpa using e2
    refine ⟨pe_bltn go.gi (cx.fx.gbl x go.lk) (by rw [e1]; exact boot_kinds t hk) rfl go.nm go.db, hk, rfl⟩
  · cases ok
def tTys : List String → TA
  | [] => tNil
  | t :: ts => tCons (tC (.ty t)) (tTys ts)
theorem e_tyL (cx : CxO X k gl g lv fA se) : ∀ {ts : List String} {es : List Expr}, okTyL gl se ts es = true → PA X es (tTys ts) ∧ ∀ b ∈ ts, b ∈ kinds
  | [], [], _ => ⟨pa_nil, fun _ h => nomatch h⟩
  | [], _ :: _, h => by cases h
  | _ :: _, [], h => by cases h
  | t :: ts, e :: es, h => by
    unfold okTyL at h
    rw [Bool.and_eq_true] at h
    obtain ⟨h1, h2, h3⟩ := e_tyN cx h.1
    obtain ⟨h4, h5⟩ := e_tyL cx h.2
    refine ⟨pa_cons h1 h4 (star_of h3), fun b hb => ?_⟩
    rcases List.mem_cons.mp hb with rfl | hb
    · exact h2
    · exact h5 b hb
theorem tTys_run {σ : L2.St} {H : Hp} : ∀ {ts : List String} {Q : List V → Hp → Prop}, Q (ts.map .ty) H → tTys ts σ H Q
  | [], Q, h => h
  | t :: ts, Q, h => tTys_run (ts := ts) (Q := fun xs H2 => Q (.ty t :: xs) H2) h
theorem clsV_tys : ∀ {ts : List String}, Paired ClsV (ts.map V.ty) (ts.map Value.type)
  | [] => .nil
  | t :: ts => .cons (.ty t) clsV_tys
/-- isinstance of a caught exception -/
def rIsE (k : Cst) (g : Ev) : List V → Hp → VK → Prop := fun xs H Q => ∃ a c d b, xs = [.ref a, .ref (k.cA d)] ∧ (∃ dd, H a = some (ExC (.ref (k.cA c)) dd a) ∧ ∀ x, dd = some x → ∃ fs, H x = some (.xd fs)) ∧ g.gc.exm c d = some b ∧ Q (.bl b) H
theorem call_isE (cx : CxO X k gl g lv fA se) : CallR X (.builtin "isinstance") (rIsE k g) := by
  intro pins s σ H xs us Q I r h
  obtain ⟨a, c, d, b, rfl, ⟨dd, hA, hx⟩, e, q⟩ := h
  obtain ⟨u1, u2, rfl, r1, r2⟩ := vals2 r
  cases (show u1 = Value.ref a from r1)
  cases (show u2 = Value.ref (k.cA d) from r2)
  obtain ⟨e1, _, e2⟩ := cx.fx.exm c d b e
  obtain ⟨⟨oe, h1, h2, h3, vs, h4⟩, _⟩ := (show ObjOk X.prog X.w H s.heap a (ExC (.ref (k.cA c)) dd a) from I.hok a _ hA)
  obtain ⟨od, ho⟩ : ∃ od : Option Obj, (match dd, od with
      | none, none => True
      | some x, some o => s.heap.get? x = some o
      | _, _ => False) := by
    cases dd with
    | none => exact ⟨none, trivial⟩
    | some x =>
      obtain ⟨fs, hf⟩ := hx x rfl
      obtain ⟨mA, ⟨o, _, _, ho, _⟩, _⟩ := (show ObjOk X.prog X.w H s.heap x (.xd fs) from I.hok x _ hf)
      exact ⟨some o, ho⟩
  refine PySem.W.kia_one (e2 a) (by rw [← cx.K]; exact I.kIn) ⟨oe, od, h1, h2, ?_, ?_⟩ e1 (fun z => nomatch z) fun tk => ⟨.bl b, H, I.tok tk, rfl, q⟩
  · unfold PySem.W.notCls
    rw [h4]
  · rw [h3]
    cases dd <;> cases od <;> first | exact ho | exact ho.elim
theorem call_isO (cx : CxO X k gl g lv fA se) : CallR X (.builtin "isinstance") (fun xs H Q => rIsE k g xs H Q ∨ rIsi X.K xs H Q) := by
  intro pins s σ H xs us Q I r h
  rcases h with h | h
  · exact call_isE cx pins s σ H xs us Q I r h
  · exact call_isi pins s σ H xs us Q I r h
def isiR (g : Ev) (ts : List String) (cs : List Nat) (x : W) (h : AH) : Res W := match x with
  | .exo c xs vs => (match ts, cs with
    | [], [d] => (match g.gc.exm c d with
      | some b => .ok (.bl b) h
      | none => .stuck)
    | _, _ => .stuck)
  | x => (match typW h x with
    | some t => if cs = [] then .ok (.bl (ts.any (isiB t))) h else (match ts, cs with
      | [], [d] => if (g.gc.exm d d).isSome then .ok (.bl false) h else .stuck
      | _, _ => .stuck)
    | none => .stuck)
theorem primW_isi {g : Ev} {ts : List String} {cs : List Nat} {w : W} {h : AH} : primW g (.isi ts cs) [w] h = isiR g ts cs w h := by
  cases w <;> rfl
theorem isi_one {g : Ev} {ts : List String} {cs : List Nat} {w : W} {h : AH} {σ : L2.St} {ι : Nat → Addr} {H : Hp} {Q : VK} (r : R k ι h H) (w0 : WPE k Wx σ (primW g (.isi ts cs) [w] h) ι h H (relW k) Q) :
    (∃ c xs ws d b, w = .exo c xs ws ∧ ts = [] ∧ cs = [d] ∧ g.gc.exm c d = some b ∧ ∀ ι' H', Post k ι h H ι' h H' → Q (.bl b) H') ∨ (∃ t, typW h w = some t ∧ cs = [] ∧ ∀ ι' H', Post k ι h H ι' h H' → Q (.bl (ts.any (isiB t))) H') ∨ (∃ t d b, typW h w = some t ∧ ts = [] ∧ cs = [d] ∧ g.gc.exm d d = some b ∧ ∀ ι' H', Post k ι h H ι' h H' → Q (.bl false) H') := by
  rw [primW_isi] at w0
  unfold isiR at w0
  split at w0
  · split at w0
    · split at w0
      · rename_i e
        exact .inl ⟨_, _, _, _, _, rfl, rfl, rfl, e, fun ι' H' p => w0 ι' H' _ p (by unfold relW RelW; rfl)⟩
      · exact w0.elim
    · exact w0.elim
  · split at w0
    · rename_i e
      split at w0
      · rename_i e2
        exact .inr (.inl ⟨_, e, e2, fun ι' H' p => w0 ι' H' _ p (by unfold relW RelW; rfl)⟩)
      · split at w0
        · split at w0
          · rename_i hs
            obtain ⟨b, hb⟩ := Option.isSome_iff_exists.mp hs
            exact .inr (.inr ⟨_, _, b, e, rfl, rfl, hb, fun ι' H' p => w0 ι' H' _ p (by unfold relW RelW; rfl)⟩)
          · exact w0.elim
        · exact w0.elim
    · exact w0.elim
theorem pa_two {X : Cx} {a b : Expr} {ta tb : TE} (ha : PE X a ta) (hb : PE X b tb) (h1 : noStar a = true) (h2 : noStar b = true) : PA X [a, b] (tCons ta (tCons tb tNil)) := pa_cons ha (pa_cons hb pa_nil (star_of h2)) (star_of h1)
theorem e_isi {x : Str} {ts : List String} {ds : List Nat} {e t : Expr} {c : C} {px pos : Pos} (cx : CxO X k gl g lv fA se) (go : GOk X gl x .blt) (hx : x = "isinstance") (he : PE X e (tE k g Wx c)) (h1 : noStar e = true) (ok : okTy gl se ts ds t = true) :
    PE X (.Call (.Name x px) [e, t] [] pos) (tE k g Wx (.prim (.isi ts ds) [c])) := by
  have hm := cx.fx.gbl x go.lk
  have hn := go.nm
  subst hx
  have rd : ∀ σ H Q, tE k g Wx (.prim (.isi ts ds) [c]) σ H Q → tE k g Wx c σ H fun v H1 => ∃ ι h w, R k ι h H1 ∧ RelW k ι h.length H1 w v ∧
      ((∃ c xs ws d b, w = .exo c xs ws ∧ ts = [] ∧ ds = [d] ∧ g.gc.exm c d = some b ∧ ∀ ι' H', Post k ι h H1 ι' h H' → Q (.bl b) H') ∨ (∃ t, typW h w = some t ∧ ds = [] ∧ ∀ ι' H', Post k ι h H1 ι' h H' → Q (.bl (ts.any (isiB t))) H') ∨ (∃ t d b, typW h w = some t ∧ ts = [] ∧ ds = [d] ∧ g.gc.exm d d = some b ∧ ∀ ι' H', Post k ι h H1 ι' h H' → Q (.bl false) H')) := fun σ H Q w => by
    obtain ⟨ι, as, h, rs, r, w⟩ := w
    dsimp only at w
    rw [evalE, evalEs, Res.bind_assoc] at w
    refine (nxt (fun _ _ _ => True) kpT rs r trivial w).imp fun v H1 ⟨ι, h, wx, rs, r, _, rx, w⟩ => ?_
    rw [evalEs] at w
    exact ⟨ι, h, wx, r, rx, isi_one r w⟩
  unfold okTy at ok
  split at ok
  · -- an own class
    rename_i c1 y p
    have go2 := g_of cx ok
    obtain ⟨e1, kp⟩ := cx.fx.gcl y c1 go2.lk
    refine PE.of (pe_callB (call_isO cx) go.gi hm (by decide +kernel) (pa_two he (pe_glob (v := .ref (k.cA c1)) go2.gi e1 rfl go2.db) h1 rfl) hn go.db (star_of h1) rfl) fun σ H Q w => ?_
    refine (rd σ H Q w).imp fun v H1 ⟨ι, h, w, r, rw1, q⟩ => ?_
    rcases q with ⟨c2, xs, ws, d, b, rfl, _, e2, e3, q⟩ | ⟨t, _, z, _⟩ | ⟨t, d, b, e2, _, e4, e3, q⟩
    · unfold RelW at rw1
      obtain ⟨a, dd, rfl, hA, _, hx⟩ := rw1
      cases e2
      refine .inl ⟨a, c2, c1, b, rfl, ⟨dd, hA, fun x ex => ?_⟩, e3, q _ _ (Post.refl r)⟩
      rcases hx with ⟨_, _, z⟩ | ⟨x', _, z, _, hx⟩
      · rw [ex] at z
        cases z
      · rw [ex] at z
        cases z
        exact ⟨_, hx⟩
    · cases z
    · cases e4
      exact .inr ⟨v, .ref (k.cA c1), .type t, .ref (k.cA c1), false, rfl, .own _, ty_of cx.K r rw1 e2, by rw [cx.K]; exact (cx.fx.exm c1 c1 b e3).2.1 t (typW_mem e2), q _ _ (Post.refl r)⟩
  · -- a built-in type
    rename_i t y p
    obtain ⟨h3, h4, h5⟩ := e_tyN cx ok
    refine PE.of (pe_callB call_isi go.gi hm (by decide +kernel) (pa_two he h3 h1 rfl) hn go.db (star_of h1) rfl) fun σ H Q w => ?_
    refine (rd σ H Q w).imp fun v H1 ⟨ι, h, w, r, rw1, q⟩ => ?_
    rcases q with ⟨c2, xs, ws, d, b, rfl, e2, _⟩ | ⟨t', e2, _, q⟩ | ⟨_, _, _, _, e2, _⟩
    · cases e2
    · refine ⟨v, .ty t, .type t', .type t, isiB t' t, rfl, .ty t, ty_of cx.K r rw1 e2, kit_ty (kitB_all t' (typW_mem e2) t h4), ?_⟩
      have q := q _ _ (Post.refl r)
      rw [List.any_cons, List.any_nil, Bool.or_false] at q
      exact q
    · cases e2
  · -- several of them
    rename_i t0 ts0 es k0 p
    rw [Bool.and_eq_true, decide_eq_true_eq] at ok
    obtain ⟨h3, h4⟩ := e_tyL cx ok.2
    refine PE.of (pe_callB call_isiT go.gi hm (by decide +kernel) (pa_two he (pe_tup h3) h1 rfl) hn go.db (star_of h1) rfl) fun σ H Q w => ?_
    refine (rd σ H Q w).imp fun v H1 ⟨ι, h, w, r, rw1, q⟩ => ?_
    rcases q with ⟨c2, xs, ws, d, b, rfl, e2, _⟩ | ⟨t', e2, _, q⟩ | ⟨_, _, _, _, e2, _⟩
    · cases e2
    · refine tTys_run ⟨?_, fun p hp => ?_⟩
      · rw [List.length_map, sizeLine_eq]
        have := ok.1
        omega
      · have po := Post.side (o := .tup ((t0 :: ts0).map .ty)) r hp
        exact ⟨v, p, _, .type t', _, _, rfl, upd_same, clsV_tys, ty_of cx.K po.rel (rw1.keep (po.keep r)) e2, kitAny_all (typW_mem e2) h4, q _ _ po⟩
    · cases e2
  · cases ok
/-! ### displays, append -/
theorem e_tup {es : List Expr} {cs : List C} {x1 : Nat} {pos : Pos} (ha : PA X es (tEs k g Wx cs)) : PE X (.Tuple es x1 pos) (tE k g Wx (.tup cs)) := by
  refine PE.of (pe_tup ha) fun σ H Q w => ?_
  obtain ⟨ι, as, h, rs, r, w⟩ := w
  dsimp only at w
  rw [evalE] at w
  refine (nxt (rel := relWs k) (fun _ _ _ => True) kpT rs r trivial w).imp fun vs H1 ⟨ι, h, ws, rs, r, _, rx, w⟩ => ?_
  split at w
  · rename_i hz
    exact ⟨by rw [← rx.len]; exact sz_ok hz, WPV.tup r rx (show WPV k (.ok (.tup ws) h) ι h H1 (relW k) Q from w)⟩
  · exact w.elim
theorem e_lst {es : List Expr} {cs : List C} {pos : Pos} (ha : PA X es (tEs k g Wx cs)) : PE X (.List es pos) (tE k g Wx (.lst cs)) := by
  refine PE.of (pe_lst ha) fun σ H Q w => ?_
  obtain ⟨ι, as, h, rs, r, w⟩ := w
  dsimp only at w
  rw [evalE] at w
  refine (nxt (rel := relWs k) (fun _ _ _ => True) kpT rs r trivial w).imp fun vs H1 ⟨ι, h, ws, rs, r, _, rx, w⟩ => ?_
  split at w
  · rename_i hz
    exact ⟨by rw [← rx.len]; exact sz_ok hz, WPV.lst r rx (show WPV k (.ok (.loc h.length) (h ++ [.lst ws])) ι h H1 (relW k) Q from w)⟩
  · exact w.elim
theorem few_of {es : List Expr} {env : Env} {pos : Pos} (hst : es.all noStar = true) (hz : es.length < 20) : ((backTo pos (starEach es env)).all (fun x => !x.1) && (backToKw pos (keywordEach [] env)).all (fun x => x.1.isSome)
      && decide (es.length + ([] : List Keyword).length + (if ([] : List Keyword).isEmpty then 0 else 1) < 30)) = true := by
  rw [star_all hst]
  show (true && true && decide (es.length + 0 + 0 < 30)) = true
  simp
  omega
theorem bmT_append {x : W} {h : AH} (e : bmT .append x h = true) : ∃ l xs, x = .loc l ∧ h[l]? = some (.lst xs) := by
  cases x with
  | loc l =>
    have e : (match h[l]? with
      | some (.lst _) => true
      | _ => false) = true := e
    split at e
    · exact ⟨l, _, rfl, by assumption⟩
    · cases e
  | _ => cases e
theorem bmW_append {l : Nat} {ws : List W} {h : AH} {σ : L2.St} {ι : Nat → Addr} {H : Hp} {Q : VK} (w0 : WPE k Wx σ (bmW .append (.loc l) ws h) ι h H (relW k) Q) : ∃ w xs, ws = [w] ∧ h[l]? = some (.lst xs) ∧ xs.length < 1000000 ∧
    WPE k Wx σ (.ok .non (h.set l (.lst (xs ++ [w])))) ι h H (relW k) Q := by
  cases ws with
  | nil => exact w0.elim
  | cons w r =>
    cases r with
    | nil =>
      have w0 : WPE k Wx σ (match h[l]? with
        | some (.lst xs) => if xs.length < 1000000 then .ok .non (h.set l (.lst (xs ++ [w]))) else .stuck
        | _ => .stuck) ι h H (relW k) Q := w0
      split at w0
      · rename_i xs e
        split at w0
        · rename_i hz
          exact ⟨w, xs, rfl, e, hz, w0⟩
        · exact w0.elim
      · exact w0.elim
    | cons _ _ => exact w0.elim
theorem e_append {o e : Expr} {c c1 : C} {cs : List C} {apos pos : Pos} (cx : CxO X k gl g lv fA se) (ho : PE X o (tE k g Wx c)) (ha : PA X [e] (tEs k g Wx (c1 :: cs))) (h0 : noSuper o = true) (hst : [e].all noStar = true) (hl : (apos.endLine == pos.line) = true) :
    PE X (.Call (.Attribute o "append" apos) [e] [] pos) (tE k g Wx (.bm .append c (c1 :: cs))) := by
  refine PE.of (pe_bm PySem.F.plainAttrs_list PySem.F.slot_list_append PySem.F.type_list_append mt_append ho ha (base_of h0) (few_of hst (by show 1 < 20; decide)) hl (star_of (by simpa using hst)) rfl) fun σ H Q w => ?_
  obtain ⟨ι, as, h, rs, r, w⟩ := w
  dsimp only at w
  rw [evalE] at w
  unfold tBM
  refine (nxt (fun _ _ _ => True) kpT rs r trivial w).imp fun x H1 ⟨ι, h, wx, rs, r, _, rx, w⟩ => ?_
  split at w
  · rename_i hb
    obtain ⟨l, xs0, rfl, e2⟩ := bmT_append hb
    have rx0 := rx
    unfold relW RelW at rx
    obtain ⟨hlt, rfl⟩ := rx
    obtain ⟨vs, hv, rv⟩ := r.lst e2
    refine ⟨.inl ⟨rfl, vs, .of hv⟩, ?_⟩
    refine (nxt (rel := relWs k) (fun ι' n H => RelW k ι' n H (.loc l) (.ref (ι l))) kpW rs r rx0 w).imp fun zs H2 ⟨ι', h, ws, rs, r, rx, rz, w⟩ => ?_
    unfold RelW at rx
    obtain ⟨hlt, ex⟩ := rx
    obtain ⟨w1, xs, rfl, e3, hz, w⟩ := bmW_append w
    obtain ⟨vs, hv, rv⟩ := r.lst e3
    obtain ⟨y, rfl, ry⟩ := RelWs.one rz
    refine ⟨ι l, vs, y, rfl, rfl, by rw [V.ref.inj ex]; exact hv, by rw [← rv.len, sizeLine_eq]; omega, ?_⟩
    rw [V.ref.inj ex]
    exact w ι' _ _ (Post.set (ho := .lst (vs ++ [y])) r hlt fun H' kp e => ⟨_, e, RelWs.append (RelWs.keep kp _ rv) (RelWs.cons (ry.keep kp) .nil)⟩) (by unfold relW RelW; rfl)
  · exact w.elim
theorem bmT_lst {m : Bm} {x : W} {h : AH} (hm : m = .append ∨ m = .extend ∨ m = .pop0 ∨ m = .count ∨ m = .index) (e : bmT m x h = true) : ∃ l xs, x = .loc l ∧ h[l]? = some (.lst xs) := by
  cases x with
  | loc l =>
    rcases hm with rfl | rfl | rfl | rfl | rfl <;>
      (have e : (match h[l]? with
          | some (.lst _) => true
          | _ => false) = true := e
       split at e
       · exact ⟨l, _, rfl, by assumption⟩
       · cases e)
  | _ => rcases hm with rfl | rfl | rfl | rfl | rfl <;> cases e
theorem bmT_dic {m : Bm} {x : W} {h : AH} (hm : m = .get2 ∨ m = .setdefault ∨ m = .pop1) (e : bmT m x h = true) : ∃ l kvs, x = .loc l ∧ h[l]? = some (.dic kvs) := by
  cases x with
  | loc l =>
    rcases hm with rfl | rfl | rfl <;>
      (have e : (match h[l]? with
          | some (.dic _) => true
          | _ => false) = true := e
       split at e
       · exact ⟨l, _, rfl, by assumption⟩
       · cases e)
  | _ => rcases hm with rfl | rfl | rfl <;> cases e
theorem bmW_extend {l : Nat} {ws : List W} {h : AH} {σ : L2.St} {ι : Nat → Addr} {H : Hp} {Q : VK} (w0 : WPE k Wx σ (bmW .extend (.loc l) ws h) ι h H (relW k) Q) : ∃ b xs ys, ws = [.loc b] ∧ h[l]? = some (.lst xs) ∧ h[b]? = some (.lst ys) ∧ szOk (xs.length + ys.length) = true ∧
    WPE k Wx σ (.ok .non (h.set l (.lst (xs ++ ys)))) ι h H (relW k) Q := by
  match ws, w0 with
  | [.loc b], w0 =>
    have w0 : WPE k Wx σ (match h[l]?, h[b]? with
      | some (.lst xs), some (.lst ys) => if szOk (xs.length + ys.length) then .ok .non (h.set l (.lst (xs ++ ys))) else .stuck
      | _, _ => .stuck) ι h H (relW k) Q := w0
    split at w0
    · rename_i xs ys e1 e2
      split at w0
      · rename_i hz
        exact ⟨b, xs, ys, rfl, e1, e2, hz, w0⟩
      · exact w0.elim
    · exact w0.elim
  | [], w0 => exact w0.elim
  | [.non], w0 => exact w0.elim
  | [.bl _], w0 => exact w0.elim
  | [.int _], w0 => exact w0.elim
  | [.str _], w0 => exact w0.elim
  | [.tup _], w0 => exact w0.elim
  | [.exo _ _ _], w0 => exact w0.elim
  | [.scr], w0 => exact w0.elim
  | .loc _ :: _ :: _, w0 => exact w0.elim
  | .non :: _ :: _, w0 => exact w0.elim
  | .bl _ :: _ :: _, w0 => exact w0.elim
  | .int _ :: _ :: _, w0 => exact w0.elim
  | .str _ :: _ :: _, w0 => exact w0.elim
  | .tup _ :: _ :: _, w0 => exact w0.elim
  | .exo _ _ _ :: _ :: _, w0 => exact w0.elim
  | .scr :: _ :: _, w0 => exact w0.elim
theorem e_extend {o e : Expr} {c c1 : C} {cs : List C} {apos pos : Pos} (cx : CxO X k gl g lv fA se) (ho : PE X o (tE k g Wx c)) (ha : PA X [e] (tEs k g Wx (c1 :: cs))) (h0 : noSuper o = true) (hst : [e].all noStar = true) (hl : (apos.endLine == pos.line) = true) :
    PE X (.Call (.Attribute o "extend" apos) [e] [] pos) (tE k g Wx (.bm .extend c (c1 :: cs))) := by
  refine PE.of (pe_bm PySem.F.plainAttrs_list PySem.F.slot_list_extend PySem.F.type_list_extend mt_extend ho ha (base_of h0) (few_of hst (by show 1 < 20; decide)) hl (star_of (by simpa using hst)) rfl) fun σ H Q w => ?_
  obtain ⟨ι, as, h, rs, r, w⟩ := w
  dsimp only at w
  rw [evalE] at w
  unfold tBM
  refine (nxt (fun _ _ _ => True) kpT rs r trivial w).imp fun x H1 ⟨ι, h, wx, rs, r, _, rx, w⟩ => ?_
  split at w
  · rename_i hb
    obtain ⟨l, xs0, rfl, e2⟩ := bmT_lst (by simp) hb
    have rx0 := rx
    unfold relW RelW at rx
    obtain ⟨hlt, rfl⟩ := rx
    obtain ⟨vs, hv, rv⟩ := r.lst e2
    refine ⟨.inl ⟨rfl, vs, .of hv⟩, ?_⟩
    refine (nxt (rel := relWs k) (fun ι' n H => RelW k ι' n H (.loc l) (.ref (ι l))) kpW rs r rx0 w).imp fun zs H2 ⟨ι', h, ws, rs, r, rx, rz, w⟩ => ?_
    unfold RelW at rx
    obtain ⟨hlt, ex⟩ := rx
    obtain ⟨b, xs, ys, rfl, e3, e4, hz, w⟩ := bmW_extend w
    obtain ⟨vs, hv, rv⟩ := r.lst e3
    obtain ⟨vs2, hv2, rv2⟩ := r.lst e4
    obtain ⟨y, rfl, ry⟩ := RelWs.one rz
    unfold RelW at ry
    obtain ⟨_, rfl⟩ := ry
    refine ⟨ι l, ι' b, vs, vs2, rfl, rfl, by rw [V.ref.inj ex]; exact hv, hv2, by rw [← rv.len, ← rv2.len]; exact sz_ok hz, ?_⟩
    rw [V.ref.inj ex]
    exact w ι' _ _ (Post.set (ho := .lst (vs ++ vs2)) r hlt fun H' kp e => ⟨_, e, RelWs.append (RelWs.keep kp _ rv) (RelWs.keep kp _ rv2)⟩) (by unfold relW RelW; rfl)
  · exact w.elim
theorem RelWs.dropLast {ι : Nat → Addr} {n : Nat} {H : Hp} {ws : List W} {vs : List V} (r : RelWs k ι n H ws vs) : RelWs k ι n H ws.dropLast vs.dropLast := by
  rw [List.dropLast_eq_take, List.dropLast_eq_take, r.len]
  exact r.take _
theorem e_pop0 {o : Expr} {c : C} {apos pos : Pos} (cx : CxO X k gl g lv fA se) (ho : PE X o (tE k g Wx c)) (h0 : noSuper o = true) (hl : (apos.endLine == pos.line) = true) :
    PE X (.Call (.Attribute o "pop" apos) [] [] pos) (tE k g Wx (.bm .pop0 c [])) := by
  refine PE.of (pe_bm0 PySem.F.plainAttrs_list PySem.F.slot_list_pop PySem.F.type_list_pop mt_pop ho (base_of h0) hl) fun σ H Q w => ?_
  obtain ⟨ι, as, h, rs, r, w⟩ := w
  dsimp only at w
  rw [evalE] at w
  unfold tBM0
  refine (nxt (fun _ _ _ => True) kpT rs r trivial w).imp fun x H1 ⟨ι, h, wx, rs, r, _, rx, w⟩ => ?_
  split at w
  · rename_i hb
    obtain ⟨l, xs0, rfl, e2⟩ := bmT_lst (by simp) hb
    unfold relW RelW at rx
    obtain ⟨hlt, rfl⟩ := rx
    obtain ⟨vs, hv, rv⟩ := r.lst e2
    refine ⟨.inl ⟨rfl, vs, .of hv⟩, ?_⟩
    have w : WPE k Wx σ (match xs0[xs0.length - 1]? with
      | some w => .ok w (h.set l (.lst xs0.dropLast))
      | none => .stuck) ι h H1 (relW k) Q := by
      have : bm0 .pop0 (.loc l) h = (match xs0[xs0.length - 1]? with
        | some w => .ok w (h.set l (.lst xs0.dropLast))
        | none => .stuck) := by
        unfold bm0
        simp only [e2] <;> (cases xs0[xs0.length - 1]? <;> rfl)
      rw [← this]
      exact w
    split at w
    · rename_i w1 e3
      obtain ⟨y, e4, ry⟩ := rv.get e3
      rw [rv.len] at e4
      have p := Post.set (ho := .lst vs.dropLast) (o := .lst xs0.dropLast) r hlt fun H' kp e => ⟨_, e, (RelWs.keep kp _ rv).dropLast⟩
      exact ⟨ι l, vs, y, rfl, rfl, hv, e4, w ι _ _ p (by unfold relW; simpa using ry.keep (p.keep r))⟩
    · exact w.elim
  · exact w.elim
end
end AM
/-! Dicts' methods, sets, count; one display. -/
namespace AM
open PySem L2
section
variable {X : Cx} {k : Cst} {gl : Gl} {g : Ev} {lv : Nat} {fA : Nat → Addr} {se : SE} {Wx : WX}
/-- a built-in method of what is known to be of a type -/
def tMT (X : Cx) (T : String) (r : V → List V → Hp → VK → Prop) (to : TE) (t : TA) : TE := fun σ H Q => to σ H fun x H1 =>
  (∀ pins s σ v, L2.Inv X pins σ H1 s → RelV x v → s.TypeIs v T ∧ ∀ b, v = .ref b → ∃ ob, s.heap.get? b = some ob ∧ ob.dict = none) ∧ t σ H1 fun xs H2 => r x xs H2 Q
theorem pe_mt {o e : Expr} {es : List Expr} {to : TE} {t : TA} {name : Str} {apos cpos : Pos} {T id : String} {r : V → List V → Hp → VK → Prop} (pa : PlainAttrs T) (slot : Slot T name id) (hty : typeOf (.builtin id) = pure (.type "method_descriptor")) (hm : MtR X id r) (ho : PE X o to) (ha : PA X (e :: es) t)
    (hbase : attributeBase o name X.env (eval o X.env) = eval o X.env)
    (hfew : ((backTo cpos (starEach (e :: es) X.env)).all (fun x => !x.1) && (backToKw cpos (keywordEach [] X.env)).all (fun x => x.1.isSome)
      && decide ((e :: es).length + ([] : List Keyword).length + (if ([] : List Keyword).isEmpty then 0 else 1) < 30)) = true)
    (hline : (apos.endLine == cpos.line) = true) (hs : starEach (e :: es) X.env = (false, eval e X.env) :: starEach es X.env) (hplain : (backTo cpos (starEach es X.env)).any (·.1) = false) :
    PE X (.Call (.Attribute o name apos) (e :: es) [] cpos) (tMT X T r to t) := by
  refine ⟨fun pins s σ H Q I h => ?_⟩
  refine wpAny_Call_method_late hbase hfew hline rfl (thn (ho.run pins s σ H _ I h) fun v s1 ⟨x, H1, I1, r1, ty, q1⟩ => ?_)
  obtain ⟨h1, h2⟩ := ty _ _ _ _ I1 r1
  refine ⟨T, id, pa, slot, hty, h1, h2, ?_⟩
  have hA := ha.run cpos pins s1 σ H1 _ I1 q1
  rw [hs] at hA ⊢
  refine Calls.callWith_builtin (by show (false || (backTo cpos (starEach es X.env)).any (·.1)) = false; rw [hplain] <;> rfl) (Calls.evalArgs_plain ?_)
  exact thn hA fun us s2 ⟨vs, H2, I2, r2, q2⟩ => hm pins s2 σ H2 x vs v us Q I2 r1 r2 q2
/-- the machine's method -/
def rBm (k : Cst) (m : Bm) : V → List V → Hp → VK → Prop := fun x xs H Q => ∃ ι h a ws, R k ι h H ∧ RelW k ι h.length H a x ∧ RelWs k ι h.length H ws xs ∧ WPV k (bmW m a ws h) ι h H (relW k) Q
theorem bmW_nx {m : Bm} {a : W} {ws : List W} {h : AH} (c xs vs h') : bmW m a ws h ≠ .exc c xs vs h' := by
  unfold bmW
  split <;> (try split) <;> (try split) <;> (try split) <;> (try split) <;> simp
section
variable {ι : Nat → Addr} {h : AH} {H : Hp} {Q : VK} {a : W} {ws : List W}
theorem get2_inv (w : WPV k (bmW .get2 a ws h) ι h H (relW k) Q) : ∃ l kvs kw d, a = .loc l ∧ ws = [kw, d] ∧ h[l]? = some (.dic kvs) ∧ dicOk kvs kw = true ∧ WPV k (.ok ((dicGet kvs kw).getD d) h) ι h H (relW k) Q := by
  cases a with
  | loc l =>
    rcases ws with _ | ⟨w1, _ | ⟨w2, _ | ⟨w3, ws⟩⟩⟩
    · exact w.elim
    · exact w.elim
    · have w : WPV k (match h[l]? with
        | some (.dic kvs) => if dicOk kvs w1 then .ok ((dicGet kvs w1).getD w2) h else .stuck
        | _ => .stuck) ι h H (relW k) Q := w
      split at w
      · rename_i kvs e
        split at w
        · rename_i ok
          exact ⟨l, kvs, w1, w2, rfl, rfl, e, ok, w⟩
        · exact w.elim
      · exact w.elim
    · exact w.elim
  | _ => exact w.elim
theorem setd_inv (w : WPV k (bmW .setdefault a ws h) ι h H (relW k) Q) : ∃ l kvs kw d, a = .loc l ∧ ws = [kw, d] ∧ h[l]? = some (.dic kvs) ∧ dicOk kvs kw = true ∧ kvs.length < 1000000 ∧
    (∀ w, dicGet kvs kw = some w → WPV k (.ok w h) ι h H (relW k) Q) ∧ (dicGet kvs kw = none → WPV k (.ok d (h.set l (.dic (dicPut kvs kw d)))) ι h H (relW k) Q) := by
  cases a with
  | loc l =>
    rcases ws with _ | ⟨w1, _ | ⟨w2, _ | ⟨w3, ws⟩⟩⟩
    · exact w.elim
    · exact w.elim
    · have w : WPV k (match h[l]? with
        | some (.dic kvs) => if dicOk kvs w1 && decide (kvs.length < 1000000) then (match dicGet kvs w1 with
          | some w => Res.ok w h
          | none => .ok w2 (h.set l (.dic (dicPut kvs w1 w2)))) else .stuck
        | _ => .stuck) ι h H (relW k) Q := w
      split at w
      · rename_i kvs e
        split at w
        · rename_i ok
          rw [Bool.and_eq_true, decide_eq_true_eq] at ok
          refine ⟨l, kvs, w1, w2, rfl, rfl, e, ok.1, ok.2, fun u hu => ?_, fun hu => ?_⟩
          · rw [hu] at w
            exact w
          · rw [hu] at w
            exact w
        · exact w.elim
      · exact w.elim
    · exact w.elim
  | _ => exact w.elim
theorem pop1_inv (w : WPV k (bmW .pop1 a ws h) ι h H (relW k) Q) : ∃ l kvs kw u, a = .loc l ∧ ws = [kw] ∧ h[l]? = some (.dic kvs) ∧ dicOkS kvs kw = true ∧ dicGet kvs kw = some u ∧ WPV k (.ok u (h.set l (.dic (dicDel kvs kw)))) ι h H (relW k) Q := by
  cases a with
  | loc l =>
    rcases ws with _ | ⟨w1, _ | ⟨w2, ws⟩⟩
    · exact w.elim
    · have w : WPV k (match h[l]? with
        | some (.dic kvs) => if dicOkS kvs w1 then (match dicGet kvs w1 with
          | some w => Res.ok w (h.set l (.dic (dicDel kvs w1)))
          | none => .stuck) else .stuck
        | _ => .stuck) ι h H (relW k) Q := w
      split at w
      · rename_i kvs e
        split at w
        · rename_i ok
          split at w
          · rename_i u hu
            exact ⟨l, kvs, w1, u, rfl, rfl, e, ok, hu, w⟩
          · exact w.elim
        · exact w.elim
      · exact w.elim
    · exact w.elim
  | _ => exact w.elim
theorem count_inv (w : WPV k (bmW .count a ws h) ι h H (relW k) Q) : ∃ l xs bs b, a = .loc l ∧ ws = [.bl b] ∧ h[l]? = some (.lst xs) ∧ bools xs = some bs ∧ WPV k (.ok (.int (bs.count b)) h) ι h H (relW k) Q := by
  cases a with
  | loc l =>
    rcases ws with _ | ⟨w1, _ | ⟨w2, ws⟩⟩
    · exact w.elim
    · cases w1 with
      | bl b =>
        have w : WPV k (match h[l]? with
          | some (.lst xs) => (match bools xs with
            | some bs => Res.ok (.int (bs.count b)) h
            | none => .stuck)
          | _ => .stuck) ι h H (relW k) Q := w
        split at w
        · rename_i xs e
          split at w
          · rename_i bs eb
            exact ⟨l, xs, bs, b, rfl, rfl, e, eb, w⟩
          · exact w.elim
        · exact w.elim
      | _ => exact w.elim
    · cases w1 <;> exact w.elim
  | _ => exact w.elim
end
theorem mt_get2 (hK : X.K = k.K) (hw : X.w = k.w) (hu : X.A.units + 65 < cLine) : MtR X "dict.get" (rBm k .get2) := by
  intro pins s σ H x xs v us Q I rx rxs hh
  obtain ⟨ι, h, a, ws, r, ra, rb, w⟩ := hh
  obtain ⟨l, kvs, kw, d, rfl, rfl, e, ok, w⟩ := get2_inv w
  unfold RelW at ra
  obtain ⟨_, rfl⟩ := ra
  cases rx
  obtain ⟨y, z, rfl, r1, r2⟩ := rb.two
  obtain ⟨u1, u2, rfl, q1, q2⟩ := vals2 rxs
  exact dic_get2 hu I hK hw r e ok r1 q1 r2 q2 fun v' w' s' I' rv rw1 => ⟨v', H, I', rv, WPV.same r w rw1⟩
theorem mt_setd (hK : X.K = k.K) (hw : X.w = k.w) (hu : X.A.units + 65 < cLine) : MtR X "dict.setdefault" (rBm k .setdefault) := by
  intro pins s σ H x xs v us Q I rx rxs hh
  obtain ⟨ι, h, a, ws, r, ra, rb, w⟩ := hh
  obtain ⟨l, kvs, kw, d, rfl, rfl, e, ok, hz, w1, w2⟩ := setd_inv w
  unfold RelW at ra
  obtain ⟨_, rfl⟩ := ra
  cases rx
  obtain ⟨y, z, rfl, r1, r2⟩ := rb.two
  obtain ⟨u1, u2, rfl, q1, q2⟩ := vals2 rxs
  refine dic_setd hu I hK hw r e ok hz r1 q1 r2 q2 (fun w v' w' s' hg I' rv rw1 => ⟨v', H, I', rv, WPV.same r (w1 w hg) rw1⟩) fun hg ho s' I' p w' rv => ⟨z, _, I', rv, ?_⟩
  exact w2 hg ι _ z p (by
    have := r2.keep (p.keep r)
    simpa using this)
theorem mt_pop1 : MtR X "dict.pop" (rBm k .pop1) := by
  intro pins s σ H x xs v us Q I rx rxs hh
  obtain ⟨ι, h, a, ws, r, ra, rb, w⟩ := hh
  obtain ⟨l, kvs, kw, u, rfl, rfl, e, ok, hg, w⟩ := pop1_inv w
  unfold RelW at ra
  obtain ⟨_, rfl⟩ := ra
  cases rx
  obtain ⟨y, rfl, r1⟩ := rb.one
  obtain ⟨u1, rfl, q1⟩ := vals1 rxs
  refine dic_pop I r e ok hg r1 q1 fun ho v' w' s' I' p rv rw1 => ⟨v', _, I', rv, ?_⟩
  exact w ι _ v' p (by
    have := rw1.keep (p.keep r)
    simpa using this)
theorem mt_count : MtR X "list.count" (rBm k .count) := by
  intro pins s σ H x xs v us Q I rx rxs hh
  obtain ⟨ι, h, a, ws, r, ra, rb, w⟩ := hh
  obtain ⟨l, ys, bs, b, rfl, rfl, e, eb, w⟩ := count_inv w
  unfold RelW at ra
  obtain ⟨_, rfl⟩ := ra
  obtain ⟨y, rfl, r1⟩ := rb.one
  unfold RelW at r1
  subst r1
  obtain ⟨vs, hv, rv⟩ := r.lst e
  have e2 := bools_rel rv eb
  subst e2
  exact mt_countB pins s σ H _ _ v us Q I rx rxs ⟨_, bs, b, rfl, rfl, .inl (.of hv), WPV.same r w (by unfold RelW; rfl)⟩
/-- o.m(e, ..) -/
theorem e_bmM {m : Bm} {T id : String} {name : Str} {o e : Expr} {es : List Expr} {c c1 : C} {cs : List C} {apos pos : Pos} (cx : CxO X k gl g lv fA se) (pa : PlainAttrs T) (slot : Slot T name id) (hty : typeOf (.builtin id) = pure (.type "method_descriptor")) (hm : MtR X id (rBm k m))
    (hb : ∀ (ι : Nat → Addr) h H x v, R k ι h H → RelW k ι h.length H x v → bmT m x h = true → ∀ pins s σ u, L2.Inv X pins σ H s → RelV v u → s.TypeIs u T ∧ ∀ b, u = .ref b → ∃ ob, s.heap.get? b = some ob ∧ ob.dict = none)
    (ho : PE X o (tE k g Wx c)) (ha : PA X (e :: es) (tEs k g Wx (c1 :: cs))) (h0 : noSuper o = true) (hst : (e :: es).all noStar = true) (hz : (e :: es).length < 20) (hl : (apos.endLine == pos.line) = true) :
    PE X (.Call (.Attribute o name apos) (e :: es) [] pos) (tE k g Wx (.bm m c (c1 :: cs))) := by
  have hst2 := hst
  rw [List.all_cons, Bool.and_eq_true] at hst2
  refine PE.of (pe_mt pa slot hty hm ho ha (base_of h0) (few_of hst hz) hl (star_of hst2.1) (star_any hst2.2)) fun σ H Q w => ?_
  obtain ⟨ι, as, h, rs, r, w⟩ := w
  dsimp only at w
  rw [evalE] at w
  unfold tMT
  refine (nxt (fun _ _ _ => True) kpT rs r trivial w).imp fun x H1 ⟨ι, h, wx, rs, r, _, rx, w⟩ => ?_
  split at w
  · rename_i hbb
    refine ⟨fun pins s σ v I rv => hb ι h H1 wx x r rx hbb pins s σ v I rv, ?_⟩
    refine (nxt (rel := relWs k) (fun ι' n H => RelW k ι' n H wx x) kpW rs r rx w).imp fun zs H2 ⟨ι', h, ws, rs, r, rx, rz, w⟩ => ?_
    exact ⟨ι', h, wx, ws, r, rx, rz, WPV.of w fun c xs vs h' => bmW_nx c xs vs h'⟩
  · exact w.elim
theorem isDic {m : Bm} (hm : m = .get2 ∨ m = .setdefault ∨ m = .pop1) (hK : X.K = k.K) (hw : X.w = k.w) : ∀ (ι : Nat → Addr) h H x v, R k ι h H → RelW k ι h.length H x v → bmT m x h = true → ∀ pins s σ u, L2.Inv X pins σ H s → RelV v u → s.TypeIs u "dict" ∧ ∀ b, u = .ref b → ∃ ob, s.heap.get? b = some ob ∧ ob.dict = none := by
  intro ι h H x v r rx hb pins s σ u I ru
  obtain ⟨l, kvs, rfl, e⟩ := bmT_dic hm hb
  unfold RelW at rx
  obtain ⟨_, rfl⟩ := rx
  cases ru
  exact dic_is I hK hw r e
theorem isLst {m : Bm} (hm : m = .append ∨ m = .extend ∨ m = .pop0 ∨ m = .count ∨ m = .index) : ∀ (ι : Nat → Addr) h H x v, R k ι h H → RelW k ι h.length H x v → bmT m x h = true → ∀ pins s σ u, L2.Inv X pins σ H s → RelV v u → s.TypeIs u "list" ∧ ∀ b, u = .ref b → ∃ ob, s.heap.get? b = some ob ∧ ob.dict = none := by
  intro ι h H x v r rx hb pins s σ u I ru
  obtain ⟨l, xs, rfl, e⟩ := bmT_lst hm hb
  unfold RelW at rx
  obtain ⟨_, rfl⟩ := rx
  cases ru
  obtain ⟨vs, hv, _⟩ := r.lst e
  exact tyV_is (x := .ref (ι l)) I rfl (.inl ⟨rfl, vs, .inl (.of hv)⟩)
theorem e_get2 {o e e2 : Expr} {c c1 : C} {cs : List C} {apos pos : Pos} (cx : CxO X k gl g lv fA se) (ho : PE X o (tE k g Wx c)) (ha : PA X [e, e2] (tEs k g Wx (c1 :: cs))) (h0 : noSuper o = true) (hst : [e, e2].all noStar = true) (hl : (apos.endLine == pos.line) = true) :
    PE X (.Call (.Attribute o "get" apos) [e, e2] [] pos) (tE k g Wx (.bm .get2 c (c1 :: cs))) := e_bmM cx PySem.F.plainAttrs_dict PySem.F.slot_dict_get PySem.F.type_dict_get (mt_get2 cx.K cx.w cx.un) (isDic (by simp) cx.K cx.w) ho ha h0 hst (by decide : 2 < 20) hl
theorem e_setd {o e e2 : Expr} {c c1 : C} {cs : List C} {apos pos : Pos} (cx : CxO X k gl g lv fA se) (ho : PE X o (tE k g Wx c)) (ha : PA X [e, e2] (tEs k g Wx (c1 :: cs))) (h0 : noSuper o = true) (hst : [e, e2].all noStar = true) (hl : (apos.endLine == pos.line) = true) :
    PE X (.Call (.Attribute o "setdefault" apos) [e, e2] [] pos) (tE k g Wx (.bm .setdefault c (c1 :: cs))) := e_bmM cx PySem.F.plainAttrs_dict PySem.F.slot_dict_setdefault PySem.F.type_dict_setdefault (mt_setd cx.K cx.w cx.un) (isDic (by simp) cx.K cx.w) ho ha h0 hst (by decide : 2 < 20) hl
theorem e_pop1 {o e : Expr} {c c1 : C} {cs : List C} {apos pos : Pos} (cx : CxO X k gl g lv fA se) (ho : PE X o (tE k g Wx c)) (ha : PA X [e] (tEs k g Wx (c1 :: cs))) (h0 : noSuper o = true) (hst : [e].all noStar = true) (hl : (apos.endLine == pos.line) = true) :
    PE X (.Call (.Attribute o "pop" apos) [e] [] pos) (tE k g Wx (.bm .pop1 c (c1 :: cs))) := e_bmM cx PySem.F.plainAttrs_dict PySem.F.slot_dict_pop PySem.F.type_dict_pop mt_pop1 (isDic (by simp) cx.K cx.w) ho ha h0 hst (by decide : 1 < 20) hl
theorem e_count {o e : Expr} {c c1 : C} {cs : List C} {apos pos : Pos} (cx : CxO X k gl g lv fA se) (ho : PE X o (tE k g Wx c)) (ha : PA X [e] (tEs k g Wx (c1 :: cs))) (h0 : noSuper o = true) (hst : [e].all noStar = true) (hl : (apos.endLine == pos.line) = true) :
    PE X (.Call (.Attribute o "count" apos) [e] [] pos) (tE k g Wx (.bm .count c (c1 :: cs))) := e_bmM cx PySem.F.plainAttrs_list PySem.F.slot_list_count PySem.F.type_list_count mt_count (isLst (by simp)) ho ha h0 hst (by decide : 1 < 20) hl
/-! ### sets -/
theorem e_setOf {y : Str} {z : Expr} {c : C} {py pos : Pos} (cx : CxO X k gl g lv fA se) (go : GOk X gl y .blt) (hy : y = "set") (hz : PE X z (tE k g Wx c)) (hs : noStar z = true) : PE X (.Call (.Name y py) [z] [] pos) (tCB (rSetI X.K X.w) (tCons (tE k g Wx c) tNil)) := by
  have hm := cx.fx.gbl y go.lk
  subst hy
  exact pe_callTy (cr_setI cx.calm) go.gi hm (by decide +kernel) (pa_cons hz pa_nil (star_of hs)) go.nm go.db (star_of hs) rfl
theorem set_read {c : C} {p : Prim} (hp : p = .sortedSet ∨ p = .lenSet) {σ : L2.St} {H : Hp} {Q : VK} (w : tE k g Wx (.prim p [c]) σ H Q) : tE k g Wx c σ H fun x H1 => ∃ ι h l xs is, R k ι h H1 ∧ x = .ref (ι l) ∧ h[l]? = some (.lst xs) ∧ intsOf xs = some is ∧
    ((p = .sortedSet ∧ is.length < 64 ∧ WPV k (.ok (.loc h.length) (h ++ [.lst ((sortI (dedI is)).map .int)])) ι h H1 (relW k) Q) ∨ (p = .lenSet ∧ is.length < 1000 ∧ WPV k (.ok (.int (dedI is).length) h) ι h H1 (relW k) Q)) := by
  obtain ⟨ι, as, h, rs, r, w⟩ := w
  dsimp only at w
  rw [evalE, evalEs, Res.bind_assoc] at w
  refine (nxt (fun _ _ _ => True) kpT rs r trivial w).imp fun x H1 ⟨ι, h, wx, rs, r, _, rx, w⟩ => ?_
  rw [evalEs] at w
  have w : WPE k Wx σ (primW g p [wx] h) ι h H1 (relW k) Q := w
  have w := WPV.of w fun c xs ws h' => primW_nx c xs ws h'
  cases wx with
  | loc l =>
    unfold relW RelW at rx
    obtain ⟨_, rfl⟩ := rx
    rcases hp with rfl | rfl
    · have w : WPV k (match h[l]? with
        | some (.lst xs) => (match intsOf xs with
          | some is => if decide (is.length < 64) then Res.ok (.loc h.length) (h ++ [.lst ((sortI (dedI is)).map .int)]) else .stuck
          | none => .stuck)
        | _ => .stuck) ι h H1 (relW k) Q := w
      split at w
      · rename_i xs e
        split at w
        · rename_i is e2
          split at w
          · rename_i hz
            exact ⟨ι, h, l, xs, is, r, rfl, e, e2, .inl ⟨rfl, of_decide_eq_true hz, w⟩⟩
          · exact w.elim
        · exact w.elim
      · exact w.elim
    · have w : WPV k (match h[l]? with
        | some (.lst xs) => (match intsOf xs with
          | some is => if decide (is.length < 1000) then Res.ok (.int (dedI is).length) h else .stuck
          | none => .stuck)
        | _ => .stuck) ι h H1 (relW k) Q := w
      split at w
      · rename_i xs e
        split at w
        · rename_i is e2
          split at w
          · rename_i hz
            exact ⟨ι, h, l, xs, is, r, rfl, e, e2, .inr ⟨rfl, of_decide_eq_true hz, w⟩⟩
          · exact w.elim
        · exact w.elim
      · exact w.elim
  | _ => rcases hp with rfl | rfl <;> exact w.elim
theorem setO_ne {w : World} {p : Addr} {S : Int → Bool} {n : Nat} : ∀ xs, SetO w p S n ≠ .lst xs := fun xs z => by
  have z : HO.ext _ = HO.lst xs := z
  cases z
theorem strict_eq {a b : List Int} (ha : a.Pairwise (· < ·)) (hb : b.Pairwise (· < ·)) (h : ∀ k, k ∈ a ↔ k ∈ b) : a = b := by
  have na : a.Nodup := ha.imp fun h => Int.ne_of_lt h
  have nb : b.Nodup := hb.imp fun h => Int.ne_of_lt h
  exact sorted_eq ((List.perm_ext_iff_of_nodup na nb).mpr h) (ha.imp fun h => Int.le_of_lt h) (hb.imp fun h => Int.le_of_lt h)
theorem sort_strict {l : List Int} (h : l.Nodup) : (sortI l).Pairwise (· < ·) := by
  have h1 := sortI_sorted l
  have h2 : (sortI l).Nodup := (sortI_perm l).nodup_iff.mpr h
  exact (h1.and h2).imp fun z => by omega
theorem e_sortedSet {x y : Str} {z : Expr} {c : C} {px py pos pos2 : Pos} (cx : CxO X k gl g lv fA se) (gx : GOk X gl x .blt) (hx : x = "sorted") (gy : GOk X gl y .blt) (hy : y = "set") (hz : PE X z (tE k g Wx c)) (hs : noStar z = true) :
    PE X (.Call (.Name x px) [.Call (.Name y py) [z] [] pos] [] pos2) (tE k g Wx (.prim .sortedSet [c])) := by
  have hm := cx.fx.gbl x gx.lk
  subst hx
  have h1 := e_setOf (py := py) (pos := pos) cx gy hy hz hs
  refine PE.of (pe_callB (cr_sortedSet cx.calm) gx.gi hm (by decide +kernel) (pa_cons h1 pa_nil rfl) gx.nm gx.db rfl rfl) fun σ H Q w => ?_
  refine (set_read (.inl rfl) w).imp fun v H1 ⟨ι, h, l, xs, is, r, ev, e1, e2, q⟩ => ?_
  rcases q with ⟨_, hz, w⟩ | ⟨z, _⟩
  · subst ev
    obtain ⟨vs, hv, rv⟩ := r.lst e1
    have e3 := ints_rel rv e2
    subst e3
    refine ⟨_, is, rfl, .inl (.of hv), by omega, fun p hp => ?_⟩
    refine ⟨p, _, _, rfl, upd_same, ?_, fun ns q h1 h2 h3 hq => ?_⟩
    · exact Nat.lt_of_le_of_lt (by
        have : ∀ l : List Int, (dedI l).length ≤ l.length := fun l => by
          induction l with
          | nil => exact Nat.le_refl _
          | cons a l ih =>
            unfold dedI
            split
            · exact Nat.le_succ_of_le ih
            · exact Nat.succ_le_succ ih
        exact this is) hz
    · have e4 : ns = sortI (dedI is) := strict_eq h1 (sort_strict nodup_dedI) fun k => by
        rw [h2 k, (sortI_perm _).mem_iff, mem_dedI]
        simp
      subst e4
      have po := Post.side (o := SetO X.w p (fun j => decide (j ∈ is)) (dedI is).length) r hp
      have po2 := Post.alloc (o := .lst ((sortI (dedI is)).map .int)) (ho := .lst ((sortI (dedI is)).map V.int)) po.rel hq fun ι' n' H' kp e => ⟨_, e, relWs_ints _⟩
      exact w _ _ _ (po.trans r po2) (by
        show RelW k _ _ _ (.loc h.length) _
        unfold RelW
        exact ⟨by simp, by rw [snoc_eq]⟩)
  · cases z
/-! ### len of an own object -/
theorem len_own {K : PySem.W.Frag} {prog : Program} {w : World} {A : Around} {E : Value → Shared → Prop} {s : Shared} {x C f : Addr} {ox : Obj} {od : Option Obj} {Q : Value → Shared → Prop} (X0 : K.In s.heap) (I : PySem.W.InstAt s.heap x ox C od)
    (hs : PySem.W.findIn K (.ref C) "__len__" = some (some (.ref f))) (hf : PySem.W.isFn K (.ref f) = true) (h : wpAny (model prog w) A.in1 (call (.ref f) [.ref x]) (PySem.W.LenBack Q) E s) : wpAny (model prog w) A (call (.builtin "len") [.ref x]) Q E s := by
  refine PySem.Calls.call_function_entry PySem.kind_len PySem.plain_len PySem.entry_len (PySem.args_len1 _) ?_
  unfold Builtin.«len»
  refine wpAny_bind (m := oneArg "len" _) (wpAny_pure ?_)
  refine wpAny_bind (m := callSpecial? (.ref x) (Str.ofString "__len__")) (PySem.W.special_fn X0 I hs (beq_iff_eq.mp hf) (wpAny_mono h (fun r s' hr => ?_) fun _ _ y => y))
  cases r <;> first | exact hr.elim | skip
  rename_i n u
  obtain ⟨⟨h0, h1⟩, hq⟩ := hr
  refine wpAny_bind (wpAny_holding (wpAny_pure ?_))
  refine wpAny_bind (wpAny_letGo ?_)
  show wpAny _ _ (if n < 0 then _ else _) _ _ _
  rw [if_neg (by omega)]
  show wpAny _ _ (if n ≥ 2 ^ 63 then _ else _) _ _ _
  rw [if_neg (by omega)]
  exact wpAny_bind (wpAny_mkInt (wpAny_pure ⟨_, rfl, hq⟩))
def rLenOwn (k : Cst) (g : Ev) : List V → Hp → VK → Prop := fun xs H Q => ∃ ι h l, R k ι h H ∧ RelW k ι h.length H (.loc l) (.ref (ι l)) ∧ xs = [.ref (ι l)] ∧ WPV k (primW g .lenOwn [.loc l] h) ι h H (relW k) Q
theorem cr_lenOwn (cx : CxO X k gl g lv fA se) : CallR X (.builtin "len") (rLenOwn k g) := by
  intro pins s σ H xs us Q I rx ⟨ι, h, l, r, rw1, ex, w⟩
  subst ex
  rw [Vals.ref1 rx]
  have w : WPV k (match h[l]? with
    | some (.ins c _) => (match g.gc.clss.lookup c with
      | some cl => (match cl.meths.lookup ("__len__" : Str) with
        | some f => lenR (g.cf f [.loc l] h)
        | none => .stuck)
      | none => .stuck)
    | _ => .stuck) ι h H (relW k) Q := w
  split at w
  · rename_i c0 fs e1
    split at w
    · rename_i cl hc
      split at w
      · rename_i f hf
        obtain ⟨dx, vs, e2, e3⟩ := r.ins e1
        have CS := cx.fx.cl c0 cl hc
        have M : Meth X.K (k.cA c0) "__len__" (fA f) := by rw [cx.K]; exact CS.ms _ f hf
        obtain ⟨d, hd⟩ := cx.fx.met c0 cl _ f hc hf
        obtain ⟨fd, _, F, hb, hkw⟩ := (cx.fx.fn f d hd).fn
        have F' : FnG X.prog X.w X.K X.mg X.base (L2.CX X.prog X.w) lv (fA f) fd d.ps (spA k g.cf d.ps.length f) := by rw [cx.K]; exact F
        have hb' : Binds X.K fd d.ps [] := by rw [cx.K]; exact hb
        obtain ⟨mA, ob, _, _, _, _⟩ := ins_get I.hok e2
        obtain ⟨od, look, _⟩ := ob.look
        by_cases hn : ([W.loc l]).length = d.ps.length
        · refine len_own I.kIn look M.at_ M.fn (wpAny_call ?_)
          refine codeAny_mono (F'.go (A := X.A.in1) (outer := X.stack) (args := ⟨[.ref (ι l)], []⟩) (us := [.ref (ι l)]) (vs := [.ref (ι l)]) (Q := fun v H' => ∃ i : Int, v = .int i ∧ 0 ≤ i ∧ i < 9223372036854775808 ∧ Q (.int i) H') (E := fun _ _ _ => False) ((cx.room.mono (by omega)).in1) cx.quiet I.env0.in1 (hb' _ [.ref (ι l)] I.kIn (by rw [List.append_nil]; exact hn)) (.cons rfl .nil) ?_) ?_
          · refine ⟨hn, ι, h, [.loc l], r, RelWs.cons rw1 .nil, ?_⟩
            revert w
            cases g.cf f [.loc l] h with
            | stuck => exact fun z => z.elim
            | exc => exact fun z => z.elim
            | ok a h' =>
              intro z ι' H' b p e
              cases a <;> first | exact z.elim | skip
              rename_i i
              have z : WPV k (if decide (0 ≤ i) && decide (i < 9223372036854775808) then .ok (.int i) h' else .stuck) ι h H (relW k) Q := z
              split at z
              · rename_i hz
                rw [Bool.and_eq_true, decide_eq_true_eq, decide_eq_true_eq] at hz
                have q := z ι' H' b p e
                unfold relW RelW at e
                subst e
                exact ⟨i, rfl, hz.1, hz.2, q⟩
              · exact z.elim
          · rintro (er | fl) s' back
            · exact (XE.of_call (W := fun _ _ _ _ => False) (I.tok s.toks) (fun _ _ _ z => z) back).elim fun a z => by
                obtain ⟨_, _, _, _, _, _, _, _, _, _, _, _, _, _, _, z⟩ := z
                exact z.elim
            · match fl, back with
              | .ret u, back =>
                obtain ⟨v, H', I3, r3, i, ev, q1, q2, q3⟩ := I.after back
                subst ev
                obtain ⟨t, rfl⟩ : ∃ t, u = Value.int i t := r3
                exact ⟨⟨q1, q2⟩, .int i, H', I3.tok _, ⟨_, rfl⟩, q3⟩
              | .next, back => exact back.elim
              | .brk, back => exact back.elim
              | .cont, back => exact back.elim
        · rw [cx.fx.len f [.loc l] h d hd hn] at w
          exact w.elim
      · exact w.elim
    · exact w.elim
  · exact w.elim
theorem e_lenOwn {x : Str} {z : Expr} {c : C} {px pos : Pos} (cx : CxO X k gl g lv fA se) (gx : GOk X gl x .blt) (hx : x = "len") (hz : PE X z (tE k g Wx c)) (hs : noStar z = true) :
    PE X (.Call (.Name x px) [z] [] pos) (tE k g Wx (.prim .lenOwn [c])) := by
  have hm := cx.fx.gbl x gx.lk
  subst hx
  refine PE.of (pe_callB (cr_lenOwn cx) gx.gi hm (by decide +kernel) (pa_cons hz pa_nil (star_of hs)) gx.nm gx.db (star_of hs) rfl) fun σ H Q w => ?_
  obtain ⟨ι, as, h, rs, r, w⟩ := w
  dsimp only at w
  rw [evalE, evalEs, Res.bind_assoc] at w
  refine (nxt (fun _ _ _ => True) kpT rs r trivial w).imp fun x H1 ⟨ι, h, wx, rs, r, _, rx, w⟩ => ?_
  rw [evalEs] at w
  have w : WPE k Wx σ (primW g .lenOwn [wx] h) ι h H1 (relW k) Q := w
  have w := WPV.of w fun c xs ws h' => primW_nx c xs ws h'
  cases wx with
  | loc l =>
    have rx2 := rx
    unfold relW RelW at rx
    obtain ⟨_, rfl⟩ := rx
    exact ⟨ι, h, l, r, rx2, rfl, w⟩
  | _ => exact w.elim
theorem e_lenSet {x y : Str} {z : Expr} {c : C} {px py pos pos2 : Pos} (cx : CxO X k gl g lv fA se) (gx : GOk X gl x .blt) (hx : x = "len") (gy : GOk X gl y .blt) (hy : y = "set") (hz : PE X z (tE k g Wx c)) (hs : noStar z = true) :
    PE X (.Call (.Name x px) [.Call (.Name y py) [z] [] pos] [] pos2) (tE k g Wx (.prim .lenSet [c])) := by
  have hm := cx.fx.gbl x gx.lk
  subst hx
  have h1 := e_setOf (py := py) (pos := pos) cx gy hy hz hs
  refine PE.of (pe_callB cr_lenSet gx.gi hm (by decide +kernel) (pa_cons h1 pa_nil rfl) gx.nm gx.db rfl rfl) fun σ H Q w => ?_
  refine (set_read (.inr rfl) w).imp fun v H1 ⟨ι, h, l, xs, is, r, ev, e1, e2, q⟩ => ?_
  rcases q with ⟨z, _⟩ | ⟨_, hz, w⟩
  · cases z
  · subst ev
    obtain ⟨vs, hv, rv⟩ := r.lst e1
    have e3 := ints_rel rv e2
    subst e3
    refine ⟨_, is, rfl, .inl (.of hv), hz, fun p hp => ?_⟩
    refine ⟨p, _, _, rfl, upd_same, ?_, ?_⟩
    · exact Nat.lt_of_le_of_lt (by
        have : ∀ l : List Int, (dedI l).length ≤ l.length := fun l => by
          induction l with
          | nil => exact Nat.le_refl _
          | cons a l ih =>
            unfold dedI
            split
            · exact Nat.le_succ_of_le ih
            · exact Nat.succ_le_succ ih
        exact this is) hz
    · exact w _ _ _ (Post.side (o := SetO X.w p (fun j => decide (j ∈ is)) (dedI is).length) r hp) (by
        show RelW k _ _ _ (.int _) _
        unfold RelW
        rfl)
/-! ### index -/
theorem findD_spec {d : PyData} : ∀ {ds : List PyData} {n j : Nat}, findD d n ds = some j → ∃ i z, j = n + i ∧ ds[i]? = some z ∧ PyData.eqv z d = true ∧ ∀ (m : Nat) (z' : PyData), m < i → ds[m]? = some z' → PyData.eqv z' d = false
  | [], n, j, e => by cases e
  | x :: ds, n, j, e => by
    unfold findD at e
    split at e
    · rename_i hx
      cases e
      exact ⟨0, x, rfl, rfl, hx, fun m _ hm => absurd hm (Nat.not_lt_zero m)⟩
    · rename_i hx
      obtain ⟨i, z, rfl, e2, e3, e4⟩ := findD_spec e
      refine ⟨i + 1, z, by omega, by simpa using e2, e3, fun m z' hm hz => ?_⟩
      cases m with
      | zero =>
        simp at hz
        subst hz
        simpa using hx
      | succ m => exact e4 m z' (by omega) (by simpa using hz)
section
variable {ι : Nat → Addr} {h : AH} {H : Hp} {Q : VK} {a : W} {ws : List W}
theorem index_inv (w : WPV k (bmW .index a ws h) ι h H (relW k) Q) : ∃ l xs w1 ds d j, a = .loc l ∧ ws = [w1] ∧ h[l]? = some (.lst xs) ∧ toDfs xs = some ds ∧ toDf w1 = some d ∧ shp (.list ds) = true ∧ shp d = true ∧ findD d 0 ds = some j ∧ WPV k (.ok (.int j) h) ι h H (relW k) Q := by
  cases a with
  | loc l =>
    rcases ws with _ | ⟨w1, _ | ⟨w2, ws⟩⟩
    · exact w.elim
    · have w : WPV k (match h[l]? with
        | some (.lst xs) => (match toDfs xs, toDf w1 with
          | some ds, some d => if shp (.list ds) && shp d then (match findD d 0 ds with
            | some j => Res.ok (.int j) h
            | none => .stuck) else .stuck
          | _, _ => .stuck)
        | _ => .stuck) ι h H (relW k) Q := w
      split at w
      · rename_i xs e
        split at w
        · rename_i ds d e1 e2
          split at w
          · rename_i hs
            rw [Bool.and_eq_true] at hs
            split at w
            · rename_i j ej
              exact ⟨l, xs, w1, ds, d, j, rfl, rfl, e, e1, e2, hs.1, hs.2, ej, w⟩
            · exact w.elim
          · exact w.elim
        · exact w.elim
      · exact w.elim
    · exact w.elim
  | _ => exact w.elim
end
theorem mt_ix (hK : X.K = k.K) (hu : X.A.units + 65 < cLine) : MtR X "list.index" (rBm k .index) := by
  intro pins s σ H x xs v us Q I rx rxs hh
  obtain ⟨ι, h, a, ws, r, ra, rb, w⟩ := hh
  obtain ⟨l, ys, w1, ds, d, j, rfl, rfl, e, e1, e2, s1, s2, ej, w⟩ := index_inv w
  unfold RelW at ra
  obtain ⟨_, rfl⟩ := ra
  obtain ⟨y, rfl, r1⟩ := rb.one
  obtain ⟨vs, hv, rv⟩ := r.lst e
  obtain ⟨i, z, rfl, e3, e4, e5⟩ := findD_spec ej
  rw [Nat.zero_add] at w
  exact mt_indexD hu pins s σ H _ _ v us Q I rx rxs ⟨ι l, y, d, ds, i, z, rfl, rfl, by rw [hK]; exact .lst (.of hv) (dps_of r ys rv e1), by rw [hK]; exact dp_of r _ r1 e2, s1, s2, e3, e4, e5, WPV.same r w (by unfold RelW; rfl)⟩
theorem e_index {o e : Expr} {c c1 : C} {cs : List C} {apos pos : Pos} (cx : CxO X k gl g lv fA se) (ho : PE X o (tE k g Wx c)) (ha : PA X [e] (tEs k g Wx (c1 :: cs))) (h0 : noSuper o = true) (hst : [e].all noStar = true) (hl : (apos.endLine == pos.line) = true) :
    PE X (.Call (.Attribute o "index" apos) [e] [] pos) (tE k g Wx (.bm .index c (c1 :: cs))) := e_bmM cx PySem.F.plainAttrs_list PySem.F.slot_list_index PySem.F.type_list_index (mt_ix cx.K cx.un) (isLst (by simp)) ho ha h0 hst (by decide : 1 < 20) hl
/-! ### tuple(range(..)) -/
theorem relWs_rng {n : Nat} {ι : Nat → Addr} {H : Hp} {a b : Int} : RelWs k ι n H (rngW a b) (rgV a b) := by
  have e1 : rngW a b = ((List.range (b - a).toNat).map fun i => a + ((i : Nat) : Int)).map .int := by
    unfold rngW
    rw [List.map_map]
    rfl
  have e2 : rgV a b = ((List.range (b - a).toNat).map fun i => a + ((i : Nat) : Int)).map V.int := by
    unfold rgV
    rw [List.map_map]
    rfl
  rw [e1, e2]
  exact relWs_ints _
theorem rngP_read {p : Prim} {c : C} (hp : p = .tuple ∨ p = .list) {σ : L2.St} {H : Hp} {Q : VK} (w : tE k g Wx (.primr p [c]) σ H Q) : tE k g Wx c σ H fun x H1 => ∃ n, x = .int n ∧ RgOk 0 n ∧ ((p = .tuple ∧ ∀ q, H1 q = none → Q (.ref q) (L2.upd H1 q (.tup (rgV 0 n)))) ∨ (p = .list ∧ ∀ q, H1 q = none → Q (.ref q) (L2.upd H1 q (.lst (rgV 0 n))))) := by
  obtain ⟨ι, as, h, rs, r, w⟩ := w
  dsimp only at w
  rw [evalE, evalEs, Res.bind_assoc] at w
  refine (nxt (fun _ _ _ => True) kpT rs r trivial w).imp fun x H1 ⟨ι, h, wx, rs, r, _, rx, w⟩ => ?_
  rw [evalEs] at w
  have w : WPE k Wx σ (rngP p [wx] h) ι h H1 (relW k) Q := w
  cases wx with
  | int j =>
    have rx : x = .int j := by
      unfold relW RelW at rx
      exact rx
    have e : rngR [.int j] h = if rngOk j then .ok ⟨rngW 0 j, []⟩ h else .stuck := rfl
    by_cases ok : rngOk j = true
    · rw [if_pos ok] at e
      have ok2 := ok
      unfold rngOk at ok2
      simp only [Bool.and_eq_true, decide_eq_true_eq] at ok2
      refine ⟨j, rx, ⟨by omega, by omega, by omega, by omega, by omega⟩, ?_⟩
      rcases hp with rfl | rfl
      · left
        unfold rngP at w
        rw [e] at w
        exact ⟨rfl, WPV.tup r relWs_rng (WPV.of w (fun _ _ _ _ z => by cases z))⟩
      · right
        unfold rngP at w
        rw [e] at w
        exact ⟨rfl, WPV.lst r relWs_rng (WPV.of w (fun _ _ _ _ z => by cases z))⟩
    · rw [if_neg ok] at e
      unfold rngP at w
      rw [e] at w
      rcases hp with rfl | rfl <;> exact w.elim
  | _ => rcases hp with rfl | rfl <;> exact w.elim
theorem e_primr {x y : Str} {z : Expr} {c : C} {p : Prim} {px py pos pos2 : Pos} (cx : CxO X k gl g lv fA se) (hp : p = .tuple ∨ p = .list) (gx : GOk X gl x .blt) (hx : x = primName p) (gy : GOk X gl y .blt) (hy : y = "range") (hz : PE X z (tE k g Wx c)) (hs : noStar z = true) :
    PE X (.Call (.Name x px) [.Call (.Name y py) [z] [] pos] [] pos2) (tE k g Wx (.primr p [c])) := by
  have hm := cx.fx.gbl x gx.lk
  have hm2 := cx.fx.gbl y gy.lk
  subst hy
  have h1 := prg_1 (p := py) (pos := pos) gy.gi hm2 hz (star_of hs)
  rcases hp with rfl | rfl
  · have hx : x = "tuple" := hx
    subst hx
    refine PE.of (pe_tupRg cx.calm gx.gi hm h1) fun σ H Q w => ?_
    refine (rngP_read (.inl rfl) w).imp fun v H1 ⟨n, e, ok, q⟩ => ?_
    rcases q with ⟨_, q⟩ | ⟨z, _⟩
    · exact ⟨n, e, ok, q⟩
    · cases z
  · have hx : x = "list" := hx
    subst hx
    refine PE.of (pe_listRg cx.calm gx.gi hm h1) fun σ H Q w => ?_
    refine (rngP_read (.inr rfl) w).imp fun v H1 ⟨n, e, ok, q⟩ => ?_
    rcases q with ⟨z, _⟩ | ⟨_, q⟩
    · cases z
    · exact ⟨n, e, ok, q⟩
/-! ### {}, {a: b} -/
theorem e_dict0 {pos : Pos} : PE X (.Dict [] [] pos) (tE k g Wx (.dict [])) := by
  refine PE.of pe_dnewK fun σ H Q w p hp => ?_
  obtain ⟨ι, as, h, rs, r, w⟩ := w
  dsimp only at w
  rw [evalE, evalEs] at w
  have w : WPE k Wx σ (.ok (.loc h.length) (h ++ [.dic []])) ι h H (relW k) Q := w
  have po := Post.alloc (o := .dic []) (ho := .dK []) r hp fun ι' n' H' kp e => .inl ⟨[], e, rfl⟩
  exact w _ _ _ po (by
    show RelW k _ _ _ (.loc h.length) _
    unfold RelW
    exact ⟨by simp, by rw [snoc_eq]⟩)
theorem e_dict1 {e1 e2 : Expr} {c1 c2 : C} {pos : Pos} (cx : CxO X k gl g lv fA se) (h1 : PE X e1 (tE k g Wx c1)) (h2 : PE X e2 (tE k g Wx c2)) : PE X (.Dict [some e1] [e2] pos) (tE k g Wx (.dict [c1, c2])) := by
  refine ⟨fun pins s σ H Q I w => ?_⟩
  obtain ⟨ι, as, h, rs, r, w⟩ := w
  dsimp only at w
  rw [evalE, evalEs, Res.bind_assoc] at w
  have hn := I.hok.fresh (Nat.le_refl s.heap.objs.size)
  have I1 := I.laid (a := s.heap.objs.size) (o := .dK []) (h' := s.heap.push { cls := .type "dict", data := .dict #[] }) (t' := s.toks) (fun _ _ q => Heap.get?_push_of_some _ q) (Nat.le_refl _) (dk_empty s.heap I.big)
  have po := Post.alloc (o := .dic []) (ho := .dK []) r hn fun ι' n' H' kp e => .inl ⟨[], e, rfl⟩
  have w := WPE.move r po w
  have rs := rs.keep (po.keep r)
  have r := po.rel
  have kp : KeepP k fun ι' n H => h.length < n ∧ ι' h.length = s.heap.objs.size := fun _ _ _ _ _ _ kp e => ⟨Nat.lt_of_lt_of_le e.1 kp.len, by rw [kp.old _ e.1]; exact e.2⟩
  refine wpAny_Dict_any rfl rfl (by simp) (by simp) ?_
  refine pairTrees_cons_walk (thn (h1.run pins _ σ _ _ I1 (nxt (rel := relW k) (fun ι' n H => h.length < n ∧ ι' h.length = s.heap.objs.size) kp rs r ⟨by simp, by rw [snoc_eq]⟩ w)) fun u s1 ⟨x, H1, I1, rx, ι1, g1, w1, rs, r, p1, rw1, w⟩ => ?_)
  rw [evalEs, Res.bind_assoc, Res.bind_assoc] at w
  refine thn (h2.run pins _ σ _ _ I1 (nxt (rel := relW k) (fun ι' n H => (h.length < n ∧ ι' h.length = s.heap.objs.size) ∧ RelW k ι' n H w1 x) (kpAnd kp kpW) rs r ⟨p1, rw1⟩ w)) fun uz s2 ⟨y, H2, I2, ry, ι2, g2, w2, rs, r, ⟨p2, rw1⟩, rw2, w⟩ => pairTrees_nil_walk ?_
  rw [evalEs] at w
  have w : WPE k Wx σ (if (decide (g2[h.length]? = some (.dic [])) && (keyS w1 || keyT w1)) = true then .ok (.loc h.length) (g2.set h.length (.dic [(w1, w2)])) else .stuck) ι2 g2 H2 (relW k) Q := w
  split at w
  · rename_i ok
    rw [Bool.and_eq_true, decide_eq_true_eq] at ok
    rw [← p2.2]
    refine dic_store1 cx.un I2 cx.K cx.w r ok.1 ok.2 rw1 rx rw2 ry fun ho s' I' p => ⟨.ref (ι2 h.length), _, I', rfl, ?_⟩
    exact w ι2 _ _ p (by
      show RelW k _ _ _ (.loc h.length) _
      unfold RelW
      exact ⟨by rw [List.length_set]; exact p2.1, rfl⟩)
  · exact w.elim
end
end AM
/-! enumerate over a tuple; a walk over a list or a tuple. -/
namespace AM
open PySem PySem.Spec PyProof.Rows L2
/-- the tuple at a, each item in a new pair -/
def IteT (K : PySem.W.Frag) (a : Addr) : L2.It :=
  ⟨fun i H => ∃ (xs : List V) (x : V), SqT K H a xs ∧ xs[i]? = some x, fun i H v H' => ∃ T x, v = .ref T ∧ H T = none ∧ H' = L2.upd H T (.tup [.int (i : Nat), x]) ∧ ∀ xs, SqT K H a xs → xs[i]? = some x, fun i H => ∃ xs : List V, SqT K H a xs ∧ xs.length = i⟩
theorem tup_ne {h : Heap} {t it : Addr} {items : Array Value} {i : Nat} (a : h.IsTuple t items) (b : h.IsTupleIter it t i) : t ≠ it := by
  rintro rfl
  obtain ⟨o, e, c, _⟩ := a
  obtain ⟨o', e', c', _⟩ := b
  rw [e] at e'
  cases e'
  rw [c] at c'
  exact absurd (Value.type.inj c') (by decide)
theorem turn_enumT {P : Program} {w : World} {K : PySem.W.Frag} {elts : List Expr} {kk : Nat} {tpos : Pos} (a e it : Addr) :
    Turn P w K (.Tuple elts kk tpos) (IteT K a) [e, it] e (fun i h => (∃ old, IsEnum h e it ((i : Nat) : Int) old) ∧ h.IsTupleIter it a i ∧ e ≠ it ∧ e ≠ a) where
  mem := by simp
  obj := fun i h st b hb => by
    obtain ⟨⟨old, he⟩, ⟨o, ho, hc, hd⟩, _⟩ := st
    have e' : b = e ∨ b = it := by simpa using hb
    rcases e' with z | z
    · rw [z]; exact ⟨_, he, fun v q => nomatch q⟩
    · rw [z]; exact ⟨o, ho, fun v q => by rw [hd] at q; cases q⟩
  keep := fun i h h' st k => let ⟨⟨old, he⟩, hi, hne⟩ := st; ⟨⟨old, k e (by simp) _ he⟩, hi.at fun o q => k it (by simp) o q, hne⟩
  item := by
    intro X hP hw hK hc i pins s σ H E I hf st hg
    subst hP hw hK
    obtain ⟨⟨old, he⟩, hit, hne, hea⟩ := st
    obtain ⟨xs, x, hq, hx⟩ := hg
    obtain ⟨its, rv, p, hz⟩ := I.tuple hq
    obtain ⟨u, hu, ru⟩ := rv.get hx
    have p : s.heap.IsTuple a its.toArray := p
    have hel : e < s.heap.objs.size := Heap.lt_size he
    have hil : it < s.heap.objs.size := by obtain ⟨_, q, _⟩ := hit; exact Heap.lt_size q
    have hlt : i < its.toArray.size := by
      rw [List.size_toArray]
      exact (List.getElem?_eq_some_iff.mp hu).1
    have D := PySem.Draws.tuple (prog := X.prog) (w := X.w) (A := X.A.in1) (I.ok.hd hc) it a (tup_ne p hit) its.toArray
    refine wpAny_pyNext_enum_itemD D he ⟨hit, p⟩ hlt hne (by simp [hne, hea]) fun u' h' tk hu' ho hit' hT hsz hk => ?_
    have eu : u' = u := by
      have hu' : its.toArray[i]? = some u' := hu'
      rw [List.getElem?_toArray, hu] at hu'
      exact (Option.some.inj hu').symm
    subst eu
    refine ⟨_, rfl, wpAny_letOwnedTupleGo_enum (s := { s with heap := h', toks := tk + 1 }) ho fun h'' he' sb => ?_⟩
    have hT2 : h''.get? s.heap.objs.size = some { cls := .type "tuple", data := .seq #[.int i tk, u'] } := (sb.2 _ (Nat.ne_of_gt hel)).trans hT
    have new : ObjOk X.prog X.w (L2.upd H s.heap.objs.size (.tup [.int (i : Nat), x])) h'' s.heap.objs.size (.tup [.int (i : Nat), x]) :=
      ⟨by show 2 ≤ sizeLine; decide, [.int i tk, u'], .cons ⟨_, rfl⟩ (.cons ru .nil), ⟨_, hT2, rfl, _, rfl⟩⟩
    have I1 : L2.Inv X pins σ (L2.upd H s.heap.objs.size (.tup [.int (i : Nat), x])) { s with heap := h'', toks := tk + 1 } :=
      I.turnedNew (ch := [e, it]) (fun b ob hb q => (sb.2 b (fun z => hb (by simp [z]))).trans (hk b ob (fun z => hb (by simp [z])) (fun z => hb (by simp [z])) q)) hf (Nat.le_refl _) new
    refine ⟨.ref s.heap.objs.size, _, I1, rfl, ⟨_, x, rfl, I.hok.fresh (Nat.le_refl _), rfl, fun ys hy => by rw [I.tuple_inj hy hq]; exact hx⟩, ⟨⟨u', ?_⟩, hit'.1.at fun o q => (sb.2 it (Ne.symm hne)).trans q, hne, hea⟩, fun b hb => ?_⟩
    · have e1 : ((i + 1 : Nat) : Int) = (i : Int) + 1 := by omega
      rw [e1]; exact he'
    · have hb' : b < s.heap.objs.size := by
        have e' : b = e ∨ b = it := by simpa using hb
        rcases e' with z | z
        · rw [z]; exact hel
        · rw [z]; exact hil
      rw [upd_ne (Nat.ne_of_lt hb')]
      exact (hf b hb).1
  done := by
    intro X hP hw hK hc i pins s σ H E I hf st hg
    subst hP hw hK
    obtain ⟨⟨old, he⟩, hit, hne, hea⟩ := st
    obtain ⟨xs, hq, hx⟩ := hg
    obtain ⟨its, rv, p, hz⟩ := I.tuple hq
    have p : s.heap.IsTuple a its.toArray := p
    obtain ⟨f0, f1, f2, f3, f4, f5⟩ := hf it (by simp)
    have hl := rv.length
    have D := PySem.Draws.tuple (prog := X.prog) (w := X.w) (A := X.A.in1) (I.ok.hd hc) it a (tup_ne p hit) its.toArray
    have e1 : its.toArray.size = i := by rw [List.size_toArray]; omega
    exact wpAny_pyNext_enum_endD D he ⟨by rw [e1]; exact hit, p⟩ fun h' eb => ⟨rfl, I.turned (t' := s.toks) (fun b o hb q => eb b o hb q) f0 f1 f3 f4 f5⟩
  self := fun A i s Q E st h => let ⟨⟨_, he⟩, _⟩ := st; wpAny_pyIter_enum he h
set_option maxHeartbeats 1000000 in
theorem meets_enum1 {v : Value} {o : Obj} {H : Heap → Prop} (B : PySem.Begins v o H) :
    Meets (Builtin.«enumerate.__new__» ⟨[.type "enumerate", v], []⟩) (fun _ R s => H s.heap ∧
      R (.ok (.ret (.ref (s.heap.push o).objs.size))) { s with heap := (s.heap.push o).push { cls := .type "enumerate", data := .fields #[.none, .bool false, .ref s.heap.objs.size, rawInt 0, .none, .none] } }) :=
  .of_wp fun prog w A R s h => by
    obtain ⟨hp, g, d, tk, os⟩ := s; obtain ⟨h1, h⟩ := h
    have hsub := sub_enumerate
    have q1 : ∀ {A' : Around} {E : Value → Shared → Prop} {Q : Value → Shared → Prop}, Q (.ref hp.objs.size) ⟨hp.push o, g, d, tk, os⟩ → wpAny (model prog w) A' (pyIter v) Q E ⟨hp, g, d, tk, os⟩ :=
      fun q => B.iter prog w _ _ ⟨hp, g, d, tk, os⟩ _ h1 q
    wp_walk using q1
    refine wpAny_stack_any fun st => wpAny_pure ?_
    split
    · rename_i c _ _ _ _ _
      cases (c == Value.type "enumerate")
      · wp_walk using q1
        exact ⟨_, rfl, h⟩
      · wp_walk using q1
        exact ⟨_, rfl, h⟩
    · wp_walk using q1
      exact ⟨_, rfl, h⟩
/-- enumerate(v): its two new cells -/
theorem call_enum1 {prog : Program} {w : World} {A : Around} {E : Value → Shared → Prop} {s : Shared} {v : Value} {o : Obj} {H : Heap → Prop} {Q : Value → Shared → Prop} (B : PySem.Begins v o H) (h1 : H s.heap)
    (h : ∀ h', IsEnum h' (s.heap.objs.size + 1) s.heap.objs.size 0 .none → h'.get? s.heap.objs.size = some o → h'.objs.size = s.heap.objs.size + 2 →
      (∀ b o, s.heap.get? b = some o → h'.get? b = some o) → Q (.ref (s.heap.objs.size + 1)) { s with heap := h' }) :
    wpAny (model prog w) A (call (.type "enumerate") [v]) Q E s := by
  refine callType_new F.called_enumerate (by decide) (F.typeCall_enumerate_1 _) (F.newCall_enumerate_1 _) (fun obj => F.args_object_init_2 obj _) F.entry_enumerate_new (meets_enum1 B) ⟨h1, ?_⟩
  have hz : (s.heap.push o).objs.size = s.heap.objs.size + 1 := Heap.size_push ..
  show _ ∧ _
  rw [hz]
  have he : IsEnum ((s.heap.push o).push { cls := .type "enumerate", data := .fields #[.none, .bool false, .ref s.heap.objs.size, rawInt 0, .none, .none] }) (s.heap.objs.size + 1) s.heap.objs.size 0 .none := by
    have := Heap.get?_push_size (s.heap.push o) (o := { cls := .type "enumerate", data := .fields #[.none, .bool false, .ref s.heap.objs.size, rawInt 0, .none, .none] }) rfl
    rw [hz] at this; exact this
  refine ⟨⟨_, he, rfl⟩, h _ he (Heap.get?_push_of_some _ (Heap.get?_push_size _ B.free)) (by rw [Heap.size_push, hz]) fun b o x => Heap.get?_push_of_some _ (Heap.get?_push_of_some _ x)⟩
def iEnumA (K : PySem.W.Frag) (ta : TA) : TI := fun σ H R => ta σ H fun vs H1 => ∃ a xs, vs = [.ref a] ∧ ((SqL K H1 a xs ∧ R (Ite K a) H1) ∨ (SqT K H1 a xs ∧ R (IteT K a) H1))
theorem pi_enumA {X : Cx} {e : Expr} {ta : TA} {p pos tpos : Pos} {elts : List Expr} {kk : Nat} (hg : L2.Gl X "enumerate") (hm : X.mg "enumerate" = none) (ha : PA X [e] ta) (hs : starEach [e] X.env = [(false, eval e X.env)]) :
    PI X (.Tuple elts kk tpos) (.Call (.Name "enumerate" p) [e] [] pos) (iEnumA X.K ta) := by
  refine ⟨fun pins s σ H R I h => ?_⟩
  refine Call_ (ld_blt I hg hm boot_enumerate (PyProof.Rows.callWith_type1 (thn (ha.run pos pins s σ H _ I h) fun us s1 ⟨vs, H1, I1, r1, q1⟩ => ?_) hs rfl))
  obtain ⟨a, xs, ex, q⟩ := q1
  subst ex
  cases r1 with
  | cons r rr =>
    cases rr
    cases r
    have fp2 : ∀ b ∈ [s1.heap.objs.size + 1, s1.heap.objs.size], FpOk X pins H1 b := fun b hb => by
      have e' : b = s1.heap.objs.size + 1 ∨ b = s1.heap.objs.size := by simpa using hb
      have hle : s1.heap.objs.size ≤ b := by
        rcases e' with z | z
        · rw [z]; exact Nat.le_add_right _ _
        · rw [z]; exact Nat.le_refl _
      exact I1.fpOk hle (I1.hok.fresh hle)
    rcases q with ⟨hq, q⟩ | ⟨hq, q⟩
    · obtain ⟨its, rv, p', hz⟩ := I1.list hq
      refine call_enumerate_list p'.isList fun h' he hit hsz hk => wpAny_pyIter_enum he ?_
      have I2 : L2.Inv X pins σ H1 { s1 with heap := h' } := I1.kept (t' := s1.toks) hk
      exact ⟨s1.heap.objs.size + 1, [s1.heap.objs.size + 1, s1.heap.objs.size], _, _, H1, rfl, I2, turn_enum a (s1.heap.objs.size + 1) s1.heap.objs.size, ⟨⟨.none, he⟩, hit, Nat.succ_ne_self _⟩, fp2, q⟩
    · obtain ⟨its, rv, p', hz⟩ := I1.tuple hq
      have p' : s1.heap.IsTuple a its.toArray := p'
      have hlt : a < s1.heap.objs.size := by obtain ⟨_, z, _⟩ := p'; exact Heap.lt_size z
      refine call_enum1 (PySem.begins_tuple a its.toArray) p' fun h' he hit hsz hk => wpAny_pyIter_enum he ?_
      have I2 : L2.Inv X pins σ H1 { s1 with heap := h' } := I1.kept (t' := s1.toks) hk
      exact ⟨s1.heap.objs.size + 1, [s1.heap.objs.size + 1, s1.heap.objs.size], _, _, H1, rfl, I2, turn_enumT a (s1.heap.objs.size + 1) s1.heap.objs.size, ⟨⟨.none, he⟩, ⟨_, hit, rfl, rfl⟩, Nat.succ_ne_self _, Nat.ne_of_gt (Nat.lt_succ_of_lt hlt)⟩, fp2, q⟩
/-- over a list or a tuple -/
def iSeq (K : PySem.W.Frag) (tl : TE) : TI := fun σ H R => tl σ H fun x H1 => ∃ a xs, x = .ref a ∧ ((SqL K H1 a xs ∧ R (Itl K a) H1) ∨ (SqT K H1 a xs ∧ R (Itt K a) H1))
theorem pi_seq {X : Cx} {tg l : Expr} {tl : TE} (hl : PE X l tl) : PI X tg l (iSeq X.K tl) := by
  refine ⟨fun pins s σ H R I h => ?_⟩
  refine thn (hl.run pins s σ H _ I h) fun v s1 ⟨x, H1, I1, r1, q1⟩ => ?_
  obtain ⟨a, xs, e, q⟩ := q1
  subst e
  cases r1
  have fp1 : ∀ b ∈ [s1.heap.objs.size], FpOk X pins H1 b := fun b hb => by
    have e : b = s1.heap.objs.size := by simpa using hb
    subst e
    exact I1.fpOk (Nat.le_refl _) (I1.hok.fresh (Nat.le_refl _))
  rcases q with ⟨hq, q⟩ | ⟨hq, q⟩
  · obtain ⟨its, rv, p, hz⟩ := I1.list hq
    refine wpAny_pyIter_list p.isList ?_
    exact ⟨s1.heap.objs.size, [s1.heap.objs.size], _, _, H1, rfl, I1.kept (t' := s1.toks) fun b o e => Heap.get?_push_of_some _ e, turn_list a _, ⟨_, Heap.get?_push_size _ rfl, rfl, rfl⟩, fp1, q⟩
  · obtain ⟨its, rv, p, hz⟩ := I1.tuple hq
    refine wpAny_pyIter_tuple (show s1.heap.IsTuple a its.toArray from p) ?_
    exact ⟨s1.heap.objs.size, [s1.heap.objs.size], _, _, H1, rfl, I1.kept (t' := s1.toks) fun b o e => Heap.get?_push_of_some _ e, turn_tuple a _, ⟨_, Heap.get?_push_size _ rfl, rfl, rfl⟩, fp1, q⟩
end AM
/-! What a loop walks, by the machine. -/
namespace AM
open PySem L2
section
variable {X : Cx} {k : Cst} {gl : Gl} {g : Ev} {lv : Nat} {fA : Nat → Addr} {se : SE} {Wx : WX}
structure Now (k : Cst) (ι0 : Nat → Addr) (n0 : Nat) (H0 : Hp) (src : Src) (ι : Nat → Addr) (h : AH) (H : Hp) : Prop where
  kp : Keep k ι0 n0 H0 ι h.length H
  r : R k ι h H
  held : heldOk src.held h = true
structure ItA (k : Cst) (ι0 : Nat → Addr) (n0 : Nat) (H0 : Hp) (src : Src) (J : L2.It) : Prop where
  go : ∀ ι h H i, Now k ι0 n0 H0 src ι h H → i < src.items.length → J.go i H
  stop : ∀ ι h H, Now k ι0 n0 H0 src ι h H → J.stop src.items.length H
  yld : ∀ ι h H i x H', Now k ι0 n0 H0 src ι h H → i < src.items.length → J.yld i H x H' → ∃ w, src.items[i]? = some w ∧ Post k ι h H ι h H' ∧ RelW k ι h.length H' w x
abbrev relJ (k : Cst) : Rel Src L2.It := fun src ι n H J => ItA k ι n H src J
theorem Keep.refl {ι : Nat → Addr} {n : Nat} {H : Hp} : Keep k ι n H ι n H := ⟨Nat.le_refl _, fun _ _ => rfl, fun _ _ e => e, fun _ _ _ e => e, fun _ _ e => e⟩
/-- a sequence, as it stands while it is held -/
structure SeqA (k : Cst) (ι0 : Nat → Addr) (n0 : Nat) (H0 : Hp) (src : Src) (Sq : Hp → Addr → List V → Prop) (a : Addr) : Prop where
  at_ : ∀ ι h H, Now k ι0 n0 H0 src ι h H → ∃ vs, Sq H a vs ∧ RelWs k ι h.length H src.items vs
theorem held_list {l : Nat} {ws : List W} {h : AH} (e : heldOk [(l, ws)] h = true) : h[l]? = some (.lst ws) := by
  unfold heldOk at e
  simpa using e
theorem over_seq {x : W} {v : V} {src : Src} {ι : Nat → Addr} {h : AH} {H : Hp} (hs : g.sc = k.sc) (r : R k ι h H) (rx : RelW k ι h.length H x v) (e : overW g x h = some src) :
    ∃ a, v = .ref a ∧ Now k ι h.length H src ι h H ∧ ((isTup x = false ∧ SeqA k ι h.length H src (SqL k.K) a) ∨ (isTup x = true ∧ SeqA k ι h.length H src (SqT k.K) a)) := by
  unfold overW at e
  split at e
  · rename_i ws
    cases e
    unfold RelW at rx
    obtain ⟨a, vs, rfl, hs', rs⟩ := rx
    exact ⟨a, rfl, ⟨Keep.refl, r, rfl⟩, .inr ⟨rfl, ⟨fun ι' h' H' n => ⟨vs, n.kp.tup a vs hs', RelWs.keep n.kp ws rs⟩⟩⟩⟩
  · rename_i l
    split at e
    · rename_i ws e2
      cases e
      unfold RelW at rx
      obtain ⟨hlt, rfl⟩ := rx
      refine ⟨ι l, rfl, ⟨Keep.refl, r, by unfold heldOk; simpa using e2⟩, .inl ⟨rfl, ⟨fun ι' h' H' n => ?_⟩⟩⟩
      obtain ⟨vs, hv, rv⟩ := n.r.lst (held_list n.held)
      rw [n.kp.old l hlt] at hv
      exact ⟨vs, .inl (.of hv), rv⟩
    · cases e
  · cases e
    unfold RelW at rx
    refine ⟨k.aS, rx, ⟨Keep.refl, r, rfl⟩, .inl ⟨rfl, ⟨fun ι' h' H' n => ⟨_, n.r.scr.sq, ?_⟩⟩⟩⟩
    rw [hs]
    have key : ∀ ns : List Int, RelWs k ι' h'.length H' (ns.map W.int) (ns.map V.int) := fun ns => by
      induction ns with
      | nil => exact .nil
      | cons n ns ih => exact RelWs.cons (by unfold RelW; rfl) ih
    exact key _
  · cases e
theorem SeqA.get {ι0 : Nat → Addr} {n0 : Nat} {H0 : Hp} {src : Src} {Sq : Hp → Addr → List V → Prop} {a : Addr} (s : SeqA k ι0 n0 H0 src Sq a) {ι : Nat → Addr} {h : AH} {H : Hp} (n : Now k ι0 n0 H0 src ι h H) {i : Nat} (hi : i < src.items.length) :
    ∃ vs w v, Sq H a vs ∧ src.items[i]? = some w ∧ vs[i]? = some v ∧ RelW k ι h.length H w v := by
  obtain ⟨vs, q, rv⟩ := s.at_ ι h H n
  have e : src.items[i]? = some src.items[i] := by simp [hi]
  obtain ⟨v, e2, rw1⟩ := rv.get e
  exact ⟨vs, _, v, q, e, e2, rw1⟩
theorem SeqA.len {ι0 : Nat → Addr} {n0 : Nat} {H0 : Hp} {src : Src} {Sq : Hp → Addr → List V → Prop} {a : Addr} (s : SeqA k ι0 n0 H0 src Sq a) {ι : Nat → Addr} {h : AH} {H : Hp} (n : Now k ι0 n0 H0 src ι h H) :
    ∃ vs, Sq H a vs ∧ vs.length = src.items.length := by
  obtain ⟨vs, q, rv⟩ := s.at_ ι h H n
  exact ⟨vs, q, rv.len.symm⟩
theorem it_list {ι0 : Nat → Addr} {n0 : Nat} {H0 : Hp} {src : Src} {a : Addr} (s : SeqA k ι0 n0 H0 src (SqL k.K) a) : ItA k ι0 n0 H0 src (Itl k.K a) where
  go := fun ι h H i n hi => let ⟨vs, w, v, q, _, e, _⟩ := s.get n hi; ⟨vs, v, q, e⟩
  stop := fun ι h H n => let ⟨vs, q, e⟩ := s.len n; ⟨vs, q, Nat.le_of_eq e⟩
  yld := fun ι h H i x H' n hi y => by
    obtain ⟨vs, w, v, q, e1, e2, rw1⟩ := s.get n hi
    obtain ⟨rfl, y⟩ := y
    have := y vs q
    rw [e2] at this
    cases this
    exact ⟨w, e1, Post.refl n.r, rw1⟩
theorem it_tup {ι0 : Nat → Addr} {n0 : Nat} {H0 : Hp} {src : Src} {a : Addr} (s : SeqA k ι0 n0 H0 src (SqT k.K) a) : ItA k ι0 n0 H0 src (Itt k.K a) where
  go := fun ι h H i n hi => let ⟨vs, w, v, q, _, e, _⟩ := s.get n hi; ⟨vs, v, q, e⟩
  stop := fun ι h H n => let ⟨vs, q, e⟩ := s.len n; ⟨vs, q, Nat.le_of_eq e⟩
  yld := fun ι h H i x H' n hi y => by
    obtain ⟨vs, w, v, q, e1, e2, rw1⟩ := s.get n hi
    obtain ⟨rfl, y⟩ := y
    have := y vs q
    rw [e2] at this
    cases this
    exact ⟨w, e1, Post.refl n.r, rw1⟩
theorem enumFrom_get : ∀ {ws : List W} {n i : Nat} {w : W}, ws[i]? = some w → (enumFrom n ws)[i]? = some (.tup [.int ((n + i : Nat)), w])
  | [], _, _, _, e => by simp at e
  | a :: r, n, 0, w, e => by
    simp at e
    subst e
    rfl
  | a :: r, n, i + 1, w, e => by
    have e : r[i]? = some w := by simpa using e
    have := enumFrom_get (n := n + 1) e
    rw [show n + 1 + i = n + (i + 1) by omega] at this
    exact this
theorem enumFrom_len : ∀ {ws : List W} {n : Nat}, (enumFrom n ws).length = ws.length
  | [], _ => rfl
  | a :: r, n => congrArg Nat.succ (enumFrom_len (ws := r) (n := n + 1))
theorem pair_yld {ι : Nat → Addr} {h : AH} {H H' : Hp} {T : Addr} {w1 w2 : W} {x y : V} (r : R k ι h H) (hT : H T = none) (e : H' = L2.upd H T (.tup [x, y])) (r1 : RelW k ι h.length H w1 x) (r2 : RelW k ι h.length H w2 y) :
    Post k ι h H ι h H' ∧ RelW k ι h.length H' (.tup [w1, w2]) (.ref T) := by
  subst e
  have p := Post.side (o := .tup [x, y]) r hT
  refine ⟨p, ?_⟩
  unfold RelW
  exact ⟨T, [x, y], rfl, .inl (.of upd_same), RelWs.cons (r1.keep (p.keep r)) (RelWs.cons (r2.keep (p.keep r)) .nil)⟩
theorem it_enum {ι0 : Nat → Addr} {n0 : Nat} {H0 : Hp} {src : Src} {a : Addr} (s : SeqA k ι0 n0 H0 src (SqL k.K) a) : ItA k ι0 n0 H0 ⟨enumFrom 0 src.items, src.held⟩ (Ite k.K a) where
  go := fun ι h H i n hi => let ⟨vs, w, v, q, _, e, _⟩ := s.get ⟨n.kp, n.r, n.held⟩ (by rw [← enumFrom_len (n := 0)]; exact hi); ⟨vs, v, q, e⟩
  stop := fun ι h H n => let ⟨vs, q, e⟩ := s.len ⟨n.kp, n.r, n.held⟩; ⟨vs, q, by rw [enumFrom_len]; exact Nat.le_of_eq e⟩
  yld := fun ι h H i x H' n hi y => by
    obtain ⟨vs, w, v, q, e1, e2, rw1⟩ := s.get (i := i) ⟨n.kp, n.r, n.held⟩ (by rw [← enumFrom_len (n := 0)]; exact hi)
    obtain ⟨T, x0, rfl, hT, e, y⟩ := y
    have := y vs q
    rw [e2] at this
    cases this
    have z := pair_yld (w1 := .int ((i : Nat) : Int)) n.r hT e (by unfold RelW; rfl) rw1
    refine ⟨_, ?_, z⟩
    have := enumFrom_get (n := 0) e1
    rw [Nat.zero_add] at this
    exact this
theorem it_enumT {ι0 : Nat → Addr} {n0 : Nat} {H0 : Hp} {src : Src} {a : Addr} (s : SeqA k ι0 n0 H0 src (SqT k.K) a) : ItA k ι0 n0 H0 ⟨enumFrom 0 src.items, src.held⟩ (IteT k.K a) where
  go := fun ι h H i n hi => let ⟨vs, w, v, q, _, e, _⟩ := s.get ⟨n.kp, n.r, n.held⟩ (by rw [← enumFrom_len (n := 0)]; exact hi); ⟨vs, v, q, e⟩
  stop := fun ι h H n => let ⟨vs, q, e⟩ := s.len ⟨n.kp, n.r, n.held⟩; ⟨vs, q, by rw [enumFrom_len]; exact e⟩
  yld := fun ι h H i x H' n hi y => by
    obtain ⟨vs, w, v, q, e1, e2, rw1⟩ := s.get (i := i) ⟨n.kp, n.r, n.held⟩ (by rw [← enumFrom_len (n := 0)]; exact hi)
    obtain ⟨T, x0, rfl, hT, e, y⟩ := y
    have := y vs q
    rw [e2] at this
    cases this
    have z := pair_yld (w1 := .int ((i : Nat) : Int)) n.r hT e (by unfold RelW; rfl) rw1
    refine ⟨_, ?_, z⟩
    have := enumFrom_get (n := 0) e1
    rw [Nat.zero_add] at this
    exact this
theorem it_rng {ι0 : Nat → Addr} {n0 : Nat} {H0 : Hp} {lo hi : Int} : ItA k ι0 n0 H0 ⟨rngW lo hi, []⟩ (Itr lo (hi - lo).toNat) where
  go := fun ι h H i n hi => by
    have hi : i < (rngW lo _).length := hi
    unfold rngW at hi
    rw [List.length_map, List.length_range] at hi
    exact hi
  stop := fun ι h H n => by
    show _ ≤ (rngW lo hi).length
    unfold rngW
    rw [List.length_map, List.length_range]
    exact Nat.le_refl _
  yld := fun ι h H i x H' n hl y => by
    obtain ⟨rfl, rfl⟩ := y
    have hl : i < (rngW lo hi).length := hl
    unfold rngW at hl
    rw [List.length_map, List.length_range] at hl
    refine ⟨.int (lo + (i : Nat)), ?_, Post.refl n.r, by unfold RelW; rfl⟩
    show (rngW lo hi)[i]? = _
    unfold rngW
    rw [List.getElem?_map, List.getElem?_range hl]
    rfl
theorem it_rngD {ι0 : Nat → Addr} {n0 : Nat} {H0 : Hp} {hi lo : Int} : ItA k ι0 n0 H0 ⟨rngD hi lo, []⟩ (Itc hi (-1) (hi - lo).toNat) where
  go := fun ι h H i n hi => by
    have hi : i < (rngD _ lo).length := hi
    unfold rngD at hi
    rw [List.length_map, List.length_range] at hi
    exact hi
  stop := fun ι h H n => by
    show _ ≤ (rngD hi lo).length
    unfold rngD
    rw [List.length_map, List.length_range]
    exact Nat.le_refl _
  yld := fun ι h H i x H' n hl y => by
    obtain ⟨rfl, rfl⟩ := y
    have hl : i < (rngD hi lo).length := hl
    unfold rngD at hl
    rw [List.length_map, List.length_range] at hl
    refine ⟨.int (hi - (i : Nat)), ?_, Post.refl n.r, by
      have : hi + (i : Nat) * (-1 : Int) = hi - (i : Nat) := by omega
      rw [this]
      unfold RelW
      rfl⟩
    show (rngD hi lo)[i]? = _
    unfold rngD
    rw [List.getElem?_map, List.getElem?_range hl]
    rfl
theorem held_app {a b : List (Nat × List W)} {h : AH} (e : heldOk (a ++ b) h = true) : heldOk a h = true ∧ heldOk b h = true := by
  unfold heldOk at e ⊢
  rw [List.all_append, Bool.and_eq_true] at e
  exact e
theorem it_zip {ι0 : Nat → Addr} {n0 : Nat} {H0 : Hp} {s t : Src} {a b : Addr} (sa : SeqA k ι0 n0 H0 s (SqL k.K) a) (sb : SeqA k ι0 n0 H0 t (SqL k.K) b) :
    ItA k ι0 n0 H0 ⟨List.zipWith (fun u v => .tup [u, v]) s.items t.items, s.held ++ t.held⟩ (Itz k.K a b) where
  go := fun ι h H i n hi => by
    have hi : i < (List.zipWith _ s.items t.items).length := hi
    rw [List.length_zipWith] at hi
    obtain ⟨vs, w, v, q, _, e, _⟩ := sa.get (i := i) ⟨n.kp, n.r, (held_app n.held).1⟩ (by omega)
    obtain ⟨vs2, w2, v2, q2, _, e2, _⟩ := sb.get (i := i) ⟨n.kp, n.r, (held_app n.held).2⟩ (by omega)
    exact ⟨vs, vs2, v, v2, q, q2, e, e2⟩
  stop := fun ι h H n => by
    obtain ⟨vs, q, e⟩ := sa.len ⟨n.kp, n.r, (held_app n.held).1⟩
    obtain ⟨vs2, q2, e2⟩ := sb.len ⟨n.kp, n.r, (held_app n.held).2⟩
    refine ⟨vs, vs2, q, q2, ?_⟩
    show _ ≤ (List.zipWith _ s.items t.items).length ∨ _ ≤ (List.zipWith _ s.items t.items).length
    rw [List.length_zipWith]
    omega
  yld := fun ι h H i x H' n hi y => by
    have hi : i < (List.zipWith _ s.items t.items).length := hi
    rw [List.length_zipWith] at hi
    obtain ⟨vs, w, v, q, e1, e, rw1⟩ := sa.get (i := i) ⟨n.kp, n.r, (held_app n.held).1⟩ (by omega)
    obtain ⟨vs2, w2, v2, q2, e3, e2, rw2⟩ := sb.get (i := i) ⟨n.kp, n.r, (held_app n.held).2⟩ (by omega)
    obtain ⟨T, x0, y0, rfl, hT, eH, y1, y2⟩ := y
    have z1 := y1 vs q
    have z2 := y2 vs2 q2
    rw [e] at z1
    rw [e2] at z2
    cases z1
    cases z2
    refine ⟨_, ?_, pair_yld n.r hT eH rw1 rw2⟩
    show (List.zipWith _ s.items t.items)[i]? = _
    rw [List.getElem?_zipWith, e1, e3]
theorem it_zipT {ι0 : Nat → Addr} {n0 : Nat} {H0 : Hp} {s t : Src} {a b : Addr} (sa : SeqA k ι0 n0 H0 s (SqT k.K) a) (sb : SeqA k ι0 n0 H0 t (SqT k.K) b) :
    ItA k ι0 n0 H0 ⟨List.zipWith (fun u v => .tup [u, v]) s.items t.items, s.held ++ t.held⟩ (RZ.ItzT k.K a b) where
  go := fun ι h H i n hi => by
    have hi : i < (List.zipWith _ s.items t.items).length := hi
    rw [List.length_zipWith] at hi
    obtain ⟨vs, w, v, q, _, e, _⟩ := sa.get (i := i) ⟨n.kp, n.r, (held_app n.held).1⟩ (by omega)
    obtain ⟨vs2, w2, v2, q2, _, e2, _⟩ := sb.get (i := i) ⟨n.kp, n.r, (held_app n.held).2⟩ (by omega)
    exact ⟨vs, vs2, v, v2, q, q2, e, e2⟩
  stop := fun ι h H n => by
    obtain ⟨vs, q, e⟩ := sa.len ⟨n.kp, n.r, (held_app n.held).1⟩
    obtain ⟨vs2, q2, e2⟩ := sb.len ⟨n.kp, n.r, (held_app n.held).2⟩
    refine ⟨vs, vs2, q, q2, ?_⟩
    show _ ≤ (List.zipWith _ s.items t.items).length ∨ _ ≤ (List.zipWith _ s.items t.items).length
    rw [List.length_zipWith]
    omega
  yld := fun ι h H i x H' n hi y => by
    have hi : i < (List.zipWith _ s.items t.items).length := hi
    rw [List.length_zipWith] at hi
    obtain ⟨vs, w, v, q, e1, e, rw1⟩ := sa.get (i := i) ⟨n.kp, n.r, (held_app n.held).1⟩ (by omega)
    obtain ⟨vs2, w2, v2, q2, e3, e2, rw2⟩ := sb.get (i := i) ⟨n.kp, n.r, (held_app n.held).2⟩ (by omega)
    obtain ⟨T, x0, y0, rfl, hT, eH, y1, y2⟩ := y
    have z1 := y1 vs q
    have z2 := y2 vs2 q2
    rw [e] at z1
    rw [e2] at z2
    cases z1
    cases z2
    refine ⟨_, ?_, pair_yld n.r hT eH rw1 rw2⟩
    show (List.zipWith _ s.items t.items)[i]? = _
    rw [List.getElem?_zipWith, e1, e3]
/-! ### the rules -/
def tI (k : Cst) (g : Ev) (Wx : WX) (it : It) : TI := tR k Wx (relJ k) fun as h => evalI g it as h
theorem i_over {tg l : Expr} {c : C} (cx : CxO X k gl g lv fA se) (hl : PE X l (tE k g Wx c)) : PI X tg l (tI k g Wx (.over c)) := by
  refine PI.of (pi_seq hl) fun σ H Q w => ?_
  obtain ⟨ι, as, h, rs, r, w⟩ := w
  dsimp only at w
  rw [evalI] at w
  unfold iSeq
  refine (nxt (fun _ _ _ => True) kpT rs r trivial w).imp fun x H1 ⟨ι, h, wx, rs, r, _, rx, w⟩ => ?_
  split at w
  · rename_i src e
    obtain ⟨a, rfl, n, q⟩ := over_seq cx.fx.sc r rx e
    rw [cx.K]
    rcases q with ⟨_, q⟩ | ⟨_, q⟩
    · obtain ⟨vs, z, _⟩ := q.len n
      exact ⟨a, vs, rfl, .inl ⟨z, w ι H1 _ (Post.refl r) (it_list q)⟩⟩
    · obtain ⟨vs, z, _⟩ := q.len n
      exact ⟨a, vs, rfl, .inr ⟨z, w ι H1 _ (Post.refl r) (it_tup q)⟩⟩
  · exact w.elim
theorem i_enum {x : Str} {l : Expr} {c : C} {p pos tpos : Pos} {elts : List Expr} {kk : Nat} (cx : CxO X k gl g lv fA se) (go : GOk X gl x .blt) (hx : x = "enumerate") (hst : noStar l = true) (hl : PE X l (tE k g Wx c)) :
    PI X (.Tuple elts kk tpos) (.Call (.Name x p) [l] [] pos) (tI k g Wx (.enum c)) := by
  have hm := cx.fx.gbl x go.lk
  subst hx
  refine PI.of (pi_enumA go.gi hm (pa_cons hl pa_nil (star_of hst)) (star_of hst)) fun σ H Q w => ?_
  obtain ⟨ι, as, h, rs, r, w⟩ := w
  dsimp only at w
  rw [evalI] at w
  unfold iEnumA
  refine (nxt (fun _ _ _ => True) kpT rs r trivial w).imp fun x H1 ⟨ι, h, wx, rs, r, _, rx, w⟩ => ?_
  split at w
  · rename_i src e
    obtain ⟨a, rfl, n, q⟩ := over_seq cx.fx.sc r rx e
    rw [cx.K]
    rcases q with ⟨_, q⟩ | ⟨_, q⟩
    · obtain ⟨vs, z, _⟩ := q.len n
      exact ⟨a, vs, rfl, .inl ⟨z, w ι H1 _ (Post.refl r) (it_enum q)⟩⟩
    · obtain ⟨vs, z, _⟩ := q.len n
      exact ⟨a, vs, rfl, .inr ⟨z, w ι H1 _ (Post.refl r) (it_enumT q)⟩⟩
  · exact w.elim
theorem i_zip {x : Str} {l l2 : Expr} {c c2 : C} {p pos tpos : Pos} {elts : List Expr} {kk : Nat} (cx : CxO X k gl g lv fA se) (go : GOk X gl x .blt) (hx : x = "zip") (hst : noStar l = true) (hst2 : noStar l2 = true) (hl : PE X l (tE k g Wx c)) (hl2 : PE X l2 (tE k g Wx c2)) :
    PI X (.Tuple elts kk tpos) (.Call (.Name x p) [l, l2] [] pos) (tI k g Wx (.zip c c2)) := by
  have hm := cx.fx.gbl x go.lk
  subst hx
  refine PI.of (RZ.pi_zipA go.gi hm (pa_two hl hl2 hst hst2) (star_of hst) (by rw [star_of hst2]; rfl)) fun σ H Q w => ?_
  obtain ⟨ι, as, h, rs, r, w⟩ := w
  dsimp only at w
  rw [evalI] at w
  unfold RZ.iZipA
  refine (nxt (fun _ _ _ => True) kpT rs r trivial w).imp fun x H1 ⟨ι, h, wx, rs, r, _, rx, w⟩ => ?_
  refine (nxt (rel := relW k) (fun ι n H => RelW k ι n H wx x) kpW rs r rx w).imp fun y H2 ⟨ι, h, wy, rs, r, rx, ry, w⟩ => ?_
  split at w
  · rename_i et
    split at w
    · rename_i s t e1 e2
      obtain ⟨a, rfl, n, q⟩ := over_seq cx.fx.sc r rx e1
      obtain ⟨b, rfl, n2, q2⟩ := over_seq cx.fx.sc r ry e2
      rw [cx.K]
      rcases q with ⟨i1, q⟩ | ⟨i1, q⟩
      · rcases q2 with ⟨i2, q2⟩ | ⟨i2, q2⟩
        · obtain ⟨vs, z, _⟩ := q.len n
          obtain ⟨vs2, z2, _⟩ := q2.len n2
          exact ⟨a, b, vs, vs2, rfl, .inl ⟨z, z2, w ι H2 _ (Post.refl r) (it_zip q q2)⟩⟩
        · rw [i1, i2] at et
          cases et
      · rcases q2 with ⟨i2, q2⟩ | ⟨i2, q2⟩
        · rw [i1, i2] at et
          cases et
        · obtain ⟨vs, z, _⟩ := q.len n
          obtain ⟨vs2, z2, _⟩ := q2.len n2
          exact ⟨a, b, vs, vs2, rfl, .inr ⟨z, z2, w ι H2 _ (Post.refl r) (it_zipT q q2)⟩⟩
    · exact w.elim
  · exact w.elim
theorem rng_small {i : Int} (h : rngOk i = true) : -(2 ^ 62) ≤ i ∧ i < 2 ^ 62 := by
  unfold rngOk at h
  simp only [Bool.and_eq_true, decide_eq_true_eq] at h
  omega
theorem i_rng1 {x : Str} {tg a : Expr} {cs : List C} {p pos : Pos} (cx : CxO X k gl g lv fA se) (go : GOk X gl x .blt) (hx : x = "range") (hst : noStar a = true) (ha : PA X [a] (tEs k g Wx cs)) (hl : cs.length = 1) : PI X tg (.Call (.Name x p) [a] [] pos) (tI k g Wx (.rng cs)) := by
  have hm := cx.fx.gbl x go.lk
  subst hx
  refine PI.of (pi_range1 go.gi hm ha (star_of hst)) fun σ H Q w => ?_
  obtain ⟨ι, as, h, rs, r, w⟩ := w
  dsimp only at w
  rw [evalI] at w
  unfold iRng1
  refine (nxt (rel := relWs k) (fun _ _ _ => True) kpT rs r trivial w).imp fun vs H1 ⟨ι, h, ws, rs, r, _, rx, w⟩ => ?_
  split at w
  · rename_i e
    rw [hl] at e
    obtain ⟨w1, rfl⟩ : ∃ w1, ws = [w1] := by
      cases ws with
      | nil => cases e
      | cons w1 r =>
        cases r with
        | nil => exact ⟨w1, rfl⟩
        | cons _ _ => cases e
    unfold rngR at w
    split at w
    · rename_i j ej
      cases ej
      split at w
      · rename_i hj
        obtain ⟨v, rfl, rv⟩ := RelWs.one rx
        unfold RelW at rv
        subst rv
        have q := w ι H1 _ (Post.refl r) (it_rng (lo := 0) (hi := j))
        rw [Int.sub_zero] at q
        exact ⟨j, rfl, (rng_small hj).1, (rng_small hj).2, q⟩
      · exact w.elim
    · rename_i ej
      cases ej
    · rename_i ej
      cases ej
    · exact w.elim
  · exact w.elim
theorem i_rng2 {x : Str} {tg a b : Expr} {cs : List C} {p pos : Pos} (cx : CxO X k gl g lv fA se) (go : GOk X gl x .blt) (hx : x = "range") (hst : noStar a = true) (hst2 : noStar b = true) (ha : PA X [a, b] (tEs k g Wx cs)) (hl : cs.length = 2) : PI X tg (.Call (.Name x p) [a, b] [] pos) (tI k g Wx (.rng cs)) := by
  have hm := cx.fx.gbl x go.lk
  subst hx
  refine PI.of (pi_range2 go.gi hm ha (by rw [star_of hst, star_of hst2]; rfl) (by rw [star_of hst2]; rfl)) fun σ H Q w => ?_
  obtain ⟨ι, as, h, rs, r, w⟩ := w
  dsimp only at w
  rw [evalI] at w
  unfold iRng2
  refine (nxt (rel := relWs k) (fun _ _ _ => True) kpT rs r trivial w).imp fun vs H1 ⟨ι, h, ws, rs, r, _, rx, w⟩ => ?_
  split at w
  · rename_i e
    rw [hl] at e
    obtain ⟨w1, w2, rfl⟩ : ∃ w1 w2, ws = [w1, w2] := by
      match ws, e with
      | [w1, w2], _ => exact ⟨w1, w2, rfl⟩
    unfold rngR at w
    split at w
    · rename_i ej
      cases ej
    · rename_i i j ej
      cases ej
      split at w
      · rename_i hj
        rw [Bool.and_eq_true] at hj
        obtain ⟨v, z, rfl, rv, rz⟩ := RelWs.two rx
        unfold RelW at rv rz
        subst rv rz
        exact ⟨i, j, rfl, ⟨(rng_small hj.1).1, (rng_small hj.1).2, (rng_small hj.2).1, (rng_small hj.2).2⟩, w ι H1 _ (Post.refl r) (it_rng (lo := i) (hi := j))⟩
      · exact w.elim
    · rename_i ej
      cases ej
    · exact w.elim
  · exact w.elim
theorem RelWs.three {ι : Nat → Addr} {n : Nat} {H : Hp} {w u z : W} {xs : List V} (e : RelWs k ι n H [w, u, z] xs) : ∃ a b c, xs = [a, b, c] ∧ RelW k ι n H w a ∧ RelW k ι n H u b ∧ RelW k ι n H z c := by
  unfold RelWs at e
  obtain ⟨v, r, rfl, q, e⟩ := e
  obtain ⟨a, b, rfl, q2, q3⟩ := e.two
  exact ⟨v, a, b, rfl, q, q2, q3⟩
theorem i_rng3 {x : Str} {tg a b c : Expr} {cs : List C} {p pos : Pos} (cx : CxO X k gl g lv fA se) (go : GOk X gl x .blt) (hx : x = "range") (hst : noStar a = true) (hst2 : noStar b = true) (hst3 : noStar c = true) (ha : PA X [a, b, c] (tEs k g Wx cs)) (hl : cs.length = 3) : PI X tg (.Call (.Name x p) [a, b, c] [] pos) (tI k g Wx (.rng cs)) := by
  have hm := cx.fx.gbl x go.lk
  subst hx
  refine PI.of (pi_range3 go.gi hm ha (star_of hst) (star_any (by simp [hst2, hst3]))) fun σ H Q w => ?_
  obtain ⟨ι, as, h, rs, r, w⟩ := w
  dsimp only at w
  rw [evalI] at w
  unfold iRng3
  refine (nxt (rel := relWs k) (fun _ _ _ => True) kpT rs r trivial w).imp fun vs H1 ⟨ι, h, ws, rs, r, _, rx, w⟩ => ?_
  split at w
  · rename_i e
    rw [hl] at e
    obtain ⟨w1, w2, w3, rfl⟩ : ∃ w1 w2 w3, ws = [w1, w2, w3] := by
      match ws, e with
      | [w1, w2, w3], _ => exact ⟨w1, w2, w3, rfl⟩
    unfold rngR at w
    split at w
    · rename_i ej
      cases ej
    · rename_i ej
      cases ej
    · rename_i i j kk ej
      cases ej
      split at w
      · rename_i hj
        rw [Bool.and_eq_true, Bool.and_eq_true, decide_eq_true_eq] at hj
        obtain ⟨⟨hk, h1⟩, h2⟩ := hj
        subst hk
        obtain ⟨v, z, y, rfl, rv, rz, ry⟩ := RelWs.three rx
        unfold RelW at rv rz ry
        subst rv rz ry
        exact ⟨i, j, -1, _, rfl, RgC.neg (rng_small h1).1 (rng_small h1).2 (rng_small h2).1 (rng_small h2).2, w ι H1 _ (Post.refl r) (it_rngD (hi := i) (lo := j))⟩
      · exact w.elim
    · exact w.elim
  · exact w.elim
/-! ### targets -/
abbrev relSt (k : Cst) : Rel St L2.St := fun as ι n H σ => RelS k ι n H as σ
def tV (k : Cst) {α : Type} (rel : V → α → (Nat → Addr) → Nat → Hp → Prop) (f : α → St → AH → Res St) : V → L2.St → Hp → (L2.St → Hp → Prop) → Prop := fun v σ H Q => ∃ ι as h w, RelS k ι h.length H as σ ∧ R k ι h H ∧ rel v w ι h.length H ∧ WPV k (f w as h) ι h H (relSt k) Q
/-- .. and the slots but sl are as they were -/
def relSF (k : Cst) (σ : L2.St) (sl : List Nat) : Rel St L2.St := fun as ι n H b => RelS k ι n H as b ∧ b.length = σ.length ∧ ∀ j, j ∉ sl → b[j]? = σ[j]?
def tG (k : Cst) (g : Ev) (t : Tg) : TG := fun v σ H Q => ∃ ι as h w, RelS k ι h.length H as σ ∧ R k ι h H ∧ RelW k ι h.length H w v ∧ WPV k (asgT g t w as h) ι h H (relSF k σ (slotsT t)) Q
def tGs (k : Cst) (g : Ev) (ts : List Tg) : TGs := fun vs σ H Q => ∃ ι as h ws, RelS k ι h.length H as σ ∧ R k ι h H ∧ RelWs k ι h.length H ws vs ∧ WPV k (asgTs g ts ws as h) ι h H (relSF k σ (slotsTs ts)) Q
theorem WPV.relImp {α β : Type} {rel rel' : Rel α β} {ι : Nat → Addr} {h : AH} {H : Hp} {r : Res α} {Q : β → Hp → Prop} (w : WPV k r ι h H rel Q) (f : ∀ a ι n H b, rel' a ι n H b → rel a ι n H b) : WPV k r ι h H rel' Q := by
  cases r with
  | ok a h' => exact fun ι' H' b p e => w ι' H' b p (f _ _ _ _ _ e)
  | exc c xs ws h' => exact w
  | stuck => exact w
theorem relSF.same {σ : L2.St} {sl : List Nat} {as : St} {ι : Nat → Addr} {n : Nat} {H : Hp} (rs : RelS k ι n H as σ) : relSF k σ sl as ι n H σ := ⟨rs, rfl, fun _ _ => rfl⟩
theorem WPV.wpe {α β : Type} {rel : Rel α β} {σ : L2.St} {ι : Nat → Addr} {h : AH} {H : Hp} {r : Res α} {Q : β → Hp → Prop} (w : WPV k r ι h H rel Q) : WPE k Wx σ r ι h H rel Q := by
  cases r <;> first | exact w | exact w.elim
/-- the first answer of two, with none of them an exception -/
theorem WPV.bind {α β γ δ : Type} {rel : Rel α β} {rel2 : Rel γ δ} {ι : Nat → Addr} {h : AH} {H : Hp} {r : Res α} {f : α → AH → Res γ} {Q : δ → Hp → Prop} (r0 : R k ι h H) (w : WPV k (r.bind f) ι h H rel2 Q) :
    WPV k r ι h H rel fun b H1 => ∃ a ι1 h1, Post k ι h H ι1 h1 H1 ∧ rel a ι1 h1.length H1 b ∧ WPV k (f a h1) ι1 h1 H1 rel2 Q := by
  cases r with
  | ok a h' =>
    intro ι' H' b p e
    refine ⟨a, ι', h', p, e, ?_⟩
    have w : WPV k (f a h') ι h H rel2 Q := w
    revert w
    cases f a h' with
    | ok c h2 => exact fun w ι2 H2 d q e2 => w ι2 H2 d (p.trans r0 q) e2
    | exc _ _ _ _ => exact fun w => w
    | stuck => exact fun w => w
  | exc c xs ws h' => exact w
  | stuck => exact w
theorem WPV.imp {α β : Type} {rel : Rel α β} {ι : Nat → Addr} {h : AH} {H : Hp} {r : Res α} {Q Q' : β → Hp → Prop} (w : WPV k r ι h H rel Q) (f : ∀ b H', Q b H' → Q' b H') : WPV k r ι h H rel Q' := by
  cases r with
  | ok a h' => exact fun ι' H' b p e => f _ _ (w ι' H' b p e)
  | exc c xs ws h' => exact w
  | stuck => exact w
/-- an expression within a target -/
theorem nxtV {α β γ δ : Type} {rel : Rel α β} {rel2 : Rel γ δ} {f : St → AH → Res α} {f2 : α → AH → Res γ} {σ : L2.St} {H : Hp} {Q : δ → Hp → Prop} {ι : Nat → Addr} {as : St} {h : AH} (P : Ctx) (kp : KeepP k P) (rs : RelS k ι h.length H as σ) (r : R k ι h H) (p : P ι h.length H)
    (w : WPV k ((f as h).bind f2) ι h H rel2 Q) :
    tR k Wx rel f σ H fun b H1 => ∃ ι h a, RelS k ι h.length H1 as σ ∧ R k ι h H1 ∧ P ι h.length H1 ∧ rel a ι h.length H1 b ∧ WPV k (f2 a h) ι h H1 rel2 Q :=
  ⟨ι, as, h, rs, r, ((WPV.bind (rel := rel) (rel2 := rel2) r w).imp fun b H1 ⟨a, ι1, h1, q, ra, w1⟩ => ⟨ι1, h1, a, rs.keep (q.keep r), q.rel, kp _ _ _ _ _ _ (q.keep r) p, ra, w1⟩).wpe⟩
theorem RelS.set {ι : Nat → Addr} {n : Nat} {H : Hp} {as : St} {σ : L2.St} {i : Nat} {w : W} {v : V} (rs : RelS k ι n H as σ) (rv : RelW k ι n H w v) : RelS k ι n H (as.set i (some w)) (σ.set i (some v)) := by
  refine ⟨by rw [List.length_set, List.length_set]; exact rs.1, fun j w' e => ?_⟩
  by_cases hj : i = j
  · subst hj
    by_cases hl : i < as.length
    · rw [List.getElem?_set_self hl] at e
      cases e
      exact ⟨v, by rw [List.getElem?_set_self (by rw [← rs.1]; exact hl)], rv⟩
    · rw [List.getElem?_eq_none (by rw [List.length_set]; omega)] at e
      cases e
  · rw [List.getElem?_set_ne hj] at e ⊢
    exact rs.2 j w' e
theorem loc_of {se : SE} (cx : CxO X k gl g lv fA se) {x : Str} {i : Nat} (ok : okSt se x i = true) : X.N[i]? = some x ∧ L2.Loc X.env.scope x ∧ (X.fn x = true ∨ X.env.scope.names.lookup x = some .local) := by
  unfold okSt at ok
  simp only [Bool.and_eq_true, decide_eq_true_eq] at ok
  obtain ⟨e1, e2⟩ := ok
  refine ⟨by rw [cx.N]; exact e1, ?_⟩
  unfold L2.Loc
  rw [cx.sc]
  revert e2
  split
  · rename_i e
    rw [e]
    exact fun _ => ⟨.inl rfl, .inr rfl⟩
  · rename_i e
    rw [e]
    exact fun z => ⟨.inr rfl, .inl (cx.fn x z)⟩
  · exact fun z => by cases z
theorem g_nm {x : Str} {i : Nat} {pos : Pos} (cx : CxO X k gl g lv fA se) (ok : okSt se x i = true) : PG X (.Name x pos) (tG k g (.nm i)) := by
  obtain ⟨h1, h2, h3⟩ := loc_of cx ok
  refine PG.of (pg_name cx.nd h1 h2 h3) fun v σ H Q ⟨ι, as, h, w, rs, r, rw1, q⟩ => ?_
  rw [asgT] at q
  refine q ι H _ (Post.refl r) ⟨rs.set rw1, by rw [List.length_set], fun j hj => ?_⟩
  unfold slotsT at hj
  rw [List.getElem?_set_ne (fun e => hj (by rw [e]; exact List.mem_cons_self))]
theorem gs_nil : PGs X [] (tGs k g []) := PGs.of pgs_nil fun vs σ H Q ⟨ι, as, h, ws, rs, r, rw1, q⟩ => by
  cases ws with
  | nil =>
    rw [asgTs] at q
    unfold RelWs at rw1
    exact ⟨rw1, q ι H _ (Post.refl r) (relSF.same rs)⟩
  | cons _ _ =>
    rw [asgTs] at q
    · exact q.elim
    all_goals simp
theorem asg_of {e : Expr} {es : List Expr} {env : Env} (h : noStar e = true) : assignEach (e :: es) env = (false, assign e env) :: assignEach es env := by
  cases e <;> first | rfl | (cases h; done)
theorem asg_len {env : Env} : ∀ {es : List Expr}, es.all noStar = true → (assignEach es env).length = es.length ∧ (assignEach es env).findIdx? (·.1) = none
  | [], _ => ⟨rfl, rfl⟩
  | e :: es, h => by
    rw [List.all_cons, Bool.and_eq_true] at h
    rw [asg_of h.1]
    obtain ⟨h1, h2⟩ := asg_len (env := env) h.2
    refine ⟨by simp [h1], ?_⟩
    rw [List.findIdx?_cons]
    simp [h2]
theorem gs_cons {e : Expr} {es : List Expr} {t : Tg} {ts : List Tg} (h0 : noStar e = true) (h1 : PG X e (tG k g t)) (h2 : PGs X es (tGs k g ts)) : PGs X (e :: es) (tGs k g (t :: ts)) := by
  refine PGs.of (pgs_cons h1 h2 (by rw [asg_of h0]; rfl)) fun vs σ H Q ⟨ι, as, h, ws, rs, r, rw1, q⟩ => ?_
  cases ws with
  | nil =>
    rw [asgTs] at q
    · exact q.elim
    all_goals simp
  | cons w ws =>
    rw [asgTs] at q
    unfold RelWs at rw1
    obtain ⟨v, vr, rfl, rv, rr⟩ := rw1
    refine ⟨v, vr, rfl, ι, as, h, w, rs, r, rv, (WPV.bind (rel := relSF k σ (slotsT t)) r q).imp fun σ2 H2 ⟨as2, ι2, h2, p, rs2, q2⟩ => ?_⟩
    refine ⟨ι2, as2, h2, ws, rs2.1, p.rel, RelWs.keep (p.keep r) ws rr, q2.relImp fun a ι n H b z => ⟨z.1, z.2.1.trans rs2.2.1, fun j hj => ?_⟩⟩
    unfold slotsTs at hj
    rw [List.mem_append, not_or] at hj
    rw [z.2.2 j hj.2, rs2.2.2 j hj.1]
theorem g_tp {es : List Expr} {ts : List Tg} {kk : Nat} {pos : Pos} (cx : CxO X k gl g lv fA se) (hst : es.all noStar = true) (hl : ts.length = es.length) (h : PGs X es (tGs k g ts)) : PG X (.Tuple es kk pos) (tG k g (.tp ts)) := by
  obtain ⟨l1, l2⟩ := asg_len (env := X.env) hst
  refine PG.of (pg_tup (n := es.length) cx.calm h l1 l2) fun v σ H Q ⟨ι, as, h, w, rs, r, rw1, q⟩ => ?_
  cases w with
  | tup ws =>
    rw [asgT] at q
    split at q
    · rename_i e
      unfold RelW at rw1
      obtain ⟨a, vs, rfl, hs, rv⟩ := rw1
      exact ⟨a, vs, rfl, by rw [cx.K]; exact hs, by rw [← rv.len, e, hl], ι, as, h, ws, rs, r, rv, by unfold slotsT at q; exact q⟩
    · exact q.elim
  | _ =>
    rw [asgT] at q
    · exact q.elim
    all_goals simp
theorem setI_nx {x y w : W} {h : AH} (c xs ws h') : setI x y w h ≠ .exc c xs ws h' := by
  unfold setI dicS
  split <;> (try split) <;> (try split) <;> (try split) <;> simp
theorem setI_inv {x y w : W} {h : AH} : setI x y w h = .stuck ∨ (∃ l j xs m, x = .loc l ∧ y = .int j ∧ h[l]? = some (.lst xs) ∧ L2.ixN xs.length j = some m ∧ setI x y w h = .ok () (h.set l (.lst (xs.set m w)))) ∨
    ∃ l kvs, x = .loc l ∧ h[l]? = some (.dic kvs) ∧ dicOk kvs y = true ∧ kvs.length < 1000000 ∧ setI x y w h = .ok () (h.set l (.dic (dicPut kvs y w))) := by
  cases x with
  | loc l =>
    cases e : h[l]? with
    | none =>
      left
      cases y <;> simp only [setI, e]
    | some o =>
      cases o with
      | lst xs =>
        cases y with
        | int j =>
          cases em : L2.ixN xs.length j with
          | none =>
            left
            simp only [setI, e, em]
          | some m => exact .inr (.inl ⟨l, j, xs, m, rfl, rfl, e, em, by simp only [setI, e, em]⟩)
        | _ => left; simp only [setI, e]
      | ins c fs =>
        left
        cases y <;> simp only [setI, e]
      | dic kvs =>
        have q : setI (.loc l) y w h = dicS l kvs y w h := by cases y <;> simp only [setI, e]
        by_cases ok : (dicOk kvs y && decide (kvs.length < 1000000)) = true
        · right
          right
          have ok2 := ok
          rw [Bool.and_eq_true, decide_eq_true_eq] at ok2
          refine ⟨l, kvs, rfl, e, ok2.1, ok2.2, ?_⟩
          rw [q]
          unfold dicS
          exact if_pos ok
        · left
          rw [q]
          unfold dicS
          exact if_neg ok
  | _ => exact .inl rfl
def rSetA (k : Cst) : TSet := fun o i v H Q => ∃ ι h a b c, R k ι h H ∧ RelW k ι h.length H a o ∧ RelW k ι h.length H b i ∧ RelW k ι h.length H c v ∧ WPV k (setI a b c h) ι h H relU fun (_ : Unit) H' => Q H'
theorem set_A (hK : X.K = k.K) (hw : X.w = k.w) (hu : X.A.units + 65 < cLine) : PSet X (rSetA k) := by
  intro pins s σ H o i v ov iv u Q I ro ri rv hh
  obtain ⟨ι, h, a, b, c, r, ra, rb, rc, q⟩ := hh
  rcases setI_inv (x := a) (y := b) (w := c) (h := h) with e | ⟨l, j, xs, m, rfl, rfl, e, em, e2⟩ | ⟨l, kvs, rfl, e, ok, hz, e2⟩
  · rw [e] at q
    exact q.elim
  · rw [e2] at q
    unfold RelW at ra rb
    obtain ⟨hlt, rfl⟩ := ra
    subst rb
    obtain ⟨vs, hv, rvs⟩ := r.lst e
    refine set_list pins s σ H _ _ v ov iv u Q I ro ri rv ⟨ι l, vs, j, m, rfl, rfl, hv, by rw [← rvs.len]; exact em, ?_⟩
    have p := Post.set (ho := .lst (vs.set m v)) (o := .lst (xs.set m c)) r hlt fun H' kp e => ⟨_, e, RelWs.set (rc.keep kp) m (RelWs.keep kp _ rvs)⟩
    exact q ι _ () p trivial
  · rw [e2] at q
    unfold RelW at ra
    obtain ⟨hlt, rfl⟩ := ra
    cases ro
    exact dic_setItem hu I hK hw r e ok hz rb ri rc rv fun ho s' I' p => ⟨_, I', q ι _ () p trivial⟩
theorem g_sub {o i : Expr} {co ci : C} {pos : Pos} (cx : CxO X k gl g lv fA se) (h0 : noSlice i = true) (ho : PE X o (tE k g Wx co)) (hi : PE X i (tE k g Wx ci)) : PG X (.Subscript o i pos) (tG k g (.sub co ci)) := by
  refine PG.of (pg_sub ho hi (set_A cx.K cx.w cx.un) (fun v => by cases i <;> first | rfl | (cases h0; done))) fun v σ H Q ⟨ι, as, h, w, rs, r, rw1, q⟩ => ?_
  rw [asgT] at q
  unfold gSub
  refine (nxtV (fun ι n H => RelW k ι n H w v) kpW rs r rw1 q).imp fun x H1 ⟨ι, h, wx, rs, r, rw1, rx, q⟩ => ?_
  refine (nxtV (rel := relW k) (fun ι n H => RelW k ι n H w v ∧ RelW k ι n H wx x) (kpAnd kpW kpW) rs r ⟨rw1, rx⟩ q).imp fun y H2 ⟨ι, h, wy, rs, r, ⟨rw1, rx⟩, ry, q⟩ => ?_
  refine ⟨ι, h, wx, wy, w, r, rx, ry, rw1, ?_⟩
  revert q
  cases e : setI wx wy w h with
  | ok _ h' => exact fun q ι' H' _ p _ => q ι' H' σ p (relSF.same (rs.keep (p.keep r)))
  | exc _ _ _ _ => exact fun q => q
  | stuck => exact fun q => q
theorem g_attr {o : Expr} {f : Str} {co : C} {pos : Pos} (cx : CxO X k gl g lv fA se) (ho : PE X o (tE k g Wx co)) : PG X (.Attribute o f pos) (tG k g (.attr co f)) := by
  refine ⟨fun pins s σ H v u Q I rv ⟨ι, as, h, w, rs, r, rw1, q⟩ => ?_⟩
  rw [asgT] at q
  have e : assign (.Attribute o f pos) X.env u = (do
      let ov ← holding [u] (eval o X.env)
      standAt pos.atName
      holding [u, ov] (setAttr ov f u)
      release [u, ov] []) := by rfl
  rw [e]
  refine wpAny_bind (wpAny_holding (thn (ho.run pins s σ H _ I (nxtV (fun ι n H => RelW k ι n H w v) kpW rs r rw1 q)) fun ov s1 ⟨x, H1, I1, rx, ι, h, wx, rs, r, rw1, rx1, q⟩ => ?_))
  unfold setA at q
  split at q
  · rename_i l
    split at q
    · rename_i c fs e1
      split at q
      · rename_i cl hc
        split at q
        · rename_i hz
          rw [Bool.and_eq_true, decide_eq_true_eq, decide_eq_true_eq] at hz
          obtain ⟨dx, vs, e2, e3⟩ := r.ins e1
          unfold relW RelW at rx1
          obtain ⟨hlt, rfl⟩ := rx1
          obtain rfl : ov = Value.ref (ι l) := rx
          have CS := cx.fx.cl c cl hc
          have c1 : Cls X.K (k.cA c) := by rw [cx.K]; exact CS.cls
          have N : NoAttr X.K (k.cA c) f := by rw [cx.K]; exact CS.fl f hz.2
          have p := Post.set (ho := .ins (k.cA c) dx (putF f v vs)) (o := .ins c (putA f w fs)) r hlt fun H' kp e => ⟨dx, _, e, relF_put (rw1.keep kp) (RelF.keep kp _ e3)⟩
          refine wpAny_bind (wpAny_standAt (wpAny_bind (wpAny_holding (setattr_ok I1 e2 c1 N (by rw [← relF_len e3]; exact hz.1) rv fun s2 I2 => ?_))))
          exact wpAny_release ⟨σ, _, I2, q ι _ σ p (relSF.same (rs.keep (p.keep r)))⟩
        · exact q.elim
      · exact q.elim
    · exact q.elim
  · exact q.elim
end
end AM
/-! Comprehensions. -/
namespace AM
open PySem L2
section
variable {X : Cx} {k : Cst} {gl : Gl} {g : Ev} {lv : Nat} {fA : Nat → Addr} {se : SE} {Wx : WX}
theorem Post.none_of {ι ι1 : Nat → Addr} {h h1 : AH} {H H1 : Hp} {D : Addr} (r : R k ι h H) (p : Post k ι h H ι1 h1 H1) (e : H1 D = none) : H D = none := by
  cases q : H D with
  | none => rfl
  | some o =>
    exfalso
    by_cases ho : ∀ l, l < h.length → ι l ≠ D
    · rw [p.fr D o q ho] at e
      cases e
    · have ho : ∃ l, l < h.length ∧ ι l = D := by
        apply Classical.byContradiction
        intro hn
        exact ho fun l hl z => hn ⟨l, hl, z⟩
      obtain ⟨l, hl, z⟩ := ho
      obtain ⟨o', e'⟩ := p.rel.has (Nat.lt_of_lt_of_le hl p.len)
      rw [p.old l hl, z, e] at e'
      cases e'
/-- a list beside ours is written -/
theorem Post.beside {ι ι' : Nat → Addr} {h h' : AH} {H H' : Hp} {D : Addr} {vs us : List V} (p : Post k ι h H ι' h' H') (hD : H D = none) (hn : ∀ l, l < h'.length → ι' l ≠ D) (hs : H k.aS ≠ none ∨ KScr k) (e : H' D = some (.lst vs)) :
    Post k ι h H ι' h' (L2.upd H' D (.lst us)) ∧ ∀ n, Keep k ι' n H' ι' n (L2.upd H' D (.lst us)) := by
  have kp : ∀ n, Keep k ι' n H' ι' n (L2.upd H' D (.lst us)) := fun n => ⟨Nat.le_refl _, fun _ _ => rfl, fun a xs q => by
    rcases q with (q | ⟨o, q⟩) | q
    · exact .inl (.inl (by rw [upd_ne (ne_of q e (fun z => by cases z))]; exact q))
    · exact .inl (.inr ⟨o, by rw [upd_ne (ne_of q e (fun z => by cases z))]; exact q⟩)
    · exact .inr q, fun a cls d q => by
      rw [upd_ne (ne_of q e (fun z => by unfold ExC at z; cases z))]
      exact q, fun a fs q => by
      rw [upd_ne (ne_of q e (fun z => by cases z))]
      exact q⟩
  refine ⟨⟨p.len, p.old, ⟨fun l o q => (p.rel.obj l o q).keep (kp _) fun ho z => ?_, p.rel.inj, ?_⟩, fun a o q ho => ?_, p.new⟩, kp⟩
  · rw [upd_ne (hn l (List.getElem?_eq_some_iff.mp q).1)]
    exact z
  · rcases p.rel.scr.ap with q | ⟨q1, q2⟩
    · exact ⟨.inr q, .inl q⟩
    · rcases hs with hs | hs
      · have ne : k.aS ≠ D := fun z => hs (by rw [z]; exact hD)
        have q3 : Rd (L2.upd H' D (.lst us)) k.aS (.lst (k.sc.map .int)) := by
          rcases q1 with q | ⟨o, q⟩
          · exact .inl (by rw [upd_ne ne]; exact q)
          · exact .inr ⟨o, by rw [upd_ne ne]; exact q⟩
        exact ⟨.inl q3, .inr ⟨q3, q2⟩⟩
      · exact ⟨.inr hs, .inl hs⟩
  · rw [upd_ne (ne_of_none q hD)]
    exact p.fr a o q ho
/-- a list beside ours becomes ours -/
theorem Post.adopt {ι ι' : Nat → Addr} {h h' : AH} {H H' : Hp} {D : Addr} {vs : List V} {ws : List W} (p : Post k ι h H ι' h' H') (hD : H D = none) (hn : ∀ l, l < h'.length → ι' l ≠ D) (hs : H k.aS ≠ none ∨ KScr k) (e : H' D = some (.lst vs)) (rv : RelWs k ι' h'.length H' ws vs) :
    Post k ι h H (snoc ι' h'.length D) (h' ++ [.lst ws]) H' := by
  have ln : (h' ++ [O.lst ws]).length = h'.length + 1 := by simp
  have kp : Keep k ι' h'.length H' (snoc ι' h'.length D) (h' ++ [O.lst ws]).length H' := ⟨by rw [ln]; exact Nat.le_succ _, fun l hl => snoc_lt hl, fun _ _ q => q, fun _ _ _ q => q, fun _ _ q => q⟩
  refine ⟨by rw [ln]; exact Nat.le_succ_of_le p.len, fun l hl => by rw [snoc_lt (Nat.lt_of_lt_of_le hl p.len)]; exact p.old l hl, ⟨fun l o q => ?_, fun l m hl hm z => ?_, ?_⟩, p.fr, fun l a b => ?_⟩
  · by_cases hl : l < h'.length
    · rw [List.getElem?_append_left hl] at q
      rw [snoc_lt hl]
      exact (p.rel.obj l o q).keep kp fun ho z => z
    · have hl2 : l < (h' ++ [O.lst ws]).length := (List.getElem?_eq_some_iff.mp q).1
      have el : l = h'.length := by rw [ln] at hl2; omega
      subst el
      simp at q
      subst q
      rw [snoc_eq]
      exact ⟨vs, e, RelWs.keep kp ws rv⟩
  · rw [ln] at hl hm
    by_cases h1 : l < h'.length
    · by_cases h2 : m < h'.length
      · rw [snoc_lt h1, snoc_lt h2] at z
        exact p.rel.inj l m h1 h2 z
      · have : m = h'.length := by omega
        subst this
        rw [snoc_lt h1, snoc_eq] at z
        exact absurd z (hn l h1)
    · have : l = h'.length := by omega
      subst this
      by_cases h2 : m < h'.length
      · rw [snoc_lt h2, snoc_eq] at z
        exact absurd z.symm (hn m h2)
      · omega
  · refine ⟨p.rel.scr.sq, ?_⟩
    rcases p.rel.scr.ap with q | ⟨q1, q2⟩
    · exact .inl q
    · rcases hs with hs | hs
      · refine .inr ⟨q1, fun l hl => ?_⟩
        by_cases h1 : l < h'.length
        · rw [snoc_lt h1]
          exact q2 l h1
        · have : l = h'.length := by rw [ln] at hl; omega
          subst this
          rw [snoc_eq]
          intro z
          exact hs (by rw [← z]; exact hD)
      · exact .inl hs
  · rw [ln] at b
    by_cases h1 : l < h'.length
    · rw [snoc_lt h1]
      exact p.new l a h1
    · have : l = h'.length := by omega
      subst this
      rw [snoc_eq]
      exact hD
theorem R.scrH {ι : Nat → Addr} {h : AH} {H : Hp} (r : R k ι h H) : H k.aS ≠ none ∨ KScr k := by
  rcases r.scr.ap with q | ⟨q1, q2⟩
  · exact .inr q
  · left
    rcases q1 with q | ⟨o, q⟩ <;> (rw [q]; intro z; cases z)
/-- the list of a comprehension, beside ours -/
def relL (k : Cst) (H0 : Hp) : Rel (List W) V := fun ws ι n H' v => ∃ D vs, v = .ref D ∧ H0 D = none ∧ H' D = some (.lst vs) ∧ RelWs k ι n H' ws vs ∧ ∀ l, l < n → ι l ≠ D
def tL (k : Cst) (g : Ev) (Wx : WX) (c : C) : TE := fun σ H Q => ∃ ι as h, RelS k ι h.length H as σ ∧ R k ι h H ∧ WPE k Wx σ (evalL g c as h) ι h H (relL k H) Q
theorem wipe_get {σ : L2.St} {j : Nat} : ∀ {vs : List Nat}, (wipe σ vs)[j]? = if j ∈ vs then (if j < σ.length then some none else none) else σ[j]?
  | [] => by simp [wipe]
  | v :: vs => by
    unfold wipe
    by_cases hj : v = j
    · subst hj
      by_cases hl : v < σ.length
      · rw [List.getElem?_set_self (by rw [wipe_length]; exact hl)]
        simp [hl]
      · rw [List.getElem?_eq_none (by rw [List.length_set, wipe_length]; omega)]
        simp [hl]
    · rw [List.getElem?_set_ne hj, wipe_get]
      have : (j ∈ v :: vs) ↔ j ∈ vs := by
        rw [List.mem_cons]
        exact ⟨fun z => z.elim (fun e => absurd e.symm hj) id, .inr⟩
      simp only [this]
theorem wipe_same {σ σ2 : L2.St} {vs sl : List Nat} (hl : σ2.length = (wipe σ vs).length) (hs : ∀ j ∈ sl, j ∈ vs) (e : ∀ j, j ∉ sl → σ2[j]? = (wipe σ vs)[j]?) : wipe σ2 vs = wipe σ vs := by
  apply List.ext_getElem?
  intro j
  rw [wipe_length] at hl
  by_cases hj : j ∈ vs
  · rw [wipe_get, wipe_get, if_pos hj, if_pos hj, hl]
  · rw [wipe_get, if_neg hj, e j fun z => hj (hs j z)]
theorem relS_wipe {ι : Nat → Addr} {n : Nat} {H : Hp} {as : St} {σ : L2.St} (rs : RelS k ι n H as σ) : ∀ vs : List Nat, RelS k ι n H (wipeA as vs) (wipe σ vs)
  | [] => rs
  | v :: vs => by
    have q := relS_wipe rs vs
    unfold wipeA wipe
    refine ⟨by rw [List.length_set, List.length_set]; exact q.1, fun j w e => ?_⟩
    by_cases hj : v = j
    · subst hj
      by_cases hl : v < (wipeA as vs).length
      · rw [List.getElem?_set_self hl] at e
        cases e
      · rw [List.getElem?_eq_none (by rw [List.length_set]; omega)] at e
        cases e
    · rw [List.getElem?_set_ne hj] at e ⊢
      exact q.2 j w e
/-- one turn -/
def cTurn (g : Ev) (vs : List Nat) (tg : Tg) (ifs : List T) (elt : C) (as : St) : W → AH → Res (Option W) := fun w h2 => (asgT g tg w (wipeA as vs) h2).bind fun σ2 h3 => (evalIf g ifs σ2 h3).bind fun c h4 =>
    if c then (evalE g elt σ2 h4).bind fun y h5 => .ok (some y) h5 else .ok none h4
theorem Res.bind_eq {α β : Type} {r : Res α} {f : α → AH → Res β} {b : β} {h : AH} (e : r.bind f = .ok b h) : ∃ a h1, r = .ok a h1 ∧ f a h1 = .ok b h := by
  cases r with
  | ok a h1 => exact ⟨a, h1, rfl, e⟩
  | exc _ _ _ _ => cases e
  | stuck => cases e
theorem compLoop_held {f : W → AH → Res (Option W)} {held : List (Nat × List W)} {ws : List W} {h : AH} {r : List W} {hf : AH} (e : compLoop f held ws h = .ok r hf) : heldOk held h = true := by
  cases ws with
  | nil =>
    unfold compLoop at e
    split at e
    · assumption
    · cases e
  | cons w ws =>
    unfold compLoop at e
    split at e
    · assumption
    · cases e
theorem compLoop_cons {f : W → AH → Res (Option W)} {held : List (Nat × List W)} {w : W} {ws : List W} {h : AH} {r : List W} {hf : AH} (e : compLoop f held (w :: ws) h = .ok r hf) : ∃ o h1 r2, f w h = .ok o h1 ∧ compLoop f held ws h1 = .ok r2 hf ∧ r = o.toList ++ r2 := by
  unfold compLoop at e
  split at e
  · obtain ⟨o, h1, e1, e⟩ := Res.bind_eq e
    obtain ⟨r2, h2, e2, e⟩ := Res.bind_eq e
    cases e
    exact ⟨o, h1, r2, e1, e2, rfl⟩
  · cases e
theorem compLoop_nil {f : W → AH → Res (Option W)} {held : List (Nat × List W)} {h : AH} {r : List W} {hf : AH} (e : compLoop f held [] h = .ok r hf) : r = [] ∧ hf = h := by
  unfold compLoop at e
  split at e
  · cases e
    exact ⟨rfl, rfl⟩
  · cases e
theorem beside_step {ι ι' : Nat → Addr} {h h' : AH} {H H' : Hp} {D : Addr} {o : HO} (q : Post k ι h H ι' h' H') (hn : ∀ l, l < h.length → ι l ≠ D) (e : H D = some o) : H' D = some o ∧ ∀ l, l < h'.length → ι' l ≠ D := by
  refine ⟨q.fr D o e hn, fun l hl z => ?_⟩
  by_cases h1 : l < h.length
  · rw [q.old l h1] at z
    exact hn l h1 z
  · have := q.new l (by omega) hl
    rw [z, e] at this
    cases this
abbrev Wf : WX := fun _ _ _ _ => False
def tIfs (k : Cst) (g : Ev) (ifs : List T) : TT := tR k Wf relB fun as h => evalIf g ifs as h
theorem lc_A {vs : List Nat} {tg : Tg} {ifs : List T} {elt : C} {as : St} {σ : L2.St} {ι1 : Nat → Addr} {h1 hf : AH} {H1 : Hp} {src : Src} {J : L2.It} {rs : List W} {Q : VK} (hsl : ∀ j ∈ slotsT tg, j ∈ vs) (it : ItA k ι1 h1.length H1 src J) (r0 : R k ι1 h1 H1) (rs0 : RelS k ι1 h1.length H1 as σ)
    (e0 : compLoop (cTurn g vs tg ifs elt as) src.held src.items h1 = .ok rs hf) (hz : rs.length ≤ 1000000)
    (hQ : ∀ ι' H' D us, Post k ι1 h1 H1 ι' hf H' → H1 D = none → (∀ l, l < hf.length → ι' l ≠ D) → H' D = some (.lst us) → RelWs k ι' hf.length H' rs us → Q (.ref D) H') :
    ∀ D, H1 D = none → ∃ W : Nat → Nat → Hp → Prop, (∃ m, W 0 m (L2.upd H1 D (.lst []))) ∧ ∀ i m H, W i m H →
      (J.stop i H ∧ Q (.ref D) H) ∨ (J.go i H ∧ ∃ Nx : Hp → Prop, (∀ H', Nx H' → ∃ m', m' < m ∧ W (i + 1) m' H') ∧ ∀ x H', J.yld i H x H' → tG k g tg x (wipe σ vs) H' fun σ2 H2 => wipe σ2 vs = wipe σ vs ∧ tIfs k g ifs σ2 H2 fun b H3 =>
        if b = true then tE k g Wf elt σ2 H3 fun y H4 => ∃ acc, H4 D = some (.lst acc) ∧ acc.length < sizeLine ∧ Nx (L2.upd H4 D (.lst (acc ++ [y]))) else Nx H3) := by
  intro D hD
  have wk : Walk J src.items.length (fun H => ∃ ι' h', Now k ι1 h1.length H1 src ι' h' H) J.yld :=
    ⟨fun i H hi ⟨ι', h', n⟩ => it.go ι' h' H i n hi, fun H ⟨ι', h', n⟩ => it.stop ι' h' H n, fun i H x H' hi _ y => y⟩
  refine lc_it wk (Qd := fun H => Q (.ref D) H) (fun i H => ∃ ι' h' acc wacc r, Post k ι1 h1 H1 ι' h' H ∧ (∀ l, l < h'.length → ι' l ≠ D) ∧ H D = some (.lst acc) ∧ RelWs k ι' h'.length H wacc acc ∧ compLoop (cTurn g vs tg ifs elt as) src.held (src.items.drop i) h' = .ok r hf ∧ wacc ++ r = rs) ?_ ?_ ?_ ?_
  · refine ⟨ι1, h1, [], [], rs, Post.side r0 hD, fun l hl z => ?_, upd_same, .nil, e0, rfl⟩
    obtain ⟨o, q⟩ := r0.has hl
    rw [z, hD] at q
    cases q
  · rintro i H hi ⟨ι', h', acc, wacc, r, P, hn, e1, rw1, e2, e3⟩
    exact ⟨ι', h', P.keep r0, P.rel, compLoop_held e2⟩
  · rintro i x H H' hi ⟨ι', h', acc, wacc, r, P, hn, e1, rw1, e2, e3⟩ y
    obtain ⟨w, ew, p1, rwx⟩ := it.yld ι' h' H i x H' ⟨P.keep r0, P.rel, compLoop_held e2⟩ hi y
    have ed : src.items.drop i = w :: src.items.drop (i + 1) := by
      rw [List.drop_eq_getElem_cons hi]
      congr 1
      have : src.items[i]? = some src.items[i] := by simp [hi]
      rw [this] at ew
      exact Option.some.inj ew
    rw [ed] at e2
    obtain ⟨o, h5, r2, f1, f2, f3⟩ := compLoop_cons e2
    unfold cTurn at f1
    obtain ⟨as2, h3, a1, f1⟩ := Res.bind_eq f1
    obtain ⟨c, h4, a2, f1⟩ := Res.bind_eq f1
    have rs1 : RelS k ι' h'.length H' as σ := (rs0.keep (P.keep r0)).keep (p1.keep P.rel)
    refine ⟨ι', wipeA as vs, h', w, relS_wipe rs1 vs, p1.rel, rwx, ?_⟩
    rw [a1]
    intro ι2 H2 σ2 p2 rs2
    refine ⟨wipe_same rs2.2.1 hsl rs2.2.2, ι2, as2, h3, rs2.1, p2.rel, ?_⟩
    dsimp only
    rw [a2]
    intro ι3 H3 b p3 eb
    have eb : c = b := eb
    subst eb
    have q3 := (p1.trans P.rel p2).trans P.rel p3
    cases c with
    | false =>
      rw [if_neg Bool.false_ne_true]
      have f1 : Res.ok none h4 = Res.ok o h5 := f1
      cases f1
      obtain ⟨d1, d2⟩ := beside_step q3 hn e1
      exact ⟨ι3, h5, acc, wacc, r2, P.trans r0 q3, d2, d1, RelWs.keep (q3.keep P.rel) _ rw1, f2, by rw [← e3, f3]; rfl⟩
    | true =>
      rw [if_pos rfl]
      rw [if_pos rfl] at f1
      obtain ⟨yw, h6, a3, f1⟩ := Res.bind_eq f1
      cases f1
      refine ⟨ι3, as2, h4, rs2.1.keep (p3.keep p2.rel), p3.rel, ?_⟩
      dsimp only
      rw [a3]
      intro ι4 H4 v p4 rv
      have q4 := q3.trans P.rel p4
      obtain ⟨d1, d2⟩ := beside_step q4 hn e1
      have rw2 := RelWs.keep (q4.keep P.rel) _ rw1
      refine ⟨acc, d1, ?_, ?_⟩
      · rw [← rw1.len, sizeLine_eq]
        have : (wacc ++ r).length = rs.length := by rw [e3]
        rw [f3, List.length_append] at this
        simp at this
        omega
      · obtain ⟨b1, b2⟩ := Post.beside (us := acc ++ [v]) (P.trans r0 q4) hD d2 r0.scrH d1
        exact ⟨ι4, h5, acc ++ [v], wacc ++ [yw], r2, b1, d2, upd_same, RelWs.append (RelWs.keep (b2 _) _ rw2) (RelWs.cons (RelW.keep (b2 _) _ rv) .nil), f2, by rw [← e3, f3]; simp⟩
  · rintro H ⟨ι', h', acc, wacc, r, P, hn, e1, rw1, e2, e3⟩
    rw [List.drop_length] at e2
    obtain ⟨rfl, rfl⟩ := compLoop_nil e2
    rw [List.append_nil] at e3
    subst e3
    exact hQ ι' H D acc P hD hn e1 rw1
theorem noSet_of {i : Expr} {env : Env} (h : noSet i = true) : ∀ x, foldedSetIterable i env x = pure x := fun x => by
  cases i <;> first | rfl | (cases h; done)
theorem compW_eq {itf : Res Src} {asg : W → AH → Res St} {iff : St → AH → Res Bool} {elt : St → AH → Res W} : compW itf asg iff elt = itf.bind fun src h1 => (toNoExc (compLoop (fun w h2 => (asg w h2).bind fun σ2 h3 => (iff σ2 h3).bind fun c h4 =>
    if c then (elt σ2 h4).bind fun y h5 => .ok (some y) h5 else .ok none h4) src.held src.items h1)).bind fun ws h => if szOk ws.length then .ok ws h else .stuck := rfl
theorem WPE.loop {α : Type} {r : Res (List W)} {ι : Nat → Addr} {h : AH} {H : Hp} {σ : L2.St} {rel : Rel (List W) α} {Q : α → Hp → Prop} (w : WPE k Wx σ ((toNoExc r).bind fun ws h => if szOk ws.length then .ok ws h else .stuck) ι h H rel Q) :
    ∃ rs hf, r = .ok rs hf ∧ rs.length ≤ 1000000 ∧ ∀ ι' H' b, Post k ι h H ι' hf H' → rel rs ι' hf.length H' b → Q b H' := by
  cases r with
  | ok rs hf =>
    have w : WPE k Wx σ (if szOk rs.length then .ok rs hf else .stuck) ι h H rel Q := w
    split at w
    · rename_i hz
      exact ⟨rs, hf, rfl, of_decide_eq_true hz, w⟩
    · exact w.elim
  | exc _ _ _ _ => exact w.elim
  | stuck => exact w.elim
/-- the block's context -/
theorem CxO.blk (cx : CxO X k gl g lv fA se) (scope : Scope) (s : Shared) (H : Hp) (C : Addr) (cl : List (Str × Addr)) (fp : List Addr) :
    CxO (X.blk s H scope (compEnvC scope cl C X.env) fp) k gl g lv fA { se with sc := L2.relS scope se.sc, fb := fun x => scope.names.lookup x == some .cell } where
  K := cx.K
  w := cx.w
  quiet := cx.quiet
  calm := cx.calm
  N := cx.N
  sc := by
    show L2.relS scope X.env.scope = L2.relS scope se.sc
    rw [cx.sc]
  fn := fun x h => h
  nd := cx.nd
  room := cx.room
  fx := cx.fx
theorem takes_blk {s : Shared} {H : Hp} {scope : Scope} {env : Env} {fp : List Addr} : Takes (X.blk s H scope env fp) Wf := fun u s' ⟨_, _, _, _, _, _, _, _, _, _, _, _, _, _, _, _, z⟩ => z
/-- what the comprehension's parts are -/
structure LcOk (X : Cx) (k : Cst) (g : Ev) (Wx : WX) (y t i : Expr) (fs : List Expr) (scope : Scope) (own : List (Str × Nat)) (tg : Tg) (it : It) (ifs : List T) (elt : C) : Prop where
  hi : PI X t i (tI k g Wx it)
  ok : BlkOk X.N X.env.scope scope own
  sl : ∀ j ∈ slotsT tg, j ∈ own.map (·.2)
  hg : ∀ (s : Shared) (H : Hp) (C : Addr) (cl : List (Str × Addr)) (fp : List Addr), PG (X.blk s H scope (compEnvC scope cl C X.env) fp) t (tG k g tg)
  ht : ∀ (s : Shared) (H : Hp) (C : Addr) (cl : List (Str × Addr)) (fp : List Addr), PTs (X.blk s H scope (compEnvC scope cl C X.env) fp) fs (tIfs k g ifs)
  he : ∀ (s : Shared) (H : Hp) (C : Addr) (cl : List (Str × Addr)) (fp : List Addr), PE (X.blk s H scope (compEnvC scope cl C X.env) fp) y (tE k g Wf elt)
  ns : noSet i = true
theorem lc_read {y t i : Expr} {fs : List Expr} {scope : Scope} {own : List (Str × Nat)} {tg : Tg} {it : It} {ifs : List T} {elt : C} (lc : LcOk X k g Wx y t i fs scope own tg it ifs elt) {σ : L2.St} {H : Hp} {Q : VK} (w : tL k g Wx (.comp own tg it ifs elt) σ H Q) :
    tLc (tI k g Wx it) (tG k g tg) (tIfs k g ifs) (tE k g Wf elt) (own.map (·.2)) σ H Q := by
  obtain ⟨ι, as, h, rs, r, w⟩ := w
  rw [evalL, compW_eq] at w
  unfold tLc
  refine ⟨ι, as, h, rs, r, (WPE.bind (rel := relJ k) (rel2 := relL k H) r w).imp fun J H1 ⟨src, ι1, h1, p, it, w⟩ => ?_⟩
  obtain ⟨rs', hf, e0, hz, hQ⟩ := WPE.loop w
  refine lc_A lc.sl it p.rel (rs.keep (p.keep r)) e0 hz fun ι' H' D us q hD hn eD rv => ?_
  exact hQ ι' H' _ q ⟨D, us, rfl, Post.none_of r p hD, eD, rv, hn⟩
theorem l_comp {y t i : Expr} {fs : List Expr} {scope : Scope} {own : List (Str × Nat)} {tg : Tg} {it : It} {ifs : List T} {elt : C} {pos : Pos} (cx : CxO X k gl g lv fA se) (lc : LcOk X k g Wx y t i fs scope own tg it ifs elt) : PE X (.ListComp y [⟨t, i, fs, 0⟩] scope pos) (tL k g Wx (.comp own tg it ifs elt)) :=
  PE.of (pe_lc cx.calm cx.nd lc.hi lc.ok lc.hg lc.ht lc.he (noSet_of lc.ns)) fun σ H Q w => lc_read lc w
/-- the list as a value -/
theorem tE_tL {own : List (Str × Nat)} {tg : Tg} {it : It} {ifs : List T} {elt : C} {σ : L2.St} {H : Hp} {Q : VK} (w : tE k g Wx (.comp own tg it ifs elt) σ H Q) : tL k g Wx (.comp own tg it ifs elt) σ H Q := by
  obtain ⟨ι, as, h, rs, r, w⟩ := w
  dsimp only at w
  rw [evalE] at w
  refine ⟨ι, as, h, rs, r, ?_⟩
  rw [evalL]
  revert w
  cases compW (evalI g it as h) (fun w h2 => asgT g tg w (wipeA as (own.map (·.2))) h2) (fun σ2 h3 => evalIf g ifs σ2 h3) (fun σ2 h4 => evalE g elt σ2 h4) with
  | ok ws h1 =>
    intro w ι1 H1 v p e
    obtain ⟨D, us, rfl, hD, eD, rv, hn⟩ := e
    refine w _ _ _ (Post.adopt p hD hn r.scrH eD rv) ?_
    unfold relW RelW
    exact ⟨by simp, by rw [snoc_eq]⟩
  | exc _ _ _ _ => exact fun w => w
  | stuck => exact fun w => w
theorem e_comp {y t i : Expr} {fs : List Expr} {scope : Scope} {own : List (Str × Nat)} {tg : Tg} {it : It} {ifs : List T} {elt : C} {pos : Pos} (cx : CxO X k gl g lv fA se) (lc : LcOk X k g Wx y t i fs scope own tg it ifs elt) : PE X (.ListComp y [⟨t, i, fs, 0⟩] scope pos) (tE k g Wx (.comp own tg it ifs elt)) :=
  PE.of (l_comp cx lc) fun σ H Q w => tE_tL w
theorem e_primc {x : Str} {p : Prim} {e : Expr} {c : C} {px pos : Pos} (cx : CxO X k gl g lv fA se) (go : GOk X gl x .blt) (hx : x = primName p) (hp : isIsi p = false) (he : PE X e (tL k g Wx c)) (hst : noStar e = true) :
    PE X (.Call (.Name x px) [e] [] pos) (tE k g Wx (.primc p c)) := by
  have hm := cx.fx.gbl x go.lk
  have rd : ∀ σ H Q, tE k g Wx (.primc p c) σ H Q → tCB (rPrimL k p) (tCons (tL k g Wx c) tNil) σ H Q := fun σ H Q w => by
    obtain ⟨ι, as, h, rs, r, w⟩ := w
    dsimp only at w
    rw [evalE] at w
    refine ⟨ι, as, h, rs, r, (WPE.bind (rel := relL k H) (rel2 := relW k) r w).imp fun v H1 ⟨ws, ι1, h1, p, e, w⟩ => ?_⟩
    obtain ⟨D, us, rfl, hD, eD, rv, hn⟩ := e
    exact ⟨ι1, h1, ws, us, D, p.rel, rfl, eD, rv, WPV.of w fun c xs ws h' => primL_nx c xs ws h'⟩
  have hc := call_primL (X := X) cx.K cx.calm p
  have hn := go.nm
  have ha : PA X [e] (tCons (tL k g Wx c) tNil) := pa_cons he pa_nil (star_of hst)
  subst hx
  cases p <;> first
    | (cases hp; done)
    | exact PE.of (pe_callB hc go.gi hm (by decide +kernel) ha hn go.db (star_of hst) rfl) rd
    | exact PE.of (pe_callTy hc go.gi hm (by decide +kernel) ha hn go.db (star_of hst) rfl) rd
theorem bmL_extend {x : W} {ws : List W} {h : AH} {σ : L2.St} {ι : Nat → Addr} {H : Hp} {Q : VK} {l : Nat} (w0 : WPE k Wx σ (bmL .extend (.loc l) ws h) ι h H (relW k) Q) : ∃ xs, h[l]? = some (.lst xs) ∧ szOk (xs.length + ws.length) = true ∧
    WPE k Wx σ (.ok .non (h.set l (.lst (xs ++ ws)))) ι h H (relW k) Q := by
  have w0 : WPE k Wx σ (match h[l]? with
    | some (.lst xs) => if szOk (xs.length + ws.length) then .ok .non (h.set l (.lst (xs ++ ws))) else .stuck
    | _ => .stuck) ι h H (relW k) Q := w0
  split at w0
  · rename_i xs e1
    split at w0
    · rename_i hz
      exact ⟨xs, e1, hz, w0⟩
    · exact w0.elim
  · exact w0.elim
/-- l.extend([..]) -/
theorem e_bmcX {o e : Expr} {c c1 : C} {apos pos : Pos} (cx : CxO X k gl g lv fA se) (ho : PE X o (tE k g Wx c)) (he : PE X e (tL k g Wx c1)) (h0 : noSuper o = true) (hst : noStar e = true) (hl : (apos.endLine == pos.line) = true) :
    PE X (.Call (.Attribute o "extend" apos) [e] [] pos) (tE k g Wx (.bmc .extend c c1)) := by
  have hs2 : [e].all noStar = true := by simpa using hst
  have ha : PA X [e] (tCons (tL k g Wx c1) tNil) := pa_cons he pa_nil (star_of hst)
  refine PE.of (pe_bm PySem.F.plainAttrs_list PySem.F.slot_list_extend PySem.F.type_list_extend mt_extend ho ha (base_of h0) (few_of hs2 (by show 1 < 20; decide)) hl (star_of hst) rfl) fun σ H Q w => ?_
  obtain ⟨ι, as, h, rs, r, w⟩ := w
  dsimp only at w
  rw [evalE] at w
  unfold tBM
  refine (nxt (fun _ _ _ => True) kpT rs r trivial w).imp fun x H1 ⟨ι, h, wx, rs, r, _, rx, w⟩ => ?_
  split at w
  · rename_i hb
    obtain ⟨l, xs0, rfl, e2⟩ := bmT_lst (by simp) hb
    unfold relW RelW at rx
    obtain ⟨hlt, rfl⟩ := rx
    obtain ⟨vs, hv, rv⟩ := r.lst e2
    refine ⟨.inl ⟨rfl, vs, .of hv⟩, ?_⟩
    refine ⟨ι, as, h, rs, r, (WPE.bind (rel := relL k H1) (rel2 := relW k) r w).imp fun v H2 ⟨ws, ι1, h1, p, e, w⟩ => ?_⟩
    obtain ⟨D, us, rfl, hD, eD, rv2, hn⟩ := e
    obtain ⟨xs, e3, hz, w⟩ := bmL_extend (x := .non) w
    have r1 := p.rel
    obtain ⟨vs1, hv1, rv1⟩ := r1.lst e3
    have hlt1 : l < h1.length := Nat.lt_of_lt_of_le hlt p.len
    have ei := p.old l hlt
    refine ⟨ι l, D, vs1, us, rfl, rfl, by rw [← ei]; exact hv1, eD, by rw [← rv1.len, ← rv2.len]; exact sz_ok hz, ?_⟩
    rw [← ei]
    exact w ι1 _ _ (Post.set (ho := .lst (vs1 ++ us)) r1 hlt1 fun H' kp e => ⟨_, e, RelWs.append (RelWs.keep kp _ rv1) (RelWs.keep kp _ rv2)⟩) (by unfold relW RelW; rfl)
  · exact w.elim
end
end AM
/-! Statements. -/
namespace AM
open PySem L2
def WPO (k : Cst) (Wx : WX) (o : Out) (ι : Nat → Addr) (h : AH) (H : Hp) (D : Ends) : Prop := match o with
  | .next as' h' => ∀ ι' H' σ', Post k ι h H ι' h' H' → RelS k ι' h'.length H' as' σ' → D.nx σ' H'
  | .ret w h' => ∀ ι' H' v, Post k ι h H ι' h' H' → RelW k ι' h'.length H' w v → D.rt v H'
  | .brk as' h' => ∀ ι' H' σ', Post k ι h H ι' h' H' → RelS k ι' h'.length H' as' σ' → D.bk σ' H'
  | .cont as' h' => ∀ ι' H' σ', Post k ι h H ι' h' H' → RelS k ι' h'.length H' as' σ' → D.ct σ' H'
  | .exc c xs ws as' h' => ∀ ι' H' d σ', Post k ι h H ι' h' H' → RelS k ι' h'.length H' as' σ' → ExD k ι' h'.length H' d xs ws → Wx (.ref (k.cA c)) d σ' H'
  | .stuck => False
section
variable {X : Cx} {k : Cst} {gl : Gl} {g : Ev} {lv : Nat} {fA : Nat → Addr} {se : SE} {Wx : WX}
variable {o : Out} {ι ι1 : Nat → Addr} {h h1 : AH} {H H1 : Hp} {D D' : Ends} {as : St} {σ : L2.St}
theorem WPO.move (r0 : R k ι h H) (p : Post k ι h H ι1 h1 H1) (w : WPO k Wx o ι h H D) : WPO k Wx o ι1 h1 H1 D := by
  cases o with
  | next as' h' => exact fun ι' H' σ' q e => w ι' H' σ' (p.trans r0 q) e
  | ret w' h' => exact fun ι' H' σ' q e => w ι' H' σ' (p.trans r0 q) e
  | brk as' h' => exact fun ι' H' σ' q e => w ι' H' σ' (p.trans r0 q) e
  | cont as' h' => exact fun ι' H' σ' q e => w ι' H' σ' (p.trans r0 q) e
  | exc c xs ws as' h' => exact fun ι' H' d σ' q e => w ι' H' d σ' (p.trans r0 q) e
  | stuck => exact w
theorem WPO.then {α β : Type} {rel : Rel α β} {r : Res α} {f : α → AH → Out} (r0 : R k ι h H) (rs : RelS k ι h.length H as σ) (w : WPO k Wx (r.then as f) ι h H D) :
    WPE k Wx σ r ι h H rel fun b H1 => ∃ a ι1 h1, Post k ι h H ι1 h1 H1 ∧ rel a ι1 h1.length H1 b ∧ WPO k Wx (f a h1) ι1 h1 H1 D := by
  cases r with
  | ok a h' => exact fun ι' H' b p e => ⟨a, ι', h', p, e, WPO.move r0 p w⟩
  | exc c xs ws h' => exact fun ι' H' d p e => w ι' H' d σ p (rs.keep (p.keep r0)) e
  | stuck => exact w
theorem WPO.seq {f : St → AH → Out} (r0 : R k ι h H) (w : WPO k Wx (o.seq f) ι h H D) :
    WPO k Wx o ι h H { D with nx := fun σ' H' => ∃ ι' as' h', RelS k ι' h'.length H' as' σ' ∧ R k ι' h' H' ∧ WPO k Wx (f as' h') ι' h' H' D } := by
  cases o with
  | next as' h' => exact fun ι' H' σ' p e => ⟨ι', as', h', e, p.rel, WPO.move r0 p w⟩
  | ret w' h' => exact w
  | brk as' h' => exact w
  | cont as' h' => exact w
  | exc c xs ws as' h' => exact w
  | stuck => exact w
/-! ### readings -/
def tO (k : Cst) (Wx : WX) (f : St → AH → Out) : TS := fun D σ H => ∃ ι as h, RelS k ι h.length H as σ ∧ R k ι h H ∧ WPO k Wx (f as h) ι h H D
def tS (k : Cst) (g : Ev) (Wx : WX) (s : S) : TS := tO k Wx fun as h => evalS g s as h
def tSs (k : Cst) (g : Ev) (Wx : WX) (ss : List S) : TS := tO k Wx fun as h => evalSs g ss as h
/-- an expression, then the rest -/
theorem nxtO {α β : Type} {rel : Rel α β} {f : St → AH → Res α} {f2 : α → AH → Out} (rs : RelS k ι h.length H as σ) (r : R k ι h H) (w : WPO k Wx ((f as h).then as f2) ι h H D) :
    tR k Wx rel f σ H fun b H1 => ∃ ι h a, RelS k ι h.length H1 as σ ∧ R k ι h H1 ∧ rel a ι h.length H1 b ∧ WPO k Wx (f2 a h) ι h H1 D :=
  ⟨ι, as, h, rs, r, (WPO.then (rel := rel) r rs w).imp fun b H1 ⟨a, ι1, h1, p, ra, w⟩ => ⟨ι1, h1, a, rs.keep (p.keep r), p.rel, ra, w⟩⟩
theorem WPO.nextS (r : R k ι h H) (w : WPO k Wx (.next as h) ι h H D) (rs : RelS k ι h.length H as σ) : D.nx σ H := w ι H σ (Post.refl r) rs
/-- the context of a def's body, and of a try's suite in it -/
structure CxS (X : Cx) (k : Cst) (gl : Gl) (g : Ev) (lv : Nat) (fA : Nat → Addr) (se : SE) (W : WX) : Prop extends CxO X k gl g lv fA se where
  fun_ : X.env.scope.kind = .function
  stk : X.stack = X.env :: X.outer
  frm : X.env.frame = some X.env.locals
  exn : X.ex = []
  own : PassesOwn (model X.prog X.w) X.A X.env X.xe
  tk : Takes X W
variable {st : Stmt} {pos : Pos}
theorem s_pass : PS X (.Pass pos) (tS k g Wx .pass) := PS.of ps_pass fun D σ H ⟨ι, as, h, rs, r, w⟩ => by
  dsimp only at w
  rw [evalS] at w
  exact w.nextS r rs
theorem s_brk : PS X (.Break pos) (tS k g Wx .brk) := PS.of ps_break fun D σ H ⟨ι, as, h, rs, r, w⟩ => by
  dsimp only at w
  rw [evalS] at w
  exact w ι H σ (Post.refl r) rs
theorem s_cont : PS X (.Continue pos) (tS k g Wx .cont) := PS.of ps_continue fun D σ H ⟨ι, as, h, rs, r, w⟩ => by
  dsimp only at w
  rw [evalS] at w
  exact w ι H σ (Post.refl r) rs
theorem s_never : PS X st (tS k g Wx .never) := PS.of ps_never fun D σ H ⟨ι, as, h, rs, r, w⟩ => by
  dsimp only at w
  rw [evalS] at w
  exact w
theorem s_retn : PS X (.Return none pos) (tS k g Wx .retn) := PS.of ps_retN fun D σ H ⟨ι, as, h, rs, r, w⟩ => by
  dsimp only at w
  rw [evalS] at w
  exact w ι H .non (Post.refl r) (by unfold RelW; rfl)
theorem s_ret {e : Expr} {c : C} (he : PE X e (tE k g Wx c)) : PS X (.Return (some e) pos) (tS k g Wx (.ret c)) := PS.of (ps_ret he) fun D σ H ⟨ι, as, h, rs, r, w⟩ => by
  dsimp only at w
  rw [evalS] at w
  exact (nxtO (rel := relW k) rs r w).imp fun v H1 ⟨ι, h, a, rs, r, ra, w⟩ => w ι H1 v (Post.refl r) ra
theorem noComp_of {e : Expr} {t : Option Expr} {n : Nat} {env : Env} (h : noComp e = true) : swapsWith e t n env = pure false := by
  cases e <;> first | rfl | (cases h; done)
theorem s_ex {e : Expr} {c : C} (he : PE X e (tE k g Wx c)) (hn : noComp e = true) : PS X (.Expr e pos) (tS k g Wx (.ex c)) := PS.of (ps_expr he (noComp_of hn)) fun D σ H ⟨ι, as, h, rs, r, w⟩ => by
  dsimp only at w
  rw [evalS] at w
  exact (nxtO (rel := relW k) rs r w).imp fun v H1 ⟨ι, h, a, rs, r, ra, w⟩ => w.nextS r rs
theorem s_iff {c : Expr} {a b : List Stmt} {t : T} {x y : List S} (hc : PT X c (tT k g Wx t)) (ha : PSs X a (tSs k g Wx x)) (hb : PSs X b (tSs k g Wx y)) : PS X (.If c a b pos) (tS k g Wx (.iff t x y)) :=
  PS.of (ps_if hc ha hb) fun D σ H ⟨ι, as, h, rs, r, w⟩ => by
    dsimp only at w
    rw [evalS] at w
    unfold tIfS
    refine (nxtO (rel := relB) rs r w).imp fun v H1 ⟨ι, h, a, rs, r, ra, w⟩ => ?_
    have ra : a = v := ra
    subst ra
    cases a with
    | true => exact ⟨ι, as, h, rs, r, w⟩
    | false => exact ⟨ι, as, h, rs, r, w⟩
theorem ss_nil : PSs X [] (tSs k g Wx []) := PSs.of pss_nil fun D σ H ⟨ι, as, h, rs, r, w⟩ => by
  dsimp only at w
  rw [evalSs] at w
  exact w.nextS r rs
theorem ss_cons {sts : List Stmt} {s : S} {ss : List S} (h1 : PS X st (tS k g Wx s)) (h2 : PSs X sts (tSs k g Wx ss)) : PSs X (st :: sts) (tSs k g Wx (s :: ss)) := PSs.of (pss_cons h1 h2) fun D σ H ⟨ι, as, h, rs, r, w⟩ => by
  dsimp only at w
  rw [evalSs] at w
  refine ⟨ι, as, h, rs, r, ?_⟩
  exact WPO.seq r w
/-! ### assignments -/
theorem asg_read {t : Tg} {w : W} {v : V} (r : R k ι h H) (rs : RelS k ι h.length H as σ) (rv : RelW k ι h.length H w v) (w0 : WPO k Wx ((toNoExc (asgT g t w as h)).then as fun σ1 h2 => .next σ1 h2) ι h H D) : tG k g t v σ H D.nx := by
  refine ⟨ι, as, h, w, rs, r, rv, ?_⟩
  revert w0
  cases asgT g t w as h with
  | ok as' h' => exact fun w0 ι' H' σ' p e => w0 ι' H' σ' p e.1
  | exc _ _ _ _ => exact fun w0 => w0
  | stuck => exact fun w0 => w0
theorem s_asg {tg e : Expr} {t : Tg} {c : C} (he : PE X e (tE k g Wx c)) (hg : PG X tg (tG k g t)) (hst : noStar tg = true) (hs : swapsWith e (some tg) pos.line X.env = pure false) (hw : swappedStores [tg] e X.env = pure none) : PS X (.Assign [tg] e pos) (tS k g Wx (.asg t c)) :=
  PS.of (ps_asg he hg hs hw (by rw [asg_of hst]; rfl)) fun D σ H ⟨ι, as, h, rs, r, w⟩ => by
    dsimp only at w
    rw [evalS] at w
    unfold tAsg
    exact (nxtO (rel := relW k) rs r w).imp fun v H1 ⟨ι, h, a, rs, r, ra, w⟩ => asg_read r rs ra w
theorem aug_nx {op : Bop} {x y z : W} (e : augW op x y = some z) : ∃ i j, x = .int i ∧ y = .int j ∧ ((op = .add ∧ z = .int (i + j)) ∨ (op = .sub ∧ z = .int (i - j))) := by
  unfold augW at e
  split at e
  · cases e
    exact ⟨_, _, rfl, rfl, .inl ⟨rfl, rfl⟩⟩
  · cases e
    exact ⟨_, _, rfl, rfl, .inr ⟨rfl, rfl⟩⟩
  · cases e
theorem s_aug {x : Str} {i : Nat} {e : Expr} {c : C} {op : Bop} {pos' : Pos} (cx : CxO X k gl g lv fA se) (ok : okSt se x i = true) (hop : op = .add ∨ op = .sub) (he : PE X e (tE k g Wx c)) : PS X (.AugAssign (.Name x pos') (bopOf op) e pos) (tS k g Wx (.aug (.nm i) op c)) := by
  obtain ⟨h1, h2, h3⟩ := loc_of cx ok
  have rd : ∀ (f : Int → Int → Int), (∀ x y z, augW op x y = some z → ∃ i j, x = .int i ∧ y = .int j ∧ z = .int (f i j)) → ∀ D σ H, tS k g Wx (.aug (.nm i) op c) D σ H → tAug i (tE k g Wx c) (ipI f) D σ H := fun f hf D σ H ⟨ι, as, h, rs, r, w⟩ => by
    dsimp only at w
    rw [evalS] at w
    split at w
    · rename_i x0 ex
      obtain ⟨v, e1, e2⟩ := rs.2 i x0 ex
      refine ⟨v, e1, ι, as, h, rs, r, (WPO.then (rel := relW k) r rs w).imp fun y H1 ⟨a, ι1, h1, p, ra, w⟩ => ?_⟩
      split at w
      · rename_i z ez
        obtain ⟨i', j', rfl, rfl, rfl⟩ := hf _ _ _ ez
        unfold RelW at e2
        unfold relW RelW at ra
        subst e2 ra
        exact ⟨i', j', rfl, rfl, w.nextS p.rel ((rs.keep (p.keep r)).set (by unfold RelW; rfl))⟩
      · exact w.elim
    · exact w.elim
  rcases hop with rfl | rfl
  · refine PS.of (ps_aug cx.nd h1 h2 he ip_add h3) (rd _ fun x y z e => ?_)
    obtain ⟨i', j', e1, e2, ⟨_, e3⟩ | ⟨e3, _⟩⟩ := aug_nx e
    · exact ⟨i', j', e1, e2, e3⟩
    · cases e3
  · refine PS.of (ps_aug cx.nd h1 h2 he ip_sub h3) (rd _ fun x y z e => ?_)
    obtain ⟨i', j', e1, e2, ⟨e3, _⟩ | ⟨_, e3⟩⟩ := aug_nx e
    · cases e3
    · exact ⟨i', j', e1, e2, e3⟩
theorem subW_nx {x i : W} {h : AH} (c xs ws h') : subW x i h ≠ .exc c xs ws h' := by
  have z : ∀ kvs i, dicR kvs i h ≠ .exc c xs ws h' := fun kvs i => by
    unfold dicR
    split <;> (try split) <;> simp
  unfold subW
  split <;> (try split) <;> (try split) <;> first | exact z _ _ | simp
def rGetA (k : Cst) : V → V → Hp → VK → Prop := fun x y H Q => ∃ ι h a b, R k ι h H ∧ RelW k ι h.length H a x ∧ RelW k ι h.length H b y ∧ WPV k (subW a b h) ι h H (relW k) Q
theorem subW_inv {a b : W} {h : AH} {ι : Nat → Addr} {H : Hp} {Q : VK} (w : WPV k (subW a b h) ι h H (relW k) Q) : (∃ ws i u, a = .tup ws ∧ b = .int i ∧ L2.atI ws i = some u ∧ WPV k (.ok u h) ι h H (relW k) Q) ∨
    (∃ l ws i u, a = .loc l ∧ b = .int i ∧ h[l]? = some (.lst ws) ∧ L2.atI ws i = some u ∧ WPV k (.ok u h) ι h H (relW k) Q) ∨ ∃ l kvs u, a = .loc l ∧ h[l]? = some (.dic kvs) ∧ dicOk kvs b = true ∧ dicGet kvs b = some u ∧ WPV k (.ok u h) ι h H (relW k) Q := by
  have dd : ∀ {l : Nat} {kvs : List (W × W)} {b : W}, h[l]? = some (O.dic kvs) → WPV k (dicR kvs b h) ι h H (relW k) Q → ∃ u, dicOk kvs b = true ∧ dicGet kvs b = some u ∧ WPV k (.ok u h) ι h H (relW k) Q := fun {l kvs b} _ w => by
    unfold dicR at w
    split at w
    · rename_i ok
      split at w
      · rename_i u hu
        exact ⟨u, ok, hu, w⟩
      · exact w.elim
    · exact w.elim
  unfold subW at w
  split at w
  · split at w
    · rename_i e
      exact .inl ⟨_, _, _, rfl, rfl, e, w⟩
    · exact w.elim
  · split at w
    · rename_i e0
      split at w
      · rename_i e
        exact .inr (.inl ⟨_, _, _, _, rfl, rfl, e0, e, w⟩)
      · exact w.elim
    · rename_i e0
      obtain ⟨u, a, b, c⟩ := dd e0 w
      exact .inr (.inr ⟨_, _, u, rfl, e0, a, b, c⟩)
    · exact w.elim
  · split at w
    · rename_i e0
      obtain ⟨u, a, b, c⟩ := dd e0 w
      exact .inr (.inr ⟨_, _, u, rfl, e0, a, b, c⟩)
    · exact w.elim
  · exact w.elim
theorem get_A (hK : X.K = k.K) (hw : X.w = k.w) (hu : X.A.units + 65 < cLine) : PGet X (rGetA k) := by
  intro pins s σ H o i ov iv Q I ro ri hh
  obtain ⟨ι, h, a, b, r, ra, rb, w⟩ := hh
  rcases subW_inv w with ⟨ws, j, u, rfl, rfl, e, w⟩ | ⟨l, ws, j, u, rfl, rfl, e0, e, w⟩ | ⟨l, kvs, u, rfl, e0, ok, hg, w⟩
  · unfold RelW at ra rb
    obtain ⟨p, vs, rfl, hp, rv⟩ := ra
    subst rb
    obtain ⟨z, e1, e2⟩ := atI_get2 rv e
    cases ro
    obtain ⟨t, rfl⟩ := ri
    rw [← hK] at hp
    obtain ⟨its, rr, pl, hz⟩ := I.tuple hp
    obtain ⟨m, h1, h2, h3, h4, h5⟩ := atI_get e1
    obtain ⟨x, ew, rx⟩ := rr.get h2
    have hl := rr.length
    have hn := line63
    exact PyProof.Rows.getItem_tuple (j := m) pl (by omega) (by omega) (by rw [List.size_toArray, ← hl]; exact h1) (by simpa using ew) ⟨z, H, I, rx, WPV.same r w e2⟩
  · unfold RelW at ra rb
    obtain ⟨_, rfl⟩ := ra
    subst rb
    obtain ⟨vs, hv, rv⟩ := r.lst e0
    obtain ⟨z, e1, e2⟩ := atI_get2 rv e
    cases ro
    obtain ⟨t, rfl⟩ := ri
    obtain ⟨its, rr, pl, hz⟩ := I.list (.inl (.of hv))
    obtain ⟨m, h1, h2, h3, h4, h5⟩ := atI_get e1
    obtain ⟨x, ew, rx⟩ := rr.get h2
    have hl := rr.length
    have hn := line63
    by_cases h0 : 0 ≤ j
    · have hj : j.toNat = m := by
        rw [seqIndex_of h0 h5] at h1
        exact Option.some.inj h1
      exact wpAny_getItem_list pl.isList h0 (by omega) (by rw [hj]; simpa using ew) ⟨z, H, I, rx, WPV.same r w e2⟩
    · have hj : (j + (its.toArray.size : Int)).toNat = m := by
        rw [seqIndex_neg (by omega) h4] at h1
        rw [List.size_toArray, ← hl]
        exact Option.some.inj h1
      exact wpAny_getItem_list_neg pl.isList (by omega) (by rw [List.size_toArray] <;> omega) (by omega) (by rw [hj]; simpa using ew) ⟨z, H, I, rx, WPV.same r w e2⟩
  · unfold RelW at ra
    obtain ⟨_, rfl⟩ := ra
    cases ro
    obtain ⟨v1, w', rv, rw1, go⟩ := dic_getItem (A := X.A) (E := X.xe) hu I hK hw r e0 ok hg rb ri
    exact go _ fun s' I' => ⟨v1, H, I', rv, WPV.same r w rw1⟩
theorem s_augS {o i e : Expr} {co ci c : C} {op : Bop} {tpos : Pos} (cx : CxO X k gl g lv fA se) (hop : op = .add ∨ op = .sub) (h0 : noSlice i = true) (ho : PE X o (tE k g Wx co)) (hi : PE X i (tE k g Wx ci)) (he : PE X e (tE k g Wx c)) :
    PS X (.AugAssign (.Subscript o i tpos) (bopOf op) e pos) (tS k g Wx (.aug (.sub co ci) op c)) := by
  have ha : ∀ ov iv new, augStore i ov iv new = (do holding [new, ov, iv] (setItem ov iv new); release [new, ov, iv] []; pure .next) := fun ov iv new => by cases i <;> first | rfl | (cases h0; done)
  have rd : ∀ (f : Int → Int → Int), (∀ x y z, augW op x y = some z → ∃ i j, x = .int i ∧ y = .int j ∧ z = .int (f i j)) → ∀ D σ H, tS k g Wx (.aug (.sub co ci) op c) D σ H → tAugS (tE k g Wx co) (tE k g Wx ci) (tE k g Wx c) (rGetA k) (ipI f) (rSetA k) D σ H := fun f hf D σ H ⟨ι, as, h, rs, r, w⟩ => by
    dsimp only at w
    rw [evalS] at w
    refine (nxtO (rel := relW k) rs r w).imp fun x H1 ⟨ι, h, wx, rs, r, rx, w⟩ => ?_
    have w := WPO.then (rel := relW k) r rs w
    refine ⟨ι, as, h, rs, r, w.imp fun y H2 ⟨wy, ι2, h2, p2, ry, w⟩ => ?_⟩
    have rs2 := rs.keep (p2.keep r)
    have rx2 : RelW k ι2 h2.length H2 wx x := RelW.keep (p2.keep r) _ rx
    have r2 := p2.rel
    have w := WPV.of (WPO.then (rel := relW k) r2 rs2 w) (fun c xs ws h' => subW_nx c xs ws h')
    refine ⟨ι2, h2, wx, wy, r2, rx2, ry, ?_⟩
    revert w
    cases hsub : subW wx wy h2 with
    | exc _ _ _ _ => exact fun w => w
    | stuck => exact fun w => w
    | ok v h3 =>
      intro w ι3 H3 b p3 rb
      obtain ⟨v', ι4, h4, p4, rv, w⟩ := w ι3 H3 b p3 rb
      have rs4 := rs2.keep (p4.keep r2)
      have rx4 : RelW k ι4 h4.length H3 wx x := RelW.keep (p4.keep r2) _ rx2
      have ry4 : RelW k ι4 h4.length H3 wy y := RelW.keep (p4.keep r2) _ ry
      have r4 := p4.rel
      refine ⟨ι4, as, h4, rs4, r4, (WPO.then (rel := relW k) r4 rs4 w).imp fun u H5 ⟨wu, ι5, h5, p5, ru, w⟩ => ?_⟩
      split at w
      · rename_i z ez
        obtain ⟨i', j', rfl, rfl, rfl⟩ := hf _ _ _ ez
        have rv5 : RelW k ι5 h5.length H5 (.int i') b := RelW.keep (p5.keep r4) _ rv
        unfold RelW at rv5
        unfold relW RelW at ru
        subst rv5 ru
        refine ⟨i', j', rfl, rfl, ι5, h5, wx, wy, _, p5.rel, RelW.keep (p5.keep r4) _ rx4, RelW.keep (p5.keep r4) _ ry4, (by unfold RelW; rfl : RelW k ι5 h5.length H5 (.int (f i' j')) (.int (f i' j'))), ?_⟩
        have rs5 := rs4.keep (p5.keep r4)
        have w := WPV.of (WPO.then (rel := relU) p5.rel rs5 w) (fun c xs ws h' => setI_nx c xs ws h')
        revert w
        cases setI wx wy (.int (f i' j')) h5 with
        | exc _ _ _ _ => exact fun w => w
        | stuck => exact fun w => w
        | ok _ h6 =>
          intro w ι6 H6 b p6 _
          obtain ⟨_, ι7, h7, p7, _, w⟩ := w ι6 H6 () p6 trivial
          exact w.nextS p7.rel (rs5.keep (p7.keep p5.rel))
      · exact w.elim
  rcases hop with rfl | rfl
  · refine PS.of (ps_augS ho hi (get_A cx.K cx.w cx.un) he ip_add (set_A cx.K cx.w cx.un) ha) (rd _ fun x y z e => ?_)
    obtain ⟨i', j', e1, e2, ⟨_, e3⟩ | ⟨e3, _⟩⟩ := aug_nx e
    · exact ⟨i', j', e1, e2, e3⟩
    · cases e3
  · refine PS.of (ps_augS ho hi (get_A cx.K cx.w cx.un) he ip_sub (set_A cx.K cx.w cx.un) ha) (rd _ fun x y z e => ?_)
    obtain ⟨i', j', e1, e2, ⟨e3, _⟩ | ⟨_, e3⟩⟩ := aug_nx e
    · cases e3
    · exact ⟨i', j', e1, e2, e3⟩
/-! ### del -/
theorem delI_inv {x y : W} {h : AH} : delI x y h = .stuck ∨ ∃ l kvs, x = .loc l ∧ h[l]? = some (.dic kvs) ∧ dicOkS kvs y = true ∧ (dicGet kvs y).isSome = true ∧ delI x y h = .ok () (h.set l (.dic (dicDel kvs y))) := by
  cases x with
  | loc l =>
    cases e : h[l]? with
    | none => left; simp only [delI, e]
    | some o =>
      cases o with
      | lst xs => left; simp only [delI, e]
      | ins c fs => left; simp only [delI, e]
      | dic kvs =>
        by_cases ok : (dicOkS kvs y && (dicGet kvs y).isSome) = true
        · right
          have ok2 := ok
          rw [Bool.and_eq_true] at ok2
          exact ⟨l, kvs, rfl, e, ok2.1, ok2.2, by simp only [delI, e, ok, if_true]⟩
        · left
          simp only [delI, e]
          exact if_neg ok
  | _ => exact .inl rfl
theorem s_del {o i : Expr} {co ci : C} {tpos : Pos} (cx : CxO X k gl g lv fA se) (ho : PE X o (tE k g Wx co)) (hi : PE X i (tE k g Wx ci)) : PS X (.Delete [.Subscript o i tpos] pos) (tS k g Wx (.del co ci)) := by
  refine ⟨fun pins s σ H D I w => ?_⟩
  obtain ⟨ι, as, h, rs, r, w⟩ := w
  dsimp only at w
  rw [evalS] at w
  refine wpAny_Delete (PySem.wpAny_deleteEach_cons (wpAny_delete_Subscript (thn (ho.run pins s σ H _ I (nxtO (rel := relW k) rs r w)) fun u s1 ⟨x, H1, I1, rx, ι, h, wx, rs, r, rx1, w⟩ => ?_)))
  refine thn (hi.run pins s1 σ H1 _ I1 ⟨ι, as, h, rs, r, WPO.then (rel := relW k) r rs w⟩) fun iv s2 ⟨y, H2, I2, ry, wy, ι2, h2, p2, ry1, w⟩ => ?_
  have rs2 := rs.keep (p2.keep r)
  have rx2 : RelW k ι2 h2.length H2 wx x := RelW.keep (p2.keep r) _ rx1
  rcases delI_inv (x := wx) (y := wy) (h := h2) with e | ⟨l, kvs, rfl, e, ok, hg, e2⟩
  · rw [e] at w
    exact w.elim
  · rw [e2] at w
    unfold RelW at rx2
    obtain ⟨_, rfl⟩ := rx2
    obtain rfl : u = Value.ref (ι2 l) := rx
    refine dic_del I2 p2.rel e ok hg ry1 ry fun ho s' I' p => wpAny_deleteEach_nil ⟨σ, _, I', ?_⟩
    exact w ι2 _ σ p (rs2.keep (p.keep p2.rel))
/-! ### loops -/
theorem WPO.loop {K : St → AH → Out} (r0 : R k ι h H) (w : WPO k Wx (match o with
    | .next σ1 h1 => K σ1 h1
    | .cont σ1 h1 => K σ1 h1
    | .brk σ1 h1 => .next σ1 h1
    | o => o) ι h H D) (N : L2.St → Hp → Prop) (hN : ∀ ι' as' h' σ' H', Post k ι h H ι' h' H' → RelS k ι' h'.length H' as' σ' → WPO k Wx (K as' h') ι' h' H' D → N σ' H') : WPO k Wx o ι h H { D with nx := N, ct := N, bk := D.nx } := by
  cases o with
  | next as' h' => exact fun ι' H' σ' p e => hN ι' as' h' σ' H' p e (WPO.move r0 p w)
  | cont as' h' => exact fun ι' H' σ' p e => hN ι' as' h' σ' H' p e (WPO.move r0 p w)
  | brk as' h' => exact w
  | ret w' h' => exact w
  | exc c xs ws as' h' => exact w
  | stuck => exact w
theorem s_whl {c : Expr} {body : List Stmt} {t : T} {b : List S} (cs : CxS X k gl g lv fA se Wx) (hc : PT X c (tT k g Wx t)) (hb : PSs X body (tSs k g Wx b)) : PS X (.While c body [] pos) (tS k g Wx (.whl t b)) :=
  PS.of (ps_while cs.own hc hb) fun D σ H ⟨ι, as, h, rs, r, w⟩ => by
    dsimp only at w
    rw [evalS] at w
    refine ⟨fun m σ H => ∃ ι as h, RelS k ι h.length H as σ ∧ R k ι h H ∧ WPO k Wx (whlLoop (fun σ1 h1 => evalT g t σ1 h1) (fun σ1 h1 => evalSs g b σ1 h1) m as h) ι h H D, ⟨g.gc.lim, ι, as, h, rs, r, w⟩, ?_⟩
    rintro m σ H ⟨ι, as, h, rs, r, w⟩
    cases m with
    | zero =>
      unfold whlLoop at w
      exact w.elim
    | succ m =>
      unfold whlLoop at w
      refine (nxtO (rel := relB) rs r w).imp fun v H1 ⟨ι, h, a, rs, r, ra, w⟩ => ?_
      have ra : a = v := ra
      subst ra
      cases a with
      | true =>
        rw [if_pos rfl] at w ⊢
        refine ⟨fun σ H => ∃ ι as h, RelS k ι h.length H as σ ∧ R k ι h H ∧ WPO k Wx (whlLoop (fun σ1 h1 => evalT g t σ1 h1) (fun σ1 h1 => evalSs g b σ1 h1) m as h) ι h H D, fun σ' H' n => ⟨m, Nat.lt_succ_self _, n⟩, ι, as, h, rs, r, ?_⟩
        exact WPO.loop r w _ fun ι' as' h' σ' H' p e w' => ⟨ι', as', h', e, p.rel, w'⟩
      | false =>
        rw [if_neg Bool.false_ne_true] at w ⊢
        exact w.nextS r rs
theorem forLoop_held {f : W → St → AH → Out} {held : List (Nat × List W)} {ws : List W} (w : WPO k Wx (forLoop f held ws as h) ι h H D) : heldOk held h = true := by
  cases ws with
  | nil =>
    unfold forLoop at w
    split at w
    · assumption
    · exact w.elim
  | cons a ws =>
    unfold forLoop at w
    split at w
    · assumption
    · exact w.elim
theorem Keep.trans {n n1 n2 : Nat} {ι2 : Nat → Addr} {H2 : Hp} (a : Keep k ι n H ι1 n1 H1) (b : Keep k ι1 n1 H1 ι2 n2 H2) : Keep k ι n H ι2 n2 H2 :=
  ⟨Nat.le_trans a.len b.len, fun l hl => (b.old l (Nat.lt_of_lt_of_le hl a.len)).trans (a.old l hl), fun x vs e => b.tup x vs (a.tup x vs e), fun x c d e => b.ext x c d (a.ext x c d e), fun x fs e => b.xd x fs (a.xd x fs e)⟩
theorem s_for {tg it : Expr} {body : List Stmt} {t : Tg} {i : It} {b : List S} (cs : CxS X k gl g lv fA se Wx) (hi : PI X tg it (tI k g Wx i)) (hg : PG X tg (tG k g t)) (hb : PSs X body (tSs k g Wx b)) (hs : noSet it = true) : PS X (.For tg it body [] pos) (tS k g Wx (.for_ t i b)) :=
  PS.of (ps_for cs.own cs.calm hi hg hb (noSet_of hs)) fun D σ H ⟨ι, as, h, rs, r, w⟩ => by
    dsimp only at w
    rw [evalS] at w
    unfold tFor
    refine ⟨ι, as, h, rs, r, (WPO.then (rel := relJ k) r rs w).imp fun J H1 ⟨src, ι1, h1, p, it, w⟩ => ?_⟩
    have wk : Walk J src.items.length (fun H => ∃ ι' h', Now k ι1 h1.length H1 src ι' h' H) J.yld :=
      ⟨fun i H hi ⟨ι', h', n⟩ => it.go ι' h' H i n hi, fun H ⟨ι', h', n⟩ => it.stop ι' h' H n, fun i H x H' hi _ y => y⟩
    refine for_it wk (fun i σ H => ∃ ι as h, Keep k ι1 h1.length H1 ι h.length H ∧ RelS k ι h.length H as σ ∧ R k ι h H ∧
      WPO k Wx (forLoop (fun w σ1 h2 => (toNoExc (asgT g t w σ1 h2)).then σ1 fun σ2 h3 => evalSs g b σ2 h3) src.held (src.items.drop i) as h) ι h H D) ⟨ι1, as, h1, Keep.refl, rs.keep (p.keep r), p.rel, w⟩ ?_ ?_ ?_
    · rintro i σ H hi ⟨ι, as, h, kp, rs, r, w⟩
      exact ⟨ι, h, kp, r, forLoop_held w⟩
    · rintro i x σ H H' hi ⟨ι, as, h, kp, rs, r, w⟩ y
      obtain ⟨wx, ew, p1, rwx⟩ := it.yld ι h H i x H' ⟨kp, r, forLoop_held w⟩ hi y
      have ed : src.items.drop i = wx :: src.items.drop (i + 1) := by
        rw [List.drop_eq_getElem_cons hi]
        congr 1
        have : src.items[i]? = some src.items[i] := by simp [hi]
        rw [this] at ew
        exact Option.some.inj ew
      rw [ed] at w
      unfold forLoop at w
      split at w
      · have w2 := WPO.loop p1.rel (WPO.move r p1 w) (fun σ H => ∃ ι as h, Keep k ι1 h1.length H1 ι h.length H ∧ RelS k ι h.length H as σ ∧ R k ι h H ∧
          WPO k Wx (forLoop (fun w σ1 h2 => (toNoExc (asgT g t w σ1 h2)).then σ1 fun σ2 h3 => evalSs g b σ2 h3) src.held (src.items.drop (i + 1)) as h) ι h H D)
          fun ι' as' h' σ' H2 p e w' => ⟨ι', as', h', (kp.trans (p1.keep r)).trans (p.keep p1.rel), e, p.rel, w'⟩
        refine ⟨ι, as, h, wx, rs.keep (p1.keep r), p1.rel, rwx, ?_⟩
        revert w2
        cases asgT g t wx as h with
        | ok as' h' => exact fun w2 ι' H2 σ' p e => ⟨ι', as', h', e.1, p.rel, WPO.move p1.rel p w2⟩
        | exc _ _ _ _ => exact fun w2 => w2
        | stuck => exact fun w2 => w2
      · exact w.elim
    · rintro σ H ⟨ι, as, h, kp, rs, r, w⟩
      rw [List.drop_length] at w
      unfold forLoop at w
      split at w
      · exact w.nextS r rs
      · exact w.elim
end
end AM
/-! raise; try .. except X as e: y = e; several names at once. -/
namespace AM
open PySem PySem.Spec PyProof.Rows L2
section
variable {X : Cx} {k : Cst} {gl : Gl} {g : Ev} {lv : Nat} {fA : Nat → Addr} {se : SE} {Wx : WX} {pos : Pos}
theorem s_raise {x m : Str} {c j : Nat} {p p2 p3 : Pos} (cs : CxS X k gl g lv fA se Wx) (go : GOk X gl x (.cls c)) : PS X (.Raise (some (.Call (.Name x p) [.Constant (.str m) j p2] [] p3)) none pos) (tS k g Wx (.raise c [] [])) := by
  by_cases hc : c ∈ g.gc.rais
  · obtain ⟨e1, e2, e3⟩ := cs.fx.exr c hc
    obtain ⟨g1, g2⟩ := cs.fx.gcl x c go.lk
    refine PS.of (ps_raise cs.calm cs.tk (pmk_own (C := k.cA c) PySem.F.excBase_ValueError (by rw [cs.K]; exact e1) g1 (by rw [cs.K]; exact g2) (raises_own (by rw [cs.K]; exact e2) (by rw [cs.K]; exact e3)) go.gi go.db)) fun D σ H ⟨ι, as, h, rs, r, w⟩ => ?_
    dsimp only at w
    rw [evalS, if_pos (show raiPre g.gc c [] = true from rfl), evalEs] at w
    have w : WPO k Wx (if (W.flats [] && raiOk g.gc c [] []) = true then .exc c [] [] as h else .stuck) ι h H D := w
    split at w
    · exact w ι H none σ (Post.refl r) rs (.inl ⟨rfl, rfl, rfl⟩)
    · exact w.elim
  · refine PS.of ps_never fun D σ H ⟨ι, as, h, rs, r, w⟩ => ?_
    dsimp only at w
    rw [evalS, if_pos (show raiPre g.gc c [] = true from rfl), evalEs] at w
    have w : WPO k Wx (if (W.flats [] && raiOk g.gc c [] []) = true then .exc c [] [] as h else .stuck) ι h H D := w
    split at w
    · rename_i z
      rw [Bool.and_eq_true] at z
      exact absurd (of_decide_eq_true z.2) hc
    · exact w.elim
/-- C(e), the class's own __init__ being walked -/
theorem pmk_ini {x : Str} {C fI : Addr} {kk : Nat} {fd : FuncData} {ps : List Str} {sp : Sp} {e : Expr} {ta : TA} {p pos : Pos} (quiet : X.A.guards = some []) (T : OexC X.K C) (iC : PySem.W.findIn X.K (.ref C) "__init__" = some (some (.ref fI))) (tI : PySem.W.typeIn X.K (.ref fI) = some (.type "function"))
    (F1 : FnG X.prog X.w X.K X.mg X.base (L2.CX X.prog X.w) kk fI fd ps sp) (hr : Room (kk + 1) X.A) (hb : Binds X.K fd ps []) (hx : Passes (L2.CX X.prog X.w) X (fun _ _ _ => False)) (hg : L2.Gl X x) (hm : X.mg x = some (.ref C)) (ha : PA X [e] ta)
    (hdb : (x == ("__debug__" : Str)) = false) (he : starEach [e] X.env = (false, eval e X.env) :: starEach [] X.env) :
    PMk X (.Call (.Name x p) [e] [] pos) (tMkO C sp [] ta) := by
  intro pins s σ H Q I h
  obtain ⟨nm, q, N, bs, bm, sn, sub, ab, col, dd, k0, k1, k2, k3, k5, hC, hbm⟩ := T.cls
  refine wpAny_Call_Name_kw (ld_glob I hg hm ?_ hdb)
  refine PySem.W.callWith_K (h₀ := X.base) I.ok.mod.kin T.kC (thn (ha.run pos pins s σ H _ I h) fun us s1 ⟨vs, H1, I1, r1, hz, q1⟩ => ⟨I1.kIn, ?_⟩) he rfl
  show wpAny _ _ (call (.ref C) us) _ _ _
  obtain ⟨hp, gs, dr, tk, os⟩ := s1
  have fresh : H1 (hp.objs.size + 1) = none := I1.hok.fresh (Nat.le_succ _)
  have want := q1 (hp.objs.size + 1) fresh
  have old : ∀ b o, hp.get? b = some o → ((hp.push (PySem.W.kdv_tup us)).push (PySem.HandSPX.excO C hp.objs.size)).get? b = some o := fun b o e => Heap.get?_push_of_some _ (Heap.get?_push_of_some _ e)
  have made : ((hp.push (PySem.W.kdv_tup us)).push (PySem.HandSPX.excO C hp.objs.size)).get? (hp.objs.size + 1) = some (PySem.HandSPX.excO C hp.objs.size) := by heap_get
  have I2 := I1.laid (t' := tk) (a := hp.objs.size + 1) (o := exo (hp.objs.size + 1) C none) (h' := (hp.push (PySem.W.kdv_tup us)).push (PySem.HandSPX.excO C hp.objs.size)) old (Nat.le_succ _) (exo_ok made)
  rw [List.append_nil] at want
  have r2 : Vals (V.ref (hp.objs.size + 1) :: vs) (Value.ref (hp.objs.size + 1) :: us) := .cons rfl r1
  have hl : (Value.ref (hp.objs.size + 1) :: us ++ []).length = ps.length := by
    rw [List.append_nil, ← r2.length]
    exact F1.size want
  have few : us.length ≤ sizeLine := by
    rw [← Paired.length r1, sizeLine_eq]
    omega
  have bnd := hb _ (Value.ref (hp.objs.size + 1) :: us) I2.kIn hl
  rw [List.append_nil] at bnd
  refine wpAny_call (PySem.HandSPX.call_own F.excBase_ValueError (fun Y => PySem.HandSPX.refsVE_contains Y bm hbm) (I1.kIn _ _ hC) (PySem.W.looks_findIn I1.kIn iC) (fun self => PySem.W.bind_fn I1.kIn self tI) few
    (codeAny_mono (F1.go (outer := X.stack) (args := ⟨Value.ref (hp.objs.size + 1) :: us, []⟩) (us := Value.ref (hp.objs.size + 1) :: us) (E := fun _ _ _ => False) (hr.make C us []) (make_guards quiet) (I2.env0.make C us []) bnd r2 want) fun r s' hq' => ?_))
  cases r with
  | error er => exact hx pins σ _ _ er s' I2 hq'
  | ok fl =>
    cases fl with
    | ret u =>
      obtain ⟨v, H2, os2, bare2, un2, hok2, rv, ev, d, fs, ea, ed, hd1, q2⟩ := hq'
      subst ev
      obtain ⟨h2, g2, d2, t2, os'⟩ := s'
      exact ⟨rv, mk_end (raises_own T.exC T.tyC) I1 (Nat.le_succ _) old un2 hok2 os2 bare2 ea ed hd1 q2⟩
    | next => exact False.elim hq'
    | brk => exact False.elim hq'
    | cont => exact False.elim hq'
theorem s_raiseF {x f : Str} {c : Nat} {e : Expr} {ce : C} {p p3 : Pos} (cs : CxS X k gl g lv fA se Wx) (go : GOk X gl x (.cls c)) (he : PE X e (tE k g Wx ce)) (hs : noStar e = true) : PS X (.Raise (some (.Call (.Name x p) [e] [] p3)) none pos) (tS k g Wx (.raise c [f] [ce])) := by
  have rd : (g.gc.inis.lookup c).isSome = true → ∀ D σ H, tS k g Wx (.raise c [f] [ce]) D σ H → tE k g Wx ce σ H fun v H1 => ∃ ι as h w, RelS k ι h.length H1 as σ ∧ R k ι h H1 ∧ RelW k ι h.length H1 w v ∧ WPO k Wx (if (W.flats [w] && raiOk g.gc c [f] [w]) = true then .exc c [f] [w] as h else .stuck) ι h H1 D := fun hs D σ H ⟨ι, as, h, rs, r, w⟩ => by
    dsimp only at w
    rw [evalS, if_pos (show raiPre g.gc c [f] = true from hs), evalEs] at w
    have w : WPO k Wx ((evalE g ce as h).then as fun w1 h1 => if (W.flats [w1] && raiOk g.gc c [f] [w1]) = true then .exc c [f] [w1] as h1 else .stuck) ι h H D := by
      revert w
      cases evalE g ce as h with
      | ok a h1 =>
        rw [Res.bind_ok, evalEs]
        exact fun w => w
      | exc _ _ _ _ => exact fun w => w
      | stuck => exact fun w => w
    exact (nxtO (rel := relW k) rs r w).imp fun v H1 ⟨ι, h, a, rs, r, ra, w⟩ => ⟨ι, as, h, a, rs, r, ra, w⟩
  cases hc : g.gc.inis.lookup c with
  | some i =>
    obtain ⟨T, xf, hno, fI, fd, ps, iC, tI, hb, F⟩ := cs.fx.ixs _ _ hc
    obtain ⟨g1, g2⟩ := cs.fx.gcl x c go.lk
    rw [← cs.K] at T iC tI hb F
    have noX : Passes (L2.CX X.prog X.w) X (fun _ _ _ => False) := fun pins σ H s e s' I c => (XE.of_call (W := fun _ _ _ _ => False) I (fun _ _ _ z => z) c).elim fun a z => by
      obtain ⟨_, _, _, _, _, _, _, _, _, _, _, _, _, _, _, z⟩ := z
      exact z.elim
    have mk := pmk_ini (p := p) (pos := p3) cs.quiet T iC tI F (cs.room.mono (by omega)) hb noX go.gi g1 (pa_cons he pa_nil (star_of hs)) go.db (star_of hs)
    refine PS.of (ps_raise cs.calm cs.tk mk) fun D σ H w => ?_
    refine (rd (by rw [hc]; rfl) D σ H w).imp fun v H1 ⟨ι, as, h, w1, rs, r, r1, w⟩ => ?_
    refine ⟨(by simp : [v].length ≤ 1000), fun a ha => ?_⟩
    split at w
    · rename_i ok
      rw [Bool.and_eq_true] at ok
      have o2 : (match g.gc.inis.lookup c with
        | some i => decide (i.x = f) && msgOk i.m w1
        | none => false) = true := ok.2
      rw [hc] at o2
      rw [Bool.and_eq_true, decide_eq_true_eq] at o2
      have pa := Post.side (o := exo a (k.cA c) none) r ha
      refine ⟨a, v, rfl, upd_same, msgV_of pa.rel (RelW.keep (pa.keep r) _ r1) o2.2, fun dx hd hda => ⟨rfl, dx, [(i.x, v)], upd_same, ?_, ?_, ?_⟩⟩
      · rw [upd_ne hda, upd_same]
      · rw [upd_ne hda] at hd
        exact hd
      · rw [upd_ne hda] at hd
        have eH : L2.upd (del (L2.upd (L2.upd (L2.upd H1 a (exo a (k.cA c) none)) dx (exd dx [(i.x, v)])) a (exo a (k.cA c) (some dx))) a) dx (.xd [(i.x, v)]) = L2.upd H1 dx (.xd [(i.x, v)]) := by
          funext b
          by_cases hb : b = dx
          · rw [hb, upd_same, upd_same]
          · rw [upd_ne hb, upd_ne hb]
            by_cases hba : b = a
            · rw [hba, del_same, ha]
            · rw [del_ne hba, upd_ne hba, upd_ne hb, upd_ne hba]
        rw [eH, o2.1]
        have pd := Post.side (o := .xd [(f, v)]) r hd
        exact w ι _ (some dx) σ pd (rs.keep (pd.keep r)) (.inr ⟨dx, [v], rfl, upd_same, RelWs.cons (r1.keep (pd.keep r)) .nil, ok.1⟩)
    · exact w.elim
  | none =>
    refine PS.of ps_never fun D σ H ⟨ι, as, h, rs, r, w⟩ => ?_
    dsimp only at w
    rw [evalS, if_neg (show ¬ raiPre g.gc c [f] = true from fun z => by
      have z : (g.gc.inis.lookup c).isSome = true := z
      rw [hc] at z
      cases z)] at w
    exact w
/-! ### a caught exception is kept -/
/-- an object of an exception, seen from now on -/
theorem _root_.L2.Inv.track {pins : List (Addr × Obj)} {σ : L2.St} {H : Hp} {s : Shared} {a : Addr} {oe : Obj} {vs : Array Value} (I : L2.Inv X ((a, oe) :: pins) σ H s) (hd : oe.data = .fields vs) (hnew : X.s_0.heap.get? a = none) (hp : ∀ p ∈ X.pn ++ pins, p.1 ≠ a) :
    L2.Inv X pins σ (L2.upd H a (ExC oe.cls oe.dict a)) s := by
  obtain ⟨ea, na, nL, nF, nc⟩ := I.pin (a, oe) (List.mem_append_right _ List.mem_cons_self)
  have ea : s.heap.get? a = some oe := ea
  have na : H a = none := na
  have nex : ∀ b, H b ≠ none → b ≠ a := fun b hb z => hb (by rw [z]; exact na)
  refine ⟨I.ok, I.os, I.bare, ⟨I.base.keep, I.base.slot, fun b o e n hx => ?_, I.base.there, fun b xs e => ?_, fun b o u e => ?_, fun b ps e => ?_⟩, I.loc, I.cell, ?_, fun x c e => ?_, fun p hm => ?_, fun b o e => ?_, I.len⟩
  · rw [upd_ne (fun z => by rw [z, hnew] at e; cases e)]
    exact I.base.free b o e n hx
  · have q := I.base.tups b xs e
    rw [upd_ne (ne_of_none q na)]
    exact q
  · have q := I.base.frzs b o u e
    rw [upd_ne (ne_of_none q na)]
    exact q
  · obtain ⟨m, q⟩ := I.base.tbls b ps e
    exact ⟨m, by rw [upd_ne (ne_of_none q na)]; exact q⟩
  · rw [upd_ne (Ne.symm nL)]
    exact I.free
  · obtain ⟨v, o, ho, hd'⟩ := I.cell x c e
    rw [upd_ne (fun z => ?_)]
    · exact I.freeC x c e
    · rw [z, ea] at ho
      cases ho
      rw [hd] at hd'
      cases hd'
  · obtain ⟨q1, q2, q3, q4, q5⟩ := I.pin p (by
      rcases List.mem_append.mp hm with z | z
      · exact List.mem_append_left _ z
      · exact List.mem_append_right _ (List.mem_cons_of_mem _ z))
    exact ⟨q1, by rw [upd_ne (hp p hm)]; exact q2, q3, q4, q5⟩
  · by_cases hb : b = a
    · subst hb
      rw [upd_same] at e
      cases e
      exact ⟨⟨oe, ea, rfl, rfl, vs, hd⟩, ⟨oe, ea⟩, fun h1 h2 ⟨o', z1, z2⟩ k => ⟨o', k o' z1, z2⟩⟩
    · rw [upd_ne hb] at e
      exact (I.hok b o e).stay (fun c u _ q => q) (fun c q => by rw [upd_ne (ne_of_none q na)]; exact q) fun c xs q => by rw [upd_ne (ne_of_none q na)]; exact q
/-- what the clause 'except x as n: y = n' wishes of an exception of the body -/
def wKeep (K : PySem.W.Frag) (c : Value) (i j : Nat) (Wout : WX) (D : Ends) : WX := fun cls d σ H =>
  ∃ b, PySem.W.exmOne K cls c = some b ∧ (b = true → ∀ a, H a = none → D.nx ((σ.set j (some (.ref a))).set i none) (L2.upd H a (ExC cls d a))) ∧ (b = false → Wout cls d σ H)
theorem ps_try_keep {x n yn : Str} {c : Value} {i j : Nat} {body : List Stmt} {np yp ep sp pos' : Pos} {tb : WX → TS} {Wout : WX} (hs : X.stack = X.env :: X.outer) (hf : X.env.frame = some X.env.locals) (hex : X.ex = []) (hN : X.N.Nodup) (hi : X.N[i]? = some n) (hln : X.env.kindOf n = some .local)
    (hj : X.N[j]? = some yn) (hly : X.env.scope.names.lookup yn = some .local) (hij : j ≠ i) (hdb : (n == ("__debug__" : Str)) = false) (hcd : (n == ("__classdict__" : Str)) = false) (hc : Names X x c) (tk : Takes X Wout)
    (hb : ∀ (W : WX) (pn : List (Addr × Obj)) (xe : Value → Shared → Prop), Takes (X.tr pn xe) W → PassesOwn (model X.prog X.w) X.A X.env xe → PSs (X.tr pn xe) body (tb W)) :
    PS X (.Try body [.ExceptHandler (some (.Name x np)) (some n) [.Assign [.Name yn yp] (.Name n ep) sp] pos'] [] [] pos) (fun D σ H => tb (wKeep X.K c i j Wout D) D σ H) := by
  refine ⟨fun pins s σ H D I h => ?_⟩
  have ok := I.ok
  have hfr : X.A.frames = some (X.env :: X.outer) := by rw [ok.frames, hs]
  have hloc : L2.Loc X.env.scope n := .inl hln
  refine wpAny_Try_except ?_
  refine wpAny_mono ((hb (wKeep X.K c i j Wout D) (X.pn ++ pins) (fun e s₁ => wpAny (model X.prog X.w) X.A (noteFrame e X.env) (fun _ s₂ => wpAny (model X.prog X.w) X.A (setFlight e none) (fun _ s₃ =>
    wpAny (model X.prog X.w) X.A (handleBy e X.env [.ExceptHandler (some (.Name x np)) (some n) [.Assign [.Name yn yp] (.Name n ep) sp] pos']) (SP X pins D) X.xe s₃) X.xe s₂) X.xe s₁) (fun u s' xx => ?_) PassesOwn.looking).run [] s σ H D (I.toTry _) h) (fun f s1 hsp => ?_) (fun e s1 he => he)
  · -- the catch
    obtain ⟨a, B, sI, pins', σ', H', cls, d, rfl, J', nb, up, sky, na, os, ag, b, hb1, hyes, hno⟩ := xx
    have J : L2.Inv X pins σ' H' sI := J'.ofTry ok
    have sky' : Sky B (X.env :: X.outer) a (Zc cls d) X.env.locals s'.heap := by rw [← hs]; exact sky
    show wpAny (model X.prog X.w) X.A (noteFrame (.ref a) X.env) _ _ _
    refine Sky.land Zc.steady hfr hf sky' fun h3 fl3 up3 => ?_
    have J3 : L2.Inv X pins σ' H' { s' with heap := h3 } := J.landed nb fl3.1 (up.trans up3) os ag
    obtain ⟨oe3, vs3, he3, hz3, hd3⟩ := fl3.there
    have notFr : ∀ {h : Heap} {o : Obj} {vs : Array Value}, h.FunFrames B (X.env :: X.outer) → h.get? a = some o → o.data = .fields vs → a ∉ frs (X.env :: X.outer) := fun {h o vs} ff e dd hm => by
      obtain ⟨_, o', e', hnf⟩ := ff.mem hm
      rw [e] at e'; cases e'
      exact hnf _ dd
    have nfr := notFr fl3.2.2.1 he3 hd3
    have nL : a ≠ X.env.locals := fun z => nfr (List.mem_filterMap.mpr ⟨X.env, List.mem_cons_self, by rw [hf, z]⟩)
    have nF : a ∉ X.fs := fun hm => by
      obtain ⟨e, he, q⟩ := List.mem_filterMap.mp hm
      exact nfr (List.mem_filterMap.mpr ⟨e, List.mem_cons_of_mem _ he, q⟩)
    have noI : ∀ o, sI.heap.get? a = some o → False := fun o e => by
      have z := nb a o e (by rw [hs]; exact nfr)
      have z2 : B.get? a = none := fl3.2.1
      rw [z2] at z
      cases z
    have hnew : X.s_0.heap.get? a = none := by
      cases e : X.s_0.heap.get? a with
      | none => rfl
      | some o =>
        obtain ⟨o', q⟩ := J.base.there a o e (by rw [hex]; exact fun z => nomatch z)
        exact (noI o' q).elim
    have hpn : ∀ p ∈ X.pn ++ pins, p.1 ≠ a := fun p hp z => by
      have q := (J.pin p hp).1
      rw [z] at q
      exact noI _ q
    have S3 := J3.suite he3 hd3 na nL nF
    refine wpAny_handleBy_cons (codeAny_handlers_test ?_) (by intro q; cases q)
    have LT : PySem.W.Looks (model X.prog X.w) h3 (typeOf (.ref a)) cls := fun A Q E s k q => wpAny_typeOf_ref (k _ _ he3) (by rw [hz3.1]; exact q)
    have LM := PySem.W.exm_one (M := model X.prog X.w) (J3.kIn) LT hb1
    have test : ∀ {Q : Value → Shared → Prop} {E : Value → Shared → Prop}, Q c { s' with heap := h3 } → wpAny (model X.prog X.w) (X.A.mark (some (.ref a))) (eval (.Name x np) X.env) Q E { s' with heap := h3 } := fun {Q E} q => by
      obtain ⟨hg, hdbg, hm | ⟨hm, hv, hnn⟩⟩ := hc
      · exact ld_glob (X := X.suite a ((a, oe3) :: (X.pn ++ pins))) S3 hg hm q hdbg
      · exact ld_blt (X := X.suite a ((a, oe3) :: (X.pn ++ pins))) S3 hg hm hv q hnn hdbg
    refine test (LM.here ?_)
    cases b with
    | true =>
      refine codeAny_handlers_suite_as ?_
      refine HandSPX.lands_againZ fl3 fun h4 fl4 up4 => ?_
      have J4 : L2.Inv X pins σ' H' { s' with heap := h4 } := J.landed nb fl4.1 ((up.trans up3).trans up4) os ag
      obtain ⟨oe4, vs4, he4, hz4, hd4⟩ := fl4.there
      have S4 := J4.suite he4 hd4 na nL nF
      refine store_ok (X := X.suite a ((a, oe4) :: (X.pn ++ pins))) (v := .ref a) S4 hN hi hloc rfl (fun s5 S5 => ?_) (.inr hln)
      have su : PSs (X.suite a ((a, oe4) :: (X.pn ++ pins))) [.Assign [.Name yn yp] (.Name n ep) sp] (tAsg (tVar i) (gName j)) :=
        pss_one (ps_set hN hj (.inl hly) (pe_var hi (.inl hln) hdb hcd) rfl (.inr hly))
      have hil : i < σ'.length := by
        rw [J.len]
        exact (List.getElem?_eq_some_iff.mp hi).1
      refine wpAny_mono (su.run [] s5 _ H' { nx := fun σ6 H6 => σ6 = (σ'.set i (some (.ref a))).set j (some (.ref a)) ∧ H6 = H', rt := fun _ _ => False } S5 ⟨.ref a, by rw [List.getElem?_set_self hil], rfl, rfl⟩) (fun f s6 hsp => ?_) (fun _ _ z => False.elim z)
      cases f with
      | next =>
        obtain ⟨σ6, H6, S6, rfl, rfl⟩ := hsp
        have J6 : L2.Inv X ((a, oe4) :: pins) ((σ'.set i (some (.ref a))).set j (some (.ref a))) H6 s6 :=
          ⟨ok, S6.os, S6.bare, S6.base, S6.loc, S6.cell, S6.free, S6.freeC, fun p hp => S6.pin p (List.mem_append_left _ (by
            rcases List.mem_append.mp hp with z | z
            · exact List.mem_cons_of_mem _ (List.mem_append_left _ z)
            · rcases List.mem_cons.mp z with z | z
              · rw [z]; exact List.mem_cons_self
              · exact List.mem_cons_of_mem _ (List.mem_append_right _ z))), S6.hok, S6.len⟩
        refine gone_ok J6 hN hi hln fun s7 J7 => ?_
        have J8 := J7.track hd4 hnew hpn
        rw [hz4.1, hz4.2] at J8
        refine ⟨_, _, J8, ?_⟩
        have e : (((σ'.set i (some (.ref a))).set j (some (.ref a))).set i none : L2.St) = (σ'.set j (some (.ref a))).set i none := by
          rw [List.set_comm _ _ (Ne.symm hij), List.set_set]
        rw [e]
        exact hyes rfl a na
      | brk =>
        obtain ⟨σ6, H6, S6, q6⟩ := hsp
        exact q6.elim
      | cont =>
        obtain ⟨σ6, H6, S6, q6⟩ := hsp
        exact q6.elim
      | ret u =>
        obtain ⟨v6, σ6, H6, S6, r6, q6⟩ := hsp
        exact q6.elim
    | false =>
      show wpAny _ X.A (handleBy (.ref a) X.env []) _ _ _
      refine wpAny_handleBy_nil ?_
      obtain ⟨k1, k2, k3, oe, vs, T, oT, ts', he, hz, hd, h1, hr⟩ := id fl3
      unfold PySem.passOn
      refine wpAny_bind (wpAny_field he hd h1 ?_)
      rw [if_neg (show ¬ ((Value.ref T == Value.none) = true) from by simp)]
      have fin : wpAny (model X.prog X.w) X.A (setFlight (.ref a) X.env.frame) (fun _ s4 => wpAny (model X.prog X.w) X.A (throw (.ref a) : Sem Flow) (SP X pins D) X.xe s4) X.xe { s' with heap := h3 } := by
        rw [hf]
        refine HandSPX.setFlight_upZ fl3 fun h4 hh4 up4 => wpAny_throw (tk _ _ ?_)
        exact ⟨a, B, sI, pins, σ', H', cls, d, rfl, J, nb, (up.trans up3).trans up4, .inr (.inr (by rw [hs]; exact hh4)), na, os, ag, hno rfl⟩
      first
        | exact wpAny_bind (wpAny_pure (wpAny_bind fin))
        | exact wpAny_bind fin
  · cases f with
    | next =>
      obtain ⟨σ', H', J', q⟩ := hsp
      exact wpAny_execs_nil ⟨σ', H', J'.ofTry ok, q⟩
    | brk =>
      obtain ⟨σ', H', J', q⟩ := hsp
      exact ⟨σ', H', J'.ofTry ok, q⟩
    | cont =>
      obtain ⟨σ', H', J', q⟩ := hsp
      exact ⟨σ', H', J'.ofTry ok, q⟩
    | ret u =>
      obtain ⟨v, σ', H', J', r, q⟩ := hsp
      exact ⟨v, σ', H', J'.ofTry ok, r, q⟩
theorem CxS.toTr {W : WX} {pn : List (Addr × Obj)} {xe : Value → Shared → Prop} (cs : CxS X k gl g lv fA se Wx) (tk : Takes (X.tr pn xe) W) (own : PassesOwn (model X.prog X.w) X.A X.env xe) : CxS (X.tr pn xe) k gl g lv fA se W where
  K := cs.K
  w := cs.w
  quiet := cs.quiet
  calm := cs.calm
  N := cs.N
  sc := cs.sc
  fn := cs.fn
  nd := cs.nd
  room := cs.room
  fx := cs.fx
  fun_ := cs.fun_
  stk := cs.stk
  frm := cs.frm
  exn := cs.exn
  own := own
  tk := tk
theorem s_try {x n yn : Str} {c i j : Nat} {body : List Stmt} {b : List S} {np yp ep sp pos' : Pos} (cs : CxS X k gl g lv fA se Wx) (go : GOk X gl x (.cls c)) (hi : X.N[i]? = some n) (hln : X.env.scope.names.lookup n = some .local)
    (hj : X.N[j]? = some yn) (hly : X.env.scope.names.lookup yn = some .local) (hij : j ≠ i) (hdb : (n == ("__debug__" : Str)) = false) (hcd : (n == ("__classdict__" : Str)) = false)
    (hb : ∀ (W : WX) (X' : Cx), CxS X' k gl g lv fA se W → X'.env = X.env → PSs X' body (tSs k g W b)) :
    PS X (.Try body [.ExceptHandler (some (.Name x np)) (some n) [.Assign [.Name yn yp] (.Name n ep) sp] pos'] [] [] pos) (tS k g Wx (.try_ b (.keep c i j))) := by
  obtain ⟨g1, g2⟩ := cs.fx.gcl x c go.lk
  refine PS.of (ps_try_keep (tb := fun W => tSs k g W b) cs.stk cs.frm cs.exn cs.nd hi hln hj hly hij hdb hcd (c := .ref (k.cA c)) ⟨go.gi, go.db, .inl g1⟩ cs.tk fun W pn xe tk own => hb W _ (cs.toTr tk own) rfl) fun D σ H ⟨ι, as, h, rs, r, w⟩ => ?_
  dsimp only at w
  rw [evalS] at w
  refine ⟨ι, as, h, rs, r, ?_⟩
  dsimp only
  revert w
  cases evalSs g b as h with
  | exc c' xs ws as' h' =>
    intro w ι' H' d σ' p e ed
    replace w : WPO k Wx (hdW g (.keep c i j) c' xs ws as' h') ι h H D := w
    unfold hdW at w
    dsimp only at w
    split at w
    · rename_i e2
      refine ⟨true, by rw [cs.K]; exact cs.fx.exo _ _ _ e2, fun _ a ha => ?_, fun z => nomatch z⟩
      have ps := Post.side (o := ExC (.ref (k.cA c')) d a) p.rel ha
      refine w ι' _ _ (p.trans r ps) ?_
      have ex : RelW k ι' h'.length (L2.upd H' a (ExC (.ref (k.cA c')) d a)) (.exo c' xs ws) (.ref a) := by
        unfold RelW
        rcases ed with ⟨rfl, rfl, rfl⟩ | ⟨dd, vs, rfl, e1, e3, e4⟩
        · exact ⟨a, none, rfl, upd_same, rfl, .inl ⟨rfl, rfl, rfl⟩⟩
        · exact ⟨a, some dd, rfl, upd_same, e4, .inr ⟨dd, vs, rfl, RelWs.keep (ps.keep p.rel) ws e3, (ps.keep p.rel).xd dd _ e1⟩⟩
      have e3 := (e.keep (ps.keep p.rel)).set (i := j) (w := .exo c' xs ws) (v := .ref a) ex
      refine ⟨by simpa using e3.1, fun m w' q => ?_⟩
      by_cases hm : i = m
      · subst hm
        by_cases hl : i < (as'.set j (some (W.exo c' xs ws))).length
        · rw [List.getElem?_set_self hl] at q
          cases q
        · rw [List.getElem?_eq_none (by rw [List.length_set]; omega)] at q
          cases q
      · rw [List.getElem?_set_ne hm] at q ⊢
        exact e3.2 m w' q
    · rename_i e2
      exact ⟨false, by rw [cs.K]; exact cs.fx.exo _ _ _ e2, (fun z => by cases z), fun _ => w ι' H' d σ' p e ed⟩
    · exact w.elim
  | next _ _ => exact fun w => w
  | ret _ _ => exact fun w => w
  | brk _ _ => exact fun w => w
  | cont _ _ => exact fun w => w
  | stuck => exact fun w => w
/-! ### several names at once -/
def setsL {α : Type} : List Nat → List α → List (Option α) → List (Option α)
  | i :: is, v :: vs, σ => setsL is vs (σ.set i (some v))
  | _, _, σ => σ
def setsR {α : Type} : List Nat → List α → List (Option α) → List (Option α)
  | i :: is, v :: vs, σ => (setsR is vs σ).set i (some v)
  | _, _, σ => σ
theorem setsL_set {α : Type} {i : Nat} {v : α} : ∀ {is : List Nat} {vs : List α} {σ : List (Option α)}, i ∉ is → setsL is vs (σ.set i (some v)) = (setsL is vs σ).set i (some v)
  | [], _, _, _ => rfl
  | _ :: _, [], _, _ => rfl
  | j :: is, w :: vs, σ, h => by
    unfold setsL
    rw [List.mem_cons, not_or] at h
    rw [List.set_comm _ _ h.1, setsL_set h.2]
theorem setsL_eq {α : Type} : ∀ {is : List Nat} {vs : List α} {σ : List (Option α)}, is.Nodup → setsL is vs σ = setsR is vs σ
  | [], _, _, _ => rfl
  | _ :: _, [], _, _ => rfl
  | i :: is, v :: vs, σ, h => by
    unfold setsL setsR
    rw [List.nodup_cons] at h
    rw [setsL_set h.1, setsL_eq h.2]
theorem stores_rev {pins : List (Addr × Obj)} {H : Hp} (hN : X.N.Nodup) : ∀ {names : List Str} {is : List Nat}, Paired (fun x i => X.N[i]? = some x ∧ X.env.scope.names.lookup x = some .local) names is → ∀ {vs : List V} {us : List Value} {σ : L2.St} {s : Shared} {T : List (Value → Sem Unit)} {U : List Value} {Q : Unit → Shared → Prop},
    vs.length = names.length → Vals vs us → L2.Inv X pins σ H s → (∀ s', L2.Inv X pins (setsR is vs σ) H s' → wpAny (model X.prog X.w) X.A (assignInOrder T U) Q X.xe s') →
    wpAny (model X.prog X.w) X.A (assignInOrder ((names.reverse.map fun n => bindName X.env n) ++ T) (us.reverse ++ U)) Q X.xe s
  | _, _, .nil, vs, us, σ, s, T, U, Q, hl, rv, I, h => by
    cases vs with
    | nil =>
      cases rv
      exact h s I
    | cons _ _ => cases hl
  | _, _, .cons (a := x) (l₁ := names) (b := i) (l₂ := is) hx hr, vs, us, σ, s, T, U, Q, hl, rv, I, h => by
    cases vs with
    | nil => cases hl
    | cons v vs =>
      cases rv with
      | cons r1 r2 =>
        rename_i u us
        rw [List.reverse_cons, List.map_append, List.append_assoc, List.reverse_cons, List.append_assoc]
        refine stores_rev hN hr (by simpa using hl) r2 I fun s' I' => ?_
        show wpAny _ _ (assignInOrder ((bindName X.env x) :: T) (u :: U)) _ _ _
        exact assignInOrder_cons (wpAny_bindName (store_ok I' hN hx.1 (.inl hx.2) r1 (fun s2 I2 => h s2 I2) (.inr hx.2)))
theorem ps_parN {es vs : List Expr} {names : List Str} {is : List Nat} {ta : TA} {kt k2 : Nat} {pt pt2 : Pos} (hc : X.calm = true) (hN : X.N.Nodup) (hp : Paired (fun x i => X.N[i]? = some x ∧ X.env.scope.names.lookup x = some .local) names is) (nd : is.Nodup) (ha : PA X vs ta)
    (hw : swappedStores [.Tuple es kt pt] (.Tuple vs k2 pt2) X.env = pure (some names)) :
    PS X (.Assign [.Tuple es kt pt] (.Tuple vs k2 pt2) pos) (fun D σ H => ta σ H fun ws H1 => ws.length = names.length ∧ ws.length ≤ sizeLine ∧ D.nx (setsL is ws σ) H1) := by
  refine ⟨fun pins s σ H D I h => ?_⟩
  rw [exec_Assign_arm]
  refine wpAny_bind (wpAny_standAt ?_)
  rw [show swapsWithSole [.Tuple es kt pt] (.Tuple vs k2 pt2) pos.line X.env = pure false from rfl]
  refine wpAny_bind (wpAny_pure ?_)
  rw [if_neg (by decide)]
  refine wpAny_bind (Tuple_ (thn (ha.run _ pins s σ H _ I h) fun us s1 ⟨ws, H1, I1, r1, l1, l2, q1⟩ => ?_))
  refine wpAny_newObj_type ?_ (by show us.toArray.size ≤ sizeLine; rw [List.size_toArray, ← r1.length]; exact l2)
  have I2 : L2.Inv X pins σ H1 { s1 with heap := s1.heap.push { cls := .type "tuple", data := .seq us.toArray } } := I1.kept (t' := s1.toks) fun b o e => Heap.get?_push_of_some _ e
  rw [hw]
  refine wpAny_bind (wpAny_pure ?_)
  show wpAny (model X.prog X.w) X.A (do rule "assign.swapped-stores"; let items ← unpackItems (.ref s1.heap.objs.size) names.length none; assignInOrder (names.reverse.map fun n => bindName X.env n) items.reverse; pure Flow.next) _ _ _
  have hn : names.length = us.toArray.size := by rw [List.size_toArray, ← l1, r1.length]
  rw [hn]
  refine wpAny_bind (wpAny_rule (wpAny_bind (unpackItems_tuple (items := us.toArray) (I.ok.hd hc) (IsTup.new s1.heap _) fun h' hx' => ?_)))
  have I3 := I2.kept (h' := h') (t' := s1.toks) fun b o e => hx' b o (Nat.ne_of_lt (Heap.lt_size e)) e
  show wpAny _ _ (assignInOrder (names.reverse.map fun n => bindName X.env n) us.reverse >>= fun _ => pure Flow.next) _ _ _
  refine wpAny_bind ?_
  have := stores_rev (T := []) (U := []) hN hp l1 r1 I3 (Q := fun _ s' => wpAny (model X.prog X.w) X.A (pure Flow.next) (SP X pins D) X.xe s') fun s' I' => assignInOrder_nil (wpAny_pure ⟨_, H1, I', by rw [← setsL_eq nd]; exact q1⟩)
  rw [List.append_nil, List.append_nil] at this
  exact this
theorem asgTs_nm {as : St} {h : AH} : ∀ {is : List Nat} {ws : List W}, ws.length = is.length → asgTs g (is.map .nm) ws as h = .ok (setsL is ws as) h
  | [], [], _ => by
    unfold setsL
    rw [List.map_nil, asgTs]
  | i :: is, w :: ws, e => by
    rw [List.map_cons, asgTs, asgT]
    show asgTs g (is.map .nm) ws (as.set i (some w)) h = _
    rw [asgTs_nm (by simpa using e)]
    rfl
  | [], _ :: _, e => by cases e
  | _ :: _, [], e => by cases e
theorem relS_setsL {ι : Nat → Addr} {n : Nat} {H : Hp} : ∀ {is : List Nat} {ws : List W} {vs : List V} {as : St} {σ : L2.St}, RelS k ι n H as σ → RelWs k ι n H ws vs → RelS k ι n H (setsL is ws as) (setsL is vs σ)
  | [], _, _, _, _, rs, _ => rs
  | _ :: _, [], vs, _, _, rs, rv => by
    unfold RelWs at rv
    subst rv
    exact rs
  | i :: is, w :: ws, vs, as, σ, rs, rv => by
    unfold RelWs at rv
    obtain ⟨v, r, rfl, r1, r2⟩ := rv
    exact relS_setsL (is := is) (rs.set r1) r2
theorem s_par {es vs : List Expr} {names : List Str} {is : List Nat} {cs : List C} {kt k2 : Nat} {pt pt2 : Pos} (cx : CxO X k gl g lv fA se) (hp : Paired (fun x i => X.N[i]? = some x ∧ X.env.scope.names.lookup x = some .local) names is) (nd : is.Nodup) (ha : PA X vs (tEs k g Wx cs))
    (hw : swappedStores [.Tuple es kt pt] (.Tuple vs k2 pt2) X.env = pure (some names)) : PS X (.Assign [.Tuple es kt pt] (.Tuple vs k2 pt2) pos) (tS k g Wx (.asg (.tp (is.map .nm)) (.tup cs))) :=
  PS.of (ps_parN cx.calm cx.nd hp nd ha hw) fun D σ H ⟨ι, as, h, rs, r, w⟩ => by
    dsimp only at w
    rw [evalS, evalE] at w
    have w : WPO k Wx ((evalEs g cs as h).then as fun ws h1 => (if szOk ws.length then Res.ok (W.tup ws) h1 else .stuck).then as fun w h1 => (toNoExc (asgT g (.tp (is.map .nm)) w as h1)).then as fun σ1 h2 => .next σ1 h2) ι h H D := by
      revert w
      cases evalEs g cs as h <;> exact fun w => w
    refine (nxtO (rel := relWs k) rs r w).imp fun us H1 ⟨ι, h, ws, rs, r, ra, w⟩ => ?_
    split at w
    · rename_i hz
      have w : WPO k Wx ((toNoExc (asgT g (.tp (is.map .nm)) (.tup ws) as h)).then as fun σ1 h2 => .next σ1 h2) ι h H1 D := w
      rw [asgT] at w
      split at w
      · rename_i hl
        rw [List.length_map] at hl
        rw [asgTs_nm hl] at w
        exact ⟨by rw [← ra.len, hl]; exact (Paired.length hp).symm, by rw [← ra.len]; exact sz_ok hz, w ι H1 _ (Post.refl r) (relS_setsL rs ra)⟩
      · exact w.elim
    · exact w.elim
/-! ### name = [..] -/
theorem s_setLc {y t i : Expr} {fs : List Expr} {scope : Scope} {own : List (Str × Nat)} {tg : Tg} {it : It} {ifs : List T} {elt : C} {n : Nat} {yn : Str} {py p2 : Pos} (cx : CxO X k gl g lv fA se) (lc : LcOk X k g Wx y t i fs scope own tg it ifs elt)
    (hy : X.N[n]? = some yn) (hyl : X.env.scope.names.lookup yn = some .local) (hsw : swapsWith (.ListComp y [⟨t, i, fs, 0⟩] scope p2) (some (.Name yn py)) pos.line X.env = pure true) :
    PS X (.Assign [.Name yn py] (.ListComp y [⟨t, i, fs, 0⟩] scope p2) pos) (tS k g Wx (.asg (.nm n) (.comp own tg it ifs elt))) :=
  PS.of (ps_setLc cx.calm cx.nd hy hyl hsw lc.hi lc.ok lc.hg lc.ht lc.he (noSet_of lc.ns)) fun D σ H ⟨ι, as, h, rs, r, w⟩ => by
    dsimp only at w
    rw [evalS] at w
    have q : tE k g Wx (.comp own tg it ifs elt) σ H fun x H1 => gName n x σ H1 D.nx := (nxtO (rel := relW k) rs r w).imp fun v H1 ⟨ι, h, a, rs, r, ra, w⟩ => by
      have w : WPO k Wx ((toNoExc (asgT g (.nm n) a as h)).then as fun σ1 h2 => .next σ1 h2) ι h H1 D := w
      rw [asgT] at w
      exact w ι H1 _ (Post.refl r) (rs.set ra)
    exact lc_read lc (tE_tL q)
end
end AM
/-! An exception's own __init__: its base's __init__ with a message, then its field. -/
namespace AM
open PySem PySem.Spec PyProof.Rows L2
/-- the class is one of exceptions, whatever its __init__ -/
def oexIn (K : PySem.W.Frag) (C : Addr) : Bool := match K.lookup C with
  | some ⟨.type "type", _, .cls cd, sl⟩ => (match cd.mro, sl.toList with
    | .ref C' :: bm, [_, _, _, _, some (.builtin n), _] => C' == C && n == "ValueError.__new__" && !cd.hasDel && cd.hasDict && PySem.HandSPX.refsVE bm
    | _, _ => false)
  | _ => false
theorem oexIn_ok {K : PySem.W.Frag} {C : Addr} (q : oexIn K C = true) : ∃ nm q N bs bm sn sub ab col dd k0 k1 k2 k3 k5, K.lookup C = some (excClassObj nm q C N bs bm true sn sub ab col dd k0 k1 k2 k3 k5 "ValueError.__new__") ∧ PySem.HandSPX.refsVE bm = true := by
  unfold oexIn at q
  split at q
  · rename_i dd cd sl ho
    split at q
    · rename_i C' bm k0 k1 k2 k3 n k5 hm hs
      simp only [Bool.and_eq_true, beq_iff_eq, Bool.not_eq_true'] at q
      obtain ⟨⟨⟨⟨rfl, rfl⟩, hdel⟩, hdc⟩, ht⟩ := q
      obtain ⟨nm, bs, mro, ns, qn, hd, sn, sub, ab, col, del⟩ := cd
      dsimp only at hm hdel hdc
      subst hm hdel hdc
      have hsl : sl = #[k0, k1, k2, k3, some (.builtin "ValueError.__new__"), k5] := by
        obtain ⟨l⟩ := sl
        simp only at hs
        rw [hs]
      subst hsl
      exact ⟨nm, qn, ns, bs, bm, sn, sub, ab, col, dd, k0, k1, k2, k3, k5, ho, ht⟩
    · cases q
  · cases q
/-- a base class whose __init__ is ValueError's -/
structure BasC (K : PySem.W.Frag) (C : Addr) : Prop where
  sp : PySem.W.specialIn K (.ref C) "__getattribute__" = some (some (.builtin "type.__getattribute__"))
  ty : PySem.W.typeIn K (.ref C) = some (.type "type")
  rd : PySem.W.readsIn K C (.type "type") = true
  fi : PySem.W.findCls K (.ref C) (.type "type") "__init__" = some (.val (.builtin "ValueError.__init__"))
section
variable {X : Cx} {k : Cst} {gl : Gl}
/-- B.__init__(self, ..), B an own class over ValueError -/
theorem pe_basinit {b : Str} {B : Addr} {e : Expr} {es : List Expr} {ta : TA} {p1 p2 pos : Pos} (T : BasC X.K B) (hg : L2.Gl X b) (hm : X.mg b = some (.ref B)) (hdb : (b == ("__debug__" : Str)) = false) (ha : PA X (e :: es) ta)
    (hc : ∃ pl, eval (.Call (.Attribute (.Name b p1) "__init__" p2) (e :: es) [] pos) X.env = (do
      let ov ← eval (.Name b p1) X.env
      standAt p2.atName
      let (f, first) ← holding [ov] (getMethod ov "__init__" pl)
      callWith pos f first (backTo pos (starEach (e :: es) X.env)) (backToKw pos (keywordEach [] X.env))))
    (he : starEach (e :: es) X.env = (false, eval e X.env) :: starEach es X.env) (hpl : (backTo pos (starEach es X.env)).any (·.1) = false) :
    PE X (.Call (.Attribute (.Name b p1) "__init__" p2) (e :: es) [] pos) (tVeI X.K ta) := by
  obtain ⟨pl, hc⟩ := hc
  refine ⟨fun pins s σ H Q I h => ?_⟩
  refine PySem.W.methodCall_KW (ld_glob I hg hm ?_ hdb) hc
  obtain ⟨m, fr⟩ := I.fr
  refine PySem.W.method_of_cls fr I.ok.mod.kin T.sp (PySem.W.cls_val fr I.ok.mod.kin T.ty T.rd T.fi (by decide +kernel) ?_)
  show wpAny _ _ (callWith pos (Value.builtin "ValueError.__init__") [] (backTo pos (starEach (e :: es) X.env)) []) _ _ _
  refine PyProof.Rows.callWith_method1 (thn (ha.run pos pins _ σ H _ (I.tok _) h) fun us s1 ⟨vs, H1, I1, r1, a, C, ws, ev, hl, T, ea, q⟩ => ?_) he hpl
  subst ev
  cases r1 with
  | @cons _ u0 _ ur ra rw' =>
    obtain rfl : u0 = Value.ref a := ra
    have hlen : ur.length ≤ sizeLine := by
      rw [← Paired.length rw', sizeLine_eq]
      omega
    exact oinit_ok T I1 ea hlen fun s' J => ⟨.non, H1, J, rfl, q⟩
/-- str of a number, of a tuple -/
def rStr (K : PySem.W.Frag) : List V → Hp → VK → Prop := fun xs H Q => (∃ i : Int, xs = [.int i] ∧ i.natAbs.log2 < 1920 ∧ Q (.str (Str.ofString (toString i))) H) ∨ rRepr K xs H Q
theorem call_strA (hq : X.A.guards = some []) (hu : X.A.units + 65 < cLine) : CallR X (.type "str") (rStr X.K) := by
  intro pins s σ H xs us Q I r h
  rcases h with ⟨i, rfl, h1, q⟩ | h
  · exact call_str_int pins s σ H _ us Q I r ⟨i, rfl, h1, q⟩
  · exact call_strD hq hu pins s σ H _ us Q I r h
/-- the message -/
theorem pe_msg {m st x1 : Str} {j : Nat} {pm ps px pos p4 : Pos} (hq : X.A.guards = some []) (hu : X.A.units + 65 < cLine) (hst : st = "str") (gs : L2.Gl X st) (ms : X.mg st = none) (nm : st ≠ "__name__") (db : (st == ("__debug__" : Str)) = false)
    (hi : X.N[1]? = some x1) (hv : Vis X.env.scope x1) (h3 : (x1 == ("__debug__" : Str)) = false) (h4 : (x1 == ("__classdict__" : Str)) = false) :
    PE X (.BinOp (.Constant (.str m) j pm) .Add (.Call (.Name st ps) [.Name x1 px] [] pos) p4) (fun σ H Q => ∃ y, σ[1]? = some (some y) ∧ msgV X.K H m y ∧ ∀ z, Q (.str z) H) := by
  subst hst
  have h1 : PE X (.Call (.Name "str" ps) [.Name x1 px] [] pos) _ := pe_callTy (call_strA hq hu) gs ms (by decide +kernel) (pa_cons (pe_var hi hv h3 h4) pa_nil rfl) nm db rfl rfl
  refine PE.of (pe_op op_add_str pe_str h1) fun σ H Q ⟨y, hy, mv, q⟩ => ?_
  rcases mv with ⟨i, rfl, e1, e2⟩ | ⟨a, d, rfl, e1, e2, e3, e4, e5, e6⟩
  · exact ⟨.int i, hy, .inl ⟨i, rfl, e1, m, _, rfl, rfl, e2, q _⟩⟩
  · exact ⟨.ref a, hy, .inr ⟨a, d, rfl, e1, e2, e3, e4, e5, m, _, rfl, rfl, e6, q _⟩⟩
end
section
variable {k : Cst} {gl : Gl}
theorem visR {N : List Str} {sc : Scope} {x : Str} {i : Nat} {X : Cx} (hN : X.N = N) (hs : X.env.scope = sc) (ok : okN ⟨N, sc, fun _ => true⟩ x i = true) : X.N[i]? = some x ∧ Vis X.env.scope x ∧ (x == ("__debug__" : Str)) = false ∧ (x == ("__classdict__" : Str)) = false := by
  unfold okN at ok
  simp only [Bool.and_eq_true, decide_eq_true_eq, Bool.not_eq_true'] at ok
  obtain ⟨⟨⟨e1, e2⟩, e3⟩, e4⟩ := ok
  refine ⟨by rw [hN]; exact e1, ?_, e3, e4⟩
  rw [hs]
  unfold Vis
  revert e2
  cases sc.names.lookup x with
  | none => intro h; cases h
  | some kk => cases kk <;> intro h <;> first | exact .inl rfl | exact .inr (.inl rfl) | exact .inr (.inr rfl) | cases h
theorem glR {N : List Str} {sc : Scope} {x : Str} {gk : GK} {X : Cx} (hs : X.env.scope = sc) (ok : okG gl ⟨N, sc, fun _ => true⟩ x gk = true) : L2.Gl X x ∧ gl.lookup x = some gk ∧ (x == ("__debug__" : Str)) = false ∧ x ≠ "__name__" := by
  unfold okG at ok
  simp only [Bool.and_eq_true, decide_eq_true_eq, Bool.not_eq_true'] at ok
  obtain ⟨⟨⟨e1, e2⟩, e3⟩, e4⟩ := ok
  refine ⟨?_, e2, e3, by simpa using e4⟩
  show X.env.scope.names.lookup x = _
  rw [hs]
  exact e1
/-- the body's rule -/
theorem ini_body {X : Cx} {c : Nat} {i : IniC} {d : DefC} {sc : Scope} {body : List Stmt} (hK : X.K = k.K) (hN : X.N = d.ns) (hs : X.env.scope = sc) (hc : X.calm = true) (hq : X.A.guards = some []) (hu : X.A.units + 65 < cLine) (fk : X.env.scope.kind = .function)
    (gb : ∀ x c, gl.lookup x = some (.cls c) → X.mg x = some (.ref (k.cA c))) (gf : ∀ x, gl.lookup x = some .blt → X.mg x = none) (B : BasC k.K (k.cA i.b)) (T : OexC k.K (k.cA c)) (no : PySem.W.findIn k.K (.ref (k.cA c)) i.x = some none) (ok : okIni gl i d sc body = true) :
    ∃ t : TS, PSs X body t ∧ ∀ D σ H a y, σ[0]? = some (some (.ref a)) → σ[1]? = some (some y) → H a = some (exo a (k.cA c) none) → msgV k.K H i.m y → (∀ dx, H dx = none → dx ≠ a → D.nx σ (L2.upd (L2.upd H dx (exd dx [(i.x, y)])) a (exo a (k.cA c) (some dx)))) → t D σ H := by
  unfold okIni at ok
  split at ok
  · rename_i b p1 ini p2 s1 p3 m j p4 st p5 x1 p6 p7 p8 p9 p10 s2 p11 f p12 x2 p13 p14
    simp only [Bool.and_eq_true, decide_eq_true_eq] at ok
    obtain ⟨⟨⟨⟨⟨⟨⟨⟨⟨⟨⟨⟨k0, k1⟩, k2⟩, rfl⟩, k4⟩, k5⟩, rfl⟩, k7⟩, k8⟩, k9⟩, k10⟩, rfl⟩, k12⟩ := ok
    obtain ⟨g1, g2, g3, g4⟩ := glR (X := X) hs k4
    obtain ⟨h1, h2, h3, h4⟩ := glR (X := X) hs k7
    obtain ⟨v1, v2, v3, v4⟩ := visR hN hs k5
    obtain ⟨w1, w2, w3, w4⟩ := visR hN hs k9
    obtain ⟨y1, y2, y3, y4⟩ := visR hN hs k10
    obtain ⟨z1, z2, z3, z4⟩ := visR hN hs k12
    have pm := pe_msg (m := i.m) (j := j) (pm := p4) (ps := p5) (px := p6) (pos := p7) (p4 := p8) hq hu k8 h1 (gf _ h2) h4 h3 w1 w2 w3 w4
    have s_1 := pe_basinit (p1 := p1) (p2 := p2) (pos := p9) (B := k.cA i.b) (by rw [hK]; exact B) g1 (gb _ _ g2) g3 (pa_cons (pe_var v1 v2 v3 v4 (pos := p3)) (pa_cons pm pa_nil rfl) rfl) ⟨_, meth_form rfl rfl rfl k0 (by show 2 + 0 < 12; decide)⟩ rfl rfl
    have s_2 := ps_ost (f := i.x) (p' := p12) (pos := p14) (pe_var y1 y2 y3 y4 (pos := p11)) (pe_var z1 z2 z3 z4 (pos := p13)) rfl
    refine ⟨_, pss_cons (ps_expr s_1 rfl) (pss_cons s_2 pss_nil), fun D σ H a y e1 e2 ha hm q => ?_⟩
    rw [← hK] at T no hm
    refine ⟨.ref a, e1, y, e2, hm, fun z => ⟨a, k.cA c, [.str z], rfl, by simp, T, ha, ?_⟩⟩
    exact ⟨y, e2, .ref a, e1, a, k.cA c, rfl, T, no, .inl ⟨ha, fun dx h1 h2 => q dx h1 h2⟩⟩
  · cases ok
theorem room0 {A : Around} (r : Room 0 A) : A.units + 65 < cLine := by
  have := r.un
  omega
theorem ini_s {P : Program} {w : World} {mg : Str → Option Value} {base : Heap} {c : Nat} {i : IniC} {d : DefC} {name qual : Str} {params : Arguments} {body : List Stmt} {scope : Scope} {oc : Value} {od : Option Addr} {kV doc pm : Value} {an : Option Addr} {cdv ct : Value} {osl : Array (Option Value)} {fI : Addr}
    (e1 : k.K.lookup fI = some ⟨oc, od, .func (PySem.W.fnOf name qual params body scope .none kV doc pm an cdv ct), osl⟩) (e2 : PySem.W.codeIn k.K cdv qual = true) (hb : Binds k.K (PySem.W.fnOf name qual params body scope .none kV doc pm an cdv ct) d.ps [])
    (FS : FnScope d.ns d.ps scope) (two : d.ps.length = 2)
    (gb : ∀ x c, gl.lookup x = some (.cls c) → mg x = some (.ref (k.cA c))) (gf : ∀ x, gl.lookup x = some .blt → mg x = none) (B : BasC k.K (k.cA i.b)) (T : OexC k.K (k.cA c)) (xf : XfC k.K (k.cA c)) (no : PySem.W.findIn k.K (.ref (k.cA c)) i.x = some none)
    (iC : PySem.W.findIn k.K (.ref (k.cA c)) "__init__" = some (some (.ref fI))) (tI : PySem.W.typeIn k.K (.ref fI) = some (.type "function")) (ok : okIni gl i d scope body = true) : IniS P w mg base k c i := by
  refine ⟨T, xf, no, fI, _, d.ps, iC, tI, hb, ?_⟩
  refine fng_of (k := 0) (N := d.ns) e1 e2 FS (fun {vs H Q E} sp => ?_) fun {A outer s H vs Q E} hr hq sp => ?_
  · obtain ⟨a, y, rfl, _⟩ := sp
    exact two.symm
  · obtain ⟨a, y, rfl, ha, hm, q⟩ := sp
    obtain ⟨t, run, rd⟩ := ini_body (X := cxOf (L2.CX P w) P w k.K mg base d.ns qual scope fI cdv A outer s H E) (k := k) (gl := gl) rfl rfl rfl rfl hq (room0 hr) FS.kind gb gf B T no ok
    refine ⟨t, run, rd _ _ _ a y ?_ ?_ ha hm fun dx h1 h2 => q dx h1 h2⟩
    · rfl
    · rfl
end
end AM
/-! The core is sound: every piece of text that the checker passes does what the interpreter says. -/
namespace AM
open PySem L2
variable {k : Cst} {gl : Gl} {g : Ev} {lv : Nat} {fA : Nat → Addr}
theorem okEs_len {se : SE} : ∀ {cs : List C} {es : List Expr}, okEs gl cs se es = true → cs.length = es.length ∧ es.all noStar = true
  | [], es, h => by
    unfold okEs at h
    cases es with
    | nil => exact ⟨rfl, rfl⟩
    | cons _ _ => cases h
  | c :: cs, es, h => by
    unfold okEs at h
    cases es with
    | nil => cases h
    | cons e es =>
      simp only [Bool.and_eq_true] at h
      obtain ⟨h1, h2⟩ := okEs_len h.2
      refine ⟨by simp [h1], ?_⟩
      rw [List.all_cons, noStar_of h.1, h2]
      rfl
theorem okTg_star {se : SE} {t : Tg} {e : Expr} (h : okTg gl t se e = true) : noStar e = true := by
  cases e <;> first | rfl | skip
  cases t <;> (unfold okTg at h; cases h)
theorem okTgs_len {se : SE} : ∀ {ts : List Tg} {es : List Expr}, okTgs gl ts se es = true → ts.length = es.length ∧ es.all noStar = true
  | [], es, h => by
    unfold okTgs at h
    cases es with
    | nil => exact ⟨rfl, rfl⟩
    | cons _ _ => cases h
  | c :: cs, es, h => by
    unfold okTgs at h
    cases es with
    | nil => cases h
    | cons e es =>
      simp only [Bool.and_eq_true] at h
      obtain ⟨h1, h2⟩ := okTgs_len h.2
      refine ⟨by simp [h1], ?_⟩
      rw [List.all_cons, okTg_star h.1, h2]
      rfl
theorem nil_of_len {α β : Type} {cs : List α} {es : List β} (h : cs.length = es.length) (e : es = []) : cs = [] := by
  subst e
  exact List.eq_nil_of_length_eq_zero h
theorem okL_star {c : C} {se : SE} {e : Expr} (h : okL gl c se e = true) : noStar e = true := by
  cases e <;> first | rfl | skip
  cases c <;> (unfold okL at h; cases h)
theorem slots_in {tg : Tg} {own : List (Str × Nat)} (h : slotsIn tg own = true) : ∀ j ∈ slotsT tg, j ∈ own.map (·.2) := fun j hj => by
  unfold slotsIn at h
  rw [List.all_eq_true] at h
  simpa using h j hj
theorem val_ok {c : C} {se : SE} {e : Expr} (ok : okT gl (.val c) se e = true) : okE gl c se e = true := by
  unfold okT at ok
  rw [Bool.and_eq_true] at ok
  exact ok.1
theorem val_test {c : C} {se : SE} {e : Expr} (hc : ∀ op a b, c ≠ .cmp op a b) (ok : okT gl (.val c) se e = true) : noTest e = true := by
  unfold okT at ok
  rw [Bool.and_eq_true, Bool.or_eq_true] at ok
  obtain ⟨h1, h2⟩ := ok
  rcases h2 with h2 | h2
  · exact h2
  · cases e <;> first | (cases h2; done) | skip
    cases c <;> first | exact absurd rfl (hc _ _ _) | (unfold okE at h1; cases h1)
theorem okPrim_set {gl : Gl} {p : Prim} {c : C} {cs : List C} {se : SE} {x : Str} {px pos : Pos} {es : List Expr} (ok : okE gl (.prim p (c :: cs)) se (.Call (.Name x px) es [] pos) = true) (hs : isSetP p = true) (ho : p ≠ .lenOwn) :
    ∃ y py z pos2, cs = [] ∧ es = [.Call (.Name y py) [z] [] pos2] ∧ (p = .sortedSet ∨ p = .lenSet) ∧ (okG gl se x .blt && decide (x = primName p) && okG gl se y .blt && decide (y = ("set" : Str)) && okE gl c se z) = true := by
  have hp2 : p = .sortedSet ∨ p = .lenSet := by
    cases p <;> first | exact .inl rfl | exact .inr rfl | exact absurd rfl ho | cases hs
  unfold okE at ok
  dsimp only at ok
  split at ok
  · rcases hp2 with e | e <;> cases e
  · rename_i e2
    obtain ⟨rfl, rfl⟩ := List.cons.inj e2
    exact ⟨_, _, _, _, rfl, rfl, .inl rfl, ok⟩
  · rename_i e2
    obtain ⟨rfl, rfl⟩ := List.cons.inj e2
    exact ⟨_, _, _, _, rfl, rfl, .inr rfl, ok⟩
  · exact absurd rfl ho
  · rw [Bool.and_eq_true, Bool.and_eq_true, Bool.and_eq_true, Bool.and_eq_true] at ok
    have := ok.1.1.1.2
    rw [hs] at this
    cases this
  · cases ok
mutual
theorem sE : ∀ (c : C) {se : SE} {e : Expr} {X : Cx} {Wx : WX}, CxO X k gl g lv fA se → Takes X Wx → okE gl c se e = true → PE X e (tE k g Wx c)
  | .var i, se, e, X, Wx, cx, tk, ok => by
    unfold okE at ok
    split at ok
    · exact e_var cx ok
    · cases ok
  | .con w, se, e, X, Wx, cx, tk, ok => by
    unfold okE at ok
    split at ok
    · exact e_con ok
    · cases ok
  | .glo x w, se, e, X, Wx, cx, tk, ok => by
    unfold okE at ok
    split at ok
    · simp only [Bool.and_eq_true, decide_eq_true_eq] at ok
      exact e_glo cx ok.1.1 ok.1.2 ok.2
    · cases ok
  | .bin op a b, se, e, X, Wx, cx, tk, ok => by
    unfold okE at ok
    split at ok
    · simp only [Bool.and_eq_true, decide_eq_true_eq] at ok
      obtain ⟨⟨rfl, h1⟩, h2⟩ := ok
      exact e_bin cx (sE a cx tk h1) (sE b cx tk h2)
    · cases ok
  | .neg a, se, e, X, Wx, cx, tk, ok => by
    unfold okE at ok
    split at ok
    · exact e_neg (sE a cx tk ok)
    · cases ok
  | .cmp op a b, se, e, X, Wx, cx, tk, ok => by
    unfold okE at ok
    split at ok
    · simp only [Bool.and_eq_true, decide_eq_true_eq] at ok
      obtain ⟨⟨⟨rfl, h0⟩, h1⟩, h2⟩ := ok
      exact e_cmp cx h0 (sE a cx tk h1) (sE b cx tk h2)
    · cases ok
  | .not a, se, e, X, Wx, cx, tk, ok => by
    unfold okE at ok
    split at ok
    · exact e_not (sE a cx tk ok)
    · cases ok
  | .and cs, se, e, X, Wx, cx, tk, ok => by
    unfold okE at ok
    split at ok
    · exact PE.of (sAnd cs cx tk ok) fun σ H Q w => tR.eq w fun _ _ => by rw [evalE]
    · cases ok
  | .or cs, se, e, X, Wx, cx, tk, ok => by
    unfold okE at ok
    split at ok
    · exact PE.of (sOr cs cx tk ok) fun σ H Q w => tR.eq w fun _ _ => by rw [evalE]
    · cases ok
  | .ife t a b, se, e, X, Wx, cx, tk, ok => by
    unfold okE at ok
    split at ok
    · simp only [Bool.and_eq_true] at ok
      exact e_ife (sT t cx tk ok.1.1) (sE a cx tk ok.1.2) (sE b cx tk ok.2)
    · cases ok
  | .sub a i, se, e, X, Wx, cx, tk, ok => by
    unfold okE at ok
    split at ok
    · simp only [Bool.and_eq_true] at ok
      exact e_sub cx ok.1.1 (sE a cx tk ok.1.2) (sE i cx tk ok.2)
    · cases ok
  | .slc a lo hi, se, e, X, Wx, cx, tk, ok => by
    unfold okE at ok
    split at ok
    · simp only [Bool.and_eq_true] at ok
      exact e_slc cx (sE a cx tk ok.1.1) (sO lo cx tk ok.1.2) (sO hi cx tk ok.2)
    · cases ok
  | .tup cs, se, e, X, Wx, cx, tk, ok => by
    unfold okE at ok
    split at ok
    · exact e_tup (sEs cs cx tk ok)
    · cases ok
  | .lst cs, se, e, X, Wx, cx, tk, ok => by
    unfold okE at ok
    split at ok
    · exact e_lst (sEs cs cx tk ok)
    · cases ok
  | .call f cs ks kcs, se, e, X, Wx, cx, tk, ok => by
    unfold okE at ok
    split at ok
    · simp only [Bool.and_eq_true, decide_eq_true_eq] at ok
      obtain ⟨⟨⟨⟨h1, h2⟩, h3⟩, h4⟩, h5⟩ := ok
      obtain ⟨l1, l2⟩ := okEs_len h2
      exact e_call cx tk (g_of cx h1) (sEs cs cx tk h2) (sK kcs cx tk h3 h5) l2 h3 h4 (nil_of_len l1)
    · cases ok
  | .new c cs ks kcs, se, e, X, Wx, cx, tk, ok => by
    unfold okE at ok
    split at ok
    · simp only [Bool.and_eq_true, decide_eq_true_eq] at ok
      obtain ⟨⟨⟨⟨h1, h2⟩, h3⟩, h4⟩, h5⟩ := ok
      obtain ⟨l1, l2⟩ := okEs_len h2
      exact e_new cx tk (g_of cx h1) (sEs cs cx tk h2) (sK kcs cx tk h3 h5) l2 h3 h4 (nil_of_len l1)
    · cases ok
  | .meth m o cs ks kcs, se, e, X, Wx, cx, tk, ok => by
    unfold okE at ok
    split at ok
    · simp only [Bool.and_eq_true, decide_eq_true_eq] at ok
      obtain ⟨⟨⟨⟨⟨⟨⟨⟨rfl, h0⟩, h1⟩, h2⟩, h3⟩, h4⟩, h5⟩, h6⟩, h7⟩ := ok
      obtain ⟨l1, l2⟩ := okEs_len h2
      exact e_meth cx tk (sE o cx tk h1) (sEs cs cx tk h2) (sK kcs cx tk h3 h5) h0 l2 h3 h4 (nil_of_len l1) h6 h7
    · cases ok
  | .attr o x, se, e, X, Wx, cx, tk, ok => by
    unfold okE at ok
    split at ok
    · simp only [Bool.and_eq_true, decide_eq_true_eq] at ok
      obtain ⟨⟨rfl, h0⟩, h1⟩ := ok
      exact e_attr cx (sE o cx tk h1) h0
    · cases ok
  | .prim p [], se, e, X, Wx, cx, tk, ok => by
    unfold okE at ok
    split at ok
    · cases p <;> cases ok
    · cases ok
  | .prim p (c :: cs), se, e, X, Wx, cx, tk, ok => by
    have ok0 := ok
    unfold okE at ok
    split at ok
    · rename_i x px es pos
      by_cases hp : ∃ ts ds, p = .isi ts ds
      · obtain ⟨ts, ds, rfl⟩ := hp
        cases cs with
        | cons _ _ => cases ok
        | nil =>
          match es, ok with
          | [y, t], ok =>
            have ok : (okG gl se x .blt && decide (x = primName (.isi ts ds)) && okE gl c se y && okTy gl se ts ds t) = true := ok
            simp only [Bool.and_eq_true, decide_eq_true_eq] at ok
            obtain ⟨⟨⟨h1, h2⟩, h3⟩, h4⟩ := ok
            exact e_isi cx (g_of cx h1) h2 (sE c cx tk h3) (noStar_of h3) h4
          | [], ok => cases ok
          | [_], ok => cases ok
          | _ :: _ :: _ :: _, ok => cases ok
      · by_cases ho : p = .lenOwn
        · subst ho
          cases cs with
          | cons _ _ => cases ok
          | nil =>
            match es, ok with
            | [y], ok =>
              have ok : (okG gl se x .blt && decide (x = ("len" : Str)) && okE gl c se y) = true := ok
              simp only [Bool.and_eq_true, decide_eq_true_eq] at ok
              obtain ⟨⟨h1, h2⟩, h3⟩ := ok
              exact e_lenOwn cx (g_of cx h1) h2 (sE c cx tk h3) (noStar_of h3)
            | [], ok => cases ok
            | _ :: _ :: _, ok => cases ok
        by_cases hs : isSetP p = true
        · have hh := okPrim_set ok0 hs ho
          obtain ⟨y, py, z, pos2, rfl, rfl, hp2, ok2⟩ := hh
          simp only [Bool.and_eq_true, decide_eq_true_eq] at ok2
          obtain ⟨⟨⟨⟨h1, h2⟩, h3⟩, h4⟩, h5⟩ := ok2
          rcases hp2 with rfl | rfl
          · exact e_sortedSet cx (g_of cx h1) h2 (g_of cx h3) h4 (sE c cx tk h5) (noStar_of h5)
          · exact e_lenSet cx (g_of cx h1) h2 (g_of cx h3) h4 (sE c cx tk h5) (noStar_of h5)
        · have ok2 : (!isIsi p && !isSetP p && okG gl se x .blt && decide (x = primName p) && okEs gl (c :: cs) se es) = true := by
            cases p <;> first | exact ok | exact absurd ⟨_, _, rfl⟩ hp | exact absurd rfl hs
          simp only [Bool.and_eq_true, decide_eq_true_eq, Bool.not_eq_true'] at ok2
          obtain ⟨⟨⟨⟨h1, h0⟩, h2⟩, h3⟩, h4⟩ := ok2
          obtain ⟨l1, l2⟩ := okEs_len h4
          cases es with
          | nil => cases l1
          | cons e es => exact e_prim cx (g_of cx h2) h3 h1 h0 (sEs (c :: cs) cx tk h4) l2
    · cases ok
  | .primc p c, se, e, X, Wx, cx, tk, ok => by
    unfold okE at ok
    split at ok
    · simp only [Bool.and_eq_true, decide_eq_true_eq, Bool.not_eq_true'] at ok
      obtain ⟨⟨⟨h1, h2⟩, h3⟩, h4⟩ := ok
      exact e_primc cx (g_of cx h2) h3 h1 (sL c cx tk h4) (okL_star h4)
    · cases ok
  | .bm m o cs, se, e, X, Wx, cx, tk, ok => by
    unfold okE at ok
    split at ok
    · rename_i v x apos es pos
      simp only [Bool.and_eq_true] at ok
      obtain ⟨⟨⟨⟨h0, h1⟩, h2⟩, h3⟩, h4⟩ := ok
      cases m with
      | append =>
        simp only [Bool.and_eq_true, decide_eq_true_eq] at h0
        obtain ⟨rfl, l0⟩ := h0
        obtain ⟨l1, l2⟩ := okEs_len h3
        match es, cs, l0, l1, h3, l2 with
        | [e], c1 :: cs, _, _, h3, l2 => exact e_append cx (sE o cx tk h2) (sEs (c1 :: cs) cx tk h3) h1 l2 h4
      | extend =>
        simp only [Bool.and_eq_true, decide_eq_true_eq] at h0
        obtain ⟨rfl, l0⟩ := h0
        obtain ⟨l1, l2⟩ := okEs_len h3
        match es, cs, l0, l1, h3, l2 with
        | [e], c1 :: cs, _, _, h3, l2 => exact e_extend cx (sE o cx tk h2) (sEs (c1 :: cs) cx tk h3) h1 l2 h4
      | pop0 =>
        simp only [Bool.and_eq_true, decide_eq_true_eq] at h0
        obtain ⟨rfl, l0⟩ := h0
        obtain ⟨l1, l2⟩ := okEs_len h3
        match es, cs, l0, l1 with
        | [], [], _, _ => exact e_pop0 cx (sE o cx tk h2) h1 h4
      | count =>
        simp only [Bool.and_eq_true, decide_eq_true_eq] at h0
        obtain ⟨rfl, l0⟩ := h0
        obtain ⟨l1, l2⟩ := okEs_len h3
        match es, cs, l0, l1, h3, l2 with
        | [e], c1 :: cs, _, _, h3, l2 => exact e_count cx (sE o cx tk h2) (sEs (c1 :: cs) cx tk h3) h1 l2 h4
      | index =>
        simp only [Bool.and_eq_true, decide_eq_true_eq] at h0
        obtain ⟨rfl, l0⟩ := h0
        obtain ⟨l1, l2⟩ := okEs_len h3
        match es, cs, l0, l1, h3, l2 with
        | [e], c1 :: cs, _, _, h3, l2 => exact e_index cx (sE o cx tk h2) (sEs (c1 :: cs) cx tk h3) h1 l2 h4
      | get2 =>
        simp only [Bool.and_eq_true, decide_eq_true_eq] at h0
        obtain ⟨rfl, l0⟩ := h0
        obtain ⟨l1, l2⟩ := okEs_len h3
        match es, cs, l0, l1, h3, l2 with
        | [e, e2], c1 :: cs, _, _, h3, l2 => exact e_get2 cx (sE o cx tk h2) (sEs (c1 :: cs) cx tk h3) h1 l2 h4
      | setdefault =>
        simp only [Bool.and_eq_true, decide_eq_true_eq] at h0
        obtain ⟨rfl, l0⟩ := h0
        obtain ⟨l1, l2⟩ := okEs_len h3
        match es, cs, l0, l1, h3, l2 with
        | [e, e2], c1 :: cs, _, _, h3, l2 => exact e_setd cx (sE o cx tk h2) (sEs (c1 :: cs) cx tk h3) h1 l2 h4
      | pop1 =>
        simp only [Bool.and_eq_true, decide_eq_true_eq] at h0
        obtain ⟨rfl, l0⟩ := h0
        obtain ⟨l1, l2⟩ := okEs_len h3
        match es, cs, l0, l1, h3, l2 with
        | [e], c1 :: cs, _, _, h3, l2 => exact e_pop1 cx (sE o cx tk h2) (sEs (c1 :: cs) cx tk h3) h1 l2 h4
      | _ => cases h0
    · cases ok
  | .bmc m o c, se, e, X, Wx, cx, tk, ok => by
    unfold okE at ok
    split at ok
    · simp only [Bool.and_eq_true] at ok
      obtain ⟨⟨⟨⟨h0, h1⟩, h2⟩, h3⟩, h4⟩ := ok
      cases m with
      | extend =>
        have h0 := of_decide_eq_true h0
        subst h0
        exact e_bmcX cx (sE o cx tk h2) (sL c cx tk h3) h1 (okL_star h3) h4
      | _ => cases h0
    · cases ok
  | .comp own tg it ifs elt, se, e, X, Wx, cx, tk, ok => by
    unfold okE at ok
    split at ok
    · simp only [Bool.and_eq_true] at ok
      obtain ⟨⟨⟨⟨⟨⟨h1, h2⟩, h3⟩, h4⟩, h5⟩, h6⟩, h7⟩ := ok
      exact e_comp cx ⟨sI it cx tk h4, blkOk_by (by rw [cx.N, cx.sc]; exact h1), slots_in h2, fun s H C cl fp => sTg tg (cx.blk _ s H C cl fp) takes_blk h5, fun s H C cl fp => sIf ifs (cx.blk _ s H C cl fp) takes_blk h6, fun s H C cl fp => sE elt (cx.blk _ s H C cl fp) takes_blk h7, h3⟩
    · cases ok
  | .dict [], se, e, X, Wx, cx, tk, ok => by
    unfold okE at ok
    split at ok
    · split at ok
      · exact e_dict0
      · first | contradiction | (rename_i e2; cases e2; done) | (have := congrArg List.length (by assumption : _ :: _ = [_, _]); simp at this)
      · cases ok
    · cases ok
  | .dict [c1], se, e, X, Wx, cx, tk, ok => by
    unfold okE at ok
    split at ok
    · split at ok
      · first | contradiction | (rename_i e2; cases e2; done) | (have := congrArg List.length (by assumption : _ :: _ = [_, _]); simp at this)
      · first | contradiction | (rename_i e2; cases e2; done) | (have := congrArg List.length (by assumption : _ :: _ = [_, _]); simp at this)
      · cases ok
    · cases ok
  | .dict [c1, c2], se, e, X, Wx, cx, tk, ok => by
    unfold okE at ok
    split at ok
    · split at ok
      · first | contradiction | (rename_i e2; cases e2; done) | (have := congrArg List.length (by assumption : _ :: _ = [_, _]); simp at this)
      · rename_i e2
        obtain ⟨rfl, e3⟩ := List.cons.inj e2
        obtain ⟨rfl, _⟩ := List.cons.inj e3
        rw [Bool.and_eq_true] at ok
        exact e_dict1 cx (sE c1 cx tk ok.1) (sE c2 cx tk ok.2)
      · cases ok
    · cases ok
  | .dict (c1 :: c2 :: c3 :: cs), se, e, X, Wx, cx, tk, ok => by
    unfold okE at ok
    split at ok
    · split at ok
      · first | contradiction | (rename_i e2; cases e2; done) | (have := congrArg List.length (by assumption : _ :: _ = [_, _]); simp at this)
      · first | contradiction | (rename_i e2; cases e2; done) | (have := congrArg List.length (by assumption : _ :: _ = [_, _]); simp at this)
      · cases ok
    · cases ok
  | .primr p [], se, e, X, Wx, cx, tk, ok => by
    unfold okE at ok
    split at ok
    · simp only [Bool.and_eq_true, Bool.or_eq_true, decide_eq_true_eq, beq_iff_eq] at ok
      have l1 := (okEs_len ok.1.2).1
      rw [ok.2] at l1
      cases l1
    · cases ok
  | .primr p [c], se, e, X, Wx, cx, tk, ok => by
    unfold okE at ok
    split at ok
    · rename_i x px y py es pos pos2
      simp only [Bool.and_eq_true, Bool.or_eq_true, decide_eq_true_eq, beq_iff_eq] at ok
      obtain ⟨⟨⟨⟨⟨⟨hp, h1⟩, h2⟩, h3⟩, h4⟩, h5⟩, h6⟩ := ok
      cases es with
      | nil => cases h6
      | cons z es =>
        cases es with
        | cons _ _ => cases h6
        | nil =>
          unfold okEs at h5
          rw [Bool.and_eq_true] at h5
          exact e_primr cx hp (g_of cx h1) h2 (g_of cx h3) h4 (sE c cx tk h5.1) (noStar_of h5.1)
    · cases ok
  | .primr p (c1 :: c2 :: cs), se, e, X, Wx, cx, tk, ok => by
    unfold okE at ok
    split at ok
    · simp only [Bool.and_eq_true, Bool.or_eq_true, decide_eq_true_eq, beq_iff_eq] at ok
      have l1 := (okEs_len ok.1.2).1
      rw [ok.2] at l1
      simp at l1
    · cases ok
theorem sL : ∀ (c : C) {se : SE} {e : Expr} {X : Cx} {Wx : WX}, CxO X k gl g lv fA se → Takes X Wx → okL gl c se e = true → PE X e (tL k g Wx c)
  | .comp own tg it ifs elt, se, e, X, Wx, cx, tk, ok => by
    unfold okL at ok
    split at ok
    · simp only [Bool.and_eq_true] at ok
      obtain ⟨⟨⟨⟨⟨⟨h1, h2⟩, h3⟩, h4⟩, h5⟩, h6⟩, h7⟩ := ok
      exact l_comp cx ⟨sI it cx tk h4, blkOk_by (by rw [cx.N, cx.sc]; exact h1), slots_in h2, fun s H C cl fp => sTg tg (cx.blk _ s H C cl fp) takes_blk h5, fun s H C cl fp => sIf ifs (cx.blk _ s H C cl fp) takes_blk h6, fun s H C cl fp => sE elt (cx.blk _ s H C cl fp) takes_blk h7, h3⟩
    · cases ok
  | .var _, se, e, X, Wx, cx, tk, ok => by cases ok
  | .con _, se, e, X, Wx, cx, tk, ok => by cases ok
  | .glo _ _, se, e, X, Wx, cx, tk, ok => by cases ok
  | .bin _ _ _, se, e, X, Wx, cx, tk, ok => by cases ok
  | .neg _, se, e, X, Wx, cx, tk, ok => by cases ok
  | .cmp _ _ _, se, e, X, Wx, cx, tk, ok => by cases ok
  | .not _, se, e, X, Wx, cx, tk, ok => by cases ok
  | .and _, se, e, X, Wx, cx, tk, ok => by cases ok
  | .or _, se, e, X, Wx, cx, tk, ok => by cases ok
  | .ife _ _ _, se, e, X, Wx, cx, tk, ok => by cases ok
  | .sub _ _, se, e, X, Wx, cx, tk, ok => by cases ok
  | .slc _ _ _, se, e, X, Wx, cx, tk, ok => by cases ok
  | .tup _, se, e, X, Wx, cx, tk, ok => by cases ok
  | .lst _, se, e, X, Wx, cx, tk, ok => by cases ok
  | .call _ _ _ _, se, e, X, Wx, cx, tk, ok => by cases ok
  | .new _ _ _ _, se, e, X, Wx, cx, tk, ok => by cases ok
  | .meth _ _ _ _ _, se, e, X, Wx, cx, tk, ok => by cases ok
  | .attr _ _, se, e, X, Wx, cx, tk, ok => by cases ok
  | .prim _ _, se, e, X, Wx, cx, tk, ok => by cases ok
  | .primc _ _, se, e, X, Wx, cx, tk, ok => by cases ok
  | .bm _ _ _, se, e, X, Wx, cx, tk, ok => by cases ok
  | .bmc _ _ _, se, e, X, Wx, cx, tk, ok => by cases ok
  | .dict _, se, e, X, Wx, cx, tk, ok => by cases ok
  | .primr _ _, se, e, X, Wx, cx, tk, ok => by cases ok
theorem sT : ∀ (t : T) {se : SE} {e : Expr} {X : Cx} {Wx : WX}, CxO X k gl g lv fA se → Takes X Wx → okT gl t se e = true → PT X e (tT k g Wx t)
  | .not t, se, e, X, Wx, cx, tk, ok => by
    unfold okT at ok
    split at ok
    · exact t_not (sT t cx tk ok)
    · cases ok
  | .and ts, se, e, X, Wx, cx, tk, ok => by
    unfold okT at ok
    split at ok
    · rw [Bool.and_eq_true] at ok
      exact PT.of (sTA ts cx tk ok.1 ok.2).pt fun σ H Q w => tR.eq w fun _ _ => by rw [evalT]
    · cases ok
  | .or ts, se, e, X, Wx, cx, tk, ok => by
    unfold okT at ok
    split at ok
    · rw [Bool.and_eq_true] at ok
      exact PT.of (sTO ts cx tk ok.1 ok.2).pt fun σ H Q w => tR.eq w fun _ _ => by rw [evalT]
    · cases ok
  | .val (.cmp op a b), se, e, X, Wx, cx, tk, ok => by
    unfold okT at ok
    rw [Bool.and_eq_true] at ok
    have ok := ok.1
    unfold okE at ok
    split at ok
    · simp only [Bool.and_eq_true, decide_eq_true_eq] at ok
      obtain ⟨⟨⟨rfl, h0⟩, h1⟩, h2⟩ := ok
      exact t_cmp cx h0 (sE a cx tk h1) (sE b cx tk h2)
    · cases ok
  | .val (.var x0), se, e, X, Wx, cx, tk, ok => t_val cx (sE (.var x0) cx tk (val_ok ok)) (val_test (fun _ _ _ z => by cases z) ok)
  | .val (.con x0), se, e, X, Wx, cx, tk, ok => t_val cx (sE (.con x0) cx tk (val_ok ok)) (val_test (fun _ _ _ z => by cases z) ok)
  | .val (.glo x0 x1), se, e, X, Wx, cx, tk, ok => t_val cx (sE (.glo x0 x1) cx tk (val_ok ok)) (val_test (fun _ _ _ z => by cases z) ok)
  | .val (.bin x0 x1 x2), se, e, X, Wx, cx, tk, ok => t_val cx (sE (.bin x0 x1 x2) cx tk (val_ok ok)) (val_test (fun _ _ _ z => by cases z) ok)
  | .val (.neg x0), se, e, X, Wx, cx, tk, ok => t_val cx (sE (.neg x0) cx tk (val_ok ok)) (val_test (fun _ _ _ z => by cases z) ok)
  | .val (.not x0), se, e, X, Wx, cx, tk, ok => t_val cx (sE (.not x0) cx tk (val_ok ok)) (val_test (fun _ _ _ z => by cases z) ok)
  | .val (.and x0), se, e, X, Wx, cx, tk, ok => t_val cx (sE (.and x0) cx tk (val_ok ok)) (val_test (fun _ _ _ z => by cases z) ok)
  | .val (.or x0), se, e, X, Wx, cx, tk, ok => t_val cx (sE (.or x0) cx tk (val_ok ok)) (val_test (fun _ _ _ z => by cases z) ok)
  | .val (.ife x0 x1 x2), se, e, X, Wx, cx, tk, ok => t_val cx (sE (.ife x0 x1 x2) cx tk (val_ok ok)) (val_test (fun _ _ _ z => by cases z) ok)
  | .val (.sub x0 x1), se, e, X, Wx, cx, tk, ok => t_val cx (sE (.sub x0 x1) cx tk (val_ok ok)) (val_test (fun _ _ _ z => by cases z) ok)
  | .val (.slc x0 x1 x2), se, e, X, Wx, cx, tk, ok => t_val cx (sE (.slc x0 x1 x2) cx tk (val_ok ok)) (val_test (fun _ _ _ z => by cases z) ok)
  | .val (.tup x0), se, e, X, Wx, cx, tk, ok => t_val cx (sE (.tup x0) cx tk (val_ok ok)) (val_test (fun _ _ _ z => by cases z) ok)
  | .val (.lst x0), se, e, X, Wx, cx, tk, ok => t_val cx (sE (.lst x0) cx tk (val_ok ok)) (val_test (fun _ _ _ z => by cases z) ok)
  | .val (.call x0 x1 x2 x3), se, e, X, Wx, cx, tk, ok => t_val cx (sE (.call x0 x1 x2 x3) cx tk (val_ok ok)) (val_test (fun _ _ _ z => by cases z) ok)
  | .val (.new x0 x1 x2 x3), se, e, X, Wx, cx, tk, ok => t_val cx (sE (.new x0 x1 x2 x3) cx tk (val_ok ok)) (val_test (fun _ _ _ z => by cases z) ok)
  | .val (.meth x0 x1 x2 x3 x4), se, e, X, Wx, cx, tk, ok => t_val cx (sE (.meth x0 x1 x2 x3 x4) cx tk (val_ok ok)) (val_test (fun _ _ _ z => by cases z) ok)
  | .val (.attr x0 x1), se, e, X, Wx, cx, tk, ok => t_val cx (sE (.attr x0 x1) cx tk (val_ok ok)) (val_test (fun _ _ _ z => by cases z) ok)
  | .val (.prim x0 x1), se, e, X, Wx, cx, tk, ok => t_val cx (sE (.prim x0 x1) cx tk (val_ok ok)) (val_test (fun _ _ _ z => by cases z) ok)
  | .val (.primc x0 x1), se, e, X, Wx, cx, tk, ok => t_val cx (sE (.primc x0 x1) cx tk (val_ok ok)) (val_test (fun _ _ _ z => by cases z) ok)
  | .val (.bm x0 x1 x2), se, e, X, Wx, cx, tk, ok => t_val cx (sE (.bm x0 x1 x2) cx tk (val_ok ok)) (val_test (fun _ _ _ z => by cases z) ok)
  | .val (.bmc x0 x1 x2), se, e, X, Wx, cx, tk, ok => t_val cx (sE (.bmc x0 x1 x2) cx tk (val_ok ok)) (val_test (fun _ _ _ z => by cases z) ok)
  | .val (.comp x0 x1 x2 x3 x4), se, e, X, Wx, cx, tk, ok => t_val cx (sE (.comp x0 x1 x2 x3 x4) cx tk (val_ok ok)) (val_test (fun _ _ _ z => by cases z) ok)
  | .val (.dict x0), se, e, X, Wx, cx, tk, ok => t_val cx (sE (.dict x0) cx tk (val_ok ok)) (val_test (fun _ _ _ z => by cases z) ok)
  | .val (.primr x0 x1), se, e, X, Wx, cx, tk, ok => t_val cx (sE (.primr x0 x1) cx tk (val_ok ok)) (val_test (fun _ _ _ z => by cases z) ok)
theorem sTA : ∀ (ts : List T) {se : SE} {es : List Expr} {pos : Pos} {X : Cx} {Wx : WX}, CxO X k gl g lv fA se → Takes X Wx → okTs gl ts se es = true → (!es.isEmpty) = true → PW X (.BoolOp .And es pos) (tTA k g Wx ts)
  | [], se, es, pos, X, Wx, cx, tk, ok, ne => by
    unfold okTs at ok
    rw [ok] at ne
    cases ne
  | t :: ts, se, es, pos, X, Wx, cx, tk, ok, ne => by
    unfold okTs at ok
    cases es with
    | nil => cases ok
    | cons e es =>
      simp only [Bool.and_eq_true] at ok
      cases es with
      | nil =>
        have := ok.2
        cases ts with
        | nil => exact t_and1 (sT t cx tk ok.1)
        | cons _ _ =>
          unfold okTs at this
          cases this
      | cons e2 es => exact t_and (sT t cx tk ok.1) (sTA ts cx tk ok.2 rfl)
theorem sTO : ∀ (ts : List T) {se : SE} {es : List Expr} {pos : Pos} {X : Cx} {Wx : WX}, CxO X k gl g lv fA se → Takes X Wx → okTs gl ts se es = true → (!es.isEmpty) = true → PW X (.BoolOp .Or es pos) (tTO k g Wx ts)
  | [], se, es, pos, X, Wx, cx, tk, ok, ne => by
    unfold okTs at ok
    rw [ok] at ne
    cases ne
  | t :: ts, se, es, pos, X, Wx, cx, tk, ok, ne => by
    unfold okTs at ok
    cases es with
    | nil => cases ok
    | cons e es =>
      simp only [Bool.and_eq_true] at ok
      cases es with
      | nil =>
        have := ok.2
        cases ts with
        | nil => exact t_or1 (sT t cx tk ok.1)
        | cons _ _ =>
          unfold okTs at this
          cases this
      | cons e2 es => exact t_or (sT t cx tk ok.1) (sTO ts cx tk ok.2 rfl)
theorem sAnd : ∀ (cs : List C) {se : SE} {es : List Expr} {pos : Pos} {X : Cx} {Wx : WX}, CxO X k gl g lv fA se → Takes X Wx → okEs gl cs se es = true → PE X (.BoolOp .And es pos) (tAn k g Wx cs)
  | [], se, es, pos, X, Wx, cx, tk, ok => ⟨fun pins s σ H Q I ⟨ι, as, h, rs, r, w⟩ => by
    dsimp only at w
    rw [evalAnd] at w
    exact w.elim⟩
  | c :: cs, se, es, pos, X, Wx, cx, tk, ok => by
    unfold okEs at ok
    cases es with
    | nil => cases ok
    | cons e es =>
      simp only [Bool.and_eq_true] at ok
      cases cs with
      | nil =>
        have := ok.2
        unfold okEs at this
        cases es with
        | nil => exact e_and1 (sE c cx tk ok.1)
        | cons _ _ => cases this
      | cons c2 cs =>
        cases es with
        | nil =>
          have := ok.2
          unfold okEs at this
          cases this
        | cons e2 es => exact e_and (sE c cx tk ok.1) (sAnd (c2 :: cs) cx tk ok.2)
theorem sOr : ∀ (cs : List C) {se : SE} {es : List Expr} {pos : Pos} {X : Cx} {Wx : WX}, CxO X k gl g lv fA se → Takes X Wx → okEs gl cs se es = true → PE X (.BoolOp .Or es pos) (tOr_ k g Wx cs)
  | [], se, es, pos, X, Wx, cx, tk, ok => ⟨fun pins s σ H Q I ⟨ι, as, h, rs, r, w⟩ => by
    dsimp only at w
    rw [evalOr] at w
    exact w.elim⟩
  | c :: cs, se, es, pos, X, Wx, cx, tk, ok => by
    unfold okEs at ok
    cases es with
    | nil => cases ok
    | cons e es =>
      simp only [Bool.and_eq_true] at ok
      cases cs with
      | nil =>
        have := ok.2
        unfold okEs at this
        cases es with
        | nil => exact e_or1 (sE c cx tk ok.1)
        | cons _ _ => cases this
      | cons c2 cs =>
        cases es with
        | nil =>
          have := ok.2
          unfold okEs at this
          cases this
        | cons e2 es => exact e_or (sE c cx tk ok.1) (sOr (c2 :: cs) cx tk ok.2)
theorem sEs : ∀ (cs : List C) {se : SE} {es : List Expr} {X : Cx} {Wx : WX}, CxO X k gl g lv fA se → Takes X Wx → okEs gl cs se es = true → PA X es (tEs k g Wx cs)
  | [], se, es, X, Wx, cx, tk, ok => by
    unfold okEs at ok
    cases es with
    | nil => exact a_nil
    | cons _ _ => cases ok
  | c :: cs, se, es, X, Wx, cx, tk, ok => by
    unfold okEs at ok
    cases es with
    | nil => cases ok
    | cons e es =>
      simp only [Bool.and_eq_true] at ok
      exact a_cons (noStar_of ok.1) (sE c cx tk ok.1) (sEs cs cx tk ok.2)
theorem sK : ∀ (cs : List C) {se : SE} {kws : List Keyword} {X : Cx} {Wx : WX}, CxO X k gl g lv fA se → Takes X Wx → kwNamed kws = true → okEs gl cs se (kwVals kws) = true → PK X kws (tEs k g Wx cs)
  | [], se, kws, X, Wx, cx, tk, kn, ok => by
    unfold okEs at ok
    cases kws with
    | nil => exact ⟨fun pos pins s σ H Q I ⟨ι, as, h, rs, r, w⟩ => pk_nil.run pos pins s σ H Q I (by
      dsimp only at w
      rw [evalEs] at w
      exact w ι H [] (Post.refl r) .nil)⟩
    | cons kw _ =>
      obtain ⟨_, _, _⟩ := kw
      cases ok
  | c :: cs, se, kws, X, Wx, cx, tk, kn, ok => by
    unfold okEs at ok
    cases kws with
    | nil => cases ok
    | cons kw kws =>
      obtain ⟨nm, e, p⟩ := kw
      simp only [kwVals, Bool.and_eq_true] at ok
      have kn2 : kwNamed kws = true := by
        cases nm with
        | none => cases kn
        | some _ => exact kn
      have h1 := sE c cx tk ok.1
      have h2 := sK cs cx tk kn2 ok.2
      exact ⟨fun pos pins s σ H Q I ⟨ι, as, h, rs, r, w⟩ => (pk_cons h1 h2).run pos pins s σ H Q I (by
        dsimp only at w
        rw [evalEs] at w
        refine (nxt (fun _ _ _ => True) kpT rs r trivial w).imp fun x H1 ⟨ι, h, wx, rs, r, _, rx, w⟩ => ?_
        refine (nxt (rel := relWs k) (fun ι n H => RelW k ι n H wx x) kpW rs r rx w).imp fun l H2 ⟨ι, h, wl, rs, r, rx, rl, w⟩ => ?_
        exact w ι H2 _ (Post.refl r) (RelWs.cons rx rl))⟩
theorem sO : ∀ (cs : List C) {se : SE} {e : Option Expr} {X : Cx} {Wx : WX}, CxO X k gl g lv fA se → Takes X Wx → okO gl cs se e = true → PO X e (tP k g Wx cs)
  | [], se, e, X, Wx, cx, tk, ok => by
    unfold okO at ok
    cases e with
    | none => exact o_none
    | some _ => cases ok
  | c :: cs, se, e, X, Wx, cx, tk, ok => by
    unfold okO at ok
    rw [Bool.and_eq_true] at ok
    obtain ⟨_, ok⟩ := ok
    cases e with
    | none => cases ok
    | some e => exact o_some (sE c cx tk ok)
theorem sIf : ∀ (ts : List T) {se : SE} {es : List Expr} {X : Cx} , CxO X k gl g lv fA se → Takes X Wf → okIf gl ts se es = true → PTs X es (tIfs k g ts)
  | [], se, es, X, cx, tk, ok => by
    unfold okIf at ok
    cases es with
    | nil => exact ⟨fun pins s σ H Q I ⟨ι, as, h, rs, r, w⟩ => pts_nil.run pins s σ H Q I (by
      dsimp only at w
      rw [evalIf] at w
      exact WPE.sameB r w)⟩
    | cons _ _ => cases ok
  | t :: ts, se, es, X, cx, tk, ok => by
    unfold okIf at ok
    rw [Bool.and_eq_true] at ok
    obtain ⟨h1, ok⟩ := ok
    split at ok
    · exact ⟨fun pins s σ H Q I ⟨ι, as, h, rs, r, w⟩ => (pts_one (sT t cx tk ok)).run pins s σ H Q I ⟨ι, as, h, rs, r, by
        dsimp only at w ⊢
        rw [evalIf] at w
        exact w⟩⟩
    · cases ok
theorem sI : ∀ (it : It) {se : SE} {e tg : Expr} {X : Cx} {Wx : WX}, CxO X k gl g lv fA se → Takes X Wx → okI gl it se e tg = true → PI X tg e (tI k g Wx it)
  | .over c, se, e, tg, X, Wx, cx, tk, ok => by
    unfold okI at ok
    exact i_over cx (sE c cx tk ok)
  | .rng cs, se, e, tg, X, Wx, cx, tk, ok => by
    unfold okI at ok
    split at ok
    · rename_i x p es pos
      simp only [Bool.and_eq_true, decide_eq_true_eq, Bool.or_eq_true] at ok
      obtain ⟨⟨⟨h1, h2⟩, h3⟩, h4⟩ := ok
      obtain ⟨l1, l2⟩ := okEs_len h3
      rcases h4 with (h4 | h4) | h4
      · match es, h4, h3, l1, l2 with
        | [a], _, h3, l1, l2 => exact i_rng1 cx (g_of cx h1) h2 (by simpa using l2) (sEs cs cx tk h3) l1
      · match es, h4, h3, l1, l2 with
        | [a, b], _, h3, l1, l2 =>
          simp only [List.all_cons, List.all_nil, Bool.and_true, Bool.and_eq_true] at l2
          exact i_rng2 cx (g_of cx h1) h2 l2.1 l2.2 (sEs cs cx tk h3) l1
      · match es, h4, h3, l1, l2 with
        | [a, b, d], _, h3, l1, l2 =>
          simp only [List.all_cons, List.all_nil, Bool.and_true, Bool.and_eq_true] at l2
          exact i_rng3 cx (g_of cx h1) h2 l2.1 l2.2.1 l2.2.2 (sEs cs cx tk h3) l1
    · cases ok
  | .enum c, se, e, tg, X, Wx, cx, tk, ok => by
    unfold okI at ok
    split at ok
    · simp only [Bool.and_eq_true, decide_eq_true_eq] at ok
      exact i_enum cx (g_of cx ok.1.1) ok.1.2 (noStar_of ok.2) (sE c cx tk ok.2)
    · cases ok
  | .zip a b, se, e, tg, X, Wx, cx, tk, ok => by
    unfold okI at ok
    split at ok
    · simp only [Bool.and_eq_true, decide_eq_true_eq] at ok
      obtain ⟨⟨⟨h1, h2⟩, h3⟩, h4⟩ := ok
      exact i_zip cx (g_of cx h1) h2 (noStar_of h3) (noStar_of h4) (sE a cx tk h3) (sE b cx tk h4)
    · cases ok
theorem sTg : ∀ (t : Tg) {se : SE} {e : Expr} {X : Cx} {Wx : WX}, CxO X k gl g lv fA se → Takes X Wx → okTg gl t se e = true → PG X e (tG k g t)
  | .nm i, se, e, X, Wx, cx, tk, ok => by
    unfold okTg at ok
    split at ok
    · exact g_nm cx ok
    · cases ok
  | .tp ts, se, e, X, Wx, cx, tk, ok => by
    unfold okTg at ok
    split at ok
    · obtain ⟨l1, l2⟩ := okTgs_len ok
      exact g_tp cx l2 l1 (sTgs ts cx tk ok)
    · cases ok
  | .sub o i, se, e, X, Wx, cx, tk, ok => by
    unfold okTg at ok
    split at ok
    · simp only [Bool.and_eq_true] at ok
      exact g_sub cx ok.1.1 (sE o cx tk ok.1.2) (sE i cx tk ok.2)
    · cases ok
  | .attr o x, se, e, X, Wx, cx, tk, ok => by
    unfold okTg at ok
    split at ok
    · simp only [Bool.and_eq_true, decide_eq_true_eq] at ok
      obtain ⟨⟨rfl, h0⟩, h1⟩ := ok
      exact g_attr cx (sE o cx tk h1)
    · cases ok
theorem sTgs : ∀ (ts : List Tg) {se : SE} {es : List Expr} {X : Cx} {Wx : WX}, CxO X k gl g lv fA se → Takes X Wx → okTgs gl ts se es = true → PGs X es (tGs k g ts)
  | [], se, es, X, Wx, cx, tk, ok => by
    unfold okTgs at ok
    cases es with
    | nil => exact gs_nil
    | cons _ _ => cases ok
  | t :: ts, se, es, X, Wx, cx, tk, ok => by
    unfold okTgs at ok
    cases es with
    | nil => cases ok
    | cons e es =>
      simp only [Bool.and_eq_true] at ok
      exact gs_cons (okTg_star ok.1) (sTg t cx tk ok.1) (sTgs ts cx tk ok.2)
end
end AM
/-! Statements are sound; defs keep their promise. -/
namespace AM
open PySem L2
variable {k : Cst} {gl : Gl} {g : Ev} {lv : Nat} {fA : Nat → Addr}
theorem swap_eq {X : Cx} {se : SE} (hk : X.env.scope.kind = .function) (hs : X.env.scope = se.sc) {tg v : Expr} {r : Option (List Str)} (h : swapS [tg] v se = some r) : swappedStores [tg] v X.env = pure r := by
  have hb : (X.env.blockKind != .function) = false := by
    unfold Env.blockKind
    rw [hk]
    rfl
  cases tg with
  | Tuple ts kt pt =>
    cases v with
    | Tuple vs k2 pt2 =>
      unfold swapS at h
      unfold swappedStores
      dsimp only at h ⊢
      rw [hb, Bool.or_false]
      have hkk : ∀ id, X.env.kindOf id = se.sc.names.lookup id := fun id => by
        show X.env.scope.names.lookup id = _
        rw [hs]
      simp only [hkk]
      split at h
      · rename_i c
        cases h
        exact if_pos c
      · rename_i c
        refine (if_neg c).trans ?_
        split at h
        · rename_i c
          cases h
          exact if_pos c
        · rename_i c
          refine (if_neg c).trans ?_
          split at h
          · rename_i c
            cases h
            exact if_pos c
          · rename_i c
            refine (if_neg c).trans ?_
            split at h
            · rename_i c
              cases h
              exact if_pos c
            · rename_i c
              refine (if_neg c).trans ?_
              split at h
              · cases h
              · rename_i c
                refine (if_neg c).trans ?_
                cases h
                rfl
    | _ =>
      cases h
      rfl
  | List ts pt =>
    cases v with
    | Tuple _ _ _ => cases h
    | _ =>
      cases h
      rfl
  | _ =>
    cases h
    rfl
/-- the names of several targets are their slots' -/
theorem names_of {X : Cx} {se : SE} (cx : CxO X k gl g lv fA se) {n0 : Nat} : ∀ {es : List Expr} {ts : List Tg}, okTgs gl ts se es = true → ∀ {names : List Str}, names = es.filterMap (fun e => match e with
      | .Name id pos => if (se.sc.names.lookup id == some .local && pos.line == n0) = true then some id else none
      | _ => none) → names.length = es.length → ∃ is, ts = is.map .nm ∧ Paired (fun x i => X.N[i]? = some x ∧ X.env.scope.names.lookup x = some .local) names is
  | [], ts, ok, names, e, hl => by
    have := (okTgs_len ok).1
    have e1 : ts = [] := List.eq_nil_of_length_eq_zero this
    subst e1
    subst e
    exact ⟨[], rfl, .nil⟩
  | x :: es, ts, ok, names, e, hl => by
    cases ts with
    | nil =>
      have := (okTgs_len ok).1
      cases this
    | cons t ts =>
      unfold okTgs at ok
      simp only [Bool.and_eq_true] at ok
      rw [List.filterMap_cons] at e
      split at e
      · exfalso
        have := List.length_filterMap_le (fun e => match e with
          | .Name id pos => if (se.sc.names.lookup id == some .local && pos.line == n0) = true then some id else none
          | _ => none) es
        rw [← e, hl, List.length_cons] at this
        omega
      · rename_i id eid
        subst e
        rw [List.length_cons, List.length_cons] at hl
        obtain ⟨is, e1, p⟩ := names_of (n0 := n0) cx ok.2 rfl (by omega)
        cases x with
        | Name y pos =>
          dsimp only at eid
          split at eid
          · rename_i c
            cases eid
            rw [Bool.and_eq_true, beq_iff_eq] at c
            have ok1 := ok.1
            cases t with
            | nm i =>
              unfold okTg at ok1
              obtain ⟨h1, _, _⟩ := loc_of cx ok1
              exact ⟨i :: is, by rw [e1]; rfl, .cons ⟨h1, by rw [cx.sc]; exact c.1⟩ p⟩
            | _ => unfold okTg at ok1; cases ok1
          · cases eid
        | _ => cases eid
theorem swap_some {se : SE} {tg v : Expr} {names : List Str} (h : swapS [tg] v se = some (some names)) : ∃ ts kt pt vs k2 pt2 n0, tg = .Tuple ts kt pt ∧ v = .Tuple vs k2 pt2 ∧ names = ts.filterMap (fun e => match e with
      | .Name id pos => if (se.sc.names.lookup id == some .local && pos.line == n0) = true then some id else none
      | _ => none) ∧ names.length = ts.length := by
  cases tg with
  | Tuple ts kt pt =>
    cases v with
    | Tuple vs k2 pt2 =>
      unfold swapS at h
      dsimp only at h
      split at h
      · cases h
      · split at h
        · cases h
        · split at h
          · cases h
          · rename_i c
            split at h
            · cases h
            · split at h
              · cases h
              · cases h
                refine ⟨ts, kt, pt, vs, k2, pt2, _, rfl, rfl, rfl, ?_⟩
                simp only [Bool.or_eq_true, not_or, bne_iff_ne, ne_eq, Decidable.not_not] at c
                exact c.1
    | _ => cases h
  | List ts pt =>
    cases v with
    | Tuple _ _ _ => cases h
    | _ => cases h
  | _ => cases h
theorem slots_nm : ∀ {is : List Nat}, slotsTs (is.map .nm) = is
  | [] => rfl
  | i :: is => by
    rw [List.map_cons]
    unfold slotsTs slotsT
    rw [slots_nm]
    rfl
/-- y = [..]: the store is in the comprehension or behind it -/
theorem swaps_lc {X : Cx} {y : Expr} {gs : List Comprehension} {scope : Scope} {p : Pos} {tg : Expr} {n : Nat} (h : (match tg with
    | .Name _ _ => true
    | .Attribute _ _ _ => true
    | _ => false) = true) : swapsWith (.ListComp y gs scope p) (some tg) n X.env = pure false ∨ ∃ yn py, tg = .Name yn py ∧ X.env.kindOf yn = some .local ∧ swapsWith (.ListComp y gs scope p) (some tg) n X.env = pure true := by
  cases tg with
  | Attribute _ _ _ => exact .inl rfl
  | Name yn py =>
    have e : swapsWith (.ListComp y gs scope p) (some (.Name yn py)) n X.env = pure (X.env.blockKind == .function && X.env.kindOf yn == some .local && py.line == p.line
      && !(scope.names.any fun (n, k) => n == yn && (k == .local || k == .cell))) := rfl
    cases hb : (X.env.blockKind == .function && X.env.kindOf yn == some .local && py.line == p.line
      && !(scope.names.any fun (n, k) => n == yn && (k == .local || k == .cell))) with
    | false =>
      rw [hb] at e
      exact .inl e
    | true =>
      rw [hb] at e
      simp only [Bool.and_eq_true, beq_iff_eq] at hb
      exact .inr ⟨yn, py, rfl, hb.1.1.2, e⟩
  | _ => cases h
mutual
theorem sS : ∀ (s : S) {se : SE} {st : Stmt} {X : Cx} {Wx : WX}, CxS X k gl g lv fA se Wx → okS gl se s st = true → PS X st (tS k g Wx s)
  | .asg t c, se, st, X, Wx, cs, ok => by
    unfold okS at ok
    split at ok
    · rename_i tg v pos
      simp only [Bool.and_eq_true, Bool.or_eq_true] at ok
      obtain ⟨⟨⟨h1, h2⟩, h3⟩, h4⟩ := ok
      have hg := sTg t cs.toCxO cs.tk h1
      have he := sE c cs.toCxO cs.tk h2
      have hst := okTg_star h1
      split at h4
      · cases h4
      · rename_i hsw
        have hw := swap_eq cs.fun_ cs.sc hsw
        by_cases hn : noComp v = true
        · exact s_asg he hg hst (noComp_of hn) hw
        · rcases h3 with h3 | h3
          · exact absurd h3 hn
          · cases v with
            | ListComp y gs scope p =>
              rcases swaps_lc (X := X) (y := y) (gs := gs) (scope := scope) (p := p) (n := pos.line) h3 with q | ⟨yn, py, rfl, hl, q⟩
              · exact s_asg he hg hst q hw
              · cases t with
                | nm n =>
                  unfold okTg at h1
                  obtain ⟨z1, z2, z3⟩ := loc_of cs.toCxO h1
                  cases c with
                  | comp own tg it ifs elt =>
                    unfold okE at h2
                    split at h2
                    · rename_i y2 t2 i2 fs2 sc2 p2 hv
                      cases hv
                      simp only [Bool.and_eq_true] at h2
                      obtain ⟨⟨⟨⟨⟨⟨k1, k2⟩, k3⟩, k4⟩, k5⟩, k6⟩, k7⟩ := h2
                      have cx := cs.toCxO
                      have tk := cs.tk
                      exact s_setLc cx ⟨sI it cx tk k4, blkOk_by (by rw [cx.N, cx.sc]; exact k1), slots_in k2, fun s H C cl fp => sTg tg (cx.blk _ s H C cl fp) takes_blk k5, fun s H C cl fp => sIf ifs (cx.blk _ s H C cl fp) takes_blk k6, fun s H C cl fp => sE elt (cx.blk _ s H C cl fp) takes_blk k7, k3⟩ z1 hl q
                    · cases h2
                  | _ => unfold okE at h2; cases h2
                | _ => unfold okTg at h1; cases h1
            | SetComp _ _ _ _ => cases c <;> (unfold okE at h2; cases h2)
            | DictComp _ _ _ _ _ => cases c <;> (unfold okE at h2; cases h2)
            | _ => exact absurd rfl hn
      · rename_i names hsw
        have hw := swap_eq cs.fun_ cs.sc hsw
        obtain ⟨ts, kt, pt, vs, k2, pt2, n0, rfl, rfl, e1, e2⟩ := swap_some hsw
        have nd := of_decide_eq_true h4
        cases t with
        | tp tgs =>
          unfold okTg at h1
          obtain ⟨is, rfl, p⟩ := names_of cs.toCxO h1 e1 e2
          cases c with
          | tup ccs =>
            unfold okE at h2
            unfold slotsT at nd
            rw [slots_nm] at nd
            exact s_par cs.toCxO p nd (sEs ccs cs.toCxO cs.tk h2) hw
          | _ => unfold okE at h2; cases h2
        | _ => unfold okTg at h1; cases h1
    · cases ok
  | .aug t op c, se, st, X, Wx, cs, ok => by
    unfold okS at ok
    split at ok
    · simp only [Bool.and_eq_true, Bool.or_eq_true, decide_eq_true_eq, beq_iff_eq] at ok
      obtain ⟨⟨⟨⟨h1, h2⟩, rfl⟩, h4⟩, h5⟩ := ok
      exact s_aug cs.toCxO h1 h5 (sE c cs.toCxO cs.tk h4)
    · simp only [Bool.and_eq_true, Bool.or_eq_true, decide_eq_true_eq, beq_iff_eq] at ok
      obtain ⟨⟨⟨⟨⟨h0, h1⟩, h2⟩, rfl⟩, h4⟩, h5⟩ := ok
      exact s_augS cs.toCxO h5 h0 (sE _ cs.toCxO cs.tk h1) (sE _ cs.toCxO cs.tk h2) (sE c cs.toCxO cs.tk h4)
    · cases ok
  | .iff t a b, se, st, X, Wx, cs, ok => by
    unfold okS at ok
    split at ok
    · simp only [Bool.and_eq_true] at ok
      exact s_iff (sT t cs.toCxO cs.tk ok.1.1) (sSs a cs ok.1.2) (sSs b cs ok.2)
    · cases ok
  | .for_ t it b, se, st, X, Wx, cs, ok => by
    unfold okS at ok
    split at ok
    · simp only [Bool.and_eq_true] at ok
      obtain ⟨⟨⟨h1, h2⟩, h3⟩, h4⟩ := ok
      exact s_for cs (sI it cs.toCxO cs.tk h2) (sTg t cs.toCxO cs.tk h3) (sSs b cs h4) h1
    · cases ok
  | .whl t b, se, st, X, Wx, cs, ok => by
    unfold okS at ok
    split at ok
    · simp only [Bool.and_eq_true] at ok
      exact s_whl cs (sT t cs.toCxO cs.tk ok.1) (sSs b cs ok.2)
    · cases ok
  | .ret e, se, st, X, Wx, cs, ok => by
    unfold okS at ok
    split at ok
    · exact s_ret (sE e cs.toCxO cs.tk ok)
    · cases ok
  | .retn, se, st, X, Wx, cs, ok => by
    unfold okS at ok
    split at ok
    · exact s_retn
    · cases ok
  | .raise c fs cs', se, st, X, Wx, cs, ok => by
    unfold okS at ok
    split at ok
    · exact s_raise cs (g_of cs.toCxO ok)
    · rw [Bool.and_eq_true] at ok
      exact s_raiseF cs (g_of cs.toCxO ok.1) (sE _ cs.toCxO cs.tk ok.2) (noStar_of ok.2)
    · cases ok
  | .del o i, se, st, X, Wx, cs, ok => by
    unfold okS at ok
    split at ok
    · simp only [Bool.and_eq_true] at ok
      exact s_del cs.toCxO (sE o cs.toCxO cs.tk ok.1.2) (sE i cs.toCxO cs.tk ok.2)
    · cases ok
  | .try_ b hd, se, st, X, Wx, cs, ok => by
    unfold okS at ok
    split at ok
    · simp only [Bool.and_eq_true, decide_eq_true_eq, Bool.not_eq_true'] at ok
      obtain ⟨⟨⟨⟨⟨⟨⟨⟨⟨h1, h2⟩, rfl⟩, h4⟩, h5⟩, h6⟩, h7⟩, h8⟩, h9⟩, h10⟩ := ok
      obtain ⟨z1, _, _⟩ := loc_of cs.toCxO h4
      exact s_try cs (g_of cs.toCxO h2) (by rw [cs.N]; exact h5) (by rw [cs.sc]; exact h7) z1 (by rw [cs.sc]; exact h10) h6 h8 h9 fun W X' cs' e => sSs b cs' h1
    · cases ok
  | .ex e, se, st, X, Wx, cs, ok => by
    unfold okS at ok
    split at ok
    · rw [Bool.and_eq_true] at ok
      exact s_ex (sE e cs.toCxO cs.tk ok.1) ok.2
    · cases ok
  | .pass, se, st, X, Wx, cs, ok => by
    unfold okS at ok
    split at ok
    · exact s_pass
    · cases ok
  | .brk, se, st, X, Wx, cs, ok => by
    unfold okS at ok
    split at ok
    · exact s_brk
    · cases ok
  | .cont, se, st, X, Wx, cs, ok => by
    unfold okS at ok
    split at ok
    · exact s_cont
    · cases ok
  | .never, se, st, X, Wx, cs, ok => s_never
theorem sSs : ∀ (ss : List S) {se : SE} {sts : List Stmt} {X : Cx} {Wx : WX}, CxS X k gl g lv fA se Wx → okSs gl se ss sts = true → PSs X sts (tSs k g Wx ss)
  | [], se, sts, X, Wx, cs, ok => by
    unfold okSs at ok
    cases sts with
    | nil => exact ss_nil
    | cons _ _ => cases ok
  | s :: ss, se, sts, X, Wx, cs, ok => by
    unfold okSs at ok
    cases sts with
    | nil => cases ok
    | cons st sts =>
      simp only [Bool.and_eq_true] at ok
      exact ss_cons (sS s cs ok.1) (sSs ss cs ok.2)
end
end AM
/-! Defs keep their promise, by the fuel. -/
namespace AM
open PySem L2
section
variable {k : Cst} {gl : Gl} {g : Ev} {lv : Nat} {fA : Nat → Addr} {ι ι1 ι2 : Nat → Addr} {n n' : Nat} {H H1 H2 : Hp} {h h1 h2 : AH}
mutual
theorem relW_flat : ∀ (w : W) {v : V}, W.flat w = true → RelW k ι n H w v → RelW k ι1 n' H w v
  | .non, v, _, e => by simpa only [RelW] using e
  | .bl _, v, _, e => by simpa only [RelW] using e
  | .int _, v, _, e => by simpa only [RelW] using e
  | .str _, v, _, e => by simpa only [RelW] using e
  | .scr, v, _, e => by simpa only [RelW] using e
  | .loc _, v, f, e => by cases f
  | .exo _ _ _, v, f, e => by cases f
  | .tup ws, v, f, e => by
    unfold RelW at e ⊢
    obtain ⟨a, vs, e1, e2, e3⟩ := e
    exact ⟨a, vs, e1, e2, relWs_flat ws (by simpa only [W.flat] using f) e3⟩
theorem relWs_flat : ∀ (ws : List W) {vs : List V}, W.flats ws = true → RelWs k ι n H ws vs → RelWs k ι1 n' H ws vs
  | [], vs, _, e => by
    unfold RelWs at e ⊢
    exact e
  | w :: ws, vs, f, e => by
    unfold RelWs at e ⊢
    unfold W.flats at f
    rw [Bool.and_eq_true] at f
    obtain ⟨v, r, e1, e2, e3⟩ := e
    exact ⟨v, r, e1, relW_flat w f.1 e2, relWs_flat ws f.2 e3⟩
end
mutual
theorem key_flat : ∀ {w : W}, keyE w = true → W.flat w = true
  | .int _, _ => by unfold W.flat; rfl
  | .str _, _ => by unfold W.flat; rfl
  | .tup ws, h => by
    unfold keyE at h
    unfold W.flat
    exact key_flats h
  | .non, h => by unfold keyE at h; cases h
  | .bl _, h => by unfold keyE at h; cases h
  | .loc _, h => by unfold keyE at h; cases h
  | .exo _ _ _, h => by unfold keyE at h; cases h
  | .scr, h => by unfold keyE at h; cases h
theorem key_flats : ∀ {ws : List W}, keyEs ws = true → W.flats ws = true
  | [], _ => by unfold W.flats; rfl
  | w :: ws, h => by
    unfold keyEs at h
    rw [Bool.and_eq_true] at h
    unfold W.flats
    rw [key_flat h.1, key_flats h.2]
    rfl
end
mutual
theorem shift1 : ∀ (w : W), W.flat w = true → W.shift n w = w
  | .non, _ => by unfold W.shift; rfl
  | .bl _, _ => by unfold W.shift; rfl
  | .int _, _ => by unfold W.shift; rfl
  | .str _, _ => by unfold W.shift; rfl
  | .scr, _ => by unfold W.shift; rfl
  | .loc _, h => by unfold W.flat at h; cases h
  | .exo _ _ _, h => by unfold W.flat at h; cases h
  | .tup ws, h => by
    unfold W.flat at h
    unfold W.shift
    rw [shifts1 ws h]
theorem shifts1 : ∀ (ws : List W), W.flats ws = true → W.shifts n ws = ws
  | [], _ => by unfold W.shifts; rfl
  | w :: ws, h => by
    unfold W.flats at h
    rw [Bool.and_eq_true] at h
    unfold W.shifts
    rw [shift1 w h.1, shifts1 ws h.2]
end
/-- the machine's heap behind ours -/
def both (ι ι2 : Nat → Addr) (n : Nat) : Nat → Addr := fun l => if l < n then ι l else ι2 (l - n)
mutual
theorem relW_shift {m : Nat} : ∀ (w : W) {v : V}, RelW k ι2 m H w v → RelW k (both ι ι2 n) (n + m) H (W.shift n w) v
  | .non, v, e => by simpa only [RelW, W.shift] using e
  | .bl _, v, e => by simpa only [RelW, W.shift] using e
  | .int _, v, e => by simpa only [RelW, W.shift] using e
  | .str _, v, e => by simpa only [RelW, W.shift] using e
  | .scr, v, e => by simpa only [RelW, W.shift] using e
  | .exo c xs ws, v, e => by
    unfold W.shift
    unfold RelW at e ⊢
    obtain ⟨a, d, e1, e2, e3, e4⟩ := e
    refine ⟨a, d, e1, e2, e3, ?_⟩
    rcases e4 with e4 | ⟨dd, vs, e4, e5, e6⟩
    · exact .inl e4
    · exact .inr ⟨dd, vs, e4, relWs_flat ws e3 e5, e6⟩
  | .loc l, v, e => by
    unfold W.shift
    unfold RelW at e ⊢
    refine ⟨by omega, ?_⟩
    unfold both
    rw [if_neg (by omega), show l + n - n = l by omega]
    exact e.2
  | .tup ws, v, e => by
    unfold W.shift
    unfold RelW at e ⊢
    obtain ⟨a, vs, e1, e2, e3⟩ := e
    exact ⟨a, vs, e1, e2, relWs_shift ws e3⟩
theorem relWs_shift {m : Nat} : ∀ (ws : List W) {vs : List V}, RelWs k ι2 m H ws vs → RelWs k (both ι ι2 n) (n + m) H (W.shifts n ws) vs
  | [], vs, e => by
    unfold W.shifts
    unfold RelWs at e ⊢
    exact e
  | w :: ws, vs, e => by
    unfold W.shifts
    unfold RelWs at e ⊢
    obtain ⟨v, r, e1, e2, e3⟩ := e
    exact ⟨v, r, e1, relW_shift w e2, relWs_shift ws e3⟩
end
theorem relF_shift {m : Nat} : ∀ {fs : List (Str × W)} {vs : List (Str × V)}, RelF k ι2 m H fs vs → RelF k (both ι ι2 n) (n + m) H (fs.map fun p => (p.1, p.2.shift n)) vs
  | [], vs, e => e
  | p :: ps, vs, e => by
    obtain ⟨v, r, e1, e2, e3⟩ := e
    exact ⟨v, r, e1, relW_shift p.2 e2, relF_shift e3⟩
theorem keyT_flat : ∀ {w : W}, keyT w = true → W.flat w = true := fun {w} h => by
  cases w with
  | tup ws =>
    unfold keyT at h
    rw [Bool.and_eq_true] at h
    unfold W.flat
    exact key_flats h.1
  | _ => cases h
theorem shift_flat : ∀ (w : W), W.flat w = true → W.shift n w = w := fun w h => shift1 w h
theorem relKs_shift {m : Nat} : ∀ {kvs : List (W × W)} {xs : List (Key × V)}, RelKs k ι2 m H kvs xs → RelKs k (both ι ι2 n) (n + m) H (kvs.map fun p => (p.1.shift n, p.2.shift n)) xs
  | [], xs, e => e
  | p :: ps, xs, e => by
    obtain ⟨key, v, r, e1, e2, e3, e4⟩ := e
    refine ⟨key, v, r, e1, ?_, relW_shift p.2 e3, relKs_shift e4⟩
    show keyOf (p.1.shift n) = some key
    revert e2
    cases p.1 <;> intro e2 <;> first | exact e2 | cases e2
theorem relNs_shift {m : Nat} : ∀ {kvs : List (W × W)} {xs : List (NestedKey × Addr × V)}, RelNs k ι2 m H kvs xs → RelNs k (both ι ι2 n) (n + m) H (kvs.map fun p => (p.1.shift n, p.2.shift n)) xs
  | [], xs, e => e
  | p :: ps, xs, e => by
    obtain ⟨key, b, v, r, e1, e0, e2, e3, e4, e5⟩ := e
    have es : W.shift n p.1 = p.1 := shift_flat p.1 (keyT_flat e0)
    refine ⟨key, b, v, r, e1, ?_, ?_, relW_shift p.1 e3, relW_shift p.2 e4, relNs_shift e5⟩
    · show keyT (p.1.shift n) = true
      rw [es]
      exact e0
    · show nkOf (p.1.shift n) = some key
      rw [es]
      exact e2
theorem relO_shift {m : Nat} {a : Addr} {o : O} (e : RelO k ι2 m H a o) : RelO k (both ι ι2 n) (n + m) H a (o.shift n) := by
  cases o with
  | lst ws =>
    obtain ⟨vs, e1, e2⟩ := e
    exact ⟨vs, e1, relWs_shift ws e2⟩
  | ins c fs =>
    obtain ⟨dx, vs, e1, e2⟩ := e
    exact ⟨dx, vs, e1, relF_shift e2⟩
  | dic kvs =>
    rcases e with ⟨xs, e1, e2⟩ | ⟨e0, xs, e1, e2⟩
    · exact .inl ⟨xs, e1, relKs_shift e2⟩
    · refine .inr ⟨fun z => e0 (List.map_eq_nil_iff.mp z), xs, e1, relNs_shift e2⟩
/-- a run over an empty heap of ours: what was there stays -/
theorem run0 (p : Post k ι1 [] H ι2 h2 H2) (r : R k ι h H) : Post k ι h H ι h H2 := by
  have fr : ∀ a o, H a = some o → H2 a = some o := fun a o e => p.fr a o e fun l hl => absurd hl (Nat.not_lt_zero _)
  have kp : Keep k ι h.length H ι h.length H2 := keep_of r (Nat.le_refl _) (fun _ _ => rfl) fun a o e _ => fr a o e
  refine ⟨Nat.le_refl _, fun _ _ => rfl, ⟨fun l o e => (r.obj l o e).keep kp fun ho z => fr _ _ z, r.inj, p.rel.scr.sq, ?_⟩, fun a o e _ => fr a o e, fun l a b => absurd (Nat.lt_of_lt_of_le b a) (Nat.lt_irrefl _)⟩
  rcases r.scr.ap with q | ⟨q1, q2⟩
  · exact .inl q
  · refine .inr ⟨?_, q2⟩
    rcases q1 with q | ⟨o, q⟩
    · exact .inl (fr _ _ q)
    · exact .inr ⟨o, fr _ _ q⟩
theorem run0_one (p : Post k ι1 [] H ι2 h2 H2) (r : R k ι h H) {l : Nat} {ws : List W} (hl : h2[l]? = some (.lst ws)) (hf : W.flats ws = true) : Post k ι h H (snoc ι h.length (ι2 l)) (h ++ [.lst ws]) H2 := by
  have q := run0 p r
  have hlt : l < h2.length := (List.getElem?_eq_some_iff.mp hl).1
  have hn : H (ι2 l) = none := p.new l (Nat.zero_le _) hlt
  obtain ⟨vs, e, rv⟩ := p.rel.lst hl
  refine Post.adopt q hn (fun m hm z => ?_) r.scrH e (relWs_flat ws hf rv)
  obtain ⟨o, e'⟩ := r.has hm
  rw [z, hn] at e'
  cases e'
theorem run0_all (p : Post k ι1 [] H ι2 h2 H2) (r : R k ι h H) : Post k ι h H (both ι ι2 h.length) (h ++ h2.map (O.shift h.length)) H2 := by
  have q := run0 p r
  have ln : (h ++ h2.map (O.shift h.length)).length = h.length + h2.length := by simp
  have old : ∀ l, l < h.length → both ι ι2 h.length l = ι l := fun l hl => if_pos hl
  have new : ∀ l, h.length ≤ l → both ι ι2 h.length l = ι2 (l - h.length) := fun l hl => if_neg (by omega)
  have hn : ∀ l, l < h2.length → H (ι2 l) = none := fun l hl => p.new l (Nat.zero_le _) hl
  have kp : Keep k ι h.length H2 (both ι ι2 h.length) (h ++ h2.map (O.shift h.length)).length H2 := ⟨by rw [ln]; omega, old, fun _ _ z => z, fun _ _ _ z => z, fun _ _ z => z⟩
  have ap : ∀ l m, l < h.length → m < h2.length → ι l ≠ ι2 m := fun l m hl hm z => by
    obtain ⟨o, e⟩ := r.has hl
    rw [z, hn m hm] at e
    cases e
  refine ⟨by rw [ln]; omega, old, ⟨fun l o e => ?_, fun l m hl hm e => ?_, p.rel.scr.sq, ?_⟩, q.fr, fun l a b => ?_⟩
  · by_cases hl : l < h.length
    · rw [List.getElem?_append_left hl] at e
      rw [old l hl]
      exact (q.rel.obj l o e).keep kp fun ho z => z
    · rw [List.getElem?_append_right (by omega), List.getElem?_map] at e
      obtain ⟨o', e1, rfl⟩ := Option.map_eq_some_iff.mp e
      rw [new l (by omega), ln]
      exact relO_shift (p.rel.obj _ o' e1)
  · rw [ln] at hl hm
    by_cases h1 : l < h.length
    · by_cases h2' : m < h.length
      · rw [old l h1, old m h2'] at e
        exact r.inj l m h1 h2' e
      · rw [old l h1, new m (by omega)] at e
        exact absurd e (ap l _ h1 (by omega))
    · by_cases h2' : m < h.length
      · rw [new l (by omega), old m h2'] at e
        exact absurd e.symm (ap m _ h2' (by omega))
      · rw [new l (by omega), new m (by omega)] at e
        have := p.rel.inj _ _ (by omega) (by omega) e
        omega
  · rcases q.rel.scr.ap with z | ⟨z1, z2⟩
    · exact .inl z
    · rcases r.scr.ap with z | ⟨y1, y2⟩
      · exact .inl z
      · refine .inr ⟨z1, fun l hl => ?_⟩
        by_cases h1 : l < h.length
        · rw [old l h1]
          exact z2 l h1
        · rw [new l (by omega)]
          intro z
          have := hn (l - h.length) (by rw [ln] at hl; omega)
          rw [z] at this
          rcases y1 with y | ⟨o, y⟩
          · rw [y] at this
            cases this
          · rw [y] at this
            cases this
  · rw [ln] at b
    rw [new l a]
    exact hn _ (by omega)
end
end AM
/-! A def's promise, from its body; all defs, by the fuel. -/
namespace AM
open PySem L2
section
variable {k : Cst} {gl : Gl} {g : Ev} {lv : Nat} {fA : Nat → Addr} {ι ι1 ι2 : Nat → Addr} {n n' : Nat} {H H1 H2 : Hp} {h h1 h2 : AH} {Wx : WX} {σ : L2.St}
theorem pull_ok {w : W} {v : V} {Q : VK} (r : R k ι h H) (p : Post k ι1 [] H ι2 h2 H2) (rv : RelW k ι2 h2.length H2 w v) (q : WPE k Wx σ (pull h h2 w) ι h H (relW k) Q) : Q v H2 := by
  have all : WPE k Wx σ (.ok (w.shift h.length) (h ++ h2.map (O.shift h.length))) ι h H (relW k) Q → Q v H2 := fun q => by
    refine q _ _ _ (run0_all p r) ?_
    have := relW_shift (ι := ι) (n := h.length) w rv
    unfold relW
    rw [show (h ++ h2.map (O.shift h.length)).length = h.length + h2.length by simp]
    exact this
  unfold pull at q
  split at q
  · rename_i l
    split at q
    · rename_i ws e
      split at q
      · rename_i hf
        refine q _ _ _ (run0_one p r e hf) ?_
        unfold RelW at rv
        unfold relW RelW
        exact ⟨by simp, by rw [snoc_eq]; exact rv.2⟩
      · exact all q
    · exact all q
  · split at q
    · rename_i hf
      exact q _ _ _ (run0 p r) (relW_flat _ hf rv)
    · exact all q
theorem exD_flat {d : Option Addr} {xs : List Str} {ws : List W} (f : W.flats ws = true) (e : ExD k ι n H d xs ws) : ExD k ι1 n' H d xs ws := by
  rcases e with e | ⟨dd, vs, e1, e2, e3, e4⟩
  · exact .inl e
  · exact .inr ⟨dd, vs, e1, e2, relWs_flat ws f e3, e4⟩
theorem relS_start {N : List Str} {ws : List W} {vs : List V} (rv : RelWs k ι n H ws vs) : RelS k ι n H (startA N.length ws) (L2.start N vs) := by
  have hl := rv.len
  unfold startA L2.start
  refine ⟨by simp [hl], fun i w e => ?_⟩
  by_cases hi : i < ws.length
  · rw [List.getElem?_append_left (by simpa using hi), List.getElem?_map] at e
    obtain ⟨w', e1, e2⟩ := Option.map_eq_some_iff.mp e
    cases e2
    obtain ⟨v, e3, e4⟩ := rv.get e1
    exact ⟨v, by rw [List.getElem?_append_left (by simp; omega), List.getElem?_map, e3]; rfl, e4⟩
  · rw [List.getElem?_append_right (by simpa using hi), List.getElem?_replicate] at e
    split at e <;> cases e
/-- the body's end is the call's -/
theorem body_ok {d : DefC} {ws : List W} {vs : List V} {Q : VK} {E : XK} (r : R k ι h H) (rv : RelWs k ι h.length H ws vs) (w : WPE k (fun c d _ H => E c d H) [] (runBody g d ws h) ι h H (relW k) Q) :
    tSs k g (fun c d _ H => E c d H) d.body { nx := fun _ H' => Q .non H', rt := Q } (L2.start d.ns vs) H := by
  refine ⟨ι, startA d.ns.length ws, h, relS_start rv, r, ?_⟩
  dsimp only
  unfold runBody at w
  revert w
  cases evalSs g d.body (startA d.ns.length ws) h with
  | next as' h' => exact fun w ι' H' σ' p e => w ι' H' .non p (by unfold relW RelW; rfl)
  | ret w' h' => exact fun w => w
  | exc c xs ws' as' h' => exact fun w ι' H' d σ' p e ed => w ι' H' d p ed
  | brk _ _ => exact fun w => w.elim
  | cont _ _ => exact fun w => w.elim
  | stuck => exact fun w => w.elim
/-- .. where it ran on a heap of its own -/
theorem body_flat {d : DefC} {ws : List W} {vs : List V} {Q : VK} {E : XK} (r : R k ι h H) (rv : RelWs k ι h.length H ws vs) (f : W.flats ws = true)
    (w : WPE k (fun c d _ H => E c d H) [] (match runBody g d ws [] with
      | .ok w h2 => pull h h2 w
      | .exc c xs vs _ => if W.flats vs then .exc c xs vs h else .stuck
      | .stuck => .stuck) ι h H (relW k) Q) :
    tSs k g (fun c d _ H => E c d H) d.body { nx := fun _ H' => Q .non H', rt := Q } (L2.start d.ns vs) H := by
  have r0 : R k ι [] H := by
    refine ⟨fun l o e => (by simp at e), fun l m hl => absurd hl (Nat.not_lt_zero _), r.scr.sq, ?_⟩
    rcases r.scr.ap with q | ⟨q1, q2⟩
    · exact .inl q
    · exact .inr ⟨q1, fun l hl => absurd hl (Nat.not_lt_zero _)⟩
  refine ⟨ι, startA d.ns.length ws, [], relS_start (relWs_flat ws f rv), r0, ?_⟩
  dsimp only
  unfold runBody at w
  revert w
  cases evalSs g d.body (startA d.ns.length ws) [] with
  | next as' h' => exact fun w ι' H' σ' p e => pull_ok r p (by unfold RelW; rfl) w
  | ret w' h' => exact fun w ι' H' v p e => pull_ok r p e w
  | exc c xs ws' as' h' =>
    intro w ι' H' d σ' p e ed
    have w : WPE k (fun c d _ H => E c d H) [] (if W.flats ws' then .exc c xs ws' h else .stuck) ι h H (relW k) Q := w
    split at w
    · rename_i hf
      exact w ι H' d (run0 p r) (exD_flat hf ed)
    · exact w.elim
  | brk _ _ => exact fun w => w.elim
  | cont _ _ => exact fun w => w.elim
  | stuck => exact fun w => w.elim
theorem okScope_fn {d : DefC} {sc : Scope} (h : okScope d sc = true) : FnScope d.ns d.ps sc := by
  unfold okScope at h
  simp only [Bool.and_eq_true, decide_eq_true_eq, Bool.not_eq_true', List.all_eq_true] at h
  obtain ⟨⟨⟨⟨⟨⟨h1, h2⟩, h3⟩, h4⟩, h5⟩, h6⟩, h7⟩ := h
  refine ⟨?_, h2, h3, h4, h5, fun x hx => ?_, fun y hy e => ?_⟩
  · split at h1
    · assumption
    · cases h1
  · have := h6 x hx
    split at this
    · exact .inl (by assumption)
    · exact .inr (by assumption)
    · cases this
  · have := h7 y hy
    rw [e] at this
    cases this
/-- what is known of a def without its body's run -/
structure DefS (P : Program) (w : World) (mg : Str → Option Value) (k : Cst) (gl : Gl) (gc : Gc) (f : Nat) (d : DefC) (a : Addr) : Prop where
  ex : ∃ (name qual : Str) (params : Arguments) (body : List Stmt) (scope : Scope) (oc : Value) (od : Option Addr) (kV doc pm : Value) (an : Option Addr) (cdv ct : Value) (osl : Array (Option Value)),
    k.K.lookup a = some ⟨oc, od, .func (PySem.W.fnOf name qual params body scope .none kV doc pm an cdv ct), osl⟩ ∧ PySem.W.codeIn k.K cdv qual = true ∧
    (d.body = [.never] ∨ (okScope d scope = true ∧ okSs gl ⟨d.ns, scope, fun _ => true⟩ d.body body = true)) ∧
    (∀ us : List Value, us.length = d.ps.length → bindArgs (PySem.W.fnOf name qual params body scope .none kV doc pm an cdv ct) ⟨us, []⟩ = pure (d.ps.zip us)) ∧
    ∀ n ks, (f, n, ks) ∈ gc.kws → ∀ (us ws vs : List Value), us.length = n → ws.length = ks.length → (permOf d.ps n ks).bind (pick (us ++ ws)) = some vs → bindArgs (PySem.W.fnOf name qual params body scope .none kV doc pm an cdv ct) ⟨us, ks.zip ws⟩ = pure (d.ps.zip vs)
  kp : PySem.W.keepIn k.K (.ref a) = true
theorem callF_len {gc : Gc} {sc : List Int} {m f : Nat} {ws : List W} {h : AH} {d : DefC} (hd : gc.defs[f]? = some d) (hl : ws.length ≠ d.ps.length) : callF gc sc m f ws h = .stuck := by
  cases m with
  | zero => rfl
  | succ m =>
    unfold callF
    rw [hd]
    simp [hl]
theorem callF_never {gc : Gc} {sc : List Int} {m f : Nat} {ws : List W} {h : AH} {d : DefC} (hd : gc.defs[f]? = some d) (hl : d.body = [.never]) : callF gc sc m f ws h = .stuck := by
  cases m with
  | zero => rfl
  | succ m =>
    unfold callF
    rw [hd]
    dsimp only
    have e : ∀ g h, runBody g d ws h = .stuck := fun g h => by
      unfold runBody
      rw [hl, evalSs, evalS]
      rfl
    split
    · split
      · rw [e]
      · rw [e]
    · rfl
theorem fnS_zero {P : Program} {w : World} {mg : Str → Option Value} {base : Heap} {gc : Gc} {sc : List Int} {f : Nat} {d : DefC} {a : Addr} (D : DefS P w mg k gl gc f d a) : FnS P w mg base k ⟨gc, sc, callF gc sc 0⟩ 0 f d a := by
  obtain ⟨⟨name, qual, params, body, scope, oc, od, kV, doc, pm, an, cdv, ct, osl, e1, e2, e3, e4, e5⟩, kp⟩ := D
  refine ⟨⟨_, ⟨_, _, _, e1⟩, ⟨fun sp => sp.1, fun _ _ _ _ _ ⟨_, ι, h, ws, _, _, q⟩ => q.elim⟩, Binds.all e4, e5⟩, kp⟩
/-- one step of fuel -/
theorem fnS_succ {P : Program} {w : World} {mg : Str → Option Value} {base : Heap} {gc : Gc} {sc : List Int} {m f : Nat} {d : DefC} {a : Addr} (hw : w = k.w) (D : DefS P w mg k gl gc f d a) (hd : gc.defs[f]? = some d) (fx : Fx P w mg base k gl ⟨gc, sc, callF gc sc m⟩ (3 * m) fA) :
    FnS P w mg base k ⟨gc, sc, callF gc sc (m + 1)⟩ (3 * (m + 1)) f d a := by
  obtain ⟨⟨name, qual, params, body, scope, oc, od, kV, doc, pm, an, cdv, ct, osl, e1, e2, e3, e4, e5⟩, kp⟩ := D
  refine ⟨⟨_, ⟨_, _, _, e1⟩, ?_, Binds.all e4, e5⟩, kp⟩
  rcases e3 with e3 | ⟨e3, e6⟩
  · refine ⟨fun sp => sp.1, fun {A outer s H args us vs Q E} _ _ _ _ _ ⟨_, ι, h, ws, _, _, q⟩ => ?_⟩
    dsimp only at q
    rw [callF_never hd e3] at q
    exact q.elim
  · have FS := okScope_fn e3
    refine fng_of (k := 3 * m + 2) (N := d.ns) e1 e2 FS (fun sp => sp.1) fun {A outer s H vs Q E} hr hq sp => ?_
    obtain ⟨hl, ι, h, ws, r, rv, q⟩ := sp
    have cs : CxS (cxOf (L2.CX P w) P w k.K mg base d.ns qual scope a cdv A outer s H E) k gl ⟨gc, sc, callF gc sc m⟩ (3 * m) fA ⟨d.ns, scope, fun _ => true⟩ (fun cls d _ H => E cls d H) :=
      { K := rfl, w := hw, quiet := hq, calm := rfl, N := rfl, sc := rfl, fn := fun _ _ => rfl, nd := FS.nd, room := hr, fx := fx, fun_ := FS.kind, stk := rfl, frm := rfl, exn := rfl, own := passes_of rfl, tk := takes_of rfl rfl rfl rfl }
    refine ⟨_, sSs d.body cs e6, ?_⟩
    dsimp only at q
    unfold callF at q
    rw [hd] at q
    dsimp only at q
    split at q
    · split at q
      · rename_i hf
        exact body_flat r rv hf q
      · exact body_ok r rv q
    · exact q.elim
/-- the program's facts without the defs' runs -/
structure FxS (P : Program) (w : World) (mg : Str → Option Value) (k : Cst) (gl : Gl) (gc : Gc) (fA : Nat → Addr) : Prop where
  gfn : ∀ x f, gl.lookup x = some (.fn f) → mg x = some (.ref (fA f)) ∧ ∃ d, gc.defs[f]? = some d
  gcl : ∀ x c, gl.lookup x = some (.cls c) → mg x = some (.ref (k.cA c)) ∧ PySem.W.keepIn k.K (.ref (k.cA c)) = true
  gbl : ∀ x, gl.lookup x = some .blt → mg x = none
  gco : ∀ x v, gl.lookup x = some (.con v) → gloW v = true → ∃ u V, mg x = some u ∧ L2.RelV V u ∧ ∀ ι n H, RelW k ι n H v V
  dfs : ∀ f d, gc.defs[f]? = some d → DefS P w mg k gl gc f d (fA f)
  cl : ∀ c cl, gc.clss.lookup c = some cl → ClsS k fA c cl
  met : ∀ c cl m f, gc.clss.lookup c = some cl → cl.meths.lookup m = some f → ∃ d, gc.defs[f]? = some d
  prp : ∀ c cl m f, gc.clss.lookup c = some cl → cl.props.lookup m = some f → ∃ d, gc.defs[f]? = some d
  exr : ∀ c, c ∈ gc.rais → PySem.W.excIn k.K (k.cA c) He.veBase "ValueError.__new__" = true ∧ PySem.W.subIn k.K (.ref (k.cA c)) (.type "BaseException") = some true ∧ PySem.W.typeIn k.K (.ref (k.cA c)) = some (.type "type")
  exo : ∀ c d b, gc.exm c d = some b → PySem.W.exmOne k.K (.ref (k.cA c)) (.ref (k.cA d)) = some b
  exm : ∀ c d b, gc.exm c d = some b → PySem.W.kitOne k.K (.ref (k.cA c)) (.ref (k.cA d)) = some b ∧ (∀ t ∈ tynames, PySem.W.kitOne k.K (.type t) (.ref (k.cA c)) = some false) ∧ ∀ x : Addr, PySem.W.KitX k.K (.ref x) (.ref (k.cA c)) (fun h => ∃ ox od, PySem.W.InstAt h x ox (k.cA c) od)
  ini : ∀ c cl, gc.clss.lookup c = some cl → ∃ d, gc.defs[cl.init]? = some d
  ixs : ∀ base : Heap, ∀ c i, gc.inis.lookup c = some i → IniS P w mg base k c i
theorem fx_of {P : Program} {w : World} {mg : Str → Option Value} {base : Heap} {gc : Gc} (hw : w = k.w) (S : FxS P w mg k gl gc fA) : ∀ m, Fx P w mg base k gl ⟨gc, k.sc, callF gc k.sc m⟩ (3 * m) fA := by
  have mk : ∀ m, (∀ f d, gc.defs[f]? = some d → FnS P w mg base k ⟨gc, k.sc, callF gc k.sc m⟩ (3 * m) f d (fA f)) → Fx P w mg base k gl ⟨gc, k.sc, callF gc k.sc m⟩ (3 * m) fA := fun m F =>
    { sc := rfl, gfn := S.gfn, gcl := S.gcl, gbl := S.gbl, gco := S.gco, len := fun f ws h d hd hl => callF_len hd hl, fn := F, cl := S.cl, met := S.met, prp := S.prp, exr := S.exr, exo := S.exo, exm := S.exm, ini := S.ini, ixs := S.ixs base }
  intro m
  induction m with
  | zero => exact mk 0 fun f d hd => fnS_zero (S.dfs f d hd)
  | succ m ih => exact mk (m + 1) fun f d hd => fnS_succ hw (S.dfs f d hd) hd ih
end
end AM
/-! The facts of a law's head, by the law's tables; the end. -/
namespace AM
open PySem L2 He AH
/-- a law's tables -/
structure Tab where
  gl : Gl
  gc : Gc
  cn : List Str
  fn : List DefP
def Tab.nm (T : Tab) (c : Nat) : Str := T.cn.getD c ""
def Tab.cA (T : Tab) (K : PySem.W.Frag) (c : Nat) : Addr := ga K (T.nm c)
def Tab.fA (T : Tab) (K : PySem.W.Frag) (f : Nat) : Addr := match T.fn[f]? with
  | some d => d.adr K
  | none => 0
/-- a tuple of numbers and texts in the known part -/
def valB : W → Value → Bool
  | .int i, .int j _ => i == j
  | .str x, .str y _ => decide (x = y)
  | _, _ => false
def valsB : List W → List Value → Bool
  | [], [] => true
  | w :: ws, v :: vs => valB w v && valsB ws vs
  | _, _ => false
def isTupleT : Value → Bool
  | .type t => t == "tuple"
  | _ => false
def tupIn (K : PySem.W.Frag) (a : Addr) (ws : List W) : Bool := match K.lookup a with
  | some o => isTupleT o.cls && (match o.data with
    | .seq its _ => decide (its.size ≤ 1000) && valsB ws its.toList
    | _ => false)
  | none => false
theorem tupIn_ok {K : PySem.W.Frag} {a : Addr} {ws : List W} (h : tupIn K a ws = true) : ∃ vs, (∀ H, SqT K H a vs) ∧ ∀ (k : Cst) ι n H, RelWs k ι n H ws vs := by
  unfold tupIn at h
  split at h
  · rename_i o e
    rw [Bool.and_eq_true] at h
    obtain ⟨h1, h2⟩ := h
    split at h2
    · rename_i its m ed
      rw [Bool.and_eq_true, decide_eq_true_eq] at h2
      have hc : o.cls = .type "tuple" := by
        unfold isTupleT at h1
        split at h1
        · rename_i t et
          rw [et, beq_iff_eq.mp h1]
        · cases h1
      have key : ∀ {ws : List W} {us : List Value}, valsB ws us = true → ∃ vs, Vals vs us ∧ ∀ (k : Cst) ι n H, RelWs k ι n H ws vs := by
        intro ws
        induction ws with
        | nil =>
          intro us hv
          cases us with
          | nil => exact ⟨[], .nil, fun _ _ _ _ => .nil⟩
          | cons _ _ => cases hv
        | cons w ws ih =>
          intro us hv
          cases us with
          | nil => cases hv
          | cons u us =>
            unfold valsB at hv
            rw [Bool.and_eq_true] at hv
            obtain ⟨vs, z1, z2⟩ := ih hv.2
            have h0 := hv.1
            unfold valB at h0
            split at h0
            · rw [beq_iff_eq] at h0
              subst h0
              exact ⟨.int _ :: vs, .cons ⟨_, rfl⟩ z1, fun k ι n H => .cons (by unfold RelW; rfl) (z2 k ι n H)⟩
            · have h0 := of_decide_eq_true h0
              subst h0
              exact ⟨.str _ :: vs, .cons ⟨_, rfl⟩ z1, fun k ι n H => .cons (by unfold RelW; rfl) (z2 k ι n H)⟩
            · cases h0
      obtain ⟨vs, z1, z2⟩ := key h2.2
      exact ⟨vs, fun H => .inr ⟨o, its, m, e, hc, ed, by rw [sizeLine_eq]; omega, z1⟩, z2⟩
    · cases h2
  · cases h
def faGl (T : Tab) (K : PySem.W.Frag) (p : Str × GK) : Bool := match p.2 with
  | .fn f => (Fa.glo p.1).ok K && decide (T.fA K f = ga K p.1) && decide (f < T.gc.defs.length)
  | .cls c => (Fa.glo p.1).ok K && decide (T.cA K c = ga K p.1) && (Fa.keep p.1).ok K
  | .blt => (Fa.free p.1).ok K
  | .con w => (match w with
    | .int i => (Fa.int p.1 i).ok K
    | .str x => (Fa.str p.1 x).ok K
    | .tup ws => (Fa.glo p.1).ok K && tupIn K (ga K p.1) ws
    | _ => false)
def faCl (T : Tab) (K : PySem.W.Frag) (p : Nat × ClsC) : Bool := (Fa.cls (T.nm p.1)).ok K && (Fa.mkr (T.nm p.1)).ok K && decide (ma K (ga K (T.nm p.1)) "__init__" = T.fA K p.2.init) && decide (p.2.init < T.gc.defs.length) &&
  (p.2.meths.all fun m => (Fa.meth (T.nm p.1) m.1).ok K && decide (ma K (ga K (T.nm p.1)) m.1 = T.fA K m.2) && decide (m.2 < T.gc.defs.length)) &&
  (p.2.props.all fun m => propB (T.nm p.1) m.1 K && decide (pgA K (T.nm p.1) m.1 = T.fA K m.2) && decide (m.2 < T.gc.defs.length)) &&
  (p.2.flds.all fun f => (Fa.noat (T.nm p.1) f).ok K)
/-- what isinstance asks of a caught exception's class -/
def faIs (K : PySem.W.Frag) (D : Addr) : Bool := eqO (PySem.W.findIn K (.ref D) "__getattribute__") (some (some (.builtin "BaseException.__getattribute__"))) && eqO (PySem.W.findIn K (.ref D) "__getattr__") (some none) &&
  decide (PySem.W.subIn K (.ref D) (.type "BaseException") = some true) && PySem.W.hasDictIn K D && eqO (PySem.W.findIn K (.ref D) "__class__") (some (some (.builtin "object.__class__"))) &&
  eqO (PySem.W.specialIn K (.builtin "object.__class__") "__get__") (some (some (.builtin "getset_descriptor.__get__"))) && decide (PySem.W.takesIn K (.builtin "object.__class__") = some true) && decide (PySem.W.mroIn K D (.type "object") = some true)
def faTy (K : PySem.W.Frag) (D : Addr) : Bool := tynames.all fun t => decide (PySem.W.kitOne K (.type t) (.ref D) = some false)
def faEx (T : Tab) (K : PySem.W.Frag) (p : Nat × List Nat) : Bool := (faTy K (T.cA K p.1) && faIs K (T.cA K p.1)) && T.gc.excs.all fun q => decide (PySem.W.exmOne K (.ref (T.cA K p.1)) (.ref (T.cA K q.1)) = some (p.2.contains q.1)) && decide (PySem.W.kitOne K (.ref (T.cA K p.1)) (.ref (T.cA K q.1)) = some (p.2.contains q.1))
def isVeI : Option PySem.W.CFound → Bool
  | some (.val (.builtin n)) => n == "ValueError.__init__"
  | _ => false
def faBas (K : PySem.W.Frag) (B : Addr) : Bool := eqO (PySem.W.specialIn K (.ref B) "__getattribute__") (some (some (.builtin "type.__getattribute__"))) && decide (PySem.W.typeIn K (.ref B) = some (.type "type")) && PySem.W.readsIn K B (.type "type") && isVeI (PySem.W.findCls K (.ref B) (.type "type") "__init__")
/-- an exception's own __init__ -/
def faIni (T : Tab) (K : PySem.W.Frag) (p : Nat × IniC) : Bool := oexIn K (T.cA K p.1) && eqO (PySem.W.findIn K (.ref (T.cA K p.1)) "__setattr__") (some (some (.builtin "object.__setattr__"))) && decide (PySem.W.subIn K (.ref (T.cA K p.1)) (.type "BaseException") = some true) &&
  decide (PySem.W.typeIn K (.ref (T.cA K p.1)) = some (.type "type")) && PySem.W.keepIn K (.ref (T.cA K p.1)) && xfB K (T.cA K p.1) && eqO (PySem.W.findIn K (.ref (T.cA K p.1)) p.2.x) (some none) && eqO (PySem.W.findIn K (.ref (T.cA K p.1)) "__init__") (some (some (.ref (T.fA K p.2.f)))) &&
  decide (PySem.W.typeIn K (.ref (T.fA K p.2.f)) = some (.type "function")) && faBas K (T.cA K p.2.b)
def Tab.okInis (T : Tab) : Bool := T.gc.inis.all fun p => match T.gc.defs[p.2.f]?, T.fn[p.2.f]? with
  | some d, some q => okIni T.gl p.2 d q.scope q.body
  | _, _ => false
def Tab.fa (T : Tab) (K : PySem.W.Frag) : Bool := T.gl.all (faGl T K) && T.gc.clss.all (faCl T K) && T.gc.excs.all (faEx T K) && T.gc.inis.all (faIni T K) && T.gc.rais.all fun c => (Fa.exc (T.nm c)).ok K
/-- a def of the core is its text's -/
structure DefOk (gl : Gl) (gc : Gc) (f : Nat) (d : DefC) (p : DefP) : Prop where
  body : d.body = [.never] ∨ (okScope d p.scope = true ∧ okSs gl ⟨d.ns, p.scope, fun _ => true⟩ d.body p.body = true)
  bind : ∀ (kV doc pm : Value) (an : Option Addr) (cdv ct : Value) (us : List Value), us.length = d.ps.length → bindArgs (PySem.W.fnOf p.name p.qual p.params p.body p.scope .none kV doc pm an cdv ct) ⟨us, []⟩ = pure (d.ps.zip us)
  kws : ∀ n ks, (f, n, ks) ∈ gc.kws → ∀ (kV doc pm : Value) (an : Option Addr) (cdv ct : Value) (us ws vs : List Value), us.length = n → ws.length = ks.length → (permOf d.ps n ks).bind (pick (us ++ ws)) = some vs →
    bindArgs (PySem.W.fnOf p.name p.qual p.params p.body p.scope .none kV doc pm an cdv ct) ⟨us, ks.zip ws⟩ = pure (d.ps.zip vs)
inductive DefOks (gl : Gl) (gc : Gc) : Nat → List DefC → List DefP → Prop where
  | nil {i} : DefOks gl gc i [] []
  | cons {i d p ds ps} : DefOk gl gc i d p → DefOks gl gc (i + 1) ds ps → DefOks gl gc i (d :: ds) (p :: ps)
theorem DefOks.get {gl : Gl} {gc : Gc} : ∀ {i : Nat} {ds : List DefC} {ps : List DefP}, DefOks gl gc i ds ps → ∀ {f : Nat} {d : DefC}, ds[f]? = some d → ∃ p, ps[f]? = some p ∧ DefOk gl gc (i + f) d p
  | _, _, _, .nil, _, _, h => by simp at h
  | _, _, _, .cons a b, 0, d, h => by
    simp at h
    subst h
    exact ⟨_, rfl, a⟩
  | i, _, _, .cons a b, f + 1, d, h => by
    obtain ⟨p, h1, h2⟩ := b.get (f := f) (by simpa using h)
    exact ⟨p, by simpa using h1, by rw [show i + (f + 1) = i + 1 + f by omega]; exact h2⟩
theorem lookup_all {α β : Type} [BEq α] [LawfulBEq α] {P : α × β → Bool} : ∀ {l : List (α × β)} {a : α} {b : β}, l.all P = true → l.lookup a = some b → P (a, b) = true
  | [], _, _, _, h => by cases h
  | (x, y) :: l, a, b, hp, h => by
    rw [List.all_cons, Bool.and_eq_true] at hp
    rw [List.lookup_cons] at h
    split at h
    · rename_i e
      cases h
      have e2 : a = x := by simpa using e
      rw [e2]
      exact hp.1
    · exact lookup_all hp.2 h
theorem lookup_mem {α β : Type} [BEq α] [LawfulBEq α] : ∀ {l : List (α × β)} {a : α} {b : β}, l.lookup a = some b → (a, b) ∈ l
  | [], _, _, h => by cases h
  | (x, y) :: l, a, b, h => by
    rw [List.lookup_cons] at h
    split at h
    · rename_i e
      cases h
      have e2 : a = x := by simpa using e
      rw [e2]
      exact List.mem_cons_self
    · exact List.mem_cons_of_mem _ (lookup_mem h)
theorem no_kw {gc : Gc} {f : Nat} (h : (gc.kws.all fun p => p.1 != f) = true) {n : Nat} {ks : List Str} : (f, n, ks) ∉ gc.kws := fun hm => by
  rw [List.all_eq_true] at h
  have := h _ hm
  simp at this
theorem some_kw {gc : Gc} {f : Nat} {l : List (Nat × List Str)} (h : (gc.kws.filter fun p => p.1 == f).map (·.2) = l) {n : Nat} {ks : List Str} (hm : (f, n, ks) ∈ gc.kws) : (n, ks) ∈ l := by
  rw [← h]
  exact List.mem_map.mpr ⟨(f, n, ks), List.mem_filter.mpr ⟨hm, by simp⟩, rfl⟩
theorem get_lt {α : Type} {l : List α} {i : Nat} (h : i < l.length) : ∃ d, l[i]? = some d := ⟨l[i], by simp [h]⟩
section
variable {T : Tab} {P : Program} {w : World} {mg : Str → Option Value} {K : PySem.W.Frag} {h : Heap} {aS : Addr} {sc : List Int}
theorem fxS_of (X : K.In h) (G : h.Ns mainGlobals mg) (c : SaysP T.fa T.fn K) (ds : DefOks T.gl T.gc 0 T.gc.defs T.fn) (io : T.okInis = true) : FxS P w mg ⟨K, T.cA K, aS, sc, w⟩ T.gl T.gc (T.fA K) := by
  have c0 := c.fact
  unfold Tab.fa at c0
  simp only [Bool.and_eq_true] at c0
  obtain ⟨⟨⟨⟨c1, c2⟩, c3⟩, c5⟩, c4⟩ := c0
  have cls : ∀ c cl, T.gc.clss.lookup c = some cl → faCl T K (c, cl) = true := fun c cl e => lookup_all c2 e
  refine ⟨fun x f e => ?_, fun x c e => ?_, fun x e => ?_, fun x v e sc => ?_, fun f d e => ?_, fun c cl e => ?_, fun c cl m f e e2 => ?_, fun c cl m f e e2 => ?_, fun c hc => ?_, fun c d b e => ?_, fun c d b e => ?_, fun c cl e => ?_, fun base cc i e => ?_⟩
  · have q := lookup_all c1 e
    unfold faGl at q
    simp only [Bool.and_eq_true, decide_eq_true_eq] at q
    exact ⟨by rw [q.1.2]; exact glo_ok X G q.1.1, get_lt q.2⟩
  · have q := lookup_all c1 e
    unfold faGl at q
    simp only [Bool.and_eq_true, decide_eq_true_eq] at q
    have q2 : T.cA K c = ga K x := q.1.2
    exact ⟨by show mg x = some (.ref (T.cA K c)); rw [q2]; exact glo_ok X G q.1.1, by show PySem.W.keepIn K (.ref (T.cA K c)) = true; rw [q2]; exact keep_ok q.2⟩
  · have q := lookup_all c1 e
    exact free_ok X G q
  · have q := lookup_all c1 e
    unfold faGl at q
    dsimp only at q
    split at q
    · obtain ⟨t, e2⟩ := int_ok X G q
      exact ⟨_, .int _, e2, ⟨_, rfl⟩, fun ι n H => by unfold RelW; rfl⟩
    · obtain ⟨t, e2⟩ := str_ok X G q
      exact ⟨_, .str _, e2, ⟨_, rfl⟩, fun ι n H => by unfold RelW; rfl⟩
    · rw [Bool.and_eq_true] at q
      obtain ⟨vs, z1, z2⟩ := tupIn_ok q.2
      exact ⟨_, .ref _, glo_ok X G q.1, rfl, fun ι n H => by
        unfold RelW
        exact ⟨_, vs, rfl, z1 H, z2 _ _ _ _⟩⟩
    · cases q
  · obtain ⟨p, e1, D⟩ := ds.get e
    rw [Nat.zero_add] at D
    obtain ⟨fd, F⟩ := c.def_ f e1
    have ea : T.fA K f = p.adr K := by
      unfold Tab.fA
      rw [e1]
    rw [ea]
    obtain ⟨oc, od, kV, doc, pm, an, cdv, ct, osl, efd, e2, e3⟩ := F.ex
    subst efd
    exact ⟨⟨p.name, p.qual, p.params, p.body, p.scope, oc, od, kV, doc, pm, an, cdv, ct, osl, e2, e3, D.body, D.bind kV doc pm an cdv ct, fun n ks hk us ws vs => D.kws n ks hk kV doc pm an cdv ct us ws vs⟩, F.kp⟩
  · have q := cls c cl e
    unfold faCl at q
    simp only [Bool.and_eq_true, decide_eq_true_eq] at q
    obtain ⟨⟨⟨⟨⟨⟨q1, q2⟩, q3⟩, q4⟩, q5⟩, q6⟩, q7⟩ := q
    refine ⟨cls_ok q1, by rw [← q3]; exact mkr_ok q2, fun m f e2 => ?_, fun m f e2 => ?_, fun x hx => ?_⟩
    · have z := lookup_all q5 e2
      simp only [Bool.and_eq_true, decide_eq_true_eq] at z
      rw [← z.1.2]
      exact meth_ok z.1.1
    · have z := lookup_all q6 e2
      simp only [Bool.and_eq_true, decide_eq_true_eq] at z
      rw [← z.1.2]
      exact ⟨_, propB_ok z.1.1⟩
    · rw [List.all_eq_true] at q7
      exact noat_ok (q7 x hx)
  · have q := cls c cl e
    unfold faCl at q
    simp only [Bool.and_eq_true, decide_eq_true_eq] at q
    have z := lookup_all q.1.1.2 e2
    simp only [Bool.and_eq_true, decide_eq_true_eq] at z
    exact get_lt z.2
  · have q := cls c cl e
    unfold faCl at q
    simp only [Bool.and_eq_true, decide_eq_true_eq] at q
    have z := lookup_all q.1.2 e2
    simp only [Bool.and_eq_true, decide_eq_true_eq] at z
    exact get_lt z.2
  · rw [List.all_eq_true] at c4
    obtain ⟨z1, z2, z3, z4⟩ := exc_ok (c4 c hc)
    exact ⟨z1, z3, z4⟩
  · unfold Gc.exm at e
    split at e
    · rename_i ds' ds'' e1 e2
      cases e
      have q := lookup_all c3 e1
      unfold faEx at q
      rw [Bool.and_eq_true, List.all_eq_true] at q
      have z := q.2 _ (lookup_mem e2)
      simp only [Bool.and_eq_true, decide_eq_true_eq] at z
      exact z.1
    · cases e
  · unfold Gc.exm at e
    split at e
    · rename_i ds' ds'' e1 e2
      cases e
      have q := lookup_all c3 e1
      unfold faEx at q
      rw [Bool.and_eq_true, List.all_eq_true] at q
      have z := q.2 _ (lookup_mem e2)
      simp only [Bool.and_eq_true, decide_eq_true_eq] at z
      have qi := q.1
      rw [Bool.and_eq_true] at qi
      refine ⟨z.2, fun t ht => ?_, fun x => ?_⟩
      · have qt := qi.1
        unfold faTy at qt
        rw [List.all_eq_true] at qt
        exact of_decide_eq_true (qt t ht)
      have i := qi.2
      unfold faIs at i
      simp only [Bool.and_eq_true, decide_eq_true_eq] at i
      obtain ⟨⟨⟨⟨⟨⟨⟨i1, i2⟩, i3⟩, i4⟩, i5⟩, i6⟩, i7⟩, i8⟩ := i
      obtain ⟨cd, hcd, _⟩ := PySem.W.any_some i4
      have Z := fun ox od => PySem.W.kitx_exc (x := x) (ox := ox) (od := od) (by rw [hcd]; rfl) (eqO_ok i1) (eqO_ok i2) i3 (eqO_ok i5) (eqO_ok i6) i7 i8
      exact ⟨fun M h X ⟨ox, od, I⟩ => (Z ox od).ty M h X I, fun M h X ⟨ox, od, I⟩ => (Z ox od).it M h X I, fun h tp dd its n sl X e => (Z default none).ne h tp dd its n sl X e, fun X ⟨ox, od, I⟩ q => (Z ox od).ca X I q⟩
    · cases e
  · have q := cls c cl e
    unfold faCl at q
    simp only [Bool.and_eq_true, decide_eq_true_eq] at q
    exact get_lt q.1.1.1.2
  · have hm := lookup_mem e
    rw [List.all_eq_true] at c5
    have q := c5 _ hm
    unfold faIni at q
    simp only [Bool.and_eq_true, decide_eq_true_eq] at q
    obtain ⟨⟨⟨⟨⟨⟨⟨⟨⟨q1, q2⟩, q3⟩, q4⟩, q5⟩, q6⟩, q7⟩, q8⟩, q9⟩, q10⟩ := q
    unfold faBas at q10
    simp only [Bool.and_eq_true, decide_eq_true_eq] at q10
    obtain ⟨⟨⟨b1, b2⟩, b3⟩, b4⟩ := q10
    unfold Tab.okInis at io
    rw [List.all_eq_true] at io
    have o := io _ hm
    split at o
    · rename_i d p ed ep
      obtain ⟨fd, F⟩ := c.def_ i.f ep
      obtain ⟨p2, ep2, D⟩ := ds.get ed
      rw [ep] at ep2
      cases ep2
      have ea : T.fA K i.f = p.adr K := by
        unfold Tab.fA
        rw [ep]
      obtain ⟨oc, od, kV, doc, pm, an, cdv, ct, osl, efd, e2, e3⟩ := F.ex
      subst efd
      have o2 := o
      unfold okIni at o2
      split at o2
      · simp only [Bool.and_eq_true, decide_eq_true_eq] at o2
        obtain ⟨⟨⟨⟨⟨⟨⟨⟨⟨⟨⟨⟨k0, k1⟩, k2⟩, _⟩, _⟩, _⟩, _⟩, _⟩, _⟩, _⟩, _⟩, _⟩, _⟩ := o2
        have isB : PySem.W.findCls K (.ref (T.cA K i.b)) (.type "type") "__init__" = some (.val (.builtin "ValueError.__init__")) := by
          revert b4
          unfold isVeI
          split
          · rename_i n en
            intro b4
            rw [en, beq_iff_eq.mp b4]
          · intro b4
            cases b4
        refine ini_s (k := ⟨K, T.cA K, aS, sc, w⟩) (gl := T.gl) (fI := T.fA K i.f) (d := d) (by rw [ea]; exact e2) e3 (Binds.all (D.bind kV doc pm an cdv ct)) (okScope_fn k1) k2 (fun x c e => ?_) (fun x e => ?_) ⟨eqO_ok b1, b2, b3, isB⟩ ⟨oexIn_ok q1, eqO_ok q2, q3, q4, q5⟩ (xfB_ok q6) (eqO_ok q7) (eqO_ok q8) q9 o
        · have q := lookup_all c1 e
          unfold faGl at q
          simp only [Bool.and_eq_true, decide_eq_true_eq] at q
          have q2 : T.cA K c = ga K x := q.1.2
          show mg x = some (.ref (T.cA K c))
          rw [q2]
          exact glo_ok X G q.1.1
        · have q := lookup_all c1 e
          exact free_ok X G q
      · cases o2
    · cases o
end
end AM
/-! The law's end, from the machine's answer. -/
namespace AM
open PySem L2 He AH LamX
theorem cx_false {P : Program} {w : World} {H : Hp} {s : Shared} {e : Value} {s' : Shared} (h : L2.CX P w [] H s (fun _ _ _ => False) e s') : False := by
  obtain ⟨_, _, _, _, _, _, _, _, _, _, _, _, z⟩ := h
  exact z
theorem lawAt {l : PySem.W.OpenLaw} {w : World} {K : PySem.W.Frag} {mg : Str → Option Value} {fa : Addr} {h : Heap} {T : Tab} {n m f : Nat} {d : DefC} {x : Str} (X : K.In h) (G : h.Ns mainGlobals mg) (c : SaysP T.fa T.fn K) (ds : DefOks T.gl T.gc 0 T.gc.defs T.fn) (io : T.okInis = true)
    (hd : T.gc.defs[f]? = some d) (hps : d.ps = [x]) (hg : T.gl.lookup ("law" : Str) = some (GK.fn f)) (hfa : mg ("law" : Str) = some (.ref fa))
    (math : ∀ ns : List Int, ns.length ≤ n → (∀ z ∈ ns, Builtin.Int.intBits z ≤ 1048576) → callF T.gc ns m f [.scr] [] = .ok (.bl true) []) :
    LawG l w K (3 * m) n x mg fa := by
  obtain ⟨p, e1, D⟩ := ds.get hd
  rw [Nat.zero_add] at D
  obtain ⟨fd, F⟩ := c.def_ f e1
  have ea : T.fA K f = p.adr K := by
    unfold Tab.fA
    rw [e1]
  have efa : fa = T.fA K f := by
    have S : FxS l.prog w mg ⟨K, T.cA K, 0, [], w⟩ T.gl T.gc (T.fA K) := fxS_of X G c ds io
    have := (S.gfn "law" f hg).1
    rw [hfa] at this
    cases this
    rfl
  obtain ⟨oc, od, kV, doc, pm, an, cdv, ct, osl, efd, e2, e3⟩ := F.ex
  refine ⟨fd, fun vs H Q E => ∃ (a : Addr) (ns : List Int), vs = [.ref a] ∧ ns.length ≤ n ∧ (∀ z ∈ ns, Builtin.Int.intBits z ≤ 1048576) ∧ SqL K H a (ns.map V.int) ∧ ∀ H', Q (.bl true) H', fun s u => ?_, fun H a ns hl hb hS => ⟨a, ns, rfl, hl, hb, hS, fun _ => rfl⟩, fun base _ _ => ?_⟩
  · have := D.bind kV doc pm an cdv ct [u] (by rw [hps]; rfl)
    rw [hps] at this
    rw [efd]
    exact .of_eq this
  · refine ⟨fun {vs H Q E} ⟨a, ns, e, _⟩ => by rw [e]; rfl, fun {A outer s H args us vs Q E} hr hq e0 hb hv hs => ?_⟩
    obtain ⟨a, ns, rfl, hl, hbits, hS, hQ⟩ := hs
    have S : FxS l.prog w mg ⟨K, T.cA K, a, ns, w⟩ T.gl T.gc (T.fA K) := fxS_of X G c ds io
    obtain ⟨fd', ⟨oc', od', osl', e4⟩, F', _⟩ := ((fx_of (k := ⟨K, T.cA K, a, ns, w⟩) (w := w) rfl S m).fn f d hd).fn
    have e5 : fd' = fd := by
      have e4 : K.lookup (T.fA K f) = some ⟨oc', od', .func fd', osl'⟩ := e4
      rw [ea, e2] at e4
      cases e4
      rfl
    subst e5
    rw [efa]
    refine F'.go hr hq e0 (by rw [hps]; exact hb) hv ⟨by rw [hps]; rfl, fun _ => 0, [], [.scr], ⟨fun l o e => (by simp at e), fun l m hl => absurd hl (Nat.not_lt_zero _), hS, ?_⟩, RelWs.cons (by unfold RelW; rfl) .nil, ?_⟩
    · rcases hS with q | q
      · exact .inr ⟨q, fun l hl => absurd hl (Nat.not_lt_zero _)⟩
      · exact .inl q
    · dsimp only
      rw [math ns hl hbits]
      intro ι' H' v p e
      unfold relW RelW at e
      rw [e]
      exact hQ H'
end AM
/-! The interpreter's equations, for simp. -/
namespace AM
open PySem
/-- one turn of a for -/
def forF (g : Ev) (t : Tg) (b : List S) : W → St → AH → Out := fun w σ1 h2 => (toNoExc (asgT g t w σ1 h2)).then σ1 fun σ2 h3 => evalSs g b σ2 h3
section
variable (g : Ev) (σ : St) (h : AH)
@[simp] theorem x_var (i : Nat) : evalE g (.var i) σ h = (match σ[i]? with
    | some (some w) => .ok w h
    | _ => .stuck) := by rw [evalE] <;> rfl
@[simp] theorem x_con (w : W) : evalE g (.con w) σ h = .ok w h := by rw [evalE]
@[simp] theorem x_glo (x : Str) (w : W) : evalE g (.glo x w) σ h = .ok w h := by rw [evalE]
@[simp] theorem x_bin (op a b) : evalE g (.bin op a b) σ h = (evalE g a σ h).bind fun x h1 => (evalE g b σ h1).bind fun y h2 => binW op x y h2 := by rw [evalE]
@[simp] theorem x_neg (a) : evalE g (.neg a) σ h = (evalE g a σ h).bind fun x h1 => (match x with
    | .int i => .ok (.int (-i)) h1
    | _ => .stuck) := by rw [evalE] <;> rfl
@[simp] theorem x_cmp (op a b) : evalE g (.cmp op a b) σ h = (evalE g a σ h).bind fun x h1 => (evalE g b σ h1).bind fun y h2 => cmpW op x y h2 := by rw [evalE]
@[simp] theorem x_not (a) : evalE g (.not a) σ h = (evalE g a σ h).bind fun x h1 => (match x with
    | .bl b => .ok (.bl (!b)) h1
    | _ => .stuck) := by rw [evalE] <;> rfl
@[simp] theorem x_and (cs) : evalE g (.and cs) σ h = evalAnd g cs σ h := by rw [evalE]
@[simp] theorem x_or (cs) : evalE g (.or cs) σ h = evalOr g cs σ h := by rw [evalE]
@[simp] theorem x_ife (t a b) : evalE g (.ife t a b) σ h = (evalT g t σ h).bind fun c h1 => if c then evalE g a σ h1 else evalE g b σ h1 := by rw [evalE]
@[simp] theorem x_sub (a i) : evalE g (.sub a i) σ h = (evalE g a σ h).bind fun x h1 => (evalE g i σ h1).bind fun y h2 => subR g x y h2 := by rw [evalE] <;> rfl
@[simp] theorem x_slc (a lo hi) : evalE g (.slc a lo hi) σ h = (evalE g a σ h).bind fun x h1 => (evalP g lo σ h1).bind fun l h2 => (evalP g hi σ h2).bind fun u h3 => slcR g.sc x l u h3 := by rw [evalE]
@[simp] theorem x_tup (cs) : evalE g (.tup cs) σ h = (evalEs g cs σ h).bind fun ws h1 => if szOk ws.length then .ok (.tup ws) h1 else .stuck := by rw [evalE]
@[simp] theorem x_lst (cs) : evalE g (.lst cs) σ h = (evalEs g cs σ h).bind fun ws h1 => if szOk ws.length then .ok (.loc h1.length) (h1 ++ [.lst ws]) else .stuck := by rw [evalE]
@[simp] theorem x_call (f cs ks kcs) : evalE g (.call f cs ks kcs) σ h = (evalEs g cs σ h).bind fun ws h1 => (evalEs g kcs σ h1).bind fun kws h2 => callW g f ws ks kws h2 := by rw [evalE]
@[simp] theorem x_new (c cs ks kcs) : evalE g (.new c cs ks kcs) σ h = (evalEs g cs σ h).bind fun ws h1 => (evalEs g kcs σ h1).bind fun kws h2 => newW g c ws ks kws h2 := by rw [evalE]
@[simp] theorem x_meth (m o cs ks kcs) : evalE g (.meth m o cs ks kcs) σ h = (evalE g o σ h).bind fun x h0 => (match methL g m x h0 with
    | some f => (evalEs g cs σ h0).bind fun ws h1 => (evalEs g kcs σ h1).bind fun kws h2 => callW g f (x :: ws) ks kws h2
    | none => .stuck) := by rw [evalE] <;> rfl
@[simp] theorem x_attr (o f) : evalE g (.attr o f) σ h = (evalE g o σ h).bind fun x h1 => attrW g x f h1 := by rw [evalE]
@[simp] theorem x_prim (p cs) : evalE g (.prim p cs) σ h = (evalEs g cs σ h).bind fun ws h1 => primW g p ws h1 := by rw [evalE]
@[simp] theorem x_primc (p c) : evalE g (.primc p c) σ h = (evalL g c σ h).bind fun ws h1 => primL p ws h1 := by rw [evalE]
@[simp] theorem x_bm (m o c cs) : evalE g (.bm m o (c :: cs)) σ h = (evalE g o σ h).bind fun x h1 => if bmT m x h1 then (evalEs g (c :: cs) σ h1).bind fun ws h2 => bmW m x ws h2 else .stuck := by rw [evalE]
@[simp] theorem x_bm0 (m o) : evalE g (.bm m o []) σ h = (evalE g o σ h).bind fun x h1 => if bmT m x h1 then bm0 m x h1 else .stuck := by rw [evalE]
@[simp] theorem x_bmc (m o c) : evalE g (.bmc m o c) σ h = (evalE g o σ h).bind fun x h1 => if bmT m x h1 then (evalL g c σ h1).bind fun ws h2 => bmL m x ws h2 else .stuck := by rw [evalE]
@[simp] theorem x_comp (own tg it ifs elt) : evalE g (.comp own tg it ifs elt) σ h = (evalL g (.comp own tg it ifs elt) σ h).bind fun ws h1 => .ok (.loc h1.length) (h1 ++ [.lst ws]) := by rw [evalE, evalL]
@[simp] theorem x_dict (cs) : evalE g (.dict cs) σ h = (evalEs g cs σ (h ++ [.dic []])).bind fun ws h1 => dispR h.length ws h1 := by rw [evalE]
@[simp] theorem x_primr (p cs) : evalE g (.primr p cs) σ h = (evalEs g cs σ h).bind fun ws h1 => rngP p ws h1 := by rw [evalE]
@[simp] theorem xt_val (c) : evalT g (.val c) σ h = (evalE g c σ h).bind fun x h1 => (match truW h1 x with
    | some b => .ok b h1
    | none => .stuck) := by rw [evalT] <;> rfl
@[simp] theorem xt_not (t) : evalT g (.not t) σ h = (evalT g t σ h).bind fun c h1 => .ok (!c) h1 := by rw [evalT]
@[simp] theorem xt_and (ts) : evalT g (.and ts) σ h = evalTA g ts σ h := by rw [evalT]
@[simp] theorem xt_or (ts) : evalT g (.or ts) σ h = evalTO g ts σ h := by rw [evalT]
@[simp] theorem xta_nil : evalTA g [] σ h = .ok true h := by rw [evalTA]
@[simp] theorem xta_cons (t ts) : evalTA g (t :: ts) σ h = (evalT g t σ h).bind fun c h1 => if c then evalTA g ts σ h1 else .ok false h1 := by rw [evalTA]
@[simp] theorem xto_nil : evalTO g [] σ h = .ok false h := by rw [evalTO]
@[simp] theorem xto_cons (t ts) : evalTO g (t :: ts) σ h = (evalT g t σ h).bind fun c h1 => if c then .ok true h1 else evalTO g ts σ h1 := by rw [evalTO]
@[simp] theorem xa_one (c) : evalAnd g [c] σ h = evalE g c σ h := by rw [evalAnd]
@[simp] theorem xa_cons (c c2 cs) : evalAnd g (c :: c2 :: cs) σ h = (evalE g c σ h).bind fun x h1 => (match x with
    | .bl true => evalAnd g (c2 :: cs) σ h1
    | .bl false => .ok (.bl false) h1
    | _ => .stuck) := by rw [evalAnd] <;> first | rfl | simp
@[simp] theorem xo_one (c) : evalOr g [c] σ h = evalE g c σ h := by rw [evalOr]
@[simp] theorem xo_cons (c c2 cs) : evalOr g (c :: c2 :: cs) σ h = (evalE g c σ h).bind fun x h1 => (match x with
    | .bl false => evalOr g (c2 :: cs) σ h1
    | .bl true => .ok (.bl true) h1
    | _ => .stuck) := by rw [evalOr] <;> first | rfl | simp
@[simp] theorem xs_nil : evalEs g [] σ h = .ok [] h := by rw [evalEs]
@[simp] theorem xs_cons (c cs) : evalEs g (c :: cs) σ h = (evalE g c σ h).bind fun w h1 => (evalEs g cs σ h1).bind fun ws h2 => .ok (w :: ws) h2 := by rw [evalEs]
@[simp] theorem xp_nil : evalP g [] σ h = .ok none h := by rw [evalP]
@[simp] theorem xp_cons (c cs) : evalP g (c :: cs) σ h = (evalE g c σ h).bind fun w h1 => (match w with
    | .int i => .ok (some i) h1
    | _ => .stuck) := by rw [evalP] <;> rfl
@[simp] theorem xi_nil : evalIf g [] σ h = .ok true h := by rw [evalIf]
@[simp] theorem xi_cons (t ts) : evalIf g (t :: ts) σ h = evalT g t σ h := by rw [evalIf]
@[simp] theorem xI_over (c) : evalI g (.over c) σ h = (evalE g c σ h).bind fun x h1 => (match overW g x h1 with
    | some s => .ok s h1
    | none => .stuck) := by rw [evalI] <;> rfl
@[simp] theorem xI_rng (cs) : evalI g (.rng cs) σ h = (evalEs g cs σ h).bind fun ws h1 => if ws.length = cs.length then rngR ws h1 else .stuck := by rw [evalI]
@[simp] theorem xI_enum (c) : evalI g (.enum c) σ h = (evalE g c σ h).bind fun x h1 => (match overW g x h1 with
    | some s => .ok ⟨enumFrom 0 s.items, s.held⟩ h1
    | none => .stuck) := by rw [evalI] <;> rfl
@[simp] theorem xI_zip (a b) : evalI g (.zip a b) σ h = (evalE g a σ h).bind fun x h1 => (evalE g b σ h1).bind fun y h2 => if isTup x = isTup y then (match overW g x h2, overW g y h2 with
    | some s, some t => .ok ⟨List.zipWith (fun u v => .tup [u, v]) s.items t.items, s.held ++ t.held⟩ h2
    | _, _ => .stuck) else .stuck := by rw [evalI] <;> rfl
@[simp] theorem xg_nm (i w) : asgT g (.nm i) w σ h = .ok (σ.set i (some w)) h := by rw [asgT]
@[simp] theorem xg_tp (ts ws) : asgT g (.tp ts) (.tup ws) σ h = if ws.length = ts.length then asgTs g ts ws σ h else .stuck := by rw [asgT]
@[simp] theorem xg_sub (o i w) : asgT g (.sub o i) w σ h = (evalE g o σ h).bind fun x h1 => (evalE g i σ h1).bind fun y h2 => (setI x y w h2).bind fun _ h3 => .ok σ h3 := by rw [asgT]
@[simp] theorem xg_attr (o f w) : asgT g (.attr o f) w σ h = (evalE g o σ h).bind fun x h1 => (setA g x f w h1).bind fun _ h2 => .ok σ h2 := by rw [asgT]
@[simp] theorem xgs_nil : asgTs g [] [] σ h = .ok σ h := by rw [asgTs]
@[simp] theorem xgs_cons (t ts w ws) : asgTs g (t :: ts) (w :: ws) σ h = (asgT g t w σ h).bind fun σ1 h1 => asgTs g ts ws σ1 h1 := by rw [asgTs]
@[simp] theorem st_asg (t e) : evalS g (.asg t e) σ h = (evalE g e σ h).then σ fun w h1 => (toNoExc (asgT g t w σ h1)).then σ fun σ1 h2 => .next σ1 h2 := by rw [evalS]
@[simp] theorem st_iff (t a b) : evalS g (.iff t a b) σ h = (evalT g t σ h).then σ fun c h1 => if c then evalSs g a σ h1 else evalSs g b σ h1 := by rw [evalS]
@[simp] theorem st_for (t it b) : evalS g (.for_ t it b) σ h = (evalI g it σ h).then σ fun src h1 => forLoop (forF g t b) src.held src.items σ h1 := by rw [evalS] <;> rfl
theorem st_whl (t b) : evalS g (.whl t b) σ h = whlLoop (fun σ1 h1 => evalT g t σ1 h1) (fun σ1 h1 => evalSs g b σ1 h1) g.gc.lim σ h := by rw [evalS]
@[simp] theorem st_augN (i op e) : evalS g (.aug (.nm i) op e) σ h = (match σ[i]? with
      | some (some x) => (evalE g e σ h).then σ fun y h1 => (match augW op x y with
        | some z => .next (σ.set i (some z)) h1
        | none => .stuck)
      | _ => .stuck) := by rw [evalS] <;> rfl
@[simp] theorem st_augS (o i op e) : evalS g (.aug (.sub o i) op e) σ h = ((evalE g o σ h).then σ fun x h1 => (evalE g i σ h1).then σ fun y h2 => (subW x y h2).then σ fun v h3 => (evalE g e σ h3).then σ fun u h4 => (match augW op v u with
      | some z => (setI x y z h4).then σ fun _ h5 => .next σ h5
      | none => .stuck)) := by rw [evalS] <;> rfl
@[simp] theorem st_del (o i) : evalS g (.del o i) σ h = (evalE g o σ h).then σ fun x h1 => (evalE g i σ h1).then σ fun y h2 => (delI x y h2).then σ fun _ h3 => .next σ h3 := by rw [evalS]
@[simp] theorem st_raiseF (c f e) : evalS g (.raise c [f] [e]) σ h = if raiPre g.gc c [f] then (evalE g e σ h).then σ fun w h1 => if W.flats [w] && raiOk g.gc c [f] [w] then .exc c [f] [w] σ h1 else .stuck else .stuck := by
  rw [evalS]
  split
  · rw [evalEs]
    cases evalE g e σ h <;> simp [evalEs]
  · rfl
@[simp] theorem aug_add (i j : Int) : augW .add (.int i) (.int j) = some (.int (i + j)) := Eq.trans rfl rfl
@[simp] theorem aug_sub (i j : Int) : augW .sub (.int i) (.int j) = some (.int (i - j)) := Eq.trans rfl rfl
@[simp] theorem st_ret (e) : evalS g (.ret e) σ h = (evalE g e σ h).then σ fun w h1 => .ret w h1 := by rw [evalS]
@[simp] theorem st_retn : evalS g .retn σ h = .ret .non h := by rw [evalS]
@[simp] theorem st_ex (e) : evalS g (.ex e) σ h = (evalE g e σ h).then σ fun _ h1 => .next σ h1 := by rw [evalS]
@[simp] theorem st_pass : evalS g .pass σ h = .next σ h := by rw [evalS]
@[simp] theorem st_brk : evalS g .brk σ h = .brk σ h := by rw [evalS]
@[simp] theorem st_cont : evalS g .cont σ h = .cont σ h := by rw [evalS]
@[simp] theorem st_try (b hd) : evalS g (.try_ b hd) σ h = (match evalSs g b σ h with
    | .exc c xs ws σ1 h1 => hdW g hd c xs ws σ1 h1
    | o => o) := by rw [evalS] <;> rfl
@[simp] theorem st_raise0 (c) : evalS g (.raise c [] []) σ h = if c ∈ g.gc.rais then .exc c [] [] σ h else .stuck := by
  rw [evalS]
  simp [W.flats, raiPre, raiOk]
@[simp] theorem ss_nil' : evalSs g [] σ h = .next σ h := by rw [evalSs]
@[simp] theorem ss_one (s) : evalSs g [s] σ h = evalS g s σ h := by
  rw [evalSs]
  cases evalS g s σ h <;> simp
theorem ss_cons' (s ss) : evalSs g (s :: ss) σ h = (evalS g s σ h).seq fun σ1 h1 => evalSs g ss σ1 h1 := by rw [evalSs]
@[simp] theorem noexc_ok {α : Type} (a : α) : toNoExc (.ok a h) = .ok a h := Eq.trans rfl rfl
@[simp] theorem b_add (i j : Int) : binW .add (.int i) (.int j) h = .ok (.int (i + j)) h := Eq.trans rfl rfl
@[simp] theorem b_sub (i j : Int) : binW .sub (.int i) (.int j) h = .ok (.int (i - j)) h := Eq.trans rfl rfl
@[simp] theorem b_mul (i j : Int) : binW .mul (.int i) (.int j) h = if mulOk i j then .ok (.int (i * j)) h else .stuck := Eq.trans rfl rfl
@[simp] theorem b_fdiv (i j : Int) : binW .fdiv (.int i) (.int j) h = if fdivOk j then .ok (.int (i / j)) h else .stuck := Eq.trans rfl rfl
@[simp] theorem b_mod (i j : Int) : binW .mod (.int i) (.int j) h = if 0 < j then .ok (.int (i % j)) h else .stuck := Eq.trans rfl rfl
@[simp] theorem b_pow (i j : Int) : binW .pow (.int i) (.int j) h = if powOk i j then .ok (.int (i ^ j.toNat)) h else .stuck := Eq.trans rfl rfl
@[simp] theorem b_addL (l m : Nat) : binW .add (.loc l) (.loc m) h = (match h[l]?, h[m]? with
    | some (.lst a), some (.lst b) => if szOk (a.length + b.length) then .ok (.loc h.length) (h ++ [.lst (a ++ b)]) else .stuck
    | _, _ => .stuck) := Eq.trans rfl rfl
@[simp] theorem c_lt (i j : Int) : cmpW .lt (.int i) (.int j) h = .ok (.bl (decide (i < j))) h := Eq.trans rfl rfl
@[simp] theorem c_le (i j : Int) : cmpW .le (.int i) (.int j) h = .ok (.bl (decide (i ≤ j))) h := Eq.trans rfl rfl
@[simp] theorem c_gt (i j : Int) : cmpW .gt (.int i) (.int j) h = .ok (.bl (decide (j < i))) h := Eq.trans rfl rfl
@[simp] theorem c_ge (i j : Int) : cmpW .ge (.int i) (.int j) h = .ok (.bl (decide (j ≤ i))) h := Eq.trans rfl rfl
@[simp] theorem c_eqI (i j : Int) : cmpW .eq (.int i) (.int j) h = .ok (.bl (decide (i = j))) h := by
  show optR (eqW h (.int i) (.int j)) id h = _
  have : eqW h (.int i) (.int j) = some (decide (i = j)) := by
    unfold eqW eqD
    simp [toD, toDf, shp, SeqAt.shaped, PyData.eqv]
    exact ⟨⟨⟨rfl, Nat.le_of_ble_eq_true rfl⟩, rfl, Nat.le_of_ble_eq_true rfl⟩, rfl⟩
  rw [this]
  rfl
theorem callF_loc {gc : Gc} {sc : List Int} {m f : Nat} {d : DefC} {ws : List W} (hd : gc.defs[f]? = some d) (hl : ws.length = d.ps.length) (hf : W.flats ws = false) : callF gc sc (m + 1) f ws h = runBody ⟨gc, sc, callF gc sc m⟩ d ws h := by
  rw [callF, hd]
  simp [hl, hf]
theorem callF_flat {gc : Gc} {sc : List Int} {m f : Nat} {d : DefC} {ws : List W} {w : W} {h2 : AH} (hd : gc.defs[f]? = some d) (hl : ws.length = d.ps.length) (hf : W.flats ws = true) (hw : W.flat w = true) (e : runBody ⟨gc, sc, callF gc sc m⟩ d ws [] = .ok w h2) : callF gc sc (m + 1) f ws h = .ok w h := by
  rw [callF, hd]
  simp only [hl, hf, if_true, e]
  unfold pull
  split
  · cases hw
  · rw [if_pos hw]
theorem callF_exc {gc : Gc} {sc : List Int} {m f : Nat} {d : DefC} {ws : List W} {c : Nat} {h2 : AH} (hd : gc.defs[f]? = some d) (hl : ws.length = d.ps.length) (hf : W.flats ws = true) (e : runBody ⟨gc, sc, callF gc sc m⟩ d ws [] = .exc c [] [] h2) : callF gc sc (m + 1) f ws h = .exc c [] [] h := by
  rw [callF, hd]
  simp only [hl, hf, if_true, e]
  rfl
theorem callF_list {gc : Gc} {sc : List Int} {m f : Nat} {d : DefC} {ws us : List W} {l : Nat} {h2 : AH} (hd : gc.defs[f]? = some d) (hl : ws.length = d.ps.length) (hf : W.flats ws = true) (e : runBody ⟨gc, sc, callF gc sc m⟩ d ws [] = .ok (.loc l) h2) (e2 : h2[l]? = some (.lst us)) (hu : W.flats us = true) :
    callF gc sc (m + 1) f ws h = .ok (.loc h.length) (h ++ [.lst us]) := by
  rw [callF, hd]
  simp only [hl, hf, if_true, e]
  unfold pull
  simp [e2, hu]
theorem ixN_of {i : Int} (k : Nat) (hi : 0 ≤ i) : L2.ixN k i = if i.toNat < k then some i.toNat else none := by
  unfold L2.ixN
  rw [if_pos hi]
  by_cases hk : i.toNat < k
  · rw [if_pos hk, if_pos (by omega)]
  · rw [if_neg hk, if_neg (by omega)]
theorem atI_of {α : Type} {i : Int} (xs : List α) (hi : 0 ≤ i) : L2.atI xs i = xs[i.toNat]? := by
  unfold L2.atI
  rw [ixN_of _ hi]
  by_cases hk : i.toNat < xs.length
  · rw [if_pos hk]
    rfl
  · rw [if_neg hk, List.getElem?_eq_none (by omega)]
    rfl
theorem atI_nat {α : Type} (xs : List α) (n : Nat) : L2.atI xs (n : Int) = xs[n]? := by
  rw [atI_of xs (by omega)]
  simp
@[simp] theorem atI_0 {α : Type} (xs : List α) : L2.atI xs 0 = xs[0]? := atI_of xs (by decide)
@[simp] theorem ixN_0 (k : Nat) : L2.ixN k 0 = if 0 < k then some 0 else none := ixN_of k (by decide)
@[simp] theorem atI_1 {α : Type} (xs : List α) : L2.atI xs 1 = xs[1]? := atI_of xs (by decide)
@[simp] theorem ixN_1 (k : Nat) : L2.ixN k 1 = if 1 < k then some 1 else none := ixN_of k (by decide)
@[simp] theorem atI_2 {α : Type} (xs : List α) : L2.atI xs 2 = xs[2]? := atI_of xs (by decide)
@[simp] theorem ixN_2 (k : Nat) : L2.ixN k 2 = if 2 < k then some 2 else none := ixN_of k (by decide)
@[simp] theorem atI_3 {α : Type} (xs : List α) : L2.atI xs 3 = xs[3]? := atI_of xs (by decide)
@[simp] theorem ixN_3 (k : Nat) : L2.ixN k 3 = if 3 < k then some 3 else none := ixN_of k (by decide)
@[simp] theorem atI_4 {α : Type} (xs : List α) : L2.atI xs 4 = xs[4]? := atI_of xs (by decide)
@[simp] theorem ixN_4 (k : Nat) : L2.ixN k 4 = if 4 < k then some 4 else none := ixN_of k (by decide)
@[simp] theorem atI_5 {α : Type} (xs : List α) : L2.atI xs 5 = xs[5]? := atI_of xs (by decide)
@[simp] theorem ixN_5 (k : Nat) : L2.ixN k 5 = if 5 < k then some 5 else none := ixN_of k (by decide)
@[simp] theorem atI_6 {α : Type} (xs : List α) : L2.atI xs 6 = xs[6]? := atI_of xs (by decide)
@[simp] theorem ixN_6 (k : Nat) : L2.ixN k 6 = if 6 < k then some 6 else none := ixN_of k (by decide)
@[simp] theorem atI_7 {α : Type} (xs : List α) : L2.atI xs 7 = xs[7]? := atI_of xs (by decide)
@[simp] theorem ixN_7 (k : Nat) : L2.ixN k 7 = if 7 < k then some 7 else none := ixN_of k (by decide)
@[simp] theorem atI_8 {α : Type} (xs : List α) : L2.atI xs 8 = xs[8]? := atI_of xs (by decide)
@[simp] theorem ixN_8 (k : Nat) : L2.ixN k 8 = if 8 < k then some 8 else none := ixN_of k (by decide)
@[simp] theorem atI_9 {α : Type} (xs : List α) : L2.atI xs 9 = xs[9]? := atI_of xs (by decide)
@[simp] theorem ixN_9 (k : Nat) : L2.ixN k 9 = if 9 < k then some 9 else none := ixN_of k (by decide)
@[simp] theorem atI_10 {α : Type} (xs : List α) : L2.atI xs 10 = xs[10]? := atI_of xs (by decide)
@[simp] theorem ixN_10 (k : Nat) : L2.ixN k 10 = if 10 < k then some 10 else none := ixN_of k (by decide)
@[simp] theorem atI_11 {α : Type} (xs : List α) : L2.atI xs 11 = xs[11]? := atI_of xs (by decide)
@[simp] theorem ixN_11 (k : Nat) : L2.ixN k 11 = if 11 < k then some 11 else none := ixN_of k (by decide)
@[simp] theorem atI_12 {α : Type} (xs : List α) : L2.atI xs 12 = xs[12]? := atI_of xs (by decide)
@[simp] theorem ixN_12 (k : Nat) : L2.ixN k 12 = if 12 < k then some 12 else none := ixN_of k (by decide)
/-! reading and writing -/
theorem rd_lst {l : Nat} {ws : List W} {i : Int} {w : W} (hl : h[l]? = some (.lst ws)) (hw : L2.atI ws i = some w) : subR g (.loc l) (.int i) h = .ok w h := by
  show (match h[l]? with
    | some (.lst ws) => (match L2.atI ws i with
      | some w => Res.ok w h
      | none => .stuck)
    | some (.dic kvs) => dicR kvs (.int i) h
    | _ => .stuck) = _
  simp only [hl, hw]
theorem rd_tup {ws : List W} {i : Int} {w : W} (hw : L2.atI ws i = some w) : subR g (.tup ws) (.int i) h = .ok w h := by
  show (match L2.atI ws i with
      | some w => Res.ok w h
      | none => .stuck) = _
  simp only [hw]
theorem rd_scr {i : Int} {n : Int} (hw : L2.atI g.sc i = some n) : subR g .scr (.int i) h = .ok (.int n) h := by
  show (match L2.atI g.sc i with
      | some n => Res.ok (W.int n) h
      | none => .stuck) = _
  simp only [hw]
theorem wr_lst {l j : Nat} {ws : List W} {i : Int} {w : W} (hl : h[l]? = some (.lst ws)) (hw : L2.ixN ws.length i = some j) : setI (.loc l) (.int i) w h = .ok () (h.set l (.lst (ws.set j w))) := by
  show (match h[l]? with
    | some (.lst xs) => (match L2.ixN xs.length i with
      | some j => Res.ok () (h.set l (.lst (xs.set j w)))
      | none => .stuck)
    | some (.dic kvs) => dicS l kvs (.int i) w h
    | _ => .stuck) = _
  simp only [hl, hw]
/-! dicts -/
theorem rd_dic {l : Nat} {kvs : List (W × W)} {kw w : W} (hl : h[l]? = some (.dic kvs)) (ok : dicOk kvs kw = true) (hw : dicGet kvs kw = some w) : subR g (.loc l) kw h = .ok w h := by
  have e : subR g (.loc l) kw h = dicR kvs kw h := by
    show subW (.loc l) kw h = _
    unfold subW
    cases kw <;> simp [hl]
  rw [e]
  unfold dicR
  rw [if_pos ok, hw]
theorem sub_dic {l : Nat} {kvs : List (W × W)} {kw w : W} (hl : h[l]? = some (.dic kvs)) (ok : dicOk kvs kw = true) (hw : dicGet kvs kw = some w) : subW (.loc l) kw h = .ok w h := by
  have e : subW (.loc l) kw h = dicR kvs kw h := by
    unfold subW
    cases kw <;> simp [hl]
  rw [e]
  unfold dicR
  rw [if_pos ok, hw]
theorem wr_dic {l : Nat} {kvs : List (W × W)} {kw w : W} (hl : h[l]? = some (.dic kvs)) (ok : dicOk kvs kw = true) (hz : kvs.length < 1000000) : setI (.loc l) kw w h = .ok () (h.set l (.dic (dicPut kvs kw w))) := by
  have e : setI (.loc l) kw w h = dicS l kvs kw w h := by
    unfold setI
    cases kw <;> simp [hl]
  rw [e]
  unfold dicS
  simp [ok, hz]
theorem del_dic {l : Nat} {kvs : List (W × W)} {kw : W} (hl : h[l]? = some (.dic kvs)) (ok : dicOkS kvs kw = true) (hg : (dicGet kvs kw).isSome = true) : delI (.loc l) kw h = .ok () (h.set l (.dic (dicDel kvs kw))) := by
  simp [delI, hl, ok, hg]
theorem in_dic {l : Nat} {kvs : List (W × W)} {kw : W} (hl : h[l]? = some (.dic kvs)) (ok : dicOk kvs kw = true) : cmpW .in_ kw (.loc l) h = .ok (.bl (dicGet kvs kw).isSome) h := by
  simp [cmpW, inW, hl, ok, optR]
theorem nin_dic {l : Nat} {kvs : List (W × W)} {kw : W} (hl : h[l]? = some (.dic kvs)) (ok : dicOk kvs kw = true) : cmpW .nin kw (.loc l) h = .ok (.bl (!(dicGet kvs kw).isSome)) h := by
  simp [cmpW, inW, hl, ok, optR]
theorem get2_dic {l : Nat} {kvs : List (W × W)} {kw d : W} (hl : h[l]? = some (.dic kvs)) (ok : dicOk kvs kw = true) : bmW .get2 (.loc l) [kw, d] h = .ok ((dicGet kvs kw).getD d) h := by
  simp [bmW, hl, ok]
theorem setd_dic {l : Nat} {kvs : List (W × W)} {kw d : W} (hl : h[l]? = some (.dic kvs)) (ok : dicOk kvs kw = true) (hz : kvs.length < 1000000) : bmW .setdefault (.loc l) [kw, d] h = (match dicGet kvs kw with
      | some w => .ok w h
      | none => .ok d (h.set l (.dic (dicPut kvs kw d)))) := by
  simp [bmW, hl, ok, hz] <;> rfl
theorem pop_dic {l : Nat} {kvs : List (W × W)} {kw w : W} (hl : h[l]? = some (.dic kvs)) (ok : dicOkS kvs kw = true) (hg : dicGet kvs kw = some w) : bmW .pop1 (.loc l) [kw] h = .ok w (h.set l (.dic (dicDel kvs kw))) := by
  simp [bmW, hl, ok, hg]
theorem bmt_dic {m : Bm} (hm : m = .get2 ∨ m = .setdefault ∨ m = .pop1) {l : Nat} {kvs : List (W × W)} (hl : h[l]? = some (.dic kvs)) : bmT m (.loc l) h = true := by
  rcases hm with rfl | rfl | rfl <;> simp [bmT, hl]
@[simp] theorem pr_int (i : Int) : primW g .int [.int i] h = .ok (.int i) h := Eq.trans rfl rfl
@[simp] theorem pr_abs (i : Int) : primW g .abs [.int i] h = .ok (.int (if i < 0 then -i else i)) h := Eq.trans rfl rfl
@[simp] theorem pr_max (i j : Int) : primW g .max2 [.int i, .int j] h = .ok (.int (if j > i then j else i)) h := Eq.trans rfl rfl
@[simp] theorem pr_min (i j : Int) : primW g .min2 [.int i, .int j] h = .ok (.int (if j < i then j else i)) h := Eq.trans rfl rfl
@[simp] theorem pr_lenT (xs : List W) : primW g .len [.tup xs] h = .ok (.int xs.length) h := Eq.trans rfl rfl
@[simp] theorem pr_lenS : primW g .len [.scr] h = .ok (.int g.sc.length) h := Eq.trans rfl rfl
theorem pr_lenL {l : Nat} {ws : List W} (hl : h[l]? = some (.lst ws)) : primW g .len [.loc l] h = .ok (.int ws.length) h := by
  show (match h[l]? with
    | some (.lst xs) => Res.ok (W.int xs.length) h
    | some (.dic kvs) => .ok (.int kvs.length) h
    | _ => .stuck) = _
  simp only [hl]
theorem pr_lenD {l : Nat} {kvs : List (W × W)} (hl : h[l]? = some (.dic kvs)) : primW g .len [.loc l] h = .ok (.int kvs.length) h := by
  show (match h[l]? with
    | some (.lst xs) => Res.ok (W.int xs.length) h
    | some (.dic kvs) => .ok (.int kvs.length) h
    | _ => .stuck) = _
  simp only [hl]
@[simp] theorem pr_tupT (xs : List W) : primW g .tuple [.tup xs] h = .ok (.tup xs) h := Eq.trans rfl rfl
theorem pr_tupL {l : Nat} {ws : List W} (hl : h[l]? = some (.lst ws)) : primW g .tuple [.loc l] h = .ok (.tup ws) h := by
  show (match h[l]? with
    | some (.lst xs) => Res.ok (W.tup xs) h
    | _ => .stuck) = _
  simp only [hl]
@[simp] theorem tr_bl (b : Bool) : truW h (.bl b) = some b := Eq.trans rfl rfl
@[simp] theorem tr_non : truW h .non = some false := Eq.trans rfl rfl
@[simp] theorem tr_int (i : Int) : truW h (.int i) = some (i != 0) := Eq.trans rfl rfl
theorem fdiv_ok {j : Int} (h1 : 0 < j) (h2 : j < 2 ^ 64) : fdivOk j = true := by
  unfold fdivOk bigI
  simp only [Bool.and_eq_true, decide_eq_true_eq]
  refine ⟨h1, ?_⟩
  have h3 : j.natAbs < 2 ^ 64 := by omega
  have h4 : j.natAbs ≠ 0 := by omega
  have := (Nat.log2_lt h4).mpr h3
  omega
theorem mul_okL {i j : Int} (h1 : i.natAbs < 2 ^ 64) : mulOk i j = true := by
  unfold mulOk
  simp [h1]
theorem mul_okR {i j : Int} (h1 : j.natAbs < 2 ^ 64) : mulOk i j = true := by
  unfold mulOk
  simp [h1]
theorem get_lt' {l : Nat} {o : O} (hl : h[l]? = some o) : l < h.length := (List.getElem?_eq_some_iff.mp hl).1
end
end AM
/-! Loops by invariants; frames. -/
namespace AM
open PySem
theorem compLoop_inv {f : W → AH → Res (Option W)} {held : List (Nat × List W)} (Iv : AH → Prop) (P : W → Prop) (hh : ∀ h, Iv h → heldOk held h = true) : ∀ (ws : List W), (∀ w ∈ ws, ∀ h, Iv h → ∃ y h', f w h = .ok (some y) h' ∧ Iv h' ∧ P y) → ∀ h, Iv h →
    ∃ ys h', compLoop f held ws h = .ok ys h' ∧ Iv h' ∧ ys.length = ws.length ∧ ∀ y ∈ ys, P y
  | [], _, h, iv => ⟨[], h, by unfold compLoop; rw [if_pos (hh h iv)], iv, rfl, fun _ z => nomatch z⟩
  | w :: ws, hf, h, iv => by
    obtain ⟨y, h1, e1, iv1, p1⟩ := hf w List.mem_cons_self h iv
    obtain ⟨ys, h2, e2, iv2, l2, p2⟩ := compLoop_inv Iv P hh ws (fun w' hw => hf w' (List.mem_cons_of_mem _ hw)) h1 iv1
    refine ⟨y :: ys, h2, ?_, iv2, by simp [l2], fun z hz => ?_⟩
    · unfold compLoop
      rw [if_pos (hh h iv), e1]
      show (compLoop f held ws h1).bind _ = _
      rw [e2]
      rfl
    · rcases List.mem_cons.mp hz with rfl | hz
      · exact p1
      · exact p2 z hz
/-- with a filter, by a function of the items -/
theorem compLoop_map {f : W → AH → Res (Option W)} {held : List (Nat × List W)} {h : AH} (F : W → Option W) (hh : heldOk held h = true) : ∀ (ws : List W), (∀ w ∈ ws, f w h = .ok (F w) h) → compLoop f held ws h = .ok (ws.filterMap F) h
  | [], _ => by unfold compLoop; rw [if_pos hh]; rfl
  | w :: ws, hf => by
    unfold compLoop
    rw [if_pos hh, hf w List.mem_cons_self]
    show (compLoop f held ws h).bind _ = _
    rw [compLoop_map F hh ws fun w' hw => hf w' (List.mem_cons_of_mem _ hw)]
    show Res.ok _ _ = Res.ok _ _
    rw [List.filterMap_cons]
    cases F w <;> rfl
theorem forLoop_inv {f : W → St → AH → Out} {held : List (Nat × List W)} (Iv : Nat → St → AH → Prop) : ∀ (ws : List W) (n : Nat), (∀ i (hi : i < ws.length) σ h, Iv (n + i) σ h → ∃ σ' h', (f ws[i] σ h = .next σ' h' ∨ f ws[i] σ h = .cont σ' h') ∧ Iv (n + i + 1) σ' h') → (∀ i σ h, Iv i σ h → heldOk held h = true) → ∀ σ h, Iv n σ h →
    ∃ σ' h', forLoop f held ws σ h = .next σ' h' ∧ Iv (n + ws.length) σ' h'
  | [], n, _, hh, σ, h, iv => ⟨σ, h, by unfold forLoop; rw [if_pos (hh _ _ _ iv)], iv⟩
  | w :: ws, n, hf, hh, σ, h, iv => by
    obtain ⟨σ1, h1, e1, iv1⟩ := hf 0 (Nat.succ_pos _) σ h iv
    obtain ⟨σ2, h2, e2, iv2⟩ := forLoop_inv Iv ws (n + 1) (fun i hi σ h iv => by
      have := hf (i + 1) (by simpa using hi) σ h (by rw [show n + (i + 1) = n + 1 + i by omega]; exact iv)
      rw [show n + (i + 1) = n + 1 + i by omega] at this
      simpa using this) hh σ1 h1 iv1
    refine ⟨σ2, h2, ?_, by rw [List.length_cons, show n + (ws.length + 1) = n + 1 + ws.length by omega]; exact iv2⟩
    unfold forLoop
    rw [if_pos (hh _ _ _ iv)]
    have e1 : f w σ h = .next σ1 h1 ∨ f w σ h = .cont σ1 h1 := e1
    rcases e1 with e1 | e1
    · rw [e1]
      exact e2
    · rw [e1]
      exact e2
/-! frames -/
/-- all but the places of S stay -/
structure Fr (S : List Nat) (h h' : AH) : Prop where
  len : h.length ≤ h'.length
  at_ : ∀ i, i < h.length → i ∉ S → h'[i]? = h[i]?
theorem Fr.refl {S : List Nat} {h : AH} : Fr S h h := ⟨Nat.le_refl _, fun _ _ _ => rfl⟩
theorem Fr.trans {S : List Nat} {h h1 h2 : AH} (a : Fr S h h1) (b : Fr S h1 h2) : Fr S h h2 := ⟨Nat.le_trans a.len b.len, fun i hi hs => (b.at_ i (Nat.lt_of_lt_of_le hi a.len) hs).trans (a.at_ i hi hs)⟩
theorem Fr.mono {S S' : List Nat} {h h' : AH} (a : Fr S h h') (hs : ∀ i ∈ S, i ∈ S') : Fr S' h h' := ⟨a.len, fun i hi hn => a.at_ i hi fun z => hn (hs i z)⟩
theorem Fr.app {S : List Nat} {h t : AH} : Fr S h (h ++ t) := ⟨by simp, fun i hi _ => by rw [List.getElem?_append_left hi]⟩
theorem Fr.set {S : List Nat} {h : AH} {l : Nat} {o : O} (hl : l ∈ S) : Fr S h (h.set l o) := ⟨by simp, fun i hi hn => by rw [List.getElem?_set_ne (fun z => hn (by rw [← z]; exact hl))]⟩
theorem Fr.get {S : List Nat} {h h' : AH} {i : Nat} {o : O} (a : Fr S h h') (e : h[i]? = some o) (hn : i ∉ S) : h'[i]? = some o := by
  rw [a.at_ i (List.getElem?_eq_some_iff.mp e).1 hn]
  exact e
/-- a well of three ints -/
def Well (h : AH) (l : Nat) : Prop := ∃ a b c : Int, h[l]? = some (.lst [.int a, .int b, .int c])
theorem Well.fr {S : List Nat} {h h' : AH} {l : Nat} (w : Well h l) (a : Fr S h h') (hn : l ∉ S) : Well h' l := by
  obtain ⟨x, y, z, e⟩ := w
  exact ⟨x, y, z, a.get e hn⟩
theorem Well.lt {h : AH} {l : Nat} (w : Well h l) : l < h.length := by
  obtain ⟨x, y, z, e⟩ := w
  exact (List.getElem?_eq_some_iff.mp e).1
theorem xl_comp (g : Ev) (σ : St) (h : AH) (own tg it ifs elt) : evalL g (.comp own tg it ifs elt) σ h = compW (evalI g it σ h) (fun w h2 => asgT g tg w (wipeA σ (own.map (·.2))) h2) (fun σ2 h3 => evalIf g ifs σ2 h3) (fun σ2 h4 => evalE g elt σ2 h4) := by rw [evalL]
theorem compW_ok {itf : Res Src} {asg : W → AH → Res St} {iff : St → AH → Res Bool} {elt : St → AH → Res W} {src : Src} {h1 h2 : AH} {ws : List W} (e : itf = .ok src h1)
    (e2 : compLoop (fun w h2 => (asg w h2).bind fun σ2 h3 => (iff σ2 h3).bind fun c h4 => if c then (elt σ2 h4).bind fun y h5 => .ok (some y) h5 else .ok none h4) src.held src.items h1 = .ok ws h2) (hz : ws.length ≤ 1000000) : compW itf asg iff elt = .ok ws h2 := by
  rw [compW_eq, e]
  show (toNoExc (compLoop _ src.held src.items h1)).bind _ = _
  rw [e2]
  show (if szOk ws.length then Res.ok ws h2 else .stuck) = _
  rw [if_pos (show szOk ws.length = true from decide_eq_true hz)]
theorem rngW_len {j : Int} : (rngW 0 j).length = j.toNat := by
  unfold rngW
  simp
theorem rngW_mem {j : Int} {w : W} (h : w ∈ rngW 0 j) : ∃ i : Nat, w = .int i ∧ (i : Int) < j := by
  unfold rngW at h
  rw [List.mem_map] at h
  obtain ⟨i, hi, rfl⟩ := h
  rw [List.mem_range] at hi
  refine ⟨i, by simp, by omega⟩
@[simp] theorem rng1 (j : Int) (h : AH) : rngR [.int j] h = if rngOk j then .ok ⟨rngW 0 j, []⟩ h else .stuck := Eq.trans rfl rfl
theorem rng_ok {j : Int} (h1 : 0 ≤ j) (h2 : j ≤ 1000000) : rngOk j = true := by
  unfold rngOk
  simp only [Bool.and_eq_true, decide_eq_true_eq]
  omega
theorem held_nil {h : AH} : heldOk [] h = true := rfl
theorem comp_ok (g : Ev) (Iv : AH → Prop) (P : W → Prop) {own : List (Str × Nat)} {tg : Tg} {it : It} {elt : C} {σ : St} {h h1 : AH} {src : Src} (e : evalI g it σ h = .ok src h1) (iv : Iv h1) (hh : ∀ h, Iv h → heldOk src.held h = true) (hz : src.items.length ≤ 1000000)
    (turn : ∀ w ∈ src.items, ∀ h, Iv h → ∃ σ2 y h', asgT g tg w (wipeA σ (own.map (·.2))) h = .ok σ2 h ∧ evalE g elt σ2 h = .ok y h' ∧ Iv h' ∧ P y) :
    ∃ ys h2, evalL g (.comp own tg it [] elt) σ h = .ok ys h2 ∧ Iv h2 ∧ ys.length = src.items.length ∧ ∀ y ∈ ys, P y := by
  obtain ⟨ys, h2, e1, e2, e3, e4⟩ := compLoop_inv (f := fun w h2 => (asgT g tg w (wipeA σ (own.map (·.2))) h2).bind fun σ2 h3 => (evalIf g [] σ2 h3).bind fun c h4 => if c then (evalE g elt σ2 h4).bind fun y h5 => .ok (some y) h5 else .ok none h4) Iv P hh src.items (fun w hw h iv => by
    obtain ⟨σ2, y, h', a1, a2, a3, a4⟩ := turn w hw h iv
    exact ⟨y, h', by simp [a1, a2], a3, a4⟩) h1 iv
  exact ⟨ys, h2, by rw [xl_comp]; exact compW_ok e e1 (by rw [e3]; exact hz), e2, e3, e4⟩
/-- .. where nothing changes -/
theorem comp_map (g : Ev) (F : W → Option W) {own : List (Str × Nat)} {tg : Tg} {it : It} {ifs : List T} {elt : C} {σ : St} {h h1 : AH} {src : Src} (e : evalI g it σ h = .ok src h1) (hh : heldOk src.held h1 = true) (hz : src.items.length ≤ 1000000)
    (turn : ∀ w ∈ src.items, ∃ σ2 c, asgT g tg w (wipeA σ (own.map (·.2))) h1 = .ok σ2 h1 ∧ evalIf g ifs σ2 h1 = .ok c h1 ∧ (c = true → ∃ y, F w = some y ∧ evalE g elt σ2 h1 = .ok y h1) ∧ (c = false → F w = none)) :
    evalL g (.comp own tg it ifs elt) σ h = .ok (src.items.filterMap F) h1 := by
  rw [xl_comp]
  refine compW_ok e (compLoop_map F hh _ fun w hw => ?_) (Nat.le_trans (List.length_filterMap_le _ _) hz)
  obtain ⟨σ2, c, a1, a2, a3, a4⟩ := turn w hw
  rw [a1]
  simp only [Res.bind_ok, a2]
  cases c with
  | true =>
    obtain ⟨y, b1, b2⟩ := a3 rfl
    simp [b1, b2]
  | false => simp [a4 rfl]
@[simp] theorem pl_tuple (ws : List W) (h : AH) : primL .tuple ws h = .ok (.tup ws) h := Eq.trans rfl rfl
theorem comp_okN (g : Ev) (Iv : AH → Prop) (P : W → Prop) {own : List (Str × Nat)} {i : Nat} {it : It} {elt : C} {σ : St} {h h1 : AH} {src : Src} (e : evalI g it σ h = .ok src h1) (iv : Iv h1) (hh : ∀ h, Iv h → heldOk src.held h = true) (hz : src.items.length ≤ 1000000)
    (turn : ∀ w ∈ src.items, ∀ h, Iv h → ∃ y h', evalE g elt ((wipeA σ (own.map (·.2))).set i (some w)) h = .ok y h' ∧ Iv h' ∧ P y) :
    ∃ ys h2, evalL g (.comp own (.nm i) it [] elt) σ h = .ok ys h2 ∧ Iv h2 ∧ ys.length = src.items.length ∧ ∀ y ∈ ys, P y :=
  comp_ok g Iv P e iv hh hz fun w hw h iv => by
    obtain ⟨y, h', a, b, c⟩ := turn w hw h iv
    exact ⟨_, y, h', by rw [xg_nm], a, b, c⟩
/-! data -/
mutual
def datW : W → Bool
  | .non => true
  | .bl _ => true
  | .int _ => true
  | .str x => x.cps.all (· < 0x110000)
  | .tup ws => datWs ws
  | _ => false
def datWs : List W → Bool
  | [] => true
  | w :: ws => datW w && datWs ws
end
mutual
def depW : W → Nat
  | .tup ws => depWs ws + 1
  | _ => 0
def depWs : List W → Nat
  | [] => 0
  | w :: ws => max (depW w) (depWs ws)
end
mutual
theorem toDf_dat : ∀ (w : W), datW w = true → ∃ d, toDf w = some d ∧ d.canLay0 = true ∧ d.depth = depW w
  | .non, _ => ⟨_, rfl, rfl, rfl⟩
  | .bl _, _ => ⟨_, rfl, rfl, rfl⟩
  | .int _, _ => ⟨_, rfl, rfl, rfl⟩
  | .str x, h => ⟨_, rfl, by
      show PyData.strOk x = true
      unfold datW at h
      exact h, rfl⟩
  | .tup ws, h => by
    unfold datW at h
    obtain ⟨ds, e1, e2, e3⟩ := toDfs_dat ws h
    refine ⟨.tuple ds, by unfold toDf; rw [e1]; rfl, e2, ?_⟩
    unfold depW
    rw [← e3]
    rfl
  | .loc _, h => by cases h
  | .exo _ _ _, h => by cases h
  | .scr, h => by cases h
theorem toDfs_dat : ∀ (ws : List W), datWs ws = true → ∃ ds, toDfs ws = some ds ∧ PyData.canLayAll0 ds = true ∧ PyData.depthAll ds = depWs ws
  | [], _ => ⟨[], rfl, rfl, rfl⟩
  | w :: ws, h => by
    unfold datWs at h
    rw [Bool.and_eq_true] at h
    obtain ⟨d, a1, a2, a3⟩ := toDf_dat w h.1
    obtain ⟨ds, b1, b2, b3⟩ := toDfs_dat ws h.2
    refine ⟨d :: ds, by unfold toDfs; rw [a1, b1], ?_, ?_⟩
    · show (d.canLay0 && PyData.canLayAll0 ds) = true
      rw [a2, b2]
      rfl
    · show max d.depth (PyData.depthAll ds) = _
      unfold depWs
      rw [a3, b3]
end
theorem toD_dat {h : AH} {w : W} (e : datW w = true) : toD h w = toDf w := by
  cases w <;> first | rfl | cases e
theorem eqW_D {h : AH} {x y : W} (hx : ∀ s, x ≠ .str s) : eqW h x y = eqD h x y := by
  unfold eqW
  split
  · exact absurd rfl (hx _)
  · rfl
theorem eqW_self {h : AH} {w : W} (e : datW w = true) (d : depW w ≤ 64) : eqW h w w = some true := by
  obtain ⟨x, e1, e2, e3⟩ := toDf_dat w e
  have sh : shp x = true := by
    show (x.canLay0 && decide (x.depth ≤ 64)) = true
    rw [e2, e3, decide_eq_true d]
    rfl
  by_cases hs : ∃ s, w = .str s
  · obtain ⟨s, rfl⟩ := hs
    simp [eqW]
  rw [eqW_D fun s z => hs ⟨s, z⟩]
  unfold eqD
  rw [toD_dat e, e1]
  simp only [sh, Bool.and_self, if_true]
  rw [SeqAt.eqv_refl x e2]
theorem eqW_nil {h : AH} {ws : List W} (e : datWs ws = true) (d : depWs ws < 64) : eqW h (.tup ws) (.tup []) = some ws.isEmpty := by
  obtain ⟨ds, e1, e2, e3⟩ := toDfs_dat ws e
  have sh : shp (.tuple ds) = true := by
    show (PyData.canLayAll0 ds && decide (PyData.depthAll ds + 1 ≤ 64)) = true
    rw [e2, e3, decide_eq_true (show depWs ws + 1 ≤ 64 from d)]
    rfl
  have s2 : shp (.tuple []) = true := rfl
  have t1 : toD h (.tup ws) = some (.tuple ds) := by
    show toDf (.tup ws) = _
    unfold toDf
    rw [e1]
    rfl
  have t2 : toD h (.tup []) = some (.tuple []) := rfl
  rw [eqW_D fun s z => by cases z]
  unfold eqD
  rw [t1, t2]
  simp only [sh, s2, Bool.and_self, if_true]
  cases ws with
  | nil =>
    cases e1
    rfl
  | cons w ws =>
    unfold toDfs at e1
    split at e1
    · cases e1
      rfl
    · cases e1
theorem datWs_of : ∀ {ws : List W}, (∀ w ∈ ws, datW w = true) → datWs ws = true
  | [], _ => rfl
  | w :: ws, h => by
    unfold datWs
    rw [h w List.mem_cons_self, datWs_of fun w' hw => h w' (List.mem_cons_of_mem _ hw)]
    rfl
theorem depWs_of {n : Nat} : ∀ {ws : List W}, (∀ w ∈ ws, depW w ≤ n) → depWs ws ≤ n
  | [], _ => Nat.zero_le _
  | w :: ws, h => by
    unfold depWs
    have h1 := h w List.mem_cons_self
    have h2 := depWs_of fun w' hw => h w' (List.mem_cons_of_mem _ hw)
    omega
theorem flats_of : ∀ {ws : List W}, (∀ w ∈ ws, W.flat w = true) → W.flats ws = true
  | [], _ => rfl
  | w :: ws, h => by
    unfold W.flats
    rw [h w List.mem_cons_self, flats_of fun w' hw => h w' (List.mem_cons_of_mem _ hw)]
    rfl
theorem flats_int (is : List Int) : W.flats (is.map .int) = true := flats_of fun w hw => by
  obtain ⟨i, _, rfl⟩ := List.mem_map.mp hw
  rfl
theorem datWs_int (is : List Int) : datWs (is.map .int) = true := datWs_of fun w hw => by
  obtain ⟨i, _, rfl⟩ := List.mem_map.mp hw
  rfl
theorem depWs_int (is : List Int) : depWs (is.map .int) = 0 := Nat.le_zero.mp (depWs_of fun w hw => by
  obtain ⟨i, _, rfl⟩ := List.mem_map.mp hw
  exact Nat.le_refl _)
@[simp] theorem c_isnN (x : W) (h : AH) : cmpW .isn x .non h = .ok (.bl (decide (x = .non))) h := by
  show optR (isW x .non) id h = _
  have : isW x .non = some (decide (x = .non)) := by cases x <;> rfl
  rw [this]
  rfl
@[simp] theorem c_isntN (x : W) (h : AH) : cmpW .isnt x .non h = .ok (.bl (!decide (x = .non))) h := by
  show optR (isW x .non) not h = _
  have : isW x .non = some (decide (x = .non)) := by cases x <;> rfl
  rw [this]
  rfl
theorem c_eq {x y : W} {h : AH} {b : Bool} (e : eqW h x y = some b) : cmpW .eq x y h = .ok (.bl b) h := by
  show optR (eqW h x y) id h = _
  rw [e]
  rfl
theorem c_ne {x y : W} {h : AH} {b : Bool} (e : eqW h x y = some b) : cmpW .ne x y h = .ok (.bl (!b)) h := by
  show optR (eqW h x y) not h = _
  rw [e]
  rfl
/-! heaps at their end -/
@[simp] theorem get_app0 (h t : AH) : (h ++ t)[h.length]? = t[0]? := by
  rw [List.getElem?_append_right (Nat.le_refl _), Nat.sub_self]
@[simp] theorem get_appi (h t : AH) (i : Nat) : (h ++ t)[h.length + i]? = t[i]? := by
  rw [List.getElem?_append_right (Nat.le_add_right _ _), Nat.add_sub_cancel_left]
@[simp] theorem set_app0 (h t : AH) (o : O) : (h ++ t).set h.length o = h ++ t.set 0 o := by
  rw [List.set_append_right _ _ (Nat.le_refl _), Nat.sub_self]
@[simp] theorem set_appi (h t : AH) (o : O) (i : Nat) : (h ++ t).set (h.length + i) o = h ++ t.set i o := by
  rw [List.set_append_right _ _ (Nat.le_add_right _ _), Nat.add_sub_cancel_left]
theorem setA_top {g : Ev} {c : Nat} {cl : ClsC} (hc : g.gc.clss.lookup c = some cl) (f : Str) (hf : f ∈ cl.flds) (h t : AH) (v : W) (fs : List (Str × W)) (hz : fs.length < 1000) : setA g (.loc h.length) f v (h ++ .ins c fs :: t) = .ok () (h ++ .ins c (putA f v fs) :: t) := by
  unfold setA
  simp [hc, hf, hz]
theorem setA_at {g : Ev} {c l : Nat} {cl : ClsC} (hc : g.gc.clss.lookup c = some cl) (f : Str) (hf : f ∈ cl.flds) {h : AH} (v : W) {fs : List (Str × W)} (hl : h[l]? = some (.ins c fs)) (hz : fs.length < 1000) : setA g (.loc l) f v h = .ok () (h.set l (.ins c (putA f v fs))) := by
  unfold setA
  simp [hc, hf, hz, hl]
theorem attr_at {g : Ev} {c l : Nat} {cl : ClsC} (hc : g.gc.clss.lookup c = some cl) (f : Str) (hf : f ∈ cl.flds) (hp : cl.props.lookup f = none) {h : AH} {fs : List (Str × W)} (hl : h[l]? = some (.ins c fs)) {w : W} (hw : fs.lookup f = some w) : attrW g (.loc l) f h = .ok w h := by
  unfold attrW
  simp [hc, hf, hp, hl, hw]
theorem prop_at {g : Ev} {c l p : Nat} {cl : ClsC} (hc : g.gc.clss.lookup c = some cl) (f : Str) (hp : cl.props.lookup f = some p) {h : AH} {fs : List (Str × W)} (hl : h[l]? = some (.ins c fs)) : attrW g (.loc l) f h = toNoExc (g.cf p [.loc l] h) := by
  unfold attrW
  simp [hc, hp, hl]
theorem meth_at {g : Ev} {c l p : Nat} {cl : ClsC} (hc : g.gc.clss.lookup c = some cl) (f : Str) (hp : cl.meths.lookup f = some p) {h : AH} {fs : List (Str × W)} (hl : h[l]? = some (.ins c fs)) (hn : fs.lookup f = none) : methL g f (.loc l) h = some p := by
  unfold methL
  simp [hc, hp, hl, hn]
theorem new_at {g : Ev} {c f : Nat} {cl : ClsC} (hc : g.gc.clss.lookup c = some cl) (hf : cl.init = f) {ws kws : List W} {ks : List Str} {h h2 : AH} (e : callW g f (.loc h.length :: ws) ks kws (h ++ [.ins c []]) = .ok .non h2) : newW g c ws ks kws h = .ok (.loc h.length) h2 := by
  unfold newW
  rw [hc]
  dsimp only
  rw [hf, e]
  simp
@[simp] theorem c_eqB (a b : Bool) (h : AH) : cmpW .eq (.bl a) (.bl b) h = .ok (.bl (a == b)) h := c_eq rfl
@[simp] theorem c_neB (a b : Bool) (h : AH) : cmpW .ne (.bl a) (.bl b) h = .ok (.bl (!(a == b))) h := c_ne rfl
/-- items one by one, told by their number -/
theorem compLoop_idx {f : W → AH → Res (Option W)} {held : List (Nat × List W)} (Iv : Nat → AH → Prop) (P : W → Prop) (hh : ∀ n h, Iv n h → heldOk held h = true) : ∀ (ws : List W) (n : Nat), (∀ i (hi : i < ws.length) h, Iv (n + i) h → ∃ y h', f ws[i] h = .ok (some y) h' ∧ Iv (n + i + 1) h' ∧ P y) → ∀ h, Iv n h →
    ∃ ys h', compLoop f held ws h = .ok ys h' ∧ Iv (n + ws.length) h' ∧ ys.length = ws.length ∧ ∀ y ∈ ys, P y
  | [], n, _, h, iv => ⟨[], h, by unfold compLoop; rw [if_pos (hh n h iv)], iv, rfl, fun _ z => nomatch z⟩
  | w :: ws, n, hf, h, iv => by
    obtain ⟨y, h1, e1, iv1, p1⟩ := hf 0 (Nat.succ_pos _) h iv
    obtain ⟨ys, h2, e2, iv2, l2, p2⟩ := compLoop_idx Iv P hh ws (n + 1) (fun i hi h iv => by
      have := hf (i + 1) (by simpa using hi) h (by rw [show n + (i + 1) = n + 1 + i by omega]; exact iv)
      rw [show n + (i + 1) = n + 1 + i by omega] at this
      simpa using this) h1 iv1
    refine ⟨y :: ys, h2, ?_, by rw [List.length_cons, show n + (ws.length + 1) = n + 1 + ws.length by omega]; exact iv2, by simp [l2], fun z hz => ?_⟩
    · unfold compLoop
      have e1 : f w h = .ok (some y) h1 := e1
      rw [if_pos (hh n h iv), e1]
      show (compLoop f held ws h1).bind _ = _
      rw [e2]
      rfl
    · rcases List.mem_cons.mp hz with rfl | hz
      · exact p1
      · exact p2 z hz
theorem comp_idx (g : Ev) (Iv : Nat → AH → Prop) (P : W → Prop) {own : List (Str × Nat)} {i : Nat} {it : It} {elt : C} {σ : St} {h h1 : AH} {src : Src} (e : evalI g it σ h = .ok src h1) (iv : Iv 0 h1) (hh : ∀ n h, Iv n h → heldOk src.held h = true) (hz : src.items.length ≤ 1000000)
    (turn : ∀ j (hj : j < src.items.length) h, Iv j h → ∃ y h', evalE g elt ((wipeA σ (own.map (·.2))).set i (some src.items[j])) h = .ok y h' ∧ Iv (j + 1) h' ∧ P y) :
    ∃ ys h2, evalL g (.comp own (.nm i) it [] elt) σ h = .ok ys h2 ∧ Iv src.items.length h2 ∧ ys.length = src.items.length ∧ ∀ y ∈ ys, P y := by
  obtain ⟨ys, h2, e1, e2, e3, e4⟩ := compLoop_idx (f := fun w h2 => (asgT g (.nm i) w (wipeA σ (own.map (·.2))) h2).bind fun σ2 h3 => (evalIf g [] σ2 h3).bind fun c h4 => if c then (evalE g elt σ2 h4).bind fun y h5 => .ok (some y) h5 else .ok none h4) Iv P hh src.items 0 (fun j hj h iv => by
    rw [Nat.zero_add] at iv
    obtain ⟨y, h', a1, a2, a3⟩ := turn j hj h iv
    rw [Nat.zero_add]
    exact ⟨y, h', by simp [a1], a2, a3⟩) h1 iv
  rw [Nat.zero_add] at e2
  exact ⟨ys, h2, by rw [xl_comp]; exact compW_ok e e1 (by rw [e3]; exact hz), e2, e3, e4⟩
/-! great numbers -/
theorem log2_lt {n k : Nat} (h : n < 2 ^ k) (hk : 0 < k) : n.log2 < k := by
  by_cases hn : n = 0
  · subst hn
    rw [Nat.log2_zero]
    exact hk
  · exact (Nat.log2_lt hn).mpr h
theorem powOk_of {i n : Int} (N k : Nat) (h0 : 0 ≤ i) (h1 : i ≤ N) (h2 : Nat.ble (N + 1) (2 ^ k) = true) (hk : 0 < k) (hn : 0 ≤ n) (hz : ((k : Int) + 1) * n ≤ 134217728) : powOk i n = true := by
  unfold powOk
  have h3 : bigI i < k := by
    unfold bigI
    exact log2_lt (Nat.lt_of_lt_of_le (show i.natAbs < N + 1 by omega) (Nat.le_of_ble_eq_true h2)) hk
  rw [Bool.and_eq_true, decide_eq_true_eq, decide_eq_true_eq]
  refine ⟨hn, Int.le_trans (Int.mul_le_mul_of_nonneg_right ?_ hn) hz⟩
  omega
theorem strI_ok {i : Int} (k : Nat) (h1 : i.natAbs < 2 ^ k) (hk : 0 < k) (hz : k ≤ 1920) : strI i = some (Str.ofString (toString i)) := by
  unfold strI
  rw [if_pos (decide_eq_true (Nat.lt_of_lt_of_le (log2_lt h1 hk) hz))]
end AM
/-! What can be shown; the texts' lemmas. -/
namespace AM
open PySem
mutual
def wtW : W → Nat
  | .str x => x.cps.size
  | .tup ws => wtWs ws
  | .int i => if i == 0 then 0 else i.natAbs.log2 + 1
  | _ => 0
def wtWs : List W → Nat
  | [] => 0
  | w :: ws => wtW w + 1 + wtWs ws
end
mutual
/-- data of small numbers -/
def smW : W → Bool
  | .non => true
  | .bl _ => true
  | .int i => decide (i.natAbs < 10 ^ 12)
  | .str x => x.cps.all (· < 0x110000)
  | .tup ws => smWs ws
  | _ => false
def smWs : List W → Bool
  | [] => true
  | w :: ws => smW w && smWs ws
end
theorem cps_short {x : Str} (h : x.cps.all (· < 0x110000) = true) : (x.cps.toList.all fun c => decide (c < 16 ^ 8)) = true := by
  rw [List.all_eq_true]
  intro c hc
  rw [Array.all_eq_true_iff_forall_mem] at h
  have := h c (by simpa using hc)
  simp only [decide_eq_true_eq] at this ⊢
  exact Nat.lt_trans this (by decide)
mutual
theorem smW_ok : ∀ (w : W), smW w = true → ∃ d, toDf w = some d ∧ d.showable = true ∧ d.hasDict = false ∧ d.leavesShort 13 = true ∧ d.weight = wtW w ∧ d.depth = depW w ∧ d.canLay0 = true
  | .non, _ => ⟨_, rfl, rfl, rfl, rfl, rfl, rfl, rfl⟩
  | .bl _, _ => ⟨_, rfl, rfl, rfl, rfl, rfl, rfl, rfl⟩
  | .int i, h => by
    unfold smW at h
    have h := of_decide_eq_true h
    refine ⟨_, rfl, ?_, rfl, ?_, rfl, rfl, rfl⟩
    · unfold PyData.showable
      rw [decide_eq_true_eq]
      exact Nat.lt_of_lt_of_le (log2_lt (k := 40) (Nat.lt_trans h (by decide)) (by decide)) (by decide)
    · unfold PyData.leavesShort
      rw [decide_eq_true_eq]
      exact PyData.shown_int_le h
  | .str x, h => by
    unfold smW at h
    refine ⟨_, rfl, rfl, rfl, ?_, rfl, rfl, h⟩
    unfold PyData.leavesShort
    exact cps_short h
  | .tup ws, h => by
    unfold smW at h
    obtain ⟨ds, e, h1, h2, h3, h4, h5, h6⟩ := smWs_ok ws h
    refine ⟨.tuple ds, by unfold toDf; rw [e]; rfl, h1, h2, h3, h4, ?_, h6⟩
    unfold depW
    rw [← h5]
    rfl
  | .loc _, h => by cases h
  | .exo _ _ _, h => by cases h
  | .scr, h => by cases h
theorem smWs_ok : ∀ (ws : List W), smWs ws = true → ∃ ds, toDfs ws = some ds ∧ PyData.showableAll ds = true ∧ PyData.hasDictAll ds = false ∧ PyData.leavesShortAll 13 ds = true ∧ PyData.weightAll ds = wtWs ws ∧ PyData.depthAll ds = depWs ws ∧ PyData.canLayAll0 ds = true
  | [], _ => ⟨[], rfl, rfl, rfl, rfl, rfl, rfl, rfl⟩
  | w :: ws, h => by
    unfold smWs at h
    rw [Bool.and_eq_true] at h
    obtain ⟨d, a, a1, a2, a3, a4, a5, a6⟩ := smW_ok w h.1
    obtain ⟨ds, b, b1, b2, b3, b4, b5, b6⟩ := smWs_ok ws h.2
    refine ⟨d :: ds, by unfold toDfs; rw [a, b], ?_, ?_, ?_, ?_, ?_, ?_⟩
    · show (d.showable && PyData.showableAll ds) = true
      rw [a1, b1]
      rfl
    · show (d.hasDict || PyData.hasDictAll ds) = false
      rw [a2, b2]
      rfl
    · show (d.leavesShort 13 && PyData.leavesShortAll 13 ds) = true
      rw [a3, b3]
      rfl
    · show d.weight + 1 + PyData.weightAll ds = _
      unfold wtWs
      rw [a4, b4]
    · show max d.depth (PyData.depthAll ds) = _
      unfold depWs
      rw [a5, b5]
    · show (d.canLay0 && PyData.canLayAll0 ds) = true
      rw [a6, b6]
      rfl
end
theorem reprD_sm {ws : List W} (h : smWs ws = true) (hw : wtWs ws ≤ 2 ^ 20) (hd : depWs ws ≤ 59) (f : List PyData → PyData) (hf : f = .tuple ∨ f = .list) : ∃ s, (toDfs ws).bind (fun ds => reprD (f ds)) = some s := by
  obtain ⟨ds, e, h1, h2, h3, h4, h5, h6⟩ := smWs_ok ws h
  rw [e]
  have k1 : (f ds).showable = true := by rcases hf with rfl | rfl <;> exact h1
  have k2 : (f ds).hasDict = false := by rcases hf with rfl | rfl <;> exact h2
  have k3 : (f ds).depth ≤ 60 := by
    have : (f ds).depth = depWs ws + 1 := by rcases hf with rfl | rfl <;> (rw [← h5]; rfl)
    omega
  have k4 : (f ds).shown.length ≤ sizeLine := by
    refine PyData.shown_fits (B := 13) (by decide) (by decide) ?_ ?_
    · rcases hf with rfl | rfl <;> exact h3
    · have : (f ds).weight = wtWs ws := by rcases hf with rfl | rfl <;> exact h4
      omega
  refine ⟨(f ds).shown, ?_⟩
  show reprD (f ds) = _
  unfold reprD
  rw [k1, k2, decide_eq_true k3, decide_eq_true k4]
  rfl
/-- the text of a list, of a tuple, of small data -/
theorem repr_tup {ws : List W} (h : smWs ws = true) (hw : wtWs ws ≤ 2 ^ 20) (hd : depWs ws ≤ 59) : ∃ s, ∀ hp, reprW hp (.tup ws) = some s := by
  obtain ⟨s, e⟩ := reprD_sm h hw hd .tuple (.inl rfl)
  refine ⟨s, fun hp => ?_⟩
  rw [← e]
  show (toDf (.tup ws)).bind reprD = _
  unfold toDf
  cases toDfs ws <;> rfl
theorem repr_lst {ws : List W} (h : smWs ws = true) (hw : wtWs ws ≤ 2 ^ 20) (hd : depWs ws ≤ 59) : ∃ s, ∀ hp l, hp[l]? = some (.lst ws) → reprW hp (.loc l) = some s := by
  obtain ⟨s, e⟩ := reprD_sm h hw hd .list (.inr rfl)
  refine ⟨s, fun hp l hl => ?_⟩
  rw [← e]
  show (toD hp (.loc l)).bind reprD = _
  have : toD hp (.loc l) = (toDfs ws).map .list := by
    unfold toD
    simp only [hl]
  rw [this]
  cases toDfs ws <;> rfl
theorem repr_int {i : Int} (h : i.natAbs < 2 ^ 1000) : ∃ s, ∀ hp, reprW hp (.int i) = some s := ⟨_, fun _ => strI_ok 1000 h (by decide) (by decide)⟩
@[simp] theorem c_eqS (a b : Str) (h : AH) : cmpW .eq (.str a) (.str b) h = .ok (.bl (decide (a = b))) h := c_eq (b := decide (a = b)) (by unfold eqW; rfl)
@[simp] theorem c_neS (a b : Str) (h : AH) : cmpW .ne (.str a) (.str b) h = .ok (.bl (!decide (a = b))) h := c_ne (b := decide (a = b)) (by unfold eqW; rfl)
theorem pr_repr {g : Ev} {x : W} {h : AH} {s : Str} (e : reprW h x = some s) : primW g .repr [x] h = .ok (.str s) h := by
  show (match reprW h x with
    | some y => Res.ok (W.str y) h
    | none => .stuck) = _
  rw [e]
theorem smWs_of : ∀ {ws : List W}, (∀ w ∈ ws, smW w = true) → smWs ws = true
  | [], _ => rfl
  | w :: ws, h => by
    unfold smWs
    rw [h w List.mem_cons_self, smWs_of fun w' hw => h w' (List.mem_cons_of_mem _ hw)]
    rfl
theorem wtWs_of {n : Nat} : ∀ {ws : List W}, (∀ w ∈ ws, wtW w ≤ n) → wtWs ws ≤ (n + 1) * ws.length
  | [], _ => Nat.zero_le _
  | w :: ws, h => by
    unfold wtWs
    have h1 := h w List.mem_cons_self
    have h2 := wtWs_of fun w' hw => h w' (List.mem_cons_of_mem _ hw)
    rw [List.length_cons, Nat.mul_add, Nat.mul_one]
    omega
theorem wt_int {i : Int} (k : Nat) (h : i.natAbs < 2 ^ k) (hk : 0 < k) : wtW (.int i) ≤ k := by
  unfold wtW
  split
  · exact Nat.zero_le _
  · exact log2_lt h hk
mutual
theorem dat_sm : ∀ {w : W}, smW w = true → datW w = true
  | .non, _ => rfl
  | .bl _, _ => rfl
  | .int _, _ => rfl
  | .str _, h => h
  | .tup ws, h => by
    unfold smW at h
    unfold datW
    exact dats_sm h
  | .loc _, h => by cases h
  | .exo _ _ _, h => by cases h
  | .scr, h => by cases h
theorem dats_sm : ∀ {ws : List W}, smWs ws = true → datWs ws = true
  | [], _ => rfl
  | w :: ws, h => by
    unfold smWs at h
    rw [Bool.and_eq_true] at h
    unfold datWs
    rw [dat_sm h.1, dats_sm h.2]
    rfl
end
mutual
theorem flat_sm : ∀ {w : W}, smW w = true → W.flat w = true
  | .non, _ => rfl
  | .bl _, _ => rfl
  | .int _, _ => rfl
  | .str _, _ => rfl
  | .tup ws, h => by
    unfold smW at h
    unfold W.flat
    exact flats_sm h
  | .loc _, h => by cases h
  | .exo _ _ _, h => by cases h
  | .scr, h => by cases h
theorem flats_sm : ∀ {ws : List W}, smWs ws = true → W.flats ws = true
  | [], _ => rfl
  | w :: ws, h => by
    unfold smWs at h
    rw [Bool.and_eq_true] at h
    unfold W.flats
    rw [flat_sm h.1, flats_sm h.2]
    rfl
end
theorem ofString_inj {a b : String} (h : Str.ofString a = Str.ofString b) : a = b := by
  rw [Str.ofString_eq_toList, Str.ofString_eq_toList] at h
  have h1 : a.toList.map Char.toNat = b.toList.map Char.toNat := by
    have := congrArg (fun x : Str => x.cps.toList) h
    simpa using this
  have inj : ∀ {l m : List Char}, l.map Char.toNat = m.map Char.toNat → l = m := by
    intro l
    induction l with
    | nil =>
      intro m h
      cases m with
      | nil => rfl
      | cons _ _ => cases h
    | cons x l ih =>
      intro m h
      cases m with
      | nil => cases h
      | cons y m =>
        rw [List.map_cons, List.map_cons, List.cons.injEq] at h
        have hc : x = y := Char.ext (UInt32.toNat_inj.mp h.1)
        rw [hc, ih h.2]
  exact String.toList_inj.mp (inj h1)
@[simp] theorem ofString_eq (a b : String) : (Str.ofString a = Str.ofString b) = (a = b) := propext ⟨ofString_inj, fun e => by rw [e]⟩
@[simp] theorem pr_intB (g : Ev) (b : Bool) (h : AH) : primW g .int [.bl b] h = .ok (.int (if b then 1 else 0)) h := Eq.trans rfl rfl
@[simp] theorem c_neI (i j : Int) (h : AH) : cmpW .ne (.int i) (.int j) h = .ok (.bl (!decide (i = j))) h := by
  have e := c_eqI h i j
  have e2 : eqW h (.int i) (.int j) = some (decide (i = j)) := by
    have e : optR (eqW h (.int i) (.int j)) id h = .ok (.bl (decide (i = j))) h := e
    revert e
    cases eqW h (.int i) (.int j) with
    | none => exact fun z => by cases z
    | some b =>
      intro z
      have : b = decide (i = j) := by
        unfold optR at z
        simpa using z
      rw [this]
  exact c_ne e2
theorem sIx_at (n d : Nat) {i : Int} (hi : 0 ≤ i) : HT.sIx n d (some i) = min i.toNat n := by
  show (if i < 0 then (i + (n : Int)).toNat else min i.toNat n) = _
  rw [if_neg (by omega)]
theorem cut_to {α : Type} (xs : List α) {i : Int} (hi : 0 ≤ i) : cutW xs none (some i) = xs.take i.toNat := by
  unfold cutW
  rw [HT.sIx_none, sIx_at _ _ hi, List.drop_zero, Nat.sub_zero]
  by_cases h : i.toNat ≤ xs.length
  · rw [Nat.min_eq_left h]
  · rw [Nat.min_eq_right (by omega), List.take_of_length_le (Nat.le_refl _), List.take_of_length_le (by omega)]
theorem cut_from {α : Type} (xs : List α) {i : Int} (hi : 0 ≤ i) : cutW xs (some i) none = xs.drop i.toNat := by
  unfold cutW
  rw [HT.sIx_none, sIx_at _ _ hi]
  by_cases h : i.toNat ≤ xs.length
  · rw [Nat.min_eq_left h, List.take_of_length_le (by rw [List.length_drop]; omega)]
  · rw [Nat.min_eq_right (by omega), List.drop_of_length_le (Nat.le_refl _), List.drop_of_length_le (by omega)]
    simp
theorem slc_tup (ns : List Int) (ws : List W) (lo hi : Option Int) (h : AH) : slcR ns (.tup ws) lo hi h = .ok (.tup (cutW ws lo hi)) h := rfl
theorem slc_lst (ns : List Int) {ws : List W} (lo hi : Option Int) {h : AH} {l : Nat} (hl : h[l]? = some (.lst ws)) : slcR ns (.loc l) lo hi h = .ok (.loc h.length) (h ++ [.lst (cutW ws lo hi)]) := by
  show (match h[l]? with
    | some (.lst ws) => Res.ok (W.loc h.length) (h ++ [O.lst (cutW ws lo hi)])
    | _ => .stuck) = _
  rw [hl]
theorem add_tup (a b : List W) {h : AH} (hz : a.length + b.length ≤ 1000000) : binW .add (.tup a) (.tup b) h = .ok (.tup (a ++ b)) h := by
  show (if szOk (a.length + b.length) then Res.ok (W.tup (a ++ b)) h else .stuck) = _
  rw [if_pos (show szOk _ = true from decide_eq_true hz)]
theorem add_lst {a b : List W} {l m : Nat} {h : AH} (hl : h[l]? = some (.lst a)) (hm : h[m]? = some (.lst b)) (hz : a.length + b.length ≤ 1000000) : binW .add (.loc l) (.loc m) h = .ok (.loc h.length) (h ++ [.lst (a ++ b)]) := by
  rw [b_addL]
  simp only [hl, hm]
  rw [if_pos (show szOk _ = true from decide_eq_true hz)]
/-- one item is put in the place of another -/
theorem splice {α : Type} (xs : List α) (i : Nat) (x : α) (hi : i < xs.length) : xs.take i ++ x :: xs.drop (i + 1) = xs.set i x := by
  rw [List.set_eq_take_append_cons_drop, if_pos hi]
theorem fl_next {f : W → St → AH → Out} {held : List (Nat × List W)} {w : W} {ws : List W} {σ σ1 : St} {h h1 : AH} (hh : heldOk held h = true) (e : f w σ h = .next σ1 h1) : forLoop f held (w :: ws) σ h = forLoop f held ws σ1 h1 := by
  rw [forLoop, if_pos hh, e]
theorem fl_nil {f : W → St → AH → Out} {held : List (Nat × List W)} {σ : St} {h : AH} (hh : heldOk held h = true) : forLoop f held [] σ h = .next σ h := by
  rw [forLoop, if_pos hh]
theorem Fr.drop {S T : List Nat} {h t h' : AH} (a : Fr T (h ++ t) h') (q : ∀ i ∈ T, i ∈ S ∨ h.length ≤ i) : Fr S h h' := by
  refine ⟨Nat.le_trans (by simp) a.len, fun i hi hs => ?_⟩
  rw [a.at_ i (by rw [List.length_append]; omega) fun z => ?_, List.getElem?_append_left hi]
  rcases q i z with z | z
  · exact hs z
  · omega
theorem Fr.drop1 {S : List Nat} {h h' : AH} {o : O} (a : Fr (h.length :: S) (h ++ [o]) h') : Fr S h h' := a.drop fun i hi => by
  rcases List.mem_cons.mp hi with rfl | hi
  · exact .inr (Nat.le_refl _)
  · exact .inl hi
theorem callW_kw {g : Ev} {f : Nat} {d : DefC} {ws kws vs : List W} {k : Str} {ks : List Str} {is : List Nat} {h : AH} (hd : g.gc.defs[f]? = some d) (hl : kws.length = (k :: ks).length) (hk : decide ((f, ws.length, k :: ks) ∈ g.gc.kws) = true) (hp : permOf d.ps ws.length (k :: ks) = some is) (hv : pick (ws ++ kws) is = some vs) :
    callW g f ws (k :: ks) kws h = g.cf f vs h := by
  unfold callW
  simp only [hd, hl, hk, decide_true, Bool.and_self, if_true, hp, Option.bind_some, hv]
theorem app_lst {l : Nat} {xs : List W} {w : W} {h : AH} (hl : h[l]? = some (.lst xs)) (hz : xs.length < 1000000) : bmW .append (.loc l) [w] h = .ok .non (h.set l (.lst (xs ++ [w]))) := by
  show (match h[l]? with
    | some (.lst xs) => if xs.length < 1000000 then Res.ok W.non (h.set l (O.lst (xs ++ [w]))) else .stuck
    | _ => .stuck) = _
  rw [hl]
  exact if_pos hz
theorem bmt_lst {m : Bm} (hm : m = .append ∨ m = .extend ∨ m = .pop0) {l : Nat} {xs : List W} {h : AH} (hl : h[l]? = some (.lst xs)) : bmT m (.loc l) h = true := by
  rcases hm with rfl | rfl | rfl <;> simp [bmT, hl]
theorem ext_lst {l : Nat} {xs ws : List W} {h : AH} (hl : h[l]? = some (.lst xs)) (hz : xs.length + ws.length ≤ 1000000) : bmL .extend (.loc l) ws h = .ok .non (h.set l (.lst (xs ++ ws))) := by
  show (match h[l]? with
    | some (.lst xs) => if szOk (xs.length + ws.length) then Res.ok W.non (h.set l (O.lst (xs ++ ws))) else .stuck
    | _ => .stuck) = _
  rw [hl]
  exact if_pos (show szOk _ = true from decide_eq_true hz)
theorem ext_loc {l b : Nat} {xs ws : List W} {h : AH} (hl : h[l]? = some (.lst xs)) (hb : h[b]? = some (.lst ws)) (hz : xs.length + ws.length ≤ 1000000) : bmW .extend (.loc l) [.loc b] h = .ok .non (h.set l (.lst (xs ++ ws))) := by
  show (match h[l]?, h[b]? with
    | some (.lst xs), some (.lst ys) => if szOk (xs.length + ys.length) then Res.ok W.non (h.set l (O.lst (xs ++ ys))) else .stuck
    | _, _ => .stuck) = _
  rw [hl, hb]
  exact if_pos (show szOk _ = true from decide_eq_true hz)
theorem tup_lst {g : Ev} {l : Nat} {xs : List W} {h : AH} (hl : h[l]? = some (.lst xs)) : primW g .tuple [.loc l] h = .ok (.tup xs) h := by
  show (match h[l]? with
    | some (.lst xs) => Res.ok (W.tup xs) h
    | _ => .stuck) = _
  rw [hl]
end AM
/-! Loops by what they carry; summaries; data in a heap. -/
namespace AM
open PySem
theorem get_set {h : AH} {l : Nat} {o o' : O} (hl : h[l]? = some o') : (h.set l o)[l]? = some o := by
  rw [List.getElem?_set_self (get_lt' h hl)]
theorem get_set_ne {h : AH} {l i : Nat} {o o' : O} (hi : h[i]? = some o') (hn : l ≠ i) : (h.set l o)[i]? = some o' := by
  rw [List.getElem?_set_ne hn]
  exact hi
section
variable {α β : Type} {f : W → St → AH → Out} {held : List (Nat × List W)}
/-- a for over what stands for xs, and what it carries -/
theorem forLoop_enc (e : β → W) (R : α → St → AH → Prop) (g : α → β → α) (hh : ∀ a σ h, R a σ h → heldOk held h = true) : ∀ (xs : List β), (∀ x ∈ xs, ∀ a σ h, R a σ h → ∃ σ' h', (f (e x) σ h = .next σ' h' ∨ f (e x) σ h = .cont σ' h') ∧ R (g a x) σ' h') → ∀ a σ h, R a σ h →
    ∃ σ' h', forLoop f held (xs.map e) σ h = .next σ' h' ∧ R (xs.foldl g a) σ' h'
  | [], _, a, σ, h, r => ⟨σ, h, by rw [List.map_nil]; exact fl_nil (hh _ _ _ r), r⟩
  | x :: xs, hf, a, σ, h, r => by
    obtain ⟨σ1, h1, e1, r1⟩ := hf x List.mem_cons_self a σ h r
    obtain ⟨σ2, h2, e2, r2⟩ := forLoop_enc e R g hh xs (fun y hy => hf y (List.mem_cons_of_mem _ hy)) _ σ1 h1 r1
    refine ⟨σ2, h2, ?_, r2⟩
    rw [List.map_cons, forLoop, if_pos (hh _ _ _ r)]
    rcases e1 with e1 | e1
    · rw [e1]
      exact e2
    · rw [e1]
      exact e2
/-- .. every turn with its place -/
theorem forLoop_at (e : β → W) (R : Nat → St → AH → Prop) (hh : ∀ a σ h, R a σ h → heldOk held h = true) : ∀ (xs : List β) (n : Nat), (∀ i (hi : i < xs.length) σ h, R (n + i) σ h → ∃ σ' h', (f (e xs[i]) σ h = .next σ' h' ∨ f (e xs[i]) σ h = .cont σ' h') ∧ R (n + i + 1) σ' h') → ∀ σ h, R n σ h →
    ∃ σ' h', forLoop f held (xs.map e) σ h = .next σ' h' ∧ R (n + xs.length) σ' h'
  | [], n, _, σ, h, r => ⟨σ, h, by rw [List.map_nil]; exact fl_nil (hh _ _ _ r), r⟩
  | x :: xs, n, hf, σ, h, r => by
    obtain ⟨σ1, h1, e1, r1⟩ := hf 0 (Nat.succ_pos _) σ h r
    obtain ⟨σ2, h2, e2, r2⟩ := forLoop_at e R hh xs (n + 1) (fun i hi σ h iv => by
      have := hf (i + 1) (by simpa using hi) σ h (by rw [show n + (i + 1) = n + 1 + i by omega]; exact iv)
      rw [show n + (i + 1) = n + 1 + i by omega] at this
      simpa using this) σ1 h1 r1
    refine ⟨σ2, h2, ?_, by rw [List.length_cons, show n + (xs.length + 1) = n + 1 + xs.length by omega]; exact r2⟩
    rw [List.map_cons, forLoop, if_pos (hh _ _ _ r)]
    have e1 : f (e x) σ h = .next σ1 h1 ∨ f (e x) σ h = .cont σ1 h1 := e1
    rcases e1 with e1 | e1
    · rw [e1]
      exact e2
    · rw [e1]
      exact e2
/-- a for that returns at the first item that has P -/
theorem forLoop_find (e : β → W) (P : β → Bool) (v : β → W) (R : St → AH → Prop) (Z : AH → Prop) (hh : ∀ σ h, R σ h → heldOk held h = true) : ∀ (xs : List β), (∀ x ∈ xs, ∀ σ h, R σ h → (P x = false ∧ ∃ σ' h', (f (e x) σ h = .next σ' h' ∨ f (e x) σ h = .cont σ' h') ∧ R σ' h') ∨ (P x = true ∧ ∃ h', f (e x) σ h = .ret (v x) h' ∧ Z h')) → ∀ σ h, R σ h →
    (∃ x, xs.find? P = some x ∧ ∃ h', forLoop f held (xs.map e) σ h = .ret (v x) h' ∧ Z h') ∨ (xs.find? P = none ∧ ∃ σ' h', forLoop f held (xs.map e) σ h = .next σ' h' ∧ R σ' h')
  | [], _, σ, h, r => .inr ⟨rfl, σ, h, by rw [List.map_nil]; exact fl_nil (hh _ _ r), r⟩
  | x :: xs, hf, σ, h, r => by
    rcases hf x List.mem_cons_self σ h r with ⟨p, σ1, h1, e1, r1⟩ | ⟨p, h1, e1, z⟩
    · have st : forLoop f held ((x :: xs).map e) σ h = forLoop f held (xs.map e) σ1 h1 := by
        rw [List.map_cons, forLoop, if_pos (hh _ _ r)]
        rcases e1 with e1 | e1 <;> rw [e1]
      rw [st, List.find?_cons, p]
      exact forLoop_find e P v R Z hh xs (fun y hy => hf y (List.mem_cons_of_mem _ hy)) σ1 h1 r1
    · left
      refine ⟨x, by rw [List.find?_cons, p], h1, ?_, z⟩
      rw [List.map_cons, forLoop, if_pos (hh _ _ r), e1]
/-- a while by the turns that are left -/
theorem whl_rel {t : St → AH → Res Bool} {b : St → AH → Out} (R : Nat → St → AH → Prop) (Q : St → AH → Prop) (h0 : ∀ σ h, R 0 σ h → ∃ h1, t σ h = .ok false h1 ∧ Q σ h1)
    (hs : ∀ k σ h, R (k + 1) σ h → ∃ h1 σ2 h2, t σ h = .ok true h1 ∧ (b σ h1 = .next σ2 h2 ∨ b σ h1 = .cont σ2 h2) ∧ R k σ2 h2) : ∀ (k n : Nat) (σ : St) (h : AH), k < n → R k σ h → ∃ σ' h', whlLoop t b n σ h = .next σ' h' ∧ Q σ' h'
  | _, 0, _, _, hn, _ => absurd hn (Nat.not_lt_zero _)
  | 0, n + 1, σ, h, _, r => by
    obtain ⟨h1, e, q⟩ := h0 σ h r
    exact ⟨σ, h1, by rw [whlLoop, e]; rfl, q⟩
  | k + 1, n + 1, σ, h, hn, r => by
    obtain ⟨h1, σ2, h2, e1, e2, r2⟩ := hs k σ h r
    obtain ⟨σ3, h3, e3, q⟩ := whl_rel R Q h0 hs k n σ2 h2 (Nat.lt_of_succ_lt_succ hn) r2
    refine ⟨σ3, h3, ?_, q⟩
    rw [whlLoop, e1]
    dsimp only [Res.then]
    rw [if_pos rfl]
    rcases e2 with e2 | e2
    · rw [e2]
      exact e3
    · rw [e2]
      exact e3
end
theorem compLoop_enc {β : Type} {f : W → AH → Res (Option W)} {held : List (Nat × List W)} {h : AH} (e : β → W) (F : β → Option W) (hh : heldOk held h = true) : ∀ (xs : List β), (∀ x ∈ xs, f (e x) h = .ok (F x) h) → compLoop f held (xs.map e) h = .ok (xs.filterMap F) h
  | [], _ => by rw [List.map_nil, compLoop, if_pos hh]; rfl
  | x :: xs, hf => by
    rw [List.map_cons, compLoop, if_pos hh, hf x List.mem_cons_self]
    show (compLoop f held (xs.map e) h).bind _ = _
    rw [compLoop_enc e F hh xs fun y hy => hf y (List.mem_cons_of_mem _ hy)]
    show Res.ok _ _ = Res.ok _ _
    rw [List.filterMap_cons]
    cases F x <;> rfl
/-- a comprehension without a test, over what stands for xs -/
theorem comp_enc {β : Type} (g : Ev) (e : β → W) (F : β → W) {xs : List β} {own : List (Str × Nat)} {tg : Tg} {it : It} {elt : C} {σ : St} {h h1 : AH} {held : List (Nat × List W)} (ei : evalI g it σ h = .ok ⟨xs.map e, held⟩ h1) (hh : heldOk held h1 = true) (hz : xs.length ≤ 1000000)
    (turn : ∀ x ∈ xs, ∃ σ2, asgT g tg (e x) (wipeA σ (own.map (·.2))) h1 = .ok σ2 h1 ∧ evalE g elt σ2 h1 = .ok (F x) h1) : evalL g (.comp own tg it [] elt) σ h = .ok (xs.map F) h1 := by
  rw [xl_comp]
  refine compW_ok ei ?_ (by simpa using hz)
  refine (compLoop_enc e (fun x => some (F x)) hh xs fun x hx => ?_).trans ?_
  · obtain ⟨σ2, a1, a2⟩ := turn x hx
    simp [a1, a2]
  · rw [← List.filterMap_eq_map] <;> rfl
/-- .. with a test -/
theorem comp_encF {β : Type} (g : Ev) (e : β → W) (P : β → Bool) (F : β → W) {xs : List β} {own : List (Str × Nat)} {tg : Tg} {it : It} {t : T} {elt : C} {σ : St} {h h1 : AH} {held : List (Nat × List W)} (ei : evalI g it σ h = .ok ⟨xs.map e, held⟩ h1) (hh : heldOk held h1 = true) (hz : xs.length ≤ 1000000)
    (turn : ∀ x ∈ xs, ∃ σ2, asgT g tg (e x) (wipeA σ (own.map (·.2))) h1 = .ok σ2 h1 ∧ evalT g t σ2 h1 = .ok (P x) h1 ∧ (P x = true → evalE g elt σ2 h1 = .ok (F x) h1)) : evalL g (.comp own tg it [t] elt) σ h = .ok ((xs.filter P).map F) h1 := by
  rw [xl_comp]
  refine compW_ok ei ?_ (by rw [List.length_map]; exact Nat.le_trans (List.length_filter_le _ _) hz)
  refine (compLoop_enc e (fun x => if P x then some (F x) else none) hh xs fun x hx => ?_).trans ?_
  · obtain ⟨σ2, a1, a2, a3⟩ := turn x hx
    cases hp : P x with
    | true => simp [a1, a2, hp, a3 hp]
    | false => simp [a1, a2, hp]
  · congr 1
    clear ei hz turn
    induction xs with
    | nil => rfl
    | cons x xs ih =>
      rw [List.filterMap_cons]
      cases hp : P x with
      | true => rw [List.filter_cons_of_pos hp, List.map_cons, ← ih]; simp
      | false => rw [List.filter_cons_of_neg (by rw [hp]; decide), ← ih]; simp
theorem rng0 (k : Nat) : rngW 0 (k : Int) = (List.range k).map fun i : Nat => W.int (i : Int) := by
  unfold rngW
  simp
theorem enum_zip : ∀ (ws : List W) (n : Nat), enumFrom n ws = (ws.zipIdx n).map fun p => .tup [.int p.2, p.1]
  | [], _ => rfl
  | w :: ws, n => by
    rw [List.zipIdx_cons, List.map_cons, ← enum_zip ws (n + 1)]
    rfl
theorem enumFrom_mem {ws : List W} {w : W} : ∀ {n : Nat}, w ∈ enumFrom n ws → ∃ i x, w = .tup [.int i, x] ∧ x ∈ ws := by
  induction ws with
  | nil => intro n h; cases h
  | cons x ws ih =>
    intro n h
    rcases List.mem_cons.mp h with rfl | h
    · exact ⟨n, x, rfl, List.mem_cons_self⟩
    · obtain ⟨i, y, e, hy⟩ := ih h
      exact ⟨i, y, e, List.mem_cons_of_mem _ hy⟩
/-- a for whose body falls through, the heap as it is -/
theorem forLoop_thru {f : W → St → AH → Out} {held : List (Nat × List W)} {h : AH} (J : St → Prop) (hh : heldOk held h = true) : ∀ (ws : List W), (∀ w ∈ ws, ∀ σ, J σ → ∃ σ', f w σ h = .next σ' h ∧ J σ') → ∀ σ, J σ → ∃ σ', forLoop f held ws σ h = .next σ' h ∧ J σ'
  | [], _, σ, j => ⟨σ, by unfold forLoop; rw [if_pos hh], j⟩
  | w :: ws, hf, σ, j => by
    obtain ⟨σ1, e1, j1⟩ := hf w List.mem_cons_self σ j
    obtain ⟨σ2, e2, j2⟩ := forLoop_thru J hh ws (fun w' hw => hf w' (List.mem_cons_of_mem _ hw)) σ1 j1
    refine ⟨σ2, ?_, j2⟩
    unfold forLoop
    rw [if_pos hh, e1]
    exact e2
/-! ### drawn summaries -/
/-- one row of a table: ev ints below S -/
def Row (ev S : Int) (w : W) : Prop := ∃ is : List Int, w = .tup (is.map .int) ∧ (is.length : Int) = ev ∧ ∀ i ∈ is, 0 ≤ i ∧ i < S
theorem ints_of {P : Int → Prop} : ∀ {ws : List W}, (∀ w ∈ ws, ∃ i, w = .int i ∧ P i) → ∃ is : List Int, ws = is.map .int ∧ ∀ i ∈ is, P i
  | [], _ => ⟨[], rfl, fun _ z => nomatch z⟩
  | w :: ws, h => by
    obtain ⟨i, rfl, p⟩ := h w List.mem_cons_self
    obtain ⟨is, e, q⟩ := ints_of fun w' hw => h w' (List.mem_cons_of_mem _ hw)
    exact ⟨i :: is, by rw [e]; rfl, fun j hj => by
      rcases List.mem_cons.mp hj with rfl | hj
      · exact p
      · exact q j hj⟩
/-- a right summary -/
structure Sum (ev : Int) (rows outs : List W) : Prop where
  e1 : 1 ≤ ev
  e2 : ev ≤ 3
  s1 : 1 ≤ rows.length
  s2 : rows.length ≤ 12
  rw : ∀ r ∈ rows, Row ev rows.length r
  ol : outs.length = rows.length
  ou : ∀ o ∈ outs, ∃ i : Int, o = .int i ∧ 0 ≤ i ∧ i < 1000000
def sumW (ev : Int) (rows outs : List W) : W := .tup [.int ev, .tup rows, .tup outs]
def ent (rows : List W) (st e : Int) : Int := match rows[st.toNat]? with
  | some (.tup ws) => (match ws[e.toNat]? with
    | some (.int i) => i
    | _ => 0)
  | _ => 0
def ledI (rows : List W) : Int → List Int → Int
  | st, [] => st
  | st, e :: es => ledI rows (ent rows st e) es
theorem ent_ok {ev : Int} {rows outs : List W} (s : Sum ev rows outs) {st e : Int} (h1 : 0 ≤ st) (h2 : st < rows.length) (h3 : 0 ≤ e) (h4 : e < ev) :
    ∃ ws, L2.atI rows st = some (.tup ws) ∧ L2.atI ws e = some (.int (ent rows st e)) ∧ 0 ≤ ent rows st e ∧ ent rows st e < rows.length := by
  have hl : st.toNat < rows.length := by omega
  obtain ⟨is, e1, e2, e3⟩ := s.rw rows[st.toNat] (List.getElem_mem hl)
  have hl2 : e.toNat < is.length := by omega
  have g1 : rows[st.toNat]? = some (.tup (is.map .int)) := by rw [List.getElem?_eq_getElem hl, e1]
  have g2 : (is.map W.int)[e.toNat]? = some (.int is[e.toNat]) := by simp [hl2]
  have g3 : ent rows st e = is[e.toNat] := by
    unfold ent
    rw [g1]
    dsimp only
    rw [g2]
  refine ⟨is.map .int, by rw [atI_of _ h1]; exact g1, by rw [atI_of _ h3, g2, g3], ?_⟩
  rw [g3]
  exact e3 _ (List.getElem_mem hl2)
/-- events of so many kinds -/
def Evs (ev : Int) (es : List Int) : Prop := ∀ e ∈ es, 0 ≤ e ∧ e < ev
theorem Evs.nil {ev : Int} : Evs ev [] := fun _ z => nomatch z
theorem Evs.app {ev : Int} {es fs : List Int} (a : Evs ev es) (b : Evs ev fs) : Evs ev (es ++ fs) := fun e he => (List.mem_append.mp he).elim (a e) (b e)
theorem Evs.one {ev e : Int} (h1 : 0 ≤ e) (h2 : e < ev) : Evs ev [e] := fun x hx => by
  rw [List.mem_singleton] at hx
  subst hx
  exact ⟨h1, h2⟩
theorem Evs.sub {ev : Int} {es fs : List Int} (a : Evs ev es) (h : ∀ f ∈ fs, f ∈ es) : Evs ev fs := fun e he => a e (h e he)
theorem ledI_lt {ev : Int} {rows outs : List W} (s : Sum ev rows outs) : ∀ {es : List Int} {st : Int}, 0 ≤ st → st < rows.length → Evs ev es → 0 ≤ ledI rows st es ∧ ledI rows st es < rows.length
  | [], st, h1, h2, _ => ⟨h1, h2⟩
  | e :: es, st, h1, h2, h => by
    obtain ⟨_, _, _, g1, g2⟩ := ent_ok s h1 h2 (h e List.mem_cons_self).1 (h e List.mem_cons_self).2
    exact ledI_lt (es := es) (st := ent rows st e) s g1 g2 fun e' he => h e' (List.mem_cons_of_mem _ he)
theorem ledI_app {rows : List W} : ∀ {es fs : List Int} {st : Int}, ledI rows st (es ++ fs) = ledI rows (ledI rows st es) fs
  | [], _, _ => rfl
  | e :: es, fs, st => ledI_app (es := es)
def outI (outs : List W) (st : Int) : Int := match L2.atI outs st with
  | some (.int i) => i
  | _ => 0
theorem outI_ok {ev : Int} {rows outs : List W} (s : Sum ev rows outs) {st : Int} (h1 : 0 ≤ st) (h2 : st < rows.length) : L2.atI outs st = some (.int (outI outs st)) ∧ 0 ≤ outI outs st ∧ outI outs st < 1000000 := by
  have hl : st.toNat < outs.length := by rw [s.ol]; omega
  obtain ⟨i, e, p⟩ := s.ou outs[st.toNat] (List.getElem_mem hl)
  have q : L2.atI outs st = some (.int i) := by rw [atI_of _ h1, List.getElem?_eq_getElem hl, e]
  unfold outI
  rw [q]
  exact ⟨rfl, p⟩
theorem row_flat {ev S : Int} {r : W} (h : Row ev S r) : W.flat r = true ∧ datW r = true ∧ depW r ≤ 1 := by
  obtain ⟨is, rfl, _⟩ := h
  exact ⟨by simp [W.flat, flats_int], by simp [datW, datWs_int], by simp [depW, depWs_int]⟩
theorem sum_flat {ev : Int} {rows outs : List W} (s : Sum ev rows outs) : W.flats rows = true ∧ W.flats outs = true ∧ datWs rows = true ∧ depWs rows < 64 :=
  ⟨flats_of fun r hr => (row_flat (s.rw r hr)).1, flats_of fun o ho => (by obtain ⟨i, rfl, _⟩ := s.ou o ho; rfl), datWs_of fun r hr => (row_flat (s.rw r hr)).2.1, Nat.lt_of_le_of_lt (depWs_of (n := 1) fun r hr => (row_flat (s.rw r hr)).2.2) (by decide)⟩
theorem sumW_flat {ev : Int} {rows outs : List W} (s : Sum ev rows outs) : W.flat (sumW ev rows outs) = true := by
  obtain ⟨f1, f2, _⟩ := sum_flat s
  simp [sumW, W.flat, W.flats, f1, f2]
theorem cut_map {α β : Type} (f : α → β) (xs : List α) (lo hi : Option Int) : cutW (xs.map f) lo hi = (cutW xs lo hi).map f := by
  unfold cutW
  simp [List.map_drop, List.map_take]
theorem bools_map {α : Type} (f : α → Bool) : ∀ (is : List α), bools (is.map fun i => W.bl (f i)) = some (is.map f)
  | [] => rfl
  | i :: is => by simp [bools, bools_map f is]
theorem intsOf_map : ∀ (is : List Int), intsOf (is.map .int) = some is
  | [] => rfl
  | i :: is => by simp [intsOf, intsOf_map is]
/-! ### data within a heap -/
inductive D where
  | non | bl (b : Bool) | int (i : Int) | str (s : Str) | tup (ds : List D) | lst (ds : List D)
mutual
def Den (h : AH) : D → W → Prop
  | .non, w => w = .non
  | .bl b, w => w = .bl b
  | .int i, w => w = .int i
  | .str s, w => w = .str s
  | .tup ds, w => ∃ ws, w = .tup ws ∧ Dens h ds ws
  | .lst ds, w => ∃ l ws, w = .loc l ∧ h[l]? = some (.lst ws) ∧ Dens h ds ws
def Dens (h : AH) : List D → List W → Prop
  | [], ws => ws = []
  | d :: ds, ws => ∃ w r, ws = w :: r ∧ Den h d w ∧ Dens h ds r
end
mutual
def D.dep : D → Nat
  | .tup ds => D.deps ds + 1
  | .lst ds => D.deps ds + 1
  | _ => 0
def D.deps : List D → Nat
  | [] => 0
  | d :: ds => max d.dep (D.deps ds)
end
mutual
/-- not too long -/
def D.few : D → Bool
  | .tup ds => decide (ds.length ≤ 1000000) && D.fews ds
  | .lst ds => decide (ds.length ≤ 1000000) && D.fews ds
  | _ => true
def D.fews : List D → Bool
  | [] => true
  | d :: ds => d.few && D.fews ds
end
theorem Dens.len {h : AH} : ∀ {ds : List D} {ws : List W}, Dens h ds ws → ws.length = ds.length
  | [], ws, e => by
    unfold Dens at e
    rw [e]
    rfl
  | d :: ds, ws, e => by
    unfold Dens at e
    obtain ⟨w, r, rfl, _, q⟩ := e
    rw [List.length_cons, List.length_cons, q.len]
theorem Dens.get {h : AH} : ∀ {ds : List D} {ws : List W} {i : Nat} (hi : i < ds.length), Dens h ds ws → ∃ w, ws[i]? = some w ∧ Den h ds[i] w
  | [], ws, i, hi, e => absurd hi (Nat.not_lt_zero _)
  | d :: ds, ws, 0, hi, e => by
    unfold Dens at e
    obtain ⟨w, r, rfl, q, _⟩ := e
    exact ⟨w, rfl, q⟩
  | d :: ds, ws, i + 1, hi, e => by
    unfold Dens at e
    obtain ⟨w, r, rfl, _, q⟩ := e
    obtain ⟨u, e1, e2⟩ := q.get (i := i) (by simpa using hi)
    exact ⟨u, by simpa using e1, by simpa using e2⟩
theorem deps_get : ∀ {ds : List D} {i : Nat} (hi : i < ds.length), ds[i].dep ≤ D.deps ds
  | [], i, hi => absurd hi (Nat.not_lt_zero _)
  | d :: ds, 0, hi => by
    unfold D.deps
    exact Nat.le_max_left _ _
  | d :: ds, i + 1, hi => by
    unfold D.deps
    exact Nat.le_trans (deps_get (i := i) (by simpa using hi)) (Nat.le_max_right _ _)
theorem fews_get : ∀ {ds : List D} {i : Nat} (hi : i < ds.length), D.fews ds = true → ds[i].few = true
  | [], i, hi, _ => absurd hi (Nat.not_lt_zero _)
  | d :: ds, 0, hi, e => by
    unfold D.fews at e
    rw [Bool.and_eq_true] at e
    exact e.1
  | d :: ds, i + 1, hi, e => by
    unfold D.fews at e
    rw [Bool.and_eq_true] at e
    exact fews_get (i := i) (by simpa using hi) e.2
mutual
theorem Den.move {h h' : AH} : ∀ {d : D} {w : W}, W.flat w = true → Den h d w → Den h' d w
  | .non, _, _, e => e
  | .bl _, _, _, e => e
  | .int _, _, _, e => e
  | .str _, _, _, e => e
  | .tup ds, w, f, e => by
    unfold Den at e ⊢
    obtain ⟨ws, rfl, q⟩ := e
    unfold W.flat at f
    exact ⟨ws, rfl, Dens.move f q⟩
  | .lst ds, w, f, e => by
    unfold Den at e
    obtain ⟨l, ws, rfl, _⟩ := e
    unfold W.flat at f
    cases f
theorem Dens.move {h h' : AH} : ∀ {ds : List D} {ws : List W}, W.flats ws = true → Dens h ds ws → Dens h' ds ws
  | [], ws, _, e => by
    unfold Dens at e ⊢
    exact e
  | d :: ds, ws, f, e => by
    unfold Dens at e ⊢
    obtain ⟨w, r, rfl, q1, q2⟩ := e
    unfold W.flats at f
    rw [Bool.and_eq_true] at f
    exact ⟨w, r, rfl, Den.move f.1 q1, Dens.move f.2 q2⟩
end
mutual
/-- the data of a flat value -/
def dOf : W → D
  | .bl b => .bl b
  | .int i => .int i
  | .str s => .str s
  | .tup ws => .tup (dOfs ws)
  | _ => .non
def dOfs : List W → List D
  | [] => []
  | w :: ws => dOf w :: dOfs ws
end
mutual
theorem den_of {h : AH} : ∀ {w : W}, datW w = true → Den h (dOf w) w
  | .non, _ => by unfold dOf Den; rfl
  | .bl _, _ => by unfold dOf Den; rfl
  | .int _, _ => by unfold dOf Den; rfl
  | .str _, _ => by unfold dOf Den; rfl
  | .tup ws, e => by
    unfold datW at e
    unfold dOf Den
    exact ⟨ws, rfl, dens_of e⟩
  | .loc _, e => by cases e
  | .exo _ _ _, e => by cases e
  | .scr, e => by cases e
theorem dens_of {h : AH} : ∀ {ws : List W}, datWs ws = true → Dens h (dOfs ws) ws
  | [], _ => by unfold dOfs Dens; rfl
  | w :: ws, e => by
    unfold datWs at e
    rw [Bool.and_eq_true] at e
    unfold dOfs Dens
    exact ⟨w, ws, rfl, den_of e.1, dens_of e.2⟩
end
theorem den_lst {h : AH} {l : Nat} {ws : List W} (e : h[l]? = some (.lst ws)) (d : datWs ws = true) : Den h (.lst (dOfs ws)) (.loc l) := by
  unfold Den
  exact ⟨l, ws, rfl, e, dens_of d⟩
mutual
/-- not too long, not too deep -/
def fewW (n : Nat) : W → Bool
  | .tup ws => decide (ws.length ≤ 1000000) && (match n with
    | 0 => false
    | n + 1 => fewWs n ws)
  | .loc _ => false
  | .exo _ _ _ => false
  | .scr => false
  | _ => true
def fewWs (n : Nat) : List W → Bool
  | [] => true
  | w :: ws => fewW n w && fewWs n ws
end
theorem dOfs_len : ∀ (ws : List W), (dOfs ws).length = ws.length
  | [] => rfl
  | w :: ws => by
    unfold dOfs
    rw [List.length_cons, List.length_cons, dOfs_len ws]
theorem fewWs_of {n : Nat} : ∀ {ws : List W}, (∀ w ∈ ws, fewW n w = true) → fewWs n ws = true
  | [], _ => by unfold fewWs; rfl
  | w :: ws, h => by
    unfold fewWs
    rw [h w List.mem_cons_self, fewWs_of fun w' hw => h w' (List.mem_cons_of_mem _ hw)]
    rfl
theorem fewWs_mem {n : Nat} : ∀ {ws : List W}, fewWs n ws = true → ∀ w ∈ ws, fewW n w = true
  | [], _, w, hw => nomatch hw
  | x :: ws, h, w, hw => by
    unfold fewWs at h
    rw [Bool.and_eq_true] at h
    rcases List.mem_cons.mp hw with rfl | hw
    · exact h.1
    · exact fewWs_mem h.2 w hw
/-- two values that stand for the same data -/
structure Same (n : Nat) (h : AH) (x y : W) : Prop where
  ex : ∃ d : D, d.dep ≤ n ∧ d.few = true ∧ Den h d x ∧ Den h d y
theorem few_d : ∀ (n : Nat) {w : W}, fewW n w = true → (dOf w).dep ≤ n ∧ (dOf w).few = true
  | n, .non, _ => by unfold dOf D.dep D.few; exact ⟨Nat.zero_le _, rfl⟩
  | n, .bl _, _ => by unfold dOf D.dep D.few; exact ⟨Nat.zero_le _, rfl⟩
  | n, .int _, _ => by unfold dOf D.dep D.few; exact ⟨Nat.zero_le _, rfl⟩
  | n, .str _, _ => by unfold dOf D.dep D.few; exact ⟨Nat.zero_le _, rfl⟩
  | 0, .tup ws, h => by
    unfold fewW at h
    simp at h
  | n + 1, .tup ws, h => by
    unfold fewW at h
    simp only [Bool.and_eq_true, decide_eq_true_eq] at h
    have q : ∀ (us : List W), (∀ w ∈ us, fewW n w = true) → D.deps (dOfs us) ≤ n ∧ D.fews (dOfs us) = true := fun us => by
      induction us with
      | nil => intro _; unfold dOfs D.deps D.fews; exact ⟨Nat.zero_le _, rfl⟩
      | cons u us ih =>
        intro hu
        obtain ⟨a1, a2⟩ := few_d n (hu u List.mem_cons_self)
        obtain ⟨b1, b2⟩ := ih fun w hw => hu w (List.mem_cons_of_mem _ hw)
        unfold dOfs D.deps D.fews
        rw [a2, b2]
        exact ⟨Nat.max_le.mpr ⟨a1, b1⟩, rfl⟩
    obtain ⟨b1, b2⟩ := q ws (fewWs_mem h.2)
    unfold dOf D.dep D.few
    rw [b2, dOfs_len, decide_eq_true h.1]
    exact ⟨Nat.succ_le_succ b1, rfl⟩
  | n, .loc _, h => by unfold fewW at h; cases h
  | n, .exo _ _ _, h => by unfold fewW at h; cases h
  | n, .scr, h => by unfold fewW at h; cases h
theorem few_ds {n : Nat} : ∀ {us : List W}, fewWs n us = true → D.deps (dOfs us) ≤ n ∧ D.fews (dOfs us) = true
  | [], _ => by unfold dOfs D.deps D.fews; exact ⟨Nat.zero_le _, rfl⟩
  | u :: us, h => by
    unfold fewWs at h
    rw [Bool.and_eq_true] at h
    obtain ⟨a1, a2⟩ := few_d n h.1
    obtain ⟨b1, b2⟩ := few_ds h.2
    unfold dOfs D.deps D.fews
    rw [a2, b2]
    exact ⟨Nat.max_le.mpr ⟨a1, b1⟩, rfl⟩
theorem Same.flat {n : Nat} {h : AH} {w : W} (d : datW w = true) (f : fewW n w = true) : Same n h w w := by
  obtain ⟨a, b⟩ := few_d n f
  exact ⟨dOf w, a, b, den_of d, den_of d⟩
theorem Same.lst {n : Nat} {h : AH} {p q : Nat} {ws : List W} (hp : h[p]? = some (.lst ws)) (hq : h[q]? = some (.lst ws)) (d : datWs ws = true) (f : fewWs n ws = true) (hz : ws.length ≤ 1000000) : Same (n + 1) h (.loc p) (.loc q) := by
  obtain ⟨a, b⟩ := few_ds f
  refine ⟨.lst (dOfs ws), ?_, ?_, den_lst hp d, den_lst hq d⟩
  · unfold D.dep
    exact Nat.succ_le_succ a
  · unfold D.few
    rw [b, dOfs_len, decide_eq_true hz]
    rfl
/-- lists of like values -/
theorem Same.lsts {n : Nat} {h : AH} {p q : Nat} {us vs : List W} (hp : h[p]? = some (.lst us)) (hq : h[q]? = some (.lst vs)) (hz : us.length ≤ 1000000) (hl : us.length = vs.length) (a : ∀ i (h1 : i < us.length) (h2 : i < vs.length), Same n h us[i] vs[i]) : Same (n + 1) h (.loc p) (.loc q) := by
  have key : ∀ (us vs : List W), us.length = vs.length → (∀ i (h1 : i < us.length) (h2 : i < vs.length), Same n h us[i] vs[i]) → ∃ ds : List D, ds.length = us.length ∧ D.deps ds ≤ n ∧ D.fews ds = true ∧ Dens h ds us ∧ Dens h ds vs := by
    intro us
    induction us with
    | nil =>
      intro vs e _
      cases vs with
      | nil => exact ⟨[], rfl, by unfold D.deps; omega, by unfold D.fews; rfl, by unfold Dens; rfl, by unfold Dens; rfl⟩
      | cons _ _ => cases e
    | cons u us ih =>
      intro vs e a
      cases vs with
      | nil => cases e
      | cons v vs =>
        obtain ⟨ds, l, a1, a2, a3, a4⟩ := ih vs (by simpa using e) fun i h1 h2 => a (i + 1) (by simpa using h1) (by simpa using h2)
        obtain ⟨d, b1, b2, b3, b4⟩ := (a 0 (by simp) (by simp)).ex
        refine ⟨d :: ds, by simp [l], ?_, ?_, ?_, ?_⟩
        · unfold D.deps
          exact Nat.max_le.mpr ⟨b1, a1⟩
        · unfold D.fews
          rw [b2, a2]
          rfl
        · unfold Dens
          exact ⟨_, _, rfl, b3, a3⟩
        · unfold Dens
          exact ⟨_, _, rfl, b4, a4⟩
  obtain ⟨ds, l, a1, a2, a3, a4⟩ := key us vs hl a
  refine ⟨.lst ds, ?_, ?_, ?_, ?_⟩
  · unfold D.dep
    exact Nat.succ_le_succ a1
  · unfold D.few
    rw [a2, l, decide_eq_true hz]
    rfl
  · unfold Den
    exact ⟨p, us, rfl, hp, a3⟩
  · unfold Den
    exact ⟨q, vs, rfl, hq, a4⟩
theorem Same.up {n m : Nat} {h : AH} {x y : W} (s : Same n h x y) (hm : n ≤ m) : Same m h x y := by
  obtain ⟨d, a, b⟩ := s.ex
  exact ⟨d, Nat.le_trans a hm, b⟩
theorem fewW_ints (n : Nat) (is : List Int) : fewWs n (is.map .int) = true := fewWs_of fun w hw => by
  obtain ⟨i, _, rfl⟩ := List.mem_map.mp hw
  unfold fewW
  rfl
end AM
/-! Data compared; dicts with numbers as keys. -/
namespace AM
open PySem
/-! lists of numbers as data -/
theorem toDfs_ints : ∀ (is : List Int), toDfs (is.map .int) = some (is.map PyData.int)
  | [] => rfl
  | i :: is => by
    rw [List.map_cons, toDfs, toDfs_ints is]
    rfl
theorem shp_ints (is : List Int) : shp (.list (is.map PyData.int)) = true := by
  have h1 : PyData.canLayAll0 (is.map PyData.int) = true := by
    induction is with
    | nil => rfl
    | cons i is ih =>
      show (true && PyData.canLayAll0 (is.map PyData.int)) = true
      rw [ih]
      rfl
  have h2 : PyData.depthAll (is.map PyData.int) = 0 := by
    clear h1
    induction is with
    | nil => rfl
    | cons i is ih =>
      show max 0 (PyData.depthAll (is.map PyData.int)) = 0
      rw [ih]
      rfl
  show (PyData.canLayAll0 _ && decide (PyData.depthAll _ + 1 ≤ 64)) = true
  rw [h1, h2]
  rfl
theorem any_ints (n : Int) : ∀ (is : List Int), ((is.map PyData.int).any fun z => PyData.eqv z (.int n)) = decide (n ∈ is)
  | [] => rfl
  | i :: is => by
    rw [List.map_cons, List.any_cons, any_ints n is]
    have e : PyData.eqv (.int i) (.int n) = decide (n = i) := by
      show (i == n) = _
      by_cases h : n = i
      · subst h
        simp
      · rw [decide_eq_false h]
        simpa using fun z => h z.symm
    rw [e]
    by_cases h : n = i
    · subst h
      simp
    · simp [h]
theorem in_data_ints (n : Int) (is : List Int) : inData (.int n) (is.map .int) = some (decide (n ∈ is)) := by
  unfold inData
  rw [toDfs_ints]
  show (if (shp (.int n) && shp (.list (is.map PyData.int))) = true then some ((is.map PyData.int).any fun z => PyData.eqv z (.int n)) else none) = _
  rw [shp_ints, any_ints]
  rfl
theorem in_tup (n : Int) (is : List Int) (h : AH) : cmpW .in_ (.int n) (.tup (is.map .int)) h = .ok (.bl (decide (n ∈ is))) h := by
  have e : inW h (.int n) (.tup (is.map .int)) = some (decide (n ∈ is)) := by
    show (if (scalW (.int n) && (is.map W.int).all scalW) = true then inData (.int n) (is.map .int) else none) = _
    rw [in_data_ints, if_pos]
    simp [scalW]
  show optR (inW h (.int n) (.tup (is.map .int))) id h = _
  rw [e]
  rfl
theorem nin_tup (n : Int) (is : List Int) (h : AH) : cmpW .nin (.int n) (.tup (is.map .int)) h = .ok (.bl (!decide (n ∈ is))) h := by
  have e : inW h (.int n) (.tup (is.map .int)) = some (decide (n ∈ is)) := by
    show (if (scalW (.int n) && (is.map W.int).all scalW) = true then inData (.int n) (is.map .int) else none) = _
    rw [in_data_ints, if_pos]
    simp [scalW]
  show optR (inW h (.int n) (.tup (is.map .int))) not h = _
  rw [e]
  rfl
/-! lists compared -/
theorem toD_lst {h : AH} {l : Nat} {ws : List W} (e : h[l]? = some (.lst ws)) : toD h (.loc l) = (toDfs ws).map .list := by
  unfold toD
  simp only [e]
theorem eqW_lst_nil {h : AH} {a b : Nat} {xs : List W} (ha : h[a]? = some (.lst xs)) (hb : h[b]? = some (.lst [])) (d : datWs xs = true) (k : depWs xs < 64) : eqW h (.loc a) (.loc b) = some xs.isEmpty := by
  obtain ⟨ds, e1, e2, e3⟩ := toDfs_dat xs d
  have sh : shp (.list ds) = true := by
    show (PyData.canLayAll0 ds && decide (PyData.depthAll ds + 1 ≤ 64)) = true
    rw [e2, e3, decide_eq_true (show depWs xs + 1 ≤ 64 from k)]
    rfl
  have s2 : shp (.list []) = true := rfl
  rw [eqW_D fun s z => by cases z]
  unfold eqD
  rw [toD_lst ha, toD_lst hb, e1]
  show (if (shp (.list ds) && shp (.list [])) = true then some (PyData.eqv (.list ds) (.list [])) else none) = _
  rw [sh, s2]
  simp only [Bool.and_self, if_true]
  cases xs with
  | nil =>
    cases e1
    rfl
  | cons w ws =>
    unfold toDfs at e1
    split at e1
    · cases e1
      rfl
    · cases e1
theorem eqv_ints : ∀ (is js : List Int), PyData.eqv (.list (is.map PyData.int)) (.list (js.map PyData.int)) = decide (is = js)
  | [], [] => rfl
  | [], _ :: _ => rfl
  | _ :: _, [] => rfl
  | i :: is, j :: js => by
    have ih := eqv_ints is js
    show (PyData.eqv (.int i) (.int j) && PyData.eqv (.list (is.map PyData.int)) (.list (js.map PyData.int))) = _
    rw [ih]
    show ((i == j) && decide (is = js)) = decide (i :: is = j :: js)
    by_cases h : i = j
    · subst h
      simp
    · simp [h]
theorem eqW_ints {h : AH} {a b : Nat} {is js : List Int} (ha : h[a]? = some (.lst (is.map .int))) (hb : h[b]? = some (.lst (js.map .int))) : eqW h (.loc a) (.loc b) = some (decide (is = js)) := by
  rw [eqW_D fun s z => by cases z]
  unfold eqD
  rw [toD_lst ha, toD_lst hb, toDfs_ints, toDfs_ints]
  show (if (shp (.list (is.map PyData.int)) && shp (.list (js.map PyData.int))) = true then some (PyData.eqv (.list (is.map PyData.int)) (.list (js.map PyData.int))) else none) = _
  rw [shp_ints, shp_ints, eqv_ints]
  rfl
/-! dicts with numbers as keys -/
section
variable {α : Type} (f : α → W)
def eD (w : List (Int × α)) : List (W × W) := w.map fun p => (.int p.1, f p.2)
theorem eD_keys (w : List (Int × α)) : (eD f w).map (·.1) = (w.map (·.1)).map .int := by
  unfold eD
  simp
theorem eD_okS (w : List (Int × α)) (n : Int) : dicOkS (eD f w) (.int n) = true := by
  unfold dicOkS eD
  simp [keyS]
theorem eD_ok (w : List (Int × α)) (n : Int) : dicOk (eD f w) (.int n) = true := by
  unfold dicOk eD
  simp [keyS]
theorem eD_get : ∀ (w : List (Int × α)) (n : Int), dicGet (eD f w) (.int n) = (w.lookup n).map f
  | [], n => rfl
  | (a, b) :: w, n => by
    have e : eD f ((a, b) :: w) = (.int a, f b) :: eD f w := rfl
    rw [e, List.lookup_cons]
    by_cases h : n = a
    · subst h
      rw [dicGet_pos rfl]
      simp
    · have h3 : (n == a) = false := by simpa using h
      rw [dicGet_neg (by intro z; injection z with z; exact h z.symm), eD_get w n]
      simp only [h3]
theorem eD_put (w : List (Int × α)) (n : Int) (x : α) (h : w.lookup n = none) : dicPut (eD f w) (.int n) (f x) = eD f (w ++ [(n, x)]) := by
  unfold dicPut
  rw [eD_get, h]
  unfold eD
  simp
theorem eD_del (w : List (Int × α)) (n : Int) : dicDel (eD f w) (.int n) = eD f (w.filter fun p => decide (p.1 ≠ n)) := by
  unfold dicDel eD
  rw [List.filter_map]
  congr 1
  apply List.filter_congr
  intro p _
  show decide (W.int p.1 ≠ W.int n) = decide (p.1 ≠ n)
  simp
theorem eD_len (w : List (Int × α)) : (eD f w).length = w.length := List.length_map _
end
/-- a for by what was gone through -/
theorem forLoop_pre {β : Type} {f : W → St → AH → Out} {held : List (Nat × List W)} (e : β → W) (R : List β → St → AH → Prop) (hh : ∀ a σ h, R a σ h → heldOk held h = true) (xs : List β)
    (step : ∀ pre x post, xs = pre ++ x :: post → ∀ σ h, R pre σ h → ∃ σ' h', (f (e x) σ h = .next σ' h' ∨ f (e x) σ h = .cont σ' h') ∧ R (pre ++ [x]) σ' h') {σ : St} {h : AH} (r : R [] σ h) :
    ∃ σ' h', forLoop f held (xs.map e) σ h = .next σ' h' ∧ R xs σ' h' := by
  have key : ∀ (post pre : List β), xs = pre ++ post → ∀ σ h, R pre σ h → ∃ σ' h', forLoop f held (post.map e) σ h = .next σ' h' ∧ R xs σ' h' := by
    intro post
    induction post with
    | nil =>
      intro pre ex σ h r
      rw [List.append_nil] at ex
      subst ex
      exact ⟨σ, h, by rw [List.map_nil]; exact fl_nil (hh _ _ _ r), r⟩
    | cons x post ih =>
      intro pre ex σ h r
      obtain ⟨σ1, h1, e1, r1⟩ := step pre x post ex σ h r
      obtain ⟨σ2, h2, e2, r2⟩ := ih (pre ++ [x]) (by rw [ex]; simp) σ1 h1 r1
      refine ⟨σ2, h2, ?_, r2⟩
      rw [List.map_cons, forLoop, if_pos (hh _ _ _ r)]
      rcases e1 with e1 | e1
      · rw [e1]
        exact e2
      · rw [e1]
        exact e2
  exact key xs [] rfl σ h r
theorem run_whl {g : Ev} {t : T} {b : List S} {σ σ' : St} {h h' : AH} (e : whlLoop (fun σ1 h1 => evalT g t σ1 h1) (fun σ1 h1 => evalSs g b σ1 h1) 1000000 σ h = .next σ' h') (hl : g.gc.lim = 1000000) : evalS g (.whl t b) σ h = .next σ' h' := by
  rw [st_whl, hl, e]
@[simp] theorem sum_0 (g : Ev) (ev : Int) (rows outs : List W) (h : AH) : subR g (sumW ev rows outs) (.int 0) h = .ok (.int ev) h := rd_tup _ _ (by simp)
@[simp] theorem sum_1 (g : Ev) (ev : Int) (rows outs : List W) (h : AH) : subR g (sumW ev rows outs) (.int 1) h = .ok (.tup rows) h := rd_tup _ _ (by simp)
@[simp] theorem sum_2 (g : Ev) (ev : Int) (rows outs : List W) (h : AH) : subR g (sumW ev rows outs) (.int 2) h = .ok (.tup outs) h := rd_tup _ _ (by simp)
@[simp] theorem len_sum (g : Ev) (ev : Int) (rows outs : List W) (h : AH) : primW g .len [sumW ev rows outs] h = .ok (.int 3) h := pr_lenT ..
@[simp] theorem callW_pos (g : Ev) (f : Nat) (ws : List W) (h : AH) : callW g f ws [] [] h = g.cf f ws h := by
  unfold callW
  simp
@[simp] theorem rng2 (i j : Int) (h : AH) : rngR [.int i, .int j] h = if rngOk i && rngOk j then .ok ⟨rngW i j, []⟩ h else .stuck := Eq.trans rfl rfl
@[simp] theorem rng3 (i j : Int) (h : AH) : rngR [.int i, .int j, .int (-1)] h = if rngOk i && rngOk j then .ok ⟨rngD i j, []⟩ h else .stuck := Eq.trans rfl rfl
/-- a comprehension whose parts may change the heap -/
theorem compLoop_encH {β : Type} {f : W → AH → Res (Option W)} {held : List (Nat × List W)} (e : β → W) (F : β → Option W) (Iv : AH → Prop) (hh : ∀ h, Iv h → heldOk held h = true) : ∀ (xs : List β), (∀ x ∈ xs, ∀ h, Iv h → ∃ h', f (e x) h = .ok (F x) h' ∧ Iv h') → ∀ h, Iv h → ∃ h', compLoop f held (xs.map e) h = .ok (xs.filterMap F) h' ∧ Iv h'
  | [], _, h, iv => ⟨h, by rw [List.map_nil, compLoop, if_pos (hh h iv)]; rfl, iv⟩
  | x :: xs, hf, h, iv => by
    obtain ⟨h1, e1, iv1⟩ := hf x List.mem_cons_self h iv
    obtain ⟨h2, e2, iv2⟩ := compLoop_encH e F Iv hh xs (fun y hy => hf y (List.mem_cons_of_mem _ hy)) h1 iv1
    refine ⟨h2, ?_, iv2⟩
    rw [List.map_cons, compLoop, if_pos (hh h iv), e1]
    show (compLoop f held (xs.map e) h1).bind _ = _
    rw [e2]
    show Res.ok _ _ = Res.ok _ _
    rw [List.filterMap_cons]
    cases F x <;> rfl
theorem filterMap_if {β : Type} (P : β → Bool) (F : β → W) : ∀ (xs : List β), xs.filterMap (fun x => if P x then some (F x) else none) = (xs.filter P).map F
  | [] => rfl
  | x :: xs => by
    rw [List.filterMap_cons]
    cases hp : P x with
    | true => rw [List.filter_cons_of_pos hp, List.map_cons, ← filterMap_if P F xs]; simp
    | false => rw [List.filter_cons_of_neg (by rw [hp]; decide), ← filterMap_if P F xs]; simp
theorem comp_encFH {β : Type} (g : Ev) (e : β → W) (P : β → Bool) (F : β → W) (Iv : AH → Prop) {xs : List β} {own : List (Str × Nat)} {tg : Tg} {it : It} {t : T} {elt : C} {σ : St} {h h1 : AH} {held : List (Nat × List W)} (ei : evalI g it σ h = .ok ⟨xs.map e, held⟩ h1) (hh : ∀ h, Iv h → heldOk held h = true) (hz : xs.length ≤ 1000000) (iv : Iv h1)
    (turn : ∀ x ∈ xs, ∀ h, Iv h → ∃ σ2 h2 h3, asgT g tg (e x) (wipeA σ (own.map (·.2))) h = .ok σ2 h ∧ evalT g t σ2 h = .ok (P x) h2 ∧ (P x = true → evalE g elt σ2 h2 = .ok (F x) h3 ∧ Iv h3) ∧ Iv h2) : ∃ h2, evalL g (.comp own tg it [t] elt) σ h = .ok ((xs.filter P).map F) h2 ∧ Iv h2 := by
  obtain ⟨h2, e2, iv2⟩ := compLoop_encH (held := held) (f := fun w h2 => (asgT g tg w (wipeA σ (own.map (·.2))) h2).bind fun σ2 h3 => (evalIf g [t] σ2 h3).bind fun c h4 => if c then (evalE g elt σ2 h4).bind fun y h5 => .ok (some y) h5 else .ok none h4) e (fun x => if P x then some (F x) else none) Iv hh xs (fun x hx h iv => by
    obtain ⟨σ2, h2, h3, a1, a2, a3, a4⟩ := turn x hx h iv
    cases hp : P x with
    | true =>
      obtain ⟨b1, b2⟩ := a3 hp
      exact ⟨h3, by simp [a1, a2, hp, b1], b2⟩
    | false => exact ⟨h2, by simp [a1, a2, hp], a4⟩) h1 iv
  refine ⟨h2, ?_, iv2⟩
  rw [filterMap_if] at e2
  rw [xl_comp]
  exact compW_ok ei e2 (by rw [List.length_map]; exact Nat.le_trans (List.length_filter_le _ _) hz)
theorem atI_last {α : Type} (xs : List α) (x : α) : L2.atI (xs ++ [x]) (-1) = some x := by
  unfold L2.atI L2.ixN
  simp
  rw [if_pos (by omega), show (-1 + ((xs.length : Int) + 1)).toNat = xs.length by omega]
  simp
theorem range_ge {n k : Nat} (h : k ≤ n) : ((List.range (n + 1)).filter fun i => decide (k ≤ i))[0]? = some k := by
  rw [← List.head?_eq_getElem?, List.head?_filter, List.find?_range_eq_some]
  refine ⟨by simp, by simp; omega, fun j hj => ?_⟩
  simp
  omega
theorem callF_excF {gc : Gc} {sc : List Int} {m f : Nat} {d : DefC} {ws vs : List W} {c : Nat} {xs : List Str} {h h2 : AH} (hd : gc.defs[f]? = some d) (hl : ws.length = d.ps.length) (hf : W.flats ws = true) (e : runBody ⟨gc, sc, callF gc sc m⟩ d ws [] = .exc c xs vs h2) (hv : W.flats vs = true) : callF gc sc (m + 1) f ws h = .exc c xs vs h := by
  rw [callF, hd]
  simp only [hl, hf, if_true, e, hv]
/-! the last few -/
theorem cut_last {α : Type} (xs : List α) (k : Nat) : cutW xs (some (if (xs.length : Int) - (k : Int) > 0 then (xs.length : Int) - (k : Int) else 0)) none = xs.drop (xs.length - k) := by
  rw [cut_from _ (by split <;> omega)]
  congr 1
  split <;> omega
theorem slc_last {α : Type} (ns : List Int) (e : α → W) (xs : List α) (k : Nat) {h : AH} {l : Nat} (hl : h[l]? = some (.lst (xs.map e))) : slcR ns (.loc l) (some (if k < xs.length then (xs.length : Int) - (k : Int) else 0)) none h = .ok (.loc h.length) (h ++ [.lst ((xs.drop (xs.length - k)).map e)]) := by
  have c := cut_last (xs.map e) k
  rw [List.length_map, ← List.map_drop] at c
  rw [slc_lst ns _ _ hl, ← c]
  congr 6
  split <;> split <;> omega
theorem bmt_app {l : Nat} {xs : List W} {h : AH} (hl : h[l]? = some (.lst xs)) : bmT .append (.loc l) h = true := bmt_lst (.inl rfl) hl
/-- a new list at the end -/
theorem at_end (h t : AH) (o : O) : (h ++ o :: t)[h.length]? = some o := by simp
end AM
/-! Nested lists from calls with plain values; loops that return or break. -/
namespace AM
open PySem
mutual
theorem Den.shift {h h2 : AH} : ∀ {d : D} {w : W}, Den h2 d w → Den (h ++ h2.map (O.shift h.length)) d (w.shift h.length)
  | .non, _, e => by unfold Den at e ⊢; rw [e]; rfl
  | .bl _, _, e => by unfold Den at e ⊢; rw [e]; rfl
  | .int _, _, e => by unfold Den at e ⊢; rw [e]; rfl
  | .str _, _, e => by unfold Den at e ⊢; rw [e]; rfl
  | .tup ds, w, e => by
    unfold Den at e ⊢
    obtain ⟨ws, rfl, q⟩ := e
    exact ⟨W.shifts h.length ws, by unfold W.shift; rfl, Dens.shift q⟩
  | .lst ds, w, e => by
    unfold Den at e ⊢
    obtain ⟨l, ws, rfl, e1, q⟩ := e
    refine ⟨l + h.length, W.shifts h.length ws, by unfold W.shift; rfl, ?_, Dens.shift q⟩
    rw [List.getElem?_append_right (by omega), Nat.add_sub_cancel, List.getElem?_map, e1]
    rfl
theorem Dens.shift {h h2 : AH} : ∀ {ds : List D} {ws : List W}, Dens h2 ds ws → Dens (h ++ h2.map (O.shift h.length)) ds (W.shifts h.length ws)
  | [], ws, e => by
    unfold Dens at e
    subst e
    unfold W.shifts Dens
    rfl
  | d :: ds, ws, e => by
    unfold Dens at e
    obtain ⟨w, r, rfl, q1, q2⟩ := e
    unfold W.shifts Dens
    exact ⟨_, _, rfl, Den.shift q1, Dens.shift q2⟩
end
/-- a call with plain values that hands back nested lists -/
theorem callF_den {gc : Gc} {sc : List Int} {m f : Nat} {d : DefC} {ws : List W} {w : W} {h h2 : AH} {D : D} (hd : gc.defs[f]? = some d) (hl : ws.length = d.ps.length) (hf : W.flats ws = true) (e : runBody ⟨gc, sc, callF gc sc m⟩ d ws [] = .ok w h2) (dn : Den h2 D w) :
    ∃ w' h', callF gc sc (m + 1) f ws h = .ok w' h' ∧ Den h' D w' ∧ Fr [] h h' := by
  have all : ∃ w' h', (Res.ok (w.shift h.length) (h ++ h2.map (O.shift h.length)) : Res W) = .ok w' h' ∧ Den h' D w' ∧ Fr [] h h' := ⟨_, _, rfl, Den.shift dn, Fr.app⟩
  rw [callF, hd]
  simp only [hl, hf, if_true, e]
  unfold pull
  split
  · rename_i l
    split
    · rename_i us e1
      split
      · rename_i fl
        refine ⟨_, _, rfl, ?_, Fr.app⟩
        cases D with
        | lst ds =>
          unfold Den at dn ⊢
          obtain ⟨l', us', e2, e3, q⟩ := dn
          cases e2
          rw [e1] at e3
          cases e3
          exact ⟨h.length, us, rfl, by simp, Dens.move fl q⟩
        | tup ds =>
          unfold Den at dn
          obtain ⟨_, e2, _⟩ := dn
          cases e2
        | non => unfold Den at dn; cases dn
        | bl _ => unfold Den at dn; cases dn
        | int _ => unfold Den at dn; cases dn
        | str _ => unfold Den at dn; cases dn
      · exact all
    · exact all
  · split
    · rename_i fl
      exact ⟨_, _, rfl, Den.move fl dn, Fr.refl⟩
    · exact all
/-- a while that may return -/
theorem whl_gen {t : St → AH → Res Bool} {b : St → AH → Out} (R : Nat → St → AH → Prop) (Q : Out → Prop)
    (step : ∀ k σ h, R k σ h → (∃ h1, t σ h = .ok false h1 ∧ Q (.next σ h1)) ∨ (∃ h1, t σ h = .ok true h1 ∧ ((∃ w h2, b σ h1 = .ret w h2 ∧ Q (.ret w h2)) ∨ (∃ σ2 h2 j, k = j + 1 ∧ (b σ h1 = .next σ2 h2 ∨ b σ h1 = .cont σ2 h2) ∧ R j σ2 h2)))) :
    ∀ (k n : Nat) (σ : St) (h : AH), k < n → R k σ h → Q (whlLoop t b n σ h)
  | _, 0, _, _, hn, _ => absurd hn (Nat.not_lt_zero _)
  | k, n + 1, σ, h, hn, r => by
    rw [whlLoop]
    rcases step k σ h r with ⟨h1, e, q⟩ | ⟨h1, e, z⟩
    · rw [e]
      exact q
    · rw [e]
      dsimp only [Res.then]
      rw [if_pos rfl]
      rcases z with ⟨w, h2, e2, q⟩ | ⟨σ2, h2, j, rfl, e2, r2⟩
      · rw [e2]
        exact q
      · rcases e2 with e2 | e2
        · rw [e2]
          exact whl_gen R Q step j n σ2 h2 (Nat.lt_of_succ_lt_succ hn) r2
        · rw [e2]
          exact whl_gen R Q step j n σ2 h2 (Nat.lt_of_succ_lt_succ hn) r2
theorem run_whlO {g : Ev} {t : T} {b : List S} {σ : St} {h : AH} {o : Out} (e : whlLoop (fun σ1 h1 => evalT g t σ1 h1) (fun σ1 h1 => evalSs g b σ1 h1) 1000000 σ h = o) (hl : g.gc.lim = 1000000) : evalS g (.whl t b) σ h = o := by
  rw [st_whl, hl, e]
/-- a for that may break, by what was gone through -/
theorem forLoop_brk {β : Type} {f : W → St → AH → Out} {held : List (Nat × List W)} (e : β → W) (R : List β → St → AH → Prop) (Q : St → AH → Prop) (hh : ∀ a σ h, R a σ h → heldOk held h = true) (xs : List β)
    (step : ∀ pre x post, xs = pre ++ x :: post → ∀ σ h, R pre σ h → (∃ σ' h', f (e x) σ h = .brk σ' h' ∧ Q σ' h') ∨ (∃ σ' h', (f (e x) σ h = .next σ' h' ∨ f (e x) σ h = .cont σ' h') ∧ R (pre ++ [x]) σ' h')) {σ : St} {h : AH} (r : R [] σ h) :
    ∃ σ' h', forLoop f held (xs.map e) σ h = .next σ' h' ∧ (Q σ' h' ∨ R xs σ' h') := by
  have key : ∀ (post pre : List β), xs = pre ++ post → ∀ σ h, R pre σ h → ∃ σ' h', forLoop f held (post.map e) σ h = .next σ' h' ∧ (Q σ' h' ∨ R xs σ' h') := by
    intro post
    induction post with
    | nil =>
      intro pre ex σ h r
      rw [List.append_nil] at ex
      subst ex
      exact ⟨σ, h, by rw [List.map_nil]; exact fl_nil (hh _ _ _ r), .inr r⟩
    | cons x post ih =>
      intro pre ex σ h r
      rcases step pre x post ex σ h r with ⟨σ1, h1, e1, q⟩ | ⟨σ1, h1, e1, r1⟩
      · refine ⟨σ1, h1, ?_, .inl q⟩
        rw [List.map_cons, forLoop, if_pos (hh _ _ _ r), e1]
      · obtain ⟨σ2, h2, e2, r2⟩ := ih (pre ++ [x]) (by rw [ex]; simp) σ1 h1 r1
        refine ⟨σ2, h2, ?_, r2⟩
        rw [List.map_cons, forLoop, if_pos (hh _ _ _ r)]
        rcases e1 with e1 | e1
        · rw [e1]
          exact e2
        · rw [e1]
          exact e2
  exact key xs [] rfl σ h r
/-! summaries by their numbers -/
theorem Sum.nat {ev : Int} {rows outs : List W} (s : Sum ev rows outs) : ∃ E : Nat, ev = E ∧ 1 ≤ E ∧ E ≤ 3 := ⟨ev.toNat, by have := s.e1; omega, by have := s.e1; omega, by have := s.e2; omega⟩
theorem row_eq {E : Nat} {rows outs : List W} (s : Sum E rows outs) {q : Nat} (hq : q < rows.length) : rows[q]? = some (.tup ((List.range E).map fun e : Nat => .int (ent rows q e))) := by
  obtain ⟨is, e1, e2, e3⟩ := s.rw rows[q] (List.getElem_mem hq)
  rw [List.getElem?_eq_getElem hq, e1]
  congr 2
  apply List.ext_getElem?
  intro i
  rw [List.getElem?_map, List.getElem?_map]
  by_cases hi : i < is.length
  · rw [List.getElem?_eq_getElem hi, List.getElem?_eq_getElem (by simp; omega)]
    simp only [List.getElem_range, Option.map_some, Option.some.injEq, W.int.injEq]
    unfold ent
    rw [Int.toNat_natCast, List.getElem?_eq_getElem hq, e1]
    dsimp only
    rw [Int.toNat_natCast, List.getElem?_map, List.getElem?_eq_getElem hi]
    rfl
  · rw [List.getElem?_eq_none (by omega), List.getElem?_eq_none (by simp; omega)]
    rfl
theorem rows_eq {E : Nat} {rows outs : List W} (s : Sum E rows outs) : rows = (List.range rows.length).map fun q : Nat => .tup ((List.range E).map fun e : Nat => .int (ent rows q e)) := by
  apply List.ext_getElem?
  intro i
  by_cases hi : i < rows.length
  · rw [row_eq s hi, List.getElem?_map, List.getElem?_eq_getElem (by simpa using hi)]
    simp
  · rw [List.getElem?_eq_none (by omega), List.getElem?_eq_none (by simp; omega)]
theorem outs_eq {ev : Int} {rows outs : List W} (s : Sum ev rows outs) : outs = (List.range rows.length).map fun q : Nat => .int (outI outs q) := by
  apply List.ext_getElem?
  intro i
  by_cases hi : i < rows.length
  · have := (outI_ok s (st := (i : Int)) (by omega) (by omega)).1
    rw [atI_nat] at this
    rw [this, List.getElem?_map, List.getElem?_eq_getElem (by simpa using hi)]
    simp
  · have := s.ol
    rw [List.getElem?_eq_none (by omega), List.getElem?_eq_none (by simp; omega)]
theorem atI_neg1 {α : Type} {xs : List α} (h : xs ≠ []) : L2.atI xs (-1) = xs[xs.length - 1]? := by
  have hp : 0 < xs.length := List.length_pos_iff.mpr h
  unfold L2.atI L2.ixN
  rw [if_neg (by omega), if_pos (by omega)]
  show xs[((-1 : Int) + (xs.length : Int)).toNat]? = _
  congr 1
  omega
theorem drop_map {ws : List W} (k : Nat) : ws.drop k = (List.range (ws.length - k)).map fun i => ws.getD (k + i) .non := by
  apply List.ext_getElem?
  intro i
  rw [List.getElem?_drop, List.getElem?_map]
  by_cases hi : i < ws.length - k
  · rw [List.getElem?_eq_getElem (show k + i < ws.length by omega), List.getElem?_eq_getElem (show i < (List.range (ws.length - k)).length by simpa using hi)]
    simp only [List.getElem_range, Option.map_some]
    rw [List.getD_eq_getElem?_getD, List.getElem?_eq_getElem (show k + i < ws.length by omega)]
    rfl
  · rw [List.getElem?_eq_none (by omega), List.getElem?_eq_none (by simp; omega)]
    rfl
theorem cut_neg1 {α : Type} (xs : List α) : cutW xs none (some (-1)) = xs.dropLast := by
  unfold cutW
  rw [HT.sIx_none]
  have e : HT.sIx xs.length xs.length (some (-1)) = xs.length - 1 := by
    unfold HT.sIx
    simp
    omega
  rw [e, List.drop_zero, Nat.sub_zero, List.dropLast_eq_take]
theorem seq_sum (is : List Int) (h : AH) : primL .sum (is.map .int) h = .ok (.int is.sum) h := by
  show seqL .sum _ h = _
  unfold seqL
  rw [intsOf_map]
theorem any_bools {α : Type} (f : α → Bool) (is : List α) (h : AH) : primL .any (is.map fun i => .bl (f i)) h = .ok (.bl (is.any f)) h := by
  unfold primL
  dsimp only
  rw [bools_map]
  simp [List.any_map, Function.comp_def]
end AM
namespace Law
open PySem AM L2 He AH
def top (i : Nat) : Stmt := PySem.Challenge.pw_arrivesalike_k82_logs_by_their_numbers.main.body.getD i (.Pass ⟨0, 0, 0, 0⟩)
/- InvalidLog.__init__ -/
def d0 : DefC := ⟨["self", "index"], ["self", "index"], [.never]⟩
/- InvalidSummary.__init__ -/
def d1 : DefC := ⟨["self", "place"], ["self", "place"], [.never]⟩
/- is_integer -/
def d2 : DefC := ⟨["thing"], ["thing"], [
    .ret (.and [.prim (.isi ["int"] []) [.var 0], .not (.prim (.isi ["bool"] []) [.var 0])])]⟩
/- is_from -/
def d3 : DefC := ⟨["low", "thing"], ["low", "thing"], [
    .ret (.and [.call 2 [.var 1] [] [], .cmp .ge (.var 1) (.var 0)])]⟩
/- is_below -/
def d4 : DefC := ⟨["many", "thing"], ["many", "thing"], [
    .ret (.and [.call 3 [.con (.int 0), .var 1] [] [], .cmp .lt (.var 1) (.var 0)])]⟩
/- is_tuple -/
def d5 : DefC := ⟨["many", "thing"], ["many", "thing"], [
    .ret (.and [.prim (.isi ["tuple"] []) [.var 1], .or [.cmp .isn (.var 0) (.con .non), .cmp .eq (.prim .len [.var 1]) (.var 0)]])]⟩
/- is_row -/
def d6 : DefC := ⟨["many", "thing"], ["many", "thing", "one"], [
    .ret (.and [.prim (.isi ["tuple"] []) [.var 1], .primc .all (.comp [("one", 2)] (.nm 2) (.over (.var 1)) [] (.call 4 [.var 0, .var 2] [] []))])]⟩
/- row_fault -/
def d7 : DefC := ⟨["many", "thing"], ["many", "thing", "index", "one"], [
    .iff (.not (.val (.prim (.isi ["tuple"] []) [.var 1]))) [.ret (.neg (.con (.int 1)))] [],
    .for_ (.tp [.nm 2, .nm 3]) (.enum (.var 1)) [.iff (.not (.val (.call 4 [.var 0, .var 3] [] []))) [.ret (.var 2)] []],
    .ret (.con .non)]⟩
/- check_number -/
def d8 : DefC := ⟨["thing"], ["thing"], [
    .iff (.not (.val (.call 3 [.con (.int 0), .var 0] [] []))) [.raise 1 [] []] []]⟩
/- check_log -/
def d9 : DefC := ⟨["events", "thing"], ["events", "thing", "index"], [
    .asg (.nm 2) (.call 7 [.var 0, .var 1] [] []),
    .iff (.val (.cmp .isnt (.var 2) (.con .non))) [.raise 2 ["index"] [.var 2]] []]⟩
/- summary_fault -/
def d10 : DefC := ⟨["value"], ["value", "state", "row", "one"], [
    .iff (.not (.val (.call 5 [.con (.int 3), .var 0] [] []))) [.ret (.tup [])] [],
    .iff (.not (.val (.call 3 [.con (.int 1), .sub (.var 0) (.con (.int 0))] [] []))) [.ret (.tup [.con (.int 0)])] [],
    .iff (.or [.not (.val (.prim (.isi ["tuple"] []) [.sub (.var 0) (.con (.int 1))])), .val (.cmp .eq (.sub (.var 0) (.con (.int 1))) (.tup []))]) [.ret (.tup [.con (.int 1)])] [],
    .for_ (.tp [.nm 1, .nm 2]) (.enum (.sub (.var 0) (.con (.int 1)))) [.iff (.or [.not (.val (.call 5 [.sub (.var 0) (.con (.int 0)), .var 2] [] [])), .not (.val (.call 6 [.prim .len [.sub (.var 0) (.con (.int 1))], .var 2] [] []))]) [.ret (.tup [.con (.int 1), .var 1])] []],
    .iff (.not (.val (.call 5 [.prim .len [.sub (.var 0) (.con (.int 1))], .sub (.var 0) (.con (.int 2))] [] []))) [.ret (.tup [.con (.int 2)])] [],
    .for_ (.tp [.nm 1, .nm 3]) (.enum (.sub (.var 0) (.con (.int 2)))) [.iff (.not (.val (.call 3 [.con (.int 0), .var 3] [] []))) [.ret (.tup [.con (.int 2), .var 1])] []],
    .ret (.con .non)]⟩
/- check_summary -/
def d11 : DefC := ⟨["thing"], ["thing", "place"], [
    .asg (.nm 1) (.call 10 [.var 0] [] []),
    .iff (.val (.cmp .isnt (.var 1) (.con .non))) [.raise 3 ["place"] [.var 1]] []]⟩
/- check_read -/
def d12 : DefC := ⟨["summary", "log"], ["summary", "log"], [
    .ex (.call 11 [.var 0] [] []),
    .ex (.call 9 [.sub (.var 0) (.con (.int 0)), .var 1] [] [])]⟩
/- led -/
def d13 : DefC := ⟨["summary", "state", "log"], ["summary", "state", "log", "event"], [
    .for_ (.nm 3) (.over (.var 2)) [.asg (.nm 1) (.sub (.sub (.sub (.var 0) (.con (.int 1))) (.var 1)) (.var 3))],
    .ret (.var 1)]⟩
/- answer_in -/
def d14 : DefC := ⟨["summary", "log"], ["summary", "log"], [
    .ret (.sub (.sub (.var 0) (.con (.int 2))) (.call 13 [.var 0, .con (.int 0), .var 1] [] []))]⟩
/- ends_with -/
def d15 : DefC := ⟨["summary", "number", "length"], ["summary", "number", "length", "found", "turn", "one", "row", "later"], [
    .asg (.nm 3) (.lst [.comp [("one", 5)] (.nm 5) (.over (.sub (.var 0) (.con (.int 2)))) [] (.prim .int [.cmp .eq (.var 5) (.var 1)])]),
    .for_ (.nm 4) (.rng [.var 2]) [.ex (.bm .append (.var 3) [.comp [("row", 6)] (.nm 6) (.over (.sub (.var 0) (.con (.int 1)))) [] (.primc .sum (.comp [("later", 7)] (.nm 7) (.over (.var 6)) [] (.sub (.sub (.var 3) (.neg (.con (.int 1)))) (.var 7))))])],
    .ret (.var 3)]⟩
/- has_answer -/
def d16 : DefC := ⟨["summary", "number"], ["summary", "number", "many", "ways"], [
    .asg (.nm 2) (.prim .len [.sub (.var 0) (.con (.int 1))]),
    .ret (.primc .any (.comp [("ways", 3)] (.nm 3) (.over (.slc (.call 15 [.var 0, .var 1, .bin .mul (.con (.int 2)) (.var 2)] [] []) [.var 2] [])) [] (.cmp .gt (.sub (.var 3) (.con (.int 0))) (.con (.int 0)))))]⟩
/- log_at -/
def d17 : DefC := ⟨["summary", "number", "place"], ["summary", "number", "place", "length", "left", "is_endless", "ways"], [
    .ex (.call 11 [.var 0] [] []),
    .ex (.call 8 [.var 1] [] []),
    .ex (.call 8 [.var 2] [] []),
    .asg (.tp [.nm 3, .nm 4, .nm 5]) (.tup [.con (.int 0), .var 2, .call 16 [.var 0, .var 1] [] []]),
    .whl (.or [.val (.var 5), .val (.cmp .le (.var 3) (.prim .len [.sub (.var 0) (.con (.int 1))]))]) [.asg (.nm 6) (.call 15 [.var 0, .var 1, .var 3] [] []), .iff (.val (.cmp .lt (.var 4) (.sub (.sub (.var 6) (.var 3)) (.con (.int 0))))) [.ret (.call 18 [.var 0, .var 6, .var 4] [] [])] [], .aug (.nm 4) .sub (.sub (.sub (.var 6) (.var 3)) (.con (.int 0))), .aug (.nm 3) .add (.con (.int 1))],
    .ret (.con .non)]⟩
/- log_by -/
def d18 : DefC := ⟨["summary", "ways", "left"], ["summary", "ways", "left", "further", "state", "log", "event", "later"], [
    .asg (.tp [.nm 4, .nm 5]) (.tup [.con (.int 0), .tup []]),
    .for_ (.nm 3) (.rng [.bin .sub (.prim .len [.var 1]) (.con (.int 2)), .neg (.con (.int 1)), .neg (.con (.int 1))]) [.for_ (.tp [.nm 6, .nm 7]) (.enum (.sub (.sub (.var 0) (.con (.int 1))) (.var 4))) [.iff (.val (.cmp .lt (.var 2) (.sub (.sub (.var 1) (.var 3)) (.var 7)))) [.asg (.tp [.nm 4, .nm 5]) (.tup [.var 7, .bin .add (.var 5) (.tup [.var 6])]), .brk] [], .aug (.nm 2) .sub (.sub (.sub (.var 1) (.var 3)) (.var 7))]],
    .ret (.var 5)]⟩
/- place_of -/
def d19 : DefC := ⟨["summary", "log"], ["summary", "log", "ways", "total", "at", "event", "state", "row", "later"], [
    .ex (.call 12 [.var 0, .var 1] [] []),
    .asg (.nm 2) (.call 15 [.var 0, .call 14 [.var 0, .var 1] [] [], .prim .len [.var 1]] [] []),
    .asg (.nm 3) (.primc .sum (.comp [("row", 7)] (.nm 7) (.over (.slc (.var 2) [] [.neg (.con (.int 1))])) [] (.sub (.var 7) (.con (.int 0))))),
    .for_ (.tp [.nm 4, .nm 5]) (.enum (.var 1)) [.asg (.nm 6) (.call 13 [.var 0, .con (.int 0), .slc (.var 1) [] [.var 4]] [] []), .aug (.nm 3) .add (.primc .sum (.comp [("later", 8)] (.nm 8) (.over (.slc (.sub (.sub (.var 0) (.con (.int 1))) (.var 6)) [] [.var 5])) [] (.sub (.sub (.var 2) (.bin .sub (.bin .sub (.prim .len [.var 1]) (.var 4)) (.con (.int 1)))) (.var 8))))],
    .ret (.var 3)]⟩
/- _law_well -/
def d20 : DefC := ⟨["script", "at"], ["script", "at", "cell"], [
    .asg (.nm 2) (.ife (.val (.cmp .lt (.var 1) (.prim .len [.var 0]))) (.prim .int [.prim .abs [.sub (.var 0) (.var 1)]]) (.bin .add (.bin .mul (.con (.int 17)) (.var 1)) (.con (.int 5)))),
    .asg (.nm 2) (.bin .mod (.prim .int [.var 2]) (.bin .mul (.bin .mul (.bin .mul (.bin .pow (.con (.int 10)) (.con (.int 60))) (.bin .pow (.con (.int 10)) (.con (.int 60)))) (.bin .pow (.con (.int 10)) (.con (.int 60)))) (.bin .pow (.con (.int 10)) (.con (.int 60))))),
    .ret (.lst [.ife (.val (.cmp .ge (.var 2) (.bin .pow (.con (.int 10)) (.con (.int 18))))) (.var 2) (.con (.int 0)), .bin .mod (.prim .int [.var 2]) (.bin .add (.bin .pow (.con (.int 10)) (.con (.int 18))) (.con (.int 3))), .bin .mul (.con (.int 7)) (.var 1)])]⟩
/- _law_dip -/
def d21 : DefC := ⟨["well", "many"], ["well", "many", "one", "digit"], [
    .iff (.val (.cmp .gt (.sub (.var 0) (.con (.int 0))) (.con (.int 0)))) [.asg (.nm 3) (.bin .mod (.prim .int [.sub (.var 0) (.con (.int 0))]) (.var 1)), .asg (.sub (.var 0) (.con (.int 0))) (.bin .fdiv (.sub (.var 0) (.con (.int 0))) (.var 1)), .ret (.var 3)] [],
    .asg (.sub (.var 0) (.con (.int 2))) (.bin .add (.sub (.var 0) (.con (.int 2))) (.con (.int 1))),
    .asg (.nm 2) (.bin .mod (.prim .int [.bin .add (.bin .mul (.bin .add (.sub (.var 0) (.con (.int 1))) (.bin .mul (.con (.int 5003)) (.sub (.var 0) (.con (.int 2))))) (.con (.int 69621))) (.con (.int 271))]) (.con (.int 2147483549))),
    .asg (.nm 2) (.bin .mod (.prim .int [.bin .add (.bin .mul (.var 2) (.var 2)) (.bin .mul (.con (.int 13)) (.sub (.var 0) (.con (.int 2))))]) (.con (.int 2147483563))),
    .ret (.bin .mod (.prim .int [.bin .fdiv (.var 2) (.con (.int 19))]) (.var 1))]⟩
/- _law_pick -/
def d22 : DefC := ⟨["well", "rows"], ["well", "rows"], [
    .ret (.sub (.var 1) (.call 21 [.var 0, .prim .len [.var 1]] [] []))]⟩
/- _law_same -/
def d23 : DefC := ⟨["found", "due"], ["found", "due", "k"], [
    .iff (.val (.prim (.isi ["tuple", "list"] []) [.var 1])) [.iff (.or [.val (.cmp .ne (.prim (.isi ["tuple"] []) [.var 1]) (.prim (.isi ["tuple"] []) [.var 0])), .val (.cmp .ne (.prim (.isi ["list"] []) [.var 1]) (.prim (.isi ["list"] []) [.var 0]))]) [.ret (.con (.bl false))] [], .ret (.and [.cmp .eq (.prim .len [.var 0]) (.prim .len [.var 1]), .primc .all (.comp [("k", 2)] (.nm 2) (.rng [.prim .len [.var 1]]) [] (.call 23 [.sub (.var 0) (.var 2), .sub (.var 1) (.var 2)] [] []))])] [],
    .iff (.val (.cmp .isn (.var 1) (.con .non))) [.ret (.cmp .isn (.var 0) (.con .non))] [],
    .iff (.or [.val (.prim (.isi ["bool"] []) [.var 1]), .val (.prim (.isi ["bool"] []) [.var 0])]) [.ret (.and [.prim (.isi ["bool"] []) [.var 1], .prim (.isi ["bool"] []) [.var 0], .cmp .eq (.var 0) (.var 1)])] [],
    .ret (.and [.cmp .eq (.prim (.isi ["str"] []) [.var 0]) (.prim (.isi ["str"] []) [.var 1]), .prim (.isi ["int", "str"] []) [.var 0], .cmp .eq (.var 0) (.var 1)])]⟩
/- _law_logs -/
def d24 : DefC := ⟨["events", "length"], ["events", "length", "turn", "found", "latest", "longer", "log", "event"], [
    .asg (.tp [.nm 3, .nm 4]) (.tup [.lst [.tup []], .lst [.tup []]]),
    .for_ (.nm 2) (.rng [.var 1]) [.asg (.nm 5) (.lst []), .for_ (.nm 6) (.over (.var 4)) [.asg (.nm 5) (.bin .add (.var 5) (.comp [("event", 7)] (.nm 7) (.rng [.var 0]) [] (.bin .add (.var 6) (.tup [.var 7]))))], .asg (.tp [.nm 3, .nm 4]) (.tup [.bin .add (.var 3) (.var 5), .var 5])],
    .ret (.var 3)]⟩
/- _law_summary -/
def d25 : DefC := ⟨["well", "events", "most"], ["well", "events", "most", "states", "moves", "state", "event"], [
    .asg (.nm 3) (.bin .add (.con (.int 1)) (.call 21 [.var 0, .var 2] [] [])),
    .asg (.nm 4) (.primc .tuple (.comp [("state", 5)] (.nm 5) (.rng [.var 3]) [] (.primc .tuple (.comp [("event", 6)] (.nm 6) (.rng [.var 1]) [] (.call 21 [.var 0, .var 3] [] []))))),
    .ret (.tup [.var 1, .var 4, .primc .tuple (.comp [("state", 5)] (.nm 5) (.rng [.var 3]) [] (.call 21 [.var 0, .call 22 [.var 0, .lst [.con (.int 2), .con (.int 2), .con (.int 3)]] [] []] [] []))])]⟩
/- _law_led -/
def d26 : DefC := ⟨["summary", "state", "log"], ["summary", "state", "log", "event"], [
    .for_ (.nm 3) (.over (.var 2)) [.asg (.nm 1) (.sub (.sub (.sub (.var 0) (.con (.int 1))) (.var 1)) (.var 3))],
    .ret (.var 1)]⟩
/- _law_answer -/
def d27 : DefC := ⟨["summary", "log"], ["summary", "log"], [
    .ret (.sub (.sub (.var 0) (.con (.int 2))) (.call 26 [.var 0, .con (.int 0), .var 1] [] []))]⟩
/- _law_counts -/
def d28 : DefC := ⟨["summary", "number", "length"], ["summary", "number", "length", "turn", "latest", "found", "longer", "state", "event", "later"], [
    .asg (.tp [.nm 4, .nm 5]) (.tup [.comp [("state", 7)] (.nm 7) (.rng [.prim .len [.sub (.var 0) (.con (.int 1))]]) [] (.prim .int [.cmp .eq (.var 7) (.con (.int 0))]), .lst []]),
    .for_ (.nm 3) (.rng [.bin .add (.var 2) (.con (.int 1))]) [.ex (.bm .append (.var 5) [.primc .sum (.comp [("state", 7)] (.nm 7) (.rng [.prim .len [.var 4]]) [.val (.cmp .eq (.sub (.sub (.var 0) (.con (.int 2))) (.var 7)) (.var 1))] (.sub (.var 4) (.var 7)))]), .asg (.nm 6) (.bin .mul (.lst [.con (.int 0)]) (.prim .len [.var 4])), .for_ (.nm 7) (.rng [.prim .len [.var 4]]) [.for_ (.nm 8) (.rng [.sub (.var 0) (.con (.int 0))]) [.asg (.nm 9) (.sub (.sub (.sub (.var 0) (.con (.int 1))) (.var 7)) (.var 8)), .asg (.sub (.var 6) (.var 9)) (.bin .add (.sub (.var 6) (.var 9)) (.sub (.var 4) (.var 7)))]], .asg (.nm 4) (.var 6)],
    .ret (.var 5)]⟩
/- _law_error -/
def d29 : DefC := ⟨["which", "a"], ["which", "a", "caught", "e", "made"], [
    .asg (.nm 2) (.con .non),
    .try_ [.asg (.nm 4) (.ife (.val (.cmp .eq (.var 0) (.con (.int 0)))) (.call 17 [.sub (.var 1) (.con (.int 0)), .sub (.var 1) (.con (.int 1)), .sub (.var 1) (.con (.int 2))] [] []) (.call 19 [.sub (.var 1) (.con (.int 0)), .sub (.var 1) (.con (.int 1))] [] []))] (.keep 0 3 2),
    .iff (.val (.prim (.isi [] [2]) [.var 2])) [.ret (.tup [.con (.str "log"), .attr (.var 2) "index"])] [],
    .ret (.ife (.val (.prim (.isi [] [1]) [.var 2])) (.tup [.con (.str "number"), .con .non]) (.ife (.val (.cmp .isn (.var 2) (.con .non))) (.tup [.con (.str ""), .con .non]) (.tup [.con (.str "odd"), .con .non])))]⟩
/- _law_near_right -/
def d30 : DefC := ⟨["summary"], ["summary", "ahead", "log", "number", "place"], [
    .asg (.nm 1) (.dict []),
    .for_ (.nm 2) (.over (.call 24 [.sub (.var 0) (.con (.int 0)), .con (.int 4)] [] [])) [.asg (.nm 3) (.call 27 [.var 0, .var 2] [] []), .asg (.nm 4) (.bm .get2 (.var 1) [.var 3, .con (.int 0)]), .iff (.not (.val (.call 23 [.lst [.call 19 [.var 0] ["log"] [.var 2], .call 17 [.var 0, .var 3, .var 4] [] []], .lst [.var 4, .var 2]] [] []))) [.ret (.con (.bl false))] [], .asg (.sub (.var 1) (.var 3)) (.bin .add (.var 4) (.con (.int 1)))],
    .ret (.con (.bl true))]⟩
/- _law_far_right -/
def d31 : DefC := ⟨["well", "summary", "number"], ["well", "summary", "number", "is_endless", "place", "states", "counts", "latest", "told"], [
    .asg (.tp [.nm 5, .nm 6, .nm 7]) (.tup [.prim .len [.sub (.var 1) (.con (.int 1))], .call 28 [.var 1, .var 2, .con (.int 36)] [] [], .con .non]),
    .asg (.nm 3) (.cmp .gt (.prim .sum [.slc (.var 6) [.var 5] [.bin .mul (.con (.int 2)) (.var 5)]]) (.con (.int 0))),
    .for_ (.nm 4) (.over (.prim .sorted [.lst [.con (.int 0), .con (.int 1), .call 21 [.var 0, .con (.int 30)] [] [], .call 21 [.var 0, .bin .pow (.con (.int 10)) (.con (.int 4))] [] [], .call 21 [.var 0, .bin .pow (.con (.int 10)) (.con (.int 9))] [] []]])) [.iff (.or [.not (.val (.var 3)), .val (.cmp .lt (.var 4) (.prim .sum [.var 6]))]) [.asg (.nm 8) (.call 17 [.var 1, .var 2] ["place"] [.var 4]), .iff (.val (.cmp .ne (.cmp .isn (.var 8) (.con .non)) (.and [.not (.var 3), .cmp .ge (.var 4) (.prim .sum [.var 6])]))) [.ret (.con (.bl false))] [], .iff (.val (.cmp .isnt (.var 8) (.con .non))) [.iff (.or [.val (.cmp .ne (.call 27 [.var 1, .var 8] [] []) (.var 2)), .not (.val (.call 23 [.call 19 [.var 1, .var 8] [] [], .var 4] [] []))]) [.ret (.con (.bl false))] [], .iff (.and [.val (.cmp .isnt (.var 7) (.con .non)), .val (.cmp .lt (.tup [.prim .len [.var 8], .var 8]) (.tup [.prim .len [.var 7], .var 7]))]) [.ret (.con (.bl false))] [], .asg (.nm 7) (.var 8)] []] []],
    .ret (.con (.bl true))]⟩
/- law -/
def d32 : DefC := ⟨["script"], ["script", "at", "well", "summary", "number", "events", "rows", "which", "a", "due"], [
    .for_ (.nm 1) (.rng [.prim .max2 [.con (.int 2), .prim .min2 [.con (.int 6), .prim .len [.var 0]]]]) [.asg (.nm 2) (.call 20 [.var 0, .var 1] [] []), .asg (.nm 3) (.call 25 [.var 2, .bin .add (.con (.int 1)) (.call 21 [.var 2, .con (.int 3)] [] []), .con (.int 5)] [] []), .iff (.not (.val (.call 30 [.var 3] [] []))) [.ret (.con (.bl false))] [], .for_ (.nm 4) (.over (.lst [.con (.int 0), .con (.int 1), .con (.int 2), .con (.int 7)])) [.iff (.not (.val (.call 31 [.var 2, .var 3, .var 4] [] []))) [.ret (.con (.bl false))] []], .asg (.nm 5) (.sub (.var 3) (.con (.int 0))), .asg (.nm 6) (.lst [.tup [.con (.int 0), .lst [.var 3, .neg (.con (.int 1)), .con .non], .tup [.con (.str "number"), .con .non]], .tup [.con (.int 0), .lst [.var 3, .con (.bl true), .con (.int 0)], .tup [.con (.str "number"), .con .non]], .tup [.con (.int 0), .lst [.var 3, .con (.int 0), .neg (.con (.int 1))], .tup [.con (.str "number"), .con .non]]]), .asg (.nm 6) (.bin .add (.var 6) (.lst [.tup [.con (.int 0), .lst [.var 3, .con (.int 0), .con (.str "1")], .tup [.con (.str "number"), .con .non]], .tup [.con (.int 0), .lst [.var 3, .con (.int 5), .bin .pow (.con (.int 10)) (.con (.int 20))], .tup [.con (.str ""), .con .non]], .tup [.con (.int 1), .lst [.var 3, .tup [.con (.int 0), .var 5]], .tup [.con (.str "log"), .con (.int 1)]]])), .asg (.nm 6) (.bin .add (.var 6) (.lst [.tup [.con (.int 1), .lst [.var 3, .lst [.con (.int 0)]], .tup [.con (.str "log"), .neg (.con (.int 1))]], .tup [.con (.int 1), .lst [.var 3, .tup [.con (.bl true)]], .tup [.con (.str "log"), .con (.int 0)]], .tup [.con (.int 1), .lst [.var 3, .tup [.con (.int 0), .con (.int 0)]], .tup [.con (.str ""), .con .non]]])), .iff (.val (.cmp .ne (.comp [("which", 7), ("a", 8), ("due", 9)] (.tp [.nm 7, .nm 8, .nm 9]) (.over (.var 6)) [.val (.cmp .ne (.call 29 [.var 7, .var 8] [] []) (.var 9))] (.con (.int 1))) (.lst []))) [.ret (.con (.bl false))] []],
    .ret (.con (.bl true))]⟩
def defs : List DefC := ([d0, d1, d2, d3, d4, d5, d6, d7, d8, d9, d10, d11, d12, d13, d14, d15, d16, d17, d18, d19, d20, d21, d22, d23, d24, d25, d26, d27, d28, d29] : List DefC) ++ ([d30, d31, d32] : List DefC)
def gc : Gc := ⟨defs, [], [(19, 1, ["log"]), (17, 2, ["place"])], [(0, [0]), (1, [1, 0]), (2, [2, 0]), (3, [3, 0])], [0, 1], [(2, ⟨0, "index", "not a log, at index ", 0⟩), (3, ⟨1, "place", "not a summary, at ", 0⟩)], 1000000⟩
def gl : Gl := ([("is_integer", .fn 2), ("is_from", .fn 3), ("is_below", .fn 4), ("is_tuple", .fn 5), ("is_row", .fn 6), ("row_fault", .fn 7), ("check_number", .fn 8), ("check_log", .fn 9), ("summary_fault", .fn 10), ("check_summary", .fn 11), ("check_read", .fn 12), ("led", .fn 13), ("answer_in", .fn 14), ("ends_with", .fn 15), ("has_answer", .fn 16), ("log_at", .fn 17), ("log_by", .fn 18), ("place_of", .fn 19), ("_law_well", .fn 20), ("_law_dip", .fn 21), ("_law_pick", .fn 22), ("_law_same", .fn 23), ("_law_logs", .fn 24), ("_law_summary", .fn 25), ("_law_led", .fn 26), ("_law_answer", .fn 27), ("_law_counts", .fn 28), ("_law_error", .fn 29), ("_law_near_right", .fn 30), ("_law_far_right", .fn 31)] : Gl) ++ ([("law", .fn 32), ("ArriveError", .cls 0), ("InvalidNumber", .cls 1), ("InvalidLog", .cls 2), ("InvalidSummary", .cls 3), ("len", .blt), ("int", .blt), ("str", .blt), ("bool", .blt), ("tuple", .blt), ("list", .blt), ("range", .blt), ("enumerate", .blt), ("sorted", .blt), ("sum", .blt), ("min", .blt), ("max", .blt), ("abs", .blt), ("any", .blt), ("all", .blt), ("isinstance", .blt)] : Gl)
def cn : List PySem.Str := (["ArriveError", "InvalidNumber", "InvalidLog", "InvalidSummary"] : List PySem.Str)
def p0 : AH.DefP := AH.DefP.of (fun K => ma K (ga K "InvalidLog") "__init__") "__init__" "InvalidLog.__init__" (L2.inClass (top 3) 0)
def p1 : AH.DefP := AH.DefP.of (fun K => ma K (ga K "InvalidSummary") "__init__") "__init__" "InvalidSummary.__init__" (L2.inClass (top 4) 0)
def p2 : AH.DefP := AH.DefP.of (fun K => ga K "is_integer") "is_integer" "is_integer" (top 6)
def p3 : AH.DefP := AH.DefP.of (fun K => ga K "is_from") "is_from" "is_from" (top 7)
def p4 : AH.DefP := AH.DefP.of (fun K => ga K "is_below") "is_below" "is_below" (top 8)
def p5 : AH.DefP := AH.DefP.of (fun K => ga K "is_tuple") "is_tuple" "is_tuple" (top 9)
def p6 : AH.DefP := AH.DefP.of (fun K => ga K "is_row") "is_row" "is_row" (top 10)
def p7 : AH.DefP := AH.DefP.of (fun K => ga K "row_fault") "row_fault" "row_fault" (top 11)
def p8 : AH.DefP := AH.DefP.of (fun K => ga K "check_number") "check_number" "check_number" (top 12)
def p9 : AH.DefP := AH.DefP.of (fun K => ga K "check_log") "check_log" "check_log" (top 13)
def p10 : AH.DefP := AH.DefP.of (fun K => ga K "summary_fault") "summary_fault" "summary_fault" (top 15)
def p11 : AH.DefP := AH.DefP.of (fun K => ga K "check_summary") "check_summary" "check_summary" (top 16)
def p12 : AH.DefP := AH.DefP.of (fun K => ga K "check_read") "check_read" "check_read" (top 17)
def p13 : AH.DefP := AH.DefP.of (fun K => ga K "led") "led" "led" (top 18)
def p14 : AH.DefP := AH.DefP.of (fun K => ga K "answer_in") "answer_in" "answer_in" (top 19)
def p15 : AH.DefP := AH.DefP.of (fun K => ga K "ends_with") "ends_with" "ends_with" (top 21)
def p16 : AH.DefP := AH.DefP.of (fun K => ga K "has_answer") "has_answer" "has_answer" (top 22)
def p17 : AH.DefP := AH.DefP.of (fun K => ga K "log_at") "log_at" "log_at" (top 23)
def p18 : AH.DefP := AH.DefP.of (fun K => ga K "log_by") "log_by" "log_by" (top 24)
def p19 : AH.DefP := AH.DefP.of (fun K => ga K "place_of") "place_of" "place_of" (top 25)
def p20 : AH.DefP := AH.DefP.of (fun K => ga K "_law_well") "_law_well" "_law_well" (top 27)
def p21 : AH.DefP := AH.DefP.of (fun K => ga K "_law_dip") "_law_dip" "_law_dip" (top 28)
def p22 : AH.DefP := AH.DefP.of (fun K => ga K "_law_pick") "_law_pick" "_law_pick" (top 29)
def p23 : AH.DefP := AH.DefP.of (fun K => ga K "_law_same") "_law_same" "_law_same" (top 30)
def p24 : AH.DefP := AH.DefP.of (fun K => ga K "_law_logs") "_law_logs" "_law_logs" (top 31)
def p25 : AH.DefP := AH.DefP.of (fun K => ga K "_law_summary") "_law_summary" "_law_summary" (top 32)
def p26 : AH.DefP := AH.DefP.of (fun K => ga K "_law_led") "_law_led" "_law_led" (top 33)
def p27 : AH.DefP := AH.DefP.of (fun K => ga K "_law_answer") "_law_answer" "_law_answer" (top 34)
def p28 : AH.DefP := AH.DefP.of (fun K => ga K "_law_counts") "_law_counts" "_law_counts" (top 35)
def p29 : AH.DefP := AH.DefP.of (fun K => ga K "_law_error") "_law_error" "_law_error" (top 36)
def p30 : AH.DefP := AH.DefP.of (fun K => ga K "_law_near_right") "_law_near_right" "_law_near_right" (top 37)
def p31 : AH.DefP := AH.DefP.of (fun K => ga K "_law_far_right") "_law_far_right" "_law_far_right" (top 38)
def p32 : AH.DefP := AH.DefP.of (fun K => ga K "law") "law" "law" (top 39)
def fn : List AH.DefP := ([p0, p1, p2, p3, p4, p5, p6, p7, p8, p9, p10, p11, p12, p13, p14, p15, p16, p17, p18, p19, p20, p21, p22, p23, p24, p25, p26, p27, p28, p29] : List AH.DefP) ++ ([p30, p31, p32] : List AH.DefP)
def T : Tab := ⟨gl, gc, cn, fn⟩
theorem dk0 : DefOk T.gl T.gc 0 d0 p0 where
  body := .inl rfl
  bind := fun _ _ _ _ _ _ us hl => match us, hl with
    | [_, _], _ => rfl
  kws := fun n ks hm => absurd hm (AM.no_kw (by decide +kernel))
theorem dk1 : DefOk T.gl T.gc 1 d1 p1 where
  body := .inl rfl
  bind := fun _ _ _ _ _ _ us hl => match us, hl with
    | [_, _], _ => rfl
  kws := fun n ks hm => absurd hm (AM.no_kw (by decide +kernel))
theorem ok2 : okD gl d2 (top 6) = true := by decide +kernel
theorem dk2 : DefOk T.gl T.gc 2 d2 p2 where
  body := .inr (Bool.and_eq_true_iff.mp ok2)
  bind := fun _ _ _ _ _ _ us hl => match us, hl with
    | [_], _ => rfl
  kws := fun n ks hm => absurd hm (AM.no_kw (by decide +kernel))
theorem ok3 : okD gl d3 (top 7) = true := by decide +kernel
theorem dk3 : DefOk T.gl T.gc 3 d3 p3 where
  body := .inr (Bool.and_eq_true_iff.mp ok3)
  bind := fun _ _ _ _ _ _ us hl => match us, hl with
    | [_, _], _ => rfl
  kws := fun n ks hm => absurd hm (AM.no_kw (by decide +kernel))
theorem ok4 : okD gl d4 (top 8) = true := by decide +kernel
theorem dk4 : DefOk T.gl T.gc 4 d4 p4 where
  body := .inr (Bool.and_eq_true_iff.mp ok4)
  bind := fun _ _ _ _ _ _ us hl => match us, hl with
    | [_, _], _ => rfl
  kws := fun n ks hm => absurd hm (AM.no_kw (by decide +kernel))
theorem ok5 : okD gl d5 (top 9) = true := by decide +kernel
theorem dk5 : DefOk T.gl T.gc 5 d5 p5 where
  body := .inr (Bool.and_eq_true_iff.mp ok5)
  bind := fun _ _ _ _ _ _ us hl => match us, hl with
    | [_, _], _ => rfl
  kws := fun n ks hm => absurd hm (AM.no_kw (by decide +kernel))
theorem ok6 : okD gl d6 (top 10) = true := by decide +kernel
theorem dk6 : DefOk T.gl T.gc 6 d6 p6 where
  body := .inr (Bool.and_eq_true_iff.mp ok6)
  bind := fun _ _ _ _ _ _ us hl => match us, hl with
    | [_, _], _ => rfl
  kws := fun n ks hm => absurd hm (AM.no_kw (by decide +kernel))
theorem ok7 : okD gl d7 (top 11) = true := by decide +kernel
theorem dk7 : DefOk T.gl T.gc 7 d7 p7 where
  body := .inr (Bool.and_eq_true_iff.mp ok7)
  bind := fun _ _ _ _ _ _ us hl => match us, hl with
    | [_, _], _ => rfl
  kws := fun n ks hm => absurd hm (AM.no_kw (by decide +kernel))
theorem ok8 : okD gl d8 (top 12) = true := by decide +kernel
theorem dk8 : DefOk T.gl T.gc 8 d8 p8 where
  body := .inr (Bool.and_eq_true_iff.mp ok8)
  bind := fun _ _ _ _ _ _ us hl => match us, hl with
    | [_], _ => rfl
  kws := fun n ks hm => absurd hm (AM.no_kw (by decide +kernel))
theorem ok9 : okD gl d9 (top 13) = true := by decide +kernel
theorem dk9 : DefOk T.gl T.gc 9 d9 p9 where
  body := .inr (Bool.and_eq_true_iff.mp ok9)
  bind := fun _ _ _ _ _ _ us hl => match us, hl with
    | [_, _], _ => rfl
  kws := fun n ks hm => absurd hm (AM.no_kw (by decide +kernel))
theorem ok10 : okD gl d10 (top 15) = true := by decide +kernel
theorem dk10 : DefOk T.gl T.gc 10 d10 p10 where
  body := .inr (Bool.and_eq_true_iff.mp ok10)
  bind := fun _ _ _ _ _ _ us hl => match us, hl with
    | [_], _ => rfl
  kws := fun n ks hm => absurd hm (AM.no_kw (by decide +kernel))
theorem ok11 : okD gl d11 (top 16) = true := by decide +kernel
theorem dk11 : DefOk T.gl T.gc 11 d11 p11 where
  body := .inr (Bool.and_eq_true_iff.mp ok11)
  bind := fun _ _ _ _ _ _ us hl => match us, hl with
    | [_], _ => rfl
  kws := fun n ks hm => absurd hm (AM.no_kw (by decide +kernel))
theorem ok12 : okD gl d12 (top 17) = true := by decide +kernel
theorem dk12 : DefOk T.gl T.gc 12 d12 p12 where
  body := .inr (Bool.and_eq_true_iff.mp ok12)
  bind := fun _ _ _ _ _ _ us hl => match us, hl with
    | [_, _], _ => rfl
  kws := fun n ks hm => absurd hm (AM.no_kw (by decide +kernel))
theorem ok13 : okD gl d13 (top 18) = true := by decide +kernel
theorem dk13 : DefOk T.gl T.gc 13 d13 p13 where
  body := .inr (Bool.and_eq_true_iff.mp ok13)
  bind := fun _ _ _ _ _ _ us hl => match us, hl with
    | [_, _, _], _ => rfl
  kws := fun n ks hm => absurd hm (AM.no_kw (by decide +kernel))
theorem ok14 : okD gl d14 (top 19) = true := by decide +kernel
theorem dk14 : DefOk T.gl T.gc 14 d14 p14 where
  body := .inr (Bool.and_eq_true_iff.mp ok14)
  bind := fun _ _ _ _ _ _ us hl => match us, hl with
    | [_, _], _ => rfl
  kws := fun n ks hm => absurd hm (AM.no_kw (by decide +kernel))
theorem ok15 : okD gl d15 (top 21) = true := by decide +kernel
theorem dk15 : DefOk T.gl T.gc 15 d15 p15 where
  body := .inr (Bool.and_eq_true_iff.mp ok15)
  bind := fun _ _ _ _ _ _ us hl => match us, hl with
    | [_, _, _], _ => rfl
  kws := fun n ks hm => absurd hm (AM.no_kw (by decide +kernel))
theorem ok16 : okD gl d16 (top 22) = true := by decide +kernel
theorem dk16 : DefOk T.gl T.gc 16 d16 p16 where
  body := .inr (Bool.and_eq_true_iff.mp ok16)
  bind := fun _ _ _ _ _ _ us hl => match us, hl with
    | [_, _], _ => rfl
  kws := fun n ks hm => absurd hm (AM.no_kw (by decide +kernel))
theorem ok17 : okD gl d17 (top 23) = true := by decide +kernel
theorem kw17_0 : ∀ (kV doc pm : Value) (an : Option Addr) (cdv ct : Value) (us ws vs : List Value), us.length = 2 → ws.length = 1 → (permOf d17.ps 2 ["place"]).bind (pick (us ++ ws)) = some vs →
    bindArgs (PySem.W.fnOf p17.name p17.qual p17.params p17.body p17.scope .none kV doc pm an cdv ct) ⟨us, (["place"] : List PySem.Str).zip ws⟩ = pure (d17.ps.zip vs) := fun kV doc pm an cdv ct us ws vs h1 h2 h3 => match us, ws, h1, h2, h3 with
  | [u0, u1], [w0], _, _, h3 => by
    have e : (permOf d17.ps 2 ["place"]) = some [0, 1, 2] := by decide +kernel
    rw [e] at h3
    cases h3
    rfl
theorem kwm17 : ∀ n ks, (17, n, ks) ∈ gc.kws → (n = 2 ∧ ks = (["place"] : List PySem.Str)) := fun n ks hm => by
  have e := AM.some_kw (gc := gc) (f := 17) (l := [(2, (["place"] : List PySem.Str))]) (by decide +kernel) hm
  simpa using e
theorem dk17 : DefOk T.gl T.gc 17 d17 p17 where
  body := .inr (Bool.and_eq_true_iff.mp ok17)
  bind := fun _ _ _ _ _ _ us hl => match us, hl with
    | [_, _, _], _ => rfl
  kws := fun n ks hm => by
    rcases kwm17 n ks hm with ⟨rfl, rfl⟩
    · exact kw17_0
theorem ok18 : okD gl d18 (top 24) = true := by decide +kernel
theorem dk18 : DefOk T.gl T.gc 18 d18 p18 where
  body := .inr (Bool.and_eq_true_iff.mp ok18)
  bind := fun _ _ _ _ _ _ us hl => match us, hl with
    | [_, _, _], _ => rfl
  kws := fun n ks hm => absurd hm (AM.no_kw (by decide +kernel))
theorem ok19 : okD gl d19 (top 25) = true := by decide +kernel
theorem kw19_0 : ∀ (kV doc pm : Value) (an : Option Addr) (cdv ct : Value) (us ws vs : List Value), us.length = 1 → ws.length = 1 → (permOf d19.ps 1 ["log"]).bind (pick (us ++ ws)) = some vs →
    bindArgs (PySem.W.fnOf p19.name p19.qual p19.params p19.body p19.scope .none kV doc pm an cdv ct) ⟨us, (["log"] : List PySem.Str).zip ws⟩ = pure (d19.ps.zip vs) := fun kV doc pm an cdv ct us ws vs h1 h2 h3 => match us, ws, h1, h2, h3 with
  | [u0], [w0], _, _, h3 => by
    have e : (permOf d19.ps 1 ["log"]) = some [0, 1] := by decide +kernel
    rw [e] at h3
    cases h3
    rfl
theorem kwm19 : ∀ n ks, (19, n, ks) ∈ gc.kws → (n = 1 ∧ ks = (["log"] : List PySem.Str)) := fun n ks hm => by
  have e := AM.some_kw (gc := gc) (f := 19) (l := [(1, (["log"] : List PySem.Str))]) (by decide +kernel) hm
  simpa using e
theorem dk19 : DefOk T.gl T.gc 19 d19 p19 where
  body := .inr (Bool.and_eq_true_iff.mp ok19)
  bind := fun _ _ _ _ _ _ us hl => match us, hl with
    | [_, _], _ => rfl
  kws := fun n ks hm => by
    rcases kwm19 n ks hm with ⟨rfl, rfl⟩
    · exact kw19_0
theorem ok20 : okD gl d20 (top 27) = true := by decide +kernel
theorem dk20 : DefOk T.gl T.gc 20 d20 p20 where
  body := .inr (Bool.and_eq_true_iff.mp ok20)
  bind := fun _ _ _ _ _ _ us hl => match us, hl with
    | [_, _], _ => rfl
  kws := fun n ks hm => absurd hm (AM.no_kw (by decide +kernel))
theorem ok21 : okD gl d21 (top 28) = true := by decide +kernel
theorem dk21 : DefOk T.gl T.gc 21 d21 p21 where
  body := .inr (Bool.and_eq_true_iff.mp ok21)
  bind := fun _ _ _ _ _ _ us hl => match us, hl with
    | [_, _], _ => rfl
  kws := fun n ks hm => absurd hm (AM.no_kw (by decide +kernel))
theorem ok22 : okD gl d22 (top 29) = true := by decide +kernel
theorem dk22 : DefOk T.gl T.gc 22 d22 p22 where
  body := .inr (Bool.and_eq_true_iff.mp ok22)
  bind := fun _ _ _ _ _ _ us hl => match us, hl with
    | [_, _], _ => rfl
  kws := fun n ks hm => absurd hm (AM.no_kw (by decide +kernel))
theorem ok23 : okD gl d23 (top 30) = true := by decide +kernel
theorem dk23 : DefOk T.gl T.gc 23 d23 p23 where
  body := .inr (Bool.and_eq_true_iff.mp ok23)
  bind := fun _ _ _ _ _ _ us hl => match us, hl with
    | [_, _], _ => rfl
  kws := fun n ks hm => absurd hm (AM.no_kw (by decide +kernel))
theorem ok24 : okD gl d24 (top 31) = true := by decide +kernel
theorem dk24 : DefOk T.gl T.gc 24 d24 p24 where
  body := .inr (Bool.and_eq_true_iff.mp ok24)
  bind := fun _ _ _ _ _ _ us hl => match us, hl with
    | [_, _], _ => rfl
  kws := fun n ks hm => absurd hm (AM.no_kw (by decide +kernel))
theorem ok25 : okD gl d25 (top 32) = true := by decide +kernel
theorem dk25 : DefOk T.gl T.gc 25 d25 p25 where
  body := .inr (Bool.and_eq_true_iff.mp ok25)
  bind := fun _ _ _ _ _ _ us hl => match us, hl with
    | [_, _, _], _ => rfl
  kws := fun n ks hm => absurd hm (AM.no_kw (by decide +kernel))
theorem ok26 : okD gl d26 (top 33) = true := by decide +kernel
theorem dk26 : DefOk T.gl T.gc 26 d26 p26 where
  body := .inr (Bool.and_eq_true_iff.mp ok26)
  bind := fun _ _ _ _ _ _ us hl => match us, hl with
    | [_, _, _], _ => rfl
  kws := fun n ks hm => absurd hm (AM.no_kw (by decide +kernel))
theorem ok27 : okD gl d27 (top 34) = true := by decide +kernel
theorem dk27 : DefOk T.gl T.gc 27 d27 p27 where
  body := .inr (Bool.and_eq_true_iff.mp ok27)
  bind := fun _ _ _ _ _ _ us hl => match us, hl with
    | [_, _], _ => rfl
  kws := fun n ks hm => absurd hm (AM.no_kw (by decide +kernel))
theorem ok28 : okD gl d28 (top 35) = true := by decide +kernel
theorem dk28 : DefOk T.gl T.gc 28 d28 p28 where
  body := .inr (Bool.and_eq_true_iff.mp ok28)
  bind := fun _ _ _ _ _ _ us hl => match us, hl with
    | [_, _, _], _ => rfl
  kws := fun n ks hm => absurd hm (AM.no_kw (by decide +kernel))
theorem ok29 : okD gl d29 (top 36) = true := by decide +kernel
theorem dk29 : DefOk T.gl T.gc 29 d29 p29 where
  body := .inr (Bool.and_eq_true_iff.mp ok29)
  bind := fun _ _ _ _ _ _ us hl => match us, hl with
    | [_, _], _ => rfl
  kws := fun n ks hm => absurd hm (AM.no_kw (by decide +kernel))
theorem ok30 : okD gl d30 (top 37) = true := by decide +kernel
theorem dk30 : DefOk T.gl T.gc 30 d30 p30 where
  body := .inr (Bool.and_eq_true_iff.mp ok30)
  bind := fun _ _ _ _ _ _ us hl => match us, hl with
    | [_], _ => rfl
  kws := fun n ks hm => absurd hm (AM.no_kw (by decide +kernel))
theorem ok31 : okD gl d31 (top 38) = true := by decide +kernel
theorem dk31 : DefOk T.gl T.gc 31 d31 p31 where
  body := .inr (Bool.and_eq_true_iff.mp ok31)
  bind := fun _ _ _ _ _ _ us hl => match us, hl with
    | [_, _, _], _ => rfl
  kws := fun n ks hm => absurd hm (AM.no_kw (by decide +kernel))
theorem ok32 : okD gl d32 (top 39) = true := by decide +kernel
theorem dk32 : DefOk T.gl T.gc 32 d32 p32 where
  body := .inr (Bool.and_eq_true_iff.mp ok32)
  bind := fun _ _ _ _ _ _ us hl => match us, hl with
    | [_], _ => rfl
  kws := fun n ks hm => absurd hm (AM.no_kw (by decide +kernel))
theorem dall : DefOks T.gl T.gc 0 T.gc.defs T.fn := .cons dk0 (.cons dk1 (.cons dk2 (.cons dk3 (.cons dk4 (.cons dk5 (.cons dk6 (.cons dk7 (.cons dk8 (.cons dk9 (.cons dk10 (.cons dk11 (.cons dk12 (.cons dk13 (.cons dk14 (.cons dk15 (.cons dk16 (.cons dk17 (.cons dk18 (.cons dk19 (.cons dk20 (.cons dk21 (.cons dk22 (.cons dk23 (.cons dk24 (.cons dk25 (.cons dk26 (.cons dk27 (.cons dk28 (.cons dk29 (.cons dk30 (.cons dk31 (.cons dk32 (.nil)))))))))))))))))))))))))))))))))
end Law
namespace Law
open PySem PySem.Spec PyProof.Rows L2 He AH AM
abbrev R : PySem.W.OpenRow := PySem.W.OpenLaw.row PySem.Challenge.rw_arrivesalike_k82_logs_by_their_numbers
abbrev hk : PySem.W.Hook := AH.hookP 6 T.fa T.fn
def ob (s : PySem.W.SharedT) : AH.AlP := AH.obsPG 6 T.fa T.fn (HandSHeadRun.getT s)
theorem ob_eq (s : PySem.W.SharedT) : ob s = hk.obs s.abs := AH.obsPG_eq (HandSHeadRun.getT_eq s)
def loose : List PySem.Str := (["ArriveError", "InvalidNumber", "InvalidLog", "InvalidSummary", "is_integer", "is_from", "is_below", "is_tuple", "is_row", "row_fault", "check_number", "check_log", "summary_fault", "check_summary", "check_read", "led", "answer_in", "ends_with", "has_answer", "log_at", "log_by", "place_of", "_law_well", "_law_dip", "_law_pick", "_law_same", "_law_logs", "_law_summary", "_law_led", "_law_answer"] : List PySem.Str) ++ (["_law_counts", "_law_error", "_law_near_right", "_law_far_right"] : List PySem.Str)
theorem run (w : World) : HandSHeadRun.RunEq R (PySem.W.view R.prog [39]) hk ob 4000 loose w := by
  intro os
  kernel_rfl
end Law
/-! Logs by their numbers: the plain law. -/
namespace K82
open PySem AM
/-! sums -/
def sm (n : Nat) (f : Nat → Int) : Int := ((List.range n).map f).sum
theorem sm_zero (f : Nat → Int) : sm 0 f = 0 := rfl
theorem sm_succ (n : Nat) (f : Nat → Int) : sm (n + 1) f = sm n f + f n := by
  unfold sm
  rw [List.range_succ, List.map_append, List.sum_append]
  simp
theorem sm_nonneg {f : Nat → Int} (h : ∀ i, 0 ≤ f i) : ∀ n, 0 ≤ sm n f
  | 0 => Int.le_refl _
  | n + 1 => by
    rw [sm_succ]
    have := sm_nonneg h n
    have := h n
    omega
theorem sm_le {f : Nat → Int} (h : ∀ i, 0 ≤ f i) : ∀ {n e : Nat}, e ≤ n → sm e f ≤ sm n f
  | 0, e, he => by
    have : e = 0 := by omega
    subst this
    exact Int.le_refl _
  | n + 1, e, he => by
    by_cases q : e = n + 1
    · subst q
      exact Int.le_refl _
    · have := sm_le h (show e ≤ n by omega)
      have := h n
      rw [sm_succ]
      omega
theorem sm_lt {f : Nat → Int} (h : ∀ i, 0 ≤ f i) {n e : Nat} (he : e < n) : sm e f + f e ≤ sm n f := by
  rw [← sm_succ]
  exact sm_le h he
theorem sm_congr {f g : Nat → Int} : ∀ {n : Nat}, (∀ i, i < n → f i = g i) → sm n f = sm n g
  | 0, _ => rfl
  | n + 1, h => by
    rw [sm_succ, sm_succ, sm_congr fun i hi => h i (by omega), h n (by omega)]
theorem sm_add (f g : Nat → Int) : ∀ n, sm n (fun i => f i + g i) = sm n f + sm n g
  | 0 => rfl
  | n + 1 => by
    rw [sm_succ, sm_succ, sm_succ, sm_add f g n]
    omega
theorem sm_mul (c : Int) (f : Nat → Int) : ∀ n, sm n (fun i => c * f i) = c * sm n f
  | 0 => by simp [sm_zero]
  | n + 1 => by
    rw [sm_succ, sm_succ, sm_mul c f n, Int.mul_add]
/-- the place of a number within a sum -/
theorem sm_pick {f : Nat → Int} : ∀ {n : Nat} {left : Int}, 0 ≤ left → left < sm n f → ∃ e, e < n ∧ sm e f ≤ left ∧ left < sm e f + f e
  | 0, left, h1, h2 => by rw [sm_zero] at h2; omega
  | n + 1, left, h1, h2 => by
    by_cases q : left < sm n f
    · obtain ⟨e, a, b, c⟩ := sm_pick h1 q
      exact ⟨e, by omega, b, c⟩
    · rw [sm_succ] at h2
      exact ⟨n, by omega, by omega, h2⟩
section
variable (δ : Int → Int → Int) (ev : Nat) (good : Int → Bool)
def run (q : Int) (es : List Int) : Int := es.foldl δ q
def cnt : Nat → Int → Int
  | 0, q => if good q then 1 else 0
  | n + 1, q => sm ev fun e => cnt n (δ q e)
theorem cnt_nonneg : ∀ (n : Nat) (q : Int), 0 ≤ cnt δ ev good n q
  | 0, q => by unfold cnt; split <;> decide
  | n + 1, q => sm_nonneg (fun i => cnt_nonneg n _) ev
def lexr : Int → List Int → Int
  | _, [] => 0
  | q, e :: es => sm e.toNat (fun i => cnt δ ev good es.length (δ q i)) + lexr (δ q e) es
theorem lexr_nonneg : ∀ (es : List Int) (q : Int), 0 ≤ lexr δ ev good q es
  | [], q => Int.le_refl _
  | e :: es, q => by
    unfold lexr
    have := lexr_nonneg es (δ q e)
    have := sm_nonneg (f := fun i => cnt δ ev good es.length (δ q i)) (fun i => cnt_nonneg δ ev good _ _) e.toNat
    omega
theorem lexr_lt : ∀ (es : List Int) (q : Int), Evs ev es → good (run δ q es) = true → lexr δ ev good q es < cnt δ ev good es.length q
  | [], q, _, h => by
    have h : good q = true := h
    show (0 : Int) < (if good q = true then 1 else 0)
    rw [if_pos h]
    decide
  | e :: es, q, hv, h => by
    obtain ⟨h1, h2⟩ := hv e List.mem_cons_self
    have ih := lexr_lt es (δ q e) (fun x hx => hv x (List.mem_cons_of_mem _ hx)) h
    obtain ⟨k, rfl⟩ : ∃ k : Nat, e = k := ⟨e.toNat, by omega⟩
    have := sm_lt (f := fun i => cnt δ ev good es.length (δ q i)) (fun i => cnt_nonneg δ ev good _ _) (show k < ev by omega)
    unfold lexr
    rw [List.length_cons, cnt]
    rw [Int.toNat_natCast]
    omega
/-- places of all logs -/
def rank (q : Int) (es : List Int) : Int := sm es.length (fun k => cnt δ ev good k q) + lexr δ ev good q es
def lexB : List Int → List Int → Bool
  | [], [] => false
  | [], _ :: _ => true
  | _ :: _, [] => false
  | a :: x, b :: y => decide (a < b) || (decide (a = b) && lexB x y)
def llt (x y : List Int) : Bool := decide (x.length < y.length) || (decide (x.length = y.length) && lexB x y)
theorem lexr_mono : ∀ (x y : List Int) (q : Int), Evs ev x → Evs ev y → x.length = y.length → lexB x y = true → good (run δ q x) = true → lexr δ ev good q x < lexr δ ev good q y
  | [], [], q, _, _, _, h, _ => by cases h
  | [], _ :: _, q, _, _, h, _, _ => by cases h
  | _ :: _, [], q, _, _, h, _, _ => by cases h
  | a :: x, b :: y, q, hx, hy, hl, h, g => by
    obtain ⟨a1, a2⟩ := hx a List.mem_cons_self
    obtain ⟨b1, b2⟩ := hy b List.mem_cons_self
    have hl2 : x.length = y.length := by simpa using hl
    obtain ⟨k, rfl⟩ : ∃ k : Nat, a = k := ⟨a.toNat, by omega⟩
    obtain ⟨j, rfl⟩ : ∃ j : Nat, b = j := ⟨b.toNat, by omega⟩
    unfold lexB at h
    unfold lexr
    rw [Int.toNat_natCast, Int.toNat_natCast, hl2]
    rcases Bool.or_eq_true_iff.mp h with h | h
    · have h := of_decide_eq_true h
      have s := sm_lt (f := fun i => cnt δ ev good y.length (δ q i)) (fun i => cnt_nonneg δ ev good _ _) (show k < j by omega)
      have l := lexr_lt δ ev good x (δ q k) (fun z hz => hx z (List.mem_cons_of_mem _ hz)) g
      rw [hl2] at l
      have := lexr_nonneg δ ev good y (δ q j)
      omega
    · rw [Bool.and_eq_true, decide_eq_true_eq] at h
      have e : k = j := by omega
      subst e
      have := lexr_mono x y (δ q k) (fun z hz => hx z (List.mem_cons_of_mem _ hz)) (fun z hz => hy z (List.mem_cons_of_mem _ hz)) hl2 h.2 g
      omega
theorem rank_mono {x y : List Int} {q : Int} (hx : Evs ev x) (hy : Evs ev y) (h : llt x y = true) (g : good (run δ q x) = true) : rank δ ev good q x < rank δ ev good q y := by
  unfold rank
  unfold llt at h
  rcases Bool.or_eq_true_iff.mp h with h | h
  · have h := of_decide_eq_true h
    have s := sm_lt (f := fun k => cnt δ ev good k q) (fun k => cnt_nonneg δ ev good _ _) h
    have l := lexr_lt δ ev good x q hx g
    have := lexr_nonneg δ ev good y q
    omega
  · rw [Bool.and_eq_true, decide_eq_true_eq] at h
    have := lexr_mono δ ev good x y q hx hy h.1 h.2 g
    rw [h.1]
    omega
/-! ### all logs in order -/
def lexL : Nat → List (List Int)
  | 0 => [[]]
  | n + 1 => (List.range ev).flatMap fun (e : Nat) => (lexL n).map ((e : Int) :: ·)
theorem flat_one {α β : Type} (f : α → β) : ∀ l : List α, l.flatMap (fun e => [f e]) = l.map f
  | [] => rfl
  | x :: l => by rw [List.flatMap_cons, flat_one f l]; rfl
theorem lexL_snoc : ∀ n, lexL ev (n + 1) = (lexL ev n).flatMap fun l => (List.range ev).map fun (e : Nat) => l ++ [(e : Int)]
  | 0 => by
    show ((List.range ev).flatMap fun (e : Nat) => [[(e : Int)]]) = _
    rw [flat_one]
    show _ = ((List.range ev).map fun (e : Nat) => [] ++ [(e : Int)]) ++ []
    simp
  | n + 1 => by
    calc lexL ev (n + 2) = (List.range ev).flatMap fun (e : Nat) => (lexL ev (n + 1)).map ((e : Int) :: ·) := by rw [lexL]
      _ = (List.range ev).flatMap fun (e : Nat) => ((lexL ev n).flatMap fun l => (List.range ev).map fun (e : Nat) => l ++ [(e : Int)]).map ((e : Int) :: ·) := by rw [lexL_snoc n]
      _ = ((List.range ev).flatMap fun (e : Nat) => (lexL ev n).map ((e : Int) :: ·)).flatMap fun l => (List.range ev).map fun (e : Nat) => l ++ [(e : Int)] := by
        rw [List.flatMap_assoc]
        congr 1
        funext e
        rw [List.map_flatMap, List.flatMap_map]
        congr 1
        funext l
        rw [List.map_map]
        rfl
      _ = _ := by rw [← lexL]
theorem lexL_mem : ∀ (n : Nat) (x : List Int), x ∈ lexL ev n → x.length = n ∧ Evs ev x
  | 0, x, h => by
    simp [lexL] at h
    subst h
    exact ⟨rfl, Evs.nil⟩
  | n + 1, x, h => by
    rw [lexL, List.mem_flatMap] at h
    obtain ⟨e, he, h⟩ := h
    obtain ⟨y, hy, rfl⟩ := List.mem_map.mp h
    obtain ⟨a, b⟩ := lexL_mem n y hy
    rw [List.mem_range] at he
    refine ⟨by simp [a], fun z hz => ?_⟩
    rcases List.mem_cons.mp hz with rfl | hz
    · exact ⟨by omega, by omega⟩
    · exact b z hz
def cp (q : Int) (l : List (List Int)) : Int := (l.countP fun x => good (run δ q x) : Nat)
theorem cp_append (q : Int) (a b : List (List Int)) : cp δ good q (a ++ b) = cp δ good q a + cp δ good q b := by
  unfold cp
  rw [List.countP_append]
  omega
theorem cp_map (q : Int) (e : Int) (l : List (List Int)) : cp δ good q (l.map (e :: ·)) = cp δ good (δ q e) l := by
  unfold cp
  rw [List.countP_map]
  rfl
theorem cp_flat (q : Int) (f : Nat → List (List Int)) : ∀ n, cp δ good q ((List.range n).flatMap f) = sm n fun i => cp δ good q (f i)
  | 0 => rfl
  | n + 1 => by
    rw [List.range_succ, List.flatMap_append, cp_append, cp_flat q f n, sm_succ]
    simp
theorem cp_lex : ∀ (n : Nat) (q : Int), cp δ good q (lexL ev n) = cnt δ ev good n q
  | 0, q => by
    unfold cp cnt lexL
    by_cases h : good q = true <;> simp [List.countP_cons, run, h]
  | n + 1, q => by
    rw [lexL, cp_flat, cnt]
    refine sm_congr fun i _ => ?_
    rw [cp_map, cp_lex n]
theorem range_split : ∀ {n : Nat} {l r : List Nat} {a : Nat}, List.range n = l ++ a :: r → l = List.range a
  | n, l, r, a, h => by
    have hl : l.length < n := by
      have := congrArg List.length h
      simp at this
      omega
    have e1 : l = List.range l.length := by
      have := congrArg (List.take l.length) h
      rw [List.take_append_of_le_length (Nat.le_refl _), List.take_length, List.take_range, Nat.min_eq_left (by omega)] at this
      exact this.symm
    have e2 : a = l.length := by
      have := congrArg (fun z : List Nat => z[l.length]?) h
      simp [hl] at this
      omega
    rw [e2]
    exact e1
theorem flat_split {α β : Type} {f : α → List β} : ∀ {as : List α} {p s : List β} {x : β}, as.flatMap f = p ++ x :: s → ∃ l a r p' s', as = l ++ a :: r ∧ f a = p' ++ x :: s' ∧ p = l.flatMap f ++ p'
  | [], p, s, x, h => by simp at h
  | a :: as, p, s, x, h => by
    rw [List.flatMap_cons] at h
    rcases List.append_eq_append_iff.mp h with ⟨t, h1, h2⟩ | ⟨t, h1, h2⟩
    · obtain ⟨l, b, r, p', s', e1, e2, e3⟩ := flat_split h2
      exact ⟨a :: l, b, r, p', s', by rw [e1]; rfl, e2, by rw [h1, e3, List.flatMap_cons, List.append_assoc]⟩
    · cases t with
      | nil =>
        rw [List.append_nil] at h1
        have h2 : as.flatMap f = [] ++ x :: s := by simpa using h2.symm
        obtain ⟨l, b, r, p', s', e1, e2, e3⟩ := flat_split h2
        refine ⟨a :: l, b, r, p', s', by rw [e1]; rfl, e2, ?_⟩
        rw [← h1, List.flatMap_cons, List.append_assoc, ← e3, List.append_nil]
      | cons y t =>
        have h3 : y = x ∧ s = t ++ as.flatMap f := by
          have : x :: s = y :: (t ++ as.flatMap f) := by simpa using h2
          injection this with h4 h5
          exact ⟨h4.symm, h5⟩
        exact ⟨[], a, as, p, t, rfl, by rw [h1, h3.1], by simp⟩
theorem lex_split : ∀ (n : Nat) (q : Int) (p s : List (List Int)) (x : List Int), lexL ev n = p ++ x :: s → cp δ good q p = lexr δ ev good q x
  | 0, q, p, s, x, h => by
    have h : [[]] = p ++ x :: s := h
    cases p with
    | nil =>
      injection h with h1 h2
      subst h1
      rfl
    | cons y p =>
      injection h with h1 h2
      simp at h2
  | n + 1, q, p, s, x, h => by
    rw [lexL] at h
    obtain ⟨l, e, r, p', s', e1, e2, e3⟩ := flat_split h
    obtain ⟨p2, t2, e4, e5, e6⟩ := List.map_eq_append_iff.mp e2
    obtain ⟨y, s2, e7, rfl, _⟩ := List.map_eq_cons_iff.mp e6
    rw [e7] at e4
    have ih := lex_split n (δ q e) p2 s2 y e4
    have le := range_split e1
    obtain ⟨ylen, _⟩ := lexL_mem ev n y (by rw [e4]; simp)
    rw [e3, cp_append, ← e5, cp_map, ih, le, cp_flat]
    rw [lexr, Int.toNat_natCast, ylen]
    congr 1
    refine sm_congr fun i _ => ?_
    rw [cp_map, cp_lex]
def LL (N : Nat) : List (List Int) := (List.range (N + 1)).flatMap (lexL ev)
theorem LL_mem {N : Nat} {x : List Int} (h : x ∈ LL ev N) : x.length ≤ N ∧ Evs ev x := by
  unfold LL at h
  rw [List.mem_flatMap] at h
  obtain ⟨n, hn, h⟩ := h
  obtain ⟨a, b⟩ := lexL_mem ev n x h
  rw [List.mem_range] at hn
  exact ⟨by omega, b⟩
theorem LL_split {N : Nat} {p s : List (List Int)} {x : List Int} (q : Int) (h : LL ev N = p ++ x :: s) : cp δ good q p = rank δ ev good q x := by
  obtain ⟨l, n, r, p', s', e1, e2, e3⟩ := flat_split h
  have le := range_split e1
  obtain ⟨xl, _⟩ := lexL_mem ev n x (by rw [e2]; simp)
  rw [e3, cp_append, lex_split δ ev good n q p' s' x e2, le, cp_flat]
  unfold rank
  rw [xl]
  congr 1
  exact sm_congr fun i _ => cp_lex δ ev good i q
/-! ### logs that can be shortened -/
def Has (q : Int) (k : Nat) : Prop := ∃ es : List Int, es.length = k ∧ Evs ev es ∧ good (run δ q es) = true
theorem cnt_pos (q : Int) : ∀ (k : Nat) , 0 < cnt δ ev good k q ↔ Has δ ev good q k := by
  intro k
  constructor
  · intro h
    rw [← cp_lex] at h
    unfold cp at h
    have h : 0 < (lexL ev k).countP fun x => good (run δ q x) := by omega
    obtain ⟨x, hx, hg⟩ := List.countP_pos_iff.mp h
    obtain ⟨a, b⟩ := lexL_mem ev k x hx
    exact ⟨x, a, b, hg⟩
  · rintro ⟨es, rfl, hv, hg⟩
    have h1 := lexr_lt δ ev good es q hv hg
    have h2 := lexr_nonneg δ ev good es q
    omega
theorem nodup_len : ∀ {a b : List Int}, a.Nodup → (∀ x ∈ a, x ∈ b) → a.length ≤ b.length
  | [], b, _, _ => Nat.zero_le _
  | x :: a, b, nd, hs => by
    obtain ⟨b1, b2, rfl⟩ := List.append_of_mem (hs x List.mem_cons_self)
    rw [List.nodup_cons] at nd
    have := nodup_len nd.2 (b := b1 ++ b2) (fun y hy => by
      have h1 := hs y (List.mem_cons_of_mem _ hy)
      have hne : y ≠ x := fun z => nd.1 (z ▸ hy)
      simp [hne] at h1
      simpa using h1)
    simp at this ⊢
    omega
variable {δ ev good} in
theorem run_app (q : Int) (a b : List Int) : run δ q (a ++ b) = run δ (run δ q a) b := by
  unfold run
  rw [List.foldl_append]
variable {δ ev good} in
theorem run_in {S : Nat} (cl : ∀ q e : Int, 0 ≤ q → q < S → 0 ≤ e → e < ev → 0 ≤ δ q e ∧ δ q e < S) : ∀ (es : List Int) (q : Int), Evs ev es → 0 ≤ q → q < S → 0 ≤ run δ q es ∧ run δ q es < S
  | [], q, _, h1, h2 => ⟨h1, h2⟩
  | e :: es, q, hv, h1, h2 => by
    obtain ⟨a, b⟩ := hv e List.mem_cons_self
    obtain ⟨c, d⟩ := cl q e h1 h2 a b
    exact run_in cl es (δ q e) (fun x hx => hv x (List.mem_cons_of_mem _ hx)) c d
variable {δ ev good} in
theorem pump {S : Nat} (cl : ∀ q e : Int, 0 ≤ q → q < S → 0 ≤ e → e < ev → 0 ≤ δ q e ∧ δ q e < S) {q : Int} (h1 : 0 ≤ q) (h2 : q < S) {k : Nat} (hk : S ≤ k) (h : Has δ ev good q k) : ∃ j, j < k ∧ k ≤ j + S ∧ Has δ ev good q j := by
  obtain ⟨es, rfl, hv, hg⟩ := h
  have hsub : ∀ m, Evs ev (es.take m) := fun m => hv.sub fun x hx => List.mem_of_mem_take hx
  by_cases nd : ((List.range (S + 1)).map fun i => run δ q (es.take i)).Nodup
  · have := nodup_len nd (b := (List.range S).map fun i : Nat => (i : Int)) (fun x hx => by
      obtain ⟨i, _, rfl⟩ := List.mem_map.mp hx
      obtain ⟨a, b⟩ := run_in cl (es.take i) q (hsub i) h1 h2
      exact List.mem_map.mpr ⟨(run δ q (es.take i)).toNat, by rw [List.mem_range]; omega, by omega⟩)
    simp at this
    omega
  · have : ∃ i j, i < j ∧ j < S + 1 ∧ run δ q (es.take i) = run δ q (es.take j) := by
      refine Classical.byContradiction fun hc => nd ?_
      rw [List.nodup_iff_pairwise_ne, List.pairwise_iff_getElem]
      intro i j hi hj hij
      simp at hi hj ⊢
      intro e
      exact hc ⟨i, j, hij, hj, e⟩
    obtain ⟨i, j, hij, hj, e⟩ := this
    refine ⟨es.length - (j - i), by omega, by omega, es.take i ++ es.drop j, by simp; omega, hv.sub fun x hx => ?_, ?_⟩
    · rcases List.mem_append.mp hx with hx | hx
      · exact List.mem_of_mem_take hx
      · exact List.mem_of_mem_drop hx
    · rw [run_app, e, ← run_app, List.take_append_drop]
      exact hg
variable {δ ev good} in
theorem pump_down {S : Nat} (cl : ∀ q e : Int, 0 ≤ q → q < S → 0 ≤ e → e < ev → 0 ≤ δ q e ∧ δ q e < S) {q : Int} (h1 : 0 ≤ q) (h2 : q < S) : ∀ {k : Nat}, S ≤ k → Has δ ev good q k → ∃ j, S ≤ j ∧ j < 2 * S ∧ Has δ ev good q j := by
  intro k
  induction k using Nat.strongRecOn with
  | _ k ih =>
    intro hk h
    by_cases hk2 : k < 2 * S
    · exact ⟨k, hk, hk2, h⟩
    · obtain ⟨j, a, b, c⟩ := pump cl h1 h2 hk h
      exact ih j a (by omega) c
/-! ### counted forward -/
/-- the inner product -/
def ip (S : Nat) (v : Nat → Int) (w : Int → Int) : Int := sm S fun q => v q * w q
theorem ip_add {S j : Nat} (v : Nat → Int) (w : Int → Int) (x : Int) (hj : j < S) : ip S (fun q => if q = j then v q + x else v q) w = ip S v w + x * w j := by
  unfold ip
  have key : ∀ n, sm n (fun q => (if q = j then v q + x else v q) * w q) = sm n (fun q => v q * w q) + (if j < n then x * w j else 0) := fun n => by
    induction n with
    | zero => simp [sm_zero]
    | succ n ih =>
      rw [sm_succ, sm_succ, ih]
      by_cases h1 : n = j
      · subst h1
        rw [if_pos rfl, if_neg (Nat.lt_irrefl _), if_pos (Nat.lt_succ_self _), Int.add_mul]
        omega
      · rw [if_neg h1]
        by_cases h2 : j < n
        · rw [if_pos h2, if_pos (by omega)]
          omega
        · rw [if_neg h2, if_neg (by omega)]
          omega
  rw [key, if_pos hj]
theorem ip_start {S : Nat} (w : Int → Int) (hS : 0 < S) : ip S (fun q => if q = 0 then 1 else 0) w = w 0 := by
  have := ip_add (S := S) (j := 0) (fun _ => 0) w 1 hS
  unfold ip at this ⊢
  have z : sm S (fun q => (0 : Int) * w q) = 0 := by
    rw [sm_mul]
    simp
  have e : sm S (fun q => (if q = 0 then (0 : Int) + 1 else 0) * w q) = sm S (fun q => (if q = 0 then (1 : Int) else 0) * w q) := sm_congr fun i _ => by
    split <;> simp
  rw [e, z] at this
  simpa using this
end
end K82
/-! Forms; a right summary is taken. -/
namespace Law
open PySem AM
theorem is_from_int (ns : List Int) (m : Nat) (lo i : Int) (h : AH) : callF gc ns (m+2) 3 [.int lo, .int i] h = .ok (.bl (decide (lo ≤ i))) h := rfl
theorem is_below_int (ns : List Int) (m : Nat) (n i : Int) (h : AH) : callF gc ns (m+3) 4 [.int n, .int i] h = .ok (.bl (decide (0 ≤ i) && decide (i < n))) h := by
  refine callF_flat h (d := d4) rfl rfl rfl rfl ?_ (h2 := [])
  simp [runBody, d4, startA, callW, is_from_int]
  cases decide (0 ≤ i) <;> rfl
theorem is_tuple_ok (ns : List Int) (m : Nat) (n : Int) (ws : List W) (h : AH) (hf : W.flats ws = true) (hn : (ws.length : Int) = n) : callF gc ns (m+1) 5 [.int n, .tup ws] h = .ok (.bl true) h := by
  refine callF_flat h (d := d5) rfl rfl (by simp [W.flats, W.flat, hf]) rfl ?_ (h2 := [])
  simp [runBody, d5, startA, callW, primW, typW, isiB, hn]
theorem is_row_ok (ns : List Int) (m : Nat) (n : Int) (is : List Int) (h : AH) (hz : is.length ≤ 1000) (hi : ∀ i ∈ is, 0 ≤ i ∧ i < n) : callF gc ns (m+4) 6 [.int n, .tup (is.map .int)] h = .ok (.bl true) h := by
  refine callF_flat h (d := d6) rfl rfl (by simp [W.flats, W.flat, flats_int]) rfl ?_ (h2 := [])
  have e : evalL ⟨gc, ns, callF gc ns (m+3)⟩ (.comp [("one", 2)] (.nm 2) (.over (.var 1)) [] (.call 4 [.var 0, .var 2] [] [])) [some (.int n), some (.tup (is.map .int)), none] [] = _ := comp_enc _ W.int (fun _ => .bl true) (xs := is) (held := []) (h1 := []) (by simp [overW]) rfl (by omega) (fun i hi' => by
    obtain ⟨a, b⟩ := hi i hi'
    exact ⟨_, by rw [xg_nm], by simp [wipeA, callW, is_below_int, a, b]⟩)
  have bo : bools (is.map fun _ => W.bl true) = some (is.map fun _ => true) := bools_map _ _
  simp [runBody, d6, startA, callW, primW, typW, isiB, e, primL, bo]
theorem fault_ok {ns : List Int} {ev : Int} {rows outs : List W} (s : Sum ev rows outs) (m : Nat) (h : AH) : callF gc ns (m+5) 10 [sumW ev rows outs] h = .ok .non h := by
  obtain ⟨f1, f2, f3, f4⟩ := sum_flat s
  have e1 := s.e1
  have e2 := s.e2
  have s1 := s.s1
  have s2 := s.s2
  refine callF_flat h (d := d10) rfl rfl (by simp [sumW, W.flats, W.flat, f1, f2]) rfl ?_ (h2 := [])
  have r0 : ∀ h, subR ⟨gc, ns, callF gc ns (m+4)⟩ (sumW ev rows outs) (.int 0) h = .ok (.int ev) h := fun h => rd_tup _ _ (by simp)
  have r1 : ∀ h, subR ⟨gc, ns, callF gc ns (m+4)⟩ (sumW ev rows outs) (.int 1) h = .ok (.tup rows) h := fun h => rd_tup _ _ (by simp)
  have r2 : ∀ h, subR ⟨gc, ns, callF gc ns (m+4)⟩ (sumW ev rows outs) (.int 2) h = .ok (.tup outs) h := fun h => rd_tup _ _ (by simp)
  have q1 : ∀ h, callF gc ns (m+4) 5 [.int 3, sumW ev rows outs] h = .ok (.bl true) h := fun h => is_tuple_ok ns (m+3) 3 _ h (by simp [W.flats, W.flat, f1, f2]) (by simp)
  have q2 : ∀ h, callF gc ns (m+4) 5 [.int rows.length, .tup outs] h = .ok (.bl true) h := fun h => is_tuple_ok ns (m+3) _ _ h f2 (by rw [s.ol])
  have n1 : ∀ h, cmpW .eq (.tup rows) (.tup []) h = .ok (.bl false) h := fun h => c_eq (by
    rw [eqW_nil f3 f4]
    cases rows with
    | nil => simp at s1
    | cons _ _ => rfl)
  obtain ⟨σ1, l1, j1⟩ := forLoop_thru (f := forF ⟨gc, ns, callF gc ns (m+4)⟩ (.tp [.nm 1, .nm 2]) [.iff (.or [.not (.val (.call 5 [.sub (.var 0) (.con (.int 0)), .var 2] [] [])), .not (.val (.call 6 [.prim .len [.sub (.var 0) (.con (.int 1))], .var 2] [] []))]) [.ret (.tup [.con (.int 1), .var 1])] []])
    (held := []) (h := []) (fun σ => ∃ a b c, σ = [some (sumW ev rows outs), a, b, c]) rfl (enumFrom 0 rows) (fun w hw σ ⟨a, b, c, e⟩ => by
      subst e
      obtain ⟨i, x, rfl, hx⟩ := enumFrom_mem hw
      obtain ⟨is, rfl, hl, hi⟩ := s.rw x hx
      have p1 := is_tuple_ok ns (m+3) ev (is.map .int) [] (flats_int is) (by simpa using hl)
      have p2 := is_row_ok ns m rows.length is [] (by omega) hi
      refine ⟨_, ?_, some (.int i), some (.tup (is.map .int)), c, rfl⟩
      simp [forF, callW, r0, r1, p1, p2]) [some (sumW ev rows outs), none, none, none] ⟨_, _, _, rfl⟩
  obtain ⟨a, b, c, rfl⟩ := j1
  obtain ⟨σ2, l2, j2⟩ := forLoop_thru (f := forF ⟨gc, ns, callF gc ns (m+4)⟩ (.tp [.nm 1, .nm 3]) [.iff (.not (.val (.call 3 [.con (.int 0), .var 3] [] []))) [.ret (.tup [.con (.int 2), .var 1])] []])
    (held := []) (h := []) (fun σ => ∃ a b c, σ = [some (sumW ev rows outs), a, b, c]) rfl (enumFrom 0 outs) (fun w hw σ ⟨a, b, c, e⟩ => by
      subst e
      obtain ⟨i, x, rfl, hx⟩ := enumFrom_mem hw
      obtain ⟨j, rfl, hj⟩ := s.ou x hx
      have p1 := is_from_int ns (m+2) 0 j []
      refine ⟨_, ?_, some (.int i), b, some (.int j), rfl⟩
      simp [forF, callW, p1, hj]) [some (sumW ev rows outs), a, b, c] ⟨_, _, _, rfl⟩
  have t1 := is_from_int ns (m+2) 1 ev []
  simp only [runBody, d10, startA]
  simp [ss_cons', callW, q1, q2, r0, r1, r2, t1, e1, n1, primW, typW, isiB, overW, l1, l2, szOk]
theorem check_summary_ok {ns : List Int} {ev : Int} {rows outs : List W} (s : Sum ev rows outs) (m : Nat) (h : AH) : callF gc ns (m+6) 11 [sumW ev rows outs] h = .ok .non h := by
  refine callF_flat h (d := d11) rfl rfl (by simp [W.flats, sumW_flat s]) rfl ?_ (h2 := [])
  simp [runBody, d11, startA, ss_cons', callW, fault_ok s m]
end Law
/-! Numbers are checked. -/
namespace Law
open PySem AM
theorem check_number_ok (ns : List Int) (m : Nat) (i : Int) (h : AH) (hi : 0 ≤ i) : callF gc ns (m+3) 8 [.int i] h = .ok .non h := by
  refine callF_flat h (d := d8) rfl rfl rfl rfl ?_ (h2 := [])
  simp [runBody, d8, ss_cons', startA, callW, is_from_int, hi]
theorem check_number_neg (ns : List Int) (m : Nat) (h : AH) : callF gc ns (m+3) 8 [.int (-1)] h = .exc 1 [] [] h := rfl
theorem check_number_bl (ns : List Int) (m : Nat) (h : AH) : callF gc ns (m+3) 8 [.bl true] h = .exc 1 [] [] h := rfl
theorem check_number_non (ns : List Int) (m : Nat) (h : AH) : callF gc ns (m+3) 8 [.non] h = .exc 1 [] [] h := rfl
theorem check_number_str (ns : List Int) (m : Nat) (h : AH) (x : Str) : callF gc ns (m+3) 8 [.str x] h = .exc 1 [] [] h := rfl
theorem check_number_tup (ns : List Int) (m : Nat) (h : AH) : callF gc ns (m+3) 8 [.tup [.int 0]] h = .exc 1 [] [] h := rfl
end Law
/-! What is drawn from a well. -/
namespace Law
open PySem AM
theorem dip (ns : List Int) (m : Nat) (l : Nat) (many : Int) (h : AH) (hm : 0 < many) (hm2 : many < 18446744073709551616) (w : Well h l) :
   ∃ d h', 0 ≤ d ∧ d < many ∧ callF gc ns (m+1) 21 [.loc l, .int many] h = .ok (.int d) h' ∧ Well h' l ∧ Fr [l] h h' ∧ h'.length = h.length := by
  obtain ⟨a, b, c, hl⟩ := w
  rw [callF_loc h (d := d21) rfl rfl rfl]
  have hlt := get_lt' h hl
  have hf := fdiv_ok hm (by omega)
  have wl : ∀ a b c : Int, Well (h.set l (.lst [.int a, .int b, .int c])) l := fun a b c => ⟨a, b, c, by simp [hlt]⟩
  by_cases ha : 0 < a
  · refine ⟨a % many, h.set l (.lst [.int (a / many), .int b, .int c]), Int.emod_nonneg _ (by omega), Int.emod_lt_of_pos _ hm, ?_, wl _ _ _, Fr.set (by simp), by simp⟩
    simp [runBody, d21, ss_cons', startA, callW, rd_lst _ _ hl, wr_lst _ hl, ha, hm, hf]
  · have hk : ∀ x : Int, mulOk (x % 2147483549) (x % 2147483549) = true := fun x => mul_okL (by
      have := Int.emod_nonneg x (b := 2147483549) (by omega)
      have := Int.emod_lt_of_pos x (b := 2147483549) (by omega)
      omega)
    have hl2 : (h.set l (.lst [.int a, .int b, .int (c + 1)]))[l]? = some (.lst [.int a, .int b, .int (c + 1)]) := by simp [hlt]
    refine ⟨((((b + 5003 * (c + 1)) * 69621 + 271) % 2147483549 * (((b + 5003 * (c + 1)) * 69621 + 271) % 2147483549) + 13 * (c + 1)) % 2147483563 / 19) % many, h.set l (.lst [.int a, .int b, .int (c + 1)]), Int.emod_nonneg _ (by omega), Int.emod_lt_of_pos _ hm, ?_, wl _ _ _, Fr.set (by simp), by simp⟩
    simp [runBody, d21, ss_cons', startA, callW, rd_lst _ _ hl, wr_lst _ hl, rd_lst _ _ hl2, ha, hm, mul_okL, mul_okR, hk, fdiv_ok]
theorem pickL (ns : List Int) (m : Nat) (l r : Nat) (ws : List W) (h : AH) (hn : 0 < ws.length) (hz : ws.length < 1000) (w : Well h l) (hr : h[r]? = some (.lst ws)) (hlr : r ≠ l) :
   ∃ x h', x ∈ ws ∧ callF gc ns (m+2) 22 [.loc l, .loc r] h = .ok x h' ∧ Well h' l ∧ Fr [l] h h' ∧ h'.length = h.length := by
  obtain ⟨d, h', h1, h2, e, w', fr, len⟩ := dip ns m l ws.length h (by omega) (by omega) w
  have hr' := fr.get hr (by simpa using hlr)
  obtain ⟨k, rfl⟩ : ∃ k : Nat, d = k := ⟨d.toNat, by omega⟩
  have hk : k < ws.length := by omega
  refine ⟨ws[k], h', List.getElem_mem hk, ?_, w', fr, len⟩
  rw [callF_loc h (d := d22) rfl rfl rfl]
  have hx : L2.atI ws (k : Int) = some ws[k] := by rw [atI_nat]; simp [hk]
  simp [runBody, d22, startA, callW, pr_lenL _ _ hr, e, rd_lst _ _ hr' hx]
/-- a pick from a new list -/
theorem pickN (ns : List Int) (m : Nat) (l : Nat) (ws : List W) (h : AH) (hn : 0 < ws.length) (hz : ws.length < 1000) (w : Well h l) :
   ∃ x h', x ∈ ws ∧ callF gc ns (m+2) 22 [.loc l, .loc h.length] (h ++ [.lst ws]) = .ok x h' ∧ Well h' l ∧ Fr [l] h h' := by
  obtain ⟨x, h', h1, e, w', fr, len⟩ := pickL ns m l h.length ws (h ++ [.lst ws]) hn hz (w.fr (S := []) Fr.app (by simp)) (by simp) (Nat.ne_of_gt w.lt)
  exact ⟨x, h', h1, e, w', Fr.app.trans fr⟩
theorem summary (ns : List Int) (m : Nat) (l : Nat) (ev most : Int) (h : AH) (he : 1 ≤ ev) (he2 : ev ≤ 3) (hm1 : 1 ≤ most) (hm2 : most ≤ 12) (w : Well h l) :
   ∃ rows outs h', Sum ev rows outs ∧ (rows.length : Int) ≤ most ∧ callF gc ns (m+3) 25 [.loc l, .int ev, .int most] h = .ok (sumW ev rows outs) h' ∧ Well h' l ∧ Fr [l] h h' ∧ ∀ o ∈ outs, ∃ i : Int, o = .int i ∧ 0 ≤ i ∧ i < 3 := by
  obtain ⟨d, h1, d1, d2, e1, w1, fr1, _⟩ := dip ns (m+1) l most h (by omega) (by omega) w
  obtain ⟨S, rfl⟩ : ∃ S : Nat, d = S := ⟨d.toNat, by omega⟩
  -- the rows
  have hS : rngOk (1 + (S : Int)) = true := rng_ok (by omega) (by omega)
  have hE : rngOk ev = true := rng_ok (by omega) (by omega)
  obtain ⟨rows, h2, e2, ⟨w2, fr2⟩, l2, p2⟩ := comp_okN ⟨gc, ns, callF gc ns (m+2)⟩ (fun h' => Well h' l ∧ Fr [l] h1 h') (Row ev (1 + (S : Int))) (own := [("state", 5)]) (i := 5) (it := .rng [.var 3]) (elt := .primc .tuple (.comp [("event", 6)] (.nm 6) (.rng [.var 1]) [] (.call 21 [.var 0, .var 3] [] [])))
    (σ := [some (.loc l), some (.int ev), some (.int most), some (.int (1 + (S : Int))), none, none, none]) (h := h1) (h1 := h1) (src := ⟨rngW 0 (1 + (S : Int)), []⟩) (by simp [hS]) ⟨w1, Fr.refl⟩ (fun _ _ => rfl) (by simp [rngW_len]; omega) (fun x hx h2 ⟨w2, fr2⟩ => by
      obtain ⟨i, rfl, _⟩ := rngW_mem hx
      obtain ⟨ys, h3, e3, ⟨w3, fr3⟩, l3, p3⟩ := comp_okN ⟨gc, ns, callF gc ns (m+2)⟩ (fun h' => Well h' l ∧ Fr [l] h1 h') (fun y => ∃ i : Int, y = .int i ∧ 0 ≤ i ∧ i < 1 + (S : Int)) (own := [("event", 6)]) (i := 6) (it := .rng [.var 1]) (elt := .call 21 [.var 0, .var 3] [] [])
        (σ := [some (.loc l), some (.int ev), some (.int most), some (.int (1 + (S : Int))), none, some (.int i), none]) (h := h2) (h1 := h2) (src := ⟨rngW 0 ev, []⟩) (by simp [hE]) ⟨w2, fr2⟩ (fun _ _ => rfl) (by simp [rngW_len]; omega) (fun y hy h4 ⟨w4, fr4⟩ => by
          obtain ⟨d, h5, q1, q2, q3, q4, q5, _⟩ := dip ns (m+1) l (1 + (S : Int)) h4 (by omega) (by omega) w4
          exact ⟨.int d, h5, by simp [wipeA, callW, q3], ⟨q4, fr4.trans q5⟩, d, rfl, q1, q2⟩)
      obtain ⟨is, rfl, his⟩ := ints_of p3
      refine ⟨.tup (is.map .int), h3, by simp [wipeA, e3], ⟨w3, fr3⟩, is, rfl, ?_, his⟩
      simp [rngW_len] at l3
      omega)
  obtain ⟨outs, h3, e3, ⟨w3, fr3⟩, l3, p3⟩ := comp_okN ⟨gc, ns, callF gc ns (m+2)⟩ (fun h' => Well h' l ∧ Fr [l] h1 h') (fun y => ∃ i : Int, y = .int i ∧ 0 ≤ i ∧ i < 3) (own := [("state", 5)]) (i := 5) (it := .rng [.var 3]) (elt := .call 21 [.var 0, .call 22 [.var 0, .lst [.con (.int 2), .con (.int 2), .con (.int 3)]] [] []] [] [])
    (σ := [some (.loc l), some (.int ev), some (.int most), some (.int (1 + (S : Int))), some (.tup rows), none, none]) (h := h2) (h1 := h2) (src := ⟨rngW 0 (1 + (S : Int)), []⟩) (by simp [hS]) ⟨w2, fr2⟩ (fun _ _ => rfl) (by simp [rngW_len]; omega) (fun y hy h4 ⟨w4, fr4⟩ => by
      obtain ⟨x, h5, q1, q2, q3, q4⟩ := pickN ns m l [.int 2, .int 2, .int 3] h4 (by simp) (by simp) w4
      obtain ⟨n, rfl, hn1, hn2⟩ : ∃ n : Int, x = .int n ∧ 0 < n ∧ n ≤ 3 := by
        simp at q1
        rcases q1 with rfl | rfl <;> exact ⟨_, rfl, by decide, by decide⟩
      obtain ⟨d, h6, r1, r2, r3, r4, r5, _⟩ := dip ns (m+1) l n h5 hn1 (by omega) q3
      exact ⟨.int d, h6, by simp [wipeA, callW, q2, r3, szOk], ⟨r4, fr4.trans (q4.trans r5)⟩, d, rfl, r1, by omega⟩)
  simp only [rngW_len] at l2 l3
  have lr : (rows.length : Int) = 1 + (S : Int) := by omega
  refine ⟨rows, outs, h3, ⟨he, he2, by omega, by omega, by rw [lr]; exact p2, by omega, fun o ho => let ⟨i, e, a, b⟩ := p3 o ho; ⟨i, e, a, by omega⟩⟩, by omega, ?_, w3, fr1.trans fr3, p3⟩
  rw [callF_loc h (d := d25) rfl rfl rfl]
  simp only [runBody, d25, startA, ss_cons']
  simp [callW, e1, e2, e3, szOk, sumW]
/-- a well is dug -/
theorem dug (ns : List Int) (m : Nat) (i : Nat) (h : AH) (hn : ∀ z ∈ ns, PySem.Builtin.Int.intBits z ≤ 1048576) : ∃ l h', callF gc ns (m+1) 20 [.scr, .int i] h = .ok (.loc l) h' ∧ Well h' l ∧ Fr [] h h' ∧ h.length ≤ l := by
  have p6 : powOk 10 60 = true := by decide
  have p1 : powOk 10 18 = true := by decide
  have m17 : ∀ i : Int, mulOk 17 i = true := fun i => mul_okL (by decide)
  have m7 : ∀ i : Int, mulOk 7 i = true := fun i => mul_okL (by decide)
  obtain ⟨c, e1⟩ : ∃ c : Int, evalE ⟨gc, ns, callF gc ns m⟩ (.ife (.val (.cmp .lt (.var 1) (.prim .len [.var 0]))) (.prim .int [.prim .abs [.sub (.var 0) (.var 1)]]) (.bin .add (.bin .mul (.con (.int 17)) (.var 1)) (.con (.int 5)))) [some .scr, some (.int i), none] [] = .ok (.int c) [] := by
    by_cases hi : i < ns.length
    · have r := rd_scr ⟨gc, ns, callF gc ns m⟩ [] (i := i) (n := ns[i]) (by rw [atI_nat]; simp [hi])
      exact ⟨if ns[i] < 0 then -ns[i] else ns[i], by simp [hi, r]⟩
    · exact ⟨17 * i + 5, by simp [hi, m17]⟩
  obtain ⟨a, b, d, e2⟩ : ∃ a b d : Int, runBody ⟨gc, ns, callF gc ns m⟩ d20 [.scr, .int i] [] = .ok (.loc 0) [.lst [.int a, .int b, .int d]] := by
    simp only [runBody, d20, startA]
    rw [ss_cons']
    simp [e1, -x_ife]
    rw [ss_cons']
    have k1 : mulOk (10^60) (10^60) = true := by decide
    have k2 : mulOk (10^60*10^60) (10^60) = true := by decide
    have k3 : mulOk (10^60*10^60*10^60) (10^60) = true := by decide
    simp at k1 k2 k3
    simp [p6, p1, m7, szOk, k1, k2, k3]
    generalize c % _ = y
    by_cases hy : 1000000000000000000 ≤ y
    · simp [hy]
    · simp [hy]
  exact ⟨_, _, callF_list h (d := d20) rfl rfl rfl e2 rfl rfl, ⟨a, b, d, by simp⟩, Fr.app, Nat.le_refl _⟩
/-! like data are told alike -/
theorem same_ok (ns : List Int) : ∀ (n : Nat) (d : D) (h : AH) (x y : W), d.dep ≤ n → d.few = true → Den h d x → Den h d y → callF gc ns (n+1) 23 [x, y] h = .ok (.bl true) h := by
  intro n
  induction n with
  | zero =>
    intro d h x y hd hf hx hy
    cases d with
    | tup ds => unfold D.dep at hd; omega
    | lst ds => unfold D.dep at hd; omega
    | non =>
      unfold Den at hx hy
      subst hx hy
      rfl
    | bl b =>
      unfold Den at hx hy
      subst hx hy
      refine callF_flat h (d := d23) rfl rfl rfl rfl ?_ (h2 := [])
      simp [runBody, d23, startA, ss_cons', callW, primW, typW, isiB]
    | int b =>
      unfold Den at hx hy
      subst hx hy
      refine callF_flat h (d := d23) rfl rfl rfl rfl ?_ (h2 := [])
      simp [runBody, d23, startA, ss_cons', callW, primW, typW, isiB]
    | str b =>
      unfold Den at hx hy
      subst hx hy
      refine callF_flat h (d := d23) rfl rfl rfl rfl ?_ (h2 := [])
      simp [runBody, d23, startA, ss_cons', callW, primW, typW, isiB]
  | succ n ih =>
    intro d h x y hd hf hx hy
    have comp : ∀ (g : AH) (ds : List D) (a b : W), ds.length ≤ 1000000 → primW ⟨gc, ns, callF gc ns (n+1)⟩ .len [b] g = .ok (.int ds.length) g → (∀ k : Nat, k < ds.length → ∃ u v, subR ⟨gc, ns, callF gc ns (n+1)⟩ a (.int k) g = .ok u g ∧ subR ⟨gc, ns, callF gc ns (n+1)⟩ b (.int k) g = .ok v g ∧ callF gc ns (n+1) 23 [u, v] g = .ok (.bl true) g) →
        evalL ⟨gc, ns, callF gc ns (n+1)⟩ (.comp [("k", 2)] (.nm 2) (.rng [.prim .len [.var 1]]) [] (.call 23 [.sub (.var 0) (.var 2), .sub (.var 1) (.var 2)] [] [])) [some a, some b, none] g = .ok ((List.range ds.length).map fun _ => W.bl true) g := by
      intro g ds a b hz ln it
      have ro : rngOk (ds.length : Int) = true := rng_ok (by omega) (by omega)
      refine comp_enc _ (fun i : Nat => W.int (i : Int)) (fun _ => .bl true) (xs := List.range ds.length) (held := []) (h1 := g) ?_ rfl (by simp; omega) (fun k hk => ?_)
      · simp [ln, ro, rng0]
      · obtain ⟨u, v, e1, e2, e3⟩ := it k (by simpa using hk)
        exact ⟨_, by rw [xg_nm], by simp [wipeA, callW, e1, e2, e3]⟩
    have bo : ∀ k : Nat, bools ((List.range k).map fun _ => W.bl true) = some ((List.range k).map fun _ => true) := fun k => bools_map _ _
    cases d with
    | tup ds =>
      unfold Den at hx hy
      obtain ⟨xs, rfl, hx⟩ := hx
      obtain ⟨ys, rfl, hy⟩ := hy
      unfold D.dep at hd
      unfold D.few at hf
      simp only [Bool.and_eq_true, decide_eq_true_eq] at hf
      have lx := hx.len
      have ly := hy.len
      have run : ∀ g, Dens g ds xs → Dens g ds ys → runBody ⟨gc, ns, callF gc ns (n+1)⟩ d23 [.tup xs, .tup ys] g = .ok (.bl true) g := by
        intro g hx hy
        have e := comp g ds (.tup xs) (.tup ys) hf.1 (by simp [ly]) (fun k hk => by
          obtain ⟨u, e1, q1⟩ := hx.get hk
          obtain ⟨v, e2, q2⟩ := hy.get hk
          exact ⟨u, v, rd_tup _ _ (by rw [atI_nat]; exact e1), rd_tup _ _ (by rw [atI_nat]; exact e2), ih _ g u v (Nat.le_trans (deps_get hk) (by omega)) (fews_get hk hf.2) q1 q2⟩)
        simp [runBody, d23, startA, ss_cons', primW, typW, isiB, lx, ly, e, primL, bo]
      by_cases fl : W.flats [.tup xs, .tup ys] = true
      · have fl2 := fl
        unfold W.flats W.flats W.flats at fl2
        simp only [W.flat, Bool.and_true, Bool.and_eq_true] at fl2
        exact callF_flat h (d := d23) rfl rfl fl rfl (run [] (Dens.move fl2.1 hx) (Dens.move fl2.2 hy))
      · rw [callF_loc h (d := d23) rfl rfl (by simpa using fl)]
        exact run h hx hy
    | lst ds =>
      unfold Den at hx hy
      obtain ⟨p, xs, rfl, hp, hx⟩ := hx
      obtain ⟨q, ys, rfl, hq, hy⟩ := hy
      unfold D.dep at hd
      unfold D.few at hf
      simp only [Bool.and_eq_true, decide_eq_true_eq] at hf
      have lx := hx.len
      have ly := hy.len
      have e := comp h ds (.loc p) (.loc q) hf.1 (by rw [pr_lenL _ _ hq, ly]) (fun k hk => by
          obtain ⟨u, e1, q1⟩ := hx.get hk
          obtain ⟨v, e2, q2⟩ := hy.get hk
          exact ⟨u, v, rd_lst _ _ hp (by rw [atI_nat]; exact e1), rd_lst _ _ hq (by rw [atI_nat]; exact e2), ih _ h u v (Nat.le_trans (deps_get hk) (by omega)) (fews_get hk hf.2) q1 q2⟩)
      rw [callF_loc h (d := d23) rfl rfl rfl]
      simp [runBody, d23, startA, ss_cons', primW, typW, isiB, hp, hq, lx, ly, e, primL, bo]
    | non =>
      unfold Den at hx hy
      subst hx hy
      rfl
    | bl b =>
      unfold Den at hx hy
      subst hx hy
      refine callF_flat h (d := d23) rfl rfl rfl rfl ?_ (h2 := [])
      simp [runBody, d23, startA, ss_cons', callW, primW, typW, isiB]
    | int b =>
      unfold Den at hx hy
      subst hx hy
      refine callF_flat h (d := d23) rfl rfl rfl rfl ?_ (h2 := [])
      simp [runBody, d23, startA, ss_cons', callW, primW, typW, isiB]
    | str b =>
      unfold Den at hx hy
      subst hx hy
      refine callF_flat h (d := d23) rfl rfl rfl rfl ?_ (h2 := [])
      simp [runBody, d23, startA, ss_cons', callW, primW, typW, isiB]
theorem same_of {ns : List Int} {n m : Nat} {h : AH} {x y : W} (s : Same n h x y) (hm : n < m) : callF gc ns m 23 [x, y] h = .ok (.bl true) h := by
  obtain ⟨d, a, b, c, e⟩ := s.ex
  obtain ⟨k, rfl⟩ : ∃ k, m = k + 1 := ⟨m - 1, by omega⟩
  exact same_ok ns k d h x y (by omega) b c e
end Law
/-! What a log leads to. -/
namespace Law
open PySem AM
/-- the loop of led -/
theorem led_loop {ns : List Int} {ev : Int} {rows outs : List W} (s : Sum ev rows outs) (m : Nat) (lg : W) (held : List (Nat × List W)) (h : AH) (hh : heldOk held h = true) : ∀ (fs : List Int) (st : Int) (x : Option W), 0 ≤ st → st < rows.length → Evs ev fs → ∃ x', forLoop (forF ⟨gc, ns, callF gc ns m⟩ (.nm 3) [.asg (.nm 1) (.sub (.sub (.sub (.var 0) (.con (.int 1))) (.var 1)) (.var 3))])
      held (fs.map .int) [some (sumW ev rows outs), some (.int st), some lg, x] h = .next [some (sumW ev rows outs), some (.int (ledI rows st fs)), some lg, x'] h := by
  intro fs
  induction fs with
  | nil =>
    intro st x g1 g2 g3
    exact ⟨x, by simp [forLoop, hh, ledI]⟩
  | cons e fs ih =>
    intro st x g1 g2 g3
    obtain ⟨ws, a1, a2, a3, a4⟩ := ent_ok s g1 g2 (g3 e List.mem_cons_self).1 (g3 e List.mem_cons_self).2
    obtain ⟨x', e'⟩ := ih (ent rows st e) (some (.int e)) a3 a4 fun e' he => g3 e' (List.mem_cons_of_mem _ he)
    refine ⟨x', ?_⟩
    rw [List.map_cons, forLoop, if_pos hh]
    have r1 : subR ⟨gc, ns, callF gc ns m⟩ (sumW ev rows outs) (.int 1) h = .ok (.tup rows) h := rd_tup _ _ (by simp)
    simp [forF, r1, rd_tup _ _ a1, rd_tup _ _ a2, e', ledI]
/-- over a list -/
theorem led_lst {ns : List Int} {ev : Int} {rows outs : List W} (s : Sum ev rows outs) (m f q : Nat) (hd : gc.defs[f]? = some d26) (es : List Int) (st : Int) (h : AH) (h1 : 0 ≤ st) (h2 : st < rows.length) (he : Evs ev es) (hq : h[q]? = some (.lst (es.map .int))) :
    callF gc ns (m+1) f [sumW ev rows outs, .int st, .loc q] h = .ok (.int (ledI rows st es)) h := by
  rw [callF_loc h (d := d26) hd rfl (by simp [W.flats, W.flat])]
  have hh : heldOk [(q, es.map .int)] h = true := by simp [heldOk, hq]
  obtain ⟨x', e⟩ := led_loop (ns := ns) s m (.loc q) [(q, es.map .int)] h hh es st none h1 h2 he
  simp only [runBody, d26, startA, ss_cons']
  simp [overW, hq, e]
/-- over a tuple -/
theorem led_tup {ns : List Int} {ev : Int} {rows outs : List W} (s : Sum ev rows outs) (m f : Nat) (hd : gc.defs[f]? = some d26) (es : List Int) (st : Int) (h : AH) (h1 : 0 ≤ st) (h2 : st < rows.length) (he : Evs ev es) :
    callF gc ns (m+1) f [sumW ev rows outs, .int st, .tup (es.map .int)] h = .ok (.int (ledI rows st es)) h := by
  obtain ⟨x', e⟩ := led_loop (ns := ns) s m (.tup (es.map .int)) [] [] rfl es st none h1 h2 he
  refine callF_flat h (d := d26) hd rfl (by simp [W.flats, sumW_flat s, W.flat, flats_int]) rfl ?_ (h2 := [])
  simp only [runBody, d26, startA, ss_cons']
  simp [overW, e]
theorem law_answer_lst {ns : List Int} {ev : Int} {rows outs : List W} (s : Sum ev rows outs) (m q : Nat) (es : List Int) (h : AH) (he : Evs ev es) (hq : h[q]? = some (.lst (es.map .int))) :
    callF gc ns (m+2) 27 [sumW ev rows outs, .loc q] h = .ok (.int (outI outs (ledI rows 0 es))) h := by
  have s1 := s.s1
  obtain ⟨g1, g2⟩ := ledI_lt s (es := es) (st := 0) (by omega) (by omega) he
  have o := (outI_ok s g1 g2).1
  have l2 := led_lst s m 26 q (ns := ns) rfl es 0 h (by omega) (by omega) he hq
  rw [callF_loc h (d := d27) rfl rfl (by simp [W.flats, W.flat])]
  have r1 : ∀ g : Ev, subR g (sumW ev rows outs) (.int 2) h = .ok (.tup outs) h := fun g => rd_tup _ _ (by simp)
  simp [runBody, d27, startA, callW, r1, l2, rd_tup _ _ o]
theorem law_answer_tup {ns : List Int} {ev : Int} {rows outs : List W} (s : Sum ev rows outs) (m : Nat) (es : List Int) (h : AH) (he : Evs ev es) :
    callF gc ns (m+2) 27 [sumW ev rows outs, .tup (es.map .int)] h = .ok (.int (outI outs (ledI rows 0 es))) h := by
  have s1 := s.s1
  obtain ⟨g1, g2⟩ := ledI_lt s (es := es) (st := 0) (by omega) (by omega) he
  have o := (outI_ok s g1 g2).1
  have l2 := fun h => led_tup s m 26 (ns := ns) rfl es 0 h (by omega) (by omega) he
  refine callF_flat h (d := d27) rfl rfl (by simp [W.flats, sumW_flat s, W.flat, flats_int]) rfl ?_ (h2 := [])
  have r1 : ∀ (g : Ev) h, subR g (sumW ev rows outs) (.int 2) h = .ok (.tup outs) h := fun g h => rd_tup _ _ (by simp)
  simp [runBody, d27, startA, callW, r1, l2, rd_tup _ _ o]
end Law
/-! Counts: how many logs lead to an answer. -/
namespace Law
open PySem AM K82
def gd (outs : List W) (num : Int) (q : Int) : Bool := decide (outI outs q = num)
/-- how many logs of k events lead from q to the answer -/
abbrev Cn (E : Nat) (rows outs : List W) (num : Int) (k : Nat) (q : Int) : Int := cnt (ent rows) E (gd outs num) k q
def rowK (E : Nat) (rows outs : List W) (num : Int) (k : Nat) : List Int := (List.range rows.length).map fun q : Nat => Cn E rows outs num k q
theorem rowK_get {E : Nat} {rows outs : List W} {num : Int} {k : Nat} {j : Int} (h1 : 0 ≤ j) (h2 : j < rows.length) : L2.atI ((rowK E rows outs num k).map W.int) j = some (.int (Cn E rows outs num k j)) := by
  obtain ⟨i, rfl⟩ : ∃ i : Nat, j = i := ⟨j.toNat, by omega⟩
  rw [atI_nat]
  unfold rowK
  rw [List.getElem?_map, List.getElem?_map, List.getElem?_eq_getElem (by simp; omega)]
  simp
/-- the lists of how many, for 0 to len events -/
structure Tab (h : AH) (w : W) (E : Nat) (rows outs : List W) (num : Int) (len : Nat) : Prop where
  ex : ∃ l ws, w = .loc l ∧ h[l]? = some (.lst ws) ∧ ws.length = len + 1 ∧ ∀ k, k ≤ len → ∃ p, ws[k]? = some (.loc p) ∧ h[p]? = some (.lst ((rowK E rows outs num k).map .int))
theorem Tab.fr {h h' : AH} {w : W} {E : Nat} {rows outs : List W} {num : Int} {len : Nat} (t : Tab h w E rows outs num len) (f : Fr [] h h') : Tab h' w E rows outs num len := by
  obtain ⟨l, ws, e1, e2, e3, e4⟩ := t.ex
  exact ⟨l, ws, e1, f.get e2 (by simp), e3, fun k hk => by
    obtain ⟨p, a, b⟩ := e4 k hk
    exact ⟨p, a, f.get b (by simp)⟩⟩
theorem dens_ints {h : AH} : ∀ {is : List Int} {ws : List W}, Dens h (is.map D.int) ws ↔ ws = is.map .int
  | [], ws => by unfold Dens; simp
  | i :: is, ws => by
    rw [List.map_cons, List.map_cons]
    unfold Dens
    constructor
    · rintro ⟨w, r, rfl, q1, q2⟩
      unfold Den at q1
      rw [q1, dens_ints.mp q2]
    · rintro rfl
      exact ⟨_, _, rfl, by unfold Den; rfl, dens_ints.mpr rfl⟩
def tabD (E : Nat) (rows outs : List W) (num : Int) (len : Nat) : D := .lst ((List.range (len + 1)).map fun k => .lst ((rowK E rows outs num k).map .int))
theorem Tab.of {h : AH} {w : W} {E : Nat} {rows outs : List W} {num : Int} {len : Nat} (d : Den h (tabD E rows outs num len) w) : Tab h w E rows outs num len := by
  unfold tabD Den at d
  obtain ⟨l, ws, rfl, e, q⟩ := d
  refine ⟨l, ws, rfl, e, by rw [q.len]; simp, fun k hk => ?_⟩
  obtain ⟨u, e1, e2⟩ := q.get (i := k) (by simp; omega)
  simp only [List.getElem_map, List.getElem_range] at e2
  unfold Den at e2
  obtain ⟨p, us, rfl, e3, e4⟩ := e2
  rw [dens_ints] at e4
  subst e4
  exact ⟨p, e1, e3⟩
theorem Tab.den {h : AH} {w : W} {E : Nat} {rows outs : List W} {num : Int} {len : Nat} (t : Tab h w E rows outs num len) : Den h (tabD E rows outs num len) w := by
  obtain ⟨l, ws, rfl, e, ln, q⟩ := t.ex
  unfold tabD Den
  refine ⟨l, ws, rfl, e, ?_⟩
  have key : ∀ (n : Nat) (us : List W) (a : Nat), us.length = n → (∀ k, k < n → ∃ p, us[k]? = some (.loc p) ∧ h[p]? = some (.lst ((rowK E rows outs num (a + k)).map .int))) → Dens h ((List.range' a n).map fun k => .lst ((rowK E rows outs num k).map .int)) us := by
    intro n
    induction n with
    | zero =>
      intro us a h1 _
      have : us = [] := List.eq_nil_of_length_eq_zero h1
      subst this
      unfold List.range' Dens
      rfl
    | succ n ih =>
      intro us a h1 h2
      cases us with
      | nil => cases h1
      | cons u us =>
        obtain ⟨p, e1, e2⟩ := h2 0 (by omega)
        rw [List.range'_succ, List.map_cons]
        unfold Dens
        refine ⟨u, us, rfl, ?_, ih us (a + 1) (by simpa using h1) fun k hk => ?_⟩
        · simp at e1
          subst e1
          unfold Den
          exact ⟨p, _, rfl, e2, dens_ints.mpr rfl⟩
        · obtain ⟨p, a1, a2⟩ := h2 (k + 1) (by omega)
          exact ⟨p, by simpa using a1, by rw [show a + 1 + k = a + (k + 1) by omega]; exact a2⟩
  rw [List.range_eq_range']
  exact key (len + 1) ws 0 ln fun k hk => by
    rw [Nat.zero_add]
    exact q k (by omega)
theorem Tab.read {h : AH} {w : W} {E : Nat} {rows outs : List W} {num : Int} {len : Nat} (t : Tab h w E rows outs num len) (g : Ev) {k : Nat} (hk : k ≤ len) : ∃ p, subR g w (.int k) h = .ok (.loc p) h ∧ ∀ j : Int, 0 ≤ j → j < rows.length → subR g (.loc p) (.int j) h = .ok (.int (Cn E rows outs num k j)) h := by
  obtain ⟨l, ws, rfl, e1, e2, e3⟩ := t.ex
  obtain ⟨p, a1, a2⟩ := e3 k hk
  exact ⟨p, rd_lst _ _ e1 (by rw [atI_nat]; exact a1), fun j h1 h2 => rd_lst _ _ a2 (rowK_get h1 h2)⟩
section
variable {E : Nat} {rows outs : List W} (s : Sum E rows outs) (num : Int)
include s
theorem dl_cl : ∀ q e : Int, 0 ≤ q → q < rows.length → 0 ≤ e → e < E → 0 ≤ ent rows q e ∧ ent rows q e < rows.length := fun q e h1 h2 h3 h4 => by
  obtain ⟨_, _, _, a, b⟩ := ent_ok s h1 h2 h3 h4
  exact ⟨a, b⟩
theorem ends_with_ok (ns : List Int) (m len : Nat) (h : AH) (hz : len ≤ 1000) : ∃ w h', callF gc ns (m+1) 15 [sumW E rows outs, .int num, .int len] h = .ok w h' ∧ Tab h' w E rows outs num len ∧ Fr [] h h' := by
  have s2 := s.s2
  have e2 := s.e2
  have c0 : evalL ⟨gc, ns, callF gc ns m⟩ (.comp [("one", 5)] (.nm 5) (.over (.sub (.var 0) (.con (.int 2)))) [] (.prim .int [.cmp .eq (.var 5) (.var 1)])) [some (sumW E rows outs), some (.int num), some (.int len), none, none, none, none, none] [] = .ok ((rowK E rows outs num 0).map .int) [] := by
    have em : (rowK E rows outs num 0).map W.int = (List.range rows.length).map fun q : Nat => .int (Cn E rows outs num 0 q) := by unfold rowK; simp
    rw [em]
    exact comp_enc _ (fun q : Nat => .int (outI outs q)) (fun q : Nat => .int (Cn E rows outs num 0 q)) (xs := List.range rows.length) (held := []) (by rw [← outs_eq s]; simp [overW]) rfl (by simp; omega) (fun q hq => ⟨_, by rw [xg_nm], by simp [wipeA, cnt, gd]⟩)
  obtain ⟨H, eH⟩ : ∃ H : AH, H = [.lst ((rowK E rows outs num 0).map .int), .lst [.loc 0]] := ⟨_, rfl⟩
  obtain ⟨σ', h', lp, ws, x, rfl, k1, k2, k3⟩ := forLoop_at (f := forF ⟨gc, ns, callF gc ns m⟩ (.nm 4) [.ex (.bm .append (.var 3) [.comp [("row", 6)] (.nm 6) (.over (.sub (.var 0) (.con (.int 1)))) [] (.primc .sum (.comp [("later", 7)] (.nm 7) (.over (.var 6)) [] (.sub (.sub (.var 3) (.neg (.con (.int 1)))) (.var 7))))])]) (held := []) (fun i : Nat => W.int (i : Int))
    (fun t σ k => ∃ ws x, σ = [some (sumW E rows outs), some (.int num), some (.int len), some (.loc 1), x, none, none, none] ∧ k[1]? = some (.lst ws) ∧ ws.length = t + 1 ∧ ∀ i, i ≤ t → ∃ p, p ≠ 1 ∧ ws[i]? = some (.loc p) ∧ k[p]? = some (.lst ((rowK E rows outs num i).map .int))) (fun _ _ _ _ => rfl) (List.range len) 0 (fun t ht σ k ⟨ws, x, es, k1, k2, k3⟩ => by
      subst es
      rw [Nat.zero_add] at k2 k3
      simp at ht
      obtain ⟨p, p1, p2, p3⟩ := k3 t (Nat.le_refl _)
      have nn : ws ≠ [] := fun z => by rw [z] at k2; cases k2
      have last := atI_neg1 nn
      rw [k2, Nat.add_sub_cancel, p2] at last
      have r1 := rd_lst ⟨gc, ns, callF gc ns m⟩ k (i := -1) k1 last
      have r2 : ∀ j : Int, 0 ≤ j → j < rows.length → subR ⟨gc, ns, callF gc ns m⟩ (.loc p) (.int j) k = .ok (.int (Cn E rows outs num t j)) k := fun j h1 h2 => rd_lst _ _ p3 (rowK_get h1 h2)
      have em : (rowK E rows outs num (t + 1)).map W.int = (List.range rows.length).map fun q : Nat => .int (Cn E rows outs num (t + 1) q) := by unfold rowK; simp
      have cc : evalL ⟨gc, ns, callF gc ns m⟩ (.comp [("row", 6)] (.nm 6) (.over (.sub (.var 0) (.con (.int 1)))) [] (.primc .sum (.comp [("later", 7)] (.nm 7) (.over (.var 6)) [] (.sub (.sub (.var 3) (.neg (.con (.int 1)))) (.var 7))))) [some (sumW E rows outs), some (.int num), some (.int len), some (.loc 1), some (.int (t : Int)), none, none, none] k = .ok ((rowK E rows outs num (t + 1)).map .int) k := by
        rw [em]
        refine comp_enc _ (fun q : Nat => .tup ((List.range E).map fun e : Nat => .int (ent rows q e))) (fun q : Nat => .int (Cn E rows outs num (t + 1) q)) (xs := List.range rows.length) (held := []) (by rw [← rows_eq s]; simp [overW]) rfl (by simp; omega) (fun q hq => ⟨_, by rw [xg_nm], ?_⟩)
        rw [List.mem_range] at hq
        have inn : evalL ⟨gc, ns, callF gc ns m⟩ (.comp [("later", 7)] (.nm 7) (.over (.var 6)) [] (.sub (.sub (.var 3) (.neg (.con (.int 1)))) (.var 7))) ([some (sumW E rows outs), some (.int num), some (.int len), some (.loc 1), some (.int (t : Int)), none, some (.tup ((List.range E).map fun e : Nat => .int (ent rows q e))), none]) k = .ok (((List.range E).map fun e : Nat => Cn E rows outs num t (ent rows q e)).map .int) k := by
          rw [List.map_map]
          refine comp_enc _ (fun e : Nat => .int (ent rows q e)) _ (xs := List.range E) (held := []) (by simp [overW]) rfl (by simp; omega) (fun e he => ⟨_, by rw [xg_nm], ?_⟩)
          rw [List.mem_range] at he
          obtain ⟨a, b⟩ := dl_cl s (q : Int) (e : Int) (by omega) (by omega) (by omega) (by omega)
          simp [wipeA, r1, r2 _ a b]
        simp [wipeA, inn, seq_sum, -List.map_map]
        rfl
      simp only [List.getElem_range]
      have lt1 := get_lt' k k1
      obtain ⟨L, eL⟩ : ∃ L, L = k ++ [O.lst ((rowK E rows outs num (t + 1)).map .int)] := ⟨_, rfl⟩
      have fL : Fr [] k L := by rw [eL]; exact Fr.app
      have g1 := fL.get k1 (by simp)
      have ap := app_lst (w := .loc k.length) g1 (by omega)
      have bt := bmt_app k1
      refine ⟨[some (sumW E rows outs), some (.int num), some (.int len), some (.loc 1), some (.int (t : Int)), none, none, none], L.set 1 (.lst (ws ++ [.loc k.length])), .inl ?_, ws ++ [.loc k.length], _, rfl, get_set g1, by simp; omega, fun i hi => ?_⟩
      · unfold forF
        simp [bt, cc, -List.map_map]
        rw [← eL, ap]
        simp
      · by_cases hi2 : i = t + 1
        · refine ⟨k.length, by omega, ?_, ?_⟩
          · rw [List.getElem?_append_right (by omega)]
            simp [hi2, k2]
          · rw [hi2]
            refine get_set_ne ?_ (by omega)
            rw [eL]
            simp
        · obtain ⟨p, a1, a2, a3⟩ := k3 i (by omega)
          exact ⟨p, a1, by rw [List.getElem?_append_left (by omega)]; exact a2, get_set_ne (fL.get a3 (by simp)) (Ne.symm a1)⟩) [some (sumW E rows outs), some (.int num), some (.int len), some (.loc 1), none, none, none, none] H ⟨[.loc 0], none, rfl, by rw [eH]; rfl, rfl, fun i hi => ⟨0, by decide, by
        have : i = 0 := by omega
        subst this
        rfl, by
        have : i = 0 := by omega
        subst this
        rw [eH]
        rfl⟩⟩
  rw [List.length_range, Nat.zero_add] at k2 k3
  have tab : Tab h' (.loc 1) E rows outs num len := ⟨1, ws, rfl, k1, k2, fun k hk => by
    obtain ⟨p, _, a2, a3⟩ := k3 k hk
    exact ⟨p, a2, a3⟩⟩
  have ro : rngOk (len : Int) = true := rng_ok (by omega) (by omega)
  have run : runBody ⟨gc, ns, callF gc ns m⟩ d15 [sumW E rows outs, .int num, .int len] [] = .ok (.loc 1) h' := by
    simp only [runBody, d15, startA]
    rw [ss_cons']
    simp [c0, szOk, -List.map_map]
    rw [← eH, ss_cons']
    simp [ro, rng0, lp]
  obtain ⟨w', h2, a1, a2, a3⟩ := callF_den (gc := gc) (f := 15) (h := h) (d := d15) rfl rfl (by simp [W.flats, sumW_flat s, W.flat]) run tab.den
  exact ⟨w', h2, a1, Tab.of a2, a3⟩
theorem has_answer_ok (ns : List Int) (m : Nat) (h : AH) : callF gc ns (m+2) 16 [sumW E rows outs, .int num] h = .ok (.bl ((List.range (rows.length + 1)).any fun i => decide (0 < Cn E rows outs num (rows.length + i) 0))) h := by
  have s1 := s.s1
  have s2 := s.s2
  obtain ⟨w, h', e1, t, f⟩ := ends_with_ok s num ns m (2 * rows.length) [] (by omega)
  obtain ⟨l, ws, rfl, e2, e3, e4⟩ := t.ex
  have dm := drop_map (ws := ws) rows.length
  rw [e3, show 2 * rows.length + 1 - rows.length = rows.length + 1 by omega] at dm
  have sl : slcR ns (.loc l) (some (rows.length : Int)) none h' = .ok (.loc h'.length) (h' ++ [.lst ((List.range (rows.length + 1)).map fun i => ws.getD (rows.length + i) .non)]) := by
    rw [slc_lst ns _ _ e2, cut_from _ (by omega), Int.toNat_natCast, dm]
  obtain ⟨L, eL⟩ : ∃ L, L = h' ++ [O.lst ((List.range (rows.length + 1)).map fun i => ws.getD (rows.length + i) .non)] := ⟨_, rfl⟩
  rw [← eL] at sl
  have fL : Fr [] h' L := by rw [eL]; exact Fr.app
  have gL : L[h'.length]? = some (.lst ((List.range (rows.length + 1)).map fun i => ws.getD (rows.length + i) .non)) := by rw [eL]; simp
  have mk : mulOk 2 (rows.length : Int) = true := mul_okL (by decide)
  have ei : evalI ⟨gc, ns, callF gc ns (m+1)⟩ (.over (.slc (.call 15 [.var 0, .var 1, .bin .mul (.con (.int 2)) (.var 2)] [] []) [.var 2] [])) [some (sumW E rows outs), some (.int num), some (.int rows.length), none] [] = .ok ⟨(List.range (rows.length + 1)).map fun i => ws.getD (rows.length + i) .non, [(h'.length, (List.range (rows.length + 1)).map fun i => ws.getD (rows.length + i) .non)]⟩ L := by
    have e1' : callF gc ns (m+1) 15 [sumW E rows outs, .int num, .int (2 * (rows.length : Int))] [] = .ok (.loc l) h' := by
      rw [← e1]
      congr 4
    simp [mk, e1', sl, overW, gL]
  have cp : evalL ⟨gc, ns, callF gc ns (m+1)⟩ (.comp [("ways", 3)] (.nm 3) (.over (.slc (.call 15 [.var 0, .var 1, .bin .mul (.con (.int 2)) (.var 2)] [] []) [.var 2] [])) [] (.cmp .gt (.sub (.var 3) (.con (.int 0))) (.con (.int 0)))) [some (sumW E rows outs), some (.int num), some (.int rows.length), none] [] = .ok ((List.range (rows.length + 1)).map fun i => W.bl (decide (0 < Cn E rows outs num (rows.length + i) 0))) L :=
    comp_enc _ (fun i => ws.getD (rows.length + i) .non) (fun i => .bl (decide (0 < Cn E rows outs num (rows.length + i) 0))) ei (by simp [heldOk, gL]) (by simp; omega) (fun i hi => ⟨_, by rw [xg_nm], by
      rw [List.mem_range] at hi
      obtain ⟨p, a1, a2⟩ := e4 (rows.length + i) (by omega)
      have gd : ws.getD (rows.length + i) .non = .loc p := by
        rw [List.getD_eq_getElem?_getD, a1]
        rfl
      have r0 := rd_lst ⟨gc, ns, callF gc ns (m+1)⟩ L (i := 0) (fL.get a2 (by simp)) (rowK_get (by decide) (by omega))
      simp only [gd]
      simp [wipeA, r0]⟩)
  refine callF_flat h (d := d16) rfl rfl (by simp [W.flats, sumW_flat s, W.flat]) rfl ?_ (h2 := L)
  simp only [runBody, d16, startA]
  rw [ss_cons']
  simp
  simp [cp, -List.map_map]
  rw [any_bools]
  rfl
end
end Law
/-! The log of a number. -/
namespace Law
open PySem AM K82
theorem rng_down (len : Nat) : rngD ((len : Int) + 1 - 2) (-1) = (List.range len).map fun t : Nat => W.int ((len : Int) - 1 - t) := by
  unfold rngD
  rw [show ((len : Int) + 1 - 2 - -1).toNat = len by omega]
  refine List.map_congr_left fun t _ => ?_
  rw [show (len : Int) + 1 - 2 = (len : Int) - 1 by omega]
theorem ledI_run (rows : List W) : ∀ (es : List Int) (q : Int), ledI rows q es = K82.run (ent rows) q es
  | [], q => rfl
  | e :: es, q => by
    unfold ledI
    rw [ledI_run rows es]
    rfl
section
variable {E : Nat} {rows outs : List W} (s : Sum E rows outs) (num : Int)
/-- the walk of log_by, after some turns -/
structure By (E : Nat) (rows outs : List W) (num : Int) (len : Nat) (left : Int) (es : List Int) (lt : Int) : Prop where
  ln : es.length ≤ len
  ev : Evs E es
  ge : 0 ≤ lt
  up : lt < Cn E rows outs num (len - es.length) (K82.run (ent rows) 0 es)
  lx : ∀ tail : List Int, tail.length = len - es.length → lexr (ent rows) E (gd outs num) 0 (es ++ tail) = left - lt + lexr (ent rows) E (gd outs num) (K82.run (ent rows) 0 es) tail
theorem By.next {len : Nat} {left lt : Int} {es : List Int} (b : By E rows outs num len left es lt) (hl : es.length < len) {i : Nat} (hi : i < E) {lt' : Int} (e : lt' = lt - sm i fun i => Cn E rows outs num (len - es.length - 1) (ent rows (K82.run (ent rows) 0 es) i)) (h0 : 0 ≤ lt') (h1 : lt' < Cn E rows outs num (len - es.length - 1) (ent rows (K82.run (ent rows) 0 es) i)) : By E rows outs num len left (es ++ [(i : Int)]) lt' := by
  have er : K82.run (ent rows) 0 (es ++ [(i : Int)]) = ent rows (K82.run (ent rows) 0 es) i := by rw [run_app]; rfl
  refine ⟨by simp; omega, b.ev.app (.one (by omega) (by omega)), h0, ?_, fun tail ht => ?_⟩
  · rw [er, List.length_append]
    exact h1
  · rw [List.length_append] at ht
    have ht : tail.length = len - es.length - 1 := ht
    have := b.lx ((i : Int) :: tail) (by rw [List.length_cons]; omega)
    rw [er, List.append_assoc]
    show lexr _ _ _ _ (es ++ (i : Int) :: tail) = _
    have e : lt' = lt - sm i fun i => cnt (ent rows) E (gd outs num) (len - es.length - 1) (ent rows (K82.run (ent rows) 0 es) i) := e
    rw [this, lexr, Int.toNat_natCast, ht, e]
    omega
include s
theorem log_by_ok (ns : List Int) (m len l : Nat) (h : AH) (t : Tab h (.loc l) E rows outs num len) (left : Int) (h1 : 0 ≤ left) (h2 : left < Cn E rows outs num len 0) (hz : len ≤ 1000) :
    ∃ es : List Int, callF gc ns (m+1) 18 [sumW E rows outs, .loc l, .int left] h = .ok (.tup (es.map .int)) h ∧ By E rows outs num len left es 0 ∧ es.length = len := by
  have s1 := s.s1
  have s2 := s.s2
  obtain ⟨_, ws, el, q1, q2, q3⟩ := t.ex
  cases el
  obtain ⟨σ', h', lp, es, lt, x3, x6, x7, eσ, eh, k1, k2⟩ := forLoop_at (f := forF ⟨gc, ns, callF gc ns m⟩ (.nm 3) [.for_ (.tp [.nm 6, .nm 7]) (.enum (.sub (.sub (.var 0) (.con (.int 1))) (.var 4))) [.iff (.val (.cmp .lt (.var 2) (.sub (.sub (.var 1) (.var 3)) (.var 7)))) [.asg (.tp [.nm 4, .nm 5]) (.tup [.var 7, .bin .add (.var 5) (.tup [.var 6])]), .brk] [], .aug (.nm 2) .sub (.sub (.sub (.var 1) (.var 3)) (.var 7))]]) (held := []) (fun t : Nat => W.int ((len : Int) - 1 - t))
    (fun t σ k => ∃ es lt x3 x6 x7, σ = [some (sumW E rows outs), some (.loc l), some (.int lt), x3, some (.int (K82.run (ent rows) 0 es)), some (.tup (es.map .int)), x6, x7] ∧ k = h ∧ By E rows outs num len left es lt ∧ es.length = t) (fun _ _ _ _ => rfl) (List.range len) 0 (fun u hu σ k ⟨es, lt, x3, x6, x7, e1, e2, by1, e4⟩ => by
      subst e1
      subst e2
      rw [Nat.zero_add] at e4
      simp at hu
      simp only [List.getElem_range]
      rw [show (len : Int) - 1 - (u : Int) = ((len - u - 1 : Nat) : Int) by omega]
      obtain ⟨K, eK⟩ : ∃ K, K = len - u - 1 := ⟨_, rfl⟩
      rw [← eK]
      obtain ⟨g, eg⟩ : ∃ g, g = (⟨gc, ns, callF gc ns m⟩ : Ev) := ⟨_, rfl⟩
      rw [← eg]
      obtain ⟨p, r1, r2⟩ := t.read g (k := K) (by omega)
      obtain ⟨c1, c2⟩ := run_in (dl_cl s) es 0 by1.ev (by omega) (by omega)
      obtain ⟨q, eq⟩ : ∃ q : Nat, K82.run (ent rows) 0 es = q := ⟨(K82.run (ent rows) 0 es).toNat, by omega⟩
      rw [eq] at c1 c2
      rw [eq]
      have rr : L2.atI rows (q : Int) = some (.tup ((List.range E).map fun e : Nat => .int (ent rows q e))) := by rw [atI_nat]; exact row_eq s (by omega)
      have r3 : subR g (sumW E rows outs) (.int 1) k = .ok (.tup rows) k := rd_tup _ _ (by simp)
      have r4 := rd_tup g k rr
      have en : enumFrom 0 ((List.range E).map fun e : Nat => W.int (ent rows q e)) = (List.range E).map fun e : Nat => .tup [.int e, .int (ent rows q e)] := by
        rw [enum_zip]
        apply List.ext_getElem?
        intro i
        by_cases hi : i < E
        · simp [hi]
        · simp [hi]
      have byL := by1.up
      rw [eq, e4, show len - u = K + 1 by omega, Cn, cnt] at byL
      obtain ⟨σ', h', lp, rest⟩ := forLoop_brk (f := forF g (.tp [.nm 6, .nm 7]) [.iff (.val (.cmp .lt (.var 2) (.sub (.sub (.var 1) (.var 3)) (.var 7)))) [.asg (.tp [.nm 4, .nm 5]) (.tup [.var 7, .bin .add (.var 5) (.tup [.var 6])]), .brk] [], .aug (.nm 2) .sub (.sub (.sub (.var 1) (.var 3)) (.var 7))]) (held := []) (fun i : Nat => W.tup [.int i, .int (ent rows q i)])
        (fun pre σ k' => ∃ lt' x6 x7, σ = [some (sumW E rows outs), some (.loc l), some (.int lt'), some (.int K), some (.int q), some (.tup (es.map .int)), x6, x7] ∧ k' = k ∧ lt' = lt - sm pre.length (fun i => Cn E rows outs num K (ent rows q i)) ∧ 0 ≤ lt')
        (fun σ k' => ∃ (i : Nat) (lt' : Int) (x6 x7 : Option W), σ = [some (sumW E rows outs), some (.loc l), some (.int lt'), some (.int K), some (.int (ent rows q i)), some (.tup ((es ++ [(i : Int)]).map .int)), x6, x7] ∧ k' = k ∧ i < E ∧ lt' = lt - sm i (fun i => Cn E rows outs num K (ent rows q i)) ∧ 0 ≤ lt' ∧ lt' < Cn E rows outs num K (ent rows q i))
        (fun _ _ _ _ => rfl) (List.range E) (fun pre x post ep σ k' ⟨lt', x6, x7, e1, e2, e3, e5⟩ => by
          subst e1
          subst e2
          have hx : x < E := by
            have := List.mem_range.mp (ep ▸ (by simp : x ∈ pre ++ x :: post) : x ∈ List.range E)
            exact this
          have pl : pre.length = x := by rw [range_split ep, List.length_range]
          obtain ⟨d1, d2⟩ := dl_cl s (q : Int) (x : Int) (by omega) (by omega) (by omega) (by omega)
          have r5 := r2 _ d1 d2
          by_cases hc : lt' < Cn E rows outs num K (ent rows q x)
          · refine .inl ⟨_, _, ?_, x, lt', some (.int (x : Int)), some (.int (ent rows q x)), rfl, rfl, hx, by rw [e3, pl], e5, hc⟩
            unfold forF
            simp
            rw [ss_cons']
            simp [r1, r5, hc]
            rw [ss_cons']
            simp [szOk, add_tup _ _ (show (es.map W.int).length + [W.int (x : Int)].length ≤ 1000000 by simp; omega)]
          · refine .inr ⟨_, _, .inl ?_, lt' - Cn E rows outs num K (ent rows q x), some (.int (x : Int)), some (.int (ent rows q x)), rfl, rfl, ?_, by omega⟩
            · unfold forF
              simp
              rw [ss_cons']
              simp [r1, r5, hc]
            · rw [List.length_append, e3, pl]
              show _ = lt - sm (x + 1) _
              rw [sm_succ]
              omega) (σ := [some (sumW E rows outs), some (.loc l), some (.int lt), some (.int K), some (.int q), some (.tup (es.map .int)), x6, x7]) (h := k) ⟨lt, x6, x7, rfl, rfl, by show _ = lt - sm 0 _; rw [sm_zero]; omega, by1.ge⟩
      refine ⟨σ', h', .inl ?_, ?_⟩
      · unfold forF
        simp [r3, r4, overW, en, lp, -List.map_map]
      · rcases rest with ⟨i, lt', x6, x7, e1, e2, hi, e3, e5, e6⟩ | ⟨lt', x6, x7, e1, e2, e3, e5⟩
        · have bn := by1.next num (i := i) (lt' := lt') (by omega) hi (by rw [eq, e4, ← eK]; exact e3) e5 (by rw [eq, e4, ← eK]; exact e6)
          exact ⟨es ++ [(i : Int)], lt', _, x6, x7, by rw [e1, run_app, eq]; rfl, e2, bn, by simp; omega⟩
        · rw [List.length_range] at e3
          have e3 : lt' = lt - sm E fun e => cnt (ent rows) E (gd outs num) K (ent rows q e) := e3
          omega) [some (sumW E rows outs), some (.loc l), some (.int left), none, some (.int 0), some (.tup []), none, none] h ⟨[], left, none, none, none, rfl, rfl, ⟨Nat.zero_le _, .nil, h1, h2, fun tail _ => by
        show _ = left - left + lexr _ _ _ 0 tail
        rw [List.nil_append]
        omega⟩, rfl⟩
  rw [eσ, eh] at lp
  rw [List.length_range, Nat.zero_add] at k2
  have z : lt = 0 := by
    have a := k1.ge
    have b := k1.up
    rw [k2, Nat.sub_self, Cn, cnt] at b
    split at b <;> omega
  subst z
  refine ⟨es, ?_, k1, k2⟩
  have ro : rngOk ((len : Int) + 1 - 2) = true := by
    unfold rngOk
    simp
    omega
  have ro2 : rngOk (-1) = true := by decide
  rw [callF_loc h (d := d18) rfl rfl (by simp [W.flats, W.flat])]
  simp only [runBody, d18, startA]
  rw [ss_cons']
  simp [szOk]
  rw [ss_cons']
  simp [pr_lenL _ _ q1, q2, ro, ro2, rngR, rng_down, lp, -List.map_map]
end
end Law
/-! Logs by place. -/
namespace Law
open PySem AM K82
/-- how many logs are shorter than k -/
def cs (E : Nat) (rows outs : List W) (num : Int) (k : Nat) : Int := sm k fun k => Cn E rows outs num k 0
def ed (E : Nat) (rows outs : List W) (num : Int) : Bool := (List.range (rows.length + 1)).any fun i => decide (0 < Cn E rows outs num (rows.length + i) 0)
section
variable {E : Nat} {rows outs : List W} (s : Sum E rows outs) (num : Int)
theorem cs_succ (k : Nat) : cs E rows outs num (k + 1) = cs E rows outs num k + Cn E rows outs num k 0 := by
  unfold cs
  rw [sm_succ]
theorem cs_mono {a b : Nat} (h : a ≤ b) : cs E rows outs num a ≤ cs E rows outs num b := sm_le (fun k => cnt_nonneg _ _ _ k _) h
include s
theorem ed_iff : ed E rows outs num = true ↔ ∃ k, rows.length ≤ k ∧ 0 < Cn E rows outs num k 0 := by
  have s1 := s.s1
  unfold ed
  rw [List.any_eq_true]
  constructor
  · rintro ⟨i, _, h⟩
    exact ⟨_, Nat.le_add_right _ _, of_decide_eq_true h⟩
  · rintro ⟨k, h1, h2⟩
    obtain ⟨j, a, b, c⟩ := pump_down (good := gd outs num) (dl_cl s) (q := 0) (by omega) (by omega) h1 ((cnt_pos _ _ _ _ _).mp h2)
    exact ⟨j - rows.length, by rw [List.mem_range]; omega, by rw [show rows.length + (j - rows.length) = j by omega]; exact decide_eq_true ((cnt_pos _ _ _ _ _).mpr c)⟩
theorem ed_iff2 : ed E rows outs num = true ↔ ∃ k, rows.length ≤ k ∧ k < 2 * rows.length ∧ 0 < Cn E rows outs num k 0 := by
  have s1 := s.s1
  rw [ed_iff s]
  constructor
  · rintro ⟨k, h1, h2⟩
    obtain ⟨j, a, b, c⟩ := pump_down (good := gd outs num) (dl_cl s) (q := 0) (by omega) (by omega) h1 ((cnt_pos _ _ _ _ _).mp h2)
    exact ⟨j, a, b, (cnt_pos _ _ _ _ _).mpr c⟩
  · rintro ⟨k, h1, _, h2⟩
    exact ⟨k, h1, h2⟩
theorem cs_end (h : ed E rows outs num = false) : ∀ {k : Nat}, rows.length ≤ k → cs E rows outs num k = cs E rows outs num rows.length
  | 0, hk => by rw [show rows.length = 0 by omega]
  | k + 1, hk => by
    by_cases q : rows.length = k + 1
    · rw [q]
    · rw [cs_succ, cs_end h (show rows.length ≤ k by omega)]
      have z : ¬ 0 < Cn E rows outs num k 0 := fun z => by
        have := (ed_iff s num).mpr ⟨k, by omega, z⟩
        rw [h] at this
        cases this
      have : 0 ≤ Cn E rows outs num k 0 := cnt_nonneg (ent rows) E (gd outs num) k 0
      omega
theorem at_hit (ns : List Int) (m k : Nat) (h : AH) (b : Bool) (x6 : Option W) (place : Int) (hk : k ≤ 1000) (h1 : cs E rows outs num k ≤ place) (h2 : place < cs E rows outs num (k + 1)) :
    ∃ es h', evalSs ⟨gc, ns, callF gc ns (m+1)⟩ [.asg (.nm 6) (.call 15 [.var 0, .var 1, .var 3] [] []), .iff (.val (.cmp .lt (.var 4) (.sub (.sub (.var 6) (.var 3)) (.con (.int 0))))) [.ret (.call 18 [.var 0, .var 6, .var 4] [] [])] [], .aug (.nm 4) .sub (.sub (.sub (.var 6) (.var 3)) (.con (.int 0))), .aug (.nm 3) .add (.con (.int 1))] [some (sumW E rows outs), some (.int num), some (.int place), some (.int k), some (.int (place - cs E rows outs num k)), some (.bl b), x6] h = .ret (.tup (es.map .int)) h' ∧ By E rows outs num k (place - cs E rows outs num k) es 0 ∧ es.length = k := by
  have s1 := s.s1
  rw [cs_succ] at h2
  obtain ⟨w, h', e1, t, f⟩ := ends_with_ok s num ns m k h hk
  obtain ⟨l, _, rfl, _⟩ := t.ex
  obtain ⟨p, r1, r2⟩ := t.read ⟨gc, ns, callF gc ns (m+1)⟩ (Nat.le_refl k)
  have r3 := r2 0 (by omega) (by omega)
  obtain ⟨es, e2, by1, e3⟩ := log_by_ok s num ns m k l h' t (place - cs E rows outs num k) (by omega) (by omega) hk
  refine ⟨es, h', ?_, by1, e3⟩
  rw [ss_cons']
  simp [e1]
  rw [ss_cons']
  simp [r1, r3, show place - cs E rows outs num k < Cn E rows outs num k 0 by omega, e2]
theorem at_miss (ns : List Int) (m k : Nat) (h : AH) (b : Bool) (x6 : Option W) (place : Int) (hk : k ≤ 1000) (h2 : cs E rows outs num (k + 1) ≤ place) :
    ∃ w h', evalSs ⟨gc, ns, callF gc ns (m+1)⟩ [.asg (.nm 6) (.call 15 [.var 0, .var 1, .var 3] [] []), .iff (.val (.cmp .lt (.var 4) (.sub (.sub (.var 6) (.var 3)) (.con (.int 0))))) [.ret (.call 18 [.var 0, .var 6, .var 4] [] [])] [], .aug (.nm 4) .sub (.sub (.sub (.var 6) (.var 3)) (.con (.int 0))), .aug (.nm 3) .add (.con (.int 1))] [some (sumW E rows outs), some (.int num), some (.int place), some (.int k), some (.int (place - cs E rows outs num k)), some (.bl b), x6] h = .next [some (sumW E rows outs), some (.int num), some (.int place), some (.int (k + 1 : Nat)), some (.int (place - cs E rows outs num (k + 1))), some (.bl b), some w] h' := by
  have s1 := s.s1
  have ec := cs_succ (E := E) (rows := rows) (outs := outs) num k
  obtain ⟨w, h', e1, t, f⟩ := ends_with_ok s num ns m k h hk
  obtain ⟨l, _, rfl, _⟩ := t.ex
  obtain ⟨p, r1, r2⟩ := t.read ⟨gc, ns, callF gc ns (m+1)⟩ (Nat.le_refl k)
  have r3 := r2 0 (by omega) (by omega)
  refine ⟨.loc l, h', ?_⟩
  rw [show place - cs E rows outs num (k + 1) = place - cs E rows outs num k - Cn E rows outs num k 0 by omega]
  rw [ss_cons']
  simp [e1]
  rw [ss_cons']
  simp [r1, r3, show ¬ place - cs E rows outs num k < Cn E rows outs num k 0 by omega]
  rw [ss_cons']
  simp [r1, r3]
theorem at_test (g : Ev) (k : Nat) (h : AH) (b : Bool) (x6 : Option W) (place left : Int) :
    evalT g (.or [.val (.var 5), .val (.cmp .le (.var 3) (.prim .len [.sub (.var 0) (.con (.int 1))]))]) [some (sumW E rows outs), some (.int num), some (.int place), some (.int k), some (.int left), some (.bl b), x6] h = .ok (b || decide (k ≤ rows.length)) h := by
  have r1 : subR g (sumW E rows outs) (.int 1) h = .ok (.tup rows) h := rd_tup _ _ (by simp)
  cases b
  · by_cases q : k ≤ rows.length <;> simp [r1, q]
  · simp
theorem log_at_hit (ns : List Int) (m L : Nat) (h : AH) (place : Int) (hn : 0 ≤ num) (hp : 0 ≤ place) (hL : L ≤ 1000) (h1 : cs E rows outs num L ≤ place) (h2 : place < cs E rows outs num (L + 1)) :
    ∃ es, callF gc ns (m+7) 17 [sumW E rows outs, .int num, .int place] h = .ok (.tup (es.map .int)) h ∧ By E rows outs num L (place - cs E rows outs num L) es 0 ∧ es.length = L := by
  have hE : ed E rows outs num = true ∨ L < rows.length := by
    by_cases q : L < rows.length
    · exact .inr q
    · refine .inl ((ed_iff s num).mpr ⟨L, by omega, ?_⟩)
      rw [cs_succ] at h2
      omega
  obtain ⟨es, h', lp, by1, el⟩ := whl_gen (t := fun σ1 h1 => evalT ⟨gc, ns, callF gc ns (m+6)⟩ (.or [.val (.var 5), .val (.cmp .le (.var 3) (.prim .len [.sub (.var 0) (.con (.int 1))]))]) σ1 h1) (b := fun σ1 h1 => evalSs ⟨gc, ns, callF gc ns (m+6)⟩ [.asg (.nm 6) (.call 15 [.var 0, .var 1, .var 3] [] []), .iff (.val (.cmp .lt (.var 4) (.sub (.sub (.var 6) (.var 3)) (.con (.int 0))))) [.ret (.call 18 [.var 0, .var 6, .var 4] [] [])] [], .aug (.nm 4) .sub (.sub (.sub (.var 6) (.var 3)) (.con (.int 0))), .aug (.nm 3) .add (.con (.int 1))] σ1 h1)
    (fun j σ _ => ∃ k x6, j + k = L ∧ σ = [some (sumW E rows outs), some (.int num), some (.int place), some (.int k), some (.int (place - cs E rows outs num k)), some (.bl (ed E rows outs num)), x6])
    (fun o => ∃ es h', o = .ret (.tup (es.map .int)) h' ∧ By E rows outs num L (place - cs E rows outs num L) es 0 ∧ es.length = L)
    (fun j σ h0 ⟨k, x6, e1, e2⟩ => by
      subst e2
      have tt : (ed E rows outs num || decide (k ≤ rows.length)) = true := by
        rcases hE with q | q
        · rw [q]; rfl
        · rw [decide_eq_true (by omega), Bool.or_true]
      refine .inr ⟨h0, by rw [← tt]; exact at_test s num _ k h0 _ x6 place _, ?_⟩
      by_cases q : k = L
      · subst q
        obtain ⟨es, h', a, b, c⟩ := at_hit s num ns (m+5) k h0 (ed E rows outs num) x6 place hL h1 h2
        exact .inl ⟨_, _, a, es, h', rfl, b, c⟩
      · have := cs_mono (E := E) (rows := rows) (outs := outs) num (show k + 1 ≤ L by omega)
        obtain ⟨w, h', a⟩ := at_miss s num ns (m+5) k h0 (ed E rows outs num) x6 place (by omega) (by omega)
        exact .inr ⟨_, h', j - 1, by omega, .inl a, k + 1, some w, by omega, rfl⟩) L 1000000 [some (sumW E rows outs), some (.int num), some (.int place), some (.int 0), some (.int place), some (.bl (ed E rows outs num)), none] [] (by omega) ⟨0, none, by omega, by
        have : cs E rows outs num 0 = 0 := sm_zero _
        rw [this, Int.sub_zero]
        rfl⟩
  refine ⟨es, callF_flat h (d := d17) rfl rfl (by simp [W.flats, sumW_flat s, W.flat]) (by simp [W.flat, flats_int]) ?_ (h2 := h'), by1, el⟩
  have c1 := check_summary_ok (ns := ns) s m []
  have c2 := check_number_ok ns (m+3) num [] hn
  have c3 := check_number_ok ns (m+3) place [] hp
  have c4 : callF gc ns (m+6) 16 [sumW E rows outs, .int num] [] = .ok (.bl (ed E rows outs num)) [] := has_answer_ok s num ns (m+4) []
  have rn := run_whlO (g := ⟨gc, ns, callF gc ns (m+6)⟩) lp rfl
  simp only [runBody, d17, startA]
  rw [ss_cons']
  simp [c1]
  rw [ss_cons']
  simp [c2]
  rw [ss_cons']
  simp [c3]
  rw [ss_cons']
  simp [c4, szOk]
  rw [ss_cons', rn]
  simp
theorem log_at_none (ns : List Int) (m : Nat) (h : AH) (place : Int) (hn : 0 ≤ num) (hp : 0 ≤ place) (he : ed E rows outs num = false) (h1 : cs E rows outs num rows.length ≤ place) :
    callF gc ns (m+7) 17 [sumW E rows outs, .int num, .int place] h = .ok .non h := by
  have s2 := s.s2
  obtain ⟨σ', h', lp⟩ := whl_gen (t := fun σ1 h1 => evalT ⟨gc, ns, callF gc ns (m+6)⟩ (.or [.val (.var 5), .val (.cmp .le (.var 3) (.prim .len [.sub (.var 0) (.con (.int 1))]))]) σ1 h1) (b := fun σ1 h1 => evalSs ⟨gc, ns, callF gc ns (m+6)⟩ [.asg (.nm 6) (.call 15 [.var 0, .var 1, .var 3] [] []), .iff (.val (.cmp .lt (.var 4) (.sub (.sub (.var 6) (.var 3)) (.con (.int 0))))) [.ret (.call 18 [.var 0, .var 6, .var 4] [] [])] [], .aug (.nm 4) .sub (.sub (.sub (.var 6) (.var 3)) (.con (.int 0))), .aug (.nm 3) .add (.con (.int 1))] σ1 h1)
    (fun j σ _ => ∃ k x6, j + k = rows.length + 1 ∧ σ = [some (sumW E rows outs), some (.int num), some (.int place), some (.int k), some (.int (place - cs E rows outs num k)), some (.bl false), x6])
    (fun o => ∃ σ' h', o = .next σ' h')
    (fun j σ h0 ⟨k, x6, e1, e2⟩ => by
      subst e2
      have tt := at_test s num ⟨gc, ns, callF gc ns (m+6)⟩ k h0 false x6 place (place - cs E rows outs num k)
      rw [Bool.false_or] at tt
      by_cases q : k ≤ rows.length
      · refine .inr ⟨h0, tt.trans (by rw [decide_eq_true q]), ?_⟩
        have le : cs E rows outs num (k + 1) ≤ cs E rows outs num (rows.length + 1) := cs_mono num (by omega)
        rw [cs_end s num he (show rows.length ≤ rows.length + 1 by omega)] at le
        obtain ⟨w, h', a⟩ := at_miss s num ns (m+5) k h0 false x6 place (by omega) (by omega)
        exact .inr ⟨_, h', j - 1, by omega, .inl a, k + 1, some w, by omega, rfl⟩
      · exact .inl ⟨h0, tt.trans (by rw [decide_eq_false q]), _, _, rfl⟩) (rows.length + 1) 1000000 [some (sumW E rows outs), some (.int num), some (.int place), some (.int 0), some (.int place), some (.bl false), none] [] (by omega) ⟨0, none, by omega, by
        have : cs E rows outs num 0 = 0 := sm_zero _
        rw [this, Int.sub_zero]
        rfl⟩
  refine callF_flat h (d := d17) rfl rfl (by simp [W.flats, sumW_flat s, W.flat]) rfl ?_ (h2 := h')
  have c1 := check_summary_ok (ns := ns) s m []
  have c2 := check_number_ok ns (m+3) num [] hn
  have c3 := check_number_ok ns (m+3) place [] hp
  have c4 : callF gc ns (m+6) 16 [sumW E rows outs, .int num] [] = .ok (.bl (ed E rows outs num)) [] := has_answer_ok s num ns (m+4) []
  rw [he] at c4
  have rn := run_whlO (g := ⟨gc, ns, callF gc ns (m+6)⟩) lp rfl
  simp only [runBody, d17, startA]
  rw [ss_cons']
  simp [c1]
  rw [ss_cons']
  simp [c2]
  rw [ss_cons']
  simp [c3]
  rw [ss_cons']
  simp [c4, szOk]
  rw [ss_cons', rn]
  simp
end
end Law
/-! Logs are looked at. -/
namespace Law
open PySem AM
theorem enum_mem {n : Nat} : ∀ {ws : List W} {w : W}, w ∈ enumFrom n ws → ∃ (i : Nat) (u : W), w = .tup [.int i, u] ∧ u ∈ ws
  | [], _, h => by cases h
  | x :: ws, w, h => by
    unfold enumFrom at h
    rcases List.mem_cons.mp h with rfl | h
    · exact ⟨n, x, rfl, List.mem_cons_self⟩
    · obtain ⟨i, u, e, hu⟩ := enum_mem h
      exact ⟨i, u, e, List.mem_cons_of_mem _ hu⟩
theorem row_fault_ok (ns : List Int) (m : Nat) (n : Int) (is : List Int) (h : AH) (hz : ∀ i ∈ is, 0 ≤ i ∧ i < n) : callF gc ns (m+4) 7 [.int n, .tup (is.map .int)] h = .ok .non h := by
  refine callF_flat h (d := d7) rfl rfl (by simp [W.flats, W.flat, flats_int]) rfl ?_ (h2 := [])
  have lp := forLoop_inv (f := forF ⟨gc, ns, callF gc ns (m+3)⟩ (.tp [.nm 2, .nm 3]) [.iff (.not (.val (.call 4 [.var 0, .var 3] [] []))) [.ret (.var 2)] []]) (held := []) (fun _ σ k => k = [] ∧ ∃ x y, σ = [some (.int n), some (.tup (is.map .int)), x, y]) (enumFrom 0 (is.map .int)) 0 (fun i hi σ k ⟨hk, x, y, e⟩ => by
    subst hk e
    obtain ⟨j, u, e1, hu⟩ := enum_mem (List.getElem_mem hi)
    obtain ⟨v, hv, rfl⟩ := List.mem_map.mp hu
    rw [e1]
    refine ⟨[some (.int n), some (.tup (is.map .int)), some (.int j), some (.int v)], [], .inl ?_, rfl, _, _, rfl⟩
    unfold forF
    simp [callW, is_below_int, hz v hv]) (fun _ _ _ _ => rfl) [some (.int n), some (.tup (is.map .int)), none, none] [] ⟨rfl, _, _, rfl⟩
  obtain ⟨σ', h', e, rfl, x, y, rfl⟩ := lp
  simp only [runBody, d7, startA]
  rw [ss_cons']
  simp [primW, typW, isiB]
  rw [ss_cons']
  simp [overW, e]
theorem check_log_ok (ns : List Int) (m : Nat) (n : Int) (is : List Int) (h : AH) (hz : ∀ i ∈ is, 0 ≤ i ∧ i < n) : callF gc ns (m+5) 9 [.int n, .tup (is.map .int)] h = .ok .non h := by
  refine callF_flat h (d := d9) rfl rfl (by simp [W.flats, W.flat, flats_int]) rfl ?_ (h2 := [])
  simp [runBody, d9, startA, ss_cons', callW, row_fault_ok ns m n is [] hz]
theorem check_read_ok {E : Int} {rows outs : List W} (s : Sum E rows outs) (ns : List Int) (m : Nat) (is : List Int) (h : AH) (hz : Evs E is) : callF gc ns (m+7) 12 [sumW E rows outs, .tup (is.map .int)] h = .ok .non h := by
  refine callF_flat h (d := d12) rfl rfl (by simp [W.flats, sumW_flat s, W.flat, flats_int]) rfl ?_ (h2 := [])
  have r1 : ∀ (g : Ev) h, subR g (sumW E rows outs) (.int 0) h = .ok (.int E) h := fun g h => rd_tup _ _ (by simp)
  have c := check_summary_ok (ns := ns) s m []
  simp only [runBody, d12, startA]
  rw [ss_cons']
  simp [c, r1, check_log_ok ns (m+1) E is [] hz]
theorem answer_in_ok {ns : List Int} {ev : Int} {rows outs : List W} (s : Sum ev rows outs) (m : Nat) (es : List Int) (h : AH) (he : Evs ev es) :
    callF gc ns (m+2) 14 [sumW ev rows outs, .tup (es.map .int)] h = .ok (.int (outI outs (ledI rows 0 es))) h := by
  have s1 := s.s1
  obtain ⟨g1, g2⟩ := ledI_lt s (es := es) (st := 0) (by omega) (by omega) he
  have o := (outI_ok s g1 g2).1
  have l2 := fun h => led_tup s m 13 (ns := ns) rfl es 0 h (by omega) (by omega) he
  refine callF_flat h (d := d14) rfl rfl (by simp [W.flats, sumW_flat s, W.flat, flats_int]) rfl ?_ (h2 := [])
  have r1 : ∀ (g : Ev) h, subR g (sumW ev rows outs) (.int 2) h = .ok (.tup outs) h := fun g h => rd_tup _ _ (by simp)
  simp [runBody, d14, startA, callW, r1, l2, rd_tup _ _ o]
end Law
/-! The place of a log. -/
namespace Law
open PySem AM K82
section
variable {E : Nat} {rows outs : List W} (s : Sum E rows outs)
abbrev numOf (rows outs : List W) (es : List Int) : Int := outI outs (ledI rows 0 es)
/-- the place of a log -/
def rk (E : Nat) (rows outs : List W) (es : List Int) : Int := rank (ent rows) E (gd outs (numOf rows outs es)) 0 es
theorem take_snoc {α : Type} {es : List α} {t : Nat} (h : t < es.length) : es.take t ++ [es[t]] = es.take (t + 1) := by simp
include s
theorem place_of_ok (ns : List Int) (m : Nat) (es : List Int) (h : AH) (he : Evs E es) (hz : es.length ≤ 1000) :
    callF gc ns (m+8) 19 [sumW E rows outs, .tup (es.map .int)] h = .ok (.int (rk E rows outs es)) h := by
  have s1 := s.s1
  have s2 := s.s2
  have e2 := s.e2
  obtain ⟨num, en⟩ : ∃ num, num = numOf rows outs es := ⟨_, rfl⟩
  have c1 := check_read_ok s ns m es [] he
  have c2 := answer_in_ok (ns := ns) s (m+5) es [] he
  rw [show outI outs (ledI rows 0 es) = num from en.symm] at c2
  obtain ⟨w, h1, c3, t, f⟩ := ends_with_ok s num ns (m+6) es.length [] hz
  obtain ⟨l, ws, rfl, a1, a2, a3⟩ := t.ex
  have dl : ws.dropLast = (List.range es.length).map fun i => ws.getD i .non := by
    have := drop_map (ws := ws.dropLast) 0
    rw [List.drop_zero, List.length_dropLast, a2] at this
    rw [this]
    refine List.map_congr_left fun i hi => ?_
    rw [List.mem_range] at hi
    rw [Nat.zero_add, List.getD_eq_getElem?_getD, List.getD_eq_getElem?_getD, List.getElem?_dropLast, if_pos (by omega)]
  have sl : slcR ns (.loc l) none (some (-1)) h1 = .ok (.loc h1.length) (h1 ++ [.lst ((List.range es.length).map fun i => ws.getD i .non)]) := by
    rw [slc_lst ns _ _ a1, cut_neg1, dl]
  obtain ⟨L, eL⟩ : ∃ L, L = h1 ++ [O.lst ((List.range es.length).map fun i => ws.getD i .non)] := ⟨_, rfl⟩
  rw [← eL] at sl
  have fL : Fr [] h1 L := by rw [eL]; exact Fr.app
  have gL : L[h1.length]? = some (.lst ((List.range es.length).map fun i => ws.getD i .non)) := by rw [eL]; simp
  have tL := t.fr fL
  obtain ⟨g, eg⟩ : ∃ g, g = (⟨gc, ns, callF gc ns (m+7)⟩ : Ev) := ⟨_, rfl⟩
  have gs : g.sc = ns := by rw [eg]
  have gf : g.cf = callF gc ns (m+7) := by rw [eg]
  have cp : evalL g (.comp [("row", 7)] (.nm 7) (.over (.slc (.var 2) [] [.neg (.con (.int 1))])) [] (.sub (.var 7) (.con (.int 0)))) [some (sumW E rows outs), some (.tup (es.map .int)), some (.loc l), none, none, none, none, none, none] h1 = .ok (((List.range es.length).map fun i => Cn E rows outs num i 0).map .int) L := by
    rw [List.map_map]
    refine comp_enc _ (fun i => ws.getD i .non) _ (xs := List.range es.length) (held := [(h1.length, (List.range es.length).map fun i => ws.getD i .non)]) (by simp [gs, sl, overW, gL]) (by simp [heldOk, gL]) (by simp; omega) (fun i hi => ⟨_, by rw [xg_nm], ?_⟩)
    rw [List.mem_range] at hi
    obtain ⟨p, b1, b2⟩ := a3 i (by omega)
    have gd : ws.getD i .non = .loc p := by
      rw [List.getD_eq_getElem?_getD, b1]
      rfl
    have r0 := rd_lst g L (i := 0) (fL.get b2 (by simp)) (rowK_get (by decide) (by omega))
    simp only [gd]
    simp [wipeA, r0]
  obtain ⟨σ', h', lp, x4, x5, x6, tot, rfl, rfl, inv⟩ := forLoop_at (f := forF g (.tp [.nm 4, .nm 5]) [.asg (.nm 6) (.call 13 [.var 0, .con (.int 0), .slc (.var 1) [] [.var 4]] [] []), .aug (.nm 3) .add (.primc .sum (.comp [("later", 8)] (.nm 8) (.over (.slc (.sub (.sub (.var 0) (.con (.int 1))) (.var 6)) [] [.var 5])) [] (.sub (.sub (.var 2) (.bin .sub (.bin .sub (.prim .len [.var 1]) (.var 4)) (.con (.int 1)))) (.var 8))))]) (held := []) (fun p : Int × Nat => W.tup [.int p.2, .int p.1])
    (fun t σ k => ∃ x4 x5 x6 tot, σ = [some (sumW E rows outs), some (.tup (es.map .int)), some (.loc l), some (.int tot), x4, x5, x6, none, none] ∧ k = L ∧ tot + lexr (ent rows) E (gd outs num) (K82.run (ent rows) 0 (es.take t)) (es.drop t) = rank (ent rows) E (gd outs num) 0 es) (fun _ _ _ _ => rfl) es.zipIdx 0 (fun t ht σ k ⟨x4, x5, x6, tot, e1, e2, e3⟩ => by
      subst e1
      subst e2
      rw [Nat.zero_add] at e3 ⊢
      have ht : t < es.length := by simpa using ht
      simp only [List.getElem_zipIdx, Nat.zero_add]
      have hv : Evs E (es.take t) := he.sub fun x hx => List.mem_of_mem_take hx
      obtain ⟨d1, d2⟩ := he es[t] (List.getElem_mem ht)
      obtain ⟨c, ec⟩ : ∃ c : Nat, es[t] = c := ⟨es[t].toNat, by omega⟩
      have l1 := led_tup s (m+6) 13 (ns := ns) rfl (es.take t) 0 k (by omega) (by omega) hv
      rw [ledI_run] at l1
      have sc : slcR ns (.tup (es.map .int)) none (some (t : Int)) k = .ok (.tup ((es.take t).map .int)) k := by
        rw [slc_tup, cut_to _ (by omega), Int.toNat_natCast, List.map_take]
      obtain ⟨r1, r2⟩ := run_in (dl_cl s) (es.take t) 0 hv (by omega) (by omega)
      obtain ⟨q, eq⟩ : ∃ q : Nat, K82.run (ent rows) 0 (es.take t) = q := ⟨(K82.run (ent rows) 0 (es.take t)).toNat, by omega⟩
      rw [eq] at r1 r2 l1 e3
      have rr : L2.atI rows (q : Int) = some (.tup ((List.range E).map fun e : Nat => .int (ent rows q e))) := by rw [atI_nat]; exact row_eq s (by omega)
      have r3 : subR g (sumW E rows outs) (.int 1) k = .ok (.tup rows) k := rd_tup _ _ (by simp)
      have r4 := rd_tup g k rr
      have sr : slcR ns (.tup ((List.range E).map fun e : Nat => .int (ent rows q e))) none (some (c : Int)) k = .ok (.tup ((List.range c).map fun e : Nat => .int (ent rows q e))) k := by
        rw [slc_tup, cut_to _ (by omega), Int.toNat_natCast, ← List.map_take, List.take_range, Nat.min_eq_left (by omega)]
      obtain ⟨p, r5, r6⟩ := tL.read g (k := es.length - t - 1) (by omega)
      have ix : (es.length : Int) - (t : Int) - 1 = ((es.length - t - 1 : Nat) : Int) := by omega
      have cc : evalL g (.comp [("later", 8)] (.nm 8) (.over (.slc (.sub (.sub (.var 0) (.con (.int 1))) (.var 6)) [] [.var 5])) [] (.sub (.sub (.var 2) (.bin .sub (.bin .sub (.prim .len [.var 1]) (.var 4)) (.con (.int 1)))) (.var 8))) [some (sumW E rows outs), some (.tup (es.map .int)), some (.loc l), some (.int tot), some (.int t), some (.int c), some (.int q), none, none] k = .ok (((List.range c).map fun e : Nat => Cn E rows outs num (es.length - t - 1) (ent rows q e)).map .int) k := by
        rw [List.map_map]
        refine comp_enc _ (fun e : Nat => .int (ent rows q e)) _ (xs := List.range c) (held := []) (by simp [r3, r4, gs, sr, overW]) rfl (by simp; omega) (fun e hx => ⟨_, by rw [xg_nm], ?_⟩)
        rw [List.mem_range] at hx
        obtain ⟨z1, z2⟩ := dl_cl s (q : Int) (e : Int) (by omega) (by omega) (by omega) (by omega)
        simp [wipeA, ix, r5, r6 _ z1 z2]
      refine ⟨[some (sumW E rows outs), some (.tup (es.map .int)), some (.loc l), some (.int (tot + sm c fun e => Cn E rows outs num (es.length - t - 1) (ent rows q e))), some (.int t), some (.int c), some (.int q), none, none], k, .inl ?_, _, _, _, _, rfl, rfl, ?_⟩
      · unfold forF
        rw [ec]
        simp
        rw [ss_cons']
        simp [gs, gf, sc, l1, cc, seq_sum, -List.map_map, -List.map_take]
        rfl
      · have dr : es.drop t = (c : Int) :: es.drop (t + 1) := by
          rw [← ec]
          exact List.drop_eq_getElem_cons ht
        rw [dr, lexr, Int.toNat_natCast, List.length_drop] at e3
        have rn : K82.run (ent rows) 0 (es.take (t + 1)) = ent rows q c := by
          rw [← take_snoc ht, run_app, eq, ec]
          rfl
        rw [rn]
        have : (sm c fun e => Cn E rows outs num (es.length - t - 1) (ent rows q e)) = sm c fun i => cnt (ent rows) E (gd outs num) (es.length - (t + 1)) (ent rows q i) := by
          rw [show es.length - t - 1 = es.length - (t + 1) by omega]
        rw [this]
        omega) [some (sumW E rows outs), some (.tup (es.map .int)), some (.loc l), some (.int (sm es.length fun k => Cn E rows outs num k 0)), none, none, none, none, none] L ⟨none, none, none, _, rfl, rfl, by
          rw [List.take_zero, List.drop_zero]
          rfl⟩
  rw [Nat.zero_add, List.length_zipIdx, List.drop_length] at inv
  have inv : tot + 0 = _ := inv
  refine callF_flat h (d := d19) rfl rfl (by simp [W.flats, sumW_flat s, W.flat, flats_int]) rfl ?_ (h2 := h')
  have er : rk E rows outs es = tot := by
    unfold rk
    rw [← en]
    omega
  rw [er, ← eg]
  simp only [runBody, d19, startA]
  rw [ss_cons']
  simp [gf, c1]
  rw [ss_cons']
  simp [gf, c2, c3]
  rw [ss_cons']
  simp [cp, seq_sum, -List.map_map]
  rw [ss_cons']
  have ez : enumFrom 0 (es.map W.int) = es.zipIdx.map fun p : Int × Nat => W.tup [.int p.2, .int p.1] := by
    rw [enum_zip, List.zipIdx_map, List.map_map]
    rfl
  have lp' : forLoop (forF g (.tp [.nm 4, .nm 5]) [.asg (.nm 6) (.call 13 [.var 0, .con (.int 0), .slc (.var 1) [] [.var 4]] [] []), .aug (.nm 3) .add (.primc .sum (.comp [("later", 8)] (.nm 8) (.over (.slc (.sub (.sub (.var 0) (.con (.int 1))) (.var 6)) [] [.var 5])) [] (.sub (.sub (.var 2) (.bin .sub (.bin .sub (.prim .len [.var 1]) (.var 4)) (.con (.int 1)))) (.var 8))))]) [] (es.zipIdx.map fun p : Int × Nat => W.tup [.int p.2, .int p.1]) [some (sumW E rows outs), some (.tup (es.map .int)), some (.loc l), some (.int ((List.range es.length).map fun i => Cn E rows outs num i 0).sum), none, none, none, none, none] h' = _ := lp
  simp [overW, ez, lp', -List.map_map]
end
end Law
/-! All short logs; counted forward. -/
namespace Law
open PySem AM K82
def tl (l : List Int) : W := .tup (l.map .int)
theorem lexL_len (E : Nat) : ∀ n, (lexL E n).length = E ^ n
  | 0 => rfl
  | n + 1 => by
    rw [lexL_snoc, List.length_flatMap]
    simp only [List.length_map, List.length_range]
    rw [List.map_const', List.sum_replicate_nat, lexL_len E n, Nat.pow_succ]
theorem LL_succ (E t : Nat) : LL E (t + 1) = LL E t ++ lexL E (t + 1) := by
  unfold LL
  rw [List.range_succ (n := t + 1), List.flatMap_append]
  simp
theorem lexL_small {E n : Nat} (h : E ≤ 3) (hn : n ≤ 4) : (lexL E n).length ≤ 81 := by
  rw [lexL_len]
  exact Nat.le_trans (Nat.pow_le_pow_left h n) (Nat.le_trans (Nat.pow_le_pow_right (by decide) hn) (by decide))
theorem LL_small {E : Nat} (h : E ≤ 3) : ∀ {n : Nat}, n ≤ 4 → (LL E n).length ≤ 81 * (n + 1)
  | 0, _ => by
    have : (LL E 0).length = 1 := by simp [LL, lexL]
    omega
  | n + 1, hn => by
    rw [LL_succ, List.length_append]
    have := LL_small h (show n ≤ 4 by omega)
    have := lexL_small h hn
    omega
theorem add_lst {l m : Nat} {h : AH} {a b : List W} (ha : h[l]? = some (.lst a)) (hb : h[m]? = some (.lst b)) (hz : a.length + b.length ≤ 1000000) : binW .add (.loc l) (.loc m) h = .ok (.loc h.length) (h ++ [.lst (a ++ b)]) := by
  rw [b_addL, ha, hb]
  simp [szOk, hz]
theorem logs_ok (ns : List Int) (m E : Nat) (h : AH) (hE : E ≤ 3) : callF gc ns (m+1) 24 [.int E, .int 4] h = .ok (.loc h.length) (h ++ [.lst ((LL E 4).map tl)]) := by
  obtain ⟨g, eg⟩ : ∃ g, g = (⟨gc, ns, callF gc ns m⟩ : Ev) := ⟨_, rfl⟩
  obtain ⟨σ', h', lp, f, p, x2, x5, x6, x7, rfl, k1, k2⟩ := forLoop_at (f := forF g (.nm 2) [.asg (.nm 5) (.lst []), .for_ (.nm 6) (.over (.var 4)) [.asg (.nm 5) (.bin .add (.var 5) (.comp [("event", 7)] (.nm 7) (.rng [.var 0]) [] (.bin .add (.var 6) (.tup [.var 7]))))], .asg (.tp [.nm 3, .nm 4]) (.tup [.bin .add (.var 3) (.var 5), .var 5])]) (held := []) (fun t : Nat => W.int (t : Int))
    (fun t σ k => ∃ f p x2 x5 x6 x7, σ = [some (.int E), some (.int 4), x2, some (.loc f), some (.loc p), x5, x6, x7] ∧ k[f]? = some (.lst ((LL E t).map tl)) ∧ k[p]? = some (.lst ((lexL E t).map tl))) (fun _ _ _ _ => rfl) (List.range 4) 0 (fun t ht σ k ⟨f, p, x2, x5, x6, x7, e1, k1, k2⟩ => by
      subst e1
      rw [Nat.zero_add] at k1 k2
      simp only [List.getElem_range, Nat.zero_add]
      have ht : t < 4 := by simpa using ht
      have z1 := lexL_small hE (show t ≤ 4 by omega)
      have z2 := lexL_small hE (show t + 1 ≤ 4 by omega)
      have z3 := LL_small hE (show t ≤ 4 by omega)
      obtain ⟨K, eK⟩ : ∃ K, K = k ++ [O.lst []] := ⟨_, rfl⟩
      have fK : Fr [] k K := by rw [eK]; exact Fr.app
      obtain ⟨σ', h', lp, g5, x6', x7', rfl, j1, j2, j3⟩ := forLoop_pre (f := forF g (.nm 6) [.asg (.nm 5) (.bin .add (.var 5) (.comp [("event", 7)] (.nm 7) (.rng [.var 0]) [] (.bin .add (.var 6) (.tup [.var 7]))))]) (held := [(p, (lexL E t).map tl)]) tl
        (fun pre σ k => ∃ g5 x6 x7, σ = [some (.int E), some (.int 4), some (.int t), some (.loc f), some (.loc p), some (.loc g5), x6, x7] ∧ k[f]? = some (.lst ((LL E t).map tl)) ∧ k[p]? = some (.lst ((lexL E t).map tl)) ∧ k[g5]? = some (.lst ((pre.flatMap fun l => (List.range E).map fun (e : Nat) => l ++ [(e : Int)]).map tl)))
        (fun _ _ _ ⟨_, _, _, _, _, q, _⟩ => by simp [heldOk, q]) (lexL E t) (fun pre x post ep σ k ⟨g5, x6, x7, e1, j1, j2, j3⟩ => by
          subst e1
          have xl := (lexL_mem E t x (by rw [ep]; simp)).1
          have zp : (pre.flatMap fun l => (List.range E).map fun (e : Nat) => l ++ [(e : Int)]).length + E ≤ 1000000 := by
            have : (lexL E (t + 1)).length = _ := congrArg List.length (lexL_snoc E t)
            rw [ep, List.flatMap_append, List.length_append] at this
            omega
          have cc : evalL g (.comp [("event", 7)] (.nm 7) (.rng [.var 0]) [] (.bin .add (.var 6) (.tup [.var 7]))) [some (.int E), some (.int 4), some (.int t), some (.loc f), some (.loc p), some (.loc g5), some (tl x), x7] k = .ok (((List.range E).map fun (e : Nat) => x ++ [(e : Int)]).map tl) k := by
            rw [List.map_map]
            exact comp_enc _ (fun e : Nat => .int (e : Int)) _ (xs := List.range E) (held := []) (by simp [rngR, rng_ok (show 0 ≤ (E : Int) by omega) (by omega), rng0]) rfl (by simp; omega) (fun e _ => ⟨_, by rw [xg_nm], by
              simp [wipeA, szOk, tl, add_tup _ _ (show (x.map W.int).length + [W.int (e : Int)].length ≤ 1000000 by simp; omega)]⟩)
          obtain ⟨K, eK⟩ : ∃ K, K = k ++ [O.lst (((List.range E).map fun (e : Nat) => x ++ [(e : Int)]).map tl)] := ⟨_, rfl⟩
          have fK : Fr [] k K := by rw [eK]; exact Fr.app
          have gK : K[k.length]? = some (.lst (((List.range E).map fun (e : Nat) => x ++ [(e : Int)]).map tl)) := by rw [eK]; exact List.getElem?_concat_length
          have ad := add_lst (fK.get j3 (by simp)) gK (by simpa using zp)
          obtain ⟨K2, eK2⟩ : ∃ K2, K2 = K ++ [O.lst ((pre.flatMap fun l => (List.range E).map fun (e : Nat) => l ++ [(e : Int)]).map tl ++ ((List.range E).map fun (e : Nat) => x ++ [(e : Int)]).map tl)] := ⟨_, rfl⟩
          rw [← eK2] at ad
          have fK2 : Fr [] K K2 := by rw [eK2]; exact Fr.app
          refine ⟨[some (.int E), some (.int 4), some (.int t), some (.loc f), some (.loc p), some (.loc K.length), some (tl x), x7], K2, .inl ?_, _, _, _, rfl, fK2.get (fK.get j1 (by simp)) (by simp), fK2.get (fK.get j2 (by simp)) (by simp), ?_⟩
          · unfold forF
            simp [cc, szOk, -List.map_map, -b_addL]
            rw [← eK]
            simp [ad, -List.map_map, -b_addL]
          · rw [eK2]
            simp [List.flatMap_append]) (σ := [some (.int E), some (.int 4), some (.int t), some (.loc f), some (.loc p), some (.loc k.length), x6, x7]) (h := K) ⟨k.length, x6, x7, rfl, fK.get k1 (by simp), fK.get k2 (by simp), by rw [eK]; simp⟩
      rw [← lexL_snoc] at j3
      have ad := add_lst j1 j3 (by simp; omega)
      obtain ⟨H, eH⟩ : ∃ H, H = h' ++ [O.lst ((LL E t).map tl ++ (lexL E (t + 1)).map tl)] := ⟨_, rfl⟩
      have fH : Fr [] h' H := by rw [eH]; exact Fr.app
      rw [← eH] at ad
      refine ⟨[some (.int E), some (.int 4), some (.int t), some (.loc h'.length), some (.loc g5), some (.loc g5), x6', x7'], H, .inl ?_, _, _, _, _, _, _, rfl, ?_, fH.get j3 (by simp)⟩
      · unfold forF
        simp
        rw [ss_cons']
        simp [szOk]
        rw [← eK, ss_cons']
        simp [overW, fK.get k2 (by simp), lp, ad, szOk, -b_addL]
      · rw [LL_succ, eH]
        simp) [some (.int E), some (.int 4), none, some (.loc 0), some (.loc 1), none, none, none] [.lst [.tup []], .lst [.tup []]] ⟨0, 1, none, none, none, none, rfl, rfl, rfl⟩
  rw [Nat.zero_add, List.length_range] at k1
  refine callF_list h (d := d24) rfl rfl rfl ?_ k1 ?_ (h2 := h')
  · rw [← eg]
    simp only [runBody, d24, startA]
    rw [ss_cons']
    simp [szOk]
    rw [ss_cons']
    simp [rngR, rng_ok, show rngW 0 4 = (List.range 4).map fun t : Nat => W.int (t : Int) from rng0 4, lp]
  · refine flats_of fun w hw => ?_
    obtain ⟨x, _, rfl⟩ := List.mem_map.mp hw
    simp [tl, W.flat, flats_int]
end Law
/-! Counted forward. -/
namespace Law
open PySem AM K82
def vec (S : Nat) (v : Nat → Int) : List W := (List.range S).map fun q : Nat => .int (v q)
theorem vec_len (S : Nat) (v : Nat → Int) : (vec S v).length = S := by simp [vec]
theorem vec_at {S q : Nat} (v : Nat → Int) (h : q < S) : L2.atI (vec S v) (q : Int) = some (.int (v q)) := by
  rw [atI_nat]
  simp [vec, h]
theorem vec_ix {S q : Nat} (v : Nat → Int) (h : q < S) : L2.ixN (vec S v).length (q : Int) = some q := by
  rw [vec_len]
  unfold L2.ixN
  rw [if_pos (by omega), if_pos (by omega)]
  rfl
theorem vec_set {S j : Nat} (v : Nat → Int) (x : Int) (h : j < S) : (vec S v).set j (.int x) = vec S fun q => if q = j then x else v q := by
  apply List.ext_getElem?
  intro i
  rw [List.getElem?_set]
  unfold vec
  by_cases hi : i < S
  · by_cases e : j = i
    · subst e
      simp [hi]
    · simp [hi, e, Ne.symm e]
  · by_cases e : j = i
    · omega
    · simp [hi, e]
theorem sum_filter (P : Nat → Bool) (v : Nat → Int) : ∀ n, (((List.range n).filter P).map v).sum = sm n fun q => v q * (if P q then 1 else 0)
  | 0 => rfl
  | n + 1 => by
    rw [List.range_succ, List.filter_append, List.map_append, List.sum_append, sum_filter P v n, sm_succ]
    cases h : P n <;> simp [h]
section
variable {E : Nat} {rows outs : List W} (s : Sum E rows outs) (num : Int)
include s
theorem counts_ok (ns : List Int) (m : Nat) (h : AH) : callF gc ns (m+1) 28 [sumW E rows outs, .int num, .int 36] h = .ok (.loc h.length) (h ++ [.lst (((List.range 37).map fun k => Cn E rows outs num k 0).map .int)]) := by
  have s1 := s.s1
  have s2 := s.s2
  have e2 := s.e2
  obtain ⟨g, eg⟩ : ∃ g, g = (⟨gc, ns, callF gc ns m⟩ : Ev) := ⟨_, rfl⟩
  have r1 : ∀ k, subR g (sumW E rows outs) (.int 1) k = .ok (.tup rows) k := fun k => rd_tup _ _ (by simp)
  have r2 : ∀ k, subR g (sumW E rows outs) (.int 2) k = .ok (.tup outs) k := fun k => rd_tup _ _ (by simp)
  have r0 : ∀ k, subR g (sumW E rows outs) (.int 0) k = .ok (.int E) k := fun k => rd_tup _ _ (by simp)
  have ro : rngOk (rows.length : Int) = true := rng_ok (by omega) (by omega)
  have rE : rngOk (E : Int) = true := rng_ok (by omega) (by omega)
  have c0 : evalL g (.comp [("state", 7)] (.nm 7) (.rng [.prim .len [.sub (.var 0) (.con (.int 1))]]) [] (.prim .int [.cmp .eq (.var 7) (.con (.int 0))])) [some (sumW E rows outs), some (.int num), some (.int 36), none, none, none, none, none, none, none] [] = .ok (vec rows.length fun q => if q = 0 then 1 else 0) [] := by
    exact comp_enc _ (fun q : Nat => .int (q : Int)) _ (xs := List.range rows.length) (held := []) (by simp [r1, rngR, ro, rng0]) rfl (by simp; omega) (fun q hq => ⟨_, by rw [xg_nm], by
      by_cases hz : q = 0 <;> simp [wipeA, hz]⟩)
  obtain ⟨σ', h', lp, x3, l4, l5, x6, x7, x8, x9, v, rfl, ne, k1, k2, k3⟩ := forLoop_at (f := forF g (.nm 3) [.ex (.bm .append (.var 5) [.primc .sum (.comp [("state", 7)] (.nm 7) (.rng [.prim .len [.var 4]]) [.val (.cmp .eq (.sub (.sub (.var 0) (.con (.int 2))) (.var 7)) (.var 1))] (.sub (.var 4) (.var 7)))]), .asg (.nm 6) (.bin .mul (.lst [.con (.int 0)]) (.prim .len [.var 4])), .for_ (.nm 7) (.rng [.prim .len [.var 4]]) [.for_ (.nm 8) (.rng [.sub (.var 0) (.con (.int 0))]) [.asg (.nm 9) (.sub (.sub (.sub (.var 0) (.con (.int 1))) (.var 7)) (.var 8)), .asg (.sub (.var 6) (.var 9)) (.bin .add (.sub (.var 6) (.var 9)) (.sub (.var 4) (.var 7)))]], .asg (.nm 4) (.var 6)]) (held := []) (fun t : Nat => W.int (t : Int))
    (fun t σ k => ∃ x3 l4 l5 x6 x7 x8 x9 v, σ = [some (sumW E rows outs), some (.int num), some (.int 36), x3, some (.loc l4), some (.loc l5), x6, x7, x8, x9] ∧ l4 ≠ l5 ∧ k[l4]? = some (.lst (vec rows.length v)) ∧ k[l5]? = some (.lst (((List.range t).map fun k => Cn E rows outs num k 0).map .int)) ∧ ∀ j, ip rows.length v (fun q => Cn E rows outs num j q) = Cn E rows outs num (t + j) 0) (fun _ _ _ _ => rfl) (List.range 37) 0 (fun t ht σ k ⟨x3, l4, l5, x6, x7, x8, x9, v, e1, ne, k1, k2, k3⟩ => by
      subst e1
      simp only [Nat.zero_add, List.getElem_range] at k2 k3 ⊢
      have ht : t < 37 := by simpa using ht
      have c1 : evalL g (.comp [("state", 7)] (.nm 7) (.rng [.prim .len [.var 4]]) [.val (.cmp .eq (.sub (.sub (.var 0) (.con (.int 2))) (.var 7)) (.var 1))] (.sub (.var 4) (.var 7))) [some (sumW E rows outs), some (.int num), some (.int 36), some (.int t), some (.loc l4), some (.loc l5), x6, x7, x8, x9] k = .ok ((((List.range rows.length).filter fun q : Nat => gd outs num q).map v).map .int) k := by
        rw [List.map_map]
        refine comp_encF _ (fun q : Nat => .int (q : Int)) _ _ (xs := List.range rows.length) (held := []) (by simp [pr_lenL _ _ k1, vec_len, rngR, ro, rng0]) rfl (by simp; omega) (fun q hq => ⟨_, by rw [xg_nm], ?_, fun _ => ?_⟩)
        · rw [List.mem_range] at hq
          have oo := rd_tup g k (outI_ok s (st := (q : Int)) (by omega) (by omega)).1
          simp [wipeA, r2, oo, gd]
        · rw [List.mem_range] at hq
          have oo := rd_lst g k k1 (vec_at v hq)
          simp [wipeA, oo]
      have sums : (((List.range rows.length).filter fun q : Nat => gd outs num q).map v).sum = Cn E rows outs num t 0 := by
        have z := k3 0
        rw [Nat.add_zero] at z
        rw [sum_filter, ← z]
        rfl
      have ap := app_lst (w := .int (Cn E rows outs num t 0)) k2 (by simp; omega)
      have bt := bmt_app k2
      obtain ⟨K1, eK1⟩ : ∃ K1, K1 = k.set l5 (.lst (((List.range t).map fun k => Cn E rows outs num k 0).map .int ++ [.int (Cn E rows outs num t 0)])) := ⟨_, rfl⟩
      have a1 : K1[l4]? = some (.lst (vec rows.length v)) := by rw [eK1]; exact get_set_ne k1 (Ne.symm ne)
      have a2 : K1[l5]? = some (.lst (((List.range (t + 1)).map fun k => Cn E rows outs num k 0).map .int)) := by
        rw [eK1, List.range_succ, List.map_append, List.map_append]
        exact get_set k2
      have l4lt := get_lt' _ a1
      have l5lt := get_lt' _ a2
      obtain ⟨K2, eK2⟩ : ∃ K2, K2 = K1 ++ [O.lst [.int 0]] := ⟨_, rfl⟩
      have fK2 : Fr [] K1 K2 := by rw [eK2]; exact Fr.app
      have gK2 : K2[K1.length]? = some (.lst [.int 0]) := by rw [eK2]; simp
      have lK2 : K2.length = K1.length + 1 := by rw [eK2]; simp
      obtain ⟨K3, eK3⟩ : ∃ K3, K3 = K2 ++ [O.lst (vec rows.length fun _ => 0)] := ⟨_, rfl⟩
      have fK3 : Fr [] K2 K3 := by rw [eK3]; exact Fr.app
      have gK3 : K3[K2.length]? = some (.lst (vec rows.length fun _ => 0)) := by rw [eK3]; simp
      have ml : binW .mul (.loc K1.length) (.int rows.length) K2 = .ok (.loc K2.length) K3 := by
        rw [eK3]
        show (match K2[K1.length]? with
          | some (.lst a) => if repOk a.length (rows.length : Int) then _ else _
          | _ => _) = _
        rw [gK2]
        have rp : repOk 1 (rows.length : Int) = true := by
          unfold repOk
          simp
          omega
        simp [rp, vec]
        congr 1
        rw [List.map_const', List.length_range]
      obtain ⟨σ', h', lp, x7', x8', x9', w, rfl, b1, b2, b3, b4⟩ := forLoop_pre (f := forF g (.nm 7) [.for_ (.nm 8) (.rng [.sub (.var 0) (.con (.int 0))]) [.asg (.nm 9) (.sub (.sub (.sub (.var 0) (.con (.int 1))) (.var 7)) (.var 8)), .asg (.sub (.var 6) (.var 9)) (.bin .add (.sub (.var 6) (.var 9)) (.sub (.var 4) (.var 7)))]]) (held := []) (fun q : Nat => W.int (q : Int))
        (fun pre σ k => ∃ x7 x8 x9 w, σ = [some (sumW E rows outs), some (.int num), some (.int 36), some (.int t), some (.loc l4), some (.loc l5), some (.loc K2.length), x7, x8, x9] ∧ k[l4]? = some (.lst (vec rows.length v)) ∧ k[l5]? = some (.lst (((List.range (t + 1)).map fun k => Cn E rows outs num k 0).map .int)) ∧ k[K2.length]? = some (.lst (vec rows.length w)) ∧ ∀ j, ip rows.length w (fun q => Cn E rows outs num j q) = sm pre.length fun q => v q * Cn E rows outs num (j + 1) q)
        (fun _ _ _ _ => rfl) (List.range rows.length) (fun pre q post ep σ k ⟨x7, x8, x9, w, e1, b1, b2, b3, b4⟩ => by
          subst e1
          have hq : q < rows.length := List.mem_range.mp (ep ▸ (by simp : q ∈ pre ++ q :: post) : q ∈ List.range rows.length)
          have pl : pre.length = q := by rw [range_split ep, List.length_range]
          have rr : L2.atI rows (q : Int) = some (.tup ((List.range E).map fun e : Nat => .int (ent rows q e))) := by rw [atI_nat]; exact row_eq s hq
          obtain ⟨σ', h', lp, x8', x9', w', rfl, d1, d2, d3, d4⟩ := forLoop_pre (f := forF g (.nm 8) [.asg (.nm 9) (.sub (.sub (.sub (.var 0) (.con (.int 1))) (.var 7)) (.var 8)), .asg (.sub (.var 6) (.var 9)) (.bin .add (.sub (.var 6) (.var 9)) (.sub (.var 4) (.var 7)))]) (held := []) (fun e : Nat => W.int (e : Int))
            (fun pre2 σ k => ∃ x8 x9 w', σ = [some (sumW E rows outs), some (.int num), some (.int 36), some (.int t), some (.loc l4), some (.loc l5), some (.loc K2.length), some (.int q), x8, x9] ∧ k[l4]? = some (.lst (vec rows.length v)) ∧ k[l5]? = some (.lst (((List.range (t + 1)).map fun k => Cn E rows outs num k 0).map .int)) ∧ k[K2.length]? = some (.lst (vec rows.length w')) ∧ ∀ j, ip rows.length w' (fun q => Cn E rows outs num j q) = ip rows.length w (fun q => Cn E rows outs num j q) + v q * sm pre2.length fun e => Cn E rows outs num j (ent rows q e))
            (fun _ _ _ _ => rfl) (List.range E) (fun pre2 e post2 ep2 σ k ⟨x8, x9, w', e1, d1, d2, d3, d4⟩ => by
              subst e1
              have he : e < E := List.mem_range.mp (ep2 ▸ (by simp : e ∈ pre2 ++ e :: post2) : e ∈ List.range E)
              have pl2 : pre2.length = e := by rw [range_split ep2, List.length_range]
              obtain ⟨y1, y2⟩ := dl_cl s (q : Int) (e : Int) (by omega) (by omega) (by omega) (by omega)
              obtain ⟨c, ec⟩ : ∃ c : Nat, ent rows q e = c := ⟨(ent rows q e).toNat, by omega⟩
              have q1 := rd_tup g k rr
              have q2 : subR g (.tup ((List.range E).map fun e : Nat => .int (ent rows q e))) (.int e) k = .ok (.int c) k := rd_tup g k (by rw [atI_nat]; simp [he, ec])
              have q3 := rd_lst g k d3 (vec_at w' (show c < rows.length by omega))
              have q4 := rd_lst g k d1 (vec_at v hq)
              have q5 := wr_lst (w := .int (w' c + v q)) k d3 (vec_ix w' (show c < rows.length by omega))
              rw [vec_set w' _ (show c < rows.length by omega)] at q5
              refine ⟨[some (sumW E rows outs), some (.int num), some (.int 36), some (.int t), some (.loc l4), some (.loc l5), some (.loc K2.length), some (.int q), some (.int e), some (.int c)], k.set K2.length (.lst (vec rows.length fun q_1 => if q_1 = c then w' c + v q else w' q_1)), .inl ?_, _, _, _, rfl, get_set_ne d1 (by omega), get_set_ne d2 (by omega), get_set d3, fun j => ?_⟩
              · unfold forF
                simp
                rw [ss_cons']
                simp [r1, q1, q2, q3, q4, q5]
              · have ia := ip_add (S := rows.length) (j := c) w' (fun q => Cn E rows outs num j q) (v q) (by omega)
                have ee : (fun q_1 => if q_1 = c then w' c + v q else w' q_1) = fun q_1 => if q_1 = c then w' q_1 + v q else w' q_1 := by
                  funext z
                  by_cases hz : z = c <;> simp [hz]
                rw [ee, ia, d4 j, List.length_append, pl2]
                show _ = _ + v q * sm (e + 1) _
                rw [sm_succ, ec, Int.mul_add]
                omega) (σ := [some (sumW E rows outs), some (.int num), some (.int 36), some (.int t), some (.loc l4), some (.loc l5), some (.loc K2.length), some (.int q), x8, x9]) (h := k) ⟨x8, x9, w, rfl, b1, b2, b3, fun j => by
                  show _ = _ + v q * sm 0 _
                  rw [sm_zero]
                  omega⟩
          refine ⟨_, h', .inl ?_, some (.int q), x8', x9', w', rfl, d1, d2, d3, fun j => ?_⟩
          · unfold forF
            simp [r0, rngR, rE, rng0, lp]
          · rw [d4 j, b4 j, List.length_append, pl, List.length_range]
            show _ = sm (q + 1) _
            rw [sm_succ]
            rfl) (σ := [some (sumW E rows outs), some (.int num), some (.int 36), some (.int t), some (.loc l4), some (.loc l5), some (.loc K2.length), x7, x8, x9]) (h := K3) ⟨x7, x8, x9, fun _ => 0, rfl, fK3.get (fK2.get a1 (by simp)) (by simp), fK3.get (fK2.get a2 (by simp)) (by simp), gK3, fun j => by
              show sm _ _ = sm 0 _
              rw [sm_zero, sm_congr (g := fun _ => 0 * 1) fun i _ => by simp]
              rw [sm_mul]
              simp⟩
      refine ⟨[some (sumW E rows outs), some (.int num), some (.int 36), some (.int t), some (.loc K2.length), some (.loc l5), some (.loc K2.length), x7', x8', x9'], h', .inl ?_, _, _, _, _, _, _, _, _, rfl, by omega, b3, b2, fun j => ?_⟩
      · unfold forF
        simp
        rw [ss_cons']
        simp [bt, c1, seq_sum, sums, ap, -List.map_map]
        rw [← eK1, ss_cons']
        simp [szOk, pr_lenL _ _ (fK2.get a1 (by simp)), vec_len]
        rw [← eK2]
        simp [pr_lenL _ _ (fK2.get a1 (by simp)), vec_len, ml]
        rw [ss_cons']
        simp [pr_lenL _ _ (fK3.get (fK2.get a1 (by simp)) (by simp)), vec_len, rngR, ro, rng0, lp]
      · rw [b4 j, List.length_range, show t + 1 + j = t + (j + 1) by omega, ← k3 (j + 1)]
        rfl) [some (sumW E rows outs), some (.int num), some (.int 36), none, some (.loc 0), some (.loc 1), none, none, none, none] [.lst (vec rows.length fun q => if q = 0 then 1 else 0), .lst []] ⟨none, 0, 1, none, none, none, none, _, rfl, by decide, rfl, rfl, fun j => by
          rw [ip_start _ (by omega), Nat.zero_add]⟩
  rw [Nat.zero_add, List.length_range] at k2
  refine callF_list h (d := d28) rfl rfl (by simp [W.flats, sumW_flat s, W.flat]) ?_ k2 (flats_int _) (h2 := h')
  rw [← eg]
  simp only [runBody, d28, startA]
  rw [ss_cons']
  simp [c0, szOk]
  rw [ss_cons']
  simp [rngR, rng_ok, show rngW 0 37 = (List.range 37).map fun t : Nat => W.int (t : Int) from rng0 37, lp]
end
end Law
/-! Near: place and log, back and forth. -/
namespace Law
open PySem AM K82
theorem lexB_tri : ∀ x y : List Int, x.length = y.length → lexB x y = true ∨ x = y ∨ lexB y x = true
  | [], [], _ => .inr (.inl rfl)
  | [], _ :: _, h => by cases h
  | _ :: _, [], h => by cases h
  | a :: x, b :: y, h => by
    unfold lexB
    rcases Int.lt_trichotomy a b with q | q | q
    · exact .inl (by simp [q])
    · subst q
      rcases lexB_tri x y (by simpa using h) with q | q | q
      · exact .inl (by simp [q])
      · exact .inr (.inl (by rw [q]))
      · exact .inr (.inr (by simp [q]))
    · exact .inr (.inr (by simp [q]))
theorem By.full {E : Nat} {rows outs : List W} {num : Int} {len : Nat} {left : Int} {es : List Int} (b : By E rows outs num len left es 0) (hl : es.length = len) : gd outs num (K82.run (ent rows) 0 es) = true ∧ lexr (ent rows) E (gd outs num) 0 es = left := by
  constructor
  · have u := b.up
    rw [hl, Nat.sub_self, Cn, cnt] at u
    by_cases q : gd outs num (K82.run (ent rows) 0 es) = true
    · exact q
    · rw [if_neg q] at u
      omega
  · have l := b.lx [] (by rw [hl]; simp)
    rw [List.append_nil] at l
    rw [l]
    show left - 0 + 0 = left
    omega
def putL (w : List (Int × Int)) (n x : Int) : List (Int × Int) := if (w.lookup n).isSome then w.map fun p => if p.1 = n then (p.1, x) else p else w ++ [(n, x)]
theorem putL_eD (w : List (Int × Int)) (n x : Int) : dicPut (eD W.int w) (.int n) (.int x) = eD W.int (putL w n x) := by
  unfold dicPut putL
  rw [eD_get, Option.isSome_map]
  split
  · unfold eD
    rw [List.map_map, List.map_map]
    refine List.map_congr_left fun p _ => ?_
    by_cases h : p.1 = n <;> simp [h]
  · unfold eD
    simp
theorem putL_len (w : List (Int × Int)) (n x : Int) : (putL w n x).length ≤ w.length + 1 := by
  unfold putL
  split <;> simp
theorem map_lookup (n x : Int) : ∀ (w : List (Int × Int)) (j : Int), (w.map fun p => if p.1 = n then (p.1, x) else p).lookup j = if j = n then (w.lookup n).map (fun _ => x) else w.lookup j
  | [], j => by simp
  | (a, b) :: w, j => by
    rw [List.map_cons]
    by_cases h : a = n
    · subst h
      simp only [if_true]
      rw [List.lookup_cons, List.lookup_cons, List.lookup_cons]
      by_cases hj : j = a
      · subst hj
        simp
      · have : (j == a) = false := by simpa using hj
        simp only [this]
        rw [map_lookup a x w j, if_neg hj, if_neg hj]
    · simp only [h, if_false]
      rw [List.lookup_cons, List.lookup_cons, List.lookup_cons]
      have h3 : (n == a) = false := by simpa using Ne.symm h
      by_cases hj : j = a
      · subst hj
        rw [if_neg h]
        simp
      · have : (j == a) = false := by simpa using hj
        simp only [this, h3]
        exact map_lookup n x w j
theorem app_lookup (n x : Int) : ∀ (w : List (Int × Int)) (j : Int), w.lookup n = none → (w ++ [(n, x)]).lookup j = if j = n then some x else w.lookup j
  | [], j, _ => by
    by_cases hj : j = n
    · subst hj
      simp [List.lookup_cons]
    · have : (j == n) = false := by simpa using hj
      simp [List.lookup_cons, this, hj]
  | (a, b) :: w, j, h => by
    rw [List.cons_append, List.lookup_cons, List.lookup_cons]
    rw [List.lookup_cons] at h
    by_cases ha : n = a
    · subst ha
      simp at h
    · have h3 : (n == a) = false := by simpa using ha
      simp only [h3] at h
      by_cases hj : j = a
      · subst hj
        rw [if_neg (Ne.symm ha)]
        simp
      · have : (j == a) = false := by simpa using hj
        simp only [this]
        exact app_lookup n x w j h
theorem putL_lookup (w : List (Int × Int)) (n x j : Int) : (putL w n x).lookup j = if j = n then some x else w.lookup j := by
  unfold putL
  cases h : w.lookup n with
  | none => simpa using app_lookup n x w j h
  | some y =>
    rw [if_pos (show (some y).isSome = true from rfl), map_lookup, h]
    rfl
theorem kwP : ∀ (g : Ev), g.gc = gc → ∀ (x l : W) (h : AH), callW g 19 [x] ["log"] [l] h = g.cf 19 [x, l] h := fun g hg x l h => callW_kw (d := d19) (is := [0, 1]) (by rw [hg]; rfl) rfl (by rw [hg]; kernel_rfl) (by kernel_rfl) rfl
section
variable {E : Nat} {rows outs : List W} (s : Sum E rows outs)
include s
theorem num_ok {es : List Int} (he : Evs E es) : 0 ≤ numOf rows outs es := by
  have s1 := s.s1
  obtain ⟨g1, g2⟩ := ledI_lt s (es := es) (st := 0) (by omega) (by omega) he
  exact (outI_ok s g1 g2).2.1
theorem rk_in {es : List Int} (he : Evs E es) : cs E rows outs (numOf rows outs es) es.length ≤ rk E rows outs es ∧ rk E rows outs es < cs E rows outs (numOf rows outs es) (es.length + 1) ∧ rk E rows outs es = cs E rows outs (numOf rows outs es) es.length + lexr (ent rows) E (gd outs (numOf rows outs es)) 0 es := by
  have g : gd outs (numOf rows outs es) (K82.run (ent rows) 0 es) = true := by
    unfold gd numOf
    rw [ledI_run]
    simp
  have h1 := lexr_nonneg (ent rows) E (gd outs (numOf rows outs es)) es 0
  have h2 := lexr_lt (ent rows) E (gd outs (numOf rows outs es)) es 0 he g
  have h3 : rk E rows outs es = cs E rows outs (numOf rows outs es) es.length + lexr (ent rows) E (gd outs (numOf rows outs es)) 0 es := rfl
  rw [cs_succ]
  have h2 : _ < Cn E rows outs (numOf rows outs es) es.length 0 := h2
  omega
theorem log_back (ns : List Int) (m : Nat) (es : List Int) (h : AH) (he : Evs E es) (hz : es.length ≤ 1000) :
    callF gc ns (m+7) 17 [sumW E rows outs, .int (numOf rows outs es), .int (rk E rows outs es)] h = .ok (.tup (es.map .int)) h := by
  obtain ⟨h1, h2, h3⟩ := rk_in s he
  have c0 : 0 ≤ cs E rows outs (numOf rows outs es) es.length := sm_nonneg (fun k => cnt_nonneg _ _ _ k _) _
  obtain ⟨fs, e1, b, e2⟩ := log_at_hit s (numOf rows outs es) ns m es.length h (rk E rows outs es) (num_ok s he) (by omega) hz h1 h2
  obtain ⟨g1, l1⟩ := b.full e2
  have g : gd outs (numOf rows outs es) (K82.run (ent rows) 0 es) = true := by
    unfold gd numOf
    rw [ledI_run]
    simp
  have : fs = es := by
    rcases lexB_tri fs es e2 with q | q | q
    · have := lexr_mono (ent rows) E (gd outs (numOf rows outs es)) fs es 0 b.ev he e2 q g1
      omega
    · exact q
    · have := lexr_mono (ent rows) E (gd outs (numOf rows outs es)) es fs 0 he b.ev e2.symm q g
      omega
  rw [e1, this]
theorem near_ok (ns : List Int) (m : Nat) (h : AH) : callF gc ns (m+9) 30 [sumW E rows outs] h = .ok (.bl true) h := by
  have e2 := s.e2
  obtain ⟨g, eg⟩ : ∃ g, g = (⟨gc, ns, callF gc ns (m+8)⟩ : Ev) := ⟨_, rfl⟩
  have gf : g.cf = callF gc ns (m+8) := by rw [eg]
  have r0 : ∀ k, subR g (sumW E rows outs) (.int 0) k = .ok (.int E) k := fun k => rd_tup _ _ (by simp)
  have lg := logs_ok ns (m+7) E [.dic []] (by omega)
  have z3 := LL_small (n := 4) (show E ≤ 3 by omega) (by omega)
  obtain ⟨K, eK⟩ : ∃ K, K = [O.dic []] ++ [O.lst ((LL E 4).map tl)] := ⟨_, rfl⟩
  rw [← eK] at lg
  obtain ⟨σ', h', lp, x2, x3, x4, w, rfl, k1, k2, k3, k4⟩ := forLoop_pre (f := forF g (.nm 2) [.asg (.nm 3) (.call 27 [.var 0, .var 2] [] []), .asg (.nm 4) (.bm .get2 (.var 1) [.var 3, .con (.int 0)]), .iff (.not (.val (.call 23 [.lst [.call 19 [.var 0] ["log"] [.var 2], .call 17 [.var 0, .var 3, .var 4] [] []], .lst [.var 4, .var 2]] [] []))) [.ret (.con (.bl false))] [], .asg (.sub (.var 1) (.var 3)) (.bin .add (.var 4) (.con (.int 1)))]) (held := [(1, (LL E 4).map tl)]) tl
    (fun pre σ k => ∃ x2 x3 x4 w, σ = [some (sumW E rows outs), some (.loc 0), x2, x3, x4] ∧ k[1]? = some (.lst ((LL E 4).map tl)) ∧ k[0]? = some (.dic (eD W.int w)) ∧ (∀ n, (w.lookup n).getD 0 = cp (ent rows) (gd outs n) 0 pre) ∧ w.length ≤ pre.length)
    (fun _ _ _ ⟨_, _, _, _, _, q, _⟩ => by simp [heldOk, q]) (LL E 4) (fun pre es post ep σ k ⟨x2, x3, x4, w, e1, k1, k2, k3, k4⟩ => by
      subst e1
      obtain ⟨hl, he⟩ := LL_mem E (x := es) (N := 4) (by rw [ep]; simp)
      have pl := congrArg List.length ep
      rw [List.length_append, List.length_cons] at pl
      have a1 := law_answer_tup s (m+6) (ns := ns) es k he
      have bt := bmt_dic (m := .get2) (h := k) (.inl rfl) k2
      have a2 := get2_dic (d := .int 0) (h := k) k2 (eD_ok W.int w (numOf rows outs es))
      have pr : rk E rows outs es = (w.lookup (numOf rows outs es)).getD 0 := by
        rw [k3, LL_split (ent rows) E (gd outs (numOf rows outs es)) 0 ep]
        rfl
      have a3 : ((w.lookup (numOf rows outs es)).map W.int).getD (.int 0) = .int (rk E rows outs es) := by
        rw [pr]
        cases w.lookup (numOf rows outs es) <;> rfl
      rw [eD_get, a3] at a2
      have kw := kwP g (by rw [eg]) (sumW E rows outs) (.tup (es.map .int)) k
      have c1 := place_of_ok s ns m es k he (by omega)
      have c2 := log_back s ns (m+1) es k he (by omega)
      obtain ⟨K1, eK1⟩ : ∃ K1, K1 = k ++ [O.lst [.int (rk E rows outs es), .tup (es.map .int)]] := ⟨_, rfl⟩
      have f1 : Fr [] k K1 := by rw [eK1]; exact Fr.app
      obtain ⟨K2, eK2⟩ : ∃ K2, K2 = K1 ++ [O.lst [.int (rk E rows outs es), .tup (es.map .int)]] := ⟨_, rfl⟩
      have f2 : Fr [] K1 K2 := by rw [eK2]; exact Fr.app
      have sm : callF gc ns (m+8) 23 [.loc k.length, .loc K1.length] K2 = .ok (.bl true) K2 := same_of (Same.lst (n := 2) (ws := [.int (rk E rows outs es), .tup (es.map .int)]) (f2.get (by rw [eK1]; simp) (by simp)) (by rw [eK2]; simp) (by simp [datWs, datW, datWs_int]) (by
        show (true && ((decide _ && fewWs 1 _) && true)) = true
        rw [fewW_ints, List.length_map, decide_eq_true]
        · rfl
        · omega) (by simp)) (by omega)
      have k2' := f2.get (f1.get k2 (by simp)) (by simp)
      have wr := wr_dic (w := .int (rk E rows outs es + 1)) K2 k2' (eD_ok W.int w (numOf rows outs es)) (by
        unfold eD
        rw [List.length_map]
        omega)
      rw [putL_eD] at wr
      refine ⟨[some (sumW E rows outs), some (.loc 0), some (tl es), some (.int (numOf rows outs es)), some (.int (rk E rows outs es))], K2.set 0 (.dic (eD W.int (putL w (numOf rows outs es) (rk E rows outs es + 1)))), .inl ?_, _, _, _, _, rfl, get_set_ne (f2.get (f1.get k1 (by simp)) (by simp)) (by decide), get_set k2', fun n => ?_, ?_⟩
      · unfold forF
        simp
        rw [ss_cons']
        simp [gf, tl, a1]
        rw [ss_cons']
        simp [bt, a2]
        rw [ss_cons']
        simp [kw, gf, c1, c2, szOk]
        rw [show k ++ [O.lst [.int (rk E rows outs es), .tup (es.map .int)], O.lst [.int (rk E rows outs es), .tup (es.map .int)]] = K2 by rw [eK2, eK1]; simp, show k.length + 1 = K1.length by rw [eK1]; simp, sm]
        have wr' : setI (.loc 0) (.int (outI outs (ledI rows 0 es))) (.int (rk E rows outs es + 1)) K2 = _ := wr
        simp [wr']
      · rw [putL_lookup, cp_append]
        have one : cp (ent rows) (gd outs n) 0 [es] = if n = numOf rows outs es then 1 else 0 := by
          unfold cp gd numOf
          rw [ledI_run]
          by_cases hn : n = outI outs (K82.run (ent rows) 0 es)
          · subst hn
            simp
          · rw [if_neg hn]
            simp [Ne.symm hn]
        rw [one]
        by_cases hn : n = numOf rows outs es
        · subst hn
          rw [if_pos rfl, if_pos rfl, ← k3, ← pr]
          rfl
        · rw [if_neg hn, if_neg hn, ← k3]
          omega
      · have := putL_len w (numOf rows outs es) (rk E rows outs es + 1)
        rw [List.length_append]
        simp only [List.length_cons, List.length_nil]
        omega) (σ := [some (sumW E rows outs), some (.loc 0), none, none, none]) (h := K) ⟨none, none, none, [], rfl, by rw [eK]; rfl, by rw [eK]; rfl, fun n => rfl, Nat.le_refl _⟩
  refine callF_flat h (d := d30) rfl rfl (by simp [W.flats, sumW_flat s]) rfl ?_ (h2 := h')
  rw [← eg]
  simp only [runBody, d30, startA]
  rw [ss_cons']
  simp [dispR]
  rw [ss_cons']
  have gK : K[1]? = some (.lst ((LL E 4).map tl)) := by rw [eK]; rfl
  have lg' : callF gc ns (m+8) 24 [.int E, .int 4] [O.dic []] = .ok (.loc 1) K := lg
  simp [r0, gf, lg', overW, gK, lp]
end
end Law
/-! Far: places far off, in order. -/
namespace Law
open PySem AM K82
theorem toDfs_ints : ∀ is : List Int, toDfs (is.map W.int) = some (is.map PyData.int)
  | [] => rfl
  | i :: is => by
    rw [List.map_cons]
    unfold toDfs
    rw [toDfs_ints is]
    rfl
theorem alike_ints : ∀ a b : List Int, PySem.W.alikeAll (a.map PyData.int) (b.map PyData.int) = true
  | [], _ => by unfold PySem.W.alikeAll; rfl
  | _ :: _, [] => rfl
  | x :: a, y :: b => by
    rw [List.map_cons, List.map_cons, PySem.W.alikeAll, alike_ints a b]
    rfl
theorem toks_lex (z : List (Int ⊕ List Nat)) : ∀ a b : List Int, a.length = b.length → PyProof.Rows.lexLt PyProof.Rows.itemOrd (PySem.W.keyToksAll (a.map PyData.int) ++ z) (PySem.W.keyToksAll (b.map PyData.int) ++ z) = lexB a b
  | [], [], _ => PyProof.Rows.lex_irrefl _
  | [], _ :: _, h => by cases h
  | _ :: _, [], h => by cases h
  | x :: a, y :: b, h => by
    rw [List.map_cons, List.map_cons, PySem.W.toks_all_cons, PySem.W.toks_all_cons]
    show PyProof.Rows.lexLt PyProof.Rows.itemOrd (Sum.inl 1 :: (Sum.inl x :: (PySem.W.keyToksAll (a.map PyData.int) ++ z))) (Sum.inl 1 :: (Sum.inl y :: (PySem.W.keyToksAll (b.map PyData.int) ++ z))) = _
    rw [PyProof.Rows.lex_self, PyProof.Rows.lex_cons, toks_lex z a b (by simpa using h)]
    show (decide (x < y) || (!decide (y < x) && lexB a b)) = (decide (x < y) || (decide (x = y) && lexB a b))
    rcases Int.lt_trichotomy x y with q | q | q
    · simp [q]
    · subst q
      simp
    · simp [q, Int.lt_asymm q, Int.ne_of_gt q]
theorem lt_pair (h : AH) (a b : List Int) : cmpW .lt (.tup [.int a.length, .tup (a.map .int)]) (.tup [.int b.length, .tup (b.map .int)]) h = .ok (.bl (llt a b)) h := by
  show optR (ltD h _ _) id h = _
  have t : ∀ a : List Int, toD h (.tup [.int a.length, .tup (a.map .int)]) = some (.tuple [.int a.length, .tuple (a.map PyData.int)]) := fun a => by
    rw [toD_dat (by simp [datW, datWs, datWs_int])]
    show (toDfs [W.int a.length, .tup (a.map .int)]).map PyData.tuple = _
    show (match some (PyData.int a.length), (match (toDfs (a.map W.int)).map PyData.tuple, some [] with
      | some d, some ds => some (d :: ds)
      | _, _ => none) with
      | some d, some ds => some (d :: ds)
      | _, _ => none).map PyData.tuple = _
    rw [toDfs_ints]
    rfl
  have dp : (PyData.tuple [.int a.length, .tuple (a.map PyData.int)]).depth ≤ 60 := by
    obtain ⟨d, e1, _, e2⟩ := toDf_dat (.tup [.int a.length, .tup (a.map .int)]) (by simp [datW, datWs, datWs_int])
    have := t a
    rw [toD_dat (by simp [datW, datWs, datWs_int]), e1] at this
    injection this with this
    rw [← this, e2]
    simp [depW, depWs, depWs_int]
  unfold ltD
  rw [t a, t b]
  have al : PySem.W.alike (.tuple [.int a.length, .tuple (a.map PyData.int)]) (.tuple [.int b.length, .tuple (b.map PyData.int)]) = true := by
    show (true && (PySem.W.alikeAll (a.map PyData.int) (b.map PyData.int) && true)) = true
    rw [alike_ints a b]
    rfl
  have lt : PySem.W.dataLt (.tuple [.int a.length, .tuple (a.map PyData.int)]) (.tuple [.int b.length, .tuple (b.map PyData.int)]) = llt a b := by
    unfold PySem.W.dataLt llt
    show PyProof.Rows.lexLt PyProof.Rows.itemOrd (Sum.inl 1 :: (Sum.inl (a.length : Int) :: Sum.inl 1 :: (PySem.W.keyToksAll (a.map PyData.int) ++ [Sum.inl 0]))) (Sum.inl 1 :: (Sum.inl (b.length : Int) :: Sum.inl 1 :: (PySem.W.keyToksAll (b.map PyData.int) ++ [Sum.inl 0]))) = _
    rw [PyProof.Rows.lex_self]
    by_cases hl : a.length = b.length
    · rw [hl, PyProof.Rows.lex_self, PyProof.Rows.lex_self, toks_lex _ a b hl]
      simp
    · rw [PyProof.Rows.lex_diff (by
        intro z
        injection z with z
        omega)]
      show decide ((a.length : Int) < b.length) = _
      rw [decide_eq_false hl, Bool.false_and, Bool.or_false]
      exact decide_eq_decide.mpr (by omega)
  dsimp only
  rw [al, lt, decide_eq_true dp]
  rfl
theorem insI_mem {i x : Int} : ∀ {l : List Int}, x ∈ insI i l → x = i ∨ x ∈ l
  | [], h => by
    unfold insI at h
    simpa using h
  | j :: r, h => by
    unfold insI at h
    split at h
    · exact List.mem_cons.mp h
    · rcases List.mem_cons.mp h with h | h
      · exact .inr (h ▸ List.mem_cons_self)
      · rcases insI_mem h with h | h
        · exact .inl h
        · exact .inr (List.mem_cons_of_mem _ h)
theorem sortI_mem {x : Int} : ∀ {l : List Int}, x ∈ sortI l → x ∈ l
  | [], h => h
  | i :: r, h => by
    unfold sortI at h
    rcases insI_mem h with h | h
    · exact h ▸ List.mem_cons_self
    · exact List.mem_cons_of_mem _ (sortI_mem h)
theorem insI_pair {i : Int} : ∀ {l : List Int}, l.Pairwise (· ≤ ·) → (insI i l).Pairwise (· ≤ ·)
  | [], _ => by unfold insI; simp
  | j :: r, h => by
    unfold insI
    rw [List.pairwise_cons] at h
    split
    · rename_i q
      rw [List.pairwise_cons]
      refine ⟨fun x hx => ?_, List.pairwise_cons.mpr h⟩
      rcases List.mem_cons.mp hx with rfl | hx
      · exact q
      · have := h.1 x hx
        omega
    · rename_i q
      rw [List.pairwise_cons]
      refine ⟨fun x hx => ?_, insI_pair h.2⟩
      rcases insI_mem hx with rfl | hx
      · omega
      · exact h.1 x hx
theorem sortI_pair : ∀ l : List Int, (sortI l).Pairwise (· ≤ ·)
  | [] => List.Pairwise.nil
  | i :: r => by
    unfold sortI
    exact insI_pair (sortI_pair r)
theorem kwA : ∀ (g : Ev), g.gc = gc → ∀ (x n p : W) (h : AH), callW g 17 [x, n] ["place"] [p] h = g.cf 17 [x, n, p] h := fun g hg x n p h => callW_kw (d := d17) (is := [0, 1, 2]) (by rw [hg]; rfl) rfl (by rw [hg]; kernel_rfl) (by kernel_rfl) rfl
theorem cut_mid {α : Type} (f : Nat → α) {n i j : Nat} (h1 : i ≤ j) (h2 : j ≤ n) : cutW ((List.range n).map f) (some (i : Int)) (some (j : Int)) = (List.range (j - i)).map fun k => f (i + k) := by
  unfold cutW
  rw [sIx_at _ _ (by omega), sIx_at _ _ (by omega)]
  simp only [List.length_map, List.length_range, Int.toNat_natCast]
  rw [Nat.min_eq_left (by omega), Nat.min_eq_left (by omega)]
  apply List.ext_getElem?
  intro k
  rw [List.getElem?_take]
  by_cases hk : k < j - i
  · rw [if_pos hk]
    simp [hk, show i + k < n by omega]
  · rw [if_neg hk]
    simp [hk]
theorem sm_split (f : Nat → Int) (a : Nat) : ∀ b, sm (a + b) f = sm a f + sm b fun k => f (a + k)
  | 0 => by
    rw [sm_zero]
    show sm a f = _
    omega
  | b + 1 => by
    show sm (a + b + 1) f = _
    rw [sm_succ, sm_succ, sm_split f a b]
    omega
end Law
/-! Far. -/
namespace Law
open PySem AM K82
section
variable {E : Nat} {rows outs : List W} (s : Sum E rows outs) (num : Int)
include s
theorem ed_sum : decide (0 < ((List.range (2 * rows.length - rows.length)).map fun i => Cn E rows outs num (rows.length + i) 0).sum) = ed E rows outs num := by
  have e : ((List.range (2 * rows.length - rows.length)).map fun i => Cn E rows outs num (rows.length + i) 0).sum = sm rows.length fun i => Cn E rows outs num (rows.length + i) 0 := by
    rw [show 2 * rows.length - rows.length = rows.length by omega]
    rfl
  rw [e]
  have nn : ∀ k, 0 ≤ Cn E rows outs num k 0 := fun k => cnt_nonneg _ _ _ k _
  cases h : ed E rows outs num with
  | true =>
    obtain ⟨k, h1, h2, h3⟩ := (ed_iff2 s num).mp h
    have := sm_lt (f := fun i => Cn E rows outs num (rows.length + i) 0) (fun i => nn _) (show k - rows.length < rows.length by omega)
    have z := sm_nonneg (f := fun i => Cn E rows outs num (rows.length + i) 0) (fun i => nn _) (k - rows.length)
    have this : (sm (k - rows.length) fun i => Cn E rows outs num (rows.length + i) 0) + Cn E rows outs num (rows.length + (k - rows.length)) 0 ≤ _ := this
    rw [show rows.length + (k - rows.length) = k by omega] at this
    exact decide_eq_true (by omega)
  | false =>
    refine decide_eq_false fun h1 => ?_
    have z : (sm rows.length fun i => Cn E rows outs num (rows.length + i) 0) = sm rows.length fun _ => 0 := sm_congr fun i _ => by
      have : ¬ 0 < Cn E rows outs num (rows.length + i) 0 := fun q => by
        have := (ed_iff s num).mpr ⟨_, Nat.le_add_right _ _, q⟩
        rw [h] at this
        cases this
      have := nn (rows.length + i)
      omega
    have z2 : (sm rows.length fun _ => (0 : Int)) = 0 := by
      have := sm_mul 0 (fun _ => 0) rows.length
      simpa using this
    rw [z, z2] at h1
    omega
theorem far_ok (ns : List Int) (m l : Nat) (h : AH) (w : Well h l) (hn : 0 ≤ num) :
    ∃ h', callF gc ns (m+9) 31 [.loc l, sumW E rows outs, .int num] h = .ok (.bl true) h' ∧ Well h' l ∧ Fr [l] h h' := by
  have s1 := s.s1
  have s2 := s.s2
  obtain ⟨g, eg⟩ : ∃ g, g = (⟨gc, ns, callF gc ns (m+8)⟩ : Ev) := ⟨_, rfl⟩
  have gf : g.cf = callF gc ns (m+8) := by rw [eg]
  have gs : g.sc = ns := by rw [eg]
  have ct := counts_ok s num ns (m+7) h
  obtain ⟨C, eC⟩ : ∃ C, C = ((List.range 37).map fun k => Cn E rows outs num k 0).map W.int := ⟨_, rfl⟩
  rw [← eC] at ct
  obtain ⟨h1, eh1⟩ : ∃ h1, h1 = h ++ [O.lst C] := ⟨_, rfl⟩
  rw [← eh1] at ct
  have f1 : Fr [] h h1 := by rw [eh1]; exact Fr.app
  have g1 : h1[h.length]? = some (.lst C) := by rw [eh1]; simp
  have ll := w.lt
  have cutC : cutW C (some (rows.length : Int)) (some ((2 * rows.length : Nat) : Int)) = ((List.range (2 * rows.length - rows.length)).map fun i => Cn E rows outs num (rows.length + i) 0).map W.int := by
    rw [eC, List.map_map, cut_mid _ (by omega) (by omega), List.map_map]
    rfl
  have sl := slc_lst ns (some (rows.length : Int)) (some ((2 * rows.length : Nat) : Int)) g1
  rw [cutC] at sl
  obtain ⟨h2, eh2⟩ : ∃ h2, h2 = h1 ++ [O.lst (((List.range (2 * rows.length - rows.length)).map fun i => Cn E rows outs num (rows.length + i) 0).map W.int)] := ⟨_, rfl⟩
  rw [← eh2] at sl
  have f2 : Fr [] h1 h2 := by rw [eh2]; exact Fr.app
  have g2 : h2[h1.length]? = some (.lst (((List.range (2 * rows.length - rows.length)).map fun i => Cn E rows outs num (rows.length + i) 0).map W.int)) := by rw [eh2]; simp
  have pm : ∀ (k : AH) (p : Nat) (is : List Int), k[p]? = some (.lst (is.map W.int)) → primW g .sum [.loc p] k = .ok (.int is.sum) k := fun k p is hk => by
    show (match k[p]? with
      | some (.lst xs) => seqL .sum xs k
      | _ => _) = _
    rw [hk]
    show seqL .sum _ _ = _
    unfold seqL
    rw [intsOf_map]
  have p2 := pm h2 h1.length _ g2
  have edS := ed_sum s num
  have w2 : Well h2 l := (w.fr (S := []) f1 (by simp)).fr (S := []) f2 (by simp)
  obtain ⟨d3, h3, a31, a32, e3, w3, f3, n3⟩ := dip ns (m+7) l 30 h2 (by decide) (by decide) w2
  obtain ⟨d4, h4, a41, a42, e4, w4, f4, n4⟩ := dip ns (m+7) l 10000 h3 (by decide) (by decide) w3
  obtain ⟨d5, h5, a51, a52, e5, w5, f5, n5⟩ := dip ns (m+7) l 1000000000 h4 (by decide) (by decide) w4
  obtain ⟨h6, eh6⟩ : ∃ h6, h6 = h5 ++ [O.lst [.int 0, .int 1, .int d3, .int d4, .int d5]] := ⟨_, rfl⟩
  have f6 : Fr [] h5 h6 := by rw [eh6]; exact Fr.app
  have g6 : h6[h5.length]? = some (.lst [.int 0, .int 1, .int d3, .int d4, .int d5]) := by rw [eh6]; simp
  obtain ⟨PS, ePS⟩ : ∃ PS, PS = sortI [0, 1, d3, d4, d5] := ⟨_, rfl⟩
  obtain ⟨h7, eh7⟩ : ∃ h7, h7 = h6 ++ [O.lst (PS.map .int)] := ⟨_, rfl⟩
  have f7 : Fr [] h6 h7 := by rw [eh7]; exact Fr.app
  have g7 : h7[h6.length]? = some (.lst (PS.map .int)) := by rw [eh7]; simp
  have so : primW g .sorted [.loc h5.length] h6 = .ok (.loc h6.length) h7 := by
    show (match h6[h5.length]? with
      | some (.lst xs) => seqL .sorted xs h6
      | some (.dic kvs) => _
      | _ => _) = _
    rw [g6, eh7, ePS]
    rfl
  have psn : ∀ x ∈ PS, 0 ≤ x := fun x hx => by
    rw [ePS] at hx
    have := sortI_mem hx
    simp at this
    omega
  have psp : PS.Pairwise (· ≤ ·) := by rw [ePS]; exact sortI_pair _
  have hc : h.length ≠ l := by omega
  have c7 : h7[h.length]? = some (.lst C) := f7.get (f6.get (f5.get (f4.get (f3.get (f2.get g1 (by simp)) (by simpa using hc)) (by simpa using hc)) (by simpa using hc)) (by simp)) (by simp)
  have p7 : primW g .sum [.loc h.length] h7 = .ok (.int (cs E rows outs num 37)) h7 := pm h7 h.length _ (by rw [c7, eC])
  have w7 : Well h7 l := (w5.fr (S := []) f6 (by simp)).fr (S := []) f7 (by simp)
  have fall : Fr [l] h h7 := ((((((f1.mono (by simp)).trans (f2.mono (by simp))).trans f3).trans f4).trans f5).trans (f6.mono (by simp))).trans (f7.mono (by simp))
  obtain ⟨b, eb⟩ : ∃ b, b = ed E rows outs num := ⟨_, rfl⟩
  obtain ⟨σ', h', lp, x4, x7, x8, rfl, rfl, _⟩ := forLoop_pre (f := forF g (.nm 4) [.iff (.or [.not (.val (.var 3)), .val (.cmp .lt (.var 4) (.prim .sum [.var 6]))]) [.asg (.nm 8) (.call 17 [.var 1, .var 2] ["place"] [.var 4]), .iff (.val (.cmp .ne (.cmp .isn (.var 8) (.con .non)) (.and [.not (.var 3), .cmp .ge (.var 4) (.prim .sum [.var 6])]))) [.ret (.con (.bl false))] [], .iff (.val (.cmp .isnt (.var 8) (.con .non))) [.iff (.or [.val (.cmp .ne (.call 27 [.var 1, .var 8] [] []) (.var 2)), .not (.val (.call 23 [.call 19 [.var 1, .var 8] [] [], .var 4] [] []))]) [.ret (.con (.bl false))] [], .iff (.and [.val (.cmp .isnt (.var 7) (.con .non)), .val (.cmp .lt (.tup [.prim .len [.var 8], .var 8]) (.tup [.prim .len [.var 7], .var 7]))]) [.ret (.con (.bl false))] [], .asg (.nm 7) (.var 8)] []] []]) (held := [(h6.length, PS.map .int)]) W.int
    (fun pre σ k => ∃ x4 x7 x8, σ = [some (.loc l), some (sumW E rows outs), some (.int num), some (.bl b), x4, some (.int rows.length), some (.loc h.length), some x7, x8] ∧ k = h7 ∧ (x7 = .non ∨ ∃ es, x7 = .tup (es.map .int) ∧ Evs E es ∧ numOf rows outs es = num ∧ rk E rows outs es ∈ pre))
    (fun _ _ _ ⟨_, _, _, _, q, _⟩ => by rw [q]; simp [heldOk, g7]) PS (fun pre x post ep σ k ⟨x4, x7, x8, e1, e2, e3⟩ => by
      subst e1
      subst e2
      have hx : 0 ≤ x := psn x (by rw [ep]; simp)
      by_cases hc : x < cs E rows outs num 37
      · obtain ⟨L, h1, h2, h3⟩ := sm_pick (f := fun k => Cn E rows outs num k 0) hx hc
        have h2 : cs E rows outs num L ≤ x := h2
        have h3 : x < cs E rows outs num (L + 1) := by rw [cs_succ]; exact h3
        obtain ⟨es, q1, q2, q3⟩ := log_at_hit s num ns (m+1) L k x hn hx (by omega) h2 h3
        obtain ⟨q4, q5⟩ := q2.full q3
        have nu : numOf rows outs es = num := by
          unfold gd at q4
          unfold numOf
          rw [ledI_run]
          exact of_decide_eq_true q4
        have rk1 : rk E rows outs es = x := by
          have := (rk_in s q2.ev).2.2
          rw [nu, q3, q5] at this
          omega
        have kw := kwA g (by rw [eg]) (sumW E rows outs) (.int num) (.int x) k
        have an := law_answer_tup s (m+6) (ns := ns) es k q2.ev
        have an : callF gc ns (m+8) 27 [sumW E rows outs, .tup (es.map .int)] k = .ok (.int num) k := by rw [← nu]; exact an
        have po := place_of_ok s ns m es k q2.ev (by omega)
        rw [rk1] at po
        have sm : callF gc ns (m+8) 23 [.int x, .int x] k = .ok (.bl true) k := same_of (Same.flat (n := 0) rfl rfl) (by omega)
        refine ⟨[some (.loc l), some (sumW E rows outs), some (.int num), some (.bl b), some (.int x), some (.int rows.length), some (.loc h.length), some (.tup (es.map .int)), some (.tup (es.map .int))], k, .inl ?_, _, _, _, rfl, rfl, .inr ⟨es, rfl, q2.ev, nu, by rw [rk1]; simp⟩⟩
        unfold forF
        have na : ¬ cs E rows outs num 37 ≤ x := by omega
        have nb : cmpW .ne (.bl false) (.bl false) k = .ok (.bl false) k := rfl
        rcases e3 with rfl | ⟨fs, rfl, fe, fn, fr⟩
        · cases b <;> (
            simp [p7, hc]
            rw [ss_cons']
            simp [kw, gf, q1]
            rw [ss_cons']
            simp [p7, na, nb]
            rw [ss_cons']
            simp [gf, an, po, sm]
            rw [ss_cons']
            simp)
        · have le : rk E rows outs fs ≤ x := by
            rw [ep, List.pairwise_append] at psp
            exact psp.2.2 _ fr _ List.mem_cons_self
          have nl : llt es fs = false := by
            cases q : llt es fs with
            | false => rfl
            | true =>
              have := rank_mono (ent rows) E (gd outs num) (q := 0) q2.ev fe q q4
              unfold rk at rk1 le
              rw [nu] at rk1
              rw [fn] at le
              omega
          have lt := lt_pair k es fs
          rw [nl] at lt
          cases b <;> (
            simp [p7, hc]
            rw [ss_cons']
            simp [kw, gf, q1]
            rw [ss_cons']
            simp [p7, na, nb]
            rw [ss_cons']
            simp [gf, an, po, sm]
            rw [ss_cons']
            simp [szOk, lt])
      · have na : cs E rows outs num 37 ≤ x := by omega
        have e3' : x7 = .non ∨ ∃ es, x7 = .tup (es.map .int) ∧ Evs E es ∧ numOf rows outs es = num ∧ rk E rows outs es ∈ pre ++ [x] := by
          rcases e3 with q | ⟨fs, q1, q2, q3, q4⟩
          · exact .inl q
          · exact .inr ⟨fs, q1, q2, q3, List.mem_append_left _ q4⟩
        cases hb : b with
        | true =>
          refine ⟨[some (.loc l), some (sumW E rows outs), some (.int num), some (.bl true), some (.int x), some (.int rows.length), some (.loc h.length), some x7, x8], k, .inl ?_, _, _, _, rfl, rfl, e3'⟩
          unfold forF
          simp [p7, hc]
        | false =>
          have he : ed E rows outs num = false := by rw [← eb, hb]
          have ce := cs_end s num he (show rows.length ≤ 37 by omega)
          have ln := log_at_none s num ns (m+1) k x hn hx he (by omega)
          have kw := kwA g (by rw [eg]) (sumW E rows outs) (.int num) (.int x) k
          have nb : cmpW .ne (.bl true) (.bl true) k = .ok (.bl false) k := rfl
          refine ⟨[some (.loc l), some (sumW E rows outs), some (.int num), some (.bl false), some (.int x), some (.int rows.length), some (.loc h.length), some x7, some .non], k, .inl ?_, _, _, _, rfl, rfl, e3'⟩
          unfold forF
          simp [p7, hc]
          rw [ss_cons']
          simp [kw, gf, ln]
          rw [ss_cons']
          simp [p7, na, nb]) (σ := [some (.loc l), some (sumW E rows outs), some (.int num), some (.bl b), none, some (.int rows.length), some (.loc h.length), some .non, none]) (h := h7) ⟨none, .non, none, rfl, rfl, .inl rfl⟩
  refine ⟨h', ?_, w7, fall⟩
  rw [callF_loc h (d := d31) rfl rfl (by simp [W.flats, W.flat]), ← eg]
  simp only [runBody, d31, startA]
  rw [ss_cons']
  simp [gf, ct, szOk]
  rw [ss_cons']
  have ml : mulOk 2 (rows.length : Int) = true := mul_okL (by decide)
  have p2' : ((2 * rows.length : Nat) : Int) = 2 * (rows.length : Int) := by omega
  rw [p2'] at sl
  have e4' : callF gc ns (m+8) 21 [.loc l, .int (10 ^ 4)] h3 = .ok (.int d4) h4 := e4
  simp [gs, ml, sl, p2, edS]
  rw [ss_cons']
  have pw1 : powOk 10 4 = true := by decide
  have pw2 : powOk 10 9 = true := by decide
  rw [← eb]
  simp [gf, e3, e4, e5, pw1, pw2, szOk]
  rw [← eh6, so]
  simp [overW, g7, lp]
end
end Law
/-! What is raised. -/
namespace Law
open PySem AM K82
theorem at_bad1 {ns : List Int} {E : Int} {rows outs : List W} (s : Sum E rows outs) (m : Nat) (a b : W) (h : AH) (hf : W.flats [a, b] = true) (hc : ∀ h, callF gc ns (m+6) 8 [a] h = .exc 1 [] [] h) : callF gc ns (m+7) 17 [sumW E rows outs, a, b] h = .exc 1 [] [] h := by
  have c1 := check_summary_ok (ns := ns) s m []
  refine callF_exc h (d := d17) rfl rfl (by simp [W.flats, sumW_flat s] at hf ⊢; exact hf) ?_ (h2 := [])
  simp only [runBody, d17, startA]
  rw [ss_cons']
  simp [c1]
  rw [ss_cons']
  simp [hc]
theorem at_bad2 {ns : List Int} {E : Int} {rows outs : List W} (s : Sum E rows outs) (m : Nat) (b : W) (h : AH) (hf : W.flat b = true) (hc : ∀ h, callF gc ns (m+6) 8 [b] h = .exc 1 [] [] h) : callF gc ns (m+7) 17 [sumW E rows outs, .int 0, b] h = .exc 1 [] [] h := by
  have c1 := check_summary_ok (ns := ns) s m []
  have c2 := check_number_ok ns (m+3) 0 [] (by decide)
  refine callF_exc h (d := d17) rfl rfl (by simp [W.flats, sumW_flat s, W.flat, hf]) ?_ (h2 := [])
  simp only [runBody, d17, startA]
  rw [ss_cons']
  simp [c1]
  rw [ss_cons']
  simp [c2]
  rw [ss_cons']
  simp [hc]
theorem of_bad {ns : List Int} {E : Int} {rows outs : List W} (s : Sum E rows outs) (m : Nat) (lg : W) (i : Int) (h : AH) (hf : W.flat lg = true) (hc : ∀ h, callF gc ns (m+6) 9 [.int E, lg] h = .exc 2 ["index"] [.int i] h) : callF gc ns (m+8) 19 [sumW E rows outs, lg] h = .exc 2 ["index"] [.int i] h := by
  have c1 := check_summary_ok (ns := ns) s m []
  have cr : ∀ h, callF gc ns (m+7) 12 [sumW E rows outs, lg] h = .exc 2 ["index"] [.int i] h := fun h => by
    refine callF_excF (d := d12) rfl rfl (by simp [W.flats, sumW_flat s, hf]) ?_ rfl (h2 := [])
    simp only [runBody, d12, startA]
    rw [ss_cons']
    simp [c1, hc]
  refine callF_excF (d := d19) rfl rfl (by simp [W.flats, sumW_flat s, hf]) ?_ rfl (h2 := [])
  simp only [runBody, d19, startA]
  rw [ss_cons']
  simp [cr]
theorem of_lst {ns : List Int} {E : Int} {rows outs : List W} (s : Sum E rows outs) (m p : Nat) (ws : List W) (h : AH) (hp : h[p]? = some (.lst ws)) : callF gc ns (m+8) 19 [sumW E rows outs, .loc p] h = .exc 2 ["index"] [.int (-1)] h := by
  have c1 := check_summary_ok (ns := ns) s m h
  have ty : typW h (.loc p) = some "list" := by
    show (match h[p]? with
      | some (.lst _) => some "list"
      | _ => none) = _
    rw [hp]
  have is : ∀ g : Ev, primW g (.isi ["tuple"] []) [.loc p] h = .ok (.bl false) h := fun g => by
    show (match typW h (.loc p) with
      | some t => _
      | none => _) = _
    rw [ty]
    rfl
  have rf : callF gc ns (m+5) 7 [.int E, .loc p] h = .ok (.int (-1)) h := by
    rw [callF_loc h (d := d7) rfl rfl rfl]
    simp only [runBody, d7, startA]
    rw [ss_cons']
    simp [is]
  have r1 : raiPre gc 2 ["index"] = true := by kernel_rfl
  have r2 : (W.flats [.int (-1)] && raiOk gc 2 ["index"] [.int (-1)]) = true := by kernel_rfl
  simp at r2
  have cl : callF gc ns (m+6) 9 [.int E, .loc p] h = .exc 2 ["index"] [.int (-1)] h := by
    rw [callF_loc h (d := d9) rfl rfl rfl]
    simp only [runBody, d9, startA]
    rw [ss_cons']
    simp [rf, r1, r2]
  have cr : callF gc ns (m+7) 12 [sumW E rows outs, .loc p] h = .exc 2 ["index"] [.int (-1)] h := by
    rw [callF_loc h (d := d12) rfl rfl (by simp [W.flats, W.flat])]
    simp only [runBody, d12, startA]
    rw [ss_cons']
    simp [c1, cl]
  rw [callF_loc h (d := d19) rfl rfl (by simp [W.flats, W.flat])]
  simp only [runBody, d19, startA]
  rw [ss_cons']
  simp [cr]
theorem log_far {ns : List Int} {E : Nat} (e1 : 1 ≤ E) (e3 : E ≤ 3) (m : Nat) : ∀ h, callF gc ns (m+6) 9 [.int E, .tup [.int 0, .int E]] h = .exc 2 ["index"] [.int 1] h := fun h => by
  rcases (show E = 1 ∨ E = 2 ∨ E = 3 by omega) with rfl | rfl | rfl
  · rfl
  · rfl
  · rfl
theorem log_true {ns : List Int} {E : Nat} (e1 : 1 ≤ E) (e3 : E ≤ 3) (m : Nat) : ∀ h, callF gc ns (m+6) 9 [.int E, .tup [.bl true]] h = .exc 2 ["index"] [.int 0] h := fun h => by
  rcases (show E = 1 ∨ E = 2 ∨ E = 3 by omega) with rfl | rfl | rfl
  · rfl
  · rfl
  · rfl
section
variable {ns : List Int} {m a : Nat} {h : AH}
theorem isn (cf : Nat → List W → AH → Res W) (c d : Nat) (b : Bool) (xs : List Str) (ws : List W) (hb : gc.exm c d = some b) : primW ⟨gc, ns, cf⟩ (.isi [] [d]) [.exo c xs ws] h = .ok (.bl b) h := by
  show (match gc.exm c d with
    | some b => Res.ok (W.bl b) h
    | none => .stuck) = _
  rw [hb]
theorem isN (cf : Nat → List W → AH → Res W) (d : Nat) (hb : (gc.exm d d).isSome = true) : primW ⟨gc, ns, cf⟩ (.isi [] [d]) [.non] h = .ok (.bl false) h := by
  show (if (gc.exm d d).isSome = true then Res.ok (W.bl false) h else .stuck) = _
  rw [if_pos hb]
theorem err_at {x y z : W} (q : h[a]? = some (.lst [x, y, z])) (e : callF gc ns (m+8) 17 [x, y, z] h = .exc 1 [] [] h) : callF gc ns (m+9) 29 [.int 0, .loc a] h = .ok (.tup [.str "number", .non]) h := by
  rw [callF_loc h (d := d29) rfl rfl (by simp [W.flats, W.flat])]
  have g0 := rd_lst (i := 0) ⟨gc, ns, callF gc ns (m+8)⟩ h q rfl
  have g1 := rd_lst (i := 1) ⟨gc, ns, callF gc ns (m+8)⟩ h q rfl
  have g2 := rd_lst (i := 2) ⟨gc, ns, callF gc ns (m+8)⟩ h q rfl
  have x1 : gc.exm 1 0 = some true := by kernel_rfl
  have i1 := isn (ns := ns) (h := h) (callF gc ns (m+8)) 1 2 false [] [] (by kernel_rfl)
  have i2 := isn (ns := ns) (h := h) (callF gc ns (m+8)) 1 1 true [] [] (by kernel_rfl)
  simp only [runBody, d29, startA]
  rw [ss_cons']
  simp
  rw [ss_cons']
  simp [g0, g1, g2, e, hdW, x1]
  rw [ss_cons']
  simp [i1, i2, szOk]
theorem err_at_ok {x y z w : W} (q : h[a]? = some (.lst [x, y, z])) (e : callF gc ns (m+8) 17 [x, y, z] h = .ok w h) : callF gc ns (m+9) 29 [.int 0, .loc a] h = .ok (.tup [.str "", .non]) h := by
  rw [callF_loc h (d := d29) rfl rfl (by simp [W.flats, W.flat])]
  have g0 := rd_lst (i := 0) ⟨gc, ns, callF gc ns (m+8)⟩ h q rfl
  have g1 := rd_lst (i := 1) ⟨gc, ns, callF gc ns (m+8)⟩ h q rfl
  have g2 := rd_lst (i := 2) ⟨gc, ns, callF gc ns (m+8)⟩ h q rfl
  have i1 := isN (ns := ns) (h := h) (callF gc ns (m+8)) 2 (by kernel_rfl)
  have i2 := isN (ns := ns) (h := h) (callF gc ns (m+8)) 1 (by kernel_rfl)
  simp only [runBody, d29, startA]
  rw [ss_cons']
  simp
  rw [ss_cons']
  simp [g0, g1, g2, e]
  rw [ss_cons']
  simp [i1, i2, szOk]
theorem err_of {x y : W} {i : Int} (q : h[a]? = some (.lst [x, y])) (e : callF gc ns (m+8) 19 [x, y] h = .exc 2 ["index"] [.int i] h) : callF gc ns (m+9) 29 [.int 1, .loc a] h = .ok (.tup [.str "log", .int i]) h := by
  rw [callF_loc h (d := d29) rfl rfl (by simp [W.flats, W.flat])]
  have g0 := rd_lst (i := 0) ⟨gc, ns, callF gc ns (m+8)⟩ h q rfl
  have g1 := rd_lst (i := 1) ⟨gc, ns, callF gc ns (m+8)⟩ h q rfl
  have x1 : gc.exm 2 0 = some true := by kernel_rfl
  have i1 := isn (ns := ns) (h := h) (callF gc ns (m+8)) 2 2 true ["index"] [.int i] (by kernel_rfl)
  have at1 : attrW ⟨gc, ns, callF gc ns (m+8)⟩ (.exo 2 ["index"] [.int i]) "index" h = .ok (.int i) h := by
    have k1 : decide ((gc.inis.lookup 2).map (·.x) = some ("index" : Str)) = true := by kernel_rfl
    have k2 : ([("index" : Str)].zip [W.int i]).lookup ("index" : Str) = some (W.int i) := by simp [List.lookup]
    unfold attrW
    dsimp only
    rw [k1, k2]
    rfl
  simp only [runBody, d29, startA]
  rw [ss_cons']
  simp
  rw [ss_cons']
  simp [g0, g1, e, hdW, x1]
  rw [ss_cons']
  simp [i1, at1, szOk]
theorem err_of_ok {x y w : W} (q : h[a]? = some (.lst [x, y])) (e : callF gc ns (m+8) 19 [x, y] h = .ok w h) : callF gc ns (m+9) 29 [.int 1, .loc a] h = .ok (.tup [.str "", .non]) h := by
  rw [callF_loc h (d := d29) rfl rfl (by simp [W.flats, W.flat])]
  have g0 := rd_lst (i := 0) ⟨gc, ns, callF gc ns (m+8)⟩ h q rfl
  have g1 := rd_lst (i := 1) ⟨gc, ns, callF gc ns (m+8)⟩ h q rfl
  have i1 := isN (ns := ns) (h := h) (callF gc ns (m+8)) 2 (by kernel_rfl)
  have i2 := isN (ns := ns) (h := h) (callF gc ns (m+8)) 1 (by kernel_rfl)
  simp only [runBody, d29, startA]
  rw [ss_cons']
  simp
  rw [ss_cons']
  simp [g0, g1, e]
  rw [ss_cons']
  simp [i1, i2, szOk]
end
end Law
/-! The law. -/
namespace Law
open PySem AM K82
theorem ne_empty {h : AH} {a b : Nat} (ha : h[a]? = some (.lst [])) (hb : h[b]? = some (.lst [])) : cmpW .ne (.loc a) (.loc b) h = .ok (.bl false) h := c_ne (b := true) (eqW_lst_nil ha hb rfl (by decide))
section
variable {E : Nat} {rows outs : List W} (s : Sum E rows outs)
include s
theorem outI_small (ho : ∀ o ∈ outs, ∃ i : Int, o = .int i ∧ 0 ≤ i ∧ i < 3) {q : Int} (h1 : 0 ≤ q) (h2 : q < rows.length) : outI outs q < 3 := by
  obtain ⟨k, rfl⟩ : ∃ k : Nat, q = k := ⟨q.toNat, by omega⟩
  have e := (outI_ok s h1 h2).1
  rw [atI_nat] at e
  obtain ⟨i, e2, _, e3⟩ := ho _ (List.mem_of_getElem? e)
  injection e2 with e2
  omega
theorem no_five (ho : ∀ o ∈ outs, ∃ i : Int, o = .int i ∧ 0 ≤ i ∧ i < 3) (k : Nat) : Cn E rows outs 5 k 0 = 0 := by
  have s1 := s.s1
  have n : 0 ≤ Cn E rows outs 5 k 0 := cnt_nonneg _ _ _ k _
  have z : ¬ 0 < Cn E rows outs 5 k 0 := fun z => by
    obtain ⟨es, _, he, hg⟩ := (cnt_pos _ _ _ _ _).mp z
    obtain ⟨a, b⟩ := run_in (dl_cl s) es 0 he (by omega) (by omega)
    have := outI_small s ho a b
    unfold gd at hg
    have := of_decide_eq_true hg
    omega
  omega
theorem five_ok (ns : List Int) (m : Nat) (h : AH) (ho : ∀ o ∈ outs, ∃ i : Int, o = .int i ∧ 0 ≤ i ∧ i < 3) : callF gc ns (m+7) 17 [sumW E rows outs, .int 5, .int 100000000000000000000] h = .ok .non h := by
  refine log_at_none s 5 ns m h _ (by decide) (by decide) ?_ ?_
  · cases q : ed E rows outs 5 with
    | false => rfl
    | true =>
      obtain ⟨k, _, h2⟩ := (ed_iff s 5).mp q
      rw [no_five s ho] at h2
      exact absurd h2 (by decide)
  · unfold cs
    rw [sm_congr (g := fun _ => 0 * 1) fun i _ => by rw [no_five s ho]; rfl, sm_mul]
    simp
end
def rows3 (K : Nat) : List W := [.tup [.int 0, .loc K, .tup [.str "number", .non]], .tup [.int 0, .loc (K + 1), .tup [.str "number", .non]], .tup [.int 0, .loc (K + 2), .tup [.str "number", .non]]]
def rows6 (K : Nat) : List W := [.tup [.int 0, .loc (K + 4), .tup [.str "number", .non]], .tup [.int 0, .loc (K + 5), .tup [.str "", .non]], .tup [.int 1, .loc (K + 6), .tup [.str "log", .int 1]]]
def rows9 (K : Nat) : List W := [.tup [.int 1, .loc (K + 10), .tup [.str "log", .int (-1)]], .tup [.int 1, .loc (K + 11), .tup [.str "log", .int 0]], .tup [.int 1, .loc (K + 12), .tup [.str "", .non]]]
theorem rows_ok {ns : List Int} {E : Nat} {rows outs : List W} (s : Sum E rows outs) (ho : ∀ o ∈ outs, ∃ i : Int, o = .int i ∧ 0 ≤ i ∧ i < 3) (m K : Nat) (h : AH) (a0 a1 a2 a3 a4 a5 b1 b2 b3 : Option W)
    (h0 : h[K]? = some (.lst [sumW E rows outs, .int (-1), .non])) (h1 : h[K + 1]? = some (.lst [sumW E rows outs, .bl true, .int 0])) (h2 : h[K + 2]? = some (.lst [sumW E rows outs, .int 0, .int (-1)]))
    (h4 : h[K + 4]? = some (.lst [sumW E rows outs, .int 0, .str "1"])) (h5 : h[K + 5]? = some (.lst [sumW E rows outs, .int 5, .int 100000000000000000000])) (h6 : h[K + 6]? = some (.lst [sumW E rows outs, .tup [.int 0, .int E]]))
    (h9 : h[K + 9]? = some (.lst [.int 0])) (h10 : h[K + 10]? = some (.lst [sumW E rows outs, .loc (K + 9)])) (h11 : h[K + 11]? = some (.lst [sumW E rows outs, .tup [.bl true]])) (h12 : h[K + 12]? = some (.lst [sumW E rows outs, .tup [.int 0, .int 0]]))
    (hq : h[K + 14]? = some (.lst (rows3 K ++ rows6 K ++ rows9 K))) :
    evalL ⟨gc, ns, callF gc ns (m+9)⟩ (.comp [("which", 7), ("a", 8), ("due", 9)] (.tp [.nm 7, .nm 8, .nm 9]) (.over (.var 6)) [.val (.cmp .ne (.call 29 [.var 7, .var 8] [] []) (.var 9))] (.con (.int 1))) [a0, a1, a2, a3, a4, a5, some (.loc (K + 14)), b1, b2, b3] h = .ok [] h := by
  have e1 := s.e1
  have e2 := s.e2
  have n1 : ∀ h, cmpW .ne (.tup [.str "number", .non]) (.tup [.str "number", .non]) h = .ok (.bl false) h := fun h => c_ne (b := true) (eqW_self (by kernel_rfl) (by decide))
  have n2 : ∀ h, cmpW .ne (.tup [.str "", .non]) (.tup [.str "", .non]) h = .ok (.bl false) h := fun h => c_ne (b := true) (eqW_self (by kernel_rfl) (by decide))
  have n3 : ∀ i h, cmpW .ne (.tup [.str "log", .int i]) (.tup [.str "log", .int i]) h = .ok (.bl false) h := fun i h => c_ne (b := true) (eqW_self (by
    have : datW (.str "log") = true := by kernel_rfl
    simp [datW, datWs] at this ⊢
    exact this) (by simp [depW, depWs]))
  have g0 := err_at (ns := ns) (m := m) h0 (at_bad1 s (m+1) (.int (-1)) .non h rfl fun h => check_number_neg ns (m+4) h)
  have g1 := err_at (ns := ns) (m := m) h1 (at_bad1 s (m+1) (.bl true) (.int 0) h rfl fun h => check_number_bl ns (m+4) h)
  have g2 := err_at (ns := ns) (m := m) h2 (at_bad2 s (m+1) (.int (-1)) h rfl fun h => check_number_neg ns (m+4) h)
  have g4 := err_at (ns := ns) (m := m) h4 (at_bad2 s (m+1) (.str "1") h rfl fun h => check_number_str ns (m+4) h _)
  have g5 := err_at_ok (ns := ns) (m := m) h5 (five_ok s ns (m+1) h ho)
  have g6 := err_of (ns := ns) (m := m) h6 (of_bad s m (.tup [.int 0, .int E]) 1 h rfl (log_far (by omega) (by omega) m))
  have g7 := err_of (ns := ns) (m := m) h10 (of_lst s m (K + 9) [.int 0] h h9)
  have g8 := err_of (ns := ns) (m := m) h11 (of_bad s m (.tup [.bl true]) 0 h rfl (log_true (by omega) (by omega) m))
  have g9 := err_of_ok (ns := ns) (m := m) h12 (place_of_ok s ns m [0, 0] h (fun x hx => by simp at hx; omega) (by simp))
  have e := comp_encF ⟨gc, ns, callF gc ns (m+9)⟩ (fun w : W => w) (fun _ => false) (fun _ => W.int 1) (xs := rows3 K ++ rows6 K ++ rows9 K) (own := [("which", 7), ("a", 8), ("due", 9)]) (tg := .tp [.nm 7, .nm 8, .nm 9]) (it := .over (.var 6)) (t := .val (.cmp .ne (.call 29 [.var 7, .var 8] [] []) (.var 9))) (elt := .con (.int 1)) (σ := [a0, a1, a2, a3, a4, a5, some (.loc (K + 14)), b1, b2, b3]) (h := h) (h1 := h)
    (held := [(K + 14, rows3 K ++ rows6 K ++ rows9 K)]) (by simp [overW, hq]) (by simp [heldOk, hq]) (by simp [rows3, rows6, rows9]) (fun w hw => by
      have ta : ∀ p1 p2 p3, asgT ⟨gc, ns, callF gc ns (m+9)⟩ (.tp [.nm 7, .nm 8, .nm 9]) (.tup [p1, p2, p3]) (wipeA [a0, a1, a2, a3, a4, a5, some (.loc (K + 14)), b1, b2, b3] [7, 8, 9]) h = .ok [a0, a1, a2, a3, a4, a5, some (.loc (K + 14)), some p1, some p2, some p3] h := fun p1 p2 p3 => by simp [wipeA]
      simp only [rows3, rows6, rows9, List.cons_append, List.nil_append, List.mem_cons, List.not_mem_nil, or_false] at hw
      rcases hw with rfl | rfl | rfl | rfl | rfl | rfl | rfl | rfl | rfl
      · exact ⟨_, ta _ _ _, by simp [g0, n1], fun z => by cases z⟩
      · exact ⟨_, ta _ _ _, by simp [g1, n1], fun z => by cases z⟩
      · exact ⟨_, ta _ _ _, by simp [g2, n1], fun z => by cases z⟩
      · exact ⟨_, ta _ _ _, by simp [g4, n1], fun z => by cases z⟩
      · exact ⟨_, ta _ _ _, by simp [g5, n2], fun z => by cases z⟩
      · exact ⟨_, ta _ _ _, by simp [g6, n3], fun z => by cases z⟩
      · exact ⟨_, ta _ _ _, by simp [g7, n3], fun z => by cases z⟩
      · exact ⟨_, ta _ _ _, by simp [g8, n3], fun z => by cases z⟩
      · exact ⟨_, ta _ _ _, by simp [g9, n2], fun z => by cases z⟩)
  rw [e]
  rfl
end Law
/-! The law, whole. -/
namespace Law
open PySem AM K82
theorem fars {E : Nat} {rows outs : List W} (s : Sum E rows outs) (ns : List Int) (m l q : Nat) (h : AH) (w : Well h l) (hq : h[q]? = some (.lst [.int 0, .int 1, .int 2, .int 7])) (hql : q ≠ l) (a0 a1 a4 a5 a6 a7 a8 a9 : Option W) :
    ∃ x h', forLoop (forF ⟨gc, ns, callF gc ns (m+9)⟩ (.nm 4) [.iff (.not (.val (.call 31 [.var 2, .var 3, .var 4] [] []))) [.ret (.con (.bl false))] []]) [(q, [.int 0, .int 1, .int 2, .int 7])] [.int 0, .int 1, .int 2, .int 7] [a0, a1, some (.loc l), some (sumW E rows outs), a4, a5, a6, a7, a8, a9] h = .next [a0, a1, some (.loc l), some (sumW E rows outs), x, a5, a6, a7, a8, a9] h' ∧ Well h' l := by
  obtain ⟨σ', h', lp, x, rfl, w', _⟩ := forLoop_pre (f := forF ⟨gc, ns, callF gc ns (m+9)⟩ (.nm 4) [.iff (.not (.val (.call 31 [.var 2, .var 3, .var 4] [] []))) [.ret (.con (.bl false))] []]) (held := [(q, [.int 0, .int 1, .int 2, .int 7])]) W.int
    (fun _ σ k => ∃ x, σ = [a0, a1, some (.loc l), some (sumW E rows outs), x, a5, a6, a7, a8, a9] ∧ Well k l ∧ k[q]? = some (.lst [.int 0, .int 1, .int 2, .int 7])) (fun _ _ _ ⟨_, _, _, q⟩ => by simp [heldOk, q]) [0, 1, 2, 7] (fun pre i post ep σ k ⟨x, e1, w, kq⟩ => by
      subst e1
      have hi : 0 ≤ i := by
        have : i ∈ [(0 : Int), 1, 2, 7] := by rw [ep]; simp
        simp at this
        omega
      obtain ⟨k2, e, w2, f2⟩ := far_ok s i ns m l k w hi
      refine ⟨[a0, a1, some (.loc l), some (sumW E rows outs), some (.int i), a5, a6, a7, a8, a9], k2, .inl ?_, _, rfl, w2, f2.get kq (by simpa using hql)⟩
      unfold forF
      simp [e]) (σ := [a0, a1, some (.loc l), some (sumW E rows outs), a4, a5, a6, a7, a8, a9]) (h := h) ⟨_, rfl, w, hq⟩
  exact ⟨x, h', lp, w'⟩
theorem math : ∀ ns : List Int, ns.length ≤ 63 → (∀ z ∈ ns, PySem.Builtin.Int.intBits z ≤ 1048576) → callF gc ns 60 32 [.scr] [] = .ok (.bl true) [] := fun ns hl hn => by
  suffices hs : ∃ h2, runBody ⟨gc, ns, callF gc ns 59⟩ d32 [.scr] [] = .ok (.bl true) h2 by
    obtain ⟨h2, e⟩ := hs
    exact callF_flat [] (d := d32) rfl rfl rfl rfl e
  have ro : ∀ n : Int, n ≤ 63 → rngOk (if 2 < (if n < 6 then n else 6) then (if n < 6 then n else 6) else 2) = true := fun n hn => by
    apply rng_ok
    · split <;> omega
    · split <;> (try split) <;> omega
  have r1 := ro ns.length (by omega)
  obtain ⟨σ', h5, lp, a1, a2, a3, a4, a5, a6, a7, a8, a9, rfl⟩ := forLoop_inv (f := forF ⟨gc, ns, callF gc ns 59⟩ (.nm 1) [.asg (.nm 2) (.call 20 [.var 0, .var 1] [] []), .asg (.nm 3) (.call 25 [.var 2, .bin .add (.con (.int 1)) (.call 21 [.var 2, .con (.int 3)] [] []), .con (.int 5)] [] []), .iff (.not (.val (.call 30 [.var 3] [] []))) [.ret (.con (.bl false))] [], .for_ (.nm 4) (.over (.lst [.con (.int 0), .con (.int 1), .con (.int 2), .con (.int 7)])) [.iff (.not (.val (.call 31 [.var 2, .var 3, .var 4] [] []))) [.ret (.con (.bl false))] []], .asg (.nm 5) (.sub (.var 3) (.con (.int 0))), .asg (.nm 6) (.lst [.tup [.con (.int 0), .lst [.var 3, .neg (.con (.int 1)), .con .non], .tup [.con (.str "number"), .con .non]], .tup [.con (.int 0), .lst [.var 3, .con (.bl true), .con (.int 0)], .tup [.con (.str "number"), .con .non]], .tup [.con (.int 0), .lst [.var 3, .con (.int 0), .neg (.con (.int 1))], .tup [.con (.str "number"), .con .non]]]), .asg (.nm 6) (.bin .add (.var 6) (.lst [.tup [.con (.int 0), .lst [.var 3, .con (.int 0), .con (.str "1")], .tup [.con (.str "number"), .con .non]], .tup [.con (.int 0), .lst [.var 3, .con (.int 5), .bin .pow (.con (.int 10)) (.con (.int 20))], .tup [.con (.str ""), .con .non]], .tup [.con (.int 1), .lst [.var 3, .tup [.con (.int 0), .var 5]], .tup [.con (.str "log"), .con (.int 1)]]])), .asg (.nm 6) (.bin .add (.var 6) (.lst [.tup [.con (.int 1), .lst [.var 3, .lst [.con (.int 0)]], .tup [.con (.str "log"), .neg (.con (.int 1))]], .tup [.con (.int 1), .lst [.var 3, .tup [.con (.bl true)]], .tup [.con (.str "log"), .con (.int 0)]], .tup [.con (.int 1), .lst [.var 3, .tup [.con (.int 0), .con (.int 0)]], .tup [.con (.str ""), .con .non]]])), .iff (.val (.cmp .ne (.comp [("which", 7), ("a", 8), ("due", 9)] (.tp [.nm 7, .nm 8, .nm 9]) (.over (.var 6)) [.val (.cmp .ne (.call 29 [.var 7, .var 8] [] []) (.var 9))] (.con (.int 1))) (.lst []))) [.ret (.con (.bl false))] []]) (held := [])
    (fun n σ k => ∃ a1 a2 a3 a4 a5 a6 a7 a8 a9, σ = [some .scr, a1, a2, a3, a4, a5, a6, a7, a8, a9])
    (rngW 0 (if 2 < (if (ns.length : Int) < 6 then (ns.length : Int) else 6) then (if (ns.length : Int) < 6 then (ns.length : Int) else 6) else 2)) 0 (fun i hi σ k ⟨a1, a2, a3, a4, a5, a6, a7, a8, a9, eσ⟩ => by
      subst eσ
      obtain ⟨v, ev, _⟩ := rngW_mem (List.getElem_mem hi)
      rw [ev]
      obtain ⟨l, h1, e1, w1, _⟩ := dug ns 58 v k hn
      obtain ⟨d, h2, d1, d2, e2, w2, _⟩ := dip ns 58 l 3 h1 (by decide) (by decide) w1
      obtain ⟨rows, outs, h3, s0, _, e3, w3, _, ho⟩ := summary ns 56 l (1 + d) 5 h2 (by omega) (by omega) (by decide) (by decide) w2
      obtain ⟨E, hE, s⟩ : ∃ E : Nat, 1 + d = E ∧ Sum E rows outs := by
        obtain ⟨E, hE, _⟩ := s0.nat
        exact ⟨E, hE, hE ▸ s0⟩
      rw [hE] at e3
      have nr := near_ok s ns 50 h3
      obtain ⟨h4, eh4⟩ : ∃ h4, h4 = h3 ++ [O.lst [.int 0, .int 1, .int 2, .int 7]] := ⟨_, rfl⟩
      have f4 : Fr [] h3 h4 := by rw [eh4]; exact Fr.app
      have g4 : h4[h3.length]? = some (.lst [.int 0, .int 1, .int 2, .int 7]) := by rw [eh4]; simp
      have w4 : Well h4 l := w3.fr f4 (by simp)
      have l3 := w3.lt
      obtain ⟨x4, h5, lf, w5⟩ := fars s ns 50 l h3.length h4 w4 g4 (by omega) (some .scr) (some (.int v)) a4 a5 a6 a7 a8 a9
      obtain ⟨K, eK⟩ : ∃ K, K = h5.length := ⟨_, rfl⟩
      obtain ⟨S, eS⟩ : ∃ S, S = sumW E rows outs := ⟨_, rfl⟩
      obtain ⟨T, eT⟩ : ∃ T, T = [O.lst [S, .int (-1), .non], .lst [S, .bl true, .int 0], .lst [S, .int 0, .int (-1)], .lst (rows3 K), .lst [S, .int 0, .str "1"], .lst [S, .int 5, .int 100000000000000000000], .lst [S, .tup [.int 0, .int E]],
        .lst (rows6 K), .lst (rows3 K ++ rows6 K), .lst [.int 0], .lst [S, .loc (K + 9)], .lst [S, .tup [.bl true]], .lst [S, .tup [.int 0, .int 0]], .lst (rows9 K), .lst (rows3 K ++ rows6 K ++ rows9 K)] := ⟨_, rfl⟩
      obtain ⟨H, eH⟩ : ∃ H, H = h5 ++ T := ⟨_, rfl⟩
      have at_ : ∀ (i : Nat) (o : O), T[i]? = some o → H[K + i]? = some o := fun i o hi => by rw [eH, eK, get_appi, hi]
      have at0 := at_ 0 _ (by rw [eT]; rfl)
      rw [Nat.add_zero] at at0
      have at1 := at_ 1 _ (by rw [eT]; rfl)
      have at2 := at_ 2 _ (by rw [eT]; rfl)
      have at4 := at_ 4 _ (by rw [eT]; rfl)
      have at5 := at_ 5 _ (by rw [eT]; rfl)
      have at6 := at_ 6 _ (by rw [eT]; rfl)
      have at9 := at_ 9 _ (by rw [eT]; rfl)
      have at10 := at_ 10 _ (by rw [eT]; rfl)
      have at11 := at_ 11 _ (by rw [eT]; rfl)
      have at12 := at_ 12 _ (by rw [eT]; rfl)
      have at14 := at_ 14 _ (by rw [eT]; rfl)
      have rw1 := rows_ok (ns := ns) s ho 50 K H (some .scr) (some (.int v)) (some (.loc l)) (some S) x4 (some (.int E)) a7 a8 a9 (by rw [← eS]; exact at0) (by rw [← eS]; exact at1) (by rw [← eS]; exact at2) (by rw [← eS]; exact at4) (by rw [← eS]; exact at5) (by rw [← eS]; exact at6) at9 (by rw [← eS]; exact at10) (by rw [← eS]; exact at11) (by rw [← eS]; exact at12) at14
      rw [eT] at eH
      clear at_ at0 at1 at2 at4 at5 at6 at9 at10 at11 at12 at14 eT
      subst eK
      simp [rows3, rows6, rows9] at eH
      have ne := ne_empty (h := H ++ [O.lst [], O.lst []]) (a := H.length) (b := H.length + 1) (by simp) (by simp)
      refine ⟨[some .scr, some (.int v), some (.loc l), some S, x4, some (.int E), some (.loc (h5.length + 14)), a7, a8, a9], H ++ [O.lst [], O.lst []], .inl ?_, _, _, _, _, _, _, _, _, _, rfl⟩
      have s0 := fun g h => sum_0 g E rows outs h
      rw [← eS] at e3 nr lf s0
      unfold forF
      simp
      rw [ss_cons']
      simp [e1]
      rw [ss_cons']
      simp [e2, hE, e3]
      rw [ss_cons']
      simp [nr]
      rw [ss_cons']
      simp [szOk]
      rw [← eh4]
      simp [overW, g4, lf]
      rw [ss_cons']
      simp [s0]
      rw [ss_cons']
      simp [szOk, Nat.add_assoc]
      rw [ss_cons']
      have pw : powOk 10 20 = true := by decide
      simp [szOk, pw, Nat.add_assoc]
      rw [ss_cons']
      simp [szOk, Nat.add_assoc]
      rw [← eH]
      simp at rw1 ne
      simp [rw1, ne, szOk]) (fun _ _ _ _ => rfl) [some .scr, none, none, none, none, none, none, none, none, none] [] ⟨_, _, _, _, _, _, _, _, _, rfl⟩
  simp only [runBody, d32, startA]
  rw [ss_cons']
  simp [r1, lp]
end Law
open PySem PySem.W PySem.Calls PyProof.Rows
theorem PySem.Challenge.cw_arrivesalike_k82_logs_by_their_numbers_holds : PySem.Challenge.rw_arrivesalike_k82_logs_by_their_numbers.Holds := by
  w_on; o_law
  refine HandSHeadRun.head_any (r := OpenLaw.row PySem.Challenge.rw_arrivesalike_k82_logs_by_their_numbers) (q := view (OpenLaw.row PySem.Challenge.rw_arrivesalike_k82_logs_by_their_numbers).prog [39]) (H := Law.hk) (ob := Law.ob) (M := 4000) (loose := Law.loose) (d := HandSHeadRun.topDef (OpenLaw.row PySem.Challenge.rw_arrivesalike_k82_logs_by_their_numbers).prog 39)
    (kwd := []) Law.ob_eq (by kernel_rfl) (fun s => by kernel_rfl) Law.run (by kernel_rfl) (by kernel_rfl) (by kernel_rfl) (by rfl) (by first | assumption | decide +kernel) (by decide +kernel) ⟨rfl, rfl, rfl, rfl, rfl, by decide +kernel⟩ ?hw ?hc
  case hw => w_witness2
  case hc =>
    refine AM.walk_ofG (l := PySem.Challenge.rw_arrivesalike_k82_logs_by_their_numbers) (n := 63) (k := 3 * 60) (x := "script") rfl (by decide) (by kernel_rfl) ⟨rfl, by decide, by decide⟩ ?F (fun _ _ _ _ _ z => AM.cx_false z)
    intro w mg fa h Y G hmg0
    obtain ⟨K, KX, c⟩ := Y
    have hmg : mg ("law" : PySem.Str) = some (.ref fa) := by
      have e : (HandSHeadRun.topDef (OpenLaw.row PySem.Challenge.rw_arrivesalike_k82_logs_by_their_numbers).prog 39).name = ("law" : PySem.Str) := by kernel_rfl
      rw [← e]
      exact hmg0
    exact ⟨K, KX, AM.lawAt (T := Law.T) (f := 32) (d := Law.d32) KX G c Law.dall (by decide +kernel) rfl rfl (by decide +kernel) hmg Law.math⟩
