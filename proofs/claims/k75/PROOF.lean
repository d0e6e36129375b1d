import PyProof.Rows.All
import HandS.Deep
import HandS.Defaults
import HandS.EndTab
import HandS.ExcIs
import HandS.ExcOwn
import HandS.ForExc
import HandS.ForMost
import HandS.Head0
import HandS.Head1
import HandS.Head2
import HandS.HeadEnd
import HandS.HeadHook1
import HandS.HeadHook2
import HandS.HeadWalk
import HandS.IsInst
import HandS.List
import HandS.MakeKw
import HandS.Property
import HandS.RaiseMore
import HandS.SortInts
import HandS.TupAny
import HandS.TupLe
import HandS.TupMul
import HandS.Walk
import HandS.Wide
import HandS.Zip
import KE.GoesEnum
import KE.KStateDown
import OpenK.AllK
import PyProof.EqLayable
import PyProof.ExcBaseAll.ValueError
import PyProof.P3Statements
import PyProof.ReprLen
import PyProof.ReprReads
import PyProof.ReprRoads
import PySem.PyData
import PySem.Syntax
import Wide.All
import Wide.FinOn
import PySem.Challenge.RW_arrivesalike_k75_programs_by_own_runs
set_option Elab.async false
set_option linter.all false
set_option maxRecDepth 100000
set_option maxHeartbeats 4000000
namespace AH
open PySem PySem.Spec PyProof.Rows L2 He
/-- a def with its address by a path -/
structure DefP where
  adr : PySem.W.Frag → Addr
  name : Str
  qual : Str
  params : Arguments
  body : List Stmt
  scope : Scope
def DefP.of (adr : PySem.W.Frag → Addr) (name qual : Str) (st : Stmt) : DefP := ⟨adr, name, qual, defArgs st, defBody st, defScope st⟩
def fnP (K : PySem.W.Frag) (a : Addr) : FnV := match K.lookup a with
  | some ⟨_, _, .func fd, _⟩ => some (fd.name, fd.qualname, fd.params, fd.body, fd.scope, fd.globals, fd.closure, fd.defaults, fd.builtins)
  | _ => none
def DefP.val (d : DefP) : FnV := some (d.name, d.qual, d.params, .stmts d.body, d.scope, mainGlobals, [], .none, builtinsNs)
def DefP.ok (K : PySem.W.Frag) (d : DefP) : Bool := PySem.W.keepIn K (.ref (d.adr K)) && (match K.lookup (d.adr K) with
  | some ⟨_, _, .func fd, _⟩ => PySem.W.codeIn K fd.code d.qual
  | _ => false)
structure FunP (K : PySem.W.Frag) (d : DefP) (f : Addr) (fd : FuncData) : Prop where
  ex : ∃ (oc : Value) (od : Option Addr) (kV doc pm : Value) (an : Option Addr) (cdv ct : Value) (osl : Array (Option Value)),
    fd = PySem.W.fnOf d.name d.qual d.params d.body d.scope .none kV doc pm an cdv ct ∧ K.lookup f = some ⟨oc, od, .func fd, osl⟩ ∧ PySem.W.codeIn K cdv d.qual = true
  kp : PySem.W.keepIn K (.ref f) = true
theorem DefP.funP {K : PySem.W.Frag} {d : DefP} (e : fnP K (d.adr K) = d.val) (c : d.ok K = true) : ∃ fd, FunP K d (d.adr K) fd := by
  obtain ⟨kp, c2⟩ := ba c
  unfold fnP at e
  cases q : K.lookup (d.adr K) with
  | none =>
    rw [q] at c2
    cases c2
  | some o =>
    obtain ⟨oc, od, dt, osl⟩ := o
    rw [q] at c2 e
    cases dt with
    | func fd =>
      obtain ⟨n1, n2, n3, n4, n5, n6, n7, n8, n9, n10, n11, n12, n13, n14, n15⟩ := fd
      have e2 : (some (n1, n2, n3, n4, n5, n6, n7, n8, n15) : FnV) = some (d.name, d.qual, d.params, .stmts d.body, d.scope, mainGlobals, [], .none, builtinsNs) := e
      simp only [Option.some.injEq, Prod.mk.injEq] at e2
      obtain ⟨h1, h2, h3, h4, h5, h6, h7, h8, h9⟩ := e2
      subst h1 h2 h3 h4 h5 h6 h7 h8 h9
      exact ⟨_, ⟨oc, od, n9, n10, n11, n12, n13, n14, osl, rfl, q, c2⟩, kp⟩
    | _ => cases c2
/-! properties -/
def prA (K : PySem.W.Frag) (C f : Str) : Addr := ma K (ga K C) f
def pgA (K : PySem.W.Frag) (C f : Str) : Addr := match PySem.W.recIn K (prA K C f) "property" with
  | some (.ref g :: _) => g
  | _ => 0
def propB (C f : Str) (K : PySem.W.Frag) : Bool := eqO (PySem.W.findIn K (.ref (ga K C)) f) (some (some (.ref (prA K C f)))) &&
  (eqO (PySem.W.specialIn K (.ref (prA K C f)) "__get__") (some (some (.builtin "property.__get__"))) && (decide (PySem.W.takesIn K (.ref (prA K C f)) = some true) &&
  (match PySem.W.recIn K (prA K C f) "property" with
   | some (.ref _ :: _) => true
   | _ => false)))
theorem propB_ok {C f : Str} {K : PySem.W.Frag} (h : propB C f K = true) : PropOf K (ga K C) f (prA K C f) (pgA K C f) := by
  obtain ⟨h1, h⟩ := ba h
  obtain ⟨h2, h⟩ := ba h
  obtain ⟨h3, h4⟩ := ba h
  refine ⟨eqO_ok h1, eqO_ok h2, of_decide_eq_true h3, ?_⟩
  unfold pgA
  revert h4
  split
  · rename_i g r e
    intro _
    rw [e]
    exact ⟨r, rfl⟩
  · intro z; cases z
/-! the hook -/
abbrev AlP : Type := Bool × List FnV
def obsP (fa : PySem.W.Frag → Bool) (fn : List DefP) (K : PySem.W.Frag) : AlP := (fa K && fn.all fun d => d.ok K, fn.map fun d => fnP K (d.adr K))
def valP (fn : List DefP) : AlP := (true, fn.map DefP.val)
def SaysP (fa : PySem.W.Frag → Bool) (fn : List DefP) (K : PySem.W.Frag) : Prop := obsP fa fn K = valP fn
def obsPG (n : Nat) (fa : PySem.W.Frag → Bool) (fn : List DefP) (g : Addr → Option Obj) : AlP := obsP fa fn (frG g (asD g n))
def hookP (n : Nat) (fa : PySem.W.Frag → Bool) (fn : List DefP) : PySem.W.Hook where
  α := AlP
  obs := fun s => obsPG n fa fn s.heap.get?
  val := fun _ => valP fn
  says := fun _ h => ∃ K : PySem.W.Frag, K.In h ∧ SaysP fa fn K
  of := fun _ _ e => ⟨_, frG_in, e⟩
  keeps := fun _ _ _ ⟨K, hK, c⟩ k => ⟨K, PySem.W.Frag.In.keeps hK k, c⟩
theorem obsPG_eq {n : Nat} {fa : PySem.W.Frag → Bool} {fn : List DefP} {g : Addr → Option Obj} {s : Shared} (h : ∀ a, g a = s.heap.get? a) : obsPG n fa fn g = (hookP n fa fn).obs s := by
  have e : g = s.heap.get? := funext h
  rw [e] <;> rfl
section
variable {fa : PySem.W.Frag → Bool} {fn : List DefP} {K : PySem.W.Frag}
theorem SaysP.fact (c : SaysP fa fn K) : fa K = true := (ba (show (fa K && fn.all fun d => d.ok K) = true from congrArg (fun z : AlP => z.1) c)).1
theorem SaysP.def_ (c : SaysP fa fn K) (i : Nat) {d : DefP} (h : fn[i]? = some d := by rfl) : ∃ fd, FunP K d (d.adr K) fd := by
  have c2 := (ba (show (fa K && fn.all fun d => d.ok K) = true from congrArg (fun z : AlP => z.1) c)).2
  have e : fn.map (fun d => fnP K (d.adr K)) = fn.map DefP.val := congrArg (fun z : AlP => z.2) c
  have e2 : (fn.map fun d => fnP K (d.adr K))[i]? = (fn.map DefP.val)[i]? := by rw [e]
  rw [List.getElem?_map, List.getElem?_map, h] at e2
  exact DefP.funP (Option.some.inj e2) (List.all_eq_true.mp c2 d (List.mem_of_getElem? h))
end
end AH
/-! The abstract machine: values without addresses for tuples, a heap of lists and instances by number, an interpreter of a small core. -/
namespace AM
open PySem

inductive W where
  | non | bl (b : Bool) | int (i : Int) | str (s : Str) | tup (ws : List W) | loc (l : Nat) | exo (c : Nat) (xs : List Str) (ws : List W) | scr

mutual
def W.beq : W → W → Bool
  | .non, .non => true
  | .bl a, .bl b => a == b
  | .int i, .int j => i == j
  | .str x, .str y => decide (x = y)
  | .tup xs, .tup ys => W.beqs xs ys
  | .loc l, .loc m => l == m
  | .exo c fs xs, .exo d gs ys => c == d && decide (fs = gs) && W.beqs xs ys
  | .scr, .scr => true
  | _, _ => false
def W.beqs : List W → List W → Bool
  | [], [] => true
  | x :: xs, y :: ys => W.beq x y && W.beqs xs ys
  | _, _ => false
end
mutual
theorem W.eq_of_beq : ∀ (x y : W), W.beq x y = true → x = y
  | .non, y, h => by cases y <;> simp_all [W.beq]
  | .bl a, y, h => by cases y <;> simp_all [W.beq]
  | .int a, y, h => by cases y <;> simp_all [W.beq]
  | .str a, y, h => by cases y <;> simp_all [W.beq]
  | .loc a, y, h => by cases y <;> simp_all [W.beq]
  | .exo a b xs, y, h => by
    cases y with
    | exo c d ys =>
      simp only [W.beq, Bool.and_eq_true, beq_iff_eq, decide_eq_true_eq] at h
      rw [h.1.1, h.1.2, W.eqs_of_beqs xs ys h.2]
    | _ => simp [W.beq] at h
  | .scr, y, h => by cases y <;> simp_all [W.beq]
  | .tup xs, y, h => by
    cases y with
    | tup ys => rw [W.eqs_of_beqs xs ys (by simpa [W.beq] using h)]
    | _ => simp [W.beq] at h
theorem W.eqs_of_beqs : ∀ (xs ys : List W), W.beqs xs ys = true → xs = ys
  | [], [], _ => rfl
  | x :: xs, y :: ys, h => by
    simp only [W.beqs, Bool.and_eq_true] at h
    rw [W.eq_of_beq x y h.1, W.eqs_of_beqs xs ys h.2]
  | [], _ :: _, h => by simp [W.beqs] at h
  | _ :: _, [], h => by simp [W.beqs] at h
end
mutual
theorem W.beq_self : ∀ x : W, W.beq x x = true
  | .non | .bl _ | .int _ | .str _ | .loc _ | .scr => by simp [W.beq]
  | .exo _ _ xs => by simp [W.beq, W.beqs_self xs]
  | .tup xs => by simp [W.beq, W.beqs_self xs]
theorem W.beqs_self : ∀ xs : List W, W.beqs xs xs = true
  | [] => rfl
  | x :: xs => by simp [W.beqs, W.beq_self x, W.beqs_self xs]
end
instance : DecidableEq W := fun x y => if h : W.beq x y = true then isTrue (W.eq_of_beq x y h) else isFalse fun e => h (e ▸ W.beq_self x)

/-! no place of the heap within -/
mutual
def W.flat : W → Bool
  | .tup ws => W.flats ws
  | .loc _ => false
  | .exo _ _ _ => false
  | _ => true
def W.flats : List W → Bool
  | [] => true
  | w :: ws => W.flat w && W.flats ws
end
mutual
def W.shift (n : Nat) : W → W
  | .tup ws => .tup (W.shifts n ws)
  | .loc l => .loc (l + n)
  | w => w
def W.shifts (n : Nat) : List W → List W
  | [] => []
  | w :: ws => W.shift n w :: W.shifts n ws
end

inductive O where
  | lst (ws : List W)
  | ins (c : Nat) (fs : List (Str × W))
  | dic (kvs : List (W × W))
deriving DecidableEq
abbrev AH := List O
def O.shift (n : Nat) : O → O
  | .lst ws => .lst (W.shifts n ws)
  | .ins c fs => .ins c (fs.map fun p => (p.1, p.2.shift n))
  | .dic kvs => .dic (kvs.map fun p => (p.1.shift n, p.2.shift n))

inductive Res (α : Type) where
  | ok (a : α) (h : AH)
  | exc (c : Nat) (xs : List Str) (ws : List W) (h : AH)
  | stuck
def Res.bind {α β : Type} (r : Res α) (f : α → AH → Res β) : Res β := match r with
  | .ok a h => f a h
  | .exc c xs ws h => .exc c xs ws h
  | .stuck => .stuck
@[simp] theorem Res.bind_ok {α β : Type} (a : α) (h : AH) (f : α → AH → Res β) : (Res.ok a h).bind f = f a h := Eq.trans rfl rfl
@[simp] theorem Res.bind_exc {α β : Type} (c xs ws h) (f : α → AH → Res β) : (Res.exc c xs ws h : Res α).bind f = .exc c xs ws h := Eq.trans rfl rfl
@[simp] theorem Res.bind_stuck {α β : Type} (f : α → AH → Res β) : (Res.stuck : Res α).bind f = .stuck := Eq.trans rfl rfl

abbrev St := List (Option W)
inductive Out where
  | next (σ : St) (h : AH)
  | ret (w : W) (h : AH)
  | brk (σ : St) (h : AH)
  | cont (σ : St) (h : AH)
  | exc (c : Nat) (xs : List Str) (ws : List W) (σ : St) (h : AH)
  | stuck
def Out.seq (o : Out) (f : St → AH → Out) : Out := match o with
  | .next σ h => f σ h
  | o => o
@[simp] theorem Out.seq_next (σ h) (f : St → AH → Out) : (Out.next σ h).seq f = f σ h := Eq.trans rfl rfl
@[simp] theorem Out.seq_ret (w h) (f : St → AH → Out) : (Out.ret w h).seq f = .ret w h := Eq.trans rfl rfl
@[simp] theorem Out.seq_brk (σ h) (f : St → AH → Out) : (Out.brk σ h).seq f = .brk σ h := Eq.trans rfl rfl
@[simp] theorem Out.seq_cont (σ h) (f : St → AH → Out) : (Out.cont σ h).seq f = .cont σ h := Eq.trans rfl rfl
@[simp] theorem Out.seq_exc (c xs ws σ h) (f : St → AH → Out) : (Out.exc c xs ws σ h).seq f = .exc c xs ws σ h := Eq.trans rfl rfl
@[simp] theorem Out.seq_stuck (f : St → AH → Out) : Out.stuck.seq f = .stuck := Eq.trans rfl rfl
/-- an expression's result, then a statement's -/
def Res.then {α : Type} (r : Res α) (σ : St) (f : α → AH → Out) : Out := match r with
  | .ok a h => f a h
  | .exc c xs ws h => .exc c xs ws σ h
  | .stuck => .stuck
@[simp] theorem Res.then_ok {α : Type} (a : α) (h σ) (f : α → AH → Out) : (Res.ok a h).then σ f = f a h := Eq.trans rfl rfl
@[simp] theorem Res.then_exc {α : Type} (c xs ws h σ) (f : α → AH → Out) : (Res.exc c xs ws h : Res α).then σ f = .exc c xs ws σ h := Eq.trans rfl rfl
@[simp] theorem Res.then_stuck {α : Type} (σ) (f : α → AH → Out) : (Res.stuck : Res α).then σ f = .stuck := Eq.trans rfl rfl

/-! ### the core -/
inductive Bop where | add | sub | mul | fdiv | mod | pow
deriving DecidableEq
inductive Cop where | eq | ne | lt | le | gt | ge | isn | isnt | in_ | nin
deriving DecidableEq
inductive Prim where
  | len | int | abs | str | repr | max2 | min2 | tuple | list | isi (ts : List String) (cs : List Nat)
  | all | any | sum | min | max | sorted | sortedSet | lenSet
deriving DecidableEq
inductive Bm where | append | extend | pop0 | pop1 | index | count | get1 | get2 | setdefault | join | split1
deriving DecidableEq
mutual
inductive C where
  | var (i : Nat)
  | con (w : W)
  | glo (x : Str) (w : W)
  | bin (op : Bop) (a b : C)
  | neg (a : C)
  | cmp (op : Cop) (a b : C)
  | not (a : C)
  | and (cs : List C)
  | or (cs : List C)
  | ife (t : T) (a b : C)
  | sub (a i : C)
  | slc (a : C) (lo hi : List C)
  | tup (cs : List C)
  | lst (cs : List C)
  | call (f : Nat) (cs : List C) (ks : List Str) (kcs : List C)
  | new (c : Nat) (cs : List C) (ks : List Str) (kcs : List C)
  | meth (m : Str) (o : C) (cs : List C) (ks : List Str) (kcs : List C)
  | attr (o : C) (x : Str)
  | prim (p : Prim) (cs : List C)
  | primc (p : Prim) (c : C)
  | bm (m : Bm) (o : C) (cs : List C)
  | bmc (m : Bm) (o : C) (c : C)
  | comp (own : List (Str × Nat)) (tg : Tg) (it : It) (ifs : List T) (elt : C)
inductive T where
  | val (c : C)
  | not (t : T)
  | and (ts : List T)
  | or (ts : List T)
inductive Tg where
  | nm (i : Nat)
  | tp (ts : List Tg)
  | sub (o i : C)
  | attr (o : C) (x : Str)
inductive It where
  | over (c : C)
  | rng (cs : List C)
  | enum (c : C)
  | zip (a b : C)
end
inductive Hd where
  | keep (c : Nat) (e y : Nat)
deriving DecidableEq
inductive S where
  | asg (t : Tg) (e : C)
  | aug (t : Tg) (op : Bop) (e : C)
  | iff (t : T) (a b : List S)
  | for_ (t : Tg) (it : It) (b : List S)
  | whl (t : T) (b : List S)
  | ret (e : C)
  | retn
  | raise (c : Nat) (fs : List Str) (cs : List C)
  | try_ (b : List S) (h : Hd)
  | ex (e : C)
  | pass | brk | cont | never

structure DefC where
  ps : List Str
  ns : List Str
  body : List S
structure ClsC where
  init : Nat
  meths : List (Str × Nat)
  props : List (Str × Nat)
  flds : List Str
structure Gc where
  defs : List DefC
  clss : List (Nat × ClsC)
  kws : List (Nat × Nat × List Str)
  excs : List (Nat × List Nat)
  rais : List Nat
  lim : Nat
/-- is the exception class c the class d or under it -/
def Gc.exm (gc : Gc) (c d : Nat) : Option Bool := match gc.excs.lookup c, gc.excs.lookup d with
  | some ds, some _ => some (ds.contains d)
  | _, _ => none

/-! ### values -/
def bigI (i : Int) : Nat := i.natAbs.log2
def mulOk (i j : Int) : Bool := decide (i.natAbs < 2 ^ 64) || decide (j.natAbs < 2 ^ 64) || decide (bigI i + bigI j < 1000000)
def fdivOk (j : Int) : Bool := decide (0 < j) && decide (bigI j < 9000)
def powOk (i n : Int) : Bool := decide (0 ≤ n) && decide ((bigI i + 1 : Int) * n ≤ 134217728)
def szOk (n : Nat) : Bool := decide (n ≤ 1000000)
/-! a tuple, a list as data -/
mutual
def toDf : W → Option PyData
  | .non => some .none
  | .bl b => some (.bool b)
  | .int i => some (.int i)
  | .str s => some (.str s)
  | .tup ws => (toDfs ws).map .tuple
  | _ => none
def toDfs : List W → Option (List PyData)
  | [] => some []
  | w :: ws => match toDf w, toDfs ws with
    | some d, some ds => some (d :: ds)
    | _, _ => none
end
def toD (h : AH) (w : W) : Option PyData := match w with
  | .loc l => (match h[l]? with
    | some (.lst ws) => (toDfs ws).map .list
    | _ => none)
  | w => toDf w
end AM
/-! The interpreter of the core. -/
namespace AM
open PySem

/-! ### on values -/
def shp (d : PyData) : Bool := SeqAt.shaped d
def eqD (h : AH) (x y : W) : Option Bool := match toD h x, toD h y with
  | some d, some e => if shp d && shp e then some (PyData.eqv d e) else none
  | _, _ => none
def eqW (h : AH) (x y : W) : Option Bool := match x, y with
  | .str a, .str b => some (decide (a = b))
  | x, y => eqD h x y
def lexW : List W → List W → Option Bool
  | [], [] => some false
  | [], _ :: _ => some true
  | _ :: _, [] => some false
  | .int a :: r, .int b :: s => if a = b then lexW r s else some (decide (a < b))
  | _, _ => none
def repOk (n : Nat) (k : Int) : Bool := decide (n ≤ 1000) && decide (0 ≤ k) && decide (k ≤ 1000)
def binW (op : Bop) (x y : W) (h : AH) : Res W := match op, x, y with
  | .add, .int i, .int j => .ok (.int (i + j)) h
  | .add, .str a, .str b => if szOk (a.length + b.length) then .ok (.str (a ++ b)) h else .stuck
  | .add, .tup a, .tup b => if szOk (a.length + b.length) then .ok (.tup (a ++ b)) h else .stuck
  | .add, .loc l, .loc m => (match h[l]?, h[m]? with
    | some (.lst a), some (.lst b) => if szOk (a.length + b.length) then .ok (.loc h.length) (h ++ [.lst (a ++ b)]) else .stuck
    | _, _ => .stuck)
  | .sub, .int i, .int j => .ok (.int (i - j)) h
  | .mul, .int i, .int j => if mulOk i j then .ok (.int (i * j)) h else .stuck
  | .mul, .tup a, .int k => if repOk a.length k then .ok (.tup (List.replicate k.toNat a).flatten) h else .stuck
  | .mul, .loc l, .int k => (match h[l]? with
    | some (.lst a) => if repOk a.length k then .ok (.loc h.length) (h ++ [.lst (List.replicate k.toNat a).flatten]) else .stuck
    | _ => .stuck)
  | .fdiv, .int i, .int j => if fdivOk j then .ok (.int (i / j)) h else .stuck
  | .mod, .int i, .int j => if 0 < j then .ok (.int (i % j)) h else .stuck
  | .pow, .int i, .int j => if powOk i j then .ok (.int (i ^ j.toNat)) h else .stuck
  | _, _, _ => .stuck
/-- x op= y for values that never change -/
def augW (op : Bop) (x y : W) : Option W := match op, x, y with
  | .add, .int i, .int j => some (.int (i + j))
  | .sub, .int i, .int j => some (.int (i - j))
  | _, _, _ => none
def optR (o : Option Bool) (f : Bool → Bool) (h : AH) : Res W := match o with
  | some b => .ok (.bl (f b)) h
  | none => .stuck
def scalW : W → Bool
  | .non => true
  | .bl _ => true
  | .int _ => true
  | .str _ => true
  | _ => false
/-- a constant of the module -/
def gloW : W → Bool
  | .tup ws => ws.all scalW
  | w => scalW w
/-- x in y -/
def inData (x : W) (ws : List W) : Option Bool := match toDf x, toDfs ws with
  | some d, some ds => if shp d && shp (.list ds) then some (ds.any fun z => PyData.eqv z d) else none
  | _, _ => none
def inW (h : AH) (x y : W) : Option Bool := match y with
  | .tup ws => if scalW x && ws.all scalW then inData x ws else none
  | .loc l => (match h[l]? with
    | some (.lst ws) => inData x ws
    | _ => none)
  | _ => none
def isW (x y : W) : Option Bool := match x, y with
  | x, .non => some (decide (x = .non))
  | .bl a, .bl b => some (decide (a = b))
  | _, _ => none
def cmpW (op : Cop) (x y : W) (h : AH) : Res W := match op with
  | .eq => optR (eqW h x y) id h
  | .ne => optR (eqW h x y) not h
  | .lt => (match x, y with
    | .int i, .int j => .ok (.bl (decide (i < j))) h
    | _, _ => .stuck)
  | .le => (match x, y with
    | .int i, .int j => .ok (.bl (decide (i ≤ j))) h
    | _, _ => .stuck)
  | .gt => (match x, y with
    | .int i, .int j => .ok (.bl (decide (j < i))) h
    | _, _ => .stuck)
  | .ge => (match x, y with
    | .int i, .int j => .ok (.bl (decide (j ≤ i))) h
    | _, _ => .stuck)
  | .isn => optR (isW x y) id h
  | .isnt => optR (isW x y) not h
  | .in_ => optR (inW h x y) id h
  | .nin => optR (inW h x y) not h
/-- truth -/
def truW (h : AH) (x : W) : Option Bool := match x with
  | .non => some false
  | .bl b => some b
  | .int i => some (i != 0)
  | .tup ws => some (!ws.isEmpty)
  | .loc l => (match h[l]? with
    | some (.lst ws) => some (!ws.isEmpty)
    | _ => none)
  | _ => none
def ixN (n : Nat) (i : Int) : Option Nat := L2.ixN n i
def subW (x i : W) (h : AH) : Res W := match x, i with
  | .tup ws, .int k => (match L2.atI ws k with
    | some w => .ok w h
    | none => .stuck)
  | .loc l, .int k => (match h[l]? with
    | some (.lst ws) => (match L2.atI ws k with
      | some w => .ok w h
      | none => .stuck)
    | _ => .stuck)
  | _, _ => .stuck
/-- the script's items are read by a function of their own -/
def subS (ns : List Int) (i : W) (h : AH) : Res W := match i with
  | .int k => (match L2.atI ns k with
    | some n => .ok (.int n) h
    | none => .stuck)
  | _ => .stuck
def cutW {α : Type} (xs : List α) (lo hi : Option Int) : List α := (xs.drop (HT.sIx xs.length 0 lo)).take (HT.sIx xs.length xs.length hi - HT.sIx xs.length 0 lo)
def slcW (x : W) (lo hi : Option Int) (h : AH) : Res W := match x with
  | .tup ws => .ok (.tup (cutW ws lo hi)) h
  | .loc l => (match h[l]? with
    | some (.lst ws) => .ok (.loc h.length) (h ++ [.lst (cutW ws lo hi)])
    | _ => .stuck)
  | _ => .stuck
/-- of the script a new list is cut -/
def slcR (ns : List Int) (x : W) (lo hi : Option Int) (h : AH) : Res W := match x with
  | .scr => .ok (.loc h.length) (h ++ [.lst ((cutW ns lo hi).map .int)])
  | x => slcW x lo hi h
def typW (h : AH) (x : W) : Option String := match x with
  | .non => some "NoneType"
  | .bl _ => some "bool"
  | .int _ => some "int"
  | .str _ => some "str"
  | .tup _ => some "tuple"
  | .loc l => (match h[l]? with
    | some (.lst _) => some "list"
    | _ => none)
  | _ => none
def isiB (t : String) (k : String) : Bool := t == k || (t == "bool" && k == "int")
def kinds : List String := ["int", "bool", "str", "tuple", "list"]
def bools : List W → Option (List Bool)
  | [] => some []
  | .bl b :: ws => (bools ws).map (b :: ·)
  | _ => none
def intsOf : List W → Option (List Int)
  | [] => some []
  | .int i :: ws => (intsOf ws).map (i :: ·)
  | _ => none
/-- the numbers in order -/
def insI (i : Int) : List Int → List Int
  | [] => [i]
  | j :: r => if i ≤ j then i :: j :: r else j :: insI i r
def sortI : List Int → List Int
  | [] => []
  | i :: r => insI i (sortI r)
def maxI : Int → List Int → Int
  | m, [] => m
  | m, i :: r => maxI (if i > m then i else m) r
def minI : Int → List Int → Int
  | m, [] => m
  | m, i :: r => minI (if i < m then i else m) r
def sumI : List Int → Int
  | [] => 0
  | i :: r => i + sumI r
def seqL (p : Prim) (ws : List W) (h : AH) : Res W := match p, intsOf ws with
  | .sum, some is => .ok (.int is.sum) h
  | .max, some (i :: is) => .ok (.int (maxI i is)) h
  | .min, some (i :: is) => .ok (.int (minI i is)) h
  | .sorted, some is => .ok (.loc h.length) (h ++ [.lst ((sortI is).map .int)])
  | _, _ => .stuck
def strI (i : Int) : Option Str := if decide (i.natAbs.log2 < 1920) then some (Str.ofString (toString i)) else none
/-- repr of data -/
def reprD (d : PyData) : Option Str := if d.showable && !d.hasDict && decide (d.depth ≤ 60) && decide (d.shown.length ≤ sizeLine) then some d.shown else none
def reprW (h : AH) (x : W) : Option Str := match x with
  | .tup ws => (toDf (.tup ws)).bind reprD
  | .loc l => (toD h (.loc l)).bind reprD
  | .int i => strI i
  | _ => none
/-- the list of values behind all, any, sum .. -/
def primL (p : Prim) (ws : List W) (h : AH) : Res W := match p with
  | .tuple => .ok (.tup ws) h
  | .all => (match bools ws with
    | some bs => .ok (.bl (bs.all id)) h
    | none => .stuck)
  | .any => (match bools ws with
    | some bs => .ok (.bl (bs.any id)) h
    | none => .stuck)
  | p => seqL p ws h
structure Ev where
  gc : Gc
  sc : List Int
  cf : Nat → List W → AH → Res W
def primW (g : Ev) (p : Prim) (ws : List W) (h : AH) : Res W := match p, ws with
  | .len, [.tup xs] => .ok (.int xs.length) h
  | .len, [.loc l] => (match h[l]? with
    | some (.lst xs) => .ok (.int xs.length) h
    | _ => .stuck)
  | .len, [.scr] => .ok (.int g.sc.length) h
  | .int, [.int i] => .ok (.int i) h
  | .int, [.bl b] => .ok (.int (if b then 1 else 0)) h
  | .abs, [.int i] => .ok (.int (if i < 0 then -i else i)) h
  | .max2, [.int i, .int j] => .ok (.int (if j > i then j else i)) h
  | .min2, [.int i, .int j] => .ok (.int (if j < i then j else i)) h
  | .str, [.int i] => (match strI i with
    | some x => .ok (.str x) h
    | none => .stuck)
  | .str, [.str x] => .ok (.str x) h
  | .repr, [x] => (match reprW h x with
    | some y => .ok (.str y) h
    | none => .stuck)
  | .list, [.tup xs] => .ok (.loc h.length) (h ++ [.lst xs])
  | .list, [.loc l] => (match h[l]? with
    | some (.lst xs) => .ok (.loc h.length) (h ++ [.lst xs])
    | _ => .stuck)
  | .sum, [.loc l] => (match h[l]? with
    | some (.lst xs) => seqL .sum xs h
    | _ => .stuck)
  | .max, [.loc l] => (match h[l]? with
    | some (.lst xs) => seqL .max xs h
    | _ => .stuck)
  | .min, [.loc l] => (match h[l]? with
    | some (.lst xs) => seqL .min xs h
    | _ => .stuck)
  | .sorted, [.loc l] => (match h[l]? with
    | some (.lst xs) => seqL .sorted xs h
    | _ => .stuck)
  | .tuple, [.tup xs] => .ok (.tup xs) h
  | .tuple, [.loc l] => (match h[l]? with
    | some (.lst xs) => .ok (.tup xs) h
    | _ => .stuck)
  | .isi ts cs, [x] => (match x with
    | .exo c xs vs => (match ts, cs with
      | [], [d] => (match g.gc.exm c d with
        | some b => .ok (.bl b) h
        | none => .stuck)
      | _, _ => .stuck)
    | x => (match typW h x with
      | some t => if cs = [] then .ok (.bl (ts.any (isiB t))) h else .stuck
      | none => .stuck))
  | _, _ => .stuck
def bmW (m : Bm) (x : W) (ws : List W) (h : AH) : Res W := match m, x, ws with
  | .append, .loc l, [w] => (match h[l]? with
    | some (.lst xs) => if xs.length < 1000000 then .ok .non (h.set l (.lst (xs ++ [w]))) else .stuck
    | _ => .stuck)
  | .extend, .loc l, [.loc b] => (match h[l]?, h[b]? with
    | some (.lst xs), some (.lst ys) => if szOk (xs.length + ys.length) then .ok .non (h.set l (.lst (xs ++ ys))) else .stuck
    | _, _ => .stuck)
  | _, _, _ => .stuck
/-- l.extend([..]) -/
def bmL (m : Bm) (x : W) (ws : List W) (h : AH) : Res W := match m, x with
  | .extend, .loc l => (match h[l]? with
    | some (.lst xs) => if szOk (xs.length + ws.length) then .ok .non (h.set l (.lst (xs ++ ws))) else .stuck
    | _ => .stuck)
  | _, _ => .stuck
/-- l.pop() -/
def bm0 (m : Bm) (x : W) (h : AH) : Res W := match m, x with
  | .pop0, .loc l => (match h[l]? with
    | some (.lst xs) => (match xs[xs.length - 1]? with
      | some w => .ok w (h.set l (.lst xs.dropLast))
      | none => .stuck)
    | _ => .stuck)
  | _, _ => .stuck
/-- what a built-in method is asked of -/
def bmT (m : Bm) (x : W) (h : AH) : Bool := match m, x with
  | .append, .loc l => (match h[l]? with
    | some (.lst _) => true
    | _ => false)
  | .extend, .loc l => (match h[l]? with
    | some (.lst _) => true
    | _ => false)
  | .pop0, .loc l => (match h[l]? with
    | some (.lst _) => true
    | _ => false)
  | _, _ => false
def putA (f : Str) (v : W) : List (Str × W) → List (Str × W)
  | [] => [(f, v)]
  | (k, x) :: r => if k = f then (k, v) :: r else (k, x) :: putA f v r
def setA (g : Ev) (x : W) (f : Str) (v : W) (h : AH) : Res Unit := match x with
  | .loc l => (match h[l]? with
    | some (.ins c fs) => (match g.gc.clss.lookup c with
      | some cl => if decide (fs.length < 1000) && decide (f ∈ cl.flds) then .ok () (h.set l (.ins c (putA f v fs))) else .stuck
      | none => .stuck)
    | _ => .stuck)
  | _ => .stuck
def setI (x i v : W) (h : AH) : Res Unit := match x, i with
  | .loc l, .int k => (match h[l]? with
    | some (.lst xs) => (match L2.ixN xs.length k with
      | some j => .ok () (h.set l (.lst (xs.set j v)))
      | none => .stuck)
    | _ => .stuck)
  | _, _ => .stuck
/-- n positional values, then keywords: which of both stands at each parameter -/
def permOf (ps : List Str) (n : Nat) (ks : List Str) : Option (List Nat) :=
  if n + ks.length = ps.length then ((ps.drop n).mapM fun p => (ks.idxOf? p).map (n + ·)).map (List.range n ++ ·) else none
def pick {α : Type} (l : List α) : List Nat → Option (List α)
  | [] => some []
  | i :: is => match l[i]?, pick l is with
    | some x, some r => some (x :: r)
    | _, _ => none
def callW (g : Ev) (f : Nat) (ws : List W) (ks : List Str) (kws : List W) (h : AH) : Res W := match ks with
  | [] => (match kws with
    | [] => g.cf f ws h
    | _ => .stuck)
  | _ => (match g.gc.defs[f]? with
    | some d => if decide (kws.length = ks.length) && decide ((f, ws.length, ks) ∈ g.gc.kws) then (match (permOf d.ps ws.length ks).bind (pick (ws ++ kws)) with
      | some vs => g.cf f vs h
      | none => .stuck) else .stuck
    | none => .stuck)
def toNoExc {α : Type} (r : Res α) : Res α := match r with
  | .exc _ _ _ _ => .stuck
  | r => r
def newW (g : Ev) (c : Nat) (ws : List W) (ks : List Str) (kws : List W) (h : AH) : Res W := match g.gc.clss.lookup c with
  | some cl => (callW g cl.init (.loc h.length :: ws) ks kws (h ++ [.ins c []])).bind fun w h2 => if w = .non then .ok (.loc h.length) h2 else .stuck
  | none => .stuck
def methL (g : Ev) (m : Str) (x : W) (h : AH) : Option Nat := match x with
  | .loc l => (match h[l]? with
    | some (.ins c fs) => (match g.gc.clss.lookup c with
      | some cl => (match fs.lookup m with
        | none => cl.meths.lookup m
        | some _ => none)
      | none => none)
    | _ => none)
  | _ => none
def attrW (g : Ev) (x : W) (f : Str) (h : AH) : Res W := match x with
  | .loc l => (match h[l]? with
    | some (.ins c fs) => (match g.gc.clss.lookup c with
      | some cl => (match cl.props.lookup f with
        | some p => toNoExc (g.cf p [x] h)
        | none => (match fs.lookup f with
          | some w => if decide (f ∈ cl.flds) then .ok w h else .stuck
          | none => .stuck))
      | none => .stuck)
    | _ => .stuck)
  | _ => .stuck

/-! ### walks -/
structure Src where
  items : List W
  held : List (Nat × List W)
def heldOk (hs : List (Nat × List W)) (h : AH) : Bool := hs.all fun p => decide (h[p.1]? = some (.lst p.2))
def overW (g : Ev) (x : W) (h : AH) : Option Src := match x with
  | .tup ws => some ⟨ws, []⟩
  | .loc l => (match h[l]? with
    | some (.lst ws) => some ⟨ws, [(l, ws)]⟩
    | _ => none)
  | .scr => some ⟨g.sc.map .int, []⟩
  | _ => none
def isTup : W → Bool
  | .tup _ => true
  | _ => false
def enumFrom : Nat → List W → List W
  | _, [] => []
  | n, w :: ws => .tup [.int n, w] :: enumFrom (n + 1) ws
def rngW (lo hi : Int) : List W := (List.range (hi - lo).toNat).map fun i => .int (lo + (i : Nat))
def rngOk (i : Int) : Bool := decide (-1000000 ≤ i) && decide (i ≤ 1000000)
def rngR (ws : List W) (h : AH) : Res Src := match ws with
  | [.int j] => if rngOk j then .ok ⟨rngW 0 j, []⟩ h else .stuck
  | [.int i, .int j] => if rngOk i && rngOk j then .ok ⟨rngW i j, []⟩ h else .stuck
  | _ => .stuck
def wipeA (σ : St) : List Nat → St
  | [] => σ
  | v :: vs => (wipeA σ vs).set v none

/-- items one by one: the state of a fold with results -/
def compLoop (f : W → AH → Res (Option W)) (held : List (Nat × List W)) : List W → AH → Res (List W)
  | [], h => if heldOk held h then .ok [] h else .stuck
  | w :: ws, h => if heldOk held h then (f w h).bind fun o h1 => (compLoop f held ws h1).bind fun r h2 => .ok (o.toList ++ r) h2 else .stuck

def compW (itf : Res Src) (asg : W → AH → Res St) (iff : St → AH → Res Bool) (elt : St → AH → Res W) : Res (List W) :=
  itf.bind fun src h1 => toNoExc (compLoop (fun w h2 => (asg w h2).bind fun σ2 h3 => (iff σ2 h3).bind fun c h4 =>
    if c then (elt σ2 h4).bind fun y h5 => .ok (some y) h5 else .ok none h4) src.held src.items h1) |>.bind fun ws h => if szOk ws.length then .ok ws h else .stuck

mutual
def evalE (g : Ev) : C → St → AH → Res W
  | .var i, σ, h => (match σ[i]? with
    | some (some w) => .ok w h
    | _ => .stuck)
  | .con w, _, h => .ok w h
  | .glo _ w, _, h => .ok w h
  | .bin op a b, σ, h => (evalE g a σ h).bind fun x h1 => (evalE g b σ h1).bind fun y h2 => binW op x y h2
  | .neg a, σ, h => (evalE g a σ h).bind fun x h1 => (match x with
    | .int i => .ok (.int (-i)) h1
    | _ => .stuck)
  | .cmp op a b, σ, h => (evalE g a σ h).bind fun x h1 => (evalE g b σ h1).bind fun y h2 => cmpW op x y h2
  | .not a, σ, h => (evalE g a σ h).bind fun x h1 => (match x with
    | .bl b => .ok (.bl (!b)) h1
    | _ => .stuck)
  | .and cs, σ, h => evalAnd g cs σ h
  | .or cs, σ, h => evalOr g cs σ h
  | .ife t a b, σ, h => (evalT g t σ h).bind fun c h1 => if c then evalE g a σ h1 else evalE g b σ h1
  | .sub a i, σ, h => (evalE g a σ h).bind fun x h1 => (evalE g i σ h1).bind fun y h2 => (match x with
    | .scr => subS g.sc y h2
    | x => subW x y h2)
  | .slc a lo hi, σ, h => (evalE g a σ h).bind fun x h1 => (evalP g lo σ h1).bind fun l h2 => (evalP g hi σ h2).bind fun u h3 => slcR g.sc x l u h3
  | .tup cs, σ, h => (evalEs g cs σ h).bind fun ws h1 => if szOk ws.length then .ok (.tup ws) h1 else .stuck
  | .lst cs, σ, h => (evalEs g cs σ h).bind fun ws h1 => if szOk ws.length then .ok (.loc h1.length) (h1 ++ [.lst ws]) else .stuck
  | .call f cs ks kcs, σ, h => (evalEs g cs σ h).bind fun ws h1 => (evalEs g kcs σ h1).bind fun kws h2 => callW g f ws ks kws h2
  | .new c cs ks kcs, σ, h => (evalEs g cs σ h).bind fun ws h1 => (evalEs g kcs σ h1).bind fun kws h2 => newW g c ws ks kws h2
  | .meth m o cs ks kcs, σ, h => (evalE g o σ h).bind fun x h0 => (match methL g m x h0 with
    | some f => (evalEs g cs σ h0).bind fun ws h1 => (evalEs g kcs σ h1).bind fun kws h2 => callW g f (x :: ws) ks kws h2
    | none => .stuck)
  | .attr o f, σ, h => (evalE g o σ h).bind fun x h1 => attrW g x f h1
  | .prim p cs, σ, h => (evalEs g cs σ h).bind fun ws h1 => primW g p ws h1
  | .primc p c, σ, h => (evalL g c σ h).bind fun ws h1 => primL p ws h1
  | .bm m o cs, σ, h => (evalE g o σ h).bind fun x h1 => if bmT m x h1 then (match cs with
    | [] => bm0 m x h1
    | c :: cs => (evalEs g (c :: cs) σ h1).bind fun ws h2 => bmW m x ws h2) else .stuck
  | .bmc m o c, σ, h => (evalE g o σ h).bind fun x h1 => if bmT m x h1 then (evalL g c σ h1).bind fun ws h2 => bmL m x ws h2 else .stuck
  | .comp own tg it ifs elt, σ, h => (compW (evalI g it σ h) (fun w h2 => asgT g tg w (wipeA σ (own.map (·.2))) h2) (fun σ2 h3 => evalIf g ifs σ2 h3) (fun σ2 h4 => evalE g elt σ2 h4)).bind fun ws h1 =>
    .ok (.loc h1.length) (h1 ++ [.lst ws])
def evalT (g : Ev) : T → St → AH → Res Bool
  | .not a, σ, h => (evalT g a σ h).bind fun c h1 => .ok (!c) h1
  | .and ts, σ, h => evalTA g ts σ h
  | .or ts, σ, h => evalTO g ts σ h
  | .val c, σ, h => (evalE g c σ h).bind fun x h1 => (match truW h1 x with
    | some b => .ok b h1
    | none => .stuck)
def evalTA (g : Ev) : List T → St → AH → Res Bool
  | [], _, h => .ok true h
  | t :: ts, σ, h => (evalT g t σ h).bind fun c h1 => if c then evalTA g ts σ h1 else .ok false h1
def evalTO (g : Ev) : List T → St → AH → Res Bool
  | [], _, h => .ok false h
  | t :: ts, σ, h => (evalT g t σ h).bind fun c h1 => if c then .ok true h1 else evalTO g ts σ h1
def evalAnd (g : Ev) : List C → St → AH → Res W
  | [], _, _ => .stuck
  | [c], σ, h => evalE g c σ h
  | c :: cs, σ, h => (evalE g c σ h).bind fun x h1 => (match x with
    | .bl true => evalAnd g cs σ h1
    | .bl false => .ok (.bl false) h1
    | _ => .stuck)
def evalOr (g : Ev) : List C → St → AH → Res W
  | [], _, _ => .stuck
  | [c], σ, h => evalE g c σ h
  | c :: cs, σ, h => (evalE g c σ h).bind fun x h1 => (match x with
    | .bl false => evalOr g cs σ h1
    | .bl true => .ok (.bl true) h1
    | _ => .stuck)
def evalEs (g : Ev) : List C → St → AH → Res (List W)
  | [], _, h => .ok [] h
  | c :: cs, σ, h => (evalE g c σ h).bind fun w h1 => (evalEs g cs σ h1).bind fun ws h2 => .ok (w :: ws) h2
def evalP (g : Ev) : List C → St → AH → Res (Option Int)
  | [], _, h => .ok none h
  | c :: _, σ, h => (evalE g c σ h).bind fun w h1 => (match w with
    | .int i => .ok (some i) h1
    | _ => .stuck)
/-- a comprehension's list of values -/
def evalL (g : Ev) : C → St → AH → Res (List W)
  | .comp own tg it ifs elt, σ, h => compW (evalI g it σ h) (fun w h2 => asgT g tg w (wipeA σ (own.map (·.2))) h2) (fun σ2 h3 => evalIf g ifs σ2 h3) (fun σ2 h4 => evalE g elt σ2 h4)
  | _, _, _ => .stuck
def evalIf (g : Ev) : List T → St → AH → Res Bool
  | [], _, h => .ok true h
  | c :: _, σ, h => evalT g c σ h
def evalI (g : Ev) : It → St → AH → Res Src
  | .over c, σ, h => (evalE g c σ h).bind fun x h1 => (match overW g x h1 with
    | some s => .ok s h1
    | none => .stuck)
  | .rng cs, σ, h => (evalEs g cs σ h).bind fun ws h1 => if ws.length = cs.length then rngR ws h1 else .stuck
  | .enum c, σ, h => (evalE g c σ h).bind fun x h1 => (match overW g x h1 with
    | some s => .ok ⟨enumFrom 0 s.items, s.held⟩ h1
    | none => .stuck)
  | .zip a b, σ, h => (evalE g a σ h).bind fun x h1 => (evalE g b σ h1).bind fun y h2 => if isTup x = isTup y then (match overW g x h2, overW g y h2 with
    | some s, some t => .ok ⟨List.zipWith (fun u v => .tup [u, v]) s.items t.items, s.held ++ t.held⟩ h2
    | _, _ => .stuck) else .stuck
/-- a target takes a value -/
def asgT (g : Ev) : Tg → W → St → AH → Res St
  | .nm i, w, σ, h => .ok (σ.set i (some w)) h
  | .tp ts, w, σ, h => (match w with
    | .tup ws => if ws.length = ts.length then asgTs g ts ws σ h else .stuck
    | _ => .stuck)
  | .sub o i, w, σ, h => (evalE g o σ h).bind fun x h1 => (evalE g i σ h1).bind fun y h2 => (setI x y w h2).bind fun _ h3 => .ok σ h3
  | .attr o f, w, σ, h => (evalE g o σ h).bind fun x h1 => (setA g x f w h1).bind fun _ h2 => .ok σ h2
def asgTs (g : Ev) : List Tg → List W → St → AH → Res St
  | [], [], σ, h => .ok σ h
  | t :: ts, w :: ws, σ, h => (asgT g t w σ h).bind fun σ1 h1 => asgTs g ts ws σ1 h1
  | _, _, _, _ => .stuck
end

def forLoop (f : W → St → AH → Out) (held : List (Nat × List W)) : List W → St → AH → Out
  | [], σ, h => if heldOk held h then .next σ h else .stuck
  | w :: ws, σ, h => if heldOk held h then (match f w σ h with
    | .next σ1 h1 => forLoop f held ws σ1 h1
    | .cont σ1 h1 => forLoop f held ws σ1 h1
    | .brk σ1 h1 => .next σ1 h1
    | o => o) else .stuck
def whlLoop (t : St → AH → Res Bool) (f : St → AH → Out) : Nat → St → AH → Out
  | 0, _, _ => .stuck
  | n + 1, σ, h => (t σ h).then σ fun c h1 => if c then (match f σ h1 with
    | .next σ1 h2 => whlLoop t f n σ1 h2
    | .cont σ1 h2 => whlLoop t f n σ1 h2
    | .brk σ1 h2 => .next σ1 h2
    | o => o) else .next σ h1
/-- what an except clause makes of an exception of the body -/
def hdW (g : Ev) (hd : Hd) (c : Nat) (xs : List Str) (ws : List W) (σ : St) (h : AH) : Out := match hd with
  | .keep d e y => (match xs, g.gc.exm c d with
    | [], some true => .next ((σ.set y (some (.exo c xs ws))).set e none) h
    | [], some false => .exc c xs ws σ h
    | _, _ => .stuck)
mutual
def evalS (g : Ev) : S → St → AH → Out
  | .asg t e, σ, h => (evalE g e σ h).then σ fun w h1 => (toNoExc (asgT g t w σ h1)).then σ fun σ1 h2 => .next σ1 h2
  | .aug t op e, σ, h => (match t with
    | .nm i => (match σ[i]? with
      | some (some x) => (evalE g e σ h).then σ fun y h1 => (match augW op x y with
        | some z => .next (σ.set i (some z)) h1
        | none => .stuck)
      | _ => .stuck)
    | _ => .stuck)
  | .iff t a b, σ, h => (evalT g t σ h).then σ fun c h1 => if c then evalSs g a σ h1 else evalSs g b σ h1
  | .for_ t it b, σ, h => (evalI g it σ h).then σ fun src h1 => forLoop (fun w σ1 h2 => (toNoExc (asgT g t w σ1 h2)).then σ1 fun σ2 h3 => evalSs g b σ2 h3) src.held src.items σ h1
  | .whl t b, σ, h => whlLoop (fun σ1 h1 => evalT g t σ1 h1) (fun σ1 h1 => evalSs g b σ1 h1) g.gc.lim σ h
  | .ret e, σ, h => (evalE g e σ h).then σ fun w h1 => .ret w h1
  | .retn, σ, h => .ret .non h
  | .raise c fs cs, σ, h => (evalEs g cs σ h).then σ fun ws h1 => if W.flats ws && decide (fs.length = ws.length) && decide (c ∈ g.gc.rais) then .exc c fs ws σ h1 else .stuck
  | .try_ b hd, σ, h => (match evalSs g b σ h with
    | .exc c xs ws σ1 h1 => hdW g hd c xs ws σ1 h1
    | o => o)
  | .ex e, σ, h => (evalE g e σ h).then σ fun _ h1 => .next σ h1
  | .pass, σ, h => .next σ h
  | .brk, σ, h => .brk σ h
  | .cont, σ, h => .cont σ h
  | .never, _, _ => .stuck
def evalSs (g : Ev) : List S → St → AH → Out
  | [], σ, h => .next σ h
  | s :: ss, σ, h => (evalS g s σ h).seq fun σ1 h1 => evalSs g ss σ1 h1
end

/-! ### calls -/
def startA (nn : Nat) (ws : List W) : St := ws.map some ++ List.replicate (nn - ws.length) none
def runBody (g : Ev) (d : DefC) (ws : List W) (h : AH) : Res W := match evalSs g d.body (startA d.ns.length ws) h with
  | .next _ h1 => .ok .non h1
  | .ret w h1 => .ok w h1
  | .exc c xs ws _ h1 => .exc c xs ws h1
  | _ => .stuck
/-- what a call with plain values gave over a heap of its own, put behind h -/
def pull (h h2 : AH) (w : W) : Res W := match w with
  | .loc l => (match h2[l]? with
    | some (.lst ws) => if W.flats ws then .ok (.loc h.length) (h ++ [.lst ws]) else .ok (w.shift h.length) (h ++ h2.map (O.shift h.length))
    | _ => .ok (w.shift h.length) (h ++ h2.map (O.shift h.length)))
  | w => if W.flat w then .ok w h else .ok (w.shift h.length) (h ++ h2.map (O.shift h.length))
def callF (gc : Gc) (sc : List Int) : Nat → Nat → List W → AH → Res W
  | 0, _, _, _ => .stuck
  | k + 1, f, ws, h => match gc.defs[f]? with
    | none => .stuck
    | some d => if ws.length = d.ps.length then
        if W.flats ws then (match runBody ⟨gc, sc, callF gc sc k⟩ d ws [] with
          | .ok w h2 => pull h h2 w
          | .exc c xs vs _ => if W.flats vs then .exc c xs vs h else .stuck
          | .stuck => .stuck)
        else runBody ⟨gc, sc, callF gc sc k⟩ d ws h
      else .stuck
end AM

namespace AM
example (g : Ev) (w : W) (σ : St) (h : AH) : evalE g (.bin .add (.con (.int 1)) (.con (.int 2))) σ h = .ok (.int 3) h := rfl
example (g : Ev) (w : W) (σ : St) (h : AH) : evalS g (.asg (.nm 0) (.bin .add (.con (.int 1)) (.con (.int 2)))) σ h = .next (σ.set 0 (some (.int 3))) h := rfl
end AM
/-! The machine's states beside the hand layer's heaps. -/
namespace AM
open PySem L2
structure Cst where
  K : PySem.W.Frag
  cA : Nat → Addr
  aS : Addr
  sc : List Int
  w : World
/-- an exception object of a class at a -/
def ExC (cls : Value) (d : Option Addr) (a : Addr) : HO := .ext fun h => ∃ oe, h.get? a = some oe ∧ oe.cls = cls ∧ oe.dict = d ∧ ∃ vs, oe.data = .fields vs
section
variable (k : Cst) (ι : Nat → Addr) (n : Nat) (H : Hp)
mutual
def RelW : W → V → Prop
  | .non, v => v = .non
  | .bl b, v => v = .bl b
  | .int i, v => v = .int i
  | .str s, v => v = .str s
  | .tup ws, v => ∃ a vs, v = .ref a ∧ SqT k.K H a vs ∧ RelWs ws vs
  | .loc l, v => l < n ∧ v = .ref (ι l)
  | .exo c _ _, v => ∃ a, v = .ref a ∧ H a = some (ExC (.ref (k.cA c)) none a)
  | .scr, v => v = .ref k.aS
def RelWs : List W → List V → Prop
  | [], vs => vs = []
  | w :: ws, vs => ∃ v r, vs = v :: r ∧ RelW w v ∧ RelWs ws r
end
def RelF : List (Str × W) → List (Str × V) → Prop
  | [], vs => vs = []
  | p :: ps, vs => ∃ v r, vs = (p.1, v) :: r ∧ RelW k ι n H p.2 v ∧ RelF ps r
def RelO (a : Addr) : O → Prop
  | .lst ws => ∃ vs, H a = some (.lst vs) ∧ RelWs k ι n H ws vs
  | .ins c fs => ∃ dx vs, H a = some (.ins (k.cA c) dx vs) ∧ RelF k ι n H fs vs
  | .dic _ => False
def RelS (as : St) (σ : L2.St) : Prop := as.length = σ.length ∧ ∀ (i : Nat) (w : W), as[i]? = some (some w) → ∃ v, σ[i]? = some (some v) ∧ RelW k ι n H w v
end
/-- the script's list is a part of K -/
def KScr (k : Cst) : Prop := ∃ (o : Obj) (its : Array Value) (n : Nat), k.K.lookup k.aS = some o ∧ o.cls = .type "list" ∧ o.dict = none ∧ o.data = .seq its n ∧ its.size ≤ sizeLine ∧ Vals (k.sc.map .int) its.toList
structure Scr (k : Cst) (ι : Nat → Addr) (n : Nat) (H : Hp) : Prop where
  sq : SqL k.K H k.aS (k.sc.map .int)
  ap : KScr k ∨ (Rd H k.aS (.lst (k.sc.map .int)) ∧ ∀ l, l < n → ι l ≠ k.aS)
structure R (k : Cst) (ι : Nat → Addr) (h : AH) (H : Hp) : Prop where
  obj : ∀ l o, h[l]? = some o → RelO k ι h.length H (ι l) o
  inj : ∀ l m, l < h.length → m < h.length → ι l = ι m → l = m
  scr : Scr k ι h.length H
structure Post (k : Cst) (ι : Nat → Addr) (h : AH) (H : Hp) (ι' : Nat → Addr) (h' : AH) (H' : Hp) : Prop where
  len : h.length ≤ h'.length
  old : ∀ l, l < h.length → ι' l = ι l
  rel : R k ι' h' H'
  fr : ∀ a o, H a = some o → (∀ l, l < h.length → ι l ≠ a) → H' a = some o
  new : ∀ l, h.length ≤ l → l < h'.length → H (ι' l) = none
section
variable {k : Cst} {ι ι' ι1 ι2 : Nat → Addr} {n n' : Nat} {H H' H1 H2 : Hp} {h h' h1 h2 : AH}
theorem RelWs.len : ∀ {ws : List W} {vs : List V}, RelWs k ι n H ws vs → ws.length = vs.length
  | [], vs, e => by
    unfold RelWs at e
    rw [e]
    rfl
  | w :: ws, vs, e => by
    unfold RelWs at e
    obtain ⟨v, r, rfl, _, q⟩ := e
    exact congrArg Nat.succ q.len
theorem RelWs.get : ∀ {ws : List W} {vs : List V} {i : Nat} {w : W}, RelWs k ι n H ws vs → ws[i]? = some w → ∃ v, vs[i]? = some v ∧ RelW k ι n H w v
  | [], _, _, _, _, e => by simp at e
  | w :: ws, vs, 0, w', q, e => by
    unfold RelWs at q
    obtain ⟨v, r, rfl, q, _⟩ := q
    simp at e
    subst e
    exact ⟨v, rfl, q⟩
  | w :: ws, vs, i + 1, w', q, e => by
    unfold RelWs at q
    obtain ⟨v, r, rfl, _, q⟩ := q
    exact q.get (i := i) (by simpa using e)
theorem RelWs.none_of {ws : List W} {vs : List V} {i : Nat} (q : RelWs k ι n H ws vs) (e : ws[i]? = none) : vs[i]? = none := by
  have := q.len
  rw [List.getElem?_eq_none_iff] at e ⊢
  omega
theorem RelWs.cons {w : W} {v : V} {ws : List W} {vs : List V} (a : RelW k ι n H w v) (b : RelWs k ι n H ws vs) : RelWs k ι n H (w :: ws) (v :: vs) := by
  unfold RelWs
  exact ⟨v, vs, rfl, a, b⟩
theorem RelWs.nil : RelWs k ι n H [] [] := by
  unfold RelWs
  rfl
theorem RelWs.append : ∀ {ws us : List W} {vs zs : List V}, RelWs k ι n H ws vs → RelWs k ι n H us zs → RelWs k ι n H (ws ++ us) (vs ++ zs)
  | [], us, vs, zs, a, b => by
    unfold RelWs at a
    rw [a]
    exact b
  | w :: ws, us, vs, zs, a, b => by
    unfold RelWs at a
    obtain ⟨v, r, rfl, q, a⟩ := a
    exact .cons q (a.append b)
theorem RelWs.take : ∀ {ws : List W} {vs : List V} (m : Nat), RelWs k ι n H ws vs → RelWs k ι n H (ws.take m) (vs.take m)
  | _, _, 0, _ => by simpa using RelWs.nil
  | [], vs, m + 1, a => by
    unfold RelWs at a
    rw [a]
    exact .nil
  | w :: ws, vs, m + 1, a => by
    unfold RelWs at a
    obtain ⟨v, r, rfl, q, a⟩ := a
    exact .cons q (a.take m)
theorem RelWs.drop : ∀ {ws : List W} {vs : List V} (m : Nat), RelWs k ι n H ws vs → RelWs k ι n H (ws.drop m) (vs.drop m)
  | _, _, 0, a => a
  | [], vs, m + 1, a => by
    unfold RelWs at a
    rw [a]
    exact .nil
  | w :: ws, vs, m + 1, a => by
    unfold RelWs at a
    obtain ⟨v, r, rfl, q, a⟩ := a
    exact a.drop m
theorem RelWs.set {w : W} {v : V} (r : RelW k ι n H w v) : ∀ {ws : List W} {vs : List V} (i : Nat), RelWs k ι n H ws vs → RelWs k ι n H (ws.set i w) (vs.set i v)
  | [], vs, _, a => by
    unfold RelWs at a
    rw [a]
    exact .nil
  | w :: ws, vs, 0, a => by
    unfold RelWs at a
    obtain ⟨u, t, rfl, q, a⟩ := a
    exact .cons r a
  | w :: ws, vs, i + 1, a => by
    unfold RelWs at a
    obtain ⟨u, t, rfl, q, a⟩ := a
    exact .cons q (RelWs.set r i a)
/-! ### what stays -/
structure Keep (k : Cst) (ι : Nat → Addr) (n : Nat) (H : Hp) (ι' : Nat → Addr) (n' : Nat) (H' : Hp) : Prop where
  len : n ≤ n'
  old : ∀ l, l < n → ι' l = ι l
  tup : ∀ a vs, SqT k.K H a vs → SqT k.K H' a vs
  ext : ∀ a cls d, H a = some (ExC cls d a) → H' a = some (ExC cls d a)
mutual
theorem RelW.keep (p : Keep k ι n H ι' n' H') : ∀ (w : W) {v : V}, RelW k ι n H w v → RelW k ι' n' H' w v
  | .non, _, e => by simpa only [RelW] using e
  | .bl _, _, e => by simpa only [RelW] using e
  | .int _, _, e => by simpa only [RelW] using e
  | .str _, _, e => by simpa only [RelW] using e
  | .scr, _, e => by simpa only [RelW] using e
  | .loc l, v, e => by
    unfold RelW at e ⊢
    exact ⟨Nat.lt_of_lt_of_le e.1 p.len, by rw [p.old l e.1]; exact e.2⟩
  | .exo c xs ws, v, e => by
    unfold RelW at e ⊢
    obtain ⟨a, e1, e2⟩ := e
    exact ⟨a, e1, p.ext a _ _ e2⟩
  | .tup ws, v, e => by
    unfold RelW at e ⊢
    obtain ⟨a, vs, e1, e2, e3⟩ := e
    exact ⟨a, vs, e1, p.tup a vs e2, RelWs.keep p ws e3⟩
theorem RelWs.keep (p : Keep k ι n H ι' n' H') : ∀ (ws : List W) {vs : List V}, RelWs k ι n H ws vs → RelWs k ι' n' H' ws vs
  | [], vs, e => by
    unfold RelWs at e ⊢
    exact e
  | w :: ws, vs, e => by
    unfold RelWs at e ⊢
    obtain ⟨v, r, e1, e2, e3⟩ := e
    exact ⟨v, r, e1, RelW.keep p w e2, RelWs.keep p ws e3⟩
end
theorem RelF.keep (p : Keep k ι n H ι' n' H') : ∀ (ws : List (Str × W)) {vs : List (Str × V)}, RelF k ι n H ws vs → RelF k ι' n' H' ws vs
  | [], vs, e => e
  | w :: ws, vs, e => by
    obtain ⟨v, r, e1, e2, e3⟩ := e
    exact ⟨v, r, e1, RelW.keep p _ e2, RelF.keep p ws e3⟩
theorem RelS.keep (p : Keep k ι n H ι' n' H') {as : St} {σ : L2.St} (e : RelS k ι n H as σ) : RelS k ι' n' H' as σ := ⟨e.1, fun i w q => by
  obtain ⟨v, e1, e2⟩ := e.2 i w q
  exact ⟨v, e1, RelW.keep p _ e2⟩⟩
/-- an object of ours is a list or an instance -/
theorem R.at (r : R k ι h H) {l : Nat} (hl : l < h.length) : (∃ vs, H (ι l) = some (.lst vs)) ∨ ∃ C dx fs, H (ι l) = some (.ins C dx fs) := by
  have q := r.obj l h[l] (by simp [hl])
  cases e : h[l] with
  | lst ws =>
    rw [e] at q
    obtain ⟨vs, q, _⟩ := q
    exact .inl ⟨vs, q⟩
  | ins c fs =>
    rw [e] at q
    obtain ⟨dx, vs, q, _⟩ := q
    exact .inr ⟨_, _, _, q⟩
  | dic kvs =>
    rw [e] at q
    exact q.elim
theorem R.ne (r : R k ι h H) {a : Addr} {o : HO} (e : H a = some o) (h1 : ∀ vs, o ≠ .lst vs) (h2 : ∀ C dx fs, o ≠ .ins C dx fs) : ∀ l, l < h.length → ι l ≠ a := fun l hl z => by
  rcases r.at hl with ⟨vs, q⟩ | ⟨C, dx, fs, q⟩
  · rw [z, e] at q
    exact h1 vs (Option.some.inj q)
  · rw [z, e] at q
    exact h2 _ _ _ (Option.some.inj q)
theorem R.has (r : R k ι h H) {l : Nat} (hl : l < h.length) : ∃ o, H (ι l) = some o := by
  rcases r.at hl with ⟨vs, q⟩ | ⟨C, dx, fs, q⟩
  · exact ⟨_, q⟩
  · exact ⟨_, q⟩
theorem keep_of (r : R k ι h H) (len : h.length ≤ n') (old : ∀ l, l < h.length → ι' l = ι l) (fr : ∀ a o, H a = some o → (∀ l, l < h.length → ι l ≠ a) → H' a = some o) : Keep k ι h.length H ι' n' H' where
  len := len
  old := old
  tup := fun a vs e => by
    rcases e with (e | ⟨o, e⟩) | e
    · exact .inl (.inl (fr a _ e (r.ne e (fun _ z => by cases z) (fun _ _ _ z => by cases z))))
    · exact .inl (.inr ⟨o, fr a _ e (r.ne e (fun _ z => by cases z) (fun _ _ _ z => by cases z))⟩)
    · exact .inr e
  ext := fun a cls d e => fr a _ e (r.ne e (fun _ z => by cases z) (fun _ _ _ z => by cases z))
theorem Post.keep (r : R k ι h H) (p : Post k ι h H ι' h' H') : Keep k ι h.length H ι' h'.length H' := keep_of r p.len p.old p.fr
theorem Post.refl (r : R k ι h H) : Post k ι h H ι h H := ⟨Nat.le_refl _, fun _ _ => rfl, r, fun _ _ e _ => e, fun l a b => absurd (Nat.lt_of_lt_of_le b a) (Nat.lt_irrefl _)⟩
theorem Post.trans (r : R k ι h H) (p : Post k ι h H ι1 h1 H1) (q : Post k ι1 h1 H1 ι2 h2 H2) : Post k ι h H ι2 h2 H2 where
  len := Nat.le_trans p.len q.len
  old := fun l hl => (q.old l (Nat.lt_of_lt_of_le hl p.len)).trans (p.old l hl)
  rel := q.rel
  fr := fun a o e hn => q.fr a o (p.fr a o e hn) fun l hl z => by
    by_cases hlt : l < h.length
    · exact hn l hlt (by rw [← p.old l hlt]; exact z)
    · have := p.new l (by omega) hl
      rw [z, e] at this
      cases this
  new := fun l h1' h2' => by
    by_cases hlt : l < h1.length
    · rw [q.old l hlt]
      exact p.new l h1' hlt
    · have e := q.new l (by omega) h2'
      cases eH : H (ι2 l) with
      | none => rfl
      | some o =>
        have z := p.fr (ι2 l) o eH (fun m hm z => by
          obtain ⟨o', e'⟩ := p.rel.has (Nat.lt_of_lt_of_le hm p.len)
          rw [p.old m hm, z, e] at e'
          cases e')
        rw [e] at z
        cases z
theorem Scr.upd (s : Scr k ι n H) {p : Addr} {o : HO} (hp : H p = none) : Scr k ι n (upd H p o) := by
  rcases s.ap with q | ⟨q1, q2⟩
  · exact ⟨.inr q, .inl q⟩
  · have e : Rd (L2.upd H p o) k.aS (.lst (k.sc.map .int)) := by
      rcases q1 with e | ⟨ob, e⟩
      · exact .inl (by rw [upd_ne (ne_of_none e hp)]; exact e)
      · exact .inr ⟨ob, by rw [upd_ne (ne_of_none e hp)]; exact e⟩
    exact ⟨.inl e, .inr ⟨e, q2⟩⟩
def snoc (ι : Nat → Addr) (n : Nat) (p : Addr) : Nat → Addr := fun l => if l = n then p else ι l
theorem snoc_lt {l : Nat} {p : Addr} (hl : l < n) : snoc ι n p l = ι l := if_neg (Nat.ne_of_lt hl)
theorem snoc_eq {p : Addr} : snoc ι n p n = p := if_pos rfl
theorem RelO.keep (p : Keep k ι n H ι' n' H') {a : Addr} {o : O} (e : RelO k ι n H a o) (hs : ∀ ho, H a = some ho → H' a = some ho) : RelO k ι' n' H' a o := by
  cases o with
  | lst ws =>
    obtain ⟨vs, e1, e2⟩ := e
    exact ⟨vs, hs _ e1, RelWs.keep p ws e2⟩
  | ins c fs =>
    obtain ⟨dx, vs, e1, e2⟩ := e
    exact ⟨dx, vs, hs _ e1, RelF.keep p fs e2⟩
  | dic kvs => exact e
/-- a new thing that is none of ours -/
theorem Post.side (r : R k ι h H) {p : Addr} {o : HO} (hp : H p = none) : Post k ι h H ι h (upd H p o) := by
  have fr : ∀ a u, H a = some u → (∀ l, l < h.length → ι l ≠ a) → upd H p o a = some u := fun a u e _ => by
    rw [upd_ne (ne_of_none e hp)]
    exact e
  have kp : Keep k ι h.length H ι h.length (upd H p o) := keep_of r (Nat.le_refl _) (fun _ _ => rfl) fr
  refine ⟨Nat.le_refl _, fun _ _ => rfl, ⟨fun l u e => (r.obj l u e).keep kp fun ho z => ?_, r.inj, r.scr.upd hp⟩, fr, fun l a b => absurd (Nat.lt_of_lt_of_le b a) (Nat.lt_irrefl _)⟩
  rw [upd_ne (ne_of_none z hp)]
  exact z
/-- a new object of ours -/
theorem Post.alloc (r : R k ι h H) {p : Addr} {ho : HO} {o : O} (hp : H p = none) (ro : ∀ ι' n' H', Keep k ι h.length H ι' n' H' → H' p = some ho → RelO k ι' n' H' p o) :
    Post k ι h H (snoc ι h.length p) (h ++ [o]) (upd H p ho) := by
  have fr : ∀ a u, H a = some u → (∀ l, l < h.length → ι l ≠ a) → upd H p ho a = some u := fun a u e _ => by
    rw [upd_ne (ne_of_none e hp)]
    exact e
  have ln : (h ++ [o]).length = h.length + 1 := by simp
  have kp : Keep k ι h.length H (snoc ι h.length p) (h ++ [o]).length (upd H p ho) := keep_of r (by rw [ln]; exact Nat.le_succ _) (fun l hl => snoc_lt hl) fr
  refine ⟨by rw [ln]; exact Nat.le_succ _, fun l hl => snoc_lt hl, ⟨fun l u e => ?_, fun l m hl hm e => ?_, ?_⟩, fr, fun l a b => ?_⟩
  · by_cases hl : l < h.length
    · rw [List.getElem?_append_left hl] at e
      rw [snoc_lt hl]
      refine (r.obj l u e).keep kp fun ho z => ?_
      rw [upd_ne (ne_of_none z hp)]
      exact z
    · have hl2 : l < (h ++ [o]).length := (List.getElem?_eq_some_iff.mp e).1
      have el : l = h.length := by rw [ln] at hl2; omega
      subst el
      simp at e
      subst e
      rw [snoc_eq]
      exact ro _ _ _ kp upd_same
  · rw [ln] at hl hm
    by_cases h1 : l < h.length
    · by_cases h2 : m < h.length
      · rw [snoc_lt h1, snoc_lt h2] at e
        exact r.inj l m h1 h2 e
      · have : m = h.length := by omega
        subst this
        rw [snoc_lt h1, snoc_eq] at e
        obtain ⟨u, z⟩ := r.has h1
        rw [e, hp] at z
        cases z
    · have : l = h.length := by omega
      subst this
      by_cases h2 : m < h.length
      · rw [snoc_lt h2, snoc_eq] at e
        obtain ⟨u, z⟩ := r.has h2
        rw [← e, hp] at z
        cases z
      · omega
  · have s := r.scr.upd (o := ho) hp
    refine ⟨s.sq, ?_⟩
    rcases r.scr.ap with q | ⟨q1, q2⟩
    · exact .inl q
    · rcases s.ap with z | ⟨z1, z2⟩
      · exact .inl z
      · refine .inr ⟨z1, fun l hl => ?_⟩
        by_cases h1 : l < h.length
        · rw [snoc_lt h1]
          exact q2 l h1
        · have : l = h.length := by rw [ln] at hl; omega
          subst this
          rw [snoc_eq]
          intro z
          rcases q1 with q | ⟨ob, q⟩
          · rw [← z, hp] at q
            cases q
          · rw [← z, hp] at q
            cases q
  · rw [ln] at b
    have : l = h.length := by omega
    subst this
    rw [snoc_eq]
    exact hp
/-- an object of ours changes -/
theorem Post.set (r : R k ι h H) {l : Nat} {ho : HO} {o : O} (hl : l < h.length) (ro : ∀ H', Keep k ι h.length H ι h.length H' → H' (ι l) = some ho → RelO k ι h.length H' (ι l) o) :
    Post k ι h H ι (h.set l o) (upd H (ι l) ho) := by
  have fr : ∀ a u, H a = some u → (∀ m, m < h.length → ι m ≠ a) → upd H (ι l) ho a = some u := fun a u e hn => by
    rw [upd_ne (fun z => hn l hl z.symm)]
    exact e
  have kp : Keep k ι h.length H ι h.length (upd H (ι l) ho) := keep_of r (Nat.le_refl _) (fun _ _ => rfl) fr
  refine ⟨by simp, fun _ _ => rfl, ⟨fun m u e => ?_, fun a b ha hb => by simp at ha hb; exact r.inj a b ha hb, ?_⟩, fr, fun m a b => by simp at b; omega⟩
  · by_cases hm : m = l
    · subst hm
      rw [List.getElem?_set_self hl] at e
      cases e
      simpa using ro _ kp upd_same
    · rw [List.getElem?_set_ne (Ne.symm hm)] at e
      have hml : m < h.length := (List.getElem?_eq_some_iff.mp e).1
      have q := (r.obj m u e).keep kp fun w z => by
        rw [upd_ne (fun y => hm (r.inj m l hml hl y))]
        exact z
      simpa using q
  · have hs : (h.set l o).length = h.length := by simp
    rw [hs]
    rcases r.scr.ap with q | ⟨q1, q2⟩
    · exact ⟨.inr q, .inl q⟩
    · have e : Rd (upd H (ι l) ho) k.aS (.lst (k.sc.map .int)) := by
        rcases q1 with e | ⟨ob, e⟩
        · exact .inl (by rw [upd_ne (fun z => q2 l hl z.symm)]; exact e)
        · exact .inr ⟨ob, by rw [upd_ne (fun z => q2 l hl z.symm)]; exact e⟩
      exact ⟨.inl e, .inr ⟨e, q2⟩⟩
end
end AM
/-! tuple * int for any few; repr of data. -/
namespace AM
open PySem PySem.Spec PyProof.Rows L2
abbrev tupO (items : Array Value) (n : Nat) (dd : Option Addr) (sl : Array (Option Value)) : Obj := { cls := .type "tuple", dict := dd, data := .seq items n, slots := sl }
theorem mul_same (l : Addr) (items : Array Value) (n : Nat) (dd : Option Addr) (sl : Array (Option Value)) (x : Int) (u : Tok) (c0 : (decide (x < -(2 ^ 63)) || decide (x ≥ 2 ^ 63)) = false) (c1 : (items.isEmpty || x == 1) = true) :
    Meets (Builtin.«tuple.__mul__» ⟨[.ref l, .int x u], []⟩) (fun _ R s => s.heap.get? l = some (tupO items n dd sl) ∧ R (.ok (.ret (.ref l))) s) := .of_wp fun prog w A R s q => by
  obtain ⟨hp, g, d, tk, os⟩ := s
  obtain ⟨hl, fin⟩ := q
  have f1 := AutoSeq1.idx_int
  wp_walk using wpAny_loadPart' hl
  repeat (first
    | (refine wpAny_ite_false (decide_eq_false (by rw [c0]; exact Bool.false_ne_true)) ?_; wp_walk using wpAny_loadPart' hl)
    | (refine wpAny_ite_true (decide_eq_true (by rw [c1])) ?_; wp_walk using wpAny_loadPart' hl))
  exact ⟨_, rfl, fin⟩
theorem mul_none (l : Addr) (items : Array Value) (n : Nat) (dd : Option Addr) (sl : Array (Option Value)) (x : Int) (u : Tok) (c0 : (decide (x < -(2 ^ 63)) || decide (x ≥ 2 ^ 63)) = false) (c1 : (items.isEmpty || x == 1) = false) (c2 : (decide (x ≤ 0) || items.isEmpty) = true) :
    Meets (Builtin.«tuple.__mul__» ⟨[.ref l, .int x u], []⟩) (fun _ R s => s.heap.get? l = some (tupO items n dd sl) ∧
      R (.ok (.ret (.ref s.heap.objs.size))) { s with heap := s.heap.push { cls := .type "tuple", data := .seq #[] }, toks := s.toks }) := .of_wp fun prog w A R s q => by
  obtain ⟨hp, g, d, tk, os⟩ := s
  obtain ⟨hl, fin⟩ := q
  have f1 := AutoSeq1.idx_int
  wp_walk using wpAny_loadPart' hl
  repeat (first
    | (refine wpAny_ite_false (decide_eq_false (by rw [c0]; exact Bool.false_ne_true)) ?_; wp_walk using wpAny_loadPart' hl)
    | (refine wpAny_ite_false (decide_eq_false (by rw [c1]; exact Bool.false_ne_true)) ?_; wp_walk using wpAny_loadPart' hl)
    | (refine wpAny_ite_true (decide_eq_true (by rw [c2])) ?_; wp_walk using wpAny_loadPart' hl))
  exact ⟨_, rfl, fin⟩
def rTimes (K : PySem.W.Frag) : R2 := fun x y H Q => ∃ l k xs, x = .ref l ∧ y = .int k ∧ SqT K H l xs ∧ 0 ≤ k ∧ k ≤ 1000 ∧ xs.length ≤ 1000 ∧ ((xs = [] ∨ k = 1) → Q (.ref l) H) ∧
  (xs ≠ [] → k ≠ 1 → ∀ p, H p = none → Q (.ref p) (upd H p (.tup (List.replicate k.toNat xs).flatten)))
theorem op_times {X : Cx} : OpR X (binaryOp .Mult) (rTimes X.K) := by
  intro pins s σ H x y v u Q I rx ry h
  obtain ⟨l, k, xs, rfl, rfl, hT, h1, h2, hz, q1, q2⟩ := h
  by_cases hk : xs ≠ [] ∧ 2 ≤ k
  · exact op_repT pins s σ H _ _ v u Q I rx ry ⟨l, k, xs, rfl, rfl, hT, hk.1, hk.2, h2, hz, q2 hk.1 (by omega)⟩
  · cases rx
    obtain ⟨t, rfl⟩ := ry
    obtain ⟨its, r, ⟨⟨cls, dd, data, sl⟩, ho, hc, n, hd⟩, hs⟩ := I.tuple hT
    simp only at hc hd
    subst hc hd
    have c0 : (decide (k < -(2 ^ 63)) || decide (k ≥ 2 ^ 63)) = false := by
      rw [decide_eq_false (by omega), decide_eq_false (by omega)]
      rfl
    by_cases hs1 : xs = [] ∨ k = 1
    · have c1 : (its.toArray.isEmpty || k == 1) = true := by
        rcases hs1 with e | e
        · have : its = [] := List.eq_nil_of_length_eq_zero (by rw [← r.length, e]; rfl)
          rw [this]
          rfl
        · subst e
          simp
      refine wpAny_binaryOp_repeat_ref (T := "tuple") (U := "int") (by decide) ⟨_, ho, rfl⟩ (fun s' => typeIs_int s' k t) noFill_tuple_mul F.fills_int_mul F.slot_int_rmul repeat_tuple F.slot_int_index.lookup
        (call_meets F.slot_int_rmul (typeIs_int s k t) F.entry_int_rmul (F.args_int_rmul_2 _ _) (int_rmul_tuple k t l its.toArray n dd sl)
          ⟨ho, rfl, ⟨_, ho, rfl⟩, call_meets F.slot_tuple_mul ⟨_, ho, rfl⟩ F.entry_tuple_mul (F.args_tuple_mul_2 _ _) (mul_same l its.toArray n dd sl k t c0 c1) ⟨ho, ?_⟩⟩)
      exact ⟨.ref l, H, I, rfl, q1 hs1⟩
    · have hne : xs ≠ [] := fun e => hs1 (.inl e)
      have hk1 : k ≠ 1 := fun e => hs1 (.inr e)
      have hk0 : k = 0 := by
        have : ¬ 2 ≤ k := fun z => hk ⟨hne, z⟩
        omega
      subst hk0
      have hni : its ≠ [] := fun e => hne (List.eq_nil_of_length_eq_zero (by rw [r.length, e]; rfl))
      have c1 : (its.toArray.isEmpty || (0 : Int) == 1) = false := by
        cases its with
        | nil => exact absurd rfl hni
        | cons a b => rfl
      refine wpAny_binaryOp_repeat_ref (T := "tuple") (U := "int") (by decide) ⟨_, ho, rfl⟩ (fun s' => typeIs_int s' 0 t) noFill_tuple_mul F.fills_int_mul F.slot_int_rmul repeat_tuple F.slot_int_index.lookup
        (call_meets F.slot_int_rmul (typeIs_int s 0 t) F.entry_int_rmul (F.args_int_rmul_2 _ _) (int_rmul_tuple 0 t l its.toArray n dd sl)
          ⟨ho, rfl, ⟨_, ho, rfl⟩, call_meets F.slot_tuple_mul ⟨_, ho, rfl⟩ F.entry_tuple_mul (F.args_tuple_mul_2 _ _) (mul_none l its.toArray n dd sl 0 t c0 c1 rfl) ⟨ho, ?_⟩⟩)
      refine ⟨.ref s.heap.objs.size, _, I.laid (t' := s.toks) (o := .tup []) (fun b ob q => Heap.get?_push_of_some _ q) (Nat.le_refl _) ?_, rfl, q2 hne hk1 _ (I.hok.fresh (Nat.le_refl _))⟩
      exact ⟨Nat.zero_le _, [], .nil, IsTup.new _ _⟩
/-! ### repr -/
def rRepr (K : PySem.W.Frag) : List V → Hp → VK → Prop := fun xs H Q => ∃ a d, xs = [.ref a] ∧ Dp K H (.ref a) d ∧ d.showable = true ∧ d.hasDict = false ∧ d.depth ≤ 60 ∧ d.shown.length ≤ sizeLine ∧ Q (.str d.shown) H
theorem call_reprD {X : Cx} (hq : X.A.guards = some []) (hu : X.A.units + 65 < cLine) : CallR X (.builtin "repr") (rRepr X.K) := by
  intro pins s σ H xs us Q I r h
  obtain ⟨a, d, rfl, hd, h1, h2, h3, h4, q⟩ := h
  obtain ⟨u, rfl, r1⟩ := vals1 r
  cases r1
  obtain ⟨as, rd⟩ := Dp.reads I d _ _ hd rfl
  exact repr_of_reads' rd h1 (PyData.noDict_hsm h2) hq (by omega) (fun _ _ e => e) (fun h' u tk hk => ⟨.str d.shown, H, I.kept (t' := tk) hk, ⟨u, rfl⟩, q⟩) h4
end AM
/-! Operations on values: the machine's and the hand layer's. -/
namespace AM
open PySem L2
abbrev Rel (α β : Type) := α → (Nat → Addr) → Nat → Hp → β → Prop
def ExD (k : Cst) (ι : Nat → Addr) (n : Nat) (H : Hp) (d : Option Addr) (xs : List Str) (ws : List W) : Prop :=
  (xs = [] ∧ ws = [] ∧ d = none) ∨ xs ≠ [] ∧ ∃ dd fvs, d = some dd ∧ H dd = some (.xd fvs) ∧ RelF k ι n H (xs.zip ws) fvs
def WPE (k : Cst) (Wx : WX) (σ : L2.St) {α β : Type} (r : Res α) (ι : Nat → Addr) (h : AH) (H : Hp) (rel : Rel α β) (Q : β → Hp → Prop) : Prop := match r with
  | .ok a h' => ∀ ι' H' b, Post k ι h H ι' h' H' → rel a ι' h'.length H' b → Q b H'
  | .exc c xs ws h' => ∀ ι' H' d, Post k ι h H ι' h' H' → ExD k ι' h'.length H' d xs ws → Wx (.ref (k.cA c)) d σ H'
  | .stuck => False
/-- no exception -/
def WPV (k : Cst) {α β : Type} (r : Res α) (ι : Nat → Addr) (h : AH) (H : Hp) (rel : Rel α β) (Q : β → Hp → Prop) : Prop := match r with
  | .ok a h' => ∀ ι' H' b, Post k ι h H ι' h' H' → rel a ι' h'.length H' b → Q b H'
  | _ => False
section
variable {k : Cst} {Wx : WX} {σ : L2.St} {α β γ δ : Type} {ι ι1 : Nat → Addr} {h h1 : AH} {H H1 : Hp} {rel : Rel α β} {rel2 : Rel γ δ}
theorem WPE.move {r : Res α} {Q : β → Hp → Prop} (r0 : R k ι h H) (p : Post k ι h H ι1 h1 H1) (w : WPE k Wx σ r ι h H rel Q) : WPE k Wx σ r ι1 h1 H1 rel Q := by
  cases r with
  | ok a h' => exact fun ι' H' b q e => w ι' H' b (p.trans r0 q) e
  | exc c xs ws h' => exact fun ι' H' d q e => w ι' H' d (p.trans r0 q) e
  | stuck => exact w
theorem WPE.bind {r : Res α} {f : α → AH → Res γ} {Q : δ → Hp → Prop} (r0 : R k ι h H) (w : WPE k Wx σ (r.bind f) ι h H rel2 Q) :
    WPE k Wx σ r ι h H rel fun b H1 => ∃ a ι1 h1, Post k ι h H ι1 h1 H1 ∧ rel a ι1 h1.length H1 b ∧ WPE k Wx σ (f a h1) ι1 h1 H1 rel2 Q := by
  cases r with
  | ok a h' => exact fun ι' H' b p e => ⟨a, ι', h', p, e, WPE.move (rel := rel2) r0 p w⟩
  | exc c xs ws h' => exact w
  | stuck => exact w
theorem WPE.imp {r : Res α} {Q Q' : β → Hp → Prop} (w : WPE k Wx σ r ι h H rel Q) (f : ∀ b H', Q b H' → Q' b H') : WPE k Wx σ r ι h H rel Q' := by
  cases r with
  | ok a h' => exact fun ι' H' b p e => f _ _ (w ι' H' b p e)
  | exc c xs ws h' => exact w
  | stuck => exact w
theorem WPV.of {r : Res α} {Q : β → Hp → Prop} (w : WPE k Wx σ r ι h H rel Q) (hn : ∀ c xs ws h', r ≠ .exc c xs ws h') : WPV k r ι h H rel Q := by
  cases r with
  | ok a h' => exact w
  | exc c xs ws h' => exact absurd rfl (hn _ _ _ _)
  | stuck => exact w
end
abbrev relW (k : Cst) : Rel W V := fun w ι n H v => RelW k ι n H w v
abbrev relB : Rel Bool Bool := fun a _ _ _ b => a = b
abbrev relWs (k : Cst) : Rel (List W) (List V) := fun w ι n H v => RelWs k ι n H w v
abbrev relI : Rel (Option Int) (Option Int) := fun a _ _ _ b => a = b
abbrev relU : Rel Unit Unit := fun _ _ _ _ _ => True

def bopOf : Bop → Operator
  | .add => .Add | .sub => .Sub | .mul => .Mult | .fdiv => .FloorDiv | .mod => .Mod | .pow => .Pow
def copOf : Cop → CmpOp
  | .eq => .Eq | .ne => .NotEq | .lt => .Lt | .le => .LtE | .gt => .Gt | .ge => .GtE | .isn => .Is | .isnt => .IsNot | .in_ => .In | .nin => .NotIn
theorem binW_nx {op : Bop} {x y : W} {h : AH} (c xs ws h') : binW op x y h ≠ .exc c xs ws h' := by
  unfold binW
  split <;> (try split) <;> (try split) <;> simp
theorem optR_nx {o f h} (c xs ws h') : optR o f h ≠ .exc c xs ws h' := by
  unfold optR
  split <;> simp
theorem cmpW_nx {op : Cop} {x y : W} {h : AH} (c xs ws h') : cmpW op x y h ≠ .exc c xs ws h' := by
  unfold cmpW
  split <;> first | exact optR_nx _ _ _ _ | (split <;> simp) | simp
def rB (k : Cst) (op : Bop) : R2 := fun x y H Q => ∃ ι h a b, R k ι h H ∧ RelW k ι h.length H a x ∧ RelW k ι h.length H b y ∧ WPV k (binW op a b h) ι h H (relW k) Q
def rC (k : Cst) (op : Cop) : R2 := fun x y H Q => ∃ ι h a b, R k ι h H ∧ RelW k ι h.length H a x ∧ RelW k ι h.length H b y ∧ WPV k (cmpW op a b h) ι h H (relW k) Q

section
variable {X : Cx} {k : Cst} {ι : Nat → Addr} {h : AH} {H : Hp}
theorem sz_ok {n : Nat} (e : szOk n = true) : n ≤ sizeLine := by
  have e2 := of_decide_eq_true e
  rw [sizeLine_eq]
  omega
theorem R.lst (r : R k ι h H) {l : Nat} {ws : List W} (e : h[l]? = some (.lst ws)) : ∃ vs, H (ι l) = some (.lst vs) ∧ RelWs k ι h.length H ws vs := r.obj l _ e
theorem intBits_le (i : Int) : (Builtin.Int.intBits i : Int) ≤ (bigI i + 1 : Int) := by
  unfold Builtin.Int.intBits bigI
  split <;> omega
theorem log2_lt64 {i : Int} (h : i.natAbs < 2 ^ 64) : -(2 ^ 64) < i ∧ i < 2 ^ 64 := by omega
/-- a new tuple is the answer -/
theorem WPV.tup {ws : List W} {vs : List V} {Q : VK} (r : R k ι h H) (q : RelWs k ι h.length H ws vs) (w : WPV k (.ok (.tup ws) h) ι h H (relW k) Q) : ∀ p, H p = none → Q (.ref p) (upd H p (.tup vs)) := fun p hp => by
  have po := Post.side (o := .tup vs) r hp
  refine w ι _ _ po ?_
  show RelW k ι h.length _ (.tup ws) _
  unfold RelW
  exact ⟨p, vs, rfl, .of upd_same, RelWs.keep (po.keep r) ws q⟩
/-- a new list -/
theorem WPV.lst {ws : List W} {vs : List V} {Q : VK} (r : R k ι h H) (q : RelWs k ι h.length H ws vs) (w : WPV k (.ok (.loc h.length) (h ++ [.lst ws])) ι h H (relW k) Q) : ∀ p, H p = none → Q (.ref p) (upd H p (.lst vs)) := fun p hp => by
  have po := Post.alloc (o := .lst ws) (ho := .lst vs) r hp fun ι' n' H' kp e => ⟨vs, e, RelWs.keep kp ws q⟩
  refine w _ _ _ po ?_
  show RelW k _ _ _ (.loc h.length) _
  unfold RelW
  exact ⟨by simp, by rw [snoc_eq]⟩
theorem WPV.same {a : W} {v : V} {Q : VK} (r : R k ι h H) (w : WPV k (.ok a h) ι h H (relW k) Q) (e : RelW k ι h.length H a v) : Q v H := w ι H v (Post.refl r) e

theorem flat_nil {α : Type} : ∀ n : Nat, (List.replicate n ([] : List α)).flatten = []
  | 0 => rfl
  | n + 1 => by rw [List.replicate_succ, List.flatten_cons, flat_nil n]; rfl
theorem RelWs.rep {n : Nat} {ws : List W} {vs : List V} (r : RelWs k ι n H ws vs) : ∀ m : Nat, RelWs k ι n H (List.replicate m ws).flatten (List.replicate m vs).flatten
  | 0 => .nil
  | m + 1 => by
    rw [List.replicate_succ, List.replicate_succ, List.flatten_cons, List.flatten_cons]
    exact r.append (r.rep m)
theorem op_binA (hK : X.K = k.K) (op : Bop) : OpR X (binaryOp (bopOf op)) (rB k op) := by
  intro pins s σ H x y v u Q I rx ry hq
  obtain ⟨ι, h, a, b, r, ra, rb, w⟩ := hq
  unfold binW at w
  split at w
  · -- add ints
    unfold RelW at ra rb
    subst ra rb
    exact op_add pins s σ H _ _ v u Q I rx ry ⟨_, _, rfl, rfl, WPV.same r w (by unfold RelW; rfl)⟩
  · split at w
    · rename_i e
      unfold RelW at ra rb
      subst ra rb
      exact op_add_str pins s σ H _ _ v u Q I rx ry ⟨_, _, rfl, rfl, sz_ok e, WPV.same r w (by unfold RelW; rfl)⟩
    · exact w.elim
  · split at w
    · rename_i e
      unfold RelW at ra rb
      obtain ⟨p, vs, rfl, hp, rv⟩ := ra
      obtain ⟨p2, vs2, rfl, hp2, rv2⟩ := rb
      refine op_catA pins s σ H _ _ v u Q I rx ry ⟨p, p2, vs, vs2, rfl, rfl, by rw [hK]; exact hp, by rw [hK]; exact hp2, by rw [← rv.len, ← rv2.len]; exact sz_ok e, fun z => ?_, fun _ z => ?_, fun _ _ => WPV.tup r (rv.append rv2) w⟩
      · subst z
        refine WPV.same r w ?_
        unfold RelW
        refine ⟨p2, vs2, rfl, hp2, ?_⟩
        have := rv.append rv2
        simpa using this
      · subst z
        refine WPV.same r w ?_
        unfold RelW
        refine ⟨p, vs, rfl, hp, ?_⟩
        have := rv.append rv2
        simpa using this
    · exact w.elim
  · split at w
    · rename_i e1 e2
      split at w
      · rename_i e
        unfold RelW at ra rb
        obtain ⟨_, rfl⟩ := ra
        obtain ⟨_, rfl⟩ := rb
        obtain ⟨vs, hv, rv⟩ := r.lst e1
        obtain ⟨vs2, hv2, rv2⟩ := r.lst e2
        exact op_cat pins s σ H _ _ v u Q I rx ry ⟨_, _, vs, vs2, rfl, rfl, hv, hv2, by rw [← rv.len, ← rv2.len]; exact sz_ok e, WPV.lst r (rv.append rv2) w⟩
      · exact w.elim
    · exact w.elim
  · unfold RelW at ra rb
    subst ra rb
    exact op_sub pins s σ H _ _ v u Q I rx ry ⟨_, _, rfl, rfl, WPV.same r w (by unfold RelW; rfl)⟩
  · split at w
    · rename_i e
      unfold RelW at ra rb
      subst ra rb
      unfold mulOk at e
      simp only [Bool.or_eq_true, decide_eq_true_eq] at e
      rcases e with (e | e) | e
      · exact op_mul pins s σ H _ _ v u Q I rx ry ⟨_, _, rfl, rfl, .inl (log2_lt64 e), WPV.same r w (by unfold RelW; rfl)⟩
      · exact op_mul pins s σ H _ _ v u Q I rx ry ⟨_, _, rfl, rfl, .inr (log2_lt64 e), WPV.same r w (by unfold RelW; rfl)⟩
      · exact op_mulW pins s σ H _ _ v u Q I rx ry ⟨_, _, rfl, rfl, e, WPV.same r w (by unfold RelW; rfl)⟩
    · exact w.elim
  · split at w
    · rename_i e
      unfold repOk at e
      simp only [Bool.and_eq_true, decide_eq_true_eq] at e
      have ra0 := ra
      unfold RelW at ra rb
      obtain ⟨p, vs, rfl, hp, rv⟩ := ra
      subst rb
      refine op_times pins s σ H _ _ v u Q I rx ry ⟨p, _, vs, rfl, rfl, by rw [hK]; exact hp, e.1.2, e.2, by rw [← rv.len]; exact e.1.1, fun z => ?_, fun _ _ => WPV.tup r (rv.rep _) w⟩
      refine WPV.same r w ?_
      rcases z with z | z
      · subst z
        have l0 := List.eq_nil_of_length_eq_zero (rv.len.trans rfl)
        subst l0
        rw [flat_nil]
        exact ra0
      · subst z
        show RelW k ι h.length H (.tup (List.replicate 1 _).flatten) _
        simpa using ra0
    · exact w.elim
  · split at w
    · rename_i e1
      split at w
      · rename_i e
        unfold repOk at e
        simp only [Bool.and_eq_true, decide_eq_true_eq] at e
        unfold RelW at ra rb
        obtain ⟨_, rfl⟩ := ra
        subst rb
        obtain ⟨vs, hv, rv⟩ := r.lst e1
        refine op_rep pins s σ H _ _ v u Q I rx ry ⟨_, _, vs, rfl, rfl, hv, by omega, by omega, ?_, WPV.lst r (rv.rep _) w⟩
        rw [← rv.len, sizeLine_eq]
        exact Nat.le_trans (Nat.mul_le_mul e.1.1 (Int.toNat_le.mpr e.2 : _ ≤ 1000)) (by decide)
      · exact w.elim
    · exact w.elim
  · split at w
    · rename_i e
      unfold RelW at ra rb
      subst ra rb
      unfold fdivOk at e
      simp only [Bool.and_eq_true, decide_eq_true_eq] at e
      exact op_fdivW pins s σ H _ _ v u Q I rx ry ⟨_, _, rfl, rfl, ⟨e.1, e.2⟩, WPV.same r w (by unfold RelW; rfl)⟩
    · exact w.elim
  · split at w
    · rename_i e
      unfold RelW at ra rb
      subst ra rb
      exact op_mod pins s σ H _ _ v u Q I rx ry ⟨_, _, rfl, rfl, e, WPV.same r w (by unfold RelW; rfl)⟩
    · exact w.elim
  · split at w
    · rename_i e
      unfold RelW at ra rb
      subst ra rb
      unfold powOk at e
      simp only [Bool.and_eq_true, decide_eq_true_eq] at e
      refine opI (C := fun i n => 0 ≤ n ∧ (Builtin.Int.intBits i : Int) * n ≤ 2 ^ 27) (g := fun i n => i ^ n.toNat) (fun i n t u s Q E hc q => PyProof.Rows.pow_int hc.1 hc.2 q) pins s σ H _ _ v u Q I rx ry ⟨_, _, rfl, rfl, ⟨e.1, ?_⟩, WPV.same r w (by unfold RelW; rfl)⟩
      have e2 := e.2
      exact Int.le_trans (Int.mul_le_mul_of_nonneg_right (intBits_le _) e.1) e2
    · exact w.elim
  · exact w.elim

/-! ### comparisons -/
mutual
theorem dp_of (r : R k ι h H) : ∀ (w : W) {v : V} {d : PyData}, RelW k ι h.length H w v → toDf w = some d → Dp k.K H v d
  | .non, v, d, e, q => by
    unfold RelW at e
    cases q
    subst e
    exact .non
  | .bl b, v, d, e, q => by
    unfold RelW at e
    cases q
    subst e
    exact .bl b
  | .int b, v, d, e, q => by
    unfold RelW at e
    cases q
    subst e
    exact .int b
  | .str b, v, d, e, q => by
    unfold RelW at e
    cases q
    subst e
    exact .str b
  | .tup ws, v, d, e, q => by
    unfold RelW at e
    obtain ⟨a, vs, rfl, hs, rs⟩ := e
    unfold toDf at q
    obtain ⟨ds, q1, rfl⟩ := Option.map_eq_some_iff.mp q
    exact .tup hs (dps_of r ws rs q1)
  | .loc l, v, d, e, q => by cases q
  | .exo _ _ _, v, d, e, q => by cases q
  | .scr, v, d, e, q => by cases q
theorem dps_of (r : R k ι h H) : ∀ (ws : List W) {vs : List V} {ds : List PyData}, RelWs k ι h.length H ws vs → toDfs ws = some ds → DpAll k.K H vs ds
  | [], vs, ds, e, q => by
    unfold RelWs at e
    cases q
    subst e
    exact .nil
  | w :: ws, vs, ds, e, q => by
    unfold RelWs at e
    obtain ⟨v, t, rfl, rv, rt⟩ := e
    unfold toDfs at q
    split at q
    · rename_i d ds' q1 q2
      cases q
      exact .cons (dp_of r w rv q1) (dps_of r ws rt q2)
    · cases q
end
theorem dpH_of (r : R k ι h H) {w : W} {v : V} {d : PyData} (e : RelW k ι h.length H w v) (q : toD h w = some d) : Dp k.K H v d := by
  unfold toD at q
  split at q
  · split at q
    · rename_i ws e2
      obtain ⟨ds, q1, rfl⟩ := Option.map_eq_some_iff.mp q
      unfold RelW at e
      obtain ⟨_, rfl⟩ := e
      obtain ⟨vs, hv, rv⟩ := r.lst e2
      exact .lst (.of hv) (dps_of r ws rv q1)
    · cases q
  · exact dp_of r _ e q
theorem eqW_cases {x y : W} {b : Bool} (e : eqW h x y = some b) : (∃ s t, x = .str s ∧ y = .str t ∧ decide (s = t) = b) ∨ eqD h x y = some b := by
  unfold eqW at e
  split at e
  · cases e
    exact .inl ⟨_, _, rfl, rfl, rfl⟩
  · exact .inr e
theorem eqW_some {x y : W} {b : Bool} (e : eqD h x y = some b) : ∃ d d', toD h x = some d ∧ toD h y = some d' ∧ shp d = true ∧ shp d' = true ∧ PyData.eqv d d' = b := by
  unfold eqD at e
  split at e
  · rename_i d d' e1 e2
    split at e
    · rename_i z
      simp only [Bool.and_eq_true] at z
      cases e
      exact ⟨d, d', e1, e2, z.1, z.2, rfl⟩
    · cases e
  · cases e
theorem optR_v {o : Option Bool} {f : Bool → Bool} {Q : VK} (r : R k ι h H) (w : WPV k (optR o f h) ι h H (relW k) Q) : ∃ b, o = some b ∧ Q (.bl (f b)) H := by
  unfold optR at w
  split at w
  · exact ⟨_, rfl, WPV.same r w (by unfold RelW; rfl)⟩
  · exact w.elim
theorem RelW.isn {w : W} {v : V} {n : Nat} (e : RelW k ι n H w v) : decide (v = .non) = decide (w = .non) := by
  cases w <;> unfold RelW at e
  · subst e
    rfl
  · subst e
    rfl
  · subst e
    rfl
  · subst e
    rfl
  · obtain ⟨a, vs, rfl, _⟩ := e
    rfl
  · obtain ⟨_, rfl⟩ := e
    rfl
  · obtain ⟨a, rfl, _⟩ := e
    rfl
  · subst e
    rfl
theorem scal_flat {w : W} {v : V} {n : Nat} (e : RelW k ι n H w v) (z : scalW w = true) : flatV v = true := by
  cases w <;> first
    | (unfold RelW at e; subst e; rfl)
    | (unfold scalW at z; cases z)
theorem scals_flat {n : Nat} : ∀ {ws : List W} {vs : List V}, RelWs k ι n H ws vs → ws.all scalW = true → vs.all flatV = true
  | [], vs, e, _ => by
    unfold RelWs at e
    subst e
    rfl
  | w :: ws, vs, e, z => by
    unfold RelWs at e
    obtain ⟨v, t, rfl, rv, rt⟩ := e
    rw [List.all_cons, Bool.and_eq_true] at z
    rw [List.all_cons, scal_flat rv z.1, scals_flat rt z.2]
    rfl
theorem eqv_eqV {n : Nat} {w u : W} {v y : V} {d e : PyData} (r1 : RelW k ι n H w v) (r2 : RelW k ι n H u y) (z1 : scalW w = true) (z2 : scalW u = true) (q1 : toDf w = some d) (q2 : toDf u = some e) : eqV v y = PyData.eqv d e := by
  cases w <;> first
    | (unfold scalW at z1; cases z1; done)
    | (cases u <;> first
        | (unfold scalW at z2; cases z2; done)
        | (unfold RelW at r1 r2; subst r1 r2; cases q1; cases q2; simp [eqV, PyData.eqv]))
theorem anyV_eqv {n : Nat} {x : W} {v : V} {d : PyData} (rx : RelW k ι n H x v) (zx : scalW x = true) (qx : toDf x = some d) : ∀ {ws : List W} {vs : List V} {ds : List PyData}, RelWs k ι n H ws vs → ws.all scalW = true → toDfs ws = some ds → (vs.any fun y => eqV y v) = ds.any fun z => PyData.eqv z d
  | [], vs, ds, e, _, q => by
    unfold RelWs at e
    subst e
    cases q
    rfl
  | w :: ws, vs, ds, e, z, q => by
    unfold RelWs at e
    obtain ⟨u, t, rfl, rv, rt⟩ := e
    rw [List.all_cons, Bool.and_eq_true] at z
    unfold toDfs at q
    split at q
    · rename_i d1 ds1 q1 q2
      cases q
      rw [List.any_cons, List.any_cons, eqv_eqV rv rx z.1 zx q1 qx, anyV_eqv rx zx qx rt z.2 q2]
    · cases q
theorem inData_some {x : W} {ws : List W} {b : Bool} (e : inData x ws = some b) : ∃ d ds, toDf x = some d ∧ toDfs ws = some ds ∧ shp d = true ∧ shp (.list ds) = true ∧ b = ds.any fun z => PyData.eqv z d := by
  unfold inData at e
  split at e
  · rename_i d ds q1 q2
    split at e
    · rename_i z
      simp only [Bool.and_eq_true] at z
      cases e
      exact ⟨d, ds, q1, q2, z.1, z.2, rfl⟩
    · cases e
  · cases e
theorem str_dec {x y : Str} : decide (V.str x = V.str y) = decide (x = y) := by
  by_cases e : x = y
  · subst e
    simp
  · rw [decide_eq_false e, decide_eq_false fun z => e (V.str.inj z)]
theorem op_cmpA (hK : X.K = k.K) (hu : X.A.units + 65 < cLine) (op : Cop) : OpR X (compareOp (copOf op)) (rC k op) := by
  intro pins s σ H x y v u Q I rx ry hq
  obtain ⟨ι, h, a, b, r, ra, rb, w⟩ := hq
  unfold cmpW at w
  split at w
  · obtain ⟨c, e, q⟩ := optR_v r w
    rcases eqW_cases e with ⟨x1, y1, rfl, rfl, rfl⟩ | e
    · unfold RelW at ra rb
      subst ra rb
      exact op_eq pins s σ H _ _ v u Q I rx ry ⟨rfl, by rw [str_dec]; exact q⟩
    obtain ⟨d, d', q1, q2, s1, s2, rfl⟩ := eqW_some e
    exact op_eqD (by omega) pins s σ H _ _ v u Q I rx ry ⟨d, d', by rw [hK]; exact dpH_of r ra q1, by rw [hK]; exact dpH_of r rb q2, s1, s2, q⟩
  · obtain ⟨c, e, q⟩ := optR_v r w
    rcases eqW_cases e with ⟨x1, y1, rfl, rfl, rfl⟩ | e
    · unfold RelW at ra rb
      subst ra rb
      exact op_ne pins s σ H _ _ v u Q I rx ry ⟨rfl, by rw [str_dec]; exact q⟩
    obtain ⟨d, d', q1, q2, s1, s2, rfl⟩ := eqW_some e
    exact op_neD (by omega) pins s σ H _ _ v u Q I rx ry ⟨d, d', by rw [hK]; exact dpH_of r ra q1, by rw [hK]; exact dpH_of r rb q2, s1, s2, q⟩
  · split at w
    · unfold RelW at ra rb
      subst ra rb
      exact op_lt pins s σ H _ _ v u Q I rx ry ⟨_, _, rfl, rfl, WPV.same r w (by unfold RelW; rfl)⟩
    · exact w.elim
  · split at w
    · unfold RelW at ra rb
      subst ra rb
      exact op_le pins s σ H _ _ v u Q I rx ry ⟨_, _, rfl, rfl, WPV.same r w (by unfold RelW; rfl)⟩
    · exact w.elim
  · split at w
    · unfold RelW at ra rb
      subst ra rb
      exact op_gt pins s σ H _ _ v u Q I rx ry ⟨_, _, rfl, rfl, WPV.same r w (by unfold RelW; rfl)⟩
    · exact w.elim
  · split at w
    · unfold RelW at ra rb
      subst ra rb
      exact op_ge pins s σ H _ _ v u Q I rx ry ⟨_, _, rfl, rfl, WPV.same r w (by unfold RelW; rfl)⟩
    · exact w.elim
  · obtain ⟨c, e, q⟩ := optR_v r w
    unfold isW at e
    split at e
    · cases e
      unfold RelW at rb
      subst rb
      exact op_isN pins s σ H _ _ v u Q I rx ry ⟨rfl, by rw [ra.isn]; exact q⟩
    · cases e
      unfold RelW at ra rb
      subst ra rb
      exact op_is_bl pins s σ H _ _ v u Q I rx ry ⟨_, _, rfl, rfl, q⟩
    · cases e
  · obtain ⟨c, e, q⟩ := optR_v r w
    unfold isW at e
    split at e
    · cases e
      unfold RelW at rb
      subst rb
      exact op_notN pins s σ H _ _ v u Q I rx ry ⟨rfl, by rw [ra.isn]; exact q⟩
    · cases e
      unfold RelW at ra rb
      subst ra rb
      exact op_isnot_bl pins s σ H _ _ v u Q I rx ry ⟨_, _, rfl, rfl, q⟩
    · cases e
  · obtain ⟨c, e, q⟩ := optR_v r w
    unfold inW at e
    split at e
    · split at e
      · rename_i z
        simp only [Bool.and_eq_true] at z
        obtain ⟨d, ds, q1, q2, s1, s2, rfl⟩ := inData_some e
        unfold RelW at rb
        obtain ⟨p, vs, rfl, hp, rv⟩ := rb
        refine op_in_seq pins s σ H _ _ v u Q I rx ry ⟨p, vs, rfl, .inr (by rw [hK]; exact hp), scal_flat ra z.1, scals_flat rv z.2, ?_⟩
        unfold inV
        rw [anyV_eqv ra z.1 q1 rv z.2 q2]
        exact q
      · cases e
    · split at e
      · rename_i ws e2
        obtain ⟨d, ds, q1, q2, s1, s2, rfl⟩ := inData_some e
        unfold RelW at rb
        obtain ⟨_, rfl⟩ := rb
        obtain ⟨vs, hv, rv⟩ := r.lst e2
        exact op_inD hu pins s σ H _ _ v u Q I rx ry ⟨d, ds, by rw [hK]; exact dp_of r _ ra q1, by rw [hK]; exact .lst (.of hv) (dps_of r ws rv q2), s1, s2, q⟩
      · cases e
    · cases e
  · obtain ⟨c, e, q⟩ := optR_v r w
    unfold inW at e
    split at e
    · split at e
      · rename_i z
        simp only [Bool.and_eq_true] at z
        obtain ⟨d, ds, q1, q2, s1, s2, rfl⟩ := inData_some e
        unfold RelW at rb
        obtain ⟨p, vs, rfl, hp, rv⟩ := rb
        refine op_notIn_seq pins s σ H _ _ v u Q I rx ry ⟨p, vs, rfl, .inr (by rw [hK]; exact hp), scal_flat ra z.1, scals_flat rv z.2, ?_⟩
        unfold inV
        rw [anyV_eqv ra z.1 q1 rv z.2 q2]
        exact q
      · cases e
    · split at e
      · rename_i ws e2
        obtain ⟨d, ds, q1, q2, s1, s2, rfl⟩ := inData_some e
        unfold RelW at rb
        obtain ⟨_, rfl⟩ := rb
        obtain ⟨vs, hv, rv⟩ := r.lst e2
        exact op_notInD hu pins s σ H _ _ v u Q I rx ry ⟨d, ds, by rw [hK]; exact dp_of r _ ra q1, by rw [hK]; exact .lst (.of hv) (dps_of r ws rv q2), s1, s2, q⟩
      · cases e
    · cases e
end
end AM
/-! Truth, subscripts, slices, built-in functions. -/
namespace AM
open PySem L2
section
variable {X : Cx} {k : Cst} {ι : Nat → Addr} {h : AH} {H : Hp}
theorem empty_len {ws : List W} {vs : List V} (e : ws.length = vs.length) : (!ws.isEmpty) = !vs.isEmpty := by
  cases ws with
  | nil =>
    cases vs with
    | nil => rfl
    | cons _ _ => cases e
  | cons _ _ =>
    cases vs with
    | nil => cases e
    | cons _ _ => rfl
theorem truV_of (hK : X.K = k.K) (r : R k ι h H) {w : W} {v : V} {b : Bool} (e : RelW k ι h.length H w v) (q : truW h w = some b) : TruV X.K v H b := by
  unfold truW at q
  split at q
  · cases q
    unfold RelW at e
    subst e
    exact rfl
  · cases q
    unfold RelW at e
    subst e
    exact rfl
  · cases q
    unfold RelW at e
    subst e
    exact rfl
  · cases q
    unfold RelW at e
    obtain ⟨a, vs, rfl, hs, rs⟩ := e
    exact .inr (.inl ⟨vs, by rw [hK]; exact hs, empty_len rs.len⟩)
  · split at q
    · rename_i ws e2
      cases q
      unfold RelW at e
      obtain ⟨_, rfl⟩ := e
      obtain ⟨vs, hv, rv⟩ := r.lst e2
      exact .inl ⟨vs, .of hv, empty_len rv.len⟩
    · cases q
  · cases q
theorem atI_get2 {n : Nat} {ws : List W} {vs : List V} {i : Int} {w : W} (r : RelWs k ι n H ws vs) (e : atI ws i = some w) : ∃ v, atI vs i = some v ∧ RelW k ι n H w v := by
  unfold atI at e ⊢
  obtain ⟨j, e1, e2⟩ := Option.bind_eq_some_iff.mp e
  obtain ⟨v, q1, q2⟩ := r.get e2
  exact ⟨v, by rw [← r.len, e1]; exact q1, q2⟩
def subR (g : Ev) (x i : W) (h : AH) : Res W := match x with
  | .scr => subS g.sc i h
  | x => subW x i h
def rSub (k : Cst) (g : Ev) : R2 := fun x y H Q => ∃ ι h a b, R k ι h H ∧ RelW k ι h.length H a x ∧ RelW k ι h.length H b y ∧ WPV k (subR g a b h) ι h H (relW k) Q
theorem subR_nx {g : Ev} {x i : W} {h : AH} (c xs ws h') : subR g x i h ≠ .exc c xs ws h' := by
  unfold subR subS subW
  split <;> split <;> (try split) <;> (try split) <;> simp
theorem atI_map {ns : List Int} {i : Int} {n : Int} (e : atI ns i = some n) : atI (ns.map V.int) i = some (.int n) := by
  unfold atI at e ⊢
  obtain ⟨j, e1, e2⟩ := Option.bind_eq_some_iff.mp e
  rw [List.length_map, e1]
  show (ns.map V.int)[j]? = _
  rw [List.getElem?_map, e2]
  rfl
theorem ix_A {g : Ev} (hK : X.K = k.K) (hg : g.sc = k.sc) : IxR X (rSub k g) := by
  intro value slice pins s σ H x y v u Q I rx ry hq hs'
  obtain ⟨ι, h, a, b, r, ra, rb, w⟩ := hq
  unfold subR at w
  split at w
  · unfold subS at w
    split at w
    · split at w
      · rename_i n e
        unfold RelW at ra rb
        subst ra rb
        rw [hg] at e
        exact ix_list value slice pins s σ H _ _ v u Q I rx ry ⟨_, _, _, _, rfl, rfl, by rw [hK]; exact r.scr.sq, atI_map e, WPV.same r w (by unfold RelW; rfl)⟩ hs'
      · exact w.elim
    · exact w.elim
  · unfold subW at w
    split at w
    · split at w
      · rename_i e
        unfold RelW at ra rb
        obtain ⟨p, vs, rfl, hp, rv⟩ := ra
        subst rb
        obtain ⟨z, e1, e2⟩ := atI_get2 rv e
        exact ix_tup value slice pins s σ H _ _ v u Q I rx ry ⟨_, _, _, _, rfl, rfl, by rw [hK]; exact hp, e1, WPV.same r w e2⟩ hs'
      · exact w.elim
    · split at w
      · rename_i e0
        split at w
        · rename_i e
          unfold RelW at ra rb
          obtain ⟨_, rfl⟩ := ra
          subst rb
          obtain ⟨vs, hv, rv⟩ := r.lst e0
          obtain ⟨z, e1, e2⟩ := atI_get2 rv e
          exact ix_list value slice pins s σ H _ _ v u Q I rx ry ⟨_, _, _, _, rfl, rfl, .of hv, e1, WPV.same r w e2⟩ hs'
        · exact w.elim
      · exact w.elim
    · exact w.elim
theorem cut_rel {n : Nat} {ws : List W} {vs : List V} (r : RelWs k ι n H ws vs) (lo hi : Option Int) : RelWs k ι n H (cutW ws lo hi) (cutV vs lo hi) := by
  unfold cutW cutV
  rw [r.len]
  exact (r.drop _).take _
theorem relWs_ints {n : Nat} : ∀ (is : List Int), RelWs k ι n H (is.map .int) (is.map V.int)
  | [] => .nil
  | i :: is => .cons (by unfold RelW; rfl) (relWs_ints is)
def rSlc (k : Cst) : V → Option Int → Option Int → Hp → VK → Prop := fun x lo hi H Q => ∃ ι h a, R k ι h H ∧ RelW k ι h.length H a x ∧ WPV k (slcR k.sc a lo hi h) ι h H (relW k) Q
theorem slcR_nx {ns : List Int} {x : W} {lo hi : Option Int} {h : AH} (c xs ws h') : slcR ns x lo hi h ≠ .exc c xs ws h' := by
  unfold slcR slcW
  split <;> (try split) <;> (try split) <;> simp
theorem slcW_nx {x : W} {lo hi : Option Int} {h : AH} (c xs ws h') : slcW x lo hi h ≠ .exc c xs ws h' := by
  unfold slcW
  split <;> (try split) <;> simp
theorem cutV_whole (vs : List V) (lo hi : Option Int) (e : HT.sIx vs.length 0 lo = 0 ∧ HT.sIx vs.length vs.length hi = vs.length) : cutV vs lo hi = vs := by
  unfold cutV
  rw [e.1, e.2]
  simp
theorem sl_A (hK : X.K = k.K) : SlR X (rSlc k) := by
  intro pins s σ H x v vl vu lo hi sl Q I rx hs pl pu hq
  obtain ⟨ι, h, a, r, ra, w⟩ := hq
  unfold slcR at w
  split at w
  · unfold RelW at ra
    subst ra
    have rc : RelWs k ι h.length H ((cutW k.sc lo hi).map .int) (cutV (k.sc.map V.int) lo hi) := by
      unfold cutW cutV
      rw [List.length_map, ← List.map_drop, ← List.map_take]
      exact relWs_ints _
    exact sl_list pins s σ H _ v vl vu lo hi sl Q I rx hs pl pu ⟨_, _, rfl, by rw [hK]; exact r.scr.sq, WPV.lst r rc w⟩
  unfold slcW at w
  split at w
  · rename_i ws
    unfold RelW at ra
    obtain ⟨p, vs, rfl, hp, rv⟩ := ra
    have rc := cut_rel rv lo hi
    refine sl_tupA pins s σ H _ v vl vu lo hi sl Q I rx hs pl pu ⟨p, vs, rfl, by rw [hK]; exact hp, fun z => ?_, fun _ => WPV.tup r rc w⟩
    refine WPV.same r w ?_
    unfold RelW
    rw [cutV_whole vs lo hi z] at rc
    exact ⟨p, vs, rfl, hp, rc⟩
  · split at w
    · rename_i e
      unfold RelW at ra
      obtain ⟨_, rfl⟩ := ra
      obtain ⟨vs, hv, rv⟩ := r.lst e
      exact sl_list pins s σ H _ v vl vu lo hi sl Q I rx hs pl pu ⟨_, vs, rfl, .of hv, WPV.lst r (cut_rel rv lo hi) w⟩
    · exact w.elim
  · exact w.elim
/-! ### built-in functions -/
def primV : Prim → Value
  | .len => .builtin "len" | .int => .type "int" | .abs => .builtin "abs" | .str => .type "str" | .repr => .builtin "repr" | .max2 => .builtin "max" | .min2 => .builtin "min"
  | .tuple => .type "tuple" | .list => .type "list" | .isi _ _ => .builtin "isinstance" | .all => .builtin "all" | .any => .builtin "any" | .sum => .builtin "sum" | .min => .builtin "min" | .max => .builtin "max"
  | .sorted => .builtin "sorted" | .sortedSet => .builtin "sorted" | .lenSet => .builtin "len"
def rPrim (k : Cst) (g : Ev) (p : Prim) : List V → Hp → VK → Prop := fun xs H Q => ∃ ι h ws, R k ι h H ∧ RelWs k ι h.length H ws xs ∧ WPV k (primW g p ws h) ι h H (relW k) Q
theorem seqL_nx {p : Prim} {ws : List W} {h : AH} (c xs vs h') : seqL p ws h ≠ .exc c xs vs h' := by
  unfold seqL
  split <;> simp
theorem primW_nx {g : Ev} {p : Prim} {ws : List W} {h : AH} (c xs vs h') : primW g p ws h ≠ .exc c xs vs h' := by
  unfold primW
  split <;> (try split) <;> (try split) <;> (try split) <;> first | exact seqL_nx _ _ _ _ | simp
theorem RelWs.one {n : Nat} {w : W} {xs : List V} (e : RelWs k ι n H [w] xs) : ∃ v, xs = [v] ∧ RelW k ι n H w v := by
  unfold RelWs at e
  obtain ⟨v, r, rfl, q, e⟩ := e
  unfold RelWs at e
  subst e
  exact ⟨v, rfl, q⟩
theorem RelWs.two {n : Nat} {w u : W} {xs : List V} (e : RelWs k ι n H [w, u] xs) : ∃ v z, xs = [v, z] ∧ RelW k ι n H w v ∧ RelW k ι n H u z := by
  unfold RelWs at e
  obtain ⟨v, r, rfl, q, e⟩ := e
  obtain ⟨z, rfl, q2⟩ := e.one
  exact ⟨v, z, rfl, q, q2⟩
theorem ints_rel {n : Nat} : ∀ {ws : List W} {vs : List V} {is : List Int}, RelWs k ι n H ws vs → intsOf ws = some is → vs = is.map V.int
  | [], vs, is, e, q => by
    unfold RelWs at e
    cases q
    exact e
  | w :: ws, vs, is, e, q => by
    unfold RelWs at e
    obtain ⟨v, t, rfl, rv, rt⟩ := e
    unfold intsOf at q
    split at q
    · cases ‹_ :: _ = []›
    · rename_i b ws' hb
      cases hb
      obtain ⟨cs, q1, rfl⟩ := Option.map_eq_some_iff.mp q
      unfold RelW at rv
      subst rv
      rw [ints_rel rt q1]
      rfl
    · cases q
theorem maxI_ok : ∀ (is : List Int) (m : Int), (maxI m is = m ∨ maxI m is ∈ is) ∧ m ≤ maxI m is ∧ ∀ y ∈ is, y ≤ maxI m is
  | [], m => ⟨.inl rfl, Int.le_refl _, fun _ z => nomatch z⟩
  | i :: is, m => by
    have q := maxI_ok is (if i > m then i else m)
    unfold maxI
    refine ⟨?_, ?_, fun y hy => ?_⟩
    · rcases q.1 with e | e
      · rw [e]
        split
        · exact .inr List.mem_cons_self
        · exact .inl rfl
      · exact .inr (List.mem_cons_of_mem _ e)
    · have := q.2.1
      split at this <;> omega
    · rcases List.mem_cons.mp hy with rfl | hy
      · have := q.2.1
        split at this <;> omega
      · exact q.2.2 y hy
theorem minI_ok : ∀ (is : List Int) (m : Int), (minI m is = m ∨ minI m is ∈ is) ∧ minI m is ≤ m ∧ ∀ y ∈ is, minI m is ≤ y
  | [], m => ⟨.inl rfl, Int.le_refl _, fun _ z => nomatch z⟩
  | i :: is, m => by
    have q := minI_ok is (if i < m then i else m)
    unfold minI
    refine ⟨?_, ?_, fun y hy => ?_⟩
    · rcases q.1 with e | e
      · rw [e]
        split
        · exact .inr List.mem_cons_self
        · exact .inl rfl
      · exact .inr (List.mem_cons_of_mem _ e)
    · have := q.2.1
      split at this <;> omega
    · rcases List.mem_cons.mp hy with rfl | hy
      · have := q.2.1
        split at this <;> omega
      · exact q.2.2 y hy
theorem insI_perm (i : Int) : ∀ l : List Int, (insI i l).Perm (i :: l)
  | [] => .refl _
  | j :: r => by
    unfold insI
    split
    · exact .refl _
    · exact ((insI_perm i r).cons j).trans (.swap i j r)
theorem insI_sorted (i : Int) : ∀ {l : List Int}, l.Pairwise (· ≤ ·) → (insI i l).Pairwise (· ≤ ·)
  | [], _ => by simp [insI]
  | j :: r, h => by
    rw [List.pairwise_cons] at h
    unfold insI
    split
    · rename_i c
      refine List.pairwise_cons.mpr ⟨fun x hx => ?_, List.pairwise_cons.mpr h⟩
      rcases List.mem_cons.mp hx with rfl | hx
      · exact c
      · exact Int.le_trans c (h.1 x hx)
    · rename_i c
      refine List.pairwise_cons.mpr ⟨fun x hx => ?_, insI_sorted i h.2⟩
      rcases List.mem_cons.mp ((insI_perm i r).mem_iff.mp hx) with rfl | hx
      · omega
      · exact h.1 x hx
theorem sortI_perm : ∀ l : List Int, (sortI l).Perm l
  | [] => .refl _
  | i :: r => (insI_perm i _).trans ((sortI_perm r).cons i)
theorem sortI_sorted : ∀ l : List Int, (sortI l).Pairwise (· ≤ ·)
  | [] => .nil
  | i :: r => insI_sorted i (sortI_sorted r)
theorem sorted_eq : ∀ {a b : List Int}, a.Perm b → a.Pairwise (· ≤ ·) → b.Pairwise (· ≤ ·) → a = b
  | [], b, p, _, _ => (List.Perm.eq_nil p.symm).symm
  | x :: a, b, p, ha, hb => by
    cases b with
    | nil => exact absurd p.length_eq (by simp)
    | cons y b =>
      rw [List.pairwise_cons] at ha hb
      have h1 : x ≤ y := by
        rcases List.mem_cons.mp (p.mem_iff.mpr List.mem_cons_self) with e | e
        · omega
        · exact ha.1 y e
      have h2 : y ≤ x := by
        rcases List.mem_cons.mp (p.mem_iff.mp List.mem_cons_self) with e | e
        · omega
        · exact hb.1 x e
      obtain rfl : x = y := Int.le_antisymm h1 h2
      rw [sorted_eq p.cons_inv ha.2 hb.2]
/-- sum, max, min, sorted of numbers -/
theorem call_seq (hc : X.calm = true) (p : Prim) {pins : List (Addr × Obj)} {s : Shared} {σ : L2.St} {us : List Value} {Q : VK} {D : Addr} {ws : List W} {vs : List V} (I : L2.Inv X pins σ H s) (rx : Vals [.ref D] us) (r : R k ι h H) (sq : SqL X.K H D vs) (ra : RelWs k ι h.length H ws vs)
    (w : WPV k (seqL p ws h) ι h H (relW k) Q) : wpAny (model X.prog X.w) X.A (call (primV p) us) (EP X pins σ Q) X.xe s := by
  unfold seqL at w
  split at w
  · rename_i e
    have e2 := ints_rel ra e
    subst e2
    exact cr_sum hc pins s σ H _ us Q I rx ⟨D, _, rfl, sq, WPV.same r w (by unfold RelW; rfl)⟩
  · rename_i i is e
    have e2 := ints_rel ra e
    subst e2
    refine cr_max hc pins s σ H _ us Q I rx ⟨D, _, rfl, sq, Nat.succ_pos _, fun m hm hle => ?_⟩
    have q := maxI_ok is i
    have : m = maxI i is := by
      have h1 : maxI i is ≤ m := hle _ (by rcases q.1 with e | e <;> simp [e])
      have h2 : m ≤ maxI i is := by
        rcases List.mem_cons.mp hm with rfl | hm
        · exact q.2.1
        · exact q.2.2 m hm
      omega
    subst this
    exact WPV.same r w (by unfold RelW; rfl)
  · rename_i i is e
    have e2 := ints_rel ra e
    subst e2
    refine cr_min hc pins s σ H _ us Q I rx ⟨D, _, rfl, sq, Nat.succ_pos _, fun m hm hle => ?_⟩
    have q := minI_ok is i
    have : m = minI i is := by
      have h1 : m ≤ minI i is := hle _ (by rcases q.1 with e | e <;> simp [e])
      have h2 : minI i is ≤ m := by
        rcases List.mem_cons.mp hm with rfl | hm
        · exact q.2.1
        · exact q.2.2 m hm
      omega
    subst this
    exact WPV.same r w (by unfold RelW; rfl)
  · rename_i is e
    have e2 := ints_rel ra e
    subst e2
    refine cr_sortedI pins s σ H _ us Q I rx ⟨D, _, rfl, sq, fun ns' q h1 h2 hq => ?_⟩
    rw [sorted_eq (h1.trans (sortI_perm is).symm) h2 (sortI_sorted is)]
    exact WPV.lst r (relWs_ints _) w q hq
  · exact w.elim
theorem strI_some {i : Int} {x : Str} (e : strI i = some x) : i.natAbs.log2 < 1920 ∧ x = Str.ofString (toString i) := by
  unfold strI at e
  split at e
  · rename_i c
    cases e
    exact ⟨of_decide_eq_true c, rfl⟩
  · cases e
theorem reprD_some {d : PyData} {x : Str} (e : reprD d = some x) : d.showable = true ∧ d.hasDict = false ∧ d.depth ≤ 60 ∧ d.shown.length ≤ sizeLine ∧ x = d.shown := by
  unfold reprD at e
  split at e
  · rename_i c
    simp only [Bool.and_eq_true, decide_eq_true_eq, Bool.not_eq_true'] at c
    cases e
    exact ⟨c.1.1.1, c.1.1.2, c.1.2, c.2, rfl⟩
  · cases e
theorem call_primA {g : Ev} (hK : X.K = k.K) (hg : g.sc = k.sc) (hc : X.calm = true) (hq : X.A.guards = some []) (hu : X.A.units + 65 < cLine) (p : Prim) (hp : ∀ ts cs, p ≠ .isi ts cs) : CallR X (primV p) (rPrim k g p) := by
  intro pins s σ H xs us Q I rx hq
  obtain ⟨ι, h, ws, r, ra, w⟩ := hq
  unfold primW at w
  split at w
  · obtain ⟨v, rfl, e⟩ := ra.one
    unfold RelW at e
    obtain ⟨a, vs, rfl, hs, rs⟩ := e
    refine call_len pins s σ H _ us Q I rx ⟨_, vs.length, rfl, .inr ⟨vs, by rw [hK]; exact hs, rfl⟩, ?_⟩
    rw [← rs.len]
    exact WPV.same r w (by unfold RelW; rfl)
  · split at w
    · rename_i e2
      obtain ⟨v, rfl, e⟩ := ra.one
      unfold RelW at e
      obtain ⟨_, rfl⟩ := e
      obtain ⟨vs, hv, rv⟩ := r.lst e2
      refine call_len pins s σ H _ us Q I rx ⟨_, vs.length, rfl, .inl ⟨vs, .of hv, rfl⟩, ?_⟩
      rw [← rv.len]
      exact WPV.same r w (by unfold RelW; rfl)
    · exact w.elim
  · obtain ⟨v, rfl, e⟩ := ra.one
    unfold RelW at e
    subst e
    refine call_len pins s σ H _ us Q I rx ⟨_, (k.sc.map V.int).length, rfl, .inl ⟨_, by rw [hK]; exact r.scr.sq, rfl⟩, ?_⟩
    rw [List.length_map, ← hg]
    exact WPV.same r w (by unfold RelW; rfl)
  · obtain ⟨v, rfl, e⟩ := ra.one
    unfold RelW at e
    subst e
    exact call_int1 pins s σ H _ us Q I rx (.inl ⟨_, rfl, WPV.same r w (by unfold RelW; rfl)⟩)
  · obtain ⟨v, rfl, e⟩ := ra.one
    unfold RelW at e
    subst e
    exact call_int1 pins s σ H _ us Q I rx (.inr ⟨_, rfl, WPV.same r w (by unfold RelW; rfl)⟩)
  · obtain ⟨v, rfl, e⟩ := ra.one
    unfold RelW at e
    subst e
    exact call_abs pins s σ H _ us Q I rx ⟨_, rfl, WPV.same r w (by unfold RelW; rfl)⟩
  · obtain ⟨v, z, rfl, e, e2⟩ := ra.two
    unfold RelW at e e2
    subst e e2
    exact call_max2 hc pins s σ H _ us Q I rx ⟨_, _, rfl, WPV.same r w (by unfold RelW; rfl)⟩
  · obtain ⟨v, z, rfl, e, e2⟩ := ra.two
    unfold RelW at e e2
    subst e e2
    exact call_min2 hc pins s σ H _ us Q I rx ⟨_, _, rfl, WPV.same r w (by unfold RelW; rfl)⟩
  · split at w
    · rename_i e2
      obtain ⟨v, rfl, e⟩ := ra.one
      unfold RelW at e
      subst e
      obtain ⟨e3, rfl⟩ := strI_some e2
      exact call_str_int pins s σ H _ us Q I rx ⟨_, rfl, e3, WPV.same r w (by unfold RelW; rfl)⟩
    · exact w.elim
  · obtain ⟨v, rfl, e⟩ := ra.one
    unfold RelW at e
    subst e
    exact SkE.call_str_str pins s σ H _ us Q I rx ⟨_, rfl, WPV.same r w (by unfold RelW; rfl)⟩
  · split at w
    · rename_i y e2
      obtain ⟨v, rfl, e⟩ := ra.one
      unfold reprW at e2
      split at e2
      · obtain ⟨d, e3, e4⟩ := Option.bind_eq_some_iff.mp e2
        obtain ⟨z1, z2, z3, z4, rfl⟩ := reprD_some e4
        have dp := dp_of r _ e e3
        unfold RelW at e
        obtain ⟨a, vs, rfl, _⟩ := e
        exact call_reprD hq hu pins s σ H _ us Q I rx ⟨a, d, rfl, by rw [hK]; exact dp, z1, z2, z3, z4, WPV.same r w (by unfold RelW; rfl)⟩
      · obtain ⟨d, e3, e4⟩ := Option.bind_eq_some_iff.mp e2
        obtain ⟨z1, z2, z3, z4, rfl⟩ := reprD_some e4
        have dp := dpH_of r e e3
        unfold RelW at e
        obtain ⟨_, rfl⟩ := e
        exact call_reprD hq hu pins s σ H _ us Q I rx ⟨_, d, rfl, by rw [hK]; exact dp, z1, z2, z3, z4, WPV.same r w (by unfold RelW; rfl)⟩
      · unfold RelW at e
        subst e
        obtain ⟨e3, rfl⟩ := strI_some e2
        exact SkE.call_repr_int pins s σ H _ us Q I rx ⟨_, rfl, e3, WPV.same r w (by unfold RelW; rfl)⟩
      · cases e2
    · exact w.elim
  · obtain ⟨v, rfl, e⟩ := ra.one
    unfold RelW at e
    obtain ⟨a, vs, rfl, hs, rs⟩ := e
    exact call_list_of pins s σ H _ us Q I rx ⟨_, vs, rfl, .inr (by rw [hK]; exact hs), WPV.lst r rs w⟩
  · split at w
    · rename_i e2
      obtain ⟨v, rfl, e⟩ := ra.one
      unfold RelW at e
      obtain ⟨_, rfl⟩ := e
      obtain ⟨vs, hv, rv⟩ := r.lst e2
      exact call_list_of pins s σ H _ us Q I rx ⟨_, vs, rfl, .inl (.of hv), WPV.lst r rv w⟩
    · exact w.elim
  all_goals try (
    split at w
    · rename_i e2
      obtain ⟨v, rfl, e⟩ := ra.one
      unfold RelW at e
      obtain ⟨_, rfl⟩ := e
      obtain ⟨vs, hv, rv⟩ := r.lst e2
      exact call_seq hc _ I rx r (.of hv) rv w
    · exact w.elim)
  · obtain ⟨v, rfl, e⟩ := ra.one
    have e0 := e
    unfold RelW at e
    obtain ⟨a, vs, rfl, hs, rs⟩ := e
    exact call_tuple_of pins s σ H _ us Q I rx ⟨_, vs, rfl, .inr ⟨by rw [hK]; exact hs, WPV.same r w e0⟩⟩
  · split at w
    · rename_i e2
      obtain ⟨v, rfl, e⟩ := ra.one
      unfold RelW at e
      obtain ⟨_, rfl⟩ := e
      obtain ⟨vs, hv, rv⟩ := r.lst e2
      exact call_tuple_of pins s σ H _ us Q I rx ⟨_, vs, rfl, .inl ⟨.of hv, WPV.tup r rv w⟩⟩
    · exact w.elim
  · exact absurd rfl (hp _ _)
  · exact w.elim
theorem bools_rel {n : Nat} : ∀ {ws : List W} {vs : List V} {bs : List Bool}, RelWs k ι n H ws vs → bools ws = some bs → vs = bs.map V.bl
  | [], vs, bs, e, q => by
    unfold RelWs at e
    cases q
    exact e
  | w :: ws, vs, bs, e, q => by
    unfold RelWs at e
    obtain ⟨v, t, rfl, rv, rt⟩ := e
    unfold bools at q
    split at q
    · cases ‹_ :: _ = []›
    · rename_i b ws' hb
      cases hb
      obtain ⟨cs, q1, rfl⟩ := Option.map_eq_some_iff.mp q
      unfold RelW at rv
      subst rv
      rw [bools_rel rt q1]
      rfl
    · cases q
/-- a list of its own, handed to a built-in -/
def rPrimL (k : Cst) (p : Prim) : List V → Hp → VK → Prop := fun xs H Q => ∃ ι h ws vs D, R k ι h H ∧ xs = [.ref D] ∧ H D = some (.lst vs) ∧ RelWs k ι h.length H ws vs ∧ WPV k (primL p ws h) ι h H (relW k) Q
theorem primL_nx {p : Prim} {ws : List W} {h : AH} (c xs vs h') : primL p ws h ≠ .exc c xs vs h' := by
  unfold primL
  split <;> (try split) <;> first | exact seqL_nx _ _ _ _ | simp
theorem call_primL (hK : X.K = k.K) (hc : X.calm = true) (p : Prim) : CallR X (primV p) (rPrimL k p) := by
  intro pins s σ H xs us Q I rx hq
  obtain ⟨ι, h, ws, vs, D, r, rfl, hD, ra, w⟩ := hq
  unfold primL at w
  split at w
  · exact call_tuple_of pins s σ H _ us Q I rx ⟨_, vs, rfl, .inl ⟨.of hD, WPV.tup r ra w⟩⟩
  · split at w
    · rename_i bs e
      have e2 := bools_rel ra e
      subst e2
      exact cr_all hc pins s σ H _ us Q I rx ⟨D, bs, rfl, .of hD, WPV.same r w (by unfold RelW; rfl)⟩
    · exact w.elim
  · split at w
    · rename_i bs e
      have e2 := bools_rel ra e
      subst e2
      exact cr_any hc pins s σ H _ us Q I rx ⟨D, bs, rfl, .of hD, WPV.same r w (by unfold RelW; rfl)⟩
    · exact w.elim
  · exact call_seq hc _ I rx r (.of hD) ra w
end
end AM
/-! Which text a piece of the core stands for. -/
namespace AM
open PySem
inductive GK where | fn (f : Nat) | cls (c : Nat) | blt | con (w : W)
deriving DecidableEq
structure SE where
  N : List Str
  sc : Scope
  fb : Str → Bool
abbrev Gl := List (Str × GK)
def visB : Option NameKind → Bool
  | some .local => true
  | some .cell => true
  | some .free => true
  | _ => false
def okN (se : SE) (x : Str) (i : Nat) : Bool := decide (se.N[i]? = some x) && visB (se.sc.names.lookup x) && !(x == ("__debug__" : Str)) && !(x == ("__classdict__" : Str))
def okSt (se : SE) (x : Str) (i : Nat) : Bool := decide (se.N[i]? = some x) && (match se.sc.names.lookup x with
  | some .local => true
  | some .cell => se.fb x
  | _ => false)
def okG (gl : Gl) (se : SE) (x : Str) (gk : GK) : Bool := decide (se.sc.names.lookup x = some .globalImplicit) && decide (gl.lookup x = some gk) && !(x == ("__debug__" : Str)) && !(x == ("__name__" : Str))
def okCon (w : W) (c : Const) : Bool := match w, c with
  | .int i, .int j => i == j
  | .str x, .str y => decide (x = y)
  | .bl a, .bool b => a == b
  | .non, .none => true
  | _, _ => false
def noStar : Expr → Bool
  | .Starred _ _ => false
  | _ => true
def noSet : Expr → Bool
  | .Set _ _ _ => false
  | _ => true
def noSlice : Expr → Bool
  | .Slice _ _ _ _ => false
  | _ => true
def noComp : Expr → Bool
  | .ListComp _ _ _ _ => false
  | .SetComp _ _ _ _ => false
  | .DictComp _ _ _ _ _ => false
  | _ => true
def noSuper : Expr → Bool
  | .Call (.Name _ _) [] [] _ => false
  | _ => true
/-- an expression whose test is the truth of its value -/
def noTest : Expr → Bool
  | .BoolOp _ _ _ => false
  | .UnaryOp .Not _ _ => false
  | .IfExp _ _ _ _ => false
  | .Compare _ _ _ _ => false
  | _ => true
def primName : Prim → Str
  | .len => "len" | .int => "int" | .abs => "abs" | .str => "str" | .repr => "repr" | .max2 => "max" | .min2 => "min" | .tuple => "tuple" | .list => "list" | .isi _ _ => "isinstance"
  | .all => "all" | .any => "any" | .sum => "sum" | .min => "min" | .max => "max" | .sorted => "sorted" | .sortedSet => "sorted" | .lenSet => "len"
def isIsi : Prim → Bool
  | .isi _ _ => true
  | _ => false
def okTyN (gl : Gl) (se : SE) (t : String) : Expr → Bool
  | .Name x _ => decide (x = Str.ofString t) && kinds.contains t && okG gl se x .blt
  | _ => false
def okTyL (gl : Gl) (se : SE) : List String → List Expr → Bool
  | [], [] => true
  | t :: ts, e :: es => okTyN gl se t e && okTyL gl se ts es
  | _, _ => false
def okTy (gl : Gl) (se : SE) (ts : List String) (cs : List Nat) (e : Expr) : Bool := match ts, cs, e with
  | [], [c], .Name x _ => okG gl se x (.cls c)
  | [t], [], .Name x p => okTyN gl se t (.Name x p)
  | t :: ts, [], .Tuple es _ _ => decide ((t :: ts).length ≤ 10) && okTyL gl se (t :: ts) es
  | _, _, _ => false
def kwNames : List Keyword → List Str
  | [] => []
  | ⟨some x, _, _⟩ :: r => x :: kwNames r
  | ⟨none, _, _⟩ :: r => kwNames r
def kwNamed : List Keyword → Bool
  | [] => true
  | ⟨some _, _, _⟩ :: r => kwNamed r
  | ⟨none, _, _⟩ :: _ => false
def kwVals : List Keyword → List Expr
  | [] => []
  | ⟨_, e, _⟩ :: r => e :: kwVals r
mutual
def slotsT : Tg → List Nat
  | .nm i => [i]
  | .tp ts => slotsTs ts
  | .sub _ _ => []
  | .attr _ _ => []
def slotsTs : List Tg → List Nat
  | [] => []
  | t :: ts => slotsT t ++ slotsTs ts
end
def slotsIn (tg : Tg) (own : List (Str × Nat)) : Bool := (slotsT tg).all fun i => (own.map (·.2)).contains i
mutual
def okE (gl : Gl) : C → SE → Expr → Bool
  | .var i, se, e => (match e with
    | .Name x _ => okN se x i
    | _ => false)
  | .con w, se, e => (match e with
    | .Constant c _ _ => okCon w c
    | _ => false)
  | .glo x w, se, e => (match e with
    | .Name y _ => decide (x = y) && okG gl se y (.con w) && gloW w
    | _ => false)
  | .bin op a b, se, e => (match e with
    | .BinOp l o r _ => decide (o = bopOf op) && okE gl a se l && okE gl b se r
    | _ => false)
  | .neg a, se, e => (match e with
    | .UnaryOp .USub x _ => okE gl a se x
    | _ => false)
  | .cmp op a b, se, e => (match e with
    | .Compare l [o] [r] _ => decide (o = copOf op) && noSet r && okE gl a se l && okE gl b se r
    | _ => false)
  | .not a, se, e => (match e with
    | .UnaryOp .Not x _ => okE gl a se x
    | _ => false)
  | .and cs, se, e => (match e with
    | .BoolOp .And es _ => okEs gl cs se es
    | _ => false)
  | .or cs, se, e => (match e with
    | .BoolOp .Or es _ => okEs gl cs se es
    | _ => false)
  | .ife t a b, se, e => (match e with
    | .IfExp c x y _ => okT gl t se c && okE gl a se x && okE gl b se y
    | _ => false)
  | .sub a i, se, e => (match e with
    | .Subscript v s _ => noSlice s && okE gl a se v && okE gl i se s
    | _ => false)
  | .slc a lo hi, se, e => (match e with
    | .Subscript v (.Slice l u none _) _ => okE gl a se v && okO gl lo se l && okO gl hi se u
    | _ => false)
  | .tup cs, se, e => (match e with
    | .Tuple es _ _ => okEs gl cs se es
    | _ => false)
  | .lst cs, se, e => (match e with
    | .List es _ => okEs gl cs se es
    | _ => false)
  | .call f cs ks kcs, se, e => (match e with
    | .Call (.Name x _) es kws _ => okG gl se x (.fn f) && okEs gl cs se es && kwNamed kws && decide (ks = kwNames kws) && okEs gl kcs se (kwVals kws)
    | _ => false)
  | .new c cs ks kcs, se, e => (match e with
    | .Call (.Name x _) es kws _ => okG gl se x (.cls c) && okEs gl cs se es && kwNamed kws && decide (ks = kwNames kws) && okEs gl kcs se (kwVals kws)
    | _ => false)
  | .meth m o cs ks kcs, se, e => (match e with
    | .Call (.Attribute v m' apos) es kws pos => decide (m = m') && noSuper v && okE gl o se v && okEs gl cs se es && kwNamed kws && decide (ks = kwNames kws) && okEs gl kcs se (kwVals kws) &&
        (apos.endLine == pos.line) && decide (es.length + kws.length < 12)
    | _ => false)
  | .attr o x, se, e => (match e with
    | .Attribute v x' _ => decide (x = x') && noSuper v && okE gl o se v
    | _ => false)
  | .prim p cs, se, e => (match e with
    | .Call (.Name x _) es [] _ => (match p, cs, es with
      | .isi ts ds, [c], [y, t] => okG gl se x .blt && decide (x = primName (.isi ts ds)) && okE gl c se y && okTy gl se ts ds t
      | p, c :: cs, es => !isIsi p && okG gl se x .blt && decide (x = primName p) && okEs gl (c :: cs) se es
      | _, _, _ => false)
    | _ => false)
  | .primc p c, se, e => (match e with
    | .Call (.Name x _) [y] [] _ => !isIsi p && okG gl se x .blt && decide (x = primName p) && okL gl c se y
    | _ => false)
  | .bm m o cs, se, e => (match e with
    | .Call (.Attribute v x apos) es [] pos => (match m with
      | .append => decide (x = ("append" : Str)) && decide (es.length = 1)
      | .extend => decide (x = ("extend" : Str)) && decide (es.length = 1)
      | .pop0 => decide (x = ("pop" : Str)) && decide (es.length = 0)
      | _ => false) && noSuper v && okE gl o se v && okEs gl cs se es && (apos.endLine == pos.line)
    | _ => false)
  | .bmc m o c, se, e => (match e with
    | .Call (.Attribute v x apos) [y] [] pos => (match m with
      | .extend => decide (x = ("extend" : Str))
      | _ => false) && noSuper v && okE gl o se v && okL gl c se y && (apos.endLine == pos.line)
    | _ => false)
  | .comp own tg it ifs elt, se, e => (match e with
    | .ListComp y [⟨t, i, fs, 0⟩] scope _ => L2.blkC se.N se.sc scope own && slotsIn tg own && noSet i && okI gl it se i t && okTg gl tg { se with sc := L2.relS scope se.sc, fb := fun x => scope.names.lookup x == some .cell } t &&
        okIf gl ifs { se with sc := L2.relS scope se.sc, fb := fun x => scope.names.lookup x == some .cell } fs && okE gl elt { se with sc := L2.relS scope se.sc, fb := fun x => scope.names.lookup x == some .cell } y
    | _ => false)
def okL (gl : Gl) : C → SE → Expr → Bool
  | .comp own tg it ifs elt, se, e => (match e with
    | .ListComp y [⟨t, i, fs, 0⟩] scope _ => L2.blkC se.N se.sc scope own && slotsIn tg own && noSet i && okI gl it se i t && okTg gl tg { se with sc := L2.relS scope se.sc, fb := fun x => scope.names.lookup x == some .cell } t &&
        okIf gl ifs { se with sc := L2.relS scope se.sc, fb := fun x => scope.names.lookup x == some .cell } fs && okE gl elt { se with sc := L2.relS scope se.sc, fb := fun x => scope.names.lookup x == some .cell } y
    | _ => false)
  | _, _, _ => false
def okT (gl : Gl) : T → SE → Expr → Bool
  | .not t, se, e => (match e with
    | .UnaryOp .Not x _ => okT gl t se x
    | _ => false)
  | .and ts, se, e => (match e with
    | .BoolOp .And es _ => okTs gl ts se es && !es.isEmpty
    | _ => false)
  | .or ts, se, e => (match e with
    | .BoolOp .Or es _ => okTs gl ts se es && !es.isEmpty
    | _ => false)
  | .val c, se, e => okE gl c se e && (noTest e || (match e with
    | .Compare _ _ _ _ => true
    | _ => false))
def okTs (gl : Gl) : List T → SE → List Expr → Bool
  | [], _, es => es.isEmpty
  | t :: ts, se, es => (match es with
    | e :: es => okT gl t se e && okTs gl ts se es
    | [] => false)
def okEs (gl : Gl) : List C → SE → List Expr → Bool
  | [], _, es => es.isEmpty
  | c :: cs, se, es => (match es with
    | e :: es => okE gl c se e && okEs gl cs se es
    | [] => false)
def okO (gl : Gl) : List C → SE → Option Expr → Bool
  | [], _, e => e.isNone
  | c :: cs, se, e => cs.isEmpty && (match e with
    | some e => okE gl c se e
    | none => false)
def okIf (gl : Gl) : List T → SE → List Expr → Bool
  | [], _, es => es.isEmpty
  | t :: ts, se, es => ts.isEmpty && (match es with
    | [e] => okT gl t se e
    | _ => false)
def okI (gl : Gl) : It → SE → Expr → Expr → Bool
  | .over c, se, e, _ => okE gl c se e
  | .rng cs, se, e, _ => (match e with
    | .Call (.Name x _) es [] _ => okG gl se x .blt && decide (x = ("range" : Str)) && okEs gl cs se es && (decide (es.length = 1) || decide (es.length = 2))
    | _ => false)
  | .enum c, se, e, t => (match e, t with
    | .Call (.Name x _) [y] [] _, .Tuple _ _ _ => okG gl se x .blt && decide (x = ("enumerate" : Str)) && okE gl c se y
    | _, _ => false)
  | .zip a b, se, e, t => (match e, t with
    | .Call (.Name x _) [y, z] [] _, .Tuple _ _ _ => okG gl se x .blt && decide (x = ("zip" : Str)) && okE gl a se y && okE gl b se z
    | _, _ => false)
def okTg (gl : Gl) : Tg → SE → Expr → Bool
  | .nm i, se, e => (match e with
    | .Name x _ => okSt se x i
    | _ => false)
  | .tp ts, se, e => (match e with
    | .Tuple es _ _ => okTgs gl ts se es
    | _ => false)
  | .sub o i, se, e => (match e with
    | .Subscript v s _ => noSlice s && okE gl o se v && okE gl i se s
    | _ => false)
  | .attr o x, se, e => (match e with
    | .Attribute v x' _ => decide (x = x') && noSuper v && okE gl o se v
    | _ => false)
def okTgs (gl : Gl) : List Tg → SE → List Expr → Bool
  | [], _, es => es.isEmpty
  | t :: ts, se, es => (match es with
    | e :: es => okTg gl t se e && okTgs gl ts se es
    | [] => false)
end
/-- two or three names at once: the stores go from the right -/
def swapS (targets : List Expr) (value : Expr) (se : SE) : Option (Option (List Str)) :=
  match targets, value with
  | [.Tuple ts _ _], .Tuple vs _ _ =>
    if !(ts.length == 2 || ts.length == 3) || vs.length != ts.length then some none
    else if vs.any (fun | .Starred .. => true | _ => false) then some none
    else
      let line := (ts.head?.map (·.pos.line)).getD 0
      let names := ts.filterMap fun
        | .Name id pos => if se.sc.names.lookup id == some .local && pos.line == line then some id else none
        | _ => none
      if names.length != ts.length || names.eraseDups.length != names.length then some none
      else if vs.all (foldedForSure 8) then some none
      else if vs.all (constantsAlone 8) then none
      else some (some names)
  | [.List _ _], .Tuple _ _ _ => none
  | _, _ => some none
/-- y = [..] on one line, y a name of the block's around -/
def swapsB (se : SE) (value : Expr) (target : Expr) : Bool := match value, target with
  | .ListComp _ _ s _, .Name t pos => decide (se.sc.names.lookup t = some .local) && (pos.line == value.pos.line) && !(s.names.any fun (n, k) => n == t && (k == .local || k == .cell))
  | _, _ => false
mutual
def okS (gl : Gl) (se : SE) : S → Stmt → Bool
  | .asg t e, st => (match st with
    | .Assign [tg] v _ => okTg gl t se tg && okE gl e se v && (noComp v || (match tg with
        | .Name _ _ => true
        | .Attribute _ _ _ => true
        | _ => false)) && (match swapS [tg] v se with
      | none => false
      | some none => true
      | some (some _) => decide (slotsT t).Nodup)
    | _ => false)
  | .aug t op e, st => (match t, st with
    | .nm i, .AugAssign (.Name x _) o v _ => okSt se x i && okN se x i && decide (o = bopOf op) && okE gl e se v && (op == .add || op == .sub)
    | _, _ => false)
  | .iff t a b, st => (match st with
    | .If c x y _ => okT gl t se c && okSs gl se a x && okSs gl se b y
    | _ => false)
  | .for_ t it b, st => (match st with
    | .For tg i x [] _ => noSet i && okI gl it se i tg && okTg gl t se tg && okSs gl se b x
    | _ => false)
  | .whl t b, st => (match st with
    | .While c x [] _ => okT gl t se c && okSs gl se b x
    | _ => false)
  | .ret e, st => (match st with
    | .Return (some v) _ => okE gl e se v
    | _ => false)
  | .retn, st => (match st with
    | .Return none _ => true
    | _ => false)
  | .raise c fs cs, st => (match st, fs, cs with
    | .Raise (some (.Call (.Name x _) [.Constant (.str _) _ _] [] _)) none _, [], [] => okG gl se x (.cls c)
    | _, _, _ => false)
  | .try_ b hd, st => (match hd, st with
    | .keep c e y, .Try x [.ExceptHandler (some (.Name cn _)) (some n) [.Assign [.Name yn _] (.Name en _) _] _] [] [] _ => okSs gl se b x && okG gl se cn (.cls c) && decide (en = n) && okSt se yn y && decide (se.N[e]? = some n) && decide (y ≠ e) &&
        decide (se.sc.names.lookup n = some .local) && !(n == ("__debug__" : Str)) && !(n == ("__classdict__" : Str)) && decide (se.sc.names.lookup yn = some .local)
    | _, _ => false)
  | .ex e, st => (match st with
    | .Expr v _ => okE gl e se v && noComp v
    | _ => false)
  | .pass, st => (match st with
    | .Pass _ => true
    | _ => false)
  | .brk, st => (match st with
    | .Break _ => true
    | _ => false)
  | .cont, st => (match st with
    | .Continue _ => true
    | _ => false)
  | .never, _ => true
def okSs (gl : Gl) (se : SE) : List S → List Stmt → Bool
  | [], xs => xs.isEmpty
  | s :: ss, xs => (match xs with
    | x :: xs => okS gl se s x && okSs gl se ss xs
    | [] => false)
end
/-- the names in their slots -/
def okScope (d : DefC) (sc : Scope) : Bool := (match sc.kind with
  | .function => true
  | _ => false) && !sc.isCoroutine && !sc.isGenerator && decide d.ns.Nodup && decide (d.ns.take d.ps.length = d.ps) &&
  (d.ps.all fun x => match sc.names.lookup x with
    | some .local => true
    | some .cell => true
    | _ => false) && (sc.names.all fun y => match y.2 with
    | .free => false
    | _ => true)
def okD (gl : Gl) (d : DefC) (st : Stmt) : Bool := okScope d (L2.defScope st) && okSs gl ⟨d.ns, L2.defScope st, fun _ => true⟩ d.body (L2.defBody st)
end AM
/-! A def's promise where nothing is being shown (no repr under way); the law's end from it. -/
namespace AM
open PySem PySem.Spec PyProof.Rows L2
structure FnG (P : Program) (w : World) (K : PySem.W.Frag) (mg : Str → Option Value) (base : Heap) (CX : CXT) (k : Nat) (f : Addr) (fd : FuncData) (ps : List Str) (sp : Sp) : Prop where
  size : ∀ {vs H Q E}, sp vs H Q E → vs.length = ps.length
  go : ∀ {A : Around} {outer : List Env} {s : Shared} {H : Hp} {args : Args} {us : List Value} {vs : List V} {Q : VK} {E : XK}, Room k A → A.guards = some [] → Env0 P w K mg base A outer s H →
    BindsTo s fd args (ps.zip us) → Vals vs us → sp vs H Q E → codeAny (model P w) A (.call (.ref f) args) (CR CX outer P w H s Q E) s
/-- the context of the body of a def -/
abbrev bodyCx (P : Program) (w : World) (K : PySem.W.Frag) (mg : Str → Option Value) (base : Heap) (N : List Str) (qual : Str) (sc : Scope) (f : Addr) (cd : Value) (A : Around) (outer : List Env) (s : Shared) (H : Hp) (E : XK) : Cx :=
  cxOf (L2.CX P w) P w K mg base N qual sc f cd A outer s H E
theorem fng_of {P : Program} {w : World} {K : PySem.W.Frag} {mg : Str → Option Value} {base : Heap} {k : Nat} {f : Addr} {fn qual : Str} {prm : Arguments} {body : List Stmt} {sc : Scope} {df kw dc pm cd ct oc : Value} {an od : Option Addr}
    {sl : Array (Option Value)} {N ps : List Str} {sp : Sp} (at_ : K.lookup f = some ⟨oc, od, .func (PySem.W.fnOf fn qual prm body sc df kw dc pm an cd ct), sl⟩) (code : PySem.W.codeIn K cd qual = true) (S : FnScope N ps sc)
    (size : ∀ {vs H Q E}, sp vs H Q E → vs.length = ps.length)
    (text : ∀ {A : Around} {outer : List Env} {s : Shared} {H : Hp} {vs : List V} {Q : VK} {E : XK}, Room k (A.deeper (envOfC qual sc s.heap.objs.size f cd)) → A.guards = some [] → sp vs H Q E →
      ∃ t : TS, PSs (bodyCx P w K mg base N qual sc f cd A outer s H E) body t ∧ t { nx := fun _ H1 => Q .non H1, rt := Q } (L2.start N vs) H) :
    FnG P w K mg base (L2.CX P w) (k + 1) f (PySem.W.fnOf fn qual prm body sc df kw dc pm an cd ct) ps sp where
  size := size
  go := by
    intro A outer s H args us vs Q E room quiet en bound vals want
    have there : ∀ b o, base.get? b = some o → s.heap.get? b = some o := fun b o e => (en.bs b o e).1
    have part : K.In s.heap := en.mod.kin.keeps there
    have nolim : s.heap.NoLimit := en.mod.nolimit.keeps there
    have kinds : ∀ y ∈ ps.zip us, sc.names.lookup y.1 = some .local ∨ (sc.names.lookup y.1 = some .cell ∧ ((cellsFrom (s.heap.objs.size + 1) sc.names []).lookup y.1).isSome = true) := by
      rintro ⟨x, v⟩ hy
      exact (S.par x (List.of_mem_zip hy).1).imp id fun c => ⟨c, PySem.W.cellsFrom_some _ _ _ (.inl c)⟩
    obtain ⟨t, run, start⟩ := text (outer := outer) (s := s) (room.deeper _) quiet want
    refine codeAny_call_function room.depth (part _ _ at_) rfl S.co S.gen rfl (PySem.W.codeRec_of part code) (bound _ _ _ _ ?_)
    refine wpAny_newFunctionEnv_cells S.kind kinds ?_
    rintro env rfl s1 call
    refine ⟨nolim.keeps call.toInCall.keep, codeAny_func ?_⟩
    have J : L2.Inv (bodyCx P w K mg base N qual sc f cd A outer s H E) [] (L2.start N vs) H s1 := inv_start S room.hd en (size want) vals call
    have done : ∀ {σ' H' s' v u}, L2.Inv (bodyCx P w K mg base N qual sc f cd A outer s H E) [] σ' H' s' → RelV v u → Q v H' → CE outer P w H s Q u s' :=
      fun {σ' H' s' v u} I r q => ⟨v, H', I.os, I.bare, I.base, I.hok, r, q⟩
    refine wpAny_mono (run.run [] s1 (L2.start N vs) H _ J start) (fun flow s2 ends => ?_) fun _ _ z => z
    match flow, ends with
    | .ret u, ⟨v, σ', H', I, r, q⟩ => exact done I r q
    | .next, ⟨σ', H', I, q⟩ => exact done (v := V.non) (u := Value.none) I rfl q
    | .brk, ⟨_, _, _, z⟩ => exact z.elim
    | .cont, ⟨_, _, _, z⟩ => exact z.elim
theorem make_guards {A : Around} {C : Addr} {us : List Value} {kw : List (Str × Value)} (q : A.guards = some []) : (A.under (.builtin "type.__call__" ⟨.ref C :: us, kw⟩)).guards = some [] := by
  first
    | exact q
    | simp [Around.under, pushGuards, Code.guards, Code.isGuard, guardIds, q]
/-- a property is read -/
theorem prop_got {X : Cx} {k : Nat} {C p g a dx : Addr} {fs : List (Str × V)} {f : Str} {fd : FuncData} {ps : List Str} {sp : Sp} {E : XK} {pins : List (Addr × Obj)} {σ : L2.St} {H : Hp} {s : Shared} {Q : VK} {b : Bool} {E' : Value → Shared → Prop} (I : L2.Inv X pins σ H s)
    (at_ : H a = some (.ins C dx fs)) (c : Cls X.K C) (P : PropOf X.K C f p g) (F : FnG X.prog X.w X.K X.mg X.base (L2.CX X.prog X.w) k g fd ps sp) (room : Room (k + 1) X.A) (quiet : X.A.guards = some []) (bound : Binds X.K fd ps [])
    (calm : Passes (L2.CX X.prog X.w) X.nox E) (want : sp [.ref a] H Q E) : wpAny (model X.prog X.w) X.A (getAttr (.ref a) f b) (EP X pins σ Q) E' s := by
  obtain ⟨mA, ob, _, _, _, _⟩ := ins_get I.hok at_
  obtain ⟨od, look, _⟩ := ob.look
  obtain ⟨more, rec_⟩ := P.rec_
  have J := I.tok (s.toks + 1)
  have isC : (PySem.W.clsIn X.K C).isSome = true := by
    obtain ⟨cd, z, _⟩ := PySem.W.any_some c.hd
    simp [z]
  have one : ([Value.ref a] ++ []).length = ps.length := (F.size want).symm ▸ rfl
  have g2 := PySem.W.plainGet_of (c.get f)
  refine PySem.W.get_bind I.kIn look g2.1 (PySem.W.findObj_data isC P.at_ P.get P.tak) g2.2 (wpAny_call (PySem.W.prop_get (s := { s with toks := s.toks + 1 }) I.kIn rec_ ?_))
  refine codeAny_mono (F.go (A := X.A.in1) (outer := X.stack) (args := ⟨[.ref a], []⟩) (us := [.ref a]) (vs := [.ref a]) room.in1 quiet J.env0.in1 (bound _ [.ref a] J.kIn one) (.cons rfl .nil) want) ?_
  rintro (er | fl) s' back
  · exact (calm pins σ H { s with toks := s.toks + 1 } er s' (J.wish _) back).elim
  · match fl, back with
    | .ret u, back =>
      obtain ⟨v, H', I3, r3, q3⟩ := J.after back
      show wpAny _ _ (handedOut u) _ _ _
      rw [PySem.W.handedOut_of (handed_of r3)]
      exact wpAny_pure ⟨v, H', I3, r3, q3⟩
    | .next, back => exact back.elim
    | .brk, back => exact back.elim
    | .cont, back => exact back.elim
/-! ### the law's end -/
/-- the script alone is tracked, where it is none of the known part -/
def scrH (K : PySem.W.Frag) (a : Addr) (vs : List Value) (ns : List Int) : Hp := fun b => if b = a ∧ K.lookup a = none then some (.frz { cls := .type "list", data := .seq vs.toArray } (.lst (ns.map V.int))) else none
theorem scrH_some {K : PySem.W.Frag} {a b : Addr} {vs : List Value} {ns : List Int} {u : HO} (e : scrH K a vs ns b = some u) : b = a ∧ K.lookup a = none ∧ u = .frz { cls := .type "list", data := .seq vs.toArray } (.lst (ns.map V.int)) := by
  unfold scrH at e
  split at e
  · rename_i c
    exact ⟨c.1, c.2, (Option.some.inj e).symm⟩
  · cases e
theorem law_goes {P : Program} {w : World} {K : PySem.W.Frag} {mg mb : Str → Option Value} {k : Nat} {fa a : Addr} {fd : FuncData} {x : Str} {sp : Sp} {s0 : Shared} {vs : List Value} {ns : List Int}
    (inK : K.In s0.heap) (glob : s0.heap.Ns mainGlobals mg) (blts : s0.heap.Ns builtinsNs mb) (boot : ∀ y : Str, y ≠ "__name__" → mb y = bootBuiltins y) (nolim : s0.heap.NoLimit) (gens : s0.gens = #[])
    (list : s0.heap.get? a = some { cls := .type "list", data := .seq vs.toArray }) (nums : IntsAre vs ns) (short : ns.length ≤ sizeLine) (room : Room k callerA)
    (F : ∀ base : Heap, K.In base → base.Ns mainGlobals mg → FnG P w K mg base (L2.CX P w) k fa fd [x] sp) (bound : ∀ (s : Shared) (u : Value), BindsTo s fd ⟨[u], []⟩ [(x, u)])
    (want : ∀ H : Hp, SqL K H a (ns.map V.int) → sp [.ref a] H (fun v _ => v = .bl true) fun _ _ _ => False) (noX : ∀ H e s', L2.CX P w [] H s0 (fun _ _ _ => False) e s' → False) :
    codeAny (model P w) callerA (.call (.ref fa) ⟨[.ref a], []⟩) (fun r s' => r = .ok (.ret (.bool true)) ∧ OldK s0.heap s'.heap ∧ s'.os = s0.os ∧ AllBare s'.gens) s0 := by
  have rel := vals_ints nums
  have seen : SqL K (scrH K a vs ns) a (ns.map V.int) := by
    cases q : K.lookup a with
    | none =>
      refine .inl (.inr ⟨{ cls := .type "list", data := .seq vs.toArray }, ?_⟩)
      unfold scrH
      exact if_pos ⟨rfl, q⟩
    | some o =>
      have e := inK a o q
      rw [list] at e
      cases e
      exact .inr ⟨_, vs.toArray, _, q, rfl, rfl, rfl, by rw [List.size_toArray, nums.length]; exact short, by simpa using rel⟩
  have held : HOk P w (scrH K a vs ns) s0.heap := fun b u e => by
    obtain ⟨rfl, _, rfl⟩ := scrH_some e
    exact ⟨list, by rw [List.length_map]; exact short, vs, _, rel, list⟩
  have off : ∀ {b : Addr} {o : Obj}, s0.heap.get? b = some o → (∀ ws n, o.data ≠ .seq ws n) → scrH K a vs ns b = none := fun {b o} e d => by
    cases q : scrH K a vs ns b with
    | none => rfl
    | some u =>
      obtain ⟨rfl, _, _⟩ := scrH_some q
      rw [list] at e
      cases e
      exact absurd rfl (d _ _)
  have names : ∀ {b : Addr} {m : Str → Option Value}, s0.heap.Ns b m → (hidT s0.heap (scrH K a vs ns)).Ns b m := fun {b m} ⟨o, es, ep, e, d, r⟩ =>
    ⟨o, es, ep, hidT_get e (off e fun ws n z => by rw [d] at z; cases z), d, r⟩
  have inB : K.In (hidT s0.heap (scrH K a vs ns)) := fun b o e => hidT_get (inK b o e) (by
    cases q : scrH K a vs ns b with
    | none => rfl
    | some u =>
      obtain ⟨rfl, z, _⟩ := scrH_some q
      rw [z] at e
      cases e)
  have md : L2.Mod K mg (hidT s0.heap (scrH K a vs ns)) := ⟨inB, names glob, ⟨mb, names blts, boot⟩, let ⟨mc, h1, h2⟩ := nolim; ⟨mc, names h1, h2⟩⟩
  have en : Env0 P w K mg (hidT s0.heap (scrH K a vs ns)) callerA [] s0 (scrH K a vs ns) :=
    ⟨rfl, md, fun _ _ e => of_hidT e, Nat.le_of_eq (hidT_size _ _), trivial, fun b hb => absurd (show b ∈ ([] : List Addr) from hb) (by simp), held, .of_eq gens⟩
  refine codeAny_mono ((F _ inB (names glob)).go (outer := []) (args := ⟨[.ref a], []⟩) (us := [.ref a]) (vs := [.ref a]) room rfl en (bound s0 (.ref a)) (.cons rfl .nil) (want _ seen)) ?_
  rintro (er | fl) s' back
  · exact (noX _ er s' back).elim
  · match fl, back with
    | .next, back => exact False.elim back
    | .brk, back => exact False.elim back
    | .cont, back => exact False.elim back
    | .ret u, ⟨v, H', os, bare, un, held', r, q⟩ =>
      obtain rfl : v = .bl true := q
      obtain rfl : u = Value.bool true := r
      have stay : ∀ b o, s0.heap.get? b = some o → s'.heap.get? b = some o := fun b o e => by
        cases q : scrH K a vs ns b with
        | none => exact un.keep b o e q (fun z => absurd (show b ∈ ([] : List Addr) from z) (by simp)) (by simp)
        | some u =>
          obtain ⟨rfl, _, rfl⟩ := scrH_some q
          obtain ⟨e2, _⟩ := held' _ _ (un.frzs _ _ _ q)
          rw [list] at e
          cases e
          exact e2
      exact ⟨rfl, ⟨fun b o e => .inl (stay b o e), fun b o e => ⟨o, stay b o e⟩⟩, os, bare⟩
/-- what is known of the law at the head's heap -/
def LawG (l : PySem.W.OpenLaw) (w : World) (K : PySem.W.Frag) (k n : Nat) (x : Str) (mg : Str → Option Value) (fa : Addr) : Prop :=
  ∃ (fd : FuncData) (sp : Sp), (∀ (s : Shared) (u : Value), BindsTo s fd ⟨[u], []⟩ [(x, u)]) ∧
    (∀ (H : Hp) (a : Addr) (ns : List Int), ns.length ≤ n → (∀ z ∈ ns, Builtin.Int.intBits z ≤ 1048576) → SqL K H a (ns.map V.int) → sp [.ref a] H (fun v _ => v = .bl true) fun _ _ _ => False) ∧
    ∀ base : Heap, K.In base → base.Ns mainGlobals mg → FnG l.prog w K mg base (L2.CX l.prog w) k fa fd [x] sp
theorem walk_ofG {l : PySem.W.OpenLaw} {n k : Nat} {q : Program} {loose : List Str} {XP : (Str → Option Value) → Heap → Prop} {YP : World → Heap → Prop} {d : DefRec} {x : Str}
    (most : l.most = some n) (few : n ≤ sizeLine) (plain : d.params.defaults = []) (room : Room k callerA)
    (F : ∀ (w : World) (mg : Str → Option Value) (fa : Addr) (h : Heap), YP w h → h.Ns mainGlobals mg → mg d.name = some (.ref fa) → ∃ K : PySem.W.Frag, K.In h ∧ LawG l w K k n x mg fa)
    (noX : ∀ (w : World) (H : Hp) (s : Shared) (e : Value) (s' : Shared), L2.CX l.prog w [] H s (fun _ _ _ => False) e s' → False) :
    PySem.W.WalkO q loose XP YP l.row.toRowW d [] (fun f vs => PySem.call f vs) := by
  refine Att.attach_callB most plain ?_
  intro w s₀ s₁ mg mb fa o pm cd doc a vs ns G Y ho hd hcd name list nums len bits gens
  obtain ⟨K, inK, fd, sp, bound, want, go⟩ := F w mg fa _ Y G.T.g name
  exact law_goes inK G.T.g G.T.b G.T.builtins G.T.nolimit gens list nums (Nat.le_trans len few) room go bound (fun H seen => want H a ns len bits seen) fun H e s' => noX w H s₁ e s'
end AM
/-! The core's expressions, sound: the context, names, operators. -/
namespace AM
open PySem L2
/-- what a def's promise is, by the machine -/
def spA (k : Cst) (cf : Nat → List W → AH → Res W) (n f : Nat) : Sp := fun vs H Q E => vs.length = n ∧ ∃ ι h ws, R k ι h H ∧ RelWs k ι h.length H ws vs ∧ WPE k (fun c d _ H => E c d H) [] (cf f ws h) ι h H (relW k) Q
structure FnS (P : Program) (w : World) (mg : Str → Option Value) (base : Heap) (k : Cst) (g : Ev) (lv f : Nat) (d : DefC) (a : Addr) : Prop where
  fn : ∃ fd, (∃ oc od osl, k.K.lookup a = some ⟨oc, od, .func fd, osl⟩) ∧ FnG P w k.K mg base (L2.CX P w) lv a fd d.ps (spA k g.cf d.ps.length f) ∧ Binds k.K fd d.ps [] ∧
    ∀ n ks, (f, n, ks) ∈ g.gc.kws → ∀ (us ws vs : List Value), us.length = n → ws.length = ks.length → (permOf d.ps n ks).bind (pick (us ++ ws)) = some vs → bindArgs fd ⟨us, ks.zip ws⟩ = pure (d.ps.zip vs)
  kp : PySem.W.keepIn k.K (.ref a) = true
structure ClsS (k : Cst) (fA : Nat → Addr) (c : Nat) (cl : ClsC) : Prop where
  cls : Cls k.K (k.cA c)
  mak : L2.Mk k.K (k.cA c) (fA cl.init)
  ms : ∀ m f, cl.meths.lookup m = some f → Meth k.K (k.cA c) m (fA f)
  prs : ∀ m f, cl.props.lookup m = some f → ∃ p, PropOf k.K (k.cA c) m p (fA f)
  fl : ∀ x, x ∈ cl.flds → NoAttr k.K (k.cA c) x
/-- the program's facts -/
structure Fx (P : Program) (w : World) (mg : Str → Option Value) (base : Heap) (k : Cst) (gl : Gl) (g : Ev) (lv : Nat) (fA : Nat → Addr) : Prop where
  sc : g.sc = k.sc
  gfn : ∀ x f, gl.lookup x = some (.fn f) → mg x = some (.ref (fA f)) ∧ ∃ d, g.gc.defs[f]? = some d
  gcl : ∀ x c, gl.lookup x = some (.cls c) → mg x = some (.ref (k.cA c)) ∧ PySem.W.keepIn k.K (.ref (k.cA c)) = true
  gbl : ∀ x, gl.lookup x = some .blt → mg x = none
  gco : ∀ x v, gl.lookup x = some (.con v) → gloW v = true → ∃ u V, mg x = some u ∧ L2.RelV V u ∧ ∀ ι n H, RelW k ι n H v V
  len : ∀ f ws h d, g.gc.defs[f]? = some d → ws.length ≠ d.ps.length → g.cf f ws h = .stuck
  fn : ∀ f d, g.gc.defs[f]? = some d → FnS P w mg base k g lv f d (fA f)
  cl : ∀ c cl, g.gc.clss.lookup c = some cl → ClsS k fA c cl
  met : ∀ c cl m f, g.gc.clss.lookup c = some cl → cl.meths.lookup m = some f → ∃ d, g.gc.defs[f]? = some d
  prp : ∀ c cl m f, g.gc.clss.lookup c = some cl → cl.props.lookup m = some f → ∃ d, g.gc.defs[f]? = some d
  exr : ∀ c, c ∈ g.gc.rais → PySem.W.excIn k.K (k.cA c) He.veBase "ValueError.__new__" = true ∧ PySem.W.subIn k.K (.ref (k.cA c)) (.type "BaseException") = some true ∧ PySem.W.typeIn k.K (.ref (k.cA c)) = some (.type "type")
  exo : ∀ c d b, g.gc.exm c d = some b → PySem.W.exmOne k.K (.ref (k.cA c)) (.ref (k.cA d)) = some b
  exm : ∀ c d b, g.gc.exm c d = some b → PySem.W.kitOne k.K (.ref (k.cA c)) (.ref (k.cA d)) = some b ∧ ∀ x : Addr, PySem.W.KitX k.K (.ref x) (.ref (k.cA c)) (fun h => ∃ ox, PySem.W.InstAt h x ox (k.cA c) none)
  ini : ∀ c cl, g.gc.clss.lookup c = some cl → ∃ d, g.gc.defs[cl.init]? = some d
/-- the context of a piece of code -/
structure CxO (X : Cx) (k : Cst) (gl : Gl) (g : Ev) (lv : Nat) (fA : Nat → Addr) (se : SE) : Prop where
  K : X.K = k.K
  w : X.w = k.w
  quiet : X.A.guards = some []
  calm : X.calm = true
  N : X.N = se.N
  sc : X.env.scope = se.sc
  fn : ∀ x, se.fb x = true → X.fn x = true
  nd : X.N.Nodup
  room : Room (lv + 2) X.A
  fx : Fx X.prog X.w X.mg X.base k gl g lv fA
section
variable {X : Cx} {k : Cst} {gl : Gl} {g : Ev} {lv : Nat} {fA : Nat → Addr} {se : SE} {Wx : WX}
theorem CxO.un (cx : CxO X k gl g lv fA se) : X.A.units + 65 < cLine := by have := cx.room.un; omega
theorem PE.of {X : Cx} {e : Expr} {t t' : TE} (h : PE X e t) (f : ∀ σ H Q, t' σ H Q → t σ H Q) : PE X e t' := ⟨fun pins s σ H Q I q => h.run pins s σ H Q I (f σ H Q q)⟩
theorem PT.of {X : Cx} {e : Expr} {t t' : TT} (h : PT X e t) (f : ∀ σ H Q, t' σ H Q → t σ H Q) : PT X e t' := ⟨fun pins s σ H Q I q => h.run pins s σ H Q I (f σ H Q q)⟩
theorem PW.of {X : Cx} {e : Expr} {t t' : TT} (h : PW X e t) (f : ∀ σ H Q, t' σ H Q → t σ H Q) : PW X e t' := ⟨fun wh pins s σ H Q I q => h.run wh pins s σ H Q I (f σ H Q q)⟩
theorem PA.of {X : Cx} {e : List Expr} {t t' : TA} (h : PA X e t) (f : ∀ σ H Q, t' σ H Q → t σ H Q) : PA X e t' := ⟨fun ps pins s σ H Q I q => h.run ps pins s σ H Q I (f σ H Q q)⟩
theorem PS.of {X : Cx} {e : Stmt} {t t' : TS} (h : PS X e t) (f : ∀ D σ H, t' D σ H → t D σ H) : PS X e t' := ⟨fun pins s σ H Q I q => h.run pins s σ H Q I (f Q σ H q)⟩
theorem PSs.of {X : Cx} {e : List Stmt} {t t' : TS} (h : PSs X e t) (f : ∀ D σ H, t' D σ H → t D σ H) : PSs X e t' := ⟨fun pins s σ H Q I q => h.run pins s σ H Q I (f Q σ H q)⟩
theorem PI.of {X : Cx} {tg e : Expr} {t t' : TI} (h : PI X tg e t) (f : ∀ σ H Q, t' σ H Q → t σ H Q) : PI X tg e t' := ⟨fun pins s σ H Q I q => h.run pins s σ H Q I (f σ H Q q)⟩
theorem PG.of {X : Cx} {e : Expr} {t t' : TG} (h : PG X e t) (f : ∀ v σ H Q, t' v σ H Q → t v σ H Q) : PG X e t' := ⟨fun pins s σ H v u Q I r q => h.run pins s σ H v u Q I r (f v σ H Q q)⟩
theorem PGs.of {X : Cx} {e : List Expr} {t t' : TGs} (h : PGs X e t) (f : ∀ v σ H Q, t' v σ H Q → t v σ H Q) : PGs X e t' := ⟨fun pins s σ H v u Q I r q => h.run pins s σ H v u Q I r (f v σ H Q q)⟩

/-! ### readings -/
/-- an answer of the machine at its states beside σ, H -/
def tR (k : Cst) (Wx : WX) {α β : Type} (rel : Rel α β) (f : St → AH → Res α) : L2.St → Hp → (β → Hp → Prop) → Prop := fun σ H Q => ∃ ι as h, RelS k ι h.length H as σ ∧ R k ι h H ∧ WPE k Wx σ (f as h) ι h H rel Q
def tE (k : Cst) (g : Ev) (Wx : WX) (c : C) : TE := tR k Wx (relW k) fun as h => evalE g c as h
def tT (k : Cst) (g : Ev) (Wx : WX) (c : T) : TT := tR k Wx relB fun as h => evalT g c as h
def tEs (k : Cst) (g : Ev) (Wx : WX) (cs : List C) : TA := tR k Wx (relWs k) fun as h => evalEs g cs as h
variable {α β γ δ : Type} {rel : Rel α β} {rel2 : Rel γ δ}
/-- first one answer, then another -/
theorem tR.bind {f : St → AH → Res α} {f2 : α → St → AH → Res γ} {σ : L2.St} {H : Hp} {Q : δ → Hp → Prop} (w : tR k Wx rel2 (fun as h => (f as h).bind fun a h1 => f2 a as h1) σ H Q) :
    tR k Wx rel f σ H fun b H1 => ∃ ι as h a, RelS k ι h.length H1 as σ ∧ R k ι h H1 ∧ rel a ι h.length H1 b ∧ WPE k Wx σ (f2 a as h) ι h H1 rel2 Q := by
  obtain ⟨ι, as, h, rs, r, w⟩ := w
  dsimp only at w
  refine ⟨ι, as, h, rs, r, (WPE.bind (rel := rel) (rel2 := rel2) r w).imp fun b H1 ⟨a, ι1, h1, p, ra, w1⟩ => ⟨ι1, as, h1, a, rs.keep (p.keep r), p.rel, ra, w1⟩⟩
theorem tR.imp {f : St → AH → Res α} {σ : L2.St} {H : Hp} {Q Q' : β → Hp → Prop} (w : tR k Wx rel f σ H Q) (h : ∀ b H', Q b H' → Q' b H') : tR k Wx rel f σ H Q' := by
  obtain ⟨ι, as, hh, rs, r, w⟩ := w
  exact ⟨ι, as, hh, rs, r, w.imp h⟩
theorem tR.eq {f f' : St → AH → Res α} {σ : L2.St} {H : Hp} {Q : β → Hp → Prop} (w : tR k Wx rel f σ H Q) (h : ∀ as h, f as h = f' as h) : tR k Wx rel f' σ H Q := by
  have e : f = f' := funext fun a => funext fun b => h a b
  rw [← e]
  exact w
/-- an answer that is there -/
theorem WPE.same {a : W} {v : V} {h : AH} {H : Hp} {ι : Nat → Addr} {σ : L2.St} {Q : VK} (r : R k ι h H) (w : WPE k Wx σ (.ok a h) ι h H (relW k) Q) (e : RelW k ι h.length H a v) : Q v H := w ι H v (Post.refl r) e
theorem WPE.sameB {a : Bool} {h : AH} {H : Hp} {ι : Nat → Addr} {σ : L2.St} {Q : Bool → Hp → Prop} (r : R k ι h H) (w : WPE k Wx σ (.ok a h) ι h H relB Q) : Q a H := w ι H a (Post.refl r) rfl

/-! ### names, constants -/
theorem vis_of {se : SE} (cx : CxO X k gl g lv fA se) {x : Str} (h : visB (se.sc.names.lookup x) = true) : Vis X.env.scope x := by
  rw [← cx.sc] at h
  unfold Vis
  revert h
  cases X.env.scope.names.lookup x with
  | none => intro h; cases h
  | some kk => cases kk <;> intro h <;> first | exact .inl rfl | exact .inr (.inl rfl) | exact .inr (.inr rfl) | cases h
theorem e_var {i : Nat} {x : Str} {pos : Pos} (cx : CxO X k gl g lv fA se) (ok : okN se x i = true) : PE X (.Name x pos) (tE k g Wx (.var i)) := by
  unfold okN at ok
  simp only [Bool.and_eq_true, decide_eq_true_eq, Bool.not_eq_true'] at ok
  obtain ⟨⟨⟨e1, e2⟩, e3⟩, e4⟩ := ok
  refine PE.of (pe_var (i := i) (by rw [cx.N]; exact e1) (vis_of cx e2) e3 e4) fun σ H Q ⟨ι, as, h, rs, r, w⟩ => ?_
  dsimp only at w
  unfold evalE at w
  split at w
  · rename_i w0 e
    obtain ⟨v, e1, e2⟩ := rs.2 i w0 e
    exact ⟨v, e1, WPE.same r w e2⟩
  · exact w.elim
theorem e_con {c : Const} {w0 : W} {j : Nat} {pos : Pos} (ok : okCon w0 c = true) : PE X (.Constant c j pos) (tE k g Wx (.con w0)) := by
  unfold okCon at ok
  split at ok
  · rw [beq_iff_eq] at ok
    subst ok
    exact PE.of pe_int fun σ H Q ⟨ι, as, h, rs, r, w⟩ => WPE.same r w (by unfold RelW; rfl)
  · have ok := of_decide_eq_true ok
    subst ok
    exact PE.of pe_str fun σ H Q ⟨ι, as, h, rs, r, w⟩ => WPE.same r w (by unfold RelW; rfl)
  · rw [beq_iff_eq] at ok
    subst ok
    exact PE.of pe_bl fun σ H Q ⟨ι, as, h, rs, r, w⟩ => WPE.same r w (by unfold RelW; rfl)
  · exact PE.of pe_non fun σ H Q ⟨ι, as, h, rs, r, w⟩ => WPE.same r w (by unfold RelW; rfl)
  · cases ok
structure GOk (X : Cx) (gl : Gl) (x : Str) (gk : GK) : Prop where
  gi : L2.Gl X x
  lk : gl.lookup x = some gk
  db : (x == ("__debug__" : Str)) = false
  nm : x ≠ "__name__"
theorem g_of (cx : CxO X k gl g lv fA se) {x : Str} {gk : GK} (ok : okG gl se x gk = true) : GOk X gl x gk := by
  unfold okG at ok
  simp only [Bool.and_eq_true, decide_eq_true_eq, Bool.not_eq_true'] at ok
  obtain ⟨⟨⟨e1, e2⟩, e3⟩, e4⟩ := ok
  refine ⟨?_, e2, e3, by simpa using e4⟩
  show X.env.scope.names.lookup x = _
  rw [cx.sc]
  exact e1
theorem e_glo {x y : Str} {w0 : W} {pos : Pos} (cx : CxO X k gl g lv fA se) (e : x = y) (ok : okG gl se y (.con w0) = true) (sc : gloW w0 = true) : PE X (.Name y pos) (tE k g Wx (.glo x w0)) := by
  have go := g_of cx ok
  obtain ⟨u, v, e1, e2, e3⟩ := cx.fx.gco y w0 go.lk sc
  exact PE.of (pe_glob go.gi e1 e2 go.db) fun σ H Q ⟨ι, as, h, rs, r, w⟩ => WPE.same r w (e3 _ _ _)

/-! ### operators -/
abbrev Ctx := (Nat → Addr) → Nat → Hp → Prop
def KeepP (k : Cst) (P : Ctx) : Prop := ∀ ι n H ι' n' H', Keep k ι n H ι' n' H' → P ι n H → P ι' n' H'
theorem nxt {f : St → AH → Res α} {f2 : α → AH → Res γ} {σ : L2.St} {H : Hp} {Q : δ → Hp → Prop} {ι : Nat → Addr} {as : St} {h : AH} (P : Ctx) (kp : KeepP k P) (rs : RelS k ι h.length H as σ) (r : R k ι h H) (p : P ι h.length H)
    (w : WPE k Wx σ ((f as h).bind f2) ι h H rel2 Q) :
    tR k Wx rel f σ H fun b H1 => ∃ ι h a, RelS k ι h.length H1 as σ ∧ R k ι h H1 ∧ P ι h.length H1 ∧ rel a ι h.length H1 b ∧ WPE k Wx σ (f2 a h) ι h H1 rel2 Q :=
  ⟨ι, as, h, rs, r, (WPE.bind (rel := rel) (rel2 := rel2) r w).imp fun b H1 ⟨a, ι1, h1, q, ra, w1⟩ => ⟨ι1, h1, a, rs.keep (q.keep r), q.rel, kp _ _ _ _ _ _ (q.keep r) p, ra, w1⟩⟩
theorem kpW {w : W} {v : V} : KeepP k fun ι n H => RelW k ι n H w v := fun _ _ _ _ _ _ kp e => e.keep kp
theorem kpWs {w : List W} {v : List V} : KeepP k fun ι n H => RelWs k ι n H w v := fun _ _ _ _ _ _ kp e => e.keep kp
theorem kpAnd {P P' : Ctx} (a : KeepP k P) (b : KeepP k P') : KeepP k fun ι n H => P ι n H ∧ P' ι n H := fun _ _ _ _ _ _ kp e => ⟨a _ _ _ _ _ _ kp e.1, b _ _ _ _ _ _ kp e.2⟩
theorem kpT : KeepP k fun _ _ _ => True := fun _ _ _ _ _ _ _ _ => trivial
theorem e_op {a b : Expr} {ca cb : C} {f : W → W → AH → Res W} {σ : L2.St} {H : Hp} {Q : VK} (nx : ∀ x y h c xs ws h', f x y h ≠ .exc c xs ws h')
    (w : tR k Wx (relW k) (fun as h => (evalE g ca as h).bind fun x h1 => (evalE g cb as h1).bind fun y h2 => f x y h2) σ H Q) :
    tOp (fun x y H Q => ∃ ι h a b, R k ι h H ∧ RelW k ι h.length H a x ∧ RelW k ι h.length H b y ∧ WPV k (f a b h) ι h H (relW k) Q) (tE k g Wx ca) (tE k g Wx cb) σ H Q := by
  obtain ⟨ι, as, h, rs, r, w⟩ := w
  dsimp only at w
  refine (nxt (fun _ _ _ => True) kpT rs r trivial w).imp fun x H1 ⟨ι, h, wx, rs, r, _, rx, w⟩ => ?_
  refine (nxt (fun ι n H => RelW k ι n H wx x) kpW rs r rx w).imp fun y H2 ⟨ι, h, wy, rs, r, rx, ry, w⟩ => ?_
  exact ⟨ι, h, wx, wy, r, rx, ry, WPV.of w (nx _ _ _)⟩
theorem e_bin {a b : Expr} {ca cb : C} {op : Bop} {pos : Pos} (cx : CxO X k gl g lv fA se) (ha : PE X a (tE k g Wx ca)) (hb : PE X b (tE k g Wx cb)) : PE X (.BinOp a (bopOf op) b pos) (tE k g Wx (.bin op ca cb)) := by
  refine PE.of (pe_op (op_binA cx.K op) ha hb) fun σ H Q w => ?_
  exact e_op (a := a) (b := b) (fun x y h => binW_nx) (tR.eq w fun _ _ => by rw [evalE])
theorem mark_of {op : CmpOp} {b : Expr} (h : noSet b = true) : behindInMarks op b = false := by
  cases b <;> first | rfl | (cases h; done) | (cases op <;> rfl)
theorem e_cmp {a b : Expr} {ca cb : C} {op : Cop} {pos : Pos} (cx : CxO X k gl g lv fA se) (hs : noSet b = true) (ha : PE X a (tE k g Wx ca)) (hb : PE X b (tE k g Wx cb)) : PE X (.Compare a [copOf op] [b] pos) (tE k g Wx (.cmp op ca cb)) := by
  refine PE.of (pe_cmpR (op_cmpA cx.K cx.un op) ha hb (mark_of hs)) fun σ H Q w => ?_
  exact e_op (a := a) (b := b) (fun x y h => cmpW_nx) (tR.eq w fun _ _ => by rw [evalE])
theorem e_neg {a : Expr} {ca : C} {pos : Pos} (ha : PE X a (tE k g Wx ca)) : PE X (.UnaryOp .USub a pos) (tE k g Wx (.neg ca)) := by
  refine PE.of (pe_un un_neg ha) fun σ H Q w => ?_
  obtain ⟨ι, as, h, rs, r, w⟩ := w
  dsimp only at w
  rw [evalE] at w
  refine (nxt (fun _ _ _ => True) kpT rs r trivial w).imp fun x H1 ⟨ι, h, wx, rs, r, _, rx, w⟩ => ?_
  split at w
  · unfold RelW at rx
    subst rx
    exact ⟨_, rfl, WPE.same r w (by unfold RelW; rfl)⟩
  · exact w.elim
theorem optR_bl {o f h} : optR o f h = .stuck ∨ ∃ c, optR o f h = .ok (.bl c) h := by
  unfold optR
  split
  · exact .inr ⟨_, rfl⟩
  · exact .inl rfl
theorem cmpW_bl {op : Cop} {x y : W} {h : AH} : cmpW op x y h = .stuck ∨ ∃ c, cmpW op x y h = .ok (.bl c) h := by
  unfold cmpW
  split <;> first | exact optR_bl | (split <;> first | exact .inr ⟨_, rfl⟩ | exact .inl rfl)
theorem e_not {a : Expr} {ca : C} {pos : Pos} (ha : PE X a (tE k g Wx ca)) : PE X (.UnaryOp .Not a pos) (tE k g Wx (.not ca)) := by
  refine PE.of (pe_not ha) fun σ H Q w => ?_
  obtain ⟨ι, as, h, rs, r, w⟩ := w
  dsimp only at w
  rw [evalE] at w
  refine (nxt (fun _ _ _ => True) kpT rs r trivial w).imp fun x H1 ⟨ι, h, wx, rs, r, _, rx, w⟩ => ?_
  split at w
  · unfold RelW at rx
    subst rx
    exact ⟨_, rfl, WPE.same r w (by unfold RelW; rfl)⟩
  · exact w.elim
/-! ### and, or -/
def tAn (k : Cst) (g : Ev) (Wx : WX) (cs : List C) : TE := tR k Wx (relW k) fun as h => evalAnd g cs as h
def tOr_ (k : Cst) (g : Ev) (Wx : WX) (cs : List C) : TE := tR k Wx (relW k) fun as h => evalOr g cs as h
theorem e_and1 {a : Expr} {ca : C} {pos : Pos} (ha : PE X a (tE k g Wx ca)) : PE X (.BoolOp .And [a] pos) (tAn k g Wx [ca]) :=
  PE.of (pe_one ha) fun σ H Q w => tR.eq w fun _ _ => by rw [evalAnd]
theorem e_or1 {a : Expr} {ca : C} {pos : Pos} (ha : PE X a (tE k g Wx ca)) : PE X (.BoolOp .Or [a] pos) (tOr_ k g Wx [ca]) :=
  PE.of (pe_one ha) fun σ H Q w => tR.eq w fun _ _ => by rw [evalOr]
theorem e_and {a b : Expr} {rest : List Expr} {ca cb : C} {cs : List C} {pos : Pos} (ha : PE X a (tE k g Wx ca)) (hb : PE X (.BoolOp .And (b :: rest) pos) (tAn k g Wx (cb :: cs))) : PE X (.BoolOp .And (a :: b :: rest) pos) (tAn k g Wx (ca :: cb :: cs)) := by
  refine PE.of (pe_and ha hb) fun σ H Q w => ?_
  obtain ⟨ι, as, h, rs, r, w⟩ := w
  dsimp only at w
  rw [evalAnd.eq_3 _ _ _ _ _ (by simp)] at w
  refine (nxt (fun _ _ _ => True) kpT rs r trivial w).imp fun x H1 ⟨ι, h, wx, rs, r, _, rx, w⟩ => ?_
  split at w
  · unfold RelW at rx
    subst rx
    exact ⟨true, rfl, ⟨ι, as, h, rs, r, w⟩⟩
  · unfold RelW at rx
    subst rx
    exact ⟨false, rfl, WPE.same r w (by unfold RelW; rfl)⟩
  · exact w.elim
theorem e_or {a b : Expr} {rest : List Expr} {ca cb : C} {cs : List C} {pos : Pos} (ha : PE X a (tE k g Wx ca)) (hb : PE X (.BoolOp .Or (b :: rest) pos) (tOr_ k g Wx (cb :: cs))) : PE X (.BoolOp .Or (a :: b :: rest) pos) (tOr_ k g Wx (ca :: cb :: cs)) := by
  refine PE.of (pe_or ha hb) fun σ H Q w => ?_
  obtain ⟨ι, as, h, rs, r, w⟩ := w
  dsimp only at w
  rw [evalOr.eq_3 _ _ _ _ _ (by simp)] at w
  refine (nxt (fun _ _ _ => True) kpT rs r trivial w).imp fun x H1 ⟨ι, h, wx, rs, r, _, rx, w⟩ => ?_
  split at w
  · unfold RelW at rx
    subst rx
    exact ⟨false, rfl, ⟨ι, as, h, rs, r, w⟩⟩
  · unfold RelW at rx
    subst rx
    exact ⟨true, rfl, WPE.same r w (by unfold RelW; rfl)⟩
  · exact w.elim
/-! ### tests -/
theorem t_not {a : Expr} {ca : T} {pos : Pos} (ha : PT X a (tT k g Wx ca)) : PT X (.UnaryOp .Not a pos) (tT k g Wx (.not ca)) := by
  refine PT.of (pt_not ha) fun σ H Q w => ?_
  obtain ⟨ι, as, h, rs, r, w⟩ := w
  dsimp only at w
  rw [evalT] at w
  refine (nxt (fun _ _ _ => True) kpT rs r trivial w).imp fun x H1 ⟨ι, h, wx, rs, r, _, rx, w⟩ => ?_
  have rx : wx = x := rx
  subst rx
  exact WPE.sameB r w
def tTA (k : Cst) (g : Ev) (Wx : WX) (cs : List T) : TT := tR k Wx relB fun as h => evalTA g cs as h
def tTO (k : Cst) (g : Ev) (Wx : WX) (cs : List T) : TT := tR k Wx relB fun as h => evalTO g cs as h
theorem bind_okB {r : Res Bool} : (r.bind fun c h1 => if c then Res.ok true h1 else Res.ok false h1) = r := by
  cases r <;> (try rfl)
  rename_i a _
  cases a <;> rfl
theorem t_and1 {a : Expr} {ca : T} {pos : Pos} (ha : PT X a (tT k g Wx ca)) : PW X (.BoolOp .And [a] pos) (tTA k g Wx [ca]) :=
  PW.of (pw_and1 ha) fun σ H Q w => tR.eq w fun _ _ => by
    rw [evalTA]
    simp only [evalTA]
    exact bind_okB
theorem t_or1 {a : Expr} {ca : T} {pos : Pos} (ha : PT X a (tT k g Wx ca)) : PW X (.BoolOp .Or [a] pos) (tTO k g Wx [ca]) :=
  PW.of (pw_or1 ha) fun σ H Q w => tR.eq w fun _ _ => by
    rw [evalTO]
    simp only [evalTO]
    exact bind_okB
theorem t_and {a b : Expr} {rest : List Expr} {ca : T} {cs : List T} {pos : Pos} (ha : PT X a (tT k g Wx ca)) (hb : PW X (.BoolOp .And (b :: rest) pos) (tTA k g Wx cs)) : PW X (.BoolOp .And (a :: b :: rest) pos) (tTA k g Wx (ca :: cs)) := by
  refine PW.of (pw_and ha hb) fun σ H Q w => ?_
  obtain ⟨ι, as, h, rs, r, w⟩ := w
  dsimp only at w
  rw [evalTA] at w
  refine (nxt (fun _ _ _ => True) kpT rs r trivial w).imp fun x H1 ⟨ι, h, wx, rs, r, _, rx, w⟩ => ?_
  have rx : wx = x := rx
  subst rx
  cases wx with
  | true => exact ⟨ι, as, h, rs, r, w⟩
  | false => exact WPE.sameB r w
theorem t_or {a b : Expr} {rest : List Expr} {ca : T} {cs : List T} {pos : Pos} (ha : PT X a (tT k g Wx ca)) (hb : PW X (.BoolOp .Or (b :: rest) pos) (tTO k g Wx cs)) : PW X (.BoolOp .Or (a :: b :: rest) pos) (tTO k g Wx (ca :: cs)) := by
  refine PW.of (pw_or ha hb) fun σ H Q w => ?_
  obtain ⟨ι, as, h, rs, r, w⟩ := w
  dsimp only at w
  rw [evalTO] at w
  refine (nxt (fun _ _ _ => True) kpT rs r trivial w).imp fun x H1 ⟨ι, h, wx, rs, r, _, rx, w⟩ => ?_
  have rx : wx = x := rx
  subst rx
  cases wx with
  | true => exact WPE.sameB r w
  | false => exact ⟨ι, as, h, rs, r, w⟩
theorem t_val {e : Expr} {c : C} (cx : CxO X k gl g lv fA se) (he : PE X e (tE k g Wx c)) (ok : noTest e = true) : PT X e (tT k g Wx (.val c)) := by
  refine PT.of (pt_truth he (fun whole => by
    cases e <;> first | rfl | (cases ok; done) | skip
    rename_i op _ _
    cases op <;> first | rfl | (cases ok; done))) fun σ H Q w => ?_
  obtain ⟨ι, as, h, rs, r, w⟩ := w
  dsimp only at w
  rw [evalT] at w
  refine (nxt (fun _ _ _ => True) kpT rs r trivial w).imp fun x H1 ⟨ι, h, wx, rs, r, _, rx, w⟩ => ?_
  split at w
  · rename_i b e
    exact ⟨b, truV_of cx.K r rx e, WPE.sameB r w⟩
  · exact w.elim
theorem Res.bind_assoc {α β γ : Type} (r : Res α) (f : α → AH → Res β) (f2 : β → AH → Res γ) : (r.bind f).bind f2 = r.bind fun a h => (f a h).bind f2 := by cases r <;> rfl
theorem t_cmp {a b : Expr} {ca cb : C} {op : Cop} {pos : Pos} (cx : CxO X k gl g lv fA se) (hs : noSet b = true) (ha : PE X a (tE k g Wx ca)) (hb : PE X b (tE k g Wx cb)) : PT X (.Compare a [copOf op] [b] pos) (tT k g Wx (.val (.cmp op ca cb))) := by
  refine PT.of (pt_cmpR (op_cmpA cx.K cx.un op) ha hb (mark_of hs)) fun σ H Q w => ?_
  obtain ⟨ι, as, h, rs, r, w⟩ := w
  dsimp only at w
  rw [evalT, evalE, Res.bind_assoc] at w
  unfold tTest tOp
  refine (nxt (fun _ _ _ => True) kpT rs r trivial w).imp fun x H1 ⟨ι, h, wx, rs, r, _, rx, w⟩ => ?_
  rw [Res.bind_assoc] at w
  refine (nxt (fun ι n H => RelW k ι n H wx x) kpW rs r rx w).imp fun y H2 ⟨ι, h, wy, rs, r, rx, ry, w⟩ => ?_
  refine ⟨ι, h, wx, wy, r, rx, ry, ?_⟩
  rcases cmpW_bl (op := op) (x := wx) (y := wy) (h := h) with e | ⟨c, e⟩
  · rw [e] at w
    exact w.elim
  · rw [e] at w ⊢
    intro ι' H' v p e2
    have e2 : RelW k ι' h.length H' (.bl c) v := e2
    unfold RelW at e2
    exact ⟨c, e2, w ι' H' c p rfl⟩
theorem e_ife {c a b : Expr} {tc : T} {ca cb : C} {pos : Pos} (hc : PT X c (tT k g Wx tc)) (ha : PE X a (tE k g Wx ca)) (hb : PE X b (tE k g Wx cb)) : PE X (.IfExp c a b pos) (tE k g Wx (.ife tc ca cb)) := by
  refine PE.of (pe_ifExp hc ha hb) fun σ H Q w => ?_
  obtain ⟨ι, as, h, rs, r, w⟩ := w
  dsimp only at w
  rw [evalE] at w
  refine (nxt (fun _ _ _ => True) kpT rs r trivial w).imp fun x H1 ⟨ι, h, wx, rs, r, _, rx, w⟩ => ?_
  have rx : wx = x := rx
  subst rx
  cases wx with
  | true => exact ⟨ι, as, h, rs, r, w⟩
  | false => exact ⟨ι, as, h, rs, r, w⟩
/-! ### subscripts, slices, displays -/
theorem plainIx {s : Expr} (h : noSlice s = true) : PlainIx s := by
  cases s <;> first | (cases h; done) | exact fun _ _ => rfl
theorem e_sub {a b : Expr} {ca cb : C} {pos : Pos} (cx : CxO X k gl g lv fA se) (hs : noSlice b = true) (ha : PE X a (tE k g Wx ca)) (hb : PE X b (tE k g Wx cb)) : PE X (.Subscript a b pos) (tE k g Wx (.sub ca cb)) := by
  refine PE.of (pe_ix (ix_A cx.K cx.fx.sc) ha hb (plainIx hs)) fun σ H Q w => ?_
  exact e_op (a := a) (b := b) (f := subR g) (fun x y h => subR_nx) (tR.eq w fun _ _ => by
    rw [evalE]
    rfl)
def tP (k : Cst) (g : Ev) (Wx : WX) (cs : List C) : TO := tR k Wx relI fun as h => evalP g cs as h
theorem o_none : PO X none (tP k g Wx []) := by
  refine ⟨fun pins s σ H Q I w => po_none.run pins s σ H Q I ?_⟩
  obtain ⟨ι, as, h, rs, r, w⟩ := w
  dsimp only at w
  rw [evalP] at w
  exact w ι H none (Post.refl r) rfl
theorem o_some {e : Expr} {c : C} {cs : List C} (he : PE X e (tE k g Wx c)) : PO X (some e) (tP k g Wx (c :: cs)) := by
  refine ⟨fun pins s σ H Q I w => (po_some he).run pins s σ H Q I ?_⟩
  obtain ⟨ι, as, h, rs, r, w⟩ := w
  dsimp only at w
  rw [evalP] at w
  refine (nxt (fun _ _ _ => True) kpT rs r trivial w).imp fun x H1 ⟨ι, h, wx, rs, r, _, rx, w⟩ => ?_
  split at w
  · unfold RelW at rx
    subst rx
    exact ⟨_, rfl, w ι H1 _ (Post.refl r) rfl⟩
  · exact w.elim
theorem e_slc {e : Expr} {lo hi : Option Expr} {c : C} {cl ch : List C} {pos p2 : Pos} (cx : CxO X k gl g lv fA se) (he : PE X e (tE k g Wx c)) (hl : PO X lo (tP k g Wx cl)) (hu : PO X hi (tP k g Wx ch)) : PE X (.Subscript e (.Slice lo hi none p2) pos) (tE k g Wx (.slc c cl ch)) := by
  refine PE.of (pe_slice (sl_A cx.K) he hl hu) fun σ H Q w => ?_
  obtain ⟨ι, as, h, rs, r, w⟩ := w
  dsimp only at w
  rw [evalE] at w
  refine (nxt (fun _ _ _ => True) kpT rs r trivial w).imp fun x H1 ⟨ι, h, wx, rs, r, _, rx, w⟩ => ?_
  refine (nxt (rel := relI) (fun ι n H => RelW k ι n H wx x) kpW rs r rx w).imp fun l H2 ⟨ι, h, wl, rs, r, rx, rl, w⟩ => ?_
  refine (nxt (rel := relI) (fun ι n H => RelW k ι n H wx x) kpW rs r rx w).imp fun u H3 ⟨ι, h, wu, rs, r, rx, ru, w⟩ => ?_
  have rl : wl = l := rl
  have ru : wu = u := ru
  subst rl ru
  rw [cx.fx.sc] at w
  exact ⟨ι, h, wx, r, rx, WPV.of w fun c xs ws h' => slcR_nx c xs ws h'⟩
theorem star_of {e : Expr} {es : List Expr} {env : Env} (h : noStar e = true) : starEach (e :: es) env = (false, eval e env) :: starEach es env := by
  cases e <;> first | rfl | (cases h; done)
theorem a_nil : PA X [] (tEs k g Wx []) := PA.of pa_nil fun σ H Q ⟨ι, as, h, rs, r, w⟩ => by
  dsimp only at w
  rw [evalEs] at w
  exact w ι H [] (Post.refl r) .nil
theorem a_cons {e : Expr} {es : List Expr} {c : C} {cs : List C} (hs : noStar e = true) (he : PE X e (tE k g Wx c)) (hr : PA X es (tEs k g Wx cs)) : PA X (e :: es) (tEs k g Wx (c :: cs)) := by
  refine PA.of (pa_cons he hr (star_of hs)) fun σ H Q w => ?_
  obtain ⟨ι, as, h, rs, r, w⟩ := w
  dsimp only at w
  rw [evalEs] at w
  refine (nxt (fun _ _ _ => True) kpT rs r trivial w).imp fun x H1 ⟨ι, h, wx, rs, r, _, rx, w⟩ => ?_
  refine (nxt (rel := relWs k) (fun ι n H => RelW k ι n H wx x) kpW rs r rx w).imp fun l H2 ⟨ι, h, wl, rs, r, rx, rl, w⟩ => ?_
  exact w ι H2 _ (Post.refl r) (RelWs.cons rx rl)
end
end AM
/-! Calls, methods, attributes, built-in functions. -/
namespace AM
open PySem L2
section
variable {X : Cx} {k : Cst} {gl : Gl} {g : Ev} {lv : Nat} {fA : Nat → Addr} {se : SE} {Wx : WX}
theorem noStar_of {c : C} {e : Expr} (h : okE gl c se e = true) : noStar e = true := by
  cases e <;> first | rfl | skip
  cases c <;> (unfold okE at h; cases h)
theorem star_any {env : Env} {pos : Pos} : ∀ {es : List Expr}, es.all noStar = true → (backTo pos (starEach es env)).any (·.1) = false
  | [], _ => rfl
  | e :: es, h => by
    rw [List.all_cons, Bool.and_eq_true] at h
    rw [star_of h.1]
    show (false || (backTo pos (starEach es env)).any (·.1)) = false
    rw [star_any h.2]
    rfl
theorem star_all {env : Env} {pos : Pos} : ∀ {es : List Expr}, es.all noStar = true → (backTo pos (starEach es env)).all (!·.1) = true
  | [], _ => rfl
  | e :: es, h => by
    rw [List.all_cons, Bool.and_eq_true] at h
    rw [star_of h.1]
    show (true && (backTo pos (starEach es env)).all (!·.1)) = true
    rw [star_all h.2]
    rfl
theorem kw_all {env : Env} {pos : Pos} : ∀ {kws : List Keyword}, kwNamed kws = true → (backToKw pos (keywordEach kws env)).all (·.1.isSome) = true
  | [], _ => rfl
  | ⟨some x, e, p⟩ :: r, h => by
    show (true && (backToKw pos (keywordEach r env)).all (·.1.isSome)) = true
    rw [kw_all (by simpa [kwNamed] using h)]
    rfl
  | ⟨none, e, p⟩ :: r, h => by cases h
theorem kw_none {env : Env} {pos : Pos} : ∀ {kws : List Keyword}, kwNamed kws = true → (backToKw pos (keywordEach kws env)).any (·.1.isNone) = false
  | [], _ => rfl
  | ⟨some x, e, p⟩ :: r, h => by
    show (false || (backToKw pos (keywordEach r env)).any (·.1.isNone)) = false
    rw [kw_none (by simpa [kwNamed] using h)]
    rfl
  | ⟨none, e, p⟩ :: r, h => by cases h
theorem kw_names {env : Env} {pos : Pos} : ∀ {kws : List Keyword}, kwNamed kws = true → (backToKw pos (keywordEach kws env)).filterMap (·.1) = kwNames kws
  | [], _ => rfl
  | ⟨some x, e, p⟩ :: r, h => by
    show x :: (backToKw pos (keywordEach r env)).filterMap (·.1) = x :: kwNames r
    rw [kw_names (by simpa [kwNamed] using h)]
  | ⟨none, e, p⟩ :: r, h => by cases h
theorem kw_len {env : Env} {pos : Pos} : ∀ {kws : List Keyword}, (backToKw pos (keywordEach kws env)).isEmpty = kws.isEmpty
  | [] => rfl
  | ⟨some x, e, p⟩ :: r => rfl
  | ⟨none, e, p⟩ :: r => rfl
/-- a call's arguments, then its keywords, then the call -/
theorem cw {f : Value} {first : List Value} {es : List Expr} {kws : List Keyword} {t tk : TA} {pos : Pos} {pins : List (Addr × Obj)} {σ : L2.St} {H : Hp} {s : Shared} {Q : Value → Shared → Prop} {Rr : List V → List V → Hp → Prop}
    (hk : PySem.W.keepIn X.K f = true) (ha : PA X es t) (hkw : PK X kws tk) (hst : es.all noStar = true) (hn : kwNamed kws = true) (hnil : es = [] → ∀ σ H Q, t σ H Q → Q [] H) (I : Inv X pins σ H s) (h : t σ H fun vs H1 => tk σ H1 fun zs H2 => Rr vs zs H2)
    (hf : ∀ us ws s2 vs zs H2, Inv X pins σ H2 s2 → Vals vs us → Vals zs ws → Rr vs zs H2 → wpAny (model X.prog X.w) X.A (call f (first ++ us) ((kwNames kws).zip ws)) Q X.xe s2) :
    wpAny (model X.prog X.w) X.A (callWith pos f first (backTo pos (starEach es X.env)) (backToKw pos (keywordEach kws X.env))) Q X.xe s := by
  have key : ∀ us s1 vs H1, Inv X pins σ H1 s1 → Vals vs us → tk σ H1 (fun zs H2 => Rr vs zs H2) → wpAny (model X.prog X.w) X.A (evalAll ((backToKw pos (keywordEach kws X.env)).map (·.2)))
      (fun ks s₂ => X.K.In s₂.heap ∧ wpAny (model X.prog X.w) X.A (call f (first ++ us) (((backToKw pos (keywordEach kws X.env)).filterMap (·.1)).zip ks)) Q X.xe s₂) X.xe s1 := fun us s1 vs H1 I1 r q =>
    thn (hkw.run pos pins s1 σ H1 _ I1 q) fun ws s2 ⟨zs, H2, I2, rz, q2⟩ => ⟨I2.kIn, by rw [kw_names hn]; exact hf us ws s2 vs zs H2 I2 r rz q2⟩
  cases es with
  | nil =>
    refine PySem.W.callWith_KW0 (h₀ := X.base) I.ok.mod.kin hk (kw_all hn) ?_ (by rw [kw_none hn]; rfl)
    exact key [] s [] H I .nil (hnil rfl σ H _ h)
  | cons e es =>
    have hst2 := hst
    rw [List.all_cons, Bool.and_eq_true] at hst2
    exact PySem.W.callWith_KW (h₀ := X.base) I.ok.mod.kin hk (kw_all hn) (thn (ha.run pos pins s σ H _ I h) fun us s1 ⟨vs, H1, I1, r, q⟩ => key us s1 vs H1 I1 r q) (by rw [kw_none hn, star_any hst]; rfl) (star_of hst2.1)
/-! ### keyword binding -/
theorem pick_rel {α β : Type} {l : List α} {l2 : List β} (P : α → β → Prop) (h : ∀ (i : Nat) (x : α), l[i]? = some x → ∃ y, l2[i]? = some y ∧ P x y) : ∀ (is : List Nat) {r : List α}, pick l is = some r → ∃ r2, pick l2 is = some r2 ∧ Paired P r r2
  | [], r, e => by
    cases e
    exact ⟨[], rfl, .nil⟩
  | i :: is, r, e => by
    unfold pick at e
    split at e
    · rename_i x r' e1 e2
      cases e
      obtain ⟨y, q1, q2⟩ := h i x e1
      obtain ⟨r2, q3, q4⟩ := pick_rel P h is e2
      refine ⟨y :: r2, ?_, .cons q2 q4⟩
      unfold pick
      rw [q1, q3]
    · cases e
theorem relWs_of {ι : Nat → Addr} {n : Nat} {H : Hp} : ∀ {ws : List W} {vs : List V}, Paired (fun w v => RelW k ι n H w v) ws vs → RelWs k ι n H ws vs
  | _, _, .nil => .nil
  | _, _, .cons a b => .cons a (relWs_of b)
theorem Paired.len {α β : Type} {P : α → β → Prop} {l : List α} {l2 : List β} (h : Paired P l l2) : l.length = l2.length := Paired.length h
theorem WPE.wish {α β : Type} {rel : Rel α β} {σ : L2.St} {ι : Nat → Addr} {h : AH} {H : Hp} {r : Res α} {Q : β → Hp → Prop} (w : WPE k Wx σ r ι h H rel Q) : WPE k (fun c d _ H => WE Wx σ c d H) [] r ι h H rel Q := by
  revert w
  cases r <;> exact fun z => z
/-- the def at f called with us by place and uz by name -/
theorem run_any {P : Program} {w0 : World} {mg : Str → Option Value} {base : Heap} {a : Addr} {f : Nat} {d : DefC} {ι : Nat → Addr} {h : AH} {ws wz : List W} {ks : List Str} {vs zs : List V} {us uz : List Value} {A : Around} {outer : List Env} {H : Hp} {s : Shared} {Q : VK} {E : XK}
    (fs : FnS P w0 mg base k g lv f d a) (len : ∀ ws h, ws.length ≠ d.ps.length → g.cf f ws h = .stuck) (hd : g.gc.defs[f]? = some d) (hr : Room lv A) (hq : A.guards = some []) (e0 : Env0 P w0 k.K mg base A outer s H) (r : R k ι h H) (r1 : RelWs k ι h.length H ws vs) (r2 : RelWs k ι h.length H wz zs)
    (v1 : Vals vs us) (v2 : Vals zs uz) (w : WPE k (fun c d _ H => E c d H) [] (callW g f ws ks wz h) ι h H (relW k) Q) : codeAny (model P w0) A (.call (.ref a) ⟨us, ks.zip uz⟩) (CR (L2.CX P w0) outer P w0 H s Q E) s := by
  obtain ⟨fd, _, F, hb, hkw⟩ := fs.fn
  have kin : k.K.In s.heap := e0.mod.kin.keeps fun b o e => (e0.bs b o e).1
  have key : ∀ (ws' : List W) (vs' : List V) (us' : List Value) (args : Args), RelWs k ι h.length H ws' vs' → Vals vs' us' → BindsTo s fd args (d.ps.zip us') → WPE k (fun c d _ H => E c d H) [] (g.cf f ws' h) ι h H (relW k) Q →
      codeAny (model P w0) A (.call (.ref a) args) (CR (L2.CX P w0) outer P w0 H s Q E) s := fun ws' vs' us' args q1 q2 q3 q4 => by
    by_cases hn : ws'.length = d.ps.length
    · exact F.go hr hq e0 q3 q2 ⟨by rw [← q1.len]; exact hn, ι, h, ws', r, q1, q4⟩
    · rw [len ws' h hn] at q4
      exact q4.elim
  unfold callW at w
  split at w
  · split at w
    · rw [show uz = [] from by
        have e1 := v2.length
        have e2 := r2.len
        cases uz with
        | nil => rfl
        | cons _ _ =>
          rw [e1] at e2
          cases e2]
      refine key ws vs us ⟨us, []⟩ r1 v1 ?_ w
      by_cases hn : ws.length = d.ps.length
      · have := hb s us kin (by rw [List.append_nil, ← v1.length, ← r1.len]; exact hn)
        rw [List.append_nil] at this
        exact this
      · rw [len ws h hn] at w
        exact w.elim
    · exact w.elim
  · rw [hd] at w
    dsimp only at w
    split at w
    · rename_i hm
      rw [Bool.and_eq_true, decide_eq_true_eq, decide_eq_true_eq] at hm
      obtain ⟨hl, hm⟩ := hm
      split at w
      · rename_i ws' e
        obtain ⟨is, e1, e2⟩ := Option.bind_eq_some_iff.mp e
        obtain ⟨vs', e3, p1⟩ := pick_rel (l2 := vs ++ zs) (fun w v => RelW k ι h.length H w v) (fun i x q => (r1.append r2).get q) is e2
        obtain ⟨us', e4, p2⟩ := pick_rel (l2 := us ++ uz) L2.RelV (fun i x q => (v1.append v2).get q) is e3
        have l1 : us.length = ws.length := by rw [← v1.length, ← r1.len]
        have l2 : uz.length = ks.length := by rw [← v2.length, ← r2.len, hl]
        exact key ws' vs' us' ⟨us, ks.zip uz⟩ (relWs_of p1) p2 (.of_eq (hkw ws.length ks hm us uz us' l1 l2 (by rw [e1]; exact e4))) w
      · exact w.elim
    · exact w.elim
theorem env0K {k : Cst} {P : Program} {w : World} {mg : Str → Option Value} {base : Heap} {A : Around} {outer : List Env} {s : Shared} {H : Hp} {K : PySem.W.Frag} (e : K = k.K) (x : Env0 P w K mg base A outer s H) : Env0 P w k.K mg base A outer s H := by
  rw [← e]
  exact x
theorem run_call {f : Nat} {d : DefC} {ι : Nat → Addr} {h : AH} {ws wz : List W} {ks : List Str} {vs zs : List V} {us uz : List Value} {pins : List (Addr × Obj)} {σ : L2.St} {H : Hp} {s : Shared} {Q : VK} (cx : CxO X k gl g lv fA se) (tk : Takes X Wx)
    (hd : g.gc.defs[f]? = some d) (I : Inv X pins σ H s) (r : R k ι h H) (r1 : RelWs k ι h.length H ws vs) (r2 : RelWs k ι h.length H wz zs) (v1 : Vals vs us) (v2 : Vals zs uz) (w : WPE k Wx σ (callW g f ws ks wz h) ι h H (relW k) Q) :
    wpAny (model X.prog X.w) X.A (call (.ref (fA f)) us (ks.zip uz)) (EP X pins σ Q) X.xe s := by
  refine wpAny_call (codeAny_mono (run_any (cx.fx.fn f d hd) (fun ws h hn => cx.fx.len f ws h d hd hn) hd (cx.room.mono (by omega)) cx.quiet (env0K cx.K I.env0) r r1 r2 v1 v2 w.wish) fun r s' hq => ?_)
  cases r with
  | error e => exact passAt tk σ pins H s e s' I hq
  | ok fl =>
    cases fl with
    | ret u => exact I.after hq
    | next => exact False.elim hq
    | brk => exact False.elim hq
    | cont => exact False.elim hq
/-- f(..) -/
theorem e_call {x : Str} {f : Nat} {es : List Expr} {kws : List Keyword} {cs kcs : List C} {ks : List Str} {p pos : Pos} (cx : CxO X k gl g lv fA se) (tk : Takes X Wx) (go : GOk X gl x (.fn f)) (ha : PA X es (tEs k g Wx cs)) (hkw : PK X kws (tEs k g Wx kcs))
    (hst : es.all noStar = true) (hn : kwNamed kws = true) (hks : ks = kwNames kws) (hnil : es = [] → cs = []) : PE X (.Call (.Name x p) es kws pos) (tE k g Wx (.call f cs ks kcs)) := by
  refine ⟨fun pins s σ H Q I w => ?_⟩
  obtain ⟨ι, as, h, rs, r, w⟩ := w
  dsimp only at w
  rw [evalE] at w
  obtain ⟨e1, d, hd⟩ := cx.fx.gfn x f go.lk
  refine wpAny_Call_Name_kw (ld_glob I go.gi e1 ?_ go.db)
  refine cw (Rr := fun vs zs H2 => ∃ ι h ws wz, R k ι h H2 ∧ RelWs k ι h.length H2 ws vs ∧ RelWs k ι h.length H2 wz zs ∧ WPE k Wx σ (callW g f ws ks wz h) ι h H2 (relW k) Q) (by rw [cx.K]; exact (cx.fx.fn f d hd).kp) ha hkw hst hn (fun e σ H Q w => ?_) I ?_ ?_
  · rw [hnil e] at w
    obtain ⟨ι, as, h, rs, r, w⟩ := w
    dsimp only at w
    rw [evalEs] at w
    exact w ι H [] (Post.refl r) .nil
  · refine (nxt (fun _ _ _ => True) kpT rs r trivial w).imp fun vs H1 ⟨ι, h, ws, rs, r, _, rx, w⟩ => ?_
    refine (nxt (rel := relWs k) (fun ι n H => RelWs k ι n H ws vs) kpWs rs r rx w).imp fun zs H2 ⟨ι, h, wz, rs, r, rx, rz, w⟩ => ?_
    exact ⟨ι, h, ws, wz, r, rx, rz, w⟩
  · intro us uz s2 vs zs H2 I2 v1 v2 ⟨ι, h, ws, wz, r, r1, r2, w⟩
    rw [← hks]
    exact run_call cx tk hd I2 r r1 r2 v1 v2 w
/-- C(..) -/
theorem run_new {c : Nat} {ι : Nat → Addr} {h : AH} {ws wz : List W} {ks : List Str} {vs zs : List V} {us uz : List Value} {pins : List (Addr × Obj)} {σ : L2.St} {H : Hp} {s : Shared} {Q : VK} (cx : CxO X k gl g lv fA se) (tk : Takes X Wx)
    (I : Inv X pins σ H s) (r : R k ι h H) (r1 : RelWs k ι h.length H ws vs) (r2 : RelWs k ι h.length H wz zs) (v1 : Vals vs us) (v2 : Vals zs uz) (w : WPE k Wx σ (newW g c ws ks wz h) ι h H (relW k) Q) :
    wpAny (model X.prog X.w) X.A (call (.ref (k.cA c)) us (ks.zip uz)) (EP X pins σ Q) X.xe s := by
  unfold newW at w
  split at w
  · rename_i cl hc
    have M := (cx.fx.cl c cl hc).mak
    have M : L2.Mk X.K (k.cA c) (fA cl.init) := by rw [cx.K]; exact M
    obtain ⟨d, hd⟩ := cx.fx.ini c cl hc
    have key : ∀ x dx, H x = none → H dx = none → x ≠ dx → R k (snoc ι h.length x) (h ++ [O.ins c []]) (L2.upd (L2.upd H dx (HO.own x)) x (HO.ins (k.cA c) dx [])) ∧
        RelWs k (snoc ι h.length x) (h ++ [O.ins c []]).length (L2.upd (L2.upd H dx (HO.own x)) x (HO.ins (k.cA c) dx [])) (W.loc h.length :: ws) (V.ref x :: vs) ∧
        RelWs k (snoc ι h.length x) (h ++ [O.ins c []]).length (L2.upd (L2.upd H dx (HO.own x)) x (HO.ins (k.cA c) dx [])) wz zs ∧
        WPE k Wx σ (callW g cl.init (W.loc h.length :: ws) ks wz (h ++ [O.ins c []])) (snoc ι h.length x) (h ++ [O.ins c []]) (L2.upd (L2.upd H dx (HO.own x)) x (HO.ins (k.cA c) dx [])) (relW k) (fun v H2 => v = .non ∧ Q (.ref x) H2) := by
      intro x dx hx0 hd0 ne
      have p1 : Post k ι h H ι h (L2.upd H dx (.own x)) := Post.side r hd0
      have hx1 : (L2.upd H dx (.own x)) x = none := by rw [upd_ne ne]; exact hx0
      have p2 : Post k ι h (L2.upd H dx (.own x)) (snoc ι h.length x) (h ++ [O.ins c []]) (L2.upd (L2.upd H dx (.own x)) x (.ins (k.cA c) dx [])) :=
        Post.alloc p1.rel hx1 fun ι' n' H' kp e => ⟨dx, [], e, rfl⟩
      have p := p1.trans r p2
      refine ⟨p.rel, RelWs.cons ?_ (RelWs.keep (p.keep r) ws r1), RelWs.keep (p.keep r) wz r2, (WPE.bind (rel := relW k) p.rel (WPE.move r p w)).imp fun v H2 ⟨a, ι1, h1, q, ra, w⟩ => ?_⟩
      · unfold RelW
        exact ⟨by simp, by rw [snoc_eq]⟩
      · split at w
        · rename_i e
          subst e
          unfold relW RelW at ra
          refine ⟨ra, WPE.same q.rel w ?_⟩
          unfold RelW
          have := q.len
          rw [List.length_append] at this
          refine ⟨by simp at this; omega, ?_⟩
          rw [q.old _ (by simp), snoc_eq]
        · exact w.elim
    obtain ⟨k1, k2, k3, k4⟩ := key (s.heap.objs.size + 1) s.heap.objs.size (I.hok.fresh (Nat.le_succ _)) (I.hok.fresh (Nat.le_refl _)) (Nat.succ_ne_self _)
    have I2 := Inv.made (C := k.cA c) I
    refine wpAny_call (make_map (f := fA cl.init) I.kIn M.makes M.init (beq_iff_eq.mp M.fn) (codeAny_mono (run_any (us := .ref (s.heap.objs.size + 1) :: us) (cx.fx.fn cl.init d hd) (fun ws h hn => cx.fx.len cl.init ws h d hd hn) hd
      ((cx.room.mono (by omega) : Room (lv + 1) X.A).make _ _ _) (make_guards cx.quiet) (env0K cx.K (I2.env0.make _ _ _)) k1 k2 k3 (.cons rfl v1) v2 k4.wish) fun r s' hq' => ?_))
    cases r with
    | error e => exact passAt tk σ pins _ _ e s' I2 hq'
    | ok fl =>
      cases fl with
      | ret u =>
        obtain ⟨v, H', I3, rv, ev, q3⟩ := I2.after hq'
        subst ev
        exact ⟨rv, ⟨V.ref (s.heap.objs.size + 1), H', I3, rfl, q3⟩⟩
      | next => exact False.elim hq'
      | brk => exact False.elim hq'
      | cont => exact False.elim hq'
  · exact w.elim
theorem e_new {x : Str} {c : Nat} {es : List Expr} {kws : List Keyword} {cs kcs : List C} {ks : List Str} {p pos : Pos} (cx : CxO X k gl g lv fA se) (tk : Takes X Wx) (go : GOk X gl x (.cls c)) (ha : PA X es (tEs k g Wx cs)) (hkw : PK X kws (tEs k g Wx kcs))
    (hst : es.all noStar = true) (hn : kwNamed kws = true) (hks : ks = kwNames kws) (hnil : es = [] → cs = []) : PE X (.Call (.Name x p) es kws pos) (tE k g Wx (.new c cs ks kcs)) := by
  refine ⟨fun pins s σ H Q I w => ?_⟩
  obtain ⟨ι, as, h, rs, r, w⟩ := w
  dsimp only at w
  rw [evalE] at w
  obtain ⟨e1, kp⟩ := cx.fx.gcl x c go.lk
  refine wpAny_Call_Name_kw (ld_glob I go.gi e1 ?_ go.db)
  refine cw (Rr := fun vs zs H2 => ∃ ι h ws wz, R k ι h H2 ∧ RelWs k ι h.length H2 ws vs ∧ RelWs k ι h.length H2 wz zs ∧ WPE k Wx σ (newW g c ws ks wz h) ι h H2 (relW k) Q) (by rw [cx.K]; exact kp) ha hkw hst hn (fun e σ H Q w => ?_) I ?_ ?_
  · rw [hnil e] at w
    obtain ⟨ι, as, h, rs, r, w⟩ := w
    dsimp only at w
    rw [evalEs] at w
    exact w ι H [] (Post.refl r) .nil
  · refine (nxt (fun _ _ _ => True) kpT rs r trivial w).imp fun vs H1 ⟨ι, h, ws, rs, r, _, rx, w⟩ => ?_
    refine (nxt (rel := relWs k) (fun ι n H => RelWs k ι n H ws vs) kpWs rs r rx w).imp fun zs H2 ⟨ι, h, wz, rs, r, rx, rz, w⟩ => ?_
    exact ⟨ι, h, ws, wz, r, rx, rz, w⟩
  · intro us uz s2 vs zs H2 I2 v1 v2 ⟨ι, h, ws, wz, r, r1, r2, w⟩
    rw [← hks]
    exact run_new cx tk I2 r r1 r2 v1 v2 w
/-! ### instances -/
theorem relF_none {ι : Nat → Addr} {n : Nat} {H : Hp} {m : Str} : ∀ {fs : List (Str × W)} {vs : List (Str × V)}, RelF k ι n H fs vs → fs.lookup m = none → vs.lookup m = none
  | [], vs, e, _ => by
    have e : vs = [] := e
    rw [e]
    rfl
  | p :: ps, vs, e, q => by
    obtain ⟨v, r, rfl, _, e3⟩ := e
    obtain ⟨p1, p2⟩ := p
    simp only [List.lookup] at q ⊢
    split at q
    · cases q
    · rename_i hb
      exact relF_none e3 q
theorem relF_some {ι : Nat → Addr} {n : Nat} {H : Hp} {m : Str} {w : W} : ∀ {fs : List (Str × W)} {vs : List (Str × V)}, RelF k ι n H fs vs → fs.lookup m = some w → ∃ v, vs.lookup m = some v ∧ RelW k ι n H w v
  | [], vs, e, q => by cases q
  | p :: ps, vs, e, q => by
    obtain ⟨v, r, rfl, e2, e3⟩ := e
    obtain ⟨p1, p2⟩ := p
    simp only [List.lookup] at q ⊢
    split at q
    · cases q
      exact ⟨v, rfl, e2⟩
    · exact relF_some e3 q
theorem relF_len {ι : Nat → Addr} {n : Nat} {H : Hp} : ∀ {fs : List (Str × W)} {vs : List (Str × V)}, RelF k ι n H fs vs → fs.length = vs.length
  | [], vs, e => by
    have e : vs = [] := e
    rw [e]
    rfl
  | p :: ps, vs, e => by
    obtain ⟨v, r, rfl, e2, e3⟩ := e
    exact congrArg Nat.succ (relF_len e3)
theorem relF_put {ι : Nat → Addr} {n : Nat} {H : Hp} {f : Str} {w : W} {v : V} (rv : RelW k ι n H w v) : ∀ {fs : List (Str × W)} {vs : List (Str × V)}, RelF k ι n H fs vs → RelF k ι n H (putA f w fs) (putF f v vs)
  | [], vs, e => by
    have e : vs = [] := e
    rw [e]
    exact ⟨v, [], rfl, rv, rfl⟩
  | p :: ps, vs, e => by
    obtain ⟨u, r, rfl, e2, e3⟩ := e
    obtain ⟨p1, p2⟩ := p
    unfold putA putF
    split
    · rename_i hp
      exact ⟨v, r, rfl, rv, e3⟩
    · exact ⟨u, _, rfl, e2, relF_put rv e3⟩
theorem R.ins {ι : Nat → Addr} {h : AH} {H : Hp} {l c : Nat} {fs : List (Str × W)} (r : R k ι h H) (e : h[l]? = some (.ins c fs)) : ∃ dx vs, H (ι l) = some (.ins (k.cA c) dx vs) ∧ RelF k ι h.length H fs vs := r.obj l _ e
theorem base_of {o : Expr} {f : Str} {env : Env} {x : Sem Value} (h : noSuper o = true) : attributeBase o f env x = x := by
  unfold attributeBase
  split
  · cases h
  · rfl
theorem meth_form {o : Expr} {m : Str} {apos pos : Pos} {es : List Expr} {kws : List Keyword} {env : Env} (h0 : noSuper o = true) (hst : es.all noStar = true) (hn : kwNamed kws = true) (hl : (apos.endLine == pos.line) = true) (hz : es.length + kws.length < 12) :
    eval (.Call (.Attribute o m apos) es kws pos) env = (do
      let ov ← eval o env
      standAt apos.atName
      let (f, first) ← holding [ov] (getMethod ov m (plainOf o env))
      callWith pos f first (backTo pos (starEach es env)) (backToKw pos (keywordEach kws env))) := by
  have e : eval (.Call (.Attribute o m apos) es kws pos) env = (do
      let ov ← attributeBase o m env (eval o env)
      standAt apos.atName
      methodCall o m apos pos env ov (es.length + kws.length) (backTo pos (starEach es env)) (backToKw pos (keywordEach kws env))) := by rfl
  rw [e, base_of h0]
  have hf : methodCallForm (es.length + kws.length) (backTo pos (starEach es env)) (backToKw pos (keywordEach kws env)) = true := by
    unfold methodCallForm
    rw [star_all hst, kw_all hn]
    simp only [Bool.true_and, decide_eq_true_eq]
    split <;> omega
  congr 1
  funext ov
  congr 1
  funext _
  exact mcall_line hf hl
theorem e_meth {o : Expr} {m : Str} {es : List Expr} {kws : List Keyword} {c : C} {cs kcs : List C} {ks : List Str} {apos pos : Pos} (cx : CxO X k gl g lv fA se) (tk : Takes X Wx) (ho : PE X o (tE k g Wx c)) (ha : PA X es (tEs k g Wx cs)) (hkw : PK X kws (tEs k g Wx kcs))
    (h0 : noSuper o = true) (hst : es.all noStar = true) (hn : kwNamed kws = true) (hks : ks = kwNames kws) (hnil : es = [] → cs = []) (hl : (apos.endLine == pos.line) = true) (hz : es.length + kws.length < 12) :
    PE X (.Call (.Attribute o m apos) es kws pos) (tE k g Wx (.meth m c cs ks kcs)) := by
  refine ⟨fun pins s σ H Q I w => ?_⟩
  obtain ⟨ι, as, h, rs, r, w⟩ := w
  dsimp only at w
  rw [evalE] at w
  refine PySem.W.methodCall_KW (pl := plainOf o X.env) (thn (ho.run pins s σ H _ I (nxt (fun _ _ _ => True) kpT rs r trivial w)) fun u s1 ⟨x, H1, I1, rx, ι, h, wx, rs, r, _, rw1, w⟩ => ?_) (meth_form h0 hst hn hl hz)
  split at w
  · rename_i f hf
    unfold methL at hf
    split at hf
    · rename_i l
      split at hf
      · rename_i c0 fs e1
        split at hf
        · rename_i cl hc
          split at hf
          · rename_i hl0
            obtain ⟨dx, vs, e2, e3⟩ := r.ins e1
            have rw2 := rw1
            unfold relW RelW at rw2
            obtain ⟨hlt, ex⟩ := rw2
            subst ex
            obtain rfl : u = Value.ref (ι l) := rx
            have CS := cx.fx.cl c0 cl hc
            have M := CS.ms m f hf
            have c1 : Cls X.K (k.cA c0) := by rw [cx.K]; exact CS.cls
            have c2 : Meth X.K (k.cA c0) m (fA f) := by rw [cx.K]; exact M
            obtain ⟨d, hd⟩ := cx.fx.met c0 cl m f hc hf
            refine getmeth_ok I1 e2 c1 c2 (relF_none e3 hl0) ?_
            refine cw (Rr := fun vs zs H2 => ∃ ι' h ws wz, R k ι' h H2 ∧ RelW k ι' h.length H2 (.loc l) (.ref (ι l)) ∧ RelWs k ι' h.length H2 ws vs ∧ RelWs k ι' h.length H2 wz zs ∧ WPE k Wx σ (callW g f (.loc l :: ws) ks wz h) ι' h H2 (relW k) Q)
              c2.kp ha hkw hst hn (fun e σ H Q w => ?_) I1 ?_ ?_
            · rw [hnil e] at w
              obtain ⟨ι, as, h, rs, r, w⟩ := w
              dsimp only at w
              rw [evalEs] at w
              exact w ι H [] (Post.refl r) .nil
            · refine (nxt (rel := relWs k) (fun ι' n H => RelW k ι' n H (.loc l) (.ref (ι l))) kpW rs r rw1 w).imp fun vs H1 ⟨ι', h, ws, rs, r, rw1, rx, w⟩ => ?_
              refine (nxt (rel := relWs k) (fun ι' n H => RelW k ι' n H (.loc l) (.ref (ι l)) ∧ RelWs k ι' n H ws vs) (kpAnd kpW kpWs) rs r ⟨rw1, rx⟩ w).imp fun zs H2 ⟨ι', h, wz, rs, r, rx, rz, w⟩ => ?_
              exact ⟨ι', h, ws, wz, r, rx.1, rx.2, rz, w⟩
            · intro us uz s2 vs zs H2 I2 v1 v2 ⟨ι', h, ws, wz, r, rx, r1, r2, w⟩
              rw [← hks]
              exact run_call cx tk hd I2 r (RelWs.cons rx r1) r2 (.cons rfl v1) v2 w
          · cases hf
        · cases hf
      · cases hf
    · cases hf
  · exact w.elim
theorem e_attr {o : Expr} {f : Str} {c : C} {pos : Pos} (cx : CxO X k gl g lv fA se) (ho : PE X o (tE k g Wx c)) (h0 : noSuper o = true) : PE X (.Attribute o f pos) (tE k g Wx (.attr c f)) := by
  refine ⟨fun pins s σ H Q I w => ?_⟩
  obtain ⟨ι, as, h, rs, r, w⟩ := w
  dsimp only at w
  rw [evalE] at w
  refine attr_of (base_of h0) (thn (ho.run pins s σ H _ I (nxt (fun _ _ _ => True) kpT rs r trivial w)) fun u s1 ⟨x, H1, I1, rx, ι, h, wx, rs, r, _, rw1, w⟩ => ?_)
  unfold attrW at w
  split at w
  · rename_i l
    split at w
    · rename_i c0 fs e1
      split at w
      · rename_i cl hc
        obtain ⟨dx, vs, e2, e3⟩ := r.ins e1
        have rw2 := rw1
        unfold relW RelW at rw2
        obtain ⟨hlt, ex⟩ := rw2
        subst ex
        obtain rfl : u = Value.ref (ι l) := rx
        have CS := cx.fx.cl c0 cl hc
        have c1 : Cls X.K (k.cA c0) := by rw [cx.K]; exact CS.cls
        split at w
        · rename_i p hp
          obtain ⟨pa, P0⟩ := CS.prs f p hp
          have P : PropOf X.K (k.cA c0) f pa (fA p) := by rw [cx.K]; exact P0
          obtain ⟨d, hd⟩ := cx.fx.prp c0 cl f p hc hp
          obtain ⟨fd, _, F, hb, hkw⟩ := (cx.fx.fn p d hd).fn
          have F' : FnG X.prog X.w X.K X.mg X.base (L2.CX X.prog X.w) lv (fA p) fd d.ps (spA k g.cf d.ps.length p) := by rw [cx.K]; exact F
          have hb' : Binds X.K fd d.ps [] := by rw [cx.K]; exact hb
          by_cases hn : ([W.loc l]).length = d.ps.length
          · refine prop_got I1 e2 c1 P F' (cx.room.mono (by omega)) cx.quiet hb' (E := fun _ _ _ => False) ?_ ?_
            · exact fun pins σ H s e s' I c => (XE.of_call (W := fun _ _ _ _ => False) I (fun _ _ _ z => z) c).elim fun a z => by
                obtain ⟨_, _, _, _, _, _, _, _, _, _, _, _, _, _, _, z⟩ := z
                exact z
            · refine ⟨hn, ι, h, [.loc l], r, RelWs.cons rw1 .nil, ?_⟩
              revert w
              cases g.cf p [.loc l] h <;> first | exact fun z => z | exact fun z => z.elim
          · rw [cx.fx.len p [.loc l] h d hd hn] at w
            exact w.elim
        · split at w
          · rename_i v hl
            split at w
            · rename_i hfl
              obtain ⟨v', l2, rv⟩ := relF_some e3 hl
              have N : NoAttr X.K (k.cA c0) f := by rw [cx.K]; exact CS.fl f (of_decide_eq_true hfl)
              exact getattr_ok I1 e2 c1 N l2 fun u' s2 I2 ru => ⟨v', H1, I2, ru, WPE.same r w rv⟩
            · exact w.elim
          · exact w.elim
      · exact w.elim
    · exact w.elim
  · exact w.elim
end
end AM
/-! Built-in functions, isinstance, append. -/
namespace AM
open PySem L2
section
variable {X : Cx} {k : Cst} {gl : Gl} {g : Ev} {lv : Nat} {fA : Nat → Addr} {se : SE} {Wx : WX}
theorem WPV.of' {α β : Type} {rel : Rel α β} {σ : L2.St} {ι : Nat → Addr} {h : AH} {H : Hp} {r : Res α} {Q : β → Hp → Prop} (w : WPE k Wx σ r ι h H rel Q) (hn : ∀ c xs ws h', r ≠ .exc c xs ws h') : WPV k r ι h H rel Q := WPV.of w hn
theorem e_prim {x : Str} {p : Prim} {e : Expr} {es : List Expr} {c : C} {cs : List C} {px pos : Pos} (cx : CxO X k gl g lv fA se) (go : GOk X gl x .blt) (hx : x = primName p) (hp : isIsi p = false) (ha : PA X (e :: es) (tEs k g Wx (c :: cs))) (hst : (e :: es).all noStar = true) :
    PE X (.Call (.Name x px) (e :: es) [] pos) (tE k g Wx (.prim p (c :: cs))) := by
  have hst2 := hst
  rw [List.all_cons, Bool.and_eq_true] at hst2
  have hm := cx.fx.gbl x go.lk
  have rd : ∀ σ H Q, tE k g Wx (.prim p (c :: cs)) σ H Q → tCB (rPrim k g p) (tEs k g Wx (c :: cs)) σ H Q := fun σ H Q w => by
    obtain ⟨ι, as, h, rs, r, w⟩ := w
    dsimp only at w
    rw [evalE] at w
    unfold tCB
    refine (nxt (rel := relWs k) (fun _ _ _ => True) kpT rs r trivial w).imp fun vs H1 ⟨ι, h, ws, rs, r, _, rx, w⟩ => ?_
    exact ⟨ι, h, ws, r, rx, WPV.of w fun c xs ws h' => primW_nx c xs ws h'⟩
  have hc := call_primA (X := X) cx.K cx.fx.sc cx.calm cx.quiet cx.un p (g := g) (fun ts cs e => by subst e; cases hp)
  have hn := go.nm
  subst hx
  cases p <;> first
    | (cases hp; done)
    | exact PE.of (pe_callB hc go.gi hm (by decide +kernel) ha hn go.db (star_of hst2.1) (star_any hst2.2)) rd
    | exact PE.of (pe_callTy hc go.gi hm (by decide +kernel) ha hn go.db (star_of hst2.1) (star_any hst2.2)) rd
/-! ### isinstance -/
theorem ty_of {ι : Nat → Addr} {h : AH} {H : Hp} (hK : X.K = k.K) (r : R k ι h H) {w : W} {v : V} {t : String} (e : RelW k ι h.length H w v) (q : typW h w = some t) : TyX X.K H v (.type t) := by
  unfold typW at q
  split at q
  · cases q
    unfold RelW at e
    subst e
    exact .base .non
  · cases q
    unfold RelW at e
    subst e
    exact .base (.bl _)
  · cases q
    unfold RelW at e
    subst e
    exact .base (.int _)
  · cases q
    unfold RelW at e
    subst e
    exact .base (.str _)
  · cases q
    unfold RelW at e
    obtain ⟨a, vs, rfl, hs, rs⟩ := e
    rcases hs with (hs | ⟨o, hs⟩) | ⟨o, its, n, e1, e2, _⟩
    · exact .base (.tup hs)
    · exact .fTuple hs
    · exact .kTuple (by rw [hK]; exact e1) e2
  · split at q
    · rename_i e2
      cases q
      unfold RelW at e
      obtain ⟨_, rfl⟩ := e
      obtain ⟨vs, hv, rv⟩ := r.lst e2
      exact .base (.lst hv)
    · cases q
  · cases q
def tynames : List String := ["NoneType", "bool", "int", "str", "tuple", "list"]
theorem typW_mem {h : AH} {w : W} {t : String} (q : typW h w = some t) : t ∈ tynames := by
  unfold typW at q
  split at q <;> first | (cases q; decide) | (split at q <;> first | (cases q; decide) | cases q) | cases q
theorem kitB_all : ∀ a ∈ tynames, ∀ b ∈ kinds, kitB a b = some (isiB a b) := by decide +kernel
theorem kitAny_all {K : PySem.W.Frag} {a : String} (ha : a ∈ tynames) : ∀ {ts : List String}, (∀ b ∈ ts, b ∈ kinds) → PySem.W.kitAny K (.type a) (ts.map .type) = some (ts.any (isiB a))
  | [], _ => rfl
  | b :: ts, hb => by
    rw [List.map_cons, List.any_cons]
    have q := kitB_all a ha b (hb b List.mem_cons_self)
    cases e : isiB a b with
    | true =>
      rw [e] at q
      exact kitAny_cons (kit_ty q) (fun z => nomatch z) fun _ => rfl
    | false =>
      rw [e] at q
      exact kitAny_cons (kit_ty q) (fun _ => by rw [Bool.false_or]; exact kitAny_all ha fun b h => hb b (List.mem_cons_of_mem _ h)) fun z => nomatch z
theorem boot_kinds : ∀ b ∈ kinds, bootBuiltins (Str.ofString b) = some (.type b) := by decide +kernel
theorem e_tyN {t : String} {e : Expr} (cx : CxO X k gl g lv fA se) (ok : okTyN gl se t e = true) : PE X e (tC (.ty t)) ∧ t ∈ kinds ∧ noStar e = true := by
  unfold okTyN at ok
  split at ok
  · rename_i x p
    simp only [Bool.and_eq_true, decide_eq_true_eq] at ok
    obtain ⟨⟨e1, e2⟩, e3⟩ := ok
    have go := g_of cx e3
    have hk : t ∈ kinds := by simpa using e2
    refine ⟨pe_bltn go.gi (cx.fx.gbl x go.lk) (by rw [e1]; exact boot_kinds t hk) rfl go.nm go.db, hk, rfl⟩
  · cases ok
def tTys : List String → TA
  | [] => tNil
  | t :: ts => tCons (tC (.ty t)) (tTys ts)
theorem e_tyL (cx : CxO X k gl g lv fA se) : ∀ {ts : List String} {es : List Expr}, okTyL gl se ts es = true → PA X es (tTys ts) ∧ ∀ b ∈ ts, b ∈ kinds
  | [], [], _ => ⟨pa_nil, fun _ h => nomatch h⟩
  | [], _ :: _, h => by cases h
  | _ :: _, [], h => by cases h
  | t :: ts, e :: es, h => by
    unfold okTyL at h
    rw [Bool.and_eq_true] at h
    obtain ⟨h1, h2, h3⟩ := e_tyN cx h.1
    obtain ⟨h4, h5⟩ := e_tyL cx h.2
    refine ⟨pa_cons h1 h4 (star_of h3), fun b hb => ?_⟩
    rcases List.mem_cons.mp hb with rfl | hb
    · exact h2
    · exact h5 b hb
theorem tTys_run {σ : L2.St} {H : Hp} : ∀ {ts : List String} {Q : List V → Hp → Prop}, Q (ts.map .ty) H → tTys ts σ H Q
  | [], Q, h => h
  | t :: ts, Q, h => tTys_run (ts := ts) (Q := fun xs H2 => Q (.ty t :: xs) H2) h
theorem clsV_tys : ∀ {ts : List String}, Paired ClsV (ts.map V.ty) (ts.map Value.type)
  | [] => .nil
  | t :: ts => .cons (.ty t) clsV_tys
/-- isinstance of a caught exception -/
def rIsE (k : Cst) (g : Ev) : List V → Hp → VK → Prop := fun xs H Q => ∃ a c d b, xs = [.ref a, .ref (k.cA d)] ∧ H a = some (ExC (.ref (k.cA c)) none a) ∧ g.gc.exm c d = some b ∧ Q (.bl b) H
theorem call_isE (cx : CxO X k gl g lv fA se) : CallR X (.builtin "isinstance") (rIsE k g) := by
  intro pins s σ H xs us Q I r h
  obtain ⟨a, c, d, b, rfl, hA, e, q⟩ := h
  obtain ⟨u1, u2, rfl, r1, r2⟩ := vals2 r
  cases (show u1 = Value.ref a from r1)
  cases (show u2 = Value.ref (k.cA d) from r2)
  obtain ⟨e1, e2⟩ := cx.fx.exm c d b e
  obtain ⟨⟨oe, h1, h2, h3, vs, h4⟩, _⟩ := (show ObjOk X.prog X.w H s.heap a (ExC (.ref (k.cA c)) none a) from I.hok a _ hA)
  refine PySem.W.kia_one (e2 a) (by rw [← cx.K]; exact I.kIn) ⟨oe, h1, h2, ?_, ?_⟩ e1 (fun z => nomatch z) fun tk => ⟨.bl b, H, I.tok tk, rfl, q⟩
  · unfold PySem.W.notCls
    rw [h4]
  · rw [h3]
    trivial
def isiR (g : Ev) (ts : List String) (cs : List Nat) (x : W) (h : AH) : Res W := match x with
  | .exo c xs vs => (match ts, cs with
    | [], [d] => (match g.gc.exm c d with
      | some b => .ok (.bl b) h
      | none => .stuck)
    | _, _ => .stuck)
  | x => (match typW h x with
    | some t => if cs = [] then .ok (.bl (ts.any (isiB t))) h else .stuck
    | none => .stuck)
theorem primW_isi {g : Ev} {ts : List String} {cs : List Nat} {w : W} {h : AH} : primW g (.isi ts cs) [w] h = isiR g ts cs w h := by
  cases w <;> rfl
theorem isi_one {g : Ev} {ts : List String} {cs : List Nat} {w : W} {h : AH} {σ : L2.St} {ι : Nat → Addr} {H : Hp} {Q : VK} (r : R k ι h H) (w0 : WPE k Wx σ (primW g (.isi ts cs) [w] h) ι h H (relW k) Q) :
    (∃ c xs ws d b, w = .exo c xs ws ∧ ts = [] ∧ cs = [d] ∧ g.gc.exm c d = some b ∧ ∀ ι' H', Post k ι h H ι' h H' → Q (.bl b) H') ∨ (∃ t, typW h w = some t ∧ cs = [] ∧ ∀ ι' H', Post k ι h H ι' h H' → Q (.bl (ts.any (isiB t))) H') := by
  rw [primW_isi] at w0
  unfold isiR at w0
  split at w0
  · split at w0
    · split at w0
      · rename_i e
        exact .inl ⟨_, _, _, _, _, rfl, rfl, rfl, e, fun ι' H' p => w0 ι' H' _ p (by unfold relW RelW; rfl)⟩
      · exact w0.elim
    · exact w0.elim
  · split at w0
    · rename_i e
      split at w0
      · rename_i e2
        exact .inr ⟨_, e, e2, fun ι' H' p => w0 ι' H' _ p (by unfold relW RelW; rfl)⟩
      · exact w0.elim
    · exact w0.elim
theorem pa_two {X : Cx} {a b : Expr} {ta tb : TE} (ha : PE X a ta) (hb : PE X b tb) (h1 : noStar a = true) (h2 : noStar b = true) : PA X [a, b] (tCons ta (tCons tb tNil)) := pa_cons ha (pa_cons hb pa_nil (star_of h2)) (star_of h1)
theorem e_isi {x : Str} {ts : List String} {ds : List Nat} {e t : Expr} {c : C} {px pos : Pos} (cx : CxO X k gl g lv fA se) (go : GOk X gl x .blt) (hx : x = "isinstance") (he : PE X e (tE k g Wx c)) (h1 : noStar e = true) (ok : okTy gl se ts ds t = true) :
    PE X (.Call (.Name x px) [e, t] [] pos) (tE k g Wx (.prim (.isi ts ds) [c])) := by
  have hm := cx.fx.gbl x go.lk
  have hn := go.nm
  subst hx
  have rd : ∀ σ H Q, tE k g Wx (.prim (.isi ts ds) [c]) σ H Q → tE k g Wx c σ H fun v H1 => ∃ ι h w, R k ι h H1 ∧ RelW k ι h.length H1 w v ∧
      ((∃ c xs ws d b, w = .exo c xs ws ∧ ts = [] ∧ ds = [d] ∧ g.gc.exm c d = some b ∧ ∀ ι' H', Post k ι h H1 ι' h H' → Q (.bl b) H') ∨ (∃ t, typW h w = some t ∧ ds = [] ∧ ∀ ι' H', Post k ι h H1 ι' h H' → Q (.bl (ts.any (isiB t))) H')) := fun σ H Q w => by
    obtain ⟨ι, as, h, rs, r, w⟩ := w
    dsimp only at w
    rw [evalE, evalEs, Res.bind_assoc] at w
    refine (nxt (fun _ _ _ => True) kpT rs r trivial w).imp fun v H1 ⟨ι, h, wx, rs, r, _, rx, w⟩ => ?_
    rw [evalEs] at w
    exact ⟨ι, h, wx, r, rx, isi_one r w⟩
  unfold okTy at ok
  split at ok
  · -- an own class
    rename_i c1 y p
    have go2 := g_of cx ok
    obtain ⟨e1, kp⟩ := cx.fx.gcl y c1 go2.lk
    refine PE.of (pe_callB (call_isE cx) go.gi hm (by decide +kernel) (pa_two he (pe_glob (v := .ref (k.cA c1)) go2.gi e1 rfl go2.db) h1 rfl) hn go.db (star_of h1) rfl) fun σ H Q w => ?_
    refine (rd σ H Q w).imp fun v H1 ⟨ι, h, w, r, rw1, q⟩ => ?_
    rcases q with ⟨c2, xs, ws, d, b, rfl, _, e2, e3, q⟩ | ⟨t, _, z, _⟩
    · unfold RelW at rw1
      obtain ⟨a, rfl, hA⟩ := rw1
      cases e2
      exact ⟨a, c2, c1, b, rfl, hA, e3, q _ _ (Post.refl r)⟩
    · cases z
  · -- a built-in type
    rename_i t y p
    obtain ⟨h3, h4, h5⟩ := e_tyN cx ok
    refine PE.of (pe_callB call_isi go.gi hm (by decide +kernel) (pa_two he h3 h1 rfl) hn go.db (star_of h1) rfl) fun σ H Q w => ?_
    refine (rd σ H Q w).imp fun v H1 ⟨ι, h, w, r, rw1, q⟩ => ?_
    rcases q with ⟨c2, xs, ws, d, b, rfl, e2, _⟩ | ⟨t', e2, _, q⟩
    · cases e2
    · refine ⟨v, .ty t, .type t', .type t, isiB t' t, rfl, .ty t, ty_of cx.K r rw1 e2, kit_ty (kitB_all t' (typW_mem e2) t h4), ?_⟩
      have q := q _ _ (Post.refl r)
      rw [List.any_cons, List.any_nil, Bool.or_false] at q
      exact q
  · -- several of them
    rename_i t0 ts0 es k0 p
    rw [Bool.and_eq_true, decide_eq_true_eq] at ok
    obtain ⟨h3, h4⟩ := e_tyL cx ok.2
    refine PE.of (pe_callB call_isiT go.gi hm (by decide +kernel) (pa_two he (pe_tup h3) h1 rfl) hn go.db (star_of h1) rfl) fun σ H Q w => ?_
    refine (rd σ H Q w).imp fun v H1 ⟨ι, h, w, r, rw1, q⟩ => ?_
    rcases q with ⟨c2, xs, ws, d, b, rfl, e2, _⟩ | ⟨t', e2, _, q⟩
    · cases e2
    · refine tTys_run ⟨?_, fun p hp => ?_⟩
      · rw [List.length_map, sizeLine_eq]
        have := ok.1
        omega
      · have po := Post.side (o := .tup ((t0 :: ts0).map .ty)) r hp
        exact ⟨v, p, _, .type t', _, _, rfl, upd_same, clsV_tys, ty_of cx.K po.rel (rw1.keep (po.keep r)) e2, kitAny_all (typW_mem e2) h4, q _ _ po⟩
  · cases ok
/-! ### displays, append -/
theorem e_tup {es : List Expr} {cs : List C} {x1 : Nat} {pos : Pos} (ha : PA X es (tEs k g Wx cs)) : PE X (.Tuple es x1 pos) (tE k g Wx (.tup cs)) := by
  refine PE.of (pe_tup ha) fun σ H Q w => ?_
  obtain ⟨ι, as, h, rs, r, w⟩ := w
  dsimp only at w
  rw [evalE] at w
  refine (nxt (rel := relWs k) (fun _ _ _ => True) kpT rs r trivial w).imp fun vs H1 ⟨ι, h, ws, rs, r, _, rx, w⟩ => ?_
  split at w
  · rename_i hz
    exact ⟨by rw [← rx.len]; exact sz_ok hz, WPV.tup r rx (show WPV k (.ok (.tup ws) h) ι h H1 (relW k) Q from w)⟩
  · exact w.elim
theorem e_lst {es : List Expr} {cs : List C} {pos : Pos} (ha : PA X es (tEs k g Wx cs)) : PE X (.List es pos) (tE k g Wx (.lst cs)) := by
  refine PE.of (pe_lst ha) fun σ H Q w => ?_
  obtain ⟨ι, as, h, rs, r, w⟩ := w
  dsimp only at w
  rw [evalE] at w
  refine (nxt (rel := relWs k) (fun _ _ _ => True) kpT rs r trivial w).imp fun vs H1 ⟨ι, h, ws, rs, r, _, rx, w⟩ => ?_
  split at w
  · rename_i hz
    exact ⟨by rw [← rx.len]; exact sz_ok hz, WPV.lst r rx (show WPV k (.ok (.loc h.length) (h ++ [.lst ws])) ι h H1 (relW k) Q from w)⟩
  · exact w.elim
theorem few_of {es : List Expr} {env : Env} {pos : Pos} (hst : es.all noStar = true) (hz : es.length < 20) : ((backTo pos (starEach es env)).all (fun x => !x.1) && (backToKw pos (keywordEach [] env)).all (fun x => x.1.isSome)
      && decide (es.length + ([] : List Keyword).length + (if ([] : List Keyword).isEmpty then 0 else 1) < 30)) = true := by
  rw [star_all hst]
  show (true && true && decide (es.length + 0 + 0 < 30)) = true
  simp
  omega
theorem bmT_append {x : W} {h : AH} (e : bmT .append x h = true) : ∃ l xs, x = .loc l ∧ h[l]? = some (.lst xs) := by
  cases x with
  | loc l =>
    have e : (match h[l]? with
      | some (.lst _) => true
      | _ => false) = true := e
    split at e
    · exact ⟨l, _, rfl, by assumption⟩
    · cases e
  | _ => cases e
theorem bmW_append {l : Nat} {ws : List W} {h : AH} {σ : L2.St} {ι : Nat → Addr} {H : Hp} {Q : VK} (w0 : WPE k Wx σ (bmW .append (.loc l) ws h) ι h H (relW k) Q) : ∃ w xs, ws = [w] ∧ h[l]? = some (.lst xs) ∧ xs.length < 1000000 ∧
    WPE k Wx σ (.ok .non (h.set l (.lst (xs ++ [w])))) ι h H (relW k) Q := by
  cases ws with
  | nil => exact w0.elim
  | cons w r =>
    cases r with
    | nil =>
      have w0 : WPE k Wx σ (match h[l]? with
        | some (.lst xs) => if xs.length < 1000000 then .ok .non (h.set l (.lst (xs ++ [w]))) else .stuck
        | _ => .stuck) ι h H (relW k) Q := w0
      split at w0
      · rename_i xs e
        split at w0
        · rename_i hz
          exact ⟨w, xs, rfl, e, hz, w0⟩
        · exact w0.elim
      · exact w0.elim
    | cons _ _ => exact w0.elim
theorem e_append {o e : Expr} {c c1 : C} {cs : List C} {apos pos : Pos} (cx : CxO X k gl g lv fA se) (ho : PE X o (tE k g Wx c)) (ha : PA X [e] (tEs k g Wx (c1 :: cs))) (h0 : noSuper o = true) (hst : [e].all noStar = true) (hl : (apos.endLine == pos.line) = true) :
    PE X (.Call (.Attribute o "append" apos) [e] [] pos) (tE k g Wx (.bm .append c (c1 :: cs))) := by
  refine PE.of (pe_bm PySem.F.plainAttrs_list PySem.F.slot_list_append PySem.F.type_list_append mt_append ho ha (base_of h0) (few_of hst (by show 1 < 20; decide)) hl (star_of (by simpa using hst)) rfl) fun σ H Q w => ?_
  obtain ⟨ι, as, h, rs, r, w⟩ := w
  dsimp only at w
  rw [evalE] at w
  unfold tBM
  refine (nxt (fun _ _ _ => True) kpT rs r trivial w).imp fun x H1 ⟨ι, h, wx, rs, r, _, rx, w⟩ => ?_
  split at w
  · rename_i hb
    obtain ⟨l, xs0, rfl, e2⟩ := bmT_append hb
    have rx0 := rx
    unfold relW RelW at rx
    obtain ⟨hlt, rfl⟩ := rx
    obtain ⟨vs, hv, rv⟩ := r.lst e2
    refine ⟨.inl ⟨rfl, vs, .of hv⟩, ?_⟩
    refine (nxt (rel := relWs k) (fun ι' n H => RelW k ι' n H (.loc l) (.ref (ι l))) kpW rs r rx0 w).imp fun zs H2 ⟨ι', h, ws, rs, r, rx, rz, w⟩ => ?_
    unfold RelW at rx
    obtain ⟨hlt, ex⟩ := rx
    obtain ⟨w1, xs, rfl, e3, hz, w⟩ := bmW_append w
    obtain ⟨vs, hv, rv⟩ := r.lst e3
    obtain ⟨y, rfl, ry⟩ := RelWs.one rz
    refine ⟨ι l, vs, y, rfl, rfl, by rw [V.ref.inj ex]; exact hv, by rw [← rv.len, sizeLine_eq]; omega, ?_⟩
    rw [V.ref.inj ex]
    exact w ι' _ _ (Post.set (ho := .lst (vs ++ [y])) r hlt fun H' kp e => ⟨_, e, RelWs.append (RelWs.keep kp _ rv) (RelWs.cons (ry.keep kp) .nil)⟩) (by unfold relW RelW; rfl)
  · exact w.elim
theorem bmT_lst {m : Bm} {x : W} {h : AH} (e : bmT m x h = true) : ∃ l xs, x = .loc l ∧ h[l]? = some (.lst xs) := by
  cases x with
  | loc l =>
    cases m <;> first
      | (cases e; done)
      | (have e : (match h[l]? with
          | some (.lst _) => true
          | _ => false) = true := e
         split at e
         · exact ⟨l, _, rfl, by assumption⟩
         · cases e)
  | _ => cases m <;> cases e
theorem bmW_extend {l : Nat} {ws : List W} {h : AH} {σ : L2.St} {ι : Nat → Addr} {H : Hp} {Q : VK} (w0 : WPE k Wx σ (bmW .extend (.loc l) ws h) ι h H (relW k) Q) : ∃ b xs ys, ws = [.loc b] ∧ h[l]? = some (.lst xs) ∧ h[b]? = some (.lst ys) ∧ szOk (xs.length + ys.length) = true ∧
    WPE k Wx σ (.ok .non (h.set l (.lst (xs ++ ys)))) ι h H (relW k) Q := by
  match ws, w0 with
  | [.loc b], w0 =>
    have w0 : WPE k Wx σ (match h[l]?, h[b]? with
      | some (.lst xs), some (.lst ys) => if szOk (xs.length + ys.length) then .ok .non (h.set l (.lst (xs ++ ys))) else .stuck
      | _, _ => .stuck) ι h H (relW k) Q := w0
    split at w0
    · rename_i xs ys e1 e2
      split at w0
      · rename_i hz
        exact ⟨b, xs, ys, rfl, e1, e2, hz, w0⟩
      · exact w0.elim
    · exact w0.elim
  | [], w0 => exact w0.elim
  | [.non], w0 => exact w0.elim
  | [.bl _], w0 => exact w0.elim
  | [.int _], w0 => exact w0.elim
  | [.str _], w0 => exact w0.elim
  | [.tup _], w0 => exact w0.elim
  | [.exo _ _ _], w0 => exact w0.elim
  | [.scr], w0 => exact w0.elim
  | .loc _ :: _ :: _, w0 => exact w0.elim
  | .non :: _ :: _, w0 => exact w0.elim
  | .bl _ :: _ :: _, w0 => exact w0.elim
  | .int _ :: _ :: _, w0 => exact w0.elim
  | .str _ :: _ :: _, w0 => exact w0.elim
  | .tup _ :: _ :: _, w0 => exact w0.elim
  | .exo _ _ _ :: _ :: _, w0 => exact w0.elim
  | .scr :: _ :: _, w0 => exact w0.elim
theorem e_extend {o e : Expr} {c c1 : C} {cs : List C} {apos pos : Pos} (cx : CxO X k gl g lv fA se) (ho : PE X o (tE k g Wx c)) (ha : PA X [e] (tEs k g Wx (c1 :: cs))) (h0 : noSuper o = true) (hst : [e].all noStar = true) (hl : (apos.endLine == pos.line) = true) :
    PE X (.Call (.Attribute o "extend" apos) [e] [] pos) (tE k g Wx (.bm .extend c (c1 :: cs))) := by
  refine PE.of (pe_bm PySem.F.plainAttrs_list PySem.F.slot_list_extend PySem.F.type_list_extend mt_extend ho ha (base_of h0) (few_of hst (by show 1 < 20; decide)) hl (star_of (by simpa using hst)) rfl) fun σ H Q w => ?_
  obtain ⟨ι, as, h, rs, r, w⟩ := w
  dsimp only at w
  rw [evalE] at w
  unfold tBM
  refine (nxt (fun _ _ _ => True) kpT rs r trivial w).imp fun x H1 ⟨ι, h, wx, rs, r, _, rx, w⟩ => ?_
  split at w
  · rename_i hb
    obtain ⟨l, xs0, rfl, e2⟩ := bmT_lst hb
    have rx0 := rx
    unfold relW RelW at rx
    obtain ⟨hlt, rfl⟩ := rx
    obtain ⟨vs, hv, rv⟩ := r.lst e2
    refine ⟨.inl ⟨rfl, vs, .of hv⟩, ?_⟩
    refine (nxt (rel := relWs k) (fun ι' n H => RelW k ι' n H (.loc l) (.ref (ι l))) kpW rs r rx0 w).imp fun zs H2 ⟨ι', h, ws, rs, r, rx, rz, w⟩ => ?_
    unfold RelW at rx
    obtain ⟨hlt, ex⟩ := rx
    obtain ⟨b, xs, ys, rfl, e3, e4, hz, w⟩ := bmW_extend w
    obtain ⟨vs, hv, rv⟩ := r.lst e3
    obtain ⟨vs2, hv2, rv2⟩ := r.lst e4
    obtain ⟨y, rfl, ry⟩ := RelWs.one rz
    unfold RelW at ry
    obtain ⟨_, rfl⟩ := ry
    refine ⟨ι l, ι' b, vs, vs2, rfl, rfl, by rw [V.ref.inj ex]; exact hv, hv2, by rw [← rv.len, ← rv2.len]; exact sz_ok hz, ?_⟩
    rw [V.ref.inj ex]
    exact w ι' _ _ (Post.set (ho := .lst (vs ++ vs2)) r hlt fun H' kp e => ⟨_, e, RelWs.append (RelWs.keep kp _ rv) (RelWs.keep kp _ rv2)⟩) (by unfold relW RelW; rfl)
  · exact w.elim
theorem RelWs.dropLast {ι : Nat → Addr} {n : Nat} {H : Hp} {ws : List W} {vs : List V} (r : RelWs k ι n H ws vs) : RelWs k ι n H ws.dropLast vs.dropLast := by
  rw [List.dropLast_eq_take, List.dropLast_eq_take, r.len]
  exact r.take _
theorem e_pop0 {o : Expr} {c : C} {apos pos : Pos} (cx : CxO X k gl g lv fA se) (ho : PE X o (tE k g Wx c)) (h0 : noSuper o = true) (hl : (apos.endLine == pos.line) = true) :
    PE X (.Call (.Attribute o "pop" apos) [] [] pos) (tE k g Wx (.bm .pop0 c [])) := by
  refine PE.of (pe_bm0 PySem.F.plainAttrs_list PySem.F.slot_list_pop PySem.F.type_list_pop mt_pop ho (base_of h0) hl) fun σ H Q w => ?_
  obtain ⟨ι, as, h, rs, r, w⟩ := w
  dsimp only at w
  rw [evalE] at w
  unfold tBM0
  refine (nxt (fun _ _ _ => True) kpT rs r trivial w).imp fun x H1 ⟨ι, h, wx, rs, r, _, rx, w⟩ => ?_
  split at w
  · rename_i hb
    obtain ⟨l, xs0, rfl, e2⟩ := bmT_lst hb
    unfold relW RelW at rx
    obtain ⟨hlt, rfl⟩ := rx
    obtain ⟨vs, hv, rv⟩ := r.lst e2
    refine ⟨.inl ⟨rfl, vs, .of hv⟩, ?_⟩
    have w : WPE k Wx σ (match xs0[xs0.length - 1]? with
      | some w => .ok w (h.set l (.lst xs0.dropLast))
      | none => .stuck) ι h H1 (relW k) Q := by
      have : bm0 .pop0 (.loc l) h = (match xs0[xs0.length - 1]? with
        | some w => .ok w (h.set l (.lst xs0.dropLast))
        | none => .stuck) := by
        unfold bm0
        simp only [e2] <;> (cases xs0[xs0.length - 1]? <;> rfl)
      rw [← this]
      exact w
    split at w
    · rename_i w1 e3
      obtain ⟨y, e4, ry⟩ := rv.get e3
      rw [rv.len] at e4
      have p := Post.set (ho := .lst vs.dropLast) (o := .lst xs0.dropLast) r hlt fun H' kp e => ⟨_, e, (RelWs.keep kp _ rv).dropLast⟩
      exact ⟨ι l, vs, y, rfl, rfl, hv, e4, w ι _ _ p (by unfold relW; simpa using ry.keep (p.keep r))⟩
    · exact w.elim
  · exact w.elim
end
end AM
/-! enumerate over a tuple; a walk over a list or a tuple. -/
namespace AM
open PySem PySem.Spec PyProof.Rows L2
/-- the tuple at a, each item in a new pair -/
def IteT (K : PySem.W.Frag) (a : Addr) : L2.It :=
  ⟨fun i H => ∃ (xs : List V) (x : V), SqT K H a xs ∧ xs[i]? = some x, fun i H v H' => ∃ T x, v = .ref T ∧ H T = none ∧ H' = L2.upd H T (.tup [.int (i : Nat), x]) ∧ ∀ xs, SqT K H a xs → xs[i]? = some x, fun i H => ∃ xs : List V, SqT K H a xs ∧ xs.length = i⟩
theorem tup_ne {h : Heap} {t it : Addr} {items : Array Value} {i : Nat} (a : h.IsTuple t items) (b : h.IsTupleIter it t i) : t ≠ it := by
  rintro rfl
  obtain ⟨o, e, c, _⟩ := a
  obtain ⟨o', e', c', _⟩ := b
  rw [e] at e'
  cases e'
  rw [c] at c'
  exact absurd (Value.type.inj c') (by decide)
theorem turn_enumT {P : Program} {w : World} {K : PySem.W.Frag} {elts : List Expr} {kk : Nat} {tpos : Pos} (a e it : Addr) :
    Turn P w K (.Tuple elts kk tpos) (IteT K a) [e, it] e (fun i h => (∃ old, IsEnum h e it ((i : Nat) : Int) old) ∧ h.IsTupleIter it a i ∧ e ≠ it ∧ e ≠ a) where
  mem := by simp
  obj := fun i h st b hb => by
    obtain ⟨⟨old, he⟩, ⟨o, ho, hc, hd⟩, _⟩ := st
    have e' : b = e ∨ b = it := by simpa using hb
    rcases e' with z | z
    · rw [z]; exact ⟨_, he, fun v q => nomatch q⟩
    · rw [z]; exact ⟨o, ho, fun v q => by rw [hd] at q; cases q⟩
  keep := fun i h h' st k => let ⟨⟨old, he⟩, hi, hne⟩ := st; ⟨⟨old, k e (by simp) _ he⟩, hi.at fun o q => k it (by simp) o q, hne⟩
  item := by
    intro X hP hw hK hc i pins s σ H E I hf st hg
    subst hP hw hK
    obtain ⟨⟨old, he⟩, hit, hne, hea⟩ := st
    obtain ⟨xs, x, hq, hx⟩ := hg
    obtain ⟨its, rv, p, hz⟩ := I.tuple hq
    obtain ⟨u, hu, ru⟩ := rv.get hx
    have p : s.heap.IsTuple a its.toArray := p
    have hel : e < s.heap.objs.size := Heap.lt_size he
    have hil : it < s.heap.objs.size := by obtain ⟨_, q, _⟩ := hit; exact Heap.lt_size q
    have hlt : i < its.toArray.size := by
      rw [List.size_toArray]
      exact (List.getElem?_eq_some_iff.mp hu).1
    have D := PySem.Draws.tuple (prog := X.prog) (w := X.w) (A := X.A.in1) (I.ok.hd hc) it a (tup_ne p hit) its.toArray
    refine wpAny_pyNext_enum_itemD D he ⟨hit, p⟩ hlt hne (by simp [hne, hea]) fun u' h' tk hu' ho hit' hT hsz hk => ?_
    have eu : u' = u := by
      have hu' : its.toArray[i]? = some u' := hu'
      rw [List.getElem?_toArray, hu] at hu'
      exact (Option.some.inj hu').symm
    subst eu
    refine ⟨_, rfl, wpAny_letOwnedTupleGo_enum (s := { s with heap := h', toks := tk + 1 }) ho fun h'' he' sb => ?_⟩
    have hT2 : h''.get? s.heap.objs.size = some { cls := .type "tuple", data := .seq #[.int i tk, u'] } := (sb.2 _ (Nat.ne_of_gt hel)).trans hT
    have new : ObjOk X.prog X.w (L2.upd H s.heap.objs.size (.tup [.int (i : Nat), x])) h'' s.heap.objs.size (.tup [.int (i : Nat), x]) :=
      ⟨by show 2 ≤ sizeLine; decide, [.int i tk, u'], .cons ⟨_, rfl⟩ (.cons ru .nil), ⟨_, hT2, rfl, _, rfl⟩⟩
    have I1 : L2.Inv X pins σ (L2.upd H s.heap.objs.size (.tup [.int (i : Nat), x])) { s with heap := h'', toks := tk + 1 } :=
      I.turnedNew (ch := [e, it]) (fun b ob hb q => (sb.2 b (fun z => hb (by simp [z]))).trans (hk b ob (fun z => hb (by simp [z])) (fun z => hb (by simp [z])) q)) hf (Nat.le_refl _) new
    refine ⟨.ref s.heap.objs.size, _, I1, rfl, ⟨_, x, rfl, I.hok.fresh (Nat.le_refl _), rfl, fun ys hy => by rw [I.tuple_inj hy hq]; exact hx⟩, ⟨⟨u', ?_⟩, hit'.1.at fun o q => (sb.2 it (Ne.symm hne)).trans q, hne, hea⟩, fun b hb => ?_⟩
    · have e1 : ((i + 1 : Nat) : Int) = (i : Int) + 1 := by omega
      rw [e1]; exact he'
    · have hb' : b < s.heap.objs.size := by
        have e' : b = e ∨ b = it := by simpa using hb
        rcases e' with z | z
        · rw [z]; exact hel
        · rw [z]; exact hil
      rw [upd_ne (Nat.ne_of_lt hb')]
      exact (hf b hb).1
  done := by
    intro X hP hw hK hc i pins s σ H E I hf st hg
    subst hP hw hK
    obtain ⟨⟨old, he⟩, hit, hne, hea⟩ := st
    obtain ⟨xs, hq, hx⟩ := hg
    obtain ⟨its, rv, p, hz⟩ := I.tuple hq
    have p : s.heap.IsTuple a its.toArray := p
    obtain ⟨f0, f1, f2, f3, f4, f5⟩ := hf it (by simp)
    have hl := rv.length
    have D := PySem.Draws.tuple (prog := X.prog) (w := X.w) (A := X.A.in1) (I.ok.hd hc) it a (tup_ne p hit) its.toArray
    have e1 : its.toArray.size = i := by rw [List.size_toArray]; omega
    exact wpAny_pyNext_enum_endD D he ⟨by rw [e1]; exact hit, p⟩ fun h' eb => ⟨rfl, I.turned (t' := s.toks) (fun b o hb q => eb b o hb q) f0 f1 f3 f4 f5⟩
  self := fun A i s Q E st h => let ⟨⟨_, he⟩, _⟩ := st; wpAny_pyIter_enum he h
set_option maxHeartbeats 1000000 in
theorem meets_enum1 {v : Value} {o : Obj} {H : Heap → Prop} (B : PySem.Begins v o H) :
    Meets (Builtin.«enumerate.__new__» ⟨[.type "enumerate", v], []⟩) (fun _ R s => H s.heap ∧
      R (.ok (.ret (.ref (s.heap.push o).objs.size))) { s with heap := (s.heap.push o).push { cls := .type "enumerate", data := .fields #[.none, .bool false, .ref s.heap.objs.size, rawInt 0, .none, .none] } }) :=
  .of_wp fun prog w A R s h => by
    obtain ⟨hp, g, d, tk, os⟩ := s; obtain ⟨h1, h⟩ := h
    have hsub := sub_enumerate
    have q1 : ∀ {A' : Around} {E : Value → Shared → Prop} {Q : Value → Shared → Prop}, Q (.ref hp.objs.size) ⟨hp.push o, g, d, tk, os⟩ → wpAny (model prog w) A' (pyIter v) Q E ⟨hp, g, d, tk, os⟩ :=
      fun q => B.iter prog w _ _ ⟨hp, g, d, tk, os⟩ _ h1 q
    wp_walk using q1
    refine wpAny_stack_any fun st => wpAny_pure ?_
    split
    · rename_i c _ _ _ _ _
      cases (c == Value.type "enumerate")
      · wp_walk using q1
        exact ⟨_, rfl, h⟩
      · wp_walk using q1
        exact ⟨_, rfl, h⟩
    · wp_walk using q1
      exact ⟨_, rfl, h⟩
/-- enumerate(v): its two new cells -/
theorem call_enum1 {prog : Program} {w : World} {A : Around} {E : Value → Shared → Prop} {s : Shared} {v : Value} {o : Obj} {H : Heap → Prop} {Q : Value → Shared → Prop} (B : PySem.Begins v o H) (h1 : H s.heap)
    (h : ∀ h', IsEnum h' (s.heap.objs.size + 1) s.heap.objs.size 0 .none → h'.get? s.heap.objs.size = some o → h'.objs.size = s.heap.objs.size + 2 →
      (∀ b o, s.heap.get? b = some o → h'.get? b = some o) → Q (.ref (s.heap.objs.size + 1)) { s with heap := h' }) :
    wpAny (model prog w) A (call (.type "enumerate") [v]) Q E s := by
  refine callType_new F.called_enumerate (by decide) (F.typeCall_enumerate_1 _) (F.newCall_enumerate_1 _) (fun obj => F.args_object_init_2 obj _) F.entry_enumerate_new (meets_enum1 B) ⟨h1, ?_⟩
  have hz : (s.heap.push o).objs.size = s.heap.objs.size + 1 := Heap.size_push ..
  show _ ∧ _
  rw [hz]
  have he : IsEnum ((s.heap.push o).push { cls := .type "enumerate", data := .fields #[.none, .bool false, .ref s.heap.objs.size, rawInt 0, .none, .none] }) (s.heap.objs.size + 1) s.heap.objs.size 0 .none := by
    have := Heap.get?_push_size (s.heap.push o) (o := { cls := .type "enumerate", data := .fields #[.none, .bool false, .ref s.heap.objs.size, rawInt 0, .none, .none] }) rfl
    rw [hz] at this; exact this
  refine ⟨⟨_, he, rfl⟩, h _ he (Heap.get?_push_of_some _ (Heap.get?_push_size _ B.free)) (by rw [Heap.size_push, hz]) fun b o x => Heap.get?_push_of_some _ (Heap.get?_push_of_some _ x)⟩
def iEnumA (K : PySem.W.Frag) (ta : TA) : TI := fun σ H R => ta σ H fun vs H1 => ∃ a xs, vs = [.ref a] ∧ ((SqL K H1 a xs ∧ R (Ite K a) H1) ∨ (SqT K H1 a xs ∧ R (IteT K a) H1))
theorem pi_enumA {X : Cx} {e : Expr} {ta : TA} {p pos tpos : Pos} {elts : List Expr} {kk : Nat} (hg : L2.Gl X "enumerate") (hm : X.mg "enumerate" = none) (ha : PA X [e] ta) (hs : starEach [e] X.env = [(false, eval e X.env)]) :
    PI X (.Tuple elts kk tpos) (.Call (.Name "enumerate" p) [e] [] pos) (iEnumA X.K ta) := by
  refine ⟨fun pins s σ H R I h => ?_⟩
  refine Call_ (ld_blt I hg hm boot_enumerate (PyProof.Rows.callWith_type1 (thn (ha.run pos pins s σ H _ I h) fun us s1 ⟨vs, H1, I1, r1, q1⟩ => ?_) hs rfl))
  obtain ⟨a, xs, ex, q⟩ := q1
  subst ex
  cases r1 with
  | cons r rr =>
    cases rr
    cases r
    have fp2 : ∀ b ∈ [s1.heap.objs.size + 1, s1.heap.objs.size], FpOk X pins H1 b := fun b hb => by
      have e' : b = s1.heap.objs.size + 1 ∨ b = s1.heap.objs.size := by simpa using hb
      have hle : s1.heap.objs.size ≤ b := by
        rcases e' with z | z
        · rw [z]; exact Nat.le_add_right _ _
        · rw [z]; exact Nat.le_refl _
      exact I1.fpOk hle (I1.hok.fresh hle)
    rcases q with ⟨hq, q⟩ | ⟨hq, q⟩
    · obtain ⟨its, rv, p', hz⟩ := I1.list hq
      refine call_enumerate_list p'.isList fun h' he hit hsz hk => wpAny_pyIter_enum he ?_
      have I2 : L2.Inv X pins σ H1 { s1 with heap := h' } := I1.kept (t' := s1.toks) hk
      exact ⟨s1.heap.objs.size + 1, [s1.heap.objs.size + 1, s1.heap.objs.size], _, _, H1, rfl, I2, turn_enum a (s1.heap.objs.size + 1) s1.heap.objs.size, ⟨⟨.none, he⟩, hit, Nat.succ_ne_self _⟩, fp2, q⟩
    · obtain ⟨its, rv, p', hz⟩ := I1.tuple hq
      have p' : s1.heap.IsTuple a its.toArray := p'
      have hlt : a < s1.heap.objs.size := by obtain ⟨_, z, _⟩ := p'; exact Heap.lt_size z
      refine call_enum1 (PySem.begins_tuple a its.toArray) p' fun h' he hit hsz hk => wpAny_pyIter_enum he ?_
      have I2 : L2.Inv X pins σ H1 { s1 with heap := h' } := I1.kept (t' := s1.toks) hk
      exact ⟨s1.heap.objs.size + 1, [s1.heap.objs.size + 1, s1.heap.objs.size], _, _, H1, rfl, I2, turn_enumT a (s1.heap.objs.size + 1) s1.heap.objs.size, ⟨⟨.none, he⟩, ⟨_, hit, rfl, rfl⟩, Nat.succ_ne_self _, Nat.ne_of_gt (Nat.lt_succ_of_lt hlt)⟩, fp2, q⟩
/-- over a list or a tuple -/
def iSeq (K : PySem.W.Frag) (tl : TE) : TI := fun σ H R => tl σ H fun x H1 => ∃ a xs, x = .ref a ∧ ((SqL K H1 a xs ∧ R (Itl K a) H1) ∨ (SqT K H1 a xs ∧ R (Itt K a) H1))
theorem pi_seq {X : Cx} {tg l : Expr} {tl : TE} (hl : PE X l tl) : PI X tg l (iSeq X.K tl) := by
  refine ⟨fun pins s σ H R I h => ?_⟩
  refine thn (hl.run pins s σ H _ I h) fun v s1 ⟨x, H1, I1, r1, q1⟩ => ?_
  obtain ⟨a, xs, e, q⟩ := q1
  subst e
  cases r1
  have fp1 : ∀ b ∈ [s1.heap.objs.size], FpOk X pins H1 b := fun b hb => by
    have e : b = s1.heap.objs.size := by simpa using hb
    subst e
    exact I1.fpOk (Nat.le_refl _) (I1.hok.fresh (Nat.le_refl _))
  rcases q with ⟨hq, q⟩ | ⟨hq, q⟩
  · obtain ⟨its, rv, p, hz⟩ := I1.list hq
    refine wpAny_pyIter_list p.isList ?_
    exact ⟨s1.heap.objs.size, [s1.heap.objs.size], _, _, H1, rfl, I1.kept (t' := s1.toks) fun b o e => Heap.get?_push_of_some _ e, turn_list a _, ⟨_, Heap.get?_push_size _ rfl, rfl, rfl⟩, fp1, q⟩
  · obtain ⟨its, rv, p, hz⟩ := I1.tuple hq
    refine wpAny_pyIter_tuple (show s1.heap.IsTuple a its.toArray from p) ?_
    exact ⟨s1.heap.objs.size, [s1.heap.objs.size], _, _, H1, rfl, I1.kept (t' := s1.toks) fun b o e => Heap.get?_push_of_some _ e, turn_tuple a _, ⟨_, Heap.get?_push_size _ rfl, rfl, rfl⟩, fp1, q⟩
end AM
/-! What a loop walks, by the machine. -/
namespace AM
open PySem L2
section
variable {X : Cx} {k : Cst} {gl : Gl} {g : Ev} {lv : Nat} {fA : Nat → Addr} {se : SE} {Wx : WX}
structure Now (k : Cst) (ι0 : Nat → Addr) (n0 : Nat) (H0 : Hp) (src : Src) (ι : Nat → Addr) (h : AH) (H : Hp) : Prop where
  kp : Keep k ι0 n0 H0 ι h.length H
  r : R k ι h H
  held : heldOk src.held h = true
structure ItA (k : Cst) (ι0 : Nat → Addr) (n0 : Nat) (H0 : Hp) (src : Src) (J : L2.It) : Prop where
  go : ∀ ι h H i, Now k ι0 n0 H0 src ι h H → i < src.items.length → J.go i H
  stop : ∀ ι h H, Now k ι0 n0 H0 src ι h H → J.stop src.items.length H
  yld : ∀ ι h H i x H', Now k ι0 n0 H0 src ι h H → i < src.items.length → J.yld i H x H' → ∃ w, src.items[i]? = some w ∧ Post k ι h H ι h H' ∧ RelW k ι h.length H' w x
abbrev relJ (k : Cst) : Rel Src L2.It := fun src ι n H J => ItA k ι n H src J
theorem Keep.refl {ι : Nat → Addr} {n : Nat} {H : Hp} : Keep k ι n H ι n H := ⟨Nat.le_refl _, fun _ _ => rfl, fun _ _ e => e, fun _ _ _ e => e⟩
/-- a sequence, as it stands while it is held -/
structure SeqA (k : Cst) (ι0 : Nat → Addr) (n0 : Nat) (H0 : Hp) (src : Src) (Sq : Hp → Addr → List V → Prop) (a : Addr) : Prop where
  at_ : ∀ ι h H, Now k ι0 n0 H0 src ι h H → ∃ vs, Sq H a vs ∧ RelWs k ι h.length H src.items vs
theorem held_list {l : Nat} {ws : List W} {h : AH} (e : heldOk [(l, ws)] h = true) : h[l]? = some (.lst ws) := by
  unfold heldOk at e
  simpa using e
theorem over_seq {x : W} {v : V} {src : Src} {ι : Nat → Addr} {h : AH} {H : Hp} (hs : g.sc = k.sc) (r : R k ι h H) (rx : RelW k ι h.length H x v) (e : overW g x h = some src) :
    ∃ a, v = .ref a ∧ Now k ι h.length H src ι h H ∧ ((isTup x = false ∧ SeqA k ι h.length H src (SqL k.K) a) ∨ (isTup x = true ∧ SeqA k ι h.length H src (SqT k.K) a)) := by
  unfold overW at e
  split at e
  · rename_i ws
    cases e
    unfold RelW at rx
    obtain ⟨a, vs, rfl, hs', rs⟩ := rx
    exact ⟨a, rfl, ⟨Keep.refl, r, rfl⟩, .inr ⟨rfl, ⟨fun ι' h' H' n => ⟨vs, n.kp.tup a vs hs', RelWs.keep n.kp ws rs⟩⟩⟩⟩
  · rename_i l
    split at e
    · rename_i ws e2
      cases e
      unfold RelW at rx
      obtain ⟨hlt, rfl⟩ := rx
      refine ⟨ι l, rfl, ⟨Keep.refl, r, by unfold heldOk; simpa using e2⟩, .inl ⟨rfl, ⟨fun ι' h' H' n => ?_⟩⟩⟩
      obtain ⟨vs, hv, rv⟩ := n.r.lst (held_list n.held)
      rw [n.kp.old l hlt] at hv
      exact ⟨vs, .inl (.of hv), rv⟩
    · cases e
  · cases e
    unfold RelW at rx
    refine ⟨k.aS, rx, ⟨Keep.refl, r, rfl⟩, .inl ⟨rfl, ⟨fun ι' h' H' n => ⟨_, n.r.scr.sq, ?_⟩⟩⟩⟩
    rw [hs]
    have key : ∀ ns : List Int, RelWs k ι' h'.length H' (ns.map W.int) (ns.map V.int) := fun ns => by
      induction ns with
      | nil => exact .nil
      | cons n ns ih => exact RelWs.cons (by unfold RelW; rfl) ih
    exact key _
  · cases e
theorem SeqA.get {ι0 : Nat → Addr} {n0 : Nat} {H0 : Hp} {src : Src} {Sq : Hp → Addr → List V → Prop} {a : Addr} (s : SeqA k ι0 n0 H0 src Sq a) {ι : Nat → Addr} {h : AH} {H : Hp} (n : Now k ι0 n0 H0 src ι h H) {i : Nat} (hi : i < src.items.length) :
    ∃ vs w v, Sq H a vs ∧ src.items[i]? = some w ∧ vs[i]? = some v ∧ RelW k ι h.length H w v := by
  obtain ⟨vs, q, rv⟩ := s.at_ ι h H n
  have e : src.items[i]? = some src.items[i] := by simp [hi]
  obtain ⟨v, e2, rw1⟩ := rv.get e
  exact ⟨vs, _, v, q, e, e2, rw1⟩
theorem SeqA.len {ι0 : Nat → Addr} {n0 : Nat} {H0 : Hp} {src : Src} {Sq : Hp → Addr → List V → Prop} {a : Addr} (s : SeqA k ι0 n0 H0 src Sq a) {ι : Nat → Addr} {h : AH} {H : Hp} (n : Now k ι0 n0 H0 src ι h H) :
    ∃ vs, Sq H a vs ∧ vs.length = src.items.length := by
  obtain ⟨vs, q, rv⟩ := s.at_ ι h H n
  exact ⟨vs, q, rv.len.symm⟩
theorem it_list {ι0 : Nat → Addr} {n0 : Nat} {H0 : Hp} {src : Src} {a : Addr} (s : SeqA k ι0 n0 H0 src (SqL k.K) a) : ItA k ι0 n0 H0 src (Itl k.K a) where
  go := fun ι h H i n hi => let ⟨vs, w, v, q, _, e, _⟩ := s.get n hi; ⟨vs, v, q, e⟩
  stop := fun ι h H n => let ⟨vs, q, e⟩ := s.len n; ⟨vs, q, Nat.le_of_eq e⟩
  yld := fun ι h H i x H' n hi y => by
    obtain ⟨vs, w, v, q, e1, e2, rw1⟩ := s.get n hi
    obtain ⟨rfl, y⟩ := y
    have := y vs q
    rw [e2] at this
    cases this
    exact ⟨w, e1, Post.refl n.r, rw1⟩
theorem it_tup {ι0 : Nat → Addr} {n0 : Nat} {H0 : Hp} {src : Src} {a : Addr} (s : SeqA k ι0 n0 H0 src (SqT k.K) a) : ItA k ι0 n0 H0 src (Itt k.K a) where
  go := fun ι h H i n hi => let ⟨vs, w, v, q, _, e, _⟩ := s.get n hi; ⟨vs, v, q, e⟩
  stop := fun ι h H n => let ⟨vs, q, e⟩ := s.len n; ⟨vs, q, Nat.le_of_eq e⟩
  yld := fun ι h H i x H' n hi y => by
    obtain ⟨vs, w, v, q, e1, e2, rw1⟩ := s.get n hi
    obtain ⟨rfl, y⟩ := y
    have := y vs q
    rw [e2] at this
    cases this
    exact ⟨w, e1, Post.refl n.r, rw1⟩
theorem enumFrom_get : ∀ {ws : List W} {n i : Nat} {w : W}, ws[i]? = some w → (enumFrom n ws)[i]? = some (.tup [.int ((n + i : Nat)), w])
  | [], _, _, _, e => by simp at e
  | a :: r, n, 0, w, e => by
    simp at e
    subst e
    rfl
  | a :: r, n, i + 1, w, e => by
    have e : r[i]? = some w := by simpa using e
    have := enumFrom_get (n := n + 1) e
    rw [show n + 1 + i = n + (i + 1) by omega] at this
    exact this
theorem enumFrom_len : ∀ {ws : List W} {n : Nat}, (enumFrom n ws).length = ws.length
  | [], _ => rfl
  | a :: r, n => congrArg Nat.succ (enumFrom_len (ws := r) (n := n + 1))
theorem pair_yld {ι : Nat → Addr} {h : AH} {H H' : Hp} {T : Addr} {w1 w2 : W} {x y : V} (r : R k ι h H) (hT : H T = none) (e : H' = L2.upd H T (.tup [x, y])) (r1 : RelW k ι h.length H w1 x) (r2 : RelW k ι h.length H w2 y) :
    Post k ι h H ι h H' ∧ RelW k ι h.length H' (.tup [w1, w2]) (.ref T) := by
  subst e
  have p := Post.side (o := .tup [x, y]) r hT
  refine ⟨p, ?_⟩
  unfold RelW
  exact ⟨T, [x, y], rfl, .inl (.of upd_same), RelWs.cons (r1.keep (p.keep r)) (RelWs.cons (r2.keep (p.keep r)) .nil)⟩
theorem it_enum {ι0 : Nat → Addr} {n0 : Nat} {H0 : Hp} {src : Src} {a : Addr} (s : SeqA k ι0 n0 H0 src (SqL k.K) a) : ItA k ι0 n0 H0 ⟨enumFrom 0 src.items, src.held⟩ (Ite k.K a) where
  go := fun ι h H i n hi => let ⟨vs, w, v, q, _, e, _⟩ := s.get ⟨n.kp, n.r, n.held⟩ (by rw [← enumFrom_len (n := 0)]; exact hi); ⟨vs, v, q, e⟩
  stop := fun ι h H n => let ⟨vs, q, e⟩ := s.len ⟨n.kp, n.r, n.held⟩; ⟨vs, q, by rw [enumFrom_len]; exact Nat.le_of_eq e⟩
  yld := fun ι h H i x H' n hi y => by
    obtain ⟨vs, w, v, q, e1, e2, rw1⟩ := s.get (i := i) ⟨n.kp, n.r, n.held⟩ (by rw [← enumFrom_len (n := 0)]; exact hi)
    obtain ⟨T, x0, rfl, hT, e, y⟩ := y
    have := y vs q
    rw [e2] at this
    cases this
    have z := pair_yld (w1 := .int ((i : Nat) : Int)) n.r hT e (by unfold RelW; rfl) rw1
    refine ⟨_, ?_, z⟩
    have := enumFrom_get (n := 0) e1
    rw [Nat.zero_add] at this
    exact this
theorem it_enumT {ι0 : Nat → Addr} {n0 : Nat} {H0 : Hp} {src : Src} {a : Addr} (s : SeqA k ι0 n0 H0 src (SqT k.K) a) : ItA k ι0 n0 H0 ⟨enumFrom 0 src.items, src.held⟩ (IteT k.K a) where
  go := fun ι h H i n hi => let ⟨vs, w, v, q, _, e, _⟩ := s.get ⟨n.kp, n.r, n.held⟩ (by rw [← enumFrom_len (n := 0)]; exact hi); ⟨vs, v, q, e⟩
  stop := fun ι h H n => let ⟨vs, q, e⟩ := s.len ⟨n.kp, n.r, n.held⟩; ⟨vs, q, by rw [enumFrom_len]; exact e⟩
  yld := fun ι h H i x H' n hi y => by
    obtain ⟨vs, w, v, q, e1, e2, rw1⟩ := s.get (i := i) ⟨n.kp, n.r, n.held⟩ (by rw [← enumFrom_len (n := 0)]; exact hi)
    obtain ⟨T, x0, rfl, hT, e, y⟩ := y
    have := y vs q
    rw [e2] at this
    cases this
    have z := pair_yld (w1 := .int ((i : Nat) : Int)) n.r hT e (by unfold RelW; rfl) rw1
    refine ⟨_, ?_, z⟩
    have := enumFrom_get (n := 0) e1
    rw [Nat.zero_add] at this
    exact this
theorem it_rng {ι0 : Nat → Addr} {n0 : Nat} {H0 : Hp} {lo hi : Int} : ItA k ι0 n0 H0 ⟨rngW lo hi, []⟩ (Itr lo (hi - lo).toNat) where
  go := fun ι h H i n hi => by
    have hi : i < (rngW lo _).length := hi
    unfold rngW at hi
    rw [List.length_map, List.length_range] at hi
    exact hi
  stop := fun ι h H n => by
    show _ ≤ (rngW lo hi).length
    unfold rngW
    rw [List.length_map, List.length_range]
    exact Nat.le_refl _
  yld := fun ι h H i x H' n hl y => by
    obtain ⟨rfl, rfl⟩ := y
    have hl : i < (rngW lo hi).length := hl
    unfold rngW at hl
    rw [List.length_map, List.length_range] at hl
    refine ⟨.int (lo + (i : Nat)), ?_, Post.refl n.r, by unfold RelW; rfl⟩
    show (rngW lo hi)[i]? = _
    unfold rngW
    rw [List.getElem?_map, List.getElem?_range hl]
    rfl
theorem held_app {a b : List (Nat × List W)} {h : AH} (e : heldOk (a ++ b) h = true) : heldOk a h = true ∧ heldOk b h = true := by
  unfold heldOk at e ⊢
  rw [List.all_append, Bool.and_eq_true] at e
  exact e
theorem it_zip {ι0 : Nat → Addr} {n0 : Nat} {H0 : Hp} {s t : Src} {a b : Addr} (sa : SeqA k ι0 n0 H0 s (SqL k.K) a) (sb : SeqA k ι0 n0 H0 t (SqL k.K) b) :
    ItA k ι0 n0 H0 ⟨List.zipWith (fun u v => .tup [u, v]) s.items t.items, s.held ++ t.held⟩ (Itz k.K a b) where
  go := fun ι h H i n hi => by
    have hi : i < (List.zipWith _ s.items t.items).length := hi
    rw [List.length_zipWith] at hi
    obtain ⟨vs, w, v, q, _, e, _⟩ := sa.get (i := i) ⟨n.kp, n.r, (held_app n.held).1⟩ (by omega)
    obtain ⟨vs2, w2, v2, q2, _, e2, _⟩ := sb.get (i := i) ⟨n.kp, n.r, (held_app n.held).2⟩ (by omega)
    exact ⟨vs, vs2, v, v2, q, q2, e, e2⟩
  stop := fun ι h H n => by
    obtain ⟨vs, q, e⟩ := sa.len ⟨n.kp, n.r, (held_app n.held).1⟩
    obtain ⟨vs2, q2, e2⟩ := sb.len ⟨n.kp, n.r, (held_app n.held).2⟩
    refine ⟨vs, vs2, q, q2, ?_⟩
    show _ ≤ (List.zipWith _ s.items t.items).length ∨ _ ≤ (List.zipWith _ s.items t.items).length
    rw [List.length_zipWith]
    omega
  yld := fun ι h H i x H' n hi y => by
    have hi : i < (List.zipWith _ s.items t.items).length := hi
    rw [List.length_zipWith] at hi
    obtain ⟨vs, w, v, q, e1, e, rw1⟩ := sa.get (i := i) ⟨n.kp, n.r, (held_app n.held).1⟩ (by omega)
    obtain ⟨vs2, w2, v2, q2, e3, e2, rw2⟩ := sb.get (i := i) ⟨n.kp, n.r, (held_app n.held).2⟩ (by omega)
    obtain ⟨T, x0, y0, rfl, hT, eH, y1, y2⟩ := y
    have z1 := y1 vs q
    have z2 := y2 vs2 q2
    rw [e] at z1
    rw [e2] at z2
    cases z1
    cases z2
    refine ⟨_, ?_, pair_yld n.r hT eH rw1 rw2⟩
    show (List.zipWith _ s.items t.items)[i]? = _
    rw [List.getElem?_zipWith, e1, e3]
theorem it_zipT {ι0 : Nat → Addr} {n0 : Nat} {H0 : Hp} {s t : Src} {a b : Addr} (sa : SeqA k ι0 n0 H0 s (SqT k.K) a) (sb : SeqA k ι0 n0 H0 t (SqT k.K) b) :
    ItA k ι0 n0 H0 ⟨List.zipWith (fun u v => .tup [u, v]) s.items t.items, s.held ++ t.held⟩ (RZ.ItzT k.K a b) where
  go := fun ι h H i n hi => by
    have hi : i < (List.zipWith _ s.items t.items).length := hi
    rw [List.length_zipWith] at hi
    obtain ⟨vs, w, v, q, _, e, _⟩ := sa.get (i := i) ⟨n.kp, n.r, (held_app n.held).1⟩ (by omega)
    obtain ⟨vs2, w2, v2, q2, _, e2, _⟩ := sb.get (i := i) ⟨n.kp, n.r, (held_app n.held).2⟩ (by omega)
    exact ⟨vs, vs2, v, v2, q, q2, e, e2⟩
  stop := fun ι h H n => by
    obtain ⟨vs, q, e⟩ := sa.len ⟨n.kp, n.r, (held_app n.held).1⟩
    obtain ⟨vs2, q2, e2⟩ := sb.len ⟨n.kp, n.r, (held_app n.held).2⟩
    refine ⟨vs, vs2, q, q2, ?_⟩
    show _ ≤ (List.zipWith _ s.items t.items).length ∨ _ ≤ (List.zipWith _ s.items t.items).length
    rw [List.length_zipWith]
    omega
  yld := fun ι h H i x H' n hi y => by
    have hi : i < (List.zipWith _ s.items t.items).length := hi
    rw [List.length_zipWith] at hi
    obtain ⟨vs, w, v, q, e1, e, rw1⟩ := sa.get (i := i) ⟨n.kp, n.r, (held_app n.held).1⟩ (by omega)
    obtain ⟨vs2, w2, v2, q2, e3, e2, rw2⟩ := sb.get (i := i) ⟨n.kp, n.r, (held_app n.held).2⟩ (by omega)
    obtain ⟨T, x0, y0, rfl, hT, eH, y1, y2⟩ := y
    have z1 := y1 vs q
    have z2 := y2 vs2 q2
    rw [e] at z1
    rw [e2] at z2
    cases z1
    cases z2
    refine ⟨_, ?_, pair_yld n.r hT eH rw1 rw2⟩
    show (List.zipWith _ s.items t.items)[i]? = _
    rw [List.getElem?_zipWith, e1, e3]
/-! ### the rules -/
def tI (k : Cst) (g : Ev) (Wx : WX) (it : It) : TI := tR k Wx (relJ k) fun as h => evalI g it as h
theorem i_over {tg l : Expr} {c : C} (cx : CxO X k gl g lv fA se) (hl : PE X l (tE k g Wx c)) : PI X tg l (tI k g Wx (.over c)) := by
  refine PI.of (pi_seq hl) fun σ H Q w => ?_
  obtain ⟨ι, as, h, rs, r, w⟩ := w
  dsimp only at w
  rw [evalI] at w
  unfold iSeq
  refine (nxt (fun _ _ _ => True) kpT rs r trivial w).imp fun x H1 ⟨ι, h, wx, rs, r, _, rx, w⟩ => ?_
  split at w
  · rename_i src e
    obtain ⟨a, rfl, n, q⟩ := over_seq cx.fx.sc r rx e
    rw [cx.K]
    rcases q with ⟨_, q⟩ | ⟨_, q⟩
    · obtain ⟨vs, z, _⟩ := q.len n
      exact ⟨a, vs, rfl, .inl ⟨z, w ι H1 _ (Post.refl r) (it_list q)⟩⟩
    · obtain ⟨vs, z, _⟩ := q.len n
      exact ⟨a, vs, rfl, .inr ⟨z, w ι H1 _ (Post.refl r) (it_tup q)⟩⟩
  · exact w.elim
theorem i_enum {x : Str} {l : Expr} {c : C} {p pos tpos : Pos} {elts : List Expr} {kk : Nat} (cx : CxO X k gl g lv fA se) (go : GOk X gl x .blt) (hx : x = "enumerate") (hst : noStar l = true) (hl : PE X l (tE k g Wx c)) :
    PI X (.Tuple elts kk tpos) (.Call (.Name x p) [l] [] pos) (tI k g Wx (.enum c)) := by
  have hm := cx.fx.gbl x go.lk
  subst hx
  refine PI.of (pi_enumA go.gi hm (pa_cons hl pa_nil (star_of hst)) (star_of hst)) fun σ H Q w => ?_
  obtain ⟨ι, as, h, rs, r, w⟩ := w
  dsimp only at w
  rw [evalI] at w
  unfold iEnumA
  refine (nxt (fun _ _ _ => True) kpT rs r trivial w).imp fun x H1 ⟨ι, h, wx, rs, r, _, rx, w⟩ => ?_
  split at w
  · rename_i src e
    obtain ⟨a, rfl, n, q⟩ := over_seq cx.fx.sc r rx e
    rw [cx.K]
    rcases q with ⟨_, q⟩ | ⟨_, q⟩
    · obtain ⟨vs, z, _⟩ := q.len n
      exact ⟨a, vs, rfl, .inl ⟨z, w ι H1 _ (Post.refl r) (it_enum q)⟩⟩
    · obtain ⟨vs, z, _⟩ := q.len n
      exact ⟨a, vs, rfl, .inr ⟨z, w ι H1 _ (Post.refl r) (it_enumT q)⟩⟩
  · exact w.elim
theorem i_zip {x : Str} {l l2 : Expr} {c c2 : C} {p pos tpos : Pos} {elts : List Expr} {kk : Nat} (cx : CxO X k gl g lv fA se) (go : GOk X gl x .blt) (hx : x = "zip") (hst : noStar l = true) (hst2 : noStar l2 = true) (hl : PE X l (tE k g Wx c)) (hl2 : PE X l2 (tE k g Wx c2)) :
    PI X (.Tuple elts kk tpos) (.Call (.Name x p) [l, l2] [] pos) (tI k g Wx (.zip c c2)) := by
  have hm := cx.fx.gbl x go.lk
  subst hx
  refine PI.of (RZ.pi_zipA go.gi hm (pa_two hl hl2 hst hst2) (star_of hst) (by rw [star_of hst2]; rfl)) fun σ H Q w => ?_
  obtain ⟨ι, as, h, rs, r, w⟩ := w
  dsimp only at w
  rw [evalI] at w
  unfold RZ.iZipA
  refine (nxt (fun _ _ _ => True) kpT rs r trivial w).imp fun x H1 ⟨ι, h, wx, rs, r, _, rx, w⟩ => ?_
  refine (nxt (rel := relW k) (fun ι n H => RelW k ι n H wx x) kpW rs r rx w).imp fun y H2 ⟨ι, h, wy, rs, r, rx, ry, w⟩ => ?_
  split at w
  · rename_i et
    split at w
    · rename_i s t e1 e2
      obtain ⟨a, rfl, n, q⟩ := over_seq cx.fx.sc r rx e1
      obtain ⟨b, rfl, n2, q2⟩ := over_seq cx.fx.sc r ry e2
      rw [cx.K]
      rcases q with ⟨i1, q⟩ | ⟨i1, q⟩
      · rcases q2 with ⟨i2, q2⟩ | ⟨i2, q2⟩
        · obtain ⟨vs, z, _⟩ := q.len n
          obtain ⟨vs2, z2, _⟩ := q2.len n2
          exact ⟨a, b, vs, vs2, rfl, .inl ⟨z, z2, w ι H2 _ (Post.refl r) (it_zip q q2)⟩⟩
        · rw [i1, i2] at et
          cases et
      · rcases q2 with ⟨i2, q2⟩ | ⟨i2, q2⟩
        · rw [i1, i2] at et
          cases et
        · obtain ⟨vs, z, _⟩ := q.len n
          obtain ⟨vs2, z2, _⟩ := q2.len n2
          exact ⟨a, b, vs, vs2, rfl, .inr ⟨z, z2, w ι H2 _ (Post.refl r) (it_zipT q q2)⟩⟩
    · exact w.elim
  · exact w.elim
theorem rng_small {i : Int} (h : rngOk i = true) : -(2 ^ 62) ≤ i ∧ i < 2 ^ 62 := by
  unfold rngOk at h
  simp only [Bool.and_eq_true, decide_eq_true_eq] at h
  omega
theorem i_rng1 {x : Str} {tg a : Expr} {cs : List C} {p pos : Pos} (cx : CxO X k gl g lv fA se) (go : GOk X gl x .blt) (hx : x = "range") (hst : noStar a = true) (ha : PA X [a] (tEs k g Wx cs)) (hl : cs.length = 1) : PI X tg (.Call (.Name x p) [a] [] pos) (tI k g Wx (.rng cs)) := by
  have hm := cx.fx.gbl x go.lk
  subst hx
  refine PI.of (pi_range1 go.gi hm ha (star_of hst)) fun σ H Q w => ?_
  obtain ⟨ι, as, h, rs, r, w⟩ := w
  dsimp only at w
  rw [evalI] at w
  unfold iRng1
  refine (nxt (rel := relWs k) (fun _ _ _ => True) kpT rs r trivial w).imp fun vs H1 ⟨ι, h, ws, rs, r, _, rx, w⟩ => ?_
  split at w
  · rename_i e
    rw [hl] at e
    obtain ⟨w1, rfl⟩ : ∃ w1, ws = [w1] := by
      cases ws with
      | nil => cases e
      | cons w1 r =>
        cases r with
        | nil => exact ⟨w1, rfl⟩
        | cons _ _ => cases e
    unfold rngR at w
    split at w
    · rename_i j ej
      cases ej
      split at w
      · rename_i hj
        obtain ⟨v, rfl, rv⟩ := RelWs.one rx
        unfold RelW at rv
        subst rv
        have q := w ι H1 _ (Post.refl r) (it_rng (lo := 0) (hi := j))
        rw [Int.sub_zero] at q
        exact ⟨j, rfl, (rng_small hj).1, (rng_small hj).2, q⟩
      · exact w.elim
    · rename_i ej
      cases ej
    · exact w.elim
  · exact w.elim
theorem i_rng2 {x : Str} {tg a b : Expr} {cs : List C} {p pos : Pos} (cx : CxO X k gl g lv fA se) (go : GOk X gl x .blt) (hx : x = "range") (hst : noStar a = true) (hst2 : noStar b = true) (ha : PA X [a, b] (tEs k g Wx cs)) (hl : cs.length = 2) : PI X tg (.Call (.Name x p) [a, b] [] pos) (tI k g Wx (.rng cs)) := by
  have hm := cx.fx.gbl x go.lk
  subst hx
  refine PI.of (pi_range2 go.gi hm ha (by rw [star_of hst, star_of hst2]; rfl) (by rw [star_of hst2]; rfl)) fun σ H Q w => ?_
  obtain ⟨ι, as, h, rs, r, w⟩ := w
  dsimp only at w
  rw [evalI] at w
  unfold iRng2
  refine (nxt (rel := relWs k) (fun _ _ _ => True) kpT rs r trivial w).imp fun vs H1 ⟨ι, h, ws, rs, r, _, rx, w⟩ => ?_
  split at w
  · rename_i e
    rw [hl] at e
    obtain ⟨w1, w2, rfl⟩ : ∃ w1 w2, ws = [w1, w2] := by
      match ws, e with
      | [w1, w2], _ => exact ⟨w1, w2, rfl⟩
    unfold rngR at w
    split at w
    · rename_i ej
      cases ej
    · rename_i i j ej
      cases ej
      split at w
      · rename_i hj
        rw [Bool.and_eq_true] at hj
        obtain ⟨v, z, rfl, rv, rz⟩ := RelWs.two rx
        unfold RelW at rv rz
        subst rv rz
        exact ⟨i, j, rfl, ⟨(rng_small hj.1).1, (rng_small hj.1).2, (rng_small hj.2).1, (rng_small hj.2).2⟩, w ι H1 _ (Post.refl r) (it_rng (lo := i) (hi := j))⟩
      · exact w.elim
    · exact w.elim
  · exact w.elim
/-! ### targets -/
abbrev relSt (k : Cst) : Rel St L2.St := fun as ι n H σ => RelS k ι n H as σ
def tV (k : Cst) {α : Type} (rel : V → α → (Nat → Addr) → Nat → Hp → Prop) (f : α → St → AH → Res St) : V → L2.St → Hp → (L2.St → Hp → Prop) → Prop := fun v σ H Q => ∃ ι as h w, RelS k ι h.length H as σ ∧ R k ι h H ∧ rel v w ι h.length H ∧ WPV k (f w as h) ι h H (relSt k) Q
/-- .. and the slots but sl are as they were -/
def relSF (k : Cst) (σ : L2.St) (sl : List Nat) : Rel St L2.St := fun as ι n H b => RelS k ι n H as b ∧ b.length = σ.length ∧ ∀ j, j ∉ sl → b[j]? = σ[j]?
def tG (k : Cst) (g : Ev) (t : Tg) : TG := fun v σ H Q => ∃ ι as h w, RelS k ι h.length H as σ ∧ R k ι h H ∧ RelW k ι h.length H w v ∧ WPV k (asgT g t w as h) ι h H (relSF k σ (slotsT t)) Q
def tGs (k : Cst) (g : Ev) (ts : List Tg) : TGs := fun vs σ H Q => ∃ ι as h ws, RelS k ι h.length H as σ ∧ R k ι h H ∧ RelWs k ι h.length H ws vs ∧ WPV k (asgTs g ts ws as h) ι h H (relSF k σ (slotsTs ts)) Q
theorem WPV.relImp {α β : Type} {rel rel' : Rel α β} {ι : Nat → Addr} {h : AH} {H : Hp} {r : Res α} {Q : β → Hp → Prop} (w : WPV k r ι h H rel Q) (f : ∀ a ι n H b, rel' a ι n H b → rel a ι n H b) : WPV k r ι h H rel' Q := by
  cases r with
  | ok a h' => exact fun ι' H' b p e => w ι' H' b p (f _ _ _ _ _ e)
  | exc c xs ws h' => exact w
  | stuck => exact w
theorem relSF.same {σ : L2.St} {sl : List Nat} {as : St} {ι : Nat → Addr} {n : Nat} {H : Hp} (rs : RelS k ι n H as σ) : relSF k σ sl as ι n H σ := ⟨rs, rfl, fun _ _ => rfl⟩
theorem WPV.wpe {α β : Type} {rel : Rel α β} {σ : L2.St} {ι : Nat → Addr} {h : AH} {H : Hp} {r : Res α} {Q : β → Hp → Prop} (w : WPV k r ι h H rel Q) : WPE k Wx σ r ι h H rel Q := by
  cases r <;> first | exact w | exact w.elim
/-- the first answer of two, with none of them an exception -/
theorem WPV.bind {α β γ δ : Type} {rel : Rel α β} {rel2 : Rel γ δ} {ι : Nat → Addr} {h : AH} {H : Hp} {r : Res α} {f : α → AH → Res γ} {Q : δ → Hp → Prop} (r0 : R k ι h H) (w : WPV k (r.bind f) ι h H rel2 Q) :
    WPV k r ι h H rel fun b H1 => ∃ a ι1 h1, Post k ι h H ι1 h1 H1 ∧ rel a ι1 h1.length H1 b ∧ WPV k (f a h1) ι1 h1 H1 rel2 Q := by
  cases r with
  | ok a h' =>
    intro ι' H' b p e
    refine ⟨a, ι', h', p, e, ?_⟩
    have w : WPV k (f a h') ι h H rel2 Q := w
    revert w
    cases f a h' with
    | ok c h2 => exact fun w ι2 H2 d q e2 => w ι2 H2 d (p.trans r0 q) e2
    | exc _ _ _ _ => exact fun w => w
    | stuck => exact fun w => w
  | exc c xs ws h' => exact w
  | stuck => exact w
theorem WPV.imp {α β : Type} {rel : Rel α β} {ι : Nat → Addr} {h : AH} {H : Hp} {r : Res α} {Q Q' : β → Hp → Prop} (w : WPV k r ι h H rel Q) (f : ∀ b H', Q b H' → Q' b H') : WPV k r ι h H rel Q' := by
  cases r with
  | ok a h' => exact fun ι' H' b p e => f _ _ (w ι' H' b p e)
  | exc c xs ws h' => exact w
  | stuck => exact w
/-- an expression within a target -/
theorem nxtV {α β γ δ : Type} {rel : Rel α β} {rel2 : Rel γ δ} {f : St → AH → Res α} {f2 : α → AH → Res γ} {σ : L2.St} {H : Hp} {Q : δ → Hp → Prop} {ι : Nat → Addr} {as : St} {h : AH} (P : Ctx) (kp : KeepP k P) (rs : RelS k ι h.length H as σ) (r : R k ι h H) (p : P ι h.length H)
    (w : WPV k ((f as h).bind f2) ι h H rel2 Q) :
    tR k Wx rel f σ H fun b H1 => ∃ ι h a, RelS k ι h.length H1 as σ ∧ R k ι h H1 ∧ P ι h.length H1 ∧ rel a ι h.length H1 b ∧ WPV k (f2 a h) ι h H1 rel2 Q :=
  ⟨ι, as, h, rs, r, ((WPV.bind (rel := rel) (rel2 := rel2) r w).imp fun b H1 ⟨a, ι1, h1, q, ra, w1⟩ => ⟨ι1, h1, a, rs.keep (q.keep r), q.rel, kp _ _ _ _ _ _ (q.keep r) p, ra, w1⟩).wpe⟩
theorem RelS.set {ι : Nat → Addr} {n : Nat} {H : Hp} {as : St} {σ : L2.St} {i : Nat} {w : W} {v : V} (rs : RelS k ι n H as σ) (rv : RelW k ι n H w v) : RelS k ι n H (as.set i (some w)) (σ.set i (some v)) := by
  refine ⟨by rw [List.length_set, List.length_set]; exact rs.1, fun j w' e => ?_⟩
  by_cases hj : i = j
  · subst hj
    by_cases hl : i < as.length
    · rw [List.getElem?_set_self hl] at e
      cases e
      exact ⟨v, by rw [List.getElem?_set_self (by rw [← rs.1]; exact hl)], rv⟩
    · rw [List.getElem?_eq_none (by rw [List.length_set]; omega)] at e
      cases e
  · rw [List.getElem?_set_ne hj] at e ⊢
    exact rs.2 j w' e
theorem loc_of {se : SE} (cx : CxO X k gl g lv fA se) {x : Str} {i : Nat} (ok : okSt se x i = true) : X.N[i]? = some x ∧ L2.Loc X.env.scope x ∧ (X.fn x = true ∨ X.env.scope.names.lookup x = some .local) := by
  unfold okSt at ok
  simp only [Bool.and_eq_true, decide_eq_true_eq] at ok
  obtain ⟨e1, e2⟩ := ok
  refine ⟨by rw [cx.N]; exact e1, ?_⟩
  unfold L2.Loc
  rw [cx.sc]
  revert e2
  split
  · rename_i e
    rw [e]
    exact fun _ => ⟨.inl rfl, .inr rfl⟩
  · rename_i e
    rw [e]
    exact fun z => ⟨.inr rfl, .inl (cx.fn x z)⟩
  · exact fun z => by cases z
theorem g_nm {x : Str} {i : Nat} {pos : Pos} (cx : CxO X k gl g lv fA se) (ok : okSt se x i = true) : PG X (.Name x pos) (tG k g (.nm i)) := by
  obtain ⟨h1, h2, h3⟩ := loc_of cx ok
  refine PG.of (pg_name cx.nd h1 h2 h3) fun v σ H Q ⟨ι, as, h, w, rs, r, rw1, q⟩ => ?_
  rw [asgT] at q
  refine q ι H _ (Post.refl r) ⟨rs.set rw1, by rw [List.length_set], fun j hj => ?_⟩
  unfold slotsT at hj
  rw [List.getElem?_set_ne (fun e => hj (by rw [e]; exact List.mem_cons_self))]
theorem gs_nil : PGs X [] (tGs k g []) := PGs.of pgs_nil fun vs σ H Q ⟨ι, as, h, ws, rs, r, rw1, q⟩ => by
  cases ws with
  | nil =>
    rw [asgTs] at q
    unfold RelWs at rw1
    exact ⟨rw1, q ι H _ (Post.refl r) (relSF.same rs)⟩
  | cons _ _ =>
    rw [asgTs] at q
    · exact q.elim
    all_goals simp
theorem asg_of {e : Expr} {es : List Expr} {env : Env} (h : noStar e = true) : assignEach (e :: es) env = (false, assign e env) :: assignEach es env := by
  cases e <;> first | rfl | (cases h; done)
theorem asg_len {env : Env} : ∀ {es : List Expr}, es.all noStar = true → (assignEach es env).length = es.length ∧ (assignEach es env).findIdx? (·.1) = none
  | [], _ => ⟨rfl, rfl⟩
  | e :: es, h => by
    rw [List.all_cons, Bool.and_eq_true] at h
    rw [asg_of h.1]
    obtain ⟨h1, h2⟩ := asg_len (env := env) h.2
    refine ⟨by simp [h1], ?_⟩
    rw [List.findIdx?_cons]
    simp [h2]
theorem gs_cons {e : Expr} {es : List Expr} {t : Tg} {ts : List Tg} (h0 : noStar e = true) (h1 : PG X e (tG k g t)) (h2 : PGs X es (tGs k g ts)) : PGs X (e :: es) (tGs k g (t :: ts)) := by
  refine PGs.of (pgs_cons h1 h2 (by rw [asg_of h0]; rfl)) fun vs σ H Q ⟨ι, as, h, ws, rs, r, rw1, q⟩ => ?_
  cases ws with
  | nil =>
    rw [asgTs] at q
    · exact q.elim
    all_goals simp
  | cons w ws =>
    rw [asgTs] at q
    unfold RelWs at rw1
    obtain ⟨v, vr, rfl, rv, rr⟩ := rw1
    refine ⟨v, vr, rfl, ι, as, h, w, rs, r, rv, (WPV.bind (rel := relSF k σ (slotsT t)) r q).imp fun σ2 H2 ⟨as2, ι2, h2, p, rs2, q2⟩ => ?_⟩
    refine ⟨ι2, as2, h2, ws, rs2.1, p.rel, RelWs.keep (p.keep r) ws rr, q2.relImp fun a ι n H b z => ⟨z.1, z.2.1.trans rs2.2.1, fun j hj => ?_⟩⟩
    unfold slotsTs at hj
    rw [List.mem_append, not_or] at hj
    rw [z.2.2 j hj.2, rs2.2.2 j hj.1]
theorem g_tp {es : List Expr} {ts : List Tg} {kk : Nat} {pos : Pos} (cx : CxO X k gl g lv fA se) (hst : es.all noStar = true) (hl : ts.length = es.length) (h : PGs X es (tGs k g ts)) : PG X (.Tuple es kk pos) (tG k g (.tp ts)) := by
  obtain ⟨l1, l2⟩ := asg_len (env := X.env) hst
  refine PG.of (pg_tup (n := es.length) cx.calm h l1 l2) fun v σ H Q ⟨ι, as, h, w, rs, r, rw1, q⟩ => ?_
  cases w with
  | tup ws =>
    rw [asgT] at q
    split at q
    · rename_i e
      unfold RelW at rw1
      obtain ⟨a, vs, rfl, hs, rv⟩ := rw1
      exact ⟨a, vs, rfl, by rw [cx.K]; exact hs, by rw [← rv.len, e, hl], ι, as, h, ws, rs, r, rv, by unfold slotsT at q; exact q⟩
    · exact q.elim
  | _ =>
    rw [asgT] at q
    · exact q.elim
    all_goals simp
theorem setI_inv {x y w : W} {h : AH} : setI x y w h = .stuck ∨ ∃ l j xs m, x = .loc l ∧ y = .int j ∧ h[l]? = some (.lst xs) ∧ L2.ixN xs.length j = some m ∧ setI x y w h = .ok () (h.set l (.lst (xs.set m w))) := by
  cases x with
  | loc l =>
    cases y with
    | int j =>
      cases e : h[l]? with
      | none =>
        left
        unfold setI
        simp only [e]
      | some o =>
        cases o with
        | lst xs =>
          cases em : L2.ixN xs.length j with
          | none =>
            left
            unfold setI
            simp only [e, em]
          | some m =>
            right
            refine ⟨l, j, xs, m, rfl, rfl, e, em, ?_⟩
            unfold setI
            simp only [e, em]
        | ins c fs =>
          left
          unfold setI
          simp only [e]
        | dic kvs =>
          left
          unfold setI
          simp only [e]
    | _ => exact .inl rfl
  | _ => exact .inl rfl
theorem g_sub {o i : Expr} {co ci : C} {pos : Pos} (cx : CxO X k gl g lv fA se) (h0 : noSlice i = true) (ho : PE X o (tE k g Wx co)) (hi : PE X i (tE k g Wx ci)) : PG X (.Subscript o i pos) (tG k g (.sub co ci)) := by
  refine PG.of (pg_sub ho hi set_list (fun v => by cases i <;> first | rfl | (cases h0; done))) fun v σ H Q ⟨ι, as, h, w, rs, r, rw1, q⟩ => ?_
  rw [asgT] at q
  unfold gSub
  refine (nxtV (fun ι n H => RelW k ι n H w v) kpW rs r rw1 q).imp fun x H1 ⟨ι, h, wx, rs, r, rw1, rx, q⟩ => ?_
  refine (nxtV (rel := relW k) (fun ι n H => RelW k ι n H w v ∧ RelW k ι n H wx x) (kpAnd kpW kpW) rs r ⟨rw1, rx⟩ q).imp fun y H2 ⟨ι, h, wy, rs, r, ⟨rw1, rx⟩, ry, q⟩ => ?_
  rcases setI_inv (x := wx) (y := wy) (w := w) (h := h) with e | ⟨l, j, xs, m, rfl, rfl, e, em, e2⟩
  · rw [e] at q
    exact q.elim
  · rw [e2] at q
    unfold RelW at rx
    unfold relW RelW at ry
    obtain ⟨hlt, rfl⟩ := rx
    subst ry
    obtain ⟨vs, hv, rv⟩ := r.lst e
    refine ⟨ι l, vs, j, m, rfl, rfl, hv, by rw [← rv.len]; exact em, ?_⟩
    have p := Post.set (ho := .lst (vs.set m v)) (o := .lst (xs.set m w)) r hlt fun H' kp e => ⟨_, e, RelWs.set (rw1.keep kp) m (RelWs.keep kp _ rv)⟩
    exact q ι _ σ p (relSF.same (rs.keep (p.keep r)))
theorem g_attr {o : Expr} {f : Str} {co : C} {pos : Pos} (cx : CxO X k gl g lv fA se) (ho : PE X o (tE k g Wx co)) : PG X (.Attribute o f pos) (tG k g (.attr co f)) := by
  refine ⟨fun pins s σ H v u Q I rv ⟨ι, as, h, w, rs, r, rw1, q⟩ => ?_⟩
  rw [asgT] at q
  have e : assign (.Attribute o f pos) X.env u = (do
      let ov ← holding [u] (eval o X.env)
      standAt pos.atName
      holding [u, ov] (setAttr ov f u)
      release [u, ov] []) := by rfl
  rw [e]
  refine wpAny_bind (wpAny_holding (thn (ho.run pins s σ H _ I (nxtV (fun ι n H => RelW k ι n H w v) kpW rs r rw1 q)) fun ov s1 ⟨x, H1, I1, rx, ι, h, wx, rs, r, rw1, rx1, q⟩ => ?_))
  unfold setA at q
  split at q
  · rename_i l
    split at q
    · rename_i c fs e1
      split at q
      · rename_i cl hc
        split at q
        · rename_i hz
          rw [Bool.and_eq_true, decide_eq_true_eq, decide_eq_true_eq] at hz
          obtain ⟨dx, vs, e2, e3⟩ := r.ins e1
          unfold relW RelW at rx1
          obtain ⟨hlt, rfl⟩ := rx1
          obtain rfl : ov = Value.ref (ι l) := rx
          have CS := cx.fx.cl c cl hc
          have c1 : Cls X.K (k.cA c) := by rw [cx.K]; exact CS.cls
          have N : NoAttr X.K (k.cA c) f := by rw [cx.K]; exact CS.fl f hz.2
          have p := Post.set (ho := .ins (k.cA c) dx (putF f v vs)) (o := .ins c (putA f w fs)) r hlt fun H' kp e => ⟨dx, _, e, relF_put (rw1.keep kp) (RelF.keep kp _ e3)⟩
          refine wpAny_bind (wpAny_standAt (wpAny_bind (wpAny_holding (setattr_ok I1 e2 c1 N (by rw [← relF_len e3]; exact hz.1) rv fun s2 I2 => ?_))))
          exact wpAny_release ⟨σ, _, I2, q ι _ σ p (relSF.same (rs.keep (p.keep r)))⟩
        · exact q.elim
      · exact q.elim
    · exact q.elim
  · exact q.elim
end
end AM
/-! Comprehensions. -/
namespace AM
open PySem L2
section
variable {X : Cx} {k : Cst} {gl : Gl} {g : Ev} {lv : Nat} {fA : Nat → Addr} {se : SE} {Wx : WX}
theorem Post.none_of {ι ι1 : Nat → Addr} {h h1 : AH} {H H1 : Hp} {D : Addr} (r : R k ι h H) (p : Post k ι h H ι1 h1 H1) (e : H1 D = none) : H D = none := by
  cases q : H D with
  | none => rfl
  | some o =>
    exfalso
    by_cases ho : ∀ l, l < h.length → ι l ≠ D
    · rw [p.fr D o q ho] at e
      cases e
    · have ho : ∃ l, l < h.length ∧ ι l = D := by
        apply Classical.byContradiction
        intro hn
        exact ho fun l hl z => hn ⟨l, hl, z⟩
      obtain ⟨l, hl, z⟩ := ho
      obtain ⟨o', e'⟩ := p.rel.has (Nat.lt_of_lt_of_le hl p.len)
      rw [p.old l hl, z, e] at e'
      cases e'
/-- a list beside ours is written -/
theorem Post.beside {ι ι' : Nat → Addr} {h h' : AH} {H H' : Hp} {D : Addr} {vs us : List V} (p : Post k ι h H ι' h' H') (hD : H D = none) (hn : ∀ l, l < h'.length → ι' l ≠ D) (hs : H k.aS ≠ none ∨ KScr k) (e : H' D = some (.lst vs)) :
    Post k ι h H ι' h' (L2.upd H' D (.lst us)) ∧ ∀ n, Keep k ι' n H' ι' n (L2.upd H' D (.lst us)) := by
  have kp : ∀ n, Keep k ι' n H' ι' n (L2.upd H' D (.lst us)) := fun n => ⟨Nat.le_refl _, fun _ _ => rfl, fun a xs q => by
    rcases q with (q | ⟨o, q⟩) | q
    · exact .inl (.inl (by rw [upd_ne (ne_of q e (fun z => by cases z))]; exact q))
    · exact .inl (.inr ⟨o, by rw [upd_ne (ne_of q e (fun z => by cases z))]; exact q⟩)
    · exact .inr q, fun a cls d q => by
      rw [upd_ne (ne_of q e (fun z => by unfold ExC at z; cases z))]
      exact q⟩
  refine ⟨⟨p.len, p.old, ⟨fun l o q => (p.rel.obj l o q).keep (kp _) fun ho z => ?_, p.rel.inj, ?_⟩, fun a o q ho => ?_, p.new⟩, kp⟩
  · rw [upd_ne (hn l (List.getElem?_eq_some_iff.mp q).1)]
    exact z
  · rcases p.rel.scr.ap with q | ⟨q1, q2⟩
    · exact ⟨.inr q, .inl q⟩
    · rcases hs with hs | hs
      · have ne : k.aS ≠ D := fun z => hs (by rw [z]; exact hD)
        have q3 : Rd (L2.upd H' D (.lst us)) k.aS (.lst (k.sc.map .int)) := by
          rcases q1 with q | ⟨o, q⟩
          · exact .inl (by rw [upd_ne ne]; exact q)
          · exact .inr ⟨o, by rw [upd_ne ne]; exact q⟩
        exact ⟨.inl q3, .inr ⟨q3, q2⟩⟩
      · exact ⟨.inr hs, .inl hs⟩
  · rw [upd_ne (ne_of_none q hD)]
    exact p.fr a o q ho
/-- a list beside ours becomes ours -/
theorem Post.adopt {ι ι' : Nat → Addr} {h h' : AH} {H H' : Hp} {D : Addr} {vs : List V} {ws : List W} (p : Post k ι h H ι' h' H') (hD : H D = none) (hn : ∀ l, l < h'.length → ι' l ≠ D) (hs : H k.aS ≠ none ∨ KScr k) (e : H' D = some (.lst vs)) (rv : RelWs k ι' h'.length H' ws vs) :
    Post k ι h H (snoc ι' h'.length D) (h' ++ [.lst ws]) H' := by
  have ln : (h' ++ [O.lst ws]).length = h'.length + 1 := by simp
  have kp : Keep k ι' h'.length H' (snoc ι' h'.length D) (h' ++ [O.lst ws]).length H' := ⟨by rw [ln]; exact Nat.le_succ _, fun l hl => snoc_lt hl, fun _ _ q => q, fun _ _ _ q => q⟩
  refine ⟨by rw [ln]; exact Nat.le_succ_of_le p.len, fun l hl => by rw [snoc_lt (Nat.lt_of_lt_of_le hl p.len)]; exact p.old l hl, ⟨fun l o q => ?_, fun l m hl hm z => ?_, ?_⟩, p.fr, fun l a b => ?_⟩
  · by_cases hl : l < h'.length
    · rw [List.getElem?_append_left hl] at q
      rw [snoc_lt hl]
      exact (p.rel.obj l o q).keep kp fun ho z => z
    · have hl2 : l < (h' ++ [O.lst ws]).length := (List.getElem?_eq_some_iff.mp q).1
      have el : l = h'.length := by rw [ln] at hl2; omega
      subst el
      simp at q
      subst q
      rw [snoc_eq]
      exact ⟨vs, e, RelWs.keep kp ws rv⟩
  · rw [ln] at hl hm
    by_cases h1 : l < h'.length
    · by_cases h2 : m < h'.length
      · rw [snoc_lt h1, snoc_lt h2] at z
        exact p.rel.inj l m h1 h2 z
      · have : m = h'.length := by omega
        subst this
        rw [snoc_lt h1, snoc_eq] at z
        exact absurd z (hn l h1)
    · have : l = h'.length := by omega
      subst this
      by_cases h2 : m < h'.length
      · rw [snoc_lt h2, snoc_eq] at z
        exact absurd z.symm (hn m h2)
      · omega
  · refine ⟨p.rel.scr.sq, ?_⟩
    rcases p.rel.scr.ap with q | ⟨q1, q2⟩
    · exact .inl q
    · rcases hs with hs | hs
      · refine .inr ⟨q1, fun l hl => ?_⟩
        by_cases h1 : l < h'.length
        · rw [snoc_lt h1]
          exact q2 l h1
        · have : l = h'.length := by rw [ln] at hl; omega
          subst this
          rw [snoc_eq]
          intro z
          exact hs (by rw [← z]; exact hD)
      · exact .inl hs
  · rw [ln] at b
    by_cases h1 : l < h'.length
    · rw [snoc_lt h1]
      exact p.new l a h1
    · have : l = h'.length := by omega
      subst this
      rw [snoc_eq]
      exact hD
theorem R.scrH {ι : Nat → Addr} {h : AH} {H : Hp} (r : R k ι h H) : H k.aS ≠ none ∨ KScr k := by
  rcases r.scr.ap with q | ⟨q1, q2⟩
  · exact .inr q
  · left
    rcases q1 with q | ⟨o, q⟩ <;> (rw [q]; intro z; cases z)
/-- the list of a comprehension, beside ours -/
def relL (k : Cst) (H0 : Hp) : Rel (List W) V := fun ws ι n H' v => ∃ D vs, v = .ref D ∧ H0 D = none ∧ H' D = some (.lst vs) ∧ RelWs k ι n H' ws vs ∧ ∀ l, l < n → ι l ≠ D
def tL (k : Cst) (g : Ev) (Wx : WX) (c : C) : TE := fun σ H Q => ∃ ι as h, RelS k ι h.length H as σ ∧ R k ι h H ∧ WPE k Wx σ (evalL g c as h) ι h H (relL k H) Q
theorem wipe_get {σ : L2.St} {j : Nat} : ∀ {vs : List Nat}, (wipe σ vs)[j]? = if j ∈ vs then (if j < σ.length then some none else none) else σ[j]?
  | [] => by simp [wipe]
  | v :: vs => by
    unfold wipe
    by_cases hj : v = j
    · subst hj
      by_cases hl : v < σ.length
      · rw [List.getElem?_set_self (by rw [wipe_length]; exact hl)]
        simp [hl]
      · rw [List.getElem?_eq_none (by rw [List.length_set, wipe_length]; omega)]
        simp [hl]
    · rw [List.getElem?_set_ne hj, wipe_get]
      have : (j ∈ v :: vs) ↔ j ∈ vs := by
        rw [List.mem_cons]
        exact ⟨fun z => z.elim (fun e => absurd e.symm hj) id, .inr⟩
      simp only [this]
theorem wipe_same {σ σ2 : L2.St} {vs sl : List Nat} (hl : σ2.length = (wipe σ vs).length) (hs : ∀ j ∈ sl, j ∈ vs) (e : ∀ j, j ∉ sl → σ2[j]? = (wipe σ vs)[j]?) : wipe σ2 vs = wipe σ vs := by
  apply List.ext_getElem?
  intro j
  rw [wipe_length] at hl
  by_cases hj : j ∈ vs
  · rw [wipe_get, wipe_get, if_pos hj, if_pos hj, hl]
  · rw [wipe_get, if_neg hj, e j fun z => hj (hs j z)]
theorem relS_wipe {ι : Nat → Addr} {n : Nat} {H : Hp} {as : St} {σ : L2.St} (rs : RelS k ι n H as σ) : ∀ vs : List Nat, RelS k ι n H (wipeA as vs) (wipe σ vs)
  | [] => rs
  | v :: vs => by
    have q := relS_wipe rs vs
    unfold wipeA wipe
    refine ⟨by rw [List.length_set, List.length_set]; exact q.1, fun j w e => ?_⟩
    by_cases hj : v = j
    · subst hj
      by_cases hl : v < (wipeA as vs).length
      · rw [List.getElem?_set_self hl] at e
        cases e
      · rw [List.getElem?_eq_none (by rw [List.length_set]; omega)] at e
        cases e
    · rw [List.getElem?_set_ne hj] at e ⊢
      exact q.2 j w e
/-- one turn -/
def cTurn (g : Ev) (vs : List Nat) (tg : Tg) (ifs : List T) (elt : C) (as : St) : W → AH → Res (Option W) := fun w h2 => (asgT g tg w (wipeA as vs) h2).bind fun σ2 h3 => (evalIf g ifs σ2 h3).bind fun c h4 =>
    if c then (evalE g elt σ2 h4).bind fun y h5 => .ok (some y) h5 else .ok none h4
theorem Res.bind_eq {α β : Type} {r : Res α} {f : α → AH → Res β} {b : β} {h : AH} (e : r.bind f = .ok b h) : ∃ a h1, r = .ok a h1 ∧ f a h1 = .ok b h := by
  cases r with
  | ok a h1 => exact ⟨a, h1, rfl, e⟩
  | exc _ _ _ _ => cases e
  | stuck => cases e
theorem compLoop_held {f : W → AH → Res (Option W)} {held : List (Nat × List W)} {ws : List W} {h : AH} {r : List W} {hf : AH} (e : compLoop f held ws h = .ok r hf) : heldOk held h = true := by
  cases ws with
  | nil =>
    unfold compLoop at e
    split at e
    · assumption
    · cases e
  | cons w ws =>
    unfold compLoop at e
    split at e
    · assumption
    · cases e
theorem compLoop_cons {f : W → AH → Res (Option W)} {held : List (Nat × List W)} {w : W} {ws : List W} {h : AH} {r : List W} {hf : AH} (e : compLoop f held (w :: ws) h = .ok r hf) : ∃ o h1 r2, f w h = .ok o h1 ∧ compLoop f held ws h1 = .ok r2 hf ∧ r = o.toList ++ r2 := by
  unfold compLoop at e
  split at e
  · obtain ⟨o, h1, e1, e⟩ := Res.bind_eq e
    obtain ⟨r2, h2, e2, e⟩ := Res.bind_eq e
    cases e
    exact ⟨o, h1, r2, e1, e2, rfl⟩
  · cases e
theorem compLoop_nil {f : W → AH → Res (Option W)} {held : List (Nat × List W)} {h : AH} {r : List W} {hf : AH} (e : compLoop f held [] h = .ok r hf) : r = [] ∧ hf = h := by
  unfold compLoop at e
  split at e
  · cases e
    exact ⟨rfl, rfl⟩
  · cases e
theorem beside_step {ι ι' : Nat → Addr} {h h' : AH} {H H' : Hp} {D : Addr} {o : HO} (q : Post k ι h H ι' h' H') (hn : ∀ l, l < h.length → ι l ≠ D) (e : H D = some o) : H' D = some o ∧ ∀ l, l < h'.length → ι' l ≠ D := by
  refine ⟨q.fr D o e hn, fun l hl z => ?_⟩
  by_cases h1 : l < h.length
  · rw [q.old l h1] at z
    exact hn l h1 z
  · have := q.new l (by omega) hl
    rw [z, e] at this
    cases this
abbrev Wf : WX := fun _ _ _ _ => False
def tIfs (k : Cst) (g : Ev) (ifs : List T) : TT := tR k Wf relB fun as h => evalIf g ifs as h
theorem lc_A {vs : List Nat} {tg : Tg} {ifs : List T} {elt : C} {as : St} {σ : L2.St} {ι1 : Nat → Addr} {h1 hf : AH} {H1 : Hp} {src : Src} {J : L2.It} {rs : List W} {Q : VK} (hsl : ∀ j ∈ slotsT tg, j ∈ vs) (it : ItA k ι1 h1.length H1 src J) (r0 : R k ι1 h1 H1) (rs0 : RelS k ι1 h1.length H1 as σ)
    (e0 : compLoop (cTurn g vs tg ifs elt as) src.held src.items h1 = .ok rs hf) (hz : rs.length ≤ 1000000)
    (hQ : ∀ ι' H' D us, Post k ι1 h1 H1 ι' hf H' → H1 D = none → (∀ l, l < hf.length → ι' l ≠ D) → H' D = some (.lst us) → RelWs k ι' hf.length H' rs us → Q (.ref D) H') :
    ∀ D, H1 D = none → ∃ W : Nat → Nat → Hp → Prop, (∃ m, W 0 m (L2.upd H1 D (.lst []))) ∧ ∀ i m H, W i m H →
      (J.stop i H ∧ Q (.ref D) H) ∨ (J.go i H ∧ ∃ Nx : Hp → Prop, (∀ H', Nx H' → ∃ m', m' < m ∧ W (i + 1) m' H') ∧ ∀ x H', J.yld i H x H' → tG k g tg x (wipe σ vs) H' fun σ2 H2 => wipe σ2 vs = wipe σ vs ∧ tIfs k g ifs σ2 H2 fun b H3 =>
        if b = true then tE k g Wf elt σ2 H3 fun y H4 => ∃ acc, H4 D = some (.lst acc) ∧ acc.length < sizeLine ∧ Nx (L2.upd H4 D (.lst (acc ++ [y]))) else Nx H3) := by
  intro D hD
  have wk : Walk J src.items.length (fun H => ∃ ι' h', Now k ι1 h1.length H1 src ι' h' H) J.yld :=
    ⟨fun i H hi ⟨ι', h', n⟩ => it.go ι' h' H i n hi, fun H ⟨ι', h', n⟩ => it.stop ι' h' H n, fun i H x H' hi _ y => y⟩
  refine lc_it wk (Qd := fun H => Q (.ref D) H) (fun i H => ∃ ι' h' acc wacc r, Post k ι1 h1 H1 ι' h' H ∧ (∀ l, l < h'.length → ι' l ≠ D) ∧ H D = some (.lst acc) ∧ RelWs k ι' h'.length H wacc acc ∧ compLoop (cTurn g vs tg ifs elt as) src.held (src.items.drop i) h' = .ok r hf ∧ wacc ++ r = rs) ?_ ?_ ?_ ?_
  · refine ⟨ι1, h1, [], [], rs, Post.side r0 hD, fun l hl z => ?_, upd_same, .nil, e0, rfl⟩
    obtain ⟨o, q⟩ := r0.has hl
    rw [z, hD] at q
    cases q
  · rintro i H hi ⟨ι', h', acc, wacc, r, P, hn, e1, rw1, e2, e3⟩
    exact ⟨ι', h', P.keep r0, P.rel, compLoop_held e2⟩
  · rintro i x H H' hi ⟨ι', h', acc, wacc, r, P, hn, e1, rw1, e2, e3⟩ y
    obtain ⟨w, ew, p1, rwx⟩ := it.yld ι' h' H i x H' ⟨P.keep r0, P.rel, compLoop_held e2⟩ hi y
    have ed : src.items.drop i = w :: src.items.drop (i + 1) := by
      rw [List.drop_eq_getElem_cons hi]
      congr 1
      have : src.items[i]? = some src.items[i] := by simp [hi]
      rw [this] at ew
      exact Option.some.inj ew
    rw [ed] at e2
    obtain ⟨o, h5, r2, f1, f2, f3⟩ := compLoop_cons e2
    unfold cTurn at f1
    obtain ⟨as2, h3, a1, f1⟩ := Res.bind_eq f1
    obtain ⟨c, h4, a2, f1⟩ := Res.bind_eq f1
    have rs1 : RelS k ι' h'.length H' as σ := (rs0.keep (P.keep r0)).keep (p1.keep P.rel)
    refine ⟨ι', wipeA as vs, h', w, relS_wipe rs1 vs, p1.rel, rwx, ?_⟩
    rw [a1]
    intro ι2 H2 σ2 p2 rs2
    refine ⟨wipe_same rs2.2.1 hsl rs2.2.2, ι2, as2, h3, rs2.1, p2.rel, ?_⟩
    dsimp only
    rw [a2]
    intro ι3 H3 b p3 eb
    have eb : c = b := eb
    subst eb
    have q3 := (p1.trans P.rel p2).trans P.rel p3
    cases c with
    | false =>
      rw [if_neg Bool.false_ne_true]
      have f1 : Res.ok none h4 = Res.ok o h5 := f1
      cases f1
      obtain ⟨d1, d2⟩ := beside_step q3 hn e1
      exact ⟨ι3, h5, acc, wacc, r2, P.trans r0 q3, d2, d1, RelWs.keep (q3.keep P.rel) _ rw1, f2, by rw [← e3, f3]; rfl⟩
    | true =>
      rw [if_pos rfl]
      rw [if_pos rfl] at f1
      obtain ⟨yw, h6, a3, f1⟩ := Res.bind_eq f1
      cases f1
      refine ⟨ι3, as2, h4, rs2.1.keep (p3.keep p2.rel), p3.rel, ?_⟩
      dsimp only
      rw [a3]
      intro ι4 H4 v p4 rv
      have q4 := q3.trans P.rel p4
      obtain ⟨d1, d2⟩ := beside_step q4 hn e1
      have rw2 := RelWs.keep (q4.keep P.rel) _ rw1
      refine ⟨acc, d1, ?_, ?_⟩
      · rw [← rw1.len, sizeLine_eq]
        have : (wacc ++ r).length = rs.length := by rw [e3]
        rw [f3, List.length_append] at this
        simp at this
        omega
      · obtain ⟨b1, b2⟩ := Post.beside (us := acc ++ [v]) (P.trans r0 q4) hD d2 r0.scrH d1
        exact ⟨ι4, h5, acc ++ [v], wacc ++ [yw], r2, b1, d2, upd_same, RelWs.append (RelWs.keep (b2 _) _ rw2) (RelWs.cons (RelW.keep (b2 _) _ rv) .nil), f2, by rw [← e3, f3]; simp⟩
  · rintro H ⟨ι', h', acc, wacc, r, P, hn, e1, rw1, e2, e3⟩
    rw [List.drop_length] at e2
    obtain ⟨rfl, rfl⟩ := compLoop_nil e2
    rw [List.append_nil] at e3
    subst e3
    exact hQ ι' H D acc P hD hn e1 rw1
theorem noSet_of {i : Expr} {env : Env} (h : noSet i = true) : ∀ x, foldedSetIterable i env x = pure x := fun x => by
  cases i <;> first | rfl | (cases h; done)
theorem compW_eq {itf : Res Src} {asg : W → AH → Res St} {iff : St → AH → Res Bool} {elt : St → AH → Res W} : compW itf asg iff elt = itf.bind fun src h1 => (toNoExc (compLoop (fun w h2 => (asg w h2).bind fun σ2 h3 => (iff σ2 h3).bind fun c h4 =>
    if c then (elt σ2 h4).bind fun y h5 => .ok (some y) h5 else .ok none h4) src.held src.items h1)).bind fun ws h => if szOk ws.length then .ok ws h else .stuck := rfl
theorem WPE.loop {α : Type} {r : Res (List W)} {ι : Nat → Addr} {h : AH} {H : Hp} {σ : L2.St} {rel : Rel (List W) α} {Q : α → Hp → Prop} (w : WPE k Wx σ ((toNoExc r).bind fun ws h => if szOk ws.length then .ok ws h else .stuck) ι h H rel Q) :
    ∃ rs hf, r = .ok rs hf ∧ rs.length ≤ 1000000 ∧ ∀ ι' H' b, Post k ι h H ι' hf H' → rel rs ι' hf.length H' b → Q b H' := by
  cases r with
  | ok rs hf =>
    have w : WPE k Wx σ (if szOk rs.length then .ok rs hf else .stuck) ι h H rel Q := w
    split at w
    · rename_i hz
      exact ⟨rs, hf, rfl, of_decide_eq_true hz, w⟩
    · exact w.elim
  | exc _ _ _ _ => exact w.elim
  | stuck => exact w.elim
/-- the block's context -/
theorem CxO.blk (cx : CxO X k gl g lv fA se) (scope : Scope) (s : Shared) (H : Hp) (C : Addr) (cl : List (Str × Addr)) (fp : List Addr) :
    CxO (X.blk s H scope (compEnvC scope cl C X.env) fp) k gl g lv fA { se with sc := L2.relS scope se.sc, fb := fun x => scope.names.lookup x == some .cell } where
  K := cx.K
  w := cx.w
  quiet := cx.quiet
  calm := cx.calm
  N := cx.N
  sc := by
    show L2.relS scope X.env.scope = L2.relS scope se.sc
    rw [cx.sc]
  fn := fun x h => h
  nd := cx.nd
  room := cx.room
  fx := cx.fx
theorem takes_blk {s : Shared} {H : Hp} {scope : Scope} {env : Env} {fp : List Addr} : Takes (X.blk s H scope env fp) Wf := fun u s' ⟨_, _, _, _, _, _, _, _, _, _, _, _, _, _, _, _, z⟩ => z
/-- what the comprehension's parts are -/
structure LcOk (X : Cx) (k : Cst) (g : Ev) (Wx : WX) (y t i : Expr) (fs : List Expr) (scope : Scope) (own : List (Str × Nat)) (tg : Tg) (it : It) (ifs : List T) (elt : C) : Prop where
  hi : PI X t i (tI k g Wx it)
  ok : BlkOk X.N X.env.scope scope own
  sl : ∀ j ∈ slotsT tg, j ∈ own.map (·.2)
  hg : ∀ (s : Shared) (H : Hp) (C : Addr) (cl : List (Str × Addr)) (fp : List Addr), PG (X.blk s H scope (compEnvC scope cl C X.env) fp) t (tG k g tg)
  ht : ∀ (s : Shared) (H : Hp) (C : Addr) (cl : List (Str × Addr)) (fp : List Addr), PTs (X.blk s H scope (compEnvC scope cl C X.env) fp) fs (tIfs k g ifs)
  he : ∀ (s : Shared) (H : Hp) (C : Addr) (cl : List (Str × Addr)) (fp : List Addr), PE (X.blk s H scope (compEnvC scope cl C X.env) fp) y (tE k g Wf elt)
  ns : noSet i = true
theorem lc_read {y t i : Expr} {fs : List Expr} {scope : Scope} {own : List (Str × Nat)} {tg : Tg} {it : It} {ifs : List T} {elt : C} (lc : LcOk X k g Wx y t i fs scope own tg it ifs elt) {σ : L2.St} {H : Hp} {Q : VK} (w : tL k g Wx (.comp own tg it ifs elt) σ H Q) :
    tLc (tI k g Wx it) (tG k g tg) (tIfs k g ifs) (tE k g Wf elt) (own.map (·.2)) σ H Q := by
  obtain ⟨ι, as, h, rs, r, w⟩ := w
  rw [evalL, compW_eq] at w
  unfold tLc
  refine ⟨ι, as, h, rs, r, (WPE.bind (rel := relJ k) (rel2 := relL k H) r w).imp fun J H1 ⟨src, ι1, h1, p, it, w⟩ => ?_⟩
  obtain ⟨rs', hf, e0, hz, hQ⟩ := WPE.loop w
  refine lc_A lc.sl it p.rel (rs.keep (p.keep r)) e0 hz fun ι' H' D us q hD hn eD rv => ?_
  exact hQ ι' H' _ q ⟨D, us, rfl, Post.none_of r p hD, eD, rv, hn⟩
theorem l_comp {y t i : Expr} {fs : List Expr} {scope : Scope} {own : List (Str × Nat)} {tg : Tg} {it : It} {ifs : List T} {elt : C} {pos : Pos} (cx : CxO X k gl g lv fA se) (lc : LcOk X k g Wx y t i fs scope own tg it ifs elt) : PE X (.ListComp y [⟨t, i, fs, 0⟩] scope pos) (tL k g Wx (.comp own tg it ifs elt)) :=
  PE.of (pe_lc cx.calm cx.nd lc.hi lc.ok lc.hg lc.ht lc.he (noSet_of lc.ns)) fun σ H Q w => lc_read lc w
/-- the list as a value -/
theorem tE_tL {own : List (Str × Nat)} {tg : Tg} {it : It} {ifs : List T} {elt : C} {σ : L2.St} {H : Hp} {Q : VK} (w : tE k g Wx (.comp own tg it ifs elt) σ H Q) : tL k g Wx (.comp own tg it ifs elt) σ H Q := by
  obtain ⟨ι, as, h, rs, r, w⟩ := w
  dsimp only at w
  rw [evalE] at w
  refine ⟨ι, as, h, rs, r, ?_⟩
  rw [evalL]
  revert w
  cases compW (evalI g it as h) (fun w h2 => asgT g tg w (wipeA as (own.map (·.2))) h2) (fun σ2 h3 => evalIf g ifs σ2 h3) (fun σ2 h4 => evalE g elt σ2 h4) with
  | ok ws h1 =>
    intro w ι1 H1 v p e
    obtain ⟨D, us, rfl, hD, eD, rv, hn⟩ := e
    refine w _ _ _ (Post.adopt p hD hn r.scrH eD rv) ?_
    unfold relW RelW
    exact ⟨by simp, by rw [snoc_eq]⟩
  | exc _ _ _ _ => exact fun w => w
  | stuck => exact fun w => w
theorem e_comp {y t i : Expr} {fs : List Expr} {scope : Scope} {own : List (Str × Nat)} {tg : Tg} {it : It} {ifs : List T} {elt : C} {pos : Pos} (cx : CxO X k gl g lv fA se) (lc : LcOk X k g Wx y t i fs scope own tg it ifs elt) : PE X (.ListComp y [⟨t, i, fs, 0⟩] scope pos) (tE k g Wx (.comp own tg it ifs elt)) :=
  PE.of (l_comp cx lc) fun σ H Q w => tE_tL w
theorem e_primc {x : Str} {p : Prim} {e : Expr} {c : C} {px pos : Pos} (cx : CxO X k gl g lv fA se) (go : GOk X gl x .blt) (hx : x = primName p) (hp : isIsi p = false) (he : PE X e (tL k g Wx c)) (hst : noStar e = true) :
    PE X (.Call (.Name x px) [e] [] pos) (tE k g Wx (.primc p c)) := by
  have hm := cx.fx.gbl x go.lk
  have rd : ∀ σ H Q, tE k g Wx (.primc p c) σ H Q → tCB (rPrimL k p) (tCons (tL k g Wx c) tNil) σ H Q := fun σ H Q w => by
    obtain ⟨ι, as, h, rs, r, w⟩ := w
    dsimp only at w
    rw [evalE] at w
    refine ⟨ι, as, h, rs, r, (WPE.bind (rel := relL k H) (rel2 := relW k) r w).imp fun v H1 ⟨ws, ι1, h1, p, e, w⟩ => ?_⟩
    obtain ⟨D, us, rfl, hD, eD, rv, hn⟩ := e
    exact ⟨ι1, h1, ws, us, D, p.rel, rfl, eD, rv, WPV.of w fun c xs ws h' => primL_nx c xs ws h'⟩
  have hc := call_primL (X := X) cx.K cx.calm p
  have hn := go.nm
  have ha : PA X [e] (tCons (tL k g Wx c) tNil) := pa_cons he pa_nil (star_of hst)
  subst hx
  cases p <;> first
    | (cases hp; done)
    | exact PE.of (pe_callB hc go.gi hm (by decide +kernel) ha hn go.db (star_of hst) rfl) rd
    | exact PE.of (pe_callTy hc go.gi hm (by decide +kernel) ha hn go.db (star_of hst) rfl) rd
theorem bmL_extend {x : W} {ws : List W} {h : AH} {σ : L2.St} {ι : Nat → Addr} {H : Hp} {Q : VK} {l : Nat} (w0 : WPE k Wx σ (bmL .extend (.loc l) ws h) ι h H (relW k) Q) : ∃ xs, h[l]? = some (.lst xs) ∧ szOk (xs.length + ws.length) = true ∧
    WPE k Wx σ (.ok .non (h.set l (.lst (xs ++ ws)))) ι h H (relW k) Q := by
  have w0 : WPE k Wx σ (match h[l]? with
    | some (.lst xs) => if szOk (xs.length + ws.length) then .ok .non (h.set l (.lst (xs ++ ws))) else .stuck
    | _ => .stuck) ι h H (relW k) Q := w0
  split at w0
  · rename_i xs e1
    split at w0
    · rename_i hz
      exact ⟨xs, e1, hz, w0⟩
    · exact w0.elim
  · exact w0.elim
/-- l.extend([..]) -/
theorem e_bmcX {o e : Expr} {c c1 : C} {apos pos : Pos} (cx : CxO X k gl g lv fA se) (ho : PE X o (tE k g Wx c)) (he : PE X e (tL k g Wx c1)) (h0 : noSuper o = true) (hst : noStar e = true) (hl : (apos.endLine == pos.line) = true) :
    PE X (.Call (.Attribute o "extend" apos) [e] [] pos) (tE k g Wx (.bmc .extend c c1)) := by
  have hs2 : [e].all noStar = true := by simpa using hst
  have ha : PA X [e] (tCons (tL k g Wx c1) tNil) := pa_cons he pa_nil (star_of hst)
  refine PE.of (pe_bm PySem.F.plainAttrs_list PySem.F.slot_list_extend PySem.F.type_list_extend mt_extend ho ha (base_of h0) (few_of hs2 (by show 1 < 20; decide)) hl (star_of hst) rfl) fun σ H Q w => ?_
  obtain ⟨ι, as, h, rs, r, w⟩ := w
  dsimp only at w
  rw [evalE] at w
  unfold tBM
  refine (nxt (fun _ _ _ => True) kpT rs r trivial w).imp fun x H1 ⟨ι, h, wx, rs, r, _, rx, w⟩ => ?_
  split at w
  · rename_i hb
    obtain ⟨l, xs0, rfl, e2⟩ := bmT_lst hb
    unfold relW RelW at rx
    obtain ⟨hlt, rfl⟩ := rx
    obtain ⟨vs, hv, rv⟩ := r.lst e2
    refine ⟨.inl ⟨rfl, vs, .of hv⟩, ?_⟩
    refine ⟨ι, as, h, rs, r, (WPE.bind (rel := relL k H1) (rel2 := relW k) r w).imp fun v H2 ⟨ws, ι1, h1, p, e, w⟩ => ?_⟩
    obtain ⟨D, us, rfl, hD, eD, rv2, hn⟩ := e
    obtain ⟨xs, e3, hz, w⟩ := bmL_extend (x := .non) w
    have r1 := p.rel
    obtain ⟨vs1, hv1, rv1⟩ := r1.lst e3
    have hlt1 : l < h1.length := Nat.lt_of_lt_of_le hlt p.len
    have ei := p.old l hlt
    refine ⟨ι l, D, vs1, us, rfl, rfl, by rw [← ei]; exact hv1, eD, by rw [← rv1.len, ← rv2.len]; exact sz_ok hz, ?_⟩
    rw [← ei]
    exact w ι1 _ _ (Post.set (ho := .lst (vs1 ++ us)) r1 hlt1 fun H' kp e => ⟨_, e, RelWs.append (RelWs.keep kp _ rv1) (RelWs.keep kp _ rv2)⟩) (by unfold relW RelW; rfl)
  · exact w.elim
end
end AM
/-! Statements. -/
namespace AM
open PySem L2
def WPO (k : Cst) (Wx : WX) (o : Out) (ι : Nat → Addr) (h : AH) (H : Hp) (D : Ends) : Prop := match o with
  | .next as' h' => ∀ ι' H' σ', Post k ι h H ι' h' H' → RelS k ι' h'.length H' as' σ' → D.nx σ' H'
  | .ret w h' => ∀ ι' H' v, Post k ι h H ι' h' H' → RelW k ι' h'.length H' w v → D.rt v H'
  | .brk as' h' => ∀ ι' H' σ', Post k ι h H ι' h' H' → RelS k ι' h'.length H' as' σ' → D.bk σ' H'
  | .cont as' h' => ∀ ι' H' σ', Post k ι h H ι' h' H' → RelS k ι' h'.length H' as' σ' → D.ct σ' H'
  | .exc c xs ws as' h' => ∀ ι' H' d σ', Post k ι h H ι' h' H' → RelS k ι' h'.length H' as' σ' → ExD k ι' h'.length H' d xs ws → Wx (.ref (k.cA c)) d σ' H'
  | .stuck => False
section
variable {X : Cx} {k : Cst} {gl : Gl} {g : Ev} {lv : Nat} {fA : Nat → Addr} {se : SE} {Wx : WX}
variable {o : Out} {ι ι1 : Nat → Addr} {h h1 : AH} {H H1 : Hp} {D D' : Ends} {as : St} {σ : L2.St}
theorem WPO.move (r0 : R k ι h H) (p : Post k ι h H ι1 h1 H1) (w : WPO k Wx o ι h H D) : WPO k Wx o ι1 h1 H1 D := by
  cases o with
  | next as' h' => exact fun ι' H' σ' q e => w ι' H' σ' (p.trans r0 q) e
  | ret w' h' => exact fun ι' H' σ' q e => w ι' H' σ' (p.trans r0 q) e
  | brk as' h' => exact fun ι' H' σ' q e => w ι' H' σ' (p.trans r0 q) e
  | cont as' h' => exact fun ι' H' σ' q e => w ι' H' σ' (p.trans r0 q) e
  | exc c xs ws as' h' => exact fun ι' H' d σ' q e => w ι' H' d σ' (p.trans r0 q) e
  | stuck => exact w
theorem WPO.then {α β : Type} {rel : Rel α β} {r : Res α} {f : α → AH → Out} (r0 : R k ι h H) (rs : RelS k ι h.length H as σ) (w : WPO k Wx (r.then as f) ι h H D) :
    WPE k Wx σ r ι h H rel fun b H1 => ∃ a ι1 h1, Post k ι h H ι1 h1 H1 ∧ rel a ι1 h1.length H1 b ∧ WPO k Wx (f a h1) ι1 h1 H1 D := by
  cases r with
  | ok a h' => exact fun ι' H' b p e => ⟨a, ι', h', p, e, WPO.move r0 p w⟩
  | exc c xs ws h' => exact fun ι' H' d p e => w ι' H' d σ p (rs.keep (p.keep r0)) e
  | stuck => exact w
theorem WPO.seq {f : St → AH → Out} (r0 : R k ι h H) (w : WPO k Wx (o.seq f) ι h H D) :
    WPO k Wx o ι h H { D with nx := fun σ' H' => ∃ ι' as' h', RelS k ι' h'.length H' as' σ' ∧ R k ι' h' H' ∧ WPO k Wx (f as' h') ι' h' H' D } := by
  cases o with
  | next as' h' => exact fun ι' H' σ' p e => ⟨ι', as', h', e, p.rel, WPO.move r0 p w⟩
  | ret w' h' => exact w
  | brk as' h' => exact w
  | cont as' h' => exact w
  | exc c xs ws as' h' => exact w
  | stuck => exact w
/-! ### readings -/
def tO (k : Cst) (Wx : WX) (f : St → AH → Out) : TS := fun D σ H => ∃ ι as h, RelS k ι h.length H as σ ∧ R k ι h H ∧ WPO k Wx (f as h) ι h H D
def tS (k : Cst) (g : Ev) (Wx : WX) (s : S) : TS := tO k Wx fun as h => evalS g s as h
def tSs (k : Cst) (g : Ev) (Wx : WX) (ss : List S) : TS := tO k Wx fun as h => evalSs g ss as h
/-- an expression, then the rest -/
theorem nxtO {α β : Type} {rel : Rel α β} {f : St → AH → Res α} {f2 : α → AH → Out} (rs : RelS k ι h.length H as σ) (r : R k ι h H) (w : WPO k Wx ((f as h).then as f2) ι h H D) :
    tR k Wx rel f σ H fun b H1 => ∃ ι h a, RelS k ι h.length H1 as σ ∧ R k ι h H1 ∧ rel a ι h.length H1 b ∧ WPO k Wx (f2 a h) ι h H1 D :=
  ⟨ι, as, h, rs, r, (WPO.then (rel := rel) r rs w).imp fun b H1 ⟨a, ι1, h1, p, ra, w⟩ => ⟨ι1, h1, a, rs.keep (p.keep r), p.rel, ra, w⟩⟩
theorem WPO.nextS (r : R k ι h H) (w : WPO k Wx (.next as h) ι h H D) (rs : RelS k ι h.length H as σ) : D.nx σ H := w ι H σ (Post.refl r) rs
/-- the context of a def's body, and of a try's suite in it -/
structure CxS (X : Cx) (k : Cst) (gl : Gl) (g : Ev) (lv : Nat) (fA : Nat → Addr) (se : SE) (W : WX) : Prop extends CxO X k gl g lv fA se where
  fun_ : X.env.scope.kind = .function
  stk : X.stack = X.env :: X.outer
  frm : X.env.frame = some X.env.locals
  exn : X.ex = []
  own : PassesOwn (model X.prog X.w) X.A X.env X.xe
  tk : Takes X W
variable {st : Stmt} {pos : Pos}
theorem s_pass : PS X (.Pass pos) (tS k g Wx .pass) := PS.of ps_pass fun D σ H ⟨ι, as, h, rs, r, w⟩ => by
  dsimp only at w
  rw [evalS] at w
  exact w.nextS r rs
theorem s_brk : PS X (.Break pos) (tS k g Wx .brk) := PS.of ps_break fun D σ H ⟨ι, as, h, rs, r, w⟩ => by
  dsimp only at w
  rw [evalS] at w
  exact w ι H σ (Post.refl r) rs
theorem s_cont : PS X (.Continue pos) (tS k g Wx .cont) := PS.of ps_continue fun D σ H ⟨ι, as, h, rs, r, w⟩ => by
  dsimp only at w
  rw [evalS] at w
  exact w ι H σ (Post.refl r) rs
theorem s_never : PS X st (tS k g Wx .never) := PS.of ps_never fun D σ H ⟨ι, as, h, rs, r, w⟩ => by
  dsimp only at w
  rw [evalS] at w
  exact w
theorem s_retn : PS X (.Return none pos) (tS k g Wx .retn) := PS.of ps_retN fun D σ H ⟨ι, as, h, rs, r, w⟩ => by
  dsimp only at w
  rw [evalS] at w
  exact w ι H .non (Post.refl r) (by unfold RelW; rfl)
theorem s_ret {e : Expr} {c : C} (he : PE X e (tE k g Wx c)) : PS X (.Return (some e) pos) (tS k g Wx (.ret c)) := PS.of (ps_ret he) fun D σ H ⟨ι, as, h, rs, r, w⟩ => by
  dsimp only at w
  rw [evalS] at w
  exact (nxtO (rel := relW k) rs r w).imp fun v H1 ⟨ι, h, a, rs, r, ra, w⟩ => w ι H1 v (Post.refl r) ra
theorem noComp_of {e : Expr} {t : Option Expr} {n : Nat} {env : Env} (h : noComp e = true) : swapsWith e t n env = pure false := by
  cases e <;> first | rfl | (cases h; done)
theorem s_ex {e : Expr} {c : C} (he : PE X e (tE k g Wx c)) (hn : noComp e = true) : PS X (.Expr e pos) (tS k g Wx (.ex c)) := PS.of (ps_expr he (noComp_of hn)) fun D σ H ⟨ι, as, h, rs, r, w⟩ => by
  dsimp only at w
  rw [evalS] at w
  exact (nxtO (rel := relW k) rs r w).imp fun v H1 ⟨ι, h, a, rs, r, ra, w⟩ => w.nextS r rs
theorem s_iff {c : Expr} {a b : List Stmt} {t : T} {x y : List S} (hc : PT X c (tT k g Wx t)) (ha : PSs X a (tSs k g Wx x)) (hb : PSs X b (tSs k g Wx y)) : PS X (.If c a b pos) (tS k g Wx (.iff t x y)) :=
  PS.of (ps_if hc ha hb) fun D σ H ⟨ι, as, h, rs, r, w⟩ => by
    dsimp only at w
    rw [evalS] at w
    unfold tIfS
    refine (nxtO (rel := relB) rs r w).imp fun v H1 ⟨ι, h, a, rs, r, ra, w⟩ => ?_
    have ra : a = v := ra
    subst ra
    cases a with
    | true => exact ⟨ι, as, h, rs, r, w⟩
    | false => exact ⟨ι, as, h, rs, r, w⟩
theorem ss_nil : PSs X [] (tSs k g Wx []) := PSs.of pss_nil fun D σ H ⟨ι, as, h, rs, r, w⟩ => by
  dsimp only at w
  rw [evalSs] at w
  exact w.nextS r rs
theorem ss_cons {sts : List Stmt} {s : S} {ss : List S} (h1 : PS X st (tS k g Wx s)) (h2 : PSs X sts (tSs k g Wx ss)) : PSs X (st :: sts) (tSs k g Wx (s :: ss)) := PSs.of (pss_cons h1 h2) fun D σ H ⟨ι, as, h, rs, r, w⟩ => by
  dsimp only at w
  rw [evalSs] at w
  refine ⟨ι, as, h, rs, r, ?_⟩
  exact WPO.seq r w
/-! ### assignments -/
theorem asg_read {t : Tg} {w : W} {v : V} (r : R k ι h H) (rs : RelS k ι h.length H as σ) (rv : RelW k ι h.length H w v) (w0 : WPO k Wx ((toNoExc (asgT g t w as h)).then as fun σ1 h2 => .next σ1 h2) ι h H D) : tG k g t v σ H D.nx := by
  refine ⟨ι, as, h, w, rs, r, rv, ?_⟩
  revert w0
  cases asgT g t w as h with
  | ok as' h' => exact fun w0 ι' H' σ' p e => w0 ι' H' σ' p e.1
  | exc _ _ _ _ => exact fun w0 => w0
  | stuck => exact fun w0 => w0
theorem s_asg {tg e : Expr} {t : Tg} {c : C} (he : PE X e (tE k g Wx c)) (hg : PG X tg (tG k g t)) (hst : noStar tg = true) (hs : swapsWith e (some tg) pos.line X.env = pure false) (hw : swappedStores [tg] e X.env = pure none) : PS X (.Assign [tg] e pos) (tS k g Wx (.asg t c)) :=
  PS.of (ps_asg he hg hs hw (by rw [asg_of hst]; rfl)) fun D σ H ⟨ι, as, h, rs, r, w⟩ => by
    dsimp only at w
    rw [evalS] at w
    unfold tAsg
    exact (nxtO (rel := relW k) rs r w).imp fun v H1 ⟨ι, h, a, rs, r, ra, w⟩ => asg_read r rs ra w
theorem aug_nx {op : Bop} {x y z : W} (e : augW op x y = some z) : ∃ i j, x = .int i ∧ y = .int j ∧ ((op = .add ∧ z = .int (i + j)) ∨ (op = .sub ∧ z = .int (i - j))) := by
  unfold augW at e
  split at e
  · cases e
    exact ⟨_, _, rfl, rfl, .inl ⟨rfl, rfl⟩⟩
  · cases e
    exact ⟨_, _, rfl, rfl, .inr ⟨rfl, rfl⟩⟩
  · cases e
theorem s_aug {x : Str} {i : Nat} {e : Expr} {c : C} {op : Bop} {pos' : Pos} (cx : CxO X k gl g lv fA se) (ok : okSt se x i = true) (hop : op = .add ∨ op = .sub) (he : PE X e (tE k g Wx c)) : PS X (.AugAssign (.Name x pos') (bopOf op) e pos) (tS k g Wx (.aug (.nm i) op c)) := by
  obtain ⟨h1, h2, h3⟩ := loc_of cx ok
  have rd : ∀ (f : Int → Int → Int), (∀ x y z, augW op x y = some z → ∃ i j, x = .int i ∧ y = .int j ∧ z = .int (f i j)) → ∀ D σ H, tS k g Wx (.aug (.nm i) op c) D σ H → tAug i (tE k g Wx c) (ipI f) D σ H := fun f hf D σ H ⟨ι, as, h, rs, r, w⟩ => by
    dsimp only at w
    rw [evalS] at w
    split at w
    · rename_i x0 ex
      obtain ⟨v, e1, e2⟩ := rs.2 i x0 ex
      refine ⟨v, e1, ι, as, h, rs, r, (WPO.then (rel := relW k) r rs w).imp fun y H1 ⟨a, ι1, h1, p, ra, w⟩ => ?_⟩
      split at w
      · rename_i z ez
        obtain ⟨i', j', rfl, rfl, rfl⟩ := hf _ _ _ ez
        unfold RelW at e2
        unfold relW RelW at ra
        subst e2 ra
        exact ⟨i', j', rfl, rfl, w.nextS p.rel ((rs.keep (p.keep r)).set (by unfold RelW; rfl))⟩
      · exact w.elim
    · exact w.elim
  rcases hop with rfl | rfl
  · refine PS.of (ps_aug cx.nd h1 h2 he ip_add h3) (rd _ fun x y z e => ?_)
    obtain ⟨i', j', e1, e2, ⟨_, e3⟩ | ⟨e3, _⟩⟩ := aug_nx e
    · exact ⟨i', j', e1, e2, e3⟩
    · cases e3
  · refine PS.of (ps_aug cx.nd h1 h2 he ip_sub h3) (rd _ fun x y z e => ?_)
    obtain ⟨i', j', e1, e2, ⟨e3, _⟩ | ⟨_, e3⟩⟩ := aug_nx e
    · cases e3
    · exact ⟨i', j', e1, e2, e3⟩
/-! ### loops -/
theorem WPO.loop {K : St → AH → Out} (r0 : R k ι h H) (w : WPO k Wx (match o with
    | .next σ1 h1 => K σ1 h1
    | .cont σ1 h1 => K σ1 h1
    | .brk σ1 h1 => .next σ1 h1
    | o => o) ι h H D) (N : L2.St → Hp → Prop) (hN : ∀ ι' as' h' σ' H', Post k ι h H ι' h' H' → RelS k ι' h'.length H' as' σ' → WPO k Wx (K as' h') ι' h' H' D → N σ' H') : WPO k Wx o ι h H { D with nx := N, ct := N, bk := D.nx } := by
  cases o with
  | next as' h' => exact fun ι' H' σ' p e => hN ι' as' h' σ' H' p e (WPO.move r0 p w)
  | cont as' h' => exact fun ι' H' σ' p e => hN ι' as' h' σ' H' p e (WPO.move r0 p w)
  | brk as' h' => exact w
  | ret w' h' => exact w
  | exc c xs ws as' h' => exact w
  | stuck => exact w
theorem s_whl {c : Expr} {body : List Stmt} {t : T} {b : List S} (cs : CxS X k gl g lv fA se Wx) (hc : PT X c (tT k g Wx t)) (hb : PSs X body (tSs k g Wx b)) : PS X (.While c body [] pos) (tS k g Wx (.whl t b)) :=
  PS.of (ps_while cs.own hc hb) fun D σ H ⟨ι, as, h, rs, r, w⟩ => by
    dsimp only at w
    rw [evalS] at w
    refine ⟨fun m σ H => ∃ ι as h, RelS k ι h.length H as σ ∧ R k ι h H ∧ WPO k Wx (whlLoop (fun σ1 h1 => evalT g t σ1 h1) (fun σ1 h1 => evalSs g b σ1 h1) m as h) ι h H D, ⟨g.gc.lim, ι, as, h, rs, r, w⟩, ?_⟩
    rintro m σ H ⟨ι, as, h, rs, r, w⟩
    cases m with
    | zero =>
      unfold whlLoop at w
      exact w.elim
    | succ m =>
      unfold whlLoop at w
      refine (nxtO (rel := relB) rs r w).imp fun v H1 ⟨ι, h, a, rs, r, ra, w⟩ => ?_
      have ra : a = v := ra
      subst ra
      cases a with
      | true =>
        rw [if_pos rfl] at w ⊢
        refine ⟨fun σ H => ∃ ι as h, RelS k ι h.length H as σ ∧ R k ι h H ∧ WPO k Wx (whlLoop (fun σ1 h1 => evalT g t σ1 h1) (fun σ1 h1 => evalSs g b σ1 h1) m as h) ι h H D, fun σ' H' n => ⟨m, Nat.lt_succ_self _, n⟩, ι, as, h, rs, r, ?_⟩
        exact WPO.loop r w _ fun ι' as' h' σ' H' p e w' => ⟨ι', as', h', e, p.rel, w'⟩
      | false =>
        rw [if_neg Bool.false_ne_true] at w ⊢
        exact w.nextS r rs
theorem forLoop_held {f : W → St → AH → Out} {held : List (Nat × List W)} {ws : List W} (w : WPO k Wx (forLoop f held ws as h) ι h H D) : heldOk held h = true := by
  cases ws with
  | nil =>
    unfold forLoop at w
    split at w
    · assumption
    · exact w.elim
  | cons a ws =>
    unfold forLoop at w
    split at w
    · assumption
    · exact w.elim
theorem Keep.trans {n n1 n2 : Nat} {ι2 : Nat → Addr} {H2 : Hp} (a : Keep k ι n H ι1 n1 H1) (b : Keep k ι1 n1 H1 ι2 n2 H2) : Keep k ι n H ι2 n2 H2 :=
  ⟨Nat.le_trans a.len b.len, fun l hl => (b.old l (Nat.lt_of_lt_of_le hl a.len)).trans (a.old l hl), fun x vs e => b.tup x vs (a.tup x vs e), fun x c d e => b.ext x c d (a.ext x c d e)⟩
theorem s_for {tg it : Expr} {body : List Stmt} {t : Tg} {i : It} {b : List S} (cs : CxS X k gl g lv fA se Wx) (hi : PI X tg it (tI k g Wx i)) (hg : PG X tg (tG k g t)) (hb : PSs X body (tSs k g Wx b)) (hs : noSet it = true) : PS X (.For tg it body [] pos) (tS k g Wx (.for_ t i b)) :=
  PS.of (ps_for cs.own cs.calm hi hg hb (noSet_of hs)) fun D σ H ⟨ι, as, h, rs, r, w⟩ => by
    dsimp only at w
    rw [evalS] at w
    unfold tFor
    refine ⟨ι, as, h, rs, r, (WPO.then (rel := relJ k) r rs w).imp fun J H1 ⟨src, ι1, h1, p, it, w⟩ => ?_⟩
    have wk : Walk J src.items.length (fun H => ∃ ι' h', Now k ι1 h1.length H1 src ι' h' H) J.yld :=
      ⟨fun i H hi ⟨ι', h', n⟩ => it.go ι' h' H i n hi, fun H ⟨ι', h', n⟩ => it.stop ι' h' H n, fun i H x H' hi _ y => y⟩
    refine for_it wk (fun i σ H => ∃ ι as h, Keep k ι1 h1.length H1 ι h.length H ∧ RelS k ι h.length H as σ ∧ R k ι h H ∧
      WPO k Wx (forLoop (fun w σ1 h2 => (toNoExc (asgT g t w σ1 h2)).then σ1 fun σ2 h3 => evalSs g b σ2 h3) src.held (src.items.drop i) as h) ι h H D) ⟨ι1, as, h1, Keep.refl, rs.keep (p.keep r), p.rel, w⟩ ?_ ?_ ?_
    · rintro i σ H hi ⟨ι, as, h, kp, rs, r, w⟩
      exact ⟨ι, h, kp, r, forLoop_held w⟩
    · rintro i x σ H H' hi ⟨ι, as, h, kp, rs, r, w⟩ y
      obtain ⟨wx, ew, p1, rwx⟩ := it.yld ι h H i x H' ⟨kp, r, forLoop_held w⟩ hi y
      have ed : src.items.drop i = wx :: src.items.drop (i + 1) := by
        rw [List.drop_eq_getElem_cons hi]
        congr 1
        have : src.items[i]? = some src.items[i] := by simp [hi]
        rw [this] at ew
        exact Option.some.inj ew
      rw [ed] at w
      unfold forLoop at w
      split at w
      · have w2 := WPO.loop p1.rel (WPO.move r p1 w) (fun σ H => ∃ ι as h, Keep k ι1 h1.length H1 ι h.length H ∧ RelS k ι h.length H as σ ∧ R k ι h H ∧
          WPO k Wx (forLoop (fun w σ1 h2 => (toNoExc (asgT g t w σ1 h2)).then σ1 fun σ2 h3 => evalSs g b σ2 h3) src.held (src.items.drop (i + 1)) as h) ι h H D)
          fun ι' as' h' σ' H2 p e w' => ⟨ι', as', h', (kp.trans (p1.keep r)).trans (p.keep p1.rel), e, p.rel, w'⟩
        refine ⟨ι, as, h, wx, rs.keep (p1.keep r), p1.rel, rwx, ?_⟩
        revert w2
        cases asgT g t wx as h with
        | ok as' h' => exact fun w2 ι' H2 σ' p e => ⟨ι', as', h', e.1, p.rel, WPO.move p1.rel p w2⟩
        | exc _ _ _ _ => exact fun w2 => w2
        | stuck => exact fun w2 => w2
      · exact w.elim
    · rintro σ H ⟨ι, as, h, kp, rs, r, w⟩
      rw [List.drop_length] at w
      unfold forLoop at w
      split at w
      · exact w.nextS r rs
      · exact w.elim
end
end AM
/-! raise; try .. except X as e: y = e; several names at once. -/
namespace AM
open PySem PySem.Spec PyProof.Rows L2
section
variable {X : Cx} {k : Cst} {gl : Gl} {g : Ev} {lv : Nat} {fA : Nat → Addr} {se : SE} {Wx : WX} {pos : Pos}
theorem s_raise {x m : Str} {c j : Nat} {p p2 p3 : Pos} (cs : CxS X k gl g lv fA se Wx) (go : GOk X gl x (.cls c)) : PS X (.Raise (some (.Call (.Name x p) [.Constant (.str m) j p2] [] p3)) none pos) (tS k g Wx (.raise c [] [])) := by
  by_cases hc : c ∈ g.gc.rais
  · obtain ⟨e1, e2, e3⟩ := cs.fx.exr c hc
    obtain ⟨g1, g2⟩ := cs.fx.gcl x c go.lk
    refine PS.of (ps_raise cs.calm cs.tk (pmk_own (C := k.cA c) PySem.F.excBase_ValueError (by rw [cs.K]; exact e1) g1 (by rw [cs.K]; exact g2) (raises_own (by rw [cs.K]; exact e2) (by rw [cs.K]; exact e3)) go.gi go.db)) fun D σ H ⟨ι, as, h, rs, r, w⟩ => ?_
    dsimp only at w
    rw [evalS, evalEs] at w
    have w : WPO k Wx (if (W.flats [] && decide (([] : List Str).length = ([] : List W).length) && decide (c ∈ g.gc.rais)) = true then .exc c [] [] as h else .stuck) ι h H D := w
    split at w
    · exact w ι H none σ (Post.refl r) rs (.inl ⟨rfl, rfl, rfl⟩)
    · exact w.elim
  · refine PS.of ps_never fun D σ H ⟨ι, as, h, rs, r, w⟩ => ?_
    dsimp only at w
    rw [evalS, evalEs] at w
    have w : WPO k Wx (if (W.flats [] && decide (([] : List Str).length = ([] : List W).length) && decide (c ∈ g.gc.rais)) = true then .exc c [] [] as h else .stuck) ι h H D := w
    split at w
    · rename_i z
      simp only [Bool.and_eq_true, decide_eq_true_eq] at z
      exact absurd z.2 hc
    · exact w.elim
/-! ### a caught exception is kept -/
/-- an object of an exception, seen from now on -/
theorem _root_.L2.Inv.track {pins : List (Addr × Obj)} {σ : L2.St} {H : Hp} {s : Shared} {a : Addr} {oe : Obj} {vs : Array Value} (I : L2.Inv X ((a, oe) :: pins) σ H s) (hd : oe.data = .fields vs) (hnew : X.s_0.heap.get? a = none) (hp : ∀ p ∈ X.pn ++ pins, p.1 ≠ a) :
    L2.Inv X pins σ (L2.upd H a (ExC oe.cls oe.dict a)) s := by
  obtain ⟨ea, na, nL, nF, nc⟩ := I.pin (a, oe) (List.mem_append_right _ List.mem_cons_self)
  have ea : s.heap.get? a = some oe := ea
  have na : H a = none := na
  have nex : ∀ b, H b ≠ none → b ≠ a := fun b hb z => hb (by rw [z]; exact na)
  refine ⟨I.ok, I.os, I.bare, ⟨I.base.keep, I.base.slot, fun b o e n hx => ?_, I.base.there, fun b xs e => ?_, fun b o u e => ?_, fun b ps e => ?_⟩, I.loc, I.cell, ?_, fun x c e => ?_, fun p hm => ?_, fun b o e => ?_, I.len⟩
  · rw [upd_ne (fun z => by rw [z, hnew] at e; cases e)]
    exact I.base.free b o e n hx
  · have q := I.base.tups b xs e
    rw [upd_ne (ne_of_none q na)]
    exact q
  · have q := I.base.frzs b o u e
    rw [upd_ne (ne_of_none q na)]
    exact q
  · obtain ⟨m, q⟩ := I.base.tbls b ps e
    exact ⟨m, by rw [upd_ne (ne_of_none q na)]; exact q⟩
  · rw [upd_ne (Ne.symm nL)]
    exact I.free
  · obtain ⟨v, o, ho, hd'⟩ := I.cell x c e
    rw [upd_ne (fun z => ?_)]
    · exact I.freeC x c e
    · rw [z, ea] at ho
      cases ho
      rw [hd] at hd'
      cases hd'
  · obtain ⟨q1, q2, q3, q4, q5⟩ := I.pin p (by
      rcases List.mem_append.mp hm with z | z
      · exact List.mem_append_left _ z
      · exact List.mem_append_right _ (List.mem_cons_of_mem _ z))
    exact ⟨q1, by rw [upd_ne (hp p hm)]; exact q2, q3, q4, q5⟩
  · by_cases hb : b = a
    · subst hb
      rw [upd_same] at e
      cases e
      exact ⟨⟨oe, ea, rfl, rfl, vs, hd⟩, ⟨oe, ea⟩, fun h1 h2 ⟨o', z1, z2⟩ k => ⟨o', k o' z1, z2⟩⟩
    · rw [upd_ne hb] at e
      exact (I.hok b o e).stay (fun c u _ q => q) (fun c q => by rw [upd_ne (ne_of_none q na)]; exact q) fun c xs q => by rw [upd_ne (ne_of_none q na)]; exact q
/-- what the clause 'except x as n: y = n' wishes of an exception of the body -/
def wKeep (K : PySem.W.Frag) (c : Value) (i j : Nat) (Wout : WX) (D : Ends) : WX := fun cls d σ H =>
  ∃ b, PySem.W.exmOne K cls c = some b ∧ (b = true → ∀ a, H a = none → D.nx ((σ.set j (some (.ref a))).set i none) (L2.upd H a (ExC cls d a))) ∧ (b = false → Wout cls d σ H)
theorem ps_try_keep {x n yn : Str} {c : Value} {i j : Nat} {body : List Stmt} {np yp ep sp pos' : Pos} {tb : WX → TS} {Wout : WX} (hs : X.stack = X.env :: X.outer) (hf : X.env.frame = some X.env.locals) (hex : X.ex = []) (hN : X.N.Nodup) (hi : X.N[i]? = some n) (hln : X.env.kindOf n = some .local)
    (hj : X.N[j]? = some yn) (hly : X.env.scope.names.lookup yn = some .local) (hij : j ≠ i) (hdb : (n == ("__debug__" : Str)) = false) (hcd : (n == ("__classdict__" : Str)) = false) (hc : Names X x c) (tk : Takes X Wout)
    (hb : ∀ (W : WX) (pn : List (Addr × Obj)) (xe : Value → Shared → Prop), Takes (X.tr pn xe) W → PassesOwn (model X.prog X.w) X.A X.env xe → PSs (X.tr pn xe) body (tb W)) :
    PS X (.Try body [.ExceptHandler (some (.Name x np)) (some n) [.Assign [.Name yn yp] (.Name n ep) sp] pos'] [] [] pos) (fun D σ H => tb (wKeep X.K c i j Wout D) D σ H) := by
  refine ⟨fun pins s σ H D I h => ?_⟩
  have ok := I.ok
  have hfr : X.A.frames = some (X.env :: X.outer) := by rw [ok.frames, hs]
  have hloc : L2.Loc X.env.scope n := .inl hln
  refine wpAny_Try_except ?_
  refine wpAny_mono ((hb (wKeep X.K c i j Wout D) (X.pn ++ pins) (fun e s₁ => wpAny (model X.prog X.w) X.A (noteFrame e X.env) (fun _ s₂ => wpAny (model X.prog X.w) X.A (setFlight e none) (fun _ s₃ =>
    wpAny (model X.prog X.w) X.A (handleBy e X.env [.ExceptHandler (some (.Name x np)) (some n) [.Assign [.Name yn yp] (.Name n ep) sp] pos']) (SP X pins D) X.xe s₃) X.xe s₂) X.xe s₁) (fun u s' xx => ?_) PassesOwn.looking).run [] s σ H D (I.toTry _) h) (fun f s1 hsp => ?_) (fun e s1 he => he)
  · -- the catch
    obtain ⟨a, B, sI, pins', σ', H', cls, d, rfl, J', nb, up, sky, na, os, ag, b, hb1, hyes, hno⟩ := xx
    have J : L2.Inv X pins σ' H' sI := J'.ofTry ok
    have sky' : Sky B (X.env :: X.outer) a (Zc cls d) X.env.locals s'.heap := by rw [← hs]; exact sky
    show wpAny (model X.prog X.w) X.A (noteFrame (.ref a) X.env) _ _ _
    refine Sky.land Zc.steady hfr hf sky' fun h3 fl3 up3 => ?_
    have J3 : L2.Inv X pins σ' H' { s' with heap := h3 } := J.landed nb fl3.1 (up.trans up3) os ag
    obtain ⟨oe3, vs3, he3, hz3, hd3⟩ := fl3.there
    have notFr : ∀ {h : Heap} {o : Obj} {vs : Array Value}, h.FunFrames B (X.env :: X.outer) → h.get? a = some o → o.data = .fields vs → a ∉ frs (X.env :: X.outer) := fun {h o vs} ff e dd hm => by
      obtain ⟨_, o', e', hnf⟩ := ff.mem hm
      rw [e] at e'; cases e'
      exact hnf _ dd
    have nfr := notFr fl3.2.2.1 he3 hd3
    have nL : a ≠ X.env.locals := fun z => nfr (List.mem_filterMap.mpr ⟨X.env, List.mem_cons_self, by rw [hf, z]⟩)
    have nF : a ∉ X.fs := fun hm => by
      obtain ⟨e, he, q⟩ := List.mem_filterMap.mp hm
      exact nfr (List.mem_filterMap.mpr ⟨e, List.mem_cons_of_mem _ he, q⟩)
    have noI : ∀ o, sI.heap.get? a = some o → False := fun o e => by
      have z := nb a o e (by rw [hs]; exact nfr)
      have z2 : B.get? a = none := fl3.2.1
      rw [z2] at z
      cases z
    have hnew : X.s_0.heap.get? a = none := by
      cases e : X.s_0.heap.get? a with
      | none => rfl
      | some o =>
        obtain ⟨o', q⟩ := J.base.there a o e (by rw [hex]; exact fun z => nomatch z)
        exact (noI o' q).elim
    have hpn : ∀ p ∈ X.pn ++ pins, p.1 ≠ a := fun p hp z => by
      have q := (J.pin p hp).1
      rw [z] at q
      exact noI _ q
    have S3 := J3.suite he3 hd3 na nL nF
    refine wpAny_handleBy_cons (codeAny_handlers_test ?_) (by intro q; cases q)
    have LT : PySem.W.Looks (model X.prog X.w) h3 (typeOf (.ref a)) cls := fun A Q E s k q => wpAny_typeOf_ref (k _ _ he3) (by rw [hz3.1]; exact q)
    have LM := PySem.W.exm_one (M := model X.prog X.w) (J3.kIn) LT hb1
    have test : ∀ {Q : Value → Shared → Prop} {E : Value → Shared → Prop}, Q c { s' with heap := h3 } → wpAny (model X.prog X.w) (X.A.mark (some (.ref a))) (eval (.Name x np) X.env) Q E { s' with heap := h3 } := fun {Q E} q => by
      obtain ⟨hg, hdbg, hm | ⟨hm, hv, hnn⟩⟩ := hc
      · exact ld_glob (X := X.suite a ((a, oe3) :: (X.pn ++ pins))) S3 hg hm q hdbg
      · exact ld_blt (X := X.suite a ((a, oe3) :: (X.pn ++ pins))) S3 hg hm hv q hnn hdbg
    refine test (LM.here ?_)
    cases b with
    | true =>
      refine codeAny_handlers_suite_as ?_
      refine HandSPX.lands_againZ fl3 fun h4 fl4 up4 => ?_
      have J4 : L2.Inv X pins σ' H' { s' with heap := h4 } := J.landed nb fl4.1 ((up.trans up3).trans up4) os ag
      obtain ⟨oe4, vs4, he4, hz4, hd4⟩ := fl4.there
      have S4 := J4.suite he4 hd4 na nL nF
      refine store_ok (X := X.suite a ((a, oe4) :: (X.pn ++ pins))) (v := .ref a) S4 hN hi hloc rfl (fun s5 S5 => ?_) (.inr hln)
      have su : PSs (X.suite a ((a, oe4) :: (X.pn ++ pins))) [.Assign [.Name yn yp] (.Name n ep) sp] (tAsg (tVar i) (gName j)) :=
        pss_one (ps_set hN hj (.inl hly) (pe_var hi (.inl hln) hdb hcd) rfl (.inr hly))
      have hil : i < σ'.length := by
        rw [J.len]
        exact (List.getElem?_eq_some_iff.mp hi).1
      refine wpAny_mono (su.run [] s5 _ H' { nx := fun σ6 H6 => σ6 = (σ'.set i (some (.ref a))).set j (some (.ref a)) ∧ H6 = H', rt := fun _ _ => False } S5 ⟨.ref a, by rw [List.getElem?_set_self hil], rfl, rfl⟩) (fun f s6 hsp => ?_) (fun _ _ z => False.elim z)
      cases f with
      | next =>
        obtain ⟨σ6, H6, S6, rfl, rfl⟩ := hsp
        have J6 : L2.Inv X ((a, oe4) :: pins) ((σ'.set i (some (.ref a))).set j (some (.ref a))) H6 s6 :=
          ⟨ok, S6.os, S6.bare, S6.base, S6.loc, S6.cell, S6.free, S6.freeC, fun p hp => S6.pin p (List.mem_append_left _ (by
            rcases List.mem_append.mp hp with z | z
            · exact List.mem_cons_of_mem _ (List.mem_append_left _ z)
            · rcases List.mem_cons.mp z with z | z
              · rw [z]; exact List.mem_cons_self
              · exact List.mem_cons_of_mem _ (List.mem_append_right _ z))), S6.hok, S6.len⟩
        refine gone_ok J6 hN hi hln fun s7 J7 => ?_
        have J8 := J7.track hd4 hnew hpn
        rw [hz4.1, hz4.2] at J8
        refine ⟨_, _, J8, ?_⟩
        have e : (((σ'.set i (some (.ref a))).set j (some (.ref a))).set i none : L2.St) = (σ'.set j (some (.ref a))).set i none := by
          rw [List.set_comm _ _ (Ne.symm hij), List.set_set]
        rw [e]
        exact hyes rfl a na
      | brk =>
        obtain ⟨σ6, H6, S6, q6⟩ := hsp
        exact q6.elim
      | cont =>
        obtain ⟨σ6, H6, S6, q6⟩ := hsp
        exact q6.elim
      | ret u =>
        obtain ⟨v6, σ6, H6, S6, r6, q6⟩ := hsp
        exact q6.elim
    | false =>
      show wpAny _ X.A (handleBy (.ref a) X.env []) _ _ _
      refine wpAny_handleBy_nil ?_
      obtain ⟨k1, k2, k3, oe, vs, T, oT, ts', he, hz, hd, h1, hr⟩ := id fl3
      unfold PySem.passOn
      refine wpAny_bind (wpAny_field he hd h1 ?_)
      rw [if_neg (show ¬ ((Value.ref T == Value.none) = true) from by simp)]
      have fin : wpAny (model X.prog X.w) X.A (setFlight (.ref a) X.env.frame) (fun _ s4 => wpAny (model X.prog X.w) X.A (throw (.ref a) : Sem Flow) (SP X pins D) X.xe s4) X.xe { s' with heap := h3 } := by
        rw [hf]
        refine HandSPX.setFlight_upZ fl3 fun h4 hh4 up4 => wpAny_throw (tk _ _ ?_)
        exact ⟨a, B, sI, pins, σ', H', cls, d, rfl, J, nb, (up.trans up3).trans up4, .inr (.inr (by rw [hs]; exact hh4)), na, os, ag, hno rfl⟩
      first
        | exact wpAny_bind (wpAny_pure (wpAny_bind fin))
        | exact wpAny_bind fin
  · cases f with
    | next =>
      obtain ⟨σ', H', J', q⟩ := hsp
      exact wpAny_execs_nil ⟨σ', H', J'.ofTry ok, q⟩
    | brk =>
      obtain ⟨σ', H', J', q⟩ := hsp
      exact ⟨σ', H', J'.ofTry ok, q⟩
    | cont =>
      obtain ⟨σ', H', J', q⟩ := hsp
      exact ⟨σ', H', J'.ofTry ok, q⟩
    | ret u =>
      obtain ⟨v, σ', H', J', r, q⟩ := hsp
      exact ⟨v, σ', H', J'.ofTry ok, r, q⟩
theorem CxS.toTr {W : WX} {pn : List (Addr × Obj)} {xe : Value → Shared → Prop} (cs : CxS X k gl g lv fA se Wx) (tk : Takes (X.tr pn xe) W) (own : PassesOwn (model X.prog X.w) X.A X.env xe) : CxS (X.tr pn xe) k gl g lv fA se W where
  K := cs.K
  w := cs.w
  quiet := cs.quiet
  calm := cs.calm
  N := cs.N
  sc := cs.sc
  fn := cs.fn
  nd := cs.nd
  room := cs.room
  fx := cs.fx
  fun_ := cs.fun_
  stk := cs.stk
  frm := cs.frm
  exn := cs.exn
  own := own
  tk := tk
theorem s_try {x n yn : Str} {c i j : Nat} {body : List Stmt} {b : List S} {np yp ep sp pos' : Pos} (cs : CxS X k gl g lv fA se Wx) (go : GOk X gl x (.cls c)) (hi : X.N[i]? = some n) (hln : X.env.scope.names.lookup n = some .local)
    (hj : X.N[j]? = some yn) (hly : X.env.scope.names.lookup yn = some .local) (hij : j ≠ i) (hdb : (n == ("__debug__" : Str)) = false) (hcd : (n == ("__classdict__" : Str)) = false)
    (hb : ∀ (W : WX) (X' : Cx), CxS X' k gl g lv fA se W → X'.env = X.env → PSs X' body (tSs k g W b)) :
    PS X (.Try body [.ExceptHandler (some (.Name x np)) (some n) [.Assign [.Name yn yp] (.Name n ep) sp] pos'] [] [] pos) (tS k g Wx (.try_ b (.keep c i j))) := by
  obtain ⟨g1, g2⟩ := cs.fx.gcl x c go.lk
  refine PS.of (ps_try_keep (tb := fun W => tSs k g W b) cs.stk cs.frm cs.exn cs.nd hi hln hj hly hij hdb hcd (c := .ref (k.cA c)) ⟨go.gi, go.db, .inl g1⟩ cs.tk fun W pn xe tk own => hb W _ (cs.toTr tk own) rfl) fun D σ H ⟨ι, as, h, rs, r, w⟩ => ?_
  dsimp only at w
  rw [evalS] at w
  refine ⟨ι, as, h, rs, r, ?_⟩
  dsimp only
  revert w
  cases evalSs g b as h with
  | exc c' xs ws as' h' =>
    intro w ι' H' d σ' p e ed
    replace w : WPO k Wx (hdW g (.keep c i j) c' xs ws as' h') ι h H D := w
    unfold hdW at w
    dsimp only at w
    split at w
    · rename_i e2
      obtain ⟨_, rfl, rfl⟩ : ([] : List Str) = [] ∧ ws = [] ∧ d = none := by
        rcases ed with ed | ⟨z, _⟩
        · exact ed
        · exact absurd rfl z
      refine ⟨true, by rw [cs.K]; exact cs.fx.exo _ _ _ e2, fun _ a ha => ?_, fun z => nomatch z⟩
      have ps := Post.side (o := ExC (.ref (k.cA c')) none a) p.rel ha
      refine w ι' _ _ (p.trans r ps) ?_
      have e3 := (e.keep (ps.keep p.rel)).set (i := j) (w := .exo c' [] []) (v := .ref a) (by unfold RelW; exact ⟨a, rfl, upd_same⟩)
      refine ⟨by simpa using e3.1, fun m w' q => ?_⟩
      by_cases hm : i = m
      · subst hm
        by_cases hl : i < (as'.set j (some (W.exo c' [] []))).length
        · rw [List.getElem?_set_self hl] at q
          cases q
        · rw [List.getElem?_eq_none (by rw [List.length_set]; omega)] at q
          cases q
      · rw [List.getElem?_set_ne hm] at q ⊢
        exact e3.2 m w' q
    · rename_i e2
      exact ⟨false, by rw [cs.K]; exact cs.fx.exo _ _ _ e2, (fun z => by cases z), fun _ => w ι' H' d σ' p e ed⟩
    · exact w.elim
  | next _ _ => exact fun w => w
  | ret _ _ => exact fun w => w
  | brk _ _ => exact fun w => w
  | cont _ _ => exact fun w => w
  | stuck => exact fun w => w
/-! ### several names at once -/
def setsL {α : Type} : List Nat → List α → List (Option α) → List (Option α)
  | i :: is, v :: vs, σ => setsL is vs (σ.set i (some v))
  | _, _, σ => σ
def setsR {α : Type} : List Nat → List α → List (Option α) → List (Option α)
  | i :: is, v :: vs, σ => (setsR is vs σ).set i (some v)
  | _, _, σ => σ
theorem setsL_set {α : Type} {i : Nat} {v : α} : ∀ {is : List Nat} {vs : List α} {σ : List (Option α)}, i ∉ is → setsL is vs (σ.set i (some v)) = (setsL is vs σ).set i (some v)
  | [], _, _, _ => rfl
  | _ :: _, [], _, _ => rfl
  | j :: is, w :: vs, σ, h => by
    unfold setsL
    rw [List.mem_cons, not_or] at h
    rw [List.set_comm _ _ h.1, setsL_set h.2]
theorem setsL_eq {α : Type} : ∀ {is : List Nat} {vs : List α} {σ : List (Option α)}, is.Nodup → setsL is vs σ = setsR is vs σ
  | [], _, _, _ => rfl
  | _ :: _, [], _, _ => rfl
  | i :: is, v :: vs, σ, h => by
    unfold setsL setsR
    rw [List.nodup_cons] at h
    rw [setsL_set h.1, setsL_eq h.2]
theorem stores_rev {pins : List (Addr × Obj)} {H : Hp} (hN : X.N.Nodup) : ∀ {names : List Str} {is : List Nat}, Paired (fun x i => X.N[i]? = some x ∧ X.env.scope.names.lookup x = some .local) names is → ∀ {vs : List V} {us : List Value} {σ : L2.St} {s : Shared} {T : List (Value → Sem Unit)} {U : List Value} {Q : Unit → Shared → Prop},
    vs.length = names.length → Vals vs us → L2.Inv X pins σ H s → (∀ s', L2.Inv X pins (setsR is vs σ) H s' → wpAny (model X.prog X.w) X.A (assignInOrder T U) Q X.xe s') →
    wpAny (model X.prog X.w) X.A (assignInOrder ((names.reverse.map fun n => bindName X.env n) ++ T) (us.reverse ++ U)) Q X.xe s
  | _, _, .nil, vs, us, σ, s, T, U, Q, hl, rv, I, h => by
    cases vs with
    | nil =>
      cases rv
      exact h s I
    | cons _ _ => cases hl
  | _, _, .cons (a := x) (l₁ := names) (b := i) (l₂ := is) hx hr, vs, us, σ, s, T, U, Q, hl, rv, I, h => by
    cases vs with
    | nil => cases hl
    | cons v vs =>
      cases rv with
      | cons r1 r2 =>
        rename_i u us
        rw [List.reverse_cons, List.map_append, List.append_assoc, List.reverse_cons, List.append_assoc]
        refine stores_rev hN hr (by simpa using hl) r2 I fun s' I' => ?_
        show wpAny _ _ (assignInOrder ((bindName X.env x) :: T) (u :: U)) _ _ _
        exact assignInOrder_cons (wpAny_bindName (store_ok I' hN hx.1 (.inl hx.2) r1 (fun s2 I2 => h s2 I2) (.inr hx.2)))
theorem ps_parN {es vs : List Expr} {names : List Str} {is : List Nat} {ta : TA} {kt k2 : Nat} {pt pt2 : Pos} (hc : X.calm = true) (hN : X.N.Nodup) (hp : Paired (fun x i => X.N[i]? = some x ∧ X.env.scope.names.lookup x = some .local) names is) (nd : is.Nodup) (ha : PA X vs ta)
    (hw : swappedStores [.Tuple es kt pt] (.Tuple vs k2 pt2) X.env = pure (some names)) :
    PS X (.Assign [.Tuple es kt pt] (.Tuple vs k2 pt2) pos) (fun D σ H => ta σ H fun ws H1 => ws.length = names.length ∧ ws.length ≤ sizeLine ∧ D.nx (setsL is ws σ) H1) := by
  refine ⟨fun pins s σ H D I h => ?_⟩
  rw [exec_Assign_arm]
  refine wpAny_bind (wpAny_standAt ?_)
  rw [show swapsWithSole [.Tuple es kt pt] (.Tuple vs k2 pt2) pos.line X.env = pure false from rfl]
  refine wpAny_bind (wpAny_pure ?_)
  rw [if_neg (by decide)]
  refine wpAny_bind (Tuple_ (thn (ha.run _ pins s σ H _ I h) fun us s1 ⟨ws, H1, I1, r1, l1, l2, q1⟩ => ?_))
  refine wpAny_newObj_type ?_ (by show us.toArray.size ≤ sizeLine; rw [List.size_toArray, ← r1.length]; exact l2)
  have I2 : L2.Inv X pins σ H1 { s1 with heap := s1.heap.push { cls := .type "tuple", data := .seq us.toArray } } := I1.kept (t' := s1.toks) fun b o e => Heap.get?_push_of_some _ e
  rw [hw]
  refine wpAny_bind (wpAny_pure ?_)
  show wpAny (model X.prog X.w) X.A (do rule "assign.swapped-stores"; let items ← unpackItems (.ref s1.heap.objs.size) names.length none; assignInOrder (names.reverse.map fun n => bindName X.env n) items.reverse; pure Flow.next) _ _ _
  have hn : names.length = us.toArray.size := by rw [List.size_toArray, ← l1, r1.length]
  rw [hn]
  refine wpAny_bind (wpAny_rule (wpAny_bind (unpackItems_tuple (items := us.toArray) (I.ok.hd hc) (IsTup.new s1.heap _) fun h' hx' => ?_)))
  have I3 := I2.kept (h' := h') (t' := s1.toks) fun b o e => hx' b o (Nat.ne_of_lt (Heap.lt_size e)) e
  show wpAny _ _ (assignInOrder (names.reverse.map fun n => bindName X.env n) us.reverse >>= fun _ => pure Flow.next) _ _ _
  refine wpAny_bind ?_
  have := stores_rev (T := []) (U := []) hN hp l1 r1 I3 (Q := fun _ s' => wpAny (model X.prog X.w) X.A (pure Flow.next) (SP X pins D) X.xe s') fun s' I' => assignInOrder_nil (wpAny_pure ⟨_, H1, I', by rw [← setsL_eq nd]; exact q1⟩)
  rw [List.append_nil, List.append_nil] at this
  exact this
theorem asgTs_nm {as : St} {h : AH} : ∀ {is : List Nat} {ws : List W}, ws.length = is.length → asgTs g (is.map .nm) ws as h = .ok (setsL is ws as) h
  | [], [], _ => by
    unfold setsL
    rw [List.map_nil, asgTs]
  | i :: is, w :: ws, e => by
    rw [List.map_cons, asgTs, asgT]
    show asgTs g (is.map .nm) ws (as.set i (some w)) h = _
    rw [asgTs_nm (by simpa using e)]
    rfl
  | [], _ :: _, e => by cases e
  | _ :: _, [], e => by cases e
theorem relS_setsL {ι : Nat → Addr} {n : Nat} {H : Hp} : ∀ {is : List Nat} {ws : List W} {vs : List V} {as : St} {σ : L2.St}, RelS k ι n H as σ → RelWs k ι n H ws vs → RelS k ι n H (setsL is ws as) (setsL is vs σ)
  | [], _, _, _, _, rs, _ => rs
  | _ :: _, [], vs, _, _, rs, rv => by
    unfold RelWs at rv
    subst rv
    exact rs
  | i :: is, w :: ws, vs, as, σ, rs, rv => by
    unfold RelWs at rv
    obtain ⟨v, r, rfl, r1, r2⟩ := rv
    exact relS_setsL (is := is) (rs.set r1) r2
theorem s_par {es vs : List Expr} {names : List Str} {is : List Nat} {cs : List C} {kt k2 : Nat} {pt pt2 : Pos} (cx : CxO X k gl g lv fA se) (hp : Paired (fun x i => X.N[i]? = some x ∧ X.env.scope.names.lookup x = some .local) names is) (nd : is.Nodup) (ha : PA X vs (tEs k g Wx cs))
    (hw : swappedStores [.Tuple es kt pt] (.Tuple vs k2 pt2) X.env = pure (some names)) : PS X (.Assign [.Tuple es kt pt] (.Tuple vs k2 pt2) pos) (tS k g Wx (.asg (.tp (is.map .nm)) (.tup cs))) :=
  PS.of (ps_parN cx.calm cx.nd hp nd ha hw) fun D σ H ⟨ι, as, h, rs, r, w⟩ => by
    dsimp only at w
    rw [evalS, evalE] at w
    have w : WPO k Wx ((evalEs g cs as h).then as fun ws h1 => (if szOk ws.length then Res.ok (W.tup ws) h1 else .stuck).then as fun w h1 => (toNoExc (asgT g (.tp (is.map .nm)) w as h1)).then as fun σ1 h2 => .next σ1 h2) ι h H D := by
      revert w
      cases evalEs g cs as h <;> exact fun w => w
    refine (nxtO (rel := relWs k) rs r w).imp fun us H1 ⟨ι, h, ws, rs, r, ra, w⟩ => ?_
    split at w
    · rename_i hz
      have w : WPO k Wx ((toNoExc (asgT g (.tp (is.map .nm)) (.tup ws) as h)).then as fun σ1 h2 => .next σ1 h2) ι h H1 D := w
      rw [asgT] at w
      split at w
      · rename_i hl
        rw [List.length_map] at hl
        rw [asgTs_nm hl] at w
        exact ⟨by rw [← ra.len, hl]; exact (Paired.length hp).symm, by rw [← ra.len]; exact sz_ok hz, w ι H1 _ (Post.refl r) (relS_setsL rs ra)⟩
      · exact w.elim
    · exact w.elim
/-! ### name = [..] -/
theorem s_setLc {y t i : Expr} {fs : List Expr} {scope : Scope} {own : List (Str × Nat)} {tg : Tg} {it : It} {ifs : List T} {elt : C} {n : Nat} {yn : Str} {py p2 : Pos} (cx : CxO X k gl g lv fA se) (lc : LcOk X k g Wx y t i fs scope own tg it ifs elt)
    (hy : X.N[n]? = some yn) (hyl : X.env.scope.names.lookup yn = some .local) (hsw : swapsWith (.ListComp y [⟨t, i, fs, 0⟩] scope p2) (some (.Name yn py)) pos.line X.env = pure true) :
    PS X (.Assign [.Name yn py] (.ListComp y [⟨t, i, fs, 0⟩] scope p2) pos) (tS k g Wx (.asg (.nm n) (.comp own tg it ifs elt))) :=
  PS.of (ps_setLc cx.calm cx.nd hy hyl hsw lc.hi lc.ok lc.hg lc.ht lc.he (noSet_of lc.ns)) fun D σ H ⟨ι, as, h, rs, r, w⟩ => by
    dsimp only at w
    rw [evalS] at w
    have q : tE k g Wx (.comp own tg it ifs elt) σ H fun x H1 => gName n x σ H1 D.nx := (nxtO (rel := relW k) rs r w).imp fun v H1 ⟨ι, h, a, rs, r, ra, w⟩ => by
      have w : WPO k Wx ((toNoExc (asgT g (.nm n) a as h)).then as fun σ1 h2 => .next σ1 h2) ι h H1 D := w
      rw [asgT] at w
      exact w ι H1 _ (Post.refl r) (rs.set ra)
    exact lc_read lc (tE_tL q)
end
end AM
/-! The core is sound: every piece of text that the checker passes does what the interpreter says. -/
namespace AM
open PySem L2
variable {k : Cst} {gl : Gl} {g : Ev} {lv : Nat} {fA : Nat → Addr}
theorem okEs_len {se : SE} : ∀ {cs : List C} {es : List Expr}, okEs gl cs se es = true → cs.length = es.length ∧ es.all noStar = true
  | [], es, h => by
    unfold okEs at h
    cases es with
    | nil => exact ⟨rfl, rfl⟩
    | cons _ _ => cases h
  | c :: cs, es, h => by
    unfold okEs at h
    cases es with
    | nil => cases h
    | cons e es =>
      simp only [Bool.and_eq_true] at h
      obtain ⟨h1, h2⟩ := okEs_len h.2
      refine ⟨by simp [h1], ?_⟩
      rw [List.all_cons, noStar_of h.1, h2]
      rfl
theorem okTg_star {se : SE} {t : Tg} {e : Expr} (h : okTg gl t se e = true) : noStar e = true := by
  cases e <;> first | rfl | skip
  cases t <;> (unfold okTg at h; cases h)
theorem okTgs_len {se : SE} : ∀ {ts : List Tg} {es : List Expr}, okTgs gl ts se es = true → ts.length = es.length ∧ es.all noStar = true
  | [], es, h => by
    unfold okTgs at h
    cases es with
    | nil => exact ⟨rfl, rfl⟩
    | cons _ _ => cases h
  | c :: cs, es, h => by
    unfold okTgs at h
    cases es with
    | nil => cases h
    | cons e es =>
      simp only [Bool.and_eq_true] at h
      obtain ⟨h1, h2⟩ := okTgs_len h.2
      refine ⟨by simp [h1], ?_⟩
      rw [List.all_cons, okTg_star h.1, h2]
      rfl
theorem nil_of_len {α β : Type} {cs : List α} {es : List β} (h : cs.length = es.length) (e : es = []) : cs = [] := by
  subst e
  exact List.eq_nil_of_length_eq_zero h
theorem okL_star {c : C} {se : SE} {e : Expr} (h : okL gl c se e = true) : noStar e = true := by
  cases e <;> first | rfl | skip
  cases c <;> (unfold okL at h; cases h)
theorem slots_in {tg : Tg} {own : List (Str × Nat)} (h : slotsIn tg own = true) : ∀ j ∈ slotsT tg, j ∈ own.map (·.2) := fun j hj => by
  unfold slotsIn at h
  rw [List.all_eq_true] at h
  simpa using h j hj
theorem val_ok {c : C} {se : SE} {e : Expr} (ok : okT gl (.val c) se e = true) : okE gl c se e = true := by
  unfold okT at ok
  rw [Bool.and_eq_true] at ok
  exact ok.1
theorem val_test {c : C} {se : SE} {e : Expr} (hc : ∀ op a b, c ≠ .cmp op a b) (ok : okT gl (.val c) se e = true) : noTest e = true := by
  unfold okT at ok
  rw [Bool.and_eq_true, Bool.or_eq_true] at ok
  obtain ⟨h1, h2⟩ := ok
  rcases h2 with h2 | h2
  · exact h2
  · cases e <;> first | (cases h2; done) | skip
    cases c <;> first | exact absurd rfl (hc _ _ _) | (unfold okE at h1; cases h1)
mutual
theorem sE : ∀ (c : C) {se : SE} {e : Expr} {X : Cx} {Wx : WX}, CxO X k gl g lv fA se → Takes X Wx → okE gl c se e = true → PE X e (tE k g Wx c)
  | .var i, se, e, X, Wx, cx, tk, ok => by
    unfold okE at ok
    split at ok
    · exact e_var cx ok
    · cases ok
  | .con w, se, e, X, Wx, cx, tk, ok => by
    unfold okE at ok
    split at ok
    · exact e_con ok
    · cases ok
  | .glo x w, se, e, X, Wx, cx, tk, ok => by
    unfold okE at ok
    split at ok
    · simp only [Bool.and_eq_true, decide_eq_true_eq] at ok
      exact e_glo cx ok.1.1 ok.1.2 ok.2
    · cases ok
  | .bin op a b, se, e, X, Wx, cx, tk, ok => by
    unfold okE at ok
    split at ok
    · simp only [Bool.and_eq_true, decide_eq_true_eq] at ok
      obtain ⟨⟨rfl, h1⟩, h2⟩ := ok
      exact e_bin cx (sE a cx tk h1) (sE b cx tk h2)
    · cases ok
  | .neg a, se, e, X, Wx, cx, tk, ok => by
    unfold okE at ok
    split at ok
    · exact e_neg (sE a cx tk ok)
    · cases ok
  | .cmp op a b, se, e, X, Wx, cx, tk, ok => by
    unfold okE at ok
    split at ok
    · simp only [Bool.and_eq_true, decide_eq_true_eq] at ok
      obtain ⟨⟨⟨rfl, h0⟩, h1⟩, h2⟩ := ok
      exact e_cmp cx h0 (sE a cx tk h1) (sE b cx tk h2)
    · cases ok
  | .not a, se, e, X, Wx, cx, tk, ok => by
    unfold okE at ok
    split at ok
    · exact e_not (sE a cx tk ok)
    · cases ok
  | .and cs, se, e, X, Wx, cx, tk, ok => by
    unfold okE at ok
    split at ok
    · exact PE.of (sAnd cs cx tk ok) fun σ H Q w => tR.eq w fun _ _ => by rw [evalE]
    · cases ok
  | .or cs, se, e, X, Wx, cx, tk, ok => by
    unfold okE at ok
    split at ok
    · exact PE.of (sOr cs cx tk ok) fun σ H Q w => tR.eq w fun _ _ => by rw [evalE]
    · cases ok
  | .ife t a b, se, e, X, Wx, cx, tk, ok => by
    unfold okE at ok
    split at ok
    · simp only [Bool.and_eq_true] at ok
      exact e_ife (sT t cx tk ok.1.1) (sE a cx tk ok.1.2) (sE b cx tk ok.2)
    · cases ok
  | .sub a i, se, e, X, Wx, cx, tk, ok => by
    unfold okE at ok
    split at ok
    · simp only [Bool.and_eq_true] at ok
      exact e_sub cx ok.1.1 (sE a cx tk ok.1.2) (sE i cx tk ok.2)
    · cases ok
  | .slc a lo hi, se, e, X, Wx, cx, tk, ok => by
    unfold okE at ok
    split at ok
    · simp only [Bool.and_eq_true] at ok
      exact e_slc cx (sE a cx tk ok.1.1) (sO lo cx tk ok.1.2) (sO hi cx tk ok.2)
    · cases ok
  | .tup cs, se, e, X, Wx, cx, tk, ok => by
    unfold okE at ok
    split at ok
    · exact e_tup (sEs cs cx tk ok)
    · cases ok
  | .lst cs, se, e, X, Wx, cx, tk, ok => by
    unfold okE at ok
    split at ok
    · exact e_lst (sEs cs cx tk ok)
    · cases ok
  | .call f cs ks kcs, se, e, X, Wx, cx, tk, ok => by
    unfold okE at ok
    split at ok
    · simp only [Bool.and_eq_true, decide_eq_true_eq] at ok
      obtain ⟨⟨⟨⟨h1, h2⟩, h3⟩, h4⟩, h5⟩ := ok
      obtain ⟨l1, l2⟩ := okEs_len h2
      exact e_call cx tk (g_of cx h1) (sEs cs cx tk h2) (sK kcs cx tk h3 h5) l2 h3 h4 (nil_of_len l1)
    · cases ok
  | .new c cs ks kcs, se, e, X, Wx, cx, tk, ok => by
    unfold okE at ok
    split at ok
    · simp only [Bool.and_eq_true, decide_eq_true_eq] at ok
      obtain ⟨⟨⟨⟨h1, h2⟩, h3⟩, h4⟩, h5⟩ := ok
      obtain ⟨l1, l2⟩ := okEs_len h2
      exact e_new cx tk (g_of cx h1) (sEs cs cx tk h2) (sK kcs cx tk h3 h5) l2 h3 h4 (nil_of_len l1)
    · cases ok
  | .meth m o cs ks kcs, se, e, X, Wx, cx, tk, ok => by
    unfold okE at ok
    split at ok
    · simp only [Bool.and_eq_true, decide_eq_true_eq] at ok
      obtain ⟨⟨⟨⟨⟨⟨⟨⟨rfl, h0⟩, h1⟩, h2⟩, h3⟩, h4⟩, h5⟩, h6⟩, h7⟩ := ok
      obtain ⟨l1, l2⟩ := okEs_len h2
      exact e_meth cx tk (sE o cx tk h1) (sEs cs cx tk h2) (sK kcs cx tk h3 h5) h0 l2 h3 h4 (nil_of_len l1) h6 h7
    · cases ok
  | .attr o x, se, e, X, Wx, cx, tk, ok => by
    unfold okE at ok
    split at ok
    · simp only [Bool.and_eq_true, decide_eq_true_eq] at ok
      obtain ⟨⟨rfl, h0⟩, h1⟩ := ok
      exact e_attr cx (sE o cx tk h1) h0
    · cases ok
  | .prim p [], se, e, X, Wx, cx, tk, ok => by
    unfold okE at ok
    split at ok
    · cases p <;> cases ok
    · cases ok
  | .prim p (c :: cs), se, e, X, Wx, cx, tk, ok => by
    unfold okE at ok
    split at ok
    · rename_i x px es pos
      by_cases hp : ∃ ts ds, p = .isi ts ds
      · obtain ⟨ts, ds, rfl⟩ := hp
        cases cs with
        | cons _ _ => cases ok
        | nil =>
          match es, ok with
          | [y, t], ok =>
            have ok : (okG gl se x .blt && decide (x = primName (.isi ts ds)) && okE gl c se y && okTy gl se ts ds t) = true := ok
            simp only [Bool.and_eq_true, decide_eq_true_eq] at ok
            obtain ⟨⟨⟨h1, h2⟩, h3⟩, h4⟩ := ok
            exact e_isi cx (g_of cx h1) h2 (sE c cx tk h3) (noStar_of h3) h4
          | [], ok => cases ok
          | [_], ok => cases ok
          | _ :: _ :: _ :: _, ok => cases ok
      · have ok2 : (!isIsi p && okG gl se x .blt && decide (x = primName p) && okEs gl (c :: cs) se es) = true := by
          cases p <;> first | exact ok | exact absurd ⟨_, _, rfl⟩ hp
        simp only [Bool.and_eq_true, decide_eq_true_eq, Bool.not_eq_true'] at ok2
        obtain ⟨⟨⟨h1, h2⟩, h3⟩, h4⟩ := ok2
        obtain ⟨l1, l2⟩ := okEs_len h4
        cases es with
        | nil => cases l1
        | cons e es => exact e_prim cx (g_of cx h2) h3 h1 (sEs (c :: cs) cx tk h4) l2
    · cases ok
  | .primc p c, se, e, X, Wx, cx, tk, ok => by
    unfold okE at ok
    split at ok
    · simp only [Bool.and_eq_true, decide_eq_true_eq, Bool.not_eq_true'] at ok
      obtain ⟨⟨⟨h1, h2⟩, h3⟩, h4⟩ := ok
      exact e_primc cx (g_of cx h2) h3 h1 (sL c cx tk h4) (okL_star h4)
    · cases ok
  | .bm m o cs, se, e, X, Wx, cx, tk, ok => by
    unfold okE at ok
    split at ok
    · rename_i v x apos es pos
      simp only [Bool.and_eq_true] at ok
      obtain ⟨⟨⟨⟨h0, h1⟩, h2⟩, h3⟩, h4⟩ := ok
      cases m with
      | append =>
        simp only [Bool.and_eq_true, decide_eq_true_eq] at h0
        obtain ⟨rfl, l0⟩ := h0
        obtain ⟨l1, l2⟩ := okEs_len h3
        match es, cs, l0, l1, h3, l2 with
        | [e], c1 :: cs, _, _, h3, l2 => exact e_append cx (sE o cx tk h2) (sEs (c1 :: cs) cx tk h3) h1 l2 h4
      | extend =>
        simp only [Bool.and_eq_true, decide_eq_true_eq] at h0
        obtain ⟨rfl, l0⟩ := h0
        obtain ⟨l1, l2⟩ := okEs_len h3
        match es, cs, l0, l1, h3, l2 with
        | [e], c1 :: cs, _, _, h3, l2 => exact e_extend cx (sE o cx tk h2) (sEs (c1 :: cs) cx tk h3) h1 l2 h4
      | pop0 =>
        simp only [Bool.and_eq_true, decide_eq_true_eq] at h0
        obtain ⟨rfl, l0⟩ := h0
        obtain ⟨l1, l2⟩ := okEs_len h3
        match es, cs, l0, l1 with
        | [], [], _, _ => exact e_pop0 cx (sE o cx tk h2) h1 h4
      | _ => cases h0
    · cases ok
  | .bmc m o c, se, e, X, Wx, cx, tk, ok => by
    unfold okE at ok
    split at ok
    · simp only [Bool.and_eq_true] at ok
      obtain ⟨⟨⟨⟨h0, h1⟩, h2⟩, h3⟩, h4⟩ := ok
      cases m with
      | extend =>
        have h0 := of_decide_eq_true h0
        subst h0
        exact e_bmcX cx (sE o cx tk h2) (sL c cx tk h3) h1 (okL_star h3) h4
      | _ => cases h0
    · cases ok
  | .comp own tg it ifs elt, se, e, X, Wx, cx, tk, ok => by
    unfold okE at ok
    split at ok
    · simp only [Bool.and_eq_true] at ok
      obtain ⟨⟨⟨⟨⟨⟨h1, h2⟩, h3⟩, h4⟩, h5⟩, h6⟩, h7⟩ := ok
      exact e_comp cx ⟨sI it cx tk h4, blkOk_by (by rw [cx.N, cx.sc]; exact h1), slots_in h2, fun s H C cl fp => sTg tg (cx.blk _ s H C cl fp) takes_blk h5, fun s H C cl fp => sIf ifs (cx.blk _ s H C cl fp) takes_blk h6, fun s H C cl fp => sE elt (cx.blk _ s H C cl fp) takes_blk h7, h3⟩
    · cases ok
theorem sL : ∀ (c : C) {se : SE} {e : Expr} {X : Cx} {Wx : WX}, CxO X k gl g lv fA se → Takes X Wx → okL gl c se e = true → PE X e (tL k g Wx c)
  | .comp own tg it ifs elt, se, e, X, Wx, cx, tk, ok => by
    unfold okL at ok
    split at ok
    · simp only [Bool.and_eq_true] at ok
      obtain ⟨⟨⟨⟨⟨⟨h1, h2⟩, h3⟩, h4⟩, h5⟩, h6⟩, h7⟩ := ok
      exact l_comp cx ⟨sI it cx tk h4, blkOk_by (by rw [cx.N, cx.sc]; exact h1), slots_in h2, fun s H C cl fp => sTg tg (cx.blk _ s H C cl fp) takes_blk h5, fun s H C cl fp => sIf ifs (cx.blk _ s H C cl fp) takes_blk h6, fun s H C cl fp => sE elt (cx.blk _ s H C cl fp) takes_blk h7, h3⟩
    · cases ok
  | .var _, se, e, X, Wx, cx, tk, ok => by cases ok
  | .con _, se, e, X, Wx, cx, tk, ok => by cases ok
  | .glo _ _, se, e, X, Wx, cx, tk, ok => by cases ok
  | .bin _ _ _, se, e, X, Wx, cx, tk, ok => by cases ok
  | .neg _, se, e, X, Wx, cx, tk, ok => by cases ok
  | .cmp _ _ _, se, e, X, Wx, cx, tk, ok => by cases ok
  | .not _, se, e, X, Wx, cx, tk, ok => by cases ok
  | .and _, se, e, X, Wx, cx, tk, ok => by cases ok
  | .or _, se, e, X, Wx, cx, tk, ok => by cases ok
  | .ife _ _ _, se, e, X, Wx, cx, tk, ok => by cases ok
  | .sub _ _, se, e, X, Wx, cx, tk, ok => by cases ok
  | .slc _ _ _, se, e, X, Wx, cx, tk, ok => by cases ok
  | .tup _, se, e, X, Wx, cx, tk, ok => by cases ok
  | .lst _, se, e, X, Wx, cx, tk, ok => by cases ok
  | .call _ _ _ _, se, e, X, Wx, cx, tk, ok => by cases ok
  | .new _ _ _ _, se, e, X, Wx, cx, tk, ok => by cases ok
  | .meth _ _ _ _ _, se, e, X, Wx, cx, tk, ok => by cases ok
  | .attr _ _, se, e, X, Wx, cx, tk, ok => by cases ok
  | .prim _ _, se, e, X, Wx, cx, tk, ok => by cases ok
  | .primc _ _, se, e, X, Wx, cx, tk, ok => by cases ok
  | .bm _ _ _, se, e, X, Wx, cx, tk, ok => by cases ok
  | .bmc _ _ _, se, e, X, Wx, cx, tk, ok => by cases ok
theorem sT : ∀ (t : T) {se : SE} {e : Expr} {X : Cx} {Wx : WX}, CxO X k gl g lv fA se → Takes X Wx → okT gl t se e = true → PT X e (tT k g Wx t)
  | .not t, se, e, X, Wx, cx, tk, ok => by
    unfold okT at ok
    split at ok
    · exact t_not (sT t cx tk ok)
    · cases ok
  | .and ts, se, e, X, Wx, cx, tk, ok => by
    unfold okT at ok
    split at ok
    · rw [Bool.and_eq_true] at ok
      exact PT.of (sTA ts cx tk ok.1 ok.2).pt fun σ H Q w => tR.eq w fun _ _ => by rw [evalT]
    · cases ok
  | .or ts, se, e, X, Wx, cx, tk, ok => by
    unfold okT at ok
    split at ok
    · rw [Bool.and_eq_true] at ok
      exact PT.of (sTO ts cx tk ok.1 ok.2).pt fun σ H Q w => tR.eq w fun _ _ => by rw [evalT]
    · cases ok
  | .val (.cmp op a b), se, e, X, Wx, cx, tk, ok => by
    unfold okT at ok
    rw [Bool.and_eq_true] at ok
    have ok := ok.1
    unfold okE at ok
    split at ok
    · simp only [Bool.and_eq_true, decide_eq_true_eq] at ok
      obtain ⟨⟨⟨rfl, h0⟩, h1⟩, h2⟩ := ok
      exact t_cmp cx h0 (sE a cx tk h1) (sE b cx tk h2)
    · cases ok
  | .val (.var x0), se, e, X, Wx, cx, tk, ok => t_val cx (sE (.var x0) cx tk (val_ok ok)) (val_test (fun _ _ _ z => by cases z) ok)
  | .val (.con x0), se, e, X, Wx, cx, tk, ok => t_val cx (sE (.con x0) cx tk (val_ok ok)) (val_test (fun _ _ _ z => by cases z) ok)
  | .val (.glo x0 x1), se, e, X, Wx, cx, tk, ok => t_val cx (sE (.glo x0 x1) cx tk (val_ok ok)) (val_test (fun _ _ _ z => by cases z) ok)
  | .val (.bin x0 x1 x2), se, e, X, Wx, cx, tk, ok => t_val cx (sE (.bin x0 x1 x2) cx tk (val_ok ok)) (val_test (fun _ _ _ z => by cases z) ok)
  | .val (.neg x0), se, e, X, Wx, cx, tk, ok => t_val cx (sE (.neg x0) cx tk (val_ok ok)) (val_test (fun _ _ _ z => by cases z) ok)
  | .val (.not x0), se, e, X, Wx, cx, tk, ok => t_val cx (sE (.not x0) cx tk (val_ok ok)) (val_test (fun _ _ _ z => by cases z) ok)
  | .val (.and x0), se, e, X, Wx, cx, tk, ok => t_val cx (sE (.and x0) cx tk (val_ok ok)) (val_test (fun _ _ _ z => by cases z) ok)
  | .val (.or x0), se, e, X, Wx, cx, tk, ok => t_val cx (sE (.or x0) cx tk (val_ok ok)) (val_test (fun _ _ _ z => by cases z) ok)
  | .val (.ife x0 x1 x2), se, e, X, Wx, cx, tk, ok => t_val cx (sE (.ife x0 x1 x2) cx tk (val_ok ok)) (val_test (fun _ _ _ z => by cases z) ok)
  | .val (.sub x0 x1), se, e, X, Wx, cx, tk, ok => t_val cx (sE (.sub x0 x1) cx tk (val_ok ok)) (val_test (fun _ _ _ z => by cases z) ok)
  | .val (.slc x0 x1 x2), se, e, X, Wx, cx, tk, ok => t_val cx (sE (.slc x0 x1 x2) cx tk (val_ok ok)) (val_test (fun _ _ _ z => by cases z) ok)
  | .val (.tup x0), se, e, X, Wx, cx, tk, ok => t_val cx (sE (.tup x0) cx tk (val_ok ok)) (val_test (fun _ _ _ z => by cases z) ok)
  | .val (.lst x0), se, e, X, Wx, cx, tk, ok => t_val cx (sE (.lst x0) cx tk (val_ok ok)) (val_test (fun _ _ _ z => by cases z) ok)
  | .val (.call x0 x1 x2 x3), se, e, X, Wx, cx, tk, ok => t_val cx (sE (.call x0 x1 x2 x3) cx tk (val_ok ok)) (val_test (fun _ _ _ z => by cases z) ok)
  | .val (.new x0 x1 x2 x3), se, e, X, Wx, cx, tk, ok => t_val cx (sE (.new x0 x1 x2 x3) cx tk (val_ok ok)) (val_test (fun _ _ _ z => by cases z) ok)
  | .val (.meth x0 x1 x2 x3 x4), se, e, X, Wx, cx, tk, ok => t_val cx (sE (.meth x0 x1 x2 x3 x4) cx tk (val_ok ok)) (val_test (fun _ _ _ z => by cases z) ok)
  | .val (.attr x0 x1), se, e, X, Wx, cx, tk, ok => t_val cx (sE (.attr x0 x1) cx tk (val_ok ok)) (val_test (fun _ _ _ z => by cases z) ok)
  | .val (.prim x0 x1), se, e, X, Wx, cx, tk, ok => t_val cx (sE (.prim x0 x1) cx tk (val_ok ok)) (val_test (fun _ _ _ z => by cases z) ok)
  | .val (.primc x0 x1), se, e, X, Wx, cx, tk, ok => t_val cx (sE (.primc x0 x1) cx tk (val_ok ok)) (val_test (fun _ _ _ z => by cases z) ok)
  | .val (.bm x0 x1 x2), se, e, X, Wx, cx, tk, ok => t_val cx (sE (.bm x0 x1 x2) cx tk (val_ok ok)) (val_test (fun _ _ _ z => by cases z) ok)
  | .val (.bmc x0 x1 x2), se, e, X, Wx, cx, tk, ok => t_val cx (sE (.bmc x0 x1 x2) cx tk (val_ok ok)) (val_test (fun _ _ _ z => by cases z) ok)
  | .val (.comp x0 x1 x2 x3 x4), se, e, X, Wx, cx, tk, ok => t_val cx (sE (.comp x0 x1 x2 x3 x4) cx tk (val_ok ok)) (val_test (fun _ _ _ z => by cases z) ok)
theorem sTA : ∀ (ts : List T) {se : SE} {es : List Expr} {pos : Pos} {X : Cx} {Wx : WX}, CxO X k gl g lv fA se → Takes X Wx → okTs gl ts se es = true → (!es.isEmpty) = true → PW X (.BoolOp .And es pos) (tTA k g Wx ts)
  | [], se, es, pos, X, Wx, cx, tk, ok, ne => by
    unfold okTs at ok
    rw [ok] at ne
    cases ne
  | t :: ts, se, es, pos, X, Wx, cx, tk, ok, ne => by
    unfold okTs at ok
    cases es with
    | nil => cases ok
    | cons e es =>
      simp only [Bool.and_eq_true] at ok
      cases es with
      | nil =>
        have := ok.2
        cases ts with
        | nil => exact t_and1 (sT t cx tk ok.1)
        | cons _ _ =>
          unfold okTs at this
          cases this
      | cons e2 es => exact t_and (sT t cx tk ok.1) (sTA ts cx tk ok.2 rfl)
theorem sTO : ∀ (ts : List T) {se : SE} {es : List Expr} {pos : Pos} {X : Cx} {Wx : WX}, CxO X k gl g lv fA se → Takes X Wx → okTs gl ts se es = true → (!es.isEmpty) = true → PW X (.BoolOp .Or es pos) (tTO k g Wx ts)
  | [], se, es, pos, X, Wx, cx, tk, ok, ne => by
    unfold okTs at ok
    rw [ok] at ne
    cases ne
  | t :: ts, se, es, pos, X, Wx, cx, tk, ok, ne => by
    unfold okTs at ok
    cases es with
    | nil => cases ok
    | cons e es =>
      simp only [Bool.and_eq_true] at ok
      cases es with
      | nil =>
        have := ok.2
        cases ts with
        | nil => exact t_or1 (sT t cx tk ok.1)
        | cons _ _ =>
          unfold okTs at this
          cases this
      | cons e2 es => exact t_or (sT t cx tk ok.1) (sTO ts cx tk ok.2 rfl)
theorem sAnd : ∀ (cs : List C) {se : SE} {es : List Expr} {pos : Pos} {X : Cx} {Wx : WX}, CxO X k gl g lv fA se → Takes X Wx → okEs gl cs se es = true → PE X (.BoolOp .And es pos) (tAn k g Wx cs)
  | [], se, es, pos, X, Wx, cx, tk, ok => ⟨fun pins s σ H Q I ⟨ι, as, h, rs, r, w⟩ => by
    dsimp only at w
    rw [evalAnd] at w
    exact w.elim⟩
  | c :: cs, se, es, pos, X, Wx, cx, tk, ok => by
    unfold okEs at ok
    cases es with
    | nil => cases ok
    | cons e es =>
      simp only [Bool.and_eq_true] at ok
      cases cs with
      | nil =>
        have := ok.2
        unfold okEs at this
        cases es with
        | nil => exact e_and1 (sE c cx tk ok.1)
        | cons _ _ => cases this
      | cons c2 cs =>
        cases es with
        | nil =>
          have := ok.2
          unfold okEs at this
          cases this
        | cons e2 es => exact e_and (sE c cx tk ok.1) (sAnd (c2 :: cs) cx tk ok.2)
theorem sOr : ∀ (cs : List C) {se : SE} {es : List Expr} {pos : Pos} {X : Cx} {Wx : WX}, CxO X k gl g lv fA se → Takes X Wx → okEs gl cs se es = true → PE X (.BoolOp .Or es pos) (tOr_ k g Wx cs)
  | [], se, es, pos, X, Wx, cx, tk, ok => ⟨fun pins s σ H Q I ⟨ι, as, h, rs, r, w⟩ => by
    dsimp only at w
    rw [evalOr] at w
    exact w.elim⟩
  | c :: cs, se, es, pos, X, Wx, cx, tk, ok => by
    unfold okEs at ok
    cases es with
    | nil => cases ok
    | cons e es =>
      simp only [Bool.and_eq_true] at ok
      cases cs with
      | nil =>
        have := ok.2
        unfold okEs at this
        cases es with
        | nil => exact e_or1 (sE c cx tk ok.1)
        | cons _ _ => cases this
      | cons c2 cs =>
        cases es with
        | nil =>
          have := ok.2
          unfold okEs at this
          cases this
        | cons e2 es => exact e_or (sE c cx tk ok.1) (sOr (c2 :: cs) cx tk ok.2)
theorem sEs : ∀ (cs : List C) {se : SE} {es : List Expr} {X : Cx} {Wx : WX}, CxO X k gl g lv fA se → Takes X Wx → okEs gl cs se es = true → PA X es (tEs k g Wx cs)
  | [], se, es, X, Wx, cx, tk, ok => by
    unfold okEs at ok
    cases es with
    | nil => exact a_nil
    | cons _ _ => cases ok
  | c :: cs, se, es, X, Wx, cx, tk, ok => by
    unfold okEs at ok
    cases es with
    | nil => cases ok
    | cons e es =>
      simp only [Bool.and_eq_true] at ok
      exact a_cons (noStar_of ok.1) (sE c cx tk ok.1) (sEs cs cx tk ok.2)
theorem sK : ∀ (cs : List C) {se : SE} {kws : List Keyword} {X : Cx} {Wx : WX}, CxO X k gl g lv fA se → Takes X Wx → kwNamed kws = true → okEs gl cs se (kwVals kws) = true → PK X kws (tEs k g Wx cs)
  | [], se, kws, X, Wx, cx, tk, kn, ok => by
    unfold okEs at ok
    cases kws with
    | nil => exact ⟨fun pos pins s σ H Q I ⟨ι, as, h, rs, r, w⟩ => pk_nil.run pos pins s σ H Q I (by
      dsimp only at w
      rw [evalEs] at w
      exact w ι H [] (Post.refl r) .nil)⟩
    | cons kw _ =>
      obtain ⟨_, _, _⟩ := kw
      cases ok
  | c :: cs, se, kws, X, Wx, cx, tk, kn, ok => by
    unfold okEs at ok
    cases kws with
    | nil => cases ok
    | cons kw kws =>
      obtain ⟨nm, e, p⟩ := kw
      simp only [kwVals, Bool.and_eq_true] at ok
      have kn2 : kwNamed kws = true := by
        cases nm with
        | none => cases kn
        | some _ => exact kn
      have h1 := sE c cx tk ok.1
      have h2 := sK cs cx tk kn2 ok.2
      exact ⟨fun pos pins s σ H Q I ⟨ι, as, h, rs, r, w⟩ => (pk_cons h1 h2).run pos pins s σ H Q I (by
        dsimp only at w
        rw [evalEs] at w
        refine (nxt (fun _ _ _ => True) kpT rs r trivial w).imp fun x H1 ⟨ι, h, wx, rs, r, _, rx, w⟩ => ?_
        refine (nxt (rel := relWs k) (fun ι n H => RelW k ι n H wx x) kpW rs r rx w).imp fun l H2 ⟨ι, h, wl, rs, r, rx, rl, w⟩ => ?_
        exact w ι H2 _ (Post.refl r) (RelWs.cons rx rl))⟩
theorem sO : ∀ (cs : List C) {se : SE} {e : Option Expr} {X : Cx} {Wx : WX}, CxO X k gl g lv fA se → Takes X Wx → okO gl cs se e = true → PO X e (tP k g Wx cs)
  | [], se, e, X, Wx, cx, tk, ok => by
    unfold okO at ok
    cases e with
    | none => exact o_none
    | some _ => cases ok
  | c :: cs, se, e, X, Wx, cx, tk, ok => by
    unfold okO at ok
    rw [Bool.and_eq_true] at ok
    obtain ⟨_, ok⟩ := ok
    cases e with
    | none => cases ok
    | some e => exact o_some (sE c cx tk ok)
theorem sIf : ∀ (ts : List T) {se : SE} {es : List Expr} {X : Cx} , CxO X k gl g lv fA se → Takes X Wf → okIf gl ts se es = true → PTs X es (tIfs k g ts)
  | [], se, es, X, cx, tk, ok => by
    unfold okIf at ok
    cases es with
    | nil => exact ⟨fun pins s σ H Q I ⟨ι, as, h, rs, r, w⟩ => pts_nil.run pins s σ H Q I (by
      dsimp only at w
      rw [evalIf] at w
      exact WPE.sameB r w)⟩
    | cons _ _ => cases ok
  | t :: ts, se, es, X, cx, tk, ok => by
    unfold okIf at ok
    rw [Bool.and_eq_true] at ok
    obtain ⟨h1, ok⟩ := ok
    split at ok
    · exact ⟨fun pins s σ H Q I ⟨ι, as, h, rs, r, w⟩ => (pts_one (sT t cx tk ok)).run pins s σ H Q I ⟨ι, as, h, rs, r, by
        dsimp only at w ⊢
        rw [evalIf] at w
        exact w⟩⟩
    · cases ok
theorem sI : ∀ (it : It) {se : SE} {e tg : Expr} {X : Cx} {Wx : WX}, CxO X k gl g lv fA se → Takes X Wx → okI gl it se e tg = true → PI X tg e (tI k g Wx it)
  | .over c, se, e, tg, X, Wx, cx, tk, ok => by
    unfold okI at ok
    exact i_over cx (sE c cx tk ok)
  | .rng cs, se, e, tg, X, Wx, cx, tk, ok => by
    unfold okI at ok
    split at ok
    · rename_i x p es pos
      simp only [Bool.and_eq_true, decide_eq_true_eq, Bool.or_eq_true] at ok
      obtain ⟨⟨⟨h1, h2⟩, h3⟩, h4⟩ := ok
      obtain ⟨l1, l2⟩ := okEs_len h3
      rcases h4 with h4 | h4
      · match es, h4, h3, l1, l2 with
        | [a], _, h3, l1, l2 => exact i_rng1 cx (g_of cx h1) h2 (by simpa using l2) (sEs cs cx tk h3) l1
      · match es, h4, h3, l1, l2 with
        | [a, b], _, h3, l1, l2 =>
          simp only [List.all_cons, List.all_nil, Bool.and_true, Bool.and_eq_true] at l2
          exact i_rng2 cx (g_of cx h1) h2 l2.1 l2.2 (sEs cs cx tk h3) l1
    · cases ok
  | .enum c, se, e, tg, X, Wx, cx, tk, ok => by
    unfold okI at ok
    split at ok
    · simp only [Bool.and_eq_true, decide_eq_true_eq] at ok
      exact i_enum cx (g_of cx ok.1.1) ok.1.2 (noStar_of ok.2) (sE c cx tk ok.2)
    · cases ok
  | .zip a b, se, e, tg, X, Wx, cx, tk, ok => by
    unfold okI at ok
    split at ok
    · simp only [Bool.and_eq_true, decide_eq_true_eq] at ok
      obtain ⟨⟨⟨h1, h2⟩, h3⟩, h4⟩ := ok
      exact i_zip cx (g_of cx h1) h2 (noStar_of h3) (noStar_of h4) (sE a cx tk h3) (sE b cx tk h4)
    · cases ok
theorem sTg : ∀ (t : Tg) {se : SE} {e : Expr} {X : Cx} {Wx : WX}, CxO X k gl g lv fA se → Takes X Wx → okTg gl t se e = true → PG X e (tG k g t)
  | .nm i, se, e, X, Wx, cx, tk, ok => by
    unfold okTg at ok
    split at ok
    · exact g_nm cx ok
    · cases ok
  | .tp ts, se, e, X, Wx, cx, tk, ok => by
    unfold okTg at ok
    split at ok
    · obtain ⟨l1, l2⟩ := okTgs_len ok
      exact g_tp cx l2 l1 (sTgs ts cx tk ok)
    · cases ok
  | .sub o i, se, e, X, Wx, cx, tk, ok => by
    unfold okTg at ok
    split at ok
    · simp only [Bool.and_eq_true] at ok
      exact g_sub cx ok.1.1 (sE o cx tk ok.1.2) (sE i cx tk ok.2)
    · cases ok
  | .attr o x, se, e, X, Wx, cx, tk, ok => by
    unfold okTg at ok
    split at ok
    · simp only [Bool.and_eq_true, decide_eq_true_eq] at ok
      obtain ⟨⟨rfl, h0⟩, h1⟩ := ok
      exact g_attr cx (sE o cx tk h1)
    · cases ok
theorem sTgs : ∀ (ts : List Tg) {se : SE} {es : List Expr} {X : Cx} {Wx : WX}, CxO X k gl g lv fA se → Takes X Wx → okTgs gl ts se es = true → PGs X es (tGs k g ts)
  | [], se, es, X, Wx, cx, tk, ok => by
    unfold okTgs at ok
    cases es with
    | nil => exact gs_nil
    | cons _ _ => cases ok
  | t :: ts, se, es, X, Wx, cx, tk, ok => by
    unfold okTgs at ok
    cases es with
    | nil => cases ok
    | cons e es =>
      simp only [Bool.and_eq_true] at ok
      exact gs_cons (okTg_star ok.1) (sTg t cx tk ok.1) (sTgs ts cx tk ok.2)
end
end AM
/-! Statements are sound; defs keep their promise. -/
namespace AM
open PySem L2
variable {k : Cst} {gl : Gl} {g : Ev} {lv : Nat} {fA : Nat → Addr}
theorem swap_eq {X : Cx} {se : SE} (hk : X.env.scope.kind = .function) (hs : X.env.scope = se.sc) {tg v : Expr} {r : Option (List Str)} (h : swapS [tg] v se = some r) : swappedStores [tg] v X.env = pure r := by
  have hb : (X.env.blockKind != .function) = false := by
    unfold Env.blockKind
    rw [hk]
    rfl
  cases tg with
  | Tuple ts kt pt =>
    cases v with
    | Tuple vs k2 pt2 =>
      unfold swapS at h
      unfold swappedStores
      dsimp only at h ⊢
      rw [hb, Bool.or_false]
      have hkk : ∀ id, X.env.kindOf id = se.sc.names.lookup id := fun id => by
        show X.env.scope.names.lookup id = _
        rw [hs]
      simp only [hkk]
      split at h
      · rename_i c
        cases h
        exact if_pos c
      · rename_i c
        refine (if_neg c).trans ?_
        split at h
        · rename_i c
          cases h
          exact if_pos c
        · rename_i c
          refine (if_neg c).trans ?_
          split at h
          · rename_i c
            cases h
            exact if_pos c
          · rename_i c
            refine (if_neg c).trans ?_
            split at h
            · rename_i c
              cases h
              exact if_pos c
            · rename_i c
              refine (if_neg c).trans ?_
              split at h
              · cases h
              · rename_i c
                refine (if_neg c).trans ?_
                cases h
                rfl
    | _ =>
      cases h
      rfl
  | List ts pt =>
    cases v with
    | Tuple _ _ _ => cases h
    | _ =>
      cases h
      rfl
  | _ =>
    cases h
    rfl
/-- the names of several targets are their slots' -/
theorem names_of {X : Cx} {se : SE} (cx : CxO X k gl g lv fA se) {n0 : Nat} : ∀ {es : List Expr} {ts : List Tg}, okTgs gl ts se es = true → ∀ {names : List Str}, names = es.filterMap (fun e => match e with
      | .Name id pos => if (se.sc.names.lookup id == some .local && pos.line == n0) = true then some id else none
      | _ => none) → names.length = es.length → ∃ is, ts = is.map .nm ∧ Paired (fun x i => X.N[i]? = some x ∧ X.env.scope.names.lookup x = some .local) names is
  | [], ts, ok, names, e, hl => by
    have := (okTgs_len ok).1
    have e1 : ts = [] := List.eq_nil_of_length_eq_zero this
    subst e1
    subst e
    exact ⟨[], rfl, .nil⟩
  | x :: es, ts, ok, names, e, hl => by
    cases ts with
    | nil =>
      have := (okTgs_len ok).1
      cases this
    | cons t ts =>
      unfold okTgs at ok
      simp only [Bool.and_eq_true] at ok
      rw [List.filterMap_cons] at e
      split at e
      · exfalso
        have := List.length_filterMap_le (fun e => match e with
          | .Name id pos => if (se.sc.names.lookup id == some .local && pos.line == n0) = true then some id else none
          | _ => none) es
        rw [← e, hl, List.length_cons] at this
        omega
      · rename_i id eid
        subst e
        rw [List.length_cons, List.length_cons] at hl
        obtain ⟨is, e1, p⟩ := names_of (n0 := n0) cx ok.2 rfl (by omega)
        cases x with
        | Name y pos =>
          dsimp only at eid
          split at eid
          · rename_i c
            cases eid
            rw [Bool.and_eq_true, beq_iff_eq] at c
            have ok1 := ok.1
            cases t with
            | nm i =>
              unfold okTg at ok1
              obtain ⟨h1, _, _⟩ := loc_of cx ok1
              exact ⟨i :: is, by rw [e1]; rfl, .cons ⟨h1, by rw [cx.sc]; exact c.1⟩ p⟩
            | _ => unfold okTg at ok1; cases ok1
          · cases eid
        | _ => cases eid
theorem swap_some {se : SE} {tg v : Expr} {names : List Str} (h : swapS [tg] v se = some (some names)) : ∃ ts kt pt vs k2 pt2 n0, tg = .Tuple ts kt pt ∧ v = .Tuple vs k2 pt2 ∧ names = ts.filterMap (fun e => match e with
      | .Name id pos => if (se.sc.names.lookup id == some .local && pos.line == n0) = true then some id else none
      | _ => none) ∧ names.length = ts.length := by
  cases tg with
  | Tuple ts kt pt =>
    cases v with
    | Tuple vs k2 pt2 =>
      unfold swapS at h
      dsimp only at h
      split at h
      · cases h
      · split at h
        · cases h
        · split at h
          · cases h
          · rename_i c
            split at h
            · cases h
            · split at h
              · cases h
              · cases h
                refine ⟨ts, kt, pt, vs, k2, pt2, _, rfl, rfl, rfl, ?_⟩
                simp only [Bool.or_eq_true, not_or, bne_iff_ne, ne_eq, Decidable.not_not] at c
                exact c.1
    | _ => cases h
  | List ts pt =>
    cases v with
    | Tuple _ _ _ => cases h
    | _ => cases h
  | _ => cases h
theorem slots_nm : ∀ {is : List Nat}, slotsTs (is.map .nm) = is
  | [] => rfl
  | i :: is => by
    rw [List.map_cons]
    unfold slotsTs slotsT
    rw [slots_nm]
    rfl
/-- y = [..]: the store is in the comprehension or behind it -/
theorem swaps_lc {X : Cx} {y : Expr} {gs : List Comprehension} {scope : Scope} {p : Pos} {tg : Expr} {n : Nat} (h : (match tg with
    | .Name _ _ => true
    | .Attribute _ _ _ => true
    | _ => false) = true) : swapsWith (.ListComp y gs scope p) (some tg) n X.env = pure false ∨ ∃ yn py, tg = .Name yn py ∧ X.env.kindOf yn = some .local ∧ swapsWith (.ListComp y gs scope p) (some tg) n X.env = pure true := by
  cases tg with
  | Attribute _ _ _ => exact .inl rfl
  | Name yn py =>
    have e : swapsWith (.ListComp y gs scope p) (some (.Name yn py)) n X.env = pure (X.env.blockKind == .function && X.env.kindOf yn == some .local && py.line == p.line
      && !(scope.names.any fun (n, k) => n == yn && (k == .local || k == .cell))) := rfl
    cases hb : (X.env.blockKind == .function && X.env.kindOf yn == some .local && py.line == p.line
      && !(scope.names.any fun (n, k) => n == yn && (k == .local || k == .cell))) with
    | false =>
      rw [hb] at e
      exact .inl e
    | true =>
      rw [hb] at e
      simp only [Bool.and_eq_true, beq_iff_eq] at hb
      exact .inr ⟨yn, py, rfl, hb.1.1.2, e⟩
  | _ => cases h
mutual
theorem sS : ∀ (s : S) {se : SE} {st : Stmt} {X : Cx} {Wx : WX}, CxS X k gl g lv fA se Wx → okS gl se s st = true → PS X st (tS k g Wx s)
  | .asg t c, se, st, X, Wx, cs, ok => by
    unfold okS at ok
    split at ok
    · rename_i tg v pos
      simp only [Bool.and_eq_true, Bool.or_eq_true] at ok
      obtain ⟨⟨⟨h1, h2⟩, h3⟩, h4⟩ := ok
      have hg := sTg t cs.toCxO cs.tk h1
      have he := sE c cs.toCxO cs.tk h2
      have hst := okTg_star h1
      split at h4
      · cases h4
      · rename_i hsw
        have hw := swap_eq cs.fun_ cs.sc hsw
        by_cases hn : noComp v = true
        · exact s_asg he hg hst (noComp_of hn) hw
        · rcases h3 with h3 | h3
          · exact absurd h3 hn
          · cases v with
            | ListComp y gs scope p =>
              rcases swaps_lc (X := X) (y := y) (gs := gs) (scope := scope) (p := p) (n := pos.line) h3 with q | ⟨yn, py, rfl, hl, q⟩
              · exact s_asg he hg hst q hw
              · cases t with
                | nm n =>
                  unfold okTg at h1
                  obtain ⟨z1, z2, z3⟩ := loc_of cs.toCxO h1
                  cases c with
                  | comp own tg it ifs elt =>
                    unfold okE at h2
                    split at h2
                    · rename_i y2 t2 i2 fs2 sc2 p2 hv
                      cases hv
                      simp only [Bool.and_eq_true] at h2
                      obtain ⟨⟨⟨⟨⟨⟨k1, k2⟩, k3⟩, k4⟩, k5⟩, k6⟩, k7⟩ := h2
                      have cx := cs.toCxO
                      have tk := cs.tk
                      exact s_setLc cx ⟨sI it cx tk k4, blkOk_by (by rw [cx.N, cx.sc]; exact k1), slots_in k2, fun s H C cl fp => sTg tg (cx.blk _ s H C cl fp) takes_blk k5, fun s H C cl fp => sIf ifs (cx.blk _ s H C cl fp) takes_blk k6, fun s H C cl fp => sE elt (cx.blk _ s H C cl fp) takes_blk k7, k3⟩ z1 hl q
                    · cases h2
                  | _ => unfold okE at h2; cases h2
                | _ => unfold okTg at h1; cases h1
            | SetComp _ _ _ _ => cases c <;> (unfold okE at h2; cases h2)
            | DictComp _ _ _ _ _ => cases c <;> (unfold okE at h2; cases h2)
            | _ => exact absurd rfl hn
      · rename_i names hsw
        have hw := swap_eq cs.fun_ cs.sc hsw
        obtain ⟨ts, kt, pt, vs, k2, pt2, n0, rfl, rfl, e1, e2⟩ := swap_some hsw
        have nd := of_decide_eq_true h4
        cases t with
        | tp tgs =>
          unfold okTg at h1
          obtain ⟨is, rfl, p⟩ := names_of cs.toCxO h1 e1 e2
          cases c with
          | tup ccs =>
            unfold okE at h2
            unfold slotsT at nd
            rw [slots_nm] at nd
            exact s_par cs.toCxO p nd (sEs ccs cs.toCxO cs.tk h2) hw
          | _ => unfold okE at h2; cases h2
        | _ => unfold okTg at h1; cases h1
    · cases ok
  | .aug t op c, se, st, X, Wx, cs, ok => by
    unfold okS at ok
    split at ok
    · simp only [Bool.and_eq_true, Bool.or_eq_true, decide_eq_true_eq, beq_iff_eq] at ok
      obtain ⟨⟨⟨⟨h1, h2⟩, rfl⟩, h4⟩, h5⟩ := ok
      exact s_aug cs.toCxO h1 h5 (sE c cs.toCxO cs.tk h4)
    · cases ok
  | .iff t a b, se, st, X, Wx, cs, ok => by
    unfold okS at ok
    split at ok
    · simp only [Bool.and_eq_true] at ok
      exact s_iff (sT t cs.toCxO cs.tk ok.1.1) (sSs a cs ok.1.2) (sSs b cs ok.2)
    · cases ok
  | .for_ t it b, se, st, X, Wx, cs, ok => by
    unfold okS at ok
    split at ok
    · simp only [Bool.and_eq_true] at ok
      obtain ⟨⟨⟨h1, h2⟩, h3⟩, h4⟩ := ok
      exact s_for cs (sI it cs.toCxO cs.tk h2) (sTg t cs.toCxO cs.tk h3) (sSs b cs h4) h1
    · cases ok
  | .whl t b, se, st, X, Wx, cs, ok => by
    unfold okS at ok
    split at ok
    · simp only [Bool.and_eq_true] at ok
      exact s_whl cs (sT t cs.toCxO cs.tk ok.1) (sSs b cs ok.2)
    · cases ok
  | .ret e, se, st, X, Wx, cs, ok => by
    unfold okS at ok
    split at ok
    · exact s_ret (sE e cs.toCxO cs.tk ok)
    · cases ok
  | .retn, se, st, X, Wx, cs, ok => by
    unfold okS at ok
    split at ok
    · exact s_retn
    · cases ok
  | .raise c fs cs', se, st, X, Wx, cs, ok => by
    unfold okS at ok
    split at ok
    · exact s_raise cs (g_of cs.toCxO ok)
    · cases ok
  | .try_ b hd, se, st, X, Wx, cs, ok => by
    unfold okS at ok
    split at ok
    · simp only [Bool.and_eq_true, decide_eq_true_eq, Bool.not_eq_true'] at ok
      obtain ⟨⟨⟨⟨⟨⟨⟨⟨⟨h1, h2⟩, rfl⟩, h4⟩, h5⟩, h6⟩, h7⟩, h8⟩, h9⟩, h10⟩ := ok
      obtain ⟨z1, _, _⟩ := loc_of cs.toCxO h4
      exact s_try cs (g_of cs.toCxO h2) (by rw [cs.N]; exact h5) (by rw [cs.sc]; exact h7) z1 (by rw [cs.sc]; exact h10) h6 h8 h9 fun W X' cs' e => sSs b cs' h1
    · cases ok
  | .ex e, se, st, X, Wx, cs, ok => by
    unfold okS at ok
    split at ok
    · rw [Bool.and_eq_true] at ok
      exact s_ex (sE e cs.toCxO cs.tk ok.1) ok.2
    · cases ok
  | .pass, se, st, X, Wx, cs, ok => by
    unfold okS at ok
    split at ok
    · exact s_pass
    · cases ok
  | .brk, se, st, X, Wx, cs, ok => by
    unfold okS at ok
    split at ok
    · exact s_brk
    · cases ok
  | .cont, se, st, X, Wx, cs, ok => by
    unfold okS at ok
    split at ok
    · exact s_cont
    · cases ok
  | .never, se, st, X, Wx, cs, ok => s_never
theorem sSs : ∀ (ss : List S) {se : SE} {sts : List Stmt} {X : Cx} {Wx : WX}, CxS X k gl g lv fA se Wx → okSs gl se ss sts = true → PSs X sts (tSs k g Wx ss)
  | [], se, sts, X, Wx, cs, ok => by
    unfold okSs at ok
    cases sts with
    | nil => exact ss_nil
    | cons _ _ => cases ok
  | s :: ss, se, sts, X, Wx, cs, ok => by
    unfold okSs at ok
    cases sts with
    | nil => cases ok
    | cons st sts =>
      simp only [Bool.and_eq_true] at ok
      exact ss_cons (sS s cs ok.1) (sSs ss cs ok.2)
end
end AM
/-! Defs keep their promise, by the fuel. -/
namespace AM
open PySem L2
section
variable {k : Cst} {gl : Gl} {g : Ev} {lv : Nat} {fA : Nat → Addr} {ι ι1 ι2 : Nat → Addr} {n n' : Nat} {H H1 H2 : Hp} {h h1 h2 : AH}
mutual
theorem relW_flat : ∀ (w : W) {v : V}, W.flat w = true → RelW k ι n H w v → RelW k ι1 n' H w v
  | .non, v, _, e => by simpa only [RelW] using e
  | .bl _, v, _, e => by simpa only [RelW] using e
  | .int _, v, _, e => by simpa only [RelW] using e
  | .str _, v, _, e => by simpa only [RelW] using e
  | .scr, v, _, e => by simpa only [RelW] using e
  | .loc _, v, f, e => by cases f
  | .exo _ _ _, v, f, e => by cases f
  | .tup ws, v, f, e => by
    unfold RelW at e ⊢
    obtain ⟨a, vs, e1, e2, e3⟩ := e
    exact ⟨a, vs, e1, e2, relWs_flat ws (by simpa only [W.flat] using f) e3⟩
theorem relWs_flat : ∀ (ws : List W) {vs : List V}, W.flats ws = true → RelWs k ι n H ws vs → RelWs k ι1 n' H ws vs
  | [], vs, _, e => by
    unfold RelWs at e ⊢
    exact e
  | w :: ws, vs, f, e => by
    unfold RelWs at e ⊢
    unfold W.flats at f
    rw [Bool.and_eq_true] at f
    obtain ⟨v, r, e1, e2, e3⟩ := e
    exact ⟨v, r, e1, relW_flat w f.1 e2, relWs_flat ws f.2 e3⟩
end
/-- the machine's heap behind ours -/
def both (ι ι2 : Nat → Addr) (n : Nat) : Nat → Addr := fun l => if l < n then ι l else ι2 (l - n)
mutual
theorem relW_shift {m : Nat} : ∀ (w : W) {v : V}, RelW k ι2 m H w v → RelW k (both ι ι2 n) (n + m) H (W.shift n w) v
  | .non, v, e => by simpa only [RelW, W.shift] using e
  | .bl _, v, e => by simpa only [RelW, W.shift] using e
  | .int _, v, e => by simpa only [RelW, W.shift] using e
  | .str _, v, e => by simpa only [RelW, W.shift] using e
  | .scr, v, e => by simpa only [RelW, W.shift] using e
  | .exo _ _ _, v, e => by simpa only [RelW, W.shift] using e
  | .loc l, v, e => by
    unfold W.shift
    unfold RelW at e ⊢
    refine ⟨by omega, ?_⟩
    unfold both
    rw [if_neg (by omega), show l + n - n = l by omega]
    exact e.2
  | .tup ws, v, e => by
    unfold W.shift
    unfold RelW at e ⊢
    obtain ⟨a, vs, e1, e2, e3⟩ := e
    exact ⟨a, vs, e1, e2, relWs_shift ws e3⟩
theorem relWs_shift {m : Nat} : ∀ (ws : List W) {vs : List V}, RelWs k ι2 m H ws vs → RelWs k (both ι ι2 n) (n + m) H (W.shifts n ws) vs
  | [], vs, e => by
    unfold W.shifts
    unfold RelWs at e ⊢
    exact e
  | w :: ws, vs, e => by
    unfold W.shifts
    unfold RelWs at e ⊢
    obtain ⟨v, r, e1, e2, e3⟩ := e
    exact ⟨v, r, e1, relW_shift w e2, relWs_shift ws e3⟩
end
theorem relF_shift {m : Nat} : ∀ {fs : List (Str × W)} {vs : List (Str × V)}, RelF k ι2 m H fs vs → RelF k (both ι ι2 n) (n + m) H (fs.map fun p => (p.1, p.2.shift n)) vs
  | [], vs, e => e
  | p :: ps, vs, e => by
    obtain ⟨v, r, e1, e2, e3⟩ := e
    exact ⟨v, r, e1, relW_shift p.2 e2, relF_shift e3⟩
theorem relO_shift {m : Nat} {a : Addr} {o : O} (e : RelO k ι2 m H a o) : RelO k (both ι ι2 n) (n + m) H a (o.shift n) := by
  cases o with
  | lst ws =>
    obtain ⟨vs, e1, e2⟩ := e
    exact ⟨vs, e1, relWs_shift ws e2⟩
  | ins c fs =>
    obtain ⟨dx, vs, e1, e2⟩ := e
    exact ⟨dx, vs, e1, relF_shift e2⟩
  | dic _ => exact e
/-- a run over an empty heap of ours: what was there stays -/
theorem run0 (p : Post k ι1 [] H ι2 h2 H2) (r : R k ι h H) : Post k ι h H ι h H2 := by
  have fr : ∀ a o, H a = some o → H2 a = some o := fun a o e => p.fr a o e fun l hl => absurd hl (Nat.not_lt_zero _)
  have kp : Keep k ι h.length H ι h.length H2 := keep_of r (Nat.le_refl _) (fun _ _ => rfl) fun a o e _ => fr a o e
  refine ⟨Nat.le_refl _, fun _ _ => rfl, ⟨fun l o e => (r.obj l o e).keep kp fun ho z => fr _ _ z, r.inj, p.rel.scr.sq, ?_⟩, fun a o e _ => fr a o e, fun l a b => absurd (Nat.lt_of_lt_of_le b a) (Nat.lt_irrefl _)⟩
  rcases r.scr.ap with q | ⟨q1, q2⟩
  · exact .inl q
  · refine .inr ⟨?_, q2⟩
    rcases q1 with q | ⟨o, q⟩
    · exact .inl (fr _ _ q)
    · exact .inr ⟨o, fr _ _ q⟩
theorem run0_one (p : Post k ι1 [] H ι2 h2 H2) (r : R k ι h H) {l : Nat} {ws : List W} (hl : h2[l]? = some (.lst ws)) (hf : W.flats ws = true) : Post k ι h H (snoc ι h.length (ι2 l)) (h ++ [.lst ws]) H2 := by
  have q := run0 p r
  have hlt : l < h2.length := (List.getElem?_eq_some_iff.mp hl).1
  have hn : H (ι2 l) = none := p.new l (Nat.zero_le _) hlt
  obtain ⟨vs, e, rv⟩ := p.rel.lst hl
  refine Post.adopt q hn (fun m hm z => ?_) r.scrH e (relWs_flat ws hf rv)
  obtain ⟨o, e'⟩ := r.has hm
  rw [z, hn] at e'
  cases e'
theorem run0_all (p : Post k ι1 [] H ι2 h2 H2) (r : R k ι h H) : Post k ι h H (both ι ι2 h.length) (h ++ h2.map (O.shift h.length)) H2 := by
  have q := run0 p r
  have ln : (h ++ h2.map (O.shift h.length)).length = h.length + h2.length := by simp
  have old : ∀ l, l < h.length → both ι ι2 h.length l = ι l := fun l hl => if_pos hl
  have new : ∀ l, h.length ≤ l → both ι ι2 h.length l = ι2 (l - h.length) := fun l hl => if_neg (by omega)
  have hn : ∀ l, l < h2.length → H (ι2 l) = none := fun l hl => p.new l (Nat.zero_le _) hl
  have kp : Keep k ι h.length H2 (both ι ι2 h.length) (h ++ h2.map (O.shift h.length)).length H2 := ⟨by rw [ln]; omega, old, fun _ _ z => z, fun _ _ _ z => z⟩
  have ap : ∀ l m, l < h.length → m < h2.length → ι l ≠ ι2 m := fun l m hl hm z => by
    obtain ⟨o, e⟩ := r.has hl
    rw [z, hn m hm] at e
    cases e
  refine ⟨by rw [ln]; omega, old, ⟨fun l o e => ?_, fun l m hl hm e => ?_, p.rel.scr.sq, ?_⟩, q.fr, fun l a b => ?_⟩
  · by_cases hl : l < h.length
    · rw [List.getElem?_append_left hl] at e
      rw [old l hl]
      exact (q.rel.obj l o e).keep kp fun ho z => z
    · rw [List.getElem?_append_right (by omega), List.getElem?_map] at e
      obtain ⟨o', e1, rfl⟩ := Option.map_eq_some_iff.mp e
      rw [new l (by omega), ln]
      exact relO_shift (p.rel.obj _ o' e1)
  · rw [ln] at hl hm
    by_cases h1 : l < h.length
    · by_cases h2' : m < h.length
      · rw [old l h1, old m h2'] at e
        exact r.inj l m h1 h2' e
      · rw [old l h1, new m (by omega)] at e
        exact absurd e (ap l _ h1 (by omega))
    · by_cases h2' : m < h.length
      · rw [new l (by omega), old m h2'] at e
        exact absurd e.symm (ap m _ h2' (by omega))
      · rw [new l (by omega), new m (by omega)] at e
        have := p.rel.inj _ _ (by omega) (by omega) e
        omega
  · rcases q.rel.scr.ap with z | ⟨z1, z2⟩
    · exact .inl z
    · rcases r.scr.ap with z | ⟨y1, y2⟩
      · exact .inl z
      · refine .inr ⟨z1, fun l hl => ?_⟩
        by_cases h1 : l < h.length
        · rw [old l h1]
          exact z2 l h1
        · rw [new l (by omega)]
          intro z
          have := hn (l - h.length) (by rw [ln] at hl; omega)
          rw [z] at this
          rcases y1 with y | ⟨o, y⟩
          · rw [y] at this
            cases this
          · rw [y] at this
            cases this
  · rw [ln] at b
    rw [new l a]
    exact hn _ (by omega)
end
end AM
/-! A def's promise, from its body; all defs, by the fuel. -/
namespace AM
open PySem L2
section
variable {k : Cst} {gl : Gl} {g : Ev} {lv : Nat} {fA : Nat → Addr} {ι ι1 ι2 : Nat → Addr} {n n' : Nat} {H H1 H2 : Hp} {h h1 h2 : AH} {Wx : WX} {σ : L2.St}
theorem pull_ok {w : W} {v : V} {Q : VK} (r : R k ι h H) (p : Post k ι1 [] H ι2 h2 H2) (rv : RelW k ι2 h2.length H2 w v) (q : WPE k Wx σ (pull h h2 w) ι h H (relW k) Q) : Q v H2 := by
  have all : WPE k Wx σ (.ok (w.shift h.length) (h ++ h2.map (O.shift h.length))) ι h H (relW k) Q → Q v H2 := fun q => by
    refine q _ _ _ (run0_all p r) ?_
    have := relW_shift (ι := ι) (n := h.length) w rv
    unfold relW
    rw [show (h ++ h2.map (O.shift h.length)).length = h.length + h2.length by simp]
    exact this
  unfold pull at q
  split at q
  · rename_i l
    split at q
    · rename_i ws e
      split at q
      · rename_i hf
        refine q _ _ _ (run0_one p r e hf) ?_
        unfold RelW at rv
        unfold relW RelW
        exact ⟨by simp, by rw [snoc_eq]; exact rv.2⟩
      · exact all q
    · exact all q
  · split at q
    · rename_i hf
      exact q _ _ _ (run0 p r) (relW_flat _ hf rv)
    · exact all q
theorem relF_flat : ∀ {xs : List Str} {ws : List W} {fvs : List (Str × V)}, W.flats ws = true → RelF k ι n H (xs.zip ws) fvs → RelF k ι1 n' H (xs.zip ws) fvs
  | [], _, _, _, e => e
  | _ :: _, [], _, _, e => e
  | x :: xs, w :: ws, fvs, f, e => by
    unfold W.flats at f
    rw [Bool.and_eq_true] at f
    obtain ⟨v, r, e1, e2, e3⟩ := e
    exact ⟨v, r, e1, relW_flat w f.1 e2, relF_flat f.2 e3⟩
theorem exD_flat {d : Option Addr} {xs : List Str} {ws : List W} (f : W.flats ws = true) (e : ExD k ι n H d xs ws) : ExD k ι1 n' H d xs ws := by
  rcases e with e | ⟨e1, dd, fvs, e2, e3, e4⟩
  · exact .inl e
  · exact .inr ⟨e1, dd, fvs, e2, e3, relF_flat f e4⟩
theorem relS_start {N : List Str} {ws : List W} {vs : List V} (rv : RelWs k ι n H ws vs) : RelS k ι n H (startA N.length ws) (L2.start N vs) := by
  have hl := rv.len
  unfold startA L2.start
  refine ⟨by simp [hl], fun i w e => ?_⟩
  by_cases hi : i < ws.length
  · rw [List.getElem?_append_left (by simpa using hi), List.getElem?_map] at e
    obtain ⟨w', e1, e2⟩ := Option.map_eq_some_iff.mp e
    cases e2
    obtain ⟨v, e3, e4⟩ := rv.get e1
    exact ⟨v, by rw [List.getElem?_append_left (by simp; omega), List.getElem?_map, e3]; rfl, e4⟩
  · rw [List.getElem?_append_right (by simpa using hi), List.getElem?_replicate] at e
    split at e <;> cases e
/-- the body's end is the call's -/
theorem body_ok {d : DefC} {ws : List W} {vs : List V} {Q : VK} {E : XK} (r : R k ι h H) (rv : RelWs k ι h.length H ws vs) (w : WPE k (fun c d _ H => E c d H) [] (runBody g d ws h) ι h H (relW k) Q) :
    tSs k g (fun c d _ H => E c d H) d.body { nx := fun _ H' => Q .non H', rt := Q } (L2.start d.ns vs) H := by
  refine ⟨ι, startA d.ns.length ws, h, relS_start rv, r, ?_⟩
  dsimp only
  unfold runBody at w
  revert w
  cases evalSs g d.body (startA d.ns.length ws) h with
  | next as' h' => exact fun w ι' H' σ' p e => w ι' H' .non p (by unfold relW RelW; rfl)
  | ret w' h' => exact fun w => w
  | exc c xs ws' as' h' => exact fun w ι' H' d σ' p e ed => w ι' H' d p ed
  | brk _ _ => exact fun w => w.elim
  | cont _ _ => exact fun w => w.elim
  | stuck => exact fun w => w.elim
/-- .. where it ran on a heap of its own -/
theorem body_flat {d : DefC} {ws : List W} {vs : List V} {Q : VK} {E : XK} (r : R k ι h H) (rv : RelWs k ι h.length H ws vs) (f : W.flats ws = true)
    (w : WPE k (fun c d _ H => E c d H) [] (match runBody g d ws [] with
      | .ok w h2 => pull h h2 w
      | .exc c xs vs _ => if W.flats vs then .exc c xs vs h else .stuck
      | .stuck => .stuck) ι h H (relW k) Q) :
    tSs k g (fun c d _ H => E c d H) d.body { nx := fun _ H' => Q .non H', rt := Q } (L2.start d.ns vs) H := by
  have r0 : R k ι [] H := by
    refine ⟨fun l o e => (by simp at e), fun l m hl => absurd hl (Nat.not_lt_zero _), r.scr.sq, ?_⟩
    rcases r.scr.ap with q | ⟨q1, q2⟩
    · exact .inl q
    · exact .inr ⟨q1, fun l hl => absurd hl (Nat.not_lt_zero _)⟩
  refine ⟨ι, startA d.ns.length ws, [], relS_start (relWs_flat ws f rv), r0, ?_⟩
  dsimp only
  unfold runBody at w
  revert w
  cases evalSs g d.body (startA d.ns.length ws) [] with
  | next as' h' => exact fun w ι' H' σ' p e => pull_ok r p (by unfold RelW; rfl) w
  | ret w' h' => exact fun w ι' H' v p e => pull_ok r p e w
  | exc c xs ws' as' h' =>
    intro w ι' H' d σ' p e ed
    have w : WPE k (fun c d _ H => E c d H) [] (if W.flats ws' then .exc c xs ws' h else .stuck) ι h H (relW k) Q := w
    split at w
    · rename_i hf
      exact w ι H' d (run0 p r) (exD_flat hf ed)
    · exact w.elim
  | brk _ _ => exact fun w => w.elim
  | cont _ _ => exact fun w => w.elim
  | stuck => exact fun w => w.elim
theorem okScope_fn {d : DefC} {sc : Scope} (h : okScope d sc = true) : FnScope d.ns d.ps sc := by
  unfold okScope at h
  simp only [Bool.and_eq_true, decide_eq_true_eq, Bool.not_eq_true', List.all_eq_true] at h
  obtain ⟨⟨⟨⟨⟨⟨h1, h2⟩, h3⟩, h4⟩, h5⟩, h6⟩, h7⟩ := h
  refine ⟨?_, h2, h3, h4, h5, fun x hx => ?_, fun y hy e => ?_⟩
  · split at h1
    · assumption
    · cases h1
  · have := h6 x hx
    split at this
    · exact .inl (by assumption)
    · exact .inr (by assumption)
    · cases this
  · have := h7 y hy
    rw [e] at this
    cases this
/-- what is known of a def without its body's run -/
structure DefS (P : Program) (w : World) (mg : Str → Option Value) (k : Cst) (gl : Gl) (gc : Gc) (f : Nat) (d : DefC) (a : Addr) : Prop where
  ex : ∃ (name qual : Str) (params : Arguments) (body : List Stmt) (scope : Scope) (oc : Value) (od : Option Addr) (kV doc pm : Value) (an : Option Addr) (cdv ct : Value) (osl : Array (Option Value)),
    k.K.lookup a = some ⟨oc, od, .func (PySem.W.fnOf name qual params body scope .none kV doc pm an cdv ct), osl⟩ ∧ PySem.W.codeIn k.K cdv qual = true ∧
    (d.body = [.never] ∨ (okScope d scope = true ∧ okSs gl ⟨d.ns, scope, fun _ => true⟩ d.body body = true)) ∧
    (∀ us : List Value, us.length = d.ps.length → bindArgs (PySem.W.fnOf name qual params body scope .none kV doc pm an cdv ct) ⟨us, []⟩ = pure (d.ps.zip us)) ∧
    ∀ n ks, (f, n, ks) ∈ gc.kws → ∀ (us ws vs : List Value), us.length = n → ws.length = ks.length → (permOf d.ps n ks).bind (pick (us ++ ws)) = some vs → bindArgs (PySem.W.fnOf name qual params body scope .none kV doc pm an cdv ct) ⟨us, ks.zip ws⟩ = pure (d.ps.zip vs)
  kp : PySem.W.keepIn k.K (.ref a) = true
theorem callF_len {gc : Gc} {sc : List Int} {m f : Nat} {ws : List W} {h : AH} {d : DefC} (hd : gc.defs[f]? = some d) (hl : ws.length ≠ d.ps.length) : callF gc sc m f ws h = .stuck := by
  cases m with
  | zero => rfl
  | succ m =>
    unfold callF
    rw [hd]
    simp [hl]
theorem callF_never {gc : Gc} {sc : List Int} {m f : Nat} {ws : List W} {h : AH} {d : DefC} (hd : gc.defs[f]? = some d) (hl : d.body = [.never]) : callF gc sc m f ws h = .stuck := by
  cases m with
  | zero => rfl
  | succ m =>
    unfold callF
    rw [hd]
    dsimp only
    have e : ∀ g h, runBody g d ws h = .stuck := fun g h => by
      unfold runBody
      rw [hl, evalSs, evalS]
      rfl
    split
    · split
      · rw [e]
      · rw [e]
    · rfl
theorem fnS_zero {P : Program} {w : World} {mg : Str → Option Value} {base : Heap} {gc : Gc} {sc : List Int} {f : Nat} {d : DefC} {a : Addr} (D : DefS P w mg k gl gc f d a) : FnS P w mg base k ⟨gc, sc, callF gc sc 0⟩ 0 f d a := by
  obtain ⟨⟨name, qual, params, body, scope, oc, od, kV, doc, pm, an, cdv, ct, osl, e1, e2, e3, e4, e5⟩, kp⟩ := D
  refine ⟨⟨_, ⟨_, _, _, e1⟩, ⟨fun sp => sp.1, fun _ _ _ _ _ ⟨_, ι, h, ws, _, _, q⟩ => q.elim⟩, Binds.all e4, e5⟩, kp⟩
/-- one step of fuel -/
theorem fnS_succ {P : Program} {w : World} {mg : Str → Option Value} {base : Heap} {gc : Gc} {sc : List Int} {m f : Nat} {d : DefC} {a : Addr} (hw : w = k.w) (D : DefS P w mg k gl gc f d a) (hd : gc.defs[f]? = some d) (fx : Fx P w mg base k gl ⟨gc, sc, callF gc sc m⟩ (3 * m) fA) :
    FnS P w mg base k ⟨gc, sc, callF gc sc (m + 1)⟩ (3 * (m + 1)) f d a := by
  obtain ⟨⟨name, qual, params, body, scope, oc, od, kV, doc, pm, an, cdv, ct, osl, e1, e2, e3, e4, e5⟩, kp⟩ := D
  refine ⟨⟨_, ⟨_, _, _, e1⟩, ?_, Binds.all e4, e5⟩, kp⟩
  rcases e3 with e3 | ⟨e3, e6⟩
  · refine ⟨fun sp => sp.1, fun {A outer s H args us vs Q E} _ _ _ _ _ ⟨_, ι, h, ws, _, _, q⟩ => ?_⟩
    dsimp only at q
    rw [callF_never hd e3] at q
    exact q.elim
  · have FS := okScope_fn e3
    refine fng_of (k := 3 * m + 2) (N := d.ns) e1 e2 FS (fun sp => sp.1) fun {A outer s H vs Q E} hr hq sp => ?_
    obtain ⟨hl, ι, h, ws, r, rv, q⟩ := sp
    have cs : CxS (cxOf (L2.CX P w) P w k.K mg base d.ns qual scope a cdv A outer s H E) k gl ⟨gc, sc, callF gc sc m⟩ (3 * m) fA ⟨d.ns, scope, fun _ => true⟩ (fun cls d _ H => E cls d H) :=
      { K := rfl, w := hw, quiet := hq, calm := rfl, N := rfl, sc := rfl, fn := fun _ _ => rfl, nd := FS.nd, room := hr, fx := fx, fun_ := FS.kind, stk := rfl, frm := rfl, exn := rfl, own := passes_of rfl, tk := takes_of rfl rfl rfl rfl }
    refine ⟨_, sSs d.body cs e6, ?_⟩
    dsimp only at q
    unfold callF at q
    rw [hd] at q
    dsimp only at q
    split at q
    · split at q
      · rename_i hf
        exact body_flat r rv hf q
      · exact body_ok r rv q
    · exact q.elim
/-- the program's facts without the defs' runs -/
structure FxS (P : Program) (w : World) (mg : Str → Option Value) (k : Cst) (gl : Gl) (gc : Gc) (fA : Nat → Addr) : Prop where
  gfn : ∀ x f, gl.lookup x = some (.fn f) → mg x = some (.ref (fA f)) ∧ ∃ d, gc.defs[f]? = some d
  gcl : ∀ x c, gl.lookup x = some (.cls c) → mg x = some (.ref (k.cA c)) ∧ PySem.W.keepIn k.K (.ref (k.cA c)) = true
  gbl : ∀ x, gl.lookup x = some .blt → mg x = none
  gco : ∀ x v, gl.lookup x = some (.con v) → gloW v = true → ∃ u V, mg x = some u ∧ L2.RelV V u ∧ ∀ ι n H, RelW k ι n H v V
  dfs : ∀ f d, gc.defs[f]? = some d → DefS P w mg k gl gc f d (fA f)
  cl : ∀ c cl, gc.clss.lookup c = some cl → ClsS k fA c cl
  met : ∀ c cl m f, gc.clss.lookup c = some cl → cl.meths.lookup m = some f → ∃ d, gc.defs[f]? = some d
  prp : ∀ c cl m f, gc.clss.lookup c = some cl → cl.props.lookup m = some f → ∃ d, gc.defs[f]? = some d
  exr : ∀ c, c ∈ gc.rais → PySem.W.excIn k.K (k.cA c) He.veBase "ValueError.__new__" = true ∧ PySem.W.subIn k.K (.ref (k.cA c)) (.type "BaseException") = some true ∧ PySem.W.typeIn k.K (.ref (k.cA c)) = some (.type "type")
  exo : ∀ c d b, gc.exm c d = some b → PySem.W.exmOne k.K (.ref (k.cA c)) (.ref (k.cA d)) = some b
  exm : ∀ c d b, gc.exm c d = some b → PySem.W.kitOne k.K (.ref (k.cA c)) (.ref (k.cA d)) = some b ∧ ∀ x : Addr, PySem.W.KitX k.K (.ref x) (.ref (k.cA c)) (fun h => ∃ ox, PySem.W.InstAt h x ox (k.cA c) none)
  ini : ∀ c cl, gc.clss.lookup c = some cl → ∃ d, gc.defs[cl.init]? = some d
theorem fx_of {P : Program} {w : World} {mg : Str → Option Value} {base : Heap} {gc : Gc} (hw : w = k.w) (S : FxS P w mg k gl gc fA) : ∀ m, Fx P w mg base k gl ⟨gc, k.sc, callF gc k.sc m⟩ (3 * m) fA := by
  have mk : ∀ m, (∀ f d, gc.defs[f]? = some d → FnS P w mg base k ⟨gc, k.sc, callF gc k.sc m⟩ (3 * m) f d (fA f)) → Fx P w mg base k gl ⟨gc, k.sc, callF gc k.sc m⟩ (3 * m) fA := fun m F =>
    { sc := rfl, gfn := S.gfn, gcl := S.gcl, gbl := S.gbl, gco := S.gco, len := fun f ws h d hd hl => callF_len hd hl, fn := F, cl := S.cl, met := S.met, prp := S.prp, exr := S.exr, exo := S.exo, exm := S.exm, ini := S.ini }
  intro m
  induction m with
  | zero => exact mk 0 fun f d hd => fnS_zero (S.dfs f d hd)
  | succ m ih => exact mk (m + 1) fun f d hd => fnS_succ hw (S.dfs f d hd) hd ih
end
end AM
/-! The facts of a law's head, by the law's tables; the end. -/
namespace AM
open PySem L2 He AH
/-- a law's tables -/
structure Tab where
  gl : Gl
  gc : Gc
  cn : List Str
  fn : List DefP
def Tab.nm (T : Tab) (c : Nat) : Str := T.cn.getD c ""
def Tab.cA (T : Tab) (K : PySem.W.Frag) (c : Nat) : Addr := ga K (T.nm c)
def Tab.fA (T : Tab) (K : PySem.W.Frag) (f : Nat) : Addr := match T.fn[f]? with
  | some d => d.adr K
  | none => 0
/-- a tuple of numbers and texts in the known part -/
def valB : W → Value → Bool
  | .int i, .int j _ => i == j
  | .str x, .str y _ => decide (x = y)
  | _, _ => false
def valsB : List W → List Value → Bool
  | [], [] => true
  | w :: ws, v :: vs => valB w v && valsB ws vs
  | _, _ => false
def isTupleT : Value → Bool
  | .type t => t == "tuple"
  | _ => false
def tupIn (K : PySem.W.Frag) (a : Addr) (ws : List W) : Bool := match K.lookup a with
  | some o => isTupleT o.cls && (match o.data with
    | .seq its _ => decide (its.size ≤ 1000) && valsB ws its.toList
    | _ => false)
  | none => false
theorem tupIn_ok {K : PySem.W.Frag} {a : Addr} {ws : List W} (h : tupIn K a ws = true) : ∃ vs, (∀ H, SqT K H a vs) ∧ ∀ (k : Cst) ι n H, RelWs k ι n H ws vs := by
  unfold tupIn at h
  split at h
  · rename_i o e
    rw [Bool.and_eq_true] at h
    obtain ⟨h1, h2⟩ := h
    split at h2
    · rename_i its m ed
      rw [Bool.and_eq_true, decide_eq_true_eq] at h2
      have hc : o.cls = .type "tuple" := by
        unfold isTupleT at h1
        split at h1
        · rename_i t et
          rw [et, beq_iff_eq.mp h1]
        · cases h1
      have key : ∀ {ws : List W} {us : List Value}, valsB ws us = true → ∃ vs, Vals vs us ∧ ∀ (k : Cst) ι n H, RelWs k ι n H ws vs := by
        intro ws
        induction ws with
        | nil =>
          intro us hv
          cases us with
          | nil => exact ⟨[], .nil, fun _ _ _ _ => .nil⟩
          | cons _ _ => cases hv
        | cons w ws ih =>
          intro us hv
          cases us with
          | nil => cases hv
          | cons u us =>
            unfold valsB at hv
            rw [Bool.and_eq_true] at hv
            obtain ⟨vs, z1, z2⟩ := ih hv.2
            have h0 := hv.1
            unfold valB at h0
            split at h0
            · rw [beq_iff_eq] at h0
              subst h0
              exact ⟨.int _ :: vs, .cons ⟨_, rfl⟩ z1, fun k ι n H => .cons (by unfold RelW; rfl) (z2 k ι n H)⟩
            · have h0 := of_decide_eq_true h0
              subst h0
              exact ⟨.str _ :: vs, .cons ⟨_, rfl⟩ z1, fun k ι n H => .cons (by unfold RelW; rfl) (z2 k ι n H)⟩
            · cases h0
      obtain ⟨vs, z1, z2⟩ := key h2.2
      exact ⟨vs, fun H => .inr ⟨o, its, m, e, hc, ed, by rw [sizeLine_eq]; omega, z1⟩, z2⟩
    · cases h2
  · cases h
def faGl (T : Tab) (K : PySem.W.Frag) (p : Str × GK) : Bool := match p.2 with
  | .fn f => (Fa.glo p.1).ok K && decide (T.fA K f = ga K p.1) && decide (f < T.gc.defs.length)
  | .cls c => (Fa.glo p.1).ok K && decide (T.cA K c = ga K p.1) && (Fa.keep p.1).ok K
  | .blt => (Fa.free p.1).ok K
  | .con w => (match w with
    | .int i => (Fa.int p.1 i).ok K
    | .str x => (Fa.str p.1 x).ok K
    | .tup ws => (Fa.glo p.1).ok K && tupIn K (ga K p.1) ws
    | _ => false)
def faCl (T : Tab) (K : PySem.W.Frag) (p : Nat × ClsC) : Bool := (Fa.cls (T.nm p.1)).ok K && (Fa.mkr (T.nm p.1)).ok K && decide (ma K (ga K (T.nm p.1)) "__init__" = T.fA K p.2.init) && decide (p.2.init < T.gc.defs.length) &&
  (p.2.meths.all fun m => (Fa.meth (T.nm p.1) m.1).ok K && decide (ma K (ga K (T.nm p.1)) m.1 = T.fA K m.2) && decide (m.2 < T.gc.defs.length)) &&
  (p.2.props.all fun m => propB (T.nm p.1) m.1 K && decide (pgA K (T.nm p.1) m.1 = T.fA K m.2) && decide (m.2 < T.gc.defs.length)) &&
  (p.2.flds.all fun f => (Fa.noat (T.nm p.1) f).ok K)
/-- what isinstance asks of a caught exception's class -/
def faIs (K : PySem.W.Frag) (D : Addr) : Bool := eqO (PySem.W.findIn K (.ref D) "__getattribute__") (some (some (.builtin "BaseException.__getattribute__"))) && eqO (PySem.W.findIn K (.ref D) "__getattr__") (some none) &&
  decide (PySem.W.subIn K (.ref D) (.type "BaseException") = some true) && PySem.W.hasDictIn K D && eqO (PySem.W.findIn K (.ref D) "__class__") (some (some (.builtin "object.__class__"))) &&
  eqO (PySem.W.specialIn K (.builtin "object.__class__") "__get__") (some (some (.builtin "getset_descriptor.__get__"))) && decide (PySem.W.takesIn K (.builtin "object.__class__") = some true) && decide (PySem.W.mroIn K D (.type "object") = some true)
def faEx (T : Tab) (K : PySem.W.Frag) (p : Nat × List Nat) : Bool := faIs K (T.cA K p.1) && T.gc.excs.all fun q => decide (PySem.W.exmOne K (.ref (T.cA K p.1)) (.ref (T.cA K q.1)) = some (p.2.contains q.1)) && decide (PySem.W.kitOne K (.ref (T.cA K p.1)) (.ref (T.cA K q.1)) = some (p.2.contains q.1))
def Tab.fa (T : Tab) (K : PySem.W.Frag) : Bool := T.gl.all (faGl T K) && T.gc.clss.all (faCl T K) && T.gc.excs.all (faEx T K) && T.gc.rais.all fun c => (Fa.exc (T.nm c)).ok K
/-- a def of the core is its text's -/
structure DefOk (gl : Gl) (gc : Gc) (f : Nat) (d : DefC) (p : DefP) : Prop where
  body : d.body = [.never] ∨ (okScope d p.scope = true ∧ okSs gl ⟨d.ns, p.scope, fun _ => true⟩ d.body p.body = true)
  bind : ∀ (kV doc pm : Value) (an : Option Addr) (cdv ct : Value) (us : List Value), us.length = d.ps.length → bindArgs (PySem.W.fnOf p.name p.qual p.params p.body p.scope .none kV doc pm an cdv ct) ⟨us, []⟩ = pure (d.ps.zip us)
  kws : ∀ n ks, (f, n, ks) ∈ gc.kws → ∀ (kV doc pm : Value) (an : Option Addr) (cdv ct : Value) (us ws vs : List Value), us.length = n → ws.length = ks.length → (permOf d.ps n ks).bind (pick (us ++ ws)) = some vs →
    bindArgs (PySem.W.fnOf p.name p.qual p.params p.body p.scope .none kV doc pm an cdv ct) ⟨us, ks.zip ws⟩ = pure (d.ps.zip vs)
inductive DefOks (gl : Gl) (gc : Gc) : Nat → List DefC → List DefP → Prop where
  | nil {i} : DefOks gl gc i [] []
  | cons {i d p ds ps} : DefOk gl gc i d p → DefOks gl gc (i + 1) ds ps → DefOks gl gc i (d :: ds) (p :: ps)
theorem DefOks.get {gl : Gl} {gc : Gc} : ∀ {i : Nat} {ds : List DefC} {ps : List DefP}, DefOks gl gc i ds ps → ∀ {f : Nat} {d : DefC}, ds[f]? = some d → ∃ p, ps[f]? = some p ∧ DefOk gl gc (i + f) d p
  | _, _, _, .nil, _, _, h => by simp at h
  | _, _, _, .cons a b, 0, d, h => by
    simp at h
    subst h
    exact ⟨_, rfl, a⟩
  | i, _, _, .cons a b, f + 1, d, h => by
    obtain ⟨p, h1, h2⟩ := b.get (f := f) (by simpa using h)
    exact ⟨p, by simpa using h1, by rw [show i + (f + 1) = i + 1 + f by omega]; exact h2⟩
theorem lookup_all {α β : Type} [BEq α] [LawfulBEq α] {P : α × β → Bool} : ∀ {l : List (α × β)} {a : α} {b : β}, l.all P = true → l.lookup a = some b → P (a, b) = true
  | [], _, _, _, h => by cases h
  | (x, y) :: l, a, b, hp, h => by
    rw [List.all_cons, Bool.and_eq_true] at hp
    rw [List.lookup_cons] at h
    split at h
    · rename_i e
      cases h
      have e2 : a = x := by simpa using e
      rw [e2]
      exact hp.1
    · exact lookup_all hp.2 h
theorem lookup_mem {α β : Type} [BEq α] [LawfulBEq α] : ∀ {l : List (α × β)} {a : α} {b : β}, l.lookup a = some b → (a, b) ∈ l
  | [], _, _, h => by cases h
  | (x, y) :: l, a, b, h => by
    rw [List.lookup_cons] at h
    split at h
    · rename_i e
      cases h
      have e2 : a = x := by simpa using e
      rw [e2]
      exact List.mem_cons_self
    · exact List.mem_cons_of_mem _ (lookup_mem h)
theorem no_kw {gc : Gc} {f : Nat} (h : (gc.kws.all fun p => p.1 != f) = true) {n : Nat} {ks : List Str} : (f, n, ks) ∉ gc.kws := fun hm => by
  rw [List.all_eq_true] at h
  have := h _ hm
  simp at this
theorem some_kw {gc : Gc} {f : Nat} {l : List (Nat × List Str)} (h : (gc.kws.filter fun p => p.1 == f).map (·.2) = l) {n : Nat} {ks : List Str} (hm : (f, n, ks) ∈ gc.kws) : (n, ks) ∈ l := by
  rw [← h]
  exact List.mem_map.mpr ⟨(f, n, ks), List.mem_filter.mpr ⟨hm, by simp⟩, rfl⟩
theorem get_lt {α : Type} {l : List α} {i : Nat} (h : i < l.length) : ∃ d, l[i]? = some d := ⟨l[i], by simp [h]⟩
section
variable {T : Tab} {P : Program} {w : World} {mg : Str → Option Value} {K : PySem.W.Frag} {h : Heap} {aS : Addr} {sc : List Int}
theorem fxS_of (X : K.In h) (G : h.Ns mainGlobals mg) (c : SaysP T.fa T.fn K) (ds : DefOks T.gl T.gc 0 T.gc.defs T.fn) : FxS P w mg ⟨K, T.cA K, aS, sc, w⟩ T.gl T.gc (T.fA K) := by
  have c0 := c.fact
  unfold Tab.fa at c0
  simp only [Bool.and_eq_true] at c0
  obtain ⟨⟨⟨c1, c2⟩, c3⟩, c4⟩ := c0
  have cls : ∀ c cl, T.gc.clss.lookup c = some cl → faCl T K (c, cl) = true := fun c cl e => lookup_all c2 e
  refine ⟨fun x f e => ?_, fun x c e => ?_, fun x e => ?_, fun x v e sc => ?_, fun f d e => ?_, fun c cl e => ?_, fun c cl m f e e2 => ?_, fun c cl m f e e2 => ?_, fun c hc => ?_, fun c d b e => ?_, fun c d b e => ?_, fun c cl e => ?_⟩
  · have q := lookup_all c1 e
    unfold faGl at q
    simp only [Bool.and_eq_true, decide_eq_true_eq] at q
    exact ⟨by rw [q.1.2]; exact glo_ok X G q.1.1, get_lt q.2⟩
  · have q := lookup_all c1 e
    unfold faGl at q
    simp only [Bool.and_eq_true, decide_eq_true_eq] at q
    have q2 : T.cA K c = ga K x := q.1.2
    exact ⟨by show mg x = some (.ref (T.cA K c)); rw [q2]; exact glo_ok X G q.1.1, by show PySem.W.keepIn K (.ref (T.cA K c)) = true; rw [q2]; exact keep_ok q.2⟩
  · have q := lookup_all c1 e
    exact free_ok X G q
  · have q := lookup_all c1 e
    unfold faGl at q
    dsimp only at q
    split at q
    · obtain ⟨t, e2⟩ := int_ok X G q
      exact ⟨_, .int _, e2, ⟨_, rfl⟩, fun ι n H => by unfold RelW; rfl⟩
    · obtain ⟨t, e2⟩ := str_ok X G q
      exact ⟨_, .str _, e2, ⟨_, rfl⟩, fun ι n H => by unfold RelW; rfl⟩
    · rw [Bool.and_eq_true] at q
      obtain ⟨vs, z1, z2⟩ := tupIn_ok q.2
      exact ⟨_, .ref _, glo_ok X G q.1, rfl, fun ι n H => by
        unfold RelW
        exact ⟨_, vs, rfl, z1 H, z2 _ _ _ _⟩⟩
    · cases q
  · obtain ⟨p, e1, D⟩ := ds.get e
    rw [Nat.zero_add] at D
    obtain ⟨fd, F⟩ := c.def_ f e1
    have ea : T.fA K f = p.adr K := by
      unfold Tab.fA
      rw [e1]
    rw [ea]
    obtain ⟨oc, od, kV, doc, pm, an, cdv, ct, osl, efd, e2, e3⟩ := F.ex
    subst efd
    exact ⟨⟨p.name, p.qual, p.params, p.body, p.scope, oc, od, kV, doc, pm, an, cdv, ct, osl, e2, e3, D.body, D.bind kV doc pm an cdv ct, fun n ks hk us ws vs => D.kws n ks hk kV doc pm an cdv ct us ws vs⟩, F.kp⟩
  · have q := cls c cl e
    unfold faCl at q
    simp only [Bool.and_eq_true, decide_eq_true_eq] at q
    obtain ⟨⟨⟨⟨⟨⟨q1, q2⟩, q3⟩, q4⟩, q5⟩, q6⟩, q7⟩ := q
    refine ⟨cls_ok q1, by rw [← q3]; exact mkr_ok q2, fun m f e2 => ?_, fun m f e2 => ?_, fun x hx => ?_⟩
    · have z := lookup_all q5 e2
      simp only [Bool.and_eq_true, decide_eq_true_eq] at z
      rw [← z.1.2]
      exact meth_ok z.1.1
    · have z := lookup_all q6 e2
      simp only [Bool.and_eq_true, decide_eq_true_eq] at z
      rw [← z.1.2]
      exact ⟨_, propB_ok z.1.1⟩
    · rw [List.all_eq_true] at q7
      exact noat_ok (q7 x hx)
  · have q := cls c cl e
    unfold faCl at q
    simp only [Bool.and_eq_true, decide_eq_true_eq] at q
    have z := lookup_all q.1.1.2 e2
    simp only [Bool.and_eq_true, decide_eq_true_eq] at z
    exact get_lt z.2
  · have q := cls c cl e
    unfold faCl at q
    simp only [Bool.and_eq_true, decide_eq_true_eq] at q
    have z := lookup_all q.1.2 e2
    simp only [Bool.and_eq_true, decide_eq_true_eq] at z
    exact get_lt z.2
  · rw [List.all_eq_true] at c4
    obtain ⟨z1, z2, z3, z4⟩ := exc_ok (c4 c hc)
    exact ⟨z1, z3, z4⟩
  · unfold Gc.exm at e
    split at e
    · rename_i ds' ds'' e1 e2
      cases e
      have q := lookup_all c3 e1
      unfold faEx at q
      rw [Bool.and_eq_true, List.all_eq_true] at q
      have z := q.2 _ (lookup_mem e2)
      simp only [Bool.and_eq_true, decide_eq_true_eq] at z
      exact z.1
    · cases e
  · unfold Gc.exm at e
    split at e
    · rename_i ds' ds'' e1 e2
      cases e
      have q := lookup_all c3 e1
      unfold faEx at q
      rw [Bool.and_eq_true, List.all_eq_true] at q
      have z := q.2 _ (lookup_mem e2)
      simp only [Bool.and_eq_true, decide_eq_true_eq] at z
      refine ⟨z.2, fun x => ?_⟩
      have i := q.1
      unfold faIs at i
      simp only [Bool.and_eq_true, decide_eq_true_eq] at i
      obtain ⟨⟨⟨⟨⟨⟨⟨i1, i2⟩, i3⟩, i4⟩, i5⟩, i6⟩, i7⟩, i8⟩ := i
      have Z := fun ox => PySem.W.handS_kitx_exc (x := x) (ox := ox) (eqO_ok i1) (eqO_ok i2) i3 i4 (eqO_ok i5) (eqO_ok i6) i7 i8
      exact ⟨fun M h X ⟨ox, I⟩ => (Z ox).ty M h X I, fun M h X ⟨ox, I⟩ => (Z ox).it M h X I, fun h tp dd its n sl X e => (Z default).ne h tp dd its n sl X e, fun X ⟨ox, I⟩ q => (Z ox).ca X I q⟩
    · cases e
  · have q := cls c cl e
    unfold faCl at q
    simp only [Bool.and_eq_true, decide_eq_true_eq] at q
    exact get_lt q.1.1.1.2
end
end AM
/-! The law's end, from the machine's answer. -/
namespace AM
open PySem L2 He AH LamX
theorem cx_false {P : Program} {w : World} {H : Hp} {s : Shared} {e : Value} {s' : Shared} (h : L2.CX P w [] H s (fun _ _ _ => False) e s') : False := by
  obtain ⟨_, _, _, _, _, _, _, _, _, _, _, _, z⟩ := h
  exact z
theorem lawAt {l : PySem.W.OpenLaw} {w : World} {K : PySem.W.Frag} {mg : Str → Option Value} {fa : Addr} {h : Heap} {T : Tab} {n m f : Nat} {d : DefC} {x : Str} (X : K.In h) (G : h.Ns mainGlobals mg) (c : SaysP T.fa T.fn K) (ds : DefOks T.gl T.gc 0 T.gc.defs T.fn)
    (hd : T.gc.defs[f]? = some d) (hps : d.ps = [x]) (hg : T.gl.lookup ("law" : Str) = some (GK.fn f)) (hfa : mg ("law" : Str) = some (.ref fa))
    (math : ∀ ns : List Int, ns.length ≤ n → (∀ z ∈ ns, Builtin.Int.intBits z ≤ 1048576) → callF T.gc ns m f [.scr] [] = .ok (.bl true) []) :
    LawG l w K (3 * m) n x mg fa := by
  obtain ⟨p, e1, D⟩ := ds.get hd
  rw [Nat.zero_add] at D
  obtain ⟨fd, F⟩ := c.def_ f e1
  have ea : T.fA K f = p.adr K := by
    unfold Tab.fA
    rw [e1]
  have efa : fa = T.fA K f := by
    have S : FxS l.prog w mg ⟨K, T.cA K, 0, [], w⟩ T.gl T.gc (T.fA K) := fxS_of X G c ds
    have := (S.gfn "law" f hg).1
    rw [hfa] at this
    cases this
    rfl
  obtain ⟨oc, od, kV, doc, pm, an, cdv, ct, osl, efd, e2, e3⟩ := F.ex
  refine ⟨fd, fun vs H Q E => ∃ (a : Addr) (ns : List Int), vs = [.ref a] ∧ ns.length ≤ n ∧ (∀ z ∈ ns, Builtin.Int.intBits z ≤ 1048576) ∧ SqL K H a (ns.map V.int) ∧ ∀ H', Q (.bl true) H', fun s u => ?_, fun H a ns hl hb hS => ⟨a, ns, rfl, hl, hb, hS, fun _ => rfl⟩, fun base _ _ => ?_⟩
  · have := D.bind kV doc pm an cdv ct [u] (by rw [hps]; rfl)
    rw [hps] at this
    rw [efd]
    exact .of_eq this
  · refine ⟨fun {vs H Q E} ⟨a, ns, e, _⟩ => by rw [e]; rfl, fun {A outer s H args us vs Q E} hr hq e0 hb hv hs => ?_⟩
    obtain ⟨a, ns, rfl, hl, hbits, hS, hQ⟩ := hs
    have S : FxS l.prog w mg ⟨K, T.cA K, a, ns, w⟩ T.gl T.gc (T.fA K) := fxS_of X G c ds
    obtain ⟨fd', ⟨oc', od', osl', e4⟩, F', _⟩ := ((fx_of (k := ⟨K, T.cA K, a, ns, w⟩) (w := w) rfl S m).fn f d hd).fn
    have e5 : fd' = fd := by
      have e4 : K.lookup (T.fA K f) = some ⟨oc', od', .func fd', osl'⟩ := e4
      rw [ea, e2] at e4
      cases e4
      rfl
    subst e5
    rw [efa]
    refine F'.go hr hq e0 (by rw [hps]; exact hb) hv ⟨by rw [hps]; rfl, fun _ => 0, [], [.scr], ⟨fun l o e => (by simp at e), fun l m hl => absurd hl (Nat.not_lt_zero _), hS, ?_⟩, RelWs.cons (by unfold RelW; rfl) .nil, ?_⟩
    · rcases hS with q | q
      · exact .inr ⟨q, fun l hl => absurd hl (Nat.not_lt_zero _)⟩
      · exact .inl q
    · dsimp only
      rw [math ns hl hbits]
      intro ι' H' v p e
      unfold relW RelW at e
      rw [e]
      exact hQ H'
end AM
/-! The interpreter's equations, for simp. -/
namespace AM
open PySem
/-- one turn of a for -/
def forF (g : Ev) (t : Tg) (b : List S) : W → St → AH → Out := fun w σ1 h2 => (toNoExc (asgT g t w σ1 h2)).then σ1 fun σ2 h3 => evalSs g b σ2 h3
section
variable (g : Ev) (σ : St) (h : AH)
@[simp] theorem x_var (i : Nat) : evalE g (.var i) σ h = (match σ[i]? with
    | some (some w) => .ok w h
    | _ => .stuck) := by rw [evalE] <;> rfl
@[simp] theorem x_con (w : W) : evalE g (.con w) σ h = .ok w h := by rw [evalE]
@[simp] theorem x_glo (x : Str) (w : W) : evalE g (.glo x w) σ h = .ok w h := by rw [evalE]
@[simp] theorem x_bin (op a b) : evalE g (.bin op a b) σ h = (evalE g a σ h).bind fun x h1 => (evalE g b σ h1).bind fun y h2 => binW op x y h2 := by rw [evalE]
@[simp] theorem x_neg (a) : evalE g (.neg a) σ h = (evalE g a σ h).bind fun x h1 => (match x with
    | .int i => .ok (.int (-i)) h1
    | _ => .stuck) := by rw [evalE] <;> rfl
@[simp] theorem x_cmp (op a b) : evalE g (.cmp op a b) σ h = (evalE g a σ h).bind fun x h1 => (evalE g b σ h1).bind fun y h2 => cmpW op x y h2 := by rw [evalE]
@[simp] theorem x_not (a) : evalE g (.not a) σ h = (evalE g a σ h).bind fun x h1 => (match x with
    | .bl b => .ok (.bl (!b)) h1
    | _ => .stuck) := by rw [evalE] <;> rfl
@[simp] theorem x_and (cs) : evalE g (.and cs) σ h = evalAnd g cs σ h := by rw [evalE]
@[simp] theorem x_or (cs) : evalE g (.or cs) σ h = evalOr g cs σ h := by rw [evalE]
@[simp] theorem x_ife (t a b) : evalE g (.ife t a b) σ h = (evalT g t σ h).bind fun c h1 => if c then evalE g a σ h1 else evalE g b σ h1 := by rw [evalE]
@[simp] theorem x_sub (a i) : evalE g (.sub a i) σ h = (evalE g a σ h).bind fun x h1 => (evalE g i σ h1).bind fun y h2 => subR g x y h2 := by rw [evalE] <;> rfl
@[simp] theorem x_slc (a lo hi) : evalE g (.slc a lo hi) σ h = (evalE g a σ h).bind fun x h1 => (evalP g lo σ h1).bind fun l h2 => (evalP g hi σ h2).bind fun u h3 => slcR g.sc x l u h3 := by rw [evalE]
@[simp] theorem x_tup (cs) : evalE g (.tup cs) σ h = (evalEs g cs σ h).bind fun ws h1 => if szOk ws.length then .ok (.tup ws) h1 else .stuck := by rw [evalE]
@[simp] theorem x_lst (cs) : evalE g (.lst cs) σ h = (evalEs g cs σ h).bind fun ws h1 => if szOk ws.length then .ok (.loc h1.length) (h1 ++ [.lst ws]) else .stuck := by rw [evalE]
@[simp] theorem x_call (f cs ks kcs) : evalE g (.call f cs ks kcs) σ h = (evalEs g cs σ h).bind fun ws h1 => (evalEs g kcs σ h1).bind fun kws h2 => callW g f ws ks kws h2 := by rw [evalE]
@[simp] theorem x_new (c cs ks kcs) : evalE g (.new c cs ks kcs) σ h = (evalEs g cs σ h).bind fun ws h1 => (evalEs g kcs σ h1).bind fun kws h2 => newW g c ws ks kws h2 := by rw [evalE]
@[simp] theorem x_meth (m o cs ks kcs) : evalE g (.meth m o cs ks kcs) σ h = (evalE g o σ h).bind fun x h0 => (match methL g m x h0 with
    | some f => (evalEs g cs σ h0).bind fun ws h1 => (evalEs g kcs σ h1).bind fun kws h2 => callW g f (x :: ws) ks kws h2
    | none => .stuck) := by rw [evalE] <;> rfl
@[simp] theorem x_attr (o f) : evalE g (.attr o f) σ h = (evalE g o σ h).bind fun x h1 => attrW g x f h1 := by rw [evalE]
@[simp] theorem x_prim (p cs) : evalE g (.prim p cs) σ h = (evalEs g cs σ h).bind fun ws h1 => primW g p ws h1 := by rw [evalE]
@[simp] theorem x_primc (p c) : evalE g (.primc p c) σ h = (evalL g c σ h).bind fun ws h1 => primL p ws h1 := by rw [evalE]
@[simp] theorem x_bm (m o c cs) : evalE g (.bm m o (c :: cs)) σ h = (evalE g o σ h).bind fun x h1 => if bmT m x h1 then (evalEs g (c :: cs) σ h1).bind fun ws h2 => bmW m x ws h2 else .stuck := by rw [evalE]
@[simp] theorem x_bm0 (m o) : evalE g (.bm m o []) σ h = (evalE g o σ h).bind fun x h1 => if bmT m x h1 then bm0 m x h1 else .stuck := by rw [evalE]
@[simp] theorem x_bmc (m o c) : evalE g (.bmc m o c) σ h = (evalE g o σ h).bind fun x h1 => if bmT m x h1 then (evalL g c σ h1).bind fun ws h2 => bmL m x ws h2 else .stuck := by rw [evalE]
@[simp] theorem x_comp (own tg it ifs elt) : evalE g (.comp own tg it ifs elt) σ h = (evalL g (.comp own tg it ifs elt) σ h).bind fun ws h1 => .ok (.loc h1.length) (h1 ++ [.lst ws]) := by rw [evalE, evalL]
@[simp] theorem xt_val (c) : evalT g (.val c) σ h = (evalE g c σ h).bind fun x h1 => (match truW h1 x with
    | some b => .ok b h1
    | none => .stuck) := by rw [evalT] <;> rfl
@[simp] theorem xt_not (t) : evalT g (.not t) σ h = (evalT g t σ h).bind fun c h1 => .ok (!c) h1 := by rw [evalT]
@[simp] theorem xt_and (ts) : evalT g (.and ts) σ h = evalTA g ts σ h := by rw [evalT]
@[simp] theorem xt_or (ts) : evalT g (.or ts) σ h = evalTO g ts σ h := by rw [evalT]
@[simp] theorem xta_nil : evalTA g [] σ h = .ok true h := by rw [evalTA]
@[simp] theorem xta_cons (t ts) : evalTA g (t :: ts) σ h = (evalT g t σ h).bind fun c h1 => if c then evalTA g ts σ h1 else .ok false h1 := by rw [evalTA]
@[simp] theorem xto_nil : evalTO g [] σ h = .ok false h := by rw [evalTO]
@[simp] theorem xto_cons (t ts) : evalTO g (t :: ts) σ h = (evalT g t σ h).bind fun c h1 => if c then .ok true h1 else evalTO g ts σ h1 := by rw [evalTO]
@[simp] theorem xa_one (c) : evalAnd g [c] σ h = evalE g c σ h := by rw [evalAnd]
@[simp] theorem xa_cons (c c2 cs) : evalAnd g (c :: c2 :: cs) σ h = (evalE g c σ h).bind fun x h1 => (match x with
    | .bl true => evalAnd g (c2 :: cs) σ h1
    | .bl false => .ok (.bl false) h1
    | _ => .stuck) := by rw [evalAnd] <;> first | rfl | simp
@[simp] theorem xo_one (c) : evalOr g [c] σ h = evalE g c σ h := by rw [evalOr]
@[simp] theorem xo_cons (c c2 cs) : evalOr g (c :: c2 :: cs) σ h = (evalE g c σ h).bind fun x h1 => (match x with
    | .bl false => evalOr g (c2 :: cs) σ h1
    | .bl true => .ok (.bl true) h1
    | _ => .stuck) := by rw [evalOr] <;> first | rfl | simp
@[simp] theorem xs_nil : evalEs g [] σ h = .ok [] h := by rw [evalEs]
@[simp] theorem xs_cons (c cs) : evalEs g (c :: cs) σ h = (evalE g c σ h).bind fun w h1 => (evalEs g cs σ h1).bind fun ws h2 => .ok (w :: ws) h2 := by rw [evalEs]
@[simp] theorem xp_nil : evalP g [] σ h = .ok none h := by rw [evalP]
@[simp] theorem xp_cons (c cs) : evalP g (c :: cs) σ h = (evalE g c σ h).bind fun w h1 => (match w with
    | .int i => .ok (some i) h1
    | _ => .stuck) := by rw [evalP] <;> rfl
@[simp] theorem xi_nil : evalIf g [] σ h = .ok true h := by rw [evalIf]
@[simp] theorem xi_cons (t ts) : evalIf g (t :: ts) σ h = evalT g t σ h := by rw [evalIf]
@[simp] theorem xI_over (c) : evalI g (.over c) σ h = (evalE g c σ h).bind fun x h1 => (match overW g x h1 with
    | some s => .ok s h1
    | none => .stuck) := by rw [evalI] <;> rfl
@[simp] theorem xI_rng (cs) : evalI g (.rng cs) σ h = (evalEs g cs σ h).bind fun ws h1 => if ws.length = cs.length then rngR ws h1 else .stuck := by rw [evalI]
@[simp] theorem xI_enum (c) : evalI g (.enum c) σ h = (evalE g c σ h).bind fun x h1 => (match overW g x h1 with
    | some s => .ok ⟨enumFrom 0 s.items, s.held⟩ h1
    | none => .stuck) := by rw [evalI] <;> rfl
@[simp] theorem xI_zip (a b) : evalI g (.zip a b) σ h = (evalE g a σ h).bind fun x h1 => (evalE g b σ h1).bind fun y h2 => if isTup x = isTup y then (match overW g x h2, overW g y h2 with
    | some s, some t => .ok ⟨List.zipWith (fun u v => .tup [u, v]) s.items t.items, s.held ++ t.held⟩ h2
    | _, _ => .stuck) else .stuck := by rw [evalI] <;> rfl
@[simp] theorem xg_nm (i w) : asgT g (.nm i) w σ h = .ok (σ.set i (some w)) h := by rw [asgT]
@[simp] theorem xg_tp (ts ws) : asgT g (.tp ts) (.tup ws) σ h = if ws.length = ts.length then asgTs g ts ws σ h else .stuck := by rw [asgT]
@[simp] theorem xg_sub (o i w) : asgT g (.sub o i) w σ h = (evalE g o σ h).bind fun x h1 => (evalE g i σ h1).bind fun y h2 => (setI x y w h2).bind fun _ h3 => .ok σ h3 := by rw [asgT]
@[simp] theorem xg_attr (o f w) : asgT g (.attr o f) w σ h = (evalE g o σ h).bind fun x h1 => (setA g x f w h1).bind fun _ h2 => .ok σ h2 := by rw [asgT]
@[simp] theorem xgs_nil : asgTs g [] [] σ h = .ok σ h := by rw [asgTs]
@[simp] theorem xgs_cons (t ts w ws) : asgTs g (t :: ts) (w :: ws) σ h = (asgT g t w σ h).bind fun σ1 h1 => asgTs g ts ws σ1 h1 := by rw [asgTs]
@[simp] theorem st_asg (t e) : evalS g (.asg t e) σ h = (evalE g e σ h).then σ fun w h1 => (toNoExc (asgT g t w σ h1)).then σ fun σ1 h2 => .next σ1 h2 := by rw [evalS]
@[simp] theorem st_iff (t a b) : evalS g (.iff t a b) σ h = (evalT g t σ h).then σ fun c h1 => if c then evalSs g a σ h1 else evalSs g b σ h1 := by rw [evalS]
@[simp] theorem st_for (t it b) : evalS g (.for_ t it b) σ h = (evalI g it σ h).then σ fun src h1 => forLoop (forF g t b) src.held src.items σ h1 := by rw [evalS] <;> rfl
@[simp] theorem st_ret (e) : evalS g (.ret e) σ h = (evalE g e σ h).then σ fun w h1 => .ret w h1 := by rw [evalS]
@[simp] theorem st_retn : evalS g .retn σ h = .ret .non h := by rw [evalS]
@[simp] theorem st_ex (e) : evalS g (.ex e) σ h = (evalE g e σ h).then σ fun _ h1 => .next σ h1 := by rw [evalS]
@[simp] theorem st_pass : evalS g .pass σ h = .next σ h := by rw [evalS]
@[simp] theorem st_brk : evalS g .brk σ h = .brk σ h := by rw [evalS]
@[simp] theorem st_cont : evalS g .cont σ h = .cont σ h := by rw [evalS]
@[simp] theorem st_try (b hd) : evalS g (.try_ b hd) σ h = (match evalSs g b σ h with
    | .exc c xs ws σ1 h1 => hdW g hd c xs ws σ1 h1
    | o => o) := by rw [evalS] <;> rfl
@[simp] theorem st_raise0 (c) : evalS g (.raise c [] []) σ h = if c ∈ g.gc.rais then .exc c [] [] σ h else .stuck := by
  rw [evalS]
  simp [W.flats]
@[simp] theorem ss_nil' : evalSs g [] σ h = .next σ h := by rw [evalSs]
@[simp] theorem ss_one (s) : evalSs g [s] σ h = evalS g s σ h := by
  rw [evalSs]
  cases evalS g s σ h <;> simp
theorem ss_cons' (s ss) : evalSs g (s :: ss) σ h = (evalS g s σ h).seq fun σ1 h1 => evalSs g ss σ1 h1 := by rw [evalSs]
@[simp] theorem noexc_ok {α : Type} (a : α) : toNoExc (.ok a h) = .ok a h := Eq.trans rfl rfl
@[simp] theorem b_add (i j : Int) : binW .add (.int i) (.int j) h = .ok (.int (i + j)) h := Eq.trans rfl rfl
@[simp] theorem b_sub (i j : Int) : binW .sub (.int i) (.int j) h = .ok (.int (i - j)) h := Eq.trans rfl rfl
@[simp] theorem b_mul (i j : Int) : binW .mul (.int i) (.int j) h = if mulOk i j then .ok (.int (i * j)) h else .stuck := Eq.trans rfl rfl
@[simp] theorem b_fdiv (i j : Int) : binW .fdiv (.int i) (.int j) h = if fdivOk j then .ok (.int (i / j)) h else .stuck := Eq.trans rfl rfl
@[simp] theorem b_mod (i j : Int) : binW .mod (.int i) (.int j) h = if 0 < j then .ok (.int (i % j)) h else .stuck := Eq.trans rfl rfl
@[simp] theorem b_pow (i j : Int) : binW .pow (.int i) (.int j) h = if powOk i j then .ok (.int (i ^ j.toNat)) h else .stuck := Eq.trans rfl rfl
@[simp] theorem b_addL (l m : Nat) : binW .add (.loc l) (.loc m) h = (match h[l]?, h[m]? with
    | some (.lst a), some (.lst b) => if szOk (a.length + b.length) then .ok (.loc h.length) (h ++ [.lst (a ++ b)]) else .stuck
    | _, _ => .stuck) := Eq.trans rfl rfl
@[simp] theorem c_lt (i j : Int) : cmpW .lt (.int i) (.int j) h = .ok (.bl (decide (i < j))) h := Eq.trans rfl rfl
@[simp] theorem c_le (i j : Int) : cmpW .le (.int i) (.int j) h = .ok (.bl (decide (i ≤ j))) h := Eq.trans rfl rfl
@[simp] theorem c_gt (i j : Int) : cmpW .gt (.int i) (.int j) h = .ok (.bl (decide (j < i))) h := Eq.trans rfl rfl
@[simp] theorem c_ge (i j : Int) : cmpW .ge (.int i) (.int j) h = .ok (.bl (decide (j ≤ i))) h := Eq.trans rfl rfl
@[simp] theorem c_eqI (i j : Int) : cmpW .eq (.int i) (.int j) h = .ok (.bl (decide (i = j))) h := by
  show optR (eqW h (.int i) (.int j)) id h = _
  have : eqW h (.int i) (.int j) = some (decide (i = j)) := by
    unfold eqW eqD
    simp [toD, toDf, shp, SeqAt.shaped, PyData.eqv]
    exact ⟨⟨⟨rfl, Nat.le_of_ble_eq_true rfl⟩, rfl, Nat.le_of_ble_eq_true rfl⟩, rfl⟩
  rw [this]
  rfl
theorem callF_loc {gc : Gc} {sc : List Int} {m f : Nat} {d : DefC} {ws : List W} (hd : gc.defs[f]? = some d) (hl : ws.length = d.ps.length) (hf : W.flats ws = false) : callF gc sc (m + 1) f ws h = runBody ⟨gc, sc, callF gc sc m⟩ d ws h := by
  rw [callF, hd]
  simp [hl, hf]
theorem callF_flat {gc : Gc} {sc : List Int} {m f : Nat} {d : DefC} {ws : List W} {w : W} {h2 : AH} (hd : gc.defs[f]? = some d) (hl : ws.length = d.ps.length) (hf : W.flats ws = true) (hw : W.flat w = true) (e : runBody ⟨gc, sc, callF gc sc m⟩ d ws [] = .ok w h2) : callF gc sc (m + 1) f ws h = .ok w h := by
  rw [callF, hd]
  simp only [hl, hf, if_true, e]
  unfold pull
  split
  · cases hw
  · rw [if_pos hw]
theorem callF_exc {gc : Gc} {sc : List Int} {m f : Nat} {d : DefC} {ws : List W} {c : Nat} {h2 : AH} (hd : gc.defs[f]? = some d) (hl : ws.length = d.ps.length) (hf : W.flats ws = true) (e : runBody ⟨gc, sc, callF gc sc m⟩ d ws [] = .exc c [] [] h2) : callF gc sc (m + 1) f ws h = .exc c [] [] h := by
  rw [callF, hd]
  simp only [hl, hf, if_true, e]
  rfl
theorem callF_list {gc : Gc} {sc : List Int} {m f : Nat} {d : DefC} {ws us : List W} {l : Nat} {h2 : AH} (hd : gc.defs[f]? = some d) (hl : ws.length = d.ps.length) (hf : W.flats ws = true) (e : runBody ⟨gc, sc, callF gc sc m⟩ d ws [] = .ok (.loc l) h2) (e2 : h2[l]? = some (.lst us)) (hu : W.flats us = true) :
    callF gc sc (m + 1) f ws h = .ok (.loc h.length) (h ++ [.lst us]) := by
  rw [callF, hd]
  simp only [hl, hf, if_true, e]
  unfold pull
  simp [e2, hu]
theorem ixN_of {i : Int} (k : Nat) (hi : 0 ≤ i) : L2.ixN k i = if i.toNat < k then some i.toNat else none := by
  unfold L2.ixN
  rw [if_pos hi]
  by_cases hk : i.toNat < k
  · rw [if_pos hk, if_pos (by omega)]
  · rw [if_neg hk, if_neg (by omega)]
theorem atI_of {α : Type} {i : Int} (xs : List α) (hi : 0 ≤ i) : L2.atI xs i = xs[i.toNat]? := by
  unfold L2.atI
  rw [ixN_of _ hi]
  by_cases hk : i.toNat < xs.length
  · rw [if_pos hk]
    rfl
  · rw [if_neg hk, List.getElem?_eq_none (by omega)]
    rfl
theorem atI_nat {α : Type} (xs : List α) (n : Nat) : L2.atI xs (n : Int) = xs[n]? := by
  rw [atI_of xs (by omega)]
  simp
@[simp] theorem atI_0 {α : Type} (xs : List α) : L2.atI xs 0 = xs[0]? := atI_of xs (by decide)
@[simp] theorem ixN_0 (k : Nat) : L2.ixN k 0 = if 0 < k then some 0 else none := ixN_of k (by decide)
@[simp] theorem atI_1 {α : Type} (xs : List α) : L2.atI xs 1 = xs[1]? := atI_of xs (by decide)
@[simp] theorem ixN_1 (k : Nat) : L2.ixN k 1 = if 1 < k then some 1 else none := ixN_of k (by decide)
@[simp] theorem atI_2 {α : Type} (xs : List α) : L2.atI xs 2 = xs[2]? := atI_of xs (by decide)
@[simp] theorem ixN_2 (k : Nat) : L2.ixN k 2 = if 2 < k then some 2 else none := ixN_of k (by decide)
@[simp] theorem atI_3 {α : Type} (xs : List α) : L2.atI xs 3 = xs[3]? := atI_of xs (by decide)
@[simp] theorem ixN_3 (k : Nat) : L2.ixN k 3 = if 3 < k then some 3 else none := ixN_of k (by decide)
@[simp] theorem atI_4 {α : Type} (xs : List α) : L2.atI xs 4 = xs[4]? := atI_of xs (by decide)
@[simp] theorem ixN_4 (k : Nat) : L2.ixN k 4 = if 4 < k then some 4 else none := ixN_of k (by decide)
@[simp] theorem atI_5 {α : Type} (xs : List α) : L2.atI xs 5 = xs[5]? := atI_of xs (by decide)
@[simp] theorem ixN_5 (k : Nat) : L2.ixN k 5 = if 5 < k then some 5 else none := ixN_of k (by decide)
@[simp] theorem atI_6 {α : Type} (xs : List α) : L2.atI xs 6 = xs[6]? := atI_of xs (by decide)
@[simp] theorem ixN_6 (k : Nat) : L2.ixN k 6 = if 6 < k then some 6 else none := ixN_of k (by decide)
@[simp] theorem atI_7 {α : Type} (xs : List α) : L2.atI xs 7 = xs[7]? := atI_of xs (by decide)
@[simp] theorem ixN_7 (k : Nat) : L2.ixN k 7 = if 7 < k then some 7 else none := ixN_of k (by decide)
@[simp] theorem atI_8 {α : Type} (xs : List α) : L2.atI xs 8 = xs[8]? := atI_of xs (by decide)
@[simp] theorem ixN_8 (k : Nat) : L2.ixN k 8 = if 8 < k then some 8 else none := ixN_of k (by decide)
@[simp] theorem atI_9 {α : Type} (xs : List α) : L2.atI xs 9 = xs[9]? := atI_of xs (by decide)
@[simp] theorem ixN_9 (k : Nat) : L2.ixN k 9 = if 9 < k then some 9 else none := ixN_of k (by decide)
@[simp] theorem atI_10 {α : Type} (xs : List α) : L2.atI xs 10 = xs[10]? := atI_of xs (by decide)
@[simp] theorem ixN_10 (k : Nat) : L2.ixN k 10 = if 10 < k then some 10 else none := ixN_of k (by decide)
@[simp] theorem atI_11 {α : Type} (xs : List α) : L2.atI xs 11 = xs[11]? := atI_of xs (by decide)
@[simp] theorem ixN_11 (k : Nat) : L2.ixN k 11 = if 11 < k then some 11 else none := ixN_of k (by decide)
@[simp] theorem atI_12 {α : Type} (xs : List α) : L2.atI xs 12 = xs[12]? := atI_of xs (by decide)
@[simp] theorem ixN_12 (k : Nat) : L2.ixN k 12 = if 12 < k then some 12 else none := ixN_of k (by decide)
/-! reading and writing -/
theorem rd_lst {l : Nat} {ws : List W} {i : Int} {w : W} (hl : h[l]? = some (.lst ws)) (hw : L2.atI ws i = some w) : subR g (.loc l) (.int i) h = .ok w h := by
  show (match h[l]? with
    | some (.lst ws) => (match L2.atI ws i with
      | some w => Res.ok w h
      | none => .stuck)
    | _ => .stuck) = _
  simp only [hl, hw]
theorem rd_tup {ws : List W} {i : Int} {w : W} (hw : L2.atI ws i = some w) : subR g (.tup ws) (.int i) h = .ok w h := by
  show (match L2.atI ws i with
      | some w => Res.ok w h
      | none => .stuck) = _
  simp only [hw]
theorem rd_scr {i : Int} {n : Int} (hw : L2.atI g.sc i = some n) : subR g .scr (.int i) h = .ok (.int n) h := by
  show (match L2.atI g.sc i with
      | some n => Res.ok (W.int n) h
      | none => .stuck) = _
  simp only [hw]
theorem wr_lst {l j : Nat} {ws : List W} {i : Int} {w : W} (hl : h[l]? = some (.lst ws)) (hw : L2.ixN ws.length i = some j) : setI (.loc l) (.int i) w h = .ok () (h.set l (.lst (ws.set j w))) := by
  show (match h[l]? with
    | some (.lst xs) => (match L2.ixN xs.length i with
      | some j => Res.ok () (h.set l (.lst (xs.set j w)))
      | none => .stuck)
    | _ => .stuck) = _
  simp only [hl, hw]
@[simp] theorem pr_int (i : Int) : primW g .int [.int i] h = .ok (.int i) h := Eq.trans rfl rfl
@[simp] theorem pr_abs (i : Int) : primW g .abs [.int i] h = .ok (.int (if i < 0 then -i else i)) h := Eq.trans rfl rfl
@[simp] theorem pr_max (i j : Int) : primW g .max2 [.int i, .int j] h = .ok (.int (if j > i then j else i)) h := Eq.trans rfl rfl
@[simp] theorem pr_min (i j : Int) : primW g .min2 [.int i, .int j] h = .ok (.int (if j < i then j else i)) h := Eq.trans rfl rfl
@[simp] theorem pr_lenT (xs : List W) : primW g .len [.tup xs] h = .ok (.int xs.length) h := Eq.trans rfl rfl
@[simp] theorem pr_lenS : primW g .len [.scr] h = .ok (.int g.sc.length) h := Eq.trans rfl rfl
theorem pr_lenL {l : Nat} {ws : List W} (hl : h[l]? = some (.lst ws)) : primW g .len [.loc l] h = .ok (.int ws.length) h := by
  show (match h[l]? with
    | some (.lst xs) => Res.ok (W.int xs.length) h
    | _ => .stuck) = _
  simp only [hl]
@[simp] theorem pr_tupT (xs : List W) : primW g .tuple [.tup xs] h = .ok (.tup xs) h := Eq.trans rfl rfl
theorem pr_tupL {l : Nat} {ws : List W} (hl : h[l]? = some (.lst ws)) : primW g .tuple [.loc l] h = .ok (.tup ws) h := by
  show (match h[l]? with
    | some (.lst xs) => Res.ok (W.tup xs) h
    | _ => .stuck) = _
  simp only [hl]
@[simp] theorem tr_bl (b : Bool) : truW h (.bl b) = some b := Eq.trans rfl rfl
@[simp] theorem tr_non : truW h .non = some false := Eq.trans rfl rfl
@[simp] theorem tr_int (i : Int) : truW h (.int i) = some (i != 0) := Eq.trans rfl rfl
theorem fdiv_ok {j : Int} (h1 : 0 < j) (h2 : j < 2 ^ 64) : fdivOk j = true := by
  unfold fdivOk bigI
  simp only [Bool.and_eq_true, decide_eq_true_eq]
  refine ⟨h1, ?_⟩
  have h3 : j.natAbs < 2 ^ 64 := by omega
  have h4 : j.natAbs ≠ 0 := by omega
  have := (Nat.log2_lt h4).mpr h3
  omega
theorem mul_okL {i j : Int} (h1 : i.natAbs < 2 ^ 64) : mulOk i j = true := by
  unfold mulOk
  simp [h1]
theorem mul_okR {i j : Int} (h1 : j.natAbs < 2 ^ 64) : mulOk i j = true := by
  unfold mulOk
  simp [h1]
theorem get_lt' {l : Nat} {o : O} (hl : h[l]? = some o) : l < h.length := (List.getElem?_eq_some_iff.mp hl).1
end
end AM
/-! Loops by invariants; frames. -/
namespace AM
open PySem
theorem compLoop_inv {f : W → AH → Res (Option W)} {held : List (Nat × List W)} (Iv : AH → Prop) (P : W → Prop) (hh : ∀ h, Iv h → heldOk held h = true) : ∀ (ws : List W), (∀ w ∈ ws, ∀ h, Iv h → ∃ y h', f w h = .ok (some y) h' ∧ Iv h' ∧ P y) → ∀ h, Iv h →
    ∃ ys h', compLoop f held ws h = .ok ys h' ∧ Iv h' ∧ ys.length = ws.length ∧ ∀ y ∈ ys, P y
  | [], _, h, iv => ⟨[], h, by unfold compLoop; rw [if_pos (hh h iv)], iv, rfl, fun _ z => nomatch z⟩
  | w :: ws, hf, h, iv => by
    obtain ⟨y, h1, e1, iv1, p1⟩ := hf w List.mem_cons_self h iv
    obtain ⟨ys, h2, e2, iv2, l2, p2⟩ := compLoop_inv Iv P hh ws (fun w' hw => hf w' (List.mem_cons_of_mem _ hw)) h1 iv1
    refine ⟨y :: ys, h2, ?_, iv2, by simp [l2], fun z hz => ?_⟩
    · unfold compLoop
      rw [if_pos (hh h iv), e1]
      show (compLoop f held ws h1).bind _ = _
      rw [e2]
      rfl
    · rcases List.mem_cons.mp hz with rfl | hz
      · exact p1
      · exact p2 z hz
/-- with a filter, by a function of the items -/
theorem compLoop_map {f : W → AH → Res (Option W)} {held : List (Nat × List W)} {h : AH} (F : W → Option W) (hh : heldOk held h = true) : ∀ (ws : List W), (∀ w ∈ ws, f w h = .ok (F w) h) → compLoop f held ws h = .ok (ws.filterMap F) h
  | [], _ => by unfold compLoop; rw [if_pos hh]; rfl
  | w :: ws, hf => by
    unfold compLoop
    rw [if_pos hh, hf w List.mem_cons_self]
    show (compLoop f held ws h).bind _ = _
    rw [compLoop_map F hh ws fun w' hw => hf w' (List.mem_cons_of_mem _ hw)]
    show Res.ok _ _ = Res.ok _ _
    rw [List.filterMap_cons]
    cases F w <;> rfl
theorem forLoop_inv {f : W → St → AH → Out} {held : List (Nat × List W)} (Iv : Nat → St → AH → Prop) : ∀ (ws : List W) (n : Nat), (∀ i (hi : i < ws.length) σ h, Iv (n + i) σ h → ∃ σ' h', (f ws[i] σ h = .next σ' h' ∨ f ws[i] σ h = .cont σ' h') ∧ Iv (n + i + 1) σ' h') → (∀ i σ h, Iv i σ h → heldOk held h = true) → ∀ σ h, Iv n σ h →
    ∃ σ' h', forLoop f held ws σ h = .next σ' h' ∧ Iv (n + ws.length) σ' h'
  | [], n, _, hh, σ, h, iv => ⟨σ, h, by unfold forLoop; rw [if_pos (hh _ _ _ iv)], iv⟩
  | w :: ws, n, hf, hh, σ, h, iv => by
    obtain ⟨σ1, h1, e1, iv1⟩ := hf 0 (Nat.succ_pos _) σ h iv
    obtain ⟨σ2, h2, e2, iv2⟩ := forLoop_inv Iv ws (n + 1) (fun i hi σ h iv => by
      have := hf (i + 1) (by simpa using hi) σ h (by rw [show n + (i + 1) = n + 1 + i by omega]; exact iv)
      rw [show n + (i + 1) = n + 1 + i by omega] at this
      simpa using this) hh σ1 h1 iv1
    refine ⟨σ2, h2, ?_, by rw [List.length_cons, show n + (ws.length + 1) = n + 1 + ws.length by omega]; exact iv2⟩
    unfold forLoop
    rw [if_pos (hh _ _ _ iv)]
    have e1 : f w σ h = .next σ1 h1 ∨ f w σ h = .cont σ1 h1 := e1
    rcases e1 with e1 | e1
    · rw [e1]
      exact e2
    · rw [e1]
      exact e2
/-! frames -/
/-- all but the places of S stay -/
structure Fr (S : List Nat) (h h' : AH) : Prop where
  len : h.length ≤ h'.length
  at_ : ∀ i, i < h.length → i ∉ S → h'[i]? = h[i]?
theorem Fr.refl {S : List Nat} {h : AH} : Fr S h h := ⟨Nat.le_refl _, fun _ _ _ => rfl⟩
theorem Fr.trans {S : List Nat} {h h1 h2 : AH} (a : Fr S h h1) (b : Fr S h1 h2) : Fr S h h2 := ⟨Nat.le_trans a.len b.len, fun i hi hs => (b.at_ i (Nat.lt_of_lt_of_le hi a.len) hs).trans (a.at_ i hi hs)⟩
theorem Fr.mono {S S' : List Nat} {h h' : AH} (a : Fr S h h') (hs : ∀ i ∈ S, i ∈ S') : Fr S' h h' := ⟨a.len, fun i hi hn => a.at_ i hi fun z => hn (hs i z)⟩
theorem Fr.app {S : List Nat} {h t : AH} : Fr S h (h ++ t) := ⟨by simp, fun i hi _ => by rw [List.getElem?_append_left hi]⟩
theorem Fr.set {S : List Nat} {h : AH} {l : Nat} {o : O} (hl : l ∈ S) : Fr S h (h.set l o) := ⟨by simp, fun i hi hn => by rw [List.getElem?_set_ne (fun z => hn (by rw [← z]; exact hl))]⟩
theorem Fr.get {S : List Nat} {h h' : AH} {i : Nat} {o : O} (a : Fr S h h') (e : h[i]? = some o) (hn : i ∉ S) : h'[i]? = some o := by
  rw [a.at_ i (List.getElem?_eq_some_iff.mp e).1 hn]
  exact e
/-- a well of three ints -/
def Well (h : AH) (l : Nat) : Prop := ∃ a b c : Int, h[l]? = some (.lst [.int a, .int b, .int c])
theorem Well.fr {S : List Nat} {h h' : AH} {l : Nat} (w : Well h l) (a : Fr S h h') (hn : l ∉ S) : Well h' l := by
  obtain ⟨x, y, z, e⟩ := w
  exact ⟨x, y, z, a.get e hn⟩
theorem Well.lt {h : AH} {l : Nat} (w : Well h l) : l < h.length := by
  obtain ⟨x, y, z, e⟩ := w
  exact (List.getElem?_eq_some_iff.mp e).1
theorem xl_comp (g : Ev) (σ : St) (h : AH) (own tg it ifs elt) : evalL g (.comp own tg it ifs elt) σ h = compW (evalI g it σ h) (fun w h2 => asgT g tg w (wipeA σ (own.map (·.2))) h2) (fun σ2 h3 => evalIf g ifs σ2 h3) (fun σ2 h4 => evalE g elt σ2 h4) := by rw [evalL]
theorem compW_ok {itf : Res Src} {asg : W → AH → Res St} {iff : St → AH → Res Bool} {elt : St → AH → Res W} {src : Src} {h1 h2 : AH} {ws : List W} (e : itf = .ok src h1)
    (e2 : compLoop (fun w h2 => (asg w h2).bind fun σ2 h3 => (iff σ2 h3).bind fun c h4 => if c then (elt σ2 h4).bind fun y h5 => .ok (some y) h5 else .ok none h4) src.held src.items h1 = .ok ws h2) (hz : ws.length ≤ 1000000) : compW itf asg iff elt = .ok ws h2 := by
  rw [compW_eq, e]
  show (toNoExc (compLoop _ src.held src.items h1)).bind _ = _
  rw [e2]
  show (if szOk ws.length then Res.ok ws h2 else .stuck) = _
  rw [if_pos (show szOk ws.length = true from decide_eq_true hz)]
theorem rngW_len {j : Int} : (rngW 0 j).length = j.toNat := by
  unfold rngW
  simp
theorem rngW_mem {j : Int} {w : W} (h : w ∈ rngW 0 j) : ∃ i : Nat, w = .int i ∧ (i : Int) < j := by
  unfold rngW at h
  rw [List.mem_map] at h
  obtain ⟨i, hi, rfl⟩ := h
  rw [List.mem_range] at hi
  refine ⟨i, by simp, by omega⟩
@[simp] theorem rng1 (j : Int) (h : AH) : rngR [.int j] h = if rngOk j then .ok ⟨rngW 0 j, []⟩ h else .stuck := Eq.trans rfl rfl
theorem rng_ok {j : Int} (h1 : 0 ≤ j) (h2 : j ≤ 1000000) : rngOk j = true := by
  unfold rngOk
  simp only [Bool.and_eq_true, decide_eq_true_eq]
  omega
theorem held_nil {h : AH} : heldOk [] h = true := rfl
theorem comp_ok (g : Ev) (Iv : AH → Prop) (P : W → Prop) {own : List (Str × Nat)} {tg : Tg} {it : It} {elt : C} {σ : St} {h h1 : AH} {src : Src} (e : evalI g it σ h = .ok src h1) (iv : Iv h1) (hh : ∀ h, Iv h → heldOk src.held h = true) (hz : src.items.length ≤ 1000000)
    (turn : ∀ w ∈ src.items, ∀ h, Iv h → ∃ σ2 y h', asgT g tg w (wipeA σ (own.map (·.2))) h = .ok σ2 h ∧ evalE g elt σ2 h = .ok y h' ∧ Iv h' ∧ P y) :
    ∃ ys h2, evalL g (.comp own tg it [] elt) σ h = .ok ys h2 ∧ Iv h2 ∧ ys.length = src.items.length ∧ ∀ y ∈ ys, P y := by
  obtain ⟨ys, h2, e1, e2, e3, e4⟩ := compLoop_inv (f := fun w h2 => (asgT g tg w (wipeA σ (own.map (·.2))) h2).bind fun σ2 h3 => (evalIf g [] σ2 h3).bind fun c h4 => if c then (evalE g elt σ2 h4).bind fun y h5 => .ok (some y) h5 else .ok none h4) Iv P hh src.items (fun w hw h iv => by
    obtain ⟨σ2, y, h', a1, a2, a3, a4⟩ := turn w hw h iv
    exact ⟨y, h', by simp [a1, a2], a3, a4⟩) h1 iv
  exact ⟨ys, h2, by rw [xl_comp]; exact compW_ok e e1 (by rw [e3]; exact hz), e2, e3, e4⟩
/-- .. where nothing changes -/
theorem comp_map (g : Ev) (F : W → Option W) {own : List (Str × Nat)} {tg : Tg} {it : It} {ifs : List T} {elt : C} {σ : St} {h h1 : AH} {src : Src} (e : evalI g it σ h = .ok src h1) (hh : heldOk src.held h1 = true) (hz : src.items.length ≤ 1000000)
    (turn : ∀ w ∈ src.items, ∃ σ2 c, asgT g tg w (wipeA σ (own.map (·.2))) h1 = .ok σ2 h1 ∧ evalIf g ifs σ2 h1 = .ok c h1 ∧ (c = true → ∃ y, F w = some y ∧ evalE g elt σ2 h1 = .ok y h1) ∧ (c = false → F w = none)) :
    evalL g (.comp own tg it ifs elt) σ h = .ok (src.items.filterMap F) h1 := by
  rw [xl_comp]
  refine compW_ok e (compLoop_map F hh _ fun w hw => ?_) (Nat.le_trans (List.length_filterMap_le _ _) hz)
  obtain ⟨σ2, c, a1, a2, a3, a4⟩ := turn w hw
  rw [a1]
  simp only [Res.bind_ok, a2]
  cases c with
  | true =>
    obtain ⟨y, b1, b2⟩ := a3 rfl
    simp [b1, b2]
  | false => simp [a4 rfl]
@[simp] theorem pl_tuple (ws : List W) (h : AH) : primL .tuple ws h = .ok (.tup ws) h := Eq.trans rfl rfl
theorem comp_okN (g : Ev) (Iv : AH → Prop) (P : W → Prop) {own : List (Str × Nat)} {i : Nat} {it : It} {elt : C} {σ : St} {h h1 : AH} {src : Src} (e : evalI g it σ h = .ok src h1) (iv : Iv h1) (hh : ∀ h, Iv h → heldOk src.held h = true) (hz : src.items.length ≤ 1000000)
    (turn : ∀ w ∈ src.items, ∀ h, Iv h → ∃ y h', evalE g elt ((wipeA σ (own.map (·.2))).set i (some w)) h = .ok y h' ∧ Iv h' ∧ P y) :
    ∃ ys h2, evalL g (.comp own (.nm i) it [] elt) σ h = .ok ys h2 ∧ Iv h2 ∧ ys.length = src.items.length ∧ ∀ y ∈ ys, P y :=
  comp_ok g Iv P e iv hh hz fun w hw h iv => by
    obtain ⟨y, h', a, b, c⟩ := turn w hw h iv
    exact ⟨_, y, h', by rw [xg_nm], a, b, c⟩
/-! data -/
mutual
def datW : W → Bool
  | .non => true
  | .bl _ => true
  | .int _ => true
  | .str x => x.cps.all (· < 0x110000)
  | .tup ws => datWs ws
  | _ => false
def datWs : List W → Bool
  | [] => true
  | w :: ws => datW w && datWs ws
end
mutual
def depW : W → Nat
  | .tup ws => depWs ws + 1
  | _ => 0
def depWs : List W → Nat
  | [] => 0
  | w :: ws => max (depW w) (depWs ws)
end
mutual
theorem toDf_dat : ∀ (w : W), datW w = true → ∃ d, toDf w = some d ∧ d.canLay0 = true ∧ d.depth = depW w
  | .non, _ => ⟨_, rfl, rfl, rfl⟩
  | .bl _, _ => ⟨_, rfl, rfl, rfl⟩
  | .int _, _ => ⟨_, rfl, rfl, rfl⟩
  | .str x, h => ⟨_, rfl, by
      show PyData.strOk x = true
      unfold datW at h
      exact h, rfl⟩
  | .tup ws, h => by
    unfold datW at h
    obtain ⟨ds, e1, e2, e3⟩ := toDfs_dat ws h
    refine ⟨.tuple ds, by unfold toDf; rw [e1]; rfl, e2, ?_⟩
    unfold depW
    rw [← e3]
    rfl
  | .loc _, h => by cases h
  | .exo _ _ _, h => by cases h
  | .scr, h => by cases h
theorem toDfs_dat : ∀ (ws : List W), datWs ws = true → ∃ ds, toDfs ws = some ds ∧ PyData.canLayAll0 ds = true ∧ PyData.depthAll ds = depWs ws
  | [], _ => ⟨[], rfl, rfl, rfl⟩
  | w :: ws, h => by
    unfold datWs at h
    rw [Bool.and_eq_true] at h
    obtain ⟨d, a1, a2, a3⟩ := toDf_dat w h.1
    obtain ⟨ds, b1, b2, b3⟩ := toDfs_dat ws h.2
    refine ⟨d :: ds, by unfold toDfs; rw [a1, b1], ?_, ?_⟩
    · show (d.canLay0 && PyData.canLayAll0 ds) = true
      rw [a2, b2]
      rfl
    · show max d.depth (PyData.depthAll ds) = _
      unfold depWs
      rw [a3, b3]
end
theorem toD_dat {h : AH} {w : W} (e : datW w = true) : toD h w = toDf w := by
  cases w <;> first | rfl | cases e
theorem eqW_D {h : AH} {x y : W} (hx : ∀ s, x ≠ .str s) : eqW h x y = eqD h x y := by
  unfold eqW
  split
  · exact absurd rfl (hx _)
  · rfl
theorem eqW_self {h : AH} {w : W} (e : datW w = true) (d : depW w ≤ 64) : eqW h w w = some true := by
  obtain ⟨x, e1, e2, e3⟩ := toDf_dat w e
  have sh : shp x = true := by
    show (x.canLay0 && decide (x.depth ≤ 64)) = true
    rw [e2, e3, decide_eq_true d]
    rfl
  by_cases hs : ∃ s, w = .str s
  · obtain ⟨s, rfl⟩ := hs
    simp [eqW]
  rw [eqW_D fun s z => hs ⟨s, z⟩]
  unfold eqD
  rw [toD_dat e, e1]
  simp only [sh, Bool.and_self, if_true]
  rw [SeqAt.eqv_refl x e2]
theorem eqW_nil {h : AH} {ws : List W} (e : datWs ws = true) (d : depWs ws < 64) : eqW h (.tup ws) (.tup []) = some ws.isEmpty := by
  obtain ⟨ds, e1, e2, e3⟩ := toDfs_dat ws e
  have sh : shp (.tuple ds) = true := by
    show (PyData.canLayAll0 ds && decide (PyData.depthAll ds + 1 ≤ 64)) = true
    rw [e2, e3, decide_eq_true (show depWs ws + 1 ≤ 64 from d)]
    rfl
  have s2 : shp (.tuple []) = true := rfl
  have t1 : toD h (.tup ws) = some (.tuple ds) := by
    show toDf (.tup ws) = _
    unfold toDf
    rw [e1]
    rfl
  have t2 : toD h (.tup []) = some (.tuple []) := rfl
  rw [eqW_D fun s z => by cases z]
  unfold eqD
  rw [t1, t2]
  simp only [sh, s2, Bool.and_self, if_true]
  cases ws with
  | nil =>
    cases e1
    rfl
  | cons w ws =>
    unfold toDfs at e1
    split at e1
    · cases e1
      rfl
    · cases e1
theorem datWs_of : ∀ {ws : List W}, (∀ w ∈ ws, datW w = true) → datWs ws = true
  | [], _ => rfl
  | w :: ws, h => by
    unfold datWs
    rw [h w List.mem_cons_self, datWs_of fun w' hw => h w' (List.mem_cons_of_mem _ hw)]
    rfl
theorem depWs_of {n : Nat} : ∀ {ws : List W}, (∀ w ∈ ws, depW w ≤ n) → depWs ws ≤ n
  | [], _ => Nat.zero_le _
  | w :: ws, h => by
    unfold depWs
    have h1 := h w List.mem_cons_self
    have h2 := depWs_of fun w' hw => h w' (List.mem_cons_of_mem _ hw)
    omega
theorem flats_of : ∀ {ws : List W}, (∀ w ∈ ws, W.flat w = true) → W.flats ws = true
  | [], _ => rfl
  | w :: ws, h => by
    unfold W.flats
    rw [h w List.mem_cons_self, flats_of fun w' hw => h w' (List.mem_cons_of_mem _ hw)]
    rfl
theorem flats_int (is : List Int) : W.flats (is.map .int) = true := flats_of fun w hw => by
  obtain ⟨i, _, rfl⟩ := List.mem_map.mp hw
  rfl
theorem datWs_int (is : List Int) : datWs (is.map .int) = true := datWs_of fun w hw => by
  obtain ⟨i, _, rfl⟩ := List.mem_map.mp hw
  rfl
theorem depWs_int (is : List Int) : depWs (is.map .int) = 0 := Nat.le_zero.mp (depWs_of fun w hw => by
  obtain ⟨i, _, rfl⟩ := List.mem_map.mp hw
  exact Nat.le_refl _)
@[simp] theorem c_isnN (x : W) (h : AH) : cmpW .isn x .non h = .ok (.bl (decide (x = .non))) h := by
  show optR (isW x .non) id h = _
  have : isW x .non = some (decide (x = .non)) := by cases x <;> rfl
  rw [this]
  rfl
@[simp] theorem c_isntN (x : W) (h : AH) : cmpW .isnt x .non h = .ok (.bl (!decide (x = .non))) h := by
  show optR (isW x .non) not h = _
  have : isW x .non = some (decide (x = .non)) := by cases x <;> rfl
  rw [this]
  rfl
theorem c_eq {x y : W} {h : AH} {b : Bool} (e : eqW h x y = some b) : cmpW .eq x y h = .ok (.bl b) h := by
  show optR (eqW h x y) id h = _
  rw [e]
  rfl
theorem c_ne {x y : W} {h : AH} {b : Bool} (e : eqW h x y = some b) : cmpW .ne x y h = .ok (.bl (!b)) h := by
  show optR (eqW h x y) not h = _
  rw [e]
  rfl
/-! heaps at their end -/
@[simp] theorem get_app0 (h t : AH) : (h ++ t)[h.length]? = t[0]? := by
  rw [List.getElem?_append_right (Nat.le_refl _), Nat.sub_self]
@[simp] theorem get_appi (h t : AH) (i : Nat) : (h ++ t)[h.length + i]? = t[i]? := by
  rw [List.getElem?_append_right (Nat.le_add_right _ _), Nat.add_sub_cancel_left]
@[simp] theorem set_app0 (h t : AH) (o : O) : (h ++ t).set h.length o = h ++ t.set 0 o := by
  rw [List.set_append_right _ _ (Nat.le_refl _), Nat.sub_self]
@[simp] theorem set_appi (h t : AH) (o : O) (i : Nat) : (h ++ t).set (h.length + i) o = h ++ t.set i o := by
  rw [List.set_append_right _ _ (Nat.le_add_right _ _), Nat.add_sub_cancel_left]
theorem setA_top {g : Ev} {c : Nat} {cl : ClsC} (hc : g.gc.clss.lookup c = some cl) (f : Str) (hf : f ∈ cl.flds) (h t : AH) (v : W) (fs : List (Str × W)) (hz : fs.length < 1000) : setA g (.loc h.length) f v (h ++ .ins c fs :: t) = .ok () (h ++ .ins c (putA f v fs) :: t) := by
  unfold setA
  simp [hc, hf, hz]
theorem setA_at {g : Ev} {c l : Nat} {cl : ClsC} (hc : g.gc.clss.lookup c = some cl) (f : Str) (hf : f ∈ cl.flds) {h : AH} (v : W) {fs : List (Str × W)} (hl : h[l]? = some (.ins c fs)) (hz : fs.length < 1000) : setA g (.loc l) f v h = .ok () (h.set l (.ins c (putA f v fs))) := by
  unfold setA
  simp [hc, hf, hz, hl]
theorem attr_at {g : Ev} {c l : Nat} {cl : ClsC} (hc : g.gc.clss.lookup c = some cl) (f : Str) (hf : f ∈ cl.flds) (hp : cl.props.lookup f = none) {h : AH} {fs : List (Str × W)} (hl : h[l]? = some (.ins c fs)) {w : W} (hw : fs.lookup f = some w) : attrW g (.loc l) f h = .ok w h := by
  unfold attrW
  simp [hc, hf, hp, hl, hw]
theorem prop_at {g : Ev} {c l p : Nat} {cl : ClsC} (hc : g.gc.clss.lookup c = some cl) (f : Str) (hp : cl.props.lookup f = some p) {h : AH} {fs : List (Str × W)} (hl : h[l]? = some (.ins c fs)) : attrW g (.loc l) f h = toNoExc (g.cf p [.loc l] h) := by
  unfold attrW
  simp [hc, hp, hl]
theorem meth_at {g : Ev} {c l p : Nat} {cl : ClsC} (hc : g.gc.clss.lookup c = some cl) (f : Str) (hp : cl.meths.lookup f = some p) {h : AH} {fs : List (Str × W)} (hl : h[l]? = some (.ins c fs)) (hn : fs.lookup f = none) : methL g f (.loc l) h = some p := by
  unfold methL
  simp [hc, hp, hl, hn]
theorem new_at {g : Ev} {c f : Nat} {cl : ClsC} (hc : g.gc.clss.lookup c = some cl) (hf : cl.init = f) {ws kws : List W} {ks : List Str} {h h2 : AH} (e : callW g f (.loc h.length :: ws) ks kws (h ++ [.ins c []]) = .ok .non h2) : newW g c ws ks kws h = .ok (.loc h.length) h2 := by
  unfold newW
  rw [hc]
  dsimp only
  rw [hf, e]
  simp
@[simp] theorem c_eqB (a b : Bool) (h : AH) : cmpW .eq (.bl a) (.bl b) h = .ok (.bl (a == b)) h := c_eq rfl
@[simp] theorem c_neB (a b : Bool) (h : AH) : cmpW .ne (.bl a) (.bl b) h = .ok (.bl (!(a == b))) h := c_ne rfl
/-- items one by one, told by their number -/
theorem compLoop_idx {f : W → AH → Res (Option W)} {held : List (Nat × List W)} (Iv : Nat → AH → Prop) (P : W → Prop) (hh : ∀ n h, Iv n h → heldOk held h = true) : ∀ (ws : List W) (n : Nat), (∀ i (hi : i < ws.length) h, Iv (n + i) h → ∃ y h', f ws[i] h = .ok (some y) h' ∧ Iv (n + i + 1) h' ∧ P y) → ∀ h, Iv n h →
    ∃ ys h', compLoop f held ws h = .ok ys h' ∧ Iv (n + ws.length) h' ∧ ys.length = ws.length ∧ ∀ y ∈ ys, P y
  | [], n, _, h, iv => ⟨[], h, by unfold compLoop; rw [if_pos (hh n h iv)], iv, rfl, fun _ z => nomatch z⟩
  | w :: ws, n, hf, h, iv => by
    obtain ⟨y, h1, e1, iv1, p1⟩ := hf 0 (Nat.succ_pos _) h iv
    obtain ⟨ys, h2, e2, iv2, l2, p2⟩ := compLoop_idx Iv P hh ws (n + 1) (fun i hi h iv => by
      have := hf (i + 1) (by simpa using hi) h (by rw [show n + (i + 1) = n + 1 + i by omega]; exact iv)
      rw [show n + (i + 1) = n + 1 + i by omega] at this
      simpa using this) h1 iv1
    refine ⟨y :: ys, h2, ?_, by rw [List.length_cons, show n + (ws.length + 1) = n + 1 + ws.length by omega]; exact iv2, by simp [l2], fun z hz => ?_⟩
    · unfold compLoop
      have e1 : f w h = .ok (some y) h1 := e1
      rw [if_pos (hh n h iv), e1]
      show (compLoop f held ws h1).bind _ = _
      rw [e2]
      rfl
    · rcases List.mem_cons.mp hz with rfl | hz
      · exact p1
      · exact p2 z hz
theorem comp_idx (g : Ev) (Iv : Nat → AH → Prop) (P : W → Prop) {own : List (Str × Nat)} {i : Nat} {it : It} {elt : C} {σ : St} {h h1 : AH} {src : Src} (e : evalI g it σ h = .ok src h1) (iv : Iv 0 h1) (hh : ∀ n h, Iv n h → heldOk src.held h = true) (hz : src.items.length ≤ 1000000)
    (turn : ∀ j (hj : j < src.items.length) h, Iv j h → ∃ y h', evalE g elt ((wipeA σ (own.map (·.2))).set i (some src.items[j])) h = .ok y h' ∧ Iv (j + 1) h' ∧ P y) :
    ∃ ys h2, evalL g (.comp own (.nm i) it [] elt) σ h = .ok ys h2 ∧ Iv src.items.length h2 ∧ ys.length = src.items.length ∧ ∀ y ∈ ys, P y := by
  obtain ⟨ys, h2, e1, e2, e3, e4⟩ := compLoop_idx (f := fun w h2 => (asgT g (.nm i) w (wipeA σ (own.map (·.2))) h2).bind fun σ2 h3 => (evalIf g [] σ2 h3).bind fun c h4 => if c then (evalE g elt σ2 h4).bind fun y h5 => .ok (some y) h5 else .ok none h4) Iv P hh src.items 0 (fun j hj h iv => by
    rw [Nat.zero_add] at iv
    obtain ⟨y, h', a1, a2, a3⟩ := turn j hj h iv
    rw [Nat.zero_add]
    exact ⟨y, h', by simp [a1], a2, a3⟩) h1 iv
  rw [Nat.zero_add] at e2
  exact ⟨ys, h2, by rw [xl_comp]; exact compW_ok e e1 (by rw [e3]; exact hz), e2, e3, e4⟩
/-! great numbers -/
theorem log2_lt {n k : Nat} (h : n < 2 ^ k) (hk : 0 < k) : n.log2 < k := by
  by_cases hn : n = 0
  · subst hn
    rw [Nat.log2_zero]
    exact hk
  · exact (Nat.log2_lt hn).mpr h
theorem powOk_of {i n : Int} (N k : Nat) (h0 : 0 ≤ i) (h1 : i ≤ N) (h2 : Nat.ble (N + 1) (2 ^ k) = true) (hk : 0 < k) (hn : 0 ≤ n) (hz : ((k : Int) + 1) * n ≤ 134217728) : powOk i n = true := by
  unfold powOk
  have h3 : bigI i < k := by
    unfold bigI
    exact log2_lt (Nat.lt_of_lt_of_le (show i.natAbs < N + 1 by omega) (Nat.le_of_ble_eq_true h2)) hk
  rw [Bool.and_eq_true, decide_eq_true_eq, decide_eq_true_eq]
  refine ⟨hn, Int.le_trans (Int.mul_le_mul_of_nonneg_right ?_ hn) hz⟩
  omega
theorem strI_ok {i : Int} (k : Nat) (h1 : i.natAbs < 2 ^ k) (hk : 0 < k) (hz : k ≤ 1920) : strI i = some (Str.ofString (toString i)) := by
  unfold strI
  rw [if_pos (decide_eq_true (Nat.lt_of_lt_of_le (log2_lt h1 hk) hz))]
end AM
/-! What can be shown; the texts' lemmas. -/
namespace AM
open PySem
mutual
def wtW : W → Nat
  | .str x => x.cps.size
  | .tup ws => wtWs ws
  | .int i => if i == 0 then 0 else i.natAbs.log2 + 1
  | _ => 0
def wtWs : List W → Nat
  | [] => 0
  | w :: ws => wtW w + 1 + wtWs ws
end
mutual
/-- data of small numbers -/
def smW : W → Bool
  | .non => true
  | .bl _ => true
  | .int i => decide (i.natAbs < 10 ^ 12)
  | .str x => x.cps.all (· < 0x110000)
  | .tup ws => smWs ws
  | _ => false
def smWs : List W → Bool
  | [] => true
  | w :: ws => smW w && smWs ws
end
theorem cps_short {x : Str} (h : x.cps.all (· < 0x110000) = true) : (x.cps.toList.all fun c => decide (c < 16 ^ 8)) = true := by
  rw [List.all_eq_true]
  intro c hc
  rw [Array.all_eq_true_iff_forall_mem] at h
  have := h c (by simpa using hc)
  simp only [decide_eq_true_eq] at this ⊢
  exact Nat.lt_trans this (by decide)
mutual
theorem smW_ok : ∀ (w : W), smW w = true → ∃ d, toDf w = some d ∧ d.showable = true ∧ d.hasDict = false ∧ d.leavesShort 13 = true ∧ d.weight = wtW w ∧ d.depth = depW w ∧ d.canLay0 = true
  | .non, _ => ⟨_, rfl, rfl, rfl, rfl, rfl, rfl, rfl⟩
  | .bl _, _ => ⟨_, rfl, rfl, rfl, rfl, rfl, rfl, rfl⟩
  | .int i, h => by
    unfold smW at h
    have h := of_decide_eq_true h
    refine ⟨_, rfl, ?_, rfl, ?_, rfl, rfl, rfl⟩
    · unfold PyData.showable
      rw [decide_eq_true_eq]
      exact Nat.lt_of_lt_of_le (log2_lt (k := 40) (Nat.lt_trans h (by decide)) (by decide)) (by decide)
    · unfold PyData.leavesShort
      rw [decide_eq_true_eq]
      exact PyData.shown_int_le h
  | .str x, h => by
    unfold smW at h
    refine ⟨_, rfl, rfl, rfl, ?_, rfl, rfl, h⟩
    unfold PyData.leavesShort
    exact cps_short h
  | .tup ws, h => by
    unfold smW at h
    obtain ⟨ds, e, h1, h2, h3, h4, h5, h6⟩ := smWs_ok ws h
    refine ⟨.tuple ds, by unfold toDf; rw [e]; rfl, h1, h2, h3, h4, ?_, h6⟩
    unfold depW
    rw [← h5]
    rfl
  | .loc _, h => by cases h
  | .exo _ _ _, h => by cases h
  | .scr, h => by cases h
theorem smWs_ok : ∀ (ws : List W), smWs ws = true → ∃ ds, toDfs ws = some ds ∧ PyData.showableAll ds = true ∧ PyData.hasDictAll ds = false ∧ PyData.leavesShortAll 13 ds = true ∧ PyData.weightAll ds = wtWs ws ∧ PyData.depthAll ds = depWs ws ∧ PyData.canLayAll0 ds = true
  | [], _ => ⟨[], rfl, rfl, rfl, rfl, rfl, rfl, rfl⟩
  | w :: ws, h => by
    unfold smWs at h
    rw [Bool.and_eq_true] at h
    obtain ⟨d, a, a1, a2, a3, a4, a5, a6⟩ := smW_ok w h.1
    obtain ⟨ds, b, b1, b2, b3, b4, b5, b6⟩ := smWs_ok ws h.2
    refine ⟨d :: ds, by unfold toDfs; rw [a, b], ?_, ?_, ?_, ?_, ?_, ?_⟩
    · show (d.showable && PyData.showableAll ds) = true
      rw [a1, b1]
      rfl
    · show (d.hasDict || PyData.hasDictAll ds) = false
      rw [a2, b2]
      rfl
    · show (d.leavesShort 13 && PyData.leavesShortAll 13 ds) = true
      rw [a3, b3]
      rfl
    · show d.weight + 1 + PyData.weightAll ds = _
      unfold wtWs
      rw [a4, b4]
    · show max d.depth (PyData.depthAll ds) = _
      unfold depWs
      rw [a5, b5]
    · show (d.canLay0 && PyData.canLayAll0 ds) = true
      rw [a6, b6]
      rfl
end
theorem reprD_sm {ws : List W} (h : smWs ws = true) (hw : wtWs ws ≤ 2 ^ 20) (hd : depWs ws ≤ 59) (f : List PyData → PyData) (hf : f = .tuple ∨ f = .list) : ∃ s, (toDfs ws).bind (fun ds => reprD (f ds)) = some s := by
  obtain ⟨ds, e, h1, h2, h3, h4, h5, h6⟩ := smWs_ok ws h
  rw [e]
  have k1 : (f ds).showable = true := by rcases hf with rfl | rfl <;> exact h1
  have k2 : (f ds).hasDict = false := by rcases hf with rfl | rfl <;> exact h2
  have k3 : (f ds).depth ≤ 60 := by
    have : (f ds).depth = depWs ws + 1 := by rcases hf with rfl | rfl <;> (rw [← h5]; rfl)
    omega
  have k4 : (f ds).shown.length ≤ sizeLine := by
    refine PyData.shown_fits (B := 13) (by decide) (by decide) ?_ ?_
    · rcases hf with rfl | rfl <;> exact h3
    · have : (f ds).weight = wtWs ws := by rcases hf with rfl | rfl <;> exact h4
      omega
  refine ⟨(f ds).shown, ?_⟩
  show reprD (f ds) = _
  unfold reprD
  rw [k1, k2, decide_eq_true k3, decide_eq_true k4]
  rfl
/-- the text of a list, of a tuple, of small data -/
theorem repr_tup {ws : List W} (h : smWs ws = true) (hw : wtWs ws ≤ 2 ^ 20) (hd : depWs ws ≤ 59) : ∃ s, ∀ hp, reprW hp (.tup ws) = some s := by
  obtain ⟨s, e⟩ := reprD_sm h hw hd .tuple (.inl rfl)
  refine ⟨s, fun hp => ?_⟩
  rw [← e]
  show (toDf (.tup ws)).bind reprD = _
  unfold toDf
  cases toDfs ws <;> rfl
theorem repr_lst {ws : List W} (h : smWs ws = true) (hw : wtWs ws ≤ 2 ^ 20) (hd : depWs ws ≤ 59) : ∃ s, ∀ hp l, hp[l]? = some (.lst ws) → reprW hp (.loc l) = some s := by
  obtain ⟨s, e⟩ := reprD_sm h hw hd .list (.inr rfl)
  refine ⟨s, fun hp l hl => ?_⟩
  rw [← e]
  show (toD hp (.loc l)).bind reprD = _
  have : toD hp (.loc l) = (toDfs ws).map .list := by
    unfold toD
    simp only [hl]
  rw [this]
  cases toDfs ws <;> rfl
theorem repr_int {i : Int} (h : i.natAbs < 2 ^ 1000) : ∃ s, ∀ hp, reprW hp (.int i) = some s := ⟨_, fun _ => strI_ok 1000 h (by decide) (by decide)⟩
@[simp] theorem c_eqS (a b : Str) (h : AH) : cmpW .eq (.str a) (.str b) h = .ok (.bl (decide (a = b))) h := c_eq (b := decide (a = b)) (by unfold eqW; rfl)
@[simp] theorem c_neS (a b : Str) (h : AH) : cmpW .ne (.str a) (.str b) h = .ok (.bl (!decide (a = b))) h := c_ne (b := decide (a = b)) (by unfold eqW; rfl)
theorem pr_repr {g : Ev} {x : W} {h : AH} {s : Str} (e : reprW h x = some s) : primW g .repr [x] h = .ok (.str s) h := by
  show (match reprW h x with
    | some y => Res.ok (W.str y) h
    | none => .stuck) = _
  rw [e]
theorem smWs_of : ∀ {ws : List W}, (∀ w ∈ ws, smW w = true) → smWs ws = true
  | [], _ => rfl
  | w :: ws, h => by
    unfold smWs
    rw [h w List.mem_cons_self, smWs_of fun w' hw => h w' (List.mem_cons_of_mem _ hw)]
    rfl
theorem wtWs_of {n : Nat} : ∀ {ws : List W}, (∀ w ∈ ws, wtW w ≤ n) → wtWs ws ≤ (n + 1) * ws.length
  | [], _ => Nat.zero_le _
  | w :: ws, h => by
    unfold wtWs
    have h1 := h w List.mem_cons_self
    have h2 := wtWs_of fun w' hw => h w' (List.mem_cons_of_mem _ hw)
    rw [List.length_cons, Nat.mul_add, Nat.mul_one]
    omega
theorem wt_int {i : Int} (k : Nat) (h : i.natAbs < 2 ^ k) (hk : 0 < k) : wtW (.int i) ≤ k := by
  unfold wtW
  split
  · exact Nat.zero_le _
  · exact log2_lt h hk
mutual
theorem dat_sm : ∀ {w : W}, smW w = true → datW w = true
  | .non, _ => rfl
  | .bl _, _ => rfl
  | .int _, _ => rfl
  | .str _, h => h
  | .tup ws, h => by
    unfold smW at h
    unfold datW
    exact dats_sm h
  | .loc _, h => by cases h
  | .exo _ _ _, h => by cases h
  | .scr, h => by cases h
theorem dats_sm : ∀ {ws : List W}, smWs ws = true → datWs ws = true
  | [], _ => rfl
  | w :: ws, h => by
    unfold smWs at h
    rw [Bool.and_eq_true] at h
    unfold datWs
    rw [dat_sm h.1, dats_sm h.2]
    rfl
end
mutual
theorem flat_sm : ∀ {w : W}, smW w = true → W.flat w = true
  | .non, _ => rfl
  | .bl _, _ => rfl
  | .int _, _ => rfl
  | .str _, _ => rfl
  | .tup ws, h => by
    unfold smW at h
    unfold W.flat
    exact flats_sm h
  | .loc _, h => by cases h
  | .exo _ _ _, h => by cases h
  | .scr, h => by cases h
theorem flats_sm : ∀ {ws : List W}, smWs ws = true → W.flats ws = true
  | [], _ => rfl
  | w :: ws, h => by
    unfold smWs at h
    rw [Bool.and_eq_true] at h
    unfold W.flats
    rw [flat_sm h.1, flats_sm h.2]
    rfl
end
theorem ofString_inj {a b : String} (h : Str.ofString a = Str.ofString b) : a = b := by
  rw [Str.ofString_eq_toList, Str.ofString_eq_toList] at h
  have h1 : a.toList.map Char.toNat = b.toList.map Char.toNat := by
    have := congrArg (fun x : Str => x.cps.toList) h
    simpa using this
  have inj : ∀ {l m : List Char}, l.map Char.toNat = m.map Char.toNat → l = m := by
    intro l
    induction l with
    | nil =>
      intro m h
      cases m with
      | nil => rfl
      | cons _ _ => cases h
    | cons x l ih =>
      intro m h
      cases m with
      | nil => cases h
      | cons y m =>
        rw [List.map_cons, List.map_cons, List.cons.injEq] at h
        have hc : x = y := Char.ext (UInt32.toNat_inj.mp h.1)
        rw [hc, ih h.2]
  exact String.toList_inj.mp (inj h1)
@[simp] theorem ofString_eq (a b : String) : (Str.ofString a = Str.ofString b) = (a = b) := propext ⟨ofString_inj, fun e => by rw [e]⟩
@[simp] theorem pr_intB (g : Ev) (b : Bool) (h : AH) : primW g .int [.bl b] h = .ok (.int (if b then 1 else 0)) h := Eq.trans rfl rfl
@[simp] theorem c_neI (i j : Int) (h : AH) : cmpW .ne (.int i) (.int j) h = .ok (.bl (!decide (i = j))) h := by
  have e := c_eqI h i j
  have e2 : eqW h (.int i) (.int j) = some (decide (i = j)) := by
    have e : optR (eqW h (.int i) (.int j)) id h = .ok (.bl (decide (i = j))) h := e
    revert e
    cases eqW h (.int i) (.int j) with
    | none => exact fun z => by cases z
    | some b =>
      intro z
      have : b = decide (i = j) := by
        unfold optR at z
        simpa using z
      rw [this]
  exact c_ne e2
theorem sIx_at (n d : Nat) {i : Int} (hi : 0 ≤ i) : HT.sIx n d (some i) = min i.toNat n := by
  show (if i < 0 then (i + (n : Int)).toNat else min i.toNat n) = _
  rw [if_neg (by omega)]
theorem cut_to {α : Type} (xs : List α) {i : Int} (hi : 0 ≤ i) : cutW xs none (some i) = xs.take i.toNat := by
  unfold cutW
  rw [HT.sIx_none, sIx_at _ _ hi, List.drop_zero, Nat.sub_zero]
  by_cases h : i.toNat ≤ xs.length
  · rw [Nat.min_eq_left h]
  · rw [Nat.min_eq_right (by omega), List.take_of_length_le (Nat.le_refl _), List.take_of_length_le (by omega)]
theorem cut_from {α : Type} (xs : List α) {i : Int} (hi : 0 ≤ i) : cutW xs (some i) none = xs.drop i.toNat := by
  unfold cutW
  rw [HT.sIx_none, sIx_at _ _ hi]
  by_cases h : i.toNat ≤ xs.length
  · rw [Nat.min_eq_left h, List.take_of_length_le (by rw [List.length_drop]; omega)]
  · rw [Nat.min_eq_right (by omega), List.drop_of_length_le (Nat.le_refl _), List.drop_of_length_le (by omega)]
    simp
theorem slc_tup (ns : List Int) (ws : List W) (lo hi : Option Int) (h : AH) : slcR ns (.tup ws) lo hi h = .ok (.tup (cutW ws lo hi)) h := rfl
theorem slc_lst (ns : List Int) {ws : List W} (lo hi : Option Int) {h : AH} {l : Nat} (hl : h[l]? = some (.lst ws)) : slcR ns (.loc l) lo hi h = .ok (.loc h.length) (h ++ [.lst (cutW ws lo hi)]) := by
  show (match h[l]? with
    | some (.lst ws) => Res.ok (W.loc h.length) (h ++ [O.lst (cutW ws lo hi)])
    | _ => .stuck) = _
  rw [hl]
theorem add_tup (a b : List W) {h : AH} (hz : a.length + b.length ≤ 1000000) : binW .add (.tup a) (.tup b) h = .ok (.tup (a ++ b)) h := by
  show (if szOk (a.length + b.length) then Res.ok (W.tup (a ++ b)) h else .stuck) = _
  rw [if_pos (show szOk _ = true from decide_eq_true hz)]
theorem add_lst {a b : List W} {l m : Nat} {h : AH} (hl : h[l]? = some (.lst a)) (hm : h[m]? = some (.lst b)) (hz : a.length + b.length ≤ 1000000) : binW .add (.loc l) (.loc m) h = .ok (.loc h.length) (h ++ [.lst (a ++ b)]) := by
  rw [b_addL]
  simp only [hl, hm]
  rw [if_pos (show szOk _ = true from decide_eq_true hz)]
/-- one item is put in the place of another -/
theorem splice {α : Type} (xs : List α) (i : Nat) (x : α) (hi : i < xs.length) : xs.take i ++ x :: xs.drop (i + 1) = xs.set i x := by
  rw [List.set_eq_take_append_cons_drop, if_pos hi]
theorem fl_next {f : W → St → AH → Out} {held : List (Nat × List W)} {w : W} {ws : List W} {σ σ1 : St} {h h1 : AH} (hh : heldOk held h = true) (e : f w σ h = .next σ1 h1) : forLoop f held (w :: ws) σ h = forLoop f held ws σ1 h1 := by
  rw [forLoop, if_pos hh, e]
theorem fl_nil {f : W → St → AH → Out} {held : List (Nat × List W)} {σ : St} {h : AH} (hh : heldOk held h = true) : forLoop f held [] σ h = .next σ h := by
  rw [forLoop, if_pos hh]
theorem Fr.drop {S T : List Nat} {h t h' : AH} (a : Fr T (h ++ t) h') (q : ∀ i ∈ T, i ∈ S ∨ h.length ≤ i) : Fr S h h' := by
  refine ⟨Nat.le_trans (by simp) a.len, fun i hi hs => ?_⟩
  rw [a.at_ i (by rw [List.length_append]; omega) fun z => ?_, List.getElem?_append_left hi]
  rcases q i z with z | z
  · exact hs z
  · omega
theorem Fr.drop1 {S : List Nat} {h h' : AH} {o : O} (a : Fr (h.length :: S) (h ++ [o]) h') : Fr S h h' := a.drop fun i hi => by
  rcases List.mem_cons.mp hi with rfl | hi
  · exact .inr (Nat.le_refl _)
  · exact .inl hi
theorem callW_kw {g : Ev} {f : Nat} {d : DefC} {ws kws vs : List W} {k : Str} {ks : List Str} {is : List Nat} {h : AH} (hd : g.gc.defs[f]? = some d) (hl : kws.length = (k :: ks).length) (hk : decide ((f, ws.length, k :: ks) ∈ g.gc.kws) = true) (hp : permOf d.ps ws.length (k :: ks) = some is) (hv : pick (ws ++ kws) is = some vs) :
    callW g f ws (k :: ks) kws h = g.cf f vs h := by
  unfold callW
  simp only [hd, hl, hk, decide_true, Bool.and_self, if_true, hp, Option.bind_some, hv]
theorem app_lst {l : Nat} {xs : List W} {w : W} {h : AH} (hl : h[l]? = some (.lst xs)) (hz : xs.length < 1000000) : bmW .append (.loc l) [w] h = .ok .non (h.set l (.lst (xs ++ [w]))) := by
  show (match h[l]? with
    | some (.lst xs) => if xs.length < 1000000 then Res.ok W.non (h.set l (O.lst (xs ++ [w]))) else .stuck
    | _ => .stuck) = _
  rw [hl]
  exact if_pos hz
theorem bmt_lst {m : Bm} (hm : m = .append ∨ m = .extend ∨ m = .pop0) {l : Nat} {xs : List W} {h : AH} (hl : h[l]? = some (.lst xs)) : bmT m (.loc l) h = true := by
  rcases hm with rfl | rfl | rfl <;> simp [bmT, hl]
theorem ext_lst {l : Nat} {xs ws : List W} {h : AH} (hl : h[l]? = some (.lst xs)) (hz : xs.length + ws.length ≤ 1000000) : bmL .extend (.loc l) ws h = .ok .non (h.set l (.lst (xs ++ ws))) := by
  show (match h[l]? with
    | some (.lst xs) => if szOk (xs.length + ws.length) then Res.ok W.non (h.set l (O.lst (xs ++ ws))) else .stuck
    | _ => .stuck) = _
  rw [hl]
  exact if_pos (show szOk _ = true from decide_eq_true hz)
theorem ext_loc {l b : Nat} {xs ws : List W} {h : AH} (hl : h[l]? = some (.lst xs)) (hb : h[b]? = some (.lst ws)) (hz : xs.length + ws.length ≤ 1000000) : bmW .extend (.loc l) [.loc b] h = .ok .non (h.set l (.lst (xs ++ ws))) := by
  show (match h[l]?, h[b]? with
    | some (.lst xs), some (.lst ys) => if szOk (xs.length + ys.length) then Res.ok W.non (h.set l (O.lst (xs ++ ys))) else .stuck
    | _, _ => .stuck) = _
  rw [hl, hb]
  exact if_pos (show szOk _ = true from decide_eq_true hz)
theorem tup_lst {g : Ev} {l : Nat} {xs : List W} {h : AH} (hl : h[l]? = some (.lst xs)) : primW g .tuple [.loc l] h = .ok (.tup xs) h := by
  show (match h[l]? with
    | some (.lst xs) => Res.ok (W.tup xs) h
    | _ => .stuck) = _
  rw [hl]
end AM
namespace Law
open PySem AM L2 He AH
def top (i : Nat) : Stmt := PySem.Challenge.pw_arrivesalike_k75_programs_by_own_runs.main.body.getD i (.Pass ⟨0, 0, 0, 0⟩)
/- InvalidLog.__init__ -/
def d0 : DefC := ⟨["self", "index"], ["self", "index"], [.never]⟩
/- InvalidProgram.__init__ -/
def d1 : DefC := ⟨["self", "place"], ["self", "place"], [.never]⟩
/- is_integer -/
def d2 : DefC := ⟨["thing"], ["thing"], [
    .ret (.and [.prim (.isi ["int"] []) [.var 0], .not (.prim (.isi ["bool"] []) [.var 0])])]⟩
/- is_from -/
def d3 : DefC := ⟨["low", "thing"], ["low", "thing"], [
    .ret (.and [.call 2 [.var 1] [] [], .cmp .ge (.var 1) (.var 0)])]⟩
/- is_below -/
def d4 : DefC := ⟨["many", "thing"], ["many", "thing"], [
    .ret (.and [.call 3 [.con (.int 0), .var 1] [] [], .cmp .lt (.var 1) (.var 0)])]⟩
/- is_tuple -/
def d5 : DefC := ⟨["many", "thing"], ["many", "thing"], [
    .ret (.and [.prim (.isi ["tuple"] []) [.var 1], .or [.cmp .isn (.var 0) (.con .non), .cmp .eq (.prim .len [.var 1]) (.var 0)]])]⟩
/- row_fault -/
def d6 : DefC := ⟨["many", "thing"], ["many", "thing", "index", "one"], [
    .iff (.not (.val (.prim (.isi ["tuple"] []) [.var 1]))) [.ret (.neg (.con (.int 1)))] [],
    .for_ (.tp [.nm 2, .nm 3]) (.enum (.var 1)) [.iff (.not (.val (.call 4 [.var 0, .var 3] [] []))) [.ret (.var 2)] []],
    .ret (.con .non)]⟩
/- check_log -/
def d7 : DefC := ⟨["events", "thing"], ["events", "thing", "index"], [
    .asg (.nm 2) (.call 6 [.var 0, .var 1] [] []),
    .iff (.val (.cmp .isnt (.var 2) (.con .non))) [.never] []]⟩
/- is_expression -/
def d8 : DefC := ⟨["cells", "thing"], ["cells", "thing", "part"], [
    .iff (.or [.not (.val (.prim (.isi ["tuple"] []) [.var 1])), .val (.cmp .eq (.var 1) (.tup [])), .not (.val (.prim (.isi ["str"] []) [.sub (.var 1) (.con (.int 0))]))]) [.ret (.con (.bl false))] [],
    .iff (.val (.cmp .eq (.sub (.var 1) (.con (.int 0))) (.glo "VALUE" (.str "value")))) [.ret (.and [.cmp .eq (.prim .len [.var 1]) (.con (.int 2)), .call 3 [.con (.int 0), .sub (.var 1) (.con (.int 1))] [] []])] [],
    .iff (.val (.cmp .eq (.sub (.var 1) (.con (.int 0))) (.glo "CELL" (.str "cell")))) [.ret (.and [.cmp .eq (.prim .len [.var 1]) (.con (.int 2)), .call 4 [.var 0, .sub (.var 1) (.con (.int 1))] [] []])] [],
    .ret (.and [.cmp .in_ (.sub (.var 1) (.con (.int 0))) (.glo "OF_TWO" (.tup [.str "plus", .str "minus", .str "least", .str "greatest", .str "equal", .str "less"])), .cmp .eq (.prim .len [.var 1]) (.con (.int 3)), .primc .all (.comp [("part", 2)] (.nm 2) (.over (.slc (.var 1) [.con (.int 1)] [])) [] (.call 8 [.var 0, .var 2] [] []))])]⟩
/- is_statement -/
def d9 : DefC := ⟨["cells", "thing"], ["cells", "thing"], [
    .iff (.or [.not (.val (.prim (.isi ["tuple"] []) [.var 1])), .val (.cmp .eq (.var 1) (.tup [])), .not (.val (.prim (.isi ["str"] []) [.sub (.var 1) (.con (.int 0))]))]) [.ret (.con (.bl false))] [],
    .iff (.val (.cmp .eq (.sub (.var 1) (.con (.int 0))) (.glo "SET" (.str "set")))) [.ret (.and [.cmp .eq (.prim .len [.var 1]) (.con (.int 3)), .call 4 [.var 0, .sub (.var 1) (.con (.int 1))] [] [], .call 8 [.var 0, .sub (.var 1) (.con (.int 2))] [] []])] [],
    .iff (.or [.val (.cmp .ne (.sub (.var 1) (.con (.int 0))) (.glo "IF" (.str "if"))), .val (.cmp .ne (.prim .len [.var 1]) (.con (.int 4))), .not (.val (.call 8 [.var 0, .sub (.var 1) (.con (.int 1))] [] []))]) [.ret (.con (.bl false))] [],
    .ret (.and [.call 10 [.var 0, .sub (.var 1) (.con (.int 2))] [] [], .call 10 [.var 0, .sub (.var 1) (.con (.int 3))] [] []])]⟩
/- are_statements -/
def d10 : DefC := ⟨["cells", "thing"], ["cells", "thing", "one"], [
    .ret (.and [.prim (.isi ["tuple"] []) [.var 1], .primc .all (.comp [("one", 2)] (.nm 2) (.over (.var 1)) [] (.call 9 [.var 0, .var 2] [] []))])]⟩
/- program_fault -/
def d11 : DefC := ⟨["value"], ["value", "events", "sizes", "steps", "result", "event", "statements", "one"], [
    .iff (.not (.val (.call 5 [.con (.int 4), .var 0] [] []))) [.ret (.tup [])] [],
    .asg (.tp [.nm 1, .nm 2, .nm 3, .nm 4]) (.var 0),
    .iff (.not (.val (.call 3 [.con (.int 1), .var 1] [] []))) [.ret (.tup [.con (.int 0)])] [],
    .iff (.or [.not (.val (.prim (.isi ["tuple"] []) [.var 2])), .not (.val (.primc .all (.comp [("one", 7)] (.nm 7) (.over (.var 2)) [] (.call 3 [.con (.int 1), .var 7] [] []))))]) [.ret (.tup [.con (.int 1)])] [],
    .iff (.not (.val (.call 5 [.var 1, .var 3] [] []))) [.ret (.tup [.con (.int 2)])] [],
    .for_ (.tp [.nm 5, .nm 6]) (.enum (.var 3)) [.iff (.not (.val (.call 10 [.prim .len [.var 2], .var 6] [] []))) [.ret (.tup [.con (.int 2), .var 5])] []],
    .ret (.ife (.val (.call 8 [.prim .len [.var 2], .var 4] [] [])) (.con .non) (.tup [.con (.int 3)]))]⟩
/- check_program -/
def d12 : DefC := ⟨["thing"], ["thing", "place"], [
    .asg (.nm 1) (.call 11 [.var 0] [] []),
    .iff (.val (.cmp .isnt (.var 1) (.con .non))) [.never] []]⟩
/- of_two -/
def d13 : DefC := ⟨["word", "one", "two"], ["word", "one", "two"], [
    .iff (.val (.cmp .eq (.var 0) (.con (.str "plus")))) [.ret (.bin .add (.var 1) (.var 2))] [],
    .iff (.val (.cmp .eq (.var 0) (.con (.str "minus")))) [.ret (.prim .max2 [.con (.int 0), .bin .sub (.var 1) (.var 2)])] [],
    .iff (.val (.cmp .eq (.var 0) (.con (.str "least")))) [.ret (.prim .min2 [.var 1, .var 2])] [],
    .iff (.val (.cmp .eq (.var 0) (.con (.str "greatest")))) [.ret (.prim .max2 [.var 1, .var 2])] [],
    .ret (.ife (.val (.cmp .eq (.var 0) (.con (.str "equal")))) (.prim .int [.cmp .eq (.var 1) (.var 2)]) (.prim .int [.cmp .lt (.var 1) (.var 2)]))]⟩
/- value_of -/
def d14 : DefC := ⟨["cells", "expression"], ["cells", "expression", "word"], [
    .asg (.nm 2) (.sub (.var 1) (.con (.int 0))),
    .iff (.val (.cmp .eq (.var 2) (.glo "VALUE" (.str "value")))) [.ret (.sub (.var 1) (.con (.int 1)))] [],
    .iff (.val (.cmp .eq (.var 2) (.glo "CELL" (.str "cell")))) [.ret (.sub (.var 0) (.sub (.var 1) (.con (.int 1))))] [],
    .ret (.call 13 [.var 2, .call 14 [.var 0, .sub (.var 1) (.con (.int 1))] [] [], .call 14 [.var 0, .sub (.var 1) (.con (.int 2))] [] []] [] [])]⟩
/- done -/
def d15 : DefC := ⟨["sizes", "cells", "statements"], ["sizes", "cells", "statements", "statement", "at"], [
    .for_ (.nm 3) (.over (.var 2)) [.iff (.val (.cmp .eq (.sub (.var 3) (.con (.int 0))) (.glo "SET" (.str "set")))) [.asg (.nm 4) (.sub (.var 3) (.con (.int 1))), .asg (.nm 1) (.bin .add (.bin .add (.slc (.var 1) [] [.var 4]) (.tup [.bin .mod (.prim .int [.call 14 [.var 1, .sub (.var 3) (.con (.int 2))] [] []]) (.sub (.var 0) (.var 4))])) (.slc (.var 1) [.bin .add (.var 4) (.con (.int 1))] []))] [.asg (.nm 1) (.call 15 [.var 0, .var 1, .ife (.val (.cmp .ne (.call 14 [.var 1, .sub (.var 3) (.con (.int 1))] [] []) (.con (.int 0)))) (.sub (.var 3) (.con (.int 2))) (.sub (.var 3) (.con (.int 3)))] [] [])]],
    .ret (.var 1)]⟩
/- cells_in -/
def d16 : DefC := ⟨["program", "log"], ["program", "log", "cells", "event"], [
    .asg (.nm 2) (.bin .mul (.tup [.con (.int 0)]) (.prim .len [.sub (.var 0) (.con (.int 1))])),
    .for_ (.nm 3) (.over (.var 1)) [.asg (.nm 2) (.call 15 [.sub (.var 0) (.con (.int 1)), .var 2, .sub (.sub (.var 0) (.con (.int 2))) (.var 3)] [] [])],
    .ret (.var 2)]⟩
/- check_run -/
def d17 : DefC := ⟨["program", "log"], ["program", "log"], [
    .ex (.call 12 [.var 0] [] []),
    .ex (.call 7 [.sub (.var 0) (.con (.int 0)), .var 1] [] [])]⟩
/- cells_behind -/
def d18 : DefC := ⟨["program", "log"], ["program", "log"], [
    .ex (.call 17 [.var 0, .var 1] [] []),
    .ret (.call 16 [.var 0, .var 1] [] [])]⟩
/- answer_by -/
def d19 : DefC := ⟨["program", "log"], ["program", "log"], [
    .ex (.call 17 [.var 0, .var 1] [] []),
    .ret (.call 14 [.call 16 [.var 0, .var 1] [] [], .sub (.var 0) (.con (.int 3))] [] [])]⟩
/- _law_well -/
def d20 : DefC := ⟨["script", "at"], ["script", "at", "seed", "cell", "own"], [
    .asg (.nm 2) (.bin .add (.bin .add (.bin .mul (.con (.int 86243)) (.var 1)) (.bin .mul (.con (.int 1009)) (.prim .len [.slc (.var 0) [] [.con (.int 63)]]))) (.con (.int 17))),
    .for_ (.nm 3) (.over (.slc (.var 0) [] [.con (.int 63)])) [.asg (.nm 2) (.bin .mod (.prim .int [.bin .add (.bin .add (.bin .mul (.var 2) (.con (.int 6700417))) (.bin .mul (.prim .int [.var 3]) (.con (.int 2147483647)))) (.con (.int 997))]) (.bin .add (.bin .pow (.con (.int 10)) (.con (.int 29))) (.con (.int 319))))],
    .asg (.nm 4) (.ife (.val (.cmp .lt (.var 1) (.prim .len [.var 0]))) (.prim .abs [.prim .int [.sub (.var 0) (.var 1)]]) (.con (.int 0))),
    .ret (.lst [.prim .max2 [.con (.int 0), .bin .sub (.var 4) (.bin .pow (.con (.int 10)) (.con (.int 17)))], .var 2, .con (.int 0)])]⟩
/- _law_take -/
def d21 : DefC := ⟨["well", "many"], ["well", "many", "one", "two", "digit"], [
    .iff (.val (.cmp .gt (.sub (.var 0) (.con (.int 0))) (.con (.int 0)))) [.asg (.nm 4) (.bin .mod (.prim .int [.sub (.var 0) (.con (.int 0))]) (.var 1)), .asg (.sub (.var 0) (.con (.int 0))) (.bin .fdiv (.sub (.var 0) (.con (.int 0))) (.var 1)), .ret (.var 4)] [],
    .asg (.sub (.var 0) (.con (.int 2))) (.bin .add (.sub (.var 0) (.con (.int 2))) (.con (.int 1))),
    .asg (.nm 2) (.bin .mod (.prim .int [.bin .add (.bin .add (.bin .pow (.bin .add (.sub (.var 0) (.con (.int 1))) (.bin .mul (.con (.int 179424673)) (.sub (.var 0) (.con (.int 2))))) (.con (.int 3))) (.bin .mul (.con (.int 32452843)) (.sub (.var 0) (.con (.int 2))))) (.con (.int 7))]) (.bin .add (.bin .pow (.con (.int 10)) (.con (.int 28))) (.con (.int 331)))),
    .asg (.nm 3) (.bin .mod (.prim .int [.bin .add (.bin .add (.bin .pow (.var 2) (.con (.int 2))) (.bin .mul (.con (.int 15485867)) (.sub (.var 0) (.con (.int 2))))) (.sub (.var 0) (.con (.int 1)))]) (.bin .add (.bin .pow (.con (.int 10)) (.con (.int 26))) (.con (.int 67)))),
    .ret (.bin .mod (.prim .int [.bin .fdiv (.var 3) (.bin .pow (.con (.int 10)) (.con (.int 8)))]) (.var 1))]⟩
/- _law_choose -/
def d22 : DefC := ⟨["well", "things"], ["well", "things"], [
    .ret (.sub (.var 1) (.call 21 [.var 0, .prim .len [.var 1]] [] []))]⟩
/- _law_equal -/
def d23 : DefC := ⟨["told", "due"], ["told", "due"], [
    .ret (.cmp .eq (.prim .repr [.var 0]) (.prim .repr [.var 1]))]⟩
/- _law_logs -/
def d24 : DefC := ⟨["events", "length"], ["events", "length", "turn", "latest", "found", "longer", "log", "event"], [
    .asg (.tp [.nm 3, .nm 4]) (.tup [.lst [.tup []], .lst [.tup []]]),
    .for_ (.nm 2) (.rng [.var 1]) [.asg (.nm 5) (.lst []), .for_ (.nm 6) (.over (.var 3)) [.ex (.bmc .extend (.var 5) (.comp [("event", 7)] (.nm 7) (.rng [.var 0]) [] (.bin .add (.var 6) (.tup [.var 7]))))], .asg (.nm 3) (.var 5), .ex (.bm .extend (.var 4) [.var 3])],
    .ret (.var 4)]⟩
/- _law_expression -/
def d25 : DefC := ⟨["well", "sizes", "depth"], ["well", "sizes", "depth", "way", "word"], [
    .asg (.nm 3) (.call 21 [.var 0, .ife (.val (.cmp .gt (.var 2) (.con (.int 0)))) (.con (.int 8)) (.con (.int 3))] [] []),
    .iff (.and [.val (.cmp .lt (.var 3) (.con (.int 2))), .val (.cmp .ne (.var 1) (.tup []))]) [.ret (.tup [.con (.str "cell"), .call 21 [.var 0, .prim .len [.var 1]] [] []])] [],
    .iff (.val (.cmp .lt (.var 3) (.con (.int 3)))) [.ret (.tup [.con (.str "value"), .call 21 [.var 0, .con (.int 4)] [] []])] [],
    .asg (.nm 4) (.sub (.lst [.con (.str "plus"), .con (.str "minus"), .con (.str "least"), .con (.str "greatest"), .con (.str "equal"), .con (.str "less")]) (.call 21 [.var 0, .con (.int 6)] [] [])),
    .ret (.tup [.var 4, .call 25 [.var 0, .var 1, .bin .sub (.var 2) (.con (.int 1))] [] [], .call 25 [.var 0, .var 1, .bin .sub (.var 2) (.con (.int 1))] [] []])]⟩
/- _law_statements -/
def d26 : DefC := ⟨["well", "sizes", "depth"], ["well", "sizes", "depth", "found", "turn", "test"], [
    .asg (.nm 3) (.lst []),
    .for_ (.nm 4) (.rng [.call 21 [.var 0, .con (.int 3)] [] []]) [.iff (.and [.val (.cmp .gt (.var 2) (.con (.int 0))), .val (.cmp .eq (.call 21 [.var 0, .con (.int 3)] [] []) (.con (.int 0)))]) [.asg (.nm 5) (.call 25 [.var 0, .var 1, .con (.int 1)] [] []), .ex (.bm .append (.var 3) [.tup [.con (.str "if"), .var 5, .call 26 [.var 0, .var 1, .bin .sub (.var 2) (.con (.int 1))] [] [], .call 26 [.var 0, .var 1, .bin .sub (.var 2) (.con (.int 1))] [] []]])] [.iff (.val (.cmp .ne (.var 1) (.tup []))) [.ex (.bm .append (.var 3) [.tup [.con (.str "set"), .call 21 [.var 0, .prim .len [.var 1]] [] [], .call 25 [.var 0, .var 1, .con (.int 2)] [] []]])] []]],
    .ret (.prim .tuple [.var 3])]⟩
/- _law_program -/
def d27 : DefC := ⟨["well", "events"], ["well", "events", "sizes", "steps", "cell", "event"], [
    .asg (.nm 2) (.primc .tuple (.comp [("cell", 4)] (.nm 4) (.rng [.call 21 [.var 0, .con (.int 4)] [] []]) [] (.bin .add (.con (.int 1)) (.call 21 [.var 0, .con (.int 3)] [] [])))),
    .asg (.nm 3) (.primc .tuple (.comp [("event", 5)] (.nm 5) (.rng [.var 1]) [] (.call 26 [.var 0, .var 2, .con (.int 2)] [] []))),
    .ret (.tup [.var 1, .var 2, .var 3, .call 25 [.var 0, .var 2, .con (.int 2)] [] []])]⟩
/- _law_worth -/
def d28 : DefC := ⟨["cells", "expression"], ["cells", "expression", "word", "one", "two"], [
    .asg (.nm 2) (.sub (.var 1) (.con (.int 0))),
    .iff (.val (.cmp .eq (.var 2) (.con (.str "value")))) [.ret (.sub (.var 1) (.con (.int 1)))] [],
    .iff (.val (.cmp .eq (.var 2) (.con (.str "cell")))) [.ret (.sub (.var 0) (.sub (.var 1) (.con (.int 1))))] [],
    .asg (.tp [.nm 3, .nm 4]) (.tup [.call 28 [.var 0, .sub (.var 1) (.con (.int 1))] [] [], .call 28 [.var 0, .sub (.var 1) (.con (.int 2))] [] []]),
    .iff (.val (.cmp .eq (.var 2) (.con (.str "plus")))) [.ret (.bin .add (.var 3) (.var 4))] [],
    .iff (.val (.cmp .eq (.var 2) (.con (.str "minus")))) [.ret (.ife (.val (.cmp .gt (.var 3) (.var 4))) (.bin .sub (.var 3) (.var 4)) (.con (.int 0)))] [],
    .iff (.val (.cmp .eq (.var 2) (.con (.str "least")))) [.ret (.ife (.val (.cmp .lt (.var 3) (.var 4))) (.var 3) (.var 4))] [],
    .iff (.val (.cmp .eq (.var 2) (.con (.str "greatest")))) [.ret (.ife (.val (.cmp .lt (.var 3) (.var 4))) (.var 4) (.var 3))] [],
    .ret (.ife (.val (.cmp .eq (.var 2) (.con (.str "equal")))) (.prim .int [.cmp .eq (.var 3) (.var 4)]) (.prim .int [.cmp .lt (.var 3) (.var 4)]))]⟩
/- _law_run -/
def d29 : DefC := ⟨["sizes", "cells", "statements"], ["sizes", "cells", "statements", "statement", "worth"], [
    .for_ (.nm 3) (.over (.var 2)) [.iff (.val (.cmp .eq (.sub (.var 3) (.con (.int 0))) (.con (.str "set")))) [.asg (.nm 4) (.call 28 [.var 1, .sub (.var 3) (.con (.int 2))] [] []), .asg (.nm 1) (.bin .add (.bin .add (.slc (.var 1) [] [.sub (.var 3) (.con (.int 1))]) (.lst [.bin .mod (.prim .int [.var 4]) (.sub (.var 0) (.sub (.var 3) (.con (.int 1))))])) (.slc (.var 1) [.bin .add (.sub (.var 3) (.con (.int 1))) (.con (.int 1))] []))] [.iff (.val (.cmp .ne (.call 28 [.var 1, .sub (.var 3) (.con (.int 1))] [] []) (.con (.int 0)))) [.asg (.nm 1) (.call 29 [.var 0, .var 1, .sub (.var 3) (.con (.int 2))] [] [])] [.asg (.nm 1) (.call 29 [.var 0, .var 1, .sub (.var 3) (.con (.int 3))] [] [])]]],
    .ret (.var 1)]⟩
/- _law_cells -/
def d30 : DefC := ⟨["program", "log"], ["program", "log", "cells", "event"], [
    .asg (.nm 2) (.bin .mul (.lst [.con (.int 0)]) (.prim .len [.sub (.var 0) (.con (.int 1))])),
    .for_ (.nm 3) (.over (.var 1)) [.asg (.nm 2) (.call 29 [.sub (.var 0) (.con (.int 1)), .var 2, .sub (.sub (.var 0) (.con (.int 2))) (.var 3)] [] [])],
    .ret (.var 2)]⟩
/- _law_right -/
def d31 : DefC := ⟨["well"], ["well", "events", "program", "kept", "long", "log", "cells", "due", "turn"], [
    .asg (.nm 1) (.bin .add (.con (.int 1)) (.call 21 [.var 0, .con (.int 3)] [] [])),
    .asg (.nm 2) (.call 27 [.var 0, .var 1] [] []),
    .asg (.nm 3) (.prim .repr [.var 2]),
    .asg (.nm 4) (.primc .tuple (.comp [("turn", 8)] (.nm 8) (.rng [.call 21 [.var 0, .con (.int 41)] [] []]) [] (.call 21 [.var 0, .var 1] [] []))),
    .for_ (.nm 5) (.over (.bin .add (.call 24 [.var 1, .con (.int 3)] [] []) (.lst [.var 4]))) [.asg (.nm 6) (.call 30 [.var 2, .var 5] [] []), .iff (.not (.val (.call 23 [.lst [.call 18 [.var 2, .var 5] [] [], .call 18 [] ["log", "program"] [.var 5, .var 2]], .bin .mul (.lst [.prim .tuple [.var 6]]) (.con (.int 2))] [] []))) [.ret (.con (.bl false))] [], .asg (.nm 7) (.call 28 [.var 6, .sub (.var 2) (.con (.int 3))] [] []), .iff (.not (.val (.call 23 [.lst [.call 19 [.var 2, .var 5] [] [], .call 19 [] ["log", "program"] [.var 5, .var 2]], .lst [.var 7, .var 7]] [] []))) [.ret (.con (.bl false))] []],
    .ret (.cmp .eq (.prim .repr [.var 2]) (.var 3))]⟩
/- law -/
def d32 : DefC := ⟨["script"], ["script", "at", "well", "turn"], [
    .for_ (.nm 1) (.rng [.prim .max2 [.con (.int 1), .prim .min2 [.con (.int 3), .prim .len [.var 0]]]]) [.asg (.nm 2) (.call 20 [.var 0, .var 1] [] []), .for_ (.nm 3) (.rng [.con (.int 2)]) [.iff (.not (.val (.call 31 [.var 2] [] []))) [.ret (.con (.bl false))] []]],
    .ret (.con (.bl true))]⟩
def defs : List DefC := ([d0, d1, d2, d3, d4, d5, d6, d7, d8, d9, d10, d11, d12, d13, d14, d15, d16, d17, d18, d19, d20, d21, d22, d23, d24, d25, d26, d27, d28, d29] : List DefC) ++ ([d30, d31, d32] : List DefC)
def gc : Gc := ⟨defs, [], [(18, 0, ["log", "program"]), (19, 0, ["log", "program"])], [(0, [0]), (1, [1, 0]), (2, [2, 0])], [0], 1000000⟩
def gl : Gl := ([("is_integer", .fn 2), ("is_from", .fn 3), ("is_below", .fn 4), ("is_tuple", .fn 5), ("row_fault", .fn 6), ("check_log", .fn 7), ("is_expression", .fn 8), ("is_statement", .fn 9), ("are_statements", .fn 10), ("program_fault", .fn 11), ("check_program", .fn 12), ("of_two", .fn 13), ("value_of", .fn 14), ("done", .fn 15), ("cells_in", .fn 16), ("check_run", .fn 17), ("cells_behind", .fn 18), ("answer_by", .fn 19), ("_law_well", .fn 20), ("_law_take", .fn 21), ("_law_choose", .fn 22), ("_law_equal", .fn 23), ("_law_logs", .fn 24), ("_law_expression", .fn 25), ("_law_statements", .fn 26), ("_law_program", .fn 27), ("_law_worth", .fn 28), ("_law_run", .fn 29), ("_law_cells", .fn 30), ("_law_right", .fn 31)] : Gl) ++ ([("law", .fn 32), ("ArriveError", .cls 0), ("InvalidLog", .cls 1), ("InvalidProgram", .cls 2), ("len", .blt), ("int", .blt), ("str", .blt), ("bool", .blt), ("tuple", .blt), ("range", .blt), ("enumerate", .blt), ("min", .blt), ("max", .blt), ("abs", .blt), ("all", .blt), ("isinstance", .blt), ("repr", .blt), ("VALUE", .con (.str "value")), ("CELL", .con (.str "cell")), ("SET", .con (.str "set")), ("IF", .con (.str "if")), ("OF_TWO", .con (.tup [.str "plus", .str "minus", .str "least", .str "greatest", .str "equal", .str "less"]))] : Gl)
def cn : List PySem.Str := (["ArriveError", "InvalidLog", "InvalidProgram"] : List PySem.Str)
def p0 : AH.DefP := AH.DefP.of (fun K => ma K (ga K "InvalidLog") "__init__") "__init__" "InvalidLog.__init__" (L2.inClass (top 2) 0)
def p1 : AH.DefP := AH.DefP.of (fun K => ma K (ga K "InvalidProgram") "__init__") "__init__" "InvalidProgram.__init__" (L2.inClass (top 3) 0)
def p2 : AH.DefP := AH.DefP.of (fun K => ga K "is_integer") "is_integer" "is_integer" (top 5)
def p3 : AH.DefP := AH.DefP.of (fun K => ga K "is_from") "is_from" "is_from" (top 6)
def p4 : AH.DefP := AH.DefP.of (fun K => ga K "is_below") "is_below" "is_below" (top 7)
def p5 : AH.DefP := AH.DefP.of (fun K => ga K "is_tuple") "is_tuple" "is_tuple" (top 8)
def p6 : AH.DefP := AH.DefP.of (fun K => ga K "row_fault") "row_fault" "row_fault" (top 9)
def p7 : AH.DefP := AH.DefP.of (fun K => ga K "check_log") "check_log" "check_log" (top 10)
def p8 : AH.DefP := AH.DefP.of (fun K => ga K "is_expression") "is_expression" "is_expression" (top 17)
def p9 : AH.DefP := AH.DefP.of (fun K => ga K "is_statement") "is_statement" "is_statement" (top 18)
def p10 : AH.DefP := AH.DefP.of (fun K => ga K "are_statements") "are_statements" "are_statements" (top 19)
def p11 : AH.DefP := AH.DefP.of (fun K => ga K "program_fault") "program_fault" "program_fault" (top 20)
def p12 : AH.DefP := AH.DefP.of (fun K => ga K "check_program") "check_program" "check_program" (top 21)
def p13 : AH.DefP := AH.DefP.of (fun K => ga K "of_two") "of_two" "of_two" (top 22)
def p14 : AH.DefP := AH.DefP.of (fun K => ga K "value_of") "value_of" "value_of" (top 23)
def p15 : AH.DefP := AH.DefP.of (fun K => ga K "done") "done" "done" (top 24)
def p16 : AH.DefP := AH.DefP.of (fun K => ga K "cells_in") "cells_in" "cells_in" (top 25)
def p17 : AH.DefP := AH.DefP.of (fun K => ga K "check_run") "check_run" "check_run" (top 26)
def p18 : AH.DefP := AH.DefP.of (fun K => ga K "cells_behind") "cells_behind" "cells_behind" (top 27)
def p19 : AH.DefP := AH.DefP.of (fun K => ga K "answer_by") "answer_by" "answer_by" (top 28)
def p20 : AH.DefP := AH.DefP.of (fun K => ga K "_law_well") "_law_well" "_law_well" (top 30)
def p21 : AH.DefP := AH.DefP.of (fun K => ga K "_law_take") "_law_take" "_law_take" (top 31)
def p22 : AH.DefP := AH.DefP.of (fun K => ga K "_law_choose") "_law_choose" "_law_choose" (top 32)
def p23 : AH.DefP := AH.DefP.of (fun K => ga K "_law_equal") "_law_equal" "_law_equal" (top 33)
def p24 : AH.DefP := AH.DefP.of (fun K => ga K "_law_logs") "_law_logs" "_law_logs" (top 34)
def p25 : AH.DefP := AH.DefP.of (fun K => ga K "_law_expression") "_law_expression" "_law_expression" (top 35)
def p26 : AH.DefP := AH.DefP.of (fun K => ga K "_law_statements") "_law_statements" "_law_statements" (top 36)
def p27 : AH.DefP := AH.DefP.of (fun K => ga K "_law_program") "_law_program" "_law_program" (top 37)
def p28 : AH.DefP := AH.DefP.of (fun K => ga K "_law_worth") "_law_worth" "_law_worth" (top 38)
def p29 : AH.DefP := AH.DefP.of (fun K => ga K "_law_run") "_law_run" "_law_run" (top 39)
def p30 : AH.DefP := AH.DefP.of (fun K => ga K "_law_cells") "_law_cells" "_law_cells" (top 40)
def p31 : AH.DefP := AH.DefP.of (fun K => ga K "_law_right") "_law_right" "_law_right" (top 41)
def p32 : AH.DefP := AH.DefP.of (fun K => ga K "law") "law" "law" (top 42)
def fn : List AH.DefP := ([p0, p1, p2, p3, p4, p5, p6, p7, p8, p9, p10, p11, p12, p13, p14, p15, p16, p17, p18, p19, p20, p21, p22, p23, p24, p25, p26, p27, p28, p29] : List AH.DefP) ++ ([p30, p31, p32] : List AH.DefP)
def T : Tab := ⟨gl, gc, cn, fn⟩
theorem dk0 : DefOk T.gl T.gc 0 d0 p0 where
  body := .inl rfl
  bind := fun _ _ _ _ _ _ us hl => match us, hl with
    | [_, _], _ => rfl
  kws := fun n ks hm => absurd hm (AM.no_kw (by decide +kernel))
theorem dk1 : DefOk T.gl T.gc 1 d1 p1 where
  body := .inl rfl
  bind := fun _ _ _ _ _ _ us hl => match us, hl with
    | [_, _], _ => rfl
  kws := fun n ks hm => absurd hm (AM.no_kw (by decide +kernel))
theorem ok2 : okD gl d2 (top 5) = true := by decide +kernel
theorem dk2 : DefOk T.gl T.gc 2 d2 p2 where
  body := .inr (Bool.and_eq_true_iff.mp ok2)
  bind := fun _ _ _ _ _ _ us hl => match us, hl with
    | [_], _ => rfl
  kws := fun n ks hm => absurd hm (AM.no_kw (by decide +kernel))
theorem ok3 : okD gl d3 (top 6) = true := by decide +kernel
theorem dk3 : DefOk T.gl T.gc 3 d3 p3 where
  body := .inr (Bool.and_eq_true_iff.mp ok3)
  bind := fun _ _ _ _ _ _ us hl => match us, hl with
    | [_, _], _ => rfl
  kws := fun n ks hm => absurd hm (AM.no_kw (by decide +kernel))
theorem ok4 : okD gl d4 (top 7) = true := by decide +kernel
theorem dk4 : DefOk T.gl T.gc 4 d4 p4 where
  body := .inr (Bool.and_eq_true_iff.mp ok4)
  bind := fun _ _ _ _ _ _ us hl => match us, hl with
    | [_, _], _ => rfl
  kws := fun n ks hm => absurd hm (AM.no_kw (by decide +kernel))
theorem ok5 : okD gl d5 (top 8) = true := by decide +kernel
theorem dk5 : DefOk T.gl T.gc 5 d5 p5 where
  body := .inr (Bool.and_eq_true_iff.mp ok5)
  bind := fun _ _ _ _ _ _ us hl => match us, hl with
    | [_, _], _ => rfl
  kws := fun n ks hm => absurd hm (AM.no_kw (by decide +kernel))
theorem ok6 : okD gl d6 (top 9) = true := by decide +kernel
theorem dk6 : DefOk T.gl T.gc 6 d6 p6 where
  body := .inr (Bool.and_eq_true_iff.mp ok6)
  bind := fun _ _ _ _ _ _ us hl => match us, hl with
    | [_, _], _ => rfl
  kws := fun n ks hm => absurd hm (AM.no_kw (by decide +kernel))
theorem ok7 : okD gl d7 (top 10) = true := by decide +kernel
theorem dk7 : DefOk T.gl T.gc 7 d7 p7 where
  body := .inr (Bool.and_eq_true_iff.mp ok7)
  bind := fun _ _ _ _ _ _ us hl => match us, hl with
    | [_, _], _ => rfl
  kws := fun n ks hm => absurd hm (AM.no_kw (by decide +kernel))
theorem ok8 : okD gl d8 (top 17) = true := by decide +kernel
theorem dk8 : DefOk T.gl T.gc 8 d8 p8 where
  body := .inr (Bool.and_eq_true_iff.mp ok8)
  bind := fun _ _ _ _ _ _ us hl => match us, hl with
    | [_, _], _ => rfl
  kws := fun n ks hm => absurd hm (AM.no_kw (by decide +kernel))
theorem ok9 : okD gl d9 (top 18) = true := by decide +kernel
theorem dk9 : DefOk T.gl T.gc 9 d9 p9 where
  body := .inr (Bool.and_eq_true_iff.mp ok9)
  bind := fun _ _ _ _ _ _ us hl => match us, hl with
    | [_, _], _ => rfl
  kws := fun n ks hm => absurd hm (AM.no_kw (by decide +kernel))
theorem ok10 : okD gl d10 (top 19) = true := by decide +kernel
theorem dk10 : DefOk T.gl T.gc 10 d10 p10 where
  body := .inr (Bool.and_eq_true_iff.mp ok10)
  bind := fun _ _ _ _ _ _ us hl => match us, hl with
    | [_, _], _ => rfl
  kws := fun n ks hm => absurd hm (AM.no_kw (by decide +kernel))
theorem ok11 : okD gl d11 (top 20) = true := by decide +kernel
theorem dk11 : DefOk T.gl T.gc 11 d11 p11 where
  body := .inr (Bool.and_eq_true_iff.mp ok11)
  bind := fun _ _ _ _ _ _ us hl => match us, hl with
    | [_], _ => rfl
  kws := fun n ks hm => absurd hm (AM.no_kw (by decide +kernel))
theorem ok12 : okD gl d12 (top 21) = true := by decide +kernel
theorem dk12 : DefOk T.gl T.gc 12 d12 p12 where
  body := .inr (Bool.and_eq_true_iff.mp ok12)
  bind := fun _ _ _ _ _ _ us hl => match us, hl with
    | [_], _ => rfl
  kws := fun n ks hm => absurd hm (AM.no_kw (by decide +kernel))
theorem ok13 : okD gl d13 (top 22) = true := by decide +kernel
theorem dk13 : DefOk T.gl T.gc 13 d13 p13 where
  body := .inr (Bool.and_eq_true_iff.mp ok13)
  bind := fun _ _ _ _ _ _ us hl => match us, hl with
    | [_, _, _], _ => rfl
  kws := fun n ks hm => absurd hm (AM.no_kw (by decide +kernel))
theorem ok14 : okD gl d14 (top 23) = true := by decide +kernel
theorem dk14 : DefOk T.gl T.gc 14 d14 p14 where
  body := .inr (Bool.and_eq_true_iff.mp ok14)
  bind := fun _ _ _ _ _ _ us hl => match us, hl with
    | [_, _], _ => rfl
  kws := fun n ks hm => absurd hm (AM.no_kw (by decide +kernel))
theorem ok15 : okD gl d15 (top 24) = true := by decide +kernel
theorem dk15 : DefOk T.gl T.gc 15 d15 p15 where
  body := .inr (Bool.and_eq_true_iff.mp ok15)
  bind := fun _ _ _ _ _ _ us hl => match us, hl with
    | [_, _, _], _ => rfl
  kws := fun n ks hm => absurd hm (AM.no_kw (by decide +kernel))
theorem ok16 : okD gl d16 (top 25) = true := by decide +kernel
theorem dk16 : DefOk T.gl T.gc 16 d16 p16 where
  body := .inr (Bool.and_eq_true_iff.mp ok16)
  bind := fun _ _ _ _ _ _ us hl => match us, hl with
    | [_, _], _ => rfl
  kws := fun n ks hm => absurd hm (AM.no_kw (by decide +kernel))
theorem ok17 : okD gl d17 (top 26) = true := by decide +kernel
theorem dk17 : DefOk T.gl T.gc 17 d17 p17 where
  body := .inr (Bool.and_eq_true_iff.mp ok17)
  bind := fun _ _ _ _ _ _ us hl => match us, hl with
    | [_, _], _ => rfl
  kws := fun n ks hm => absurd hm (AM.no_kw (by decide +kernel))
theorem ok18 : okD gl d18 (top 27) = true := by decide +kernel
theorem kw18_0 : ∀ (kV doc pm : Value) (an : Option Addr) (cdv ct : Value) (us ws vs : List Value), us.length = 0 → ws.length = 2 → (permOf d18.ps 0 ["log", "program"]).bind (pick (us ++ ws)) = some vs →
    bindArgs (PySem.W.fnOf p18.name p18.qual p18.params p18.body p18.scope .none kV doc pm an cdv ct) ⟨us, (["log", "program"] : List PySem.Str).zip ws⟩ = pure (d18.ps.zip vs) := fun kV doc pm an cdv ct us ws vs h1 h2 h3 => match us, ws, h1, h2, h3 with
  | [], [w0, w1], _, _, h3 => by
    have e : (permOf d18.ps 0 ["log", "program"]) = some [1, 0] := by decide +kernel
    rw [e] at h3
    cases h3
    rfl
theorem kwm18 : ∀ n ks, (18, n, ks) ∈ gc.kws → (n = 0 ∧ ks = (["log", "program"] : List PySem.Str)) := fun n ks hm => by
  have e := AM.some_kw (gc := gc) (f := 18) (l := [(0, (["log", "program"] : List PySem.Str))]) (by decide +kernel) hm
  simpa using e
theorem dk18 : DefOk T.gl T.gc 18 d18 p18 where
  body := .inr (Bool.and_eq_true_iff.mp ok18)
  bind := fun _ _ _ _ _ _ us hl => match us, hl with
    | [_, _], _ => rfl
  kws := fun n ks hm => by
    rcases kwm18 n ks hm with ⟨rfl, rfl⟩
    · exact kw18_0
theorem ok19 : okD gl d19 (top 28) = true := by decide +kernel
theorem kw19_0 : ∀ (kV doc pm : Value) (an : Option Addr) (cdv ct : Value) (us ws vs : List Value), us.length = 0 → ws.length = 2 → (permOf d19.ps 0 ["log", "program"]).bind (pick (us ++ ws)) = some vs →
    bindArgs (PySem.W.fnOf p19.name p19.qual p19.params p19.body p19.scope .none kV doc pm an cdv ct) ⟨us, (["log", "program"] : List PySem.Str).zip ws⟩ = pure (d19.ps.zip vs) := fun kV doc pm an cdv ct us ws vs h1 h2 h3 => match us, ws, h1, h2, h3 with
  | [], [w0, w1], _, _, h3 => by
    have e : (permOf d19.ps 0 ["log", "program"]) = some [1, 0] := by decide +kernel
    rw [e] at h3
    cases h3
    rfl
theorem kwm19 : ∀ n ks, (19, n, ks) ∈ gc.kws → (n = 0 ∧ ks = (["log", "program"] : List PySem.Str)) := fun n ks hm => by
  have e := AM.some_kw (gc := gc) (f := 19) (l := [(0, (["log", "program"] : List PySem.Str))]) (by decide +kernel) hm
  simpa using e
theorem dk19 : DefOk T.gl T.gc 19 d19 p19 where
  body := .inr (Bool.and_eq_true_iff.mp ok19)
  bind := fun _ _ _ _ _ _ us hl => match us, hl with
    | [_, _], _ => rfl
  kws := fun n ks hm => by
    rcases kwm19 n ks hm with ⟨rfl, rfl⟩
    · exact kw19_0
theorem ok20 : okD gl d20 (top 30) = true := by decide +kernel
theorem dk20 : DefOk T.gl T.gc 20 d20 p20 where
  body := .inr (Bool.and_eq_true_iff.mp ok20)
  bind := fun _ _ _ _ _ _ us hl => match us, hl with
    | [_, _], _ => rfl
  kws := fun n ks hm => absurd hm (AM.no_kw (by decide +kernel))
theorem ok21 : okD gl d21 (top 31) = true := by decide +kernel
theorem dk21 : DefOk T.gl T.gc 21 d21 p21 where
  body := .inr (Bool.and_eq_true_iff.mp ok21)
  bind := fun _ _ _ _ _ _ us hl => match us, hl with
    | [_, _], _ => rfl
  kws := fun n ks hm => absurd hm (AM.no_kw (by decide +kernel))
theorem ok22 : okD gl d22 (top 32) = true := by decide +kernel
theorem dk22 : DefOk T.gl T.gc 22 d22 p22 where
  body := .inr (Bool.and_eq_true_iff.mp ok22)
  bind := fun _ _ _ _ _ _ us hl => match us, hl with
    | [_, _], _ => rfl
  kws := fun n ks hm => absurd hm (AM.no_kw (by decide +kernel))
theorem ok23 : okD gl d23 (top 33) = true := by decide +kernel
theorem dk23 : DefOk T.gl T.gc 23 d23 p23 where
  body := .inr (Bool.and_eq_true_iff.mp ok23)
  bind := fun _ _ _ _ _ _ us hl => match us, hl with
    | [_, _], _ => rfl
  kws := fun n ks hm => absurd hm (AM.no_kw (by decide +kernel))
theorem ok24 : okD gl d24 (top 34) = true := by decide +kernel
theorem dk24 : DefOk T.gl T.gc 24 d24 p24 where
  body := .inr (Bool.and_eq_true_iff.mp ok24)
  bind := fun _ _ _ _ _ _ us hl => match us, hl with
    | [_, _], _ => rfl
  kws := fun n ks hm => absurd hm (AM.no_kw (by decide +kernel))
theorem ok25 : okD gl d25 (top 35) = true := by decide +kernel
theorem dk25 : DefOk T.gl T.gc 25 d25 p25 where
  body := .inr (Bool.and_eq_true_iff.mp ok25)
  bind := fun _ _ _ _ _ _ us hl => match us, hl with
    | [_, _, _], _ => rfl
  kws := fun n ks hm => absurd hm (AM.no_kw (by decide +kernel))
theorem ok26 : okD gl d26 (top 36) = true := by decide +kernel
theorem dk26 : DefOk T.gl T.gc 26 d26 p26 where
  body := .inr (Bool.and_eq_true_iff.mp ok26)
  bind := fun _ _ _ _ _ _ us hl => match us, hl with
    | [_, _, _], _ => rfl
  kws := fun n ks hm => absurd hm (AM.no_kw (by decide +kernel))
theorem ok27 : okD gl d27 (top 37) = true := by decide +kernel
theorem dk27 : DefOk T.gl T.gc 27 d27 p27 where
  body := .inr (Bool.and_eq_true_iff.mp ok27)
  bind := fun _ _ _ _ _ _ us hl => match us, hl with
    | [_, _], _ => rfl
  kws := fun n ks hm => absurd hm (AM.no_kw (by decide +kernel))
theorem ok28 : okD gl d28 (top 38) = true := by decide +kernel
theorem dk28 : DefOk T.gl T.gc 28 d28 p28 where
  body := .inr (Bool.and_eq_true_iff.mp ok28)
  bind := fun _ _ _ _ _ _ us hl => match us, hl with
    | [_, _], _ => rfl
  kws := fun n ks hm => absurd hm (AM.no_kw (by decide +kernel))
theorem ok29 : okD gl d29 (top 39) = true := by decide +kernel
theorem dk29 : DefOk T.gl T.gc 29 d29 p29 where
  body := .inr (Bool.and_eq_true_iff.mp ok29)
  bind := fun _ _ _ _ _ _ us hl => match us, hl with
    | [_, _, _], _ => rfl
  kws := fun n ks hm => absurd hm (AM.no_kw (by decide +kernel))
theorem ok30 : okD gl d30 (top 40) = true := by decide +kernel
theorem dk30 : DefOk T.gl T.gc 30 d30 p30 where
  body := .inr (Bool.and_eq_true_iff.mp ok30)
  bind := fun _ _ _ _ _ _ us hl => match us, hl with
    | [_, _], _ => rfl
  kws := fun n ks hm => absurd hm (AM.no_kw (by decide +kernel))
theorem ok31 : okD gl d31 (top 41) = true := by decide +kernel
theorem dk31 : DefOk T.gl T.gc 31 d31 p31 where
  body := .inr (Bool.and_eq_true_iff.mp ok31)
  bind := fun _ _ _ _ _ _ us hl => match us, hl with
    | [_], _ => rfl
  kws := fun n ks hm => absurd hm (AM.no_kw (by decide +kernel))
theorem ok32 : okD gl d32 (top 42) = true := by decide +kernel
theorem dk32 : DefOk T.gl T.gc 32 d32 p32 where
  body := .inr (Bool.and_eq_true_iff.mp ok32)
  bind := fun _ _ _ _ _ _ us hl => match us, hl with
    | [_], _ => rfl
  kws := fun n ks hm => absurd hm (AM.no_kw (by decide +kernel))
theorem dall : DefOks T.gl T.gc 0 T.gc.defs T.fn := .cons dk0 (.cons dk1 (.cons dk2 (.cons dk3 (.cons dk4 (.cons dk5 (.cons dk6 (.cons dk7 (.cons dk8 (.cons dk9 (.cons dk10 (.cons dk11 (.cons dk12 (.cons dk13 (.cons dk14 (.cons dk15 (.cons dk16 (.cons dk17 (.cons dk18 (.cons dk19 (.cons dk20 (.cons dk21 (.cons dk22 (.cons dk23 (.cons dk24 (.cons dk25 (.cons dk26 (.cons dk27 (.cons dk28 (.cons dk29 (.cons dk30 (.cons dk31 (.cons dk32 (.nil)))))))))))))))))))))))))))))))))
end Law
namespace Law
open PySem PySem.Spec PyProof.Rows L2 He AH AM
abbrev R : PySem.W.OpenRow := PySem.W.OpenLaw.row PySem.Challenge.rw_arrivesalike_k75_programs_by_own_runs
abbrev hk : PySem.W.Hook := AH.hookP 6 T.fa T.fn
def ob (s : PySem.W.SharedT) : AH.AlP := AH.obsPG 6 T.fa T.fn (HandSHeadRun.getT s)
theorem ob_eq (s : PySem.W.SharedT) : ob s = hk.obs s.abs := AH.obsPG_eq (HandSHeadRun.getT_eq s)
def loose : List PySem.Str := (["ArriveError", "InvalidLog", "InvalidProgram", "is_integer", "is_from", "is_below", "is_tuple", "row_fault", "check_log", "VALUE", "CELL", "SET", "IF", "OF_TWO", "is_expression", "is_statement", "are_statements", "program_fault", "check_program", "of_two", "value_of", "done", "cells_in", "check_run", "cells_behind", "answer_by", "_law_well", "_law_take", "_law_choose", "_law_equal"] : List PySem.Str) ++ (["_law_logs", "_law_expression", "_law_statements", "_law_program", "_law_worth", "_law_run", "_law_cells", "_law_right"] : List PySem.Str)
theorem run (w : World) : HandSHeadRun.RunEq R (PySem.W.view R.prog [42]) hk ob 4000 loose w := by
  intro os
  kernel_rfl
end Law
namespace Law
open PySem AM
/-- a well that was asked at most n times -/
def Tk (n : Nat) (h : AH) (l : Nat) : Prop := ∃ a b c : Int, h[l]? = some (.lst [.int a, .int b, .int c]) ∧ 0 ≤ b ∧ b ≤ 1000000000000000000000000000000 ∧ 0 ≤ c ∧ c ≤ n
theorem Tk.mono {n m : Nat} {h : AH} {l : Nat} (t : Tk n h l) (q : n ≤ m) : Tk m h l := by
  obtain ⟨a, b, c, e, h1, h2, h3, h4⟩ := t
  exact ⟨a, b, c, e, h1, h2, h3, by omega⟩
theorem Tk.fr {n : Nat} {S : List Nat} {h h' : AH} {l : Nat} (t : Tk n h l) (a : Fr S h h') (hn : l ∉ S) : Tk n h' l := by
  obtain ⟨x, y, z, e, r⟩ := t
  exact ⟨x, y, z, a.get e hn, r⟩
theorem Tk.lt {n : Nat} {h : AH} {l : Nat} (t : Tk n h l) : l < h.length := by
  obtain ⟨x, y, z, e, _⟩ := t
  exact (List.getElem?_eq_some_iff.mp e).1
theorem take (ns : List Int) (m : Nat) {l n : Nat} {many : Int} {h : AH} (hm : 0 < many) (hm2 : many < 1000000) (w : Tk n h l) (hn : n < 1000000000000000000000000000) :
   ∃ d h', 0 ≤ d ∧ d < many ∧ callF gc ns (m+1) 21 [.loc l, .int many] h = .ok (.int d) h' ∧ Tk (n+1) h' l ∧ Fr [l] h h' ∧ h'.length = h.length := by
  obtain ⟨a, b, c, hl, hb0, hb, hc0, hc⟩ := w
  rw [callF_loc h (d := d21) rfl rfl rfl]
  have hlt := get_lt' h hl
  have hf := fdiv_ok hm (by omega)
  by_cases ha : 0 < a
  · refine ⟨a % many, h.set l (.lst [.int (a / many), .int b, .int c]), Int.emod_nonneg _ (by omega), Int.emod_lt_of_pos _ hm, ?_, ⟨a / many, b, c, by simp [hlt], hb0, hb, hc0, by omega⟩, Fr.set (by simp), by simp⟩
    simp [runBody, d21, ss_cons', startA, callW, rd_lst _ _ hl, wr_lst _ hl, ha, hm, hf]
  · have hl2 : (h.set l (.lst [.int a, .int b, .int (c + 1)]))[l]? = some (.lst [.int a, .int b, .int (c + 1)]) := by simp [hlt]
    have p1 : powOk (b + 179424673 * (c + 1)) 3 = true := powOk_of 1000000000000000000000000000000000000000 200 (by omega) (by omega) (by decide) (by decide) (by decide) (by decide)
    have k1 : ∀ x : Int, powOk (x % 10000000000000000000000000331) 2 = true := fun x => powOk_of 1000000000000000000000000000000000000000 200 (Int.emod_nonneg _ (by decide)) (by
      have := Int.emod_lt_of_pos x (b := 10000000000000000000000000331) (by decide)
      omega) (by decide) (by decide) (by decide) (by decide)
    have q1 : powOk 10 28 = true := by decide
    have q2 : powOk 10 26 = true := by decide
    have q3 : powOk 10 8 = true := by decide
    have m1 : ∀ x : Int, mulOk 179424673 x = true := fun x => mul_okL (by decide)
    have m2 : ∀ x : Int, mulOk 32452843 x = true := fun x => mul_okL (by decide)
    have m3 : ∀ x : Int, mulOk 15485867 x = true := fun x => mul_okL (by decide)
    have f1 : fdivOk 100000000 = true := by decide
    refine ⟨((((b + 179424673 * (c + 1)) ^ 3 + 32452843 * (c + 1) + 7) % 10000000000000000000000000331) ^ 2 + 15485867 * (c + 1) + b) % 100000000000000000000000067 / 100000000 % many, h.set l (.lst [.int a, .int b, .int (c + 1)]), Int.emod_nonneg _ (by omega), Int.emod_lt_of_pos _ hm, ?_,
      ⟨a, b, c + 1, by simp [hlt], hb0, hb, by omega, by omega⟩, Fr.set (by simp), by simp⟩
    simp [runBody, d21, ss_cons', startA, callW, rd_lst _ _ hl, wr_lst _ hl, rd_lst _ _ hl2, ha, hm, p1, k1, q1, q2, q3, m1, m2, m3, f1]
end Law
/-! The forms' checks. -/
namespace Law
open PySem AM
theorem is_from_int (ns : List Int) (m : Nat) (lo i : Int) (h : AH) : callF gc ns (m+2) 3 [.int lo, .int i] h = .ok (.bl (decide (lo ≤ i))) h := rfl
theorem is_below_int (ns : List Int) (m : Nat) (n i : Int) (h : AH) : callF gc ns (m+3) 4 [.int n, .int i] h = .ok (.bl (decide (0 ≤ i) && decide (i < n))) h := by
  refine callF_flat h (d := d4) rfl rfl rfl rfl ?_ (h2 := [])
  simp [runBody, d4, startA, callW, is_from_int]
  cases decide (0 ≤ i) <;> rfl
theorem is_tuple_ok (ns : List Int) (m : Nat) (n : Int) (ws : List W) (h : AH) (hf : W.flats ws = true) (hn : (ws.length : Int) = n) : callF gc ns (m+1) 5 [.int n, .tup ws] h = .ok (.bl true) h := by
  refine callF_flat h (d := d5) rfl rfl (by simp [W.flats, W.flat, hf]) rfl ?_ (h2 := [])
  simp [runBody, d5, startA, callW, primW, typW, isiB, hn]
end Law
/-! Right logs are taken. -/
namespace Law
open PySem AM
theorem enum_mem {n : Nat} : ∀ {ws : List W} {w : W}, w ∈ enumFrom n ws → ∃ (i : Nat) (u : W), w = .tup [.int i, u] ∧ u ∈ ws
  | [], _, h => by cases h
  | x :: ws, w, h => by
    unfold enumFrom at h
    rcases List.mem_cons.mp h with rfl | h
    · exact ⟨n, x, rfl, List.mem_cons_self⟩
    · obtain ⟨i, u, e, hu⟩ := enum_mem h
      exact ⟨i, u, e, List.mem_cons_of_mem _ hu⟩
theorem row_fault_ok (ns : List Int) (m : Nat) (n : Int) (is : List Int) (h : AH) (hz : ∀ i ∈ is, 0 ≤ i ∧ i < n) : callF gc ns (m+4) 6 [.int n, .tup (is.map .int)] h = .ok .non h := by
  refine callF_flat h (d := d6) rfl rfl (by simp [W.flats, W.flat, flats_int]) rfl ?_ (h2 := [])
  have lp := forLoop_inv (f := forF ⟨gc, ns, callF gc ns (m+3)⟩ (.tp [.nm 2, .nm 3]) [.iff (.not (.val (.call 4 [.var 0, .var 3] [] []))) [.ret (.var 2)] []]) (held := []) (fun _ σ k => k = [] ∧ ∃ x y, σ = [some (.int n), some (.tup (is.map .int)), x, y]) (enumFrom 0 (is.map .int)) 0 (fun i hi σ k ⟨hk, x, y, e⟩ => by
    subst hk e
    obtain ⟨j, u, e1, hu⟩ := enum_mem (List.getElem_mem hi)
    obtain ⟨v, hv, rfl⟩ := List.mem_map.mp hu
    rw [e1]
    refine ⟨[some (.int n), some (.tup (is.map .int)), some (.int j), some (.int v)], [], .inl ?_, rfl, _, _, rfl⟩
    unfold forF
    simp [callW, is_below_int, hz v hv]) (fun _ _ _ _ => rfl) [some (.int n), some (.tup (is.map .int)), none, none] [] ⟨rfl, _, _, rfl⟩
  obtain ⟨σ', h', e, rfl, x, y, rfl⟩ := lp
  simp only [runBody, d6, startA]
  rw [ss_cons']
  simp [primW, typW, isiB]
  rw [ss_cons']
  simp [overW, e]
theorem check_log_ok (ns : List Int) (m : Nat) (n : Int) (is : List Int) (h : AH) (hz : ∀ i ∈ is, 0 ≤ i ∧ i < n) : callF gc ns (m+5) 7 [.int n, .tup (is.map .int)] h = .ok .non h := by
  refine callF_flat h (d := d7) rfl rfl (by simp [W.flats, W.flat, flats_int]) rfl ?_ (h2 := [])
  simp [runBody, d7, startA, ss_cons', callW, row_fault_ok ns m n is [] hz]
end Law
namespace Law
open PySem AM
def words : List Str := ["plus", "minus", "least", "greatest", "equal", "less"]
/-- an expression over n cells, not deeper than d -/
inductive Ex (n : Nat) : Nat → W → Prop
  | val {d : Nat} {v : Int} : 0 ≤ v → v < 4 → Ex n d (.tup [.str "value", .int v])
  | cell {d : Nat} {i : Int} : 0 ≤ i → i < n → Ex n d (.tup [.str "cell", .int i])
  | two {d : Nat} {w : Str} {a b : W} : w ∈ words → Ex n d a → Ex n d b → Ex n (d + 1) (.tup [.str w, a, b])
theorem Ex.up {n d : Nat} {e : W} (x : Ex n d e) : Ex n (d + 1) e := by
  induction x with
  | val h1 h2 => exact .val h1 h2
  | cell h1 h2 => exact .cell h1 h2
  | two hw _ _ i1 i2 => exact .two hw i1 i2
theorem word_sm {w : Str} (h : w ∈ words) : smW (.str w) = true ∧ wtW (.str w) ≤ 8 := by
  simp only [words, List.mem_cons, List.not_mem_nil, or_false] at h
  rcases h with rfl | rfl | rfl | rfl | rfl | rfl <;> exact ⟨by decide +kernel, by decide +kernel⟩
theorem Ex.small {n d : Nat} {e : W} (x : Ex n d e) (hn : n ≤ 1000) : smW e = true ∧ depW e ≤ d + 1 ∧ wtW e + 1 ≤ 60 * 3 ^ d := by
  induction x with
  | @val d v h1 h2 =>
    have h3 := Nat.one_le_pow d 3 (by decide)
    refine ⟨?_, ?_, ?_⟩
    · show (_ && (decide (v.natAbs < 10 ^ 12) && true)) = true
      rw [decide_eq_true (show v.natAbs < 10 ^ 12 by omega)]
      decide +kernel
    · show max 0 (max 0 0) + 1 ≤ d + 1
      omega
    · have h4 : wtW (.int v) ≤ 10 := wt_int 10 (by omega) (by decide)
      have h5 : wtW (.str "value") ≤ 8 := by decide +kernel
      show wtW (.str "value") + 1 + (wtW (.int v) + 1 + 0) + 1 ≤ _
      omega
  | @cell d i h1 h2 =>
    have h3 := Nat.one_le_pow d 3 (by decide)
    refine ⟨?_, ?_, ?_⟩
    · show (_ && (decide (i.natAbs < 10 ^ 12) && true)) = true
      rw [decide_eq_true (show i.natAbs < 10 ^ 12 by omega)]
      decide +kernel
    · show max 0 (max 0 0) + 1 ≤ d + 1
      omega
    · have h4 : wtW (.int i) ≤ 10 := wt_int 10 (by omega) (by decide)
      have h5 : wtW (.str "cell") ≤ 8 := by decide +kernel
      show wtW (.str "cell") + 1 + (wtW (.int i) + 1 + 0) + 1 ≤ _
      omega
  | @two d w a b hw _ _ i1 i2 =>
    obtain ⟨w1, w2⟩ := word_sm hw
    refine ⟨?_, ?_, ?_⟩
    · show (smW (.str w) && (smW a && (smW b && true))) = true
      rw [w1, i1.1, i2.1]
      rfl
    · show max 0 (max (depW a) (max (depW b) 0)) + 1 ≤ _
      omega
    · have h3 := Nat.one_le_pow d 3 (by decide)
      have h4 : 3 ^ (d + 1) = 3 ^ d * 3 := Nat.pow_succ ..
      show wtW (.str w) + 1 + (wtW a + 1 + (wtW b + 1 + 0)) + 1 ≤ _
      omega
theorem Ex.flat {n d : Nat} {e : W} (x : Ex n d e) : W.flat e = true := by
  induction x with
  | val h1 h2 => rfl
  | cell h1 h2 => rfl
  | two hw _ _ i1 i2 =>
    show (true && (W.flat _ && (W.flat _ && true))) = true
    rw [i1, i2]
    rfl
/-- the cells: n small numbers -/
structure Cells (n : Nat) (cs : List Int) : Prop where
  len : cs.length = n
  lo : ∀ c ∈ cs, 0 ≤ c ∧ c < 3
def both (w : Str) (x y : Int) : Int := if w = "plus" then x + y else if w = "minus" then (if x - y > 0 then x - y else 0) else if w = "least" then (if y < x then y else x) else if w = "greatest" then (if y > x then y else x) else if w = "equal" then (if x = y then 1 else 0) else if x < y then 1 else 0
theorem of_two (ns : List Int) (m : Nat) {w : Str} (hw : w ∈ words) (x y : Int) (h : AH) : callF gc ns (m+1) 13 [.str w, .int x, .int y] h = .ok (.int (both w x y)) h := by
  simp only [words, List.mem_cons, List.not_mem_nil, or_false] at hw
  refine callF_flat h (d := d13) rfl rfl rfl rfl (h2 := []) ?_
  rcases hw with rfl | rfl | rfl | rfl | rfl | rfl <;> simp [runBody, d13, ss_cons', startA, both]
theorem both_bd {w : Str} (hw : w ∈ words) {x y B : Int} (h1 : 0 ≤ x) (h2 : 0 ≤ y) (h3 : x ≤ B) (h4 : y ≤ B) (hB : 1 ≤ B) : 0 ≤ both w x y ∧ both w x y ≤ 2 * B := by
  simp only [words, List.mem_cons, List.not_mem_nil, or_false] at hw
  rcases hw with rfl | rfl | rfl | rfl | rfl | rfl <;> simp [both] <;> (try split) <;> omega
theorem worth_two {w : Str} (hw : w ∈ words) : (w = "value") = False ∧ (w = "cell") = False := by
  simp only [words, List.mem_cons, List.not_mem_nil, or_false] at hw
  rcases hw with rfl | rfl | rfl | rfl | rfl | rfl <;> exact ⟨by simp, by simp⟩
theorem get_cell {n : Nat} {cs : List Int} (c : Cells n cs) {i : Int} (h1 : 0 ≤ i) (h2 : i < n) : ∃ v, 0 ≤ v ∧ v < 3 ∧ L2.atI (cs.map W.int) i = some (.int v) := by
  have hl : i.toNat < cs.length := by rw [c.len]; omega
  refine ⟨cs[i.toNat], (c.lo _ (List.getElem_mem hl)).1, (c.lo _ (List.getElem_mem hl)).2, ?_⟩
  rw [atI_of _ h1]
  simp [hl]
/-- both readings of an expression agree -/
theorem worths (ns : List Int) {n d : Nat} {e : W} (x : Ex n d e) {cs : List Int} (c : Cells n cs) : ∃ v : Int, 0 ≤ v ∧ v ≤ 3 * 2 ^ d ∧ ∀ m, (∀ h, callF gc ns (m+d+2) 14 [.tup (cs.map .int), e] h = .ok (.int v) h) ∧
    ∀ h q, h[q]? = some (.lst (cs.map .int)) → callF gc ns (m+d+2) 28 [.loc q, e] h = .ok (.int v) h := by
  induction x with
  | @val d v h1 h2 =>
    refine ⟨v, h1, ?_, fun m => ⟨fun h => ?_, fun h q hq => ?_⟩⟩
    · have : (0 : Int) < 2 ^ d := Int.pow_pos (by decide)
      omega
    · refine callF_flat h (d := d14) rfl rfl (by simp [W.flats, W.flat, flats_int]) rfl (h2 := []) ?_
      have r0 := fun (g : Ev) h => rd_tup (ws := [.str "value", .int v]) (i := 0) (w := .str "value") g h (by simp)
      have r1 := fun (g : Ev) h => rd_tup (ws := [.str "value", .int v]) (i := 1) (w := .int v) g h (by simp)
      simp [runBody, d14, ss_cons', startA, r0, r1]
    · rw [callF_loc h (d := d28) rfl rfl rfl]
      have r0 := fun (g : Ev) h => rd_tup (ws := [.str "value", .int v]) (i := 0) (w := .str "value") g h (by simp)
      have r1 := fun (g : Ev) h => rd_tup (ws := [.str "value", .int v]) (i := 1) (w := .int v) g h (by simp)
      simp [runBody, d28, ss_cons', startA, r0, r1]
  | @cell d i h1 h2 =>
    obtain ⟨v, v1, v2, v3⟩ := get_cell c h1 h2
    have r0 := fun (g : Ev) h => rd_tup (ws := [.str "cell", .int i]) (i := 0) (w := .str "cell") g h (by simp)
    have r1 := fun (g : Ev) h => rd_tup (ws := [.str "cell", .int i]) (i := 1) (w := .int i) g h (by simp)
    refine ⟨v, v1, ?_, fun m => ⟨fun h => ?_, fun h q hq => ?_⟩⟩
    · have : (0 : Int) < 2 ^ d := Int.pow_pos (by decide)
      omega
    · refine callF_flat h (d := d14) rfl rfl (by simp [W.flats, W.flat, flats_int]) rfl (h2 := []) ?_
      simp [runBody, d14, ss_cons', startA, r0, r1, rd_tup _ _ v3]
    · rw [callF_loc h (d := d28) rfl rfl rfl]
      simp [runBody, d28, ss_cons', startA, r0, r1, rd_lst _ _ hq v3]
  | @two d w a b hw xa xb ia ib =>
    obtain ⟨va, a1, a2, a3⟩ := ia
    obtain ⟨vb, b1, b2, b3⟩ := ib
    have e2 : (2 : Int) ^ (d + 1) = 2 ^ d * 2 := Int.pow_succ ..
    have one : (0 : Int) < 2 ^ d := Int.pow_pos (by decide)
    obtain ⟨q1, q2⟩ := both_bd hw a1 b1 a2 b2 (by omega)
    obtain ⟨n1, n2⟩ := worth_two hw
    have r0 := fun (g : Ev) h => rd_tup (ws := [.str w, a, b]) (i := 0) (w := .str w) g h (by simp)
    have r1 := fun (g : Ev) h => rd_tup (ws := [.str w, a, b]) (i := 1) (w := a) g h (by simp)
    have r2 := fun (g : Ev) h => rd_tup (ws := [.str w, a, b]) (i := 2) (w := b) g h (by simp)
    refine ⟨both w va vb, q1, by omega, fun m => ⟨fun h => ?_, fun h q hq => ?_⟩⟩
    · rw [show m + (d + 1) + 2 = (m + d + 2) + 1 by omega]
      refine callF_flat h (d := d14) rfl rfl (by simp [W.flats, W.flat, flats_int, xa.flat, xb.flat]) rfl (h2 := []) ?_
      have o : ∀ h, callF gc ns (m + d + 2) 13 [.str w, .int va, .int vb] h = .ok (.int (both w va vb)) h := fun h => of_two ns (m + d + 1) hw va vb h
      simp [runBody, d14, ss_cons', startA, r0, r1, r2, n1, n2, callW, (a3 m).1, (b3 m).1, o]
    · rw [show m + (d + 1) + 2 = (m + d + 2) + 1 by omega, callF_loc h (d := d28) rfl rfl rfl]
      simp only [words, List.mem_cons, List.not_mem_nil, or_false] at hw
      rcases Int.lt_trichotomy va vb with t | t | t
      · have t1 : ¬ vb < va := by omega
        have t2 : ¬ va = vb := by omega
        have t3 : ¬ 0 < va - vb := by omega
        rcases hw with rfl | rfl | rfl | rfl | rfl | rfl <;> simp [runBody, d28, ss_cons', startA, r0, r1, r2, callW, (a3 m).2 h q hq, (b3 m).2 h q hq, both, szOk, t, t1, t2, t3]
      · subst t
        rcases hw with rfl | rfl | rfl | rfl | rfl | rfl <;> simp [runBody, d28, ss_cons', startA, r0, r1, r2, callW, (a3 m).2 h q hq, (b3 m).2 h q hq, both, szOk]
      · have t1 : ¬ va < vb := by omega
        have t2 : ¬ va = vb := by omega
        have t3 : 0 < va - vb := by omega
        rcases hw with rfl | rfl | rfl | rfl | rfl | rfl <;> simp [runBody, d28, ss_cons', startA, r0, r1, r2, callW, (a3 m).2 h q hq, (b3 m).2 h q hq, both, szOk, t, t1, t2, t3]
end Law
namespace Law
open PySem AM
theorem in_words (w : Str) (hw : w ∈ words) (h : AH) : cmpW .in_ (.str w) (.tup [.str "plus", .str "minus", .str "least", .str "greatest", .str "equal", .str "less"]) h = .ok (.bl true) h := by
  show optR (inW h (.str w) _) id h = _
  have : inW h (.str w) (.tup [.str "plus", .str "minus", .str "least", .str "greatest", .str "equal", .str "less"]) = some true := by
    simp only [words, List.mem_cons, List.not_mem_nil, or_false] at hw
    rcases hw with rfl | rfl | rfl | rfl | rfl | rfl <;> (simp [inW, scalW]; decide +kernel)
  rw [this]
  rfl
theorem ne_nil {h : AH} {w : W} {ws : List W} (e : datWs (w :: ws) = true) (d : depWs (w :: ws) < 64) : cmpW .eq (.tup (w :: ws)) (.tup []) h = .ok (.bl false) h := c_eq (eqW_nil e d)
theorem ne_nil2 {h : AH} {w : W} {ws : List W} (e : datWs (w :: ws) = true) (d : depWs (w :: ws) < 64) : cmpW .ne (.tup (w :: ws)) (.tup []) h = .ok (.bl true) h := c_ne (b := false) (eqW_nil e d)
@[simp] theorem isi_tup (g : Ev) (ws : List W) (h : AH) : primW g (.isi ["tuple"] []) [.tup ws] h = .ok (.bl true) h := Eq.trans rfl rfl
@[simp] theorem isi_str (g : Ev) (s : Str) (h : AH) : primW g (.isi ["str"] []) [.str s] h = .ok (.bl true) h := Eq.trans rfl rfl
theorem is_expr (ns : List Int) {n d : Nat} (hn : n ≤ 1000) {e : W} (x : Ex n d e) (hd : d ≤ 50) : ∀ m h, callF gc ns (m + d + 4) 8 [.int n, e] h = .ok (.bl true) h := by
  induction x with
  | @val d v h1 h2 =>
    intro m h
    have r0 := fun (g : Ev) h => rd_tup (ws := [.str "value", .int v]) (i := 0) (w := .str "value") g h (by simp)
    have r1 := fun (g : Ev) h => rd_tup (ws := [.str "value", .int v]) (i := 1) (w := .int v) g h (by simp)
    have nn := fun h => ne_nil (h := h) (w := .str "value") (ws := [.int v]) (by simp [datWs, datW]; decide +kernel) (by simp [depWs, depW])
    refine callF_flat h (d := d8) rfl rfl rfl rfl (h2 := []) ?_
    have q : ∀ h, callF gc ns (m + d + 3) 3 [.int 0, .int v] h = .ok (.bl (decide (0 ≤ v))) h := fun h => is_from_int ns (m + d + 1) 0 v h
    simp [runBody, d8, startA, ss_cons', nn, r0, r1, callW, q, h1, szOk]
  | @cell d i h1 h2 =>
    intro m h
    have r0 := fun (g : Ev) h => rd_tup (ws := [.str "cell", .int i]) (i := 0) (w := .str "cell") g h (by simp)
    have r1 := fun (g : Ev) h => rd_tup (ws := [.str "cell", .int i]) (i := 1) (w := .int i) g h (by simp)
    have nn := fun h => ne_nil (h := h) (w := .str "cell") (ws := [.int i]) (by simp [datWs, datW]; decide +kernel) (by simp [depWs, depW])
    refine callF_flat h (d := d8) rfl rfl rfl rfl (h2 := []) ?_
    have q : ∀ h, callF gc ns (m + d + 3) 4 [.int n, .int i] h = .ok (.bl (decide (0 ≤ i) && decide (i < n))) h := fun h => is_below_int ns (m + d) n i h
    simp [runBody, d8, startA, ss_cons', nn, r0, r1, callW, q, h1, h2, szOk]
  | @two d w a b hw xa xb ia ib =>
    intro m h
    have ia := ia (by omega)
    have ib := ib (by omega)
    obtain ⟨n1, n2⟩ := worth_two hw
    have sw := word_sm hw
    have sa := xa.small hn
    have sb := xb.small hn
    have r0 := fun (g : Ev) h => rd_tup (ws := [.str w, a, b]) (i := 0) (w := .str w) g h (by simp)
    have nn := fun h => ne_nil (h := h) (w := .str w) (ws := [a, b]) (dats_sm (by show (smW (.str w) && (smW a && (smW b && true))) = true; rw [sw.1, sa.1, sb.1]; rfl)) (by show max 0 (max (depW a) (max (depW b) 0)) < 64; omega)
    rw [show m + (d + 1) + 4 = (m + d + 4) + 1 by omega]
    refine callF_flat h (d := d8) rfl rfl (by simp [W.flats, W.flat, xa.flat, xb.flat]) rfl (h2 := []) ?_
    have iw := in_words w hw
    have c := comp_map ⟨gc, ns, callF gc ns (m + d + 4)⟩ (fun _ => some (.bl true)) (own := [("part", 2)]) (tg := .nm 2) (it := .over (.slc (.var 1) [.con (.int 1)] [])) (ifs := []) (elt := .call 8 [.var 0, .var 2] [] [])
      (σ := [some (.int n), some (.tup [.str w, a, b]), none]) (h := []) (h1 := []) (src := ⟨[a, b], []⟩) (by
        have cut : cutW [W.str w, a, b] (some 1) none = [a, b] := rfl
        simp [slcR, slcW, cut, overW]) rfl (by simp) (fun u hu => by
        have iu : ∀ h, callF gc ns (m + d + 4) 8 [.int n, u] h = .ok (.bl true) h := by
          simp only [List.mem_cons, List.not_mem_nil, or_false] at hu
          rcases hu with rfl | rfl
          · exact ia m
          · exact ib m
        exact ⟨_, true, xg_nm _ _ _ _ _, by simp, fun _ => ⟨_, rfl, by simp [wipeA, callW, iu]⟩, fun z => by cases z⟩)
    have al : primL .all [.bl true, .bl true] [] = .ok (.bl true) [] := rfl
    have c2 : evalE ⟨gc, ns, callF gc ns (m + d + 4)⟩ (.primc .all (.comp [("part", 2)] (.nm 2) (.over (.slc (.var 1) [.con (.int 1)] [])) [] (.call 8 [.var 0, .var 2] [] []))) [some (.int n), some (.tup [.str w, a, b]), none] [] = .ok (.bl true) [] := by
      rw [x_primc, c]
      exact al
    simp [runBody, d8, startA, ss_cons', nn, r0, n1, n2, iw, c2, szOk, -x_primc]
/-! ### statements -/
inductive Sts (n : Nat) : Nat → List W → Prop
  | nil {d : Nat} : Sts n d []
  | set {d : Nat} {i : Int} {e : W} {ss : List W} : 0 ≤ i → i < n → Ex n 2 e → Sts n d ss → Sts n d (.tup [.str "set", .int i, e] :: ss)
  | ifs {d : Nat} {t : W} {a b ss : List W} : Ex n 2 t → a.length ≤ 2 → b.length ≤ 2 → Sts n d a → Sts n d b → Sts n (d + 1) ss → Sts n (d + 1) (.tup [.str "if", t, .tup a, .tup b] :: ss)
theorem Sts.flat {n d : Nat} {ss : List W} (x : Sts n d ss) : W.flats ss = true := by
  induction x with
  | nil => rfl
  | set _ _ e _ ih => simp [W.flats, W.flat, e.flat, ih]
  | ifs t _ _ _ _ _ i1 i2 i3 => simp [W.flats, W.flat, t.flat, i1, i2, i3]
theorem Sts.wt {n d : Nat} {ss : List W} (x : Sts n d ss) (hn : n ≤ 1000) : wtWs ss ≤ ss.length * (1000 * 6 ^ d) := by
  induction x with
  | nil => exact Nat.zero_le _
  | @set d i e ss h1 h2 xe _ ih =>
    have se := xe.small hn
    have h4 : wtW (.int i) ≤ 10 := wt_int 10 (by omega) (by decide)
    have h5 : wtW (.str "set") ≤ 8 := by decide +kernel
    have h3 := Nat.one_le_pow d 6 (by decide)
    have h6 : 60 * 3 ^ 2 = 540 := by decide
    rw [List.length_cons, Nat.succ_mul]
    show (wtW (.str "set") + 1 + (wtW (.int i) + 1 + (wtW e + 1 + 0))) + 1 + wtWs ss ≤ _
    omega
  | @ifs d t a b ss xt la lb xa xb _ i1 i2 i3 =>
    have st := xt.small hn
    have h5 : wtW (.str "if") ≤ 8 := by decide +kernel
    have h3 := Nat.one_le_pow d 6 (by decide)
    have h6 : 60 * 3 ^ 2 = 540 := by decide
    have h7 : 6 ^ (d + 1) = 6 ^ d * 6 := Nat.pow_succ ..
    have j1 : a.length * (1000 * 6 ^ d) ≤ 2 * (1000 * 6 ^ d) := Nat.mul_le_mul_right _ la
    have j2 : b.length * (1000 * 6 ^ d) ≤ 2 * (1000 * 6 ^ d) := Nat.mul_le_mul_right _ lb
    rw [List.length_cons, Nat.succ_mul]
    show (wtW (.str "if") + 1 + (wtW t + 1 + (wtWs a + 1 + (wtWs b + 1 + 0)))) + 1 + wtWs ss ≤ _
    omega
theorem Sts.dep {n d : Nat} {ss : List W} (x : Sts n d ss) (hn : n ≤ 1000) : smWs ss = true ∧ depWs ss ≤ 2 * d + 6 := by
  induction x with
  | nil => exact ⟨rfl, Nat.zero_le _⟩
  | @set d i e ss h1 h2 xe _ ih =>
    have se := xe.small hn
    refine ⟨?_, ?_⟩
    · show ((_ && (decide (i.natAbs < 10 ^ 12) && (smW e && true))) && smWs ss) = true
      rw [decide_eq_true (show i.natAbs < 10 ^ 12 by omega), se.1, ih.1]
      decide +kernel
    · show max (max 0 (max 0 (max (depW e) 0)) + 1) (depWs ss) ≤ _
      omega
  | @ifs d t a b ss xt la lb xa xb _ i1 i2 i3 =>
    have st := xt.small hn
    refine ⟨?_, ?_⟩
    · show ((_ && (smW t && (smWs a && (smWs b && true)))) && smWs ss) = true
      rw [st.1, i1.1, i2.1, i3.1]
      decide +kernel
    · show max (max 0 (max (depW t) (max (depWs a + 1) (max (depWs b + 1) 0))) + 1) (depWs ss) ≤ _
      omega
/-- a list of checks that all hold -/
theorem all_true {g : Ev} {own : List (Str × Nat)} {i : Nat} {it : It} {elt : C} {σ : St} {h h1 : AH} {src : Src} (e : evalI g it σ h = .ok src h1) (hh : heldOk src.held h1 = true) (hz : src.items.length ≤ 1000000)
    (turn : ∀ w ∈ src.items, evalE g elt ((wipeA σ (own.map (·.2))).set i (some w)) h1 = .ok (.bl true) h1) : evalE g (.primc .all (.comp own (.nm i) it [] elt)) σ h = .ok (.bl true) h1 := by
  rw [x_primc, comp_map g (fun _ => some (.bl true)) e hh hz fun w hw => ⟨_, true, xg_nm _ _ _ _ _, by simp, fun _ => ⟨_, rfl, turn w hw⟩, fun z => by cases z⟩]
  have key : ∀ l : List W, bools (l.filterMap fun _ => some (.bl true)) = some (l.map fun _ => true) := by
    intro l
    induction l with
    | nil => rfl
    | cons x l ih =>
      rw [List.filterMap_cons]
      show (bools _).map _ = _
      rw [ih]
      rfl
  show (match bools _ with
    | some bs => Res.ok (W.bl (bs.all id)) h1
    | none => .stuck) = _
  rw [key]
  have : (src.items.map fun _ => true).all id = true := by simp
  show Res.ok (W.bl ((src.items.map fun _ => true).all id)) h1 = _
  rw [this]
theorem are_sts (ns : List Int) {n d : Nat} (hn : n ≤ 1000) {ss : List W} (x : Sts n d ss) (hd : d ≤ 10) (hz : ss.length ≤ 1000) : ∀ m, (∀ w ∈ ss, ∀ h, callF gc ns (m + 2 * d + 8) 9 [.int n, w] h = .ok (.bl true) h) → ∀ h, callF gc ns (m + 2 * d + 9) 10 [.int n, .tup ss] h = .ok (.bl true) h := by
  intro m hw h
  refine callF_flat h (d := d10) rfl rfl (by simp [W.flats, W.flat, x.flat]) rfl (h2 := []) ?_
  have c := all_true (g := ⟨gc, ns, callF gc ns (m + 2 * d + 8)⟩) (own := [("one", 2)]) (i := 2) (it := .over (.var 1)) (elt := .call 9 [.var 0, .var 2] [] []) (σ := [some (.int n), some (.tup ss), none]) (h := []) (h1 := []) (src := ⟨ss, []⟩) (by simp [overW]) rfl (by show ss.length ≤ 1000000; omega)
    (fun w h => by simp [wipeA, callW, hw w h])
  simp [runBody, d10, startA, c, -x_primc]
theorem is_sts (ns : List Int) {n d : Nat} (hn : n ≤ 1000) {ss : List W} (x : Sts n d ss) (hd : d ≤ 10) : ∀ m, ∀ w ∈ ss, ∀ h, callF gc ns (m + 2 * d + 8) 9 [.int n, w] h = .ok (.bl true) h := by
  induction x with
  | nil => exact fun _ _ z => nomatch z
  | @set d i e ss h1 h2 xe _ ih =>
    intro m w hw h
    rcases List.mem_cons.mp hw with rfl | hw
    · have se := xe.small hn
      have r0 := fun (g : Ev) h => rd_tup (ws := [.str "set", .int i, e]) (i := 0) (w := .str "set") g h (by simp)
      have r1 := fun (g : Ev) h => rd_tup (ws := [.str "set", .int i, e]) (i := 1) (w := .int i) g h (by simp)
      have r2 := fun (g : Ev) h => rd_tup (ws := [.str "set", .int i, e]) (i := 2) (w := e) g h (by simp)
      have nn := fun h => ne_nil (h := h) (w := .str "set") (ws := [.int i, e]) (by
        have : datW (.str "set") = true := by decide +kernel
        simp [datWs, this, dat_sm se.1]
        rfl) (by show max 0 (max 0 (max (depW e) 0)) < 64; omega)
      refine callF_flat h (d := d9) rfl rfl (by simp [W.flats, W.flat, xe.flat]) rfl (h2 := []) ?_
      have q1 : ∀ h, callF gc ns (m + 2 * d + 7) 4 [.int n, .int i] h = .ok (.bl (decide (0 ≤ i) && decide (i < n))) h := fun h => is_below_int ns (m + 2 * d + 4) n i h
      have q2 : ∀ h, callF gc ns (m + 2 * d + 7) 8 [.int n, e] h = .ok (.bl true) h := fun h => is_expr ns hn xe (by decide) (m + 2 * d + 1) h
      simp [runBody, d9, startA, ss_cons', nn, r0, r1, r2, callW, q1, q2, h1, h2, szOk]
    · exact ih hd m w hw h
  | @ifs d t a b ss xt la lb xa xb _ i1 i2 i3 =>
    intro m w hw h
    rcases List.mem_cons.mp hw with rfl | hw
    · have st := xt.small hn
      have sa := xa.dep hn
      have sb := xb.dep hn
      have ca := are_sts ns hn xa (by omega) (by omega) m (i1 (by omega) m)
      have cb := are_sts ns hn xb (by omega) (by omega) m (i2 (by omega) m)
      have r0 := fun (g : Ev) h => rd_tup (ws := [.str "if", t, .tup a, .tup b]) (i := 0) (w := .str "if") g h (by simp)
      have r1 := fun (g : Ev) h => rd_tup (ws := [.str "if", t, .tup a, .tup b]) (i := 1) (w := t) g h (by simp)
      have r2 := fun (g : Ev) h => rd_tup (ws := [.str "if", t, .tup a, .tup b]) (i := 2) (w := .tup a) g h (by simp)
      have r3 := fun (g : Ev) h => rd_tup (ws := [.str "if", t, .tup a, .tup b]) (i := 3) (w := .tup b) g h (by simp)
      have nn := fun h => ne_nil (h := h) (w := .str "if") (ws := [t, .tup a, .tup b]) (dats_sm (by
        show (_ && (smW t && (smWs a && (smWs b && true)))) = true
        rw [st.1, sa.1, sb.1]
        decide +kernel)) (by show max 0 (max (depW t) (max (depWs a + 1) (max (depWs b + 1) 0))) < 64; omega)
      rw [show m + 2 * (d + 1) + 8 = (m + 2 * d + 9) + 1 by omega]
      refine callF_flat h (d := d9) rfl rfl (by simp [W.flats, W.flat, xt.flat, xa.flat, xb.flat]) rfl (h2 := []) ?_
      have q2 : ∀ h, callF gc ns (m + 2 * d + 9) 8 [.int n, t] h = .ok (.bl true) h := fun h => is_expr ns hn xt (by decide) (m + 2 * d + 3) h
      simp [runBody, d9, startA, ss_cons', nn, r0, r1, r2, r3, callW, q2, ca, cb, szOk]
    · exact i3 hd m w hw h
end Law
namespace Law
open PySem AM
structure Sizes (n : Nat) (zs : List Int) : Prop where
  len : zs.length = n
  lo : ∀ z ∈ zs, 1 ≤ z ∧ z ≤ 3
theorem Cells.put {n : Nat} {cs : List Int} (c : Cells n cs) {i : Nat} {v : Int} (h1 : 0 ≤ v) (h2 : v < 3) : Cells n (cs.set i v) := by
  refine ⟨by rw [List.length_set]; exact c.len, fun x hx => ?_⟩
  rcases List.mem_or_eq_of_mem_set hx with h | rfl
  · exact c.lo x h
  · exact ⟨h1, h2⟩
abbrev tI (cs : List Int) : W := .tup (cs.map .int)
abbrev lI (cs : List Int) : O := .lst (cs.map .int)
theorem runs (ns : List Int) {n d : Nat} (hn : n ≤ 1000) {ss : List W} (x : Sts n d ss) {zs : List Int} (z : Sizes n zs) : ∀ {cs : List Int}, Cells n cs → ∃ cs', Cells n cs' ∧ ∀ m,
    (∀ (u v : Option W) (sts : W), ∃ u' v', forLoop (forF ⟨gc, ns, callF gc ns (m+d+5)⟩ (.nm 3) [.iff (.val (.cmp .eq (.sub (.var 3) (.con (.int 0))) (.glo "SET" (.str "set")))) [.asg (.nm 4) (.sub (.var 3) (.con (.int 1))), .asg (.nm 1) (.bin .add (.bin .add (.slc (.var 1) [] [.var 4]) (.tup [.bin .mod (.prim .int [.call 14 [.var 1, .sub (.var 3) (.con (.int 2))] [] []]) (.sub (.var 0) (.var 4))])) (.slc (.var 1) [.bin .add (.var 4) (.con (.int 1))] []))] [.asg (.nm 1) (.call 15 [.var 0, .var 1, .ife (.val (.cmp .ne (.call 14 [.var 1, .sub (.var 3) (.con (.int 1))] [] []) (.con (.int 0)))) (.sub (.var 3) (.con (.int 2))) (.sub (.var 3) (.con (.int 3)))] [] [])]]) [] ss [some (tI zs), some (tI cs), some sts, u, v] [] = .next [some (tI zs), some (tI cs'), some sts, u', v'] []) ∧
    (∀ (h : AH) (q : Nat) (u v : Option W) (sts : W), h[q]? = some (lI cs) → ∃ h' q' u' v', forLoop (forF ⟨gc, ns, callF gc ns (m+d+5)⟩ (.nm 3) [.iff (.val (.cmp .eq (.sub (.var 3) (.con (.int 0))) (.con (.str "set")))) [.asg (.nm 4) (.call 28 [.var 1, .sub (.var 3) (.con (.int 2))] [] []), .asg (.nm 1) (.bin .add (.bin .add (.slc (.var 1) [] [.sub (.var 3) (.con (.int 1))]) (.lst [.bin .mod (.prim .int [.var 4]) (.sub (.var 0) (.sub (.var 3) (.con (.int 1))))])) (.slc (.var 1) [.bin .add (.sub (.var 3) (.con (.int 1))) (.con (.int 1))] []))] [.iff (.val (.cmp .ne (.call 28 [.var 1, .sub (.var 3) (.con (.int 1))] [] []) (.con (.int 0)))) [.asg (.nm 1) (.call 29 [.var 0, .var 1, .sub (.var 3) (.con (.int 2))] [] [])] [.asg (.nm 1) (.call 29 [.var 0, .var 1, .sub (.var 3) (.con (.int 3))] [] [])]]]) [] ss [some (tI zs), some (.loc q), some sts, u, v] h = .next [some (tI zs), some (.loc q'), some sts, u', v'] h' ∧ h'[q']? = some (lI cs') ∧ Fr [] h h') := by
  induction x with
  | nil => exact fun {cs} c => ⟨cs, c, fun m => ⟨fun u v sts => ⟨u, v, by simp [forLoop, heldOk]⟩, fun h q u v sts hq => ⟨h, q, u, v, by simp [forLoop, heldOk], hq, Fr.refl⟩⟩⟩
  | @set d i e ss h1 h2 xe _ ih =>
    intro cs c
    obtain ⟨v, v1, v2, v3⟩ := worths ns xe c
    have hil : i.toNat < zs.length := by rw [z.len]; omega
    have hic : i.toNat < cs.length := by rw [c.len]; omega
    obtain ⟨s1, s2⟩ := z.lo _ (List.getElem_mem hil)
    have hz : L2.atI (zs.map W.int) i = some (.int zs[i.toNat]) := by
      rw [atI_of _ h1]
      simp [hil]
    have p1 := Int.emod_nonneg v (b := zs[i.toNat]) (by omega)
    have p2 := Int.emod_lt_of_pos v (b := zs[i.toNat]) (by omega)
    obtain ⟨cs', c', f⟩ := ih (cs := cs.set i.toNat (v % zs[i.toNat])) (c.put p1 (by omega))
    refine ⟨cs', c', fun m => ?_⟩
    obtain ⟨f1, f2⟩ := f m
    have r0 := fun (g : Ev) h => rd_tup (ws := [.str "set", .int i, e]) (i := 0) (w := .str "set") g h (by simp)
    have r1 := fun (g : Ev) h => rd_tup (ws := [.str "set", .int i, e]) (i := 1) (w := .int i) g h (by simp)
    have r2 := fun (g : Ev) h => rd_tup (ws := [.str "set", .int i, e]) (i := 2) (w := e) g h (by simp)
    have cl := c.len
    have sp : (cs.map W.int).take i.toNat ++ W.int (v % zs[i.toNat]) :: (cs.map W.int).drop (i.toNat + 1) = (cs.set i.toNat (v % zs[i.toNat])).map W.int := by
      rw [splice _ _ _ (by simpa using hic), List.map_set]
    have sp2 : (cs.map W.int).take i.toNat ++ [W.int (v % zs[i.toNat])] ++ (cs.map W.int).drop (i.toNat + 1) = (cs.set i.toNat (v % zs[i.toNat])).map W.int := by
      rw [List.append_assoc, List.singleton_append, sp]
    have ti : (i + 1).toNat = i.toNat + 1 := by omega
    refine ⟨fun u w sts => ?_, fun h q u w sts hq => ?_⟩
    · have vv : ∀ h, callF gc ns (m + d + 5) 14 [tI cs, e] h = .ok (.int v) h := fun h => (v3 (m + d + 1)).1 h
      obtain ⟨u', w', e'⟩ := f1 (some (.tup [.str "set", .int i, e])) (some (.int i)) sts
      refine ⟨u', w', ?_⟩
      have a1 : binW .add (.tup ((cs.map W.int).take i.toNat)) (.tup [.int (v % zs[i.toNat])]) [] = .ok (.tup ((cs.map W.int).take i.toNat ++ [.int (v % zs[i.toNat])])) [] := add_tup _ _ (by simp; omega)
      have a2 : binW .add (.tup ((cs.map W.int).take i.toNat ++ [.int (v % zs[i.toNat])])) (.tup ((cs.map W.int).drop (i.toNat + 1))) [] = .ok (tI (cs.set i.toNat (v % zs[i.toNat]))) [] := by
        rw [add_tup _ _ (by simp; omega), List.append_assoc, List.singleton_append, sp]
      have st : forF ⟨gc, ns, callF gc ns (m+d+5)⟩ (.nm 3) [.iff (.val (.cmp .eq (.sub (.var 3) (.con (.int 0))) (.glo "SET" (.str "set")))) [.asg (.nm 4) (.sub (.var 3) (.con (.int 1))), .asg (.nm 1) (.bin .add (.bin .add (.slc (.var 1) [] [.var 4]) (.tup [.bin .mod (.prim .int [.call 14 [.var 1, .sub (.var 3) (.con (.int 2))] [] []]) (.sub (.var 0) (.var 4))])) (.slc (.var 1) [.bin .add (.var 4) (.con (.int 1))] []))] [.asg (.nm 1) (.call 15 [.var 0, .var 1, .ife (.val (.cmp .ne (.call 14 [.var 1, .sub (.var 3) (.con (.int 1))] [] []) (.con (.int 0)))) (.sub (.var 3) (.con (.int 2))) (.sub (.var 3) (.con (.int 3)))] [] [])]] (.tup [.str "set", .int i, e]) [some (tI zs), some (tI cs), some sts, u, w] [] = .next [some (tI zs), some (tI (cs.set i.toNat (v % zs[i.toNat]))), some sts, some (.tup [.str "set", .int i, e]), some (.int i)] [] := by
        unfold forF
        simp [r0, r1, r2, ss_cons', callW, vv, rd_tup _ _ hz, s1, szOk, slc_tup, cut_to _ h1, cut_from _ (show 0 ≤ i + 1 by omega), ti, a1, a2, show 0 < zs[i.toNat] by omega]
      rw [fl_next rfl st]
      exact e'
    · have vv : ∀ h, h[q]? = some (lI cs) → callF gc ns (m + d + 5) 28 [.loc q, e] h = .ok (.int v) h := fun h hq => (v3 (m + d + 1)).2 h q hq
      have l1 : (h ++ [O.lst ((cs.map W.int).take i.toNat)])[h.length]? = some (O.lst ((cs.map W.int).take i.toNat)) := by simp
      have hq1 : ∀ t : AH, (h ++ t)[q]? = some (lI cs) := fun t => (Fr.app (S := []) (h := h) (t := t)).get hq (by simp)
      have st : ∃ h', forF ⟨gc, ns, callF gc ns (m+d+5)⟩ (.nm 3) [.iff (.val (.cmp .eq (.sub (.var 3) (.con (.int 0))) (.con (.str "set")))) [.asg (.nm 4) (.call 28 [.var 1, .sub (.var 3) (.con (.int 2))] [] []), .asg (.nm 1) (.bin .add (.bin .add (.slc (.var 1) [] [.sub (.var 3) (.con (.int 1))]) (.lst [.bin .mod (.prim .int [.var 4]) (.sub (.var 0) (.sub (.var 3) (.con (.int 1))))])) (.slc (.var 1) [.bin .add (.sub (.var 3) (.con (.int 1))) (.con (.int 1))] []))] [.iff (.val (.cmp .ne (.call 28 [.var 1, .sub (.var 3) (.con (.int 1))] [] []) (.con (.int 0)))) [.asg (.nm 1) (.call 29 [.var 0, .var 1, .sub (.var 3) (.con (.int 2))] [] [])] [.asg (.nm 1) (.call 29 [.var 0, .var 1, .sub (.var 3) (.con (.int 3))] [] [])]]] (.tup [.str "set", .int i, e]) [some (tI zs), some (.loc q), some sts, u, w] h = .next [some (tI zs), some (.loc (h.length + 4)), some sts, some (.tup [.str "set", .int i, e]), some (.int v)] h' ∧ h'[h.length + 4]? = some (lI (cs.set i.toNat (v % zs[i.toNat]))) ∧ Fr [] h h' := by
        refine ⟨h ++ [O.lst ((cs.map W.int).take i.toNat), O.lst [.int (v % zs[i.toNat])], O.lst ((cs.map W.int).take i.toNat ++ [.int (v % zs[i.toNat])]), O.lst ((cs.map W.int).drop (i.toNat + 1)), lI (cs.set i.toNat (v % zs[i.toNat]))], ?_, by simp, Fr.app⟩
        unfold forF
        have a1 : binW .add (.loc h.length) (.loc (h.length + 1)) (h ++ [O.lst ((cs.map W.int).take i.toNat), O.lst [.int (v % zs[i.toNat])]]) = .ok (.loc (h.length + 2)) (h ++ [O.lst ((cs.map W.int).take i.toNat), O.lst [.int (v % zs[i.toNat])], O.lst ((cs.map W.int).take i.toNat ++ [.int (v % zs[i.toNat])])]) := by
          rw [add_lst (a := (cs.map W.int).take i.toNat) (b := [.int (v % zs[i.toNat])]) (by simp) (by simp) (by simp; omega)]
          simp
        have a2 : binW .add (.loc (h.length + 2)) (.loc (h.length + 3)) (h ++ [O.lst ((cs.map W.int).take i.toNat), O.lst [.int (v % zs[i.toNat])], O.lst ((cs.map W.int).take i.toNat ++ [.int (v % zs[i.toNat])]), O.lst ((cs.map W.int).drop (i.toNat + 1))]) =
            .ok (.loc (h.length + 4)) (h ++ [O.lst ((cs.map W.int).take i.toNat), O.lst [.int (v % zs[i.toNat])], O.lst ((cs.map W.int).take i.toNat ++ [.int (v % zs[i.toNat])]), O.lst ((cs.map W.int).drop (i.toNat + 1)), lI (cs.set i.toNat (v % zs[i.toNat]))]) := by
          rw [add_lst (a := (cs.map W.int).take i.toNat ++ [.int (v % zs[i.toNat])]) (b := (cs.map W.int).drop (i.toNat + 1)) (by simp) (by simp) (by simp; omega), sp2]
          simp
        simp [-List.map_take, -List.map_drop, r0, r1, r2, ss_cons', callW, vv _ hq, rd_tup _ _ hz, s1, szOk, slc_lst _ _ _ hq, slc_lst _ _ _ (hq1 _), cut_to _ h1, cut_from _ (show 0 ≤ i + 1 by omega), ti, a1, a2, show 0 < zs[i.toNat] by omega]
      obtain ⟨h', e1, e2, e3⟩ := st
      obtain ⟨h2, q', u', w', g1, g2, g3⟩ := f2 h' (h.length + 4) (some (.tup [.str "set", .int i, e])) (some (.int v)) sts e2
      refine ⟨h2, q', u', w', ?_, g2, e3.trans g3⟩
      rw [fl_next rfl e1]
      exact g1
  | @ifs d t a b ss xt la lb xa xb _ i1 i2 i3 =>
    intro cs c
    obtain ⟨v, v1, v2, v3⟩ := worths ns xt c
    obtain ⟨ca, a1, a2⟩ := i1 c
    obtain ⟨cb, b1, b2⟩ := i2 c
    obtain ⟨cs', c', f⟩ := i3 (cs := if v = 0 then cb else ca) (by split <;> assumption)
    refine ⟨cs', c', fun m => ?_⟩
    obtain ⟨f1, f2⟩ := f m
    have r0 := fun (g : Ev) h => rd_tup (ws := [.str "if", t, .tup a, .tup b]) (i := 0) (w := .str "if") g h (by simp)
    have r1 := fun (g : Ev) h => rd_tup (ws := [.str "if", t, .tup a, .tup b]) (i := 1) (w := t) g h (by simp)
    have r2 := fun (g : Ev) h => rd_tup (ws := [.str "if", t, .tup a, .tup b]) (i := 2) (w := .tup a) g h (by simp)
    have r3 := fun (g : Ev) h => rd_tup (ws := [.str "if", t, .tup a, .tup b]) (i := 3) (w := .tup b) g h (by simp)
    have inner : ∀ (k : List W) (ck : List Int), (∀ (u v : Option W) (sts : W), ∃ u' v', forLoop (forF ⟨gc, ns, callF gc ns (m+d+5)⟩ (.nm 3) [.iff (.val (.cmp .eq (.sub (.var 3) (.con (.int 0))) (.glo "SET" (.str "set")))) [.asg (.nm 4) (.sub (.var 3) (.con (.int 1))), .asg (.nm 1) (.bin .add (.bin .add (.slc (.var 1) [] [.var 4]) (.tup [.bin .mod (.prim .int [.call 14 [.var 1, .sub (.var 3) (.con (.int 2))] [] []]) (.sub (.var 0) (.var 4))])) (.slc (.var 1) [.bin .add (.var 4) (.con (.int 1))] []))] [.asg (.nm 1) (.call 15 [.var 0, .var 1, .ife (.val (.cmp .ne (.call 14 [.var 1, .sub (.var 3) (.con (.int 1))] [] []) (.con (.int 0)))) (.sub (.var 3) (.con (.int 2))) (.sub (.var 3) (.con (.int 3)))] [] [])]]) [] k [some (tI zs), some (tI cs), some sts, u, v] [] = .next [some (tI zs), some (tI ck), some sts, u', v'] []) → W.flats k = true →
        ∀ h, callF gc ns (m + d + 6) 15 [tI zs, tI cs, .tup k] h = .ok (tI ck) h := fun k ck hk fk h => by
      obtain ⟨u', v', e'⟩ := hk none none (.tup k)
      refine callF_flat h (d := d15) rfl rfl (by simp [W.flats, W.flat, flats_int, fk]) (by simp [W.flat, flats_int]) (h2 := []) ?_
      simp [runBody, d15, startA, ss_cons', overW, e']
    have innerL : ∀ (k : List W) (ck : List Int), (∀ (h : AH) (q : Nat) (u v : Option W) (sts : W), h[q]? = some (lI cs) → ∃ h' q' u' v', forLoop (forF ⟨gc, ns, callF gc ns (m+d+5)⟩ (.nm 3) [.iff (.val (.cmp .eq (.sub (.var 3) (.con (.int 0))) (.con (.str "set")))) [.asg (.nm 4) (.call 28 [.var 1, .sub (.var 3) (.con (.int 2))] [] []), .asg (.nm 1) (.bin .add (.bin .add (.slc (.var 1) [] [.sub (.var 3) (.con (.int 1))]) (.lst [.bin .mod (.prim .int [.var 4]) (.sub (.var 0) (.sub (.var 3) (.con (.int 1))))])) (.slc (.var 1) [.bin .add (.sub (.var 3) (.con (.int 1))) (.con (.int 1))] []))] [.iff (.val (.cmp .ne (.call 28 [.var 1, .sub (.var 3) (.con (.int 1))] [] []) (.con (.int 0)))) [.asg (.nm 1) (.call 29 [.var 0, .var 1, .sub (.var 3) (.con (.int 2))] [] [])] [.asg (.nm 1) (.call 29 [.var 0, .var 1, .sub (.var 3) (.con (.int 3))] [] [])]]]) [] k [some (tI zs), some (.loc q), some sts, u, v] h = .next [some (tI zs), some (.loc q'), some sts, u', v'] h' ∧ h'[q']? = some (lI ck) ∧ Fr [] h h') → W.flats k = true →
        ∀ h q, h[q]? = some (lI cs) → ∃ h' q', callF gc ns (m + d + 6) 29 [tI zs, .loc q, .tup k] h = .ok (.loc q') h' ∧ h'[q']? = some (lI ck) ∧ Fr [] h h' := fun k ck hk fk h q hq => by
      obtain ⟨h', q', u', v', e1, e2, e3⟩ := hk h q none none (.tup k) hq
      refine ⟨h', q', ?_, e2, e3⟩
      rw [callF_loc h (d := d29) rfl rfl (by simp [W.flats, W.flat])]
      simp [runBody, d29, startA, ss_cons', overW, e1]
    refine ⟨fun u w sts => ?_, fun h q u w sts hq => ?_⟩
    · have vv : ∀ h, callF gc ns (m + d + 6) 14 [tI cs, t] h = .ok (.int v) h := fun h => (v3 (m + d + 2)).1 h
      have da := inner a ca (a2 m).1 xa.flat
      have db := inner b cb (b2 m).1 xb.flat
      obtain ⟨u', w', e'⟩ := f1 (some (.tup [.str "if", t, .tup a, .tup b])) w sts
      refine ⟨u', w', ?_⟩
      have st : forF ⟨gc, ns, callF gc ns (m+(d+1)+5)⟩ (.nm 3) [.iff (.val (.cmp .eq (.sub (.var 3) (.con (.int 0))) (.glo "SET" (.str "set")))) [.asg (.nm 4) (.sub (.var 3) (.con (.int 1))), .asg (.nm 1) (.bin .add (.bin .add (.slc (.var 1) [] [.var 4]) (.tup [.bin .mod (.prim .int [.call 14 [.var 1, .sub (.var 3) (.con (.int 2))] [] []]) (.sub (.var 0) (.var 4))])) (.slc (.var 1) [.bin .add (.var 4) (.con (.int 1))] []))] [.asg (.nm 1) (.call 15 [.var 0, .var 1, .ife (.val (.cmp .ne (.call 14 [.var 1, .sub (.var 3) (.con (.int 1))] [] []) (.con (.int 0)))) (.sub (.var 3) (.con (.int 2))) (.sub (.var 3) (.con (.int 3)))] [] [])]] (.tup [.str "if", t, .tup a, .tup b]) [some (tI zs), some (tI cs), some sts, u, w] [] = .next [some (tI zs), some (tI (if v = 0 then cb else ca)), some sts, some (.tup [.str "if", t, .tup a, .tup b]), w] [] := by
        rw [show m + (d + 1) + 5 = m + d + 6 by omega]
        unfold forF
        by_cases hv : v = 0
        · subst hv
          simp [r0, r1, r2, r3, callW, vv, da, db]
        · simp [r0, r1, r2, r3, callW, vv, da, db, hv]
      rw [fl_next rfl st]
      exact e'
    · have vv : ∀ h, h[q]? = some (lI cs) → callF gc ns (m + d + 6) 28 [.loc q, t] h = .ok (.int v) h := fun h hq => (v3 (m + d + 2)).2 h q hq
      have st : ∃ h' q', forF ⟨gc, ns, callF gc ns (m+(d+1)+5)⟩ (.nm 3) [.iff (.val (.cmp .eq (.sub (.var 3) (.con (.int 0))) (.con (.str "set")))) [.asg (.nm 4) (.call 28 [.var 1, .sub (.var 3) (.con (.int 2))] [] []), .asg (.nm 1) (.bin .add (.bin .add (.slc (.var 1) [] [.sub (.var 3) (.con (.int 1))]) (.lst [.bin .mod (.prim .int [.var 4]) (.sub (.var 0) (.sub (.var 3) (.con (.int 1))))])) (.slc (.var 1) [.bin .add (.sub (.var 3) (.con (.int 1))) (.con (.int 1))] []))] [.iff (.val (.cmp .ne (.call 28 [.var 1, .sub (.var 3) (.con (.int 1))] [] []) (.con (.int 0)))) [.asg (.nm 1) (.call 29 [.var 0, .var 1, .sub (.var 3) (.con (.int 2))] [] [])] [.asg (.nm 1) (.call 29 [.var 0, .var 1, .sub (.var 3) (.con (.int 3))] [] [])]]] (.tup [.str "if", t, .tup a, .tup b]) [some (tI zs), some (.loc q), some sts, u, w] h = .next [some (tI zs), some (.loc q'), some sts, some (.tup [.str "if", t, .tup a, .tup b]), w] h' ∧ h'[q']? = some (lI (if v = 0 then cb else ca)) ∧ Fr [] h h' := by
        rw [show m + (d + 1) + 5 = m + d + 6 by omega]
        by_cases hv : v = 0
        · subst hv
          obtain ⟨h', q', e1, e2, e3⟩ := innerL b cb (b2 m).2 xb.flat h q hq
          exact ⟨h', q', by unfold forF; simp [r0, r1, r2, r3, callW, vv _ hq, e1], e2, e3⟩
        · obtain ⟨h', q', e1, e2, e3⟩ := innerL a ca (a2 m).2 xa.flat h q hq
          exact ⟨h', q', by unfold forF; simp [r0, r1, r2, r3, callW, vv _ hq, e1, hv], by rw [if_neg hv]; exact e2, e3⟩
      obtain ⟨h', q1, e1, e2, e3⟩ := st
      obtain ⟨h2, q', u', w', g1, g2, g3⟩ := f2 h' q1 (some (.tup [.str "if", t, .tup a, .tup b])) w sts e2
      refine ⟨h2, q', u', w', ?_, g2, e3.trans g3⟩
      rw [fl_next rfl e1]
      exact g1
end Law
namespace Law
open PySem AM
theorem done_both (ns : List Int) {n : Nat} (hn : n ≤ 1000) {ss : List W} (x : Sts n 2 ss) {zs : List Int} (z : Sizes n zs) {cs : List Int} (c : Cells n cs) : ∃ cs', Cells n cs' ∧ ∀ m,
    (∀ h, callF gc ns (m+8) 15 [tI zs, tI cs, .tup ss] h = .ok (tI cs') h) ∧
    ∀ h q, h[q]? = some (lI cs) → ∃ h' q', callF gc ns (m+8) 29 [tI zs, .loc q, .tup ss] h = .ok (.loc q') h' ∧ h'[q']? = some (lI cs') ∧ Fr [] h h' := by
  obtain ⟨cs', c', f⟩ := runs ns hn x z c
  refine ⟨cs', c', fun m => ?_⟩
  obtain ⟨f1, f2⟩ := f m
  refine ⟨fun h => ?_, fun h q hq => ?_⟩
  · obtain ⟨u', v', e'⟩ := f1 none none (.tup ss)
    refine callF_flat h (d := d15) rfl rfl (by simp [W.flats, W.flat, flats_int, x.flat]) (by simp [W.flat, flats_int]) (h2 := []) ?_
    simp [runBody, d15, startA, ss_cons', overW, e']
  · obtain ⟨h', q', u', v', e1, e2, e3⟩ := f2 h q none none (.tup ss) hq
    refine ⟨h', q', ?_, e2, e3⟩
    rw [callF_loc h (d := d29) rfl rfl (by simp [W.flats, W.flat])]
    simp [runBody, d29, startA, ss_cons', overW, e1]
def progW (ev : Int) (zs : List Int) (steps : List (List W)) (res : W) : W := .tup [.int ev, tI zs, .tup (steps.map .tup), res]
structure Prog (n : Nat) (ev : Int) (zs : List Int) (steps : List (List W)) (res : W) : Prop where
  e1 : 1 ≤ ev
  e2 : ev ≤ 3
  n3 : n ≤ 3
  z : Sizes n zs
  sl : (steps.length : Int) = ev
  st : ∀ ss ∈ steps, Sts n 2 ss ∧ ss.length ≤ 2
  res : Ex n 2 res
section
variable {n : Nat} {ev : Int} {zs : List Int} {steps : List (List W)} {res : W}
theorem Prog.flats (p : Prog n ev zs steps res) : W.flats (steps.map .tup) = true := flats_of fun w hw => by
  obtain ⟨ss, hs, rfl⟩ := List.mem_map.mp hw
  exact (p.st ss hs).1.flat
theorem Prog.flat (p : Prog n ev zs steps res) : W.flat (progW ev zs steps res) = true := by
  simp [progW, W.flat, W.flats, p.flats, flats_int, p.res.flat]
theorem pr0 (g : Ev) (h : AH) : subR g (progW ev zs steps res) (.int 0) h = .ok (.int ev) h := rd_tup g h (by simp)
theorem pr1 (g : Ev) (h : AH) : subR g (progW ev zs steps res) (.int 1) h = .ok (tI zs) h := rd_tup g h (by simp)
theorem pr2 (g : Ev) (h : AH) : subR g (progW ev zs steps res) (.int 2) h = .ok (.tup (steps.map .tup)) h := rd_tup g h (by simp)
theorem pr3 (g : Ev) (h : AH) : subR g (progW ev zs steps res) (.int 3) h = .ok res h := rd_tup g h (by simp)
theorem zeros (n : Nat) : (List.replicate n [W.int 0]).flatten = (List.replicate n (0 : Int)).map .int := by
  induction n with
  | zero => rfl
  | succ n ih =>
    rw [List.replicate_succ, List.flatten_cons, ih, List.replicate_succ]
    rfl
theorem cells0 (n : Nat) : Cells n (List.replicate n 0) := ⟨by simp, fun c hc => by
  rw [List.mem_replicate] at hc
  omega⟩
/-- the loop over a log, both ways -/
theorem log_run (ns : List Int) (p : Prog n ev zs steps res) (es : List Int) : (∀ e ∈ es, 0 ≤ e ∧ e < ev) → ∀ {cs : List Int}, Cells n cs → ∃ cs', Cells n cs' ∧ ∀ m,
    (∀ (v : Option W) (lg : W), ∃ v', forLoop (forF ⟨gc, ns, callF gc ns (m+8)⟩ (.nm 3) [.asg (.nm 2) (.call 15 [.sub (.var 0) (.con (.int 1)), .var 2, .sub (.sub (.var 0) (.con (.int 2))) (.var 3)] [] [])]) [] (es.map .int) [some (progW ev zs steps res), some lg, some (tI cs), v] [] = .next [some (progW ev zs steps res), some lg, some (tI cs'), v'] []) ∧
    (∀ (h : AH) (q : Nat) (v : Option W) (lg : W), h[q]? = some (lI cs) → ∃ h' q' v', forLoop (forF ⟨gc, ns, callF gc ns (m+8)⟩ (.nm 3) [.asg (.nm 2) (.call 29 [.sub (.var 0) (.con (.int 1)), .var 2, .sub (.sub (.var 0) (.con (.int 2))) (.var 3)] [] [])]) [] (es.map .int) [some (progW ev zs steps res), some lg, some (.loc q), v] h = .next [some (progW ev zs steps res), some lg, some (.loc q'), v'] h' ∧ h'[q']? = some (lI cs') ∧ Fr [] h h') := by
  induction es with
  | nil => exact fun _ {cs} c => ⟨cs, c, fun m => ⟨fun v lg => ⟨v, fl_nil rfl⟩, fun h q v lg hq => ⟨h, q, v, fl_nil rfl, hq, Fr.refl⟩⟩⟩
  | cons e es ih =>
    intro he cs c
    obtain ⟨h1, h2⟩ := he e List.mem_cons_self
    have hl : e.toNat < steps.length := by have := p.sl; omega
    obtain ⟨c1, c1c, f⟩ := done_both ns (by have := p.n3; omega) (p.st _ (List.getElem_mem hl)).1 p.z c
    obtain ⟨cs', c', g⟩ := ih (fun e he' => he e (List.mem_cons_of_mem _ he')) c1c
    refine ⟨cs', c', fun m => ?_⟩
    have rs : L2.atI (steps.map W.tup) e = some (.tup steps[e.toNat]) := by
      rw [atI_of _ h1]
      simp [hl]
    obtain ⟨g1, g2⟩ := g m
    obtain ⟨f1, f2⟩ := f m
    refine ⟨fun v lg => ?_, fun h q v lg hq => ?_⟩
    · obtain ⟨v', e'⟩ := g1 (some (.int e)) lg
      refine ⟨v', ?_⟩
      have st : forF ⟨gc, ns, callF gc ns (m+8)⟩ (.nm 3) [.asg (.nm 2) (.call 15 [.sub (.var 0) (.con (.int 1)), .var 2, .sub (.sub (.var 0) (.con (.int 2))) (.var 3)] [] [])] (.int e) [some (progW ev zs steps res), some lg, some (tI cs), v] [] = .next [some (progW ev zs steps res), some lg, some (tI c1), some (.int e)] [] := by
        unfold forF
        simp [pr1, pr2, rd_tup _ _ rs, callW, f1]
      rw [List.map_cons, fl_next rfl st]
      exact e'
    · obtain ⟨h', q1, e1, e2, e3⟩ := f2 h q hq
      have st : forF ⟨gc, ns, callF gc ns (m+8)⟩ (.nm 3) [.asg (.nm 2) (.call 29 [.sub (.var 0) (.con (.int 1)), .var 2, .sub (.sub (.var 0) (.con (.int 2))) (.var 3)] [] [])] (.int e) [some (progW ev zs steps res), some lg, some (.loc q), v] h = .next [some (progW ev zs steps res), some lg, some (.loc q1), some (.int e)] h' := by
        unfold forF
        simp [pr1, pr2, rd_tup _ _ rs, callW, e1]
      obtain ⟨h2', q', v', k1, k2, k3⟩ := g2 h' q1 (some (.int e)) lg e2
      refine ⟨h2', q', v', ?_, k2, e3.trans k3⟩
      rw [List.map_cons, fl_next rfl st]
      exact k1
theorem cells_both (ns : List Int) (p : Prog n ev zs steps res) {es : List Int} (he : ∀ e ∈ es, 0 ≤ e ∧ e < ev) : ∃ cs, Cells n cs ∧ ∀ m,
    (∀ h, callF gc ns (m+9) 16 [progW ev zs steps res, tI es] h = .ok (tI cs) h) ∧
    ∀ h, ∃ h' q, callF gc ns (m+9) 30 [progW ev zs steps res, tI es] h = .ok (.loc q) h' ∧ h'[q]? = some (lI cs) ∧ Fr [] h h' := by
  obtain ⟨cs, c, f⟩ := log_run ns p es he (cells0 n)
  refine ⟨cs, c, fun m => ?_⟩
  obtain ⟨f1, f2⟩ := f m
  have n3 := p.n3
  have zl := p.z.len
  have rep : repOk 1 (n : Int) = true := by
    unfold repOk
    rw [decide_eq_true (show (0 : Int) ≤ n by omega), decide_eq_true (show (n : Int) ≤ 1000 by omega)]
    rfl
  have b1 : ∀ h, binW .mul (.tup [.int 0]) (.int n) h = .ok (tI (List.replicate n 0)) h := fun h => by
    show (if repOk 1 (n : Int) then Res.ok (W.tup (List.replicate (n : Int).toNat [W.int 0]).flatten) h else .stuck) = _
    rw [if_pos rep, Int.toNat_natCast, zeros]
  have b2 : binW .mul (.loc 0) (.int n) [O.lst [.int 0]] = .ok (.loc 1) [O.lst [.int 0], lI (List.replicate n 0)] := by
    show (if repOk 1 (n : Int) then Res.ok (W.loc 1) ([O.lst [W.int 0]] ++ [O.lst (List.replicate (n : Int).toNat [W.int 0]).flatten]) else .stuck) = _
    rw [if_pos rep, Int.toNat_natCast, zeros]
    rfl
  have fl : W.flats [progW ev zs steps res, tI es] = true := by simp [W.flats, p.flat, W.flat, flats_int]
  refine ⟨fun h => ?_, fun h => ?_⟩
  · obtain ⟨v', e'⟩ := f1 none (tI es)
    refine callF_flat h (d := d16) rfl rfl fl (by simp [W.flat, flats_int]) (h2 := []) ?_
    simp only [runBody, d16, startA]
    rw [ss_cons']
    simp [pr1, szOk, zl, b1]
    rw [ss_cons']
    simp [overW, e']
  · obtain ⟨h', q', v', e1, e2, e3⟩ := f2 [O.lst [.int 0], lI (List.replicate n 0)] 1 none (tI es) rfl
    have run : runBody ⟨gc, ns, callF gc ns (m+8)⟩ d30 [progW ev zs steps res, tI es] [] = .ok (.loc q') h' := by
      simp only [runBody, d30, startA]
      rw [ss_cons']
      simp [pr1, szOk, zl, b2]
      rw [ss_cons']
      simp [overW, e1]
    exact ⟨h ++ [lI cs], h.length, callF_list h (d := d30) rfl rfl fl run e2 (flats_int cs), by simp, Fr.app⟩
/-! ### a right program is taken -/
theorem are_ok (ns : List Int) (p : Prog n ev zs steps res) (m : Nat) {ss : List W} (hs : ss ∈ steps) (h : AH) : callF gc ns (m + 13) 10 [.int n, .tup ss] h = .ok (.bl true) h := by
  have hn : n ≤ 1000 := by have := p.n3; omega
  have s := p.st ss hs
  exact are_sts ns hn s.1 (by decide) (by omega) m (is_sts ns hn s.1 (by decide) m) h
theorem fault_none (ns : List Int) (p : Prog n ev zs steps res) (m : Nat) (h : AH) : callF gc ns (m + 14) 11 [progW ev zs steps res] h = .ok .non h := by
  have hn : n ≤ 1000 := by have := p.n3; omega
  have n3 := p.n3
  have zl := p.z.len
  refine callF_flat h (d := d11) rfl rfl (by simp [W.flats, p.flat]) rfl (h2 := []) ?_
  have t4 : ∀ h, callF gc ns (m + 13) 5 [.int 4, progW ev zs steps res] h = .ok (.bl true) h := fun h => is_tuple_ok ns (m + 12) 4 _ h (by simp [W.flats, W.flat, flats_int, p.flats, p.res.flat]) rfl
  have tE : ∀ h, callF gc ns (m + 13) 5 [.int ev, .tup (steps.map .tup)] h = .ok (.bl true) h := fun h => is_tuple_ok ns (m + 12) ev _ h p.flats (by simp [p.sl])
  have f1 : ∀ i h, callF gc ns (m + 13) 3 [.int 1, .int i] h = .ok (.bl (decide (1 ≤ i))) h := fun i h => is_from_int ns (m + 11) 1 i h
  have ex : ∀ h, callF gc ns (m + 13) 8 [.int n, res] h = .ok (.bl true) h := fun h => is_expr ns hn p.res (by decide) (m + 7) h
  have al : ∀ (a b c d e f g : Option W), evalE ⟨gc, ns, callF gc ns (m + 13)⟩ (.primc .all (.comp [("one", 7)] (.nm 7) (.over (.var 2)) [] (.call 3 [.con (.int 1), .var 7] [] []))) [a, b, some (tI zs), c, d, e, f, g] [] = .ok (.bl true) [] := fun a b c d e f g =>
    all_true (src := ⟨zs.map .int, []⟩) (by simp [overW]) rfl (by simp; omega) fun w hw => by
      obtain ⟨z, hz, rfl⟩ := List.mem_map.mp hw
      simp [wipeA, callW, f1, (p.z.lo z hz).1]
  obtain ⟨σ', h', lp, rfl, x, y, rfl⟩ := forLoop_inv (f := forF ⟨gc, ns, callF gc ns (m + 13)⟩ (.tp [.nm 5, .nm 6]) [.iff (.not (.val (.call 10 [.prim .len [.var 2], .var 6] [] []))) [.ret (.tup [.con (.int 2), .var 5])] []]) (held := []) (fun _ σ k => k = [] ∧ ∃ x y, σ = [some (progW ev zs steps res), some (.int ev), some (tI zs), some (.tup (steps.map .tup)), some res, x, y, none]) (enumFrom 0 (steps.map .tup)) 0 (fun i hi σ k ⟨hk, x, y, e⟩ => by
    subst hk e
    obtain ⟨j, u, e1, hu⟩ := enum_mem (List.getElem_mem hi)
    obtain ⟨ss, hss, rfl⟩ := List.mem_map.mp hu
    rw [e1]
    have a := are_ok ns p m hss []
    refine ⟨[some (progW ev zs steps res), some (.int ev), some (tI zs), some (.tup (steps.map .tup)), some res, some (.int j), some (.tup ss), none], [], .inl ?_, rfl, _, _, rfl⟩
    unfold forF
    simp [callW, zl, a]) (fun _ _ _ _ => rfl) [some (progW ev zs steps res), some (.int ev), some (tI zs), some (.tup (steps.map .tup)), some res, none, none, none] [] ⟨rfl, _, _, rfl⟩
  simp only [runBody, d11, startA]
  rw [ss_cons']
  simp [callW, t4]
  rw [ss_cons']
  have un : ∀ σ, asgT ⟨gc, ns, callF gc ns (m + 13)⟩ (.tp [.nm 1, .nm 2, .nm 3, .nm 4]) (progW ev zs steps res) σ [] = .ok ((((σ.set 1 (some (.int ev))).set 2 (some (tI zs))).set 3 (some (.tup (steps.map .tup)))).set 4 (some res)) [] := fun σ => by
    unfold progW
    simp
  simp [un]
  rw [ss_cons']
  simp [callW, f1, p.e1]
  rw [ss_cons']
  simp [-x_primc, al]
  rw [ss_cons']
  simp [callW, tE]
  rw [ss_cons']
  simp [overW, lp, callW, zl, ex]
theorem check_run_ok (ns : List Int) (p : Prog n ev zs steps res) (m : Nat) {es : List Int} (he : ∀ e ∈ es, 0 ≤ e ∧ e < ev) (h : AH) : callF gc ns (m + 16) 17 [progW ev zs steps res, tI es] h = .ok .non h := by
  have c1 : ∀ h, callF gc ns (m + 15) 12 [progW ev zs steps res] h = .ok .non h := fun h => by
    have f := fault_none ns p m []
    refine callF_flat h (d := d12) rfl rfl (by simp [W.flats, p.flat]) rfl (h2 := []) ?_
    simp [runBody, d12, startA, ss_cons', callW, f]
  have c2 : ∀ h, callF gc ns (m + 15) 7 [.int ev, tI es] h = .ok .non h := fun h => check_log_ok ns (m + 10) ev es h he
  refine callF_flat h (d := d17) rfl rfl (by simp [W.flats, p.flat, W.flat, flats_int]) rfl (h2 := []) ?_
  simp [runBody, d17, startA, ss_cons', callW, c1, c2, pr0]
/-- what the program and the law's own run tell of a log -/
theorem told_both (ns : List Int) (p : Prog n ev zs steps res) {es : List Int} (he : ∀ e ∈ es, 0 ≤ e ∧ e < ev) : ∃ cs v, Cells n cs ∧ 0 ≤ v ∧ v ≤ 12 ∧ ∀ m,
    (∀ h, callF gc ns (m+17) 18 [progW ev zs steps res, tI es] h = .ok (tI cs) h) ∧ (∀ h, callF gc ns (m+17) 19 [progW ev zs steps res, tI es] h = .ok (.int v) h) ∧
    (∀ h, ∃ h' q, callF gc ns (m+17) 30 [progW ev zs steps res, tI es] h = .ok (.loc q) h' ∧ h'[q]? = some (lI cs) ∧ Fr [] h h') ∧
    ∀ h q, h[q]? = some (lI cs) → callF gc ns (m+17) 28 [.loc q, res] h = .ok (.int v) h := by
  obtain ⟨cs, c, f⟩ := cells_both ns p he
  obtain ⟨v, v1, v2, v3⟩ := worths ns p.res c
  refine ⟨cs, v, c, v1, v2, fun m => ?_⟩
  have fl : W.flats [progW ev zs steps res, tI es] = true := by simp [W.flats, p.flat, W.flat, flats_int]
  have cr := check_run_ok ns p m he
  have ci : ∀ h, callF gc ns (m + 16) 16 [progW ev zs steps res, tI es] h = .ok (tI cs) h := (f (m + 7)).1
  have vo : ∀ h, callF gc ns (m + 16) 14 [tI cs, res] h = .ok (.int v) h := (v3 (m + 12)).1
  refine ⟨fun h => ?_, fun h => ?_, (f (m + 8)).2, fun h q hq => (v3 (m + 13)).2 h q hq⟩
  · refine callF_flat h (d := d18) rfl rfl fl (by simp [W.flat, flats_int]) (h2 := []) ?_
    simp [runBody, d18, startA, ss_cons', callW, cr, ci]
  · refine callF_flat h (d := d19) rfl rfl fl rfl (h2 := []) ?_
    simp [runBody, d19, startA, ss_cons', callW, cr, ci, pr3, vo]
end
end Law
namespace Law
open PySem AM
theorem smz {n : Nat} {zs : List Int} (z : Sizes n zs) : datWs (zs.map .int) = true ∧ depWs (zs.map .int) < 64 := ⟨datWs_int zs, by rw [depWs_int]; decide⟩
theorem ne_sizes {n : Nat} {zs : List Int} (z : Sizes n zs) (h : AH) : cmpW .ne (tI zs) (.tup []) h = .ok (.bl (!zs.isEmpty)) h := by
  rw [c_ne (eqW_nil (smz z).1 (smz z).2)]
  cases zs <;> rfl
theorem mem_words {i : Int} (h1 : 0 ≤ i) (h2 : i < 6) : ∃ w, w ∈ words ∧ L2.atI [W.str "plus", .str "minus", .str "least", .str "greatest", .str "equal", .str "less"] i = some (.str w) := by
  rw [atI_of _ h1]
  obtain ⟨k, rfl⟩ : ∃ k : Nat, i = k := ⟨i.toNat, by omega⟩
  rw [Int.toNat_natCast]
  match k, h2 with
  | 0, _ => exact ⟨_, by simp [words], rfl⟩
  | 1, _ => exact ⟨_, by simp [words], rfl⟩
  | 2, _ => exact ⟨_, by simp [words], rfl⟩
  | 3, _ => exact ⟨_, by simp [words], rfl⟩
  | 4, _ => exact ⟨_, by simp [words], rfl⟩
  | 5, _ => exact ⟨_, by simp [words], rfl⟩
  | k + 6, h => omega
theorem expression (ns : List Int) {n : Nat} (hn : n ≤ 1000) {zs : List Int} (z : Sizes n zs) (d : Nat) : ∀ (m : Nat) {l k : Nat} {h : AH}, Tk k h l → k + 4 * 3 ^ d < 1000000000 →
    ∃ e h', Ex n d e ∧ callF gc ns (m+d+2) 25 [.loc l, tI zs, .int d] h = .ok e h' ∧ Tk (k + 4 * 3 ^ d) h' l ∧ Fr [l] h h' := by
  induction d with
  | zero =>
    intro m l k h t hk
    rw [callF_loc h (d := d25) rfl rfl rfl]
    obtain ⟨a, h1, a1, a2, e1, t1, f1, _⟩ := take ns m (many := 3) (by decide) (by decide) t (by omega)
    have ne := ne_sizes z h1
    by_cases hc : a < 2 ∧ zs ≠ []
    · have hp : 0 < zs.length := by
        cases zs with
        | nil => exact absurd rfl hc.2
        | cons _ _ => simp
      have hl := z.len
      obtain ⟨b, h2, b1, b2, e2, t2, f2, _⟩ := take ns m (many := (zs.length : Nat)) (by omega) (by omega) t1 (by omega)
      refine ⟨.tup [.str "cell", .int b], h2, .cell b1 (by omega), ?_, t2.mono (by omega), f1.trans f2⟩
      simp [runBody, d25, startA, ss_cons', callW, e1, ne, hc.1, hc.2, e2, szOk]
    · obtain ⟨b, h2, b1, b2, e2, t2, f2, _⟩ := take ns m (many := 4) (by decide) (by decide) t1 (by omega)
      refine ⟨.tup [.str "value", .int b], h2, .val b1 b2, ?_, t2.mono (by omega), f1.trans f2⟩
      by_cases h2 : a < 2
      · have : zs = [] := Classical.byContradiction fun z => hc ⟨h2, z⟩
        subst this
        simp [runBody, d25, startA, ss_cons', callW, e1, ne, h2, a2, e2, szOk]
      · simp [runBody, d25, startA, ss_cons', callW, e1, ne, h2, a2, e2, szOk]
  | succ d ih =>
    intro m l k h t hk
    rw [show m + (d + 1) + 2 = (m + d + 2) + 1 by omega, callF_loc h (d := d25) rfl rfl rfl]
    have pw : 3 ^ (d + 1) = 3 ^ d * 3 := Nat.pow_succ ..
    have p0 : 1 ≤ 3 ^ d := Nat.one_le_pow _ _ (by decide)
    obtain ⟨a, h1, a1, a2, e1, t1, f1, _⟩ := take ns (m + d + 1) (many := 8) (by decide) (by decide) t (by omega)
    have e1 : callF gc ns (m + d + 2) 21 [.loc l, .int 8] h = .ok (.int a) h1 := e1
    have ne := ne_sizes z h1
    have gd : (0 : Int) < (d : Int) + 1 := by omega
    by_cases hc : a < 2 ∧ zs ≠ []
    · have hp : 0 < zs.length := by
        cases zs with
        | nil => exact absurd rfl hc.2
        | cons _ _ => simp
      have hl := z.len
      obtain ⟨b, h2, b1, b2, e2, t2, f2, _⟩ := take ns (m + d + 1) (many := (zs.length : Nat)) (by omega) (by omega) t1 (by omega)
      have e2 : callF gc ns (m + d + 2) 21 [.loc l, .int (zs.length : Nat)] h1 = .ok (.int b) h2 := e2
      refine ⟨.tup [.str "cell", .int b], h2, .cell b1 (by omega), ?_, t2.mono (by omega), f1.trans f2⟩
      simp [runBody, d25, startA, ss_cons', callW, gd, e1, ne, hc.1, hc.2, e2, szOk]
    · by_cases h3 : a < 3
      · obtain ⟨b, h2, b1, b2, e2, t2, f2, _⟩ := take ns (m + d + 1) (many := 4) (by decide) (by decide) t1 (by omega)
        have e2 : callF gc ns (m + d + 2) 21 [.loc l, .int 4] h1 = .ok (.int b) h2 := e2
        refine ⟨.tup [.str "value", .int b], h2, .val b1 b2, ?_, t2.mono (by omega), f1.trans f2⟩
        by_cases h2 : a < 2
        · have : zs = [] := Classical.byContradiction fun z => hc ⟨h2, z⟩
          subst this
          simp [runBody, d25, startA, ss_cons', callW, gd, e1, ne, h2, h3, e2, szOk]
        · simp [runBody, d25, startA, ss_cons', callW, gd, e1, ne, h2, h3, e2, szOk]
      · have h2n : ¬ a < 2 := by omega
        have t1' : Tk (k + 1) (h1 ++ [O.lst [W.str "plus", .str "minus", .str "least", .str "greatest", .str "equal", .str "less"]]) l := t1.fr (S := []) Fr.app (by simp)
        obtain ⟨b, h2, b1, b2, e2, t2, f2, len2⟩ := take ns (m + d + 1) (many := 6) (by decide) (by decide) t1' (by omega)
        have lt1 := t1.lt
        have wl : h2[h1.length]? = some (O.lst [W.str "plus", .str "minus", .str "least", .str "greatest", .str "equal", .str "less"]) := f2.get (by simp) (by simp; omega)
        obtain ⟨w, w1, w2⟩ := mem_words b1 b2
        obtain ⟨x, h3', x1, x2, x3, x4⟩ := ih m t2 (by omega)
        obtain ⟨y, h4, y1, y2, y3, y4⟩ := ih m x3 (by omega)
        refine ⟨.tup [.str w, x, y], h4, .two w1 x1 y1, ?_, y3.mono (by omega), f1.trans (((f2.drop (S := [l]) fun i hi => .inl hi).trans x4).trans y4)⟩
        have sb : (d : Int) + 1 - 1 = d := by omega
        have e2 : callF gc ns (m + d + 2) 21 [.loc l, .int 6] (h1 ++ [O.lst [W.str "plus", .str "minus", .str "least", .str "greatest", .str "equal", .str "less"]]) = .ok (.int b) h2 := e2
        simp [runBody, d25, startA, ss_cons', callW, gd, e1, ne, h2n, h3, szOk, e2, rd_lst _ _ wl w2, sb, x2, y2]
/-- the statements that are drawn -/
theorem statements (ns : List Int) {n : Nat} (hn : n ≤ 1000) {zs : List Int} (z : Sizes n zs) (d : Nat) : ∀ (m : Nat) {l k : Nat} {h : AH}, Tk k h l → k + 200 * 5 ^ d < 100000000 →
    ∃ ss h', Sts n d ss ∧ ss.length ≤ 2 ∧ callF gc ns (m+d+6) 26 [.loc l, tI zs, .int d] h = .ok (.tup ss) h' ∧ Tk (k + 200 * 5 ^ d) h' l ∧ Fr [l] h h' := by
  induction d with
  | zero =>
    intro m l k h t hk
    rw [callF_loc h (d := d26) rfl rfl rfl]
    have t0 : Tk k (h ++ [O.lst []]) l := t.fr (S := []) Fr.app (by simp)
    have lt := t.lt
    obtain ⟨a, h1, a1, a2, e1, t1, f1, len1⟩ := take ns (m + 4) (many := 3) (by decide) (by decide) t0 (by omega)
    have rl : (rngW 0 a).length ≤ 2 := by rw [rngW_len]; omega
    have ro := rng_ok a1 (by omega : a ≤ 1000000)
    obtain ⟨σ', h', lp, x, y, ss, s1, s2, s3, s4, s5, rfl⟩ := forLoop_inv (f := forF ⟨gc, ns, callF gc ns (m + 5)⟩ (.nm 4) [.iff (.and [.val (.cmp .gt (.var 2) (.con (.int 0))), .val (.cmp .eq (.call 21 [.var 0, .con (.int 3)] [] []) (.con (.int 0)))]) [.asg (.nm 5) (.call 25 [.var 0, .var 1, .con (.int 1)] [] []), .ex (.bm .append (.var 3) [.tup [.con (.str "if"), .var 5, .call 26 [.var 0, .var 1, .bin .sub (.var 2) (.con (.int 1))] [] [], .call 26 [.var 0, .var 1, .bin .sub (.var 2) (.con (.int 1))] [] []]])] [.iff (.val (.cmp .ne (.var 1) (.tup []))) [.ex (.bm .append (.var 3) [.tup [.con (.str "set"), .call 21 [.var 0, .prim .len [.var 1]] [] [], .call 25 [.var 0, .var 1, .con (.int 2)] [] []]])] []]]) (held := [])
      (fun i σ g => ∃ x y ss, Sts n 0 ss ∧ ss.length ≤ i ∧ g[h.length]? = some (.lst ss) ∧ Tk (k + 1 + 99 * i) g l ∧ Fr [h.length, l] (h ++ [O.lst []]) g ∧ σ = [some (.loc l), some (tI zs), some (.int 0), some (.loc h.length), x, y])
      (rngW 0 a) 0 (fun i hi σ g ⟨x, y, ss, s1, s2, s3, s4, s5, e⟩ => by
        subst e
        obtain ⟨j, ej, _⟩ := rngW_mem (List.getElem_mem hi)
        rw [ej]
        rw [Nat.zero_add] at s2 s4
        have hi2 : i < 2 := by omega
        have ne := ne_sizes z g
        by_cases hz : zs = []
        · subst hz
          refine ⟨[some (.loc l), some (tI []), some (.int 0), some (.loc h.length), some (.int j), y], g, .inl ?_, _, _, ss, s1, by omega, s3, s4.mono (by omega), s5, rfl⟩
          unfold forF
          simp [ne, szOk]
        · have hp : 0 < zs.length := by
            cases zs with
            | nil => exact absurd rfl hz
            | cons _ _ => simp
          have hl := z.len
          obtain ⟨b, g1, b1, b2, e2, t2, f2, _⟩ := take ns (m + 4) (many := (zs.length : Nat)) (by omega) (by omega) s4 (by omega)
          obtain ⟨x1, g2, x2, x3, x4, x5⟩ := expression ns hn z 2 (m + 1) t2 (by omega)
          have fq := f2.trans x5
          have hg : g2[h.length]? = some (.lst ss) := fq.get s3 (by simp; omega)
          have x3 : callF gc ns (m + 5) 25 [.loc l, tI zs, .int 2] g1 = .ok x1 g2 := x3
          refine ⟨[some (.loc l), some (tI zs), some (.int 0), some (.loc h.length), some (.int j), y], g2.set h.length (.lst (ss ++ [.tup [.str "set", .int b, x1]])), .inl ?_, _, _, ss ++ [.tup [.str "set", .int b, x1]], ?_, by simp; omega, by simp [(List.getElem?_eq_some_iff.mp hg).1], (x4.fr (S := [h.length]) (Fr.set (by simp)) (by simp; omega)).mono (by omega), s5.trans ((fq.mono (by simp)).trans (Fr.set (by simp))), rfl⟩
          · unfold forF
            simp [ne, hz, bmt_lst (.inl rfl) s3, callW, e2, x3, szOk, app_lst hg (by omega)]
          · have key : ∀ {ss : List W}, Sts n 0 ss → Sts n 0 (ss ++ [.tup [.str "set", .int b, x1]]) := fun {ss} s => by
              clear s1 s2 s3 s4 s5 hg x3
              generalize hd : (0 : Nat) = d at s ⊢
              induction s with
              | nil => exact .set b1 (by omega) x2 .nil
              | set q1 q2 q3 _ ih => exact .set q1 q2 q3 (ih hd)
              | ifs _ _ _ _ _ _ _ _ _ => cases hd
            exact key s1) (fun _ _ _ _ => rfl) [some (.loc l), some (tI zs), some (.int 0), some (.loc h.length), none, none] h1
      ⟨none, none, [], .nil, by simp, f1.get (by simp) (by simp; omega), t1, f1.mono (by simp), rfl⟩
    refine ⟨ss, h', s1, by omega, ?_, s4.mono (by omega), (s5.drop fun i hi => ?_)⟩
    · simp only [runBody, d26, startA]
      rw [ss_cons']
      simp [szOk]
      rw [ss_cons']
      simp [callW, e1, ro, lp, tup_lst s3]
    · simp only [List.mem_cons, List.not_mem_nil, or_false] at hi
      rcases hi with rfl | rfl
      · exact .inr (Nat.le_refl _)
      · exact .inl (by simp)
  | succ d ih =>
    intro m l k h t hk
    rw [show m + (d + 1) + 6 = (m + d + 6) + 1 by omega, callF_loc h (d := d26) rfl rfl rfl]
    have t0 : Tk k (h ++ [O.lst []]) l := t.fr (S := []) Fr.app (by simp)
    have lt := t.lt
    have pw : 5 ^ (d + 1) = 5 ^ d * 5 := Nat.pow_succ ..
    have p0 : 1 ≤ 5 ^ d := Nat.one_le_pow _ _ (by decide)
    obtain ⟨a, h1, a1, a2, e1, t1, f1, len1⟩ := take ns (m + d + 5) (many := 3) (by decide) (by decide) t0 (by omega)
    have rl : (rngW 0 a).length ≤ 2 := by rw [rngW_len]; omega
    have ro := rng_ok a1 (by omega : a ≤ 1000000)
    have gd : (0 : Int) < (d : Int) + 1 := by omega
    have sb : (d : Int) + 1 - 1 = d := by omega
    have snoc : ∀ {ss : List W} (w : W), Sts n (d + 1) [w] → Sts n (d + 1) ss → Sts n (d + 1) (ss ++ [w]) := fun {ss} w sw s => by
      generalize hd : d + 1 = e at s sw ⊢
      induction s with
      | nil => exact sw
      | set q1 q2 q3 _ ih => exact .set q1 q2 q3 (ih hd sw)
      | ifs q1 q2 q3 q4 q5 _ _ _ ih => exact .ifs q1 q2 q3 q4 q5 (ih hd sw)
    obtain ⟨σ', h', lp, x, y, ss, s1, s2, s3, s4, s5, rfl⟩ := forLoop_inv (f := forF ⟨gc, ns, callF gc ns (m + d + 6)⟩ (.nm 4) [.iff (.and [.val (.cmp .gt (.var 2) (.con (.int 0))), .val (.cmp .eq (.call 21 [.var 0, .con (.int 3)] [] []) (.con (.int 0)))]) [.asg (.nm 5) (.call 25 [.var 0, .var 1, .con (.int 1)] [] []), .ex (.bm .append (.var 3) [.tup [.con (.str "if"), .var 5, .call 26 [.var 0, .var 1, .bin .sub (.var 2) (.con (.int 1))] [] [], .call 26 [.var 0, .var 1, .bin .sub (.var 2) (.con (.int 1))] [] []]])] [.iff (.val (.cmp .ne (.var 1) (.tup []))) [.ex (.bm .append (.var 3) [.tup [.con (.str "set"), .call 21 [.var 0, .prim .len [.var 1]] [] [], .call 25 [.var 0, .var 1, .con (.int 2)] [] []]])] []]]) (held := [])
      (fun i σ g => ∃ x y ss, Sts n (d + 1) ss ∧ ss.length ≤ i ∧ g[h.length]? = some (.lst ss) ∧ Tk (k + 1 + 495 * 5 ^ d * i) g l ∧ Fr [h.length, l] (h ++ [O.lst []]) g ∧ σ = [some (.loc l), some (tI zs), some (.int ((d : Int) + 1)), some (.loc h.length), x, y])
      (rngW 0 a) 0 (fun i hi σ g ⟨x, y, ss, s1, s2, s3, s4, s5, e⟩ => by
        subst e
        obtain ⟨j, ej, _⟩ := rngW_mem (List.getElem_mem hi)
        rw [ej]
        rw [Nat.zero_add] at s2 s4
        have hi2 : i < 2 := by omega
        have hm : 495 * 5 ^ d * i ≤ 495 * 5 ^ d * 1 := Nat.mul_le_mul_left _ (by omega)
        have hs : 495 * 5 ^ d * (0 + i + 1) = 495 * 5 ^ d * i + 495 * 5 ^ d := by rw [Nat.zero_add, Nat.mul_add, Nat.mul_one]
        obtain ⟨c, g0, c1, c2, ec, tc, fc, _⟩ := take ns (m + d + 5) (many := 3) (by decide) (by decide) s4 (by omega)
        have s30 : g0[h.length]? = some (.lst ss) := fc.get s3 (by simp; omega)
        have ne := ne_sizes z g0
        have ec : callF gc ns (m + d + 6) 21 [.loc l, .int 3] g = .ok (.int c) g0 := ec
        by_cases hc0 : c = 0
        · subst hc0
          obtain ⟨x1, g1, x2, x3, x4, x5⟩ := expression ns hn z 1 (m + d + 3) tc (by omega)
          obtain ⟨sa, g2, q1, q2, q3, q4, q5⟩ := ih m x4 (by omega)
          obtain ⟨sb', g3, r1, r2, r3, r4, r5⟩ := ih m q4 (by omega)
          have fq := (fc.trans x5).trans (q5.trans r5)
          have fq1 : g1[h.length]? = some (.lst ss) := (fc.trans x5).get s3 (by simp; omega)
          have hg : g3[h.length]? = some (.lst ss) := fq.get s3 (by simp; omega)
          have x3 : callF gc ns (m + d + 6) 25 [.loc l, tI zs, .int 1] g0 = .ok x1 g1 := x3
          have e31 : 4 * 3 ^ 1 = 12 := by decide
          refine ⟨[some (.loc l), some (tI zs), some (.int ((d : Int) + 1)), some (.loc h.length), some (.int j), some x1], g3.set h.length (.lst (ss ++ [.tup [.str "if", x1, .tup sa, .tup sb']])), .inl ?_, _, _, ss ++ [.tup [.str "if", x1, .tup sa, .tup sb']], snoc _ (.ifs x2.up q2 r2 q1 r1 .nil) s1, by simp; omega, by simp [(List.getElem?_eq_some_iff.mp hg).1], (r4.fr (S := [h.length]) (Fr.set (by simp)) (by simp; omega)).mono (by omega), s5.trans ((fq.mono (by simp)).trans (Fr.set (by simp))), rfl⟩
          unfold forF
          simp [gd, callW, ec, ss_cons', x3, bmt_lst (.inl rfl) fq1, sb, q3, r3, szOk, app_lst hg (by omega)]
        · by_cases hz : zs = []
          · subst hz
            refine ⟨[some (.loc l), some (tI []), some (.int ((d : Int) + 1)), some (.loc h.length), some (.int j), y], g0, .inl ?_, _, _, ss, s1, by omega, s30, tc.mono (by omega), s5.trans (fc.mono (by simp)), rfl⟩
            unfold forF
            simp [gd, callW, ec, hc0, ne, szOk]
          · have hp : 0 < zs.length := by
              cases zs with
              | nil => exact absurd rfl hz
              | cons _ _ => simp
            have hl := z.len
            obtain ⟨b, g1, b1, b2, e2, t2, f2, _⟩ := take ns (m + d + 5) (many := (zs.length : Nat)) (by omega) (by omega) tc (by omega)
            obtain ⟨x1, g2, x2, x3, x4, x5⟩ := expression ns hn z 2 (m + d + 2) t2 (by omega)
            have fq := fc.trans (f2.trans x5)
            have hg : g2[h.length]? = some (.lst ss) := fq.get s3 (by simp; omega)
            have x3 : callF gc ns (m + d + 6) 25 [.loc l, tI zs, .int 2] g1 = .ok x1 g2 := x3
            have e32 : 4 * 3 ^ 2 = 36 := by decide
            refine ⟨[some (.loc l), some (tI zs), some (.int ((d : Int) + 1)), some (.loc h.length), some (.int j), y], g2.set h.length (.lst (ss ++ [.tup [.str "set", .int b, x1]])), .inl ?_, _, _, ss ++ [.tup [.str "set", .int b, x1]], snoc _ (.set b1 (by omega) x2 .nil) s1, by simp; omega, by simp [(List.getElem?_eq_some_iff.mp hg).1], (x4.fr (S := [h.length]) (Fr.set (by simp)) (by simp; omega)).mono (by omega), s5.trans ((fq.mono (by simp)).trans (Fr.set (by simp))), rfl⟩
            unfold forF
            simp [gd, callW, ec, hc0, ne, hz, bmt_lst (.inl rfl) s30, e2, x3, szOk, app_lst hg (by omega)]) (fun _ _ _ _ => rfl) [some (.loc l), some (tI zs), some (.int ((d : Int) + 1)), some (.loc h.length), none, none] h1
      ⟨none, none, [], .nil, by simp, f1.get (by simp) (by simp; omega), t1, f1.mono (by simp), rfl⟩
    have hm : 495 * 5 ^ d * (0 + (rngW 0 a).length) ≤ 495 * 5 ^ d * 2 := Nat.mul_le_mul_left _ (by omega)
    refine ⟨ss, h', s1, by omega, ?_, s4.mono (by omega), (s5.drop fun i hi => ?_)⟩
    · simp only [runBody, d26, startA]
      rw [ss_cons']
      simp [szOk]
      rw [ss_cons']
      have e1 : callF gc ns (m + d + 6) 21 [.loc l, .int 3] (h ++ [O.lst []]) = .ok (.int a) h1 := e1
      have lp : forLoop (forF ⟨gc, ns, callF gc ns (m + d + 6)⟩ (.nm 4) [.iff (.and [.val (.cmp .gt (.var 2) (.con (.int 0))), .val (.cmp .eq (.call 21 [.var 0, .con (.int 3)] [] []) (.con (.int 0)))]) [.asg (.nm 5) (.call 25 [.var 0, .var 1, .con (.int 1)] [] []), .ex (.bm .append (.var 3) [.tup [.con (.str "if"), .var 5, .call 26 [.var 0, .var 1, .bin .sub (.var 2) (.con (.int 1))] [] [], .call 26 [.var 0, .var 1, .bin .sub (.var 2) (.con (.int 1))] [] []]])] [.iff (.val (.cmp .ne (.var 1) (.tup []))) [.ex (.bm .append (.var 3) [.tup [.con (.str "set"), .call 21 [.var 0, .prim .len [.var 1]] [] [], .call 25 [.var 0, .var 1, .con (.int 2)] [] []]])] []]]) [] (rngW 0 a) [some (.loc l), some (tI zs), some (.int ((d : Int) + 1)), some (.loc h.length), none, none] h1 = _ := lp
      simp [callW, e1, ro, lp, tup_lst s3]
    · simp only [List.mem_cons, List.not_mem_nil, or_false] at hi
      rcases hi with rfl | rfl
      · exact .inr (Nat.le_refl _)
      · exact .inl (by simp)
end Law
namespace Law
open PySem AM
theorem ints_ofW {P : Int → Prop} : ∀ {ws : List W}, (∀ w ∈ ws, ∃ i, w = .int i ∧ P i) → ∃ is : List Int, ws = is.map .int ∧ ∀ i ∈ is, P i
  | [], _ => ⟨[], rfl, fun _ z => nomatch z⟩
  | w :: ws, h => by
    obtain ⟨i, rfl, p⟩ := h w List.mem_cons_self
    obtain ⟨is, e, q⟩ := ints_ofW fun w' hw => h w' (List.mem_cons_of_mem _ hw)
    exact ⟨i :: is, by rw [e]; rfl, fun j hj => by
      rcases List.mem_cons.mp hj with rfl | hj
      · exact p
      · exact q j hj⟩
theorem tups_ofW {P : List W → Prop} : ∀ {ws : List W}, (∀ w ∈ ws, ∃ ss, w = .tup ss ∧ P ss) → ∃ us : List (List W), ws = us.map .tup ∧ ∀ ss ∈ us, P ss
  | [], _ => ⟨[], rfl, fun _ z => nomatch z⟩
  | w :: ws, h => by
    obtain ⟨i, rfl, p⟩ := h w List.mem_cons_self
    obtain ⟨is, e, q⟩ := tups_ofW fun w' hw => h w' (List.mem_cons_of_mem _ hw)
    exact ⟨i :: is, by rw [e]; rfl, fun j hj => by
      rcases List.mem_cons.mp hj with rfl | hj
      · exact p
      · exact q j hj⟩
theorem program (ns : List Int) (m : Nat) {ev : Int} (h1 : 1 ≤ ev) (h3 : ev ≤ 3) {l k : Nat} {h : AH} (t : Tk k h l) (hk : k < 1000000) :
    ∃ n zs steps res h', Prog n ev zs steps res ∧ callF gc ns (m+10) 27 [.loc l, .int ev] h = .ok (progW ev zs steps res) h' ∧ Tk (k + 20000) h' l ∧ Fr [l] h h' := by
  rw [callF_loc h (d := d27) rfl rfl rfl]
  obtain ⟨a, g1, a1, a2, e1, t1, f1, _⟩ := take ns (m + 8) (many := 4) (by decide) (by decide) t (by omega)
  have ro := rng_ok a1 (by omega : a ≤ 1000000)
  have rl : (rngW 0 a).length = a.toNat := rngW_len
  obtain ⟨ys, g2, e2, ⟨t2, f2⟩, l2, p2⟩ := comp_idx ⟨gc, ns, callF gc ns (m + 9)⟩ (fun i g => Tk (k + 1 + i) g l ∧ Fr [l] g1 g) (fun y => ∃ i : Int, y = .int i ∧ 1 ≤ i ∧ i ≤ 3) (own := [("cell", 4)]) (i := 4) (it := .rng [.call 21 [.var 0, .con (.int 4)] [] []]) (elt := .bin .add (.con (.int 1)) (.call 21 [.var 0, .con (.int 3)] [] []))
    (σ := [some (.loc l), some (.int ev), none, none, none, none]) (h := h) (h1 := g1) (src := ⟨rngW 0 a, []⟩) (by simp [callW, e1, ro]) ⟨t1, Fr.refl⟩ (fun _ _ _ => rfl) (by simp only [rl]; omega) (fun j hj g ⟨tg, fg⟩ => by
      simp only [rl] at hj
      obtain ⟨b, g', b1, b2, b3, b4, b5, _⟩ := take ns (m + 8) (many := 3) (by decide) (by decide) tg (by omega)
      exact ⟨.int (1 + b), g', by simp [wipeA, callW, b3], ⟨b4.mono (by omega), fg.trans b5⟩, _, rfl, by omega, by omega⟩)
  obtain ⟨zs, rfl, hz⟩ := ints_ofW p2
  simp only [rl] at l2 t2
  have lz : zs.length = a.toNat := by simpa using l2
  have z : Sizes zs.length zs := ⟨rfl, hz⟩
  have re := rng_ok (show 0 ≤ ev by omega) (by omega : ev ≤ 1000000)
  have rl2 : (rngW 0 ev).length = ev.toNat := rngW_len
  obtain ⟨us, g3, e3, ⟨t3, f3⟩, l3, p3⟩ := comp_idx ⟨gc, ns, callF gc ns (m + 9)⟩ (fun i g => Tk (k + 4 + 5000 * i) g l ∧ Fr [l] g2 g) (fun y => ∃ ss, y = .tup ss ∧ (Sts zs.length 2 ss ∧ ss.length ≤ 2)) (own := [("event", 5)]) (i := 5) (it := .rng [.var 1]) (elt := .call 26 [.var 0, .var 2, .con (.int 2)] [] [])
    (σ := [some (.loc l), some (.int ev), some (tI zs), none, none, none]) (h := g2) (h1 := g2) (src := ⟨rngW 0 ev, []⟩) (by simp [re]) ⟨t2.mono (by omega), Fr.refl⟩ (fun _ _ _ => rfl) (by simp only [rl2]; omega) (fun j hj g ⟨tg, fg⟩ => by
      simp only [rl2] at hj
      have e25 : 200 * 5 ^ 2 = 5000 := by decide
      obtain ⟨ss, g', s1, s2, s3, s4, s5⟩ := statements ns (by omega) z 2 (m + 1) tg (by omega)
      have s3 : callF gc ns (m + 9) 26 [.loc l, tI zs, .int 2] g = .ok (.tup ss) g' := s3
      exact ⟨.tup ss, g', by simp [wipeA, callW, s3], ⟨s4.mono (by omega), fg.trans s5⟩, ss, rfl, s1, s2⟩)
  obtain ⟨steps, rfl, hs⟩ := tups_ofW p3
  simp only [rl2] at l3 t3
  have e43 : 4 * 3 ^ 2 = 36 := by decide
  obtain ⟨x, g4, x1, x2, x3, x4⟩ := expression ns (by omega) z 2 (m + 5) t3 (by omega)
  have x2 : callF gc ns (m + 9) 25 [.loc l, tI zs, .int 2] g3 = .ok x g4 := x2
  refine ⟨zs.length, zs, steps, x, g4, ⟨h1, h3, by omega, z, ?_, hs, x1⟩, ?_, x3.mono (by omega), f1.trans (f2.trans (f3.trans x4))⟩
  · have : steps.length = ev.toNat := by simpa using l3
    omega
  · simp only [runBody, d27, startA]
    rw [ss_cons']
    simp [e2]
    rw [ss_cons']
    simp [e3]
    simp [callW, x2, szOk, progW]
/-! ### logs -/
def LogW (ev : Int) (b : Nat) (w : W) : Prop := ∃ es : List Int, w = tI es ∧ es.length ≤ b ∧ ∀ e ∈ es, 0 ≤ e ∧ e < ev
theorem LogW.mono {ev : Int} {b c : Nat} {w : W} (l : LogW ev b w) (h : b ≤ c) : LogW ev c w := by
  obtain ⟨es, e, h1, h2⟩ := l
  exact ⟨es, e, by omega, h2⟩
theorem logs_inner (ns : List Int) (m : Nat) {ev : Int} (h1 : 1 ≤ ev) (h3 : ev ≤ 3) (A : List W) (a c b : Nat) (σ3 σ4 : Option W) (hb : b ≤ 100) (hA : ∀ w ∈ A, LogW ev b w) (g : AH) (x y z : Option W) (ha : g[a]? = some (.lst A)) (hc : g[c]? = some (.lst [])) (hca : c ≠ a) (hl : A.length ≤ 1000) :
    ∃ g' x' y' C, forLoop (forF ⟨gc, ns, callF gc ns m⟩ (.nm 6) [.ex (.bmc .extend (.var 5) (.comp [("event", 7)] (.nm 7) (.rng [.var 0]) [] (.bin .add (.var 6) (.tup [.var 7]))))]) [(a, A)] A [some (.int ev), some (.int 3), z, σ3, σ4, some (.loc c), x, y] g = .next [some (.int ev), some (.int 3), z, σ3, σ4, some (.loc c), x', y'] g' ∧ g'[c]? = some (.lst C) ∧ (∀ w ∈ C, LogW ev (b + 1) w) ∧ C.length ≤ 3 * A.length ∧ Fr [c] g g' := by
  have re := rng_ok (show 0 ≤ ev by omega) (by omega : ev ≤ 1000000)
  have rl2 : (rngW 0 ev).length = ev.toNat := rngW_len
  obtain ⟨σ', h', lp, x', y', C, i1, i2, i3, i4, rfl⟩ := forLoop_inv (f := forF ⟨gc, ns, callF gc ns m⟩ (.nm 6) [.ex (.bmc .extend (.var 5) (.comp [("event", 7)] (.nm 7) (.rng [.var 0]) [] (.bin .add (.var 6) (.tup [.var 7]))))]) (held := [(a, A)])
      (fun i σ k => ∃ x y C, k[c]? = some (.lst C) ∧ (∀ w ∈ C, LogW ev (b + 1) w) ∧ C.length ≤ 3 * i ∧ Fr [c] g k ∧ σ = [some (.int ev), some (.int 3), z, σ3, σ4, some (.loc c), x, y]) A 0 (fun i hi σ k ⟨x, y, C, i1, i2, i3, i4, e⟩ => by
        subst e
        rw [Nat.zero_add] at i3
        obtain ⟨es, ew, hz, he⟩ := hA _ (List.getElem_mem hi)
        rw [ew]
        obtain ⟨ys, k2, e2, rfl, l2, p2⟩ := comp_okN ⟨gc, ns, callF gc ns m⟩ (fun k' => k' = k) (LogW ev (b + 1)) (own := [("event", 7)]) (i := 7) (it := .rng [.var 0]) (elt := .bin .add (.var 6) (.tup [.var 7]))
          (σ := [some (.int ev), some (.int 3), z, σ3, σ4, some (.loc c), some (tI es), y]) (h := k) (h1 := k) (src := ⟨rngW 0 ev, []⟩) (by simp [re]) rfl (fun _ _ => rfl) (by simp only [rl2]; omega) (fun w hw k' hk => by
            subst hk
            obtain ⟨j, rfl, hj⟩ := rngW_mem hw
            refine ⟨tI (es ++ [(j : Int)]), k', ?_, rfl, es ++ [(j : Int)], rfl, by simp; omega, fun e he' => ?_⟩
            · have : binW .add (tI es) (.tup [.int (j : Int)]) k' = .ok (tI (es ++ [(j : Int)])) k' := by
                rw [add_tup _ _ (by simp; omega)]
                simp
              simp [wipeA, szOk, this]
            · rcases List.mem_append.mp he' with q | q
              · exact he e q
              · simp only [List.mem_cons, List.not_mem_nil, or_false] at q
                subst q
                omega)
        simp only [rl2] at l2
        refine ⟨[some (.int ev), some (.int 3), z, σ3, σ4, some (.loc c), some (tI es), y], k2.set c (.lst (C ++ ys)), .inl ?_, _, _, C ++ ys, by simp [(List.getElem?_eq_some_iff.mp i1).1], fun w hw => ?_, by simp; omega, i4.trans (Fr.set (by simp)), rfl⟩
        · unfold forF
          simp [bmt_lst (.inr (.inl rfl)) i1, e2, ext_lst i1 (show C.length + ys.length ≤ 1000000 by omega)]
        · rcases List.mem_append.mp hw with q | q
          · exact i2 w q
          · exact p2 w q) (fun i σ k ⟨x, y, C, i1, i2, i3, i4, e⟩ => by
        have := i4.get ha (by simp; omega)
        simp [heldOk, this]) _ g ⟨x, y, [], hc, (fun _ z => nomatch z), by simp, Fr.refl, rfl⟩
  exact ⟨h', x', y', C, lp, i1, i2, by omega, i4⟩
theorem logs_ok (ns : List Int) (m : Nat) {ev : Int} (h1 : 1 ≤ ev) (h3 : ev ≤ 3) (h : AH) : ∃ L : List W, (∀ w ∈ L, LogW ev 3 w) ∧ L.length ≤ 1000 ∧ callF gc ns (m+1) 24 [.int ev, .int 3] h = .ok (.loc h.length) (h ++ [.lst L]) := by
  obtain ⟨σ', h', lp, a, b, A, B, x, y, z, w, i1, i2, i3, i4, i5, i6, i7, rfl⟩ := forLoop_inv (f := forF ⟨gc, ns, callF gc ns m⟩ (.nm 2) [.asg (.nm 5) (.lst []), .for_ (.nm 6) (.over (.var 3)) [.ex (.bmc .extend (.var 5) (.comp [("event", 7)] (.nm 7) (.rng [.var 0]) [] (.bin .add (.var 6) (.tup [.var 7]))))], .asg (.nm 3) (.var 5), .ex (.bm .extend (.var 4) [.var 3])]) (held := [])
    (fun i σ k => ∃ a b A B x y z w, a ≠ b ∧ k[a]? = some (.lst A) ∧ k[b]? = some (.lst B) ∧ (∀ w ∈ A, LogW ev i w) ∧ (∀ w ∈ B, LogW ev i w) ∧ A.length ≤ 3 ^ i ∧ B.length ≤ 3 ^ (i + 1) ∧ σ = [some (.int ev), some (.int 3), x, some (.loc a), some (.loc b), y, z, w])
    (rngW 0 3) 0 (fun i hi σ k ⟨a, b, A, B, x, y, z, w, i1, i2, i3, i4, i5, i6, i7, e⟩ => by
      subst e
      simp only [Nat.zero_add] at i4 i5 i6 i7
      have hi3 : i < 3 := by
        have : (rngW 0 3).length = 3 := rfl
        omega
      obtain ⟨j, ej, _⟩ := rngW_mem (List.getElem_mem hi)
      rw [ej]
      have la := (List.getElem?_eq_some_iff.mp i2).1
      have lb := (List.getElem?_eq_some_iff.mp i3).1
      have p9 : 3 ^ i ≤ 3 ^ 3 := Nat.pow_le_pow_right (by decide) (by omega)
      have p27 : 3 ^ 3 = 27 := by decide
      have pw : 3 ^ (i + 1) = 3 ^ i * 3 := Nat.pow_succ ..
      have pw2 : 3 ^ (i + 1 + 1) = 3 ^ (i + 1) * 3 := Nat.pow_succ ..
      have ka : (k ++ [O.lst []])[a]? = some (.lst A) := by rw [List.getElem?_append_left la]; exact i2
      have kb : (k ++ [O.lst []])[b]? = some (.lst B) := by rw [List.getElem?_append_left lb]; exact i3
      obtain ⟨g', x', y', C, f1, f2, f3, f4, f5⟩ := logs_inner ns m h1 h3 A a k.length i (some (.loc a)) (some (.loc b)) (by omega) i4 (k ++ [O.lst []]) z w (some (.int j)) ka (by simp) (by omega) (by omega)
      have gb : g'[b]? = some (.lst B) := f5.get kb (by simp; omega)
      refine ⟨[some (.int ev), some (.int 3), some (.int j), some (.loc k.length), some (.loc b), some (.loc k.length), x', y'], g'.set b (.lst (B ++ C)), .inl ?_, k.length, b, C, B ++ C, _, _, _, _, by omega, ?_, by simp [(List.getElem?_eq_some_iff.mp gb).1], ?_, ?_, ?_, ?_, rfl⟩
      · unfold forF
        simp [szOk, ss_cons', overW, ka, f1, bmt_lst (.inr (.inl rfl)) gb, ext_loc gb f2 (by omega)]
      · rw [List.getElem?_set_ne (by omega)]
        exact f2
      · simpa using f3
      · intro w hw
        simp only [Nat.zero_add]
        rcases List.mem_append.mp hw with q | q
        · exact (i5 w q).mono (by omega)
        · exact f3 w q
      · simp only [Nat.zero_add]
        omega
      · simp only [Nat.zero_add, List.length_append]
        omega) (fun _ _ _ _ => rfl) [some (.int ev), some (.int 3), none, some (.loc 0), some (.loc 1), none, none, none] [.lst [.tup []], .lst [.tup []]]
    ⟨0, 1, [.tup []], [.tup []], none, none, none, none, by decide, rfl, rfl, fun w hw => ⟨[], (List.mem_singleton.mp hw).trans rfl, by simp, fun _ z => nomatch z⟩, fun w hw => ⟨[], (List.mem_singleton.mp hw).trans rfl, by simp, fun _ z => nomatch z⟩, by decide, by decide, rfl⟩
  have r3 : (rngW 0 3).length = 3 := rfl
  simp only [r3, Nat.zero_add] at i4 i5 i6 i7
  have run : runBody ⟨gc, ns, callF gc ns m⟩ d24 [.int ev, .int 3] [] = .ok (.loc b) h' := by
    simp only [runBody, d24, startA]
    rw [ss_cons']
    simp [szOk]
    rw [ss_cons']
    have ro : rngOk 3 = true := by decide
    simp [ro, lp]
  refine ⟨B, i5, ?_, callF_list h (d := d24) rfl rfl rfl run i3 (flats_of fun w hw => ?_)⟩
  · have : 3 ^ (3 + 1) = 81 := by decide
    omega
  · obtain ⟨es, rfl, _⟩ := i5 w hw
    simp [W.flat, flats_int]
/-! ### the law -/
theorem equal_ok (ns : List Int) (m : Nat) {x y : W} {s : Str} {h : AH} (hx : reprW h x = some s) (hy : reprW h y = some s) (hf : W.flats [x, y] = false) : callF gc ns (m+1) 23 [x, y] h = .ok (.bl true) h := by
  rw [callF_loc h (d := d23) rfl rfl hf]
  simp [runBody, d23, startA, pr_repr hx, pr_repr hy]
section
variable {n : Nat} {ev : Int} {zs : List Int} {steps : List (List W)} {res : W}
theorem Prog.shown (p : Prog n ev zs steps res) : ∃ s, ∀ h, reprW h (progW ev zs steps res) = some s := by
  have n3 := p.n3
  have zl := p.z.len
  have e2 := p.e2
  have sl := p.sl
  have smz : smWs (zs.map .int) = true := smWs_of fun w hw => by
    obtain ⟨z, hz, rfl⟩ := List.mem_map.mp hw
    have := p.z.lo z hz
    show decide (z.natAbs < 10 ^ 12) = true
    rw [decide_eq_true (by omega)]
  have sms : smWs (steps.map .tup) = true := smWs_of fun w hw => by
    obtain ⟨ss, hs, rfl⟩ := List.mem_map.mp hw
    exact ((p.st ss hs).1.dep (by omega)).1
  have wz : wtWs (zs.map .int) ≤ (10 + 1) * (zs.map W.int).length := wtWs_of fun w hw => by
    obtain ⟨z, hz, rfl⟩ := List.mem_map.mp hw
    have := p.z.lo z hz
    exact wt_int 10 (by omega) (by decide)
  have ws : wtWs (steps.map .tup) ≤ (72000 + 1) * (steps.map W.tup).length := wtWs_of fun w hw => by
    obtain ⟨ss, hs, rfl⟩ := List.mem_map.mp hw
    have q := (p.st ss hs).1.wt (by omega)
    have e36 : 1000 * 6 ^ 2 = 36000 := by decide
    have q2 : ss.length * (1000 * 6 ^ 2) ≤ 2 * (1000 * 6 ^ 2) := Nat.mul_le_mul_right _ (p.st ss hs).2
    show wtWs ss ≤ _
    omega
  have ds : depWs (steps.map .tup) ≤ 11 := depWs_of fun w hw => by
    obtain ⟨ss, hs, rfl⟩ := List.mem_map.mp hw
    have := ((p.st ss hs).1.dep (by omega)).2
    show depWs ss + 1 ≤ 11
    omega
  have rs := p.res.small (by omega)
  have e9 : 60 * 3 ^ 2 = 540 := by decide
  refine repr_tup (ws := [.int ev, tI zs, .tup (steps.map .tup), res]) ?_ ?_ ?_
  · show (decide (ev.natAbs < 10 ^ 12) && (smWs (zs.map .int) && (smWs (steps.map .tup) && (smW res && true)))) = true
    rw [smz, sms, rs.1, decide_eq_true (by have := p.e1; omega)]
    rfl
  · have we : wtW (.int ev) ≤ 10 := wt_int 10 (by have := p.e1; omega) (by decide)
    have e20 : (2 : Nat) ^ 20 = 1048576 := by decide
    show wtW (.int ev) + 1 + (wtWs (zs.map .int) + 1 + (wtWs (steps.map .tup) + 1 + (wtW res + 1 + 0))) ≤ _
    rw [List.length_map] at wz ws
    omega
  · show max 0 (max (depWs (zs.map W.int) + 1) (max (depWs (steps.map .tup) + 1) (max (depW res) 0))) ≤ 59
    rw [depWs_int]
    omega
theorem two_cells {cs : List Int} (c : Cells n cs) (hn : n ≤ 3) : ∃ s, ∀ hp l, hp[l]? = some (.lst [tI cs, tI cs]) → reprW hp (.loc l) = some s := by
  have cl := c.len
  have sm : smWs (cs.map .int) = true := smWs_of fun w hw => by
    obtain ⟨z, hz, rfl⟩ := List.mem_map.mp hw
    have := c.lo z hz
    show decide (z.natAbs < 10 ^ 12) = true
    rw [decide_eq_true (by omega)]
  have wz : wtWs (cs.map .int) ≤ (10 + 1) * (cs.map W.int).length := wtWs_of fun w hw => by
    obtain ⟨z, hz, rfl⟩ := List.mem_map.mp hw
    have := c.lo z hz
    exact wt_int 10 (by omega) (by decide)
  refine repr_lst ?_ ?_ ?_
  · show (smWs (cs.map .int) && (smWs (cs.map .int) && true)) = true
    rw [sm]
    rfl
  · have e20 : (2 : Nat) ^ 20 = 1048576 := by decide
    show wtWs (cs.map .int) + 1 + (wtWs (cs.map .int) + 1 + 0) ≤ _
    rw [List.length_map] at wz
    omega
  · show max (depWs (cs.map W.int) + 1) (max (depWs (cs.map W.int) + 1) 0) ≤ 59
    rw [depWs_int]
    decide
theorem two_ints {v : Int} (h1 : 0 ≤ v) (h2 : v ≤ 12) : ∃ s, ∀ hp l, hp[l]? = some (.lst [.int v, .int v]) → reprW hp (.loc l) = some s := by
  refine repr_lst ?_ ?_ ?_
  · show (decide (v.natAbs < 10 ^ 12) && (decide (v.natAbs < 10 ^ 12) && true)) = true
    rw [decide_eq_true (by omega)]
    rfl
  · have we : wtW (.int v) ≤ 10 := wt_int 10 (by omega) (by decide)
    have e20 : (2 : Nat) ^ 20 = 1048576 := by decide
    show wtW (.int v) + 1 + (wtW (.int v) + 1 + 0) ≤ _
    omega
  · show max 0 (max 0 0) ≤ 59
    decide
end
end Law
namespace Law
open PySem AM
section
variable {n : Nat} {ev : Int} {zs : List Int} {steps : List (List W)} {res : W}
/-- one log -/
theorem turn (ns : List Int) (p : Prog n ev zs steps res) (m : Nat) {es : List Int} (he : ∀ e ∈ es, 0 ≤ e ∧ e < ev) (h : AH) (a b c d e f g i : Option W) :
    ∃ h' x y, forF ⟨gc, ns, callF gc ns (m+17)⟩ (.nm 5) [.asg (.nm 6) (.call 30 [.var 2, .var 5] [] []), .iff (.not (.val (.call 23 [.lst [.call 18 [.var 2, .var 5] [] [], .call 18 [] ["log", "program"] [.var 5, .var 2]], .bin .mul (.lst [.prim .tuple [.var 6]]) (.con (.int 2))] [] []))) [.ret (.con (.bl false))] [], .asg (.nm 7) (.call 28 [.var 6, .sub (.var 2) (.con (.int 3))] [] []), .iff (.not (.val (.call 23 [.lst [.call 19 [.var 2, .var 5] [] [], .call 19 [] ["log", "program"] [.var 5, .var 2]], .lst [.var 7, .var 7]] [] []))) [.ret (.con (.bl false))] []] (tI es) [a, b, some (progW ev zs steps res), c, d, e, f, g, i] h = .next [a, b, some (progW ev zs steps res), c, d, some (tI es), x, y, i] h' ∧ Fr [] h h' := by
  obtain ⟨cs, v, c1, v1, v2, f⟩ := told_both ns p he
  obtain ⟨t1, t2, t3, t4⟩ := f m
  obtain ⟨h1, q, e1, e2, e3⟩ := t3 h
  obtain ⟨s1, r1⟩ := two_cells c1 p.n3
  obtain ⟨s2, r2⟩ := two_ints v1 v2
  have kb : ∀ h, callW ⟨gc, ns, callF gc ns (m+17)⟩ 18 [] ["log", "program"] [tI es, progW ev zs steps res] h = .ok (tI cs) h := fun h => by
    rw [callW_kw (d := d18) (is := [1, 0]) (vs := [progW ev zs steps res, tI es]) rfl rfl (show decide ((18, 0, (["log", "program"] : List Str)) ∈ gc.kws) = true by decide +kernel) (by decide +kernel) rfl]
    exact t1 h
  have ka : ∀ h, callW ⟨gc, ns, callF gc ns (m+17)⟩ 19 [] ["log", "program"] [tI es, progW ev zs steps res] h = .ok (.int v) h := fun h => by
    rw [callW_kw (d := d19) (is := [1, 0]) (vs := [progW ev zs steps res, tI es]) rfl rfl (show decide ((19, 0, (["log", "program"] : List Str)) ∈ gc.kws) = true by decide +kernel) (by decide +kernel) rfl]
    exact t2 h
  have b1 : ∀ h, callW ⟨gc, ns, callF gc ns (m+17)⟩ 18 [progW ev zs steps res, tI es] [] [] h = .ok (tI cs) h := fun h => t1 h
  have b2 : ∀ h, callW ⟨gc, ns, callF gc ns (m+17)⟩ 19 [progW ev zs steps res, tI es] [] [] h = .ok (.int v) h := fun h => t2 h
  -- the heap behind each piece
  have g1 : (h1 ++ [O.lst [tI cs, tI cs], O.lst [tI cs], O.lst [tI cs, tI cs]])[h1.length]? = some (O.lst [tI cs, tI cs]) := by simp
  have g2 : (h1 ++ [O.lst [tI cs, tI cs], O.lst [tI cs], O.lst [tI cs, tI cs]])[h1.length + 2]? = some (O.lst [tI cs, tI cs]) := by simp
  have q1 := equal_ok ns (m + 16) (r1 _ _ g1) (r1 _ _ g2) rfl
  have rep : repOk 1 2 = true := by decide
  have mu : ∀ h' : AH, h'[h1.length + 1]? = some (O.lst [tI cs]) → binW .mul (.loc (h1.length + 1)) (.int 2) h' = .ok (.loc h'.length) (h' ++ [.lst [tI cs, tI cs]]) := fun h' hh => by
    show (match h'[h1.length + 1]? with
      | some (.lst a) => if repOk a.length 2 then Res.ok (W.loc h'.length) (h' ++ [O.lst (List.replicate (2 : Int).toNat a).flatten]) else .stuck
      | _ => .stuck) = _
    rw [hh]
    exact if_pos rep
  have lq : ∀ t : AH, (h1 ++ t)[q]? = some (lI cs) := fun t => by
    rw [List.getElem?_append_left (List.getElem?_eq_some_iff.mp e2).1]
    exact e2
  have tq : ∀ t : AH, primW ⟨gc, ns, callF gc ns (m+17)⟩ .tuple [.loc q] (h1 ++ t) = .ok (tI cs) (h1 ++ t) := fun t => tup_lst (lq t)
  obtain ⟨k, hk⟩ : ∃ k, k = h1 ++ [O.lst [tI cs, tI cs], O.lst [tI cs], O.lst [tI cs, tI cs]] := ⟨_, rfl⟩
  have kq : k[q]? = some (lI cs) := by rw [hk]; exact lq _
  have q2 := equal_ok ns (m + 16) (r2 _ _ (show (k ++ [O.lst [.int v, .int v], O.lst [.int v, .int v]])[k.length]? = some (O.lst [.int v, .int v]) by simp)) (r2 _ _ (show (k ++ [O.lst [.int v, .int v], O.lst [.int v, .int v]])[k.length + 1]? = some (O.lst [.int v, .int v]) by simp)) rfl
  rw [← hk] at q1
  refine ⟨k ++ [O.lst [.int v, .int v], O.lst [.int v, .int v]], some (.loc q), some (.int v), ?_, (e3.trans (by rw [hk]; exact Fr.app)).trans Fr.app⟩
  unfold forF
  simp
  rw [ss_cons']
  have e1 : callW ⟨gc, ns, callF gc ns (m+17)⟩ 30 [progW ev zs steps res, tI es] [] [] h = .ok (.loc q) h1 := e1
  simp [e1]
  rw [ss_cons']
  have m3 : binW .mul (.loc (h1.length + 1)) (.int 2) (h1 ++ [O.lst [tI cs, tI cs], O.lst [tI cs]]) = .ok (.loc (h1.length + 2)) k := by
    rw [mu _ (by simp), hk]
    simp
  have q1 : callW ⟨gc, ns, callF gc ns (m+17)⟩ 23 [.loc h1.length, .loc (h1.length + 2)] [] [] k = .ok (.bl true) k := q1
  simp [b1, kb, szOk, tq, m3, q1]
  rw [ss_cons']
  have t4 : callW ⟨gc, ns, callF gc ns (m+17)⟩ 28 [.loc q, res] [] [] k = .ok (.int v) k := t4 k q kq
  simp [pr3, t4]
  have q2 : callW ⟨gc, ns, callF gc ns (m+17)⟩ 23 [.loc k.length, .loc (k.length + 1)] [] [] (k ++ [O.lst [.int v, .int v], O.lst [.int v, .int v]]) = .ok (.bl true) (k ++ [O.lst [.int v, .int v], O.lst [.int v, .int v]]) := q2
  simp [b2, ka, szOk, q2]
end
theorem right (ns : List Int) (m : Nat) {l k : Nat} {h : AH} (t : Tk k h l) (hk : k < 100000) : ∃ h', callF gc ns (m+18) 31 [.loc l] h = .ok (.bl true) h' ∧ Tk (k + 30000) h' l ∧ Fr [l] h h' := by
  rw [callF_loc h (d := d31) rfl rfl rfl]
  obtain ⟨a, h1, a1, a2, e1, t1, f1, _⟩ := take ns (m + 16) (many := 3) (by decide) (by decide) t (by omega)
  obtain ⟨n, zs, steps, res, h2, p, e2, t2, f2⟩ := program ns (m + 7) (ev := 1 + a) (by omega) (by omega) t1 (by omega)
  obtain ⟨s, sh⟩ := p.shown
  obtain ⟨b, h3, b1, b2, e3, t3, f3, _⟩ := take ns (m + 16) (many := 41) (by decide) (by decide) t2 (by omega)
  have ro := rng_ok b1 (by omega : b ≤ 1000000)
  have rl : (rngW 0 b).length = b.toNat := rngW_len
  obtain ⟨ys, h4, e4, ⟨t4, f4⟩, l4, p4⟩ := comp_idx ⟨gc, ns, callF gc ns (m + 17)⟩ (fun i g => Tk (k + 1 + 20000 + 1 + i) g l ∧ Fr [l] h3 g) (fun y => ∃ i : Int, y = .int i ∧ 0 ≤ i ∧ i < 1 + a) (own := [("turn", 8)]) (i := 8) (it := .rng [.call 21 [.var 0, .con (.int 41)] [] []]) (elt := .call 21 [.var 0, .var 1] [] [])
    (σ := [some (.loc l), some (.int (1 + a)), some (progW (1 + a) zs steps res), some (.str s), none, none, none, none, none]) (h := h2) (h1 := h3) (src := ⟨rngW 0 b, []⟩) (by simp [callW, e3, ro]) ⟨t3, Fr.refl⟩ (fun _ _ _ => rfl) (by simp only [rl]; omega) (fun j hj g ⟨tg, fg⟩ => by
      simp only [rl] at hj
      obtain ⟨c, g', c1, c2, c3, c4, c5, _⟩ := take ns (m + 16) (many := 1 + a) (by omega) (by omega) tg (by omega)
      exact ⟨.int c, g', by simp [wipeA, callW, c3], ⟨c4.mono (by omega), fg.trans c5⟩, c, rfl, c1, c2⟩)
  obtain ⟨long, rfl, hlong⟩ := ints_ofW p4
  simp only [rl] at l4 t4
  obtain ⟨L, hL, lL, e5⟩ := logs_ok ns (m + 16) (ev := 1 + a) (by omega) (by omega) h4
  have all : ∀ w ∈ L ++ [tI long], ∃ es : List Int, w = tI es ∧ ∀ e ∈ es, 0 ≤ e ∧ e < 1 + a := fun w hw => by
    rcases List.mem_append.mp hw with q | q
    · obtain ⟨es, e, _, he⟩ := hL w q
      exact ⟨es, e, he⟩
    · exact ⟨long, List.mem_singleton.mp q, hlong⟩
  obtain ⟨k5, hk5⟩ : ∃ k5, k5 = h4 ++ [O.lst L, O.lst [tI long], O.lst (L ++ [tI long])] := ⟨_, rfl⟩
  have k5q : k5[h4.length + 2]? = some (.lst (L ++ [tI long])) := by rw [hk5]; simp
  have k5f : Fr [] h4 k5 := by rw [hk5]; exact Fr.app
  obtain ⟨σ', h6, lp, x, y, z, f6, rfl⟩ := forLoop_inv (f := forF ⟨gc, ns, callF gc ns (m + 17)⟩ (.nm 5) [.asg (.nm 6) (.call 30 [.var 2, .var 5] [] []), .iff (.not (.val (.call 23 [.lst [.call 18 [.var 2, .var 5] [] [], .call 18 [] ["log", "program"] [.var 5, .var 2]], .bin .mul (.lst [.prim .tuple [.var 6]]) (.con (.int 2))] [] []))) [.ret (.con (.bl false))] [], .asg (.nm 7) (.call 28 [.var 6, .sub (.var 2) (.con (.int 3))] [] []), .iff (.not (.val (.call 23 [.lst [.call 19 [.var 2, .var 5] [] [], .call 19 [] ["log", "program"] [.var 5, .var 2]], .lst [.var 7, .var 7]] [] []))) [.ret (.con (.bl false))] []]) (held := [(h4.length + 2, L ++ [tI long])])
    (fun i σ g => ∃ x y z, Fr [] k5 g ∧ σ = [some (.loc l), some (.int (1 + a)), some (progW (1 + a) zs steps res), some (.str s), some (tI long), x, y, z, none]) (L ++ [tI long]) 0 (fun i hi σ g ⟨x, y, z, fg, e⟩ => by
      subst e
      obtain ⟨es, ew, he⟩ := all _ (List.getElem_mem hi)
      rw [ew]
      obtain ⟨g', x', y', e1, e2⟩ := turn ns p m he g (some (.loc l)) (some (.int (1 + a))) (some (.str s)) (some (tI long)) x y z none
      exact ⟨_, g', .inl e1, _, _, _, fg.trans e2, rfl⟩) (fun i σ g ⟨x, y, z, fg, e⟩ => by
      have := fg.get k5q (by simp)
      simp [heldOk, this]) [some (.loc l), some (.int (1 + a)), some (progW (1 + a) zs steps res), some (.str s), some (tI long), none, none, none, none] k5 ⟨none, none, none, Fr.refl, rfl⟩
  have t6 : Tk (k + 30000) h6 l := ((t4.fr k5f (by simp)).fr f6 (by simp)).mono (by omega)
  refine ⟨h6, ?_, t6, f1.trans (f2.trans (f3.trans (f4.trans ((k5f.trans f6).mono (fun i z => nomatch z)))))⟩
  simp only [runBody, d31, startA]
  rw [ss_cons']
  simp [callW, e1]
  rw [ss_cons']
  have e2 : callF gc ns (m + 17) 27 [.loc l, .int (1 + a)] h1 = .ok (progW (1 + a) zs steps res) h2 := e2
  simp [callW, e2]
  rw [ss_cons']
  simp [pr_repr (sh h2)]
  rw [ss_cons']
  simp [e4]
  rw [ss_cons']
  have e5 : callF gc ns (m + 17) 24 [.int (1 + a), .int 3] h4 = .ok (.loc h4.length) (h4 ++ [.lst L]) := e5
  have ad : binW .add (.loc h4.length) (.loc (h4.length + 1)) (h4 ++ [O.lst L, O.lst [tI long]]) = .ok (.loc (h4.length + 2)) k5 := by
    rw [add_lst (a := L) (b := [tI long]) (by simp) (by simp) (by simp; omega), hk5]
    simp
  simp [callW, e5, szOk, ad, overW, k5q, lp, pr_repr (sh h6)]
theorem well (ns : List Int) (m : Nat) (i : Nat) (hi : i < 1000) (h : AH) : ∃ l h', callF gc ns (m+1) 20 [.scr, .int i] h = .ok (.loc l) h' ∧ Tk 0 h' l := by
  have p29 : powOk 10 29 = true := by decide
  have p17 : powOk 10 17 = true := by decide
  have m1 : ∀ i : Int, mulOk 86243 i = true := fun i => mul_okL (by decide)
  have m2 : ∀ i : Int, mulOk 1009 i = true := fun i => mul_okL (by decide)
  have m3 : ∀ i : Int, mulOk i 6700417 = true := fun i => mul_okR (by decide)
  have m4 : ∀ i : Int, mulOk i 2147483647 = true := fun i => mul_okR (by decide)
  have cut : cutW ns none (some 63) = ns.take 63 := cut_to ns (by decide)
  obtain ⟨A, hA⟩ : ∃ A : List W, A = (ns.take 63).map .int := ⟨_, rfl⟩
  obtain ⟨N, hN⟩ : ∃ N : Nat, N = (ns.take 63).length := ⟨_, rfl⟩
  have lA : A.length = N := by rw [hA, List.length_map, hN]
  have lcut : (N : Int) ≤ 63 := by
    have := List.length_take_le 63 ns
    omega
  obtain ⟨σ', h', lp, rfl, x, sd, s0, s1, rfl⟩ := forLoop_inv (f := forF ⟨gc, ns, callF gc ns m⟩ (.nm 3) [.asg (.nm 2) (.bin .mod (.prim .int [.bin .add (.bin .add (.bin .mul (.var 2) (.con (.int 6700417))) (.bin .mul (.prim .int [.var 3]) (.con (.int 2147483647)))) (.con (.int 997))]) (.bin .add (.bin .pow (.con (.int 10)) (.con (.int 29))) (.con (.int 319))))]) (held := [(1, A)])
    (fun j σ k => k = [.lst A, .lst A] ∧ ∃ x, ∃ sd : Int, 0 ≤ sd ∧ sd ≤ 1000000000000000000000000000000 ∧ σ = [some .scr, some (.int i), some (.int sd), x, none]) A 0 (fun j hj σ k ⟨hk, x, sd, s0, s1, e⟩ => by
      subst hk e
      obtain ⟨y, hy⟩ : ∃ y : Int, A[j] = .int y := by subst hA; exact ⟨(ns.take 63)[j]'(by simpa using hj), by simp⟩
      rw [hy]
      refine ⟨[some .scr, some (.int i), some (.int ((sd * 6700417 + y * 2147483647 + 997) % 100000000000000000000000000319)), some (.int y), none], _, .inl ?_, rfl, _, _, Int.emod_nonneg _ (by decide), ?_, rfl⟩
      · unfold forF
        simp [m3, m4, p29]
      · have := Int.emod_lt_of_pos (sd * 6700417 + y * 2147483647 + 997) (b := 100000000000000000000000000319) (by decide)
        omega) (fun j σ k ⟨hk, _⟩ => by
      subst hk
      simp [heldOk]) [some .scr, some (.int i), some (.int (86243 * i + 1009 * N + 17)), none, none] _ ⟨rfl, none, _, by omega, by omega, rfl⟩
  obtain ⟨c, ec⟩ : ∃ c : Int, ∀ g : AH, evalE ⟨gc, ns, callF gc ns m⟩ (.ife (.val (.cmp .lt (.var 1) (.prim .len [.var 0]))) (.prim .abs [.prim .int [.sub (.var 0) (.var 1)]]) (.con (.int 0))) [some .scr, some (.int i), some (.int sd), x, none] g = .ok (.int c) g := by
    by_cases hi : i < ns.length
    · have r := fun g => rd_scr ⟨gc, ns, callF gc ns m⟩ g (i := i) (n := ns[i]) (by rw [atI_nat]; simp [hi])
      exact ⟨if ns[i] < 0 then -ns[i] else ns[i], fun g => by simp [hi, r]⟩
    · exact ⟨0, fun g => by simp [hi]⟩
  have sl : ∀ h : AH, slcR ns .scr none (some 63) h = .ok (.loc h.length) (h ++ [.lst A]) := fun h => by
    show Res.ok (W.loc h.length) (h ++ [O.lst ((cutW ns none (some 63)).map .int)]) = _
    rw [cut, hA]
  have ln : primW ⟨gc, ns, callF gc ns m⟩ .len [.loc 0] [.lst A] = .ok (.int N) [.lst A] := by
    rw [pr_lenL ⟨gc, ns, callF gc ns m⟩ _ (ws := A) rfl, lA]
  obtain ⟨z, run⟩ : ∃ z : Int, runBody ⟨gc, ns, callF gc ns m⟩ d20 [.scr, .int i] [] = .ok (.loc 2) [.lst A, .lst A, .lst [.int z, .int sd, .int 0]] := by
    simp only [runBody, d20, startA]
    rw [ss_cons']
    simp [sl, ln, m1, m2]
    rw [ss_cons']
    simp [sl, overW, lp]
    rw [ss_cons']
    simp [ec, -x_ife]
    simp [p17, szOk]
  exact ⟨_, _, callF_list h (d := d20) rfl rfl rfl run rfl rfl, z, sd, 0, by simp, s0, s1, by omega, by omega⟩
theorem math : ∀ ns : List Int, ns.length ≤ 63 → (∀ z ∈ ns, PySem.Builtin.Int.intBits z ≤ 1048576) → callF gc ns 60 32 [.scr] [] = .ok (.bl true) [] := fun ns hl hn => by
  suffices hs : ∃ h2, runBody ⟨gc, ns, callF gc ns 59⟩ d32 [.scr] [] = .ok (.bl true) h2 by
    obtain ⟨h2, e⟩ := hs
    exact callF_flat [] (d := d32) rfl rfl rfl rfl e
  have ro : ∀ n : Int, n ≤ 63 → rngOk (if 1 < (if n < 3 then n else 3) then (if n < 3 then n else 3) else 1) = true := fun n hn => by
    apply rng_ok
    · split <;> omega
    · split <;> (try split) <;> omega
  have r1 := ro ns.length (by omega)
  have r2 : rngOk 2 = true := rng_ok (by decide) (by decide)
  obtain ⟨σ', h5, lp, x, y, z, rfl⟩ := forLoop_inv (f := forF ⟨gc, ns, callF gc ns 59⟩ (.nm 1) [.asg (.nm 2) (.call 20 [.var 0, .var 1] [] []), .for_ (.nm 3) (.rng [.con (.int 2)]) [.iff (.not (.val (.call 31 [.var 2] [] []))) [.ret (.con (.bl false))] []]]) (held := [])
    (fun n σ k => ∃ x y z, σ = [some .scr, x, y, z])
    (rngW 0 (if 1 < (if (ns.length : Int) < 3 then (ns.length : Int) else 3) then (if (ns.length : Int) < 3 then (ns.length : Int) else 3) else 1)) 0 (fun i hi σ k ⟨x, y, z, a5⟩ => by
      subst a5
      obtain ⟨v, ev, hv⟩ := rngW_mem (List.getElem_mem hi)
      rw [ev]
      rw [rngW_len] at hi
      have hv2 : v < 1000 := by
        revert hv
        split <;> (try split) <;> omega
      obtain ⟨l, h1, e1, w1⟩ := well ns 58 v hv2 k
      obtain ⟨σ2, h2, lp2, z2, w2, rfl⟩ := forLoop_inv (f := forF ⟨gc, ns, callF gc ns 59⟩ (.nm 3) [.iff (.not (.val (.call 31 [.var 2] [] []))) [.ret (.con (.bl false))] []]) (held := [])
        (fun n σ k => ∃ z, Tk (30000 * n) k l ∧ σ = [some .scr, some (.int v), some (.loc l), z])
        (rngW 0 2) 0 (fun j hj σ k ⟨z, w, a5⟩ => by
          subst a5
          have hj2 : j < 2 := hj
          obtain ⟨h3, e3, w3, _⟩ := right ns 41 w (by omega)
          refine ⟨[some .scr, some (.int v), some (.loc l), some (rngW 0 2)[j]], h3, .inl ?_, _, w3.mono (by omega), rfl⟩
          generalize (rngW 0 2)[j] = q
          unfold forF
          simp [callW, e3]) (fun _ _ _ _ => rfl) [some .scr, some (.int v), some (.loc l), z] h1 ⟨_, w1, rfl⟩
      refine ⟨[some .scr, some (.int v), some (.loc l), z2], h2, .inl ?_, _, _, _, rfl⟩
      unfold forF
      simp
      rw [ss_cons']
      simp [callW, e1, r2, lp2]) (fun _ _ _ _ => rfl) [some .scr, none, none, none] [] ⟨_, _, _, rfl⟩
  simp only [runBody, d32, startA]
  rw [ss_cons']
  simp [r1, lp]
end Law
open PySem PySem.W PySem.Calls PyProof.Rows
theorem PySem.Challenge.cw_arrivesalike_k75_programs_by_own_runs_holds : PySem.Challenge.rw_arrivesalike_k75_programs_by_own_runs.Holds := by
  w_on; o_law
  refine HandSHeadRun.head_any (r := OpenLaw.row PySem.Challenge.rw_arrivesalike_k75_programs_by_own_runs) (q := view (OpenLaw.row PySem.Challenge.rw_arrivesalike_k75_programs_by_own_runs).prog [42]) (H := Law.hk) (ob := Law.ob) (M := 4000) (loose := Law.loose) (d := HandSHeadRun.topDef (OpenLaw.row PySem.Challenge.rw_arrivesalike_k75_programs_by_own_runs).prog 42)
    (kwd := []) Law.ob_eq (by kernel_rfl) (fun s => by kernel_rfl) Law.run (by kernel_rfl) (by kernel_rfl) (by kernel_rfl) (by rfl) (by first | assumption | decide +kernel) (by decide +kernel) ⟨rfl, rfl, rfl, rfl, rfl, by decide +kernel⟩ ?hw ?hc
  case hw => w_witness2
  case hc =>
    refine AM.walk_ofG (l := PySem.Challenge.rw_arrivesalike_k75_programs_by_own_runs) (n := 63) (k := 3 * 60) (x := "script") rfl (by decide) (by kernel_rfl) ⟨rfl, by decide, by decide⟩ ?F (fun _ _ _ _ _ z => AM.cx_false z)
    intro w mg fa h Y G hmg0
    obtain ⟨K, KX, c⟩ := Y
    have hmg : mg ("law" : PySem.Str) = some (.ref fa) := by
      have e : (HandSHeadRun.topDef (OpenLaw.row PySem.Challenge.rw_arrivesalike_k75_programs_by_own_runs).prog 42).name = ("law" : PySem.Str) := by kernel_rfl
      rw [← e]
      exact hmg0
    exact ⟨K, KX, AM.lawAt (T := Law.T) (f := 32) (d := Law.d32) KX G c Law.dall rfl rfl (by decide +kernel) hmg Law.math⟩
