import PyProof.Rows.All
import Wide.All
import OpenK.AllK
import Wide.FinOn
import KE.KStateDown
import HandS.ForExc
import HandS.Defaults
import HandS.Property
import HandS.Head0
import HandS.Head1
import HandS.Head2
import HandS.Head3
import HandS.HeadHook1
import HandS.HeadHook2
import HandS.HeadEnd
import HandS.ExcInit
import HandS.ExcField
import KE.KNestM
import PySem.Challenge.RW_onepassexact_k91_streams_fed
import HandS.ForMost
import HandS.Wide
import HandS.Gcd
import HandS.TupAny
import HandS.Flow
import HandS.Style
import HandS.IsInst
import HandS.TryMany
import HandS.Lambda
import HandS.RaiseMore
import HandS.HeadWalk
import HandS.NoneIn
import PyProof.AssignAttr
import HandS.Iter
import KE.GoesEnum
import HandS.Comp
import HandS.Codes
import HandS.Ends
import HandS.EndBits
import HandS.EndTab
import PyProof.ReprLen
set_option Elab.async false
set_option linter.all false
set_option maxRecDepth 100000
set_option maxHeartbeats 4000000
/-! What the top has written, by names, for every def and class of a text at once. -/
namespace Pl
open PySem PySem.Spec PyProof.Rows L2 He

/-- a def of the text: of the module, of a class, a property's getter -/
structure Fn where
  cls : Option Str
  name : Str
  prop : Bool
  args : Arguments
  body : List Stmt
  scope : Scope

/-- a class of the text: an error (of ValueError), or not; its methods, its properties -/
structure Cl where
  name : Str
  isExc : Bool
  meths : List Str
  props : List Str

def isProp : List Expr → Bool
  | [.Name n _] => n == ("property" : Str)
  | _ => false
def baseNames : List Expr → List Str
  | .Name n _ :: r => n :: baseNames r
  | _ => []
def fnsIn (c : Str) : List Stmt → List Fn
  | .FunctionDef n a b dl _ _ sc _ _ _ :: r => ⟨some c, n, isProp dl, a, b, sc⟩ :: fnsIn c r
  | _ :: r => fnsIn c r
  | [] => []
def fnsOf : List Stmt → List Fn
  | .FunctionDef n a b _ _ _ sc _ _ _ :: r => ⟨none, n, false, a, b, sc⟩ :: fnsOf r
  | .ClassDef c _ _ b _ _ _ _ _ _ _ :: r => fnsIn c b ++ fnsOf r
  | _ :: r => fnsOf r
  | [] => []
def clsOf : List Stmt → List Cl
  | .ClassDef c bs _ b _ _ _ _ _ _ _ :: r =>
    let fs := fnsIn c b
    ⟨c, !(baseNames bs).isEmpty, (fs.filter fun f => !f.prop).map (·.name), (fs.filter fun f => f.prop).map (·.name)⟩ :: clsOf r
  | _ :: r => clsOf r
  | [] => []

def Fn.qual (f : Fn) : Str := match f.cls with
  | some c => c ++ "." ++ f.name
  | none => f.name
/-- a property's getter -/
def getterIn (K : PySem.W.Frag) (p : Addr) : Addr := match PySem.W.recIn K p "property" with
  | some (.ref g :: _) => g
  | _ => 0
def Fn.adr (K : PySem.W.Frag) (f : Fn) : Addr := match f.cls with
  | none => ga K f.name
  | some c => if f.prop then getterIn K (ma K (ga K c) f.name) else ma K (ga K c) f.name

def fnWA (K : PySem.W.Frag) (a : Addr) : FnW := match K.lookup a with
  | some ⟨_, _, .func fd, _⟩ => some (fd.name, fd.qualname, fd.params, fd.body, fd.scope, fd.globals, fd.closure, fd.builtins)
  | _ => none
def Fn.val (f : Fn) : FnW := some (f.name, f.qual, f.args, .stmts f.body, f.scope, mainGlobals, [], builtinsNs)
def Fn.ok (K : PySem.W.Frag) (f : Fn) : Bool := PySem.W.keepIn K (.ref (f.adr K)) && (match K.lookup (f.adr K) with
  | some ⟨_, _, .func fd, _⟩ => PySem.W.codeIn K fd.code f.qual && (dflB K fd.defaults [] && kwdB K fd.kwdefaults [])
  | _ => false)
theorem Fn.funD {K : PySem.W.Frag} {f : Fn} (e : fnWA K (f.adr K) = f.val) (c : f.ok K = true) : ∃ fd, FunD K f.name f.qual f.args f.body f.scope [] [] (f.adr K) fd := by
  obtain ⟨kp, c2⟩ := ba c
  unfold fnWA at e
  cases q : K.lookup (f.adr K) with
  | none =>
    rw [q] at c2
    cases c2
  | some o =>
    obtain ⟨oc, od, dt, osl⟩ := o
    rw [q] at c2 e
    cases dt with
    | func fd =>
      obtain ⟨n1, n2, n3, n4, n5, n6, n7, n8, n9, n10, n11, n12, n13, n14, n15⟩ := fd
      have e2 : (some (n1, n2, n3, n4, n5, n6, n7, n15) : FnW) = some (f.name, f.qual, f.args, .stmts f.body, f.scope, mainGlobals, [], builtinsNs) := e
      simp only [Option.some.injEq, Prod.mk.injEq] at e2
      obtain ⟨h1, h2, h3, h4, h5, h6, h7, h8⟩ := e2
      subst h1 h2 h3 h4 h5 h6 h7 h8
      have c3 : (PySem.W.codeIn K n13 f.qual && (dflB K n8 [] && kwdB K n9 [])) = true := c2
      obtain ⟨k1, k2⟩ := ba c3
      obtain ⟨k3, k4⟩ := ba k2
      exact ⟨_, ⟨oc, od, n8, n9, n10, n11, n12, n13, n14, osl, rfl, q, k1, dflB_ok k3, kwdB_ok k4⟩, kp⟩
    | _ => cases c2

/-! ### the facts of the classes -/
def propB (K : PySem.W.Frag) (C : Addr) (f : Str) : Bool :=
  eqO (PySem.W.findIn K (.ref C) f) (some (some (.ref (ma K C f)))) && (decide (PySem.W.specialIn K (.ref (ma K C f)) "__get__" = some (some (.builtin "property.__get__"))) &&
    (decide (PySem.W.takesIn K (.ref (ma K C f)) = some true) && (match PySem.W.recIn K (ma K C f) "property" with
      | some (.ref g :: _) => decide (g = getterIn K (ma K C f))
      | _ => false)))
theorem propB_ok {K : PySem.W.Frag} {C : Addr} {f : Str} (h : propB K C f = true) : PropOf K C f (ma K C f) (getterIn K (ma K C f)) := by
  obtain ⟨h1, h2⟩ := ba h
  obtain ⟨h3, h4⟩ := ba h2
  obtain ⟨h5, h6⟩ := ba h4
  refine ⟨eqO_ok h1, of_decide_eq_true h3, of_decide_eq_true h5, ?_⟩
  split at h6
  · rename_i g r q
    have e : g = _ := of_decide_eq_true h6
    subst e
    exact ⟨_, q⟩
  · cases h6

/-- what is asked of a class: all fields' names fl that are none of its own -/
def Cl.fas (fl : List Str) (c : Cl) : List Fa := match c.isExc with
  | true => match c.meths with
    | [] => [.glo c.name, .exc c.name]
    | _ => [.glo c.name]
  | false => [.glo c.name, .cls c.name, .mkr c.name] ++ c.meths.map (.meth c.name) ++ (fl.filter fun f => !(c.meths.contains f || c.props.contains f)).map (.noat c.name)
def exmB (K : PySem.W.Frag) (cs : List Cl) (up : Str → Str → Bool) : Bool :=
  cs.all fun c => cs.all fun d => (!c.isExc || !d.isExc) || (Fa.exm c.name d.name (up c.name d.name)).ok K
def propsB (K : PySem.W.Frag) (cs : List Cl) : Bool := cs.all fun c => c.props.all fun f => propB K (ga K c.name) f
/-- a name that the top takes of a module: a built-in function -/
def bfB (K : PySem.W.Frag) (q : Str × String) : Bool := match PySem.W.nsIn K mainGlobals q.1 with
  | some (some (.builtin id)) => decide (id = q.2)
  | _ => false
theorem bfB_ok {K : PySem.W.Frag} {h : Heap} {mg : Str → Option Value} (X : K.In h) (G : h.Ns mainGlobals mg) {q : Str × String} (c : bfB K q = true) : mg q.1 = some (.builtin q.2) := by
  unfold bfB at c
  split at c
  · rename_i id e
    have e2 : id = q.2 := of_decide_eq_true c
    subst e2
    exact PySem.W.mg_of X G e
  · cases c

/-! ### own errors with an __init__, tables of code objects -/
def oexB (K : PySem.W.Frag) (C : Addr) : Bool := (match K.lookup C with
  | some ⟨.type t, _, .cls cd, sl⟩ => decide (t = "type") && (match cd.mro, sl.toList with
    | .ref C' :: bm, [_, _, _, _, some (.builtin n), _] => decide (C' = C) && (decide (n = "ValueError.__new__") && (!cd.hasDel && (cd.hasDict && PySem.HandSPX.refsVE bm)))
    | _, _ => false)
  | _ => false) && (eqO (PySem.W.findIn K (.ref C) "__setattr__") (some (some (.builtin "object.__setattr__"))) && (decide (PySem.W.subIn K (.ref C) (.type "BaseException") = some true) && (decide (PySem.W.typeIn K (.ref C) = some (.type "type")) && PySem.W.keepIn K (.ref C))))
theorem oexB_ok {K : PySem.W.Frag} {C : Addr} (h : oexB K C = true) : OexC K C := by
  obtain ⟨h1, h2⟩ := ba h
  obtain ⟨h2, h3⟩ := ba h2
  obtain ⟨h3, h4⟩ := ba h3
  obtain ⟨h4, h5⟩ := ba h4
  refine ⟨?_, eqO_ok h2, of_decide_eq_true h3, of_decide_eq_true h4, h5⟩
  split at h1
  · rename_i t dd cd sl ho
    obtain ⟨e1, u1⟩ := ba h1
    have e2 := of_decide_eq_true e1
    clear e1 h1
    subst e2
    split at u1
    · rename_i C' bm k0 k1 k2 k3 n k5 hm hs
      obtain ⟨g1, u2⟩ := ba u1
      obtain ⟨g2, u3⟩ := ba u2
      obtain ⟨g3, u4⟩ := ba u3
      obtain ⟨g4, g5⟩ := ba u4
      have g1 := of_decide_eq_true g1
      have g2 := of_decide_eq_true g2
      subst g1 g2
      obtain ⟨nm, bs, mro, ns, qn, hd, sn, sub, ab, col, del⟩ := cd
      have hdel : del = false := by simpa using g3
      have hhd : hd = true := g4
      dsimp only at hm
      subst hm hdel hhd
      have hsl : sl = #[k0, k1, k2, k3, some (.builtin "ValueError.__new__"), k5] := by
        obtain ⟨l⟩ := sl
        simp only at hs
        rw [hs]
      subst hsl
      exact ⟨nm, qn, ns, bs, bm, sn, sub, ab, col, dd, k0, k1, k2, k3, k5, ho, g5⟩
    · cases u1
  · cases h1
/-- class q.1, its own field q.2 -/
def xiB (K : PySem.W.Frag) (q : Str × Str) : Bool := oexB K (ga K q.1) && (eqO (PySem.W.findIn K (.ref (ga K q.1)) "__init__") (some (some (.ref (ma K (ga K q.1) "__init__")))) && (decide (PySem.W.typeIn K (.ref (ma K (ga K q.1) "__init__")) = some (.type "function")) &&
  (eqO (PySem.W.findIn K (.ref (ga K q.1)) q.2) (some none) && xfB K (ga K q.1))))
def baseB (K : PySem.W.Frag) (B : Addr) : Bool := decide (PySem.W.specialIn K (.ref B) "__getattribute__" = some (some (.builtin "type.__getattribute__"))) && (decide (PySem.W.typeIn K (.ref B) = some (.type "type")) && (PySem.W.readsIn K B (.type "type") &&
  (match PySem.W.findCls K (.ref B) (.type "type") "__init__" with
    | some (.val (.builtin id)) => decide (id = "ValueError.__init__")
    | _ => false)))
/-- the base of an own error: its __init__ is the built-in one -/
structure BaseI (K : PySem.W.Frag) (B : Addr) : Prop where
  ga : PySem.W.specialIn K (.ref B) "__getattribute__" = some (some (.builtin "type.__getattribute__"))
  ty : PySem.W.typeIn K (.ref B) = some (.type "type")
  rd : PySem.W.readsIn K B (.type "type") = true
  fi : PySem.W.findCls K (.ref B) (.type "type") "__init__" = some (.val (.builtin "ValueError.__init__"))
theorem baseB_ok {K : PySem.W.Frag} {B : Addr} (h : baseB K B = true) : BaseI K B := by
  obtain ⟨h1, h2⟩ := ba h
  obtain ⟨h2, h3⟩ := ba h2
  obtain ⟨h3, h4⟩ := ba h3
  refine ⟨of_decide_eq_true h1, of_decide_eq_true h2, h3, ?_⟩
  split at h4
  · rename_i id e
    have := of_decide_eq_true h4
    subst this
    exact e
  · cases h4
/-- a def's code object -/
def codeF (K : PySem.W.Frag) (f : Fn) : Addr := match K.lookup (f.adr K) with
  | some ⟨_, _, .func fd, _⟩ => (match fd.code with
    | .ref c => c
    | _ => 0)
  | _ => 0
def emptyTab : Obj → Bool
  | ⟨.none, none, .fields vs, sl⟩ => vs.isEmpty && sl.isEmpty
  | _ => false
theorem emptyTab_eq {o : Obj} (h : emptyTab o = true) : o = { cls := .none, data := .fields #[] } := by
  obtain ⟨oc, od, dt, sl⟩ := o
  cases oc with
  | none =>
    cases od with
    | none =>
      cases dt with
      | fields vs =>
        obtain ⟨h1, h2⟩ := ba (show (vs.isEmpty && sl.isEmpty) = true from h)
        rw [Array.isEmpty_iff.mp h1, Array.isEmpty_iff.mp h2]
      | _ => cases h
    | some d => cases dt <;> cases h
  | _ => cases od <;> cases dt <;> cases h
def tabOf (K : PySem.W.Frag) (c : Addr) : Addr := match K.lookup c with
  | some ⟨_, _, .fields vs, _⟩ => (match vs.getD 11 .none with
    | .ref P => P
    | _ => 0)
  | _ => 0
/-- what is looked at of a text -/
structure Txt where
  /-- the defs that make lambdas -/
  lams : List Nat := []
  /-- own errors with an __init__, and their field; their base -/
  inits : List (Str × Str) := []
  base : Str := Str.empty
  fns : List Fn
  cls : List Cl
  fields : List Str
  free : List Str
  bfun : List (Str × String)
  /-- whether the one error class is the other one, or under it -/
  up : Str → Str → Bool
  /-- further -/
  more : PySem.W.Frag → Bool := fun _ => true
  /-- further addresses -/
  also : (Addr → Option Obj) → List Addr := fun _ => []

def Txt.fas (t : Txt) : List Fa := (t.fns.filter fun f => f.cls.isNone).map (fun f => .glo f.name) ++ t.cls.flatMap (Cl.fas t.fields) ++ t.free.map .free
def Txt.ok (t : Txt) (K : PySem.W.Frag) : Bool :=
  (t.fas.all fun f => f.ok K) && ((t.fns.all fun f => f.ok K) && (exmB K t.cls t.up && (propsB K t.cls && ((t.bfun.all fun q => bfB K q) && (t.more K && ((t.inits.all fun q => xiB K q) && (t.inits.isEmpty || (baseB K (ga K t.base) && (Fa.glo t.base).ok K))))))))

/-! ### the addresses that are looked at -/
def nsG (g : Addr → Option Obj) (C : Addr) : Addr := match g C with
  | some ⟨_, _, .cls cd, _⟩ => cd.ns
  | _ => 0
def codeG (g : Addr → Option Obj) (f : Addr) : List Addr := match g f with
  | some ⟨_, _, .func fd, _⟩ => refV fd.code
  | _ => []
def atIn (K : PySem.W.Frag) (D : Addr) (x : Str) : Addr := match PySem.W.nsIn K D x with
  | some (some (.ref a)) => a
  | _ => 0
/-- a list of addresses, each one reckoned -/
def frL {α : Type} : List Addr → (List Addr → α) → α
  | [], k => k []
  | a :: r, k => HandSHeadRun.frNat a fun a => frL r fun r => k (a :: r)
theorem frL_eq {α : Type} : ∀ (l : List Addr) (k : List Addr → α), frL l k = k l
  | [], _ => rfl
  | a :: r, k => by
    show HandSHeadRun.frNat a (fun a => frL r fun r => k (a :: r)) = k (a :: r)
    rw [HandSHeadRun.frNat_eq, frL_eq r]
/-- the globals' objects, the classes' dicts, what stands in them, the getters, the code objects -/
def asK {α : Type} (t : Txt) (g : Addr → Option Obj) (k : List Addr → α) : α :=
  frL ((t.fns.filter fun f => f.cls.isNone).map fun f => atIn (frG g [mainGlobals]) mainGlobals f.name) fun fs =>
  frL (t.cls.map fun c => atIn (frG g [mainGlobals]) mainGlobals c.name) fun cs =>
  frL (cs.map (nsG g)) fun ns =>
  frL ((t.cls.zip ns).flatMap fun (c, n) => c.meths.map fun m => atIn (frG g [n]) n m) fun ms =>
  frL ((t.cls.zip ns).flatMap fun (c, n) => c.props.map fun m => atIn (frG g [n]) n m) fun ps =>
  frL (ps.map fun p => getterIn (frG g [p]) p) fun gs =>
  frL ((fs ++ ms ++ gs).flatMap (codeG g)) fun co =>
  k (mainGlobals :: (fs ++ (cs ++ (ns ++ (ms ++ (ps ++ (gs ++ (co ++ t.also g))))))))

abbrev AlP : Type := Bool × List FnW
def obsP (t : Txt) (K : PySem.W.Frag) : AlP := (t.ok K, t.fns.map fun f => fnWA K (f.adr K))
def valP (t : Txt) : AlP := (true, t.fns.map Fn.val)
def SaysP (t : Txt) (K : PySem.W.Frag) : Prop := obsP t K = valP t
/-- the defs that make lambdas: code object, table -/
def lamTs (t : Txt) (K : PySem.W.Frag) : List (Addr × Addr × Str) := t.lams.filterMap fun i => (t.fns[i]?).map fun f => (codeF K f, tabOf K (codeF K f), f.qual ++ ".<locals>." ++ "<lambda>")
def tabsT (t : Txt) (g : Addr → Option Obj) (K : PySem.W.Frag) : Bool := ((lamTs t K).all fun p => PySem.W.codeHdIn K p.1 p.2.1 && ((K.lookup p.2.1).isNone && (match g p.2.1 with
    | some o => emptyTab o
    | none => false))) && (lamTs t K).all fun p => (lamTs t K).all fun q => p.2.1 != q.2.1 || decide (p.2.2 = q.2.2)
structure TabsH (t : Txt) (h : Heap) (K : PySem.W.Frag) : Prop where
  hd : ∀ p ∈ lamTs t K, PySem.W.codeHdIn K p.1 p.2.1 = true
  out : ∀ p ∈ lamTs t K, K.lookup p.2.1 = none
  empty : ∀ p ∈ lamTs t K, h.get? p.2.1 = some { cls := .none, data := .fields #[] }
  uni : ∀ p ∈ lamTs t K, ∀ q ∈ lamTs t K, p.2.1 = q.2.1 → p.2.2 = q.2.2
theorem tabsT_ok {t : Txt} {h : Heap} {K : PySem.W.Frag} (e : tabsT t h.get? K = true) : TabsH t h K := by
  obtain ⟨e1, e2⟩ := ba e
  refine ⟨fun p hp => (ba (List.all_eq_true.mp e1 p hp)).1, fun p hp => Option.isNone_iff_eq_none.mp (ba (ba (List.all_eq_true.mp e1 p hp)).2).1, fun p hp => ?_, fun p hp q hq z => ?_⟩
  · have := (ba (ba (List.all_eq_true.mp e1 p hp)).2).2
    split at this
    · rename_i o ho
      rw [ho, emptyTab_eq this]
    · cases this
  · have := List.all_eq_true.mp (List.all_eq_true.mp e2 p hp) q hq
    rw [z] at this
    simpa using this
def obsQ (t : Txt) (g : Addr → Option Obj) (K : PySem.W.Frag) : AlP := (t.ok K && tabsT t g K, t.fns.map fun f => fnWA K (f.adr K))
theorem obsQ_ok {t : Txt} {h : Heap} {K : PySem.W.Frag} (e : obsQ t h.get? K = valP t) : SaysP t K ∧ TabsH t h K := by
  have e1 : (t.ok K && tabsT t h.get? K) = true := congrArg (fun z : AlP => z.1) e
  have e2 : (t.fns.map fun f => fnWA K (f.adr K)) = t.fns.map Fn.val := congrArg (fun z : AlP => z.2) e
  obtain ⟨h1, h2⟩ := ba e1
  exact ⟨Prod.ext h1 e2, tabsT_ok h2⟩
def obsPG (t : Txt) (g : Addr → Option Obj) : AlP := asK t g fun as => obsQ t g (frG g as)
theorem asK_ex {α : Type} (t : Txt) (g : Addr → Option Obj) (k : List Addr → α) : ∃ as, asK t g k = k as := by
  unfold asK
  simp only [frL_eq]
  exact ⟨_, rfl⟩
def hookP (t : Txt) : PySem.W.Hook where
  α := AlP
  obs := fun s => obsPG t s.heap.get?
  val := fun _ => valP t
  says := fun _ h => ∃ K : PySem.W.Frag, K.In h ∧ SaysP t K ∧ TabsH t h K
  of := fun _ s e => by
    obtain ⟨as, ha⟩ := asK_ex t s.heap.get? fun as => obsQ t s.heap.get? (frG s.heap.get? as)
    exact ⟨_, frG_in, obsQ_ok (ha.symm.trans e)⟩
  keeps := fun _ _ _ ⟨K, hK, c, z⟩ k => ⟨K, PySem.W.Frag.In.keeps hK k, c, z.hd, z.out, fun p hp => k _ _ (z.empty p hp), z.uni⟩
theorem obsPG_eq {t : Txt} {g : Addr → Option Obj} {s : Shared} (h : ∀ a, g a = s.heap.get? a) : obsPG t g = (hookP t).obs s := by
  have e : g = s.heap.get? := funext h
  rw [e] <;> rfl

section
variable {t : Txt} {K : PySem.W.Frag}
theorem SaysP.ok (c : SaysP t K) : t.ok K = true := congrArg (fun z : AlP => z.1) c
theorem SaysP.fa (c : SaysP t K) {f : Fa} (h : f ∈ t.fas) : f.ok K = true := List.all_eq_true.mp (ba c.ok).1 f h
theorem SaysP.fn (c : SaysP t K) {i : Nat} {f : Fn} (h : t.fns[i]? = some f) : ∃ fd, FunD K f.name f.qual f.args f.body f.scope [] [] (f.adr K) fd := by
  have e : t.fns.map (fun f => fnWA K (f.adr K)) = t.fns.map Fn.val := congrArg (fun z : AlP => z.2) c
  have e2 : (t.fns.map fun f => fnWA K (f.adr K))[i]? = (t.fns.map Fn.val)[i]? := by rw [e]
  rw [List.getElem?_map, List.getElem?_map, h] at e2
  exact Fn.funD (Option.some.inj e2) (List.all_eq_true.mp (ba (ba c.ok).2).1 f (List.mem_of_getElem? h))
theorem SaysP.exm (c : SaysP t K) {a b : Cl} (ha : a ∈ t.cls) (hb : b ∈ t.cls) (ea : a.isExc = true) (eb : b.isExc = true) : PySem.W.exmOne K (.ref (ga K a.name)) (.ref (ga K b.name)) = some (t.up a.name b.name) := by
  have h := (ba (ba (ba c.ok).2).2).1
  have h2 := List.all_eq_true.mp (List.all_eq_true.mp h a ha) b hb
  rw [ea, eb] at h2
  exact exm_ok h2
theorem SaysP.prop (c : SaysP t K) {a : Cl} (ha : a ∈ t.cls) {f : Str} (hf : f ∈ a.props) : PropOf K (ga K a.name) f (ma K (ga K a.name) f) (getterIn K (ma K (ga K a.name) f)) := by
  have h := (ba (ba (ba (ba c.ok).2).2).2).1
  exact propB_ok (List.all_eq_true.mp (List.all_eq_true.mp h a ha) f hf)
theorem SaysP.bf (c : SaysP t K) {q : Str × String} (hq : q ∈ t.bfun) : bfB K q = true := by
  have h := (ba (ba (ba (ba (ba c.ok).2).2).2).2).1
  exact List.all_eq_true.mp h q hq
theorem SaysP.more0 (c : SaysP t K) : (t.more K && ((t.inits.all fun q => xiB K q) && (t.inits.isEmpty || (baseB K (ga K t.base) && (Fa.glo t.base).ok K)))) = true := (ba (ba (ba (ba (ba c.ok).2).2).2).2).2
theorem SaysP.more (c : SaysP t K) : t.more K = true := (ba c.more0).1
theorem SaysP.ini (c : SaysP t K) {q : Str × Str} (h : q ∈ t.inits) : xiB K q = true ∧ baseB K (ga K t.base) = true ∧ (Fa.glo t.base).ok K = true := by
  obtain ⟨h1, h2⟩ := ba (ba c.more0).2
  refine ⟨List.all_eq_true.mp h1 q h, ?_⟩
  rcases Bool.or_eq_true_iff.mp h2 with z | z
  · rw [List.isEmpty_iff.mp z] at h
    cases h
  · exact ba z
end
end Pl

set_option Elab.async false
set_option linter.all false
set_option maxRecDepth 100000
set_option maxHeartbeats 0
namespace H91
open PySem PySem.W PySem.Calls PyProof.Rows Pl
abbrev R : OpenRow := OpenLaw.row PySem.Challenge.rw_onepassexact_k91_streams_fed
def T : Txt :=
  { fns := fnsOf R.prog.main.body, cls := clsOf R.prog.main.body, fields := ["place", "index", "steps", "own_machines", "rows", "heard", "past", "blocks"],
    free := ["isinstance", "int", "bool", "str", "tuple", "list", "len", "all", "any", "sum", "zip", "enumerate", "range", "abs", "max", "min", "repr"], bfun := [("gcd", "math.gcd")],
    lams := [73, 75], inits := [("InvalidMachine", "place"), ("InvalidWord", "index")], base := "PassError", also := fun _ => [2],
    up := fun a b => a == b || b == "PassError" }
abbrev hk : Hook := hookP T
def ob (s : SharedT) : AlP := obsPG T (HandSHeadRun.getT s)
theorem ob_eq (s : SharedT) : ob s = hk.obs s.abs := obsPG_eq (HandSHeadRun.getT_eq s)
def names0 : List PySem.Str := ["_wall", "PassError", "InvalidMachines", "InvalidSign", "Unlike", "InvalidIndex", "InvalidMachine", "InvalidWord", "is_integer", "is_from", "is_tuple", "is_sign", "check_word", "check_sign", "lowest_in", "is_fraction", "is_row", "is_matrix", "bottom_in", "whole_in", "told_in", "whole_matrix_in", "moved_whole_in", "move_by_in", "move_in", "dot_in", "Mover", "steps_fault", "machine_fault", "is_machine"]
def names1 : List PySem.Str := ["check_machine", "need_alike_signs", "check_machines", "row_in", "Stream", "_law_pot", "_law_draw", "_law_pick", "_law_same", "_law_low", "_law_plus", "_law_times", "_law_dot", "_law_move", "_law_along", "_law_worth", "_law_fraction", "_law_row", "_law_machine", "_law_word", "_law_caught", "_law_is_model", "_law_refused", "_law_step_right", "_law_right"]
def names : List PySem.Str := names0 ++ names1
theorem hrun (w : World) : HandSHeadRun.RunEqI R (PySem.W.view R.prog [0, 64]) hk ob 9000 names w := by
  unfold HandSHeadRun.RunEqI
  kernel_rfl
end H91

set_option Elab.async false
set_option linter.all false
set_option maxRecDepth 100000
set_option maxHeartbeats 4000000
/-! Pl1: plain data, a store, what stands for it on the layer's heap. -/
namespace Pl
open PySem PySem.Spec PyProof.Rows L2

/-- plain data: tuples by value; a list, an instance by its place in the store; rol: a list that is read alone, by value -/
inductive D where
  | non
  | bl (b : Bool)
  | int (i : Int)
  | str (x : Str)
  | tup (ds : List D)
  | rol (ds : List D)
  | ref (i : Nat)
  deriving Inhabited

/-- an object of the store -/
inductive O where
  | lst (ds : List D)
  | ins (c : Nat) (fs : List (Str × D))
  deriving Inhabited
abbrev Store := List O
abbrev Slots := List (Option D)
/-- an exception: its class, its field -/
structure Exn where
  cls : Nat
  fld : Option (Str × D)
  deriving Inhabited

inductive Out (α : Type) where
  | ok (a : α) (S : Store)
  | exc (x : Exn) (S : Store)
  | bad
  deriving Inhabited
@[reducible] def Out.bind {α β : Type} : Out α → (α → Store → Out β) → Out β
  | .ok a S, k => k a S
  | .exc x S, _ => .exc x S
  | .bad, _ => .bad

section
variable (K : PySem.W.Frag) (H : Hp) (μ : List Addr)
/-- a list that nobody writes -/
def RoL (a : Addr) (vs : List V) : Prop := (∃ o, H a = some (.frz o (.lst vs))) ∨
  ∃ (o : Obj) (its : Array Value) (n : Nat), K.lookup a = some o ∧ o.cls = .type "list" ∧ o.dict = none ∧ o.data = .seq its n ∧ its.size ≤ sizeLine ∧ Vals vs its.toList
mutual
def Rep : D → V → Prop
  | .non, v => v = .non
  | .bl b, v => v = .bl b
  | .int i, v => v = .int i
  | .str x, v => v = .str x
  | .tup ds, v => ∃ a vs, v = .ref a ∧ SqT K H a vs ∧ Reps ds vs
  | .rol ds, v => ∃ a vs, v = .ref a ∧ RoL K H a vs ∧ Reps ds vs
  | .ref i, v => ∃ a, μ[i]? = some a ∧ v = .ref a
def Reps : List D → List V → Prop
  | [], vs => vs = []
  | d :: ds, vs => ∃ v r, vs = v :: r ∧ Rep d v ∧ Reps ds r
end
def FReps : List (Str × D) → List (Str × V) → Prop
  | [], vs => vs = []
  | (f, d) :: fs, vs => ∃ v r, vs = (f, v) :: r ∧ Rep K H μ d v ∧ FReps fs r
end
theorem RoL.sq {K : PySem.W.Frag} {H : Hp} {a : Addr} {vs : List V} (h : RoL K H a vs) : SqL K H a vs := by
  rcases h with ⟨o, h⟩ | h
  · exact .inl (.inr ⟨o, h⟩)
  · exact .inr h

/-- what is known of the classes: the address of each; the tables of code objects that are known -/
structure CA where
  cls : Nat → Option Addr
  tabs : List (Addr × Str)
instance : CoeFun CA fun _ => Nat → Option Addr := ⟨CA.cls⟩
/-- no table of code objects -/
def NoTbl (o : HO) : Prop := ∀ ps, o ≠ .tbl ps
theorem tabs_keep {T : List (Addr × Str)} {H H' : Hp} (h : LamX.Tabs T H) (k : ∀ b o, H b = some o → ((∃ ps, o = .tbl ps) ∨ ∃ c q, o = LamX.CodeO c q) → H' b = some o) : LamX.Tabs T H' := fun p hp => by
  obtain ⟨ps, h1, h2, h3⟩ := h p hp
  refine ⟨ps, k _ _ h1 (.inl ⟨ps, rfl⟩), h2, fun pos cv hc => ?_⟩
  obtain ⟨c, e1, e2⟩ := h3 pos cv hc
  exact ⟨c, e1, k _ _ e2 (.inr ⟨c, _, rfl⟩)⟩
def ORep (K : PySem.W.Frag) (ca : CA) (H : Hp) (μ : List Addr) : O → Addr → Prop
  | .lst ds, a => ∃ vs, H a = some (.lst vs) ∧ Reps K H μ ds vs
  | .ins c fs, a => ∃ C dx fv, ca c = some C ∧ H a = some (.ins C dx fv) ∧ FReps K H μ fs fv

/-- the store stands on the heap -/
structure SR (K : PySem.W.Frag) (ca : CA) (H : Hp) (μ : List Addr) (S : Store) : Prop where
  len : μ.length = S.length
  nd : μ.Nodup
  obj : ∀ (i : Nat) (o : O), S[i]? = some o → ∃ a, μ[i]? = some a ∧ ORep K ca H μ o a
  tab : LamX.Tabs ca.tabs H

/-- the heap goes on: new objects, the store's objects changed, all else as it was -/
structure Step (H : Hp) (μ : List Addr) (H' : Hp) (μ' : List Addr) : Prop where
  pre : ∃ ν, μ' = μ ++ ν ∧ ∀ a ∈ ν, ∀ u, H a = some u → ¬ NoTbl u
  tup : ∀ a xs, H a = some (.tup xs) → H' a = some (.tup xs)
  frz : ∀ a o u, H a = some (.frz o u) → H' a = some (.frz o u)
  oth : ∀ a u, H a = some u → a ∉ μ → NoTbl u → H' a = some u
  trk : ∀ a u, H a = some u → NoTbl u → ∃ u', H' a = some u' ∧ NoTbl u'

/-- what a datum's standing leans on -/
structure Grow (H : Hp) (μ : List Addr) (H' : Hp) (μ' : List Addr) : Prop where
  mu : ∀ (i : Nat) (a : Addr), μ[i]? = some a → μ'[i]? = some a
  tup : ∀ a xs, H a = some (.tup xs) → H' a = some (.tup xs)
  frz : ∀ a o u, H a = some (.frz o u) → H' a = some (.frz o u)
theorem Step.grow {H H' : Hp} {μ μ' : List Addr} (s : Step H μ H' μ') : Grow H μ H' μ' := by
  refine ⟨fun i a h => ?_, s.tup, s.frz⟩
  obtain ⟨ν, e, _⟩ := s.pre
  rw [e, List.getElem?_append_left (List.getElem?_eq_some_iff.mp h).1]
  exact h
theorem Step.refl (H : Hp) (μ : List Addr) : Step H μ H μ :=
  ⟨⟨[], by simp, by simp⟩, fun _ _ h => h, fun _ _ _ h => h, fun _ _ h _ _ => h, fun _ u h n => ⟨u, h, n⟩⟩
theorem Step.trans {H H1 H2 : Hp} {μ μ1 μ2 : List Addr} (a : Step H μ H1 μ1) (b : Step H1 μ1 H2 μ2) : Step H μ H2 μ2 := by
  obtain ⟨ν1, e1, n1⟩ := a.pre
  obtain ⟨ν2, e2, n2⟩ := b.pre
  refine ⟨⟨ν1 ++ ν2, by rw [e2, e1, List.append_assoc], fun x hx u hu hn => ?_⟩, fun x xs h => b.tup x xs (a.tup x xs h), fun x o u h => b.frz x o u (a.frz x o u h), fun x u h hn ht => ?_, fun x u h ht => ?_⟩
  · rcases List.mem_append.mp hx with h | h
    · exact n1 x h u hu hn
    · obtain ⟨u', h1, h2⟩ := a.trk x u hu hn
      exact n2 x h u' h1 h2
  · refine b.oth x u (a.oth x u h hn ht) (fun hm => ?_) ht
    rw [e1] at hm
    rcases List.mem_append.mp hm with q | q
    · exact hn q
    · exact n1 x q u h ht
  · obtain ⟨u', h1, h2⟩ := a.trk x u h ht
    exact b.trk x u' h1 h2

section
variable {K : PySem.W.Frag} {ca : CA} {H H' : Hp} {μ μ' : List Addr}
theorem Grow.sqT (s : Grow H μ H' μ') {a : Addr} {vs : List V} (h : SqT K H a vs) : SqT K H' a vs := by
  rcases h with h | h
  · rcases h with h | ⟨o, h⟩
    · exact .inl (.inl (s.tup _ _ h))
    · exact .inl (.inr ⟨o, s.frz _ _ _ h⟩)
  · exact .inr h
theorem Grow.roL (s : Grow H μ H' μ') {a : Addr} {vs : List V} (h : RoL K H a vs) : RoL K H' a vs := by
  rcases h with ⟨o, h⟩ | h
  · exact .inl ⟨o, s.frz _ _ _ h⟩
  · exact .inr h
mutual
theorem Rep.step (s : Grow H μ H' μ') : ∀ (d : D) (v : V), Rep K H μ d v → Rep K H' μ' d v
  | .non, _, h => h
  | .bl _, _, h => h
  | .int _, _, h => h
  | .str _, _, h => h
  | .tup ds, v, h => by
    unfold Rep at h ⊢
    obtain ⟨a, vs, e, q, r⟩ := h
    exact ⟨a, vs, e, s.sqT q, Reps.step s ds vs r⟩
  | .rol ds, v, h => by
    unfold Rep at h ⊢
    obtain ⟨a, vs, e, q, r⟩ := h
    exact ⟨a, vs, e, s.roL q, Reps.step s ds vs r⟩
  | .ref i, v, h => by
    unfold Rep at h ⊢
    obtain ⟨a, q, e⟩ := h
    exact ⟨a, s.mu _ _ q, e⟩
theorem Reps.step (s : Grow H μ H' μ') : ∀ (ds : List D) (vs : List V), Reps K H μ ds vs → Reps K H' μ' ds vs
  | [], _, h => h
  | d :: ds, vs, h => by
    unfold Reps at h ⊢
    obtain ⟨v, r, e, h1, h2⟩ := h
    exact ⟨v, r, e, Rep.step s d v h1, Reps.step s ds r h2⟩
end
theorem FReps.step (s : Grow H μ H' μ') : ∀ (fs : List (Str × D)) (vs : List (Str × V)), FReps K H μ fs vs → FReps K H' μ' fs vs
  | [], _, h => h
  | (f, d) :: fs, vs, h => by
    unfold FReps at h ⊢
    obtain ⟨v, r, e, h1, h2⟩ := h
    exact ⟨v, r, e, Rep.step s d v h1, FReps.step s fs r h2⟩

/-! ### lists of data -/
theorem Reps.len : ∀ {ds : List D} {vs : List V}, Reps K H μ ds vs → vs.length = ds.length
  | [], vs, h => by unfold Reps at h; subst h; rfl
  | d :: ds, vs, h => by
    unfold Reps at h
    obtain ⟨v, r, e, _, h2⟩ := h
    subst e
    simp [Reps.len h2]
theorem Reps.get : ∀ {ds : List D} {vs : List V} {i : Nat} {d : D}, Reps K H μ ds vs → ds[i]? = some d → ∃ v, vs[i]? = some v ∧ Rep K H μ d v
  | [], vs, i, d, h, e => by simp at e
  | x :: ds, vs, 0, d, h, e => by
    unfold Reps at h
    obtain ⟨v, r, e1, h1, h2⟩ := h
    subst e1
    have : x = d := by simpa using e
    subst this
    exact ⟨v, rfl, h1⟩
  | x :: ds, vs, i + 1, d, h, e => by
    unfold Reps at h
    obtain ⟨v, r, e1, h1, h2⟩ := h
    subst e1
    obtain ⟨w, q1, q2⟩ := Reps.get (i := i) (d := d) h2 (by simpa using e)
    exact ⟨w, by simpa using q1, q2⟩
theorem Reps.getV : ∀ {ds : List D} {vs : List V} {i : Nat} {v : V}, Reps K H μ ds vs → vs[i]? = some v → ∃ d, ds[i]? = some d ∧ Rep K H μ d v := by
  intro ds vs i v h e
  have l := h.len
  have hi : i < ds.length := by rw [← l]; exact (List.getElem?_eq_some_iff.mp e).1
  obtain ⟨w, q1, q2⟩ := h.get (List.getElem?_eq_getElem hi)
  rw [e] at q1
  cases q1
  exact ⟨_, List.getElem?_eq_getElem hi, q2⟩
theorem Reps.nil : Reps K H μ [] [] := by unfold Reps; rfl
theorem Reps.cons {d : D} {v : V} {ds : List D} {vs : List V} (h : Rep K H μ d v) (t : Reps K H μ ds vs) : Reps K H μ (d :: ds) (v :: vs) := by
  unfold Reps; exact ⟨v, vs, rfl, h, t⟩
theorem Reps.append : ∀ {ds es : List D} {vs ws : List V}, Reps K H μ ds vs → Reps K H μ es ws → Reps K H μ (ds ++ es) (vs ++ ws)
  | [], _, vs, _, h, g => by unfold Reps at h; subst h; exact g
  | d :: ds, es, vs, ws, h, g => by
    unfold Reps at h
    obtain ⟨v, r, e, h1, h2⟩ := h
    subst e
    exact Reps.cons h1 (Reps.append h2 g)
theorem Reps.drop : ∀ {ds : List D} {vs : List V} (n : Nat), Reps K H μ ds vs → Reps K H μ (ds.drop n) (vs.drop n)
  | ds, vs, 0, h => h
  | [], vs, n + 1, h => by unfold Reps at h; subst h; exact Reps.nil
  | d :: ds, vs, n + 1, h => by
    unfold Reps at h
    obtain ⟨v, r, e, _, h2⟩ := h
    subst e
    exact Reps.drop n h2
theorem Reps.take : ∀ {ds : List D} {vs : List V} (n : Nat), Reps K H μ ds vs → Reps K H μ (ds.take n) (vs.take n)
  | ds, vs, 0, h => Reps.nil
  | [], vs, n + 1, h => by unfold Reps at h; subst h; exact Reps.nil
  | d :: ds, vs, n + 1, h => by
    unfold Reps at h
    obtain ⟨v, r, e, h1, h2⟩ := h
    subst e
    exact Reps.cons h1 (Reps.take n h2)
theorem Reps.set {d : D} {v : V} (hd : Rep K H μ d v) : ∀ {ds : List D} {vs : List V} (i : Nat), Reps K H μ ds vs → Reps K H μ (ds.set i d) (vs.set i v)
  | [], vs, i, h => by unfold Reps at h; subst h; exact Reps.nil
  | x :: ds, vs, 0, h => by
    unfold Reps at h
    obtain ⟨w, r, e, _, h2⟩ := h
    subst e
    exact Reps.cons hd h2
  | x :: ds, vs, i + 1, h => by
    unfold Reps at h
    obtain ⟨w, r, e, h1, h2⟩ := h
    subst e
    exact Reps.cons h1 (Reps.set hd i h2)
theorem Reps.rep {d : D} {v : V} (hd : Rep K H μ d v) : ∀ n, Reps K H μ (List.replicate n d) (List.replicate n v)
  | 0 => Reps.nil
  | n + 1 => Reps.cons hd (Reps.rep hd n)
theorem Reps.reps {ds : List D} {vs : List V} (h : Reps K H μ ds vs) : ∀ n, Reps K H μ (List.replicate n ds).flatten (List.replicate n vs).flatten
  | 0 => Reps.nil
  | n + 1 => by
    rw [List.replicate_succ, List.replicate_succ, List.flatten_cons, List.flatten_cons]
    exact h.append (Reps.reps h n)
theorem Reps.dropLast {ds : List D} {vs : List V} (h : Reps K H μ ds vs) : Reps K H μ ds.dropLast vs.dropLast := by
  rw [List.dropLast_eq_take, List.dropLast_eq_take, h.len]
  exact h.take _

theorem FReps.lookup : ∀ {fs : List (Str × D)} {vs : List (Str × V)} {f : Str}, FReps K H μ fs vs → (∀ d, fs.lookup f = some d → ∃ v, vs.lookup f = some v ∧ Rep K H μ d v) ∧ (fs.lookup f = none → vs.lookup f = none)
  | [], vs, f, h => by unfold FReps at h; subst h; exact ⟨fun d e => by simp at e, fun _ => rfl⟩
  | (g, x) :: fs, vs, f, h => by
    unfold FReps at h
    obtain ⟨v, r, e, h1, h2⟩ := h
    subst e
    have ih := FReps.lookup (f := f) h2
    by_cases hg : f = g
    · subst hg
      simp only [List.lookup, beq_self_eq_true]
      exact ⟨fun d e => ⟨v, rfl, by cases e; exact h1⟩, fun e => by cases e⟩
    · have : (f == g) = false := by simpa using hg
      simp only [List.lookup, this]
      exact ih
theorem FReps.len : ∀ {fs : List (Str × D)} {vs : List (Str × V)}, FReps K H μ fs vs → vs.length = fs.length
  | [], vs, h => by unfold FReps at h; subst h; rfl
  | (g, x) :: fs, vs, h => by
    unfold FReps at h
    obtain ⟨v, r, e, _, h2⟩ := h
    subst e
    simp [FReps.len h2]
end
/-- a field's store -/
def putD (f : Str) (d : D) : List (Str × D) → List (Str × D)
  | [] => [(f, d)]
  | (g, x) :: r => if g = f then (g, d) :: r else (g, x) :: putD f d r
section
variable {K : PySem.W.Frag} {ca : CA} {H H' : Hp} {μ μ' : List Addr}
theorem FReps.put {f : Str} {d : D} {v : V} (hd : Rep K H μ d v) : ∀ {fs : List (Str × D)} {vs : List (Str × V)}, FReps K H μ fs vs → FReps K H μ (putD f d fs) (putF f v vs)
  | [], vs, h => by unfold FReps at h; subst h; unfold putD putF FReps; exact ⟨v, [], rfl, hd, by unfold FReps; rfl⟩
  | (g, x) :: fs, vs, h => by
    unfold FReps at h
    obtain ⟨w, r, e, h1, h2⟩ := h
    subst e
    unfold putD putF
    by_cases hg : g = f
    · rw [if_pos hg, if_pos hg]
      unfold FReps
      exact ⟨v, r, rfl, hd, h2⟩
    · rw [if_neg hg, if_neg hg]
      unfold FReps
      exact ⟨w, _, rfl, h1, FReps.put hd h2⟩

/-! ### the store's steps -/
theorem SR.tracked {S : Store} (h : SR K ca H μ S) {a : Addr} (ha : a ∈ μ) : ∃ u, H a = some u ∧ Mut (some u) := by
  obtain ⟨i, hi, e⟩ := List.getElem_of_mem ha
  have hi' : i < S.length := by rw [← h.len]; exact hi
  obtain ⟨b, e2, q⟩ := h.obj i _ (List.getElem?_eq_getElem hi')
  rw [List.getElem?_eq_getElem hi, e] at e2
  cases e2
  cases ho : S[i] with
  | lst ds => rw [ho] at q; obtain ⟨vs, q1, _⟩ := q; exact ⟨_, q1, trivial⟩
  | ins c fs => rw [ho] at q; obtain ⟨C, dx, fv, _, q1, _⟩ := q; exact ⟨_, q1, trivial⟩
theorem SR.kind {S : Store} (h : SR K ca H μ S) {a : Addr} (ha : a ∈ μ) : (∃ vs, H a = some (.lst vs)) ∨ ∃ C dx fv, H a = some (.ins C dx fv) := by
  obtain ⟨i, hi, e⟩ := List.getElem_of_mem ha
  have hi' : i < S.length := by rw [← h.len]; exact hi
  obtain ⟨b, e2, q⟩ := h.obj i _ (List.getElem?_eq_getElem hi')
  rw [List.getElem?_eq_getElem hi, e] at e2
  cases e2
  cases ho : S[i] with
  | lst ds => rw [ho] at q; obtain ⟨vs, q1, _⟩ := q; exact .inl ⟨vs, q1⟩
  | ins c fs => rw [ho] at q; obtain ⟨C, dx, fv, _, q1, _⟩ := q; exact .inr ⟨C, dx, fv, q1⟩
/-- what is neither a table nor a code object is written -/
theorem tabs_upd {T : List (Addr × Str)} {p : Addr} {o : HO} (h : LamX.Tabs T H) (hp : H p = none ∨ (∃ vs, H p = some (.lst vs)) ∨ ∃ C dx fv, H p = some (.ins C dx fv)) : LamX.Tabs T (upd H p o) := tabs_keep h fun b o' hb hk => by
  rw [upd_ne fun z => ?_]
  · exact hb
  · subst z
    rcases hp with hp | ⟨vs, hp⟩ | ⟨C, dx, fv, hp⟩
    · rw [hp] at hb; cases hb
    · rw [hp] at hb
      cases hb
      rcases hk with ⟨ps, e⟩ | ⟨c, q, e⟩
      · cases e
      · unfold LamX.CodeO at e; cases e
    · rw [hp] at hb
      cases hb
      rcases hk with ⟨ps, e⟩ | ⟨c, q, e⟩
      · cases e
      · unfold LamX.CodeO at e; cases e
theorem SR.fresh {S : Store} (h : SR K ca H μ S) {p : Addr} (hp : H p = none) : p ∉ μ := fun hm => by
  obtain ⟨u, e, _⟩ := h.tracked hm
  rw [hp] at e; cases e
/-- a new object beside the store (a tuple) -/
theorem Step.new (μ : List Addr) {p : Addr} {o : HO} (hp : H p = none) (ho : NoTbl o := by intro ps hps; cases hps) : Step H μ (upd H p o) μ := by
  have ne : ∀ a u, H a = some u → a ≠ p := fun a u e z => by subst z; rw [hp] at e; cases e
  refine ⟨⟨[], by simp, by simp⟩, fun a xs h => ?_, fun a q u h => ?_, fun a u h _ _ => ?_, fun a u h n => ?_⟩
  · rw [upd_ne (ne a _ h)]; exact h
  · rw [upd_ne (ne a _ h)]; exact h
  · rw [upd_ne (ne a _ h)]; exact h
  · exact ⟨u, by rw [upd_ne (ne a _ h)]; exact h, n⟩
theorem ORep.step {o : O} {a : Addr} (s : Grow H μ H' μ') (e : H' a = H a) (h : ORep K ca H μ o a) : ORep K ca H' μ' o a := by
  cases o with
  | lst ds => obtain ⟨vs, q, r⟩ := h; exact ⟨vs, e.trans q, Reps.step s _ _ r⟩
  | ins c fs => obtain ⟨C, dx, fv, q1, q2, r⟩ := h; exact ⟨C, dx, fv, q1, e.trans q2, FReps.step s _ _ r⟩
theorem grow_new {p : Addr} {o : HO} (hp : H p = none) : Grow H μ (upd H p o) μ := by
  have ne : ∀ a u, H a = some u → a ≠ p := fun a u e z => by subst z; rw [hp] at e; cases e
  exact ⟨fun _ _ h => h, fun a xs h => by rw [upd_ne (ne a _ h)]; exact h, fun a q u h => by rw [upd_ne (ne a _ h)]; exact h⟩
theorem SR.new {S : Store} (h : SR K ca H μ S) {p : Addr} {o : HO} (hp : H p = none) : SR K ca (upd H p o) μ S := by
  refine ⟨h.len, h.nd, fun i x e => ?_, tabs_upd h.tab (.inl hp)⟩
  obtain ⟨a, q1, q2⟩ := h.obj i x e
  refine ⟨a, q1, q2.step (grow_new hp) (upd_ne fun z => ?_)⟩
  subst z
  exact h.fresh hp (List.mem_of_getElem? q1)
/-- a new object of the store -/
theorem Step.alloc {p : Addr} {o : HO} (hp : H p = none) (ho : NoTbl o := by intro ps hps; cases hps) : Step H μ (upd H p o) (μ ++ [p]) := by
  have s := Step.new (H := H) μ (o := o) hp ho
  exact ⟨⟨[p], rfl, fun a ha u hu _ => by
    have : a = p := by simpa using ha
    subst this
    rw [hp] at hu
    cases hu⟩, s.tup, s.frz, s.oth, s.trk⟩
theorem grow_alloc {p : Addr} {o : HO} (hp : H p = none) : Grow H μ (upd H p o) (μ ++ [p]) := by
  have g := grow_new (H := H) (μ := μ) (o := o) hp
  exact ⟨fun i a h => by rw [List.getElem?_append_left (List.getElem?_eq_some_iff.mp h).1]; exact h, g.tup, g.frz⟩
theorem SR.alloc {S : Store} (h : SR K ca H μ S) {p : Addr} {o : HO} {x : O} (hp : H p = none) (hx : ORep K ca (upd H p o) (μ ++ [p]) x p) : SR K ca (upd H p o) (μ ++ [p]) (S ++ [x]) := by
  have hf := h.fresh hp
  refine ⟨by simp [h.len], ?_, fun i y e => ?_, tabs_upd h.tab (.inl hp)⟩
  · rw [List.nodup_append]
    refine ⟨h.nd, by simp, fun a ha b hb => ?_⟩
    have : b = p := by simpa using hb
    subst this
    rintro rfl
    exact hf ha
  · by_cases hi : i < S.length
    · rw [List.getElem?_append_left hi] at e
      obtain ⟨a, q1, q2⟩ := h.obj i y e
      refine ⟨a, by rw [List.getElem?_append_left (by rw [h.len]; exact hi)]; exact q1, q2.step (grow_alloc hp) (upd_ne fun z => ?_)⟩
      subst z
      exact hf (List.mem_of_getElem? q1)
    · have hi2 : S.length ≤ i := Nat.le_of_not_lt hi
      rw [List.getElem?_append_right hi2] at e
      have h0 : i - S.length = 0 := by
        rcases Nat.eq_zero_or_pos (i - S.length) with z | z
        · exact z
        · rw [List.getElem?_eq_none (by simp; omega)] at e; cases e
      rw [h0] at e
      have : x = y := by simpa using e
      subst this
      refine ⟨p, ?_, hx⟩
      rw [List.getElem?_append_right (by rw [h.len]; exact hi2), h.len, h0]
      rfl
/-- an object of the store is written -/
theorem grow_write {S : Store} (h : SR K ca H μ S) {i : Nat} {a : Addr} {o : HO} (ha : μ[i]? = some a) : Grow H μ (upd H a o) μ := by
  have kd := h.kind (List.mem_of_getElem? ha)
  refine ⟨fun _ _ h => h, fun b xs q => ?_, fun b w v q => ?_⟩
  · rw [upd_ne fun z => by
      subst z
      rcases kd with ⟨vs, e⟩ | ⟨_, _, _, e⟩ <;> (rw [e] at q; cases q)]
    exact q
  · rw [upd_ne fun z => by
      subst z
      rcases kd with ⟨vs, e⟩ | ⟨_, _, _, e⟩ <;> (rw [e] at q; cases q)]
    exact q
theorem Step.write {S : Store} (h : SR K ca H μ S) {i : Nat} {a : Addr} {o : HO} (ha : μ[i]? = some a) (ho : NoTbl o := by intro ps hps; cases hps) : Step H μ (upd H a o) μ := by
  have g := grow_write (o := o) h ha
  refine ⟨⟨[], by simp, by simp⟩, g.tup, g.frz, fun b v q hb _ => ?_, fun b u q n => ?_⟩
  · rw [upd_ne fun z => by subst z; exact hb (List.mem_of_getElem? ha)]; exact q
  · by_cases hb : b = a
    · subst hb
      exact ⟨o, upd_same, ho⟩
    · exact ⟨u, by rw [upd_ne hb]; exact q, n⟩
theorem SR.write {S : Store} (h : SR K ca H μ S) {i : Nat} {a : Addr} {o : HO} {x : O} (ha : μ[i]? = some a) (hx : ORep K ca (upd H a o) μ x a) : SR K ca (upd H a o) μ (S.set i x) := by
  have hiμ : i < μ.length := (List.getElem?_eq_some_iff.mp ha).1
  refine ⟨by simp [h.len], h.nd, fun j y e => ?_, tabs_upd h.tab (.inr (h.kind (List.mem_of_getElem? ha)))⟩
  by_cases hj : i = j
  · subst hj
    rw [List.getElem?_set_self (by rw [← h.len]; exact hiμ)] at e
    cases e
    exact ⟨a, ha, hx⟩
  · rw [List.getElem?_set_ne hj] at e
    obtain ⟨b, q1, q2⟩ := h.obj j y e
    refine ⟨b, q1, q2.step (grow_write h ha) (upd_ne fun z => ?_)⟩
    subst z
    obtain ⟨l1, e1⟩ := List.getElem?_eq_some_iff.mp ha
    obtain ⟨l2, e2⟩ := List.getElem?_eq_some_iff.mp q1
    exact hj ((List.getElem_inj h.nd).mp (e1.trans e2.symm))
end
end Pl

set_option Elab.async false
set_option linter.all false
set_option maxRecDepth 100000
set_option maxHeartbeats 4000000
/-! Pl2: a small language and its evaluator over plain data. -/
namespace Pl
open PySem PyProof.Rows L2

inductive Bop where
  | add | sub | mul | fdiv | mod | pow
  deriving DecidableEq
inductive Cop where
  | eq | ne | lt | le | gt | ge
  deriving DecidableEq
inductive Ty where
  | int | bool | str | tuple | list
  deriving DecidableEq
inductive Blt where
  | len | list | tuple | all | any | sum | abs | max | min | int | repr | gcd
  deriving DecidableEq
inductive Bm where
  | append | pop
  deriving DecidableEq

mutual
inductive E where
  | var (i : Nat)
  | cst (d : D)
  | bin (op : Bop) (a b : E)
  | cmp (op : Cop) (a b : E)
  | isN (a : E)
  | notN (a : E)
  | and (a b : E)
  | or (a b : E)
  | not (a : E)
  | ite (c a b : E)
  | tup (es : Es)
  | lst (es : Es)
  | idx (a i : E)
  | slc (a : E) (lo hi : Oe)
  | call (f : Nat) (es : Es) (ks : List Str) (kes : Es)
  | blt (b : Blt) (es : Es)
  | isi (a : E) (t : Ty)
  | fld (o : E) (f : Str)
  | mth (o : E) (m : Str) (es : Es) (ks : List Str) (kes : Es)
  | bm (b : Bm) (o : E) (es : Es)
  | mk (c : Nat) (es : Es) (ks : List Str) (kes : Es)
  | comp (elt : E) (own : List Nat) (t : T) (it : I) (c : Oe)
  | comp2 (elt : E) (own own2 : List Nat) (t : T) (it : I) (t2 : T) (it2 : I)
  /-- f(lambda: e), f telling what e raises -/
  | told (e : E) (hs : List (Nat × Str × Option Str))
inductive Es where
  | nil
  | cons (e : E) (es : Es)
inductive Oe where
  | none
  | some (e : E)
inductive I where
  | seq (e : E)
  | rng1 (a : E)
  | rng2 (a b : E)
  | enum (e : E)
  | zip (a b : E)
inductive T where
  | name (i : Nat)
  | tup (ts : Ts)
  | fld (o : E) (f : Str)
  | idx (o i : E)
inductive Ts where
  | nil
  | cons (t : T) (ts : Ts)
end
instance : Inhabited E := ⟨.cst .non⟩
instance : Inhabited T := ⟨.name 0⟩
instance : Inhabited I := ⟨.seq (.cst .non)⟩

mutual
inductive C where
  | pass
  | expr (e : E)
  | asg (t : T) (e : E)
  | par (is : List Nat) (es : Es)
  | aug (i : Nat) (op : Bop) (e : E)
  | ite (c : E) (a b : Cs)
  | whl (c : E) (b : Cs)
  | for_ (t : T) (it : I) (b : Cs)
  | ret (e : E)
  | brk
  | cnt
  | raise (c : Nat)
  /-- an error with an own field -/
  | raiseF (c : Nat) (f : Str) (e : E)
  | tryx (b : Cs) (hs : Hs)
  | never
inductive Cs where
  | nil
  | cons (c : C) (cs : Cs)
inductive Hs where
  | nil
  | cons (c : Nat) (b : Cs) (hs : Hs)
end

/-- a def, a class of the text -/
structure Fi where
  /-- the module's name, none for a method -/
  glob : Option Str
  ps : List Str
  n : Nat
  body : Cs
structure Ci where
  name : Str
  inst : Bool
  exc : Bool
  meths : List (Str × Nat)
  props : List (Str × Nat)
structure Tb where
  fns : List Fi
  cls : List Ci
  flds : List Str
  up : Nat → Nat → Bool

def Tb.inst (tb : Tb) (c : Nat) : Bool := match tb.cls[c]? with
  | some ci => ci.inst
  | none => false
def Tb.exc (tb : Tb) (c : Nat) : Bool := match tb.cls[c]? with
  | some ci => ci.exc
  | none => false
/-! ### data -/
/-- a list or tuple that is read -/
def seqD (S : Store) : D → Option (List D)
  | .tup ds => some ds
  | .rol ds => some ds
  | .ref i => match S[i]? with
    | some (.lst ds) => some ds
    | _ => none
  | _ => none
/-- as data of the model -/
def toPy (S : Store) : Nat → D → Option PyData
  | 0, _ => none
  | n + 1, d => match d with
    | .non => some .none
    | .bl b => some (.bool b)
    | .int i => some (.int i)
    | .str x => some (.str x)
    | .tup ds => (ds.mapM (toPy S n)).map .tuple
    | .rol ds => (ds.mapM (toPy S n)).map .list
    | .ref i => match S[i]? with
      | some (.lst ds) => (ds.mapM (toPy S n)).map .list
      | _ => none
def intsD : List D → Option (List Int)
  | [] => some []
  | .int i :: ds => (intsD ds).map (i :: ·)
  | _ => none
def blsD : List D → Option (List Bool)
  | [] => some []
  | .bl b :: ds => (blsD ds).map (b :: ·)
  | _ => none
def tyD (S : Store) : D → Option Ty
  | .bl _ => some .bool
  | .int _ => some .int
  | .str _ => some .str
  | .tup _ => some .tuple
  | .rol _ => some .list
  | .ref i => match S[i]? with
    | some (.lst _) => some .list
    | _ => none
  | .non => none
def isNon : D → Bool
  | .non => true
  | _ => false
def isTy : Ty → Ty → Bool
  | .bool, .int => true
  | a, b => decide (a = b)
def isiE (t : Ty) (x : D) (S : Store) : Out D := match x with
  | .non => .ok (.bl false) S
  | x => match tyD S x with
    | some u => .ok (.bl (isTy u t)) S
    | none => .bad
def truD (S : Store) : D → Option Bool
  | .non => some false
  | .bl b => some b
  | .int i => some (i != 0)
  | .str x => if x.length ≤ sizeLine then some ((x.length : Int) != 0) else none
  | d => (seqD S d).map fun ds => !ds.isEmpty
def cutD (xs : List D) (lo hi : Option Int) : List D := (xs.drop (HT.sIx xs.length 0 lo)).take (HT.sIx xs.length xs.length hi - HT.sIx xs.length 0 lo)

def addE (a b : D) (S : Store) : Out D := match a, b with
  | .int i, .int j => .ok (.int (i + j)) S
  | .str x, .str y => if x.length + y.length ≤ sizeLine then .ok (.str (x ++ y)) S else .bad
  | .tup xs, .tup ys => if xs.length + ys.length ≤ sizeLine then .ok (.tup (xs ++ ys)) S else .bad
  | .ref i, .ref j => match S[i]?, S[j]? with
    | some (.lst xs), some (.lst ys) => if xs.length + ys.length ≤ sizeLine then .ok (.ref S.length) (S ++ [.lst (xs ++ ys)]) else .bad
    | _, _ => .bad
  | _, _ => .bad
def subE (a b : D) (S : Store) : Out D := match a, b with
  | .int i, .int j => .ok (.int (i - j)) S
  | _, _ => .bad
def mulE (a b : D) (S : Store) : Out D := match a, b with
  | .int i, .int j => if i.natAbs.log2 + j.natAbs.log2 < 1000000 ∨ i.natAbs < 2 ^ 64 ∨ j.natAbs < 2 ^ 64 then .ok (.int (i * j)) S else .bad
  | .ref i, .int k => match S[i]? with
    | some (.lst xs) => if k.natAbs < 2 ^ 63 ∧ xs.length * k.toNat ≤ sizeLine then .ok (.ref S.length) (S ++ [.lst (List.replicate k.toNat xs).flatten]) else .bad
    | _ => .bad
  | _, _ => .bad
def fdivE (a b : D) (S : Store) : Out D := match a, b with
  | .int i, .int j => if 0 < j ∧ j.natAbs.log2 < 9000 then .ok (.int (i / j)) S else .bad
  | _, _ => .bad
def modE (a b : D) (S : Store) : Out D := match a, b with
  | .int i, .int j => if 0 < j then .ok (.int (i % j)) S else .bad
  | _, _ => .bad
def powE (a b : D) (S : Store) : Out D := match a, b with
  | .int i, .int j => if 0 ≤ j ∧ ((i.natAbs.log2 + 1 : Nat) : Int) * j ≤ 134217728 then .ok (.int (i ^ j.toNat)) S else .bad
  | _, _ => .bad
def binE (op : Bop) : D → D → Store → Out D := match op with
  | .add => addE
  | .sub => subE
  | .mul => mulE
  | .fdiv => fdivE
  | .mod => modE
  | .pow => powE
/-- == of data -/
def eqD (S : Store) (a b : D) : Option Bool := match a, b with
  | .int i, .int j => some (decide (i = j))
  | .str x, .str y => some (decide (x = y))
  | .bl x, .bl y => some (decide (x = y))
  | _, _ => match toPy S 40 a, toPy S 40 b with
    | some p, some q => if SeqAt.shaped p = true ∧ SeqAt.shaped q = true then some (PyData.eqv p q) else none
    | _, _ => none
def eqE (neg : Bool) (a b : D) (S : Store) : Out D := match eqD S a b with
  | some k => .ok (.bl (if neg = true then !k else k)) S
  | none => .bad
def ordE (p : Int → Int → Bool) (a b : D) (S : Store) : Out D := match a, b with
  | .int i, .int j => .ok (.bl (p i j)) S
  | _, _ => .bad
def cmpE (op : Cop) : D → D → Store → Out D := match op with
  | .eq => eqE false
  | .ne => eqE true
  | .lt => ordE fun i j => decide (i < j)
  | .le => ordE fun i j => decide (i ≤ j)
  | .gt => ordE fun i j => decide (j < i)
  | .ge => ordE fun i j => decide (j ≤ i)
def idxE (a i : D) (S : Store) : Out D := match i with
  | .int k => match a with
    | .str x => if x.length ≤ sizeLine then (match atI x.cps.toList k with
      | some c => .ok (.str ⟨#[c]⟩) S
      | none => .bad) else .bad
    | _ => match seqD S a with
      | some ds => match atI ds k with
        | some d => .ok d S
        | none => .bad
      | none => .bad
  | _ => .bad
def slcE (a : D) (lo hi : Option Int) (S : Store) : Out D := match a with
  | .tup ds => .ok (.tup (cutD ds lo hi)) S
  | _ => match seqD S a with
    | some ds => .ok (.ref S.length) (S ++ [.lst (cutD ds lo hi)])
    | none => .bad
def lenE (ds : List D) (S : Store) : Out D := match ds with
  | [.str x] => if x.length ≤ sizeLine then .ok (.int x.length) S else .bad
  | [d] => match seqD S d with
    | some xs => .ok (.int xs.length) S
    | none => .bad
  | _ => .bad
def listE (ds : List D) (S : Store) : Out D := match ds with
  | [d] => match seqD S d with
    | some xs => .ok (.ref S.length) (S ++ [.lst xs])
    | none => .bad
  | _ => .bad
def tupleE (ds : List D) (S : Store) : Out D := match ds with
  | [d] => match seqD S d with
    | some xs => .ok (.tup xs) S
    | none => .bad
  | _ => .bad
/-- the items of a list, no tuple -/
def lstD (S : Store) : D → Option (List D)
  | .tup _ => none
  | d => seqD S d
def allE (ds : List D) (S : Store) : Out D := match ds with
  | [d] => match (lstD S d).bind blsD with
    | some bs => .ok (.bl (bs.all id)) S
    | none => .bad
  | _ => .bad
def anyE (ds : List D) (S : Store) : Out D := match ds with
  | [d] => match (lstD S d).bind blsD with
    | some bs => .ok (.bl (bs.any id)) S
    | none => .bad
  | _ => .bad
def sumE (ds : List D) (S : Store) : Out D := match ds with
  | [d] => match (lstD S d).bind intsD with
    | some is => .ok (.int is.sum) S
    | none => .bad
  | _ => .bad
def absE (ds : List D) (S : Store) : Out D := match ds with
  | [.int i] => .ok (.int (if i < 0 then -i else i)) S
  | _ => .bad
def maxE (ds : List D) (S : Store) : Out D := match ds with
  | [.int i, .int j] => .ok (.int (if j > i then j else i)) S
  | _ => .bad
def minE (ds : List D) (S : Store) : Out D := match ds with
  | [.int i, .int j] => .ok (.int (if j < i then j else i)) S
  | _ => .bad
def intE (ds : List D) (S : Store) : Out D := match ds with
  | [.int i] => .ok (.int i) S
  | [.bl k] => .ok (.int (if k then 1 else 0)) S
  | _ => .bad
def reprE (ds : List D) (S : Store) : Out D := match ds with
  | [d] => match toPy S 40 d with
    | some p => if p.showable = true ∧ p.shown.length ≤ sizeLine ∧ p.depth ≤ 60 ∧ p.hasDict = false ∧ isDisplay p = true then .ok (.str p.shown) S else .bad
    | none => .bad
  | _ => .bad
def gcdE (ds : List D) (S : Store) : Out D := match ds with
  | [.int i, .int j] => .ok (.int (Nat.gcd i.natAbs j.natAbs : Nat)) S
  | _ => .bad
def bltE (b : Blt) : List D → Store → Out D := match b with
  | .len => lenE
  | .list => listE
  | .tuple => tupleE
  | .all => allE
  | .any => anyE
  | .sum => sumE
  | .abs => absE
  | .max => maxE
  | .min => minE
  | .int => intE
  | .repr => reprE
  | .gcd => gcdE
def appendE (o : D) (ds : List D) (S : Store) : Out D := match o, ds with
  | .ref i, [d] => match S[i]? with
    | some (.lst xs) => if xs.length < sizeLine then .ok .non (S.set i (.lst (xs ++ [d]))) else .bad
    | _ => .bad
  | _, _ => .bad
def popE (o : D) (ds : List D) (S : Store) : Out D := match o, ds with
  | .ref i, [] => match S[i]? with
    | some (.lst xs) => match xs[xs.length - 1]? with
      | some d => .ok d (S.set i (.lst xs.dropLast))
      | none => .bad
    | _ => .bad
  | _, _ => .bad
def bmE (b : Bm) : D → List D → Store → Out D := match b with
  | .append => appendE
  | .pop => popE
def setE (o i d : D) (S : Store) : Out Unit := match o, i with
  | .ref p, .int k => match S[p]? with
    | some (.lst xs) => match ixN xs.length k with
      | some j => .ok () (S.set p (.lst (xs.set j d)))
      | none => .bad
    | _ => .bad
  | _, _ => .bad

/-! ### what is walked -/
inductive Iv where
  | sq (d : D)
  | rg (lo : Int) (n : Nat)
  | en (d : D)
  | zp (a b : D)
inductive Nx where
  | stop
  | item (d : D)
  | bad
def nextI (S : Store) : Iv → Nat → Nx
  | .sq d, n => match seqD S d with
    | some ds => match ds[n]? with
      | some x => .item x
      | none => .stop
    | none => .bad
  | .rg lo k, n => if n < k then .item (.int (lo + n)) else .stop
  | .en d, n => match seqD S d with
    | some ds => match ds[n]? with
      | some x => .item (.tup [.int n, x])
      | none => if n = ds.length then .stop else .bad
    | none => .bad
  | .zp a b, n => match seqD S a, seqD S b with
    | some xs, some ys => match xs[n]?, ys[n]? with
      | some x, some y => .item (.tup [x, y])
      | _, _ => if n ≤ xs.length ∧ n ≤ ys.length then .stop else .bad
    | _, _ => .bad

/-! ### the evaluator -/
abbrev CallF := Nat → List D → Store → Out D
structure Ctx where
  tb : Tb
  call : CallF
  callM : CallF
  W : Nat
  /-- a lambda's body, called two levels below -/
  lam : E → Slots → Store → Out D
  /-- whether there are two levels below -/
  lv : Bool
/-- what is told of an error: its class' text, its field -/
def tellX (tb : Tb) : List (Nat × Str × Option Str) → Exn → Store → Out D
  | [], _, _ => .bad
  | (c, m, fo) :: r, x, S => if tb.exc x.cls = true then (if tb.up x.cls c = true then (match fo with
      | none => .ok (.tup [.str m, .non]) S
      | some f => match x.fld with
        | some (g, d) => if g = f ∧ x.cls = c then .ok (.tup [.str m, d]) S else .bad
        | none => .bad) else tellX tb r x S) else .bad
def toldE (tb : Tb) (hs : List (Nat × Str × Option Str)) : Out D → Out D
  | .ok _ S => .ok (.tup [.str "none", .non]) S
  | .exc x S => tellX tb hs x S
  | .bad => .bad
/-- what repr tells -/
def reprX (d : D) (S : Store) : Option Str := match d with
  | .int i => if i.natAbs.log2 < 1920 then some (toString i) else none
  | d => match reprE [d] S with
    | .ok (.str x) _ => some x
    | _ => none
def onBl {β : Type} (x : D) (f : Bool → Out β) : Out β := match x with
  | .bl k => f k
  | _ => .bad
def onInt {β : Type} (x : D) (f : Int → Out β) : Out β := match x with
  | .int i => f i
  | _ => .bad
def wipeD (ρ : Slots) : List Nat → Slots
  | [] => ρ
  | v :: vs => (wipeD ρ vs).set v none
/-- positional values, then those of the keywords ks, which must follow in the parameters' order -/
def bindK (ps ks : List Str) (m n : Nat) : Bool := decide (n = ps.length) && (decide (m = ks.length) && (m == 0 || decide (ps.drop (n - m) = ks)))
/-- a list of the store -/
def isLst (S : Store) : D → Bool
  | .ref i => match S[i]? with
    | some (.lst _) => true
    | _ => false
  | _ => false
/-- an instance -/
def insD (S : Store) : D → Option (Nat × Nat × List (Str × D))
  | .ref i => match S[i]? with
    | some (.ins c fs) => some (i, c, fs)
    | _ => none
  | _ => none
def loopA (iv : Iv) (step : List D → D → Store → Out (List D)) : Nat → Nat → List D → Store → Out (List D)
  | 0, _, _, _ => .bad
  | f + 1, n, acc, S => match nextI S iv n with
    | .stop => .ok acc S
    | .bad => .bad
    | .item d => match step acc d S with
      | .ok acc' S' => loopA iv step f (n + 1) acc' S'
      | _ => .bad
def pushD (acc : List D) (x : D) (S : Store) : Out (List D) := if acc.length < sizeLine then .ok (acc ++ [x]) S else .bad
/-- where nothing may be raised -/
def noExc {α : Type} : Out α → Out α
  | .ok a S => .ok a S
  | _ => .bad
/-- a method's def -/
def methOf (tb : Tb) (c : Nat) (m : Str) : Option Nat := (tb.cls[c]?).bind fun ci => ci.meths.lookup m
def propOf (tb : Tb) (c : Nat) (m : Str) : Option Nat := (tb.cls[c]?).bind fun ci => ci.props.lookup m
def psOf (tb : Tb) (f : Nat) : List Str := match tb.fns[f]? with
  | some fi => fi.ps
  | none => []
/-- a built-in; len of an instance by its method -/
def bltX (cx : Ctx) (b : Blt) (ds : List D) (S : Store) : Out D := match b, ds with
  | .len, [d] => match insD S d with
    | some (_, c, _) => if cx.tb.inst c = true then (match methOf cx.tb c "__len__" with
      | some f => (noExc (cx.callM f [d] S)).bind fun n S => onInt n fun i => if 0 ≤ i ∧ i.natAbs < 2 ^ 63 then .ok (.int i) S else .bad
      | none => .bad) else .bad
    | none => bltE .len [d] S
  | _, _ => bltE b ds S
/-- the slots of a target's names -/
def slotsL (sl : T → List Nat) : Ts → List Nat
  | .nil => []
  | .cons t ts => sl t ++ slotsL sl ts
section
variable (cx : Ctx)
mutual
def evE : E → Slots → Store → Out D
  | .var i, ρ, S => match ρ[i]? with
    | some (some d) => .ok d S
    | _ => .bad
  | .cst d, _, S => .ok d S
  | .bin op a b, ρ, S => (evE a ρ S).bind fun x S => (evE b ρ S).bind fun y S => binE op x y S
  | .cmp op a b, ρ, S => (evE a ρ S).bind fun x S => (evE b ρ S).bind fun y S => cmpE op x y S
  | .isN a, ρ, S => (evE a ρ S).bind fun x S => .ok (.bl (isNon x)) S
  | .notN a, ρ, S => (evE a ρ S).bind fun x S => .ok (.bl (!isNon x)) S
  | .and a b, ρ, S => (evE a ρ S).bind fun x S => onBl x fun k => if k = true then evE b ρ S else .ok (.bl false) S
  | .or a b, ρ, S => (evE a ρ S).bind fun x S => onBl x fun k => if k = true then .ok (.bl true) S else evE b ρ S
  | .not a, ρ, S => (evE a ρ S).bind fun x S => onBl x fun k => .ok (.bl (!k)) S
  | .ite c a b, ρ, S => (evE c ρ S).bind fun x S => onBl x fun k => if k = true then evE a ρ S else evE b ρ S
  | .tup es, ρ, S => (evEs es ρ S).bind fun ds S => if ds.length ≤ sizeLine then .ok (.tup ds) S else .bad
  | .lst es, ρ, S => (evEs es ρ S).bind fun ds S => if ds.length ≤ sizeLine then .ok (.ref S.length) (S ++ [.lst ds]) else .bad
  | .idx a i, ρ, S => (evE a ρ S).bind fun x S => (evE i ρ S).bind fun y S => idxE x y S
  | .slc a lo hi, ρ, S => (evE a ρ S).bind fun x S => (evO lo ρ S).bind fun l S => (evO hi ρ S).bind fun h S => slcE x l h S
  | .call f es ks kes, ρ, S => (evEs es ρ S).bind fun ds S => (evEs kes ρ S).bind fun zs S => if bindK (psOf cx.tb f) ks zs.length (ds.length + zs.length) = true then cx.call f (ds ++ zs) S else .bad
  | .blt b es, ρ, S => (evEs es ρ S).bind fun ds S => bltX cx b ds S
  | .isi a t, ρ, S => (evE a ρ S).bind fun x S => isiE t x S
  | .fld o f, ρ, S => (evE o ρ S).bind fun x S => match insD S x with
    | some (_, c, fs) => if cx.tb.inst c = true then (match propOf cx.tb c f with
      | some g => noExc (cx.callM g [x] S)
      | none => match methOf cx.tb c f with
        | some _ => .bad
        | none => if cx.tb.flds.contains f = true then (match fs.lookup f with
          | some d => .ok d S
          | none => .bad) else .bad) else .bad
    | none => .bad
  | .mth o m es ks kes, ρ, S => (evE o ρ S).bind fun x S => match insD S x with
    | some (_, c, fs) => if cx.tb.inst c = true then (match methOf cx.tb c m, fs.lookup m with
      | some f, none => (evEs es ρ S).bind fun ds S => (evEs kes ρ S).bind fun zs S =>
        if bindK (psOf cx.tb f) ks zs.length (ds.length + zs.length + 1) = true then cx.call f (x :: (ds ++ zs)) S else .bad
      | _, _ => .bad) else .bad
    | none => .bad
  | .bm b o es, ρ, S => (evE o ρ S).bind fun x S => if isLst S x = true then (evEs es ρ S).bind fun ds S => bmE b x ds S else .bad
  | .mk c es ks kes, ρ, S => (evEs es ρ S).bind fun ds S => (evEs kes ρ S).bind fun zs S => match methOf cx.tb c "__init__" with
    | some f => if cx.tb.inst c = true ∧ bindK (psOf cx.tb f) ks zs.length (ds.length + zs.length + 1) = true then
        (cx.callM f (.ref S.length :: (ds ++ zs)) (S ++ [.ins c []])).bind fun r S' => if isNon r = true then .ok (.ref S.length) S' else .bad
      else .bad
    | none => .bad
  | .comp elt own t it c, ρ, S => (evI it ρ S).bind fun iv S => (loopA iv (fun acc d S =>
      (asT t d (wipeD ρ own) S).bind fun ρ' S => (evO2 c ρ' S).bind fun k S =>
        if k = true then (evE elt ρ' S).bind fun x S => pushD acc x S else .ok acc S) cx.W 0 [] S).bind fun ds S => .ok (.ref S.length) (S ++ [.lst ds])
  | .comp2 elt own own2 t it t2 it2, ρ, S => (evI it ρ S).bind fun iv S => (loopA iv (fun acc d S =>
      (asT t d (wipeD ρ own) S).bind fun ρ' S => (evI it2 ρ' S).bind fun iv2 S => loopA iv2 (fun acc d S =>
        (asT t2 d (wipeD ρ' own2) S).bind fun ρ2 S => (evE elt ρ2 S).bind fun x S => pushD acc x S) cx.W 0 acc S) cx.W 0 [] S).bind fun ds S => .ok (.ref S.length) (S ++ [.lst ds])
  | .told e hs, ρ, S => toldE cx.tb hs (cx.lam e ρ S)
def evEs : Es → Slots → Store → Out (List D)
  | .nil, _, S => .ok [] S
  | .cons e es, ρ, S => (evE e ρ S).bind fun x S => (evEs es ρ S).bind fun xs S => .ok (x :: xs) S
/-- a slice's part -/
def evO : Oe → Slots → Store → Out (Option Int)
  | .none, _, S => .ok none S
  | .some e, ρ, S => (evE e ρ S).bind fun x S => onInt x fun i => .ok (some i) S
/-- a clause's test -/
def evO2 : Oe → Slots → Store → Out Bool
  | .none, _, S => .ok true S
  | .some e, ρ, S => (evE e ρ S).bind fun x S => onBl x fun k => .ok k S
def evI : I → Slots → Store → Out Iv
  | .seq e, ρ, S => (evE e ρ S).bind fun x S => if (seqD S x).isSome = true then .ok (.sq x) S else .bad
  | .rng1 a, ρ, S => (evE a ρ S).bind fun x S => onInt x fun j => if j.natAbs < 2 ^ 62 then .ok (.rg 0 j.toNat) S else .bad
  | .rng2 a b, ρ, S => (evE a ρ S).bind fun x S => (evE b ρ S).bind fun y S => onInt x fun i => onInt y fun j =>
    if i.natAbs < 2 ^ 62 ∧ j.natAbs < 2 ^ 62 then .ok (.rg i (j - i).toNat) S else .bad
  | .enum e, ρ, S => (evE e ρ S).bind fun x S => if (seqD S x).isSome = true then .ok (.en x) S else .bad
  | .zip a b, ρ, S => (evE a ρ S).bind fun x S => (evE b ρ S).bind fun y S => if (seqD S x).isSome = true ∧ (seqD S y).isSome = true then .ok (.zp x y) S else .bad
def asT : T → D → Slots → Store → Out Slots
  | .name i, d, ρ, S => .ok (ρ.set i (some d)) S
  | .tup ts, d, ρ, S => match seqD S d with
    | some ds => asL ts ds ρ S
    | none => .bad
  | .fld o f, d, ρ, S => (evE o ρ S).bind fun x S => match insD S x with
    | some (i, c, fs) => if cx.tb.inst c = true then (match propOf cx.tb c f, methOf cx.tb c f with
      | none, none => if fs.length < 1000 then .ok ρ (S.set i (.ins c (putD f d fs))) else .bad
      | _, _ => .bad) else .bad
    | none => .bad
  | .idx o i, d, ρ, S => (evE o ρ S).bind fun x S => (evE i ρ S).bind fun y S => (setE x y d S).bind fun _ S => .ok ρ S
def asL : Ts → List D → Slots → Store → Out Slots
  | .nil, [], ρ, S => .ok ρ S
  | .cons t ts, d :: ds, ρ, S => (asT t d ρ S).bind fun ρ' S' => asL ts ds ρ' S'
  | _, _, _, _ => .bad
end

/-! ### statements -/
inductive SOut where
  | nx (ρ : Slots) (S : Store)
  | rt (d : D) (S : Store)
  | bk (ρ : Slots) (S : Store)
  | ct (ρ : Slots) (S : Store)
  | exc (x : Exn) (ρ : Slots) (S : Store)
  | bad
  deriving Inhabited
@[reducible] def Out.st {α : Type} (o : Out α) (ρ : Slots) (k : α → Store → SOut) : SOut := match o with
  | .ok a S => k a S
  | .exc x S => .exc x ρ S
  | .bad => .bad
def onBlS (x : D) (f : Bool → SOut) : SOut := match x with
  | .bl k => f k
  | _ => .bad
@[reducible] def SOut.seq (o : SOut) (k : Slots → Store → SOut) : SOut := match o with
  | .nx ρ S => k ρ S
  | o => o
def loopF (iv : Iv) (body : D → Slots → Store → SOut) : Nat → Nat → Slots → Store → SOut
  | 0, _, _, _ => .bad
  | f + 1, n, ρ, S => match nextI S iv n with
    | .stop => .nx ρ S
    | .bad => .bad
    | .item d => match body d ρ S with
      | .nx ρ' S' => loopF iv body f (n + 1) ρ' S'
      | .ct ρ' S' => loopF iv body f (n + 1) ρ' S'
      | .bk ρ' S' => .nx ρ' S'
      | o => o
def loopW (test : Slots → Store → Out D) (body : Slots → Store → SOut) : Nat → Slots → Store → SOut
  | 0, _, _ => .bad
  | f + 1, ρ, S => (test ρ S).st ρ fun x S => onBlS x fun k => if k = true then (match body ρ S with
        | .nx ρ' S' => loopW test body f ρ' S'
        | .ct ρ' S' => loopW test body f ρ' S'
        | .bk ρ' S' => .nx ρ' S'
        | o => o) else .nx ρ S
def augE (op : Bop) (x y : D) (f : D → SOut) : SOut := match op, x, y with
  | .add, .int a, .int b => f (.int (a + b))
  | .sub, .int a, .int b => f (.int (a - b))
  | _, _, _ => .bad
def setsD (ρ : Slots) : List Nat → List D → Option Slots
  | [], [] => some ρ
  | i :: is, d :: ds => setsD (ρ.set i (some d)) is ds
  | _, _ => none
mutual
def evC : C → Slots → Store → SOut
  | .pass, ρ, S => .nx ρ S
  | .expr e, ρ, S => (evE cx e ρ S).st ρ fun _ S => .nx ρ S
  | .asg t e, ρ, S => (evE cx e ρ S).st ρ fun d S => (noExc (asT cx t d ρ S)).st ρ fun ρ' S => .nx ρ' S
  | .par is es, ρ, S => (evEs cx es ρ S).st ρ fun ds S => match setsD ρ is ds with
    | some ρ' => .nx ρ' S
    | none => .bad
  | .aug i op e, ρ, S => match ρ[i]? with
    | some (some x) => (evE cx e ρ S).st ρ fun y S => augE op x y fun z => .nx (ρ.set i (some z)) S
    | _ => .bad
  | .ite c a b, ρ, S => (evE cx c ρ S).st ρ fun x S => onBlS x fun k => if k = true then evCs a ρ S else evCs b ρ S
  | .whl c b, ρ, S => loopW (evE cx c) (evCs b) cx.W ρ S
  | .for_ t it b, ρ, S => (evI cx it ρ S).st ρ fun iv S => loopF iv (fun d ρ S => (noExc (asT cx t d ρ S)).st ρ fun ρ' S => evCs b ρ' S) cx.W 0 ρ S
  | .ret e, ρ, S => (evE cx e ρ S).st ρ fun d S => .rt d S
  | .brk, ρ, S => .bk ρ S
  | .cnt, ρ, S => .ct ρ S
  | .raise c, ρ, S => .exc ⟨c, none⟩ ρ S
  | .raiseF c f e, ρ, S => (evE cx e ρ S).st ρ fun d S => match reprX d S with
    | some x => if cx.lv = true ∧ x.length ≤ 1000000 then .exc ⟨c, some (f, d)⟩ ρ S else .bad
    | none => .bad
  | .tryx b hs, ρ, S => match evCs b ρ S with
    | .exc x ρ' S' => evHs hs x ρ' S'
    | o => o
  | .never, _, _ => .bad
def evCs : Cs → Slots → Store → SOut
  | .nil, ρ, S => .nx ρ S
  | .cons c cs, ρ, S => (evC c ρ S).seq (evCs cs)
def evHs : Hs → Exn → Slots → Store → SOut
  | .nil, x, ρ, S => .exc x ρ S
  | .cons c b hs, x, ρ, S => if cx.tb.exc x.cls = true then (if cx.tb.up x.cls c = true then (match evCs b ρ S with
      | .exc _ _ _ => .bad
      | o => o) else evHs hs x ρ S) else .bad
end
end
/-! ### defs -/
def bodyF (cx : Ctx) (f : Nat) (ds : List D) (S : Store) : Out D := match cx.tb.fns[f]? with
  | none => .bad
  | some fi => if ds.length = fi.ps.length then (match evCs cx fi.body (ds.map some ++ List.replicate (fi.n - ds.length) none) S with
      | .nx _ S' => .ok .non S'
      | .rt d S' => .ok d S'
      | .exc x _ S' => .exc x S'
      | _ => .bad) else .bad
def badF : CallF := fun _ _ _ => .bad
def badL : E → Slots → Store → Out D := fun _ _ _ => .bad
/-- a lambda's body at a level c, d the one below -/
def lamOf (tb : Tb) (W : Nat) (c d : CallF) : E → Slots → Store → Out D := fun e ρ S => evE ⟨tb, c, d, W, badL, false⟩ e ρ S
/-- .. where there are two levels below -/
def lamK (tb : Tb) (W : Nat) (c d : CallF) : Nat → E → Slots → Store → Out D
  | 0 => badL
  | 1 => badL
  | _ + 2 => lamOf tb W c d
def lvK : Nat → Bool
  | 0 => false
  | 1 => false
  | _ + 2 => true
/-- at a level, and at the three below it -/
def run2 (tb : Tb) (W : Nat) : Nat → CallF × CallF × CallF × CallF
  | 0 => (badF, badF, badF, badF)
  | k + 1 => (bodyF ⟨tb, (run2 tb W k).1, (run2 tb W k).2.1, W, lamK tb W (run2 tb W k).2.2.1 (run2 tb W k).2.2.2 k, lvK k⟩, (run2 tb W k).1, (run2 tb W k).2.1, (run2 tb W k).2.2.1)
def run (tb : Tb) (W k : Nat) : CallF := (run2 tb W k).1
end Pl

set_option Elab.async false
set_option linter.all false
set_option maxRecDepth 100000
set_option maxHeartbeats 4000000
/-! Pl3: readings by the evaluator. -/
namespace Pl
open PySem PySem.Spec PyProof.Rows L2

section
variable (K : PySem.W.Frag) (ca : CA)
/-- the slots stand -/
structure EnvR (H : Hp) (μ : List Addr) (σ : L2.St) (ρ : Slots) : Prop where
  len : σ.length = ρ.length
  at_ : ∀ (i : Nat) (d : D), ρ[i]? = some (some d) → ∃ v, σ[i]? = some (some v) ∧ Rep K H μ d v
/-- an exception stands -/
def XRep (H : Hp) (μ : List Addr) (x : Exn) (cls : Value) (dd : Option Addr) : Prop :=
  ∃ C, ca x.cls = some C ∧ cls = .ref C ∧ ∀ f d, x.fld = some (f, d) → ∃ dx v, dd = some dx ∧ H dx = some (.xd [(f, v)]) ∧ Rep K H μ d v
/-- what is wanted of an outcome -/
def Post (W : WX) (σ : L2.St) (H : Hp) (μ : List Addr) {α : Type} (Q : α → Store → Hp → List Addr → Prop) (o : Out α) : Prop := match o with
  | .ok a S => ∀ H' μ', Step H μ H' μ' → SR K ca H' μ' S → Q a S H' μ'
  | .exc x S => ∀ cls dd H' μ', Step H μ H' μ' → SR K ca H' μ' S → XRep K ca H' μ' x cls dd → W cls dd σ H'
  | .bad => False
/-- a value's end -/
def QV (Q : VK) : D → Store → Hp → List Addr → Prop := fun d _ H μ => ∀ v, Rep K H μ d v → Q v H
def QA (Q : List V → Hp → Prop) : List D → Store → Hp → List Addr → Prop := fun ds _ H μ => ∀ vs, Reps K H μ ds vs → Q vs H
def tE (W : WX) (m : Slots → Store → Out D) : TE := fun σ H Q => ∃ ρ S μ, EnvR K H μ σ ρ ∧ SR K ca H μ S ∧ Post K ca W σ H μ (QV K Q) (m ρ S)
def tEs (W : WX) (m : Slots → Store → Out (List D)) : TA := fun σ H Q => ∃ ρ S μ, EnvR K H μ σ ρ ∧ SR K ca H μ S ∧ Post K ca W σ H μ (QA K Q) (m ρ S)
/-- as a test -/
def tTs (W : WX) (m : Slots → Store → Out D) : TT := fun σ H Q => ∃ ρ S μ, EnvR K H μ σ ρ ∧ SR K ca H μ S ∧ Post K ca W σ H μ (fun d _ H' _ => ∃ k, d = .bl k ∧ Q k H') (m ρ S)
end

section
variable {K : PySem.W.Frag} {ca : CA} {W : WX} {σ : L2.St} {H H1 : Hp} {μ μ1 : List Addr} {ρ : Slots} {S : Store}
theorem EnvR.step (e : EnvR K H μ σ ρ) (s : Grow H μ H1 μ1) : EnvR K H1 μ1 σ ρ :=
  ⟨e.len, fun i d h => let ⟨v, q, r⟩ := e.at_ i d h; ⟨v, q, Rep.step s d v r⟩⟩
theorem EnvR.set (e : EnvR K H μ σ ρ) {i : Nat} {d : D} {v : V} (r : Rep K H μ d v) : EnvR K H μ (σ.set i (some v)) (ρ.set i (some d)) := by
  refine ⟨by simp [e.len], fun j x h => ?_⟩
  by_cases hj : i = j
  · subst hj
    by_cases hl : i < ρ.length
    · rw [List.getElem?_set_self hl] at h
      cases h
      exact ⟨v, by rw [List.getElem?_set_self (by rw [e.len]; exact hl)], r⟩
    · rw [List.getElem?_eq_none (by simp; omega)] at h; cases h
  · rw [List.getElem?_set_ne hj] at h
    rw [List.getElem?_set_ne hj]
    exact e.at_ j x h
theorem EnvR.wipe (e : EnvR K H μ σ ρ) : ∀ vs : List Nat, EnvR K H μ (wipe σ vs) (wipeD ρ vs)
  | [] => e
  | v :: vs => by
    have ih := EnvR.wipe e vs
    refine ⟨by simp [L2.wipe, wipeD, ih.len], fun j x h => ?_⟩
    unfold wipeD at h
    unfold L2.wipe
    by_cases hj : v = j
    · subst hj
      by_cases hl : v < (wipeD ρ vs).length
      · rw [List.getElem?_set_self hl] at h; cases h
      · rw [List.getElem?_eq_none (by simp; omega)] at h; cases h
    · rw [List.getElem?_set_ne hj] at h
      rw [List.getElem?_set_ne hj]
      exact ih.at_ j x h
theorem XRep.grow {x : Exn} {cls : Value} {dd : Option Addr} (r : XRep K ca H μ x cls dd) (s : Grow H μ H1 μ1) (hx : ∀ a fs, H a = some (.xd fs) → H1 a = some (.xd fs)) : XRep K ca H1 μ1 x cls dd := by
  obtain ⟨C, h1, h2, h3⟩ := r
  refine ⟨C, h1, h2, fun f d e => ?_⟩
  obtain ⟨dx, v, q1, q2, q3⟩ := h3 f d e
  exact ⟨dx, v, q1, hx _ _ q2, Rep.step s d v q3⟩
theorem Post.step {α : Type} {Q : α → Store → Hp → List Addr → Prop} {o : Out α} (p : Post K ca W σ H μ Q o) (s : Step H μ H1 μ1) : Post K ca W σ H1 μ1 Q o := by
  cases o with
  | ok a S => exact fun H' μ' s' r => p H' μ' (s.trans s') r
  | exc x S => exact fun cls dd H' μ' s' r => p cls dd H' μ' (s.trans s') r
  | bad => exact p
theorem Post.imp {α : Type} {Q Q' : α → Store → Hp → List Addr → Prop} {o : Out α} (p : Post K ca W σ H μ Q o) (h : ∀ a S H' μ', Step H μ H' μ' → SR K ca H' μ' S → Q a S H' μ' → Q' a S H' μ') : Post K ca W σ H μ Q' o := by
  cases o with
  | ok a S => exact fun H' μ' s' r => h a S H' μ' s' r (p H' μ' s' r)
  | exc x S => exact p
  | bad => exact p
/-- the first part of a bind -/
theorem Post.bind {α β : Type} {Q : β → Store → Hp → List Addr → Prop} {o : Out α} {f : α → Store → Out β} (p : Post K ca W σ H μ Q (o.bind f)) :
    Post K ca W σ H μ (fun a S H' μ' => Post K ca W σ H' μ' Q (f a S)) o := by
  cases o with
  | ok a S => exact fun H' μ' s' _ => Post.step p s'
  | exc x S => exact p
  | bad => exact p
theorem Post.ok {α : Type} {Q : α → Store → Hp → List Addr → Prop} {a : α} (p : Post K ca W σ H μ Q (.ok a S)) (r : SR K ca H μ S) : Q a S H μ := p H μ (Step.refl H μ) r

/-- the reading of a bind, by its first part -/
theorem tE_bind {m : Slots → Store → Out D} {Q : VK} {R : D → Store → Hp → List Addr → Prop} (e : EnvR K H μ σ ρ) (r : SR K ca H μ S) (p : Post K ca W σ H μ R (m ρ S))
    (h : ∀ d S' H' μ' v, Step H μ H' μ' → SR K ca H' μ' S' → EnvR K H' μ' σ ρ → Rep K H' μ' d v → R d S' H' μ' → Q v H') : tE K ca W m σ H Q := by
  refine ⟨ρ, S, μ, e, r, p.imp fun d S' H' μ' s' r' q v rv => h d S' H' μ' v s' r' (e.step s'.grow) rv q⟩
theorem tEs_bind {m : Slots → Store → Out (List D)} {Q : List V → Hp → Prop} {R : List D → Store → Hp → List Addr → Prop} (e : EnvR K H μ σ ρ) (r : SR K ca H μ S) (p : Post K ca W σ H μ R (m ρ S))
    (h : ∀ d S' H' μ' v, Step H μ H' μ' → SR K ca H' μ' S' → EnvR K H' μ' σ ρ → Reps K H' μ' d v → R d S' H' μ' → Q v H') : tEs K ca W m σ H Q := by
  refine ⟨ρ, S, μ, e, r, p.imp fun d S' H' μ' s' r' q v rv => h d S' H' μ' v s' r' (e.step s'.grow) rv q⟩
end
/-- a weaker reading -/
theorem PE.imp {X : Cx} {e : Expr} {t t' : TE} (h : PE X e t) (hi : ∀ σ H Q, t' σ H Q → t σ H Q) : PE X e t' := ⟨fun pins s σ H Q I q => h.run pins s σ H Q I (hi σ H Q q)⟩
theorem PT.imp {X : Cx} {e : Expr} {t t' : TT} (h : PT X e t) (hi : ∀ σ H Q, t' σ H Q → t σ H Q) : PT X e t' := ⟨fun pins s σ H Q I q => h.run pins s σ H Q I (hi σ H Q q)⟩
theorem PW.imp {X : Cx} {e : Expr} {t t' : TT} (h : PW X e t) (hi : ∀ σ H Q, t' σ H Q → t σ H Q) : PW X e t' := ⟨fun wh pins s σ H Q I q => h.run wh pins s σ H Q I (hi σ H Q q)⟩
theorem PA.imp {X : Cx} {e : List Expr} {t t' : TA} (h : PA X e t) (hi : ∀ σ H Q, t' σ H Q → t σ H Q) : PA X e t' := ⟨fun p pins s σ H Q I q => h.run p pins s σ H Q I (hi σ H Q q)⟩
theorem PS.imp {X : Cx} {e : Stmt} {t t' : TS} (h : PS X e t) (hi : ∀ D σ H, t' D σ H → t D σ H) : PS X e t' := ⟨fun pins s σ H D I q => h.run pins s σ H D I (hi D σ H q)⟩
theorem PSs.imp {X : Cx} {e : List Stmt} {t t' : TS} (h : PSs X e t) (hi : ∀ D σ H, t' D σ H → t D σ H) : PSs X e t' := ⟨fun pins s σ H D I q => h.run pins s σ H D I (hi D σ H q)⟩
end Pl

set_option Elab.async false
set_option linter.all false
set_option maxRecDepth 100000
set_option maxHeartbeats 4000000
/-! Pl4: operators and built-ins, by values. -/
namespace Pl
open PySem PySem.Spec PyProof.Rows L2

section
variable {K : PySem.W.Frag} {ca : CA} {W : WX} {σ : L2.St} {H H1 : Hp} {μ μ1 : List Addr} {ρ : Slots} {S : Store}
theorem rep_non {v : V} : Rep K H μ .non v ↔ v = .non := by unfold Rep; exact Iff.rfl
theorem rep_bl {v : V} {b : Bool} : Rep K H μ (.bl b) v ↔ v = .bl b := by unfold Rep; exact Iff.rfl
theorem rep_int {v : V} {i : Int} : Rep K H μ (.int i) v ↔ v = .int i := by unfold Rep; exact Iff.rfl
theorem rep_str {v : V} {x : Str} : Rep K H μ (.str x) v ↔ v = .str x := by unfold Rep; exact Iff.rfl
theorem rep_tup {v : V} {ds : List D} : Rep K H μ (.tup ds) v ↔ ∃ a vs, v = .ref a ∧ SqT K H a vs ∧ Reps K H μ ds vs := by unfold Rep; exact Iff.rfl
theorem rep_rol {v : V} {ds : List D} : Rep K H μ (.rol ds) v ↔ ∃ a vs, v = .ref a ∧ RoL K H a vs ∧ Reps K H μ ds vs := by unfold Rep; exact Iff.rfl
theorem rep_ref {v : V} {i : Nat} : Rep K H μ (.ref i) v ↔ ∃ a, μ[i]? = some a ∧ v = .ref a := by unfold Rep; exact Iff.rfl
/-- a list of the store -/
theorem SR.lst (r : SR K ca H μ S) {i : Nat} {ds : List D} {v : V} (e : S[i]? = some (.lst ds)) (h : Rep K H μ (.ref i) v) :
    ∃ a vs, v = .ref a ∧ μ[i]? = some a ∧ H a = some (.lst vs) ∧ Reps K H μ ds vs := by
  obtain ⟨a, h1, h2⟩ := rep_ref.mp h
  obtain ⟨b, q1, vs, q2, q3⟩ := r.obj i _ e
  rw [h1] at q1
  cases q1
  exact ⟨a, vs, h2, h1, q2, q3⟩
theorem SR.ins (r : SR K ca H μ S) {i c : Nat} {fs : List (Str × D)} {v : V} (e : S[i]? = some (.ins c fs)) (h : Rep K H μ (.ref i) v) :
    ∃ a C dx fv, v = .ref a ∧ μ[i]? = some a ∧ ca c = some C ∧ H a = some (.ins C dx fv) ∧ FReps K H μ fs fv := by
  obtain ⟨a, h1, h2⟩ := rep_ref.mp h
  obtain ⟨b, q1, C, dx, fv, q2, q3, q4⟩ := r.obj i _ e
  rw [h1] at q1
  cases q1
  exact ⟨a, C, dx, fv, h2, h1, q2, q3, q4⟩
theorem seqD_ref {i : Nat} {ds : List D} (e : seqD S (.ref i) = some ds) : S[i]? = some (.lst ds) := by
  have e' : (match S[i]? with
    | some (.lst ds) => some ds
    | _ => none) = some ds := e
  split at e'
  · rename_i xs he
    cases e'
    exact he
  · cases e'
/-- what is read as a list or a tuple -/
theorem seq_rep (r : SR K ca H μ S) {d : D} {ds : List D} {v : V} (e : seqD S d = some ds) (h : Rep K H μ d v) :
    ∃ a vs, v = .ref a ∧ (SqL K H a vs ∨ SqT K H a vs) ∧ Reps K H μ ds vs := by
  cases d with
  | tup xs =>
    have : xs = ds := by simpa [seqD] using e
    subst this
    obtain ⟨a, vs, h1, h2, h3⟩ := rep_tup.mp h
    exact ⟨a, vs, h1, .inr h2, h3⟩
  | rol xs =>
    have : xs = ds := by simpa [seqD] using e
    subst this
    obtain ⟨a, vs, h1, h2, h3⟩ := rep_rol.mp h
    exact ⟨a, vs, h1, .inl h2.sq, h3⟩
  | ref i =>
    obtain ⟨a, vs, h1, _, h2, h3⟩ := r.lst (seqD_ref e) h
    exact ⟨a, vs, h1, .inl (SqL.of h2), h3⟩
  | _ => simp [seqD] at e
/-- .. that is no tuple -/
theorem seq_repL (r : SR K ca H μ S) {d : D} {ds : List D} {v : V} (e : seqD S d = some ds) (nt : ∀ xs, d ≠ .tup xs) (h : Rep K H μ d v) :
    ∃ a vs, v = .ref a ∧ SqL K H a vs ∧ Reps K H μ ds vs := by
  cases d with
  | tup xs => exact absurd rfl (nt xs)
  | rol xs =>
    have : xs = ds := by simpa [seqD] using e
    subst this
    obtain ⟨a, vs, h1, h2, h3⟩ := rep_rol.mp h
    exact ⟨a, vs, h1, h2.sq, h3⟩
  | ref i =>
    obtain ⟨a, vs, h1, _, h2, h3⟩ := r.lst (seqD_ref e) h
    exact ⟨a, vs, h1, SqL.of h2, h3⟩
  | _ => simp [seqD] at e
theorem reps_ints : ∀ {ds : List D} {is : List Int} {vs : List V}, intsD ds = some is → Reps K H μ ds vs → vs = is.map V.int
  | [], is, vs, e, h => by
    unfold Reps at h
    cases e
    exact h
  | d :: ds, is, vs, e, h => by
    unfold Reps at h
    obtain ⟨v, r, e1, h1, h2⟩ := h
    cases d <;> simp [intsD] at e
    rename_i i
    obtain ⟨js, e2, e3⟩ := e
    subst e3
    rw [e1, reps_ints e2 h2, rep_int.mp h1]
    rfl
theorem reps_bls : ∀ {ds : List D} {is : List Bool} {vs : List V}, blsD ds = some is → Reps K H μ ds vs → vs = is.map V.bl
  | [], is, vs, e, h => by
    unfold Reps at h
    cases e
    exact h
  | d :: ds, is, vs, e, h => by
    unfold Reps at h
    obtain ⟨v, r, e1, h1, h2⟩ := h
    cases d <;> simp [blsD] at e
    rename_i i
    obtain ⟨js, e2, e3⟩ := e
    subst e3
    rw [e1, reps_bls e2 h2, rep_bl.mp h1]
    rfl
/-- a new list of the store is handed out -/
theorem post_lst {ds : List D} {Q : VK} (r : SR K ca H μ S) (p : Post K ca W σ H μ (QV K Q) (.ok (.ref S.length) (S ++ [.lst ds]))) {vs : List V} (h : Reps K H μ ds vs) :
    ∀ q, H q = none → Q (.ref q) (upd H q (.lst vs)) := fun q hq => by
  have s := Step.alloc (μ := μ) (o := .lst vs) hq
  refine p _ _ s (r.alloc hq ⟨vs, upd_same, Reps.step s.grow _ _ h⟩) (.ref q) (rep_ref.mpr ⟨q, ?_, rfl⟩)
  rw [List.getElem?_append_right (by rw [r.len]; exact Nat.le_refl _), r.len, Nat.sub_self]
  rfl
/-- a new tuple is handed out -/
theorem post_tup {ds : List D} {Q : VK} (r : SR K ca H μ S) (p : Post K ca W σ H μ (QV K Q) (.ok (.tup ds) S)) {vs : List V} (h : Reps K H μ ds vs) :
    ∀ q, H q = none → Q (.ref q) (upd H q (.tup vs)) := fun q hq => by
  have s := Step.new (o := .tup vs) μ hq
  exact p _ _ s (r.new hq) (.ref q) (rep_tup.mpr ⟨q, vs, rfl, SqT.of upd_same, Reps.step s.grow _ _ h⟩)
theorem post_here {d : D} {Q : VK} (r : SR K ca H μ S) (p : Post K ca W σ H μ (QV K Q) (.ok d S)) {v : V} (h : Rep K H μ d v) : Q v H := p _ _ (Step.refl H μ) r v h
theorem cut_reps {ds : List D} {vs : List V} (h : Reps K H μ ds vs) (lo hi : Option Int) : Reps K H μ (cutD ds lo hi) (cutV vs lo hi) := by
  unfold cutD cutV
  rw [h.len]
  exact (h.drop _).take _
theorem at_reps {ds : List D} {vs : List V} (h : Reps K H μ ds vs) {k : Int} {d : D} (e : atI ds k = some d) : ∃ v, atI vs k = some v ∧ Rep K H μ d v := by
  unfold atI at e ⊢
  rw [h.len]
  cases q : ixN ds.length k with
  | none => rw [q] at e; cases e
  | some j =>
    rw [q] at e
    exact h.get (show ds[j]? = some d from e)

/-! ### data of the model -/
theorem dpAll_of {n : Nat} (ih : ∀ (d : D) (v : V) (p : PyData), Rep K H μ d v → toPy S n d = some p → Dp K H v p) :
    ∀ (ds : List D) (vs : List V) (ps : List PyData), Reps K H μ ds vs → ds.mapM (toPy S n) = some ps → DpAll K H vs ps
  | [], vs, ps, h, e => by
    unfold Reps at h
    subst h
    simp at e
    subst e
    exact .nil
  | d :: ds, vs, ps, h, e => by
    unfold Reps at h
    obtain ⟨v, r, e1, h1, h2⟩ := h
    subst e1
    rw [List.mapM_cons] at e
    cases q : toPy S n d with
    | none => rw [q] at e; cases e
    | some p =>
      rw [q] at e
      cases q2 : ds.mapM (toPy S n) with
      | none => rw [q2] at e; cases e
      | some qs =>
        rw [q2] at e
        have : p :: qs = ps := Option.some.inj e
        subst this
        exact .cons (ih d v p h1 q) (dpAll_of ih ds r qs h2 q2)
theorem toPy_dp (r : SR K ca H μ S) : ∀ (n : Nat) (d : D) (v : V) (p : PyData), Rep K H μ d v → toPy S n d = some p → Dp K H v p
  | 0, _, _, _, _, e => by cases e
  | n + 1, d, v, p, h, e => by
    have ih := toPy_dp r n
    cases d with
    | non => cases e; rw [rep_non.mp h]; exact .non
    | bl b => cases e; rw [rep_bl.mp h]; exact .bl b
    | int i => cases e; rw [rep_int.mp h]; exact .int i
    | str x => cases e; rw [rep_str.mp h]; exact .str x
    | tup ds =>
      obtain ⟨a, vs, h1, h2, h3⟩ := rep_tup.mp h
      subst h1
      have e' : (ds.mapM (toPy S n)).map PyData.tuple = some p := e
      cases q : ds.mapM (toPy S n) with
      | none => rw [q] at e'; cases e'
      | some ps =>
        rw [q] at e'
        cases e'
        exact .tup h2 (dpAll_of ih ds vs ps h3 q)
    | rol ds =>
      obtain ⟨a, vs, h1, h2, h3⟩ := rep_rol.mp h
      subst h1
      have e' : (ds.mapM (toPy S n)).map PyData.list = some p := e
      cases q : ds.mapM (toPy S n) with
      | none => rw [q] at e'; cases e'
      | some ps =>
        rw [q] at e'
        cases e'
        exact .lst h2.sq (dpAll_of ih ds vs ps h3 q)
    | ref i =>
      unfold toPy at e
      simp only at e
      split at e
      · rename_i ds he
        obtain ⟨a, vs, h1, _, h2, h3⟩ := r.lst he h
        subst h1
        cases q : ds.mapM (toPy S n) with
        | none => rw [q] at e; cases e
        | some ps =>
          rw [q] at e
          cases e
          exact .lst (SqL.of h2) (dpAll_of ih ds vs ps h3 q)
      · cases e
end

section
variable {X : Cx} {ca : CA} {W : WX} {σ : L2.St} {H : Hp} {μ : List Addr} {S : Store}
def bopOf : Bop → Operator
  | .add => .Add
  | .sub => .Sub
  | .mul => .Mult
  | .fdiv => .FloorDiv
  | .mod => .Mod
  | .pow => .Pow
def MulG (i j : Int) : Prop := i.natAbs.log2 + j.natAbs.log2 < 1000000 ∨ i.natAbs < 2 ^ 64 ∨ j.natAbs < 2 ^ 64
theorem MulG.ok {i j : Int} (h : MulG i j) : IntMulOk i j := by
  rcases h with h | h | h
  · exact L2.CMulW.ok h
  · exact L2.CMul.ok (.inl ⟨by omega, by omega⟩)
  · exact L2.CMul.ok (.inr ⟨by omega, by omega⟩)
def PowG (i j : Int) : Prop := 0 ≤ j ∧ ((i.natAbs.log2 + 1 : Nat) : Int) * j ≤ 134217728
theorem op_powG {X : Cx} : OpR X (binaryOp .Pow) (rI PowG fun i j => .int (i ^ j.toNat)) := opI fun i j _ _ _ _ _ hc q => by
  refine PyProof.Rows.pow_int hc.1 ?_ q
  have h : Builtin.Int.intBits i ≤ i.natAbs.log2 + 1 := by
    unfold Builtin.Int.intBits
    split <;> omega
  have h2 : (Builtin.Int.intBits i : Int) * j ≤ ((i.natAbs.log2 + 1 : Nat) : Int) * j := Int.mul_le_mul_of_nonneg_right (by omega) hc.1
  have h3 := hc.2
  omega
theorem op_mulG {X : Cx} : OpR X (binaryOp .Mult) (rI MulG fun i j => .int (i * j)) := opI fun _ _ _ _ _ _ _ hc q => mul_int q hc.ok
/-- an operator -/
theorem bin_rule (op : Bop) : ∃ r : R2, OpR X (binaryOp (bopOf op)) r ∧ ∀ (W : WX) (σ : L2.St) (H : Hp) (μ : List Addr) (S : Store) (a b : D) (x y : V) (Q : VK), SR X.K ca H μ S → Rep X.K H μ a x → Rep X.K H μ b y →
    Post X.K ca W σ H μ (QV X.K Q) (binE op a b S) → r x y H Q := by
  cases op with
  | add =>
    refine ⟨_, OpR.or (OpR.or op_add op_add_str) (OpR.or op_catA op_cat), fun W σ H μ S a b x y Q r ha hb p => ?_⟩
    unfold binE at p
    simp only at p
    unfold addE at p
    split at p <;> try (exact p.elim)
    · rename_i i j
      rw [rep_int.mp ha, rep_int.mp hb]
      exact .inl (.inl ⟨i, j, rfl, rfl, post_here r p (rep_int.mpr rfl)⟩)
    · rename_i i j
      split at p
      · rename_i hl
        rw [rep_str.mp ha, rep_str.mp hb]
        exact .inl (.inr ⟨i, j, rfl, rfl, hl, post_here r p (rep_str.mpr rfl)⟩)
      · exact p.elim
    · rename_i xs ys
      split at p
      · rename_i hl
        obtain ⟨a1, vs, e1, s1, q1⟩ := rep_tup.mp ha
        obtain ⟨a2, ws, e2, s2, q2⟩ := rep_tup.mp hb
        subst e1 e2
        refine .inr (.inl ⟨a1, a2, vs, ws, rfl, rfl, s1, s2, by rw [q1.len, q2.len]; exact hl, fun e => ?_, fun _ e => ?_, fun _ _ => post_tup r p (q1.append q2)⟩)
        · subst e
          have := q1.len
          have hx : xs = [] := by cases xs; rfl; simp at this
          subst hx
          exact post_here r p (rep_tup.mpr ⟨a2, ws, rfl, s2, q2⟩)
        · subst e
          have := q2.len
          have hy : ys = [] := by cases ys; rfl; simp at this
          subst hy
          exact post_here r p (rep_tup.mpr ⟨a1, vs, rfl, s1, by simpa using q1⟩)
      · exact p.elim
    · split at p
      · rename_i i j xs ys hx hy
        split at p
        · rename_i hl
          obtain ⟨a1, vs, e1, _, s1, q1⟩ := r.lst hx ha
          obtain ⟨a2, ws, e2, _, s2, q2⟩ := r.lst hy hb
          subst e1 e2
          exact .inr (.inr ⟨a1, a2, vs, ws, rfl, rfl, s1, s2, by rw [q1.len, q2.len]; exact hl, post_lst r p (q1.append q2)⟩)
        · exact p.elim
      · exact p.elim
  | sub =>
    refine ⟨_, op_sub, fun W σ H μ S a b x y Q r ha hb p => ?_⟩
    unfold binE at p
    simp only at p
    unfold subE at p
    split at p <;> try (exact p.elim)
    rename_i i j
    rw [rep_int.mp ha, rep_int.mp hb]
    exact ⟨i, j, rfl, rfl, post_here r p (rep_int.mpr rfl)⟩
  | mul =>
    refine ⟨_, OpR.or op_mulG op_rep, fun W σ H μ S a b x y Q r ha hb p => ?_⟩
    unfold binE at p
    simp only at p
    unfold mulE at p
    split at p <;> try (exact p.elim)
    · rename_i i j
      split at p
      · rename_i hl
        rw [rep_int.mp ha, rep_int.mp hb]
        exact .inl ⟨i, j, rfl, rfl, hl, post_here r p (rep_int.mpr rfl)⟩
      · exact p.elim
    · split at p
      · rename_i i k _ xs hx
        split at p
        · rename_i hl
          obtain ⟨a1, vs, e1, _, s1, q1⟩ := r.lst hx ha
          subst e1
          rw [rep_int.mp hb]
          exact .inr ⟨a1, k, vs, rfl, rfl, s1, by have := hl.1; omega, by have := hl.1; omega, by rw [q1.len]; exact hl.2, post_lst r p (q1.reps _)⟩
        · exact p.elim
      · exact p.elim
  | fdiv =>
    refine ⟨_, op_fdivW, fun W σ H μ S a b x y Q r ha hb p => ?_⟩
    unfold binE at p
    simp only at p
    unfold fdivE at p
    split at p <;> try (exact p.elim)
    rename_i i j
    split at p
    · rename_i hl
      rw [rep_int.mp ha, rep_int.mp hb]
      exact ⟨i, j, rfl, rfl, hl, post_here r p (rep_int.mpr rfl)⟩
    · exact p.elim
  | mod =>
    refine ⟨_, op_mod, fun W σ H μ S a b x y Q r ha hb p => ?_⟩
    unfold binE at p
    simp only at p
    unfold modE at p
    split at p <;> try (exact p.elim)
    rename_i i j
    split at p
    · rename_i hl
      rw [rep_int.mp ha, rep_int.mp hb]
      exact ⟨i, j, rfl, rfl, hl, post_here r p (rep_int.mpr rfl)⟩
    · exact p.elim
  | pow =>
    refine ⟨_, op_powG, fun W σ H μ S a b x y Q r ha hb p => ?_⟩
    unfold binE at p
    simp only at p
    unfold powE at p
    split at p <;> try (exact p.elim)
    rename_i i j
    split at p
    · rename_i hl
      rw [rep_int.mp ha, rep_int.mp hb]
      exact ⟨i, j, rfl, rfl, hl, post_here r p (rep_int.mpr rfl)⟩
    · exact p.elim

/-! ### comparisons -/
def copOf : Cop → CmpOp
  | .eq => .Eq
  | .ne => .NotEq
  | .lt => .Lt
  | .le => .LtE
  | .gt => .Gt
  | .ge => .GtE
theorem eqD_cases {S : Store} {a b : D} {k : Bool} (e : eqD S a b = some k) :
    (∃ i j, a = .int i ∧ b = .int j ∧ k = decide (i = j)) ∨ (∃ x y, a = .str x ∧ b = .str y ∧ k = decide (x = y)) ∨ (∃ x y, a = .bl x ∧ b = .bl y ∧ k = decide (x = y)) ∨
      ∃ p q, toPy S 40 a = some p ∧ toPy S 40 b = some q ∧ SeqAt.shaped p = true ∧ SeqAt.shaped q = true ∧ k = PyData.eqv p q := by
  unfold eqD at e
  split at e
  · cases e; exact .inl ⟨_, _, rfl, rfl, rfl⟩
  · cases e; exact .inr (.inl ⟨_, _, rfl, rfl, rfl⟩)
  · cases e; exact .inr (.inr (.inl ⟨_, _, rfl, rfl, rfl⟩))
  · split at e
    · rename_i p q h1 h2
      split at e
      · rename_i h
        cases e
        exact .inr (.inr (.inr ⟨p, q, h1, h2, h.1, h.2, rfl⟩))
      · cases e
    · cases e
theorem cmp_rule (hu : X.A.units + 64 < cLine) (op : Cop) : ∃ r : R2, OpR X (compareOp (copOf op)) r ∧ ∀ (W : WX) (σ : L2.St) (H : Hp) (μ : List Addr) (S : Store) (a b : D) (x y : V) (Q : VK), SR X.K ca H μ S → Rep X.K H μ a x → Rep X.K H μ b y →
    Post X.K ca W σ H μ (QV X.K Q) (cmpE op a b S) → r x y H Q := by
  cases op with
  | eq =>
    refine ⟨_, OpR.or op_eq (op_eqD hu), fun W σ H μ S a b x y Q r ha hb p => ?_⟩
    unfold cmpE at p
    simp only at p
    unfold eqE at p
    split at p
    · rename_i k e
      rcases eqD_cases e with ⟨i, j, rfl, rfl, hk⟩ | ⟨i, j, rfl, rfl, hk⟩ | ⟨i, j, rfl, rfl, hk⟩ | ⟨u, w, h1, h2, h3, h4, hk⟩
      · rw [rep_int.mp ha, rep_int.mp hb]
        refine .inl ⟨rfl, ?_⟩
        have := post_here r p (v := .bl k) (rep_bl.mpr rfl)
        rw [hk] at this
        have e2 : decide (V.int i = V.int j) = decide (i = j) := by simp
        rw [e2]; exact this
      · rw [rep_str.mp ha, rep_str.mp hb]
        refine .inl ⟨rfl, ?_⟩
        have := post_here r p (v := .bl k) (rep_bl.mpr rfl)
        rw [hk] at this
        have e2 : decide (V.str i = V.str j) = decide (i = j) := by simp
        rw [e2]; exact this
      · rw [rep_bl.mp ha, rep_bl.mp hb]
        refine .inl ⟨rfl, ?_⟩
        have := post_here r p (v := .bl k) (rep_bl.mpr rfl)
        rw [hk] at this
        have e2 : decide (V.bl i = V.bl j) = decide (i = j) := by simp
        rw [e2]; exact this
      · refine .inr ⟨u, w, toPy_dp r _ _ _ _ ha h1, toPy_dp r _ _ _ _ hb h2, h3, h4, ?_⟩
        rw [← hk]
        exact post_here r p (rep_bl.mpr rfl)
    · exact p.elim
  | ne =>
    refine ⟨_, OpR.or op_ne (op_neD hu), fun W σ H μ S a b x y Q r ha hb p => ?_⟩
    unfold cmpE at p
    simp only at p
    unfold eqE at p
    split at p
    · rename_i k e
      have p' : Post X.K ca W σ H μ (QV X.K Q) (.ok (.bl (!k)) S) := p
      rcases eqD_cases e with ⟨i, j, rfl, rfl, hk⟩ | ⟨i, j, rfl, rfl, hk⟩ | ⟨i, j, rfl, rfl, hk⟩ | ⟨u, w, h1, h2, h3, h4, hk⟩
      · rw [rep_int.mp ha, rep_int.mp hb]
        refine .inl ⟨rfl, ?_⟩
        have := post_here r p' (v := .bl (!k)) (rep_bl.mpr rfl)
        rw [hk] at this
        have e2 : decide (V.int i = V.int j) = decide (i = j) := by simp
        rw [e2]; exact this
      · rw [rep_str.mp ha, rep_str.mp hb]
        refine .inl ⟨rfl, ?_⟩
        have := post_here r p' (v := .bl (!k)) (rep_bl.mpr rfl)
        rw [hk] at this
        have e2 : decide (V.str i = V.str j) = decide (i = j) := by simp
        rw [e2]; exact this
      · rw [rep_bl.mp ha, rep_bl.mp hb]
        refine .inl ⟨rfl, ?_⟩
        have := post_here r p' (v := .bl (!k)) (rep_bl.mpr rfl)
        rw [hk] at this
        have e2 : decide (V.bl i = V.bl j) = decide (i = j) := by simp
        rw [e2]; exact this
      · refine .inr ⟨u, w, toPy_dp r _ _ _ _ ha h1, toPy_dp r _ _ _ _ hb h2, h3, h4, ?_⟩
        rw [← hk]
        exact post_here r p' (rep_bl.mpr rfl)
    · exact p.elim
  | lt =>
    refine ⟨_, op_lt, fun W σ H μ S a b x y Q r ha hb p => ?_⟩
    unfold cmpE at p
    simp only at p
    unfold ordE at p
    split at p
    · rename_i i j
      rw [rep_int.mp ha, rep_int.mp hb]
      exact ⟨i, j, rfl, rfl, post_here r p (rep_bl.mpr rfl)⟩
    · exact p.elim
  | le =>
    refine ⟨_, op_le, fun W σ H μ S a b x y Q r ha hb p => ?_⟩
    unfold cmpE at p
    simp only at p
    unfold ordE at p
    split at p
    · rename_i i j
      rw [rep_int.mp ha, rep_int.mp hb]
      exact ⟨i, j, rfl, rfl, post_here r p (rep_bl.mpr rfl)⟩
    · exact p.elim
  | gt =>
    refine ⟨_, op_gt, fun W σ H μ S a b x y Q r ha hb p => ?_⟩
    unfold cmpE at p
    simp only at p
    unfold ordE at p
    split at p
    · rename_i i j
      rw [rep_int.mp ha, rep_int.mp hb]
      exact ⟨i, j, rfl, rfl, post_here r p (rep_bl.mpr rfl)⟩
    · exact p.elim
  | ge =>
    refine ⟨_, op_ge, fun W σ H μ S a b x y Q r ha hb p => ?_⟩
    unfold cmpE at p
    simp only at p
    unfold ordE at p
    split at p
    · rename_i i j
      rw [rep_int.mp ha, rep_int.mp hb]
      exact ⟨i, j, rfl, rfl, post_here r p (rep_bl.mpr rfl)⟩
    · exact p.elim
/-! ### an item, a slice -/
theorem idx_rule : ∃ r : R2, IxR X r ∧ ∀ (W : WX) (σ : L2.St) (H : Hp) (μ : List Addr) (S : Store) (a b : D) (x y : V) (Q : VK), SR X.K ca H μ S → Rep X.K H μ a x → Rep X.K H μ b y →
    Post X.K ca W σ H μ (QV X.K Q) (idxE a b S) → r x y H Q := by
  refine ⟨_, ix_seq, fun W σ H μ S a b x y Q r ha hb p => ?_⟩
  unfold idxE at p
  split at p
  · rename_i k
    rw [rep_int.mp hb]
    split at p
    · rename_i z
      rw [rep_str.mp ha]
      split at p
      · rename_i hl
        split at p
        · rename_i c e
          exact .inr (.inr ⟨z, k, c, rfl, rfl, hl, e, post_here r p (rep_str.mpr rfl)⟩)
        · exact p.elim
      · exact p.elim
    · split at p
      · rename_i ds e
        split at p
        · rename_i d e2
          obtain ⟨q, vs, h1, h2, h3⟩ := seq_rep r e ha
          subst h1
          obtain ⟨v, g1, g2⟩ := at_reps h3 e2
          rcases h2 with h2 | h2
          · exact .inl ⟨q, vs, k, v, rfl, rfl, h2, g1, post_here r p g2⟩
          · exact .inr (.inl ⟨q, vs, k, v, rfl, rfl, h2, g1, post_here r p g2⟩)
        · exact p.elim
      · exact p.elim
  · exact p.elim
theorem slc_rule : ∃ r : V → Option Int → Option Int → Hp → VK → Prop, SlR X r ∧ ∀ (W : WX) (σ : L2.St) (H : Hp) (μ : List Addr) (S : Store) (a : D) (lo hi : Option Int) (x : V) (Q : VK), SR X.K ca H μ S → Rep X.K H μ a x →
    Post X.K ca W σ H μ (QV X.K Q) (slcE a lo hi S) → r x lo hi H Q := by
  refine ⟨_, SlR.or sl_list sl_tupA, fun W σ H μ S a lo hi x Q r ha p => ?_⟩
  unfold slcE at p
  split at p
  · rename_i ds
    obtain ⟨q, vs, h1, h2, h3⟩ := rep_tup.mp ha
    subst h1
    refine .inr ⟨q, vs, rfl, h2, fun hw => ?_, fun _ => post_tup r p (cut_reps h3 lo hi)⟩
    have e : cutD ds lo hi = ds := by
      unfold cutD
      rw [h3.len] at hw
      rw [hw.1, hw.2]
      simp
    rw [e] at p
    exact post_here r p (rep_tup.mpr ⟨q, vs, rfl, h2, h3⟩)
  · rename_i nt
    split at p
    · rename_i ds e
      obtain ⟨q, vs, h1, h2, h3⟩ := seq_repL r e (fun xs h => nt xs h) ha
      subst h1
      exact .inl ⟨q, vs, rfl, h2, post_lst r p (cut_reps h3 lo hi)⟩
    · exact p.elim
end
end Pl

set_option Elab.async false
set_option linter.all false
set_option maxRecDepth 100000
set_option maxHeartbeats 4000000
/-! Pl5: calls of built-ins, methods of lists, stores, truth, by values. -/
namespace Pl
open PySem PySem.Spec PyProof.Rows L2

section
variable {K : PySem.W.Frag} {ca : CA} {W : WX} {σ : L2.St} {H H1 : Hp} {μ μ1 : List Addr} {ρ : Slots} {S : Store}
theorem reps1 {d : D} {vs : List V} (h : Reps K H μ [d] vs) : ∃ v, vs = [v] ∧ Rep K H μ d v := by
  unfold Reps at h
  obtain ⟨v, r, e, h1, h2⟩ := h
  unfold Reps at h2
  subst h2
  exact ⟨v, e, h1⟩
theorem reps2 {d e : D} {vs : List V} (h : Reps K H μ [d, e] vs) : ∃ v w, vs = [v, w] ∧ Rep K H μ d v ∧ Rep K H μ e w := by
  unfold Reps at h
  obtain ⟨v, r, e1, h1, h2⟩ := h
  obtain ⟨w, e2, h3⟩ := reps1 h2
  exact ⟨v, w, by rw [e1, e2], h1, h3⟩
theorem lstD_seq {d : D} {ds : List D} (e : lstD S d = some ds) : seqD S d = some ds ∧ ∀ xs, d ≠ .tup xs := by
  unfold lstD at e
  split at e
  · cases e
  · rename_i nt
    exact ⟨e, fun xs h => nt xs h⟩
theorem lst_ints (r : SR K ca H μ S) {d : D} {is : List Int} {v : V} (e : (lstD S d).bind intsD = some is) (h : Rep K H μ d v) : ∃ a, v = .ref a ∧ SqL K H a (is.map V.int) := by
  cases q : lstD S d with
  | none => rw [q] at e; cases e
  | some ds =>
    rw [q] at e
    obtain ⟨e1, nt⟩ := lstD_seq q
    obtain ⟨a, vs, h1, h2, h3⟩ := seq_repL r e1 nt h
    rw [reps_ints e h3] at h2
    exact ⟨a, h1, h2⟩
theorem lst_bls (r : SR K ca H μ S) {d : D} {is : List Bool} {v : V} (e : (lstD S d).bind blsD = some is) (h : Rep K H μ d v) : ∃ a, v = .ref a ∧ SqL K H a (is.map V.bl) := by
  cases q : lstD S d with
  | none => rw [q] at e; cases e
  | some ds =>
    rw [q] at e
    obtain ⟨e1, nt⟩ := lstD_seq q
    obtain ⟨a, vs, h1, h2, h3⟩ := seq_repL r e1 nt h
    rw [reps_bls e h3] at h2
    exact ⟨a, h1, h2⟩
end
section
variable {X : Cx} {ca : CA}
def bltV : Blt → Value
  | .len => .builtin "len"
  | .list => .type "list"
  | .tuple => .type "tuple"
  | .all => .builtin "all"
  | .any => .builtin "any"
  | .sum => .builtin "sum"
  | .abs => .builtin "abs"
  | .max => .builtin "max"
  | .min => .builtin "min"
  | .int => .type "int"
  | .repr => .builtin "repr"
  | .gcd => .builtin "math.gcd"
/-- repr of data -/
theorem call_repr (hg : X.A.guards = some []) (hu : X.A.units + 100 < cLine) : CallR X (.builtin "repr") (fun xs H Q => ∃ (a : Addr) (d : PyData), xs = [.ref a] ∧ Dp X.K H (.ref a) d ∧ d.showable = true ∧ d.shown.length ≤ sizeLine ∧ d.depth ≤ 60 ∧ d.hasDict = false ∧ Q (.str d.shown) H) := by
  intro pins s σ H xs us Q I r h
  obtain ⟨a, d, e, hd, h1, h2, h3, h4, q⟩ := h
  subst e
  have e : us = [.ref a] := Vals.ref1 r
  subst e
  obtain ⟨as, hr⟩ := Dp.reads I d (.ref a) (.ref a) hd rfl
  exact repr_of_reads' hr h1 (PyData.noDict_hsm h4) hg (by omega) (fun _ _ e => e) (fun h' u tk hk => ⟨.str d.shown, H, I.kept hk, ⟨_, rfl⟩, q⟩) h2
theorem isDisplay_rep {K : PySem.W.Frag} {H : Hp} {v : V} {p : PyData} (h : Dp K H v p) (hd : isDisplay p = true) : ∃ a, v = .ref a := by
  cases h <;> first | (exact ⟨_, rfl⟩) | (cases hd)
theorem blt_rule (hc : X.calm = true) (hg : X.A.guards = some []) (hu : X.A.units + 100 < cLine) (b : Blt) : ∃ r : List V → Hp → VK → Prop, CallR X (bltV b) r ∧
    ∀ (W : WX) (σ : L2.St) (H : Hp) (μ : List Addr) (S : Store) (ds : List D) (vs : List V) (Q : VK), SR X.K ca H μ S → Reps X.K H μ ds vs → Post X.K ca W σ H μ (QV X.K Q) (bltE b ds S) → r vs H Q := by
  cases b with
  | len =>
    refine ⟨_, call_len, fun W σ H μ S ds vs Q r ha p => ?_⟩
    unfold bltE at p
    simp only at p
    unfold lenE at p
    split at p
    · rename_i x
      obtain ⟨v, e, h⟩ := reps1 ha
      subst e
      split at p
      · rename_i hl
        rw [rep_str.mp h]
        exact ⟨_, x.length, rfl, ⟨hl, rfl⟩, post_here r p (rep_int.mpr rfl)⟩
      · exact p.elim
    · split at p
      · rename_i d _ _ xs e1
        obtain ⟨v, e, h⟩ := reps1 ha
        subst e
        obtain ⟨a, ws, h1, h2, h3⟩ := seq_rep r e1 h
        subst h1
        refine ⟨_, xs.length, rfl, ?_, post_here r p (rep_int.mpr rfl)⟩
        rcases h2 with h2 | h2
        · exact .inl ⟨ws, h2, h3.len.symm⟩
        · exact .inr ⟨ws, h2, h3.len.symm⟩
      · exact p.elim
    · exact p.elim
  | list =>
    refine ⟨_, call_list_of, fun W σ H μ S ds vs Q r ha p => ?_⟩
    unfold bltE at p
    simp only at p
    unfold listE at p
    split at p
    · split at p
      · rename_i d _ xs e1
        obtain ⟨v, e, h⟩ := reps1 ha
        subst e
        obtain ⟨a, ws, h1, h2, h3⟩ := seq_rep r e1 h
        subst h1
        exact ⟨a, ws, rfl, h2, post_lst r p h3⟩
      · exact p.elim
    · exact p.elim
  | tuple =>
    refine ⟨_, call_tuple_of, fun W σ H μ S ds vs Q r ha p => ?_⟩
    unfold bltE at p
    simp only at p
    unfold tupleE at p
    split at p
    · split at p
      · rename_i d _ xs e1
        obtain ⟨v, e, h⟩ := reps1 ha
        subst e
        obtain ⟨a, ws, h1, h2, h3⟩ := seq_rep r e1 h
        subst h1
        refine ⟨a, ws, rfl, ?_⟩
        rcases h2 with h2 | h2
        · exact .inl ⟨h2, post_tup r p h3⟩
        · exact .inr ⟨h2, post_here r p (rep_tup.mpr ⟨a, ws, rfl, h2, h3⟩)⟩
      · exact p.elim
    · exact p.elim
  | all =>
    refine ⟨_, cr_all hc, fun W σ H μ S ds vs Q r ha p => ?_⟩
    unfold bltE at p
    simp only at p
    unfold allE at p
    split at p
    · split at p
      · rename_i d _ bs e1
        obtain ⟨v, e, h⟩ := reps1 ha
        subst e
        obtain ⟨a, h1, h2⟩ := lst_bls r e1 h
        subst h1
        exact ⟨a, bs, rfl, h2, post_here r p (rep_bl.mpr rfl)⟩
      · exact p.elim
    · exact p.elim
  | any =>
    refine ⟨_, cr_any hc, fun W σ H μ S ds vs Q r ha p => ?_⟩
    unfold bltE at p
    simp only at p
    unfold anyE at p
    split at p
    · split at p
      · rename_i d _ bs e1
        obtain ⟨v, e, h⟩ := reps1 ha
        subst e
        obtain ⟨a, h1, h2⟩ := lst_bls r e1 h
        subst h1
        exact ⟨a, bs, rfl, h2, post_here r p (rep_bl.mpr rfl)⟩
      · exact p.elim
    · exact p.elim
  | sum =>
    refine ⟨_, cr_sum hc, fun W σ H μ S ds vs Q r ha p => ?_⟩
    unfold bltE at p
    simp only at p
    unfold sumE at p
    split at p
    · split at p
      · rename_i d _ bs e1
        obtain ⟨v, e, h⟩ := reps1 ha
        subst e
        obtain ⟨a, h1, h2⟩ := lst_ints r e1 h
        subst h1
        exact ⟨a, bs, rfl, h2, post_here r p (rep_int.mpr rfl)⟩
      · exact p.elim
    · exact p.elim
  | abs =>
    refine ⟨_, call_abs, fun W σ H μ S ds vs Q r ha p => ?_⟩
    unfold bltE at p
    simp only at p
    unfold absE at p
    split at p
    · rename_i i
      obtain ⟨v, e, h⟩ := reps1 ha
      subst e
      rw [rep_int.mp h]
      exact ⟨i, rfl, post_here r p (rep_int.mpr rfl)⟩
    · exact p.elim
  | max =>
    refine ⟨_, call_max2 hc, fun W σ H μ S ds vs Q r ha p => ?_⟩
    unfold bltE at p
    simp only at p
    unfold maxE at p
    split at p
    · rename_i i j
      obtain ⟨v, w, e, h, h'⟩ := reps2 ha
      subst e
      rw [rep_int.mp h, rep_int.mp h']
      exact ⟨i, j, rfl, post_here r p (rep_int.mpr rfl)⟩
    · exact p.elim
  | min =>
    refine ⟨_, call_min2 hc, fun W σ H μ S ds vs Q r ha p => ?_⟩
    unfold bltE at p
    simp only at p
    unfold minE at p
    split at p
    · rename_i i j
      obtain ⟨v, w, e, h, h'⟩ := reps2 ha
      subst e
      rw [rep_int.mp h, rep_int.mp h']
      exact ⟨i, j, rfl, post_here r p (rep_int.mpr rfl)⟩
    · exact p.elim
  | int =>
    refine ⟨_, call_int1, fun W σ H μ S ds vs Q r ha p => ?_⟩
    unfold bltE at p
    simp only at p
    unfold intE at p
    split at p
    · rename_i i
      obtain ⟨v, e, h⟩ := reps1 ha
      subst e
      rw [rep_int.mp h]
      exact .inl ⟨i, rfl, post_here r p (rep_int.mpr rfl)⟩
    · rename_i i
      obtain ⟨v, e, h⟩ := reps1 ha
      subst e
      rw [rep_bl.mp h]
      exact .inr ⟨i, rfl, post_here r p (rep_int.mpr rfl)⟩
    · exact p.elim
  | repr =>
    refine ⟨_, call_repr hg hu, fun W σ H μ S ds vs Q r ha p => ?_⟩
    unfold bltE at p
    simp only at p
    unfold reprE at p
    split at p
    · split at p
      · split at p
        · rename_i d _ q e1 hq
          obtain ⟨v, e, h⟩ := reps1 ha
          subst e
          have hd := toPy_dp r _ _ _ _ h e1
          obtain ⟨a, e⟩ := isDisplay_rep hd hq.2.2.2.2
          subst e
          exact ⟨a, q, rfl, hd, hq.1, hq.2.1, hq.2.2.1, hq.2.2.2.1, post_here r p (rep_str.mpr rfl)⟩
        · exact p.elim
      · exact p.elim
    · exact p.elim
  | gcd =>
    refine ⟨_, cr_gcd, fun W σ H μ S ds vs Q r ha p => ?_⟩
    unfold bltE at p
    simp only at p
    unfold gcdE at p
    split at p
    · rename_i i j
      obtain ⟨v, w, e, h, h'⟩ := reps2 ha
      subst e
      rw [rep_int.mp h, rep_int.mp h']
      exact ⟨i, j, rfl, post_here r p (rep_int.mpr rfl)⟩
    · exact p.elim

/-! ### the methods of a list -/
theorem append_rule : MtR X "list.append" rAppend := mt_append
theorem append_post (W : WX) (σ : L2.St) (H : Hp) (μ : List Addr) (S : Store) (o : D) (ds : List D) (x : V) (vs : List V) (Q : VK) (r : SR X.K ca H μ S) (ho : Rep X.K H μ o x) (ha : Reps X.K H μ ds vs)
    (p : Post X.K ca W σ H μ (QV X.K Q) (appendE o ds S)) : rAppend x vs H Q := by
  unfold appendE at p
  split at p
  · split at p
    · split at p
      · rename_i i d _ xs e hl
        obtain ⟨v, e1, h⟩ := reps1 ha
        subst e1
        obtain ⟨a, ws, h1, hm, h2, h3⟩ := r.lst e ho
        subst h1
        refine ⟨a, ws, v, rfl, rfl, h2, by rw [h3.len]; exact hl, ?_⟩
        have s : Step H μ (upd H a (.lst (ws ++ [v]))) μ := Step.write r hm
        exact p _ _ s (r.write hm ⟨_, upd_same, (Reps.step s.grow _ _ h3).append (Reps.cons (Rep.step s.grow _ _ h) Reps.nil)⟩) .non (rep_non.mpr rfl)
      · exact p.elim
    · exact p.elim
  · exact p.elim
theorem pop_post (W : WX) (σ : L2.St) (H : Hp) (μ : List Addr) (S : Store) (o : D) (ds : List D) (x : V) (vs : List V) (Q : VK) (r : SR X.K ca H μ S) (ho : Rep X.K H μ o x) (ha : Reps X.K H μ ds vs)
    (p : Post X.K ca W σ H μ (QV X.K Q) (popE o ds S)) : rPop x vs H Q := by
  unfold popE at p
  split at p
  · split at p
    · split at p
      · rename_i i _ xs e _ d e2
        obtain ⟨a, ws, h1, hm, h2, h3⟩ := r.lst e ho
        subst h1
        have hv : vs = [] := by unfold Reps at ha; exact ha
        subst hv
        obtain ⟨v, g1, g2⟩ := h3.get e2
        refine ⟨a, ws, v, rfl, rfl, h2, by rw [h3.len]; exact g1, ?_⟩
        have s : Step H μ (upd H a (.lst ws.dropLast)) μ := Step.write r hm
        exact p _ _ s (r.write hm ⟨_, upd_same, (Reps.step s.grow _ _ h3).dropLast⟩) v (Rep.step s.grow _ _ g2)
      · exact p.elim
    · exact p.elim
  · exact p.elim
/-! ### o[i] = v -/
theorem set_post (W : WX) (σ : L2.St) (H : Hp) (μ : List Addr) (S : Store) (o i d : D) (x y v : V) (Q : Hp → Prop) (r : SR X.K ca H μ S) (ho : Rep X.K H μ o x) (hi : Rep X.K H μ i y) (hd : Rep X.K H μ d v)
    (p : Post X.K ca W σ H μ (fun _ _ H' _ => Q H') (setE o i d S)) : rSetL x y v H Q := by
  unfold setE at p
  split at p
  · split at p
    · split at p
      · rename_i q k _ xs e _ j e2
        obtain ⟨a, ws, h1, hm, h2, h3⟩ := r.lst e ho
        subst h1
        rw [rep_int.mp hi]
        refine ⟨a, ws, k, j, rfl, rfl, h2, by rw [h3.len]; exact e2, ?_⟩
        have s : Step H μ (upd H a (.lst (ws.set j v))) μ := Step.write r hm
        exact p _ _ s (r.write hm ⟨_, upd_same, (Reps.step s.grow _ _ h3).set (Rep.step s.grow _ _ hd) j⟩)
      · exact p.elim
    · exact p.elim
  · exact p.elim
/-! ### isinstance -/
def tyS : Ty → String
  | .int => "int"
  | .bool => "bool"
  | .str => "str"
  | .tuple => "tuple"
  | .list => "list"
theorem kit_all : ∀ a b : Ty, kitB (tyS a) (tyS b) = some (isTy a b)
  | .int, .int => by decide +kernel
  | .int, .bool => by decide +kernel
  | .int, .str => by decide +kernel
  | .int, .tuple => by decide +kernel
  | .int, .list => by decide +kernel
  | .bool, .int => by decide +kernel
  | .bool, .bool => by decide +kernel
  | .bool, .str => by decide +kernel
  | .bool, .tuple => by decide +kernel
  | .bool, .list => by decide +kernel
  | .str, .int => by decide +kernel
  | .str, .bool => by decide +kernel
  | .str, .str => by decide +kernel
  | .str, .tuple => by decide +kernel
  | .str, .list => by decide +kernel
  | .tuple, .int => by decide +kernel
  | .tuple, .bool => by decide +kernel
  | .tuple, .str => by decide +kernel
  | .tuple, .tuple => by decide +kernel
  | .tuple, .list => by decide +kernel
  | .list, .int => by decide +kernel
  | .list, .bool => by decide +kernel
  | .list, .str => by decide +kernel
  | .list, .tuple => by decide +kernel
  | .list, .list => by decide +kernel
theorem kit_non : ∀ b : Ty, kitB "NoneType" (tyS b) = some false
  | .int => by decide +kernel
  | .bool => by decide +kernel
  | .str => by decide +kernel
  | .tuple => by decide +kernel
  | .list => by decide +kernel
theorem ty_rep {K : PySem.W.Frag} {H : Hp} {μ : List Addr} {S : Store} (r : SR K ca H μ S) {d : D} {t : Ty} {v : V} (e : tyD S d = some t) (h : Rep K H μ d v) : TyX K H v (.type (tyS t)) := by
  cases d with
  | non => cases e
  | bl b => cases e; rw [rep_bl.mp h]; exact .base (.bl b)
  | int i => cases e; rw [rep_int.mp h]; exact .base (.int i)
  | str x => cases e; rw [rep_str.mp h]; exact .base (.str x)
  | tup ds =>
    cases e
    obtain ⟨a, vs, h1, h2, _⟩ := rep_tup.mp h
    subst h1
    rcases h2 with (h2 | ⟨o, h2⟩) | ⟨o, its, n, h2, hc, _⟩
    · exact .base (.tup h2)
    · exact .fTuple h2
    · exact .kTuple h2 hc
  | rol ds =>
    cases e
    obtain ⟨a, vs, h1, h2, _⟩ := rep_rol.mp h
    subst h1
    rcases h2 with ⟨o, h2⟩ | ⟨o, its, n, h2, hc, _⟩
    · exact .base (.frz h2)
    · exact .kList h2 hc
  | ref i =>
    have e' : (match S[i]? with
      | some (.lst _) => some Ty.list
      | _ => none) = some t := e
    split at e'
    · rename_i ds he
      cases e'
      obtain ⟨a, vs, h1, _, h2, _⟩ := r.lst he h
      subst h1
      exact .base (.lst h2)
    · cases e'
/-! ### truth -/
theorem tru_rep {K : PySem.W.Frag} {H : Hp} {μ : List Addr} {S : Store} (r : SR K ca H μ S) {d : D} {k : Bool} {v : V} (e : truD S d = some k) (h : Rep K H μ d v) : TruV K v H k := by
  have sq : ∀ d : D, Rep K H μ d v → (seqD S d).map (fun ds => !ds.isEmpty) = some k → TruV K v H k := fun d h e => by
    cases q : seqD S d with
    | none => rw [q] at e; cases e
    | some ds =>
      rw [q] at e
      have e' : (!ds.isEmpty) = k := Option.some.inj e
      obtain ⟨a, vs, h1, h2, h3⟩ := seq_rep r q h
      subst h1
      have hk : k = !vs.isEmpty := by
        rw [← e']
        have := h3.len
        cases ds <;> cases vs <;> simp at this ⊢
      rcases h2 with h2 | h2
      · exact .inl ⟨vs, h2, hk⟩
      · exact .inr (.inl ⟨vs, h2, hk⟩)
  cases d with
  | non => cases e; rw [rep_non.mp h]; rfl
  | bl b => cases e; rw [rep_bl.mp h]; rfl
  | int i => cases e; rw [rep_int.mp h]; rfl
  | str x =>
    rw [rep_str.mp h]
    have e' : (if x.length ≤ sizeLine then some ((x.length : Int) != 0) else none) = some k := e
    split at e'
    · rename_i hl
      exact ⟨hl, (Option.some.inj e').symm⟩
    · cases e'
  | tup ds => exact sq _ h e
  | rol ds => exact sq _ h e
  | ref i => exact sq _ h e
end
end Pl

set_option Elab.async false
set_option linter.all false
set_option maxRecDepth 100000
set_option maxHeartbeats 4000000
/-! Pl6: calls of defs. -/
namespace Pl
open PySem PySem.Spec PyProof.Rows L2

/-- a def keeps a promise, where no repr is under way -/
structure FnG (P : Program) (w : World) (K : PySem.W.Frag) (mg : Str → Option Value) (base : Heap) (k : Nat) (f : Addr) (fd : FuncData) (ps : List Str) (sp : Sp) : Prop where
  len : ∀ vs H Q E, sp vs H Q E → vs.length = ps.length
  run : ∀ (A : Around) (outer : List PySem.Env) (s : Shared) (H : Hp) (args : Args) (us : List Value) (vs : List V) (Q : VK) (E : XK), Room k A → A.guards = some [] → Env0 P w K mg base A outer s H → BindsTo s fd args (ps.zip us) → Vals vs us → sp vs H Q E →
    codeAny (model P w) A (.call (.ref f) args) (CR (L2.CX P w) outer P w H s Q E) s
/-- an evaluator's def as a promise -/
def spF (K : PySem.W.Frag) (ca : CA) (n : Nat) (r : List D → Store → Out D) : Sp := fun vs H Q E => vs.length = n ∧ ∃ ds S μ, Reps K H μ ds vs ∧ SR K ca H μ S ∧ Post K ca (fun cls d _ H' => E cls d H') [] H μ (QV K Q) (r ds S)
theorem Post.toF {K : PySem.W.Frag} {ca : CA} {W : WX} {σ : L2.St} {H : Hp} {μ : List Addr} {Q : VK} {o : Out D} (p : Post K ca W σ H μ (QV K Q) o) : Post K ca (fun cls d _ H' => WE W σ cls d H') [] H μ (QV K Q) o := by
  cases o with
  | ok a S => exact p
  | exc x S => exact p
  | bad => exact p

/-- what the text's defs and classes are, as the evaluator's table has them -/
structure Tbl (K : PySem.W.Frag) (mg : Str → Option Value) (tb : Tb) (ca : CA) (fa : Nat → Addr) (fd : Nat → FuncData) (flds free : List Str) : Prop where
  kp : ∀ i fi, tb.fns[i]? = some fi → PySem.W.keepIn K (.ref (fa i)) = true
  glo : ∀ i fi x, tb.fns[i]? = some fi → fi.glob = some x → mg x = some (.ref (fa i))
  bind : ∀ i fi, tb.fns[i]? = some fi → ∀ (s : Shared) (us ws : List Value) (ks : List Str), (us ++ ws).length = fi.ps.length → ws.length = ks.length → (ks = [] ∨ fi.ps.drop us.length = ks) → BindsTo s (fd i) ⟨us, ks.zip ws⟩ (fi.ps.zip (us ++ ws))
  cls : ∀ c C, ca c = some C → tb.inst c = true → Cls K C ∧ PySem.W.makesIn K C = true ∧ PySem.W.keepIn K (.ref C) = true
  clsA : ∀ c, tb.inst c = true → ∃ C, ca c = some C
  cglo : ∀ c C ci, ca c = some C → tb.cls[c]? = some ci → mg ci.name = some (.ref C)
  meth : ∀ c C m f, ca c = some C → tb.inst c = true → methOf tb c m = some f → Meth K C m (fa f) ∧ ∃ fi, tb.fns[f]? = some fi
  prop : ∀ c C m g, ca c = some C → tb.inst c = true → propOf tb c m = some g → ∃ p, PropOf K C m p (fa g)
  noat : ∀ c C f, ca c = some C → tb.inst c = true → f ∈ tb.flds → methOf tb c f = none → propOf tb c f = none → NoAttr K C f
  free : ∀ x ∈ free, mg x = none
  /-- errors -/
  exc : ∀ c C ci, ca c = some C → tb.cls[c]? = some ci → ci.exc = true → ci.meths = [] → PySem.W.excIn K C He.veBase "ValueError.__new__" = true ∧ PySem.W.keepIn K (.ref C) = true ∧ PySem.W.subIn K (.ref C) (.type "BaseException") = some true ∧ PySem.W.typeIn K (.ref C) = some (.type "type")
  excA : ∀ c, tb.exc c = true → ∃ C, ca c = some C
  exm : ∀ a b A B, ca a = some A → ca b = some B → tb.exc a = true → tb.exc b = true → PySem.W.exmOne K (.ref A) (.ref B) = some (tb.up a b)

section
variable {tb : Tb} {ca : CA} {fa : Nat → Addr} {fd : Nat → FuncData} {flds free : List Str}
/-- all defs at a level -/
def CallOk (X : Cx) (tb : Tb) (ca : CA) (fa : Nat → Addr) (fd : Nat → FuncData) (k : Nat) (cf : CallF) : Prop :=
  ∀ i fi, tb.fns[i]? = some fi → FnG X.prog X.w X.K X.mg X.base k (fa i) (fd i) fi.ps (spF X.K ca fi.ps.length (cf i))
/-- where code may stand -/
structure XOk (X : Cx) (cx : Ctx) (ca : CA) (fa : Nat → Addr) (fd : Nat → FuncData) (flds free : List Str) (k : Nat) : Prop where
  tbl : Tbl X.K X.mg cx.tb ca fa fd flds free
  call : CallOk X cx.tb ca fa fd k cx.call
  callM : cx.callM = badF ∨ ∃ j, j + 1 ≤ k ∧ CallOk X cx.tb ca fa fd j cx.callM
  lam : cx.lam = badL ∨ ∃ j c d, j + 2 ≤ k ∧ cx.lam = lamOf cx.tb cx.W c d ∧ CallOk X cx.tb ca fa fd j c ∧ (d = badF ∨ ∃ i, i + 1 ≤ j ∧ CallOk X cx.tb ca fa fd i d)
  lv : cx.lv = true → 2 ≤ k
  room : Room k X.A
  guards : X.A.guards = some []
  nd : X.N.Nodup
  calm : X.calm = true
  kind : X.env.scope.kind = .function
theorem in1_guards {A : Around} (h : A.guards = some []) : A.in1.guards = some [] := h
section
variable {X : Cx} {cx : Ctx} {k : Nat} {W : WX} {σ : L2.St} {H : Hp} {s : Shared} {pins : List (Addr × Obj)} {Q : VK}
theorem run_at {A : Around} {f : Addr} {fdd : FuncData} {ps : List Str} {sp : Sp} {E : XK} {us all : List Value} {kw : List (Str × Value)} {vs : List V} (F : FnG X.prog X.w X.K X.mg X.base k f fdd ps sp) (hr : Room k A) (hg : A.guards = some []) (I : Inv X pins σ H s)
    (e0 : Env0 X.prog X.w X.K X.mg X.base A X.stack s H) (hb : BindsTo s fdd ⟨us, kw⟩ (ps.zip all)) (r : Vals vs all) (hx : PassesAt (L2.CX X.prog X.w) X σ E) (h : sp vs H Q E) : codeAny (model X.prog X.w) A (.call (.ref f) ⟨us, kw⟩) (fun r s' => match r with
      | .ok (.ret u) => EP X pins σ Q u s'
      | .ok _ => False
      | .error e => X.xe e s') s := by
  refine codeAny_mono (F.run A X.stack s H ⟨us, kw⟩ all vs Q E hr hg e0 hb r h) fun r s' hq => ?_
  cases r with
  | error e => exact hx pins H s e s' I hq
  | ok fl =>
    cases fl with
    | ret u => exact I.after hq
    | next => exact False.elim hq
    | brk => exact False.elim hq
    | cont => exact False.elim hq
/-- f's value is called -/
theorem run_g {f : Addr} {fdd : FuncData} {ps : List Str} {sp : Sp} {E : XK} {us all : List Value} {kw : List (Str × Value)} {vs : List V} (F : FnG X.prog X.w X.K X.mg X.base k f fdd ps sp) (hr : Room k X.A) (hg : X.A.guards = some []) (I : Inv X pins σ H s)
    (hb : BindsTo s fdd ⟨us, kw⟩ (ps.zip all)) (r : Vals vs all) (hx : PassesAt (L2.CX X.prog X.w) X σ E) (h : sp vs H Q E) : wpAny (model X.prog X.w) X.A (call (.ref f) us kw) (EP X pins σ Q) X.xe s := by
  refine wpAny_call (codeAny_mono (run_at F hr hg I I.env0 hb r hx h) fun r s' hq => ?_)
  cases r with
  | error e => exact hq
  | ok fl =>
    cases fl with
    | ret u => exact hq
    | next => exact False.elim hq
    | brk => exact False.elim hq
    | cont => exact False.elim hq
theorem Room.le {j k : Nat} {A : Around} (h : j ≤ k) (r : Room k A) : Room j A := r.mono h
/-- no exception is let out -/
theorem passNo : PassesAt (L2.CX X.prog X.w) X σ (fun _ _ _ => False) := fun pins H s e s' _ h => by
  obtain ⟨a, B, H', cls, d, _, _, _, _, _, _, _, q⟩ := h
  exact False.elim q

/-! ### argument lists -/
/-- no star in a list -/
def noStar : List Expr → Bool
  | [] => true
  | .Starred _ _ :: _ => false
  | _ :: r => noStar r
theorem starEach_of {e : Expr} {es : List Expr} {env : PySem.Env} (h : noStar (e :: es) = true) : starEach (e :: es) env = (false, eval e env) :: starEach es env := by
  cases e <;> first | rfl | cases h
theorem noStar_tail {e : Expr} {es : List Expr} (h : noStar (e :: es) = true) : noStar es = true := by
  cases e <;> first | exact h | cases h
theorem plain_of {pos : Pos} {env : PySem.Env} : ∀ {es : List Expr}, noStar es = true → (backTo pos (starEach es env)).any (·.1) = false
  | [], _ => rfl
  | e :: es, h => by
    rw [starEach_of h]
    have ih := plain_of (pos := pos) (env := env) (noStar_tail h)
    unfold backTo at ih ⊢
    rw [List.map_cons, List.any_cons, ih]
    rfl
/-- the keywords' names -/
def kwNames : List Keyword → Option (List Str)
  | [] => some []
  | ⟨some n, _, _⟩ :: r => (kwNames r).map (n :: ·)
  | _ => none
theorem kw_all {pos : Pos} {env : PySem.Env} : ∀ {kws : List Keyword} {ks : List Str}, kwNames kws = some ks → (backToKw pos (keywordEach kws env)).all (·.1.isSome) = true ∧ (backToKw pos (keywordEach kws env)).filterMap (·.1) = ks ∧
    (backToKw pos (keywordEach kws env)).any (·.1.isNone) = false
  | [], ks, h => by cases h; exact ⟨rfl, rfl, rfl⟩
  | ⟨none, e, p⟩ :: r, ks, h => by cases h
  | ⟨some n, e, p⟩ :: r, ks, h => by
    have h' : (kwNames r).map (n :: ·) = some ks := h
    cases q : kwNames r with
    | none => rw [q] at h'; cases h'
    | some ls =>
      rw [q] at h'
      cases h'
      obtain ⟨h1, h2, h3⟩ := kw_all (pos := pos) (env := env) q
      unfold backToKw at h1 h2 h3 ⊢
      rw [keywordEach, List.map_cons]
      refine ⟨by rw [List.all_cons, h1]; rfl, by rw [List.filterMap_cons]; simp only [h2], by rw [List.any_cons, h3]; rfl⟩
/-- the arguments, then the call -/
theorem call_args {first : List Value} {f : Value} {pos : Pos} {es : List Expr} {kws : List Keyword} {ks : List Str} {t tk : TA} {R : List V → List V → Hp → Prop} {Qv : Value → Shared → Prop} (I : Inv X pins σ H s)
    (hk : PySem.W.keepIn X.K f = true) (hs : noStar es = true) (hn : kwNames kws = some ks) (h0 : es = [] → ∀ σ H Q, t σ H Q → Q [] H) (ha : PA X es t) (hkw : PK X kws tk) (h : t σ H fun vs H1 => tk σ H1 fun zs H2 => R vs zs H2)
    (hc : ∀ us ws vs zs H2 s2, Inv X pins σ H2 s2 → Vals vs us → Vals zs ws → R vs zs H2 → wpAny (model X.prog X.w) X.A (call f (first ++ us) (ks.zip ws)) Qv X.xe s2) :
    wpAny (model X.prog X.w) X.A (callWith pos f first (backTo pos (starEach es X.env)) (backToKw pos (keywordEach kws X.env))) Qv X.xe s := by
  obtain ⟨k1, k2, k3⟩ := kw_all (pos := pos) (env := X.env) hn
  cases es with
  | nil =>
    refine PySem.W.callWith_KW0 (h₀ := X.base) I.ok.mod.kin hk k1 ?_ (by rw [k3]; rfl)
    refine thn (hkw.run pos pins s σ H _ I (h0 rfl σ H _ h)) fun ws s2 ⟨zs, H2, I2, rz, q2⟩ => ⟨I2.kIn, ?_⟩
    rw [k2]
    exact hc [] ws [] zs H2 s2 I2 .nil rz q2
  | cons e es =>
    refine PySem.W.callWith_KW (h₀ := X.base) I.ok.mod.kin hk k1 (thn (ha.run pos pins s σ H _ I h) fun us s1 ⟨vs, H1, I1, r, q⟩ => ?_) (by rw [plain_of hs, k3]; rfl) (starEach_of hs)
    refine thn (hkw.run pos pins s1 σ H1 _ I1 q) fun ws s2 ⟨zs, H2, I2, rz, q2⟩ => ⟨I2.kIn, ?_⟩
    rw [k2]
    exact hc us ws vs zs H2 s2 I2 r rz q2
end
end
end Pl

set_option Elab.async false
set_option linter.all false
set_option maxRecDepth 100000
set_option maxHeartbeats 4000000
/-! Pl7: expressions, by their parts. -/
namespace Pl
open PySem PySem.Spec PyProof.Rows L2

section
variable {tb : Tb} {ca : CA} {fa : Nat → Addr} {fd : Nat → FuncData} {flds free : List Str} {X : Cx} {cx : Ctx} {k : Nat} {W : WX} {a b c o e : Expr} {ea eb ec eo : E} {pos : Pos} {es : List Expr} {ds : Es}
/-- e does what the evaluator's c does -/
abbrev SE (X : Cx) (ca : CA) (cx : Ctx) (W : WX) (e : Expr) (c : E) : Prop := PE X e (tE X.K ca W (evE cx c))
abbrev ST (X : Cx) (ca : CA) (cx : Ctx) (W : WX) (e : Expr) (c : E) : Prop := PT X e (tTs X.K ca W (evE cx c))
abbrev SW (X : Cx) (ca : CA) (cx : Ctx) (W : WX) (e : Expr) (c : E) : Prop := PW X e (tTs X.K ca W (evE cx c))
abbrev SA (X : Cx) (ca : CA) (cx : Ctx) (W : WX) (es : List Expr) (c : Es) : Prop := PA X es (tEs X.K ca W (evEs cx c))
abbrev SK (X : Cx) (ca : CA) (cx : Ctx) (W : WX) (ks : List Keyword) (c : Es) : Prop := PK X ks (tEs X.K ca W (evEs cx c))
/-- a slice's part -/
def tO (K : PySem.W.Frag) (ca : CA) (W : WX) (m : Slots → Store → Out (Option Int)) : TO := fun σ H Q => ∃ ρ S μ, EnvR K H μ σ ρ ∧ SR K ca H μ S ∧ Post K ca W σ H μ (fun x _ H' _ => Q x H') (m ρ S)
abbrev SO (X : Cx) (ca : CA) (cx : Ctx) (W : WX) (e : Option Expr) (c : Oe) : Prop := PO X e (tO X.K ca W (evO cx c))

theorem se_var {i : Nat} {x : Str} (hN : X.N[i]? = some x) (hv : Vis X.env.scope x) (hd : (x == ("__debug__" : Str)) = false) (hcd : (x == ("__classdict__" : Str)) = false) : SE X ca cx W (.Name x pos) (.var i) :=
  PE.imp (pe_var hN hv hd hcd) fun σ H Q ⟨ρ, S, μ, e, r, p⟩ => by
    rw [evE] at p
    split at p
    · rename_i d he
      obtain ⟨v, h1, h2⟩ := e.at_ i d he
      exact ⟨v, h1, post_here r p h2⟩
    · exact p.elim
theorem se_cst {v : V} {d : D} {e : Expr} (h : PE X e (tC v)) (hr : ∀ H μ, Rep X.K H μ d v) : SE X ca cx W e (.cst d) :=
  PE.imp h fun σ H Q ⟨ρ, S, μ, e, r, p⟩ => by
    rw [evE] at p
    exact post_here r p (hr H μ)
theorem se_bin (op : Bop) (ha : SE X ca cx W a ea) (hb : SE X ca cx W b eb) : SE X ca cx W (.BinOp a (bopOf op) b pos) (.bin op ea eb) := by
  obtain ⟨r, hr, hq⟩ := bin_rule (X := X) (ca := ca) op
  refine PE.imp (pe_op hr ha hb) fun σ H Q ⟨ρ, S, μ, e, r, p⟩ => ?_
  rw [evE] at p
  exact tE_bind e r (Post.bind p) fun d S1 H1 μ1 v s1 r1 e1 rv q1 => tE_bind e1 r1 (Post.bind q1) fun d2 S2 H2 μ2 v2 s2 r2 e2 rv2 q2 => hq W σ H2 μ2 S2 d d2 v v2 Q r2 (Rep.step s2.grow _ _ rv) rv2 q2
/-! ### comparisons, as values and as tests -/
theorem cmp_red {op : Cop} {Q : VK} {r : R2} (hq : ∀ (W : WX) (σ : L2.St) (H : Hp) (μ : List Addr) (S : Store) (a b : D) (x y : V) (Q : VK), SR X.K ca H μ S → Rep X.K H μ a x → Rep X.K H μ b y → Post X.K ca W σ H μ (QV X.K Q) (cmpE op a b S) → r x y H Q) {σ : L2.St} {H : Hp}
    (h : tE X.K ca W (evE cx (.cmp op ea eb)) σ H Q) : tOp r (tE X.K ca W (evE cx ea)) (tE X.K ca W (evE cx eb)) σ H Q := by
  obtain ⟨ρ, S, μ, e, r, p⟩ := h
  rw [evE] at p
  exact tE_bind e r (Post.bind p) fun d S1 H1 μ1 v s1 r1 e1 rv q1 => tE_bind e1 r1 (Post.bind q1) fun d2 S2 H2 μ2 v2 s2 r2 e2 rv2 q2 => hq W σ H2 μ2 S2 d d2 v v2 Q r2 (Rep.step s2.grow _ _ rv) rv2 q2
theorem hu64 {A : Around} {k : Nat} (r : Room k A) : A.units + 64 < cLine := by have := r.un; omega
theorem hu100 {A : Around} {k : Nat} (r : Room k A) : A.units + 100 < cLine := by have := r.un; omega
theorem nomark_cop (op : Cop) (b : Expr) : behindInMarks (copOf op) b = false := by
  cases op <;> exact nomark b
theorem se_cmp (hX : XOk X cx ca fa fd flds free k) (op : Cop) (ha : SE X ca cx W a ea) (hb : SE X ca cx W b eb) : SE X ca cx W (.Compare a [copOf op] [b] pos) (.cmp op ea eb) := by
  obtain ⟨r, hr, hq⟩ := cmp_rule (X := X) (ca := ca) (hu64 hX.room) op
  exact PE.imp (pe_cmpR hr ha hb (nomark_cop op b)) fun σ H Q h => cmp_red hq h
/-- a value's reading, as a test's -/
theorem tTs_val {m : Slots → Store → Out D} {K : PySem.W.Frag} {σ : L2.St} {H : Hp} {Q : Bool → Hp → Prop} (h : tTs K ca W m σ H Q) : tE K ca W m σ H (fun x H' => ∃ k, x = .bl k ∧ Q k H') := by
  obtain ⟨ρ, S, μ, e, r, p⟩ := h
  refine ⟨ρ, S, μ, e, r, p.imp fun d S' H' μ' s' r' ⟨k, hk, q⟩ v rv => ?_⟩
  subst hk
  exact ⟨k, rep_bl.mp rv, q⟩
theorem st_cmp (hX : XOk X cx ca fa fd flds free k) (op : Cop) (ha : SE X ca cx W a ea) (hb : SE X ca cx W b eb) : ST X ca cx W (.Compare a [copOf op] [b] pos) (.cmp op ea eb) := by
  obtain ⟨r, hr, hq⟩ := cmp_rule (X := X) (ca := ca) (hu64 hX.room) op
  exact PT.imp (pt_cmpR hr ha hb (nomark_cop op b)) fun σ H Q h => cmp_red hq (tTs_val h)
theorem rep_isN {K : PySem.W.Frag} {H : Hp} {μ : List Addr} : ∀ {d : D} {v : V}, Rep K H μ d v → decide (v = V.non) = isNon d
  | .non, v, rv => by rw [rep_non.mp rv]; rfl
  | .bl _, v, rv => by rw [rep_bl.mp rv]; rfl
  | .int _, v, rv => by rw [rep_int.mp rv]; rfl
  | .str _, v, rv => by rw [rep_str.mp rv]; rfl
  | .tup _, v, rv => by obtain ⟨_, _, h, _⟩ := rep_tup.mp rv; rw [h]; rfl
  | .rol _, v, rv => by obtain ⟨_, _, h, _⟩ := rep_rol.mp rv; rw [h]; rfl
  | .ref _, v, rv => by obtain ⟨_, _, h⟩ := rep_ref.mp rv; rw [h]; rfl
theorem isN_red {Q : VK} {σ : L2.St} {H : Hp} (h : tE X.K ca W (evE cx (.isN ea)) σ H Q) : tIsN (tE X.K ca W (evE cx ea)) σ H Q := by
  obtain ⟨ρ, S, μ, e, r, p⟩ := h
  rw [evE] at p
  refine tE_bind e r (Post.bind p) fun d S1 H1 μ1 v s1 r1 e1 rv q1 => ?_
  rw [rep_isN rv]
  exact post_here r1 q1 (rep_bl.mpr rfl)
theorem notN_red {Q : VK} {σ : L2.St} {H : Hp} (h : tE X.K ca W (evE cx (.notN ea)) σ H Q) : tNotN (tE X.K ca W (evE cx ea)) σ H Q := by
  obtain ⟨ρ, S, μ, e, r, p⟩ := h
  rw [evE] at p
  refine tE_bind e r (Post.bind p) fun d S1 H1 μ1 v s1 r1 e1 rv q1 => ?_
  rw [rep_isN rv]
  exact post_here r1 q1 (rep_bl.mpr rfl)
theorem nb_is (b : Expr) : behindInMarks .Is b = false := nobehind b (by decide) (by decide)
theorem nb_isNot (b : Expr) : behindInMarks .IsNot b = false := nobehind b (by decide) (by decide)
theorem se_isN {j : Nat} {p2 : Pos} (ha : SE X ca cx W a ea) : SE X ca cx W (.Compare a [.Is] [.Constant .none j p2] pos) (.isN ea) := PE.imp (pe_cmp (pc_isN ha) (nb_is _)) fun _ _ _ h => isN_red h
theorem se_notN {j : Nat} {p2 : Pos} (ha : SE X ca cx W a ea) : SE X ca cx W (.Compare a [.IsNot] [.Constant .none j p2] pos) (.notN ea) := PE.imp (pe_cmp (pc_notN ha) (nb_isNot _)) fun _ _ _ h => notN_red h
theorem st_isN {j : Nat} {p2 : Pos} (ha : SE X ca cx W a ea) : ST X ca cx W (.Compare a [.Is] [.Constant .none j p2] pos) (.isN ea) := PT.imp (pt_cmp (pc_isN ha) (nb_is _)) fun _ _ _ h => isN_red (tTs_val h)
theorem st_notN {j : Nat} {p2 : Pos} (ha : SE X ca cx W a ea) : ST X ca cx W (.Compare a [.IsNot] [.Constant .none j p2] pos) (.notN ea) := PT.imp (pt_cmp (pc_notN ha) (nb_isNot _)) fun _ _ _ h => notN_red (tTs_val h)
/-- what is no test of its own kind: by its value -/
def plainTest : Expr → Bool
  | .UnaryOp .Not _ _ => false
  | .BoolOp _ _ _ => false
  | .IfExp _ _ _ _ => false
  | .Compare _ _ _ _ => false
  | _ => true
theorem isTrue_plain {e : Expr} {env : PySem.Env} (h : plainTest e = true) (whole : Sem Value) : isTrue e env whole = (do let v ← whole; standAt e.pos; holding [v] (truthy v)) := by
  cases e <;> first | rfl | cases h | skip
  rename_i op _ _
  cases op <;> first | rfl | cases h
theorem st_val {ee : E} (h : SE X ca cx W e ee) (hp : plainTest e = true) : ST X ca cx W e ee := PT.imp (pt_val h (isTrue_plain hp)) fun _ _ _ q => tTs_val q
/-! ### and, or, not, if -/
theorem bl_red {Q : VK} {σ : L2.St} {H : Hp} {μ : List Addr} {d : D} {v : V} {f : Bool → Out D} (rv : Rep X.K H μ d v) (q : Post X.K ca W σ H μ (QV X.K Q) (onBl d f)) : ∃ k, v = .bl k ∧ Post X.K ca W σ H μ (QV X.K Q) (f k) := by
  cases d with
  | bl k => exact ⟨k, rep_bl.mp rv, q⟩
  | _ => exact q.elim
theorem se_and {rest : List Expr} (ha : SE X ca cx W a ea) (hb : SE X ca cx W (.BoolOp .And (b :: rest) pos) eb) : SE X ca cx W (.BoolOp .And (a :: b :: rest) pos) (.and ea eb) := by
  refine PE.imp (pe_and ha hb) fun σ H Q ⟨ρ, S, μ, e, r, p⟩ => ?_
  rw [evE] at p
  refine tE_bind e r (Post.bind p) fun d S1 H1 μ1 v s1 r1 e1 rv q1 => ?_
  obtain ⟨k, hk, q2⟩ := bl_red (f := fun k => if k = true then evE cx eb ρ S1 else .ok (.bl false) S1) rv q1
  refine ⟨k, hk, ?_⟩
  cases k with
  | true => exact ⟨ρ, S1, μ1, e1, r1, q2⟩
  | false => exact post_here r1 (p := q2) (rep_bl.mpr rfl)
theorem se_or {rest : List Expr} (ha : SE X ca cx W a ea) (hb : SE X ca cx W (.BoolOp .Or (b :: rest) pos) eb) : SE X ca cx W (.BoolOp .Or (a :: b :: rest) pos) (.or ea eb) := by
  refine PE.imp (pe_or ha hb) fun σ H Q ⟨ρ, S, μ, e, r, p⟩ => ?_
  rw [evE] at p
  refine tE_bind e r (Post.bind p) fun d S1 H1 μ1 v s1 r1 e1 rv q1 => ?_
  obtain ⟨k, hk, q2⟩ := bl_red (f := fun k => if k = true then .ok (.bl true) S1 else evE cx eb ρ S1) rv q1
  refine ⟨k, hk, ?_⟩
  cases k with
  | false => exact ⟨ρ, S1, μ1, e1, r1, q2⟩
  | true => exact post_here r1 (p := q2) (rep_bl.mpr rfl)
theorem se_not (ha : SE X ca cx W a ea) : SE X ca cx W (.UnaryOp .Not a pos) (.not ea) := by
  refine PE.imp (pe_not ha) fun σ H Q ⟨ρ, S, μ, e, r, p⟩ => ?_
  rw [evE] at p
  refine tE_bind e r (Post.bind p) fun d S1 H1 μ1 v s1 r1 e1 rv q1 => ?_
  obtain ⟨k, hk, q2⟩ := bl_red (f := fun k => .ok (.bl (!k)) S1) rv q1
  exact ⟨k, hk, post_here r1 q2 (rep_bl.mpr rfl)⟩
/-- a test's reading by the first part -/
theorem tTs_bind {m : Slots → Store → Out D} {K : PySem.W.Frag} {σ : L2.St} {H : Hp} {μ : List Addr} {ρ : Slots} {S : Store} {Q : Bool → Hp → Prop} {f : Bool → Store → Out D} {R : D → Store → Hp → List Addr → Prop} (e : EnvR K H μ σ ρ) (r : SR K ca H μ S)
    (p : Post K ca W σ H μ R ((m ρ S).bind fun x S => onBl x fun k => f k S))
    (h : ∀ k S' H' μ', Step H μ H' μ' → SR K ca H' μ' S' → EnvR K H' μ' σ ρ → Post K ca W σ H' μ' R (f k S') → Q k H') : tTs K ca W m σ H Q := by
  refine ⟨ρ, S, μ, e, r, (Post.bind p).imp fun d S' H' μ' s' r' q => ?_⟩
  cases d with
  | bl k => exact ⟨k, rfl, h k S' H' μ' s' r' (e.step s'.grow) q⟩
  | _ => exact q.elim
theorem sw_and1 (ha : ST X ca cx W a ea) : SW X ca cx W (.BoolOp .And [a] pos) ea := pw_and1 ha
theorem sw_or1 (ha : ST X ca cx W a ea) : SW X ca cx W (.BoolOp .Or [a] pos) ea := pw_or1 ha
theorem post_bl {σ : L2.St} {H : Hp} {μ : List Addr} {S : Store} {Q : Bool → Hp → Prop} {K : PySem.W.Frag} {k : Bool} (r : SR K ca H μ S) (p : Post K ca W σ H μ (fun d _ H' _ => ∃ k, d = D.bl k ∧ Q k H') (Out.ok (D.bl k) S)) : Q k H := by
  obtain ⟨k', e, q⟩ := p _ _ (Step.refl H μ) r
  cases e
  exact q
theorem sw_and {rest : List Expr} (ha : ST X ca cx W a ea) (hb : SW X ca cx W (.BoolOp .And (b :: rest) pos) eb) : SW X ca cx W (.BoolOp .And (a :: b :: rest) pos) (.and ea eb) := by
  refine PW.imp (pw_and ha hb) fun σ H Q ⟨ρ, S, μ, e, r, p⟩ => ?_
  rw [evE] at p
  refine tTs_bind (f := fun k S => if k = true then evE cx eb ρ S else Out.ok (D.bl false) S) e r p fun k S1 H1 μ1 s1 r1 e1 q2 => ?_
  cases k with
  | true => exact ⟨ρ, S1, μ1, e1, r1, q2⟩
  | false => exact post_bl r1 (p := q2)
theorem sw_or {rest : List Expr} (ha : ST X ca cx W a ea) (hb : SW X ca cx W (.BoolOp .Or (b :: rest) pos) eb) : SW X ca cx W (.BoolOp .Or (a :: b :: rest) pos) (.or ea eb) := by
  refine PW.imp (pw_or ha hb) fun σ H Q ⟨ρ, S, μ, e, r, p⟩ => ?_
  rw [evE] at p
  refine tTs_bind (f := fun k S => if k = true then Out.ok (D.bl true) S else evE cx eb ρ S) e r p fun k S1 H1 μ1 s1 r1 e1 q2 => ?_
  cases k with
  | false => exact ⟨ρ, S1, μ1, e1, r1, q2⟩
  | true => exact post_bl r1 (p := q2)
theorem st_not (ha : ST X ca cx W a ea) : ST X ca cx W (.UnaryOp .Not a pos) (.not ea) := by
  refine PT.imp (pt_not ha) fun σ H Q ⟨ρ, S, μ, e, r, p⟩ => ?_
  rw [evE] at p
  exact tTs_bind (f := fun k S => Out.ok (D.bl (!k)) S) e r p fun k S1 H1 μ1 s1 r1 e1 q2 => post_bl r1 q2
theorem se_ite (hc : ST X ca cx W c ec) (ha : SE X ca cx W a ea) (hb : SE X ca cx W b eb) : SE X ca cx W (.IfExp c a b pos) (.ite ec ea eb) := by
  refine PE.imp (pe_ifExp hc ha hb) fun σ H Q ⟨ρ, S, μ, e, r, p⟩ => ?_
  rw [evE] at p
  refine tTs_bind (f := fun k S => if k = true then evE cx ea ρ S else evE cx eb ρ S) e r p fun k S1 H1 μ1 s1 r1 e1 q2 => ?_
  cases k with
  | true => exact ⟨ρ, S1, μ1, e1, r1, q2⟩
  | false => exact ⟨ρ, S1, μ1, e1, r1, q2⟩
/-! ### displays -/
theorem sa_nil : SA X ca cx W [] .nil := PA.imp pa_nil fun σ H Q ⟨ρ, S, μ, e, r, p⟩ => by
  rw [evEs] at p
  exact p _ _ (Step.refl H μ) r [] Reps.nil
theorem sa_cons (hs : noStar (a :: es) = true) (ha : SE X ca cx W a ea) (ht : SA X ca cx W es ds) : SA X ca cx W (a :: es) (.cons ea ds) := by
  refine PA.imp (pa_cons ha ht (starEach_of hs)) fun σ H Q ⟨ρ, S, μ, e, r, p⟩ => ?_
  rw [evEs] at p
  refine tE_bind e r (Post.bind p) fun d S1 H1 μ1 v s1 r1 e1 rv q1 => tEs_bind e1 r1 (Post.bind q1) fun xs S2 H2 μ2 vs s2 r2 e2 rvs q2 => ?_
  exact q2 _ _ (Step.refl H2 μ2) r2 (v :: vs) (Reps.cons (Rep.step s2.grow _ _ rv) rvs)
theorem sk_nil : SK X ca cx W [] .nil := ⟨fun pos pins s σ H Q I ⟨ρ, S, μ, e, r, p⟩ => pk_nil.run pos pins s σ H Q I (by
  rw [evEs] at p
  exact p _ _ (Step.refl H μ) r [] Reps.nil)⟩
theorem sk_cons {n : Option Str} {kp : Pos} {kws : List Keyword} (ha : SE X ca cx W a ea) (ht : SK X ca cx W kws ds) : SK X ca cx W (⟨n, a, kp⟩ :: kws) (.cons ea ds) := ⟨fun pos pins s σ H Q I ⟨ρ, S, μ, e, r, p⟩ => (pk_cons ha ht).run pos pins s σ H Q I (by
  rw [evEs] at p
  refine tE_bind e r (Post.bind p) fun d S1 H1 μ1 v s1 r1 e1 rv q1 => tEs_bind e1 r1 (Post.bind q1) fun xs S2 H2 μ2 vs s2 r2 e2 rvs q2 => ?_
  exact q2 _ _ (Step.refl H2 μ2) r2 (v :: vs) (Reps.cons (Rep.step s2.grow _ _ rv) rvs))⟩
theorem se_tup {j : Nat} (h : SA X ca cx W es ds) : SE X ca cx W (.Tuple es j pos) (.tup ds) := by
  refine PE.imp (pe_tup h) fun σ H Q ⟨ρ, S, μ, e, r, p⟩ => ?_
  rw [evE] at p
  refine tEs_bind e r (Post.bind p) fun xs S1 H1 μ1 vs s1 r1 e1 rvs q1 => ?_
  split at q1
  · rename_i hl
    exact ⟨by rw [rvs.len]; exact hl, post_tup r1 q1 rvs⟩
  · exact q1.elim
theorem se_lst (h : SA X ca cx W es ds) : SE X ca cx W (.List es pos) (.lst ds) := by
  refine PE.imp (pe_lst h) fun σ H Q ⟨ρ, S, μ, e, r, p⟩ => ?_
  rw [evE] at p
  refine tEs_bind e r (Post.bind p) fun xs S1 H1 μ1 vs s1 r1 e1 rvs q1 => ?_
  split at q1
  · rename_i hl
    exact ⟨by rw [rvs.len]; exact hl, post_lst r1 q1 rvs⟩
  · exact q1.elim
/-! ### items, slices -/
def plainIx : Expr → Bool
  | .Slice _ _ _ _ => false
  | _ => true
theorem plainIx_of {b : Expr} (h : plainIx b = true) : PlainIx b := fun _ _ => by
  cases b <;> first | rfl | cases h
theorem se_idx (hp : plainIx b = true) (ha : SE X ca cx W a ea) (hb : SE X ca cx W b eb) : SE X ca cx W (.Subscript a b pos) (.idx ea eb) := by
  obtain ⟨r, hr, hq⟩ := idx_rule (X := X) (ca := ca)
  refine PE.imp (pe_ix hr ha hb (plainIx_of hp)) fun σ H Q ⟨ρ, S, μ, e, r, p⟩ => ?_
  rw [evE] at p
  exact tE_bind e r (Post.bind p) fun d S1 H1 μ1 v s1 r1 e1 rv q1 => tE_bind e1 r1 (Post.bind q1) fun d2 S2 H2 μ2 v2 s2 r2 e2 rv2 q2 => hq W σ H2 μ2 S2 d d2 v v2 Q r2 (Rep.step s2.grow _ _ rv) rv2 q2
theorem PO.imp {X : Cx} {e : Option Expr} {t t' : TO} (h : PO X e t) (hi : ∀ σ H Q, t' σ H Q → t σ H Q) : PO X e t' := ⟨fun pins s σ H Q I q => h.run pins s σ H Q I (hi σ H Q q)⟩
theorem so_none : SO X ca cx W none .none := PO.imp po_none fun σ H Q ⟨ρ, S, μ, e, r, p⟩ => by
  rw [evO] at p
  exact p _ _ (Step.refl H μ) r
theorem so_some (ha : SE X ca cx W a ea) : SO X ca cx W (some a) (.some ea) := by
  refine PO.imp (po_some ha) fun σ H Q ⟨ρ, S, μ, e, r, p⟩ => ?_
  rw [evO] at p
  refine tE_bind e r (Post.bind p) fun d S1 H1 μ1 v s1 r1 e1 rv q1 => ?_
  cases d with
  | int i => exact ⟨i, rep_int.mp rv, q1 _ _ (Step.refl H1 μ1) r1⟩
  | _ => exact q1.elim
theorem tO_bind {m : Slots → Store → Out (Option Int)} {K : PySem.W.Frag} {σ : L2.St} {H : Hp} {μ : List Addr} {ρ : Slots} {S : Store} {Q : Option Int → Hp → Prop} {R : Option Int → Store → Hp → List Addr → Prop} (e : EnvR K H μ σ ρ) (r : SR K ca H μ S) (p : Post K ca W σ H μ R (m ρ S))
    (h : ∀ x S' H' μ', Step H μ H' μ' → SR K ca H' μ' S' → EnvR K H' μ' σ ρ → R x S' H' μ' → Q x H') : tO K ca W m σ H Q :=
  ⟨ρ, S, μ, e, r, p.imp fun x S' H' μ' s' r' q => h x S' H' μ' s' r' (e.step s'.grow) q⟩
theorem se_slc {lo hi : Option Expr} {l h : Oe} {p2 : Pos} (ha : SE X ca cx W a ea) (hl : SO X ca cx W lo l) (hh : SO X ca cx W hi h) : SE X ca cx W (.Subscript a (.Slice lo hi none p2) pos) (.slc ea l h) := by
  obtain ⟨r, hr, hq⟩ := slc_rule (X := X) (ca := ca)
  refine PE.imp (pe_slice hr ha hl hh) fun σ H Q ⟨ρ, S, μ, e, r, p⟩ => ?_
  rw [evE] at p
  exact tE_bind e r (Post.bind p) fun d S1 H1 μ1 v s1 r1 e1 rv q1 => tO_bind e1 r1 (Post.bind q1) fun x S2 H2 μ2 s2 r2 e2 q2 => tO_bind e2 r2 (Post.bind q2) fun y S3 H3 μ3 s3 r3 e3 q3 =>
    hq W σ H3 μ3 S3 d x y v Q r3 (Rep.step s3.grow _ _ (Rep.step s2.grow _ _ rv)) q3
end
end Pl

set_option Elab.async false
set_option linter.all false
set_option maxRecDepth 100000
set_option maxHeartbeats 4000000
/-! Pl8: calls, attributes, methods, instances. -/
namespace Pl
open PySem PySem.Spec PyProof.Rows L2

section
variable {ca : CA} {fa : Nat → Addr} {fd : Nat → FuncData} {flds free : List Str} {X : Cx} {cx : Ctx} {k : Nat} {W : WX} {a b c o e : Expr} {ea eb ec eo : E} {pos : Pos} {es : List Expr} {ds kds : Es} {kws : List Keyword} {ks : List Str}

theorem bindK_ok {ps ks : List Str} {m n : Nat} (h : bindK ps ks m n = true) : n = ps.length ∧ m = ks.length ∧ (ks = [] ∨ ps.drop (n - m) = ks) := by
  unfold bindK at h
  obtain ⟨h1, h2⟩ := He.ba h
  obtain ⟨h3, h4⟩ := He.ba h2
  have e3 : m = ks.length := of_decide_eq_true h3
  refine ⟨of_decide_eq_true h1, e3, ?_⟩
  rcases Bool.or_eq_true_iff.mp h4 with h | h
  · left
    have : m = 0 := by simpa using h
    rw [this] at e3
    exact List.length_eq_zero_iff.mp e3.symm
  · exact .inr (of_decide_eq_true h)
/-- two readings of arguments, in a row -/
theorem tEs2 {K : PySem.W.Frag} {σ : L2.St} {H : Hp} {μ : List Addr} {ρ : Slots} {S : Store} {m1 m2 : Slots → Store → Out (List D)} {R : List V → List V → Hp → Prop} {Qd : List D → List D → Store → Hp → List Addr → Prop} (e : EnvR K H μ σ ρ) (r : SR K ca H μ S)
    (p : Post K ca W σ H μ (fun xs S1 H1 μ1 => Post K ca W σ H1 μ1 (fun ys S2 H2 μ2 => Qd xs ys S2 H2 μ2) (m2 ρ S1)) (m1 ρ S))
    (h : ∀ xs ys S2 H2 μ2 vs zs, Step H μ H2 μ2 → SR K ca H2 μ2 S2 → Reps K H2 μ2 xs vs → Reps K H2 μ2 ys zs → Qd xs ys S2 H2 μ2 → R vs zs H2) :
    tEs K ca W m1 σ H fun vs H1 => tEs K ca W m2 σ H1 fun zs H2 => R vs zs H2 :=
  tEs_bind e r p fun xs S1 H1 μ1 vs s1 r1 e1 rv q1 => tEs_bind e1 r1 q1 fun ys S2 H2 μ2 zs s2 r2 e2 rz q2 => h xs ys S2 H2 μ2 vs zs (s1.trans s2) r2 (Reps.step s2.grow _ _ rv) rz q2
theorem tEs_nil {K : PySem.W.Frag} {σ : L2.St} {H : Hp} {Q : List V → Hp → Prop} (h : tEs K ca W (evEs cx .nil) σ H Q) : Q [] H := by
  obtain ⟨ρ, S, μ, e, r, p⟩ := h
  rw [evEs] at p
  exact p _ _ (Step.refl H μ) r [] Reps.nil

/-- f(e, .., k = v, ..) -/
theorem se_call (hX : XOk X cx ca fa fd flds free k) (tk : Takes X W) {i : Nat} {fi : Fi} {x : Str} {p : Pos} (hi : cx.tb.fns[i]? = some fi) (hx : fi.glob = some x) (hg : Gl X x) (hdb : (x == ("__debug__" : Str)) = false) (hs : noStar es = true) (hn : kwNames kws = some ks)
    (h0 : es = [] → ds = .nil) (ha : SA X ca cx W es ds) (hk : SK X ca cx W kws kds) : SE X ca cx W (.Call (.Name x p) es kws pos) (.call i ds ks kds) := by
  refine ⟨fun pins s σ H Q I ⟨ρ, S, μ, e, r, q⟩ => ?_⟩
  rw [evE] at q
  refine wpAny_Call_Name_kw (ld_glob I hg (hX.tbl.glo i fi x hi hx) ?_ hdb)
  refine call_args (R := fun vs zs H2 => vs.length + zs.length = fi.ps.length ∧ zs.length = ks.length ∧ (ks = [] ∨ fi.ps.drop vs.length = ks) ∧ spF X.K ca fi.ps.length (cx.call i) (vs ++ zs) H2 Q (WE W σ)) I (hX.tbl.kp i fi hi) hs hn (fun e0 σ' H' Q' h' => ?_) ha hk
    (tEs2 e r (Post.bind q |>.imp fun _ _ _ _ _ _ q1 => Post.bind q1) fun xs ys S2 H2 μ2 vs zs s2 r2 rv rz q2 => ?_) fun us ws vs zs H2 s2 I2 rv rz ⟨h1, h2, h3, h4⟩ => ?_
  · rw [h0 e0] at h'
    exact tEs_nil h'
  · split at q2
    · rename_i hb
      obtain ⟨b1, b2, b3⟩ := bindK_ok hb
      have eps : psOf cx.tb i = fi.ps := by unfold psOf; rw [hi]
      rw [eps] at b1 b3
      have l1 := rv.len
      have l2 := rz.len
      refine ⟨by rw [l1, l2]; exact b1, by rw [l2]; exact b2, ?_, ?_, xs ++ ys, S2, μ2, rv.append rz, r2, q2.toF⟩
      · rw [l1]
        have : xs.length + ys.length - ys.length = xs.length := by omega
        rw [this] at b3
        exact b3
      · rw [List.length_append, l1, l2]; exact b1
    · exact q2.elim
  · have l1 := rv.length
    have l2 := rz.length
    exact run_g (us := us) (hX.call i fi hi) hX.room hX.guards I2 (hX.tbl.bind i fi hi s2 us ws ks (by rw [List.length_append, ← l1, ← l2]; exact h1) (by rw [← l2]; exact h2) (by rw [← l1]; exact h3)) (rv.append rz) (passAt tk σ) h4
/-- where nothing may be raised -/
theorem Post.noExc {K : PySem.W.Frag} {σ : L2.St} {H : Hp} {μ : List Addr} {R : D → Store → Hp → List Addr → Prop} {o : Out D} (p : Post K ca W σ H μ R (noExc o)) : ∀ E : XK, Post K ca (fun cls d _ H' => E cls d H') [] H μ R o := fun E => by
  cases o with
  | ok a S => exact p
  | exc x S => exact p.elim
  | bad => exact p
/-- at one level less -/
theorem runM (hX : XOk X cx ca fa fd flds free k) {i : Nat} {fi : Fi} {W' : WX} {σ' : L2.St} {H : Hp} {μ : List Addr} {R : D → Store → Hp → List Addr → Prop} {ds : List D} {S : Store} (hi : cx.tb.fns[i]? = some fi) (p : Post X.K ca W' σ' H μ R (cx.callM i ds S)) :
    ∃ j, j + 1 ≤ k ∧ FnG X.prog X.w X.K X.mg X.base j (fa i) (fd i) fi.ps (spF X.K ca fi.ps.length (cx.callM i)) := by
  rcases hX.callM with h | ⟨j, hj, h⟩
  · rw [h] at p
    exact p.elim
  · exact ⟨j, hj, h i fi hi⟩

/-! ### instances -/
theorem insD_ok {S : Store} {d : D} {i c : Nat} {fs : List (Str × D)} (h : insD S d = some (i, c, fs)) : d = .ref i ∧ S[i]? = some (.ins c fs) := by
  cases d with
  | ref j =>
    have h' : (match S[j]? with
      | some (.ins c fs) => some (j, c, fs)
      | _ => none) = some (i, c, fs) := h
    split at h'
    · rename_i c' fs' e
      cases h'
      exact ⟨rfl, e⟩
    · cases h'
  | _ => cases h
/-- a plain attribute's base -/
def plainBase : Expr → Bool
  | .Call (.Name _ _) [] [] _ => false
  | _ => true
theorem base_of {o : Expr} {n : Str} {env : PySem.Env} {whole : Sem Value} (h : plainBase o = true) : attributeBase o n env whole = whole := by
  cases o with
  | Call f es ks p =>
    cases f with
    | Name x px =>
      cases es with
      | nil =>
        cases ks with
        | nil => cases h
        | cons _ _ => rfl
      | cons _ _ => rfl
    | _ => rfl
  | _ => rfl

/-- a property's getter, at the object -/
theorem prop_run (hX : XOk X cx ca fa fd flds free k) {pins : List (Addr × Obj)} {σ : L2.St} {H : Hp} {s : Shared} {Q : VK} {bb : Bool} {x C dx p : Addr} {fs : List (Str × V)} {f : Str} {i j : Nat} {fi : Fi} (I : Inv X pins σ H s) (exx : H x = some (.ins C dx fs)) (cl : Cls X.K C) (hp : PropOf X.K C f p (fa i))
    (hi : cx.tb.fns[i]? = some fi) (h1 : fi.ps.length = 1) (hj : j + 1 ≤ k) (F : FnG X.prog X.w X.K X.mg X.base j (fa i) (fd i) fi.ps (spF X.K ca fi.ps.length (cx.callM i))) (h : spF X.K ca fi.ps.length (cx.callM i) [.ref x] H Q (fun _ _ _ => False)) :
    wpAny (model X.prog X.w) X.A (getAttr (.ref x) f bb) (EP X pins σ Q) X.xe s := by
  obtain ⟨mA, O, _, _, _, _⟩ := ins_get I.hok exx
  obtain ⟨od, J, _⟩ := O.look
  obtain ⟨rest, hrec⟩ := hp.rec_
  have I1 := I.tok (s.toks + 1)
  have hr : Room (j + 1) X.A := hX.room.mono hj
  have hc : (PySem.W.clsIn X.K C).isSome = true := by
    obtain ⟨cd, hc, _⟩ := PySem.W.any_some cl.hd
    rw [hc]
    rfl
  refine PySem.W.get_bind I.kIn J (PySem.W.plainGet_of (cl.get f)).1 (PySem.W.findObj_data hc hp.at_ hp.get hp.tak) (PySem.W.plainGet_of (cl.get f)).2 (wpAny_call (PySem.W.prop_get (s := { s with toks := s.toks + 1 }) I.kIn hrec ?_))
  refine codeAny_mono (F.run X.A.in1 X.stack { s with toks := s.toks + 1 } H ⟨[.ref x], []⟩ [.ref x] [.ref x] Q (fun _ _ _ => False) hr.in1 (in1_guards hX.guards) I1.env0.in1 (hX.tbl.bind i fi hi _ [.ref x] [] [] h1.symm rfl (.inl rfl)) (.cons rfl .nil) h) fun r s' hq => ?_
  cases r with
  | error er => exact False.elim (passNo (X := X.nox) pins H { s with toks := s.toks + 1 } er s' (I1.wish _) hq)
  | ok fl =>
    cases fl with
    | ret u =>
      obtain ⟨v, H', I3, rv, q3⟩ := I1.after hq
      show wpAny _ _ (handedOut u) _ _ _
      rw [PySem.W.handedOut_of (handed_of rv)]
      exact wpAny_pure ⟨v, H', I3, rv, q3⟩
    | next => exact False.elim hq
    | brk => exact False.elim hq
    | cont => exact False.elim hq
theorem len_run (hX : XOk X cx ca fa fd flds free k) {pins : List (Addr × Obj)} {σ : L2.St} {H : Hp} {s : Shared} {Q : VK} {x C dx : Addr} {fs : List (Str × V)} {i j : Nat} {fi : Fi} (I : Inv X pins σ H s) (exx : H x = some (.ins C dx fs)) (hm : Meth X.K C "__len__" (fa i))
    (hi : cx.tb.fns[i]? = some fi) (h1 : fi.ps.length = 1) (hj : j + 1 ≤ k) (F : FnG X.prog X.w X.K X.mg X.base j (fa i) (fd i) fi.ps (spF X.K ca fi.ps.length (cx.callM i)))
    (h : spF X.K ca fi.ps.length (cx.callM i) [.ref x] H (fun v H' => ∃ n : Int, v = .int n ∧ 0 ≤ n ∧ n < 2 ^ 63 ∧ Q v H') (fun _ _ _ => False)) :
    wpAny (model X.prog X.w) X.A (call (.builtin "len") [.ref x]) (EP X pins σ Q) X.xe s := by
  obtain ⟨mA, O, _, _, _, _⟩ := ins_get I.hok exx
  obtain ⟨od, J, _⟩ := O.look
  obtain ⟨m, Fm⟩ := I.fr
  have hr : Room (j + 1) X.A := hX.room.mono hj
  refine PySem.W.len_K Fm I.ok.mod.kin J hm.at_ hm.fn ?_
  refine wpAny_call (codeAny_mono (run_at (us := [.ref x]) (kw := []) (all := [.ref x]) (vs := [.ref x]) F hr.in1 (in1_guards hX.guards) I I.env0.in1 (hX.tbl.bind i fi hi _ [.ref x] [] [] h1.symm rfl (.inl rfl)) (.cons rfl .nil) passNo h) fun r s' hq => ?_)
  cases r with
  | error er => exact hq
  | ok fl =>
    cases fl with
    | ret u =>
      obtain ⟨v, H', I', rv, n, e, h0, h2, q⟩ := hq
      subst e
      obtain ⟨t, e⟩ := rv
      subst e
      exact ⟨⟨h0, h2⟩, .int n, H', I'.tok _, ⟨_, rfl⟩, q⟩
    | next => exact False.elim hq
    | brk => exact False.elim hq
    | cont => exact False.elim hq
/-- the getter's promise of one argument -/
theorem sp_one {K : PySem.W.Frag} {H : Hp} {μ : List Addr} {S : Store} {n : Nat} {f : List D → Store → Out D} {d : D} {v : V} {Q : VK} {E : XK} (hn : n = 1) (r : SR K ca H μ S) (rv : Rep K H μ d v) (p : Post K ca (fun cls d _ H' => E cls d H') [] H μ (QV K Q) (f [d] S)) : spF K ca n f [v] H Q E :=
  ⟨hn.symm, [d], S, μ, Reps.cons rv Reps.nil, r, p⟩
/-- o.f -/
theorem se_fld (hX : XOk X cx ca fa fd flds free k) {f : Str} (h1 : ∀ c g fi, propOf cx.tb c f = some g → cx.tb.fns[g]? = some fi → fi.ps.length = 1) (h2 : ∀ c g, propOf cx.tb c f = some g → ∃ fi, cx.tb.fns[g]? = some fi) (hp : plainBase o = true) (ho : SE X ca cx W o eo) :
    SE X ca cx W (.Attribute o f pos) (.fld eo f) := by
  refine ⟨fun pins s σ H Q I ⟨ρ, S, μ, e, r, q⟩ => ?_⟩
  rw [evE] at q
  refine attr_of (base_of hp) (thn (ho.run pins s σ H (fun x H1 => ∀ s1 u, Inv X pins σ H1 s1 → RelV x u → wpAny (model X.prog X.w) X.A (getAttr u f true) (EP X pins σ Q) X.xe s1) I (tE_bind e r (Post.bind q) fun d S1 H1 μ1 v s1 r1 e1 rv q1 => ?_)) fun u s1 ⟨x, H1, I1, rx, hh⟩ => hh s1 u I1 rx)
  · intro s1 u I1 rx
    split at q1
    · rename_i i c fs he
      obtain ⟨e2, e3⟩ := insD_ok he
      subst e2
      obtain ⟨x, C, dx, fv, g1, g2, g3, g4, g5⟩ := r1.ins e3 rv
      subst g1
      obtain rfl : u = Value.ref x := rx
      split at q1
      · rename_i hin
        obtain ⟨cl, _, _⟩ := hX.tbl.cls c C g3 hin
        split at q1
        · rename_i g hg
          obtain ⟨p, hpp⟩ := hX.tbl.prop c C f g g3 hin hg
          obtain ⟨fi, hfi⟩ := h2 c g hg
          have q2 := Post.noExc q1 (fun _ _ _ => False)
          obtain ⟨j, hj, F⟩ := runM hX hfi q2
          exact prop_run hX I1 g4 cl hpp hfi (h1 c g fi hg hfi) hj F (sp_one (h1 c g fi hg hfi) r1 rv q2)
        · rename_i hg
          split at q1
          · exact q1.elim
          · rename_i hm
            split at q1
            · rename_i hf
              split at q1
              · rename_i d hd
                obtain ⟨w', l1, l2⟩ := (FReps.lookup (f := f) g5).1 d hd
                exact getattr_ok I1 g4 cl (hX.tbl.noat c C f g3 hin (List.contains_iff_mem.mp hf) hm hg) l1 fun u s2 I2 ru => ⟨w', H1, I2, ru, post_here r1 q1 l2⟩
              · exact q1.elim
            · exact q1.elim
      · exact q1.elim
    · exact q1.elim
/-- o.m(e, .., k = v, ..) -/
theorem se_mth (hX : XOk X cx ca fa fd flds free k) (tk : Takes X W) {m : Str} {apos : Pos} (hp : plainBase o = true) (hs : noStar es = true) (hn : kwNames kws = some ks) (hl : (apos.endLine == pos.line) = true) (hfew : es.length + kws.length < 29)
    (h0 : es = [] → ds = .nil) (ho : SE X ca cx W o eo) (ha : SA X ca cx W es ds) (hk : SK X ca cx W kws kds) : SE X ca cx W (.Call (.Attribute o m apos) es kws pos) (.mth eo m ds ks kds) := by
  refine ⟨fun pins s σ H Q I ⟨ρ, S, μ, e, r, q⟩ => ?_⟩
  rw [evE] at q
  have few : methodCallForm (es.length + kws.length) (backTo pos (starEach es X.env)) (backToKw pos (keywordEach kws X.env)) = true := by
    obtain ⟨k1, _, _⟩ := kw_all (pos := pos) (env := X.env) hn
    unfold methodCallForm
    have p1 : (backTo pos (starEach es X.env)).all (!·.1) = true := by
      have := plain_of (pos := pos) (env := X.env) hs
      rw [List.any_eq_false] at this
      rw [List.all_eq_true]
      intro z hz
      have := this z hz
      simpa using this
    rw [p1, k1, Bool.true_and, Bool.true_and]
    apply decide_eq_true
    split <;> omega
  refine PySem.W.methodCall_KW (pl := plainOf o X.env) (thn (ho.run pins s σ H (fun x H1 => ∀ s1 u, Inv X pins σ H1 s1 → RelV x u → wpAny (model X.prog X.w) X.A (getMethod u m (plainOf o X.env)) (fun fx s₂ => wpAny (model X.prog X.w) X.A (callWith pos fx.1 fx.2 (backTo pos (starEach es X.env)) (backToKw pos (keywordEach kws X.env))) (EP X pins σ Q) X.xe s₂) X.xe s1) I (tE_bind e r (Post.bind q) fun d S1 H1 μ1 v s1 r1 e1 rv q1 => ?_)) fun u s1 ⟨x, H1, I1, rx, hh⟩ => hh s1 u I1 rx) ?_
  · intro s1 u I1 rx
    split at q1
    · rename_i i c fs he
      obtain ⟨e2, e3⟩ := insD_ok he
      subst e2
      obtain ⟨x, C, dx, fv, g1, g2, g3, g4, g5⟩ := r1.ins e3 rv
      subst g1
      obtain rfl : u = Value.ref x := rx
      split at q1
      · rename_i hin
        obtain ⟨cl, _, _⟩ := hX.tbl.cls c C g3 hin
        split at q1
        · rename_i f hm hlk
          obtain ⟨mm, fi, hfi⟩ := hX.tbl.meth c C m f g3 hin hm
          refine getmeth_ok I1 g4 cl mm ((FReps.lookup (f := m) g5).2 hlk) ?_
          refine call_args (first := [.ref x]) (R := fun vs zs H2 => vs.length + zs.length + 1 = fi.ps.length ∧ zs.length = ks.length ∧ (ks = [] ∨ fi.ps.drop (vs.length + 1) = ks) ∧ spF X.K ca fi.ps.length (cx.call f) (.ref x :: (vs ++ zs)) H2 Q (WE W σ)) I1 (hX.tbl.kp f fi hfi) hs hn (fun e0 σ' H' Q' h' => ?_) ha hk
            (tEs2 e1 r1 (Post.bind q1 |>.imp fun _ _ _ _ _ _ q1 => Post.bind q1) fun xs ys S2 H2 μ2 vs zs s2 r2 rvs rz q2 => ?_) fun us ws vs zs H2 s2 I2 rvs rz ⟨h1, h2, h3, h4⟩ => ?_
          · rw [h0 e0] at h'
            exact tEs_nil h'
          · split at q2
            · rename_i hb
              obtain ⟨b1, b2, b3⟩ := bindK_ok hb
              have eps : psOf cx.tb f = fi.ps := by unfold psOf; rw [hfi]
              rw [eps] at b1 b3
              have l1 := rvs.len
              have l2 := rz.len
              refine ⟨by rw [l1, l2]; exact b1, by rw [l2]; exact b2, ?_, ?_, .ref i :: (xs ++ ys), S2, μ2, Reps.cons (Rep.step s2.grow _ _ rv) (rvs.append rz), r2, q2.toF⟩
              · rw [l1]
                have : xs.length + ys.length + 1 - ys.length = xs.length + 1 := by omega
                rw [this] at b3
                exact b3
              · rw [List.length_cons, List.length_append, l1, l2]; exact b1
            · exact q2.elim
          · have l1 := rvs.length
            have l2 := rz.length
            exact run_g (us := .ref x :: us) (vs := .ref x :: (vs ++ zs)) (hX.call f fi hfi) hX.room hX.guards I2 (hX.tbl.bind f fi hfi s2 (.ref x :: us) ws ks (by rw [List.cons_append, List.length_cons, List.length_append, ← l1, ← l2]; exact h1) (by rw [← l2]; exact h2) (by rw [List.length_cons, ← l1]; exact h3)) (.cons rfl (rvs.append rz)) (passAt tk σ) h4
        · exact q1.elim
      · exact q1.elim
    · exact q1.elim
  · rw [arm_eval_Call, base_of hp]
    congr
    funext ov
    congr
    funext _
    exact mcall_line few hl
end
end Pl

set_option Elab.async false
set_option linter.all false
set_option maxRecDepth 100000
set_option maxHeartbeats 4000000
/-! Pl9: built-ins, isinstance, a list's methods, constructors. -/
namespace Pl
open PySem PySem.Spec PyProof.Rows L2

section
variable {ca : CA} {fa : Nat → Addr} {fd : Nat → FuncData} {flds free : List Str} {X : Cx} {cx : Ctx} {k : Nat} {W : WX} {a b c o e : Expr} {ea eb ec eo : E} {pos : Pos} {es : List Expr} {ds kds : Es} {kws : List Keyword} {ks : List Str}

/-- what a module's name for a built-in is -/
def BltAt (mg : Str → Option Value) (b : Blt) (x : Str) : Prop := (b = .gcd ∧ mg x = some (bltV b)) ∨ (b ≠ .gcd ∧ mg x = none ∧ bootBuiltins x = some (bltV b) ∧ x ≠ "__name__")
theorem Post.liftE {K : PySem.W.Frag} {W W' : WX} {σ σ' : L2.St} {H : Hp} {μ : List Addr} {α : Type} {R : α → Store → Hp → List Addr → Prop} {o : Out α} (p : Post K ca W σ H μ R o) (h : ∀ cls d H', W cls d σ H' → W' cls d σ' H') : Post K ca W' σ' H μ R o := by
  cases o with
  | ok a S => exact p
  | exc x S => exact fun cls dd H' μ' s r q => h cls dd H' (p cls dd H' μ' s r q)
  | bad => exact p
theorem blt_run (hX : XOk X cx ca fa fd flds free k) (hm1 : ∀ c f, methOf cx.tb c "__len__" = some f → ∀ fi, cx.tb.fns[f]? = some fi → fi.ps.length = 1) {b : Blt} {pins : List (Addr × Obj)} {σ : L2.St} {H : Hp} {s : Shared} {Q : VK} {μ : List Addr} {S : Store} {ds : List D} {vs : List V} {us : List Value} (I : Inv X pins σ H s)
    (r : SR X.K ca H μ S) (hd : Reps X.K H μ ds vs) (rv : Vals vs us) (p : Post X.K ca W σ H μ (QV X.K Q) (bltX cx b ds S)) : wpAny (model X.prog X.w) X.A (call (bltV b) us) (EP X pins σ Q) X.xe s := by
  have base : ∀ p : Post X.K ca W σ H μ (QV X.K Q) (bltE b ds S), wpAny (model X.prog X.w) X.A (call (bltV b) us) (EP X pins σ Q) X.xe s := fun p => by
    obtain ⟨rr, hr, hq⟩ := blt_rule (X := X) (ca := ca) hX.calm hX.guards (hu100 hX.room) b
    exact hr pins s σ H vs us Q I rv (hq W σ H μ S ds vs Q r hd p)
  unfold bltX at p
  split at p
  · rename_i d
    split at p
    · rename_i i c fs he
      obtain ⟨e2, e3⟩ := insD_ok he
      subst e2
      obtain ⟨v, e, rp⟩ := reps1 hd
      subst e
      obtain ⟨x, C, dx, fv, g1, g2, g3, g4, g5⟩ := r.ins e3 rp
      subst g1
      obtain rfl : us = [Value.ref x] := Vals.ref1 rv
      split at p
      · rename_i hin
        split at p
        · rename_i f hf
          obtain ⟨mm, fi, hfi⟩ := hX.tbl.meth c C _ f g3 hin hf
          have q2 := Post.noExc (Post.bind p) (fun _ _ _ => False)
          obtain ⟨j, hj, F⟩ := runM hX hfi q2
          have h1 := hm1 c f hf fi hfi
          refine len_run hX I g4 mm hfi h1 hj F (sp_one h1 r rp (q2.imp fun z S' H' μ' s' r' q v rv => ?_))
          cases z with
          | int n =>
            have q' : Post X.K ca W σ H' μ' (QV X.K Q) (if 0 ≤ n ∧ n.natAbs < 2 ^ 63 then .ok (.int n) S' else .bad) := q
            split at q'
            · rename_i hn
              have ev := rep_int.mp rv
              exact ⟨n, ev, hn.1, by have := hn.2; omega, post_here r' q' rv⟩
            · exact q'.elim
          | _ => exact (show False from q).elim
        · exact p.elim
      · exact p.elim
    · exact base p
  · exact base p
theorem bltV_kind (b : Blt) : (∃ id, bltV b = .builtin id) ∨ ∃ T, bltV b = .type T := by
  cases b
  · exact .inl ⟨_, rfl⟩
  · exact .inr ⟨_, rfl⟩
  · exact .inr ⟨_, rfl⟩
  · exact .inl ⟨_, rfl⟩
  · exact .inl ⟨_, rfl⟩
  · exact .inl ⟨_, rfl⟩
  · exact .inl ⟨_, rfl⟩
  · exact .inl ⟨_, rfl⟩
  · exact .inl ⟨_, rfl⟩
  · exact .inr ⟨_, rfl⟩
  · exact .inl ⟨_, rfl⟩
  · exact .inl ⟨_, rfl⟩
/-- f(e, ..), f a built-in -/
theorem se_blt (hX : XOk X cx ca fa fd flds free k) (hm1 : ∀ c f, methOf cx.tb c "__len__" = some f → ∀ fi, cx.tb.fns[f]? = some fi → fi.ps.length = 1) {b : Blt} {x : Str} {p : Pos} (hx : BltAt X.mg b x) (hg : Gl X x) (hdb : (x == ("__debug__" : Str)) = false) (hs : noStar (e :: es) = true)
    (ha : SA X ca cx W (e :: es) ds) : SE X ca cx W (.Call (.Name x p) (e :: es) [] pos) (.blt b ds) := by
  have go : ∀ (pins : List (Addr × Obj)) (s : Shared) (σ : L2.St) (H : Hp) (Q : VK), Inv X pins σ H s → tE X.K ca W (evE cx (.blt b ds)) σ H Q →
      wpAny (model X.prog X.w) X.A (spliced (backTo pos (starEach (e :: es) X.env))) (fun vs s1 => wpAny (model X.prog X.w) X.A (call (bltV b) vs) (EP X pins σ Q) X.xe s1) X.xe s := by
    intro pins s σ H Q I ⟨ρ, S, μ, er, r, q⟩
    rw [evE] at q
    exact thn (ha.run pos pins s σ H (fun vs H1 => ∀ us s1, Inv X pins σ H1 s1 → Vals vs us → wpAny (model X.prog X.w) X.A (call (bltV b) us) (EP X pins σ Q) X.xe s1) I (tEs_bind er r (Post.bind q) fun ds S1 H1 μ1 vs s1 r1 e1 rd q1 us s2 I2 rv => blt_run hX hm1 I2 r1 rd rv q1))
      fun us s1 ⟨vs, H1, I1, rv, h⟩ => h us s1 I1 rv
  have hpl := plain_of (pos := pos) (env := X.env) (noStar_tail hs)
  have hst := starEach_of (env := X.env) hs
  refine ⟨fun pins s σ H Q I h => ?_⟩
  have hh := go pins s σ H Q I h
  have fin : wpAny (model X.prog X.w) X.A (callWith pos (bltV b) [] (backTo pos (starEach (e :: es) X.env)) []) (EP X pins σ Q) X.xe s := by
    rcases bltV_kind b with ⟨id, eb⟩ | ⟨T, eb⟩
    · rw [eb] at hh ⊢
      exact PyProof.Rows.callWith_builtin1 hh hst hpl
    · rw [eb] at hh ⊢
      exact PyProof.Rows.callWith_type1 hh hst hpl
  rcases hx with ⟨_, hx⟩ | ⟨_, hx, hv, hn⟩
  · exact wpAny_Call_Name_kw (ld_glob I hg hx fin hdb)
  · exact wpAny_Call_Name_kw (ld_blt I hg hx hv fin hn hdb)

/-! ### isinstance -/
theorem pe_tyN {x : Str} {T : Ty} (hg : Gl X x) (hm : X.mg x = none) (hv : bootBuiltins x = some (.type (tyS T))) (hn : x ≠ "__name__") (hdb : (x == ("__debug__" : Str)) = false) : PE X (.Name x pos) (tC (.ty (tyS T))) :=
  ⟨fun _ _ _ H _ I h => ld_blt I hg hm hv ⟨.ty (tyS T), H, I, rfl, h⟩ hn hdb⟩
theorem se_isi (hX : XOk X cx ca fa fd flds free k) {x : Str} {T : Ty} {p q : Pos} (hgi : Gl X "isinstance") (hmi : X.mg "isinstance" = none) (hs : noStar [a] = true) (hg : Gl X x) (hm : X.mg x = none) (hv : bootBuiltins x = some (.type (tyS T))) (hn : x ≠ "__name__") (hdb : (x == ("__debug__" : Str)) = false)
    (ha : SE X ca cx W a ea) : SE X ca cx W (.Call (.Name "isinstance" p) [a, .Name x q] [] pos) (.isi ea T) := by
  have h1 := starEach_of (env := X.env) (e := a) (es := [.Name x q]) (by cases a <;> first | rfl | cases hs)
  refine PE.imp (pe_callB call_isi hgi hmi (by decide +kernel) (pa_cons ha (pa_cons (pe_tyN (pos := q) hg hm hv hn hdb) pa_nil rfl) h1) (he := h1)) fun σ H Q ⟨ρ, S, μ, er, r, pp⟩ => ?_
  rw [evE] at pp
  refine tE_bind er r (Post.bind pp) fun d S1 H1 μ1 v s1 r1 e1 rv q1 => ?_
  unfold isiE at q1
  split at q1
  · rw [rep_non.mp rv]
    exact ⟨_, _, _, _, _, rfl, .ty _, .base .non, kit_ty (kit_non T), post_here r1 q1 (rep_bl.mpr rfl)⟩
  · split at q1
    · rename_i u hu
      exact ⟨_, _, _, _, _, rfl, .ty _, ty_rep r1 hu rv, kit_ty (kit_all u T), post_here r1 q1 (rep_bl.mpr rfl)⟩
    · exact q1.elim

/-! ### o.append(e), o.pop() -/
theorem isLst_ty {S : Store} {H : Hp} {K : PySem.W.Frag} {μ : List Addr} (r : SR K ca H μ S) {d : D} {v : V} (h : isLst S d = true) (rv : Rep K H μ d v) : tyV K "list" v H := by
  cases d with
  | ref i =>
    have h' : (match S[i]? with
      | some (.lst _) => true
      | _ => false) = true := h
    split at h'
    · rename_i ds he
      obtain ⟨a, vs, h1, _, h2, _⟩ := r.lst he rv
      subst h1
      exact .inl ⟨rfl, vs, .inl (.inl h2)⟩
    · cases h'
  | _ => cases h
theorem se_append (hX : XOk X cx ca fa fd flds free k) {apos : Pos} (hp : plainBase o = true) (hl : (apos.endLine == pos.line) = true) (hs : noStar [e] = true) (ho : SE X ca cx W o eo) (he : SE X ca cx W e ea) :
    SE X ca cx W (.Call (.Attribute o "append" apos) [e] [] pos) (.bm .append eo (.cons ea .nil)) := by
  have h1 := starEach_of (env := X.env) hs
  refine PE.imp (pe_bm PySem.F.plainAttrs_list PySem.F.slot_list_append PySem.F.type_list_append append_rule ho (pa_cons he pa_nil h1) (hbase := base_of hp) (hfew := by rw [h1]; rfl) (hline := hl) (hs := h1)) fun σ H Q ⟨ρ, S, μ, er, r, pp⟩ => ?_
  rw [evE] at pp
  refine tE_bind er r (Post.bind pp) fun d S1 H1 μ1 v s1 r1 e1 rv q1 => ?_
  split at q1
  · rename_i hl
    refine ⟨isLst_ty r1 hl rv, ?_⟩
    have q2 := Post.bind q1
    rw [evEs] at q2
    refine tE_bind e1 r1 (Post.bind q2) fun d2 S2 H2 μ2 v2 s2 r2 e2 rv2 q3 => ?_
    have q4 := Post.bind q3
    rw [evEs] at q4
    have q5 := Post.ok (Post.ok q4 r2) r2
    exact append_post W σ H2 μ2 S2 d [d2] v [v2] Q r2 (Rep.step s2.grow _ _ rv) (Reps.cons rv2 Reps.nil) q5
  · exact q1.elim
theorem se_pop (hX : XOk X cx ca fa fd flds free k) {apos : Pos} (hp : plainBase o = true) (hl : (apos.endLine == pos.line) = true) (ho : SE X ca cx W o eo) :
    SE X ca cx W (.Call (.Attribute o "pop" apos) [] [] pos) (.bm .pop eo .nil) := by
  refine PE.imp (pe_bm0 PySem.F.plainAttrs_list PySem.F.slot_list_pop PySem.F.type_list_pop mt_pop ho (hbase := base_of hp) (hline := hl)) fun σ H Q ⟨ρ, S, μ, er, r, pp⟩ => ?_
  rw [evE] at pp
  refine tE_bind er r (Post.bind pp) fun d S1 H1 μ1 v s1 r1 e1 rv q1 => ?_
  split at q1
  · rename_i hl
    refine ⟨isLst_ty r1 hl rv, ?_⟩
    have q2 := Post.bind q1
    rw [evEs] at q2
    exact pop_post W σ H1 μ1 S1 d [] v [] Q r1 rv Reps.nil (Post.ok q2 r1)
  · exact q1.elim

/-! ### C(e, ..) -/
theorem make_run (hX : XOk X cx ca fa fd flds free k) (tk : Takes X W) {pins : List (Addr × Obj)} {σ : L2.St} {H : Hp} {s : Shared} {Q : VK} {μ : List Addr} {S : Store} {c f : Nat} {fi : Fi} {ds : List D} {vs : List V} {us : List Value} {kw : List (Str × Value)} {all : List Value} (I : Inv X pins σ H s)
    (hin : cx.tb.inst c = true) (hm : methOf cx.tb c "__init__" = some f) (hfi : cx.tb.fns[f]? = some fi) (r : SR X.K ca H μ S) (rd : Reps X.K H μ ds vs) (hl : ds.length + 1 = fi.ps.length)
    (p : Post X.K ca W σ H μ (QV X.K Q) ((cx.callM f (.ref S.length :: ds) (S ++ [.ins c []])).bind fun r S' => if isNon r = true then .ok (.ref S.length) S' else .bad))
    {C : Addr} (hC : ca c = some C) (hb : ∀ s' (x : Value), BindsTo s' (fd f) ⟨x :: us, kw⟩ (fi.ps.zip (x :: all))) (rv : Vals vs all) :
    wpAny (model X.prog X.w) X.A (call (.ref C) us kw) (EP X pins σ Q) X.xe s := by
  obtain ⟨cl, mk, kp⟩ := hX.tbl.cls c C hC hin
  obtain ⟨mm, _, _⟩ := hX.tbl.meth c C _ f hC hin hm
  have hx : H (s.heap.objs.size + 1) = none := I.hok.fresh (Nat.le_succ s.heap.objs.size)
  have hdx : H s.heap.objs.size = none := I.hok.fresh (Nat.le_refl s.heap.objs.size)
  obtain ⟨x, ex⟩ : ∃ x, s.heap.objs.size + 1 = x := ⟨_, rfl⟩
  obtain ⟨dx, edx⟩ : ∃ dx, s.heap.objs.size = dx := ⟨_, rfl⟩
  rw [ex] at hx
  rw [edx] at hdx
  have hne : dx ≠ x := by omega
  have I2 := Inv.made (C := C) I
  rw [ex, edx] at I2
  have hx2 : (upd H dx (.own x)) x = none := by rw [upd_ne (Ne.symm hne)]; exact hx
  have s1 : Step H μ (upd H dx (.own x)) μ := Step.new μ hdx
  have r1 : SR X.K ca (upd H dx (.own x)) μ S := r.new hdx
  have s2 : Step (upd H dx (.own x)) μ (upd (upd H dx (.own x)) x (.ins C dx [])) (μ ++ [x]) := Step.alloc hx2
  have r2 : SR X.K ca (upd (upd H dx (.own x)) x (.ins C dx [])) (μ ++ [x]) (S ++ [.ins c []]) := r1.alloc hx2 ⟨C, dx, [], hC, upd_same, by unfold FReps; rfl⟩
  have hst := s1.trans s2
  have rx : Rep X.K (upd (upd H dx (.own x)) x (.ins C dx [])) (μ ++ [x]) (.ref S.length) (.ref x) := by
    unfold Rep
    exact ⟨x, by rw [List.getElem?_append_right (by rw [r.len]; exact Nat.le_refl _), r.len, Nat.sub_self]; rfl, rfl⟩
  have p1 : Post X.K ca W σ (upd (upd H dx (.own x)) x (.ins C dx [])) (μ ++ [x]) (QV X.K fun v H2 => v = .non ∧ Q (.ref x) H2) (cx.callM f (.ref S.length :: ds) (S ++ [.ins c []])) :=
    (Post.step (Post.bind p) hst).imp fun d S' H' μ' s' r' q v rv => by
      split at q
      · rename_i hn
        have ed : d = .non := by cases d <;> first | rfl | cases hn
        subst ed
        exact ⟨rep_non.mp rv, post_here r' q (Rep.step s'.grow _ _ rx)⟩
      · exact q.elim
  have hcm : ∃ j, j + 1 ≤ k ∧ CallOk X cx.tb ca fa fd j cx.callM := by
    rcases hX.callM with h | h
    · rw [h] at p1
      exact p1.elim
    · exact h
  obtain ⟨j, hj, F⟩ := hcm
  have hr : Room (j + 1) X.A := hX.room.mono hj
  have r3 : Vals (V.ref x :: vs) (Value.ref x :: all) := .cons rfl rv
  have hsp : spF X.K ca fi.ps.length (cx.callM f) (V.ref x :: vs) (upd (upd H dx (.own x)) x (.ins C dx [])) (fun v H2 => v = .non ∧ Q (.ref x) H2) (WE W σ) :=
    ⟨by rw [List.length_cons, rd.len]; exact hl, .ref S.length :: ds, S ++ [.ins c []], μ ++ [x], Reps.cons rx (Reps.step hst.grow _ _ rd), r2, p1.toF⟩
  refine wpAny_call (make_map (f := fa f) I.kIn mk mm.at_ (beq_iff_eq.mp mm.fn) ?_)
  rw [ex, edx]
  refine codeAny_mono ((F f fi hfi).run _ X.stack _ _ ⟨Value.ref x :: us, kw⟩ (Value.ref x :: all) _ _ (WE W σ) (hr.make C us kw) ?_ (I2.env0.make C us kw) (hb _ _) r3 hsp) fun r s' hq' => ?_
  · first | exact hX.guards | (simpa [Around.under, Code.isGuard, guardIds] using hX.guards)
  · cases r with
    | error e => exact passAt tk σ pins _ _ e s' I2 hq'
    | ok fl =>
      cases fl with
      | ret u =>
        obtain ⟨v, H', I3, rv, ev, q3⟩ := I2.after hq'
        subst ev
        exact ⟨rv, ⟨V.ref x, H', I3, rfl, q3⟩⟩
      | next => exact False.elim hq'
      | brk => exact False.elim hq'
      | cont => exact False.elim hq'
theorem se_mk (hX : XOk X cx ca fa fd flds free k) (tk : Takes X W) {c f : Nat} {ci : Ci} {fi : Fi} {p : Pos} (hci : cx.tb.cls[c]? = some ci) (hin : cx.tb.inst c = true) (hm : methOf cx.tb c "__init__" = some f) (hfi : cx.tb.fns[f]? = some fi) (hg : Gl X ci.name) (hdb : (ci.name == ("__debug__" : Str)) = false)
    (hs : noStar es = true) (hn : kwNames kws = some ks) (h0 : es = [] → ds = .nil) (ha : SA X ca cx W es ds) (hk : SK X ca cx W kws kds) : SE X ca cx W (.Call (.Name ci.name p) es kws pos) (.mk c ds ks kds) := by
  refine ⟨fun pins s σ H Q I ⟨ρ, S, μ, e, r, q⟩ => ?_⟩
  rw [evE] at q
  obtain ⟨C, hC⟩ := hX.tbl.clsA c hin
  obtain ⟨_, _, kp⟩ := hX.tbl.cls c C hC hin
  refine wpAny_Call_Name_kw (ld_glob I hg (hX.tbl.cglo c C ci hC hci) ?_ hdb)
  refine call_args (R := fun vs zs H2 => ∀ us ws s2, Inv X pins σ H2 s2 → Vals vs us → Vals zs ws → wpAny (model X.prog X.w) X.A (call (.ref C) us (ks.zip ws)) (EP X pins σ Q) X.xe s2) I kp hs hn (fun e0 σ' H' Q' h' => ?_) ha hk
    (tEs2 e r (Post.bind q |>.imp fun _ _ _ _ _ _ q1 => Post.bind q1) fun xs ys S2 H2 μ2 vs zs s2 r2 rvs rz q2 us ws s3 I3 rv rw' => ?_) fun us ws vs zs H2 s2 I2 rv rz h => ?_
  · rw [h0 e0] at h'
    exact tEs_nil h'
  · rw [hm] at q2
    simp only at q2
    split at q2
    · rename_i hb
      obtain ⟨b1, b2, b3⟩ := bindK_ok hb.2
      have eps : psOf cx.tb f = fi.ps := by unfold psOf; rw [hfi]
      rw [eps] at b1 b3
      have l1 := rvs.len
      have l2 := rz.len
      have l3 := rv.length
      have l4 := rw'.length
      refine make_run hX tk I3 hin hm hfi r2 (rvs.append rz) (by rw [List.length_append]; omega) q2 hC (fun s' x => ?_) (rv.append rw')
      exact hX.tbl.bind f fi hfi s' (x :: us) ws ks (by rw [List.cons_append, List.length_cons, List.length_append]; omega) (by omega) (by
        rw [List.length_cons, ← l3, l1]
        have : xs.length + ys.length + 1 - ys.length = xs.length + 1 := by omega
        rw [this] at b3
        exact b3)
    · exact q2.elim
  · exact h us ws s2 I2 rv rz
end
end Pl

set_option Elab.async false
set_option linter.all false
set_option maxRecDepth 100000
set_option maxHeartbeats 4000000
/-! Pl10: targets. -/
namespace Pl
open PySem PySem.Spec PyProof.Rows L2

def OnlyAt (is : List Nat) (σ σ' : L2.St) : Prop := σ'.length = σ.length ∧ ∀ j, j ∉ is → σ'[j]? = σ[j]?
theorem OnlyAt.refl (is : List Nat) (σ : L2.St) : OnlyAt is σ σ := ⟨rfl, fun _ _ => rfl⟩
theorem OnlyAt.mono {is js : List Nat} {σ σ' : L2.St} (h : OnlyAt is σ σ') (hs : ∀ i ∈ is, i ∈ js) : OnlyAt js σ σ' := ⟨h.1, fun j hj => h.2 j fun hi => hj (hs j hi)⟩
theorem OnlyAt.trans {is : List Nat} {σ σ1 σ2 : L2.St} (h : OnlyAt is σ σ1) (g : OnlyAt is σ1 σ2) : OnlyAt is σ σ2 := ⟨g.1.trans h.1, fun j hj => (g.2 j hj).trans (h.2 j hj)⟩
theorem wipe_get {σ : L2.St} {j : Nat} : ∀ vs : List Nat, (L2.wipe σ vs)[j]? = if j ∈ vs then (if j < σ.length then some none else none) else σ[j]?
  | [] => by simp [L2.wipe]
  | v :: vs => by
    unfold L2.wipe
    rw [List.getElem?_set, wipe_get vs, L2.wipe_length]
    by_cases h : v = j
    · subst h
      simp
    · have h' : ¬ j = v := fun e => h e.symm
      simp [h, h']
theorem wipe_only {is vs : List Nat} {σ σ' : L2.St} (h : OnlyAt is σ σ') (hs : ∀ i ∈ is, i ∈ vs) : L2.wipe σ' vs = L2.wipe σ vs := by
  apply List.ext_getElem?
  intro j
  rw [wipe_get, wipe_get, h.1]
  by_cases hj : j ∈ vs
  · rw [if_pos hj, if_pos hj]
  · rw [if_neg hj, if_neg hj]
    exact h.2 j fun hi => hj (hs j hi)
theorem wipe_wipe (σ : L2.St) (vs : List Nat) : L2.wipe (L2.wipe σ vs) vs = L2.wipe σ vs := by
  apply List.ext_getElem?
  intro j
  rw [wipe_get, wipe_get, L2.wipe_length]
  by_cases hj : j ∈ vs
  · rw [if_pos hj, if_pos hj]
  · rw [if_neg hj, if_neg hj]

section
variable (K : PySem.W.Frag) (ca : CA)
def PostG (is : List Nat) (σ : L2.St) (H : Hp) (μ : List Addr) (Q : L2.St → Hp → Store → Slots → List Addr → Prop) (o : Out Slots) : Prop := match o with
  | .ok ρ S => ∀ σ' H' μ', Step H μ H' μ' → SR K ca H' μ' S → EnvR K H' μ' σ' ρ → OnlyAt is σ σ' → Q σ' H' S ρ μ'
  | _ => False
def tG (is : List Nat) (m : D → Slots → Store → Out Slots) : TG := fun v σ H Q => ∃ d ρ S μ, Rep K H μ d v ∧ EnvR K H μ σ ρ ∧ SR K ca H μ S ∧ PostG K ca is σ H μ (fun σ' H' _ _ _ => Q σ' H') (m d ρ S)
def tGs (is : List Nat) (m : List D → Slots → Store → Out Slots) : TGs := fun vs σ H Q => ∃ ds ρ S μ, Reps K H μ ds vs ∧ EnvR K H μ σ ρ ∧ SR K ca H μ S ∧ PostG K ca is σ H μ (fun σ' H' _ _ _ => Q σ' H') (m ds ρ S)
end
abbrev SG (X : Cx) (ca : CA) (cx : Ctx) (is : List Nat) (t : Expr) (c : T) : Prop := PG X t (tG X.K ca is (asT cx c))
abbrev SGs (X : Cx) (ca : CA) (cx : Ctx) (is : List Nat) (t : List Expr) (c : Ts) : Prop := PGs X t (tGs X.K ca is (asL cx c))
section
variable {K : PySem.W.Frag} {ca : CA}
theorem PostG.step {is : List Nat} {σ : L2.St} {H H1 : Hp} {μ μ1 : List Addr} {Q : L2.St → Hp → Store → Slots → List Addr → Prop} {o : Out Slots} (p : PostG K ca is σ H μ Q o) (s : Step H μ H1 μ1) : PostG K ca is σ H1 μ1 Q o := by
  cases o with
  | ok a S => exact fun σ' H' μ' s' => p σ' H' μ' (s.trans s')
  | exc x S => exact p
  | bad => exact p
theorem PostG.imp {is : List Nat} {σ : L2.St} {H : Hp} {μ : List Addr} {Q Q' : L2.St → Hp → Store → Slots → List Addr → Prop} {o : Out Slots} (p : PostG K ca is σ H μ Q o) (h : ∀ σ' H' S ρ μ', Step H μ H' μ' → SR K ca H' μ' S → EnvR K H' μ' σ' ρ → OnlyAt is σ σ' → Q σ' H' S ρ μ' → Q' σ' H' S ρ μ') : PostG K ca is σ H μ Q' o := by
  cases o with
  | ok a S => exact fun σ' H' μ' s' r e oa => h σ' H' S a μ' s' r e oa (p σ' H' μ' s' r e oa)
  | exc x S => exact p
  | bad => exact p
/-- the first part of a bind -/
theorem PostG.ofBind {α : Type} {is : List Nat} {σ : L2.St} {H : Hp} {μ : List Addr} {Q : L2.St → Hp → Store → Slots → List Addr → Prop} {o : Out α} {f : α → Store → Out Slots} (W : WX) (p : PostG K ca is σ H μ Q (o.bind f)) :
    Post K ca W σ H μ (fun a S H' μ' => PostG K ca is σ H' μ' Q (f a S)) o := by
  cases o with
  | ok a S => exact fun H' μ' s' _ => PostG.step p s'
  | exc x S => exact p.elim
  | bad => exact p
theorem PostG.bind2 {is : List Nat} {σ : L2.St} {H : Hp} {μ : List Addr} {Q : L2.St → Hp → Store → Slots → List Addr → Prop} {o : Out Slots} {f : Slots → Store → Out Slots} (p : PostG K ca is σ H μ Q (o.bind f)) :
    PostG K ca is σ H μ (fun σ' H' S ρ μ' => PostG K ca is σ' H' μ' Q (f ρ S)) o := by
  cases o with
  | ok a S =>
      intro σ' H' μ' s' r e oa
      have p' : PostG K ca is σ H' μ' Q (f a S) := PostG.step p s'
      show PostG K ca is σ' H' μ' Q (f a S)
      cases hf : f a S with
      | ok b S2 =>
        rw [hf] at p'
        exact fun σ2 H2 μ2 s2 r2 e2 oa2 => p' σ2 H2 μ2 s2 r2 e2 (oa.trans oa2)
      | exc x S2 => rw [hf] at p'; exact p'.elim
      | bad => rw [hf] at p'; exact p'
  | exc x S => exact p.elim
  | bad => exact p
theorem PostG.mono {is js : List Nat} {σ : L2.St} {H : Hp} {μ : List Addr} {Q : L2.St → Hp → Store → Slots → List Addr → Prop} {o : Out Slots} (p : PostG K ca js σ H μ Q o) (h : ∀ i ∈ is, i ∈ js) : PostG K ca is σ H μ Q o := by
  cases o with
  | ok a S => exact fun σ' H' μ' s' r e oa => p σ' H' μ' s' r e (oa.mono h)
  | exc x S => exact p
  | bad => exact p
end
section
variable {ca : CA} {fa : Nat → Addr} {fd : Nat → FuncData} {flds free : List Str} {X : Cx} {cx : Ctx} {k : Nat} {W : WX} {o i : Expr} {eo ei : E} {pos : Pos} {es : List Expr} {is js : List Nat}
theorem sg_name {i : Nat} {x : Str} (hN : X.N.Nodup) (hi : X.N[i]? = some x) (hx : Loc X.env.scope x) (hf : X.fn x = true ∨ X.env.scope.names.lookup x = some .local) : SG X ca cx [i] (.Name x pos) (.name i) := by
  refine ⟨fun pins s σ H v u Q I r ⟨d, ρ, S, μ, rv, e, sr, p⟩ => (pg_name hN hi hx hf).run pins s σ H v u Q I r ?_⟩
  rw [asT] at p
  exact p _ H μ (Step.refl H μ) sr (e.set rv) ⟨by simp, fun j hj => by rw [List.getElem?_set_ne (fun z => hj (by simp [z]))]⟩
theorem assignEach_of {e : Expr} {es : List Expr} {env : PySem.Env} (h : noStar (e :: es) = true) : assignEach (e :: es) env = (false, assign e env) :: assignEach es env := by
  cases e <;> first | rfl | cases h
theorem assignEach_len {env : PySem.Env} : ∀ {es : List Expr}, noStar es = true → (assignEach es env).length = es.length ∧ (assignEach es env).findIdx? (·.1) = none
  | [], _ => ⟨rfl, rfl⟩
  | e :: es, h => by
    obtain ⟨h1, h2⟩ := assignEach_len (env := env) (noStar_tail h)
    rw [assignEach_of h]
    refine ⟨by rw [List.length_cons, List.length_cons, h1], ?_⟩
    rw [List.findIdx?_cons]
    simp [h2]
theorem sgs_nil : SGs X ca cx is [] .nil := by
  refine ⟨fun pins s σ H vs us Q I r ⟨ds, ρ, S, μ, rv, e, sr, p⟩ => pgs_nil.run pins s σ H vs us Q I r ?_⟩
  cases ds with
  | nil =>
    rw [asL] at p
    exact ⟨by unfold Reps at rv; exact rv, p σ H μ (Step.refl H μ) sr e (OnlyAt.refl _ _)⟩
  | cons d ds =>
    rw [asL] at p
    · exact p.elim
    all_goals simp
theorem sgs_cons {t : Expr} {c : T} {cs : Ts} (hs : noStar (t :: es) = true) (h1 : SG X ca cx is t c) (h2 : SGs X ca cx is es cs) : SGs X ca cx is (t :: es) (.cons c cs) := by
  refine ⟨fun pins s σ H vs us Q I r ⟨ds, ρ, S, μ, rv, e, sr, p⟩ => (pgs_cons h1 h2 (by rw [assignEach_of hs]; rfl)).run pins s σ H vs us Q I r ?_⟩
  cases ds with
  | nil =>
    rw [asL] at p
    · exact p.elim
    all_goals simp
  | cons d ds =>
    unfold Reps at rv
    obtain ⟨v, vr, e1, r1, r2⟩ := rv
    subst e1
    rw [asL] at p
    exact ⟨v, vr, rfl, d, ρ, S, μ, r1, e, sr, (PostG.bind2 p).imp fun σ' H' S' ρ' μ' s' sr' e' oa q => ⟨ds, ρ', S', μ', Reps.step s'.grow _ _ r2, e', sr', q⟩⟩
def tsLen : Ts → Nat
  | .nil => 0
  | .cons _ ts => tsLen ts + 1
theorem asL_len {K : PySem.W.Frag} : ∀ {cs : Ts} {ds : List D} {ρ : Slots} {S : Store} {σ : L2.St} {H : Hp} {μ : List Addr} {Q : L2.St → Hp → Store → Slots → List Addr → Prop}, PostG K ca is σ H μ Q (asL cx cs ds ρ S) → ds.length = tsLen cs
  | .nil, [], ρ, S, σ, H, μ, Q, p => rfl
  | .nil, d :: ds, ρ, S, σ, H, μ, Q, p => by
    rw [asL] at p
    · exact p.elim
    all_goals simp
  | .cons c cs, [], ρ, S, σ, H, μ, Q, p => by
    rw [asL] at p
    · exact p.elim
    all_goals simp
  | .cons c cs, d :: ds, ρ, S, σ, H, μ, Q, p => by
    rw [asL] at p
    cases ho : asT cx c d ρ S with
    | ok ρ' S' =>
      rw [ho] at p
      have := asL_len (cs := cs) (ds := ds) (ρ := ρ') (S := S') (Q := Q) p
      simp [tsLen, this]
    | exc x S' => rw [ho] at p; exact p.elim
    | bad => rw [ho] at p; exact p.elim
theorem sg_tup (hc : X.calm = true) {cs : Ts} {kk : Nat} (hs : noStar es = true) (hl : es.length = tsLen cs) (h : SGs X ca cx is es cs) : SG X ca cx is (.Tuple es kk pos) (.tup cs) := by
  refine ⟨fun pins s σ H v u Q I r ⟨d, ρ, S, μ, rv, e, sr, p⟩ => ?_⟩
  rw [asT] at p
  obtain ⟨l1, l2⟩ := assignEach_len (env := X.env) hs
  split at p
  · rename_i ds hd
    obtain ⟨a, vs, e1, hq, rs⟩ := seq_rep sr hd rv
    subst e1
    have n1 : vs.length = (assignEach es X.env).length := by rw [rs.len, asL_len p, l1, hl]
    have g : tGs X.K ca is (asL cx cs) vs σ H Q := ⟨ds, ρ, S, μ, rs, e, sr, p⟩
    rcases hq with hq | hq
    · exact (pg_unl hc h rfl l2).run pins s σ H _ u Q I r ⟨a, vs, rfl, hq, n1, g⟩
    · exact (pg_tup hc h rfl l2).run pins s σ H _ u Q I r ⟨a, vs, rfl, hq, n1, g⟩
  · exact p.elim
theorem sg_fld (hX : XOk X cx ca fa fd flds free k) {f : Str} (hf : f ∈ cx.tb.flds) (ho : SE X ca cx (fun _ _ _ _ => False) o eo) : SG X ca cx is (.Attribute o f pos) (.fld eo f) := by
  refine ⟨fun pins s σ H v u Q I r ⟨d, ρ, S, μ, rv, e, sr, p⟩ => ?_⟩
  rw [asT] at p
  rw [assign_Attribute]
  refine wpAny_bind (wpAny_holding (thn (ho.run pins s σ H (fun x H1 => ∀ s1 w, Inv X pins σ H1 s1 → RelV x w → wpAny (model X.prog X.w) X.A (setAttr w f u) (fun _ s2 => ∃ σ' H', Inv X pins σ' H' s2 ∧ Q σ' H') X.xe s1) I
    (tE_bind e sr (PostG.ofBind _ p) fun x S1 H1 μ1 w s1 sr1 e1 rw1 q s2 u2 I2 r2 => ?_)) fun ov s1 ⟨x, H1, I1, rx, hh⟩ => ?_))
  · split at q
    · rename_i i c fs he
      obtain ⟨e2, e3⟩ := insD_ok he
      subst e2
      obtain ⟨a, C, dx, fv, g1, g2, g3, g4, g5⟩ := sr1.ins e3 rw1
      subst g1
      obtain rfl : u2 = Value.ref a := r2
      split at q
      · rename_i hin
        obtain ⟨cl, _, _⟩ := hX.tbl.cls c C g3 hin
        split at q
        · rename_i hp hm
          split at q
          · rename_i hl
            refine setattr_ok I2 g4 cl (hX.tbl.noat c C f g3 hin hf hm hp) (by rw [g5.len]; exact hl) r fun s3 I3 => ⟨σ, _, I3, ?_⟩
            have rv1 := Rep.step s1.grow _ _ rv
            have st : Step H1 μ1 (upd H1 a (.ins C dx (putF f v fv))) μ1 := Step.write sr1 g2
            exact q σ _ μ1 st (sr1.write g2 ⟨C, dx, putF f v fv, g3, upd_same, FReps.put (Rep.step st.grow _ _ rv1) (FReps.step st.grow _ _ g5)⟩) (e1.step st.grow) (OnlyAt.refl _ _)
          · exact q.elim
        · exact q.elim
      · exact q.elim
    · exact q.elim
  · refine wpAny_bind (wpAny_standAt (wpAny_bind (wpAny_holding (thn (hh s1 ov I1 rx) fun _ s2 q => ?_))))
    exact wpAny_release q
theorem sg_idx (hX : XOk X cx ca fa fd flds free k) (hi0 : plainIx i = true) (ho : SE X ca cx (fun _ _ _ _ => False) o eo) (hi : SE X ca cx (fun _ _ _ _ => False) i ei) : SG X ca cx is (.Subscript o i pos) (.idx eo ei) := by
  refine ⟨fun pins s σ H v u Q I r ⟨d, ρ, S, μ, rv, e, sr, p⟩ => (pg_sub ho hi set_list (by intro w; cases i <;> first | rfl | cases hi0)).run pins s σ H v u Q I r ?_⟩
  rw [asT] at p
  refine tE_bind e sr (PostG.ofBind _ p) fun x S1 H1 μ1 w s1 sr1 e1 rx q => ?_
  refine tE_bind e1 sr1 (PostG.ofBind _ q) fun y S2 H2 μ2 w2 s2 sr2 e2 ry q2 => ?_
  have q3 := PostG.ofBind (fun _ _ _ _ => False) q2
  exact set_post (fun _ _ _ _ => False) σ H2 μ2 S2 x y d w w2 v (fun H3 => Q σ H3) sr2 (Rep.step s2.grow _ _ rx) ry (Rep.step s2.grow _ _ (Rep.step s1.grow _ _ rv)) (q3.imp fun _ S3 H3 μ3 s3 sr3 q4 => q4 σ H3 μ3 (Step.refl _ _) sr3 (e2.step s3.grow) (OnlyAt.refl _ _))
end
end Pl

set_option Elab.async false
set_option linter.all false
set_option maxRecDepth 100000
set_option maxHeartbeats 4000000
/-! Pl11: iterators over lists and tuples in any mix. -/
namespace Pl
open PySem PySem.Spec PyProof.Rows L2

def Sqk (K : PySem.W.Frag) (H : Hp) (t : Bool) (a : Addr) (xs : List V) : Prop := match t with
  | true => SqT K H a xs
  | false => SqL K H a xs
def SIt (h : Heap) (t : Bool) (it a : Addr) (i : Nat) : Prop := match t with
  | true => h.IsTupleIter it a i
  | false => h.IsListIter it a i
def SIs (h : Heap) (t : Bool) (a : Addr) (its : Array Value) : Prop := match t with
  | true => h.IsTuple a its
  | false => h.IsList a its
def itO (t : Bool) (a : Addr) : Obj := match t with
  | true => { cls := .type "tuple_iterator", data := .fields #[.ref a, .int 0 0] }
  | false => { cls := .type "list_iterator", data := .fields #[.ref a, .int 0 0] }
section
variable {X : Cx} {pins : List (Addr × Obj)} {σ : L2.St} {H : Hp} {s : Shared} {t : Bool} {a : Addr} {xs ys : List V}
theorem Inv.sqk (I : Inv X pins σ H s) (h : Sqk X.K H t a xs) : ∃ its : List Value, Vals xs its ∧ SIs s.heap t a its.toArray ∧ a < s.heap.objs.size := by
  cases t with
  | true =>
    obtain ⟨its, r, p, _⟩ := I.tuple h
    exact ⟨its, r, p, by obtain ⟨o, e, _⟩ := p; exact Heap.lt_size e⟩
  | false =>
    obtain ⟨its, r, p, _⟩ := I.list h
    exact ⟨its, r, p.isList, p.lt⟩
theorem Inv.sqk_inj (I : Inv X pins σ H s) (h : Sqk X.K H t a xs) (g : Sqk X.K H t a ys) : xs = ys := by
  cases t with
  | true => exact I.tuple_inj h g
  | false => exact I.list_inj h g
end
theorem SIt.obj {h : Heap} {t : Bool} {it a : Addr} {i : Nat} (x : SIt h t it a i) : ∃ o, h.get? it = some o ∧ ∀ v, o.data ≠ .cell v := by
  cases t <;> (obtain ⟨o, e, c, d⟩ := x; exact ⟨o, e, fun v z => by rw [d] at z; cases z⟩)
theorem SIt.at {h h' : Heap} {t : Bool} {it a : Addr} {i : Nat} (x : SIt h t it a i) (k : ∀ o, h.get? it = some o → h'.get? it = some o) : SIt h' t it a i := by
  cases t with
  | true => exact Heap.IsTupleIter.at x k
  | false => exact Heap.IsListIter.at x k
theorem draws_sq {prog : Program} {w : World} {A : Around} (hh : A.handled = none) (t : Bool) (it l : Addr) (hne : l ≠ it) (items : Array Value) :
    Draws prog w A it [it, l] items.size (fun i v => items[i]? = some v) (fun i h => SIt h t it l i ∧ SIs h t l items) := by
  cases t with
  | true => exact Draws.tuple hh it l hne items
  | false => exact Draws.list hh it l hne items
theorem begins_sq (t : Bool) (l : Addr) (items : Array Value) : Begins (.ref l) (itO t l) fun h => SIs h t l items := by
  cases t with
  | true => exact begins_tuple l items
  | false => exact begins_list l items
theorem itO_it {h : Heap} {t : Bool} {it l : Addr} (e : h.get? it = some (itO t l)) : SIt h t it l 0 := by
  cases t with
  | true => exact ⟨_, e, rfl, rfl⟩
  | false => exact ⟨_, e, rfl, rfl⟩

/-! ### enumerate -/
def Itek (K : PySem.W.Frag) (t : Bool) (a : Addr) : It :=
  ⟨fun i H => ∃ (xs : List V) (x : V), Sqk K H t a xs ∧ xs[i]? = some x, fun i H v H' => ∃ T x, v = .ref T ∧ H T = none ∧ H' = upd H T (.tup [.int (i : Nat), x]) ∧ ∀ xs, Sqk K H t a xs → xs[i]? = some x, fun i H => ∃ xs : List V, Sqk K H t a xs ∧ xs.length = i⟩
theorem turn_enumK {P : Program} {w : World} {K : PySem.W.Frag} {elts : List Expr} {kk : Nat} {tpos : Pos} {t : Bool} {a e it : Addr} (hae : e ≠ a) (hai : a ≠ it) (hei : e ≠ it) :
    Turn P w K (.Tuple elts kk tpos) (Itek K t a) [e, it] e (fun i h => (∃ old, IsEnum h e it ((i : Nat) : Int) old) ∧ SIt h t it a i) where
  mem := by simp
  obj := fun i h st b hb => by
    obtain ⟨⟨old, he⟩, hi⟩ := st
    have e' : b = e ∨ b = it := by simpa using hb
    rcases e' with z | z
    · rw [z]; exact ⟨_, he, fun v q => nomatch q⟩
    · rw [z]; exact hi.obj
  keep := fun i h h' st k => let ⟨⟨old, he⟩, hi⟩ := st; ⟨⟨old, k e (by simp) _ he⟩, hi.at fun o q => k it (by simp) o q⟩
  item := by
    intro X hP hw hK hc i pins s σ H E I hf st hg
    subst hP hw hK
    obtain ⟨⟨old, he⟩, hit⟩ := st
    obtain ⟨xs, x, hq, hx⟩ := hg
    obtain ⟨its, rv, p, _⟩ := Inv.sqk I hq
    obtain ⟨u, hu, ru⟩ := rv.get hx
    have hel : e < s.heap.objs.size := Heap.lt_size he
    have hil : it < s.heap.objs.size := by obtain ⟨_, q, _⟩ := hit.obj; exact Heap.lt_size q
    have hlt : i < its.toArray.size := by
      have : i < its.length := (List.getElem?_eq_some_iff.mp hu).1
      simpa using this
    refine wpAny_pyNext_enum_itemC (draws_sq (prog := X.prog) (w := X.w) (A := X.A.in1) (I.ok.hd hc) t it a hai its.toArray) he ⟨hit, p⟩ hlt hei (by simp [hei, hae]) fun u' h' tk hP ho hit' hT hsz hk => ?_
    have eu : u' = u := by
      have hu2 : its.toArray[i]? = some u := by simpa using hu
      have hP' : its.toArray[i]? = some u' := hP
      rw [hu2] at hP'
      exact (Option.some.inj hP').symm
    subst eu
    refine ⟨_, rfl, wpAny_letOwnedTupleGo_enum (s := { s with heap := h', toks := tk + 1 }) ho fun h'' he' sb => ?_⟩
    have hT2 : h''.get? s.heap.objs.size = some { cls := .type "tuple", data := .seq #[.int i tk, u'] } := (sb.2 _ (Nat.ne_of_gt hel)).trans hT
    have new : ObjOk X.prog X.w (upd H s.heap.objs.size (.tup [.int (i : Nat), x])) h'' s.heap.objs.size (.tup [.int (i : Nat), x]) :=
      ⟨by show 2 ≤ sizeLine; decide, [.int i tk, u'], .cons ⟨_, rfl⟩ (.cons ru .nil), ⟨_, hT2, rfl, _, rfl⟩⟩
    have I1 : Inv X pins σ (upd H s.heap.objs.size (.tup [.int (i : Nat), x])) { s with heap := h'', toks := tk + 1 } :=
      I.turnedNew (ch := [e, it]) (fun b ob hb q => (sb.2 b (fun z => hb (by simp [z]))).trans (hk b ob (fun z => hb (by simp [z])) (fun z => hb (by simp [z])) q)) hf (Nat.le_refl _) new
    refine ⟨.ref s.heap.objs.size, _, I1, rfl, ⟨_, x, rfl, I.hok.fresh (Nat.le_refl _), rfl, fun ys hy => by rw [Inv.sqk_inj I hy hq]; exact hx⟩, ⟨⟨u', ?_⟩, hit'.1.at fun o q => (sb.2 it (Ne.symm hei)).trans q⟩, fun b hb => ?_⟩
    · have e1 : ((i + 1 : Nat) : Int) = (i : Int) + 1 := by omega
      rw [e1]; exact he'
    · have hb' : b < s.heap.objs.size := by
        have e' : b = e ∨ b = it := by simpa using hb
        rcases e' with z | z
        · rw [z]; exact hel
        · rw [z]; exact hil
      rw [upd_ne (Nat.ne_of_lt hb')]
      exact (hf b hb).1
  done := by
    intro X hP hw hK hc i pins s σ H E I hf st hg
    subst hP hw hK
    obtain ⟨⟨old, he⟩, hit⟩ := st
    obtain ⟨xs, hq, hx⟩ := hg
    obtain ⟨its, rv, p, _⟩ := Inv.sqk I hq
    obtain ⟨f0, f1, f2, f3, f4, f5⟩ := hf it (by simp)
    have hl := rv.length
    have hn : its.toArray.size = i := by rw [List.size_toArray, ← hl, hx]
    have D := draws_sq (prog := X.prog) (w := X.w) (A := X.A.in1) (I.ok.hd hc) t it a hai its.toArray
    have st2 : SIt s.heap t it a its.toArray.size ∧ SIs s.heap t a its.toArray := ⟨by rw [hn]; exact hit, p⟩
    exact wpAny_pyNext_enum_endD D he st2 fun h' eb => ⟨rfl, I.turned (t' := s.toks) (fun b o hb q => eb b o hb q) f0 f1 f3 f4 f5⟩
  self := fun A i s Q E st h => let ⟨⟨_, he⟩, _⟩ := st; wpAny_pyIter_enum he h

set_option maxHeartbeats 8000000 in
theorem meets_enum1 {v : Value} {o : Obj} {H : Heap → Prop} (B : Begins v o H) :
    Meets (Builtin.«enumerate.__new__» ⟨[.type "enumerate", v], []⟩) (fun _ R s => H s.heap ∧
      R (.ok (.ret (.ref (s.heap.push o).objs.size))) { s with heap := (s.heap.push o).push { cls := .type "enumerate", data := .fields #[.none, .bool false, .ref s.heap.objs.size, rawInt 0, .none, .none] } }) :=
  .of_wp fun prog w A R s h => by
    obtain ⟨hp, g, d, tk, os⟩ := s; obtain ⟨h1, h⟩ := h
    have hsub := sub_enumerate
    have q1 : ∀ {A' : Around} {E : Value → Shared → Prop} {Q : Value → Shared → Prop}, Q (.ref hp.objs.size) ⟨hp.push o, g, d, tk, os⟩ → wpAny (model prog w) A' (pyIter v) Q E ⟨hp, g, d, tk, os⟩ :=
      fun q => B.iter prog w _ _ ⟨hp, g, d, tk, os⟩ _ h1 q
    wp_walk using q1
    refine wpAny_stack_any fun st => wpAny_pure ?_
    split
    · rename_i c _ _ _ _ _
      cases (c == Value.type "enumerate")
      · wp_walk using q1
        exact ⟨_, rfl, h⟩
      · wp_walk using q1
        exact ⟨_, rfl, h⟩
    · wp_walk using q1
      exact ⟨_, rfl, h⟩
theorem enum_begins1 {prog : Program} {w : World} {A : Around} {E : Value → Shared → Prop} {s : Shared} {v : Value} {o : Obj} {H : Heap → Prop} {Q : Value → Shared → Prop} (B : Begins v o H) (h1 : H s.heap)
    (h : ∀ h', IsEnum h' (s.heap.objs.size + 1) s.heap.objs.size 0 .none → h'.get? s.heap.objs.size = some o → h'.objs.size = s.heap.objs.size + 2 →
      (∀ b o, s.heap.get? b = some o → h'.get? b = some o) → Q (.ref (s.heap.objs.size + 1)) { s with heap := h' }) :
    wpAny (model prog w) A (call (.type "enumerate") [v]) Q E s := by
  refine callType_new F.called_enumerate (by decide) (F.typeCall_enumerate_1 _) (F.newCall_enumerate_1 _) (fun obj => F.args_object_init_2 obj _) F.entry_enumerate_new
    (meets_enum1 B) ⟨h1, ?_⟩
  have hz : (s.heap.push o).objs.size = s.heap.objs.size + 1 := Heap.size_push ..
  show _ ∧ _
  rw [hz]
  have he : IsEnum ((s.heap.push o).push { cls := .type "enumerate", data := .fields #[.none, .bool false, .ref s.heap.objs.size, rawInt 0, .none, .none] }) (s.heap.objs.size + 1) s.heap.objs.size 0 .none := by
    have := Heap.get?_push_size (s.heap.push o) (o := { cls := .type "enumerate", data := .fields #[.none, .bool false, .ref s.heap.objs.size, rawInt 0, .none, .none] }) rfl
    rw [hz] at this; exact this
  refine ⟨⟨_, he, rfl⟩, h _ he (Heap.get?_push_of_some _ (Heap.get?_push_size _ B.free)) (by rw [Heap.size_push, hz]) fun b o x => Heap.get?_push_of_some _ (Heap.get?_push_of_some _ x)⟩

/-! ### zip -/
def Itzk (K : PySem.W.Frag) (t1 t2 : Bool) (a b : Addr) : It :=
  ⟨fun i H => ∃ (xs ys : List V) (x y : V), Sqk K H t1 a xs ∧ Sqk K H t2 b ys ∧ xs[i]? = some x ∧ ys[i]? = some y,
    fun i H v H' => ∃ T x y, v = .ref T ∧ H T = none ∧ H' = upd H T (.tup [x, y]) ∧ (∀ xs, Sqk K H t1 a xs → xs[i]? = some x) ∧ ∀ ys, Sqk K H t2 b ys → ys[i]? = some y,
    fun i H => ∃ xs ys : List V, Sqk K H t1 a xs ∧ Sqk K H t2 b ys ∧ i ≤ xs.length ∧ i ≤ ys.length ∧ (i = xs.length ∨ i = ys.length)⟩
theorem turn_zipK {P : Program} {w : World} {K : PySem.W.Frag} {elts : List Expr} {kk : Nat} {tpos : Pos} {t1 t2 : Bool} {a b z TI TO i1 i2 : Addr} (S : ZipSep2 z TI TO i1 i2 [i1, a] [i2, b]) :
    Turn P w K (.Tuple elts kk tpos) (Itzk K t1 t2 a b) [z, TI, TO, i1, i2] z (fun i h => IsZip h z TI TO .none ∧ IsTupOf2 h TI (.ref i1) (.ref i2) ∧ (∃ x y, IsTupOf2 h TO x y) ∧ SIt h t1 i1 a i ∧ SIt h t2 i2 b i ∧ a ≠ i1 ∧ b ≠ i2) where
  mem := by simp
  obj := fun i h st c hc => by
    obtain ⟨hz, hTI, ⟨x, y, hTO⟩, h1, h2, _⟩ := st
    have e' : c = z ∨ c = TI ∨ c = TO ∨ c = i1 ∨ c = i2 := by simpa using hc
    rcases e' with q | q | q | q | q
    · rw [q]; exact ⟨_, hz, fun v q => nomatch q⟩
    · rw [q]; exact ⟨_, hTI, fun v q => nomatch q⟩
    · rw [q]; exact ⟨_, hTO, fun v q => nomatch q⟩
    · rw [q]; exact h1.obj
    · rw [q]; exact h2.obj
  keep := fun i h h' st k => by
    obtain ⟨hz, hTI, ⟨x, y, hTO⟩, h1, h2, n1, n2⟩ := st
    exact ⟨k z (by simp) _ hz, k TI (by simp) _ hTI, ⟨x, y, k TO (by simp) _ hTO⟩, h1.at fun o q => k i1 (by simp) o q, h2.at fun o q => k i2 (by simp) o q, n1, n2⟩
  item := by
    intro X hP hw hK hc i pins s σ H E I hf st hg
    subst hP hw hK
    obtain ⟨hz, hTI, ⟨x0, y0, hTO⟩, h1, h2, n1, n2⟩ := st
    obtain ⟨xs, ys, x, y, hqx, hqy, hx, hy⟩ := hg
    obtain ⟨its, rv, p, _⟩ := Inv.sqk I hqx
    obtain ⟨its2, rv2, p2, _⟩ := Inv.sqk I hqy
    obtain ⟨u, hu, ru⟩ := rv.get hx
    obtain ⟨u2, hu2, ru2⟩ := rv2.get hy
    have hzl : z < s.heap.objs.size := Heap.lt_size hz
    have l1 : i < its.toArray.size := by
      have : i < its.length := (List.getElem?_eq_some_iff.mp hu).1
      simpa using this
    have l2 : i < its2.toArray.size := by
      have : i < its2.length := (List.getElem?_eq_some_iff.mp hu2).1
      simpa using this
    refine wpAny_pyNext_zipD2_item S (draws_sq (prog := X.prog) (w := X.w) (A := X.A.in1) (I.ok.hd hc) t1 i1 a n1 its.toArray) (draws_sq (prog := X.prog) (w := X.w) (A := X.A.in1) (I.ok.hd hc) t2 i2 b n2 its2.toArray) hz hTI hTO ⟨h1, p⟩ ⟨h2, p2⟩ l1 l2 fun v1 v2 h' tk q1 q2 z' TO' h1' h2' hT hsz hk => ?_
    have e1 : v1 = u := by
      have hu2 : its.toArray[i]? = some u := by simpa using hu
      have q1' : its.toArray[i]? = some v1 := q1
      rw [hu2] at q1'
      exact (Option.some.inj q1').symm
    have e2 : v2 = u2 := by
      have hu3 : its2.toArray[i]? = some u2 := by simpa using hu2
      have q2' : its2.toArray[i]? = some v2 := q2
      rw [hu3] at q2'
      exact (Option.some.inj q2').symm
    subst e1 e2
    refine ⟨_, rfl, wpAny_letOwnedTupleGo_zip (s := { s with heap := h', toks := tk }) z' fun h'' z'' sb => ?_⟩
    have hT2 : h''.get? s.heap.objs.size = some { cls := .type "tuple", data := .seq #[v1, v2] } := (sb.2 _ (Nat.ne_of_gt hzl)).trans hT
    have new : ObjOk X.prog X.w (upd H s.heap.objs.size (.tup [x, y])) h'' s.heap.objs.size (.tup [x, y]) :=
      ⟨by show 2 ≤ sizeLine; decide, [v1, v2], .cons ru (.cons ru2 .nil), ⟨_, hT2, rfl, _, rfl⟩⟩
    have I1 : Inv X pins σ (upd H s.heap.objs.size (.tup [x, y])) { s with heap := h'', toks := tk } :=
      I.turnedNew (t' := tk) (ch := [z, TI, TO, i1, i2]) (fun c o hb q => (sb.2 c (fun q' => hb (by simp [q']))).trans (hk c o (fun q' => hb (by simp [q'])) (fun q' => hb (by simp [q'])) (fun q' => hb (by simp [q'])) (fun q' => hb (by simp [q'])) q)) hf (Nat.le_refl _) new
    refine ⟨.ref s.heap.objs.size, _, I1, rfl, ⟨_, x, y, rfl, I.hok.fresh (Nat.le_refl _), rfl, fun l hl => by rw [Inv.sqk_inj I hl hqx]; exact hx, fun l hl => by rw [Inv.sqk_inj I hl hqy]; exact hy⟩, ⟨z'', ?_, ⟨v1, v2, ?_⟩, ?_, ?_, n1, n2⟩, fun c hcm => ?_⟩
    · exact (sb.2 _ S.TIz).trans (hk _ _ S.TIz S.TITO S.TIi1 S.TIi2 hTI)
    · exact (sb.2 _ S.TOz).trans TO'
    · exact h1'.1.at fun o q => (sb.2 _ (Ne.symm S.zi1)).trans q
    · exact h2'.1.at fun o q => (sb.2 _ (Ne.symm S.zi2)).trans q
    · have hlt : c < s.heap.objs.size := by
        have e' : c = z ∨ c = TI ∨ c = TO ∨ c = i1 ∨ c = i2 := by simpa using hcm
        rcases e' with q | q | q | q | q
        · rw [q]; exact hzl
        · rw [q]; exact Heap.lt_size hTI
        · rw [q]; exact Heap.lt_size hTO
        · rw [q]; obtain ⟨_, e1, _⟩ := h1.obj; exact Heap.lt_size e1
        · rw [q]; obtain ⟨_, e2, _⟩ := h2.obj; exact Heap.lt_size e2
      rw [upd_ne (Nat.ne_of_lt hlt)]
      exact (hf c hcm).1
  done := by
    intro X hP hw hK hc i pins s σ H E I hf st hg
    subst hP hw hK
    obtain ⟨hz, hTI, ⟨x0, y0, hTO⟩, h1, h2, n1, n2⟩ := st
    obtain ⟨xs, ys, hqx, hqy, le1, le2, hend⟩ := hg
    obtain ⟨its, rv, p, _⟩ := Inv.sqk I hqx
    obtain ⟨its2, rv2, p2, _⟩ := Inv.sqk I hqy
    have l1 := rv.length
    have l2 := rv2.length
    exact wpAny_pyNext_zipD2_end S (draws_sq (prog := X.prog) (w := X.w) (A := X.A.in1) (I.ok.hd hc) t1 i1 a n1 its.toArray) (draws_sq (prog := X.prog) (w := X.w) (A := X.A.in1) (I.ok.hd hc) t2 i2 b n2 its2.toArray) hz hTI hTO ⟨h1, p⟩ ⟨h2, p2⟩ (by simp; omega) (by simp; omega) (by simp; omega) fun h' tk hk => ⟨rfl, I.turnedL (t' := tk) (ch := [z, TI, TO, i1, i2]) (fun c o hb q =>
      hk c o (fun q' => hb (by simp [q'])) (fun q' => hb (by simp [q'])) (fun q' => hb (by simp [q'])) (fun q' => hb (by simp [q'])) q) hf⟩
  self := fun A i s Q E st h => wpAny_pyIter_zip st.1 h
end Pl

set_option Elab.async false
set_option linter.all false
set_option maxRecDepth 100000
set_option maxHeartbeats 4000000
/-! Pl12: what is walked. -/
namespace Pl
open PySem PySem.Spec PyProof.Rows L2

def isTup : D → Bool
  | .tup _ => true
  | _ => false
section
variable {K : PySem.W.Frag} {ca : CA} {H H0 : Hp} {μ μ0 : List Addr} {S : Store}
theorem seq_repK (r : SR K ca H μ S) {d : D} {ds : List D} {v : V} (e : seqD S d = some ds) (h : Rep K H μ d v) : ∃ a vs, v = .ref a ∧ Sqk K H (isTup d) a vs ∧ Reps K H μ ds vs := by
  cases d with
  | tup xs =>
    have : xs = ds := by simpa [seqD] using e
    subst this
    obtain ⟨a, vs, h1, h2, h3⟩ := rep_tup.mp h
    exact ⟨a, vs, h1, h2, h3⟩
  | rol xs => exact seq_repL r e (by simp) h
  | ref i => exact seq_repL r e (by simp) h
  | _ => cases e
def Itk (K : PySem.W.Frag) (t : Bool) (a : Addr) : It :=
  ⟨fun i H => ∃ xs x, Sqk K H t a xs ∧ xs[i]? = some x, fun i H x H' => H' = H ∧ ∀ xs, Sqk K H t a xs → xs[i]? = some x, fun i H => ∃ xs, Sqk K H t a xs ∧ xs.length ≤ i⟩
theorem turn_k {P : Program} {w : World} {tg : Expr} (t : Bool) (a it : Addr) : Turn P w K tg (Itk K t a) [it] it (fun i h => SIt h t it a i) := by
  cases t with
  | true => exact turn_tuple a it
  | false => exact turn_list a it
/-- the iterator does as the evaluator's -/
def ItR (K : PySem.W.Frag) (ca : CA) (H0 : Hp) (μ0 : List Addr) (J : It) (iv : Iv) : Prop := ∀ (i : Nat) (H : Hp) (μ : List Addr) (S : Store), Grow H0 μ0 H μ → SR K ca H μ S → match nextI S iv i with
  | .stop => J.stop i H
  | .bad => True
  | .item d => J.go i H ∧ ∀ x H', J.yld i H x H' → Step H μ H' μ ∧ SR K ca H' μ S ∧ Rep K H' μ d x
theorem itr_sq {d : D} {a : Addr} (rv : Rep K H0 μ0 d (.ref a)) : ItR K ca H0 μ0 (Itk K (isTup d) a) (.sq d) := by
  intro i H μ S g r
  have rv := Rep.step g _ _ rv
  unfold nextI
  simp only
  cases e : seqD S d with
  | none => trivial
  | some ds =>
    obtain ⟨a', vs, e1, hq, rs⟩ := seq_repK r e rv
    cases e1
    simp only
    cases e2 : ds[i]? with
    | none => exact ⟨vs, hq, by rw [rs.len]; exact List.getElem?_eq_none_iff.mp e2⟩
    | some x =>
      obtain ⟨w, h1, h2⟩ := rs.get e2
      refine ⟨⟨vs, w, hq, h1⟩, fun y H' ⟨e3, h3⟩ => ?_⟩
      subst e3
      have := h3 vs hq
      rw [h1] at this
      cases this
      exact ⟨Step.refl _ _, r, h2⟩
theorem itr_rg {lo : Int} {n : Nat} : ItR K ca H0 μ0 (Itr lo n) (.rg lo n) := by
  intro i H μ S g r
  unfold nextI
  simp only
  by_cases h : i < n
  · rw [if_pos h]
    refine ⟨h, fun y H' ⟨e3, h3⟩ => ?_⟩
    subst e3 h3
    exact ⟨Step.refl _ _, r, rep_int.mpr rfl⟩
  · rw [if_neg h]
    exact Nat.le_of_not_lt h
theorem new_pair {a b : D} {x y : V} {T : Addr} (r : SR K ca H μ S) (hT : H T = none) (ra : Rep K H μ a x) (rb : Rep K H μ b y) :
    Step H μ (upd H T (.tup [x, y])) μ ∧ SR K ca (upd H T (.tup [x, y])) μ S ∧ Rep K (upd H T (.tup [x, y])) μ (.tup [a, b]) (.ref T) := by
  have s : Step H μ (upd H T (.tup [x, y])) μ := Step.new μ hT
  exact ⟨s, r.new hT, rep_tup.mpr ⟨T, [x, y], rfl, .inl (.inl upd_same), Reps.cons (Rep.step s.grow _ _ ra) (Reps.cons (Rep.step s.grow _ _ rb) Reps.nil)⟩⟩
theorem itr_en {d : D} {a : Addr} (rv : Rep K H0 μ0 d (.ref a)) : ItR K ca H0 μ0 (Itek K (isTup d) a) (.en d) := by
  intro i H μ S g r
  have rv := Rep.step g _ _ rv
  unfold nextI
  simp only
  cases e : seqD S d with
  | none => trivial
  | some ds =>
    obtain ⟨a', vs, e1, hq, rs⟩ := seq_repK r e rv
    cases e1
    simp only
    cases e2 : ds[i]? with
    | none =>
      simp only
      by_cases hl : i = ds.length
      · rw [if_pos hl]
        exact ⟨vs, hq, by rw [rs.len]; exact hl.symm⟩
      · rw [if_neg hl]
        trivial
    | some x =>
      obtain ⟨w, h1, h2⟩ := rs.get e2
      refine ⟨⟨vs, w, hq, h1⟩, fun y H' ⟨T, x', e4, hT, e3, h3⟩ => ?_⟩
      subst e3 e4
      have := h3 vs hq
      rw [h1] at this
      cases this
      exact new_pair r hT (rep_int.mpr rfl) h2
theorem itr_zp {d1 d2 : D} {a b : Addr} (rv1 : Rep K H0 μ0 d1 (.ref a)) (rv2 : Rep K H0 μ0 d2 (.ref b)) : ItR K ca H0 μ0 (Itzk K (isTup d1) (isTup d2) a b) (.zp d1 d2) := by
  intro i H μ S g r
  have rv1 := Rep.step g _ _ rv1
  have rv2 := Rep.step g _ _ rv2
  unfold nextI
  simp only
  cases e : seqD S d1 with
  | none => trivial
  | some ds =>
    cases e' : seqD S d2 with
    | none => trivial
    | some es =>
      obtain ⟨a', vs, e1, hq, rs⟩ := seq_repK r e rv1
      obtain ⟨b', ws, e1', hq', rs'⟩ := seq_repK r e' rv2
      cases e1
      cases e1'
      simp only
      have stop : ∀ (h : ds[i]? = none ∨ es[i]? = none) (hle : i ≤ ds.length ∧ i ≤ es.length), (Itzk K (isTup d1) (isTup d2) a b).stop i H := fun h hle => by
        refine ⟨vs, ws, hq, hq', by rw [rs.len]; exact hle.1, by rw [rs'.len]; exact hle.2, ?_⟩
        rw [rs.len, rs'.len]
        rcases h with h | h
        · have := List.getElem?_eq_none_iff.mp h
          left; omega
        · have := List.getElem?_eq_none_iff.mp h
          right; omega
      cases e2 : ds[i]? with
      | none =>
        simp only
        by_cases hle : i ≤ ds.length ∧ i ≤ es.length
        · rw [if_pos hle]
          exact stop (.inl e2) hle
        · rw [if_neg hle]
          trivial
      | some x =>
        cases e3 : es[i]? with
        | none =>
          simp only
          by_cases hle : i ≤ ds.length ∧ i ≤ es.length
          · rw [if_pos hle]
            exact stop (.inr e3) hle
          · rw [if_neg hle]
            trivial
        | some y =>
          obtain ⟨w, h1, h2⟩ := rs.get e2
          obtain ⟨w', h1', h2'⟩ := rs'.get e3
          refine ⟨⟨vs, ws, w, w', hq, hq', h1, h1'⟩, fun z H' ⟨T, x', y', e4, hT, e5, h3, h4⟩ => ?_⟩
          subst e4 e5
          have q1 := h3 vs hq
          rw [h1] at q1
          cases q1
          have q2 := h4 ws hq'
          rw [h1'] at q2
          cases q2
          exact new_pair r hT h2 h2'
end

theorem zsep (n a b : Nat) (la : a < n) (lb : b < n) : ZipSep2 (n + 4) (n + 2) (n + 3) n (n + 1) [n, a] [n + 1, b] := by
  have m : ∀ (x y z : Nat), x ≠ y → x ≠ z → (x : Addr) ∉ ([y, z] : List Addr) := fun x y z h1 h2 hm => by
    rcases List.mem_cons.mp hm with e | hm
    · exact h1 e
    · exact h2 (List.mem_singleton.mp hm)
  have ne : ∀ x y : Nat, x ≠ y → (x : Addr) ≠ y := fun _ _ h => h
  exact ⟨ne _ _ (by omega), ne _ _ (by omega), ne _ _ (by omega), ne _ _ (by omega), List.mem_cons_self, m _ _ _ (by omega) (by omega), m _ _ _ (by omega) (by omega), ne _ _ (by omega), List.mem_cons_self, m _ _ _ (by omega) (by omega), m _ _ _ (by omega) (by omega), m _ _ _ (by omega) (by omega), m _ _ _ (by omega) (by omega)⟩
theorem nne {x y : Nat} (h : x ≠ y) : (x : Addr) ≠ y := h
theorem nle {x y : Nat} (h : x ≤ y) : (x : Nat) ≤ (y : Addr) := h
/-- what is walked, read by the evaluator -/
def tI (K : PySem.W.Frag) (ca : CA) (W : WX) (m : Slots → Store → Out Iv) : TI := fun σ H R => ∃ ρ S μ, EnvR K H μ σ ρ ∧ SR K ca H μ S ∧ Post K ca W σ H μ (fun iv _ H' μ' => ∀ J, ItR K ca H' μ' J iv → R J H') (m ρ S)
abbrev SI (X : Cx) (ca : CA) (cx : Ctx) (W : WX) (tg it : Expr) (c : I) : Prop := PI X tg it (tI X.K ca W (evI cx c))
section
variable {ca : CA} {fa : Nat → Addr} {fd : Nat → FuncData} {flds free : List Str} {X : Cx} {cx : Ctx} {k : Nat} {W : WX} {a b e tg : Expr} {ea eb : E} {pos : Pos}
theorem isSome_seq {S : Store} {d : D} (h : (seqD S d).isSome = true) : ∃ ds, seqD S d = some ds := by
  cases e : seqD S d with
  | none => rw [e] at h; cases h
  | some ds => exact ⟨ds, rfl⟩
theorem si_seq (he : SE X ca cx W e ea) : SI X ca cx W tg e (.seq ea) := by
  refine ⟨fun pins s σ H R I ⟨ρ, S, μ, er, r, p⟩ => ?_⟩
  rw [evI] at p
  refine thn (he.run pins s σ H (fun x H1 => ∃ t a, x = .ref a ∧ (∃ xs, Sqk X.K H1 t a xs) ∧ R (Itk X.K t a) H1) I (tE_bind er r (Post.bind p) fun d S1 H1 μ1 v s1 r1 e1 rv q1 => ?_)) fun u s1 ⟨x, H1, I1, rx, t, a, ex, ⟨xs, hq⟩, hR⟩ => ?_
  · split at q1
    · rename_i hs
      obtain ⟨ds, hd⟩ := isSome_seq hs
      obtain ⟨a, vs, e2, hq, rs⟩ := seq_repK r1 hd rv
      subst e2
      exact ⟨isTup d, a, rfl, ⟨vs, hq⟩, Post.ok q1 r1 _ (itr_sq rv)⟩
    · exact q1.elim
  · subst ex
    obtain rfl : u = Value.ref a := rx
    obtain ⟨its, rv, p, hlt⟩ := Inv.sqk I1 hq
    refine (begins_sq t a its.toArray).iter _ _ _ _ _ _ p ?_
    refine ⟨s1.heap.objs.size, [s1.heap.objs.size], _, _, H1, rfl, I1.kept (t' := s1.toks) fun b o e => Heap.get?_push_of_some _ e, turn_k t a _, itO_it (Heap.get?_push_size _ (begins_sq t a its.toArray).free), fun b hb => ?_, hR⟩
    have e : b = s1.heap.objs.size := by simpa using hb
    subst e
    exact I1.fpOk (Nat.le_refl _) (I1.hok.fresh (Nat.le_refl _))
theorem si_rng1 {p : Pos} (hg : Gl X "range") (hm : X.mg "range" = none) (hs : noStar [a] = true) (ha : SE X ca cx W a ea) : SI X ca cx W tg (.Call (.Name "range" p) [a] [] pos) (.rng1 ea) := by
  have h1 := starEach_of (env := X.env) hs
  refine ⟨fun pins s σ H R I ⟨ρ, S, μ, er, r, q⟩ => (pi_range1 hg hm (pa_cons ha pa_nil h1) (hs := h1)).run pins s σ H R I ?_⟩
  rw [evI] at q
  refine tE_bind er r (Post.bind q) fun d S1 H1 μ1 v s1 r1 e1 rv q1 => ?_
  cases d with
  | int j =>
    have q1 : Post X.K ca W σ H1 μ1 (fun iv _ H' μ' => ∀ J, ItR X.K ca H' μ' J iv → R J H') (if j.natAbs < 2 ^ 62 then .ok (.rg 0 j.toNat) S1 else .bad) := q1
    split at q1
    · rename_i hj
      rw [rep_int.mp rv]
      exact ⟨j, rfl, by omega, by omega, Post.ok q1 r1 _ itr_rg⟩
    · exact q1.elim
  | _ => exact (show False from q1).elim
theorem si_rng2 {p : Pos} (hg : Gl X "range") (hm : X.mg "range" = none) (hs : noStar [a, b] = true) (ha : SE X ca cx W a ea) (hb : SE X ca cx W b eb) : SI X ca cx W tg (.Call (.Name "range" p) [a, b] [] pos) (.rng2 ea eb) := by
  have h1 := starEach_of (env := X.env) hs
  have h2 := starEach_of (env := X.env) (noStar_tail hs)
  refine ⟨fun pins s σ H R I ⟨ρ, S, μ, er, r, q⟩ => (pi_range2 hg hm (pa_cons ha (pa_cons hb pa_nil h2) h1) (hs := by rw [h1, h2]; rfl) (hs2 := by rw [h2]; rfl)).run pins s σ H R I ?_⟩
  rw [evI] at q
  refine tE_bind er r (Post.bind q) fun d S1 H1 μ1 v s1 r1 e1 rv q1 => ?_
  refine tE_bind e1 r1 (Post.bind q1) fun d2 S2 H2 μ2 v2 s2 r2 e2 rv2 q2 => ?_
  cases d with
  | int i =>
    cases d2 with
    | int j =>
      have q2 : Post X.K ca W σ H2 μ2 (fun iv _ H' μ' => ∀ J, ItR X.K ca H' μ' J iv → R J H') (if i.natAbs < 2 ^ 62 ∧ j.natAbs < 2 ^ 62 then .ok (.rg i (j - i).toNat) S2 else .bad) := q2
      split at q2
      · rename_i hj
        rw [rep_int.mp rv, rep_int.mp rv2]
        exact ⟨i, j, rfl, ⟨by omega, by omega, by omega, by omega⟩, Post.ok q2 r2 _ itr_rg⟩
      · exact q2.elim
    | _ => exact (show False from q2).elim
  | _ => exact (show False from q2).elim
theorem si_enum {p tpos : Pos} {elts : List Expr} {kk : Nat} (hg : Gl X "enumerate") (hm : X.mg "enumerate" = none) (hs : noStar [e] = true) (he : SE X ca cx W e ea) : SI X ca cx W (.Tuple elts kk tpos) (.Call (.Name "enumerate" p) [e] [] pos) (.enum ea) := by
  have h1 := starEach_of (env := X.env) hs
  refine ⟨fun pins s σ H R I ⟨ρ, S, μ, er, r, p⟩ => ?_⟩
  rw [evI] at p
  refine Call_ (ld_blt I hg hm boot_enumerate (PyProof.Rows.callWith_type1 (thn ((pa_cons he pa_nil h1).run pos pins s σ H (fun xs H1 => ∃ t a, xs = [.ref a] ∧ (∃ ys, Sqk X.K H1 t a ys) ∧ R (Itek X.K t a) H1) I (tE_bind er r (Post.bind p) fun d S1 H1 μ1 v s1 r1 e1 rv q1 => ?_)) fun us s1 ⟨vs, H1, I1, rs, t, a, ex, ⟨xs, hq⟩, hR⟩ => ?_) h1 rfl))
  · split at q1
    · rename_i hs
      obtain ⟨ds, hd⟩ := isSome_seq hs
      obtain ⟨a, vs, e2, hq, rs⟩ := seq_repK r1 hd rv
      subst e2
      exact ⟨isTup d, a, rfl, ⟨vs, hq⟩, Post.ok q1 r1 _ (itr_en rv)⟩
    · exact q1.elim
  · subst ex
    obtain rfl : us = [Value.ref a] := Vals.ref1 rs
    obtain ⟨its, rv, p, hlt⟩ := Inv.sqk I1 hq
    refine enum_begins1 (begins_sq t a its.toArray) p fun h' he hit hsz hk => wpAny_pyIter_enum he ?_
    have I2 : Inv X pins σ H1 { s1 with heap := h' } := I1.kept (t' := s1.toks) hk
    refine ⟨s1.heap.objs.size + 1, [s1.heap.objs.size + 1, s1.heap.objs.size], _, _, H1, rfl, I2, turn_enumK (t := t) (a := a) (e := s1.heap.objs.size + 1) (it := s1.heap.objs.size) (Nat.ne_of_gt (Nat.lt_succ_of_lt hlt)) (Nat.ne_of_lt hlt) (Nat.succ_ne_self _), ⟨⟨.none, he⟩, itO_it hit⟩, fun b hb => ?_, hR⟩
    have e' : b = s1.heap.objs.size + 1 ∨ b = s1.heap.objs.size := by simpa using hb
    have hle : s1.heap.objs.size ≤ b := by
      rcases e' with z | z
      · rw [z]; exact Nat.le_add_right _ _
      · rw [z]; exact Nat.le_refl _
    exact I1.fpOk hle (I1.hok.fresh hle)
theorem si_zip {p tpos : Pos} {elts : List Expr} {kk : Nat} (hg : Gl X "zip") (hm : X.mg "zip" = none) (hs : noStar [a, b] = true) (ha : SE X ca cx W a ea) (hb : SE X ca cx W b eb) : SI X ca cx W (.Tuple elts kk tpos) (.Call (.Name "zip" p) [a, b] [] pos) (.zip ea eb) := by
  have h1 := starEach_of (env := X.env) hs
  have h2 := starEach_of (env := X.env) (noStar_tail hs)
  refine ⟨fun pins s σ H R I ⟨ρ, S, μ, er, r, p⟩ => ?_⟩
  rw [evI] at p
  refine Call_ (ld_blt I hg hm PyProof.Rows.boot_zip (PyProof.Rows.callWith_type1 (thn ((pa_cons ha (pa_cons hb pa_nil h2) h1).run pos pins s σ H (fun xs H1 => ∃ t1 t2 a b, xs = [.ref a, .ref b] ∧ (∃ ys, Sqk X.K H1 t1 a ys) ∧ (∃ ys, Sqk X.K H1 t2 b ys) ∧ R (Itzk X.K t1 t2 a b) H1) I
    (tE_bind er r (Post.bind p) fun d S1 H1 μ1 v s1 r1 e1 rv q1 => tE_bind e1 r1 (Post.bind q1) fun d2 S2 H2 μ2 v2 s2 r2 e2 rv2 q2 => ?_)) fun us s1 ⟨vs, H1, I1, rs, t1, t2, a, b, ex, ⟨xs, hq⟩, ⟨ys, hq2⟩, hR⟩ => ?_) h1 (plain_of (noStar_tail hs))))
  · split at q2
    · rename_i hs
      obtain ⟨ds, hd⟩ := isSome_seq hs.1
      obtain ⟨es, hd2⟩ := isSome_seq hs.2
      have rv' := Rep.step s2.grow _ _ rv
      obtain ⟨a, vs, e2, hq, rs⟩ := seq_repK r2 hd rv'
      obtain ⟨b, ws, e2', hq', rs'⟩ := seq_repK r2 hd2 rv2
      subst e2
      subst e2'
      exact ⟨isTup d, isTup d2, a, b, rfl, ⟨vs, hq⟩, ⟨ws, hq'⟩, Post.ok q2 r2 _ (itr_zp rv' rv2)⟩
    · exact q2.elim
  · subst ex
    cases rs with
    | cons ra rr =>
      cases rr with
      | cons rb rr =>
        cases rr
        cases ra
        cases rb
        obtain ⟨its, rv, p1, la⟩ := Inv.sqk I1 hq
        obtain ⟨its2, rv2, p2, lb⟩ := Inv.sqk I1 hq2
        refine zip_begins2 (begins_sq t1 a its.toArray) (begins_sq t2 b its2.toArray) p1 p2 fun h' hz hTI hTO g1 g2 hsz hk => wpAny_pyIter_zip hz ?_
        have I2 : Inv X pins σ H1 { s1 with heap := h' } := I1.kept (t' := s1.toks) hk
        have S : ZipSep2 (s1.heap.objs.size + 4) (s1.heap.objs.size + 2) (s1.heap.objs.size + 3) s1.heap.objs.size (s1.heap.objs.size + 1) [s1.heap.objs.size, a] [s1.heap.objs.size + 1, b] := zsep _ a b la lb
        refine ⟨s1.heap.objs.size + 4, [s1.heap.objs.size + 4, s1.heap.objs.size + 2, s1.heap.objs.size + 3, s1.heap.objs.size, s1.heap.objs.size + 1], _, _, H1, rfl, I2, turn_zipK (t1 := t1) (t2 := t2) S, ⟨hz, hTI, ⟨_, _, hTO⟩, itO_it g1, itO_it g2, Nat.ne_of_lt la, Nat.ne_of_lt (Nat.lt_succ_of_lt lb)⟩, fun c hcm => ?_, hR⟩
        have e' : c = s1.heap.objs.size + 4 ∨ c = s1.heap.objs.size + 2 ∨ c = s1.heap.objs.size + 3 ∨ c = s1.heap.objs.size ∨ c = s1.heap.objs.size + 1 := by simpa using hcm
        have hle : s1.heap.objs.size ≤ c := by
          rcases e' with z | z | z | z | z
          · rw [z]; exact Nat.le_add_right _ _
          · rw [z]; exact Nat.le_add_right _ _
          · rw [z]; exact Nat.le_add_right _ _
          · rw [z]; exact Nat.le_refl _
          · rw [z]; exact Nat.le_add_right _ _
        exact I1.fpOk hle (I1.hok.fresh hle)
end
end Pl

set_option Elab.async false
set_option linter.all false
set_option maxRecDepth 100000
set_option maxHeartbeats 4000000
/-! Pl13: comprehensions. -/
namespace Pl
open PySem PySem.Spec PyProof.Rows L2

section
variable {K : PySem.W.Frag} {ca : CA} {H H1 : Hp} {μ μ1 : List Addr} {S : Store}
/-- an object beside the store stays -/
theorem Step.out (s : Step H μ H1 μ1) {a : Addr} {u : HO} (e : H a = some u) (n : a ∉ μ) (hu : NoTbl u := by intro ps hps; cases hps) : H1 a = some u ∧ a ∉ μ1 := by
  refine ⟨s.oth a u e n hu, fun hm => ?_⟩
  obtain ⟨ν, e1, hν⟩ := s.pre
  rw [e1] at hm
  rcases List.mem_append.mp hm with q | q
  · exact n q
  · exact hν a q u e hu
/-- a list beside the store is written -/
theorem SR.side (r : SR K ca H μ S) {a : Addr} {vs : List V} {o : HO} (e : H a = some (.lst vs)) (n : a ∉ μ) : SR K ca (upd H a o) μ S ∧ Grow H μ (upd H a o) μ := by
  have g : Grow H μ (upd H a o) μ := ⟨fun _ _ h => h, fun b xs q => by rw [upd_ne fun z => by subst z; rw [e] at q; cases q]; exact q, fun b w v q => by rw [upd_ne fun z => by subst z; rw [e] at q; cases q]; exact q⟩
  refine ⟨⟨r.len, r.nd, fun i x ex => ?_, tabs_upd r.tab (.inr (.inl ⟨vs, e⟩))⟩, g⟩
  obtain ⟨b, q1, q2⟩ := r.obj i x ex
  exact ⟨b, q1, q2.step g (upd_ne fun z => by subst z; exact n (List.mem_of_getElem? q1))⟩
theorem Step.side (s : Step H μ H1 μ1) {a : Addr} {o : HO} (e : H a = none) : Step H μ (upd H1 a o) μ1 := by
  have ne : ∀ b u, H b = some u → b ≠ a := fun b u q z => by subst z; rw [e] at q; cases q
  refine ⟨s.pre, fun b xs h => ?_, fun b q u h => ?_, fun b u h n t => ?_, fun b u h t => ?_⟩
  · rw [upd_ne (ne b _ h)]; exact s.tup b xs h
  · rw [upd_ne (ne b _ h)]; exact s.frz b q u h
  · rw [upd_ne (ne b _ h)]; exact s.oth b u h n t
  · obtain ⟨u', h1, h2⟩ := s.trk b u h t
    exact ⟨u', by rw [upd_ne (ne b _ h)]; exact h1, h2⟩
/-- the list beside the store is taken into it -/
theorem SR.adopt (r : SR K ca H μ S) {a : Addr} {vs : List V} {ds : List D} (e : H a = some (.lst vs)) (n : a ∉ μ) (rs : Reps K H μ ds vs) : SR K ca H (μ ++ [a]) (S ++ [.lst ds]) := by
  have g : Grow H μ H (μ ++ [a]) := ⟨fun i b h => by rw [List.getElem?_append_left (List.getElem?_eq_some_iff.mp h).1]; exact h, fun _ _ h => h, fun _ _ _ h => h⟩
  refine ⟨by simp [r.len], ?_, fun i y ey => ?_, r.tab⟩
  · rw [List.nodup_append]
    refine ⟨r.nd, by simp, fun x hx b hb => ?_⟩
    have : b = a := by simpa using hb
    subst this
    rintro rfl
    exact n hx
  · by_cases hi : i < S.length
    · rw [List.getElem?_append_left hi] at ey
      obtain ⟨b, q1, q2⟩ := r.obj i y ey
      exact ⟨b, by rw [List.getElem?_append_left (by rw [r.len]; exact hi)]; exact q1, q2.step g rfl⟩
    · have hi2 : S.length ≤ i := Nat.le_of_not_lt hi
      rw [List.getElem?_append_right hi2] at ey
      have h0 : i - S.length = 0 := by
        rcases Nat.eq_zero_or_pos (i - S.length) with z | z
        · exact z
        · rw [List.getElem?_eq_none (by simp; omega)] at ey; cases ey
      rw [h0] at ey
      have : O.lst ds = y := by simpa using ey
      subst this
      refine ⟨a, ?_, vs, e, Reps.step g _ _ rs⟩
      rw [List.getElem?_append_right (by rw [r.len]; exact hi2), r.len, h0]
      rfl
theorem Step.adopt (s : Step H μ H1 μ1) {a : Addr} (e : H a = none) : Step H μ H1 (μ1 ++ [a]) := by
  obtain ⟨ν, e1, hν⟩ := s.pre
  refine ⟨⟨ν ++ [a], by rw [e1, List.append_assoc], fun b hb u hu hn => ?_⟩, s.tup, s.frz, s.oth, s.trk⟩
  rcases List.mem_append.mp hb with q | q
  · exact hν b q u hu hn
  · have : b = a := by simpa using q
    subst this
    rw [e] at hu
    cases hu
end

/-- the names that a target sets lie within a block's own -/
theorem wipeD_len (ρ : Slots) : ∀ vs : List Nat, (wipeD ρ vs).length = ρ.length
  | [] => rfl
  | v :: vs => by unfold wipeD; rw [List.length_set, wipeD_len ρ vs]

/-- no exception is let out: any wish does -/
theorem Post.any {α : Type} {K : PySem.W.Frag} {ca : CA} {W W' : WX} {σ σ' : L2.St} {H : Hp} {μ : List Addr} {R : α → Store → Hp → List Addr → Prop} {o : Out α} (hn : ∀ x S, o ≠ .exc x S) (p : Post K ca W σ H μ R o) : Post K ca W' σ' H μ R o := by
  cases o with
  | ok a S => exact p
  | exc x S => exact absurd rfl (hn x S)
  | bad => exact p
abbrev W0 : WX := fun _ _ _ _ => False
section
variable {ca : CA} {fa : Nat → Addr} {fd : Nat → FuncData} {flds free : List Str} {X : Cx} {cx : Ctx} {k : Nat} {W : WX} {elt tg iter c : Expr} {ee ec : E} {pos : Pos} {scope : Scope} {own : List (Str × Nat)} {t : T} {it : I} {is : List Nat}
/-- where a block's code stands -/
abbrev Blk (X : Cx) (scope : Scope) (P : Cx → Prop) : Prop := ∀ (s : Shared) (H : Hp) (C : Addr) (cl : List (Str × Addr)) (fp : List Addr), P (X.blk s H scope (compEnvC scope cl C X.env) fp)
/-- a clause's test, or none -/
def tO2 (K : PySem.W.Frag) (ca : CA) (m : Slots → Store → Out Bool) : TT := fun σ H Q => ∃ ρ S μ, EnvR K H μ σ ρ ∧ SR K ca H μ S ∧ Post K ca W0 σ H μ (fun b _ H' _ => Q b H') (m ρ S)
abbrev SO2 (X : Cx) (ca : CA) (cx : Ctx) (cs : List Expr) (c : Oe) : Prop := PTs X cs (tO2 X.K ca (evO2 cx c))
theorem PTs.imp {X : Cx} {e : List Expr} {t t' : TT} (h : PTs X e t) (hi : ∀ σ H Q, t' σ H Q → t σ H Q) : PTs X e t' := ⟨fun pins s σ H Q I q => h.run pins s σ H Q I (hi σ H Q q)⟩
theorem so2_none : SO2 X ca cx [] .none := PTs.imp pts_nil fun σ H Q ⟨ρ, S, μ, e, r, p⟩ => by
  rw [evO2] at p
  exact Post.ok p r
theorem so2_some (h : ST X ca cx W0 c ec) : SO2 X ca cx [c] (.some ec) := PTs.imp (pts_one h) fun σ H Q ⟨ρ, S, μ, e, r, p⟩ => by
  rw [evO2] at p
  refine ⟨ρ, S, μ, e, r, (Post.bind p).imp fun d S1 H1 μ1 s1 r1 q => ?_⟩
  cases d with
  | bl b => exact ⟨b, rfl, Post.ok (show Post X.K ca W0 σ H1 μ1 (fun b _ H' _ => Q b H') (.ok b S1) from q) r1⟩
  | _ => exact (show False from q).elim
/-- one turn of a comprehension's block -/
def turnC (cx : Ctx) (ee : E) (t : T) (c : Oe) (ρ0 : Slots) : List D → D → Store → Out (List D) := fun acc d S =>
  (asT cx t d ρ0 S).bind fun ρ' S => (evO2 cx c ρ' S).bind fun k S => if k = true then (evE cx ee ρ' S).bind fun x S => pushD acc x S else .ok acc S
theorem loopA_noExc {iv : Iv} {step : List D → D → Store → Out (List D)} : ∀ (f n : Nat) (acc : List D) (S : Store) (x : Exn) (S' : Store), loopA iv step f n acc S ≠ .exc x S'
  | 0, _, _, _, _, _ => by rw [loopA]; intro h; cases h
  | f + 1, n, acc, S, x, S' => by
    rw [loopA]
    split
    · intro h; cases h
    · intro h; cases h
    · split
      · exact loopA_noExc f _ _ _ _ _
      · intro h; cases h
/-- the invariant of a comprehension's loop -/
structure LcI (K : PySem.W.Frag) (ca : CA) (H1 : Hp) (μ1 : List Addr) (D : Addr) (acc : List Pl.D) (H : Hp) (μ : List Addr) (S : Store) : Prop where
  step : Step H1 μ1 H μ
  sr : SR K ca H μ S
  out : D ∉ μ
  at_ : ∃ vs, H D = some (.lst vs) ∧ Reps K H μ acc vs
theorem LcI.go {K : PySem.W.Frag} {H1 : Hp} {μ1 : List Addr} {D : Addr} {acc : List Pl.D} {H H' : Hp} {μ μ' : List Addr} {S S' : Store} (L : LcI K ca H1 μ1 D acc H μ S) (s : Step H μ H' μ') (r : SR K ca H' μ' S') : LcI K ca H1 μ1 D acc H' μ' S' := by
  obtain ⟨vs, e, rs⟩ := L.at_
  obtain ⟨q1, q2⟩ := s.out e L.out
  exact ⟨L.step.trans s, r, q2, vs, q1, Reps.step s.grow _ _ rs⟩
theorem LcI.push {K : PySem.W.Frag} {H1 : Hp} {μ1 : List Addr} {D : Addr} {acc : List Pl.D} {H : Hp} {μ : List Addr} {S : Store} {d : Pl.D} {v : V} {vs : List V} (L : LcI K ca H1 μ1 D acc H μ S) (hD : H1 D = none) (e : H D = some (.lst vs)) (rs : Reps K H μ acc vs) (rv : Rep K H μ d v) :
    LcI K ca H1 μ1 D (acc ++ [d]) (upd H D (.lst (vs ++ [v]))) μ S := by
  obtain ⟨r', g⟩ := L.sr.side (o := .lst (vs ++ [v])) e L.out
  exact ⟨L.step.side hD, r', L.out, vs ++ [v], upd_same, (Reps.step g _ _ rs).append (Reps.cons (Rep.step g _ _ rv) Reps.nil)⟩
theorem lc_red {σ : L2.St} {H : Hp} {Q : VK} {co : Oe} (hsub : ∀ i ∈ is, i ∈ own.map (·.2)) (h : tE X.K ca W (evE cx (.comp ee (own.map (·.2)) t it co)) σ H Q) :
    tLc (tI X.K ca W (evI cx it)) (tG X.K ca is (asT cx t)) (tO2 X.K ca (evO2 cx co)) (tE X.K ca W0 (evE cx ee)) (own.map (·.2)) σ H Q := by
  obtain ⟨ρ, S, μ, er, r, p⟩ := h
  rw [evE] at p
  refine ⟨ρ, S, μ, er, r, (Post.bind p).imp fun iv S1 H1 μ1 s1 r1 q1 J hJ D hD => ?_⟩
  have er1 := er.step s1.grow
  refine ⟨fun i m H' => ∃ acc μ' S', LcI X.K ca H1 μ1 D acc H' μ' S' ∧ Post X.K ca W σ H' μ' (fun ds S'' H'' μ'' => ∀ a, H'' a = none → True) (loopA iv (turnC cx ee t co (wipeD ρ (own.map (·.2)))) m i acc S') ∧
      ∀ ds S'', loopA iv (turnC cx ee t co (wipeD ρ (own.map (·.2)))) m i acc S' = .ok ds S'' → ∀ H'' μ'', LcI X.K ca H1 μ1 D ds H'' μ'' S'' → Q (.ref D) H'', ⟨cx.W, ?_⟩, ?_⟩
  · have s2 : Step H1 μ1 (upd H1 D (.lst [])) μ1 := Step.new μ1 hD
    refine ⟨[], μ1, S1, ⟨s2, r1.new hD, r1.fresh hD, [], upd_same, Reps.nil⟩, ?_, fun ds S'' hl H'' μ'' L => ?_⟩
    · have q2 := Post.bind q1
      refine Post.step (q2.imp fun _ _ _ _ _ _ _ _ _ => trivial) s2
    · have q2 : Post X.K ca W σ H1 μ1 (QV X.K Q) (.ok (.ref S''.length) (S'' ++ [.lst ds])) := by
        have q1' := q1
        rw [show (fun acc d S => (asT cx t d (wipeD ρ (own.map (·.2))) S).bind fun ρ' S => (evO2 cx co ρ' S).bind fun k S => if k = true then (evE cx ee ρ' S).bind fun x S => pushD acc x S else .ok acc S) = turnC cx ee t co (wipeD ρ (own.map (·.2))) from rfl, hl] at q1'
        exact q1'
      obtain ⟨vs, e, rs⟩ := L.at_
      refine q2 H'' (μ'' ++ [D]) (L.step.adopt hD) (L.sr.adopt e L.out rs) (.ref D) ?_
      unfold Rep
      exact ⟨D, by rw [List.getElem?_append_right (by rw [L.sr.len]; exact Nat.le_refl _), L.sr.len, Nat.sub_self]; rfl, rfl⟩
  · rintro i m H' ⟨acc, μ', S', L, q, hq⟩
    cases m with
    | zero =>
      rw [loopA] at q
      exact q.elim
    | succ m =>
      have hJ' := hJ i H' μ' S' L.step.grow L.sr
      rw [loopA] at q
      rw [loopA] at hq
      split at q
      · rename_i hn
        rw [hn] at hJ' hq
        exact .inl ⟨hJ', hq acc S' rfl H' μ' L⟩
      · exact q.elim
      · rename_i d hn
        rw [hn] at hJ' hq
        simp only at hq
        obtain ⟨hgo, hy⟩ := hJ'
        refine .inr ⟨hgo, fun H'' => ∃ acc' μ'' S'', LcI X.K ca H1 μ1 D acc' H'' μ'' S'' ∧ turnC cx ee t co (wipeD ρ (own.map (·.2))) acc d S' = .ok acc' S'', ?_, ?_⟩
        · rintro H'' ⟨acc', μ'', S'', L', ht⟩
          rw [ht] at q hq
          simp only at q hq
          refine ⟨m, Nat.lt_succ_self m, acc', μ'', S'', L', ?_, hq⟩
          cases ho : loopA iv (turnC cx ee t co (wipeD ρ (own.map (·.2)))) m (i + 1) acc' S'' with
          | ok ds S3 => exact fun _ _ _ _ _ _ => trivial
          | exc x S3 => exact absurd ho (loopA_noExc _ _ _ _ _ _)
          | bad => rw [ho] at q; exact q
        · intro x H'' hyl
          obtain ⟨s3, r3, rx⟩ := hy x H'' hyl
          have L3 := L.go s3 r3
          have er3 : EnvR X.K H'' μ' (L2.wipe σ (own.map (·.2))) (wipeD ρ (own.map (·.2))) := (er1.step L3.step.grow).wipe _
          -- what the turn tells
          cases ht : turnC cx ee t co (wipeD ρ (own.map (·.2))) acc d S' with
          | ok acc' S4 =>
            have ht0 := ht
            unfold turnC at ht
            cases ha : asT cx t d (wipeD ρ (own.map (·.2))) S' with
            | ok ρ2 S2 =>
              rw [ha] at ht
              simp only [Out.bind] at ht
              refine ⟨d, wipeD ρ (own.map (·.2)), S', μ', rx, er3, r3, ?_⟩
              rw [ha]
              intro σ2 H2 μ2 s4 r4 e4 oa
              have L4 := L3.go s4 r4
              refine ⟨by rw [wipe_only oa hsub, wipe_wipe], ρ2, S2, μ2, e4, r4, ?_⟩
              cases hb : evO2 cx co ρ2 S2 with
              | ok b S3 =>
                rw [hb] at ht
                simp only [Out.bind] at ht
                intro H3 μ3 s5 r5
                have L5 := L4.go s5 r5
                cases b with
                | false =>
                  simp only [Bool.false_eq_true, if_false] at ht ⊢
                  cases ht
                  exact ⟨_, μ3, _, L5, rfl⟩
                | true =>
                  simp only [if_true] at ht ⊢
                  refine ⟨ρ2, S3, μ3, e4.step s5.grow, r5, ?_⟩
                  cases hc : evE cx ee ρ2 S3 with
                  | ok y S5 =>
                    rw [hc] at ht
                    simp only [Out.bind] at ht
                    unfold pushD at ht
                    split at ht
                    · rename_i hl
                      cases ht
                      intro H4 μ4 s6 r6 v rv
                      have L6 := L5.go s6 r6
                      obtain ⟨vs, e, rs⟩ := L6.at_
                      exact ⟨vs, e, by rw [rs.len]; exact hl, _, μ4, _, L6.push hD e rs rv, rfl⟩
                    · cases ht
                  | exc x S5 => rw [hc] at ht; cases ht
                  | bad => rw [hc] at ht; cases ht
              | exc x S3 => rw [hb] at ht; cases ht
              | bad => rw [hb] at ht; cases ht
            | exc x S2 => rw [ha] at ht; cases ht
            | bad => rw [ha] at ht; cases ht
          | exc x S4 => rw [ht] at q; exact q.elim
          | bad => rw [ht] at q; exact q.elim
end
end Pl

set_option Elab.async false
set_option linter.all false
set_option maxRecDepth 100000
set_option maxHeartbeats 4000000
/-! Pl14: comprehensions of two clauses; the rules for both. -/
namespace Pl
open PySem PySem.Spec PyProof.Rows L2

theorem Grow.trans {H H1 H2 : Hp} {μ μ1 μ2 : List Addr} (a : Grow H μ H1 μ1) (b : Grow H1 μ1 H2 μ2) : Grow H μ H2 μ2 := ⟨fun i x h => b.mu i x (a.mu i x h), fun x xs h => b.tup x xs (a.tup x xs h), fun x o u h => b.frz x o u (a.frz x o u h)⟩
theorem Grow.refl (H : Hp) (μ : List Addr) : Grow H μ H μ := (Step.refl H μ).grow
section
variable {ca : CA} {fa : Nat → Addr} {fd : Nat → FuncData} {flds free : List Str} {X : Cx} {cx : Ctx} {k : Nat} {W : WX} {elt tg iter c tg2 iter2 : Expr} {ee ec : E} {pos : Pos} {scope : Scope} {own : List (Str × Nat)} {own2 : List Nat} {t t2 : T} {it it2 : I} {is is2 : List Nat}
def turnI (cx : Ctx) (ee : E) (t2 : T) (ρ0 : Slots) : List D → D → Store → Out (List D) := fun acc d S =>
  (asT cx t2 d ρ0 S).bind fun ρ2 S => (evE cx ee ρ2 S).bind fun x S => pushD acc x S
def turnC2 (cx : Ctx) (ee : E) (t t2 : T) (it2 : I) (own2 : List Nat) (ρ0 : Slots) : List D → D → Store → Out (List D) := fun acc d S =>
  (asT cx t d ρ0 S).bind fun ρ' S => (evI cx it2 ρ' S).bind fun iv2 S => loopA iv2 (turnI cx ee t2 (wipeD ρ' own2)) cx.W 0 acc S
theorem lc2_red {σ : L2.St} {H : Hp} {Q : VK} (hsub : ∀ i ∈ is, i ∈ own.map (·.2)) (hsub2 : ∀ i ∈ is2, i ∈ own2) (h : tE X.K ca W (evE cx (.comp2 ee (own.map (·.2)) own2 t it t2 it2)) σ H Q) :
    tLc2 (tI X.K ca W (evI cx it)) (tG X.K ca is (asT cx t)) tYes (tI X.K ca W0 (evI cx it2)) (tG X.K ca is2 (asT cx t2)) tYes (tE X.K ca W0 (evE cx ee)) (own.map (·.2)) own2 σ H Q := by
  obtain ⟨ρ, S, μ, er, r, p⟩ := h
  rw [evE] at p
  refine ⟨ρ, S, μ, er, r, (Post.bind p).imp fun iv S1 H1 μ1 s1 r1 q1 J hJ D hD => ?_⟩
  have er1 := er.step s1.grow
  have q1 : Post X.K ca W σ H1 μ1 (QV X.K Q) ((loopA iv (turnC2 cx ee t t2 it2 own2 (wipeD ρ (own.map (·.2)))) cx.W 0 [] S1).bind fun ds S => .ok (.ref S.length) (S ++ [.lst ds])) := q1
  cases hl : loopA iv (turnC2 cx ee t t2 it2 own2 (wipeD ρ (own.map (·.2)))) cx.W 0 [] S1 with
  | exc x S2 => exact absurd hl (loopA_noExc _ _ _ _ _ _)
  | bad => rw [hl] at q1; exact q1.elim
  | ok ds Sf =>
  rw [hl] at q1
  have q2 : Post X.K ca W σ H1 μ1 (QV X.K Q) (.ok (.ref Sf.length) (Sf ++ [.lst ds])) := q1
  have fin : ∀ H'' μ'', LcI X.K ca H1 μ1 D ds H'' μ'' Sf → Q (.ref D) H'' := fun H'' μ'' L => by
    obtain ⟨vs, e, rs⟩ := L.at_
    refine q2 H'' (μ'' ++ [D]) (L.step.adopt hD) (L.sr.adopt e L.out rs) (.ref D) ?_
    unfold Rep
    exact ⟨D, by rw [List.getElem?_append_right (by rw [L.sr.len]; exact Nat.le_refl _), L.sr.len, Nat.sub_self]; rfl, rfl⟩
  refine ⟨fun i m H' => ∃ acc μ' S', LcI X.K ca H1 μ1 D acc H' μ' S' ∧ loopA iv (turnC2 cx ee t t2 it2 own2 (wipeD ρ (own.map (·.2)))) m i acc S' = .ok ds Sf, ⟨cx.W, ?_⟩, ?_⟩
  · have s2 : Step H1 μ1 (upd H1 D (.lst [])) μ1 := Step.new μ1 hD
    exact ⟨[], μ1, S1, ⟨s2, r1.new hD, r1.fresh hD, [], upd_same, Reps.nil⟩, hl⟩
  · rintro i m H' ⟨acc, μ', S', L, q⟩
    cases m with
    | zero =>
      rw [loopA] at q
      cases q
    | succ m =>
      have hJ' := hJ i H' μ' S' L.step.grow L.sr
      rw [loopA] at q
      split at q
      · rename_i hn
        rw [hn] at hJ'
        cases q
        exact .inl ⟨hJ', fin H' μ' L⟩
      · cases q
      · rename_i d hn
        rw [hn] at hJ'
        obtain ⟨hgo, hy⟩ := hJ'
        split at q
        · rename_i acc' S4 ht
          refine .inr ⟨hgo, fun H'' => ∃ μ'', LcI X.K ca H1 μ1 D acc' H'' μ'' S4, ?_, ?_⟩
          · rintro H'' ⟨μ'', L'⟩
            exact ⟨m, Nat.lt_succ_self m, acc', μ'', S4, L', q⟩
          · intro x H'' hyl
            obtain ⟨s3, r3, rx⟩ := hy x H'' hyl
            have L3 := L.go s3 r3
            have er3 : EnvR X.K H'' μ' (L2.wipe σ (own.map (·.2))) (wipeD ρ (own.map (·.2))) := (er1.step L3.step.grow).wipe _
            unfold turnC2 at ht
            cases ha : asT cx t d (wipeD ρ (own.map (·.2))) S' with
            | ok ρ2 S2 =>
              rw [ha] at ht
              simp only [Out.bind] at ht
              refine ⟨d, wipeD ρ (own.map (·.2)), S', μ', rx, er3, r3, ?_⟩
              rw [ha]
              intro σ2 H2 μ2 s4 r4 e4 oa
              have L4 := L3.go s4 r4
              refine ⟨by rw [wipe_only oa hsub, wipe_wipe], ?_⟩
              simp only [tYes, if_true]
              refine ⟨ρ2, S2, μ2, e4, r4, ?_⟩
              cases hb : evI cx it2 ρ2 S2 with
              | ok iv2 S3 =>
                rw [hb] at ht
                simp only [Out.bind] at ht
                intro H4 μ4 s5 r5 J1 hJ1
                have L5 := L4.go s5 r5
                have e5 := e4.step s5.grow
                refine ⟨fun j m2 H5 => ∃ acc2 μ5 S5, LcI X.K ca H1 μ1 D acc2 H5 μ5 S5 ∧ Grow H4 μ4 H5 μ5 ∧ loopA iv2 (turnI cx ee t2 (wipeD ρ2 own2)) m2 j acc2 S5 = .ok acc' S4, ⟨cx.W, acc, μ4, S3, L5, Grow.refl _ _, ht⟩, ?_⟩
                rintro j m2 H5 ⟨acc2, μ5, S5, L6, g6, qi⟩
                cases m2 with
                | zero =>
                  rw [loopA] at qi
                  cases qi
                | succ m2 =>
                  have hJ1' := hJ1 j H5 μ5 S5 g6 L6.sr
                  rw [loopA] at qi
                  split at qi
                  · rename_i hn2
                    rw [hn2] at hJ1'
                    cases qi
                    exact .inl ⟨hJ1', μ5, L6⟩
                  · cases qi
                  · rename_i d2 hn2
                    rw [hn2] at hJ1'
                    obtain ⟨hgo2, hy2⟩ := hJ1'
                    split at qi
                    · rename_i acc3 S6 ht2
                      refine .inr ⟨hgo2, fun H7 => ∃ μ7, LcI X.K ca H1 μ1 D acc3 H7 μ7 S6 ∧ Grow H4 μ4 H7 μ7, ?_, ?_⟩
                      · rintro H7 ⟨μ7, L7, g7⟩
                        exact ⟨m2, Nat.lt_succ_self m2, acc3, μ7, S6, L7, g7, qi⟩
                      · intro x2 H7 hyl2
                        obtain ⟨s7, r7, rx2⟩ := hy2 x2 H7 hyl2
                        have L7 := L6.go s7 r7
                        have g7 := g6.trans s7.grow
                        have er7 : EnvR X.K H7 μ5 (L2.wipe σ2 own2) (wipeD ρ2 own2) := (e5.step g7).wipe _
                        unfold turnI at ht2
                        cases hc : asT cx t2 d2 (wipeD ρ2 own2) S5 with
                        | ok ρ8 S8 =>
                          rw [hc] at ht2
                          simp only [Out.bind] at ht2
                          refine ⟨d2, wipeD ρ2 own2, S5, μ5, rx2, er7, r7, ?_⟩
                          rw [hc]
                          intro σ8 H8 μ8 s8 r8 e8 oa8
                          refine ⟨by rw [wipe_only oa8 hsub2, wipe_wipe], ?_⟩
                          simp only [tYes, if_true]
                          refine ⟨ρ8, S8, μ8, e8, r8, ?_⟩
                          cases hd : evE cx ee ρ8 S8 with
                          | ok y S9 =>
                            rw [hd] at ht2
                            simp only [Out.bind] at ht2
                            unfold pushD at ht2
                            split at ht2
                            · rename_i hlt
                              cases ht2
                              intro H9 μ9 s9 r9 v rv
                              have L9 := (L7.go s8 r8).go s9 r9
                              obtain ⟨vs, e, rs⟩ := L9.at_
                              exact ⟨vs, e, by rw [rs.len]; exact hlt, μ9, L9.push hD e rs rv, (g7.trans (s8.grow.trans s9.grow)).trans (L9.sr.side (o := .lst (vs ++ [v])) e L9.out).2⟩
                            · cases ht2
                          | exc x S9 => rw [hd] at ht2; cases ht2
                          | bad => rw [hd] at ht2; cases ht2
                        | exc x S8 => rw [hc] at ht2; cases ht2
                        | bad => rw [hc] at ht2; cases ht2
                    · cases qi
              | exc x S3 => rw [hb] at ht; cases ht
              | bad => rw [hb] at ht; cases ht
            | exc x S2 => rw [ha] at ht; cases ht
            | bad => rw [ha] at ht; cases ht
        · cases q
/-- [elt for tg in iter if c] -/
theorem se_comp (hX : XOk X cx ca fa fd flds free k) {cs : List Expr} {co : Oe} (hi : SI X ca cx W tg iter it) (ok : BlkOk X.N X.env.scope scope own) (hsub : ∀ i ∈ is, i ∈ own.map (·.2)) (hg : Blk X scope fun Y => SG Y ca cx is tg t) (ht : Blk X scope fun Y => SO2 Y ca cx cs co)
    (he : Blk X scope fun Y => SE Y ca cx W0 elt ee) (hs : ∀ x, foldedSetIterable iter X.env x = pure x) : SE X ca cx W (.ListComp elt [⟨tg, iter, cs, 0⟩] scope pos) (.comp ee (own.map (·.2)) t it co) :=
  PE.imp (pe_lc hX.calm hX.nd hi ok hg ht he hs) fun σ H Q h => lc_red hsub h
theorem se_comp2 (hX : XOk X cx ca fa fd flds free k) (hi : SI X ca cx W tg iter it) (ok : BlkOk X.N X.env.scope scope own) (hv : ∀ i ∈ own2, i ∈ own.map (·.2)) (hsub : ∀ i ∈ is, i ∈ own.map (·.2)) (hsub2 : ∀ i ∈ is2, i ∈ own2) (hg : Blk X scope fun Y => SG Y ca cx is tg t)
    (hi2 : Blk X scope fun Y => SI Y ca cx W0 tg2 iter2 it2) (hg2 : Blk X scope fun Y => SG Y ca cx is2 tg2 t2) (he : Blk X scope fun Y => SE Y ca cx W0 elt ee) (hs : ∀ x, foldedSetIterable iter X.env x = pure x) (hs2 : ∀ env x, foldedSetIterable iter2 env x = pure x) :
    SE X ca cx W (.ListComp elt [⟨tg, iter, [], 0⟩, ⟨tg2, iter2, [], 0⟩] scope pos) (.comp2 ee (own.map (·.2)) own2 t it t2 it2) :=
  PE.imp (pe_lc2 hX.calm hX.nd hi ok hv hg (fun _ _ _ _ _ => pts_nil) hi2 hg2 (fun _ _ _ _ _ => pts_nil) he hs hs2) fun σ H Q h => lc2_red hsub hsub2 h
end
end Pl

set_option Elab.async false
set_option linter.all false
set_option maxRecDepth 100000
set_option maxHeartbeats 4000000
/-! Pl15: statements. -/
namespace Pl
open PySem PySem.Spec PyProof.Rows L2

section
variable (K : PySem.W.Frag) (ca : CA)
def PostS (W : WX) (H : Hp) (μ : List Addr) (D : Ends) (o : SOut) : Prop := match o with
  | .nx ρ S => ∀ σ' H' μ', Step H μ H' μ' → SR K ca H' μ' S → EnvR K H' μ' σ' ρ → D.nx σ' H'
  | .rt d S => ∀ H' μ' v, Step H μ H' μ' → SR K ca H' μ' S → Rep K H' μ' d v → D.rt v H'
  | .bk ρ S => ∀ σ' H' μ', Step H μ H' μ' → SR K ca H' μ' S → EnvR K H' μ' σ' ρ → D.bk σ' H'
  | .ct ρ S => ∀ σ' H' μ', Step H μ H' μ' → SR K ca H' μ' S → EnvR K H' μ' σ' ρ → D.ct σ' H'
  | .exc x ρ S => ∀ cls dd σ' H' μ', Step H μ H' μ' → SR K ca H' μ' S → EnvR K H' μ' σ' ρ → XRep K ca H' μ' x cls dd → W cls dd σ' H'
  | .bad => False
def tS (W : WX) (m : Slots → Store → SOut) : TS := fun D σ H => ∃ ρ S μ, EnvR K H μ σ ρ ∧ SR K ca H μ S ∧ PostS K ca W H μ D (m ρ S)
end
abbrev SS (X : Cx) (ca : CA) (cx : Ctx) (W : WX) (st : Stmt) (c : C) : Prop := PS X st (tS X.K ca W (evC cx c))
abbrev SSs (X : Cx) (ca : CA) (cx : Ctx) (W : WX) (st : List Stmt) (c : Cs) : Prop := PSs X st (tS X.K ca W (evCs cx c))
section
variable {K : PySem.W.Frag} {ca : CA} {W : WX} {σ : L2.St} {H H1 : Hp} {μ μ1 : List Addr} {ρ : Slots} {S : Store} {D D' : Ends}
theorem PostS.step {o : SOut} (p : PostS K ca W H μ D o) (s : Step H μ H1 μ1) : PostS K ca W H1 μ1 D o := by
  cases o with
  | nx ρ S => exact fun σ' H' μ' s' => p σ' H' μ' (s.trans s')
  | rt d S => exact fun H' μ' v s' => p H' μ' v (s.trans s')
  | bk ρ S => exact fun σ' H' μ' s' => p σ' H' μ' (s.trans s')
  | ct ρ S => exact fun σ' H' μ' s' => p σ' H' μ' (s.trans s')
  | exc x ρ S => exact fun cls dd σ' H' μ' s' => p cls dd σ' H' μ' (s.trans s')
  | bad => exact p
theorem PostS.st {α : Type} {o : Out α} {k : α → Store → SOut} (e : EnvR K H μ σ ρ) (p : PostS K ca W H μ D (o.st ρ k)) : Post K ca W σ H μ (fun a S H' μ' => PostS K ca W H' μ' D (k a S)) o := by
  cases o with
  | ok a S => exact fun H' μ' s' _ => PostS.step p s'
  | exc x S => exact fun cls dd H' μ' s' r xr => p cls dd σ H' μ' s' r (e.step s'.grow) xr
  | bad => exact p
theorem PostS.nx_ok (e : EnvR K H μ σ ρ) (r : SR K ca H μ S) (p : PostS K ca W H μ D (.nx ρ S)) : D.nx σ H := p σ H μ (Step.refl H μ) r e
theorem PostS.bl {x : Pl.D} {f : Bool → SOut} (p : PostS K ca W H μ D (onBlS x f)) : ∃ k, x = .bl k ∧ PostS K ca W H μ D (f k) := by
  cases x with
  | bl k => exact ⟨k, rfl, p⟩
  | _ => exact (show False from p).elim
theorem PostS.seq {o : SOut} {k : Slots → Store → SOut} (p : PostS K ca W H μ D (o.seq k)) : PostS K ca W H μ { D with nx := tS K ca W k D } o := by
  cases o with
  | nx ρ S => exact fun σ' H' μ' s r e => ⟨ρ, S, μ', e, r, PostS.step p s⟩
  | rt d S => exact p
  | bk ρ S => exact p
  | ct ρ S => exact p
  | exc x ρ S => exact p
  | bad => exact p
/-- a loop's body -/
theorem PostS.body {o : SOut} {kN : Slots → Store → SOut} {N : L2.St → Hp → Prop} (p : PostS K ca W H μ D (match o with
      | .nx ρ S => kN ρ S
      | .ct ρ S => kN ρ S
      | .bk ρ S => .nx ρ S
      | o => o))
    (hN : ∀ ρ S σ' H' μ', Step H μ H' μ' → SR K ca H' μ' S → EnvR K H' μ' σ' ρ → PostS K ca W H' μ' D (kN ρ S) → N σ' H') : PostS K ca W H μ { D with nx := N, ct := N, bk := D.nx } o := by
  cases o with
  | nx ρ S => exact fun σ' H' μ' s r e => hN ρ S σ' H' μ' s r e (PostS.step p s)
  | rt d S => exact p
  | bk ρ S => exact p
  | ct ρ S => exact fun σ' H' μ' s r e => hN ρ S σ' H' μ' s r e (PostS.step p s)
  | exc x ρ S => exact p
  | bad => exact p
end
section
variable {ca : CA} {fa : Nat → Addr} {fd : Nat → FuncData} {flds free : List Str} {X : Cx} {cx : Ctx} {k : Nat} {W : WX} {tg iter e c : Expr} {ee ec : E} {pos : Pos} {body : List Stmt} {t : T} {it : I} {is : List Nat} {b b2 : Cs} {st : Stmt} {sts : List Stmt} {cc : C} {ccs : Cs}
theorem sss_nil : SSs X ca cx W [] .nil := PSs.imp pss_nil fun D σ H ⟨ρ, S, μ, e, r, p⟩ => by
  rw [evCs] at p
  exact PostS.nx_ok e r p
theorem sss_cons (h1 : SS X ca cx W st cc) (h2 : SSs X ca cx W sts ccs) : SSs X ca cx W (st :: sts) (.cons cc ccs) := PSs.imp (pss_cons h1 h2) fun D σ H ⟨ρ, S, μ, e, r, p⟩ => by
  rw [evCs] at p
  exact ⟨ρ, S, μ, e, r, PostS.seq p⟩
theorem ss_never : SS X ca cx W st .never := PS.imp ps_never fun D σ H ⟨ρ, S, μ, e, r, p⟩ => by
  rw [evC] at p
  exact p
theorem ss_pass : SS X ca cx W (.Pass pos) .pass := PS.imp ps_pass fun D σ H ⟨ρ, S, μ, e, r, p⟩ => by
  rw [evC] at p
  exact PostS.nx_ok e r p
theorem ss_brk : SS X ca cx W (.Break pos) .brk := PS.imp ps_break fun D σ H ⟨ρ, S, μ, e, r, p⟩ => by
  rw [evC] at p
  exact p σ H μ (Step.refl H μ) r e
theorem ss_cnt : SS X ca cx W (.Continue pos) .cnt := PS.imp ps_continue fun D σ H ⟨ρ, S, μ, e, r, p⟩ => by
  rw [evC] at p
  exact p σ H μ (Step.refl H μ) r e
theorem ss_expr (he : SE X ca cx W e ee) (hs : swapsWith e none pos.line X.env = pure false) : SS X ca cx W (.Expr e pos) (.expr ee) := PS.imp (ps_expr he hs) fun D σ H ⟨ρ, S, μ, er, r, p⟩ => by
  rw [evC] at p
  exact tE_bind er r (PostS.st er p) fun d S1 H1 μ1 v s1 r1 e1 rv q1 => PostS.nx_ok e1 r1 q1
theorem ss_ret (he : SE X ca cx W e ee) : SS X ca cx W (.Return (some e) pos) (.ret ee) := PS.imp (ps_ret he) fun D σ H ⟨ρ, S, μ, er, r, p⟩ => by
  rw [evC] at p
  exact tE_bind er r (PostS.st er p) fun d S1 H1 μ1 v s1 r1 e1 rv q1 => q1 H1 μ1 v (Step.refl _ _) r1 rv
theorem ss_retN : SS X ca cx W (.Return none pos) (.ret (.cst .non)) := PS.imp ps_retN fun D σ H ⟨ρ, S, μ, er, r, p⟩ => by
  rw [evC, evE] at p
  exact p H μ .non (Step.refl _ _) r (rep_non.mpr rfl)
/-- name, tuple, attribute, item = e -/
theorem ss_asg (he : SE X ca cx W e ee) (hg : SG X ca cx is tg t) (hs : swapsWithSole [tg] e pos.line X.env = pure false) (hw : swappedStores [tg] e X.env = pure none) (h1 : noStar [tg] = true) : SS X ca cx W (.Assign [tg] e pos) (.asg t ee) :=
  PS.imp (ps_asg he hg hs hw (by rw [assignEach_of h1]; rfl)) fun D σ H ⟨ρ, S, μ, er, r, p⟩ => by
    rw [evC] at p
    refine tE_bind er r (PostS.st er p) fun d S1 H1 μ1 v s1 r1 e1 rv q1 => ⟨d, ρ, S1, μ1, rv, e1, r1, ?_⟩
    cases ho : asT cx t d ρ S1 with
    | ok ρ' S' =>
      rw [ho] at q1
      exact fun σ' H' μ' s' r' e' _ => q1 σ' H' μ' s' r' e'
    | exc x S' => rw [ho] at q1; exact q1
    | bad => rw [ho] at q1; exact q1
/-- name = [..] on one line -/
theorem ss_setComp (hX : XOk X cx ca fa fd flds free k) {scope : Scope} {own : List (Str × Nat)} {elt : Expr} {eelt : E} {i : Nat} {y : Str} {py cpos : Pos} {cs : List Expr} {co : Oe} (hy : X.N[i]? = some y) (hyl : X.env.scope.names.lookup y = some .local)
    (hsw : swapsWith (.ListComp elt [⟨tg, iter, cs, 0⟩] scope cpos) (some (.Name y py)) pos.line X.env = pure true)
    (hi : SI X ca cx W tg iter it) (ok : BlkOk X.N X.env.scope scope own) (hsub : ∀ i ∈ is, i ∈ own.map (·.2)) (hg : Blk X scope fun Y => SG Y ca cx is tg t) (ht : Blk X scope fun Y => SO2 Y ca cx cs co)
    (he : Blk X scope fun Y => SE Y ca cx W0 elt eelt) (hs : ∀ x, foldedSetIterable iter X.env x = pure x) : SS X ca cx W (.Assign [.Name y py] (.ListComp elt [⟨tg, iter, cs, 0⟩] scope cpos) pos) (.asg (.name i) (.comp eelt (own.map (·.2)) t it co)) :=
  PS.imp (ps_setLc hX.calm hX.nd hy hyl hsw hi ok hg ht he hs) fun D σ H ⟨ρ, S, μ, er, r, p⟩ => by
    rw [evC] at p
    refine lc_red hsub (tE_bind er r (PostS.st er p) fun d S1 H1 μ1 v s1 r1 e1 rv q1 => ?_)
    rw [asT] at q1
    exact q1 _ H1 μ1 (Step.refl _ _) r1 (e1.set rv)
theorem ss_setComp2 (hX : XOk X cx ca fa fd flds free k) {scope : Scope} {own : List (Str × Nat)} {own2 : List Nat} {is2 : List Nat} {t2 : T} {it2 : I} {tg2 iter2 elt : Expr} {eelt : E} {i : Nat} {y : Str} {py cpos : Pos} (hy : X.N[i]? = some y) (hyl : X.env.scope.names.lookup y = some .local)
    (hsw : swapsWith (.ListComp elt [⟨tg, iter, [], 0⟩, ⟨tg2, iter2, [], 0⟩] scope cpos) (some (.Name y py)) pos.line X.env = pure true)
    (hi : SI X ca cx W tg iter it) (ok : BlkOk X.N X.env.scope scope own) (hv : ∀ i ∈ own2, i ∈ own.map (·.2)) (hsub : ∀ i ∈ is, i ∈ own.map (·.2)) (hsub2 : ∀ i ∈ is2, i ∈ own2) (hg : Blk X scope fun Y => SG Y ca cx is tg t)
    (hi2 : Blk X scope fun Y => SI Y ca cx W0 tg2 iter2 it2) (hg2 : Blk X scope fun Y => SG Y ca cx is2 tg2 t2)
    (he : Blk X scope fun Y => SE Y ca cx W0 elt eelt) (hs : ∀ x, foldedSetIterable iter X.env x = pure x) (hs2 : ∀ env x, foldedSetIterable iter2 env x = pure x) :
    SS X ca cx W (.Assign [.Name y py] (.ListComp elt [⟨tg, iter, [], 0⟩, ⟨tg2, iter2, [], 0⟩] scope cpos) pos) (.asg (.name i) (.comp2 eelt (own.map (·.2)) own2 t it t2 it2)) :=
  PS.imp (ps_setLc2 hX.calm hX.nd hy hyl hsw hi ok hv hg (fun _ _ _ _ _ => pts_nil) hi2 hg2 (fun _ _ _ _ _ => pts_nil) he hs hs2) fun D σ H ⟨ρ, S, μ, er, r, p⟩ => by
    rw [evC] at p
    refine lc2_red hsub hsub2 (tE_bind er r (PostS.st er p) fun d S1 H1 μ1 v s1 r1 e1 rv q1 => ?_)
    rw [asT] at q1
    exact q1 _ H1 μ1 (Step.refl _ _) r1 (e1.set rv)
/-- a, b = x, y on names alone -/
theorem ss_par (hX : XOk X cx ca fa fd flds free k) {i j : Nat} {x y : Str} {a b : Expr} {es : Es} {px py pt : Pos} {kt k2 : Nat} {pt2 : Pos} (hi : X.N[i]? = some x) (hj : X.N[j]? = some y) (hij : i ≠ j)
    (hx : X.env.scope.names.lookup x = some .local) (hy : X.env.scope.names.lookup y = some .local) (ha : SA X ca cx W [a, b] es)
    (hw : swappedStores [.Tuple [.Name x px, .Name y py] kt pt] (.Tuple [a, b] k2 pt2) X.env = pure (some [x, y])) : SS X ca cx W (.Assign [.Tuple [.Name x px, .Name y py] kt pt] (.Tuple [a, b] k2 pt2) pos) (.par [i, j] es) :=
  PS.imp (ps_par hX.calm hX.nd hi hj hij hx hy ha hw) fun D σ H ⟨ρ, S, μ, er, r, p⟩ => by
    rw [evC] at p
    refine tEs_bind er r (PostS.st er p) fun ds S1 H1 μ1 vs s1 r1 e1 rv q1 => ?_
    match ds, q1, rv with
    | [d1, d2], q1, rv =>
      obtain ⟨v, w, ev, h1, h2⟩ := reps2 rv
      subst ev
      exact ⟨v, w, rfl, q1 _ H1 μ1 (Step.refl _ _) r1 ((e1.set h1).set h2)⟩
    | [], q1, rv => exact q1.elim
    | [_], q1, rv => exact q1.elim
    | _ :: _ :: _ :: _, q1, rv => exact q1.elim
theorem ss_par3 (hX : XOk X cx ca fa fd flds free k) {i j l : Nat} {x y z : Str} {a b c : Expr} {es : Es} {px py pz pt : Pos} {kt k2 : Nat} {pt2 : Pos} (hi : X.N[i]? = some x) (hj : X.N[j]? = some y) (hl : X.N[l]? = some z) (hij : i ≠ j) (hil : i ≠ l) (hjl : j ≠ l)
    (hx : X.env.scope.names.lookup x = some .local) (hy : X.env.scope.names.lookup y = some .local) (hz : X.env.scope.names.lookup z = some .local) (ha : SA X ca cx W [a, b, c] es)
    (hw : swappedStores [.Tuple [.Name x px, .Name y py, .Name z pz] kt pt] (.Tuple [a, b, c] k2 pt2) X.env = pure (some [x, y, z])) : SS X ca cx W (.Assign [.Tuple [.Name x px, .Name y py, .Name z pz] kt pt] (.Tuple [a, b, c] k2 pt2) pos) (.par [i, j, l] es) :=
  PS.imp (ps_par3 hX.calm hX.nd hi hj hl hij hil hjl hx hy hz ha hw) fun D σ H ⟨ρ, S, μ, er, r, p⟩ => by
    rw [evC] at p
    refine tEs_bind er r (PostS.st er p) fun ds S1 H1 μ1 vs s1 r1 e1 rv q1 => ?_
    match ds, q1, rv with
    | [d1, d2, d3], q1, rv =>
      unfold Reps at rv
      obtain ⟨v, vs', ev, h1, h2⟩ := rv
      subst ev
      obtain ⟨w, u, ev, h4, h3⟩ := reps2 h2
      subst ev
      exact ⟨v, w, u, rfl, q1 _ H1 μ1 (Step.refl _ _) r1 (((e1.set h1).set h4).set h3)⟩
    | [], q1, rv => exact q1.elim
    | [_], q1, rv => exact q1.elim
    | [_, _], q1, rv => exact q1.elim
    | _ :: _ :: _ :: _ :: _, q1, rv => exact q1.elim
/-- name += e -/
theorem ss_aug (hX : XOk X cx ca fa fd flds free k) {i : Nat} {x : Str} {op : Bop} {pos' : Pos} (hi : X.N[i]? = some x) (hx : Loc X.env.scope x) (hf : X.fn x = true ∨ X.env.scope.names.lookup x = some .local) (ho : op = .add ∨ op = .sub) (he : SE X ca cx W e ee) :
    SS X ca cx W (.AugAssign (.Name x pos') (bopOf op) e pos) (.aug i op ee) := by
  have main : ∀ {f : Int → Int → Int} (hp : PIp X (bopOf op) (ipI f)) (hf2 : ∀ (x y : Pl.D) (g : Pl.D → SOut), augE op x y g = match x, y with
      | .int a, .int b => g (.int (f a b))
      | _, _ => .bad), SS X ca cx W (.AugAssign (.Name x pos') (bopOf op) e pos) (.aug i op ee) := by
    intro f hp hf2
    refine PS.imp (ps_aug hX.nd hi hx he hp hf) fun D σ H ⟨ρ, S, μ, er, r, p⟩ => ?_
    rw [evC] at p
    split at p
    · rename_i d hd
      obtain ⟨v, hv, rv⟩ := er.at_ i d hd
      refine ⟨v, hv, tE_bind er r (PostS.st er p) fun d2 S1 H1 μ1 w s1 r1 e1 rw' q1 => ?_⟩
      rw [hf2] at q1
      split at q1
      · rename_i a b
        have rv1 := Rep.step s1.grow _ _ rv
        exact ⟨a, b, rep_int.mp rv1, rep_int.mp rw', q1 _ H1 μ1 (Step.refl _ _) r1 (e1.set (rep_int.mpr rfl))⟩
      · exact q1.elim
    · exact p.elim
  rcases ho with ho | ho
  · subst ho
    exact main (f := fun i j => i + j) ip_add fun x y g => by cases x <;> cases y <;> rfl
  · subst ho
    exact main (f := fun i j => i - j) ip_sub fun x y g => by cases x <;> cases y <;> rfl
theorem ss_if (hc : ST X ca cx W c ec) (ha : SSs X ca cx W body b) (hb : SSs X ca cx W sts b2) : SS X ca cx W (.If c body sts pos) (.ite ec b b2) := PS.imp (ps_if hc ha hb) fun D σ H ⟨ρ, S, μ, er, r, p⟩ => by
  rw [evC] at p
  refine ⟨ρ, S, μ, er, r, (PostS.st er p).imp fun d S1 H1 μ1 s1 r1 q => ?_⟩
  obtain ⟨kk, ek, q⟩ := PostS.bl q
  refine ⟨kk, ek, ?_⟩
  have e1 := er.step s1.grow
  cases kk with
  | true => exact ⟨ρ, S1, μ1, e1, r1, q⟩
  | false => exact ⟨ρ, S1, μ1, e1, r1, q⟩
theorem ss_for (hX : XOk X cx ca fa fd flds free k) (hp : PassesOwn (model X.prog X.w) X.A X.env X.xe) (hi : SI X ca cx W tg iter it) (hg : SG X ca cx is tg t) (hb : SSs X ca cx W body b) (hs : ∀ x, foldedSetIterable iter X.env x = pure x) :
    SS X ca cx W (.For tg iter body [] pos) (.for_ t it b) := PS.imp (ps_for hp hX.calm hi hg hb hs) fun D σ H ⟨ρ, S, μ, er, r, p⟩ => by
  rw [evC] at p
  refine ⟨ρ, S, μ, er, r, (PostS.st er p).imp fun iv S1 H1 μ1 s1 r1 q1 J hJ => ?_⟩
  refine ⟨fun i m σ' H' => ∃ ρ' S' μ', Grow H1 μ1 H' μ' ∧ EnvR X.K H' μ' σ' ρ' ∧ SR X.K ca H' μ' S' ∧ PostS X.K ca W H' μ' D (loopF iv (fun d ρ S => (noExc (asT cx t d ρ S)).st ρ fun ρ' S => evCs cx b ρ' S) m i ρ' S'), ⟨cx.W, ρ, S1, μ1, Grow.refl _ _, er.step s1.grow, r1, q1⟩, ?_⟩
  rintro i m σ' H' ⟨ρ', S', μ', g', e', r', q⟩
  cases m with
  | zero => rw [loopF] at q; exact q.elim
  | succ m =>
    have hJ' := hJ i H' μ' S' g' r'
    rw [loopF] at q
    split at q
    · rename_i hn
      rw [hn] at hJ'
      exact .inl ⟨hJ', PostS.nx_ok e' r' q⟩
    · exact q.elim
    · rename_i d hn
      rw [hn] at hJ'
      obtain ⟨hgo, hy⟩ := hJ'
      refine .inr ⟨hgo, fun σ2 H2 => ∃ ρ2 S2 μ2, Grow H1 μ1 H2 μ2 ∧ EnvR X.K H2 μ2 σ2 ρ2 ∧ SR X.K ca H2 μ2 S2 ∧ PostS X.K ca W H2 μ2 D (loopF iv (fun d ρ S => (noExc (asT cx t d ρ S)).st ρ fun ρ' S => evCs cx b ρ' S) m (i + 1) ρ2 S2), ?_, ?_⟩
      · rintro σ2 H2 ⟨ρ2, S2, μ2, h⟩
        exact ⟨m, Nat.lt_succ_self m, ρ2, S2, μ2, h⟩
      · intro x H2 hyl
        obtain ⟨s2, r2, rx⟩ := hy x H2 hyl
        refine ⟨d, ρ', S', μ', rx, e'.step s2.grow, r2, ?_⟩
        cases ha : asT cx t d ρ' S' with
        | ok ρ3 S3 =>
          rw [ha] at q
          intro σ3 H3 μ3 s3 r3 e3 _
          refine ⟨ρ3, S3, μ3, e3, r3, PostS.body (kN := loopF iv (fun d ρ S => (noExc (asT cx t d ρ S)).st ρ fun ρ' S => evCs cx b ρ' S) m (i + 1)) (PostS.step (PostS.step (?_ : PostS X.K ca W H' μ' D _) s2) s3) fun ρ4 S4 σ4 H4 μ4 s4 r4 e4 q4 => ⟨ρ4, S4, μ4, g'.trans (s2.grow.trans (s3.grow.trans s4.grow)), e4, r4, q4⟩⟩
          have q' := q
          simp only [noExc, Out.st] at q'
          cases hb : evCs cx b ρ3 S3 <;> rw [hb] at q' <;> exact q'
        | exc x S3 => rw [ha] at q; exact q
        | bad => rw [ha] at q; exact q
theorem ss_whl (hp : PassesOwn (model X.prog X.w) X.A X.env X.xe) (hc : ST X ca cx W c ec) (hb : SSs X ca cx W body b) : SS X ca cx W (.While c body [] pos) (.whl ec b) := PS.imp (ps_while hp hc hb) fun D σ H ⟨ρ, S, μ, er, r, p⟩ => by
  rw [evC] at p
  refine ⟨fun m σ' H' => ∃ ρ' S' μ', EnvR X.K H' μ' σ' ρ' ∧ SR X.K ca H' μ' S' ∧ PostS X.K ca W H' μ' D (loopW (evE cx ec) (evCs cx b) m ρ' S'), ⟨cx.W, ρ, S, μ, er, r, p⟩, ?_⟩
  rintro m σ' H' ⟨ρ', S', μ', e', r', q⟩
  cases m with
  | zero => rw [loopW] at q; exact q.elim
  | succ m =>
    rw [loopW] at q
    refine ⟨ρ', S', μ', e', r', (PostS.st e' q).imp fun d S1 H1 μ1 s1 r1 q1 => ?_⟩
    obtain ⟨kk, ek, q1⟩ := PostS.bl q1
    refine ⟨kk, ek, ?_⟩
    have e1 := e'.step s1.grow
    cases kk with
    | false =>
      simp only [Bool.false_eq_true, if_false] at q1 ⊢
      exact PostS.nx_ok e1 r1 q1
    | true =>
      simp only [if_true] at q1 ⊢
      refine ⟨fun σ2 H2 => ∃ ρ2 S2 μ2, EnvR X.K H2 μ2 σ2 ρ2 ∧ SR X.K ca H2 μ2 S2 ∧ PostS X.K ca W H2 μ2 D (loopW (evE cx ec) (evCs cx b) m ρ2 S2), ?_, ?_⟩
      · rintro σ2 H2 ⟨ρ2, S2, μ2, h⟩
        exact ⟨m, Nat.lt_succ_self m, ρ2, S2, μ2, h⟩
      · refine ⟨ρ', S1, μ1, e1, r1, PostS.body (kN := loopW (evE cx ec) (evCs cx b) m) ?_ fun ρ4 S4 σ4 H4 μ4 s4 r4 e4 q4 => ⟨ρ4, S4, μ4, e4, r4, q4⟩⟩
        cases hb : evCs cx b ρ' S1 <;> rw [hb] at q1 <;> exact q1
end
end Pl

set_option Elab.async false
set_option linter.all false
set_option maxRecDepth 100000
set_option maxHeartbeats 4000000
/-! Pl16: raise, try. -/
namespace Pl
open PySem PySem.Spec PyProof.Rows L2

section
variable {ca : CA} {fa : Nat → Addr} {fd : Nat → FuncData} {flds free : List Str} {X : Cx} {cx : Ctx} {k : Nat} {W : WX} {e : Expr} {ee : E} {pos : Pos} {body : List Stmt} {b : Cs}
/-- raise C('text') -/
theorem ss_raise (hX : XOk X cx ca fa fd flds free k) (tk : Takes X W) {c : Nat} {ci : Ci} {m : Str} {j : Nat} {p p2 p3 : Pos} (hci : cx.tb.cls[c]? = some ci) (hce : ci.exc = true) (hcm : ci.meths = []) (hg : Gl X ci.name) (hdb : (ci.name == ("__debug__" : Str)) = false) :
    SS X ca cx W (.Raise (some (.Call (.Name ci.name p) [.Constant (.str m) j p2] [] p3)) none pos) (.raise c) := by
  have hec : cx.tb.exc c = true := by unfold Tb.exc; rw [hci]; exact hce
  obtain ⟨C, hC⟩ := hX.tbl.excA c hec
  obtain ⟨h1, h2, h3, h4⟩ := hX.tbl.exc c C ci hC hci hce hcm
  have gC := hX.tbl.cglo c C ci hC hci
  refine PS.imp (ps_raise hX.calm tk (pmk_own (bmB := He.veBase) F.excBase_ValueError h1 gC h2 (raises_own h3 h4) hg hdb)) fun D σ H ⟨ρ, S, μ, er, r, q⟩ => ?_
  rw [evC] at q
  exact q (.ref C) none σ H μ (Step.refl H μ) r er ⟨C, hC, rfl, fun f d hf => by cases hf⟩
/-! ### try -/
inductive SHs (X : Cx) (ca : CA) (cx : Ctx) : List ExceptHandler → Hs → List (Value × (Addr → Value → Option Addr → TS)) → Prop
  | nil : SHs X ca cx [] .nil []
  | cons {c : Nat} {ci : Ci} {C : Addr} {b : Cs} {hs : Hs} {b₀ : Stmt} {suite : List Stmt} {np pos' : Pos} {hds : List ExceptHandler} {l : List (Value × (Addr → Value → Option Addr → TS))} (hci : cx.tb.cls[c]? = some ci) (hce : cx.tb.exc c = true) (hC : ca c = some C) (hg : Gl X ci.name) (hdb : (ci.name == ("__debug__" : Str)) = false)
      (hsu : ∀ (a : Addr) (pn : List (Addr × Obj)), SSs (X.suite a pn) ca cx W0 (b₀ :: suite) b) (r : SHs X ca cx hds hs l) :
      SHs X ca cx (.ExceptHandler (some (.Name ci.name np)) none (b₀ :: suite) pos' :: hds) (.cons c b hs) ((.ref C, fun _ _ _ => tS X.K ca W0 (evCs cx b)) :: l)
theorem SHs.hds {hX : XOk X cx ca fa fd flds free k} {hs : Hs} {hds : List ExceptHandler} {l : List (Value × (Addr → Value → Option Addr → TS))} (h : SHs X ca cx hds hs l) : HdsOk X hds l := by
  induction h with
  | nil => exact .nil
  | cons hci hce hC hg hdb hsu r ih => exact .cons ⟨hg, hdb, .inl (hX.tbl.cglo _ _ _ hC hci)⟩ (fun a oe cls d pn _ _ => hsu a _) ih
theorem SHs.wish (hX : XOk X cx ca fa fd flds free k) {hs : Hs} {hds : List ExceptHandler} {l : List (Value × (Addr → Value → Option Addr → TS))} (h : SHs X ca cx hds hs l) : ∀ {D : Ends} {x : Exn} {ρ : Slots} {S : Store} {H : Hp} {μ : List Addr} {σ : L2.St} {cls : Value} {dd : Option Addr}, SR X.K ca H μ S → EnvR X.K H μ σ ρ → XRep X.K ca H μ x cls dd → PostS X.K ca W H μ D (evHs cx hs x ρ S) → wMany X.K W D l cls dd σ H := by
  induction h with
  | nil =>
    intro D x ρ S H μ σ cls dd r e xr p
    rw [evHs] at p
    exact p cls dd σ H μ (Step.refl H μ) r e xr
  | @cons c ci C b hs b₀ suite np pos' hds l hci hce hC hg hdb hsu rr ih =>
    intro D x ρ S H μ σ cls dd r e xr p
    rw [evHs] at p
    split at p
    · rename_i hx
      obtain ⟨A, hA, ecls, _⟩ := id xr
      subst ecls
      refine ⟨_, hX.tbl.exm x.cls c A C hA hC hx hce, fun hb a ha => ?_, fun hb => ?_⟩
      · rw [if_pos hb] at p
        refine ⟨ρ, S, μ, e, r, ?_⟩
        cases ho : evCs cx b ρ S with
        | exc y ρ' S' => rw [ho] at p; exact p.elim
        | nx _ _ => rw [ho] at p; exact p
        | rt _ _ => rw [ho] at p; exact p
        | bk _ _ => rw [ho] at p; exact p
        | ct _ _ => rw [ho] at p; exact p
        | bad => rw [ho] at p; exact p
      · rw [if_neg (by rw [hb]; exact Bool.false_ne_true)] at p
        exact ih r e xr p
    · exact p.elim
theorem ss_try (hX : XOk X cx ca fa fd flds free k) (hs : X.stack = X.env :: X.outer) (hf : X.env.frame = some X.env.locals) (tk : Takes X W) {hh : Hs} {h₀ : ExceptHandler} {hds : List ExceptHandler} {l : List (Value × (Addr → Value → Option Addr → TS))}
    (hb : ∀ (W' : WX) (pn : List (Addr × Obj)) (xe : Value → Shared → Prop), Takes (X.tr pn xe) W' → PassesOwn (model X.prog X.w) X.A X.env xe → SSs (X.tr pn xe) ca cx W' body b) (sh : SHs X ca cx (h₀ :: hds) hh l) :
    SS X ca cx W (.Try body (h₀ :: hds) [] [] pos) (.tryx b hh) := by
  refine PS.imp (ps_try_many (Wout := W) hs hf tk (tb := fun W' => tS X.K ca W' (evCs cx b)) hb (SHs.hds (hX := hX) sh)) fun D σ H ⟨ρ, S, μ, er, r, q⟩ => ⟨ρ, S, μ, er, r, ?_⟩
  rw [evC] at q
  cases ho : evCs cx b ρ S with
  | exc x ρ' S' =>
    rw [ho] at q
    intro cls dd σ' H' μ' s' r' e' xr
    exact SHs.wish hX sh r' e' xr (PostS.step q s')
  | nx _ _ => rw [ho] at q; exact q
  | rt _ _ => rw [ho] at q; exact q
  | bk _ _ => rw [ho] at q; exact q
  | ct _ _ => rw [ho] at q; exact q
  | bad => rw [ho] at q; exact q
end
end Pl

set_option Elab.async false
set_option linter.all false
set_option maxRecDepth 100000
set_option maxHeartbeats 4000000
/-! PlT: several except clauses, some of them with a name (after HandS.TryMany and HandS's ps_try_as). -/
namespace Pl
open PySem PySem.Spec PyProof.Rows L2
abbrev Cl3 : Type := Value × Option Nat × (Addr → Value → Option Addr → TS)
/-- the ends of a suite whose name at i goes behind it -/
def goneD (D : Ends) (i : Nat) : Ends := { nx := fun σ' H' => D.nx (σ'.set i none) H', rt := D.rt, bk := fun σ' H' => D.bk (σ'.set i none) H', ct := fun σ' H' => D.ct (σ'.set i none) H' }
def wMix (K : PySem.W.Frag) (Wout : WX) (D : Ends) : List Cl3 → WX
  | [] => Wout
  | (c, n, ts) :: r => fun cls d σ H => ∃ b, PySem.W.exmOne K cls c = some b ∧ (b = true → ∀ a, H a = none → match n with
      | none => ts a cls d D σ H
      | some i => ts a cls d (goneD D i) (σ.set i (some (.ref a))) H) ∧ (b = false → wMix K Wout D r cls d σ H)
inductive HdsMix (X : Cx) : List ExceptHandler → List Cl3 → Prop
  | nil : HdsMix X [] []
  | cons {x : Str} {c : Value} {ts : Addr → Value → Option Addr → TS} {b₀ : Stmt} {suite : List Stmt} {np pos' : Pos} {hds : List ExceptHandler} {l : List Cl3} (hc : Names X x c)
      (hsu : ∀ (a : Addr) (oe : Obj) (cls : Value) (d : Option Addr) (pn : List (Addr × Obj)), Zc cls d oe → (∃ vs, oe.data = .fields vs) → PSs (X.suite a ((a, oe) :: pn)) (b₀ :: suite) (ts a cls d)) (r : HdsMix X hds l) :
      HdsMix X (.ExceptHandler (some (.Name x np)) none (b₀ :: suite) pos' :: hds) ((c, none, ts) :: l)
  | named {x n : Str} {i : Nat} {c : Value} {ts : Addr → Value → Option Addr → TS} {b₀ : Stmt} {suite : List Stmt} {np pos' : Pos} {hds : List ExceptHandler} {l : List Cl3} (hi : X.N[i]? = some n) (hln : X.env.kindOf n = some .local) (hc : Names X x c)
      (hsu : ∀ (a : Addr) (oe : Obj) (cls : Value) (d : Option Addr) (pn : List (Addr × Obj)), Zc cls d oe → (∃ vs, oe.data = .fields vs) → PSs (X.suite a ((a, oe) :: pn)) (b₀ :: suite) (ts a cls d)) (r : HdsMix X hds l) :
      HdsMix X (.ExceptHandler (some (.Name x np)) (some n) (b₀ :: suite) pos' :: hds) ((c, some i, ts) :: l)
section
variable {X : Cx} {body : List Stmt} {h₀ : ExceptHandler} {hds : List ExceptHandler} {l : List Cl3} {pos : Pos} {tb : WX → TS} {Wout : WX}
theorem ps_try_mix (hs : X.stack = X.env :: X.outer) (hf : X.env.frame = some X.env.locals) (hN : X.N.Nodup) (tk : Takes X Wout)
    (hb : ∀ (W : WX) (pn : List (Addr × Obj)) (xe : Value → Shared → Prop), Takes (X.tr pn xe) W → PassesOwn (model X.prog X.w) X.A X.env xe → PSs (X.tr pn xe) body (tb W))
    (hh : HdsMix X (h₀ :: hds) l) : PS X (.Try body (h₀ :: hds) [] [] pos) (fun D σ H => tb (wMix X.K Wout D l) D σ H) := by
  refine ⟨fun pins s σ H D I h => ?_⟩
  have ok := I.ok
  have hfr : X.A.frames = some (X.env :: X.outer) := by rw [ok.frames, hs]
  refine wpAny_Try_except ?_
  refine wpAny_mono ((hb (wMix X.K Wout D l) (X.pn ++ pins) (fun e s₁ => wpAny (model X.prog X.w) X.A (noteFrame e X.env) (fun _ s₂ => wpAny (model X.prog X.w) X.A (setFlight e none) (fun _ s₃ =>
    wpAny (model X.prog X.w) X.A (handleBy e X.env (h₀ :: hds)) (SP X pins D) X.xe s₃) X.xe s₂) X.xe s₁) (fun u s' xx => ?_) PassesOwn.looking).run [] s σ H D (I.toTry _) h) (fun f s1 hsp => ?_) (fun e s1 he => he)
  · obtain ⟨a, B, sI, pins', σ', H', cls, d, rfl, J', nb, up, sky, na, os, ag, w⟩ := xx
    have J : Inv X pins σ' H' sI := J'.ofTry ok
    have sky' : Sky B (X.env :: X.outer) a (Zc cls d) X.env.locals s'.heap := by rw [← hs]; exact sky
    show wpAny (model X.prog X.w) X.A (noteFrame (.ref a) X.env) _ _ _
    refine Sky.land Zc.steady hfr hf sky' fun h3 fl3 up3 => ?_
    have J3 : Inv X pins σ' H' { s' with heap := h3 } := J.landed nb fl3.1 (up.trans up3) os ag
    obtain ⟨oe3, vs3, he3, hz3, hd3⟩ := fl3.there
    have notFr : ∀ {h : Heap} {o : Obj} {vs : Array Value}, h.FunFrames B (X.env :: X.outer) → h.get? a = some o → o.data = .fields vs → a ∉ frs (X.env :: X.outer) := fun {h o vs} ff e dd hm => by
      obtain ⟨_, o', e', hnf⟩ := ff.mem hm
      rw [e] at e'; cases e'
      exact hnf _ dd
    have nfr := notFr fl3.2.2.1 he3 hd3
    have nL : a ≠ X.env.locals := fun z => nfr (List.mem_filterMap.mpr ⟨X.env, List.mem_cons_self, by rw [hf, z]⟩)
    have nF : a ∉ X.fs := fun hm => by
      obtain ⟨e, he, q⟩ := List.mem_filterMap.mp hm
      exact nfr (List.mem_filterMap.mpr ⟨e, List.mem_cons_of_mem _ he, q⟩)
    have S3 := J3.suite he3 hd3 na nL nF
    have LT : PySem.W.Looks (model X.prog X.w) h3 (typeOf (.ref a)) cls := fun A Q E s k q => wpAny_typeOf_ref (k _ _ he3) (by rw [hz3.1]; exact q)
    have test : ∀ {x : Str} {c : Value} {np : Pos} {Q : Value → Shared → Prop} {E : Value → Shared → Prop}, Names X x c → Q c { s' with heap := h3 } → wpAny (model X.prog X.w) (X.A.mark (some (.ref a))) (eval (.Name x np) X.env) Q E { s' with heap := h3 } := fun {x c np Q E} hc q => by
      obtain ⟨hg, hdbg, hm | ⟨hm, hv, hnn⟩⟩ := hc
      · exact ld_glob (X := X.suite a ((a, oe3) :: (X.pn ++ pins))) S3 hg hm q hdbg
      · exact ld_blt (X := X.suite a ((a, oe3) :: (X.pn ++ pins))) S3 hg hm hv q hnn hdbg
    have go : ∀ {hds' : List ExceptHandler} {l' : List Cl3}, HdsMix X hds' l' → wMix X.K Wout D l' cls d σ' H' →
        wpAny (model X.prog X.w) X.A (handleBy (.ref a) X.env hds') (SP X pins D) X.xe { s' with heap := h3 } := by
      intro hds' l' hk
      induction hk with
      | nil =>
        intro w
        refine wpAny_handleBy_nil ?_
        obtain ⟨k1, k2, k3, oe, vs, T, oT, ts', he, hz, hd, h1, hr⟩ := id fl3
        unfold PySem.passOn
        refine wpAny_bind (wpAny_field he hd h1 ?_)
        rw [if_neg (show ¬ ((Value.ref T == Value.none) = true) from by simp)]
        have fin : wpAny (model X.prog X.w) X.A (setFlight (.ref a) X.env.frame) (fun _ s4 => wpAny (model X.prog X.w) X.A (throw (.ref a) : Sem Flow) (SP X pins D) X.xe s4) X.xe { s' with heap := h3 } := by
          rw [hf]
          refine HandSPX.setFlight_upZ fl3 fun h4 hh4 up4 => wpAny_throw (tk _ _ ?_)
          exact ⟨a, B, sI, pins, σ', H', cls, d, rfl, J, nb, (up.trans up3).trans up4, .inr (.inr (by rw [hs]; exact hh4)), na, os, ag, w⟩
        first
          | exact wpAny_bind (wpAny_pure (wpAny_bind fin))
          | exact wpAny_bind fin
      | @cons x c ts b₀ suite np pos' hds2 l2 hc hsu r ih =>
        intro w
        obtain ⟨b, hb1, hyes, hno⟩ := w
        have LM := PySem.W.exm_one (M := model X.prog X.w) (J3.kIn) LT hb1
        refine wpAny_handleBy_cons (codeAny_handlers_test ?_) (by intro q; cases q)
        refine test hc (LM.here ?_)
        cases b with
        | true =>
          refine codeAny_handlers_suite ?_
          refine HandSPX.lands_againZ fl3 fun h4 fl4 up4 => ?_
          have J4 : Inv X pins σ' H' { s' with heap := h4 } := J.landed nb fl4.1 ((up.trans up3).trans up4) os ag
          obtain ⟨oe4, vs4, he4, hz4, hd4⟩ := fl4.there
          have S4 := J4.suite he4 hd4 na nL nF
          refine wpAny_mono ((hsu a oe4 cls d (X.pn ++ pins) hz4 ⟨_, hd4⟩).run [] _ _ H' _ S4 (hyes rfl a na)) (fun f s6 hsp => ?_) (fun _ _ z => False.elim z)
          cases f with
          | next =>
            obtain ⟨σ6, H6, S6, q6⟩ := hsp
            exact ⟨_, _, S6.unsuite ok, q6⟩
          | brk =>
            obtain ⟨σ6, H6, S6, q6⟩ := hsp
            exact ⟨_, _, S6.unsuite ok, q6⟩
          | cont =>
            obtain ⟨σ6, H6, S6, q6⟩ := hsp
            exact ⟨_, _, S6.unsuite ok, q6⟩
          | ret u =>
            obtain ⟨v6, σ6, H6, S6, r6, q6⟩ := hsp
            exact ⟨_, _, _, S6.unsuite ok, r6, q6⟩
        | false =>
          show wpAny _ X.A (handleBy (.ref a) X.env hds2) _ _ _
          exact ih (hno rfl)
      | @named x n i c ts b₀ suite np pos' hds2 l2 hi hln hc hsu r ih =>
        intro w
        obtain ⟨b, hb1, hyes, hno⟩ := w
        have hloc : Loc X.env.scope n := .inl hln
        have LM := PySem.W.exm_one (M := model X.prog X.w) (J3.kIn) LT hb1
        refine wpAny_handleBy_cons (codeAny_handlers_test ?_) (by intro q; cases q)
        refine test hc (LM.here ?_)
        cases b with
        | true =>
          refine codeAny_handlers_suite_as ?_
          refine HandSPX.lands_againZ fl3 fun h4 fl4 up4 => ?_
          have J4 : Inv X pins σ' H' { s' with heap := h4 } := J.landed nb fl4.1 ((up.trans up3).trans up4) os ag
          obtain ⟨oe4, vs4, he4, hz4, hd4⟩ := fl4.there
          have S4 := J4.suite he4 hd4 na nL nF
          refine store_ok (X := X.suite a ((a, oe4) :: (X.pn ++ pins))) (v := .ref a) S4 hN hi hloc rfl (fun s5 S5 => ?_) (.inr hln)
          refine wpAny_mono ((hsu a oe4 cls d (X.pn ++ pins) hz4 ⟨_, hd4⟩).run [] s5 _ H' _ S5 (hyes rfl a na)) (fun f s6 hsp => ?_) (fun _ _ z => False.elim z)
          have end_ : ∀ {σ6 : L2.St} {H6 : Hp} {Q : Shared → Prop}, Inv (X.suite a ((a, oe4) :: (X.pn ++ pins))) [] σ6 H6 s6 → (∀ s7, Inv X pins (σ6.set i none) H6 s7 → Q s7) →
              wpAny (model X.prog X.w) X.A (do bindName X.env n .none; unbindBehindTheSuite X.env n pos') (fun _ s7 => Q s7) X.xe s6 := fun {σ6 H6 Q} S6 hq => gone_ok (S6.unsuite ok) hN hi hln hq
          cases f with
          | next =>
            obtain ⟨σ6, H6, S6, q6⟩ := hsp
            exact end_ S6 fun s7 J7 => ⟨_, _, J7, q6⟩
          | brk =>
            obtain ⟨σ6, H6, S6, q6⟩ := hsp
            exact end_ S6 fun s7 J7 => ⟨_, _, J7, q6⟩
          | cont =>
            obtain ⟨σ6, H6, S6, q6⟩ := hsp
            exact end_ S6 fun s7 J7 => ⟨_, _, J7, q6⟩
          | ret u =>
            obtain ⟨v6, σ6, H6, S6, r6, q6⟩ := hsp
            exact end_ S6 fun s7 J7 => ⟨_, _, _, J7, r6, q6⟩
        | false =>
          show wpAny _ X.A (handleBy (.ref a) X.env hds2) _ _ _
          exact ih (hno rfl)
    exact go hh w
  · cases f with
    | next =>
      obtain ⟨σ', H', J', q⟩ := hsp
      exact wpAny_execs_nil ⟨σ', H', J'.ofTry ok, q⟩
    | brk =>
      obtain ⟨σ', H', J', q⟩ := hsp
      exact ⟨σ', H', J'.ofTry ok, q⟩
    | cont =>
      obtain ⟨σ', H', J', q⟩ := hsp
      exact ⟨σ', H', J'.ofTry ok, q⟩
    | ret u =>
      obtain ⟨v, σ', H', J', r, q⟩ := hsp
      exact ⟨v, σ', H', J'.ofTry ok, r, q⟩
end
end Pl

set_option Elab.async false
set_option linter.all false
set_option maxRecDepth 100000
set_option maxHeartbeats 4000000
/-! PlL: f(lambda: e), where f tells what e raises (after HandS.Lambda). -/
namespace Pl
open PySem PySem.Spec PyProof.Rows L2
/-- the step of what keeps all but tables -/
theorem step_extN {H H1 : Hp} (μ : List Addr) (e : LamX.ExtN H H1) : Step H μ H1 μ :=
  ⟨⟨[], by simp, by simp⟩, fun a xs h => e _ _ h (fun ps z => by cases z), fun a o u h => e _ _ h (fun ps z => by cases z), fun a u h _ n => e _ _ h n, fun a u h n => ⟨u, e _ _ h n, n⟩⟩
theorem SR.extN {K : PySem.W.Frag} {ca : CA} {H H1 : Hp} {μ : List Addr} {S : Store} (r : SR K ca H μ S) (e : LamX.ExtN H H1) (t : LamX.Tabs ca.tabs H1) : SR K ca H1 μ S := by
  refine ⟨r.len, r.nd, fun i o h => ?_, t⟩
  obtain ⟨a, q1, q2⟩ := r.obj i o h
  refine ⟨a, q1, q2.step (step_extN μ e).grow ?_⟩
  rcases r.kind (List.mem_of_getElem? q1) with ⟨vs, z⟩ | ⟨_, _, _, z⟩
  · rw [z]; exact e _ _ z fun ps y => by cases y
  · rw [z]; exact e _ _ z fun ps y => by cases y
/-- an except clause of such a def: its class, its text, the name's place and the field -/
structure Hd where
  C : Addr
  m : Str
  fo : Option (Nat × Str)
def tsN (m : Str) (j : Nat) : TS := fun D σ H => ∀ T, H T = none → D.nx (σ.set j (some (.ref T))) (upd H T (.tup [.str m, .non]))
def tsF (m : Str) (j i : Nat) (f : Str) (a : Addr) (cls : Value) (d : Option Addr) (C : Addr) : TS := fun D σ H =>
  σ[i]? = some (some (.ref a)) ∧ cls = .ref C ∧ ∃ (dd : Addr) (fs : List (Str × V)) (v : V), d = some dd ∧ H dd = some (.xd fs) ∧ fs.lookup f = some v ∧ ∀ T, H T = none → D.nx (σ.set j (some (.ref T))) (upd H T (.tup [.str m, v]))
def Hd.ts (h : Hd) (j : Nat) : Addr → Value → Option Addr → TS := fun a cls d => match h.fo with
  | none => tsN h.m j
  | some (i, f) => tsF h.m j i f a cls d h.C
def Hd.cl (h : Hd) (j : Nat) : Cl3 := (.ref h.C, h.fo.map (·.1), h.ts j)
section
variable {Y : Cx} {j i : Nat} {x n f m : Str} {p p1 p2 p3 pos : Pos} {i1 i2 i3 : Nat}
theorem ps_setN (hN : Y.N.Nodup) (hi : Y.N[j]? = some x) (hx : Y.env.scope.names.lookup x = some .local) : PS Y (.Assign [.Name x p] (.Tuple [.Constant (.str m) i1 p1, .Constant .none i2 p2] i3 p3) pos) (tsN m j) :=
  PS.imp (ps_asg (pe_tup (pa_cons pe_str (pa_cons pe_non pa_nil))) (pg_name hN hi (.inl hx) (.inr hx))) fun D σ H h => ⟨by rw [sizeLine_eq]; exact Nat.le_of_ble_eq_true rfl, fun T hT => h T hT⟩
theorem ps_setF {a C : Addr} {oe : Obj} {cls : Value} {d : Option Addr} {pn : List (Addr × Obj)} {p4 : Pos} (hN : Y.N.Nodup) (hi : Y.N[j]? = some x) (hx : Y.env.scope.names.lookup x = some .local) (hn : Y.N[i]? = some n) (hnl : Y.env.scope.names.lookup n = some .local) (hd : (n == ("__debug__" : Str)) = false) (hcd : (n == ("__classdict__" : Str)) = false)
    (T : XfC Y.K C) (hno : PySem.W.findIn Y.K (.ref C) f = some none) (hz : Zc cls d oe) (hf : ∃ vs, oe.data = .fields vs) :
    PS (Y.suite a ((a, oe) :: pn)) (.Assign [.Name x p] (.Tuple [.Constant (.str m) i1 p1, .Attribute (.Name n p2) f p3] i3 p4) pos) (tsF m j i f a cls d C) :=
  PS.imp (ps_asg (pe_tup (pa_cons pe_str (pa_cons (pe_xf T hno hz hf (pe_var (X := Y.suite a ((a, oe) :: pn)) (i := i) hn (.inl hnl) hd hcd)) pa_nil))) (pg_name (X := Y.suite a ((a, oe) :: pn)) hN hi (.inl hx) (.inr hx))) fun D σ H h => by
    obtain ⟨h1, h2, dd, fs, v, h3, h4, h5, h6⟩ := h
    exact ⟨.ref a, h1, rfl, h2, dd, fs, v, h3, h4, h5, by rw [sizeLine_eq]; exact Nat.le_of_ble_eq_true rfl, fun T hT => h6 T hT⟩
end
/-- the clauses stand -/
inductive HdOk (Z : Cx) (j : Nat) (x : Str) : List ExceptHandler → List Hd → Prop
  | nil : HdOk Z j x [] []
  | plain {c m : Str} {C : Addr} {np p p1 p2 p3 pos pos' : Pos} {i1 i2 i3 : Nat} {hds : List ExceptHandler} {l : List Hd} (hc : Names Z c (.ref C)) (r : HdOk Z j x hds l) :
      HdOk Z j x (.ExceptHandler (some (.Name c np)) none [.Assign [.Name x p] (.Tuple [.Constant (.str m) i1 p1, .Constant .none i2 p2] i3 p3) pos] pos' :: hds) (⟨C, m, none⟩ :: l)
  | named {c m n f : Str} {i : Nat} {C : Addr} {np p p1 p2 p3 p4 pos pos' : Pos} {i1 i3 : Nat} {hds : List ExceptHandler} {l : List Hd} (hc : Names Z c (.ref C)) (hn : Z.N[i]? = some n) (hij : i ≠ j) (hnl : Z.env.scope.names.lookup n = some .local) (hd : (n == ("__debug__" : Str)) = false) (hcd : (n == ("__classdict__" : Str)) = false)
      (T : XfC Z.K C) (hno : PySem.W.findIn Z.K (.ref C) f = some none) (r : HdOk Z j x hds l) :
      HdOk Z j x (.ExceptHandler (some (.Name c np)) (some n) [.Assign [.Name x p] (.Tuple [.Constant (.str m) i1 p1, .Attribute (.Name n p2) f p3] i3 p4) pos] pos' :: hds) (⟨C, m, some (i, f)⟩ :: l)
theorem HdOk.mix {Z : Cx} {j : Nat} {x : Str} (hN : Z.N.Nodup) (hi : Z.N[j]? = some x) (hx : Z.env.scope.names.lookup x = some .local) : ∀ {hds : List ExceptHandler} {l : List Hd}, HdOk Z j x hds l → HdsMix Z hds (l.map (Hd.cl · j)) := by
  intro hds l h
  induction h with
  | nil => exact .nil
  | plain hc r ih => exact .cons hc (fun a oe cls d pn _ _ => pss_one (ps_setN (Y := Z.suite a ((a, oe) :: pn)) hN hi hx)) ih
  | named hc hn hij hnl hd hcd T hno r ih => exact .named hn hnl hc (fun a oe cls d pn hz hf => pss_one (ps_setF hN hi hx hn hnl hd hcd T hno hz hf)) ih
/-- the body of such a def, act its reading -/
theorem pss_told {Z : Cx} {j ia : Nat} {x act : Str} {hds : List ExceptHandler} {h₀ : ExceptHandler} {l : List Hd} {p p1 p2 p3 p4 p5 p6 p7 pos1 pos2 pos3 : Pos} {i1 i2 i3 : Nat} {m0 : Str} {tA : WX → TE} (hs : Z.stack = Z.env :: Z.outer) (hf : Z.env.frame = some Z.env.locals) (hN : Z.N.Nodup) (hi : Z.N[j]? = some x) (hx : Z.env.scope.names.lookup x = some .local) (hxd : (x == ("__debug__" : Str)) = false) (hxc : (x == ("__classdict__" : Str)) = false)
    (hact : ∀ (W : WX) (pn : List (Addr × Obj)) (xe : Value → Shared → Prop), Takes (Z.tr pn xe) W → PE (Z.tr pn xe) (.Call (.Name act p4) [] [] p5) (tA W)) (hh : HdOk Z j x (h₀ :: hds) l) :
    PSs Z [.Assign [.Name x p] (.Tuple [.Constant (.str m0) i1 p1, .Constant .none i2 p2] i3 p3) pos1, .Try [.Expr (.Call (.Name act p4) [] [] p5) p6] (h₀ :: hds) [] [] pos2, .Return (some (.Name x p7)) pos3]
      (fun D σ H => ∀ T, H T = none → tA (wMix Z.K (fun _ _ _ _ => False) { D with nx := fun σ' H' => ∃ v, σ'[j]? = some (some v) ∧ D.rt v H' } (l.map (Hd.cl · j))) (σ.set j (some (.ref T))) (upd H T (.tup [.str m0, .non])) fun _ H' => ∃ v, (σ.set j (some (.ref T)))[j]? = some (some v) ∧ D.rt v H') :=
  PSs.imp (pss_cons (ps_setN hN hi hx) (pss_cons (ps_try_mix (Wout := fun _ _ _ _ => False) (tb := fun W => tDrop (tA W)) hs hf hN takes_none5 (fun W pn xe tk _ => pss_one (ps_expr (hact W pn xe tk))) (hh.mix hN hi hx)) (pss_one (ps_ret (pe_var hi (.inl hx) hxd hxc))))) fun D σ H h => fun T hT => h T hT
end Pl

set_option Elab.async false
set_option linter.all false
set_option maxRecDepth 100000
set_option maxHeartbeats 4000000
/-! PlL2: .. the rule. -/
namespace Pl
open PySem PySem.Spec PyProof.Rows L2
section
variable {X : Cx} {ca : CA} {pins : List (Addr × Obj)} {σ : L2.St} {H : Hp} {s : Shared}
/-- what the reading of act() is, in the def that got the lambda -/
def actT (K : PySem.W.Frag) (ca : CA) (σ : L2.St) (ia : Nat) (f c' : Addr) (q : Str) (mm : Slots → Store → Out D) : WX → TE := fun W σZ HZ Q =>
  σZ[ia]? = some (some (.ref f)) ∧ HZ c' = some (LamX.CodeO c' q) ∧ tE K ca (fun cls d _ H' => W cls d σZ H') mm σ HZ Q
/-- act(), in the def that got the lambda; Z is that def's context, entered at s -/
theorem pe_actG {Eg : XK} {Ng : List Str} {qg : Str} {sg : Scope} {g f c' : Addr} {cdg pm ctv : Value} {params : Arguments} {body : Expr} {scope : Scope} {k i : Nat} {a : Str} {pn : List (Addr × Obj)} {xe : Value → Shared → Prop} {W : WX} {p1 p2 : Pos} {mm : Slots → Store → Out D}
    (I : Inv X pins σ H s) (L : LamX.LamS X.env.scope scope) (hf : s.heap.get? f = some (PySem.W.kla_obj "<lambda>" (X.env.qual ++ "<lambda>") params body scope (cloFrom X.env.cells scope.names []) pm c' ctv)) (hfn : H f = none) (hfr : f ∉ frs X.stack)
    (hbind : bindArgs (PySem.W.kla_fn "<lambda>" (X.env.qual ++ "<lambda>") params body scope (cloFrom X.env.cells scope.names []) pm (.ref c') ctv) ⟨[], []⟩ = pure [])
    (tk : Takes ((cxOf (L2.CX X.prog X.w) X.prog X.w X.K X.mg X.base Ng qg sg g cdg X.A X.stack s H Eg).tr pn xe) W) (hr : Room (k + 1) (X.A.deeper (envOfC qg sg s.heap.objs.size g cdg))) (hg : X.A.guards = some [])
    (hbody : ∀ (A : Around) (outer : List Env) (s : Shared) (H : Hp) (E : XK), Room k (A.deeper (LamX.lamEnv X scope s.heap.objs.size f c')) → A.guards = some [] → PE (LamX.lamCx X A outer s H E scope f c') body (tE X.K ca (fun cls d _ H' => E cls d H') mm))
    (hN : Ng[i]? = some a) (hv : Vis sg a) (hd : (a == ("__debug__" : Str)) = false) (hcd : (a == ("__classdict__" : Str)) = false) :
    PE ((cxOf (L2.CX X.prog X.w) X.prog X.w X.K X.mg X.base Ng qg sg g cdg X.A X.stack s H Eg).tr pn xe) (.Call (.Name a p1) [] [] p2) (actT X.K ca σ i f c' (X.env.qual ++ "<lambda>") mm W) := by
  refine ⟨fun pinsZ sZ σZ HZ Q IZ h => ?_⟩
  obtain ⟨hs, hc, ht⟩ := h
  refine wpAny_Call_Name_kw (thn ((pe_var (pos := p1) (i := i) hN hv hd hcd).run pinsZ sZ σZ HZ (fun v H1 => v = .ref f ∧ H1 = HZ) IZ ⟨.ref f, hs, rfl, rfl⟩) fun u s1 ⟨v, H1, I1, r1, q1⟩ => ?_)
  obtain ⟨ev, eH⟩ := q1
  subst ev
  rw [eH] at I1
  obtain rfl : u = Value.ref f := r1
  have of1 : s1.heap.get? f = some (PySem.W.kla_obj "<lambda>" (X.env.qual ++ "<lambda>") params body scope (cloFrom X.env.cells scope.names []) pm c' ctv) := I1.base.keep f _ hf hfn hfr (fun z => nomatch (show f ∈ ([] : List Addr) from z))
  refine PySem.W.callWith_F0 ⟨_, _, _, _, of1⟩ ?_
  have un : Un (frs X.stack) [] H HZ s.heap s1.heap := I1.base
  obtain ⟨⟨oc, vs, t, hoc, hdc, hvc⟩, _, _⟩ := I1.hok c' _ hc
  have hgz : (X.A.deeper (envOfC qg sg s.heap.objs.size g cdg)).guards = some [] := by
    first | exact hg | (simpa [Around.deeper, Around.under, Code.isGuard, guardIds] using hg)
  have rc : codeAny (model X.prog X.w) (X.A.deeper (envOfC qg sg s.heap.objs.size g cdg)) (.call (.ref f) ⟨[], []⟩) (CR (L2.CX X.prog X.w) (envOfC qg sg s.heap.objs.size g cdg :: X.stack) X.prog X.w HZ s1 Q (fun cls d H' => W cls d σZ H')) s1 := by
    refine PySem.W.kla_callFunE hr.depth of1 rfl L.co L.gen rfl ⟨c', oc, vs, t, rfl, hoc, hdc, hvc⟩ ?_
    rw [hbind]
    refine wpAny_pure (wpAny_newFunctionEnv (fun y hy => (L.own y hy).2) (fun y hy => absurd hy (by simp)) (fun h₁ hns hsb => ⟨I1.nolimit.fresh _ hsb, ?_⟩) L.kind)
    show codeAny _ _ (.expr body (LamX.lamEnv X scope s1.heap.objs.size f c')) _ _
    have kp : ∀ b o, s1.heap.get? b = some o → h₁.get? b = some o := fun b o e => hsb.extBut b o (Nat.ne_of_lt (Heap.lt_size e)) (Heap.get?_push_of_some _ e)
    have J : Inv (LamX.lamCx X (X.A.deeper (envOfC qg sg s.heap.objs.size g cdg)) (envOfC qg sg s.heap.objs.size g cdg :: X.stack) s1 HZ (fun cls d H' => W cls d σZ H') scope f c') [] σ HZ { s1 with heap := h₁, toks := s1.toks + ([] : List (Str × Value)).length } :=
      LamX.lam_start2 I L I1.env0 hr.hd un hns kp
    refine PySem.W.kla_codeExpr (wpAny_mono ((hbody _ _ s1 HZ (fun cls d H' => W cls d σZ H') (hr.deeper _) hgz).run [] _ _ HZ Q J ht) (fun v s' hq => ?_) fun e s' hq => hq)
    obtain ⟨w', H', J', rv, q⟩ := hq
    exact ⟨w', H', J'.os, J'.bare, J'.base, J'.hok, rv, q⟩
  refine wpAny_call (codeAny_mono rc fun r s' hq => ?_)
  cases r with
  | error e => exact tk e s' (XE.of_call I1 (fun cls d H' h => h) hq)
  | ok fl =>
    cases fl with
    | ret u => exact I1.after hq
    | next => exact False.elim hq
    | brk => exact False.elim hq
    | cont => exact False.elim hq
end
/-- the clauses, as the language has them -/
inductive HdC (ca : CA) (tb : Tb) (K : PySem.W.Frag) : List (Nat × Str × Option Str) → List Hd → Prop
  | nil : HdC ca tb K [] []
  | plain {c : Nat} {C : Addr} {m : Str} {hs : List (Nat × Str × Option Str)} {l : List Hd} (hC : ca c = some C) (hx : tb.exc c = true) (r : HdC ca tb K hs l) : HdC ca tb K ((c, m, none) :: hs) (⟨C, m, none⟩ :: l)
  | named {c i : Nat} {C : Addr} {m f : Str} {hs : List (Nat × Str × Option Str)} {l : List Hd} (hC : ca c = some C) (hx : tb.exc c = true) (r : HdC ca tb K hs l) : HdC ca tb K ((c, m, some f) :: hs) (⟨C, m, some (i, f)⟩ :: l)
theorem told_wish {K : PySem.W.Frag} {mg : Str → Option Value} {tb : Tb} {ca : CA} {fa : Nat → Addr} {fd : Nat → FuncData} {flds free : List Str} (T : Tbl K mg tb ca fa fd flds free) {W : WX} {σ0 : L2.St} {Q : VK} {j : Nat} {σ1 : L2.St} (hj : j < σ1.length) {D' : Ends} (hD : ∀ σ' H' v, σ'[j]? = some (some v) → Q v H' → D'.nx σ' H') {x : Exn} {S : Store} :
    ∀ {hs : List (Nat × Str × Option Str)} {l : List Hd}, HdC ca tb K hs l → (∀ h ∈ l, ∀ i f, h.fo = some (i, f) → i ≠ j ∧ i < σ1.length) → ∀ {H : Hp} {μ : List Addr} {cls : Value} {dd : Option Addr}, SR K ca H μ S → XRep K ca H μ x cls dd →
      Post K ca W σ0 H μ (QV K Q) (tellX tb hs x S) → wMix K (fun _ _ _ _ => False) D' (l.map (Hd.cl · j)) cls dd σ1 H := by
  intro hs l h
  induction h with
  | nil => intro _ H μ cls dd r xr p; exact p.elim
  | @plain c C m hs l hC hx rr ih =>
    intro hl H μ cls dd r xr p
    unfold tellX at p
    split at p
    · rename_i hxx
      obtain ⟨A, hA, ecls, _⟩ := id xr
      subst ecls
      refine ⟨_, T.exm x.cls c A C hA hC hxx hx, fun hb a ha => ?_, fun hb => ?_⟩
      · rw [if_pos hb] at p
        intro T1 hT1
        refine hD _ _ (.ref T1) (List.getElem?_set_self hj) ?_
        exact p _ μ (Step.new μ hT1) (r.new hT1) (.ref T1) (by
          unfold Rep
          exact ⟨T1, [.str m, .non], rfl, .inl (.inl upd_same), Reps.cons (by unfold Rep; rfl) (Reps.cons (by unfold Rep; rfl) Reps.nil)⟩)
      · rw [if_neg (by rw [hb]; exact Bool.false_ne_true)] at p
        exact ih (fun h hh => hl h (List.mem_cons_of_mem _ hh)) r xr p
    · exact p.elim
  | @named c i C m f hs l hC hx rr ih =>
    intro hl H μ cls dd r xr p
    obtain ⟨hne, hil⟩ := hl _ List.mem_cons_self i f rfl
    unfold tellX at p
    split at p
    · rename_i hxx
      obtain ⟨A, hA, ecls, hfld⟩ := id xr
      subst ecls
      refine ⟨_, T.exm x.cls c A C hA hC hxx hx, fun hb a ha => ?_, fun hb => ?_⟩
      · rw [if_pos hb] at p
        simp only at p
        split at p
        · rename_i g d hg
          split at p
          · rename_i hgf
            obtain ⟨e1, e2⟩ := hgf
            subst e1
            rw [e2] at hA
            rw [hA] at hC
            cases hC
            obtain ⟨dx, v, q1, q2, q3⟩ := hfld _ _ hg
            refine ⟨List.getElem?_set_self hil, rfl, dx, _, v, q1, q2, by simp [List.lookup], fun T1 hT1 => ?_⟩
            refine hD _ _ (.ref T1) ?_ ?_
            · rw [List.getElem?_set_ne hne, List.getElem?_set_self (by simpa using hj)]
            · exact p _ μ (Step.new μ hT1) (r.new hT1) (.ref T1) (by
                unfold Rep
                exact ⟨T1, [.str m, v], rfl, .inl (.inl upd_same), Reps.cons (by unfold Rep; rfl) (Reps.cons (Rep.step (Step.new (o := .tup [.str m, v]) μ hT1).grow _ _ q3) Reps.nil)⟩)
          · exact p.elim
        · exact p.elim
      · rw [if_neg (by rw [hb]; exact Bool.false_ne_true)] at p
        exact ih (fun h hh => hl h (List.mem_cons_of_mem _ hh)) r xr p
    · exact p.elim
end Pl

set_option Elab.async false
set_option linter.all false
set_option maxRecDepth 100000
set_option maxHeartbeats 4000000
/-! PlL3: x(lambda: e), x telling what e raises. -/
namespace Pl
open PySem PySem.Spec PyProof.Rows L2
/-- a def that tells what its argument raises -/
structure TellW (K : PySem.W.Frag) (mg : Str → Option Value) (tb : Tb) (ca : CA) (fa : Nat → Addr) (fd : Nat → FuncData) (x : Str) (hs : List (Nat × Str × Option Str)) : Prop where
  ex : ∃ (i : Nat) (act xv : Str) (q : Str) (args : Arguments) (body : List Stmt) (sg : Scope) (N : List Str) (j : Nat) (h₀ : ExceptHandler) (hds : List ExceptHandler) (l : List Hd) (p p1 p2 p3 p4 p5 p6 p7 pos1 pos2 pos3 : Pos) (i1 i2 i3 : Nat),
    mg x = some (.ref (fa i)) ∧ FunD K x q args body sg [] [] (fa i) (fd i) ∧ FnScope N [act] sg ∧
    body = [.Assign [.Name xv p] (.Tuple [.Constant (.str "none") i1 p1, .Constant .none i2 p2] i3 p3) pos1, .Try [.Expr (.Call (.Name act p4) [] [] p5) p6] (h₀ :: hds) [] [] pos2, .Return (some (.Name xv p7)) pos3] ∧
    (∀ Z : Cx, Z.N = N → Z.env.scope = sg → Z.K = K → Z.mg = mg → HdOk Z j xv (h₀ :: hds) l) ∧ HdC ca tb K hs l ∧ (∀ h ∈ l, ∀ i f, h.fo = some (i, f) → i ≠ j ∧ i < N.length) ∧
    N[j]? = some xv ∧ j ≠ 0 ∧ sg.names.lookup xv = some .local ∧ (xv == ("__debug__" : Str)) = false ∧ (xv == ("__classdict__" : Str)) = false ∧ N[0]? = some act ∧ N.Nodup ∧ Vis sg act ∧ (act == ("__debug__" : Str)) = false ∧ (act == ("__classdict__" : Str)) = false ∧
    ∀ (s : Shared) (u : Value), BindsTo s (fd i) ⟨[u], []⟩ [(act, u)]
section
variable {tb : Tb} {ca : CA} {fa : Nat → Addr} {fd : Nat → FuncData} {flds free : List Str} {X : Cx} {cx : Ctx} {W : WX}
theorem se_told {hs : List (Nat × Str × Option Str)} {x : Str} {c P : Addr} {params : Arguments} {body : Expr} {scope : Scope} {e : E} {j : Nat} {p lpos pos : Pos}
    (T0 : Tbl X.K X.mg cx.tb ca fa fd flds free) (TW : TellW X.K X.mg cx.tb ca fa fd x hs) (hg : Gl X x) (hdb : (x == ("__debug__" : Str)) = false) (hG : X.A.guards = some [])
    (TB : LamX.TabB X.base X.mg c P) (hcode : X.env.code = .ref c) (hmT : (P, X.env.qual ++ "<lambda>") ∈ ca.tabs) (hu : ∀ p ∈ ca.tabs, p.1 = P → p.2 = X.env.qual ++ "<lambda>") (hr : Room (j + 2) X.A) (L : LamX.LamS X.env.scope scope) (hdef : defaultsOf params X.env = ([], []))
    (hbind : ∀ (q : Str) (cl : List (Str × Addr)) (pm cv ctv : Value), bindArgs (PySem.W.kla_fn "<lambda>" q params body scope cl pm cv ctv) ⟨[], []⟩ = pure [])
    (hbody : ∀ (A : Around) (outer : List Env) (s : Shared) (H : Hp) (E : XK) (f c' : Addr), Room j (A.deeper (LamX.lamEnv X scope s.heap.objs.size f c')) → A.guards = some [] → PE (LamX.lamCx X A outer s H E scope f c') body (tE X.K ca (fun cls d _ H' => E cls d H') (cx.lam e))) :
    SE X ca cx W (.Call (.Name x p) [.Lambda params body scope lpos] [] pos) (.told e hs) := by
  obtain ⟨gi, act, xv, q, args, gbody, sg, N, jx, h₀, hds, l, p', p1, p2, p3, p4, p5, p6, p7, pos1, pos2, pos3, i1, i2, i3, hm, FD, Sg, eb, hHd, hC, hl, hNj, hj0, hxv, hxd, hxc, hN0, hnd, hva, had, hac, hbd⟩ := TW.ex
  obtain ⟨oc, od, dV, kV, doc, pm, an, cdv, ct, osl, efd, lk, hcd, _, _⟩ := FD.ex
  subst eb
  refine ⟨fun pins s σ H Q I h => ?_⟩
  obtain ⟨ρ, S, μ, er, sr, pp⟩ := h
  rw [evE] at pp
  refine wpAny_Call_Name_kw (ld_glob I hg hm ?_ hdb)
  refine PySem.W.callWith_K (h₀ := X.base) I.ok.mod.kin FD.kp ?_ (by rfl) (by rfl)
  show wpAny _ _ (spliced ((false, eval (.Lambda params body scope lpos) X.env) :: backTo pos (starEach [] X.env))) _ _ s
  refine Calls.spliced_cons (LamX.lam_make2 I TB hcode hmT hu sr.tab hdef (L.has I.ok) fun f c' pm' ctv H1 s' I1 eN T1 hf hfn hfr hco => ?_)
  refine Calls.spliced_nil ⟨I1.kIn, ?_⟩
  have st1 := step_extN μ eN
  have sr1 : SR X.K ca H1 μ S := sr.extN eN T1
  have er1 := er.step st1.grow
  have p1' := Post.step pp st1
  rw [efd] at lk hbd
  have rc : codeAny (model X.prog X.w) X.A (.call (.ref (fa gi)) ⟨[.ref f], []⟩) (CR (L2.CX X.prog X.w) X.stack X.prog X.w H1 s' Q (fun _ _ _ => False)) s' := by
    refine LamX.run_ofS (N := N) (ps := [act]) (us := [.ref f]) (vs := [.ref f]) lk hcd Sg hr I1.env0 (hbd s' (.ref f)) (.cons rfl .nil) rfl fun hr' => ?_
    refine ⟨_, pss_told (ia := 0) (tA := actT X.K ca σ 0 f c' (X.env.qual ++ "<lambda>") (cx.lam e)) rfl rfl hnd hNj hxv hxd hxc (fun W pn xe tk => pe_actG (i := 0) I1 L hf hfn hfr (hbind _ _ _ _ _) tk hr' hG (fun A outer s H E hr2 hg2 => hbody A outer s H E f c' hr2 hg2) hN0 hva had hac) (hHd _ rfl rfl rfl rfl), ?_⟩
    intro T hT
    have st2 : Step H1 μ (upd H1 T (.tup [.str "none", .non])) μ := Step.new μ hT
    have hT2 : ∀ b u, H1 b = some u → b ≠ T := fun b u e z => by rw [z, hT] at e; cases e
    have lj : jx < N.length := (List.getElem?_eq_some_iff.mp hNj).1
    have l0 : (L2.start N [V.ref f]).length = N.length := by
      unfold L2.start
      have : 0 < N.length := (List.getElem?_eq_some_iff.mp hN0).1
      simp
      omega
    have s0 : (L2.start N [V.ref f])[0]? = some (some (V.ref f)) := by
      unfold L2.start
      simp
    refine ⟨by rw [List.getElem?_set_ne hj0]; exact s0, by rw [upd_ne (hT2 _ _ hco)]; exact hco, ρ, S, μ, er1.step st2.grow, sr1.new hT, ?_⟩
    have p2' := Post.step p1' st2
    cases ho : cx.lam e ρ S with
    | bad => rw [ho] at p2'; exact p2'.elim
    | ok d S' =>
      rw [ho] at p2'
      intro H' μ' st sr' v rv
      refine ⟨.ref T, List.getElem?_set_self (by rw [l0]; exact lj), ?_⟩
      exact p2' H' μ' st sr' (.ref T) (rep_tup.mpr ⟨T, [.str "none", .non], rfl, .inl (.inl (st.tup _ _ upd_same)), Reps.cons (rep_str.mpr rfl) (Reps.cons (rep_non.mpr rfl) Reps.nil)⟩)
    | exc xx S' =>
      rw [ho] at p2'
      intro cls dd H' μ' st sr' xr
      have p3' : Post X.K ca W σ H' μ' (QV X.K Q) (tellX cx.tb hs xx S') := Post.step (o := tellX cx.tb hs xx S') p2' st
      refine told_wish T0 (j := jx) (Q := Q) ?_ ?_ hC (fun h hh i f hf => ?_) sr' xr p3'
      · rw [List.length_set, l0]; exact lj
      · exact fun σ' H' v h1 h2 => ⟨v, h1, h2⟩
      · obtain ⟨a, b⟩ := hl h hh i f hf
        exact ⟨a, by rw [List.length_set, l0]; exact b⟩
  refine wpAny_call (codeAny_mono rc fun r s2 hq => ?_)
  cases r with
  | error e =>
    obtain ⟨_, _, _, _, _, _, _, _, _, _, _, _, z⟩ := hq
    exact z.elim
  | ok fl =>
    cases fl with
    | ret u => exact I1.after hq
    | next => exact False.elim hq
    | brk => exact False.elim hq
    | cont => exact False.elim hq
end
end Pl

set_option Elab.async false
set_option linter.all false
set_option maxRecDepth 100000
set_option maxHeartbeats 4000000
/-! PlI: raise C(e), C's own __init__ calling the base's and setting a field (after HandS.ExcInit). -/
namespace Pl
open PySem PySem.Spec PyProof.Rows L2
/-- what repr tells of v -/
def ReprTo (K : PySem.W.Frag) (H : Hp) (v : V) (t : Str) : Prop := (∃ i : Int, v = .int i ∧ i.natAbs.log2 < 1920 ∧ t = toString i) ∨
  ∃ (a : Addr) (d : PyData), v = .ref a ∧ Dp K H (.ref a) d ∧ d.showable = true ∧ d.shown.length ≤ sizeLine ∧ d.depth ≤ 60 ∧ d.hasDict = false ∧ t = d.shown
theorem reprX_to {K : PySem.W.Frag} {ca : CA} {H : Hp} {μ : List Addr} {S : Store} {d : D} {v : V} {t : Str} (r : SR K ca H μ S) (rv : Rep K H μ d v) (h : reprX d S = some t) : ReprTo K H v t := by
  unfold reprX at h
  split at h
  · rename_i i
    split at h
    · rename_i hi
      cases h
      exact .inl ⟨i, rep_int.mp rv, hi, rfl⟩
    · cases h
  · split at h
    · rename_i x S' e
      have eh : x = t := Option.some.inj h
      subst eh
      unfold reprE at e
      simp only at e
      split at e
      · rename_i p e1
        split at e
        · rename_i hq
          cases e
          have hd := toPy_dp r _ _ _ _ rv e1
          obtain ⟨a, e⟩ := isDisplay_rep hd hq.2.2.2.2
          subst e
          exact .inr ⟨a, p, rfl, hd, hq.1, hq.2.1, hq.2.2.1, hq.2.2.2.1, rfl⟩
        · cases e
      · cases e
    · cases h
theorem call_reprT {X : Cx} (hg : X.A.guards = some []) (hu : X.A.units + 100 < cLine) : CallR X (.builtin "repr") (fun xs H Q => ∃ v t, xs = [v] ∧ ReprTo X.K H v t ∧ Q (.str t) H) := by
  intro pins s σ H xs us Q I r h
  obtain ⟨v, t, rfl, hz, q⟩ := h
  rcases hz with ⟨i, rfl, h1, rfl⟩ | ⟨a, d, rfl, h1, h2, h3, h4, h5, rfl⟩
  · exact SkE.call_repr_int pins s σ H _ us Q I r ⟨i, rfl, h1, q⟩
  · exact call_repr hg hu pins s σ H _ us Q I r ⟨a, d, rfl, h1, h2, h3, h4, h5, q⟩
section
variable {X : Cx} {e : Expr} {es : List Expr} {ta : TA} {p p1 p2 pos : Pos} {b : Str} {B : Addr}
theorem pe_binit (hg : Gl X b) (hm : X.mg b = some (.ref B)) (BB : BaseI X.K B) (hdb : (b == ("__debug__" : Str)) = false) (ha : PA X (e :: es) ta) (hl : (p2.endLine == pos.line) = true)
    (few : methodCallForm ((e :: es).length + 0) (backTo pos (starEach (e :: es) X.env)) (backToKw pos (keywordEach [] X.env)) = true := by rfl)
    (he : starEach (e :: es) X.env = (false, eval e X.env) :: starEach es X.env := by rfl) (hpl : (backTo pos (starEach es X.env)).any (·.1) = false := by rfl) :
    PE X (.Call (.Attribute (.Name b p1) "__init__" p2) (e :: es) [] pos) (tVeI X.K ta) := by
  refine ⟨fun pins s σ H Q I h => ?_⟩
  have hc : eval (.Call (.Attribute (.Name b p1) "__init__" p2) (e :: es) [] pos) X.env = (do
      let ov ← eval (.Name b p1) X.env
      standAt p2.atName
      let (f, first) ← holding [ov] (getMethod ov "__init__" (plainOf (.Name b p1) X.env))
      callWith pos f first (backTo pos (starEach (e :: es) X.env)) (backToKw pos (keywordEach [] X.env))) := by
    rw [arm_eval_Call, base_of rfl]
    congr
    funext ov
    congr
    funext _
    exact mcall_line few hl
  refine PySem.W.methodCall_KW (ld_glob I hg hm ?_ hdb) hc
  obtain ⟨m, fr⟩ := I.fr
  refine PySem.W.method_of_cls fr I.ok.mod.kin BB.ga (PySem.W.cls_val fr I.ok.mod.kin BB.ty BB.rd BB.fi (by decide +kernel) ?_)
  show wpAny _ _ (callWith pos (Value.builtin "ValueError.__init__") [] (backTo pos (starEach (e :: es) X.env)) []) _ _ _
  refine PyProof.Rows.callWith_method1 (thn (ha.run pos pins _ σ H _ (I.tok _) h) fun us s1 ⟨vs, H1, I1, r1, a, C, ws, ev, hl, T, ea, q⟩ => ?_) he hpl
  subst ev
  cases r1 with
  | @cons _ u0 _ ur ra rw' =>
    obtain rfl : u0 = Value.ref a := ra
    have hlen : ur.length ≤ sizeLine := by
      rw [← Paired.length rw', sizeLine_eq]
      omega
    exact oinit_ok T I1 ea hlen fun s' J => ⟨.non, H1, J, rfl, q⟩
end
/-- the def __init__(self, v): B.__init__(self, m + repr(v)); self.f = v -/
structure InitW (K : PySem.W.Frag) (mg : Str → Option Value) (C fI : Addr) (f : Str) : Prop where
  ex : ∃ (B : Addr) (self v b q m : Str) (args : Arguments) (body : List Stmt) (sg : Scope) (N : List Str) (fd : FuncData) (p1 p2 p3 p4 p5 p6 p7 p8 p9 p10 p11 p12 p13 p14 : Pos) (i1 : Nat),
    FunD K "__init__" q args body sg [] [] fI fd ∧ FnScope N [self, v] sg ∧ (∀ (s : Shared) (us : List Value), us.length = 2 → BindsTo s fd ⟨us, []⟩ ([self, v].zip us)) ∧
    body = [.Expr (.Call (.Attribute (.Name b p1) "__init__" p2) [.Name self p3, .BinOp (.Constant (.str m) i1 p4) .Add (.Call (.Name "repr" p5) [.Name v p6] [] p7) p8] [] p9) p10, .Assign [.Attribute (.Name self p11) f p12] (.Name v p13) p14] ∧
    mg b = some (.ref B) ∧ BaseI K B ∧ sg.names.lookup b = some .globalImplicit ∧ (b == ("__debug__" : Str)) = false ∧ sg.names.lookup ("repr" : Str) = some .globalImplicit ∧ mg "repr" = none ∧ m.length ≤ 1000 ∧
    N[0]? = some self ∧ N[1]? = some v ∧ Vis sg self ∧ Vis sg v ∧ (self == ("__debug__" : Str)) = false ∧ (self == ("__classdict__" : Str)) = false ∧ (v == ("__debug__" : Str)) = false ∧ (v == ("__classdict__" : Str)) = false ∧ (p2.endLine == p9.line) = true
  oex : OexC K C
  ini : PySem.W.findIn K (.ref C) "__init__" = some (some (.ref fI))
  fn : PySem.W.typeIn K (.ref fI) = some (.type "function")
  no : PySem.W.findIn K (.ref C) f = some none
section
variable {P : Program} {w : World} {K : PySem.W.Frag} {mg : Str → Option Value} {base : Heap} {C fI : Addr} {f : Str}
theorem init_run (Z : InitW K mg C fI f) {k : Nat} {A : Around} {outer : List Env} {s : Shared} {H : Hp} {us : List Value} {a : Addr} {y : V} {t : Str} {Q : VK} (hr : Room (k + 1) A) (hG : A.guards = some []) (e0 : Env0 P w K mg base A outer s H) (r : Vals [.ref a, y] us)
    (ea : H a = some (exo a C none)) (ht : ReprTo K H y t) (hl : t.length ≤ 1000000) (hq : ∀ dx, H dx = none → dx ≠ a → Q .non (upd (upd H dx (exd dx [(f, y)])) a (exo a C (some dx)))) :
    codeAny (model P w) A (.call (.ref fI) ⟨us, []⟩) (CR (L2.CX P w) outer P w H s Q (fun _ _ _ => False)) s := by
  obtain ⟨B, self, v, b, q, m, args, body, sg, N, fd, p1, p2, p3, p4, p5, p6, p7, p8, p9, p10, p11, p12, p13, p14, i1, FD, Sg, hb, eb, hm, BB, hgb, hdb, hgr, hmr, hml, hN0, hN1, hv0, hv1, d1, d2, d3, d4, hln⟩ := Z.ex
  obtain ⟨oc, od, dV, kV, doc, pm, an, cdv, ct, osl, efd, lk, hcd, _, _⟩ := FD.ex
  subst eb
  rw [efd] at lk hb
  have hlen : us.length = 2 := by have := r.length; simpa using this.symm
  refine LamX.run_ofS (N := N) (ps := [self, v]) (us := us) (vs := [.ref a, y]) lk hcd Sg hr e0 (hb s us hlen) r rfl fun hr' => ?_
  have hgd : (A.deeper (envOfC q sg s.heap.objs.size fI cdv)).guards = some [] := by
    first | exact hG | (simpa [Around.deeper, Around.under, Code.isGuard, guardIds] using hG)
  refine ⟨_, pss_cons (ps_expr (pe_binit hgb hm BB hdb (pa_cons (pe_var (i := 0) hN0 hv0 d1 d2) (pa_cons (pe_op op_add_str pe_str (pe_callB (call_reprT hgd (hu100 hr')) hgr hmr bootS_repr (pa_cons (pe_var (i := 1) hN1 hv1 d3 d4) pa_nil))) pa_nil)) hln))
      (pss_one (ps_ost (pe_var (i := 0) hN0 hv0 d1 d2) (pe_var (i := 1) hN1 hv1 d3 d4))), ?_⟩
  have s0 : (L2.start N [V.ref a, y])[0]? = some (some (V.ref a)) := by unfold L2.start; simp
  have s1 : (L2.start N [V.ref a, y])[1]? = some (some y) := by unfold L2.start; simp
  refine ⟨_, s0, y, s1, y, t, rfl, ht, m, t, rfl, rfl, ?_, a, C, _, rfl, (by show 1 ≤ 1000; omega), Z.oex, ea, ?_⟩
  · rw [sizeLine_eq]
    omega
  · refine ⟨y, s1, _, s0, a, C, rfl, Z.oex, Z.no, .inl ⟨ea, fun dx n ne => hq dx n ne⟩⟩
end
/-- C(e) -/
def tMkX (R : Prop) (K : PySem.W.Frag) (C : Addr) (f : Str) (te : TE) : L2.St → Hp → XK → Prop := fun σ H Q => te σ H fun y H1 => ∀ a, H1 a = none → R ∧ ∃ t, ReprTo K (upd H1 a (exo a C none)) y t ∧ t.length ≤ 1000000 ∧ ∀ d, H1 d = none → Q (.ref C) (some d) (upd H1 d (.xd [(f, y)]))
theorem pmk_x {R : Prop} {X : Cx} {C fI : Addr} {f x : Str} {e : Expr} {te : TE} {p pos : Pos} (Z : InitW X.K X.mg C fI f) (hr : R → Room 2 X.A) (hG : X.A.guards = some []) (hg : Gl X x) (hm : X.mg x = some (.ref C)) (he : PE X e te)
    (hdb : (x == ("__debug__" : Str)) = false) (hst : starEach [e] X.env = (false, eval e X.env) :: starEach [] X.env) :
    PMk X (.Call (.Name x p) [e] [] pos) (tMkX R X.K C f te) := by
  intro pins s σ H Q I h
  have T := Z.oex
  obtain ⟨nm, q, N, bs, bm, sn, sub, ab, col, dd, k0, k1, k2, k3, k5, hC, hbm⟩ := T.cls
  refine wpAny_Call_Name_kw (ld_glob I hg hm ?_ hdb)
  refine PySem.W.callWith_K (h₀ := X.base) I.ok.mod.kin T.kC ?_ hst (by rfl)
  rw [hst]
  show wpAny _ _ (spliced ((false, eval e X.env) :: backTo pos (starEach [] X.env))) _ _ s
  refine Calls.spliced_cons (thn (he.run pins s σ H _ I h) fun u s1 ⟨v, H1, I1, r1, q1⟩ => ?_)
  refine Calls.spliced_nil ⟨I1.kIn, ?_⟩
  show wpAny _ _ (call (.ref C) [u]) _ _ _
  obtain ⟨hp, g, dr, tk, os⟩ := s1
  have hsz : hp.objs.size ≤ hp.objs.size + 1 := Nat.le_succ _
  have hn : H1 (hp.objs.size + 1) = none := I1.hok.fresh hsz
  obtain ⟨hR, t, ht, hl, hq⟩ := q1 (hp.objs.size + 1) hn
  have kk : ∀ b o, hp.get? b = some o → ((hp.push (PySem.W.kdv_tup [u])).push (PySem.HandSPX.excO C hp.objs.size)).get? b = some o := fun b o e => Heap.get?_push_of_some _ (Heap.get?_push_of_some _ e)
  have hget : ((hp.push (PySem.W.kdv_tup [u])).push (PySem.HandSPX.excO C hp.objs.size)).get? (hp.objs.size + 1) = some (PySem.HandSPX.excO C hp.objs.size) := by heap_get
  have I2 : Inv X pins σ (upd H1 (hp.objs.size + 1) (exo (hp.objs.size + 1) C none)) ⟨(hp.push (PySem.W.kdv_tup [u])).push (PySem.HandSPX.excO C hp.objs.size), g, dr, tk, os⟩ :=
    I1.laid (t' := tk) (a := hp.objs.size + 1) (o := exo (hp.objs.size + 1) C none) (h' := (hp.push (PySem.W.kdv_tup [u])).push (PySem.HandSPX.excO C hp.objs.size)) kk hsz (exo_ok hget)
  have r2 : Vals [V.ref (hp.objs.size + 1), v] [Value.ref (hp.objs.size + 1), u] := .cons rfl (.cons r1 .nil)
  have hus : ([u] : List Value).length ≤ sizeLine := by rw [sizeLine_eq]; show 1 ≤ _; omega
  have hGm : (X.A.under (.builtin "type.__call__" ⟨.ref C :: [u], []⟩)).guards = some [] := by
    first | exact hG | (simpa [Around.under, Code.isGuard, guardIds] using hG)
  refine wpAny_call (PySem.HandSPX.call_own F.excBase_ValueError (fun Y => PySem.HandSPX.refsVE_contains Y bm hbm) (I1.kIn _ _ hC) (PySem.W.looks_findIn I1.kIn Z.ini) (fun self => PySem.W.bind_fn I1.kIn self Z.fn) hus
    (codeAny_mono (init_run (k := 0) (Q := fun v' H2 => v' = .non ∧ ∃ d : Addr, H2 (hp.objs.size + 1) = some (exo (hp.objs.size + 1) C (some d)) ∧ H2 d = some (exd d [(f, v)]) ∧ H1 d = none ∧ Q (.ref C) (some d) (upd (del H2 (hp.objs.size + 1)) d (.xd [(f, v)]))) Z ((hr hR).make C [u] []) hGm (I2.env0.make C [u] []) r2 upd_same ht hl (fun dx hdx hne => ?_)) fun r s' hq' => ?_))
  · refine ⟨rfl, dx, upd_same, ?_, ?_, ?_⟩
    · rw [upd_ne hne, upd_same]
    · rw [upd_ne hne] at hdx
      exact hdx
    · have hd1 : H1 dx = none := by rw [upd_ne hne] at hdx; exact hdx
      have eH : upd (del (upd (upd (upd H1 (hp.objs.size + 1) (exo (hp.objs.size + 1) C none)) dx (exd dx [(f, v)])) (hp.objs.size + 1) (exo (hp.objs.size + 1) C (some dx))) (hp.objs.size + 1)) dx (.xd [(f, v)]) = upd H1 dx (.xd [(f, v)]) := by
        funext b
        by_cases hb : b = dx
        · rw [hb, upd_same, upd_same]
        · rw [upd_ne hb, upd_ne hb]
          by_cases hb2 : b = hp.objs.size + 1
          · rw [hb2, del_same, hn]
          · rw [del_ne hb2, upd_ne hb2, upd_ne hb, upd_ne hb2]
      rw [eH]
      exact hq dx hd1
  · cases r with
    | error er =>
      obtain ⟨_, _, _, _, _, _, _, _, _, _, _, _, z⟩ := hq'
      exact z.elim
    | ok fl =>
      cases fl with
      | ret u =>
        obtain ⟨v', H2, os2, bare2, un2, hok2, rv, ev, d, ea, ed, hd1, q2⟩ := hq'
        subst ev
        obtain ⟨h2, g2, d2, t2, os'⟩ := s'
        exact ⟨rv, mk_end (raises_own T.exC T.tyC) I1 hsz kk un2 hok2 os2 bare2 ea ed hd1 q2⟩
      | next => exact False.elim hq'
      | brk => exact False.elim hq'
      | cont => exact False.elim hq'
section
variable {ca : CA} {fa : Nat → Addr} {fd : Nat → FuncData} {flds free : List Str} {X : Cx} {cx : Ctx} {k : Nat} {W : WX} {e : Expr} {ee : E} {pos : Pos}
theorem ss_raiseF (hX : XOk X cx ca fa fd flds free k) (tk : Takes X W) {c : Nat} {ci : Ci} {C fI : Addr} {f : Str} {p p3 : Pos} (hci : cx.tb.cls[c]? = some ci) (hC : ca c = some C) (Z : InitW X.K X.mg C fI f) (hg : Gl X ci.name) (hdb : (ci.name == ("__debug__" : Str)) = false)
    (he : SE X ca cx W e ee) (hst : starEach [e] X.env = (false, eval e X.env) :: starEach [] X.env) :
    SS X ca cx W (.Raise (some (.Call (.Name ci.name p) [e] [] p3)) none pos) (.raiseF c f ee) := by
  have gC := hX.tbl.cglo c C ci hC hci
  refine PS.imp (ps_raise hX.calm tk (pmk_x (R := cx.lv = true) Z (fun h => hX.room.mono (hX.lv h)) hX.guards hg gC he hdb hst)) fun D σ H ⟨ρ, S, μ, er, r, q⟩ => ?_
  rw [evC] at q
  refine tE_bind er r (R := fun d S' H' μ' => PostS X.K ca W H' μ' D (match reprX d S' with
    | some x => if cx.lv = true ∧ x.length ≤ 1000000 then .exc ⟨c, some (f, d)⟩ ρ S' else .bad
    | none => .bad)) ?_ fun d S1 H1 μ1 v s1 r1 e1 rv q1 => ?_
  · exact PostS.st er q
  · intro a ha
    cases hx : reprX d S1 with
    | none => rw [hx] at q1; exact q1.elim
    | some x =>
      rw [hx] at q1
      simp only at q1
      split at q1
      · rename_i hc
        refine ⟨hc.1, x, reprX_to (r1.new ha) (Rep.step (grow_new ha) _ _ rv) hx, hc.2, fun dx hdx => ?_⟩
        have st := Step.new (o := .xd [(f, v)]) μ1 hdx
        exact q1 (.ref C) (some dx) σ (upd H1 dx (.xd [(f, v)])) μ1 st (r1.new hdx) (e1.step st.grow) ⟨C, hC, rfl, fun f' d' hf => by
          cases hf
          exact ⟨dx, v, rfl, upd_same, Rep.step st.grow _ _ rv⟩⟩
      · exact q1.elim
end
end Pl

set_option Elab.async false
set_option linter.all false
set_option maxRecDepth 100000
set_option maxHeartbeats 4000000
/-! Pl17: from the text's expressions to the small language. -/
namespace Pl
open PySem PySem.Spec PyProof.Rows L2

structure CE where
  N : List Str
  sc : Scope
  fn : Str → Bool
  cls : List Ci
  sigs : List (Option Str × List Str)
  flds : List Str
  blt : List (Str × Blt)
  free : List Str
  /-- defs that tell what their argument raises -/
  tolds : List (Str × List (Nat × Str × Option Str)) := []
  /-- own errors' fields -/
  inits : List (Nat × Str) := []
  /-- whether a lambda may be made -/
  mkl : Bool := false
def ixOf (x : Str) : List Str → Option Nat
  | [] => none
  | y :: r => if x = y then some 0 else (ixOf x r).map (· + 1)
theorem ixOf_ok {x : Str} : ∀ {N : List Str} {i : Nat}, ixOf x N = some i → N[i]? = some x
  | [], i, h => by cases h
  | y :: r, i, h => by
    unfold ixOf at h
    split at h
    · rename_i e
      cases h
      rw [e]
      rfl
    · cases q : ixOf x r with
      | none => rw [q] at h; cases h
      | some j =>
        rw [q] at h
        cases h
        simpa using ixOf_ok q
def findIx {α : Type} (p : α → Bool) : List α → Option Nat
  | [] => none
  | y :: r => if p y then some 0 else (findIx p r).map (· + 1)
theorem findIx_ok {α : Type} {p : α → Bool} : ∀ {l : List α} {i : Nat}, findIx p l = some i → ∃ a, l[i]? = some a ∧ p a = true
  | [], i, h => by cases h
  | y :: r, i, h => by
    unfold findIx at h
    split at h
    · rename_i e
      cases h
      exact ⟨y, rfl, e⟩
    · cases q : findIx p r with
      | none => rw [q] at h; cases h
      | some j =>
        rw [q] at h
        cases h
        simpa using findIx_ok q
def CE.kindOf (ce : CE) (x : Str) : Option NameKind := ce.sc.names.lookup x
def CE.vis (ce : CE) (x : Str) : Bool := match ce.kindOf x with
  | some .local => true
  | some .cell => true
  | some .free => true
  | _ => false
def CE.loc (ce : CE) (x : Str) : Bool := match ce.kindOf x with
  | some .local => true
  | some .cell => ce.fn x
  | _ => false
def CE.gl (ce : CE) (x : Str) : Bool := decide (ce.kindOf x = some .globalImplicit) && !(x == ("__debug__" : Str))
def bopC : Operator → Option Bop
  | .Add => some .add
  | .Sub => some .sub
  | .Mult => some .mul
  | .FloorDiv => some .fdiv
  | .Mod => some .mod
  | .Pow => some .pow
  | _ => none
theorem bopC_ok {op : Operator} {b : Bop} (h : bopC op = some b) : op = bopOf b := by
  cases op <;> cases h <;> rfl
def copC : CmpOp → Option Cop
  | .Eq => some .eq
  | .NotEq => some .ne
  | .Lt => some .lt
  | .LtE => some .le
  | .Gt => some .gt
  | .GtE => some .ge
  | _ => none
theorem copC_ok {op : CmpOp} {b : Cop} (h : copC op = some b) : op = copOf b := by
  cases op <;> cases h <;> rfl
def tyC (x : Str) : Option Ty := if x = "int" then some .int else if x = "bool" then some .bool else if x = "str" then some .str else if x = "tuple" then some .tuple else if x = "list" then some .list else none
theorem tyC_ok {x : Str} {t : Ty} (h : tyC x = some t) : bootBuiltins x = some (.type (tyS t)) ∧ x ≠ "__name__" := by
  unfold tyC at h
  repeat (split at h; · rename_i e; cases h; subst e; exact ⟨by decide +kernel, by decide⟩)
  cases h
def CE.blk (ce : CE) (scope : Scope) : CE := { ce with sc := relS scope ce.sc, fn := fun x => scope.names.lookup x == some .cell, mkl := false }
def CE.lamb (ce : CE) (scope : Scope) : CE := { ce with sc := scope, fn := fun _ => false, mkl := false }
/-- a block's own names, with their slots -/
def ownC (N : List Str) (scope : Scope) : List (Str × Nat) := scope.names.filterMap fun (x, k) => match k with
  | .local => (ixOf x N).map (x, ·)
  | .cell => (ixOf x N).map (x, ·)
  | _ => none
def notSet : Expr → Bool
  | .Set _ _ _ => false
  | _ => true
def isTupE : Expr → Bool
  | .Tuple _ _ _ => true
  | _ => false
def isIfE : Expr → Bool
  | .IfExp _ _ _ _ => true
  | _ => false
def isConstNone : Expr → Bool
  | .Constant .none _ _ => true
  | _ => false
def inst? (ce : CE) (c : Nat) : Option (Ci × Nat) := match ce.cls[c]? with
  | some ci => if ci.inst then (ci.meths.lookup ("__init__" : Str)).map (ci, ·) else none
  | none => none
mutual
def cE : Nat → CE → Expr → Option E
  | 0, _, _ => none
  | n + 1, ce, e => match e with
    | .Constant c _ _ => match c with
      | .none => some (.cst .non)
      | .bool b => some (.cst (.bl b))
      | .int i => some (.cst (.int i))
      | .str x => some (.cst (.str x))
      | _ => none
    | .Name x _ => if ce.vis x && !(x == ("__debug__" : Str)) && !(x == ("__classdict__" : Str)) then (ixOf x ce.N).map .var else none
    | .BinOp a op b _ => (bopC op).bind fun o => (cE n ce a).bind fun x => (cE n ce b).bind fun y => some (.bin o x y)
    | .UnaryOp op a _ => match op with
      | .Not => if isIfE a then none else (cE n ce a).map .not
      | .USub => match a with
        | .Constant (.int i) _ _ => some (.cst (.int (-i)))
        | _ => none
      | _ => none
    | .BoolOp op vs p => match vs with
      | [a] => if isIfE a then none else cE n ce a
      | a :: b :: r => if isIfE a then none else (cE n ce a).bind fun x => (cE n ce (.BoolOp op (b :: r) p)).bind fun y => some (match op with
        | .And => .and x y
        | .Or => .or x y)
      | [] => none
    | .Compare a ops bs _ => match ops, bs with
      | [op], [b] => match op with
        | .Is => if isConstNone b then (cE n ce a).map .isN else none
        | .IsNot => if isConstNone b then (cE n ce a).map .notN else none
        | op => (copC op).bind fun o => (cE n ce a).bind fun x => (cE n ce b).bind fun y => some (.cmp o x y)
      | _, _ => none
    | .IfExp c a b _ => if isIfE c then none else (cE n ce c).bind fun x => (cE n ce a).bind fun y => (cE n ce b).bind fun z => some (.ite x y z)
    | .Tuple es _ _ => if noStar es then (cEs n ce es).map .tup else none
    | .List es _ => if noStar es then (cEs n ce es).map .lst else none
    | .Subscript a i _ => match i with
      | .Slice lo hi none _ => (cE n ce a).bind fun x => (cO n ce lo).bind fun l => (cO n ce hi).bind fun h => some (.slc x l h)
      | i => if plainIx i then (cE n ce a).bind fun x => (cE n ce i).bind fun y => some (.idx x y) else none
    | .Attribute o f _ => if plainBase o then (cE n ce o).map (.fld · f) else none
    | .Call f es kws pos => match f with
      | .Name x _ => match ce.tolds.lookup x with
        | some hs => (match es, kws with
          | [.Lambda ⟨[], [], none, [], [], none, []⟩ body scope _], [] => if ce.mkl && (ce.gl x && LamX.lamSB ce.sc scope) then (cE n (ce.lamb scope) body).map (.told · hs) else none
          | _, _ => none)
        | none => if ce.gl x && noStar es then (match findIx (fun p : Option Str × List Str => decide (p.1 = some x)) ce.sigs with
        | some i => (kwNames kws).bind fun ks => (cEs n ce es).bind fun ds => (cKs n ce kws).bind fun kds => some (.call i ds ks kds)
        | none => match findIx (fun ci : Ci => ci.name = x && ci.inst) ce.cls with
          | some c => if (inst? ce c).isSome then (kwNames kws).bind fun ks => (cEs n ce es).bind fun ds => (cKs n ce kws).bind fun kds => some (.mk c ds ks kds) else none
          | none => if x = "isinstance" then (if ce.free.contains "isinstance" then (match es, kws with
              | [a, .Name t _], [] => if ce.gl t && ce.free.contains t && noStar [a] then (tyC t).bind fun ty => (cE n ce a).map (.isi · ty) else none
              | _, _ => none) else none)
            else match ce.blt.lookup x, es, kws with
              | some b, e :: es, [] => (cEs n ce (e :: es)).map (.blt b)
              | _, _, _ => none) else none
      | .Attribute o m apos => if plainBase o && (apos.endLine == pos.line) && noStar es then (if m = "append" then (match es, kws with
            | [e], [] => (cE n ce o).bind fun x => (cE n ce e).bind fun y => some (.bm .append x (.cons y .nil))
            | _, _ => none)
          else if m = "pop" then (match es, kws with
            | [], [] => (cE n ce o).map fun x => .bm .pop x .nil
            | _, _ => none)
          else if es.length + kws.length < 29 then (kwNames kws).bind fun ks => (cE n ce o).bind fun x => (cEs n ce es).bind fun ds => (cKs n ce kws).bind fun kds => some (.mth x m ds ks kds) else none) else none
      | _ => none
    | .ListComp elt gens scope _ => if blkC ce.N ce.sc scope (ownC ce.N scope) then (match gens with
      | [⟨tg, it, ifs, 0⟩] => if notSet it then (cI n ce tg it).bind fun i => (cT n (ce.blk scope) tg).bind fun (t, is) => if is.all (fun i => ((ownC ce.N scope).map (·.2)).contains i) then (cO2 n (ce.blk scope) ifs).bind fun c => (cE n (ce.blk scope) elt).bind fun e => some (.comp e ((ownC ce.N scope).map (·.2)) t i c) else none else none
      | [⟨tg, it, [], 0⟩, ⟨tg2, it2, [], 0⟩] => if notSet it && notSet it2 then (cI n ce tg it).bind fun i => (cT n (ce.blk scope) tg).bind fun (t, is) => (cI n (ce.blk scope) tg2 it2).bind fun i2 => (cT n (ce.blk scope) tg2).bind fun (t2, is2) =>
          if is.all (fun i => ((ownC ce.N scope).map (·.2)).contains i) && is2.all (fun i => ((ownC ce.N scope).map (·.2)).contains i) then (cE n (ce.blk scope) elt).bind fun e => some (.comp2 e ((ownC ce.N scope).map (·.2)) is2 t i t2 i2) else none else none
      | _ => none) else none
    | _ => none
def cEs : Nat → CE → List Expr → Option Es
  | 0, _, _ => none
  | _ + 1, _, [] => some .nil
  | n + 1, ce, e :: es => (cE n ce e).bind fun x => (cEs n ce es).bind fun xs => some (.cons x xs)
def cKs : Nat → CE → List Keyword → Option Es
  | 0, _, _ => none
  | _ + 1, _, [] => some .nil
  | n + 1, ce, ⟨_, e, _⟩ :: es => (cE n ce e).bind fun x => (cKs n ce es).bind fun xs => some (.cons x xs)
def cO : Nat → CE → Option Expr → Option Oe
  | 0, _, _ => none
  | _ + 1, _, none => some .none
  | n + 1, ce, some e => (cE n ce e).map .some
def cO2 : Nat → CE → List Expr → Option Oe
  | 0, _, _ => none
  | _ + 1, _, [] => some .none
  | n + 1, ce, [e] => if isIfE e then none else (cE n ce e).map .some
  | _ + 1, _, _ => none
def cI : Nat → CE → Expr → Expr → Option I
  | 0, _, _, _ => none
  | n + 1, ce, tg, it => match it with
    | .Call (.Name x _) [a] [] _ => if x = "range" then (if ce.gl x && ce.free.contains x && noStar [a] then (cE n ce a).map .rng1 else none)
      else if x = "enumerate" then (if ce.gl x && ce.free.contains x && noStar [a] && isTupE tg then (cE n ce a).map .enum else none)
      else (cE n ce it).map .seq
    | .Call (.Name x _) [a, b] [] _ => if x = "range" then (if ce.gl x && ce.free.contains x && noStar [a, b] then (cE n ce a).bind fun y => (cE n ce b).map (.rng2 y) else none)
      else if x = "zip" then (if ce.gl x && ce.free.contains x && noStar [a, b] && isTupE tg then (cE n ce a).bind fun y => (cE n ce b).map (.zip y) else none)
      else (cE n ce it).map .seq
    | _ => (cE n ce it).map .seq
def cT : Nat → CE → Expr → Option (T × List Nat)
  | 0, _, _ => none
  | n + 1, ce, t => match t with
    | .Name x _ => if ce.loc x then (ixOf x ce.N).map fun i => (.name i, [i]) else none
    | .Tuple es _ _ => if noStar es then (cTs n ce es).map fun (ts, is) => (.tup ts, is) else none
    | .Attribute o f _ => if ce.flds.contains f then (cE n ce o).map fun x => (.fld x f, []) else none
    | .Subscript o i _ => if plainIx i then (cE n ce o).bind fun x => (cE n ce i).map fun y => (.idx x y, []) else none
    | _ => none
def cTs : Nat → CE → List Expr → Option (Ts × List Nat)
  | 0, _, _ => none
  | _ + 1, _, [] => some (.nil, [])
  | n + 1, ce, t :: ts => (cT n ce t).bind fun (x, is) => (cTs n ce ts).map fun (xs, js) => (.cons x xs, is ++ js)
end

/-- what a table must keep to be read -/
structure TbW (tb : Tb) : Prop where
  prop1 : ∀ c m g fi, propOf tb c m = some g → tb.fns[g]? = some fi → fi.ps.length = 1
  propE : ∀ c m g, propOf tb c m = some g → ∃ fi, tb.fns[g]? = some fi
  methE : ∀ c m g, methOf tb c m = some g → ∃ fi, tb.fns[g]? = some fi
  len1 : ∀ c f, methOf tb c "__len__" = some f → ∀ fi, tb.fns[f]? = some fi → fi.ps.length = 1
structure Good (ce : CE) (X : Cx) (cx : Ctx) (ca : CA) (fa : Nat → Addr) (fd : Nat → FuncData) (flds free : List Str) (k : Nat) : Prop where
  ok : XOk X cx ca fa fd flds free k
  N : X.N = ce.N
  sc : X.env.scope = ce.sc
  fn : X.fn = ce.fn
  cls : cx.tb.cls = ce.cls
  sigs : cx.tb.fns.map (fun fi => (fi.glob, fi.ps)) = ce.sigs
  flds : cx.tb.flds = ce.flds
  free : ∀ x ∈ ce.free, X.mg x = none
  blt : ∀ p ∈ ce.blt, BltAt X.mg p.2 p.1
  wf : TbW cx.tb
  told : ∀ x hs, ce.tolds.lookup x = some hs → TellW X.K X.mg cx.tb ca fa fd x hs
  ini : ∀ c f, ce.inits.lookup c = some f → ∃ C fI, ca c = some C ∧ InitW X.K X.mg C fI f
  mkl : ce.mkl = true → ∃ c P, LamX.TabB X.base X.mg c P ∧ X.env.code = .ref c ∧ (P, X.env.qual ++ "<lambda>") ∈ ca.tabs ∧ ∀ p ∈ ca.tabs, p.1 = P → p.2 = X.env.qual ++ "<lambda>"
section
variable {ce : CE} {X : Cx} {cx : Ctx} {ca : CA} {fa : Nat → Addr} {fd : Nat → FuncData} {flds free : List Str} {k : Nat} {W : WX}
theorem Good.gl (G : Good ce X cx ca fa fd flds free k) {x : Str} (h : ce.gl x = true) : Gl X x ∧ (x == ("__debug__" : Str)) = false := by
  obtain ⟨h1, h2⟩ := He.ba h
  refine ⟨?_, by simpa using h2⟩
  have h1 : ce.kindOf x = some .globalImplicit := of_decide_eq_true h1
  unfold Gl PySem.Env.kindOf
  rw [G.sc]
  exact h1
theorem Good.vis (G : Good ce X cx ca fa fd flds free k) {x : Str} (h : ce.vis x = true) : Vis X.env.scope x := by
  unfold CE.vis CE.kindOf at h
  unfold Vis
  rw [G.sc]
  split at h
  · rename_i e; exact .inl e
  · rename_i e; exact .inr (.inl e)
  · rename_i e; exact .inr (.inr e)
  · cases h
theorem Good.loc (G : Good ce X cx ca fa fd flds free k) {x : Str} (h : ce.loc x = true) : L2.Loc X.env.scope x ∧ (X.fn x = true ∨ X.env.scope.names.lookup x = some .local) := by
  unfold CE.loc CE.kindOf at h
  unfold L2.Loc
  rw [G.sc, G.fn]
  split at h
  · rename_i e; exact ⟨.inl e, .inr e⟩
  · rename_i e; exact ⟨.inr e, .inl h⟩
  · cases h
theorem Good.ix (G : Good ce X cx ca fa fd flds free k) {x : Str} {i : Nat} (h : ixOf x ce.N = some i) : X.N[i]? = some x := by
  rw [G.N]; exact ixOf_ok h
/-- a block's context -/
theorem Good.blk (G : Good ce X cx ca fa fd flds free k) {scope : Scope} (hk : scope.kind = .function) : Blk X scope fun Y => Good (ce.blk scope) Y cx ca fa fd flds free k := fun s H C cl fp => {
  ok := { tbl := G.ok.tbl, call := G.ok.call, callM := G.ok.callM, lam := G.ok.lam, lv := G.ok.lv, room := G.ok.room, guards := G.ok.guards, nd := G.ok.nd, calm := G.ok.calm, kind := hk }
  N := G.N
  sc := by show relS scope X.env.scope = relS scope ce.sc; rw [G.sc]
  fn := rfl
  cls := G.cls
  sigs := G.sigs
  flds := G.flds
  free := G.free
  blt := G.blt
  wf := G.wf
  told := G.told
  ini := G.ini
  mkl := fun h => by cases h }
/-- a lambda's context -/
theorem Good.lamb (G : Good ce X cx ca fa fd flds free k) {scope : Scope} (L : LamX.LamS X.env.scope scope) {j : Nat} {c d : CallF} (hc : CallOk X cx.tb ca fa fd j c) (hd : d = badF ∨ ∃ i, i + 1 ≤ j ∧ CallOk X cx.tb ca fa fd i d) (A : Around) (outer : List PySem.Env) (s : Shared) (H : Hp) (E : XK) (f c' : Addr)
    (hr : Room j (A.deeper (LamX.lamEnv X scope s.heap.objs.size f c'))) (hg : A.guards = some []) : Good (ce.lamb scope) (LamX.lamCx X A outer s H E scope f c') ⟨cx.tb, c, d, cx.W, badL, false⟩ ca fa fd flds free j := {
  ok := { tbl := G.ok.tbl, call := hc, callM := hd, lam := .inl rfl, lv := (fun h => by cases h), room := hr,
          guards := by first | exact hg | (simpa [LamX.lamCx, Around.deeper, Around.under, Code.isGuard, guardIds] using hg)
          nd := G.ok.nd, calm := rfl, kind := L.kind }
  N := G.N
  sc := rfl
  fn := rfl
  cls := G.cls
  sigs := G.sigs
  flds := G.flds
  free := G.free
  blt := G.blt
  wf := G.wf
  told := G.told
  ini := G.ini
  mkl := fun h => by cases h }
theorem ob {α β : Type} {o : Option α} {f : α → Option β} {b : β} (h : o.bind f = some b) : ∃ a, o = some a ∧ f a = some b := by
  cases o with
  | none => cases h
  | some a => exact ⟨a, rfl, h⟩
theorem om {α β : Type} {o : Option α} {f : α → β} {b : β} (h : o.map f = some b) : ∃ a, o = some a ∧ f a = b := by
  cases o with
  | none => cases h
  | some a => exact ⟨a, rfl, by simpa using h⟩
theorem oif {α : Type} {c : Bool} {o : Option α} {b : α} (h : (if c = true then o else none) = some b) : c = true ∧ o = some b := by
  cases c with
  | false => cases h
  | true => exact ⟨rfl, h⟩
theorem folded_of {it : Expr} (h : notSet it = true) (env : PySem.Env) (x : Value) : foldedSetIterable it env x = pure x := by
  cases it <;> first | rfl | cases h
end
end Pl

set_option Elab.async false
set_option linter.all false
set_option maxRecDepth 100000
set_option maxHeartbeats 4000000
/-! Pl18: the compiler's expressions are sound. -/
namespace Pl
open PySem PySem.Spec PyProof.Rows L2

section
variable (ca : CA) (fa : Nat → Addr) (fd : Nat → FuncData) (flds free : List Str)
structure Snd (n : Nat) : Prop where
  e : ∀ {ce : CE} {X : Cx} {cx : Ctx} {k : Nat} {W : WX} {e : Expr} {c : E}, Good ce X cx ca fa fd flds free k → Takes X W → cE n ce e = some c → SE X ca cx W e c ∧ (isIfE e = false → ST X ca cx W e c) ∧ (∀ op vs p, e = .BoolOp op vs p → SW X ca cx W e c)
  es : ∀ {ce : CE} {X : Cx} {cx : Ctx} {k : Nat} {W : WX} {es : List Expr} {ds : Es}, Good ce X cx ca fa fd flds free k → Takes X W → noStar es = true → cEs n ce es = some ds → SA X ca cx W es ds ∧ (es = [] → ds = .nil)
  ks : ∀ {ce : CE} {X : Cx} {cx : Ctx} {k : Nat} {W : WX} {es : List Keyword} {ds : Es}, Good ce X cx ca fa fd flds free k → Takes X W → cKs n ce es = some ds → SK X ca cx W es ds
  o : ∀ {ce : CE} {X : Cx} {cx : Ctx} {k : Nat} {W : WX} {e : Option Expr} {c : Oe}, Good ce X cx ca fa fd flds free k → Takes X W → cO n ce e = some c → SO X ca cx W e c
  o2 : ∀ {ce : CE} {X : Cx} {cx : Ctx} {k : Nat} {e : List Expr} {c : Oe}, Good ce X cx ca fa fd flds free k → cO2 n ce e = some c → SO2 X ca cx e c
  i : ∀ {ce : CE} {X : Cx} {cx : Ctx} {k : Nat} {W : WX} {tg it : Expr} {c : I}, Good ce X cx ca fa fd flds free k → Takes X W → cI n ce tg it = some c → SI X ca cx W tg it c
  t : ∀ {ce : CE} {X : Cx} {cx : Ctx} {k : Nat} {t : Expr} {c : T} {is : List Nat}, Good ce X cx ca fa fd flds free k → cT n ce t = some (c, is) → SG X ca cx is t c
  ts : ∀ {ce : CE} {X : Cx} {cx : Ctx} {k : Nat} {t : List Expr} {c : Ts} {is : List Nat}, Good ce X cx ca fa fd flds free k → noStar t = true → cTs n ce t = some (c, is) → SGs X ca cx is t c ∧ t.length = tsLen c
end
section
variable {ca : CA} {fa : Nat → Addr} {fd : Nat → FuncData} {flds free : List Str} {n : Nat}
theorem snd_told (ih : Snd ca fa fd flds free n) {ce : CE} {X : Cx} {cx : Ctx} {k : Nat} {W : WX} {x : Str} {px lpos p : Pos} {hs : List (Nat × Str × Option Str)} {body : Expr} {scope : Scope} {y : E} (G : Good ce X cx ca fa fd flds free k) (hts : ce.tolds.lookup x = some hs)
    (h0 : (ce.mkl && (ce.gl x && LamX.lamSB ce.sc scope)) = true) (h1 : cE n (ce.lamb scope) body = some y) : SE X ca cx W (.Call (.Name x px) [.Lambda ⟨[], [], none, [], [], none, []⟩ body scope lpos] [] p) (.told y hs) := by
  obtain ⟨h0, h2⟩ := He.ba h0
  obtain ⟨h2, h3⟩ := He.ba h2
  obtain ⟨g1, g2⟩ := G.gl h2
  rw [← G.sc] at h3
  have L := LamX.lamS_by h3
  obtain ⟨c, P, TB, hcode, hm, hu⟩ := G.mkl h0
  rcases G.ok.lam with hl | ⟨j, c0, d0, hj, hl, hc, hd⟩
  · exact ⟨fun pins s σ H Q I ⟨ρ, S, μ, er, sr, q⟩ => by
      rw [evE, hl] at q
      exact (show False from q).elim⟩
  · refine se_told (j := j) G.ok.tbl (G.told x hs hts) g1 g2 G.ok.guards TB hcode hm hu (G.ok.room.mono hj) L rfl (fun _ _ _ _ _ => rfl) fun A outer s H E f c' hr hg => ?_
    rw [hl]
    exact (ih.e (G.lamb L hc hd A outer s H E f c' hr hg) (takes_of rfl rfl rfl rfl) h1).1
theorem PG.imp {X : Cx} {e : Expr} {t t' : TG} (h : PG X e t) (hi : ∀ v σ H Q, t' v σ H Q → t v σ H Q) : PG X e t' := ⟨fun pins s σ H v u Q I r q => h.run pins s σ H v u Q I r (hi v σ H Q q)⟩
theorem PGs.imp {X : Cx} {e : List Expr} {t t' : TGs} (h : PGs X e t) (hi : ∀ v σ H Q, t' v σ H Q → t v σ H Q) : PGs X e t' := ⟨fun pins s σ H v u Q I r q => h.run pins s σ H v u Q I r (hi v σ H Q q)⟩
theorem SG.mono {X : Cx} {cx : Ctx} {is js : List Nat} {t : Expr} {c : T} (h : SG X ca cx is t c) (hs : ∀ i ∈ is, i ∈ js) : SG X ca cx js t c := PG.imp h fun v σ H Q ⟨d, ρ, S, μ, r, e, sr, p⟩ => ⟨d, ρ, S, μ, r, e, sr, p.mono hs⟩
theorem SGs.mono {X : Cx} {cx : Ctx} {is js : List Nat} {t : List Expr} {c : Ts} (h : SGs X ca cx is t c) (hs : ∀ i ∈ is, i ∈ js) : SGs X ca cx js t c := PGs.imp h fun v σ H Q ⟨d, ρ, S, μ, r, e, sr, p⟩ => ⟨d, ρ, S, μ, r, e, sr, p.mono hs⟩
theorem mem_sig {cx : Ctx} {sigs : List (Option Str × List Str)} (h : cx.tb.fns.map (fun fi => (fi.glob, fi.ps)) = sigs) {i : Nat} {p : Option Str × List Str} (hp : sigs[i]? = some p) : ∃ fi, cx.tb.fns[i]? = some fi ∧ fi.glob = p.1 ∧ fi.ps = p.2 := by
  rw [← h, List.getElem?_map] at hp
  obtain ⟨fi, h1, h2⟩ := om hp
  exact ⟨fi, h1, by rw [← h2], by rw [← h2]⟩
/-- a reading that is no test of its own kind -/
theorem pair_of {X : Cx} {cx : Ctx} {W : WX} {e : Expr} {c : E} (h : SE X ca cx W e c) (hp : plainTest e = true) (hb : ∀ op vs p, e ≠ .BoolOp op vs p) : SE X ca cx W e c ∧ (isIfE e = false → ST X ca cx W e c) ∧ (∀ op vs p, e = .BoolOp op vs p → SW X ca cx W e c) :=
  ⟨h, fun _ => st_val h hp, fun op vs p e => absurd e (hb op vs p)⟩
theorem contains_mem {l : List Str} {x : Str} (h : l.contains x = true) : x ∈ l := List.contains_iff_mem.mp h
theorem isN_ok {b : Expr} (h : isConstNone b = true) : ∃ j p, b = .Constant .none j p := by
  cases b with
  | Constant c j p => cases c <;> first | exact ⟨j, p, rfl⟩ | cases h
  | _ => cases h
theorem isTup_ok {b : Expr} (h : isTupE b = true) : ∃ es j p, b = .Tuple es j p := by
  cases b with
  | Tuple es j p => exact ⟨es, j, p, rfl⟩
  | _ => cases h
theorem lookup_mem {b : Blt} {x : Str} : ∀ {l : List (Str × Blt)}, l.lookup x = some b → (x, b) ∈ l
  | [], h => by cases h
  | (y, c) :: r, h => by
    by_cases e : x = y
    · subst e
      simp only [List.lookup, beq_self_eq_true] at h
      cases h
      exact List.mem_cons_self
    · have e' : (x == y) = false := by simpa using e
      simp only [List.lookup, e'] at h
      exact List.mem_cons_of_mem _ (lookup_mem h)
theorem blk_kind {N : List Str} {sc scope : Scope} {own : List (Str × Nat)} (h : blkC N sc scope own = true) : scope.kind = .function := (blkOk_by h).kind

theorem snd_es (ih : Snd ca fa fd flds free n) {ce : CE} {X : Cx} {cx : Ctx} {k : Nat} {W : WX} {es : List Expr} {ds : Es} (G : Good ce X cx ca fa fd flds free k) (tk : Takes X W) (hs : noStar es = true) (h : cEs (n + 1) ce es = some ds) : SA X ca cx W es ds ∧ (es = [] → ds = .nil) := by
  cases es with
  | nil => rw [cEs] at h; cases h; exact ⟨sa_nil, fun _ => rfl⟩
  | cons e es =>
    rw [cEs] at h
    obtain ⟨x, h1, h⟩ := ob h
    obtain ⟨xs, h2, h⟩ := ob h
    cases h
    exact ⟨sa_cons hs (ih.e G tk h1).1 (ih.es G tk (noStar_tail hs) h2).1, fun z => by cases z⟩
theorem snd_ks (ih : Snd ca fa fd flds free n) {ce : CE} {X : Cx} {cx : Ctx} {k : Nat} {W : WX} {es : List Keyword} {ds : Es} (G : Good ce X cx ca fa fd flds free k) (tk : Takes X W) (h : cKs (n + 1) ce es = some ds) : SK X ca cx W es ds := by
  cases es with
  | nil => rw [cKs] at h; cases h; exact sk_nil
  | cons e es =>
    obtain ⟨nm, e, p⟩ := e
    rw [cKs] at h
    obtain ⟨x, h1, h⟩ := ob h
    obtain ⟨xs, h2, h⟩ := ob h
    cases h
    exact sk_cons (ih.e G tk h1).1 (ih.ks G tk h2)
theorem snd_o (ih : Snd ca fa fd flds free n) {ce : CE} {X : Cx} {cx : Ctx} {k : Nat} {W : WX} {e : Option Expr} {c : Oe} (G : Good ce X cx ca fa fd flds free k) (tk : Takes X W) (h : cO (n + 1) ce e = some c) : SO X ca cx W e c := by
  cases e with
  | none => rw [cO] at h; cases h; exact so_none
  | some e =>
    rw [cO] at h
    obtain ⟨x, h1, h⟩ := om h
    subst h
    exact so_some (ih.e G tk h1).1
theorem snd_o2 (ih : Snd ca fa fd flds free n) {ce : CE} {X : Cx} {cx : Ctx} {k : Nat} {e : List Expr} {c : Oe} (G : Good ce X cx ca fa fd flds free k) (h : cO2 (n + 1) ce e = some c) : SO2 X ca cx e c := by
  match e, h with
  | [], h => rw [cO2] at h; cases h; exact so2_none
  | [e], h =>
    rw [cO2] at h
    split at h
    · cases h
    · rename_i hi
      obtain ⟨x, h1, h⟩ := om h
      subst h
      exact so2_some ((ih.e G takes0 h1).2.1 (by simpa using hi))
  | _ :: _ :: _, h =>
    rw [cO2] at h
    · cases h
    all_goals simp
theorem snd_ts (ih : Snd ca fa fd flds free n) {ce : CE} {X : Cx} {cx : Ctx} {k : Nat} {t : List Expr} {c : Ts} {is : List Nat} (G : Good ce X cx ca fa fd flds free k) (hs : noStar t = true) (h : cTs (n + 1) ce t = some (c, is)) : SGs X ca cx is t c ∧ t.length = tsLen c := by
  cases t with
  | nil => rw [cTs] at h; cases h; exact ⟨sgs_nil, rfl⟩
  | cons t ts =>
    rw [cTs] at h
    obtain ⟨⟨x, is1⟩, h1, h⟩ := ob h
    obtain ⟨⟨xs, js⟩, h2, h⟩ := om h
    cases h
    obtain ⟨g1, g2⟩ := ih.ts G (noStar_tail hs) h2
    exact ⟨sgs_cons hs ((ih.t G h1).mono fun i hi => List.mem_append_left _ hi) (g1.mono fun i hi => List.mem_append_right _ hi), by simp [tsLen, g2]⟩
theorem snd_t (ih : Snd ca fa fd flds free n) {ce : CE} {X : Cx} {cx : Ctx} {k : Nat} {t : Expr} {c : T} {is : List Nat} (G : Good ce X cx ca fa fd flds free k) (h : cT (n + 1) ce t = some (c, is)) : SG X ca cx is t c := by
  cases t with
  | Name x p =>
    rw [cT] at h
    obtain ⟨h0, h⟩ := oif h
    obtain ⟨i, h1, h⟩ := om h
    cases h
    obtain ⟨l1, l2⟩ := G.loc h0
    exact sg_name G.ok.nd (G.ix h1) l1 l2
  | Tuple es j p =>
    rw [cT] at h
    obtain ⟨h0, h⟩ := oif h
    obtain ⟨⟨ts, js⟩, h1, h⟩ := om h
    cases h
    obtain ⟨g1, g2⟩ := ih.ts G h0 h1
    exact sg_tup G.ok.calm h0 g2 g1
  | «Attribute» o f p =>
    rw [cT] at h
    obtain ⟨h0, h⟩ := oif h
    obtain ⟨x, h1, h⟩ := om h
    cases h
    exact sg_fld G.ok (by rw [G.flds]; exact contains_mem h0) (ih.e G takes0 h1).1
  | Subscript o i p =>
    rw [cT] at h
    obtain ⟨h0, h⟩ := oif h
    obtain ⟨x, h1, h⟩ := ob h
    obtain ⟨y, h2, h⟩ := om h
    cases h
    exact sg_idx G.ok h0 (ih.e G takes0 h1).1 (ih.e G takes0 h2).1
  | _ =>
    rw [cT] at h
    · cases h
    all_goals simp
theorem snd_i (ih : Snd ca fa fd flds free n) {ce : CE} {X : Cx} {cx : Ctx} {k : Nat} {W : WX} {tg it : Expr} {c : I} (G : Good ce X cx ca fa fd flds free k) (tk : Takes X W) (h : cI (n + 1) ce tg it = some c) : SI X ca cx W tg it c := by
  unfold cI at h
  have seq : ∀ {it : Expr}, (cE n ce it).map I.seq = some c → SI X ca cx W tg it c := fun h => by
    obtain ⟨x, h1, h⟩ := om h
    subst h
    exact si_seq (ih.e G tk h1).1
  split at h
  · split at h
    · rename_i hx
      obtain ⟨h0, h⟩ := oif h
      obtain ⟨h0, h2⟩ := He.ba h0
      obtain ⟨h0, h1⟩ := He.ba h0
      obtain ⟨x, h3, h⟩ := om h
      subst h hx
      exact si_rng1 (G.gl h0).1 (G.free _ (contains_mem h1)) h2 (ih.e G tk h3).1
    · split at h
      · rename_i hx
        obtain ⟨h0, h⟩ := oif h
        obtain ⟨q0, h4⟩ := He.ba h0
        obtain ⟨q1, h2⟩ := He.ba q0
        obtain ⟨q2, h1⟩ := He.ba q1
        obtain ⟨x, h3, h⟩ := om h
        obtain ⟨es, j, p, et⟩ := isTup_ok h4
        subst h hx et
        exact si_enum (G.gl q2).1 (G.free _ (contains_mem h1)) h2 (ih.e G tk h3).1
      · exact seq h
  · split at h
    · rename_i hx
      obtain ⟨h0, h⟩ := oif h
      obtain ⟨h0, h2⟩ := He.ba h0
      obtain ⟨h0, h1⟩ := He.ba h0
      obtain ⟨x, h3, h⟩ := ob h
      obtain ⟨y, h5, h⟩ := om h
      subst h hx
      exact si_rng2 (G.gl h0).1 (G.free _ (contains_mem h1)) h2 (ih.e G tk h3).1 (ih.e G tk h5).1
    · split at h
      · rename_i hx
        obtain ⟨h0, h⟩ := oif h
        obtain ⟨q0, h4⟩ := He.ba h0
        obtain ⟨q1, h2⟩ := He.ba q0
        obtain ⟨q2, h1⟩ := He.ba q1
        obtain ⟨x, h3, h⟩ := ob h
        obtain ⟨y, h5, h⟩ := om h
        obtain ⟨es, j, p, et⟩ := isTup_ok h4
        subst h hx et
        exact si_zip (G.gl q2).1 (G.free _ (contains_mem h1)) h2 (ih.e G tk h3).1 (ih.e G tk h5).1
      · exact seq h
  · exact seq h
theorem snd_e (ih : Snd ca fa fd flds free n) {ce : CE} {X : Cx} {cx : Ctx} {k : Nat} {W : WX} {e : Expr} {c : E} (G : Good ce X cx ca fa fd flds free k) (tk : Takes X W) (h : cE (n + 1) ce e = some c) :
    SE X ca cx W e c ∧ (isIfE e = false → ST X ca cx W e c) ∧ (∀ op vs p, e = .BoolOp op vs p → SW X ca cx W e c) := by
  cases e with
  | Constant v j p =>
    unfold cE at h
    try simp only at h
    cases v with
    | none => cases h; exact pair_of (se_cst pe_non fun _ _ => rep_non.mpr rfl) rfl (by simp)
    | bool b => cases h; exact pair_of (se_cst pe_bl fun _ _ => rep_bl.mpr rfl) rfl (by simp)
    | int i => cases h; exact pair_of (se_cst pe_int fun _ _ => rep_int.mpr rfl) rfl (by simp)
    | str x => cases h; exact pair_of (se_cst pe_str fun _ _ => rep_str.mpr rfl) rfl (by simp)
    | _ => cases h
  | Name x p =>
    unfold cE at h
    try simp only at h
    obtain ⟨h0, h⟩ := oif h
    obtain ⟨h1, h2⟩ := He.ba h0
    obtain ⟨h3, h4⟩ := He.ba h1
    obtain ⟨i, h5, h⟩ := om h
    subst h
    exact pair_of (se_var (G.ix h5) (G.vis h3) (by simpa using h4) (by simpa using h2)) rfl (by simp)
  | BinOp a op b p =>
    unfold cE at h
    try simp only at h
    obtain ⟨o, h1, h⟩ := ob h
    obtain ⟨x, h2, h⟩ := ob h
    obtain ⟨y, h3, h⟩ := ob h
    cases h
    rw [bopC_ok h1]
    exact pair_of (se_bin o (ih.e G tk h2).1 (ih.e G tk h3).1) rfl (by simp)
  | UnaryOp op a p =>
    unfold cE at h
    try simp only at h
    cases op with
    | Not =>
      try simp only at h
      split at h
      · cases h
      · rename_i hi
        obtain ⟨x, h1, h⟩ := om h
        subst h
        have q := ih.e G tk h1
        exact ⟨se_not q.1, fun _ => st_not (q.2.1 (by simpa using hi)), fun _ _ _ e => by cases e⟩
    | USub =>
      try simp only at h
      split at h
      · cases h
        refine pair_of (PE.imp (pe_un un_neg pe_int) fun σ H Q ⟨ρ, S, μ, er, r, q⟩ => ?_) rfl (by simp)
        rw [evE] at q
        exact ⟨_, rfl, post_here r q (rep_int.mpr rfl)⟩
      · cases h
    | _ => cases h
  | BoolOp op vs p =>
    match vs, h with
    | [], h => unfold cE at h; cases h
    | [a], h =>
      unfold cE at h
      try simp only at h
      split at h
      · cases h
      · rename_i hi
        have q := ih.e G tk h
        have qt := q.2.1 (by simpa using hi)
        have qw : SW X ca cx W (.BoolOp op [a] p) c := by cases op <;> first | exact sw_and1 qt | exact sw_or1 qt
        exact ⟨pe_one q.1, fun _ => qw.pt, fun _ _ _ e => by cases e; exact qw⟩
    | a :: b :: r, h =>
      unfold cE at h
      try simp only at h
      split at h
      · cases h
      · rename_i hi
        obtain ⟨x, h1, h⟩ := ob h
        obtain ⟨y, h2, h⟩ := ob h
        have q1 := ih.e G tk h1
        have q2 := ih.e G tk h2
        have qt := q1.2.1 (by simpa using hi)
        cases op with
        | And =>
          cases h
          have qw := sw_and qt (q2.2.2 _ _ _ rfl)
          exact ⟨se_and q1.1 q2.1, fun _ => qw.pt, fun _ _ _ e => by cases e; exact qw⟩
        | Or =>
          cases h
          have qw := sw_or qt (q2.2.2 _ _ _ rfl)
          exact ⟨se_or q1.1 q2.1, fun _ => qw.pt, fun _ _ _ e => by cases e; exact qw⟩
  | Compare a ops bs p =>
    unfold cE at h
    try simp only at h
    split at h
    · split at h
      · obtain ⟨h0, h⟩ := oif h
        obtain ⟨x, h1, h⟩ := om h
        obtain ⟨j, p2, eb⟩ := isN_ok h0
        subst h eb
        exact ⟨se_isN (ih.e G tk h1).1, fun _ => st_isN (ih.e G tk h1).1, fun _ _ _ e => by cases e⟩
      · obtain ⟨h0, h⟩ := oif h
        obtain ⟨x, h1, h⟩ := om h
        obtain ⟨j, p2, eb⟩ := isN_ok h0
        subst h eb
        exact ⟨se_notN (ih.e G tk h1).1, fun _ => st_notN (ih.e G tk h1).1, fun _ _ _ e => by cases e⟩
      · obtain ⟨o, h1, h⟩ := ob h
        obtain ⟨x, h2, h⟩ := ob h
        obtain ⟨y, h3, h⟩ := ob h
        cases h
        rw [copC_ok h1]
        exact ⟨se_cmp G.ok o (ih.e G tk h2).1 (ih.e G tk h3).1, fun _ => st_cmp G.ok o (ih.e G tk h2).1 (ih.e G tk h3).1, fun _ _ _ e => by cases e⟩
    · cases h
  | IfExp a b d p =>
    unfold cE at h
    try simp only at h
    split at h
    · cases h
    · rename_i hi
      obtain ⟨x, h1, h⟩ := ob h
      obtain ⟨y, h2, h⟩ := ob h
      obtain ⟨z, h3, h⟩ := ob h
      cases h
      exact ⟨se_ite ((ih.e G tk h1).2.1 (by simpa using hi)) (ih.e G tk h2).1 (ih.e G tk h3).1, (fun e => by cases e), (fun _ _ _ e => by cases e)⟩
  | Tuple es j p =>
    unfold cE at h
    try simp only at h
    obtain ⟨h0, h⟩ := oif h
    obtain ⟨x, h1, h⟩ := om h
    subst h
    exact pair_of (se_tup (ih.es G tk h0 h1).1) rfl (by simp)
  | List es p =>
    unfold cE at h
    try simp only at h
    obtain ⟨h0, h⟩ := oif h
    obtain ⟨x, h1, h⟩ := om h
    subst h
    exact pair_of (se_lst (ih.es G tk h0 h1).1) rfl (by simp)
  | Subscript a i p =>
    unfold cE at h
    try simp only at h
    split at h
    · obtain ⟨x, h1, h⟩ := ob h
      obtain ⟨y, h2, h⟩ := ob h
      obtain ⟨z, h3, h⟩ := ob h
      cases h
      exact pair_of (se_slc (ih.e G tk h1).1 (ih.o G tk h2) (ih.o G tk h3)) rfl (by simp)
    · obtain ⟨h0, h⟩ := oif h
      obtain ⟨x, h1, h⟩ := ob h
      obtain ⟨y, h2, h⟩ := ob h
      cases h
      exact pair_of (se_idx h0 (ih.e G tk h1).1 (ih.e G tk h2).1) rfl (by simp)
  | «Attribute» o f p =>
    unfold cE at h
    try simp only at h
    obtain ⟨h0, h⟩ := oif h
    obtain ⟨x, h1, h⟩ := om h
    subst h
    exact pair_of (se_fld G.ok (fun c g fi => G.wf.prop1 c f g fi) (fun c g => G.wf.propE c f g) h0 (ih.e G tk h1).1) rfl (by simp)
  | Call f es kws p =>
    unfold cE at h
    try simp only at h
    split at h
    · rename_i x px
      split at h
      · rename_i hs hts
        split at h
        · rename_i body scope lpos
          obtain ⟨h0, h⟩ := oif h
          obtain ⟨y, h1, h⟩ := om h
          subst h
          exact pair_of (snd_told ih G hts h0 h1) rfl (by simp)
        · cases h
      obtain ⟨h0, h⟩ := oif h
      obtain ⟨h1, h2⟩ := He.ba h0
      obtain ⟨g1, g2⟩ := G.gl h1
      split at h
      · rename_i i hi
        obtain ⟨ks, h3, h⟩ := ob h
        obtain ⟨ds, h4, h⟩ := ob h
        obtain ⟨kds, h5, h⟩ := ob h
        cases h
        obtain ⟨sg, s1, s2⟩ := findIx_ok hi
        obtain ⟨fi, s3, s4, s5⟩ := mem_sig G.sigs s1
        have q := ih.es G tk h2 h4
        exact pair_of (se_call G.ok tk s3 (by rw [s4]; exact of_decide_eq_true s2) g1 g2 h2 h3 q.2 q.1 (ih.ks G tk h5)) rfl (by simp)
      · split at h
        · rename_i c hc
          obtain ⟨hi, h⟩ := oif h
          obtain ⟨ks, h3, h⟩ := ob h
          obtain ⟨ds, h4, h⟩ := ob h
          obtain ⟨kds, h5, h⟩ := ob h
          cases h
          obtain ⟨ci, s1, s2⟩ := findIx_ok hc
          obtain ⟨s2, s3⟩ := He.ba s2
          have s2 : ci.name = x := by simpa using s2
          have q := ih.es G tk h2 h4
          unfold inst? at hi
          rw [s1] at hi
          simp only [s3, if_true] at hi
          have hci : cx.tb.cls[c]? = some ci := by rw [G.cls]; exact s1
          have hin : cx.tb.inst c = true := by unfold Tb.inst; rw [hci]; exact s3
          cases hm : ci.meths.lookup ("__init__" : Str) with
          | none => rw [hm] at hi; cases hi
          | some fx =>
            have hmm : methOf cx.tb c "__init__" = some fx := by unfold methOf; rw [hci]; exact hm
            obtain ⟨fi, hfi⟩ := G.wf.methE _ _ _ hmm
            subst s2
            exact pair_of (se_mk G.ok tk hci hin hmm hfi g1 g2 h2 h3 q.2 q.1 (ih.ks G tk h5)) rfl (by simp)
        · split at h
          · rename_i hx
            obtain ⟨h3, h⟩ := oif h
            split at h
            · obtain ⟨h4, h⟩ := oif h
              obtain ⟨h5, h6⟩ := He.ba h4
              obtain ⟨h7, h8⟩ := He.ba h5
              obtain ⟨ty, h9, h⟩ := ob h
              obtain ⟨y, h10, h⟩ := om h
              subst h hx
              obtain ⟨b1, b2⟩ := tyC_ok h9
              exact pair_of (se_isi G.ok g1 (G.free _ (contains_mem h3)) h6 (G.gl h7).1 (G.free _ (contains_mem h8)) b1 b2 (G.gl h7).2 (ih.e G tk h10).1) rfl (by simp)
            · cases h
          · split at h
            · obtain ⟨y, h10, h⟩ := om h
              subst h
              exact pair_of (se_blt G.ok G.wf.len1 (G.blt _ (lookup_mem (by assumption))) g1 g2 h2 (ih.es G tk h2 h10).1) rfl (by simp)
            · cases h
    · rename_i o m apos
      obtain ⟨h0, h⟩ := oif h
      obtain ⟨h1, h2⟩ := He.ba h0
      obtain ⟨h3, h4⟩ := He.ba h1
      split at h
      · rename_i hm
        split at h
        · obtain ⟨x, h5, h⟩ := ob h
          obtain ⟨y, h6, h⟩ := ob h
          cases h
          subst hm
          exact pair_of (se_append G.ok h3 h4 h2 (ih.e G tk h5).1 (ih.e G tk h6).1) rfl (by simp)
        · cases h
      · split at h
        · rename_i hm
          split at h
          · obtain ⟨x, h5, h⟩ := om h
            subst h hm
            exact pair_of (se_pop G.ok h3 h4 (ih.e G tk h5).1) rfl (by simp)
          · cases h
        · split at h
          · rename_i hlt
            obtain ⟨ks, h5, h⟩ := ob h
            obtain ⟨x, h6, h⟩ := ob h
            obtain ⟨ds, h7, h⟩ := ob h
            obtain ⟨kds, h8, h⟩ := ob h
            cases h
            have q := ih.es G tk h2 h7
            exact pair_of (se_mth G.ok tk h3 h2 h5 h4 hlt q.2 (ih.e G tk h6).1 q.1 (ih.ks G tk h8)) rfl (by simp)
          · cases h
    · cases h
  | ListComp elt gens scope p =>
    unfold cE at h
    simp only at h
    obtain ⟨h0, h⟩ := oif h
    have hk := blk_kind h0
    have ok : BlkOk X.N X.env.scope scope (ownC ce.N scope) := by
      rw [G.N, G.sc]
      exact blkOk_by h0
    split at h
    · obtain ⟨h1, h⟩ := oif h
      obtain ⟨i, h2, h⟩ := ob h
      obtain ⟨⟨t, is⟩, h3, h⟩ := ob h
      obtain ⟨h4, h⟩ := oif h
      obtain ⟨co, h5, h⟩ := ob h
      obtain ⟨x, h6, h⟩ := ob h
      cases h
      exact pair_of (se_comp G.ok (ih.i G tk h2) ok (fun i hi => by simpa using List.all_eq_true.mp h4 i hi) (fun s H C cl fp => ih.t (G.blk hk s H C cl fp) h3) (fun s H C cl fp => ih.o2 (G.blk hk s H C cl fp) h5) (fun s H C cl fp => (ih.e (G.blk hk s H C cl fp) takes0 h6).1) (folded_of h1 _)) rfl (by simp)
    · obtain ⟨h1, h⟩ := oif h
      obtain ⟨h1, h1'⟩ := He.ba h1
      obtain ⟨i, h2, h⟩ := ob h
      obtain ⟨⟨t, is⟩, h3, h⟩ := ob h
      obtain ⟨i2, h2', h⟩ := ob h
      obtain ⟨⟨t2, is2⟩, h3', h⟩ := ob h
      obtain ⟨h4, h⟩ := oif h
      obtain ⟨h4, h4'⟩ := He.ba h4
      obtain ⟨x, h6, h⟩ := ob h
      cases h
      exact pair_of (se_comp2 G.ok (ih.i G tk h2) ok (fun i hi => by simpa using List.all_eq_true.mp h4' i hi) (fun i hi => by simpa using List.all_eq_true.mp h4 i hi) (fun i hi => hi) (fun s H C cl fp => ih.t (G.blk hk s H C cl fp) h3) (fun s H C cl fp => ih.i (G.blk hk s H C cl fp) takes0 h2')
        (fun s H C cl fp => ih.t (G.blk hk s H C cl fp) h3') (fun s H C cl fp => (ih.e (G.blk hk s H C cl fp) takes0 h6).1) (folded_of h1 _) (folded_of h1')) rfl (by simp)
    · cases h
  | _ =>
    unfold cE at h
    cases h
theorem snd : ∀ n, Snd ca fa fd flds free n
  | 0 => ⟨(fun _ _ h => by unfold cE at h; cases h), (fun _ _ _ h => by unfold cEs at h; cases h), (fun _ _ h => by unfold cKs at h; cases h), (fun _ _ h => by unfold cO at h; cases h), (fun _ h => by unfold cO2 at h; cases h), (fun _ _ h => by unfold cI at h; cases h), (fun _ h => by unfold cT at h; cases h), (fun _ _ h => by unfold cTs at h; cases h)⟩
  | n + 1 => ⟨snd_e (snd n), snd_es (snd n), snd_ks (snd n), snd_o (snd n), snd_o2 (snd n), snd_i (snd n), snd_t (snd n), snd_ts (snd n)⟩
end
end Pl

set_option Elab.async false
set_option linter.all false
set_option maxRecDepth 100000
set_option maxHeartbeats 4000000
/-! Pl19: statements. -/
namespace Pl
open PySem PySem.Spec PyProof.Rows L2

def notComp : Expr → Bool
  | .ListComp _ _ _ _ => false
  | .SetComp _ _ _ _ => false
  | .DictComp _ _ _ _ _ => false
  | _ => true
theorem swaps_not {e : Expr} {t : Option Expr} {l : Nat} {env : PySem.Env} (h : notComp e = true) : swapsWith e t l env = pure false := by
  cases e <;> first | rfl | cases h
def isStar : Expr → Bool
  | .Starred .. => true
  | _ => false
def bkS (sc : Scope) : ScopeKind := if sc.kind.isAnnotationScope then .function else sc.kind
def nameAt (sc : Scope) (line : Nat) : Expr → Option Str
  | .Name id pos => if sc.names.lookup id == some .local && pos.line == line then some id else none
  | _ => none
def namesC (sc : Scope) (ts : List Expr) : List Str := ts.filterMap (nameAt sc ((ts.head?.map (·.pos.line)).getD 0))
/-- the model's swappedStores, of two tuples, by the scope alone -/
def swC (sc : Scope) (ts vs : List Expr) : Option (Option (List Str)) :=
  if (!(ts.length == 2 || ts.length == 3) || vs.length != ts.length || bkS sc != .function) = true then some none
  else if vs.any isStar = true then some none
  else if ((namesC sc ts).length != ts.length || (namesC sc ts).eraseDups.length != (namesC sc ts).length) = true then some none
  else if vs.all (foldedForSure 8) = true then some none
  else if vs.all (constantsAlone 8) = true then none
  else some (some (namesC sc ts))
theorem sw_eq {env : PySem.Env} {ts vs : List Expr} {j j' : Nat} {p p' : Pos} : swappedStores [.Tuple ts j p] (.Tuple vs j' p') env =
    (if (!(ts.length == 2 || ts.length == 3) || vs.length != ts.length || bkS env.scope != .function) = true then pure none
    else if vs.any isStar = true then pure none
    else if ((namesC env.scope ts).length != ts.length || (namesC env.scope ts).eraseDups.length != (namesC env.scope ts).length) = true then pure none
    else if vs.all (foldedForSure 8) = true then pure none
    else if vs.all (constantsAlone 8) = true then (do unsupported "assign.tuple-of-constant-expressions:order-of-the-stores"; pure (some (namesC env.scope ts)))
    else pure (some (namesC env.scope ts))) := by
  unfold swappedStores
  rfl
theorem swC_ok {env : PySem.Env} {ts vs : List Expr} {r : Option (List Str)} {j j' : Nat} {p p' : Pos} (h : swC env.scope ts vs = some r) : swappedStores [.Tuple ts j p] (.Tuple vs j' p') env = pure r := by
  rw [sw_eq]
  unfold swC at h
  split at h
  · rename_i h1
    cases h
    rw [if_pos h1]
  · rename_i h1
    rw [if_neg h1]
    split at h
    · rename_i h2
      cases h
      rw [if_pos h2]
    · rename_i h2
      rw [if_neg h2]
      split at h
      · rename_i h3
        cases h
        rw [if_pos h3]
      · rename_i h3
        rw [if_neg h3]
        split at h
        · rename_i h4
          cases h
          rw [if_pos h4]
        · rename_i h4
          rw [if_neg h4]
          split at h
          · cases h
          · rename_i h5
            cases h
            rw [if_neg h5]
theorem sw_none1 {tg e : Expr} {env : PySem.Env} (h : isTupE e = false) : swappedStores [tg] e env = pure none := by
  unfold swappedStores
  split
  · rename_i ts vs heq
    split at heq
    · cases h
    · cases h
    · cases heq
  · rfl
theorem sw_none2 {tg e : Expr} {env : PySem.Env} (h : isTupE tg = false) (h2 : ∀ es p, tg ≠ .List es p) : swappedStores [tg] e env = pure none := by
  cases tg with
  | Tuple es j p => cases h
  | List es p => exact absurd rfl (h2 _ _)
  | _ => rfl
/-- whether an assignment of a block's list is told by another rule -/
def swL (sc : Scope) (x : Str) (pos : Pos) (e : Expr) : Bool := match e with
  | .ListComp _ _ s p => bkS sc == .function && sc.names.lookup x == some .local && pos.line == p.line && !(s.names.any fun (n, k) => n == x && (k == .local || k == .cell))
  | _ => false
theorem swL_ok {env : PySem.Env} {x : Str} {pos p : Pos} {elt : Expr} {gens : List Comprehension} {s : Scope} {l : Nat} : swapsWith (.ListComp elt gens s p) (some (.Name x pos)) l env = pure (swL env.scope x pos (.ListComp elt gens s p)) := rfl
def cZ1 (ce : CE) : Stmt → Option C
  | .Pass _ => some .pass
  | .Assign [.Name x _] (.Constant c _ _) _ => if ce.loc x then (ixOf x ce.N).bind fun i => match c with
      | .none => some (.asg (.name i) (.cst .non))
      | .bool b => some (.asg (.name i) (.cst (.bl b)))
      | .int j => some (.asg (.name i) (.cst (.int j)))
      | _ => none else none
  | .Return (some (.Constant c _ _)) _ => match c with
      | .none => some (.ret (.cst .non))
      | .bool b => some (.ret (.cst (.bl b)))
      | .int j => some (.ret (.cst (.int j)))
      | _ => none
  | _ => none
def cZ (ce : CE) : List Stmt → Option Cs
  | [] => some .nil
  | s :: r => (cZ1 ce s).bind fun c => (cZ ce r).map (.cons c)
mutual
def cS : Nat → CE → Stmt → Option C
  | 0, _, _ => none
  | n + 1, ce, st => match st with
    | .Pass _ => some .pass
    | .Break _ => some .brk
    | .Continue _ => some .cnt
    | .Expr e _ => if notComp e then (cE n ce e).map .expr else none
    | .Return none _ => some (.ret (.cst .non))
    | .Return (some e) _ => (cE n ce e).map .ret
    | .Assign [tg] e _ => match tg with
      | .Name x px => (cE n ce e).bind fun c => (cT n ce tg).bind fun (t, is) => if notComp e || (match e with
          | .ListComp _ _ _ _ => true
          | _ => false) then some (.asg t c) else none
      | .Tuple ts _ _ => match e with
        | .Tuple vs _ _ => match swC ce.sc ts vs with
          | some none => (cE n ce e).bind fun c => (cT n ce tg).bind fun (t, _) => some (.asg t c)
          | some (some names) => match ts, vs with
            | [.Name x _, .Name y _], [a, b] => if decide (names = [x, y]) && decide (ce.kindOf x = some .local) && decide (ce.kindOf y = some .local) && noStar [a, b] then (cEs n ce [a, b]).bind fun es => (ixOf x ce.N).bind fun i => (ixOf y ce.N).bind fun j => if i = j then none else some (.par [i, j] es) else none
            | [.Name x _, .Name y _, .Name z _], [a, b, c] => if decide (names = [x, y, z]) && decide (ce.kindOf x = some .local) && decide (ce.kindOf y = some .local) && decide (ce.kindOf z = some .local) && noStar [a, b, c] then
                (cEs n ce [a, b, c]).bind fun es => (ixOf x ce.N).bind fun i => (ixOf y ce.N).bind fun j => (ixOf z ce.N).bind fun l => if i = j ∨ i = l ∨ j = l then none else some (.par [i, j, l] es) else none
            | _, _ => none
          | none => none
        | e => (cE n ce e).bind fun c => (cT n ce tg).bind fun (t, _) => some (.asg t c)
      | .Attribute _ _ _ => (cE n ce e).bind fun c => (cT n ce tg).bind fun (t, _) => some (.asg t c)
      | .Subscript _ _ _ => (cE n ce e).bind fun c => (cT n ce tg).bind fun (t, _) => some (.asg t c)
      | _ => none
    | .AugAssign (.Name x _) op e _ => if ce.loc x then (bopC op).bind fun o => (ixOf x ce.N).bind fun i => (cE n ce e).bind fun c => match o with
        | .add => some (.aug i .add c)
        | .sub => some (.aug i .sub c)
        | _ => none else none
    | .If c a b _ => if isIfE c then none else (cE n ce c).bind fun x => (cSs n ce a).bind fun y => (cSs n ce b).bind fun z => some (.ite x y z)
    | .While c b [] _ => if isIfE c then none else (cE n ce c).bind fun x => (cSs n ce b).bind fun y => some (.whl x y)
    | .For tg it b [] _ => if notSet it then (cI n ce tg it).bind fun i => (cT n ce tg).bind fun (t, _) => (cSs n ce b).bind fun y => some (.for_ t i y) else none
    | .Raise (some (.Call (.Name x _) [.Constant (.str _) _ _] [] _)) none _ => match findIx (fun ci : Ci => ci.name = x && (ci.exc && ci.meths.isEmpty)) ce.cls with
        | some c => if ce.gl x then some (.raise c) else none
        | none => some .never
    | .Raise (some (.Call (.Name x _) [e] [] _)) none _ => match findIx (fun ci : Ci => decide (ci.name = x)) ce.cls with
        | some c => (match ce.inits.lookup c with
          | some f => if ce.gl x && noStar [e] then (cE n ce e).map (.raiseF c f) else none
          | none => some .never)
        | none => some .never
    | .Raise _ _ _ => some .never
    | .Try body (h :: hs) [] [] _ => (cSs n ce body).bind fun b => (cHs n ce (h :: hs)).bind fun hh => some (.tryx b hh)
    | _ => none
def cSs : Nat → CE → List Stmt → Option Cs
  | 0, _, _ => none
  | _ + 1, _, [] => some .nil
  | n + 1, ce, s :: r => (cS n ce s).bind fun c => (cSs n ce r).map (.cons c)
def cHs : Nat → CE → List ExceptHandler → Option Hs
  | 0, _, _ => none
  | _ + 1, _, [] => some .nil
  | n + 1, ce, .ExceptHandler (some (.Name x _)) none (b :: bs) _ :: r => (match findIx (fun ci : Ci => ci.name = x && ci.exc) ce.cls with
      | some c => if ce.gl x then (cZ ce (b :: bs)).bind fun cs => (cHs n ce r).map (.cons c cs) else none
      | none => none)
  | _ + 1, _, _ => none
end
end Pl

set_option Elab.async false
set_option linter.all false
set_option maxRecDepth 100000
set_option maxHeartbeats 4000000
/-! Pl19b: the compiler's statements are sound. -/
namespace Pl
open PySem PySem.Spec PyProof.Rows L2
section
variable {ca : CA} {fa : Nat → Addr} {fd : Nat → FuncData} {flds free : List Str} {ce : CE} {X : Cx} {cx : Ctx} {k : Nat} {W : WX}
theorem const_cst {W : WX} {i : Nat} {p : Pos} : (∀ b, SE X ca cx W (.Constant (.bool b) i p) (.cst (.bl b))) ∧ (∀ j, SE X ca cx W (.Constant (.int j) i p) (.cst (.int j))) ∧ SE X ca cx W (.Constant .none i p) (.cst .non) :=
  ⟨fun b => se_cst pe_bl fun _ _ => rep_bl.mpr rfl, fun j => se_cst pe_int fun _ _ => rep_int.mpr rfl, se_cst pe_non fun _ _ => rep_non.mpr rfl⟩
/-- an except clause's suite -/
theorem snd_z1 (G : Good ce X cx ca fa fd flds free k) (a : Addr) (pn : List (Addr × Obj)) {st : Stmt} {c : C} (h : cZ1 ce st = some c) : SS (X.suite a pn) ca cx W0 st c := by
  unfold cZ1 at h
  split at h
  · cases h; exact ss_pass
  · rename_i x px v j pv pos
    obtain ⟨h0, h⟩ := oif h
    obtain ⟨i, h1, h⟩ := ob h
    obtain ⟨l1, l2⟩ := G.loc h0
    have sg : SG (X.suite a pn) ca cx [i] (.Name x px) (.name i) := sg_name (X := X.suite a pn) G.ok.nd (G.ix h1) l1 l2
    cases v with
    | none => cases h; exact ss_asg const_cst.2.2 sg rfl rfl rfl
    | bool b => cases h; exact ss_asg (const_cst.1 b) sg rfl rfl rfl
    | int m => cases h; exact ss_asg (const_cst.2.1 m) sg rfl rfl rfl
    | _ => cases h
  · rename_i v j pv pos
    cases v with
    | none => cases h; exact ss_ret const_cst.2.2
    | bool b => cases h; exact ss_ret (const_cst.1 b)
    | int m => cases h; exact ss_ret (const_cst.2.1 m)
    | _ => cases h
  · cases h
theorem snd_z (G : Good ce X cx ca fa fd flds free k) (a : Addr) (pn : List (Addr × Obj)) : ∀ {st : List Stmt} {c : Cs}, cZ ce st = some c → SSs (X.suite a pn) ca cx W0 st c
  | [], c, h => by cases h; exact sss_nil
  | s :: r, c, h => by
    unfold cZ at h
    obtain ⟨x, h1, h⟩ := ob h
    obtain ⟨y, h2, h⟩ := om h
    subst h
    exact sss_cons (snd_z1 G a pn h1) (snd_z G a pn h2)
theorem Good.tr (G : Good ce X cx ca fa fd flds free k) (pn : List (Addr × Obj)) (xe : Value → Shared → Prop) : Good ce (X.tr pn xe) cx ca fa fd flds free k :=
  { ok := { tbl := G.ok.tbl, call := G.ok.call, callM := G.ok.callM, lam := G.ok.lam, lv := G.ok.lv, room := G.ok.room, guards := G.ok.guards, nd := G.ok.nd, calm := G.ok.calm, kind := G.ok.kind }
    N := G.N, sc := G.sc, fn := G.fn, cls := G.cls, sigs := G.sigs, flds := G.flds, free := G.free, blt := G.blt, wf := G.wf, told := G.told, ini := G.ini, mkl := G.mkl }
/-- a def's own context, no block -/
structure Top (X : Cx) : Prop where
  stk : X.stack = X.env :: X.outer
  frm : X.env.frame = some X.env.locals
end
section
variable (ca : CA) (fa : Nat → Addr) (fd : Nat → FuncData) (flds free : List Str)
structure SndS (n : Nat) : Prop where
  s : ∀ {ce : CE} {X : Cx} {cx : Ctx} {k : Nat} {W : WX} {st : Stmt} {c : C}, Good ce X cx ca fa fd flds free k → Takes X W → PassesOwn (model X.prog X.w) X.A X.env X.xe → Top X → cS n ce st = some c → SS X ca cx W st c
  ss : ∀ {ce : CE} {X : Cx} {cx : Ctx} {k : Nat} {W : WX} {st : List Stmt} {c : Cs}, Good ce X cx ca fa fd flds free k → Takes X W → PassesOwn (model X.prog X.w) X.A X.env X.xe → Top X → cSs n ce st = some c → SSs X ca cx W st c
  hs : ∀ {ce : CE} {X : Cx} {cx : Ctx} {k : Nat} {st : List ExceptHandler} {c : Hs}, Good ce X cx ca fa fd flds free k → cHs n ce st = some c → ∃ l, SHs X ca cx st c l
end
section
variable {ca : CA} {fa : Nat → Addr} {fd : Nat → FuncData} {flds free : List Str} {n : Nat} {ce : CE} {X : Cx} {cx : Ctx} {k : Nat} {W : WX}
theorem snd_hs (ih : SndS ca fa fd flds free n) {st : List ExceptHandler} {c : Hs} (G : Good ce X cx ca fa fd flds free k) (h : cHs (n + 1) ce st = some c) : ∃ l, SHs X ca cx st c l := by
  cases st with
  | nil => unfold cHs at h; cases h; exact ⟨_, .nil⟩
  | cons e r =>
    obtain ⟨ty, nm, body, pp⟩ := e
    cases ty with
    | none => unfold cHs at h; cases h
    | some ty =>
      cases ty with
      | Name x px =>
        cases nm with
        | some nm => unfold cHs at h; cases h
        | none =>
          cases body with
          | nil => unfold cHs at h; cases h
          | cons b bs =>
            unfold cHs at h
            try simp only at h
            split at h
            · rename_i c hc
              obtain ⟨h0, h⟩ := oif h
              obtain ⟨cs, h1, h⟩ := ob h
              obtain ⟨hh, h2, h⟩ := om h
              subst h
              obtain ⟨ci, s1, s2⟩ := findIx_ok hc
              obtain ⟨s2, s3⟩ := He.ba s2
              have s2 := of_decide_eq_true s2
              subst s2
              have hci : cx.tb.cls[c]? = some ci := by rw [G.cls]; exact s1
              have hce : cx.tb.exc c = true := by unfold Tb.exc; rw [hci]; exact s3
              obtain ⟨C, hC⟩ := G.ok.tbl.excA c hce
              obtain ⟨g1, g2⟩ := G.gl h0
              obtain ⟨l, hl⟩ := ih.hs G h2
              exact ⟨_, .cons hci hce hC g1 g2 (fun a pn => snd_z G a pn h1) hl⟩
            · cases h
      | _ => unfold cHs at h; cases h
theorem snd_ss (ih : SndS ca fa fd flds free n) {st : List Stmt} {c : Cs} (G : Good ce X cx ca fa fd flds free k) (tk : Takes X W) (hp : PassesOwn (model X.prog X.w) X.A X.env X.xe) (T : Top X) (h : cSs (n + 1) ce st = some c) : SSs X ca cx W st c := by
  cases st with
  | nil => unfold cSs at h; cases h; exact sss_nil
  | cons s r =>
    unfold cSs at h
    obtain ⟨x, h1, h⟩ := ob h
    obtain ⟨y, h2, h⟩ := om h
    subst h
    exact sss_cons (ih.s G tk hp T h1) (ih.ss G tk hp T h2)
/-- name = [..]: by what the model tells of the store -/
theorem snd_setL {elt : Expr} {gens : List Comprehension} {scope : Scope} {p px pos : Pos} {x : Str} {c : E} {t : T} {is : List Nat} (G : Good ce X cx ca fa fd flds free k) (tk : Takes X W) (h1 : cE n ce (.ListComp elt gens scope p) = some c) (h2 : cT n ce (.Name x px) = some (t, is)) :
    SS X ca cx W (.Assign [.Name x px] (.ListComp elt gens scope p) pos) (.asg t c) := by
  have S := @snd ca fa fd flds free
  by_cases hsw : swL X.env.scope x px (.ListComp elt gens scope p) = true
  · cases n with
    | zero => unfold cE at h1; cases h1
    | succ n =>
    have hl : X.env.scope.names.lookup x = some .local := by
      unfold swL at hsw
      obtain ⟨q, _⟩ := He.ba hsw
      obtain ⟨q, _⟩ := He.ba q
      obtain ⟨_, q⟩ := He.ba q
      simpa using q
    unfold cT at h2
    obtain ⟨h0, h2⟩ := oif h2
    obtain ⟨i, hi, h2⟩ := om h2
    cases h2
    have hs : swapsWith (.ListComp elt gens scope p) (some (.Name x px)) pos.line X.env = pure true := by rw [swL_ok, hsw]
    unfold cE at h1
    try simp only at h1
    obtain ⟨h0, h⟩ := oif h1
    have hk := blk_kind h0
    have ok : BlkOk X.N X.env.scope scope (ownC ce.N scope) := by
      rw [G.N, G.sc]
      exact blkOk_by h0
    split at h
    · obtain ⟨q1, h⟩ := oif h
      obtain ⟨i, q2, h⟩ := ob h
      obtain ⟨⟨t, is⟩, q3, h⟩ := ob h
      obtain ⟨q4, h⟩ := oif h
      obtain ⟨co, q5, h⟩ := ob h
      obtain ⟨x, q6, h⟩ := ob h
      cases h
      exact ss_setComp G.ok (G.ix hi) hl hs ((S n).i G tk q2) ok (fun i hi => by simpa using List.all_eq_true.mp q4 i hi) (fun s H C cl fp => (S n).t (G.blk hk s H C cl fp) q3) (fun s H C cl fp => (S n).o2 (G.blk hk s H C cl fp) q5) (fun s H C cl fp => ((S n).e (G.blk hk s H C cl fp) takes0 q6).1) (folded_of q1 _)
    · obtain ⟨q1, h⟩ := oif h
      obtain ⟨q1, q1'⟩ := He.ba q1
      obtain ⟨i, q2, h⟩ := ob h
      obtain ⟨⟨t, is⟩, q3, h⟩ := ob h
      obtain ⟨i2, q2', h⟩ := ob h
      obtain ⟨⟨t2, is2⟩, q3', h⟩ := ob h
      obtain ⟨q4, h⟩ := oif h
      obtain ⟨q4, q4'⟩ := He.ba q4
      obtain ⟨x, q6, h⟩ := ob h
      cases h
      exact ss_setComp2 G.ok (G.ix hi) hl hs ((S n).i G tk q2) ok (fun i hi => by simpa using List.all_eq_true.mp q4' i hi) (fun i hi => by simpa using List.all_eq_true.mp q4 i hi) (fun i hi => hi) (fun s H C cl fp => (S n).t (G.blk hk s H C cl fp) q3) (fun s H C cl fp => (S n).i (G.blk hk s H C cl fp) takes0 q2')
        (fun s H C cl fp => (S n).t (G.blk hk s H C cl fp) q3') (fun s H C cl fp => ((S n).e (G.blk hk s H C cl fp) takes0 q6).1) (folded_of q1 _) (folded_of q1')
    · cases h
  · have hs : swapsWith (.ListComp elt gens scope p) (some (.Name x px)) pos.line X.env = pure false := by
      rw [swL_ok]
      have : swL X.env.scope x px (.ListComp elt gens scope p) = false := by simpa using hsw
      rw [this]
    exact ss_asg ((S n).e G tk h1).1 ((S n).t G h2) hs (sw_none1 rfl) rfl
theorem swaps_tgt {e t : Expr} {l : Nat} {env : PySem.Env} (h : ∀ x p, t ≠ .Name x p) : swapsWithSole [t] e l env = pure false := by
  by_cases hc : notComp e = true
  · exact swaps_not (t := some t) hc
  · cases e <;> first | exact absurd rfl hc | (cases t <;> first | rfl | exact absurd rfl (h _ _))
theorem swaps_sole {e t : Expr} {l : Nat} {env : PySem.Env} (h : notComp e = true) : swapsWithSole [t] e l env = pure false := swaps_not (t := some t) h
theorem snd_s (ih : SndS ca fa fd flds free n) {st : Stmt} {c : C} (G : Good ce X cx ca fa fd flds free k) (tk : Takes X W) (hp : PassesOwn (model X.prog X.w) X.A X.env X.xe) (T : Top X) (h : cS (n + 1) ce st = some c) : SS X ca cx W st c := by
  have S := @snd ca fa fd flds free n
  unfold cS at h
  split at h
  · cases h; exact ss_pass
  · cases h; exact ss_brk
  · cases h; exact ss_cnt
  · obtain ⟨h0, h⟩ := oif h
    obtain ⟨x, h1, h⟩ := om h
    subst h
    exact ss_expr (S.e G tk h1).1 (swaps_not h0)
  · cases h; exact ss_retN
  · obtain ⟨x, h1, h⟩ := om h
    subst h
    exact ss_ret (S.e G tk h1).1
  · rename_i tg e pos
    split at h
    · rename_i x px
      obtain ⟨c1, h1, h⟩ := ob h
      obtain ⟨⟨t, is⟩, h2, h⟩ := ob h
      obtain ⟨h0, h⟩ := oif h
      cases h
      rcases Bool.or_eq_true_iff.mp h0 with h0 | h0
      · by_cases ht : isTupE e = true
        · exact ss_asg (S.e G tk h1).1 (S.t G h2) (swaps_sole h0) (sw_none2 rfl (by simp)) rfl
        · exact ss_asg (S.e G tk h1).1 (S.t G h2) (swaps_sole h0) (sw_none2 rfl (by simp)) rfl
      · split at h0
        · exact snd_setL G tk h1 h2
        · cases h0
    · rename_i ts j pt
      split at h
      · rename_i vs j' pv
        split at h
        · rename_i hw
          obtain ⟨c1, h1, h⟩ := ob h
          obtain ⟨⟨t, is⟩, h2, h⟩ := ob h
          cases h
          exact ss_asg (S.e G tk h1).1 (S.t G h2) (swaps_sole rfl) (swC_ok (by rw [G.sc]; exact hw)) rfl
        · rename_i names hw
          split at h
          · rename_i x px y py a b
            obtain ⟨h0, h⟩ := oif h
            obtain ⟨h0, hst⟩ := He.ba h0
            obtain ⟨h0, hy⟩ := He.ba h0
            obtain ⟨hn, hx⟩ := He.ba h0
            obtain ⟨es, h1, h⟩ := ob h
            obtain ⟨i, hi, h⟩ := ob h
            obtain ⟨j, hj, h⟩ := ob h
            split at h
            · cases h
            · rename_i hij
              cases h
              have hn := of_decide_eq_true hn
              subst hn
              exact ss_par G.ok (G.ix hi) (G.ix hj) hij (by rw [G.sc]; exact of_decide_eq_true hx) (by rw [G.sc]; exact of_decide_eq_true hy) (S.es G tk hst h1).1 (swC_ok (by rw [G.sc]; exact hw))
          · rename_i x px y py z pz a b d
            obtain ⟨h0, h⟩ := oif h
            obtain ⟨h0, hst⟩ := He.ba h0
            obtain ⟨h0, hz⟩ := He.ba h0
            obtain ⟨h0, hy⟩ := He.ba h0
            obtain ⟨hn, hx⟩ := He.ba h0
            obtain ⟨es, h1, h⟩ := ob h
            obtain ⟨i, hi, h⟩ := ob h
            obtain ⟨j, hj, h⟩ := ob h
            obtain ⟨l, hl, h⟩ := ob h
            split at h
            · cases h
            · rename_i hij
              cases h
              have hn := of_decide_eq_true hn
              subst hn
              exact ss_par3 G.ok (G.ix hi) (G.ix hj) (G.ix hl) (fun z => hij (.inl z)) (fun z => hij (.inr (.inl z))) (fun z => hij (.inr (.inr z))) (by rw [G.sc]; exact of_decide_eq_true hx) (by rw [G.sc]; exact of_decide_eq_true hy) (by rw [G.sc]; exact of_decide_eq_true hz) (S.es G tk hst h1).1
                (swC_ok (by rw [G.sc]; exact hw))
          · cases h
        · cases h
      · rename_i hne
        obtain ⟨c1, h1, h⟩ := ob h
        obtain ⟨⟨t, is⟩, h2, h⟩ := ob h
        cases h
        refine ss_asg (S.e G tk h1).1 (S.t G h2) (swaps_tgt (by simp)) (sw_none1 ?_) rfl
        cases e <;> first | rfl | exact absurd rfl (hne _ _ _)
    · obtain ⟨c1, h1, h⟩ := ob h
      obtain ⟨⟨t, is⟩, h2, h⟩ := ob h
      cases h
      exact ss_asg (S.e G tk h1).1 (S.t G h2) (swaps_tgt (by simp)) (sw_none2 rfl (by simp)) rfl
    · obtain ⟨c1, h1, h⟩ := ob h
      obtain ⟨⟨t, is⟩, h2, h⟩ := ob h
      cases h
      exact ss_asg (S.e G tk h1).1 (S.t G h2) (swaps_tgt (by simp)) (sw_none2 rfl (by simp)) rfl
    · cases h
  · rename_i x px op e pos
    obtain ⟨h0, h⟩ := oif h
    obtain ⟨o, ho, h⟩ := ob h
    obtain ⟨i, hi, h⟩ := ob h
    obtain ⟨c1, h1, h⟩ := ob h
    obtain ⟨l1, l2⟩ := G.loc h0
    rw [bopC_ok ho]
    cases o with
    | add => cases h; exact ss_aug G.ok (G.ix hi) l1 l2 (.inl rfl) (S.e G tk h1).1
    | sub => cases h; exact ss_aug G.ok (G.ix hi) l1 l2 (.inr rfl) (S.e G tk h1).1
    | _ => cases h
  · split at h
    · cases h
    · rename_i hi
      obtain ⟨x, h1, h⟩ := ob h
      obtain ⟨y, h2, h⟩ := ob h
      obtain ⟨z, h3, h⟩ := ob h
      cases h
      exact ss_if ((S.e G tk h1).2.1 (by simpa using hi)) (ih.ss G tk hp T h2) (ih.ss G tk hp T h3)
  · split at h
    · cases h
    · rename_i hi
      obtain ⟨x, h1, h⟩ := ob h
      obtain ⟨y, h2, h⟩ := ob h
      cases h
      exact ss_whl hp ((S.e G tk h1).2.1 (by simpa using hi)) (ih.ss G tk hp T h2)
  · obtain ⟨h0, h⟩ := oif h
    obtain ⟨i, h1, h⟩ := ob h
    obtain ⟨⟨t, is⟩, h2, h⟩ := ob h
    obtain ⟨y, h3, h⟩ := ob h
    cases h
    exact ss_for G.ok hp (S.i G tk h1) (S.t G h2) (ih.ss G tk hp T h3) (folded_of h0 _)
  · split at h
    · rename_i c1 hc
      obtain ⟨h0, h⟩ := oif h
      cases h
      obtain ⟨ci, s1, s2⟩ := findIx_ok hc
      obtain ⟨s2, s3⟩ := He.ba s2
      obtain ⟨s3, s4⟩ := He.ba s3
      have s2 := of_decide_eq_true s2
      subst s2
      obtain ⟨g1, g2⟩ := G.gl h0
      exact ss_raise G.ok tk (by rw [G.cls]; exact s1) s3 (List.isEmpty_iff.mp s4) g1 g2
    · cases h; exact ss_never
  · split at h
    · rename_i c1 hc
      split at h
      · rename_i f hf
        obtain ⟨h0, h⟩ := oif h
        obtain ⟨h0, h3⟩ := He.ba h0
        obtain ⟨y, h1, h⟩ := om h
        subst h
        obtain ⟨ci, s1, s2⟩ := findIx_ok hc
        have s2 := of_decide_eq_true s2
        subst s2
        obtain ⟨g1, g2⟩ := G.gl h0
        obtain ⟨C, fI, hC, Z⟩ := G.ini _ _ hf
        exact ss_raiseF G.ok tk (by rw [G.cls]; exact s1) hC Z g1 g2 (S.e G tk h1).1 (starEach_of h3)
      · cases h; exact ss_never
    · cases h; exact ss_never
  · cases h; exact ss_never
  · obtain ⟨b, h1, h⟩ := ob h
    obtain ⟨hh, h2, h⟩ := ob h
    cases h
    obtain ⟨l, hl⟩ := ih.hs G h2
    exact ss_try G.ok T.stk T.frm tk (fun W' pn xe tk' hp' => ih.ss (G.tr pn xe) tk' hp' ⟨T.stk, T.frm⟩ h1) hl
  · cases h
theorem sndS : ∀ n, SndS ca fa fd flds free n
  | 0 => ⟨(fun _ _ _ _ h => by unfold cS at h; cases h), (fun _ _ _ _ h => by unfold cSs at h; cases h), (fun _ h => by unfold cHs at h; cases h)⟩
  | n + 1 => ⟨snd_s (sndS n), snd_ss (sndS n), snd_hs (sndS n)⟩
end
end Pl

set_option Elab.async false
set_option linter.all false
set_option maxRecDepth 100000
set_option maxHeartbeats 4000000
/-! Pl20: arguments are bound. -/
namespace Pl
open PySem PySem.Spec PyProof.Rows L2

theorem kw_loop (P : List Str) (f : Str × Value → List (Str × Value) × List (Str × Value) → Sem (ForInStep (List (Str × Value) × List (Str × Value))))
    (hf : ∀ x st, P.contains x.1 = true → (List.lookup x.1 st.1).isSome = false → f x st = pure (.yield (st.1 ++ [(x.1, x.2)], st.2))) :
    ∀ (kw : List (Str × Value)) (st : List (Str × Value) × List (Str × Value)), (∀ x ∈ kw, P.contains x.1 = true) → (kw.map (·.1)).Nodup → (∀ x ∈ kw, (List.lookup x.1 st.1).isSome = false) → forIn kw st f = pure (st.1 ++ kw, st.2)
  | [], st, _, _, _ => by rw [List.forIn_nil, List.append_nil]
  | x :: r, st, h1, h2, h3 => by
    rw [List.forIn_cons, hf x st (h1 x List.mem_cons_self) (h3 x List.mem_cons_self)]
    have h2' := List.nodup_cons.mp (by simpa using h2 : (x.1 :: r.map (·.1)).Nodup)
    have ih := kw_loop P f hf r (st.1 ++ [(x.1, x.2)], st.2) (fun y hy => h1 y (List.mem_cons_of_mem _ hy)) h2'.2 (fun y hy => by
      have q := h3 y (List.mem_cons_of_mem _ hy)
      have ne : y.1 ≠ x.1 := fun e => h2'.1 (by rw [← e]; exact List.mem_map_of_mem hy)
      have : List.lookup y.1 (st.1 ++ [(x.1, x.2)]) = none := by
        rw [List.lookup_append]
        have e1 : List.lookup y.1 st.1 = none := by simpa using q
        have e2 : List.lookup y.1 [(x.1, x.2)] = none := by
          have : (y.1 == x.1) = false := by simpa using ne
          simp [List.lookup, this]
        rw [e1, e2]
        rfl
      show (List.lookup y.1 (st.1 ++ [(x.1, x.2)])).isSome = false
      rw [this]
      rfl)
    show forIn r (st.1 ++ [(x.1, x.2)], st.2) f = _
    rw [ih]
    show pure (st.1 ++ [(x.1, x.2)] ++ r, st.2) = _
    rw [List.append_assoc]
    rfl
theorem zip_lookup {ps : List Str} {vs : List Value} (h : vs.length = ps.length) : ∀ n ∈ ps, (List.lookup n (ps.zip vs)).isSome = true := by
  induction ps generalizing vs with
  | nil => intro n hn; cases hn
  | cons p ps ih =>
    intro n hn
    cases vs with
    | nil => cases h
    | cons v vs =>
      rw [List.zip_cons_cons]
      by_cases e : n = p
      · subst e
        simp [List.lookup]
      · have e' : (n == p) = false := by simpa using e
        simp only [List.lookup, e']
        exact ih (by simpa using h) n (by rcases List.mem_cons.mp hn with q | q; exact absurd q e; exact q)
theorem zip_out {ps : List Str} {vs : List Value} {n : Str} (h : n ∉ ps) : List.lookup n (ps.zip vs) = none := by
  induction ps generalizing vs with
  | nil => rfl
  | cons p ps ih =>
    cases vs with
    | nil => rfl
    | cons v vs =>
      rw [List.zip_cons_cons]
      have e : n ≠ p := fun e => h (by rw [e]; exact List.mem_cons_self)
      have e' : (n == p) = false := by simpa using e
      simp only [List.lookup, e']
      exact ih fun m => h (List.mem_cons_of_mem _ m)
theorem zip_filterMap {ps : List Str} {vs : List Value} (hn : ps.Nodup) (h : vs.length = ps.length) : (ps.filterMap fun n => (List.lookup n (ps.zip vs)).map (n, ·)) = ps.zip vs := by
  have gen : ∀ (qs : List Str) (ws : List Value) (pre : List (Str × Value)), qs.Nodup → ws.length = qs.length → (∀ n ∈ qs, List.lookup n pre = none) → (qs.filterMap fun n => (List.lookup n (pre ++ qs.zip ws)).map (n, ·)) = qs.zip ws := by
    intro qs
    induction qs with
    | nil => intro ws pre _ _ _; rfl
    | cons q qs ih =>
      intro ws pre h1 h2 h3
      cases ws with
      | nil => cases h2
      | cons w ws =>
        have h1' := List.nodup_cons.mp h1
        have e1 : List.lookup q (pre ++ (q, w) :: qs.zip ws) = some w := by
          rw [List.lookup_append, h3 q List.mem_cons_self]
          simp [List.lookup]
        rw [List.zip_cons_cons, List.filterMap_cons, e1]
        simp only [Option.map_some]
        have := ih ws (pre ++ [(q, w)]) h1'.2 (by simpa using h2) (fun n hn => by
          rw [List.lookup_append, h3 n (List.mem_cons_of_mem _ hn)]
          have ne : n ≠ q := fun e => h1'.1 (by rw [← e]; exact hn)
          have e' : (n == q) = false := by simpa using ne
          simp [List.lookup, e'])
        rw [List.append_assoc] at this
        exact congrArg ((q, w) :: ·) this
  simpa using gen ps vs [] hn h (fun _ _ => rfl)
theorem zip_split {ps ks : List Str} {us ws : List Value} (h1 : (us ++ ws).length = ps.length) (h2 : ws.length = ks.length) (h3 : ks = [] ∨ ps.drop us.length = ks) : ps.zip us ++ ks.zip ws = ps.zip (us ++ ws) := by
  rcases h3 with h3 | h3
  · subst h3
    have : ws = [] := List.length_eq_zero_iff.mp h2
    subst this
    simp
  · rw [← h3]
    have hl : us.length ≤ ps.length := by rw [← h1, List.length_append]; omega
    have e : ps = ps.take us.length ++ ps.drop us.length := (List.take_append_drop _ _).symm
    have e1 : ps.zip us = (ps.take us.length).zip us := by
      conv => lhs; rw [e]
      have : (ps.take us.length ++ ps.drop us.length).zip us = (ps.take us.length ++ ps.drop us.length).zip (us ++ []) := by rw [List.append_nil]
      rw [this, List.zip_append (by rw [List.length_take]; omega)]
      simp
    have e2 : ps.zip (us ++ ws) = (ps.take us.length).zip us ++ (ps.drop us.length).zip ws := by
      conv => lhs; rw [e]
      exact List.zip_append (by rw [List.length_take]; omega)
    rw [e1, e2]
set_option maxHeartbeats 8000000 in
theorem bind_gen {x q : Str} {args : List Arg} {body : List Stmt} {scope : Scope} {kV doc pm cdv ct : Value} {an : Option Addr} {us ws : List Value} {ks : List Str} (hn : (args.map (·.arg)).Nodup) (h1 : (us ++ ws).length = (args.map (·.arg)).length) (h2 : ws.length = ks.length) (h3 : ks = [] ∨ (args.map (·.arg)).drop us.length = ks) :
    bindArgs (PySem.W.fnOf x q ⟨[], args, none, [], [], none, []⟩ body scope .none kV doc pm an cdv ct) ⟨us, ks.zip ws⟩ = pure ((args.map (·.arg)).zip (us ++ ws)) := by
  have hk : ∀ y ∈ ks.zip ws, y.1 ∈ (args.map (·.arg)).drop us.length := fun y hy => by
    rcases h3 with h3 | h3
    · subst h3; cases hy
    · rw [h3]; exact (List.of_mem_zip hy).1
  have e0 : (ks.zip ws).map (·.1) = ks := by rw [List.map_fst_zip]; omega
  have hl := kw_loop (args.map (·.arg))
  unfold bindArgs
  simp only [PySem.W.fnOf, List.map_nil, List.nil_append, List.append_nil]
  rw [kw_loop (args.map (·.arg)) _ (fun y st q1 q2 => ?_) (ks.zip ws) ((args.map (·.arg)).zip us, []) (fun y hy => by
      rw [List.contains_iff_mem]; exact List.mem_of_mem_drop (hk y hy)) (by
      rw [e0]
      rcases h3 with h3 | h3
      · rw [h3]; exact List.nodup_nil
      · rw [← h3]; exact hn.sublist (List.drop_sublist _ _)) (fun y hy => by
      have nm : y.1 ∉ (args.map (·.arg)).take us.length := fun hm => by
        have e : args.map (·.arg) = (args.map (·.arg)).take us.length ++ (args.map (·.arg)).drop us.length := (List.take_append_drop _ _).symm
        rw [e] at hn
        exact (List.nodup_append.mp hn).2.2 _ hm _ (hk y hy) rfl
      have e : (args.map (·.arg)).zip us = ((args.map (·.arg)).take us.length).zip us := by
        rw [List.zip_eq_zip_take_min]
        conv => rhs; rw [List.zip_eq_zip_take_min]
        have hl : us.length ≤ (args.map (·.arg)).length := by rw [← h1, List.length_append]; omega
        simp only [List.length_take]
        have m1 : min (args.map (·.arg)).length us.length = us.length := by omega
        rw [m1]
        have m2 : min (min us.length (args.map (·.arg)).length) us.length = us.length := by omega
        rw [m2]
        simp [List.take_take]
      show (List.lookup y.1 ((args.map (·.arg)).zip us)).isSome = false
      rw [e, zip_out nm]
      rfl)]
  · rw [zip_split h1 h2 h3]
    have hz := zip_lookup h1
    have hgt : ¬ us.length > (args.map (·.arg)).length := by rw [← h1, List.length_append]; omega
    show (if (decide (us.length > (args.map (·.arg)).length) && true) = true then _ else _) = _
    rw [if_neg (by simpa using hgt)]
    have d0 : ∀ m : Nat, List.drop m ((none : Option (Array Value)).getD #[]).toList = [] := fun m => List.drop_nil
    have d1 : (args.map (·.arg)).length - ([] : List Value).length = (args.map (·.arg)).length := rfl
    simp only [d0, d1, List.take_length]
    have hf : List.filter (fun n => (List.lookup n ((args.map (·.arg)).zip (us ++ ws))).isNone) (args.map (·.arg)) = [] := by
      rw [List.filter_eq_nil_iff]
      intro n hn
      have := hz n hn
      cases e : List.lookup n ((args.map (·.arg)).zip (us ++ ws)) with
      | none => rw [e] at this; cases this
      | some v => simp
    rw [hf]
    rw [if_neg (by decide)]
    rw [List.zip_nil_right]
    have e9 := zip_filterMap hn h1
    show (pure ((args.map (·.arg)).filterMap fun n => (List.lookup n ((args.map (·.arg)).zip (us ++ ws))).map (n, ·)) : Sem (List (Str × Value))) = _
    rw [e9]
  · simp only [q1, Bool.true_or, if_true, q2, Bool.false_eq_true, if_false]
end Pl

set_option Elab.async false
set_option linter.all false
set_option maxRecDepth 100000
set_option maxHeartbeats 4000000
/-! Pl21: the defs keep what the evaluator says. -/
namespace Pl
open PySem PySem.Spec PyProof.Rows L2

/-- a def of the text, compiled -/
structure FnW (K : PySem.W.Frag) (ca : CA) (cs : List (Addr × Addr)) (ce : CE) (f : Addr) (fd : FuncData) (fi : Fi) : Prop where
  ex : ∃ (x q : Str) (args : List Arg) (body : List Stmt) (scope : Scope) (N : List Str) (m : Bool), FunD K x q ⟨[], args, none, [], [], none, []⟩ body scope [] [] f fd ∧ args.map (·.arg) = fi.ps ∧ fi.ps.Nodup ∧ fi.n = N.length ∧ FnScope N fi.ps scope ∧
    (cSs 60 { ce with N := N, sc := scope, fn := fun _ => true, mkl := m } body = some fi.body ∨ fi.body = .cons .never .nil) ∧
    (m = true → ∃ c P, fd.code = .ref c ∧ (c, P) ∈ cs ∧ (P, q ++ ".<locals>." ++ "<lambda>") ∈ ca.tabs ∧ ∀ p ∈ ca.tabs, p.1 = P → p.2 = q ++ ".<locals>." ++ "<lambda>")
theorem FnW.bind {K : PySem.W.Frag} {ca : CA} {cs : List (Addr × Addr)} {ce : CE} {f : Addr} {fd : FuncData} {fi : Fi} (F : FnW K ca cs ce f fd fi) (s : Shared) (us ws : List Value) (ks : List Str) (h1 : (us ++ ws).length = fi.ps.length) (h2 : ws.length = ks.length) (h3 : ks = [] ∨ fi.ps.drop us.length = ks) : BindsTo s fd ⟨us, ks.zip ws⟩ (fi.ps.zip (us ++ ws)) := by
  obtain ⟨x, q, args, body, scope, N, m, FD, ep, hn, _⟩ := F.ex
  obtain ⟨oc, od, dV, kV, doc, pm, an, cdv, ct, osl, rfl, lk, hcd, hD, hK⟩ := FD.ex
  rw [← ep] at hn h1 h3 ⊢
  rcases hD with ⟨_, rfl⟩ | ⟨e, _⟩
  · exact .of_eq (bind_gen hn h1 h2 h3)
  · exact absurd rfl e
theorem start_env {K : PySem.W.Frag} {H : Hp} {μ : List Addr} {N : List Str} : ∀ {ds : List D} {vs : List V}, Reps K H μ ds vs → ds.length ≤ N.length → EnvR K H μ (L2.start N vs) (ds.map some ++ List.replicate (N.length - ds.length) none) := by
  intro ds vs r hl
  have l := r.len
  unfold L2.start
  refine ⟨by simp [l], fun i d h => ?_⟩
  by_cases hi : i < ds.length
  · rw [List.getElem?_append_left (by simpa using hi), List.getElem?_map] at h
    cases e : ds[i]? with
    | none => rw [e] at h; cases h
    | some d' =>
      rw [e] at h
      cases h
      obtain ⟨v, q1, q2⟩ := r.get e
      exact ⟨v, by rw [List.getElem?_append_left (by simp [l, hi]), List.getElem?_map, q1]; rfl, q2⟩
  · rw [List.getElem?_append_right (by simpa using Nat.le_of_not_lt hi), List.getElem?_replicate] at h
    split at h <;> cases h
theorem post_body {K : PySem.W.Frag} {ca : CA} {H : Hp} {μ : List Addr} {Q : VK} {E : XK} {o : SOut} (p : Post K ca (fun cls d _ H' => E cls d H') [] H μ (QV K Q) (match o with
      | .nx _ S' => .ok .non S'
      | .rt d S' => .ok d S'
      | .exc x _ S' => .exc x S'
      | _ => .bad)) : PostS K ca (fun cls d _ H' => E cls d H') H μ { nx := fun _ H' => Q .non H', rt := Q } o := by
  cases o with
  | nx ρ S => exact fun σ' H' μ' s r e => p H' μ' s r .non (rep_non.mpr rfl)
  | rt d S => exact fun H' μ' v s r rv => p H' μ' s r v rv
  | bk ρ S => exact p.elim
  | ct ρ S => exact p.elim
  | exc x ρ S => exact fun cls dd σ' H' μ' s r e xr => p cls dd H' μ' s r xr
  | bad => exact p.elim
section
variable {P : Program} {w : World} {K : PySem.W.Frag} {mg : Str → Option Value} {base : Heap} {tb : Tb} {ca : CA} {fa : Nat → Addr} {fd : Nat → FuncData} {flds free : List Str} {ce : CE} {cs : List (Addr × Addr)}
/-- all defs at a level, in no context -/
def CallOk0 (P : Program) (w : World) (K : PySem.W.Frag) (mg : Str → Option Value) (base : Heap) (tb : Tb) (ca : CA) (fa : Nat → Addr) (fd : Nat → FuncData) (k : Nat) (cf : CallF) : Prop :=
  ∀ i fi, tb.fns[i]? = some fi → FnG P w K mg base k (fa i) (fd i) fi.ps (spF K ca fi.ps.length (cf i))
structure Said (K : PySem.W.Frag) (mg : Str → Option Value) (tb : Tb) (ca : CA) (fa : Nat → Addr) (fd : Nat → FuncData) (flds free : List Str) (cs : List (Addr × Addr)) (ce : CE) : Prop where
  tbl : Tbl K mg tb ca fa fd flds free
  wf : TbW tb
  fns : ∀ i fi, tb.fns[i]? = some fi → FnW K ca cs ce (fa i) (fd i) fi
  cls : tb.cls = ce.cls
  sigs : tb.fns.map (fun fi => (fi.glob, fi.ps)) = ce.sigs
  flds : tb.flds = ce.flds
  free : ∀ x ∈ ce.free, mg x = none
  blt : ∀ p ∈ ce.blt, BltAt mg p.2 p.1
  told : ∀ x hs, ce.tolds.lookup x = some hs → TellW K mg tb ca fa fd x hs
  ini : ∀ c f, ce.inits.lookup c = some f → ∃ C fI, ca c = some C ∧ InitW K mg C fI f
theorem fn_level (TB : ∀ p ∈ cs, LamX.TabB base mg p.1 p.2) (Z : Said K mg tb ca fa fd flds free cs ce) {Wn k : Nat} {c1 c2 : CallF} (h1 : CallOk0 P w K mg base tb ca fa fd k c1) (h2 : c2 = badF ∨ ∃ j, j + 1 ≤ k ∧ CallOk0 P w K mg base tb ca fa fd j c2)
    {lm : E → Slots → Store → Out D} {lv : Bool} (h3 : lm = badL ∨ ∃ j c d, j + 2 ≤ k ∧ lm = lamOf tb Wn c d ∧ CallOk0 P w K mg base tb ca fa fd j c ∧ (d = badF ∨ ∃ i, i + 1 ≤ j ∧ CallOk0 P w K mg base tb ca fa fd i d)) (h4 : lv = true → 2 ≤ k) : CallOk0 P w K mg base tb ca fa fd (k + 1) (bodyF ⟨tb, c1, c2, Wn, lm, lv⟩) := by
  intro i fi hfi
  refine ⟨fun vs H Q E h => h.1, fun A outer s H args us vs Q E hr hg e0 hb r hsp => ?_⟩
  obtain ⟨x, q, args', body, scope, N, m, FD, ep, hn, hN, S, hcomp, hmk⟩ := (Z.fns i fi hfi).ex
  obtain ⟨oc, od, dV, kV, doc, pm, an, cdv, ct, osl, efd, lk, hcd, _, _⟩ := FD.ex
  obtain ⟨hl, ds, S0, μ, rds, sr, p⟩ := hsp
  rw [efd] at hb lk hmk
  have KX : K.In s.heap := e0.mod.kin.keeps fun b o e => (e0.bs b o e).1
  have lim : s.heap.NoLimit := e0.mod.nolimit.keeps fun b o e => (e0.bs b o e).1
  have hkind : ∀ y ∈ fi.ps.zip us, scope.names.lookup y.1 = some .local ∨ (scope.names.lookup y.1 = some .cell ∧ ((cellsFrom (s.heap.objs.size + 1) scope.names []).lookup y.1).isSome = true) := fun ⟨n, v⟩ hy => by
    rcases S.par n (List.of_mem_zip hy).1 with q | q
    · exact .inl q
    · exact .inr ⟨q, PySem.W.cellsFrom_some _ _ _ (.inl q)⟩
  refine codeAny_call_function hr.depth (KX _ _ lk) rfl S.co S.gen rfl (PySem.W.codeRec_of KX hcd) (hb _ _ _ _ ?_)
  refine wpAny_newFunctionEnv_cells S.kind hkind fun env he s1 x1 => ?_
  subst he
  refine ⟨lim.keeps x1.toInCall.keep, codeAny_func ?_⟩
  have I : Inv (cxOf (L2.CX P w) P w K mg base N q scope (fa i) cdv A outer s H E) [] (L2.start N vs) H s1 := inv_start S hr.hd e0 hl r x1
  have hgd : (A.deeper (envOfC q scope s.heap.objs.size (fa i) cdv)).guards = some [] := by
    first | exact hg | (simpa [Around.deeper, Around.under, Code.isGuard, guardIds] using hg)
  have hmk' : m = true → ∃ c P, LamX.TabB base mg c P ∧ cdv = Value.ref c ∧ (P, q ++ ".<locals>." ++ "<lambda>") ∈ ca.tabs ∧ ∀ p ∈ ca.tabs, p.1 = P → p.2 = q ++ ".<locals>." ++ "<lambda>" := fun hm => by
    obtain ⟨c, P, e1, e2, e3, e4⟩ := hmk hm
    exact ⟨c, P, TB (c, P) e2, e1, e3, e4⟩
  have hq : (cxOf (L2.CX P w) P w K mg base N q scope (fa i) cdv A outer s H E).env.qual = q ++ ".<locals>." := rfl
  have G : Good { ce with N := N, sc := scope, fn := fun _ => true, mkl := m } (cxOf (L2.CX P w) P w K mg base N q scope (fa i) cdv A outer s H E) ⟨tb, c1, c2, Wn, lm, lv⟩ ca fa fd flds free k := {
    ok := { tbl := Z.tbl, call := h1, callM := h2, lam := h3, lv := h4, room := hr.deeper _, guards := hgd, nd := S.nd, calm := rfl, kind := S.kind }
    N := rfl, sc := rfl, fn := rfl, cls := Z.cls, sigs := Z.sigs, flds := Z.flds, free := Z.free, blt := Z.blt, wf := Z.wf, told := Z.told, ini := Z.ini
    mkl := fun hm => by
      obtain ⟨c, P', u1, u2, u3, u4⟩ := hmk' hm
      refine ⟨c, P', u1, u2, ?_, ?_⟩
      · rw [hq]; exact u3
      · rw [hq]; exact u4 }
  have tk : Takes (cxOf (L2.CX P w) P w K mg base N q scope (fa i) cdv A outer s H E) (fun cls d _ H => E cls d H) := takes_of rfl rfl rfl rfl
  have hp : SSs (cxOf (L2.CX P w) P w K mg base N q scope (fa i) cdv A outer s H E) ca ⟨tb, c1, c2, Wn, lm, lv⟩ (fun cls d _ H => E cls d H) body fi.body := by
    rcases hcomp with hcomp | hcomp
    · exact (sndS 60).ss (ca := ca) (fa := fa) (fd := fd) (flds := flds) (free := free) G tk (passes_of rfl) ⟨rfl, rfl⟩ hcomp
    · rw [hcomp]
      refine PSs.imp pss_never fun D σ H ⟨ρ, S, μ, e, r, p⟩ => ?_
      rw [evCs, evC] at p
      exact p
  have lds : ds.length = fi.ps.length := by rw [← rds.len]; exact hl
  have hpre : fi.ps.length ≤ N.length := by
    have := S.pre
    have := congrArg List.length this
    rw [List.length_take] at this
    omega
  have p2 : PostS K ca (fun cls d _ H' => E cls d H') H μ { nx := fun _ H' => Q .non H', rt := Q } (evCs ⟨tb, c1, c2, Wn, lm, lv⟩ fi.body (ds.map some ++ List.replicate (N.length - ds.length) none) S0) := by
    unfold bodyF at p
    simp only [hfi] at p
    rw [if_pos lds, hN] at p
    exact post_body p
  refine wpAny_mono (hp.run [] s1 (L2.start N vs) H { nx := fun _ H' => Q .non H', rt := Q } I ⟨_, S0, μ, start_env rds (by rw [lds]; exact hpre), sr, p2⟩) (fun fl s' hs => ?_) fun e s' hs => hs
  have fin : ∀ {σ' : L2.St} {H' : Hp} {v : V} {u : Value}, Inv (cxOf (L2.CX P w) P w K mg base N q scope (fa i) cdv A outer s H E) [] σ' H' s' → RelV v u → Q v H' → L2.CE outer P w H s Q u s' :=
    fun {σ' H' v u} J rv q => ⟨v, H', J.os, J.bare, J.base, J.hok, rv, q⟩
  cases fl with
  | ret u =>
    obtain ⟨v, σ', H', J, rv, q⟩ := hs
    exact fin J rv q
  | next =>
    obtain ⟨σ', H', J, q⟩ := hs
    exact fin (v := V.non) (u := Value.none) J rfl q
  | brk =>
    obtain ⟨_, _, _, q⟩ := hs
    exact False.elim q
  | cont =>
    obtain ⟨_, _, _, q⟩ := hs
    exact False.elim q
theorem all_ok (TB : ∀ p ∈ cs, LamX.TabB base mg p.1 p.2) (Z : Said K mg tb ca fa fd flds free cs ce) (Wn : Nat) : ∀ k, CallOk0 P w K mg base tb ca fa fd k (run2 tb Wn k).1 ∧ ((run2 tb Wn k).2.1 = badF ∨ ∃ j, j + 1 ≤ k ∧ CallOk0 P w K mg base tb ca fa fd j (run2 tb Wn k).2.1)
  | 0 => ⟨fun i fi _ => ⟨fun vs H Q E h => h.1, fun A outer s H args us vs Q E _ _ _ _ _ hsp => by
      obtain ⟨_, ds, S, μ, _, _, p⟩ := hsp
      exact (show False from p).elim⟩, .inl rfl⟩
  | 1 => by
    obtain ⟨h1, h2⟩ := all_ok TB Z Wn 0
    exact ⟨fn_level TB Z h1 h2 (.inl rfl) (fun h => by cases h), .inr ⟨0, Nat.le_refl _, h1⟩⟩
  | 2 => by
    obtain ⟨h1, h2⟩ := all_ok TB Z Wn 1
    exact ⟨fn_level TB Z h1 h2 (.inl rfl) (fun h => by cases h), .inr ⟨1, Nat.le_refl _, h1⟩⟩
  | k + 3 => by
    obtain ⟨h1, h2⟩ := all_ok TB Z Wn (k + 2)
    obtain ⟨h3, h4⟩ := all_ok TB Z Wn k
    exact ⟨fn_level TB Z h1 h2 (.inr ⟨k, _, _, Nat.le_refl _, rfl, h3, h4⟩) (fun _ => Nat.le_add_left _ _), .inr ⟨k + 2, Nat.le_refl _, h1⟩⟩
end
end Pl

set_option Elab.async false
set_option linter.all false
set_option maxRecDepth 100000
set_option maxHeartbeats 4000000
/-! Pl22: the law's end, for promises that know of no repr under way (after HandS's law_call and walk_ofE). -/
namespace Pl
open PySem PySem.Spec PyProof.Rows L2

/-- law_call with tables: cs, the code objects and their tables -/
theorem law_callG {P : Program} {w : World} {K : PySem.W.Frag} {mg mb : Str → Option Value} {k : Nat} {fa a : Addr} {cs : List (Addr × Addr)} {fd : FuncData} {x : Str} {sp : Sp} {s₁ : Shared} {vs : List Value} {ns : List Int}
    (KX : K.In s₁.heap) (hns : s₁.heap.Ns mainGlobals mg) (hb : s₁.heap.Ns builtinsNs mb) (hbb : ∀ x : Str, x ≠ "__name__" → mb x = bootBuiltins x) (hlim : s₁.heap.NoLimit) (hg : s₁.gens = #[])
    (hT : ∀ p ∈ cs, s₁.heap.get? p.2 = some { cls := .none, data := .fields #[] }) (nT : ∀ p ∈ cs, K.lookup p.2 = none) (C : ∀ p ∈ cs, PySem.W.CodeHd s₁.heap p.1 p.2)
    (hbm : ∃ (bm : Addr) (ob : Obj), mg "__builtins__" = some (.ref bm) ∧ bm ≠ builtinsNs ∧ s₁.heap.get? bm = some ob ∧ ob.cls = .type "module" ∧ ob.dict = some builtinsNs ∧ ob.data = .plain)
    (ha : s₁.heap.get? a = some { cls := .type "list", data := .seq vs.toArray }) (hi : IntsAre vs ns) (hl : ns.length ≤ sizeLine) (hr : Room k callerA)
    (F : ∀ base : Heap, K.In base → base.Ns mainGlobals mg → (∀ p ∈ cs, LamX.TabB base mg p.1 p.2) → FnG P w K mg base k fa fd [x] sp) (hbind : ∀ (s : Shared) (u : Value), BindsTo s fd ⟨[u], []⟩ [(x, u)])
    (hsp : ∀ H : Hp, (∀ p ∈ cs, H p.2 = some (.tbl #[])) → (∀ b, H b = none ∨ b ∈ cs.map (·.2) ∨ ∃ o xs, H b = some (.frz o (.lst xs))) → SqL K H a (ns.map V.int) → sp [.ref a] H (fun v _ => v = .bl true) fun _ _ _ => False) :
    codeAny (model P w) callerA (.call (.ref fa) ⟨[.ref a], []⟩) (fun r s' => r = .ok (.ret (.bool true)) ∧ OldK s₁.heap s'.heap ∧ s'.os = s₁.os ∧ AllBare s'.gens) s₁ := by
  have rv := vals_ints hi
  have lenV := hi.length
  have isT : ∀ b : Addr, b ∈ cs.map (·.2) → s₁.heap.get? b = some { cls := .none, data := .fields #[] } := fun b hb => by
    obtain ⟨p, hp, e⟩ := List.mem_map.mp hb
    rw [← e]
    exact hT p hp
  have aT : a ∉ cs.map (·.2) := fun z => by
    have q := isT a z
    rw [ha] at q
    have z' : Data.seq vs.toArray _ = Data.fields #[] := congrArg Obj.data (Option.some.inj q)
    cases z'
  have memT : ∀ p ∈ cs, p.2 ∈ cs.map (·.2) := fun p hp => List.mem_map.mpr ⟨p, hp, rfl⟩
  -- from an abstract heap in which nothing but the script and the tables may be tracked
  have core : ∀ H : Hp, (∀ p ∈ cs, H p.2 = some (.tbl #[])) → (∀ b, H b = none ∨ b ∈ cs.map (·.2) ∨ ∃ o xs, H b = some (.frz o (.lst xs))) → SqL K H a (ns.map V.int) → HOk P w H s₁.heap → (∀ b, H b ≠ none → b = a ∨ b ∈ cs.map (·.2)) → (H a ≠ none → K.lookup a = none) →
      codeAny (model P w) callerA (.call (.ref fa) ⟨[.ref a], []⟩) (fun r s' => r = .ok (.ret (.bool true)) ∧ OldK s₁.heap s'.heap ∧ s'.os = s₁.os ∧ AllBare s'.gens) s₁ := by
    intro H hH hO hS hok hA hK
    have base_of : ∀ {b : Addr} {o : Obj}, s₁.heap.get? b = some o → H b = none → (hidT s₁.heap H).get? b = some o := fun e n => hidT_get e n
    have noD : ∀ {b : Addr} {o : Obj}, s₁.heap.get? b = some o → (∀ vs n, o.data ≠ .seq vs n) → o.data ≠ .fields #[] → H b = none := fun {b o} e h1 h2 => by
      cases q : H b with
      | none => rfl
      | some u =>
        rcases hA b (by rw [q]; simp) with e' | e'
        · rw [e', ha] at e
          cases e
          exact (h1 _ _ rfl).elim
        · rw [isT b e'] at e
          cases e
          exact (h2 rfl).elim
    have noA : ∀ {b : Addr} {o : Obj} {es : Array DictEntry} {ep : Nat}, s₁.heap.get? b = some o → o.data = .dict es ep → H b = none := fun {b o es ep} e d => by
      refine noD e (fun vs n z => ?_) fun z => ?_
      · rw [d] at z
        cases z
      · rw [d] at z
        cases z
    have nsK : ∀ {b : Addr} {m : Str → Option Value}, s₁.heap.Ns b m → (hidT s₁.heap H).Ns b m := fun {b m} ⟨o, es, ep, e, d, r⟩ => ⟨o, es, ep, base_of e (noA e d), d, r⟩
    have hKb : K.In (hidT s₁.heap H) := fun b o e => base_of (KX b o e) (by
      cases q : H b with
      | none => rfl
      | some u =>
        rcases hA b (by rw [q]; simp) with e' | e'
        · rw [e'] at e q
          rw [hK (by rw [q]; simp)] at e
          cases e
        · obtain ⟨p, hp, ep⟩ := List.mem_map.mp e'
          rw [← ep, nT p hp] at e
          cases e)
    have hM : L2.Mod K mg (hidT s₁.heap H) := ⟨hKb, nsK hns, ⟨mb, nsK hb, hbb⟩, let ⟨mc, h1, h2⟩ := hlim; ⟨mc, nsK h1, h2⟩⟩
    have TB : ∀ p ∈ cs, LamX.TabB (hidT s₁.heap H) mg p.1 p.2 := fun p hp => by
      have hTp := hT p hp
      refine ⟨?_, ?_, fun z => ?_⟩
      · obtain ⟨o, us, file, tf, flags, tg, inF, text, tt, e1, r1, r2, r3, r4, r5, r6, r7, r8, hne⟩ := C p hp
        refine ⟨o, us, file, tf, flags, tg, inF, text, tt, base_of e1 (noD e1 (fun vs n z => ?_) fun z => ?_), r1, r2, r3, r4, r5, r6, r7, r8, hne⟩
        · rw [r2] at z
          cases z
        · rw [r2] at z
          cases z
          simp at r3
      · obtain ⟨bm, ob, b1, b2, b3, b4, b5, b6⟩ := hbm
        have nG : bm ≠ mainGlobals := fun q => by
          obtain ⟨o, es, ep, e, hd, _⟩ := hns
          rw [q, e] at b3
          cases b3
          rw [hd] at b6
          cases b6
        have nP : bm ≠ p.2 := fun q => by
          rw [q, hTp] at b3
          cases b3
          cases b6
        refine ⟨bm, ob, b1, b2, nG, nP, base_of b3 (noD b3 (fun vs n z => ?_) fun z => ?_), b4, b5, b6⟩
        · rw [b6] at z
          cases z
        · rw [b6] at z
          cases z
      · obtain ⟨o, es, ep, e, hd, _⟩ := hns
        rw [z, hTp] at e
        cases e
        cases hd
    have e0 : Env0 P w K mg (hidT s₁.heap H) callerA [] s₁ H := ⟨rfl, hM, fun b o e => of_hidT e, Nat.le_of_eq (hidT_size _ _), trivial, fun b hb => absurd (show b ∈ ([] : List Addr) from hb) (by simp), hok, .of_eq hg⟩
    refine codeAny_mono ((F _ hKb (nsK hns) TB).run callerA [] s₁ H ⟨[.ref a], []⟩ [.ref a] [.ref a] _ _ hr rfl e0 (hbind s₁ (.ref a)) (.cons rfl .nil) (hsp H hH hO hS)) fun r s' h => ?_
    cases r with
    | error e =>
      obtain ⟨_, _, _, _, _, _, _, _, _, _, _, _, z⟩ := h
      exact z.elim
    | ok fl =>
      cases fl with
      | next => exact False.elim h
      | brk => exact False.elim h
      | cont => exact False.elim h
      | ret u =>
        obtain ⟨v, H', os, bare, un, hok', r', q⟩ := h
        have q' : v = .bl true := q
        subst q'
        obtain rfl : u = Value.bool true := r'
        have key : ∀ b o, b ∉ cs.map (·.2) → s₁.heap.get? b = some o → s'.heap.get? b = some o := fun b o nb e => by
          cases q : H b with
          | none => exact un.keep b o e q (by intro z; exact absurd (show b ∈ ([] : List Addr) from z) (by simp)) (by simp)
          | some u =>
            rcases hO b with z | z | ⟨ob, xs, z⟩
            · rw [q] at z; cases z
            · exact absurd z nb
            · have z2 := un.frzs b ob _ z
              obtain ⟨e1, _⟩ := hok b _ z
              obtain ⟨e2, _⟩ := hok' b _ z2
              rw [e] at e1; cases e1
              exact e2
        have grown : ∀ p ∈ cs, ∃ more : Array Value, s'.heap.get? p.2 = some { cls := .none, data := .fields more } := fun p hp => by
          obtain ⟨more, z⟩ := un.tbls p.2 #[] (hH p hp)
          exact ⟨_, hok' p.2 _ z⟩
        refine ⟨rfl, ⟨fun b o e => ?_, fun b o e => ?_⟩, os, bare⟩
        · by_cases hb : b ∈ cs.map (·.2)
          · obtain ⟨p, hp, ep⟩ := List.mem_map.mp hb
            obtain ⟨more, hm⟩ := grown p hp
            rw [← ep] at e ⊢
            rw [hT p hp] at e
            cases e
            exact .inr (.inl ⟨((C p hp).tab (hT p hp)).isCodeTable, rfl, #[], more, rfl, by rw [Array.empty_append]; exact hm⟩)
          · exact .inl (key b o hb e)
        · by_cases hb : b ∈ cs.map (·.2)
          · obtain ⟨p, hp, ep⟩ := List.mem_map.mp hb
            obtain ⟨more, hm⟩ := grown p hp
            rw [← ep]
            exact ⟨_, hm⟩
          · exact ⟨o, key b o hb e⟩
  cases hk : K.lookup a with
  | some o =>
    have e := KX a o hk
    rw [ha] at e
    cases e
    refine core (fun b => if b ∈ cs.map (·.2) then some (.tbl #[]) else none) (fun p hp => if_pos (memT p hp)) (fun b => ?_) (.inr ⟨_, vs.toArray, _, hk, rfl, rfl, rfl, by rw [List.size_toArray, lenV]; exact hl, by simpa using rv⟩) (fun b u z => ?_) (fun b z => ?_) fun z => absurd (show (if a ∈ cs.map (·.2) then some (HO.tbl #[]) else none) = none from if_neg aT) z
    · by_cases hb : b ∈ cs.map (·.2)
      · exact .inr (.inl hb)
      · exact .inl (if_neg hb)
    · by_cases hb : b ∈ cs.map (·.2)
      · have z' := (if_pos hb).symm.trans z
        cases z'
        exact isT b hb
      · have z' := (if_neg hb).symm.trans z
        cases z'
    · by_cases hb : b ∈ cs.map (·.2)
      · exact .inr hb
      · exact absurd (if_neg hb) z
  | none =>
    refine core (fun b => if b = a then some (.frz { cls := .type "list", data := .seq vs.toArray } (.lst (ns.map V.int))) else if b ∈ cs.map (·.2) then some (.tbl #[]) else none) (fun p hp => (if_neg (show ¬ p.2 = a from fun z => aT (by rw [← z]; exact memT p hp))).trans (if_pos (memT p hp))) (fun b => ?_)
      (.inl (.inr ⟨{ cls := .type "list", data := .seq vs.toArray }, if_pos rfl⟩)) (fun b u z => ?_) (fun b z => ?_) fun _ => hk
    · by_cases hb : b = a
      · exact .inr (.inr ⟨_, _, if_pos hb⟩)
      · by_cases hb2 : b ∈ cs.map (·.2)
        · exact .inr (.inl hb2)
        · exact .inl ((if_neg hb).trans (if_neg hb2))
    · by_cases hb : b = a
      · have z' := (if_pos hb).symm.trans z
        cases z'
        rw [hb]
        exact ⟨ha, by rw [List.length_map]; exact hl, vs, _, rv, ha⟩
      · have z1 := (if_neg hb).symm.trans z
        by_cases hb2 : b ∈ cs.map (·.2)
        · have z' := (if_pos hb2).symm.trans z1
          cases z'
          exact isT b hb2
        · have z' := (if_neg hb2).symm.trans z1
          cases z'
    · by_cases hb : b = a
      · exact .inl hb
      · by_cases hb2 : b ∈ cs.map (·.2)
        · exact .inr hb2
        · exact absurd ((if_neg hb).trans (if_neg hb2)) z
theorem walk_G {l : PySem.W.OpenLaw} {n k : Nat} {q : Program} {loose : List Str} {XP : (Str → Option Value) → Heap → Prop} {YP : World → Heap → Prop} {d : DefRec} {x : Str}
    (hn : l.most = some n) (hn2 : n ≤ sizeLine) (hdf : d.params.defaults = []) (hr : Room k callerA)
    (F : ∀ (w : World) (mg : Str → Option Value) (fa : Addr) (h : Heap), YP w h → h.Ns mainGlobals mg → mg d.name = some (.ref fa) →
      ∃ (K : PySem.W.Frag) (fd : FuncData) (cs : List (Addr × Addr)) (sp : Sp), K.In h ∧ (∀ p ∈ cs, h.get? p.2 = some { cls := .none, data := .fields #[] }) ∧ (∀ p ∈ cs, K.lookup p.2 = none) ∧ (∀ p ∈ cs, PySem.W.CodeHd h p.1 p.2) ∧ (∀ (s : Shared) (u : Value), BindsTo s fd ⟨[u], []⟩ [(x, u)]) ∧
        (∀ (H : Hp) (a : Addr) (ns : List Int), ns.length ≤ n → (∀ z ∈ ns, Builtin.Int.intBits z ≤ 1048576) → (∀ p ∈ cs, H p.2 = some (.tbl #[])) → (∀ b, H b = none ∨ b ∈ cs.map (·.2) ∨ ∃ o xs, H b = some (.frz o (.lst xs))) → SqL K H a (ns.map V.int) → sp [.ref a] H (fun v _ => v = .bl true) fun _ _ _ => False) ∧
        ∀ base : Heap, K.In base → base.Ns mainGlobals mg → (∀ p ∈ cs, LamX.TabB base mg p.1 p.2) → FnG l.prog w K mg base k fa fd [x] sp) :
    PySem.W.WalkO q loose XP YP l.row.toRowW d [] (fun f vs => PySem.call f vs) := by
  refine Att.attach_callB hn hdf fun w s₀ s₁ mg mb fa o pm cd doc a vs ns G Y ho hd hcd hmg hobj hints hlen hbits hg => ?_
  obtain ⟨K, fd, cs, sp, KX, hT, nT, C, hb, hsp, hF⟩ := F w mg fa _ Y G.T.g hmg
  exact law_callG KX G.T.g G.T.b G.T.builtins G.T.nolimit hg hT nT C G.T.bmain hobj hints (Nat.le_trans hlen hn2) hr hF hb (fun H hH hO hS => hsp H a ns hlen hbits hH hO hS)

/-! ### the table of a text -/
def sigOf (f : Fn) : Option Str × List Str := (match f.cls with
  | none => some f.name
  | some _ => none, f.args.args.map (·.arg))
def fnIx (T : Txt) (c m : Str) (pr : Bool) : Option Nat := findIx (fun f : Fn => decide (f.cls = some c) && (decide (f.name = m) && (f.prop == pr))) T.fns
def ciOf (T : Txt) (c : Cl) : Ci := ⟨c.name, !c.isExc, c.isExc, c.meths.filterMap fun m => (fnIx T c.name m false).map (m, ·), c.props.filterMap fun m => (fnIx T c.name m true).map (m, ·)⟩
/-- names of a scope that are its own -/
def ownN (s : Scope) : List Str := s.names.filterMap fun (x, k) => match k with
  | .local => some x
  | .cell => some x
  | _ => none
mutual
def scE : Nat → Expr → List Str
  | 0, _ => []
  | n + 1, e => match e with
    | .BoolOp _ vs _ => scEs n vs
    | .BinOp a _ b _ => scE n a ++ scE n b
    | .UnaryOp _ a _ => scE n a
    | .IfExp a b c _ => scE n a ++ (scE n b ++ scE n c)
    | .ListComp e gs s _ => ownN s ++ (scE n e ++ scGs n gs)
    | .Compare a _ bs _ => scE n a ++ scEs n bs
    | .Call f es ks _ => scE n f ++ (scEs n es ++ scKs n ks)
    | .Attribute a _ _ => scE n a
    | .Subscript a b _ => scE n a ++ scE n b
    | .List es _ => scEs n es
    | .Tuple es _ _ => scEs n es
    | _ => []
def scEs : Nat → List Expr → List Str
  | 0, _ => []
  | _ + 1, [] => []
  | n + 1, e :: r => scE n e ++ scEs n r
def scKs : Nat → List Keyword → List Str
  | 0, _ => []
  | _ + 1, [] => []
  | n + 1, ⟨_, e, _⟩ :: r => scE n e ++ scKs n r
def scGs : Nat → List Comprehension → List Str
  | 0, _ => []
  | _ + 1, [] => []
  | n + 1, ⟨t, i, fs, _⟩ :: r => scE n t ++ (scE n i ++ (scEs n fs ++ scGs n r))
end
mutual
def scS : Nat → Stmt → List Str
  | 0, _ => []
  | n + 1, s => match s with
    | .Expr e _ => scE n e
    | .Return (some e) _ => scE n e
    | .Assign ts e _ => scEs n ts ++ scE n e
    | .AugAssign t _ e _ => scE n t ++ scE n e
    | .If c a b _ => scE n c ++ (scSs n a ++ scSs n b)
    | .While c b _ _ => scE n c ++ scSs n b
    | .For t i b _ _ => scE n t ++ (scE n i ++ scSs n b)
    | .Try b _ _ _ _ => scSs n b
    | _ => []
def scSs : Nat → List Stmt → List Str
  | 0, _ => []
  | _ + 1, [] => []
  | n + 1, s :: r => scS n s ++ scSs n r
end
def addN : List Str → List Str → List Str
  | acc, [] => acc
  | acc, x :: r => if acc.contains x then addN acc r else addN (acc ++ [x]) r
def slotsOf (f : Fn) : List Str := addN (f.args.args.map (·.arg)) (ownN f.scope ++ scSs 60 f.body)
def plainArgs (a : Arguments) : Bool := a.posonlyargs.isEmpty && (a.vararg.isNone && (a.kwonlyargs.isEmpty && (a.kw_defaults.isEmpty && (a.kwarg.isNone && a.defaults.isEmpty))))
theorem plainArgs_ok {a : Arguments} (h : plainArgs a = true) : a = ⟨[], a.args, none, [], [], none, []⟩ := by
  obtain ⟨p, q, v, k, kd, kw, d⟩ := a
  unfold plainArgs at h
  simp only [Bool.and_eq_true, List.isEmpty_iff, Option.isNone_iff_eq_none] at h
  obtain ⟨h1, h2, h3, h4, h5, h6⟩ := h
  subst h1 h2 h3 h4 h5 h6
  rfl
/-- own errors: their __init__ is of the one shape -/
def initC (T : Txt) (f : Fn) (fl : Str) : Bool := match f.args.args, f.body with
  | [s, v], [.Expr (.Call (.Attribute (.Name b _) a p2) [.Name s1 _, .BinOp (.Constant (.str m) _ _) .Add (.Call (.Name r _) [.Name v1 _] [] _) _] [] p9) _, .Assign [.Attribute (.Name s2 _) fl' _] (.Name v2 _) _] =>
    decide (b = T.base) && (decide (a = "__init__") && (decide (s1 = s.arg) && (decide (s2 = s.arg) && (decide (v1 = v.arg) && (decide (v2 = v.arg) && (decide (r = "repr") && (decide (fl' = fl) && (p2.endLine == p9.line &&
    (decide (f.scope.names.lookup b = some .globalImplicit) && (decide (f.scope.names.lookup r = some .globalImplicit) && (T.free.contains r && (decide (m.length ≤ 1000) && (!(b == ("__debug__" : Str)) && (!(s.arg == ("__debug__" : Str)) && (!(s.arg == ("__classdict__" : Str)) && (!(v.arg == ("__debug__" : Str)) && (!(v.arg == ("__classdict__" : Str)) && plainArgs f.args)))))))))))))))))
  | _, _ => false
def initChk (T : Txt) (q : Str × Str) : Bool := match fnIx T q.1 "__init__" false with
  | some i => (match T.fns[i]? with
    | some f => initC T f q.2
    | none => false)
  | none => false
/-- the class' place -/
def clIx (T : Txt) (c : Str) : Option Nat := findIx (fun cl : Cl => decide (cl.name = c) && cl.isExc) T.cls
/-- the clauses of a def that tells -/
def tellH (T : Txt) (N : List Str) (sg : Scope) (xv : Str) : List ExceptHandler → Option (List (Nat × Str × Option Str))
  | [] => some []
  | .ExceptHandler (some (.Name c _)) none [.Assign [.Name x _] (.Tuple [.Constant (.str m) _ _, .Constant .none _ _] _ _) _] _ :: r =>
    if decide (x = xv) && (decide (sg.names.lookup c = some .globalImplicit) && !(c == ("__debug__" : Str))) then (clIx T c).bind fun i => (tellH T N sg xv r).map ((i, m, none) :: ·) else none
  | .ExceptHandler (some (.Name c _)) (some n) [.Assign [.Name x _] (.Tuple [.Constant (.str m) _ _, .Attribute (.Name n' _) f _] _ _) _] _ :: r =>
    if decide (x = xv) && (decide (sg.names.lookup c = some .globalImplicit) && (!(c == ("__debug__" : Str)) && (decide (n' = n) && (!decide (n = xv) && (decide (sg.names.lookup n = some .local) && (!(n == ("__debug__" : Str)) && (!(n == ("__classdict__" : Str)) && (T.inits.contains (c, f) && (ixOf n N).isSome)))))))) then
      (clIx T c).bind fun i => (tellH T N sg xv r).map ((i, m, some f) :: ·) else none
  | _ => none
/-- a def that tells what its argument raises -/
def tellC (T : Txt) (f : Fn) : Option (List (Nat × Str × Option Str)) := match f.cls, f.args.args, f.body with
  | none, [a], [.Assign [.Name xv _] (.Tuple [.Constant (.str m0) _ _, .Constant .none _ _] _ _) _, .Try [.Expr (.Call (.Name act _) [] [] _) _] (h₀ :: hds) [] [] _, .Return (some (.Name xv' _)) _] =>
    if decide (m0 = "none") && (decide (xv' = xv) && (decide (act = a.arg) && (!decide (act = xv) && (decide (f.scope.names.lookup xv = some .local) && (!(xv == ("__debug__" : Str)) && (!(xv == ("__classdict__" : Str)) && (!(act == ("__debug__" : Str)) && (!(act == ("__classdict__" : Str)) && ((decide (f.scope.names.lookup act = some .local) || decide (f.scope.names.lookup act = some .cell)) && (ixOf xv (slotsOf f)).isSome))))))))) then
      tellH T (slotsOf f) f.scope xv (h₀ :: hds) else none
  | _, _, _ => none
def ceOf (T : Txt) (blt : List (Str × Blt)) : CE := { N := [], sc := ⟨.function, [], false, false, []⟩, fn := fun _ => true, cls := T.cls.map (ciOf T), sigs := T.fns.map sigOf, flds := T.fields, blt := blt, free := T.free
                                                      tolds := T.fns.filterMap fun f => (tellC T f).map (f.name, ·), inits := T.inits.filterMap fun q => (clIx T q.1).map (·, q.2) }
def fiOf (ce : CE) (m : Bool) (f : Fn) : Fi := ⟨(sigOf f).1, (sigOf f).2, (slotsOf f).length, (cSs 60 { ce with N := slotsOf f, sc := f.scope, fn := fun _ => true, mkl := m } f.body).getD (.cons .never .nil)⟩
def fnChk (f : Fn) : Bool := plainArgs f.args && (decide (f.args.args.map (·.arg)).Nodup && C8.scC (slotsOf f) (f.args.args.map (·.arg)) f.scope)
def tbOf (T : Txt) (ce : CE) : Tb := { fns := T.fns.mapIdx fun i f => fiOf ce (T.lams.contains i) f, cls := ce.cls, flds := T.fields, up := fun a b => match T.cls[a]?, T.cls[b]? with
  | some x, some y => T.up x.name y.name
  | _, _ => false }
/-- what is looked at of the table, once -/
def tbChk (T : Txt) : Bool := (T.fns.all fnChk) && ((T.cls.all fun c => (c.meths.all fun m => (fnIx T c.name m false).isSome) && (c.props.all fun m => match fnIx T c.name m true with
      | some i => (match T.fns[i]? with
        | some f => f.args.args.length == 1
        | none => false)
      | none => false)) && ((T.cls.all fun c => match fnIx T c.name "__len__" false with
      | some i => (match T.fns[i]? with
        | some f => f.args.args.length == 1
        | none => false)
      | none => true) && ((T.cls.all fun c => c.isExc || c.meths.contains "__init__" ) && T.inits.all (initChk T))))
end Pl

set_option Elab.async false
set_option linter.all false
set_option maxRecDepth 100000
set_option maxHeartbeats 4000000
/-! Pl23: what the head has told, as the evaluator's table. -/
namespace Pl
open PySem PySem.Spec PyProof.Rows L2 He

theorem lookup_fm {g : Str → Option Nat} {m : Str} {i : Nat} : ∀ {l : List Str}, (l.filterMap fun x => (g x).map (x, ·)).lookup m = some i → m ∈ l ∧ g m = some i
  | [], h => by cases h
  | x :: r, h => by
    rw [List.filterMap_cons] at h
    cases e : g x with
    | none =>
      rw [e] at h
      obtain ⟨h1, h2⟩ := lookup_fm (l := r) h
      exact ⟨List.mem_cons_of_mem _ h1, h2⟩
    | some j =>
      rw [e] at h
      simp only [Option.map_some] at h
      by_cases q : m = x
      · subst q
        simp only [List.lookup, beq_self_eq_true] at h
        cases h
        exact ⟨List.mem_cons_self, e⟩
      · have q' : (m == x) = false := by simpa using q
        simp only [List.lookup, q'] at h
        obtain ⟨h1, h2⟩ := lookup_fm (l := r) h
        exact ⟨List.mem_cons_of_mem _ h1, h2⟩
theorem lookup_fm_none {g : Str → Option Nat} {m : Str} : ∀ {l : List Str}, (∀ x ∈ l, (g x).isSome = true) → (l.filterMap fun x => (g x).map (x, ·)).lookup m = none → m ∉ l
  | [], _, _ => by simp
  | x :: r, hg, h => by
    rw [List.filterMap_cons] at h
    have hx := hg x List.mem_cons_self
    cases e : g x with
    | none => rw [e] at hx; cases hx
    | some j =>
      rw [e] at h
      simp only [Option.map_some] at h
      by_cases q : m = x
      · subst q
        simp [List.lookup] at h
      · have q' : (m == x) = false := by simpa using q
        simp only [List.lookup, q'] at h
        have := lookup_fm_none (l := r) (fun y hy => hg y (List.mem_cons_of_mem _ hy)) h
        simp only [List.mem_cons, not_or]
        exact ⟨q, this⟩
section
variable {T : Txt} {K : PySem.W.Frag} {mg : Str → Option Value} {h : Heap} {blt : List (Str × Blt)}
def faOf (T : Txt) (K : PySem.W.Frag) (i : Nat) : Addr := match T.fns[i]? with
  | some f => f.adr K
  | none => 0
def caOf (T : Txt) (K : PySem.W.Frag) : CA := ⟨fun c => (T.cls[c]?).map fun cl => ga K cl.name, (lamTs T K).map fun p => (p.2.1, p.2.2)⟩
def csOf (T : Txt) (K : PySem.W.Frag) : List (Addr × Addr) := (lamTs T K).map fun p => (p.1, p.2.1)
theorem caOf_some {c : Nat} {C : Addr} (e : caOf T K c = some C) : ∃ cl, T.cls[c]? = some cl ∧ C = ga K cl.name := by
  obtain ⟨cl, h1, h2⟩ := om e
  exact ⟨cl, h1, h2.symm⟩
theorem cls_at {ce : CE} {c : Nat} : (tbOf T (ceOf T blt)).cls[c]? = (T.cls[c]?).map (ciOf T) := List.getElem?_map
theorem inst_at {c : Nat} (e : (tbOf T (ceOf T blt)).inst c = true) : ∃ cl, T.cls[c]? = some cl ∧ cl.isExc = false := by
  unfold Tb.inst at e
  rw [cls_at (ce := ceOf T blt)] at e
  cases q : T.cls[c]? with
  | none => rw [q] at e; cases e
  | some cl =>
    rw [q] at e
    exact ⟨cl, rfl, by have e' : (!cl.isExc) = true := e; simpa using e'⟩
theorem exc_at {c : Nat} (e : (tbOf T (ceOf T blt)).exc c = true) : ∃ cl, T.cls[c]? = some cl ∧ cl.isExc = true := by
  unfold Tb.exc at e
  rw [cls_at (ce := ceOf T blt)] at e
  cases q : T.cls[c]? with
  | none => rw [q] at e; cases e
  | some cl =>
    rw [q] at e
    exact ⟨cl, rfl, e⟩
theorem meth_at {c : Nat} {m : Str} {f : Nat} (e : methOf (tbOf T (ceOf T blt)) c m = some f) : ∃ cl fn, T.cls[c]? = some cl ∧ m ∈ cl.meths ∧ fnIx T cl.name m false = some f ∧ T.fns[f]? = some fn ∧ fn.cls = some cl.name ∧ fn.name = m ∧ fn.prop = false := by
  unfold methOf at e
  rw [cls_at (ce := ceOf T blt)] at e
  cases q : T.cls[c]? with
  | none => rw [q] at e; cases e
  | some cl =>
    rw [q] at e
    obtain ⟨h1, h2⟩ := lookup_fm (g := fun m => fnIx T cl.name m false) (l := cl.meths) e
    obtain ⟨fn, h3, h4⟩ := findIx_ok h2
    obtain ⟨h4, h5⟩ := ba h4
    obtain ⟨h5, h6⟩ := ba h5
    exact ⟨cl, fn, rfl, h1, h2, h3, of_decide_eq_true h4, of_decide_eq_true h5, by simpa using h6⟩
theorem prop_at {c : Nat} {m : Str} {f : Nat} (e : propOf (tbOf T (ceOf T blt)) c m = some f) : ∃ cl fn, T.cls[c]? = some cl ∧ m ∈ cl.props ∧ fnIx T cl.name m true = some f ∧ T.fns[f]? = some fn ∧ fn.cls = some cl.name ∧ fn.name = m ∧ fn.prop = true := by
  unfold propOf at e
  rw [cls_at (ce := ceOf T blt)] at e
  cases q : T.cls[c]? with
  | none => rw [q] at e; cases e
  | some cl =>
    rw [q] at e
    obtain ⟨h1, h2⟩ := lookup_fm (g := fun m => fnIx T cl.name m true) (l := cl.props) e
    obtain ⟨fn, h3, h4⟩ := findIx_ok h2
    obtain ⟨h4, h5⟩ := ba h4
    obtain ⟨h5, h6⟩ := ba h5
    exact ⟨cl, fn, rfl, h1, h2, h3, of_decide_eq_true h4, of_decide_eq_true h5, by simpa using h6⟩
theorem fn_at {ce : CE} {i : Nat} {fi : Fi} (e : (tbOf T ce).fns[i]? = some fi) : ∃ f, T.fns[i]? = some f ∧ fi = fiOf ce (T.lams.contains i) f := by
  have e' : (T.fns.mapIdx fun i f => fiOf ce (T.lams.contains i) f)[i]? = some fi := e
  rw [List.getElem?_mapIdx] at e'
  obtain ⟨f, h1, h2⟩ := om e'
  exact ⟨f, h1, h2.symm⟩
theorem fn_to {ce : CE} {i : Nat} {f : Fn} (e : T.fns[i]? = some f) : (tbOf T ce).fns[i]? = some (fiOf ce (T.lams.contains i) f) := by
  show (T.fns.mapIdx fun i f => fiOf ce (T.lams.contains i) f)[i]? = _
  rw [List.getElem?_mapIdx, e]
  rfl
theorem fas_cls {c : Nat} {cl : Cl} {x : Fa} (h : T.cls[c]? = some cl) (hx : x ∈ cl.fas T.fields) : x ∈ T.fas := by
  unfold Txt.fas
  exact List.mem_append_left _ (List.mem_append_right _ (List.mem_flatMap.mpr ⟨cl, List.mem_of_getElem? h, hx⟩))
theorem cl_fas_glo {cl : Cl} {fl : List Str} : Fa.glo cl.name ∈ cl.fas fl := by
  unfold Cl.fas
  split
  · split <;> simp
  · simp
theorem cl_fas_inst {cl : Cl} {fl : List Str} (e : cl.isExc = false) : Fa.cls cl.name ∈ cl.fas fl ∧ Fa.mkr cl.name ∈ cl.fas fl ∧ (∀ m ∈ cl.meths, Fa.meth cl.name m ∈ cl.fas fl) ∧ ∀ f ∈ fl, f ∉ cl.meths → f ∉ cl.props → Fa.noat cl.name f ∈ cl.fas fl := by
  unfold Cl.fas
  rw [e]
  simp only
  refine ⟨by simp, by simp, fun m hm => ?_, fun f hf h1 h2 => ?_⟩
  · exact List.mem_append_left _ (List.mem_append_right _ (List.mem_map.mpr ⟨m, hm, rfl⟩))
  · refine List.mem_append_right _ (List.mem_map.mpr ⟨f, List.mem_filter.mpr ⟨hf, ?_⟩, rfl⟩)
    simp [h1, h2]
theorem cl_fas_exc {cl : Cl} {fl : List Str} (e : cl.isExc = true) (hm : cl.meths = []) : Fa.exc cl.name ∈ cl.fas fl := by
  unfold Cl.fas
  rw [e, hm]
  simp
theorem contains_mem' {α : Type} [BEq α] [LawfulBEq α] {l : List α} {a : α} (h : l.contains a = true) : a ∈ l := List.contains_iff_mem.mp h
theorem clIx_ok {c : Str} {i : Nat} (h : clIx T c = some i) : ∃ cl, T.cls[i]? = some cl ∧ cl.name = c ∧ cl.isExc = true := by
  obtain ⟨cl, h1, h2⟩ := findIx_ok h
  obtain ⟨h2, h3⟩ := ba h2
  exact ⟨cl, h1, of_decide_eq_true h2, h3⟩
theorem tellH_ok (c : SaysP T K) (X : K.In h) (G : h.Ns mainGlobals mg) {N : List Str} {sg : Scope} {xv : Str} {j : Nat} (hj : N[j]? = some xv) : ∀ {hds : List ExceptHandler} {hs : List (Nat × Str × Option Str)}, tellH T N sg xv hds = some hs →
    ∃ l : List Hd, (∀ Z : Cx, Z.N = N → Z.env.scope = sg → Z.K = K → Z.mg = mg → HdOk Z j xv hds l) ∧ HdC (caOf T K) (tbOf T (ceOf T blt)) K hs l ∧ ∀ h ∈ l, ∀ i f, h.fo = some (i, f) → i ≠ j ∧ i < N.length := by
  have exc : ∀ {i : Nat} {cl : Cl}, T.cls[i]? = some cl → cl.isExc = true → (tbOf T (ceOf T blt)).exc i = true := fun {i cl} h1 h2 => by
    unfold Tb.exc
    rw [cls_at (ce := ceOf T blt), h1]
    exact h2
  have gm : ∀ {i : Nat} {cl : Cl}, T.cls[i]? = some cl → mg cl.name = some (.ref (ga K cl.name)) := fun {i cl} h1 => glo_ok X G (c.fa (fas_cls h1 cl_fas_glo))
  intro hds
  induction hds with
  | nil =>
    intro hs h
    unfold tellH at h
    cases h
    exact ⟨[], fun Z _ _ _ _ => .nil, .nil, fun h hh => by cases hh⟩
  | cons hd tl ih =>
    intro hs h
    unfold tellH at h
    split at h
    · rename_i e; cases e
    · rename_i cn np x p m i1 p1 i2 p2 i3 p3 pos pos' r e
      obtain ⟨e1, e2⟩ := List.cons.inj e
      subst e1 e2
      obtain ⟨h0, h⟩ := oif h
      obtain ⟨i, hi, h⟩ := ob h
      obtain ⟨hs', h2, h⟩ := om h
      subst h
      obtain ⟨h0, h3⟩ := ba h0
      obtain ⟨h3, h4⟩ := ba h3
      have h0 := of_decide_eq_true h0
      subst h0
      obtain ⟨cl, g1, g2, g3⟩ := clIx_ok hi
      obtain ⟨l, k1, k2, k3⟩ := ih h2
      refine ⟨⟨ga K cl.name, m, none⟩ :: l, fun Z z1 z2 z3 z4 => .plain ?_ (k1 Z z1 z2 z3 z4), .plain (by show (T.cls[i]?).map _ = _; rw [g1]; rfl) (exc g1 g3) k2, fun hh hm => ?_⟩
      · refine ⟨?_, by simpa using h4, .inl ?_⟩
        · show Z.env.scope.names.lookup cn = _
          rw [z2]
          exact of_decide_eq_true h3
        · rw [z4, ← g2]
          exact gm g1
      · rcases List.mem_cons.mp hm with q | q
        · subst q
          intro i f hf
          cases hf
        · exact k3 hh q
    · rename_i cn np n x p m i1 p1 n' p2 f p4 i3 p3 pos pos' r e
      obtain ⟨e1, e2⟩ := List.cons.inj e
      subst e1 e2
      obtain ⟨h0, h⟩ := oif h
      obtain ⟨i, hi, h⟩ := ob h
      obtain ⟨hs', h2, h⟩ := om h
      subst h
      obtain ⟨v0, u3⟩ := ba h0
      obtain ⟨h3, u4⟩ := ba u3
      obtain ⟨h4, u5⟩ := ba u4
      obtain ⟨v5, u6⟩ := ba u5
      obtain ⟨h6, u7⟩ := ba u6
      obtain ⟨h7, u8⟩ := ba u7
      obtain ⟨h8, u9⟩ := ba u8
      obtain ⟨h9, u10⟩ := ba u9
      obtain ⟨h10, h11⟩ := ba u10
      have w0 := of_decide_eq_true v0
      have w5 := of_decide_eq_true v5
      clear h0 u3 u4 u5 u6 u7 u8 u9 u10 v0 v5
      subst w0
      subst w5
      obtain ⟨cl, g1, g2, g3⟩ := clIx_ok hi
      obtain ⟨l, k1, k2, k3⟩ := ih h2
      cases hix : ixOf n' N with
      | none => rw [hix] at h11; cases h11
      | some ix =>
        have hN := ixOf_ok hix
        have hne : ix ≠ j := fun z => by
          rw [z, hj] at hN
          have : x = n' := Option.some.inj hN
          subst this
          simp at h6
        obtain ⟨xi, _, _⟩ := c.ini (contains_mem' h10)
        obtain ⟨o1, x2⟩ := ba xi
        obtain ⟨x2, x3⟩ := ba x2
        obtain ⟨x3, x4⟩ := ba x3
        obtain ⟨x4, x5⟩ := ba x4
        refine ⟨⟨ga K cl.name, m, some (ix, f)⟩ :: l, fun Z z1 z2 z3 z4 => .named ?_ (by rw [z1]; exact hN) hne (by rw [z2]; exact of_decide_eq_true h7) (by simpa using h8) (by simpa using h9) ?_ ?_ (k1 Z z1 z2 z3 z4), .named (by show (T.cls[i]?).map _ = _; rw [g1]; rfl) (exc g1 g3) k2, fun hh hm => ?_⟩
        · refine ⟨?_, by simpa using h4, .inl ?_⟩
          · show Z.env.scope.names.lookup cn = _
            rw [z2]
            exact of_decide_eq_true h3
          · rw [z4, ← g2]
            exact gm g1
        · rw [z3, g2]; exact xfB_ok x5
        · rw [z3, g2]; exact eqO_ok x4
        · rcases List.mem_cons.mp hm with q | q
          · subst q
            intro i f hf
            cases hf
            exact ⟨hne, (List.getElem?_eq_some_iff.mp hN).1⟩
          · exact k3 hh q
    · cases h
end
end Pl

set_option Elab.async false
set_option linter.all false
set_option maxRecDepth 100000
set_option maxHeartbeats 4000000
/-! Pl23b: .. the table stands. -/
namespace Pl
open PySem PySem.Spec PyProof.Rows L2 He
section
variable {T : Txt} {K : PySem.W.Frag} {mg : Str → Option Value} {h : Heap} {blt : List (Str × Blt)}
theorem lookup_fm2 {α β : Type} [BEq β] [LawfulBEq β] {γ : Type} {g : α → Option (β × γ)} {b : β} {c : γ} : ∀ {l : List α}, (l.filterMap g).lookup b = some c → ∃ a ∈ l, g a = some (b, c)
  | [], h => by cases h
  | x :: r, h => by
    rw [List.filterMap_cons] at h
    cases e : g x with
    | none =>
      rw [e] at h
      obtain ⟨a, h1, h2⟩ := lookup_fm2 (l := r) h
      exact ⟨a, List.mem_cons_of_mem _ h1, h2⟩
    | some p =>
      obtain ⟨b', c'⟩ := p
      rw [e] at h
      by_cases q : b = b'
      · subst q
        simp only [List.lookup, beq_self_eq_true] at h
        cases h
        exact ⟨x, List.mem_cons_self, e⟩
      · have q' : (b == b') = false := by simpa using q
        simp only [List.lookup, q'] at h
        obtain ⟨a, h1, h2⟩ := lookup_fm2 (l := r) h
        exact ⟨a, List.mem_cons_of_mem _ h1, h2⟩
theorem codeIn_ref {K : PySem.W.Frag} {cd : Value} {q : Str} (h : PySem.W.codeIn K cd q = true) : ∃ c, cd = .ref c := by
  cases cd with
  | ref c => exact ⟨c, rfl⟩
  | _ => cases h
theorem tell_ok (c : SaysP T K) (X : K.In h) (G : h.Ns mainGlobals mg) {ff : Fn} {i : Nat} {fd : Nat → FuncData} {hs : List (Nat × Str × Option Str)} (hfi : T.fns[i]? = some ff) (hF : FunD K ff.name ff.qual ff.args ff.body ff.scope [] [] (ff.adr K) (fd i)) (hck : fnChk ff = true) (ht : tellC T ff = some hs)
    (hb : ∀ (s : Shared) (us ws : List Value) (ks : List Str), (us ++ ws).length = (ff.args.args.map (·.arg)).length → ws.length = ks.length → (ks = [] ∨ (ff.args.args.map (·.arg)).drop us.length = ks) → BindsTo s (fd i) ⟨us, ks.zip ws⟩ ((ff.args.args.map (·.arg)).zip (us ++ ws)))
    (hm : ff.cls = none → mg ff.name = some (.ref (faOf T K i))) : TellW K mg (tbOf T (ceOf T blt)) (caOf T K) (faOf T K) fd ff.name hs := by
  have efa : faOf T K i = ff.adr K := by unfold faOf; rw [hfi]
  obtain ⟨k1, k2⟩ := ba hck
  obtain ⟨k2, k3⟩ := ba k2
  have S := C8.fnScope_by k3
  unfold tellC at ht
  split at ht
  · rename_i a xv p m0 i1 p1 i2 p2 i3 p3 pos1 act p4 p5 p6 h₀ hds pos2 xv' p7 pos3 ecls eargs ebody
    obtain ⟨h0, ht⟩ := oif ht
    obtain ⟨v1, u⟩ := ba h0
    obtain ⟨v2, u⟩ := ba u
    obtain ⟨v3, u⟩ := ba u
    obtain ⟨v4, u⟩ := ba u
    obtain ⟨v5, u⟩ := ba u
    obtain ⟨v6, u⟩ := ba u
    obtain ⟨v7, u⟩ := ba u
    obtain ⟨v8, u⟩ := ba u
    obtain ⟨v9, u⟩ := ba u
    obtain ⟨v10, v11⟩ := ba u
    have w1 := of_decide_eq_true v1
    have w2 := of_decide_eq_true v2
    have w3 := of_decide_eq_true v3
    cases hix : ixOf xv (slotsOf ff) with
    | none => rw [hix] at v11; cases v11
    | some j =>
      have hj := ixOf_ok hix
      obtain ⟨l, q1, q2, q3⟩ := tellH_ok (blt := blt) c X G hj ht
      rw [eargs] at S hb
      have hN0 : (slotsOf ff)[0]? = some act := by
        have := S.pre
        rw [w3]
        have e2 : (slotsOf ff).take 1 = [a.arg] := this
        cases hsl : slotsOf ff with
        | nil => rw [hsl] at e2; cases e2
        | cons z r =>
          rw [hsl] at e2
          have : z = a.arg := (List.cons.inj e2).1
          rw [this]
          rfl
      have hact : act ≠ xv := by simpa using v4
      refine ⟨i, act, xv, ff.qual, ff.args, ff.body, ff.scope, slotsOf ff, j, h₀, hds, l, p, p1, p2, p3, p4, p5, p6, p7, pos1, pos2, pos3, i1, i2, i3, hm ecls, by rw [efa]; exact hF, by rw [w3]; exact S, ?_, q1, q2, q3, hj, ?_, of_decide_eq_true v5, by simpa using v6, by simpa using v7, hN0, S.nd, ?_, by simpa using v8, by simpa using v9, fun s u => ?_⟩
      · rw [ebody, w1, w2]
      · intro z
        rw [z, hN0] at hj
        exact hact (Option.some.inj hj)
      · rcases Bool.or_eq_true_iff.mp v10 with z | z
        · exact .inl (of_decide_eq_true z)
        · exact .inr (.inl (of_decide_eq_true z))
      · rw [w3]
        exact hb s [u] [] [] rfl rfl (.inl rfl)
  · cases ht
theorem init_ok (c : SaysP T K) (X : K.In h) (G : h.Ns mainGlobals mg) {ff : Fn} {i : Nat} {fd : Nat → FuncData} {q : Str × Str} (hq : q ∈ T.inits) (hfi : T.fns[i]? = some ff) (hF : FunD K ff.name ff.qual ff.args ff.body ff.scope [] [] (ff.adr K) (fd i)) (hck : fnChk ff = true) (h1 : ff.cls = some q.1) (h2 : ff.name = "__init__") (h3 : ff.prop = false) (ht : initC T ff q.2 = true)
    (hb : ∀ (s : Shared) (us ws : List Value) (ks : List Str), (us ++ ws).length = (ff.args.args.map (·.arg)).length → ws.length = ks.length → (ks = [] ∨ (ff.args.args.map (·.arg)).drop us.length = ks) → BindsTo s (fd i) ⟨us, ks.zip ws⟩ ((ff.args.args.map (·.arg)).zip (us ++ ws))) :
    InitW K mg (ga K q.1) (ma K (ga K q.1) "__init__") q.2 := by
  have efa : ff.adr K = ma K (ga K q.1) "__init__" := by
    unfold Fn.adr
    rw [h1, h2, h3]
    rfl
  obtain ⟨k1, k2⟩ := ba hck
  obtain ⟨k2, k3⟩ := ba k2
  have S := C8.fnScope_by k3
  obtain ⟨xi, bI, gb⟩ := c.ini hq
  obtain ⟨o1, x2⟩ := ba xi
  obtain ⟨x2, x3⟩ := ba x2
  obtain ⟨x3, x4⟩ := ba x3
  obtain ⟨x4, x5⟩ := ba x4
  refine ⟨?_, oexB_ok o1, eqO_ok x2, of_decide_eq_true x3, eqO_ok x4⟩
  unfold initC at ht
  split at ht
  · rename_i s v b p1 a p2 s1 p3 m i1 p4 r p5 v1 p6 p7 p8 p9 p10 s2 p11 fl' p12 v2 p13 p14 eargs ebody
    obtain ⟨t1, u⟩ := ba ht
    obtain ⟨t2, u⟩ := ba u
    obtain ⟨t3, u⟩ := ba u
    obtain ⟨t4, u⟩ := ba u
    obtain ⟨t5, u⟩ := ba u
    obtain ⟨t6, u⟩ := ba u
    obtain ⟨t7, u⟩ := ba u
    obtain ⟨t8, u⟩ := ba u
    obtain ⟨t9, u⟩ := ba u
    obtain ⟨t10, u⟩ := ba u
    obtain ⟨t11, u⟩ := ba u
    obtain ⟨t12, u⟩ := ba u
    obtain ⟨t13, u⟩ := ba u
    obtain ⟨t14, u⟩ := ba u
    obtain ⟨t15, u⟩ := ba u
    obtain ⟨t16, u⟩ := ba u
    obtain ⟨t17, u⟩ := ba u
    obtain ⟨t18, t19⟩ := ba u
    have w1 := of_decide_eq_true t1
    have w2 := of_decide_eq_true t2
    have w3 := of_decide_eq_true t3
    have w4 := of_decide_eq_true t4
    have w5 := of_decide_eq_true t5
    have w6 := of_decide_eq_true t6
    have w7 := of_decide_eq_true t7
    have w8 := of_decide_eq_true t8
    rw [eargs] at S hb
    have S : FnScope (slotsOf ff) [s.arg, v.arg] ff.scope := S
    have hpre : (slotsOf ff).take 2 = [s.arg, v.arg] := S.pre
    have hN : (slotsOf ff)[0]? = some s.arg ∧ (slotsOf ff)[1]? = some v.arg := by
      cases hsl : slotsOf ff with
      | nil => rw [hsl] at hpre; cases hpre
      | cons z r =>
        cases r with
        | nil => rw [hsl] at hpre; cases (List.cons.inj hpre).2
        | cons z2 r2 =>
          rw [hsl] at hpre
          have e1 : z = s.arg := (List.cons.inj hpre).1
          have e2 : z2 = v.arg := (List.cons.inj (List.cons.inj hpre).2).1
          exact ⟨by rw [e1]; rfl, by rw [e2]; rfl⟩
    have vis : ∀ x ∈ [s.arg, v.arg], Vis ff.scope x := fun x hx => (S.par x hx).elim .inl fun z => .inr (.inl z)
    refine ⟨ga K T.base, s.arg, v.arg, b, ff.qual, m, ff.args, ff.body, ff.scope, slotsOf ff, fd i, p1, p2, p3, p4, p5, p6, p7, p8, p9, p10, p11, p12, p13, p14, i1, by rw [← efa, ← h2]; exact hF, S, fun s' us hl => ?_, ?_, by rw [w1]; exact glo_ok X G gb, baseB_ok bI, of_decide_eq_true t10, by simpa using t14, by rw [← w7]; exact of_decide_eq_true t11, by
      rw [← w7]
      exact free_ok X G (c.fa (by
        unfold Txt.fas
        exact List.mem_append_right _ (List.mem_map.mpr ⟨r, contains_mem' t12, rfl⟩))), of_decide_eq_true t13, hN.1, hN.2, vis _ (by simp), vis _ (by simp), by simpa using t15, by simpa using t16, by simpa using t17, by simpa using t18, t9⟩
    · have := hb s' us [] [] (by rw [List.append_nil, hl]; rfl) rfl (.inl rfl)
      rw [List.append_nil] at this
      exact this
    · rw [ebody, w2, w3, w4, w5, w6, w7, w8]
  · cases ht
theorem said (c : SaysP T K) (TH : TabsH T h K) (X : K.In h) (G : h.Ns mainGlobals mg) (chk : tbChk T = true) (hblt : ∀ p ∈ blt, BltAt mg p.2 p.1) :
    ∃ fd : Nat → FuncData, Said K mg (tbOf T (ceOf T blt)) (caOf T K) (faOf T K) fd T.fields T.free (csOf T K) (ceOf T blt) := by
  obtain ⟨k1, chk⟩ := ba chk
  obtain ⟨k2, chk⟩ := ba chk
  obtain ⟨k3, chk⟩ := ba chk
  obtain ⟨k4, k5⟩ := ba chk
  have hex : ∀ i : Nat, ∃ fd : FuncData, ∀ f : Fn, T.fns[i]? = some f → FunD K f.name f.qual f.args f.body f.scope [] [] (f.adr K) fd := fun i => by
    cases e : T.fns[i]? with
    | none => exact ⟨PySem.W.fnOf Str.empty Str.empty ⟨[], [], none, [], [], none, []⟩ [] ⟨.function, [], false, false, []⟩ .none .none .none .none none .none .none, fun f hf => by cases hf⟩
    | some f =>
      obtain ⟨fd, hfd⟩ := c.fn e
      exact ⟨fd, fun g hg => by cases hg; exact hfd⟩
  obtain ⟨fd, hfd⟩ := Classical.axiomOfChoice hex
  have fa_at : ∀ {i f}, T.fns[i]? = some f → faOf T K i = f.adr K := fun {i f} e => by unfold faOf; rw [e]
  have glo : ∀ {x : Str}, Fa.glo x ∈ T.fas → mg x = some (.ref (ga K x)) := fun hx => glo_ok X G (c.fa hx)
  have fw : ∀ i fi, (tbOf T (ceOf T blt)).fns[i]? = some fi → FnW K (caOf T K) (csOf T K) (ceOf T blt) (faOf T K i) (fd i) fi := fun i fi e => by
    obtain ⟨f, h1, h2⟩ := fn_at e
    have q := List.all_eq_true.mp k1 f (List.mem_of_getElem? h1)
    obtain ⟨q1, q2⟩ := ba q
    obtain ⟨q2, q3⟩ := ba q2
    have F := hfd i f h1
    rw [plainArgs_ok q1] at F
    rw [fa_at h1, h2]
    refine ⟨f.name, f.qual, f.args.args, f.body, f.scope, slotsOf f, T.lams.contains i, F, rfl, of_decide_eq_true q2, rfl, C8.fnScope_by q3, ?_, fun hm => ?_⟩
    · show _ = some ((cSs 60 _ f.body).getD (.cons .never .nil)) ∨ (cSs 60 _ f.body).getD (.cons .never .nil) = _
      cases e : cSs 60 { (ceOf T blt) with N := slotsOf f, sc := f.scope, fn := fun _ => true, mkl := T.lams.contains i } f.body with
      | none => exact .inr rfl
      | some b => exact .inl rfl
    · obtain ⟨oc, od, dV, kV, doc, pm, an, cdv, ct, osl, efd, lk, hcd, _, _⟩ := (hfd i f h1).ex
      obtain ⟨cc, ecd⟩ := codeIn_ref hcd
      rw [efd] at lk
      have ec : codeF K f = cc := by
        unfold codeF
        rw [lk, ecd]
      have hmem : (codeF K f, tabOf K (codeF K f), f.qual ++ ".<locals>." ++ "<lambda>") ∈ lamTs T K := List.mem_filterMap.mpr ⟨i, contains_mem' hm, by rw [h1]; rfl⟩
      refine ⟨cc, tabOf K cc, by rw [efd]; exact ecd, ?_, ?_, fun p hp he => ?_⟩
      · rw [← ec]
        exact List.mem_map.mpr ⟨_, hmem, rfl⟩
      · rw [← ec]
        exact List.mem_map.mpr ⟨_, hmem, rfl⟩
      · obtain ⟨p', hp', e'⟩ := List.mem_map.mp hp
        rw [← ec] at he
        subst e'
        exact TH.uni p' hp' _ hmem he
  have len1 : ∀ {i : Nat} {f : Fn}, T.fns[i]? = some f → (fiOf (ceOf T blt) (T.lams.contains i) f).ps.length = f.args.args.length := fun {i f} _ => by
    show (f.args.args.map (·.arg)).length = _
    rw [List.length_map]
  refine ⟨fd, {
    tbl := {
      kp := fun i fi e => by
        obtain ⟨f, h1, _⟩ := fn_at e
        rw [fa_at h1]
        exact (hfd i f h1).kp
      glo := fun i fi x e hx => by
        obtain ⟨f, h1, h2⟩ := fn_at e
        rw [fa_at h1]
        rw [h2] at hx
        have hx : (sigOf f).1 = some x := hx
        unfold sigOf at hx
        cases hc : f.cls with
        | some cc => rw [hc] at hx; cases hx
        | none =>
          rw [hc] at hx
          cases hx
          have : f.adr K = ga K f.name := by unfold Fn.adr; rw [hc]
          rw [this]
          refine glo ?_
          unfold Txt.fas
          exact List.mem_append_left _ (List.mem_append_left _ (List.mem_map.mpr ⟨f, List.mem_filter.mpr ⟨List.mem_of_getElem? h1, by rw [hc]; rfl⟩, rfl⟩))
      bind := fun i fi e s us ws ks h1 h2 h3 => (fw i fi e).bind s us ws ks h1 h2 h3
      cls := fun cc C e hin => by
        obtain ⟨cl, h1, h2⟩ := caOf_some e
        obtain ⟨cl', h3, h4⟩ := inst_at hin
        rw [h1] at h3; cases h3
        obtain ⟨f1, f2, _, _⟩ := cl_fas_inst (fl := T.fields) h4
        have mk := mkr_ok (c.fa (fas_cls h1 f2))
        rw [h2]
        exact ⟨cls_ok (c.fa (fas_cls h1 f1)), mk.makes, mk.kp⟩
      clsA := fun cc hin => by
        obtain ⟨cl, h3, h4⟩ := inst_at hin
        exact ⟨ga K cl.name, by show (T.cls[cc]?).map _ = _; rw [h3]; rfl⟩
      cglo := fun cc C ci e hci => by
        obtain ⟨cl, h1, h2⟩ := caOf_some e
        rw [cls_at (ce := ceOf T blt), h1] at hci
        cases hci
        rw [h2]
        exact glo (fas_cls h1 cl_fas_glo)
      meth := fun cc C m f e hin hm => by
        obtain ⟨cl, h1, h2⟩ := caOf_some e
        obtain ⟨cl', h3, h4⟩ := inst_at hin
        rw [h1] at h3; cases h3
        obtain ⟨cl', fn, g1, g2, g3, g4, g5, g6, g7⟩ := meth_at hm
        rw [h1] at g1; cases g1
        obtain ⟨_, _, f3, _⟩ := cl_fas_inst (fl := T.fields) h4
        refine ⟨?_, _, fn_to g4⟩
        have : faOf T K f = ma K (ga K cl.name) m := by
          rw [fa_at g4]
          unfold Fn.adr
          rw [g5, g7, g6]
          rfl
        rw [this, h2]
        exact meth_ok (c.fa (fas_cls h1 (f3 m g2)))
      prop := fun cc C m f e hin hm => by
        obtain ⟨cl, h1, h2⟩ := caOf_some e
        obtain ⟨cl', fn, g1, g2, g3, g4, g5, g6, g7⟩ := prop_at hm
        rw [h1] at g1; cases g1
        have : faOf T K f = getterIn K (ma K (ga K cl.name) m) := by
          rw [fa_at g4]
          unfold Fn.adr
          rw [g5, g7, g6]
          rfl
        rw [this, h2]
        exact ⟨_, c.prop (List.mem_of_getElem? h1) g2⟩
      noat := fun cc C f e hin hf h5 h6 => by
        obtain ⟨cl, h1, h2⟩ := caOf_some e
        obtain ⟨cl', h3, h4⟩ := inst_at hin
        rw [h1] at h3; cases h3
        obtain ⟨_, _, _, f4⟩ := cl_fas_inst (fl := T.fields) h4
        have q := List.all_eq_true.mp k2 cl (List.mem_of_getElem? h1)
        obtain ⟨q1, q2⟩ := ba q
        unfold methOf at h5
        rw [cls_at (ce := ceOf T blt), h1] at h5
        unfold propOf at h6
        rw [cls_at (ce := ceOf T blt), h1] at h6
        have m1 : f ∉ cl.meths := lookup_fm_none (g := fun m => fnIx T cl.name m false) (fun x hx => List.all_eq_true.mp q1 x hx) h5
        have m2 : f ∉ cl.props := lookup_fm_none (g := fun m => fnIx T cl.name m true) (fun x hx => by
          have := List.all_eq_true.mp q2 x hx
          split at this
          · rename_i i hi; rw [hi]; rfl
          · cases this) h6
        rw [h2]
        exact noat_ok (c.fa (fas_cls h1 (f4 f hf m1 m2)))
      free := fun x hx => free_ok X G (c.fa (by
        unfold Txt.fas
        exact List.mem_append_right _ (List.mem_map.mpr ⟨x, hx, rfl⟩)))
      exc := fun cc C ci e hci h1 h2 => by
        obtain ⟨cl, h3, h4⟩ := caOf_some e
        rw [cls_at (ce := ceOf T blt), h3] at hci
        cases hci
        have q := List.all_eq_true.mp k2 cl (List.mem_of_getElem? h3)
        obtain ⟨q1, q2⟩ := ba q
        have hm : cl.meths = [] := by
          cases hml : cl.meths with
          | nil => rfl
          | cons m r =>
            have h2' : (cl.meths.filterMap fun m => (fnIx T cl.name m false).map (m, ·)) = [] := h2
            rw [hml, List.filterMap_cons] at h2'
            have := List.all_eq_true.mp q1 m (by rw [hml]; exact List.mem_cons_self)
            cases e : fnIx T cl.name m false with
            | none => rw [e] at this; cases this
            | some j => rw [e] at h2'; cases h2'
        rw [h4]
        exact exc_ok (c.fa (fas_cls h3 (cl_fas_exc h1 hm)))
      excA := fun cc he => by
        obtain ⟨cl, h3, h4⟩ := exc_at he
        exact ⟨ga K cl.name, by show (T.cls[cc]?).map _ = _; rw [h3]; rfl⟩
      exm := fun a b A B ea eb ha hb => by
        obtain ⟨x, h1, h2⟩ := caOf_some ea
        obtain ⟨y, h3, h4⟩ := caOf_some eb
        obtain ⟨x', h5, h6⟩ := exc_at ha
        rw [h1] at h5; cases h5
        obtain ⟨y', h7, h8⟩ := exc_at hb
        rw [h3] at h7; cases h7
        rw [h2, h4, c.exm (List.mem_of_getElem? h1) (List.mem_of_getElem? h3) h6 h8]
        show some (T.up x.name y.name) = some (match T.cls[a]?, T.cls[b]? with
          | some x, some y => T.up x.name y.name
          | _, _ => false)
        rw [h1, h3] }
    wf := {
      prop1 := fun cc m g fi hp hfi => by
        obtain ⟨cl, fn, g1, g2, g3, g4, _⟩ := prop_at hp
        obtain ⟨f, h1, h2⟩ := fn_at hfi
        rw [g4] at h1; cases h1
        rw [h2, len1 g4]
        have q := List.all_eq_true.mp k2 cl (List.mem_of_getElem? g1)
        obtain ⟨q1, q2⟩ := ba q
        have := List.all_eq_true.mp q2 m g2
        rw [g3] at this
        simp only [g4] at this
        simpa using this
      propE := fun cc m g hp => by
        obtain ⟨cl, fn, g1, g2, g3, g4, _⟩ := prop_at hp
        exact ⟨_, fn_to g4⟩
      methE := fun cc m g hp => by
        obtain ⟨cl, fn, g1, g2, g3, g4, _⟩ := meth_at hp
        exact ⟨_, fn_to g4⟩
      len1 := fun cc f hm fi hfi => by
        obtain ⟨cl, fn, g1, g2, g3, g4, _⟩ := meth_at hm
        obtain ⟨f', h1, h2⟩ := fn_at hfi
        rw [g4] at h1; cases h1
        rw [h2, len1 g4]
        have q := List.all_eq_true.mp k3 cl (List.mem_of_getElem? g1)
        rw [g3] at q
        simp only [g4] at q
        simpa using q }
    fns := fw
    cls := rfl
    sigs := by
      show (T.fns.mapIdx fun i f => fiOf (ceOf T blt) (T.lams.contains i) f).map (fun fi => (fi.glob, fi.ps)) = T.fns.map sigOf
      apply List.ext_getElem?
      intro i
      rw [List.getElem?_map, List.getElem?_mapIdx, List.getElem?_map]
      cases T.fns[i]? with
      | none => rfl
      | some f => rfl
    flds := rfl
    free := fun x hx => free_ok X G (c.fa (by
        unfold Txt.fas
        exact List.mem_append_right _ (List.mem_map.mpr ⟨x, hx, rfl⟩)))
    blt := hblt
    told := fun x hs hx => by
      obtain ⟨ff, hm, hg⟩ := lookup_fm2 (g := fun f : Fn => (tellC T f).map (f.name, ·)) (l := T.fns) hx
      obtain ⟨hs', h1, h2⟩ := om hg
      cases h2
      obtain ⟨i, hi, e⟩ := List.getElem_of_mem hm
      have hfi : T.fns[i]? = some ff := by rw [List.getElem?_eq_getElem hi, e]
      refine tell_ok (blt := blt) c X G hfi (hfd i ff hfi) (List.all_eq_true.mp k1 ff hm) h1 (fun s us ws ks a b d => (fw i _ (fn_to hfi)).bind s us ws ks a b d) fun hc => ?_
      have : ff.adr K = ga K ff.name := by unfold Fn.adr; rw [hc]
      rw [fa_at hfi, this]
      refine glo ?_
      unfold Txt.fas
      exact List.mem_append_left _ (List.mem_append_left _ (List.mem_map.mpr ⟨ff, List.mem_filter.mpr ⟨hm, by rw [hc]; rfl⟩, rfl⟩))
    ini := fun cc f hx => by
      obtain ⟨q, hm, hg⟩ := lookup_fm2 (g := fun q : Str × Str => (clIx T q.1).map (·, q.2)) (l := T.inits) hx
      obtain ⟨ci, h1, h2⟩ := om hg
      cases h2
      obtain ⟨cl, g1, g2, g3⟩ := clIx_ok h1
      have hc := List.all_eq_true.mp k5 q hm
      unfold initChk at hc
      split at hc
      · rename_i i hi
        split at hc
        · rename_i ff hfi
          obtain ⟨fn, h3, h4⟩ := findIx_ok hi
          rw [hfi] at h3
          cases h3
          obtain ⟨h4, h5⟩ := ba h4
          obtain ⟨h5, h6⟩ := ba h5
          refine ⟨ga K q.1, ma K (ga K q.1) "__init__", by show (T.cls[cc]?).map _ = _; rw [g1, ← g2]; rfl, ?_⟩
          exact init_ok c X G hm hfi (hfd i _ hfi) (List.all_eq_true.mp k1 _ (List.mem_of_getElem? hfi)) (of_decide_eq_true h4) (of_decide_eq_true h5) (by simpa using h6) hc (fun s us ws ks a b d => (fw i _ (fn_to hfi)).bind s us ws ks a b d)
        · cases hc
      · cases hc }⟩
end
end Pl

set_option Elab.async false
set_option linter.all false
set_option maxRecDepth 100000
set_option maxHeartbeats 4000000
/-! Pl24: a law by its plain law. -/
namespace Pl
open PySem PySem.Spec PyProof.Rows L2 He

theorem reps_intsN {K : PySem.W.Frag} {H : Hp} {μ : List Addr} : ∀ ns : List Int, Reps K H μ (ns.map D.int) (ns.map V.int)
  | [] => Reps.nil
  | n :: r => Reps.cons (rep_int.mpr rfl) (reps_intsN r)
theorem sr_nil {K : PySem.W.Frag} {ca : CA} {H : Hp} (h : LamX.Tabs ca.tabs H) : SR K ca H [] [] := ⟨rfl, List.nodup_nil, (fun i o e => by cases e), h⟩
theorem law_sp {K : PySem.W.Frag} {ca : CA} {f : List D → Store → Out D} {H : Hp} {a : Addr} {ns : List Int} {cs : List (Addr × Addr)} (hH : ∀ p ∈ cs, H p.2 = some (.tbl #[])) (hO : ∀ b, H b = none ∨ b ∈ cs.map (·.2) ∨ ∃ o xs, H b = some (.frz o (.lst xs))) (ht : LamX.Tabs ca.tabs H) (hS : SqL K H a (ns.map V.int)) (p : ∃ S', f [.rol (ns.map D.int)] [] = .ok (.bl true) S') :
    spF K ca 1 f [.ref a] H (fun v _ => v = .bl true) fun _ _ _ => False := by
  obtain ⟨S', e⟩ := p
  refine ⟨rfl, [.rol (ns.map D.int)], [], [], Reps.cons (rep_rol.mpr ⟨a, ns.map V.int, rfl, ?_, reps_intsN ns⟩) Reps.nil, sr_nil ht, ?_⟩
  · rcases hS with h | h
    · rcases h with h | h
      · rcases hO a with z | z | ⟨o, xs, z⟩
        · rw [h] at z; cases z
        · obtain ⟨p, hp, e⟩ := List.mem_map.mp z
          have := hH p hp
          rw [e, h] at this
          cases this
        · rw [h] at z; cases z
      · exact .inl h
    · exact .inr h
  · rw [e]
    intro H' μ' _ _ v rv
    exact rep_bl.mp rv
theorem law_end {T : Txt} {K : PySem.W.Frag} {h : Heap} {mg : Str → Option Value} {blt : List (Str × Blt)} {P : Program} {w : World} {name x : Str} {f : Addr} {li Wn k : Nat} {fi : Fi} {n : Nat} (c : SaysP T K) (TH : TabsH T h K) (X : K.In h) (G : h.Ns mainGlobals mg) (chk : tbChk T = true) (hblt : ∀ p ∈ blt, BltAt mg p.2 p.1)
    (hfi : (tbOf T (ceOf T blt)).fns[li]? = some fi) (hg : fi.glob = some name) (hps : fi.ps = [x]) (hmg : mg name = some (.ref f))
    (plain : ∀ ns : List Int, ns.length ≤ n → (∀ z ∈ ns, Builtin.Int.intBits z ≤ 1048576) → ∃ S', run (tbOf T (ceOf T blt)) Wn k li [.rol (ns.map D.int)] [] = .ok (.bl true) S') :
    ∃ (K : PySem.W.Frag) (fd : FuncData) (cs : List (Addr × Addr)) (sp : Sp), K.In h ∧ (∀ p ∈ cs, h.get? p.2 = some { cls := .none, data := .fields #[] }) ∧ (∀ p ∈ cs, K.lookup p.2 = none) ∧ (∀ p ∈ cs, PySem.W.CodeHd h p.1 p.2) ∧ (∀ (s : Shared) (u : Value), BindsTo s fd ⟨[u], []⟩ [(x, u)]) ∧
        (∀ (H : Hp) (a : Addr) (ns : List Int), ns.length ≤ n → (∀ z ∈ ns, Builtin.Int.intBits z ≤ 1048576) → (∀ p ∈ cs, H p.2 = some (.tbl #[])) → (∀ b, H b = none ∨ b ∈ cs.map (·.2) ∨ ∃ o xs, H b = some (.frz o (.lst xs))) → SqL K H a (ns.map V.int) → sp [.ref a] H (fun v _ => v = .bl true) fun _ _ _ => False) ∧
        ∀ base : Heap, K.In base → base.Ns mainGlobals mg → (∀ p ∈ cs, LamX.TabB base mg p.1 p.2) → FnG P w K mg base k f fd [x] sp := by
  obtain ⟨fd, Z⟩ := said (blt := blt) c TH X G chk hblt
  have e : f = faOf T K li := by
    have := hmg.symm.trans (Z.tbl.glo li fi name hfi hg)
    cases this
    rfl
  have mem : ∀ {p : Addr × Addr}, p ∈ csOf T K → ∃ q ∈ lamTs T K, p = (q.1, q.2.1) := fun {p} hp => by
    obtain ⟨q, h1, h2⟩ := List.mem_map.mp hp
    exact ⟨q, h1, h2.symm⟩
  refine ⟨K, fd li, csOf T K, spF K (caOf T K) 1 (run (tbOf T (ceOf T blt)) Wn k li), X, fun p hp => ?_, fun p hp => ?_, fun p hp => ?_, fun s u => ?_, fun H a ns h1 h2 hH hO hS => law_sp hH hO (fun p hp => ?_) hS (plain ns h1 h2), fun base _ _ TB => ?_⟩
  · obtain ⟨q, h1, rfl⟩ := mem hp
    exact TH.empty q h1
  · obtain ⟨q, h1, rfl⟩ := mem hp
    exact TH.out q h1
  · obtain ⟨q, h1, rfl⟩ := mem hp
    exact PySem.W.codeHd_of_K X (TH.hd q h1)
  · have := Z.tbl.bind li fi hfi s [u] [] [] (by rw [hps]; rfl) rfl (.inl rfl)
    rw [hps] at this
    exact this
  · obtain ⟨q, h1, h2⟩ := List.mem_map.mp hp
    have : H q.2.1 = some (.tbl #[]) := hH (q.1, q.2.1) (List.mem_map.mpr ⟨q, h1, rfl⟩)
    rw [← h2]
    exact LamX.TabS.nil this
  · have q := (all_ok (P := P) (w := w) (base := base) TB Z Wn k).1 li fi hfi
    rw [hps] at q
    rw [e]
    exact q
/-- the usual built-ins -/
def blts : List (Str × Blt) := [("len", .len), ("list", .list), ("tuple", .tuple), ("all", .all), ("any", .any), ("sum", .sum), ("abs", .abs), ("max", .max), ("min", .min), ("int", .int), ("repr", .repr)]
def bltsG : List (Str × Blt) := ("gcd", .gcd) :: blts
theorem blts_ok {T : Txt} {K : PySem.W.Frag} {h : Heap} {mg : Str → Option Value} (c : SaysP T K) (X : K.In h) (G : h.Ns mainGlobals mg) (hf : (blts.all fun p => T.free.contains p.1) = true) : ∀ p ∈ blts, BltAt mg p.2 p.1 := by
  intro p hp
  have hfree : mg p.1 = none := free_ok X G (c.fa (by
    unfold Txt.fas
    exact List.mem_append_right _ (List.mem_map.mpr ⟨p.1, List.contains_iff_mem.mp (List.all_eq_true.mp hf p hp), rfl⟩)))
  unfold blts at hp
  simp only [List.mem_cons, List.not_mem_nil, or_false] at hp
  refine .inr ?_
  rcases hp with rfl | rfl | rfl | rfl | rfl | rfl | rfl | rfl | rfl | rfl | rfl <;> exact ⟨by decide, hfree, by decide +kernel, by decide⟩
theorem bltsG_ok {T : Txt} {K : PySem.W.Frag} {h : Heap} {mg : Str → Option Value} (c : SaysP T K) (X : K.In h) (G : h.Ns mainGlobals mg) (hf : (blts.all fun p => T.free.contains p.1) = true) (hb : (("gcd" : Str), "math.gcd") ∈ T.bfun) : ∀ p ∈ bltsG, BltAt mg p.2 p.1 := by
  intro p hp
  rcases List.mem_cons.mp hp with e | e
  · subst e
    exact .inl ⟨rfl, bfB_ok X G (c.bf hb)⟩
  · exact blts_ok c X G hf p e
end Pl

set_option Elab.async false
set_option linter.all false
set_option maxRecDepth 100000
set_option maxHeartbeats 4000000
namespace Pl
def dotQ (a c : List Rat) : Rat := (List.zipWith (fun x y => x * y) a c).sum
def stepQ (acc : List Rat) (q : Rat) (r : List Rat) : List Rat := List.zipWith (fun a b => a + q * b) acc r
def movQ : List Rat → List Rat → List (List Rat) → List Rat
  | acc, q :: qs, r :: rs => movQ (stepQ acc q r) qs rs
  | acc, _, _ => acc
def widthQ (m : List (List Rat)) : Nat := match m with
  | [] => 0
  | r :: _ => r.length
def moveQ (r : List Rat) (m : List (List Rat)) : List Rat := movQ (List.replicate (widthQ m) 0) r m
/-- a number with so many parts, no greater than -/
def Sm (c B : Nat) (q : Rat) : Prop := ∃ z : Int, q * (c : Rat) = (z : Rat) ∧ z.natAbs ≤ B
theorem Sm.zero (c B : Nat) : Sm c B 0 := ⟨0, by simp, Nat.zero_le _⟩
theorem Sm.mono {c B B' : Nat} {q : Rat} (h : Sm c B q) (hb : B ≤ B') : Sm c B' q := by
  obtain ⟨z, e, l⟩ := h
  exact ⟨z, e, Nat.le_trans l hb⟩
theorem Sm.add {c B B' : Nat} {p q : Rat} (h : Sm c B p) (h' : Sm c B' q) : Sm c (B + B') (p + q) := by
  obtain ⟨z, e, l⟩ := h
  obtain ⟨y, e', l'⟩ := h'
  refine ⟨z + y, ?_, by omega⟩
  push_cast
  rw [Rat.add_mul, e, e']
theorem Sm.mul {c B c' B' : Nat} {p q : Rat} (h : Sm c B p) (h' : Sm c' B' q) : Sm (c * c') (B * B') (p * q) := by
  obtain ⟨z, e, l⟩ := h
  obtain ⟨y, e', l'⟩ := h'
  refine ⟨z * y, ?_, by rw [Int.natAbs_mul]; exact Nat.mul_le_mul l l'⟩
  push_cast
  rw [← e, ← e']
  grind
theorem Sm.scale {c B : Nat} {q : Rat} (h : Sm c B q) (d : Nat) : Sm (c * d) (B * d) q := by
  obtain ⟨z, e, l⟩ := h
  refine ⟨z * d, ?_, by rw [Int.natAbs_mul]; exact Nat.mul_le_mul l (by simp)⟩
  push_cast
  rw [← e]
  grind
theorem Sm.fits {c B : Nat} {q : Rat} (h : Sm c B q) (hc : 0 < c) : q.den ∣ c ∧ q.num.natAbs ≤ B := by
  obtain ⟨z, e, l⟩ := h
  have e1 : (q.num : Rat) = q * (q.den : Nat) := by
    have h2 := Rat.num_divInt_den q
    have h3 : (Rat.divInt q.num q.den) = (q.num : Rat) / ((q.den : Int) : Rat) := Rat.divInt_eq_div _ _
    rw [h2] at h3
    have h4 : ((q.den : Int) : Rat) ≠ 0 := by
      have := q.den_pos
      intro z
      have : (q.den : Int) = 0 := by exact_mod_cast z
      omega
    have h5 : ((q.den : Int) : Rat) = ((q.den : Nat) : Rat) := by norm_cast
    rw [h5] at h3 h4
    grind
  have e2 : q.num * (c : Int) = z * (q.den : Int) := by
    have : ((q.num * (c : Int) : Int) : Rat) = ((z * (q.den : Int) : Int) : Rat) := by
      push_cast
      rw [e1, ← e]
      grind
    exact_mod_cast this
  have e3 : q.num.natAbs * c = z.natAbs * q.den := by
    have := congrArg Int.natAbs e2
    rw [Int.natAbs_mul, Int.natAbs_mul] at this
    simpa using this
  have hd : q.den ∣ c := by
    have h1 : q.den ∣ q.num.natAbs * c := ⟨z.natAbs, by rw [e3, Nat.mul_comm]⟩
    exact Nat.Coprime.dvd_of_dvd_mul_left q.reduced.symm h1
  refine ⟨hd, ?_⟩
  obtain ⟨k, rfl⟩ := hd
  have dp := q.den_pos
  have hk : 0 < k := Nat.pos_of_mul_pos_left hc
  have e4 : q.num.natAbs * k = z.natAbs := by
    have : q.num.natAbs * k * q.den = z.natAbs * q.den := by rw [← e3]; rw [Nat.mul_assoc, Nat.mul_comm k]
    exact Nat.eq_of_mul_eq_mul_right dp this
  have : q.num.natAbs ≤ q.num.natAbs * k := Nat.le_mul_of_pos_right _ hk
  omega
theorem Sm.divInt {t b : Int} {c B : Nat} (hb : 0 < b) (hc : b.natAbs ∣ c) (hB : t.natAbs * (c / b.natAbs) ≤ B) : Sm c B (Rat.divInt t b) := by
  obtain ⟨k, rfl⟩ := hc
  have hb' : 0 < b.natAbs := by omega
  rw [Nat.mul_div_cancel_left _ hb'] at hB
  refine ⟨t * k, ?_, by rw [Int.natAbs_mul]; simpa using hB⟩
  rw [Rat.divInt_eq_div]
  have e : ((b.natAbs : Nat) : Rat) = (b : Rat) := by
    have : ((b.natAbs : Nat) : Int) = b := by omega
    exact_mod_cast congrArg (fun x : Int => (x : Rat)) this
  have hn : (b : Rat) ≠ 0 := by
    intro z
    have : b = 0 := by exact_mod_cast z
    omega
  push_cast
  rw [e]
  grind
/-- the bounds of a row behind k signs -/
def RowK (k : Nat) (r : List Rat) : Prop := ∀ q ∈ r, Sm (6 ^ (k + 1)) (100 ^ (k + 1)) q
theorem dotQ_nil : dotQ [] [] = 0 := rfl
theorem dotQ_snoc {a c : List Rat} {x y : Rat} (h : a.length = c.length) : dotQ (a ++ [x]) (c ++ [y]) = dotQ a c + x * y := by
  unfold dotQ
  rw [List.zipWith_append h, List.sum_append]
  simp [Rat.add_zero]
theorem dot_sm {c c' B B' : Nat} : ∀ (a b : List Rat), (∀ q ∈ a, Sm c B q) → (∀ q ∈ b, Sm c' B' q) → Sm (c * c') (a.length * (B * B')) (dotQ a b)
  | [], b, _, _ => by simpa [dotQ] using Sm.zero _ _
  | _ :: _, [], _, _ => by simpa [dotQ] using Sm.zero _ _
  | x :: a, y :: b, h1, h2 => by
    have ih := dot_sm a b (fun q hq => h1 q (List.mem_cons_of_mem _ hq)) (fun q hq => h2 q (List.mem_cons_of_mem _ hq))
    have e := ((h1 x List.mem_cons_self).mul (h2 y List.mem_cons_self)).add ih
    unfold dotQ at e ⊢
    simp only [List.zipWith_cons_cons, List.sum_cons, List.length_cons]
    refine e.mono ?_
    rw [Nat.add_mul]
    omega
/-- entries of a machine -/
def Ent (r : List Rat) : Prop := ∀ q ∈ r, Sm 6 24 q
theorem dot_rowK {k : Nat} {a b : List Rat} (ha : RowK k a) (hb : Ent b) (hl : a.length ≤ 4) : Sm (6 ^ (k + 2)) (100 ^ (k + 2)) (dotQ a b) := by
  have h := dot_sm a b ha hb
  have e1 : 6 ^ (k + 2) = 6 ^ (k + 1) * 6 := Nat.pow_succ 6 (k + 1)
  have e2 : 100 ^ (k + 2) = 100 ^ (k + 1) * 100 := Nat.pow_succ 100 (k + 1)
  rw [e1]
  refine h.mono ?_
  rw [e2]
  have : a.length * (100 ^ (k + 1) * 24) = (100 ^ (k + 1)) * (a.length * 24) := by
    rw [Nat.mul_comm a.length, Nat.mul_assoc, Nat.mul_comm 24]
  rw [this]
  exact Nat.mul_le_mul_left _ (by omega)
def colQ (j : Nat) (m : List (List Rat)) : List Rat := m.map fun r => r.getD j 0
theorem movQ_col : ∀ (qs : List Rat) (m : List (List Rat)) (acc : List Rat), (∀ r ∈ m, r.length = acc.length) →
    movQ acc qs m = (List.range acc.length).map fun j => acc.getD j 0 + dotQ qs (colQ j m)
  | [], m, acc, _ => by
    have : movQ acc [] m = acc := by cases m <;> rfl
    rw [this]
    refine List.ext_getElem (by simp) fun i h1 h2 => ?_
    simp [dotQ, List.getD_eq_getElem?_getD, h1, Rat.add_zero]
  | q :: qs, [], acc, _ => by
    have : movQ acc (q :: qs) [] = acc := rfl
    rw [this]
    refine List.ext_getElem (by simp) fun i h1 h2 => ?_
    simp [dotQ, colQ, List.getD_eq_getElem?_getD, h1, Rat.add_zero]
  | q :: qs, r :: m, acc, h => by
    have hr := h r List.mem_cons_self
    have el : (stepQ acc q r).length = acc.length := by simp [stepQ, hr]
    show movQ (stepQ acc q r) qs m = _
    rw [movQ_col qs m _ fun x hx => by rw [el]; exact h x (List.mem_cons_of_mem _ hx), el]
    refine List.map_congr_left fun j hj => ?_
    have hj' : j < acc.length := by simpa using hj
    have e1 : (stepQ acc q r).getD j 0 = acc.getD j 0 + q * r.getD j 0 := by
      simp [stepQ, List.getD_eq_getElem?_getD, hj', hr]
    rw [e1]
    show _ + dotQ qs (colQ j m) = acc.getD j 0 + dotQ (q :: qs) (r.getD j 0 :: colQ j m)
    unfold dotQ
    simp only [List.zipWith_cons_cons, List.sum_cons]
    grind
/-- a square matrix -/
structure Sq (n : Nat) (m : List (List Rat)) : Prop where
  len : m.length = n
  rows : ∀ r ∈ m, r.length = n
  ent : ∀ r ∈ m, Ent r
theorem moveQ_col {n : Nat} {r : List Rat} {m : List (List Rat)} (h : Sq n m) : moveQ r m = (List.range n).map fun j => dotQ r (colQ j m) := by
  have hw : widthQ m = n := by
    have := h.len
    cases hm : m with
    | nil => rw [hm] at this; exact this
    | cons x m' => exact h.rows x (by rw [hm]; exact List.mem_cons_self)
  unfold moveQ
  rw [movQ_col r m _ (fun x hx => by rw [List.length_replicate, hw]; exact h.rows x hx), List.length_replicate, hw]
  refine List.map_congr_left fun j hj => ?_
  have : j < n := by simpa using hj
  simp [List.getD_eq_getElem?_getD, this, Rat.zero_add]
theorem col_ent {n j : Nat} {m : List (List Rat)} (h : Sq n m) : Ent (colQ j m) := fun q hq => by
  obtain ⟨r, hr, rfl⟩ := List.mem_map.mp hq
  rw [List.getD_eq_getElem?_getD]
  cases e : r[j]? with
  | none => exact Sm.zero _ _
  | some x => exact h.ent r hr x (List.mem_of_getElem? e)
theorem move_len {n : Nat} {r : List Rat} {m : List (List Rat)} (h : Sq n m) : (moveQ r m).length = n := by
  rw [moveQ_col h]
  simp
theorem move_rowK {k n : Nat} {r : List Rat} {m : List (List Rat)} (h : Sq n m) (hr : RowK k r) (hl : r.length ≤ 4) : RowK (k + 1) (moveQ r m) := fun q hq => by
  rw [moveQ_col h] at hq
  obtain ⟨j, _, rfl⟩ := List.mem_map.mp hq
  exact dot_rowK hr (col_ent h) hl
theorem rowK_ent {r : List Rat} (h : Ent r) : RowK 0 r := fun q hq => (h q hq).mono (by decide)
/-- a machine -/
structure Mc where
  signs : Nat
  size : Nat
  begin : List Rat
  steps : List (List (List Rat))
  fin : List Rat
structure Mc.Ok (M : Mc) : Prop where
  size4 : M.size ≤ 4
  signs4 : M.signs ≤ 4
  signs1 : 1 ≤ M.signs
  bl : M.begin.length = M.size
  be : Ent M.begin
  sl : M.steps.length = M.signs
  sq : ∀ m ∈ M.steps, Sq M.size m
  fl : M.fin.length = M.size
  fe : Ent M.fin
def Mc.step (M : Mc) (s : Nat) : List (List Rat) := M.steps.getD s []
def Mc.alongFrom (M : Mc) (r : List Rat) (w : List Nat) : List Rat := w.foldl (fun r s => moveQ r (M.step s)) r
def Mc.along (M : Mc) (w : List Nat) : List Rat := M.alongFrom M.begin w
def Mc.worth (M : Mc) (w : List Nat) : Rat := dotQ (M.along w) M.fin
theorem Mc.Ok.step {M : Mc} (h : M.Ok) {s : Nat} (hs : s < M.signs) : Sq M.size (M.step s) := by
  unfold Mc.step
  have hl : s < M.steps.length := by rw [h.sl]; exact hs
  rw [List.getD_eq_getElem?_getD, List.getElem?_eq_getElem hl]
  exact h.sq _ (List.getElem_mem hl)
theorem Mc.Ok.alongFrom {M : Mc} (h : M.Ok) : ∀ (w : List Nat) (k : Nat) (r : List Rat), (∀ s ∈ w, s < M.signs) → RowK k r → r.length = M.size → RowK (k + w.length) (M.alongFrom r w) ∧ (M.alongFrom r w).length = M.size
  | [], k, r, _, hr, hl => ⟨hr, hl⟩
  | s :: w, k, r, hw, hr, hl => by
    have hs := h.step (hw s List.mem_cons_self)
    have h4 := h.size4
    have := Mc.Ok.alongFrom h w (k + 1) (moveQ r (M.step s)) (fun x hx => hw x (List.mem_cons_of_mem _ hx)) (move_rowK hs hr (by omega)) (move_len hs)
    refine ⟨?_, this.2⟩
    have e : k + (s :: w).length = k + 1 + w.length := by simp only [List.length_cons]; omega
    rw [e]
    exact this.1
theorem Mc.Ok.along {M : Mc} (h : M.Ok) {w : List Nat} (hw : ∀ s ∈ w, s < M.signs) : RowK w.length (M.along w) ∧ (M.along w).length = M.size := by
  have := h.alongFrom w 0 M.begin hw (rowK_ent h.be) h.bl
  rw [Nat.zero_add] at this
  exact this
theorem Mc.Ok.worth {M : Mc} (h : M.Ok) {w : List Nat} (hw : ∀ s ∈ w, s < M.signs) : Sm (6 ^ (w.length + 2)) (100 ^ (w.length + 2)) (M.worth w) := by
  have h4 := h.size4
  exact dot_rowK (h.along hw).1 h.fe (by rw [(h.along hw).2]; exact h4)
theorem Mc.along_snoc (M : Mc) (w : List Nat) (s : Nat) : M.along (w ++ [s]) = moveQ (M.along w) (M.step s) := by
  unfold Mc.along Mc.alongFrom
  rw [List.foldl_append]
  rfl
theorem Mc.along_app (M : Mc) (w v : List Nat) : M.along (w ++ v) = M.alongFrom (M.along w) v := by
  unfold Mc.along Mc.alongFrom
  rw [List.foldl_append]
end Pl

set_option Elab.async false
set_option linter.all false
set_option maxRecDepth 100000
set_option maxHeartbeats 4000000
/-! PlR: reasoning about the evaluator. -/
namespace Pl
open PySem PyProof.Rows L2

theorem run_succ {tb : Tb} {W k i : Nat} {ds : List D} {S : Store} {fi : Fi} (h : tb.fns[i]? = some fi) (hl : ds.length = fi.ps.length) :
    run tb W (k + 1) i ds S = (match evCs ⟨tb, run tb W k, (run2 tb W k).2.1, W, lamK tb W (run2 tb W k).2.2.1 (run2 tb W k).2.2.2 k, lvK k⟩ fi.body (ds.map some ++ List.replicate (fi.n - ds.length) none) S with
      | .nx _ S' => .ok .non S'
      | .rt d S' => .ok d S'
      | .exc x _ S' => .exc x S'
      | _ => .bad) := by
  show bodyF _ i ds S = _
  unfold bodyF
  simp only [h]
  rw [if_pos hl]
  rfl
theorem run2_succ {tb : Tb} {W k : Nat} : (run2 tb W (k + 1)).2.1 = run tb W k := rfl

/-- a comprehension over fixed items, each turn allocating at most -/
theorem comp_map {iv : Iv} {items : List D} {S : Store} {step : List D → D → Store → Out (List D)} {g : D → D}
    (hiv : ∀ n T, n ≤ items.length → nextI (S ++ T) iv n = match items[n]? with
      | some d => .item d
      | none => .stop)
    (hs : ∀ d ∈ items, ∀ acc T, acc.length < items.length → ∃ T', step acc d (S ++ T) = .ok (acc ++ [g d]) (S ++ T ++ T')) {fuel : Nat} (hf : items.length < fuel) : ∃ T, loopA iv step fuel 0 [] S = .ok (items.map g) (S ++ T) := by
  have main : ∀ (m n : Nat) (T : Store), n + m = items.length → ∀ fuel, m < fuel → ∃ T', loopA iv step fuel n (items.map g |>.take n) (S ++ T) = .ok (items.map g) (S ++ T ++ T') := by
    intro m
    induction m with
    | zero =>
      intro n T hn fuel hf
      cases fuel with
      | zero => omega
      | succ f =>
        rw [loopA, hiv _ _ (by omega), List.getElem?_eq_none (by omega)]
        refine ⟨[], ?_⟩
        rw [List.take_of_length_le (by simp; omega), List.append_nil]
    | succ m ih =>
      intro n T hn fuel hf
      cases fuel with
      | zero => omega
      | succ f =>
        have hlt : n < items.length := by omega
        rw [loopA, hiv _ _ (by omega), List.getElem?_eq_getElem hlt]
        obtain ⟨T1, e1⟩ := hs items[n] (List.getElem_mem hlt) ((items.map g).take n) T (by rw [List.length_take, List.length_map]; omega)
        simp only [e1]
        have e2 : (items.map g).take n ++ [g items[n]] = (items.map g).take (n + 1) := by
          rw [List.take_succ, List.getElem?_map, List.getElem?_eq_getElem hlt]
          rfl
        rw [e2, List.append_assoc S T T1]
        obtain ⟨T2, e3⟩ := ih (n + 1) (T ++ T1) (by omega) f (by omega)
        exact ⟨T1 ++ T2, by rw [e3]; simp [List.append_assoc]⟩
  obtain ⟨T, e⟩ := main items.length 0 [] (by omega) fuel hf
  refine ⟨T, ?_⟩
  simpa using e
/-! ### reading sequences -/
theorem seqD_app {S T : Store} {d : D} {ds : List D} (h : seqD S d = some ds) : seqD (S ++ T) d = some ds := by
  cases d with
  | ref i =>
    have h' : (match S[i]? with
      | some (.lst ds) => some ds
      | _ => none) = some ds := h
    show (match (S ++ T)[i]? with
      | some (.lst ds) => some ds
      | _ => none) = some ds
    cases e : S[i]? with
    | none => rw [e] at h'; cases h'
    | some o =>
      rw [e] at h'
      rw [List.getElem?_append_left (List.getElem?_eq_some_iff.mp e).1, e]
      exact h'
  | tup _ => exact h
  | rol _ => exact h
  | _ => cases h
theorem seqD_new {S : Store} {ds : List D} : seqD (S ++ [.lst ds]) (.ref S.length) = some ds := by
  show (match (S ++ [O.lst ds])[S.length]? with
      | some (.lst ds) => some ds
      | _ => none) = some ds
  rw [List.getElem?_append_right (Nat.le_refl _), Nat.sub_self]
  rfl
theorem insD_new {S : Store} {ds : List D} : insD (S ++ [.lst ds]) (.ref S.length) = none := by
  show (match (S ++ [O.lst ds])[S.length]? with
      | some (.ins c fs) => some (S.length, c, fs)
      | _ => none) = none
  rw [List.getElem?_append_right (Nat.le_refl _), Nat.sub_self]
  rfl
theorem insD_tup {S : Store} {ds : List D} : insD S (.tup ds) = none := rfl
theorem insD_seq {S : Store} {d : D} {ds : List D} (h : seqD S d = some ds) : insD S d = none := by
  cases d with
  | ref i =>
    have h' : (match S[i]? with
      | some (.lst ds) => some ds
      | _ => none) = some ds := h
    show (match S[i]? with
      | some (.ins c fs) => some (i, c, fs)
      | _ => none) = none
    split at h'
    · rename_i e; rw [e]
    · cases h'
  | _ => rfl
theorem next_sq {S : Store} {d : D} {ds : List D} (h : seqD S d = some ds) (n : Nat) : nextI S (.sq d) n = match ds[n]? with
      | some d => .item d
      | none => .stop := by
  unfold nextI
  simp only [h]
  all_goals (cases ds[n]? <;> rfl)
theorem next_zp {S : Store} {a b : D} {xs ys : List D} (ha : seqD S a = some xs) (hb : seqD S b = some ys) {n : Nat} (hn : n ≤ (xs.zip ys).length) : nextI S (.zp a b) n = match ((xs.zip ys).map fun p => D.tup [p.1, p.2])[n]? with
      | some d => .item d
      | none => .stop := by
  have hl : (xs.zip ys).length = min xs.length ys.length := List.length_zip
  unfold nextI
  simp only [ha, hb]
  rw [List.getElem?_map]
  by_cases h : n < (xs.zip ys).length
  · have h1 : n < xs.length := by omega
    have h2 : n < ys.length := by omega
    rw [List.getElem?_eq_getElem h1, List.getElem?_eq_getElem h2, List.getElem?_eq_getElem h, List.getElem_zip]
    rfl
  · rw [List.getElem?_eq_none (Nat.le_of_not_lt h)]
    have hle : n ≤ xs.length ∧ n ≤ ys.length := by omega
    cases e1 : xs[n]? with
    | none => simp [hle]
    | some x =>
      cases e2 : ys[n]? with
      | none => simp [hle]
      | some y =>
        have q1 := (List.getElem?_eq_some_iff.mp e1).1
        have q2 := (List.getElem?_eq_some_iff.mp e2).1
        omega
theorem next_en {S : Store} {d : D} {ds : List D} (h : seqD S d = some ds) {n : Nat} (hn : n ≤ ds.length) : nextI S (.en d) n = match (ds.zipIdx.map fun p => D.tup [.int p.2, p.1])[n]? with
      | some d => .item d
      | none => .stop := by
  unfold nextI
  simp only [h]
  rw [List.getElem?_map]
  by_cases hl : n < ds.length
  · rw [List.getElem?_eq_getElem hl, List.getElem?_eq_getElem (by simpa using hl)]
    simp
  · rw [List.getElem?_eq_none (by omega), List.getElem?_eq_none (by simp; omega)]
    have : n = ds.length := by omega
    simp [this]
theorem next_rg {S : Store} {lo : Int} {m n : Nat} : nextI S (.rg lo m) n = match ((List.range m).map fun (i : Nat) => D.int (lo + i))[n]? with
      | some d => .item d
      | none => .stop := by
  show (if n < m then Nx.item (.int (lo + n)) else .stop) = _
  rw [List.getElem?_map]
  by_cases h : n < m
  · rw [if_pos h, List.getElem?_eq_getElem (by simpa using h)]
    simp
  · rw [if_neg h, List.getElem?_eq_none (by simp; omega)]
    rfl
/-- the store goes on, nothing is changed -/
def Ext (S S' : Store) : Prop := ∃ T, S' = S ++ T
theorem Ext.refl (S : Store) : Ext S S := ⟨[], by simp⟩
theorem Ext.trans {S S1 S2 : Store} (a : Ext S S1) (b : Ext S1 S2) : Ext S S2 := by
  obtain ⟨T, rfl⟩ := a
  obtain ⟨U, rfl⟩ := b
  exact ⟨T ++ U, by simp⟩
theorem Ext.snoc {S S1 : Store} (a : Ext S S1) (x : O) : Ext S (S1 ++ [x]) := a.trans ⟨[x], rfl⟩
theorem Ext.seqD {S S1 : Store} (a : Ext S S1) {d : D} {ds : List D} (h : seqD S d = some ds) : Pl.seqD S1 d = some ds := by
  obtain ⟨T, rfl⟩ := a
  exact seqD_app h
theorem Ext.get {S S1 : Store} (a : Ext S S1) {i : Nat} {o : O} (h : S[i]? = some o) : S1[i]? = some o := by
  obtain ⟨T, rfl⟩ := a
  rw [List.getElem?_append_left (List.getElem?_eq_some_iff.mp h).1]
  exact h
/-- a comprehension without a test, over fixed items; each turn allocates at most -/
theorem comp_ev {cx : Ctx} {elt : E} {own : List Nat} {t : T} {it : I} {ρ : Slots} {S S1 : Store} {iv : Iv} {items : List D} {g : D → D} (h : evI cx it ρ S = .ok iv S1)
    (hiv : ∀ n S', Ext S1 S' → n ≤ items.length → nextI S' iv n = match items[n]? with
      | some d => .item d
      | none => .stop)
    (hs : ∀ d ∈ items, ∀ S', Ext S1 S' → ∃ ρ' S'', asT cx t d (wipeD ρ own) S' = .ok ρ' S' ∧ evE cx elt ρ' S' = .ok (g d) S'' ∧ Ext S' S'') (hf : items.length < cx.W) (hz : items.length ≤ sizeLine) :
    ∃ S2 L, Ext S1 S2 ∧ L = items.map g ∧ evE cx (.comp elt own t it .none) ρ S = .ok (.ref S2.length) (S2 ++ [.lst L]) := by
  obtain ⟨T, e⟩ := comp_map (iv := iv) (items := items) (S := S1) (g := g) (step := fun acc d S => (asT cx t d (wipeD ρ own) S).bind fun ρ' S => (evO2 cx .none ρ' S).bind fun k S =>
        if k = true then (evE cx elt ρ' S).bind fun x S => pushD acc x S else .ok acc S) (fun n T hn => hiv n _ ⟨T, rfl⟩ hn) (fun d hd acc T hl => by
    obtain ⟨ρ', S'', e1, e2, T', e3⟩ := hs d hd (S1 ++ T) ⟨T, rfl⟩
    refine ⟨T', ?_⟩
    simp only [e1, Out.bind, evO2, if_true, e2]
    unfold pushD
    rw [if_pos (by omega), e3]) hf
  refine ⟨S1 ++ T, _, ⟨T, rfl⟩, rfl, ?_⟩
  rw [evE, h]
  simp only [Out.bind]
  rw [e]
theorem tuple_new {S : Store} {ds : List D} : bltE .tuple [.ref S.length] (S ++ [O.lst ds]) = .ok (.tup ds) (S ++ [O.lst ds]) := by
  show (match seqD (S ++ [O.lst ds]) (.ref S.length) with
    | some xs => Out.ok (D.tup xs) (S ++ [O.lst ds])
    | none => .bad) = _
  rw [seqD_new]
theorem all_new {S : Store} {ds : List D} {bs : List Bool} (h : blsD ds = some bs) : bltE .all [.ref S.length] (S ++ [O.lst ds]) = .ok (.bl (bs.all id)) (S ++ [O.lst ds]) := by
  show (match (lstD (S ++ [O.lst ds]) (.ref S.length)).bind blsD with
    | some bs => Out.ok (D.bl (bs.all id)) (S ++ [O.lst ds])
    | none => .bad) = _
  have : lstD (S ++ [O.lst ds]) (.ref S.length) = some ds := seqD_new
  rw [this]
  simp only [Option.bind_some, h]
theorem any_new {S : Store} {ds : List D} {bs : List Bool} (h : blsD ds = some bs) : bltE .any [.ref S.length] (S ++ [O.lst ds]) = .ok (.bl (bs.any id)) (S ++ [O.lst ds]) := by
  show (match (lstD (S ++ [O.lst ds]) (.ref S.length)).bind blsD with
    | some bs => Out.ok (D.bl (bs.any id)) (S ++ [O.lst ds])
    | none => .bad) = _
  have : lstD (S ++ [O.lst ds]) (.ref S.length) = some ds := seqD_new
  rw [this]
  simp only [Option.bind_some, h]
theorem sum_new {S : Store} {ds : List D} {is : List Int} (h : intsD ds = some is) : bltE .sum [.ref S.length] (S ++ [O.lst ds]) = .ok (.int is.sum) (S ++ [O.lst ds]) := by
  show (match (lstD (S ++ [O.lst ds]) (.ref S.length)).bind intsD with
    | some is => Out.ok (D.int is.sum) (S ++ [O.lst ds])
    | none => .bad) = _
  have : lstD (S ++ [O.lst ds]) (.ref S.length) = some ds := seqD_new
  rw [this]
  simp only [Option.bind_some, h]
theorem blsD_map {α : Type} (l : List α) (f : α → Bool) : blsD (l.map fun a => .bl (f a)) = some (l.map f) := by
  induction l with
  | nil => rfl
  | cons a l ih => simp [blsD, ih]
theorem intsD_map {α : Type} (l : List α) (f : α → Int) : intsD (l.map fun a => .int (f a)) = some (l.map f) := by
  induction l with
  | nil => rfl
  | cons a l ih => simp [intsD, ih]
/-- a built-in other than len, of one value -/
theorem bltX_not {cx : Ctx} {b : Blt} {ds : List D} {S : Store} (h : b ≠ .len) : bltX cx b ds S = bltE b ds S := by
  unfold bltX
  split
  · exact absurd rfl h
  · rfl
/-- a loop over fixed items -/
theorem loop_fix {iv : Iv} {items : List D} {body : D → Slots → Store → SOut} (I : Nat → Slots → Store → Prop) {fuel : Nat} {ρ : Slots} {S : Store} (hf : items.length < fuel) (h0 : I 0 ρ S)
    (hiv : ∀ n ρ S, n ≤ items.length → I n ρ S → nextI S iv n = match items[n]? with
      | some d => .item d
      | none => .stop)
    (hs : ∀ n d ρ S, items[n]? = some d → I n ρ S → ∃ ρ' S', body d ρ S = .nx ρ' S' ∧ I (n + 1) ρ' S') : ∃ ρ' S', loopF iv body fuel 0 ρ S = .nx ρ' S' ∧ I items.length ρ' S' := by
  have main : ∀ (m n : Nat) (ρ : Slots) (S : Store), n + m = items.length → I n ρ S → ∀ fuel, m < fuel → ∃ ρ' S', loopF iv body fuel n ρ S = .nx ρ' S' ∧ I items.length ρ' S' := by
    intro m
    induction m with
    | zero =>
      intro n ρ S hn hI fuel hf
      cases fuel with
      | zero => omega
      | succ f =>
        rw [loopF, hiv n ρ S (by omega) hI, List.getElem?_eq_none (by omega)]
        have : n = items.length := by omega
        subst this
        exact ⟨ρ, S, rfl, hI⟩
    | succ m ih =>
      intro n ρ S hn hI fuel hf
      cases fuel with
      | zero => omega
      | succ f =>
        have hlt : n < items.length := by omega
        rw [loopF, hiv n ρ S (by omega) hI, List.getElem?_eq_getElem hlt]
        obtain ⟨ρ1, S1, e1, h1⟩ := hs n _ ρ S (List.getElem?_eq_getElem hlt) hI
        simp only [e1]
        exact ih (n + 1) ρ1 S1 (by omega) h1 f (by omega)
  exact main items.length 0 ρ S (by omega) h0 fuel hf
/-! ### one step of the evaluator -/
theorem bind_ok {α β : Type} {a : α} {S : Store} {f : α → Store → Out β} : (Out.ok a S).bind f = f a S := rfl
theorem st_ok {α : Type} {a : α} {S : Store} {ρ : Slots} {k : α → Store → SOut} : (Out.ok a S).st ρ k = k a S := rfl
theorem seq_nx {ρ : Slots} {S : Store} {k : Slots → Store → SOut} : (SOut.nx ρ S).seq k = k ρ S := rfl
theorem seq_rt {d : D} {S : Store} {k : Slots → Store → SOut} : (SOut.rt d S).seq k = .rt d S := rfl
theorem onBl_bl {β : Type} {b : Bool} {f : Bool → Out β} : onBl (.bl b) f = f b := rfl
theorem onBlS_bl {b : Bool} {f : Bool → SOut} : onBlS (.bl b) f = f b := rfl
theorem onInt_int {β : Type} {i : Int} {f : Int → Out β} : onInt (.int i) f = f i := rfl
theorem noExc_ok {α : Type} {a : α} {S : Store} : noExc (Out.ok a S) = .ok a S := rfl
theorem ev_cst (cx : Ctx) : (∀ d ρ S, evE cx (.cst d) ρ S = .ok d S) ∧ (∀ ρ S, evEs cx .nil ρ S = .ok [] S) ∧ (∀ ρ S, evO cx .none ρ S = .ok none S) := ⟨fun _ _ _ => by rw [evE], fun _ _ => by rw [evEs], fun _ _ => by rw [evO]⟩
theorem ev_var (cx : Ctx) : (∀ i ρ S, evE cx (.var i) ρ S = match ρ[i]? with
    | some (some d) => .ok d S
    | _ => .bad) := fun _ _ _ => by rw [evE] <;> rfl
theorem ev_all (cx : Ctx) :
    (∀ op a b ρ S, evE cx (.bin op a b) ρ S = (evE cx a ρ S).bind fun x S => (evE cx b ρ S).bind fun y S => binE op x y S) ∧
    (∀ op a b ρ S, evE cx (.cmp op a b) ρ S = (evE cx a ρ S).bind fun x S => (evE cx b ρ S).bind fun y S => cmpE op x y S) ∧
    (∀ a ρ S, evE cx (.isN a) ρ S = (evE cx a ρ S).bind fun x S => .ok (.bl (isNon x)) S) ∧
    (∀ a ρ S, evE cx (.notN a) ρ S = (evE cx a ρ S).bind fun x S => .ok (.bl (!isNon x)) S) ∧
    (∀ a b ρ S, evE cx (.and a b) ρ S = (evE cx a ρ S).bind fun x S => onBl x fun k => if k = true then evE cx b ρ S else .ok (.bl false) S) ∧
    (∀ a b ρ S, evE cx (.or a b) ρ S = (evE cx a ρ S).bind fun x S => onBl x fun k => if k = true then .ok (.bl true) S else evE cx b ρ S) ∧
    (∀ a ρ S, evE cx (.not a) ρ S = (evE cx a ρ S).bind fun x S => onBl x fun k => .ok (.bl (!k)) S) ∧
    (∀ c a b ρ S, evE cx (.ite c a b) ρ S = (evE cx c ρ S).bind fun x S => onBl x fun k => if k = true then evE cx a ρ S else evE cx b ρ S) ∧
    (∀ es ρ S, evE cx (.tup es) ρ S = (evEs cx es ρ S).bind fun ds S => if ds.length ≤ sizeLine then .ok (.tup ds) S else .bad) ∧
    (∀ es ρ S, evE cx (.lst es) ρ S = (evEs cx es ρ S).bind fun ds S => if ds.length ≤ sizeLine then .ok (.ref S.length) (S ++ [.lst ds]) else .bad) ∧
    (∀ a i ρ S, evE cx (.idx a i) ρ S = (evE cx a ρ S).bind fun x S => (evE cx i ρ S).bind fun y S => idxE x y S) ∧
    (∀ a l h ρ S, evE cx (.slc a l h) ρ S = (evE cx a ρ S).bind fun x S => (evO cx l ρ S).bind fun l S => (evO cx h ρ S).bind fun h S => slcE x l h S) ∧
    (∀ f es ks kes ρ S, evE cx (.call f es ks kes) ρ S = (evEs cx es ρ S).bind fun ds S => (evEs cx kes ρ S).bind fun zs S => if bindK (psOf cx.tb f) ks zs.length (ds.length + zs.length) = true then cx.call f (ds ++ zs) S else .bad) ∧
    (∀ b es ρ S, evE cx (.blt b es) ρ S = (evEs cx es ρ S).bind fun ds S => bltX cx b ds S) ∧
    (∀ a t ρ S, evE cx (.isi a t) ρ S = (evE cx a ρ S).bind fun x S => isiE t x S) ∧
    (∀ o f ρ S, evE cx (.fld o f) ρ S = (evE cx o ρ S).bind fun x S => match insD S x with
      | some (_, c, fs) => if cx.tb.inst c = true then (match propOf cx.tb c f with
        | some g => noExc (cx.callM g [x] S)
        | none => match methOf cx.tb c f with
          | some _ => .bad
          | none => if cx.tb.flds.contains f = true then (match fs.lookup f with
            | some d => .ok d S
            | none => .bad) else .bad) else .bad
      | none => .bad) ∧
    (∀ o m es ks kes ρ S, evE cx (.mth o m es ks kes) ρ S = (evE cx o ρ S).bind fun x S => match insD S x with
      | some (_, c, fs) => if cx.tb.inst c = true then (match methOf cx.tb c m, fs.lookup m with
        | some f, none => (evEs cx es ρ S).bind fun ds S => (evEs cx kes ρ S).bind fun zs S =>
          if bindK (psOf cx.tb f) ks zs.length (ds.length + zs.length + 1) = true then cx.call f (x :: (ds ++ zs)) S else .bad
        | _, _ => .bad) else .bad
      | none => .bad) ∧
    (∀ b o es ρ S, evE cx (.bm b o es) ρ S = (evE cx o ρ S).bind fun x S => if isLst S x = true then (evEs cx es ρ S).bind fun ds S => bmE b x ds S else .bad) ∧
    (∀ c es ks kes ρ S, evE cx (.mk c es ks kes) ρ S = (evEs cx es ρ S).bind fun ds S => (evEs cx kes ρ S).bind fun zs S => match methOf cx.tb c "__init__" with
      | some f => if cx.tb.inst c = true ∧ bindK (psOf cx.tb f) ks zs.length (ds.length + zs.length + 1) = true then
          (cx.callM f (.ref S.length :: (ds ++ zs)) (S ++ [.ins c []])).bind fun r S' => if isNon r = true then .ok (.ref S.length) S' else .bad
        else .bad
      | none => .bad) ∧
    (∀ e es ρ S, evEs cx (.cons e es) ρ S = (evE cx e ρ S).bind fun x S => (evEs cx es ρ S).bind fun xs S => .ok (x :: xs) S) ∧
    (∀ e ρ S, evO cx (.some e) ρ S = (evE cx e ρ S).bind fun x S => onInt x fun i => .ok (some i) S) := by
  refine ⟨?_, ?_, ?_, ?_, ?_, ?_, ?_, ?_, ?_, ?_, ?_, ?_, ?_, ?_, ?_, ?_, ?_, ?_, ?_, ?_, ?_⟩ <;> intros <;> first | (rw [evE] <;> rfl) | (rw [evEs] <;> rfl) | (rw [evO] <;> rfl)
theorem ev_st (cx : Ctx) :
    (∀ ρ S, evCs cx .nil ρ S = .nx ρ S) ∧
    (∀ c cs ρ S, evCs cx (.cons c cs) ρ S = (evC cx c ρ S).seq (evCs cx cs)) ∧
    (∀ ρ S, evC cx .pass ρ S = .nx ρ S) ∧
    (∀ e ρ S, evC cx (.expr e) ρ S = (evE cx e ρ S).st ρ fun _ S => .nx ρ S) ∧
    (∀ t e ρ S, evC cx (.asg t e) ρ S = (evE cx e ρ S).st ρ fun d S => (noExc (asT cx t d ρ S)).st ρ fun ρ' S => .nx ρ' S) ∧
    (∀ is es ρ S, evC cx (.par is es) ρ S = (evEs cx es ρ S).st ρ fun ds S => match setsD ρ is ds with
      | some ρ' => .nx ρ' S
      | none => .bad) ∧
    (∀ c a b ρ S, evC cx (.ite c a b) ρ S = (evE cx c ρ S).st ρ fun x S => onBlS x fun k => if k = true then evCs cx a ρ S else evCs cx b ρ S) ∧
    (∀ e ρ S, evC cx (.ret e) ρ S = (evE cx e ρ S).st ρ fun d S => .rt d S) ∧
    (∀ c ρ S, evC cx (.raise c) ρ S = .exc ⟨c, none⟩ ρ S) ∧
    (∀ i d ρ S, asT cx (.name i) d ρ S = .ok (ρ.set i (some d)) S) ∧
    (∀ ts d ρ S, asT cx (.tup ts) d ρ S = match seqD S d with
      | some ds => asL cx ts ds ρ S
      | none => .bad) ∧
    (∀ ρ S, asL cx .nil [] ρ S = .ok ρ S) ∧
    (∀ t ts d ds ρ S, asL cx (.cons t ts) (d :: ds) ρ S = (asT cx t d ρ S).bind fun ρ' S' => asL cx ts ds ρ' S') := by
  refine ⟨?_, ?_, ?_, ?_, ?_, ?_, ?_, ?_, ?_, ?_, ?_, ?_, ?_⟩ <;> intros <;> first | (rw [evCs] <;> rfl) | (rw [evC] <;> rfl) | (rw [asT] <;> rfl) | (rw [asL] <;> rfl)
theorem for_ev {cx : Ctx} {t : T} {it : I} {b : Cs} {ρ : Slots} {S S1 : Store} {iv : Iv} {items : List D} (I : Nat → Slots → Store → Prop) (h : evI cx it ρ S = .ok iv S1) (hf : items.length < cx.W) (h0 : I 0 ρ S1)
    (hiv : ∀ n ρ S, n ≤ items.length → I n ρ S → nextI S iv n = match items[n]? with
      | some d => .item d
      | none => .stop)
    (hs : ∀ n d ρ S, items[n]? = some d → I n ρ S → ∃ ρ1 S1 ρ' S', asT cx t d ρ S = .ok ρ1 S1 ∧ evCs cx b ρ1 S1 = .nx ρ' S' ∧ I (n + 1) ρ' S') : ∃ ρ' S', evC cx (.for_ t it b) ρ S = .nx ρ' S' ∧ I items.length ρ' S' := by
  obtain ⟨ρ', S', e, hI⟩ := loop_fix (iv := iv) (items := items) (body := fun d ρ S => (noExc (asT cx t d ρ S)).st ρ fun ρ' S => evCs cx b ρ' S) I hf h0 hiv (fun n d ρ S hd hI => by
    obtain ⟨ρ1, S1, ρ', S', e1, e2, hI'⟩ := hs n d ρ S hd hI
    refine ⟨ρ', S', ?_, hI'⟩
    simp only [e1, noExc, Out.st]
    exact e2)
  refine ⟨ρ', S', ?_, hI⟩
  rw [evC, h]
  simp only [Out.st]
  exact e
/-- a loop over fixed items, its result by an invariant -/
theorem loopA_fix {iv : Iv} {items : List D} {step : List D → D → Store → Out (List D)} (I : Nat → List D → Store → Prop) {fuel : Nat} {acc : List D} {S : Store} (hf : items.length < fuel) (h0 : I 0 acc S)
    (hiv : ∀ n acc S, n ≤ items.length → I n acc S → nextI S iv n = match items[n]? with
      | some d => .item d
      | none => .stop)
    (hs : ∀ n d acc S, items[n]? = some d → I n acc S → ∃ acc' S', step acc d S = .ok acc' S' ∧ I (n + 1) acc' S') : ∃ acc' S', loopA iv step fuel 0 acc S = .ok acc' S' ∧ I items.length acc' S' := by
  have main : ∀ (m n : Nat) (acc : List D) (S : Store), n + m = items.length → I n acc S → ∀ fuel, m < fuel → ∃ acc' S', loopA iv step fuel n acc S = .ok acc' S' ∧ I items.length acc' S' := by
    intro m
    induction m with
    | zero =>
      intro n acc S hn hI fuel hf
      cases fuel with
      | zero => omega
      | succ f =>
        rw [loopA, hiv n acc S (by omega) hI, List.getElem?_eq_none (by omega)]
        have : n = items.length := by omega
        subst this
        exact ⟨acc, S, rfl, hI⟩
    | succ m ih =>
      intro n acc S hn hI fuel hf
      cases fuel with
      | zero => omega
      | succ f =>
        have hlt : n < items.length := by omega
        rw [loopA, hiv n acc S (by omega) hI, List.getElem?_eq_getElem hlt]
        obtain ⟨acc1, S1, e1, h1⟩ := hs n _ acc S (List.getElem?_eq_getElem hlt) hI
        simp only [e1]
        exact ih (n + 1) acc1 S1 (by omega) h1 f (by omega)
  exact main items.length 0 acc S (by omega) h0 fuel hf
/-- a comprehension, its items by an invariant (the turns may write) -/
theorem comp_inv {cx : Ctx} {elt : E} {own : List Nat} {t : T} {it : I} {ρ : Slots} {S S1 : Store} {iv : Iv} {items : List D} (I : Nat → List D → Store → Prop) (h : evI cx it ρ S = .ok iv S1) (h0 : I 0 [] S1)
    (hiv : ∀ n acc S, n ≤ items.length → I n acc S → nextI S iv n = match items[n]? with
      | some d => .item d
      | none => .stop)
    (hs : ∀ n d acc S, items[n]? = some d → I n acc S → acc.length < sizeLine ∧ ∃ ρ' x S', asT cx t d (wipeD ρ own) S = .ok ρ' S ∧ evE cx elt ρ' S = .ok x S' ∧ I (n + 1) (acc ++ [x]) S') (hf : items.length < cx.W) :
    ∃ S2 L, I items.length L S2 ∧ evE cx (.comp elt own t it .none) ρ S = .ok (.ref S2.length) (S2 ++ [.lst L]) := by
  obtain ⟨L, S2, e, hI⟩ := loopA_fix (iv := iv) (items := items) (step := fun acc d S => (asT cx t d (wipeD ρ own) S).bind fun ρ' S => (evO2 cx .none ρ' S).bind fun k S =>
        if k = true then (evE cx elt ρ' S).bind fun x S => pushD acc x S else .ok acc S) I hf h0 hiv (fun n d acc S hd hI => by
    obtain ⟨hl, ρ', x, S', e1, e2, hI'⟩ := hs n d acc S hd hI
    refine ⟨_, S', ?_, hI'⟩
    simp only [e1, Out.bind, evO2, if_true, e2]
    unfold pushD
    rw [if_pos hl])
  refine ⟨S2, L, hI, ?_⟩
  rw [evE, h]
  simp only [Out.bind]
  rw [e]
theorem rng_if {n : Nat} (hn : n ≤ 16777216) {α : Type} (x y : α) : (if (n : Int).natAbs < 2 ^ 62 then x else y) = x := by
  have h : (n : Int).natAbs < 2 ^ 62 := by omega
  exact if_pos h
theorem rng1_ev {cx : Ctx} {a : E} {ρ : Slots} {S S1 : Store} {n : Nat} (h : evE cx a ρ S = .ok (.int (n : Nat)) S1) (hn : n ≤ 16777216) : evI cx (.rng1 a) ρ S = .ok (.rg 0 n) S1 := by
  rw [evI, h, bind_ok, onInt_int, rng_if hn, Int.toNat_natCast]
/-- [x for r in rows for x in r] -/
theorem comp2_flat {cx : Ctx} {own own2 : List Nat} {i j a : Nat} {ρ : Slots} {S : Store} {rows : List (List D)} (ha : ρ[a]? = some (some (.tup (rows.map D.tup)))) (hi : i < ρ.length) (hj : j < ρ.length) (hij : i ≠ j) (hf : rows.length < cx.W) (hf2 : ∀ r ∈ rows, r.length < cx.W) (hz : rows.flatten.length ≤ sizeLine) :
    evE cx (.comp2 (.var j) own own2 (.name i) (.seq (.var a)) (.name j) (.seq (.var i))) ρ S = .ok (.ref S.length) (S ++ [.lst rows.flatten]) := by
  have wl : ∀ vs : List Nat, (wipeD ρ vs).length = ρ.length := fun vs => by
    induction vs with
    | nil => rfl
    | cons v vs ih => unfold wipeD; rw [List.length_set, ih]
  have wl2 : ∀ (ρ : Slots) (vs : List Nat), (wipeD ρ vs).length = ρ.length := fun ρ vs => by
    induction vs with
    | nil => rfl
    | cons v vs ih => unfold wipeD; rw [List.length_set, ih]
  obtain ⟨L, S2, e, hL, hS⟩ := loopA_fix (iv := .sq (.tup (rows.map D.tup))) (items := rows.map D.tup) (fuel := cx.W) (acc := []) (S := S) (step := fun acc d S => (asT cx (.name i) d (wipeD ρ own) S).bind fun ρ' S => (evI cx (.seq (.var i)) ρ' S).bind fun iv2 S => loopA iv2 (fun acc d S =>
        (asT cx (.name j) d (wipeD ρ' own2) S).bind fun ρ2 S => (evE cx (.var j) ρ2 S).bind fun x S => pushD acc x S) cx.W 0 acc S)
    (fun n acc S' => acc = (rows.take n).flatten ∧ S' = S) (by simpa using hf) ⟨rfl, rfl⟩ (fun n acc S' _ _ => next_sq rfl n) (fun n d acc S' hd hI => by
      obtain ⟨rfl, rfl⟩ := hI
      rw [List.getElem?_map] at hd
      cases hr : rows[n]? with
      | none => rw [hr] at hd; cases hd
      | some r =>
        rw [hr] at hd
        cases hd
        have hrm : r ∈ rows := List.mem_of_getElem? hr
        obtain ⟨L2, S3, e2, hL2, hS3⟩ := loopA_fix (iv := .sq (.tup r)) (items := r) (fuel := cx.W) (acc := (rows.take n).flatten) (S := S') (step := fun acc d S =>
            (asT cx (.name j) d (wipeD ((wipeD ρ own).set i (some (.tup r))) own2) S).bind fun ρ2 S => (evE cx (.var j) ρ2 S).bind fun x S => pushD acc x S)
          (fun m acc S'' => acc = (rows.take n).flatten ++ r.take m ∧ S'' = S') (hf2 r hrm) ⟨by simp, rfl⟩ (fun m acc S'' _ _ => next_sq rfl m) (fun m d acc S'' hd hI => by
            obtain ⟨rfl, rfl⟩ := hI
            have hm : m < r.length := (List.getElem?_eq_some_iff.mp hd).1
            have hlen : ((rows.take n).flatten ++ r.take m).length < sizeLine := by
              have e1 : rows.flatten = (rows.take n).flatten ++ (rows.drop n).flatten := by rw [← List.flatten_append, List.take_append_drop]
              have e2 : rows.drop n = r :: rows.drop (n + 1) := by
                have hn := (List.getElem?_eq_some_iff.mp hr)
                obtain ⟨hn1, hn2⟩ := hn
                rw [← hn2]
                exact List.drop_eq_getElem_cons hn1
              rw [e1, e2, List.flatten_cons] at hz
              simp only [List.length_append, List.length_take] at hz ⊢
              omega
            refine ⟨(rows.take n).flatten ++ r.take (m + 1), S'', ?_, rfl, rfl⟩
            have hg : ((wipeD ((wipeD ρ own).set i (some (.tup r))) own2).set j (some d))[j]? = some (some d) := by
              rw [List.getElem?_set_self (by rw [wl2, List.length_set, wl]; exact hj)]
            simp only [asT, Out.bind, evE, hg]
            unfold pushD
            rw [if_pos hlen, List.append_assoc, List.take_succ, hd]
            rfl)
        refine ⟨L2, S3, ?_, ?_, hS3⟩
        · have hg : ((wipeD ρ own).set i (some (D.tup r)))[i]? = some (some (.tup r)) := by
            rw [List.getElem?_set_self (by rw [wl]; exact hi)]
          simp only [asT, Out.bind, evI, evE, hg, seqD, Option.isSome_some, if_true]
          exact e2
        · rw [hL2, List.take_of_length_le (Nat.le_refl _), List.take_succ, hr]
          simp)
  have hI : evI cx (.seq (.var a)) ρ S = .ok (.sq (.tup (rows.map D.tup))) S := by
    simp only [evI, evE, ha, Out.bind, seqD, Option.isSome_some, if_true]
  rw [evE, hI]
  show (loopA (.sq (.tup (rows.map D.tup))) _ cx.W 0 [] S).bind _ = _
  rw [e, hL, hS]
  rw [List.length_map, List.take_of_length_le (Nat.le_refl _)]
end Pl

set_option Elab.async false
set_option linter.all false
set_option maxRecDepth 100000
set_option maxHeartbeats 4000000
/-! PlS: comprehensions over a list's images; frames. -/
namespace Pl
open PySem PyProof.Rows L2
/-- a comprehension over the images of a list, each turn allocating at most -/
theorem comp_list {α : Type} {cx : Ctx} {elt : E} {own : List Nat} {t : T} {it : I} {ρ : Slots} {S S1 : Store} {iv : Iv} (l : List α) (i r : α → D) (h : evI cx it ρ S = .ok iv S1)
    (hiv : ∀ n S', Ext S1 S' → n ≤ (l.map i).length → nextI S' iv n = match (l.map i)[n]? with
      | some d => .item d
      | none => .stop)
    (hs : ∀ a ∈ l, ∀ S', Ext S1 S' → ∃ ρ' S'', asT cx t (i a) (wipeD ρ own) S' = .ok ρ' S' ∧ evE cx elt ρ' S' = .ok (r a) S'' ∧ Ext S' S'') (hf : l.length < cx.W) (hz : l.length ≤ sizeLine) :
    ∃ S2, Ext S1 S2 ∧ evE cx (.comp elt own t it .none) ρ S = .ok (.ref S2.length) (S2 ++ [.lst (l.map r)]) := by
  obtain ⟨S2, L, ⟨x, hL⟩, e⟩ := comp_inv (iv := iv) (S1 := S1) (items := l.map i) (elt := elt) (own := own) (t := t) (fun n acc T => Ext S1 T ∧ acc = (l.take n).map r) h ⟨Ext.refl _, rfl⟩ (fun n acc T hn hI => hiv n T hI.1 hn) (fun n d acc T hd hI => by
    obtain ⟨x, rfl⟩ := hI
    rw [List.getElem?_map] at hd
    cases ha : l[n]? with
    | none => rw [ha] at hd; cases hd
    | some a =>
      rw [ha] at hd
      cases hd
      have hn := (List.getElem?_eq_some_iff.mp ha).1
      obtain ⟨ρ', S'', e1, e2, x2⟩ := hs a (List.mem_of_getElem? ha) T x
      refine ⟨by simp only [List.length_map, List.length_take]; omega, ρ', r a, S'', e1, e2, x.trans x2, ?_⟩
      rw [List.take_succ, ha]
      simp) (by simpa using hf)
  refine ⟨S2, x, ?_⟩
  rw [e, hL, List.length_map, List.take_of_length_le (Nat.le_refl _)]
/-- the store goes on, those of P alone are changed -/
structure FrL (P : List Nat) (S S' : Store) : Prop where
  len : S.length ≤ S'.length
  get : ∀ i o, i ∉ P → S[i]? = some o → S'[i]? = some o
theorem FrL.refl (P : List Nat) (S : Store) : FrL P S S := ⟨Nat.le_refl _, fun _ _ _ h => h⟩
theorem FrL.trans {P : List Nat} {S S1 S2 : Store} (a : FrL P S S1) (b : FrL P S1 S2) : FrL P S S2 := ⟨Nat.le_trans a.len b.len, fun i o h e => b.get i o h (a.get i o h e)⟩
theorem FrL.mono {P Q : List Nat} {S S' : Store} (a : FrL P S S') (h : ∀ i ∈ P, i ∈ Q) : FrL Q S S' := ⟨a.len, fun i o hi e => a.get i o (fun hp => hi (h i hp)) e⟩
theorem Ext.len_le {S S' : Store} (x : Ext S S') : S.length ≤ S'.length := by
  obtain ⟨T, rfl⟩ := x
  simp
theorem Ext.frl {S S' : Store} (P : List Nat) (x : Ext S S') : FrL P S S' := ⟨x.len_le, fun _ _ _ e => x.get e⟩
theorem frl_set {S : Store} {P : List Nat} {t : Nat} (h : t ∈ P) (o : O) : FrL P S (S.set t o) := ⟨by simp, fun i o' hi e => by rw [List.getElem?_set_ne (by rintro rfl; exact hi h)]; exact e⟩
theorem FrL.snoc {P : List Nat} {S S1 : Store} (a : FrL P S S1) (x : O) : FrL P S (S1 ++ [x]) := a.trans (((Ext.refl S1).snoc x).frl P)
theorem FrL.set {P : List Nat} {S S1 : Store} (a : FrL P S S1) {t : Nat} (h : t ∈ P) (o : O) : FrL P S (S1.set t o) := a.trans (frl_set h o)
theorem idx_lt {S : Store} {i : Nat} {o : O} (h : S[i]? = some o) : i < S.length := (List.getElem?_eq_some_iff.mp h).1
theorem set_self {S : Store} {i : Nat} {o : O} (h : S[i]? = some o) (x : O) : (S.set i x)[i]? = some x := List.getElem?_set_self (idx_lt h)
theorem set_ne {S : Store} {i j : Nat} {o : O} (h : S[i]? = some o) (hn : j ≠ i) (x : O) : (S.set j x)[i]? = some o := by rw [List.getElem?_set_ne hn]; exact h
end Pl

set_option Elab.async false
set_option linter.all false
set_option maxRecDepth 100000
set_option maxHeartbeats 4000000
/-! PlV: data as the model's data. -/
namespace Pl
open PySem PyProof.Rows L2

theorem mapM_map {α β γ : Type} {f : α → β} {g : β → Option γ} {h : α → γ} : ∀ {l : List α}, (∀ x ∈ l, g (f x) = some (h x)) → (l.map f).mapM g = some (l.map h)
  | [], _ => rfl
  | x :: l, hh => by
    rw [List.map_cons, List.mapM_cons, hh x List.mem_cons_self, mapM_map fun y hy => hh y (List.mem_cons_of_mem _ hy)]
    rfl
theorem toPy_int {S : Store} {n : Nat} {i : Int} : toPy S (n + 1) (.int i) = some (.int i) := rfl
theorem toPy_str {S : Store} {n : Nat} {x : Str} : toPy S (n + 1) (.str x) = some (.str x) := rfl
theorem toPy_tup {S : Store} {n : Nat} {ds : List D} {ps : List PyData} (h : ds.mapM (toPy S n) = some ps) : toPy S (n + 1) (.tup ds) = some (.tuple ps) := by
  show (ds.mapM (toPy S n)).map PyData.tuple = _
  rw [h]
  rfl
theorem toPy_lst {S : Store} {n j : Nat} {ds : List D} {ps : List PyData} (hj : S[j]? = some (.lst ds)) (h : ds.mapM (toPy S n) = some ps) : toPy S (n + 1) (.ref j) = some (.list ps) := by
  show (match S[j]? with
      | some (.lst ds) => (ds.mapM (toPy S n)).map PyData.list
      | _ => none) = _
  rw [hj]
  simp only [h]
  rfl
theorem seq_get {S : Store} {j : Nat} {ds : List D} (h : seqD S (.ref j) = some ds) : S[j]? = some (.lst ds) := by
  have h' : (match S[j]? with
      | some (.lst ds) => some ds
      | _ => none) = some ds := h
  split at h'
  · rename_i e; cases h'; exact e
  · cases h'
theorem eqv_nil (xs : List PyData) : PyData.eqv (.list xs) (.list []) = xs.isEmpty ∧ PyData.eqv (.tuple xs) (.tuple []) = xs.isEmpty := by
  cases xs <;> exact ⟨rfl, rfl⟩
theorem shaped_nil : SeqAt.shaped (.list []) = true ∧ SeqAt.shaped (.tuple []) = true := ⟨by decide, by decide⟩
/-- a list against an empty one -/
theorem eq_empty {S : Store} {neg : Bool} {j e : Nat} {ps : List PyData} (h : toPy S 40 (.ref j) = some (.list ps)) (hs : SeqAt.shaped (.list ps) = true) (he : S[e]? = some (.lst [])) :
    eqE neg (.ref j) (.ref e) S = .ok (.bl (if neg = true then !ps.isEmpty else ps.isEmpty)) S := by
  have h2 : toPy S 40 (.ref e) = some (.list []) := toPy_lst he rfl
  have h3 : eqD S (.ref j) (.ref e) = some ps.isEmpty := by
    show (match toPy S 40 (.ref j), toPy S 40 (.ref e) with
      | some p, some q => if SeqAt.shaped p = true ∧ SeqAt.shaped q = true then some (PyData.eqv p q) else none
      | _, _ => none) = _
    rw [h, h2]
    simp only [hs, shaped_nil.1, and_self, if_true, (eqv_nil ps).1]
  unfold eqE
  rw [h3]
theorem eq_empty_t {S : Store} {neg : Bool} {ds : List D} {ps : List PyData} (h : toPy S 40 (.tup ds) = some (.tuple ps)) (hs : SeqAt.shaped (.tuple ps) = true) : eqE neg (.tup ds) (.tup []) S = .ok (.bl (if neg = true then !ps.isEmpty else ps.isEmpty)) S := by
  have h2 : toPy S 40 (.tup []) = some (.tuple []) := toPy_tup rfl
  have h3 : eqD S (.tup ds) (.tup []) = some ps.isEmpty := by
    show (match toPy S 40 (.tup ds), toPy S 40 (.tup []) with
      | some p, some q => if SeqAt.shaped p = true ∧ SeqAt.shaped q = true then some (PyData.eqv p q) else none
      | _, _ => none) = _
    rw [h, h2]
    simp only [hs, shaped_nil.2, and_self, if_true, (eqv_nil ps).2]
  unfold eqE
  rw [h3]
/-- data of ints, texts, tuples, lists: no deeper than n -/
def flatD : Nat → PyData → Bool
  | 0, _ => false
  | n + 1, p => match p with
    | .none => true
    | .bool _ => true
    | .int _ => true
    | .str x => PyData.canLay0 (.str x)
    | .list xs => xs.all (flatD n)
    | .tuple xs => xs.all (flatD n)
    | .dict _ => false
theorem flat_all : ∀ (n : Nat), (∀ p, flatD n p = true → PyData.canLay0 p = true ∧ p.depth ≤ n) ∧ ∀ ps : List PyData, ps.all (flatD n) = true → PyData.canLayAll0 ps = true ∧ PyData.depthAll ps ≤ n
  | 0 => by
    refine ⟨fun p h => (by cases h), fun ps h => ?_⟩
    cases ps with
    | nil => exact ⟨rfl, Nat.le_refl _⟩
    | cons p ps => simp [flatD] at h
  | n + 1 => by
    obtain ⟨h1, h2⟩ := flat_all n
    have k1 : ∀ p, flatD (n + 1) p = true → PyData.canLay0 p = true ∧ p.depth ≤ n + 1 := fun p h => by
      cases p with
      | none => exact ⟨rfl, Nat.zero_le _⟩
      | bool b => exact ⟨rfl, Nat.zero_le _⟩
      | int i => exact ⟨rfl, Nat.zero_le _⟩
      | str x => exact ⟨h, Nat.zero_le _⟩
      | list xs =>
        obtain ⟨q1, q2⟩ := h2 xs h
        exact ⟨q1, by show PyData.depthAll xs + 1 ≤ n + 1; omega⟩
      | tuple xs =>
        obtain ⟨q1, q2⟩ := h2 xs h
        exact ⟨q1, by show PyData.depthAll xs + 1 ≤ n + 1; omega⟩
      | dict kvs => cases h
    refine ⟨k1, fun ps => ?_⟩
    induction ps with
    | nil => exact fun _ => ⟨rfl, Nat.zero_le _⟩
    | cons p ps ih =>
      intro h
      rw [List.all_cons, Bool.and_eq_true] at h
      obtain ⟨q1, q2⟩ := k1 p h.1
      obtain ⟨q3, q4⟩ := ih h.2
      refine ⟨?_, ?_⟩
      · show (PyData.canLay0 p && PyData.canLayAll0 ps) = true
        rw [q1, q3]
        rfl
      · show max p.depth (PyData.depthAll ps) ≤ n + 1
        omega
theorem flat_shaped {n : Nat} {p : PyData} (h : flatD n p = true) (hn : n ≤ 64) : SeqAt.shaped p = true := by
  obtain ⟨q1, q2⟩ := (flat_all n).1 p h
  unfold SeqAt.shaped
  rw [q1, decide_eq_true (Nat.le_trans q2 hn)]
  rfl
end Pl

set_option Elab.async false
set_option linter.all false
set_option maxRecDepth 100000
set_option maxHeartbeats 4000000
/-! PlW: data that are shown: no deeper than n, no longer than L. -/
namespace Pl
open PySem PyProof.Rows L2
structure PyOk (n L : Nat) (d : D) (p : PyData) : Prop where
  to : ∀ S, toPy S n d = some p
  flat : flatD n p = true
  sh : p.showable = true
  nd : p.hasDict = false
  len : p.shown.length ≤ L
structure PyOks (n L : Nat) (ds : List D) (ps : List PyData) : Prop where
  to : ∀ S, ds.mapM (toPy S n) = some ps
  flat : ps.all (flatD n) = true
  sh : PyData.showableAll ps = true
  nd : PyData.hasDictAll ps = false
  len : ((PyData.shownAll ps).map (·.length)).sum + 2 * ps.length ≤ L
def Shown (n L : Nat) (d : D) : Prop := ∃ p, PyOk n L d p
def Showns (n L : Nat) (ds : List D) : Prop := ∃ ps, PyOks n L ds ps
theorem Shown.mono {n L L' : Nat} {d : D} (h : Shown n L d) (hl : L ≤ L') : Shown n L' d := by
  obtain ⟨p, h⟩ := h
  exact ⟨p, h.to, h.flat, h.sh, h.nd, Nat.le_trans h.len hl⟩
theorem Shown.non {n : Nat} : Shown (n + 1) 4 .non := ⟨.none, fun _ => rfl, rfl, rfl, rfl, by decide⟩
theorem Shown.int {n : Nat} {i : Int} (h : i.natAbs < 10 ^ 12) : Shown (n + 1) 13 (.int i) := by
  refine ⟨.int i, fun _ => rfl, rfl, ?_, rfl, PyData.shown_int_le h⟩
  show decide (i.natAbs.log2 < 1920) = true
  refine decide_eq_true ?_
  by_cases h0 : i.natAbs = 0
  · rw [h0]; decide
  · refine (Nat.log2_lt h0).mpr (Nat.lt_trans h ?_)
    decide +kernel
set_option exponentiation.threshold 1000 in
theorem Shown.big {n : Nat} {i : Int} (h : i.natAbs.log2 < 1900) : Shown (n + 1) 601 (.int i) := by
  refine ⟨.int i, fun _ => rfl, rfl, decide_eq_true (by omega), rfl, ?_⟩
  have h2 : i.natAbs < 10 ^ 600 := by
    by_cases h0 : i.natAbs = 0
    · rw [h0]; exact Nat.pow_pos (by decide)
    · refine Nat.lt_of_lt_of_le ((Nat.log2_lt h0).mp h) ?_
      decide +kernel
  have e := int_text_length_le10 (k := 600) (by decide) h2
  show (Str.ofString (toString i)).length ≤ 601
  rw [PySem.ofString_length]
  exact e
theorem Shown.str {n : Nat} {x : Str} (h : PyData.canLay0 (.str x) = true) {L : Nat} (hl : (PyData.shown (.str x)).length ≤ L) : Shown (n + 1) L (.str x) := ⟨.str x, fun _ => rfl, h, rfl, rfl, hl⟩
theorem Showns.nil {n : Nat} : Showns n 0 [] := ⟨[], fun _ => rfl, rfl, rfl, rfl, by simp [PyData.shownAll]⟩
theorem Showns.cons {n L L' : Nat} {d : D} {ds : List D} (h : Shown n L d) (hs : Showns n L' ds) : Showns n (L + 2 + L') (d :: ds) := by
  obtain ⟨p, h⟩ := h
  obtain ⟨ps, hs⟩ := hs
  refine ⟨p :: ps, fun S => ?_, ?_, ?_, ?_, ?_⟩
  · rw [List.mapM_cons, h.to S, hs.to S]; rfl
  · rw [List.all_cons, h.flat, hs.flat]; rfl
  · show (p.showable && PyData.showableAll ps) = true
    rw [h.sh, hs.sh]; rfl
  · show (p.hasDict || PyData.hasDictAll ps) = false
    rw [h.nd, hs.nd]; rfl
  · have := h.len
    have := hs.len
    show (((p.shown :: PyData.shownAll ps).map (·.length)).sum) + 2 * (ps.length + 1) ≤ _
    simp only [List.map_cons, List.sum_cons]
    omega
theorem Showns.mono {n L L' : Nat} {ds : List D} (h : Showns n L ds) (hl : L ≤ L') : Showns n L' ds := by
  obtain ⟨p, h⟩ := h
  exact ⟨p, h.to, h.flat, h.sh, h.nd, Nat.le_trans h.len hl⟩
theorem Showns.list {α : Type} {n L : Nat} {f : α → D} : ∀ (l : List α), (∀ a ∈ l, Shown n L (f a)) → Showns n (l.length * (L + 2)) (l.map f)
  | [], _ => by simpa using Showns.nil
  | a :: l, h => by
    have h1 := h a List.mem_cons_self
    have h2 := Showns.list l fun x hx => h x (List.mem_cons_of_mem _ hx)
    refine (Showns.cons h1 h2).mono ?_
    simp only [List.length_cons, Nat.add_mul]
    omega
theorem pyOks_len {n L : Nat} {ds : List D} {ps : List PyData} (h : PyOks n L ds ps) : (PyData.shownAll ps).length = ps.length := PyData.shownAll_length ps
theorem Showns.tup {n L : Nat} {ds : List D} (h : Showns n L ds) : Shown (n + 1) (L + 3) (.tup ds) := by
  obtain ⟨ps, h⟩ := h
  refine ⟨.tuple ps, fun S => toPy_tup (h.to S), h.flat, h.sh, h.nd, ?_⟩
  have h1 := tupleText_len_le (PyData.shownAll ps)
  rw [PyData.shownAll_length] at h1
  have := h.len
  show (tupleText (PyData.shownAll ps)).length ≤ _
  omega
theorem Shown.tuple {n L : Nat} {ds : List D} (h : Shown (n + 1) L (.tup ds)) : ∃ ps, PyOk (n + 1) L (.tup ds) (.tuple ps) := by
  obtain ⟨p, h⟩ := h
  have e : (ds.mapM (toPy [] n)).map PyData.tuple = some p := h.to []
  cases hm : ds.mapM (toPy [] n) with
  | none => rw [hm] at e; cases e
  | some ps =>
    rw [hm] at e
    cases e
    exact ⟨ps, h⟩
theorem toPys_len {S : Store} {n : Nat} : ∀ {ds : List D} {ps : List PyData}, ds.mapM (toPy S n) = some ps → ps.length = ds.length
  | [], ps, h => by cases h; rfl
  | d :: ds, ps, h => by
    rw [List.mapM_cons] at h
    cases h1 : toPy S n d with
    | none => rw [h1] at h; cases h
    | some p =>
      cases h2 : ds.mapM (toPy S n) with
      | none => rw [h1, h2] at h; cases h
      | some qs =>
        rw [h1, h2] at h
        cases h
        have := toPys_len h2
        simp [this]
theorem toPy_up {S : Store} : ∀ (n : Nat), (∀ d p, toPy S n d = some p → toPy S (n + 1) d = some p)
  | 0, d, p, h => by cases h
  | n + 1, d, p, h => by
    have ih := toPy_up (S := S) n
    have gen : ∀ (ds : List D) (ps : List PyData), ds.mapM (toPy S n) = some ps → ds.mapM (toPy S (n + 1)) = some ps := by
      intro ds
      induction ds with
      | nil => intro ps h; exact h
      | cons d ds ihd =>
        intro ps h
        rw [List.mapM_cons] at h ⊢
        cases h1 : toPy S n d with
        | none => rw [h1] at h; cases h
        | some p =>
          cases h2 : ds.mapM (toPy S n) with
          | none => rw [h1, h2] at h; cases h
          | some qs =>
            rw [h1, h2] at h
            rw [ih d p h1, ihd qs h2]
            exact h
    cases d with
    | tup ds =>
      have h' : (ds.mapM (toPy S n)).map PyData.tuple = some p := h
      show (ds.mapM (toPy S (n + 1))).map PyData.tuple = some p
      cases h2 : ds.mapM (toPy S n) with
      | none => rw [h2] at h'; cases h'
      | some qs => rw [gen ds qs h2]; rw [h2] at h'; exact h'
    | rol ds =>
      have h' : (ds.mapM (toPy S n)).map PyData.list = some p := h
      show (ds.mapM (toPy S (n + 1))).map PyData.list = some p
      cases h2 : ds.mapM (toPy S n) with
      | none => rw [h2] at h'; cases h'
      | some qs => rw [gen ds qs h2]; rw [h2] at h'; exact h'
    | ref i =>
      have h' : (match S[i]? with
        | some (.lst ds) => (ds.mapM (toPy S n)).map PyData.list
        | _ => none) = some p := h
      show (match S[i]? with
        | some (.lst ds) => (ds.mapM (toPy S (n + 1))).map PyData.list
        | _ => none) = some p
      split at h'
      · rename_i ds e
        cases h2 : ds.mapM (toPy S n) with
        | none => rw [h2] at h'; cases h'
        | some qs => simp only [gen ds qs h2]; rw [h2] at h'; exact h'
      · cases h'
    | _ => exact h
theorem toPy_le {S : Store} {n m : Nat} (h : n ≤ m) {d : D} {p : PyData} (e : toPy S n d = some p) : toPy S m d = some p := by
  induction h with
  | refl => exact e
  | step _ ih => exact toPy_up _ d p ih
theorem flat_up : ∀ (n : Nat) (p : PyData), flatD n p = true → flatD (n + 1) p = true
  | 0, p, h => by cases h
  | n + 1, p, h => by
    have ih := flat_up n
    cases p with
    | list xs => exact List.all_eq_true.mpr fun x hx => ih x (List.all_eq_true.mp h x hx)
    | tuple xs => exact List.all_eq_true.mpr fun x hx => ih x (List.all_eq_true.mp h x hx)
    | dict _ => cases h
    | str x => exact h
    | _ => rfl
theorem flat_le {n m : Nat} (h : n ≤ m) {p : PyData} (e : flatD n p = true) : flatD m p = true := by
  induction h with
  | refl => exact e
  | step _ ih => exact flat_up _ p ih
theorem PyOk.up {n m L : Nat} (h : n ≤ m) {d : D} {p : PyData} (e : PyOk n L d p) : PyOk m L d p := ⟨fun S => toPy_le h (e.to S), flat_le h e.flat, e.sh, e.nd, e.len⟩
theorem Shown.up {n m L : Nat} (h : n ≤ m) {d : D} (e : Shown n L d) : Shown m L d := by
  obtain ⟨p, e⟩ := e
  exact ⟨p, e.up h⟩
/-- repr of a list of shown data, of a tuple -/
theorem repr_lst {n L : Nat} {ds : List D} {ps : List PyData} (h : PyOks n L ds ps) (hn : n ≤ 38) (hL : L ≤ 16000000) {S : Store} {j : Nat} (hj : S[j]? = some (.lst ds)) : reprE [.ref j] S = .ok (D.str (PyData.list ps).shown) S := by
  have h1 : toPy S (n + 1) (.ref j) = some (.list ps) := toPy_lst hj (h.to S)
  have h2 : toPy S 40 (.ref j) = some (.list ps) := toPy_le (by omega) h1
  have h3 : flatD (n + 1) (.list ps) = true := h.flat
  have h4 := (flat_all (n + 1)).1 _ h3
  have hl : (PyData.list ps).shown.length ≤ sizeLine := by
    have e1 := listText_len_le (PyData.shownAll ps)
    rw [PyData.shownAll_length] at e1
    have := h.len
    have hz := sizeLine_eq
    show (listText (PyData.shownAll ps)).length ≤ _
    omega
  show (match toPy S 40 (.ref j) with
    | some p => if p.showable = true ∧ p.shown.length ≤ sizeLine ∧ p.depth ≤ 60 ∧ p.hasDict = false ∧ isDisplay p = true then Out.ok (D.str p.shown) S else .bad
    | none => .bad) = _
  rw [h2]
  simp only
  rw [if_pos ⟨h.sh, hl, by omega, h.nd, rfl⟩]
theorem repr_tup {n L : Nat} {ds : List D} {ps : List PyData} (h : PyOk n L (.tup ds) (.tuple ps)) (hn : n ≤ 38) (hL : L ≤ 16000000) (S : Store) : reprE [.tup ds] S = .ok (D.str (PyData.tuple ps).shown) S := by
  have h2 : toPy S 40 (.tup ds) = some (.tuple ps) := toPy_le (by omega) (h.to S)
  have h4 := (flat_all n).1 _ h.flat
  have hl : (PyData.tuple ps).shown.length ≤ sizeLine := by
    have := h.len
    have hz := sizeLine_eq
    omega
  show (match toPy S 40 (.tup ds) with
    | some p => if p.showable = true ∧ p.shown.length ≤ sizeLine ∧ p.depth ≤ 60 ∧ p.hasDict = false ∧ isDisplay p = true then Out.ok (D.str p.shown) S else .bad
    | none => .bad) = _
  rw [h2]
  simp only
  rw [if_pos ⟨h.sh, hl, by omega, h.nd, rfl⟩]
theorem Showns.up {n m L : Nat} (h : n ≤ m) {ds : List D} (e : Showns n L ds) : Showns m L ds := by
  obtain ⟨ps, e⟩ := e
  refine ⟨ps, fun S => ?_, List.all_eq_true.mpr fun x hx => flat_le h (List.all_eq_true.mp e.flat x hx), e.sh, e.nd, e.len⟩
  have h1 : toPy S (n + 1) (.tup ds) = some (.tuple ps) := toPy_tup (e.to S)
  have h2 : toPy S (m + 1) (.tup ds) = some (.tuple ps) := toPy_le (by omega) h1
  have h3 : (ds.mapM (toPy S m)).map PyData.tuple = some (.tuple ps) := h2
  cases hm : ds.mapM (toPy S m) with
  | none => rw [hm] at h3; cases h3
  | some qs => rw [hm] at h3; cases h3; rfl
end Pl

set_option Elab.async false
set_option linter.all false
set_option maxRecDepth 100000
/-! TBL91: the table of the text, printed by Prt. -/
namespace H91
open Pl PySem
/-- __wall -/
def b__wall : Cs := (.cons (.whl (.cst (.bl true)) (.cons .pass .nil)) .nil)
/-- _InvalidMachine___init__ -/
def b_InvalidMachine___init__ : Cs := (.cons .never .nil)
/-- _InvalidWord___init__ -/
def b_InvalidWord___init__ : Cs := (.cons .never .nil)
/-- _is_integer -/
def b_is_integer : Cs := (.cons (.ret (.and (.isi (.var 0) .int) (.not (.isi (.var 0) .bool)))) .nil)
/-- _is_from -/
def b_is_from : Cs := (.cons (.ret (.and (.call 3 (.cons (.var 1) .nil) [] .nil) (.cmp .ge (.var 1) (.var 0)))) .nil)
/-- _is_tuple -/
def b_is_tuple : Cs := (.cons (.ret (.and (.isi (.var 1) .tuple) (.or (.isN (.var 0)) (.cmp .eq (.blt .len (.cons (.var 1) .nil)) (.var 0))))) .nil)
/-- _is_sign -/
def b_is_sign : Cs := (.cons (.ret (.and (.call 4 (.cons (.cst (.int (0))) (.cons (.var 1) .nil)) [] .nil) (.cmp .lt (.var 1) (.var 0)))) .nil)
/-- _check_word -/
def c_check_word_0 : C := (.for_ (.tup (.cons (.name 2) (.cons (.name 3) .nil))) (.enum (.var 1)) (.cons (.ite (.not (.call 6 (.cons (.var 0) (.cons (.var 3) .nil)) [] .nil)) (.cons (.raiseF 6 "index" (.var 2)) .nil) .nil) .nil))
def b_check_word : Cs := (.cons (.ite (.not (.isi (.var 1) .tuple)) (.cons (.raiseF 6 "index" (.cst (.int (-1)))) .nil) .nil) (.cons c_check_word_0 .nil))
/-- _check_sign -/
def b_check_sign : Cs := (.cons (.ite (.not (.call 6 (.cons (.var 0) (.cons (.var 1) .nil)) [] .nil)) (.cons (.raise 2) .nil) .nil) .nil)
/-- _lowest_in -/
def b_lowest_in : Cs := (.cons (.asg (.name 2) (.blt .gcd (.cons (.var 0) (.cons (.var 1) .nil)))) (.cons (.ite (.cmp .lt (.var 1) (.cst (.int (0)))) (.cons (.asg (.name 2) (.bin .sub (.cst (.int (0))) (.var 2))) .nil) .nil) (.cons (.ret (.tup (.cons (.bin .fdiv (.var 0) (.var 2)) (.cons (.bin .fdiv (.var 1) (.var 2)) .nil)))) .nil)))
/-- _is_fraction -/
def b_is_fraction : Cs := (.cons (.ite (.or (.not (.call 5 (.cons (.cst (.int (2))) (.cons (.var 0) .nil)) [] .nil)) (.or (.not (.call 3 (.cons (.idx (.var 0) (.cst (.int (0)))) .nil) [] .nil)) (.not (.call 4 (.cons (.cst (.int (1))) (.cons (.idx (.var 0) (.cst (.int (1)))) .nil)) [] .nil)))) (.cons (.ret (.cst (.bl false))) .nil) .nil) (.cons (.ret (.cmp .eq (.blt .gcd (.cons (.idx (.var 0) (.cst (.int (0)))) (.cons (.idx (.var 0) (.cst (.int (1)))) .nil))) (.cst (.int (1))))) .nil))
/-- _is_row -/
def b_is_row : Cs := (.cons (.ret (.and (.call 5 (.cons (.var 0) (.cons (.var 1) .nil)) [] .nil) (.blt .all (.cons (.comp (.call 10 (.cons (.var 3) .nil) [] .nil) [2, 3] (.name 3) (.seq (.var 1)) .none) .nil)))) .nil)
/-- _is_matrix -/
def b_is_matrix : Cs := (.cons (.ret (.and (.call 5 (.cons (.var 0) (.cons (.var 2) .nil)) [] .nil) (.blt .all (.cons (.comp (.call 11 (.cons (.var 1) (.cons (.var 4) .nil)) [] .nil) [3, 4] (.name 4) (.seq (.var 2)) .none) .nil)))) .nil)
/-- _bottom_in -/
def b_bottom_in : Cs := (.cons (.asg (.name 1) (.cst (.int (1)))) (.cons (.for_ (.tup (.cons (.name 2) (.cons (.name 3) .nil))) (.seq (.var 0)) (.cons (.asg (.name 1) (.bin .mul (.bin .fdiv (.var 1) (.blt .gcd (.cons (.var 1) (.cons (.var 3) .nil)))) (.var 3))) .nil)) (.cons (.ret (.var 1)) .nil)))
/-- _whole_in -/
def b_whole_in : Cs := (.cons (.asg (.name 1) (.call 13 (.cons (.var 0) .nil) [] .nil)) (.cons (.ret (.tup (.cons (.comp (.bin .mul (.var 3) (.bin .fdiv (.var 1) (.var 4))) [2, 3, 4] (.tup (.cons (.name 3) (.cons (.name 4) .nil))) (.seq (.var 0)) .none) (.cons (.var 1) .nil)))) .nil))
/-- _told_in -/
def b_told_in : Cs := (.cons (.ret (.blt .tuple (.cons (.comp (.call 9 (.cons (.var 3) (.cons (.var 1) .nil)) [] .nil) [2, 3] (.name 3) (.seq (.var 0)) .none) .nil))) .nil)
/-- _whole_matrix_in -/
def b_whole_matrix_in : Cs := (.cons (.asg (.tup (.cons (.name 2) (.cons (.name 3) .nil))) (.call 14 (.cons (.comp2 (.var 7) [6, 1, 7] [7] (.name 1) (.seq (.var 0)) (.name 7) (.seq (.var 1))) .nil) [] .nil)) (.cons (.par [4, 5] (.cons (.lst .nil) (.cons (.cst (.int (0))) .nil))) (.cons (.for_ (.name 1) (.seq (.var 0)) (.cons (.expr (.bm .append (.var 4) (.cons (.slc (.var 2) (.some (.var 5)) (.some (.bin .add (.var 5) (.blt .len (.cons (.var 1) .nil))))) .nil))) (.cons (.aug 5 .add (.blt .len (.cons (.var 1) .nil))) .nil))) (.cons (.ret (.tup (.cons (.var 4) (.cons (.var 3) .nil)))) .nil))))
/-- _moved_whole_in -/
def b_moved_whole_in : Cs := (.cons (.asg (.name 2) (.bin .mul (.lst (.cons (.cst (.int (0))) .nil)) (.ite (.cmp .ne (.var 1) (.lst .nil)) (.blt .len (.cons (.idx (.var 1) (.cst (.int (0)))) .nil)) (.cst (.int (0)))))) (.cons (.for_ (.tup (.cons (.name 3) (.cons (.name 4) .nil))) (.zip (.var 0) (.var 1)) (.cons (.ite (.cmp .ne (.var 3) (.cst (.int (0)))) (.cons (.asg (.name 2) (.comp (.bin .add (.var 6) (.bin .mul (.var 3) (.var 7))) [5, 6, 7] (.tup (.cons (.name 6) (.cons (.name 7) .nil))) (.zip (.var 2) (.var 4)) .none)) .nil) .nil) .nil)) (.cons (.ret (.var 2)) .nil)))
/-- _move_by_in -/
def b_move_by_in : Cs := (.cons (.asg (.tup (.cons (.name 2) (.cons (.name 3) .nil))) (.call 14 (.cons (.var 0) .nil) [] .nil)) (.cons (.ret (.call 15 (.cons (.call 17 (.cons (.var 2) (.cons (.idx (.var 1) (.cst (.int (0)))) .nil)) [] .nil) (.cons (.bin .mul (.var 3) (.idx (.var 1) (.cst (.int (1))))) .nil)) [] .nil)) .nil))
/-- _move_in -/
def b_move_in : Cs := (.cons (.ret (.call 18 (.cons (.var 0) (.cons (.call 16 (.cons (.var 1) .nil) [] .nil) .nil)) [] .nil)) .nil)
/-- _dot_in -/
def b_dot_in : Cs := (.cons (.asg (.tup (.cons (.name 2) (.cons (.name 3) .nil))) (.call 14 (.cons (.var 0) .nil) [] .nil)) (.cons (.asg (.tup (.cons (.name 4) (.cons (.name 5) .nil))) (.call 14 (.cons (.var 1) .nil) [] .nil)) (.cons (.ret (.call 9 (.cons (.blt .sum (.cons (.comp (.bin .mul (.var 7) (.var 8)) [6, 7, 8] (.tup (.cons (.name 7) (.cons (.name 8) .nil))) (.zip (.var 2) (.var 4)) .none) .nil)) (.cons (.bin .mul (.var 3) (.var 5)) .nil)) [] .nil)) .nil)))
/-- _Mover___init__ -/
def c_Mover___init___0 : E := (.comp (.call 16 (.cons (.var 3) .nil) [] .nil) [2, 3] (.name 3) (.seq (.var 1)) .none)
def b_Mover___init__ : Cs := (.cons (.asg (.fld (.var 0) "steps") c_Mover___init___0) .nil)
/-- _Mover_move -/
def b_Mover_move : Cs := (.cons (.ret (.call 18 (.cons (.var 1) (.cons (.idx (.fld (.var 0) "steps") (.var 2)) .nil)) [] .nil)) .nil)
/-- _Mover_along -/
def c_Mover_along_0 : C := (.for_ (.name 3) (.seq (.var 2)) (.cons (.asg (.name 1) (.mth (.var 0) "move" (.cons (.var 1) (.cons (.var 3) .nil)) [] .nil)) .nil))
def b_Mover_along : Cs := (.cons c_Mover_along_0 (.cons (.ret (.var 1)) .nil))
/-- _steps_fault -/
def c_steps_fault_0 : C := (.for_ (.tup (.cons (.name 3) (.cons (.name 4) .nil))) (.enum (.var 2)) (.cons (.ite (.not (.call 12 (.cons (.var 1) (.cons (.var 1) (.cons (.var 4) .nil))) [] .nil)) (.cons (.ret (.tup (.cons (.cst (.int (3))) (.cons (.var 3) .nil)))) .nil) .nil) .nil))
def b_steps_fault : Cs := (.cons (.ite (.not (.call 5 (.cons (.var 0) (.cons (.var 2) .nil)) [] .nil)) (.cons (.ret (.tup (.cons (.cst (.int (3))) .nil))) .nil) .nil) (.cons c_steps_fault_0 (.cons (.ret (.cst .non)) .nil)))
/-- _machine_fault -/
def b_machine_fault : Cs := (.cons (.ite (.not (.call 5 (.cons (.cst (.int (5))) (.cons (.var 0) .nil)) [] .nil)) (.cons (.ret (.tup .nil)) .nil) .nil) (.cons (.asg (.tup (.cons (.name 1) (.cons (.name 2) (.cons (.name 3) (.cons (.name 4) (.cons (.name 5) .nil)))))) (.var 0)) (.cons (.ite (.not (.call 4 (.cons (.cst (.int (1))) (.cons (.var 1) .nil)) [] .nil)) (.cons (.ret (.tup (.cons (.cst (.int (0))) .nil))) .nil) .nil) (.cons (.ite (.not (.call 4 (.cons (.cst (.int (0))) (.cons (.var 2) .nil)) [] .nil)) (.cons (.ret (.tup (.cons (.cst (.int (1))) .nil))) .nil) .nil) (.cons (.ite (.not (.call 11 (.cons (.var 2) (.cons (.var 3) .nil)) [] .nil)) (.cons (.ret (.tup (.cons (.cst (.int (2))) .nil))) .nil) .nil) (.cons (.asg (.name 6) (.call 24 (.cons (.var 1) (.cons (.var 2) (.cons (.var 4) .nil))) [] .nil)) (.cons (.ite (.notN (.var 6)) (.cons (.ret (.var 6)) .nil) .nil) (.cons (.ret (.ite (.call 11 (.cons (.var 2) (.cons (.var 5) .nil)) [] .nil) (.cst .non) (.tup (.cons (.cst (.int (4))) .nil)))) .nil))))))))
/-- _is_machine -/
def b_is_machine : Cs := (.cons (.ret (.isN (.call 25 (.cons (.var 0) .nil) [] .nil))) .nil)
/-- _check_machine -/
def b_check_machine : Cs := (.cons (.asg (.name 1) (.call 25 (.cons (.var 0) .nil) [] .nil)) (.cons (.ite (.notN (.var 1)) (.cons (.raiseF 5 "place" (.var 1)) .nil) .nil) .nil))
/-- _need_alike_signs -/
def b_need_alike_signs : Cs := (.cons (.ite (.cmp .ne (.idx (.var 1) (.cst (.int (0)))) (.var 0)) (.cons (.raise 3) .nil) .nil) .nil)
/-- _check_machines -/
def c_check_machines_0 : E := (.comp (.call 26 (.cons (.var 4) .nil) [] .nil) [3, 4] (.name 4) (.seq (.var 0)) .none)
def c_check_machines_1 : E := (.comp (.idx (.var 4) (.cst (.int (0)))) [3, 4] (.name 4) (.seq (.var 0)) .none)
def c_check_machines_2 : E := (.comp (.cmp .ne (.var 4) (.idx (.var 2) (.cst (.int (0))))) [3, 4] (.name 4) (.seq (.var 2)) .none)
def b_check_machines : Cs := (.cons (.ite (.or (.not (.isi (.var 0) .tuple)) (.not (.blt .all (.cons c_check_machines_0 .nil)))) (.cons (.raise 1) .nil) .nil) (.cons (.asg (.name 2) (.bin .add c_check_machines_1 (.ite (.notN (.var 1)) (.lst (.cons (.var 1) .nil)) (.lst .nil)))) (.cons (.ite (.blt .any (.cons c_check_machines_2 .nil)) (.cons (.raise 1) .nil) .nil) .nil)))
/-- _row_in -/
def b_row_in : Cs := (.cons (.ret (.mth (.mk 7 (.cons (.idx (.var 0) (.cst (.int (3)))) .nil) [] .nil) "along" (.cons (.idx (.var 0) (.cst (.int (2)))) (.cons (.var 1) .nil)) [] .nil)) .nil)
/-- _Stream___init__ -/
def c_Stream___init___0 : E := (.comp (.idx (.var 3) (.cst (.int (2)))) [2, 3] (.name 3) (.seq (.var 1)) .none)
def b_Stream___init__ : Cs := (.cons (.expr (.call 29 (.cons (.var 1) (.cons (.cst .non) .nil)) [] .nil)) (.cons (.ite (.cmp .eq (.var 1) (.tup .nil)) (.cons (.raise 1) .nil) .nil) (.cons (.asg (.fld (.var 0) "own_machines") (.var 1)) (.cons (.asg (.fld (.var 0) "rows") (.blt .tuple (.cons c_Stream___init___0 .nil))) (.cons (.asg (.fld (.var 0) "heard") (.tup .nil)) (.cons (.asg (.fld (.var 0) "past") (.lst .nil)) (.cons (.asg (.fld (.var 0) "blocks") (.lst .nil)) .nil)))))))
/-- _Stream_machines -/
def b_Stream_machines : Cs := (.cons (.ret (.fld (.var 0) "own_machines")) .nil)
/-- _Stream_fed -/
def b_Stream_fed : Cs := (.cons (.ret (.fld (.var 0) "heard")) .nil)
/-- _Stream_worths -/
def c_Stream_worths_0 : E := (.comp (.call 20 (.cons (.var 2) (.cons (.idx (.var 3) (.cst (.int (4)))) .nil)) [] .nil) [1, 2, 3] (.tup (.cons (.name 2) (.cons (.name 3) .nil))) (.zip (.fld (.var 0) "rows") (.fld (.var 0) "own_machines")) .none)
def b_Stream_worths : Cs := (.cons (.ret (.blt .tuple (.cons c_Stream_worths_0 .nil))) .nil)
/-- _Stream_deeds -/
def c_Stream_deeds_0 : E := (.comp (.var 2) [1, 2, 3, 4, 5] (.tup (.cons (.name 2) (.cons (.name 3) (.cons (.name 4) (.cons (.name 5) .nil))))) (.seq (.fld (.var 0) "past")) .none)
def b_Stream_deeds : Cs := (.cons (.ret (.blt .tuple (.cons c_Stream_deeds_0 .nil))) .nil)
/-- _Stream_depth -/
def b_Stream_depth : Cs := (.cons (.ret (.blt .len (.cons (.fld (.var 0) "blocks") .nil))) .nil)
/-- _Stream___len__ -/
def b_Stream___len__ : Cs := (.cons (.ret (.blt .len (.cons (.fld (.var 0) "past") .nil))) .nil)
/-- _Stream_note -/
def b_Stream_note : Cs := (.cons (.expr (.bm .append (.fld (.var 0) "past") (.cons (.tup (.cons (.var 1) (.cons (.fld (.var 0) "own_machines") (.cons (.fld (.var 0) "rows") (.cons (.fld (.var 0) "heard") .nil))))) .nil))) .nil)
/-- _Stream_moved -/
def c_Stream_moved_0 : E := (.comp (.call 19 (.cons (.var 5) (.cons (.idx (.idx (.var 6) (.cst (.int (3)))) (.var 3)) .nil)) [] .nil) [4, 5, 6] (.tup (.cons (.name 5) (.cons (.name 6) .nil))) (.zip (.var 2) (.fld (.var 0) "own_machines")) .none)
def c_Stream_moved_1 : C := (.for_ (.name 3) (.seq (.var 1)) (.cons (.asg (.name 2) c_Stream_moved_0) .nil))
def b_Stream_moved : Cs := (.cons (.asg (.name 2) (.blt .list (.cons (.fld (.var 0) "rows") .nil))) (.cons c_Stream_moved_1 (.cons (.ret (.blt .tuple (.cons (.var 2) .nil))) .nil)))
/-- _Stream_go -/
def b_Stream_go : Cs := (.cons (.asg (.name 3) (.mth (.var 0) "moved" (.cons (.var 2) .nil) [] .nil)) (.cons (.expr (.mth (.var 0) "note" (.cons (.var 1) .nil) [] .nil)) (.cons (.asg (.fld (.var 0) "rows") (.var 3)) (.cons (.asg (.fld (.var 0) "heard") (.bin .add (.fld (.var 0) "heard") (.var 2))) (.cons (.ret (.fld (.var 0) "worths")) .nil)))))
/-- _Stream_feed -/
def b_Stream_feed : Cs := (.cons (.expr (.call 8 (.cons (.idx (.idx (.fld (.var 0) "own_machines") (.cst (.int (0)))) (.cst (.int (0)))) (.cons (.var 1) .nil)) [] .nil)) (.cons (.ret (.mth (.var 0) "go" (.cons (.tup (.cons (.cst (.str "feed")) (.cons (.var 1) .nil))) (.cons (.tup (.cons (.var 1) .nil)) .nil)) [] .nil)) .nil))
/-- _Stream_feed_all -/
def b_Stream_feed_all : Cs := (.cons (.expr (.call 7 (.cons (.idx (.idx (.fld (.var 0) "own_machines") (.cst (.int (0)))) (.cst (.int (0)))) (.cons (.var 1) .nil)) [] .nil)) (.cons (.ret (.mth (.var 0) "go" (.cons (.tup (.cons (.cst (.str "feed_all")) (.cons (.var 1) .nil))) (.cons (.var 1) .nil)) [] .nil)) .nil))
/-- _Stream_check_index -/
def b_Stream_check_index : Cs := (.cons (.ite (.or (.not (.call 4 (.cons (.cst (.int (0))) (.cons (.var 1) .nil)) [] .nil)) (.cmp .ge (.var 1) (.blt .len (.cons (.fld (.var 0) "own_machines") .nil)))) (.cons (.raise 4) .nil) .nil) .nil)
/-- _Stream_exchange -/
def b_Stream_exchange : Cs := (.cons (.expr (.mth (.var 0) "check_index" (.cons (.var 1) .nil) [] .nil)) (.cons (.expr (.call 27 (.cons (.var 2) .nil) [] .nil)) (.cons (.expr (.call 28 (.cons (.idx (.idx (.fld (.var 0) "own_machines") (.cst (.int (0)))) (.cst (.int (0)))) (.cons (.var 2) .nil)) [] .nil)) (.cons (.expr (.mth (.var 0) "note" (.cons (.tup (.cons (.cst (.str "exchange")) (.cons (.var 1) (.cons (.var 2) .nil)))) .nil) [] .nil)) (.cons (.asg (.name 3) (.call 30 (.cons (.var 2) (.cons (.fld (.var 0) "heard") .nil)) [] .nil)) (.cons (.asg (.fld (.var 0) "own_machines") (.bin .add (.bin .add (.slc (.fld (.var 0) "own_machines") .none (.some (.var 1))) (.tup (.cons (.var 2) .nil))) (.slc (.fld (.var 0) "own_machines") (.some (.bin .add (.var 1) (.cst (.int (1))))) .none))) (.cons (.asg (.fld (.var 0) "rows") (.bin .add (.bin .add (.slc (.fld (.var 0) "rows") .none (.some (.var 1))) (.tup (.cons (.var 3) .nil))) (.slc (.fld (.var 0) "rows") (.some (.bin .add (.var 1) (.cst (.int (1))))) .none))) (.cons (.ret (.call 20 (.cons (.var 3) (.cons (.idx (.var 2) (.cst (.int (4)))) .nil)) [] .nil)) .nil))))))))
/-- _Stream_back -/
def b_Stream_back : Cs := (.cons (.expr (.call 0 (.cons (.cst (.int (0))) .nil) [] .nil)) .nil)
/-- _Stream_undo -/
def b_Stream_undo : Cs := (.cons (.expr (.call 0 (.cons (.cst (.int (1))) .nil) [] .nil)) .nil)
/-- _Stream_begin -/
def b_Stream_begin : Cs := (.cons (.expr (.bm .append (.fld (.var 0) "blocks") (.cons (.blt .len (.cons (.fld (.var 0) "past") .nil)) .nil))) .nil)
/-- _Stream_need_block -/
def b_Stream_need_block : Cs := (.cons (.expr (.call 0 (.cons (.cst (.int (2))) .nil) [] .nil)) .nil)
/-- _Stream_keep -/
def b_Stream_keep : Cs := (.cons (.expr (.call 0 (.cons (.cst (.int (3))) .nil) [] .nil)) .nil)
/-- _Stream_drop -/
def b_Stream_drop : Cs := (.cons (.expr (.call 0 (.cons (.cst (.int (4))) .nil) [] .nil)) .nil)
/-- _Stream_twin -/
def b_Stream_twin : Cs := (.cons (.expr (.call 0 (.cons (.cst (.int (5))) .nil) [] .nil)) .nil)
/-- _Stream_would -/
def c_Stream_would_0 : E := (.comp (.call 20 (.cons (.var 3) (.cons (.idx (.var 4) (.cst (.int (4)))) .nil)) [] .nil) [2, 3, 4] (.tup (.cons (.name 3) (.cons (.name 4) .nil))) (.zip (.mth (.var 0) "moved" (.cons (.var 1) .nil) [] .nil) (.fld (.var 0) "own_machines")) .none)
def b_Stream_would : Cs := (.cons (.expr (.call 7 (.cons (.idx (.idx (.fld (.var 0) "own_machines") (.cst (.int (0)))) (.cst (.int (0)))) (.cons (.var 1) .nil)) [] .nil)) (.cons (.ret (.blt .tuple (.cons c_Stream_would_0 .nil))) .nil))
/-- _Stream_from_here -/
def b_Stream_from_here : Cs := (.cons (.expr (.call 0 (.cons (.cst (.int (6))) .nil) [] .nil)) .nil)
/-- _Stream_parting -/
def b_Stream_parting : Cs := (.cons (.expr (.call 0 (.cons (.cst (.int (7))) .nil) [] .nil)) .nil)
/-- _Stream_settled -/
def b_Stream_settled : Cs := (.cons (.expr (.call 0 (.cons (.cst (.int (8))) .nil) [] .nil)) .nil)
/-- __law_pot -/
def c_law_pot_0 : C := (.for_ (.name 3) (.seq (.slc (.var 0) .none (.some (.cst (.int (63)))))) (.cons (.asg (.name 2) (.bin .mod (.blt .int (.cons (.bin .add (.bin .add (.bin .mul (.var 2) (.cst (.int (900007)))) (.bin .mul (.blt .int (.cons (.var 3) .nil)) (.cst (.int (77377))))) (.cst (.int (4241)))) .nil)) (.bin .add (.bin .pow (.cst (.int (10))) (.cst (.int (27)))) (.cst (.int (103)))))) .nil))
def b__law_pot : Cs := (.cons (.asg (.name 2) (.bin .add (.bin .add (.cst (.int (17))) (.bin .mul (.cst (.int (1009))) (.var 1))) (.blt .len (.cons (.slc (.var 0) .none (.some (.cst (.int (63))))) .nil)))) (.cons c_law_pot_0 (.cons (.asg (.name 4) (.ite (.cmp .lt (.var 1) (.blt .len (.cons (.var 0) .nil))) (.blt .int (.cons (.idx (.var 0) (.var 1)) .nil)) (.cst (.int (0))))) (.cons (.ret (.lst (.cons (.blt .max (.cons (.cst (.int (0))) (.cons (.bin .sub (.blt .abs (.cons (.var 4) .nil)) (.bin .pow (.cst (.int (10))) (.cst (.int (18))))) .nil))) (.cons (.var 2) (.cons (.cst (.int (0))) .nil))))) .nil))))
/-- __law_draw -/
def b__law_draw : Cs := (.cons (.ite (.cmp .gt (.idx (.var 0) (.cst (.int (0)))) (.cst (.int (0)))) (.cons (.asg (.name 2) (.bin .mod (.blt .int (.cons (.idx (.var 0) (.cst (.int (0)))) .nil)) (.var 1))) (.cons (.asg (.idx (.var 0) (.cst (.int (0)))) (.bin .fdiv (.idx (.var 0) (.cst (.int (0)))) (.var 1))) (.cons (.ret (.var 2)) .nil))) .nil) (.cons (.asg (.idx (.var 0) (.cst (.int (2)))) (.bin .add (.idx (.var 0) (.cst (.int (2)))) (.cst (.int (1))))) (.cons (.asg (.name 3) (.bin .mod (.blt .int (.cons (.bin .add (.bin .pow (.bin .add (.idx (.var 0) (.cst (.int (1)))) (.bin .mul (.cst (.int (611953))) (.idx (.var 0) (.cst (.int (2)))))) (.cst (.int (2)))) (.bin .mul (.cst (.int (13))) (.idx (.var 0) (.cst (.int (2)))))) .nil)) (.bin .add (.bin .pow (.cst (.int (10))) (.cst (.int (26)))) (.cst (.int (67)))))) (.cons (.ret (.bin .mod (.blt .int (.cons (.bin .fdiv (.var 3) (.cst (.int (100003)))) .nil)) (.var 1))) .nil))))
/-- __law_pick -/
def b__law_pick : Cs := (.cons (.ret (.idx (.var 1) (.call 57 (.cons (.var 0) (.cons (.blt .len (.cons (.var 1) .nil)) .nil)) [] .nil))) .nil)
/-- __law_same -/
def b__law_same : Cs := (.cons (.ret (.cmp .eq (.blt .repr (.cons (.var 0) .nil)) (.blt .repr (.cons (.var 1) .nil)))) .nil)
/-- __law_low -/
def c_law_low_0 : C := (.whl (.cmp .ne (.var 3) (.cst (.int (0)))) (.cons (.par [2, 3] (.cons (.var 3) (.cons (.bin .mod (.blt .int (.cons (.var 2) .nil)) (.var 3)) .nil))) .nil))
def b__law_low : Cs := (.cons (.par [2, 3] (.cons (.blt .abs (.cons (.var 0) .nil)) (.cons (.var 1) .nil))) (.cons c_law_low_0 (.cons (.ret (.tup (.cons (.bin .fdiv (.var 0) (.var 2)) (.cons (.bin .fdiv (.var 1) (.var 2)) .nil)))) .nil)))
/-- __law_plus -/
def b__law_plus : Cs := (.cons (.ret (.call 60 (.cons (.bin .add (.bin .mul (.idx (.var 0) (.cst (.int (0)))) (.idx (.var 1) (.cst (.int (1))))) (.bin .mul (.idx (.var 1) (.cst (.int (0)))) (.idx (.var 0) (.cst (.int (1)))))) (.cons (.bin .mul (.idx (.var 0) (.cst (.int (1)))) (.idx (.var 1) (.cst (.int (1))))) .nil)) [] .nil)) .nil)
/-- __law_times -/
def b__law_times : Cs := (.cons (.ret (.call 60 (.cons (.bin .mul (.idx (.var 0) (.cst (.int (0)))) (.idx (.var 1) (.cst (.int (0))))) (.cons (.bin .mul (.idx (.var 0) (.cst (.int (1)))) (.idx (.var 1) (.cst (.int (1))))) .nil)) [] .nil)) .nil)
/-- __law_dot -/
def c_law_dot_0 : C := (.for_ (.tup (.cons (.name 3) (.cons (.name 4) .nil))) (.zip (.var 0) (.var 1)) (.cons (.asg (.name 2) (.call 61 (.cons (.var 2) (.cons (.call 62 (.cons (.var 3) (.cons (.var 4) .nil)) [] .nil) .nil)) [] .nil)) .nil))
def b__law_dot : Cs := (.cons (.asg (.name 2) (.tup (.cons (.cst (.int (0))) (.cons (.cst (.int (1))) .nil)))) (.cons c_law_dot_0 (.cons (.ret (.var 2)) .nil)))
/-- __law_move -/
def c_law_move_0 : E := (.comp (.idx (.var 4) (.var 3)) [2, 4] (.name 4) (.seq (.var 1)) .none)
def c_law_move_1 : E := (.comp (.call 63 (.cons (.var 0) (.cons c_law_move_0 .nil)) [] .nil) [2, 3] (.name 3) (.rng1 (.blt .len (.cons (.var 0) .nil))) .none)
def b__law_move : Cs := (.cons (.ret (.blt .tuple (.cons c_law_move_1 .nil))) .nil)
/-- __law_along -/
def c_law_along_0 : C := (.for_ (.name 3) (.seq (.var 1)) (.cons (.asg (.name 2) (.call 64 (.cons (.var 2) (.cons (.idx (.idx (.var 0) (.cst (.int (3)))) (.var 3)) .nil)) [] .nil)) .nil))
def b__law_along : Cs := (.cons (.asg (.name 2) (.idx (.var 0) (.cst (.int (2))))) (.cons c_law_along_0 (.cons (.ret (.var 2)) .nil)))
/-- __law_worth -/
def b__law_worth : Cs := (.cons (.ret (.call 63 (.cons (.call 65 (.cons (.var 0) (.cons (.var 1) .nil)) [] .nil) (.cons (.idx (.var 0) (.cst (.int (4)))) .nil)) [] .nil)) .nil)
/-- __law_fraction -/
def b__law_fraction : Cs := (.cons (.asg (.name 1) (.call 57 (.cons (.var 0) (.cons (.cst (.int (6))) .nil)) [] .nil)) (.cons (.ite (.cmp .lt (.var 1) (.cst (.int (4)))) (.cons (.ret (.idx (.lst (.cons (.tup (.cons (.cst (.int (0))) (.cons (.cst (.int (1))) .nil))) (.cons (.tup (.cons (.cst (.int (1))) (.cons (.cst (.int (1))) .nil))) (.cons (.tup (.cons (.cst (.int (-1))) (.cons (.cst (.int (1))) .nil))) (.cons (.tup (.cons (.cst (.int (0))) (.cons (.cst (.int (1))) .nil))) .nil))))) (.var 1))) .nil) .nil) (.cons (.ret (.call 60 (.cons (.bin .sub (.call 57 (.cons (.var 0) (.cons (.cst (.int (9))) .nil)) [] .nil) (.cst (.int (4)))) (.cons (.bin .add (.cst (.int (1))) (.call 57 (.cons (.var 0) (.cons (.cst (.int (3))) .nil)) [] .nil)) .nil)) [] .nil)) .nil)))
/-- __law_row -/
def c_law_row_0 : E := (.comp (.call 67 (.cons (.var 0) .nil) [] .nil) [2, 3] (.name 3) (.rng1 (.var 1)) .none)
def b__law_row : Cs := (.cons (.ret (.blt .tuple (.cons c_law_row_0 .nil))) .nil)
/-- __law_machine -/
def c_law_machine_0 : E := (.comp (.call 68 (.cons (.var 0) (.cons (.var 2) .nil)) [] .nil) [5, 7] (.name 7) (.rng1 (.var 2)) .none)
def c_law_machine_1 : E := (.comp (.blt .tuple (.cons c_law_machine_0 .nil)) [5, 6] (.name 6) (.rng1 (.var 1)) .none)
def b__law_machine : Cs := (.cons (.asg (.name 3) (.call 68 (.cons (.var 0) (.cons (.var 2) .nil)) [] .nil)) (.cons (.asg (.name 4) (.blt .tuple (.cons c_law_machine_1 .nil))) (.cons (.ret (.tup (.cons (.var 1) (.cons (.var 2) (.cons (.var 3) (.cons (.var 4) (.cons (.call 68 (.cons (.var 0) (.cons (.var 2) .nil)) [] .nil) .nil))))))) .nil)))
/-- __law_word -/
def c_law_word_0 : E := (.comp (.call 57 (.cons (.var 0) (.cons (.var 1) .nil)) [] .nil) [3, 4] (.name 4) (.rng1 (.call 57 (.cons (.var 0) (.cons (.bin .add (.var 2) (.cst (.int (1)))) .nil)) [] .nil)) .none)
def b__law_word : Cs := (.cons (.ret (.blt .tuple (.cons c_law_word_0 .nil))) .nil)
/-- __law_caught -/
def b__law_caught : Cs := (.cons .never .nil)
/-- __law_is_model -/
def c_law_is_model_0 : E := (.comp (.call 66 (.cons (.var 7) (.cons (.var 3) .nil)) [] .nil) [6, 7] (.name 7) (.seq (.var 2)) .none)
def b__law_is_model : Cs := (.cons (.asg (.tup (.cons (.name 2) (.cons (.name 3) (.cons (.name 4) .nil)))) (.var 1)) (.cons (.asg (.name 5) (.blt .tuple (.cons c_law_is_model_0 .nil))) (.cons (.ite (.not (.call 59 (.cons (.lst (.cons (.fld (.var 0) "machines") (.cons (.fld (.var 0) "fed") (.cons (.fld (.var 0) "worths") .nil)))) (.cons (.lst (.cons (.blt .tuple (.cons (.var 2) .nil)) (.cons (.var 3) (.cons (.var 5) .nil)))) .nil)) [] .nil)) (.cons (.ret (.cst (.bl false))) .nil) .nil) (.cons (.ret (.call 59 (.cons (.lst (.cons (.fld (.var 0) "deeds") (.cons (.blt .len (.cons (.var 0) .nil)) (.cons (.fld (.var 0) "depth") .nil)))) (.cons (.lst (.cons (.blt .tuple (.cons (.var 4) .nil)) (.cons (.blt .len (.cons (.var 4) .nil)) (.cons (.cst (.int (0))) .nil)))) .nil)) [] .nil)) .nil))))
/-- __law_refused -/
def t_law_refused_0 : Cs := (.cons (.asg (.tup (.cons (.name 10) (.cons (.name 8) .nil))) (.call 58 (.cons (.var 0) (.cons (.lst (.cons (.tup (.cons (.cst .non) (.cons (.tup .nil) .nil))) (.cons (.tup (.cons (.blt .list (.cons (.var 5) .nil)) (.cons (.tup .nil) .nil))) (.cons (.tup (.cons (.bin .add (.tup (.cons (.cst (.int (0))) .nil)) (.slc (.var 5) (.some (.cst (.int (1)))) .none)) (.cons (.tup (.cons (.cst (.int (0))) .nil)) .nil))) (.cons (.tup (.cons (.bin .add (.slc (.var 5) .none (.some (.cst (.int (4))))) (.tup (.cons (.cst .non) .nil))) (.cons (.tup (.cons (.cst (.int (4))) .nil)) .nil))) .nil))))) .nil)) [] .nil)) (.cons (.ret (.cmp .eq (.told (.mth (.var 1) "exchange" (.cons (.cst (.int (0))) (.cons (.var 10) .nil)) [] .nil) [(4, "InvalidIndex", none), (5, "InvalidMachine", some "place"), (1, "InvalidMachines", none), (2, "InvalidSign", none), (6, "InvalidWord", some "index"), (3, "Unlike", none), (0, "other", none)]) (.tup (.cons (.cst (.str "InvalidMachine")) (.cons (.var 8) .nil))))) .nil))
def r_law_refused_1 : Cs := (.cons (.asg (.name 11) (.call 69 (.cons (.var 0) (.cons (.bin .add (.var 3) (.cst (.int (1)))) (.cons (.cst (.int (1))) .nil))) [] .nil)) (.cons (.ret (.cmp .eq (.told (.mth (.var 1) "exchange" (.cons (.bin .sub (.var 9) (.cst (.int (1)))) (.cons (.var 11) .nil)) [] .nil) [(4, "InvalidIndex", none), (5, "InvalidMachine", some "place"), (1, "InvalidMachines", none), (2, "InvalidSign", none), (6, "InvalidWord", some "index"), (3, "Unlike", none), (0, "other", none)]) (.tup (.cons (.cst (.str "Unlike")) (.cons (.cst .non) .nil))))) .nil))
def t_law_refused_2 : Cs := (.cons (.asg (.name 10) (.call 58 (.cons (.var 0) (.cons (.lst (.cons (.cst .non) (.cons (.cst (.int (-1))) (.cons (.var 9) (.cons (.cst (.bl true)) (.cons (.cst (.str "0")) (.cons (.tup (.cons (.cst (.int (0))) .nil)) .nil))))))) .nil)) [] .nil)) (.cons (.ret (.cmp .eq (.told (.mth (.var 1) "exchange" (.cons (.var 10) (.cons (.cst .non) .nil)) [] .nil) [(4, "InvalidIndex", none), (5, "InvalidMachine", some "place"), (1, "InvalidMachines", none), (2, "InvalidSign", none), (6, "InvalidWord", some "index"), (3, "Unlike", none), (0, "other", none)]) (.tup (.cons (.cst (.str "InvalidIndex")) (.cons (.cst .non) .nil))))) .nil))
def r_law_refused_3 : Cs := (.cons (.ite (.cmp .eq (.var 6) (.cst (.int (4)))) t_law_refused_0 .nil) r_law_refused_1)
def t_law_refused_4 : Cs := (.cons (.ret (.cmp .eq (.told (.mth (.var 1) "feed_all" (.cons (.var 10) .nil) [] .nil) [(4, "InvalidIndex", none), (5, "InvalidMachine", some "place"), (1, "InvalidMachines", none), (2, "InvalidSign", none), (6, "InvalidWord", some "index"), (3, "Unlike", none), (0, "other", none)]) (.tup (.cons (.cst (.str "InvalidWord")) (.cons (.var 7) .nil))))) .nil)
def r_law_refused_5 : Cs := (.cons (.ret (.cmp .eq (.told (.mth (.var 1) "would" (.cons (.var 10) .nil) [] .nil) [(4, "InvalidIndex", none), (5, "InvalidMachine", some "place"), (1, "InvalidMachines", none), (2, "InvalidSign", none), (6, "InvalidWord", some "index"), (3, "Unlike", none), (0, "other", none)]) (.tup (.cons (.cst (.str "InvalidWord")) (.cons (.var 7) .nil))))) .nil)
def t_law_refused_6 : Cs := (.cons (.asg (.tup (.cons (.name 10) (.cons (.name 7) .nil))) (.call 58 (.cons (.var 0) (.cons (.lst (.cons (.tup (.cons (.cst .non) (.cons (.cst (.int (-1))) .nil))) (.cons (.tup (.cons (.blt .list (.cons (.var 4) .nil)) (.cons (.cst (.int (-1))) .nil))) (.cons (.tup (.cons (.bin .add (.var 4) (.tup (.cons (.var 3) .nil))) (.cons (.blt .len (.cons (.var 4) .nil)) .nil))) (.cons (.tup (.cons (.tup (.cons (.cst (.bl true)) .nil)) (.cons (.cst (.int (0))) .nil))) (.cons (.tup (.cons (.bin .add (.var 4) (.tup (.cons (.cst .non) .nil))) (.cons (.blt .len (.cons (.var 4) .nil)) .nil))) .nil)))))) .nil)) [] .nil)) (.cons (.ite (.cmp .eq (.var 6) (.cst (.int (1)))) t_law_refused_4 .nil) r_law_refused_5))
def r_law_refused_7 : Cs := (.cons (.ite (.cmp .eq (.var 6) (.cst (.int (3)))) t_law_refused_2 .nil) r_law_refused_3)
def t_law_refused_8 : Cs := (.cons (.asg (.name 10) (.call 58 (.cons (.var 0) (.cons (.lst (.cons (.cst .non) (.cons (.cst (.int (-1))) (.cons (.var 3) (.cons (.cst (.bl true)) (.cons (.cst (.str "a")) (.cons (.tup (.cons (.cst (.int (0))) .nil)) .nil))))))) .nil)) [] .nil)) (.cons (.ret (.cmp .eq (.told (.mth (.var 1) "feed" (.cons (.var 10) .nil) [] .nil) [(4, "InvalidIndex", none), (5, "InvalidMachine", some "place"), (1, "InvalidMachines", none), (2, "InvalidSign", none), (6, "InvalidWord", some "index"), (3, "Unlike", none), (0, "other", none)]) (.tup (.cons (.cst (.str "InvalidSign")) (.cons (.cst .non) .nil))))) .nil))
def r_law_refused_9 : Cs := (.cons (.ite (.cmp .lt (.var 6) (.cst (.int (3)))) t_law_refused_6 .nil) r_law_refused_7)
def b__law_refused : Cs := (.cons (.asg (.tup (.cons (.name 3) (.cons (.name 9) .nil))) (.tup (.cons (.idx (.idx (.idx (.var 2) (.cst (.int (0)))) (.cst (.int (0)))) (.cst (.int (0)))) (.cons (.blt .len (.cons (.idx (.var 2) (.cst (.int (0)))) .nil)) .nil)))) (.cons (.par [4, 5] (.cons (.call 70 (.cons (.var 0) (.cons (.var 3) (.cons (.cst (.int (3))) .nil))) [] .nil) (.cons (.call 69 (.cons (.var 0) (.cons (.var 3) (.cons (.cst (.int (1))) .nil))) [] .nil) .nil))) (.cons (.asg (.name 6) (.call 57 (.cons (.var 0) (.cons (.cst (.int (6))) .nil)) [] .nil)) (.cons (.ite (.cmp .eq (.var 6) (.cst (.int (0)))) t_law_refused_8 .nil) r_law_refused_9))))
/-- __law_step_right -/
def c_law_step_right_0 : E := (.comp (.call 66 (.cons (.var 9) (.cons (.bin .add (.var 4) (.var 11)) .nil)) [] .nil) [13, 9] (.name 9) (.seq (.var 3)) .none)
def r_law_step_right_0 : Cs := (.cons (.asg (.name 10) (.ite (.cmp .eq (.var 7) (.cst (.int (0)))) (.mth (.var 1) "feed" (.cons (.idx (.var 11) (.cst (.int (0)))) .nil) [] .nil) (.mth (.var 1) "feed_all" (.cons (.var 11) .nil) [] .nil))) (.cons (.expr (.bm .append (.var 5) (.cons (.ite (.cmp .eq (.var 7) (.cst (.int (0)))) (.tup (.cons (.cst (.str "feed")) (.cons (.idx (.var 11) (.cst (.int (0)))) .nil))) (.tup (.cons (.cst (.str "feed_all")) (.cons (.var 11) .nil)))) .nil))) (.cons (.asg (.idx (.var 2) (.cst (.int (1)))) (.bin .add (.var 4) (.var 11))) (.cons (.ret (.call 59 (.cons (.var 10) (.cons (.var 12) .nil)) [] .nil)) .nil))))
def t_law_step_right_1 : Cs := (.cons (.par [8, 9] (.cons (.call 57 (.cons (.var 0) (.cons (.blt .len (.cons (.var 3) .nil)) .nil)) [] .nil) (.cons (.call 69 (.cons (.var 0) (.cons (.var 6) (.cons (.call 57 (.cons (.var 0) (.cons (.cst (.int (3))) .nil)) [] .nil) .nil))) [] .nil) .nil))) (.cons (.asg (.name 10) (.mth (.var 1) "exchange" (.cons (.var 8) (.cons (.var 9) .nil)) [] .nil)) (.cons (.asg (.idx (.var 2) (.cst (.int (0)))) (.bin .add (.bin .add (.slc (.var 3) .none (.some (.var 8))) (.lst (.cons (.var 9) .nil))) (.slc (.var 3) (.some (.bin .add (.var 8) (.cst (.int (1))))) .none))) (.cons (.expr (.bm .append (.var 5) (.cons (.tup (.cons (.cst (.str "exchange")) (.cons (.var 8) (.cons (.var 9) .nil)))) .nil))) (.cons (.ret (.call 59 (.cons (.var 10) (.cons (.call 66 (.cons (.var 9) (.cons (.var 4) .nil)) [] .nil) .nil)) [] .nil)) .nil)))))
def r_law_step_right_2 : Cs := (.cons (.asg (.name 11) (.ite (.cmp .eq (.var 7) (.cst (.int (0)))) (.tup (.cons (.call 57 (.cons (.var 0) (.cons (.var 6) .nil)) [] .nil) .nil)) (.call 70 (.cons (.var 0) (.cons (.var 6) (.cons (.cst (.int (3))) .nil))) [] .nil))) (.cons (.asg (.name 12) (.blt .tuple (.cons c_law_step_right_0 .nil))) (.cons (.ite (.or (.not (.call 59 (.cons (.lst (.cons (.mth (.var 1) "would" (.cons (.var 11) .nil) [] .nil) (.cons (.mth (.var 1) "would" .nil ["word"] (.cons (.var 11) .nil)) .nil))) (.cons (.lst (.cons (.var 12) (.cons (.var 12) .nil))) .nil)) [] .nil)) (.not (.call 72 (.cons (.var 1) (.cons (.var 2) .nil)) [] .nil))) (.cons (.ret (.cst (.bl false))) .nil) .nil) r_law_step_right_0)))
def b__law_step_right : Cs := (.cons (.asg (.tup (.cons (.name 3) (.cons (.name 4) (.cons (.name 5) .nil)))) (.var 2)) (.cons (.par [6, 7] (.cons (.idx (.idx (.var 3) (.cst (.int (0)))) (.cst (.int (0)))) (.cons (.call 57 (.cons (.var 0) (.cons (.cst (.int (3))) .nil)) [] .nil) .nil))) (.cons (.ite (.cmp .eq (.var 7) (.cst (.int (2)))) t_law_step_right_1 .nil) r_law_step_right_2)))
/-- __law_right -/
def c_law_right_0 : E := (.comp (.call 69 (.cons (.var 0) (.cons (.var 1) (.cons (.call 57 (.cons (.var 0) (.cons (.cst (.int (4))) .nil)) [] .nil) .nil))) [] .nil) [7, 2] (.name 2) (.rng1 (.bin .add (.cst (.int (1))) (.call 57 (.cons (.var 0) (.cons (.cst (.int (3))) .nil)) [] .nil))) .none)
def c_law_right_1 : C := (.for_ (.name 2) (.rng1 (.cst (.int (8)))) (.cons (.ite (.or (.not (.call 72 (.cons (.var 4) (.cons (.var 5) .nil)) [] .nil)) (.or (.not (.call 73 (.cons (.var 0) (.cons (.var 4) (.cons (.var 5) .nil))) [] .nil)) (.not (.call 72 (.cons (.var 4) (.cons (.var 5) .nil)) [] .nil)))) (.cons (.ret (.cst (.bl false))) .nil) .nil) (.cons (.ite (.not (.call 74 (.cons (.var 0) (.cons (.var 4) (.cons (.var 5) .nil))) [] .nil)) (.cons (.ret (.cst (.bl false))) .nil) .nil) .nil)))
def b__law_right : Cs := (.cons (.asg (.name 1) (.bin .add (.cst (.int (1))) (.call 57 (.cons (.var 0) (.cons (.cst (.int (3))) .nil)) [] .nil))) (.cons (.asg (.name 3) c_law_right_0) (.cons (.asg (.name 6) (.call 58 (.cons (.var 0) (.cons (.lst (.cons (.cst .non) (.cons (.tup .nil) (.cons (.blt .list (.cons (.var 3) .nil)) (.cons (.tup (.cons (.cst .non) .nil)) (.cons (.bin .add (.blt .tuple (.cons (.var 3) .nil)) (.tup (.cons (.call 69 (.cons (.var 0) (.cons (.bin .add (.var 1) (.cst (.int (1)))) (.cons (.cst (.int (1))) .nil))) [] .nil) .nil))) (.cons (.idx (.var 3) (.cst (.int (0)))) .nil))))))) .nil)) [] .nil)) (.cons (.ite (.cmp .ne (.told (.mk 8 (.cons (.var 6) .nil) [] .nil) [(4, "InvalidIndex", none), (5, "InvalidMachine", some "place"), (1, "InvalidMachines", none), (2, "InvalidSign", none), (6, "InvalidWord", some "index"), (3, "Unlike", none), (0, "other", none)]) (.tup (.cons (.cst (.str "InvalidMachines")) (.cons (.cst .non) .nil)))) (.cons (.ret (.cst (.bl false))) .nil) .nil) (.cons (.par [4, 5] (.cons (.mk 8 (.cons (.blt .tuple (.cons (.var 3) .nil)) .nil) [] .nil) (.cons (.lst (.cons (.var 3) (.cons (.tup .nil) (.cons (.lst .nil) .nil)))) .nil))) (.cons c_law_right_1 (.cons (.ret (.call 72 (.cons (.var 4) (.cons (.var 5) .nil)) [] .nil)) .nil)))))))
/-- _law -/
def c_law_0 : C := (.for_ (.name 1) (.rng1 (.blt .max (.cons (.cst (.int (1))) (.cons (.blt .min (.cons (.cst (.int (3))) (.cons (.blt .len (.cons (.var 0) .nil)) .nil))) .nil)))) (.cons (.ite (.not (.call 75 (.cons (.call 56 (.cons (.var 0) (.cons (.var 1) .nil)) [] .nil) .nil) [] .nil)) (.cons (.ret (.cst (.bl false))) .nil) .nil) .nil))
def b_law : Cs := (.cons c_law_0 (.cons (.ret (.cst (.bl true))) .nil))
def TBfns : List Fi := [
  ⟨(some "_wall"), ["k"], 1, b__wall⟩,
  ⟨none, ["self", "place"], 2, b_InvalidMachine___init__⟩,
  ⟨none, ["self", "index"], 2, b_InvalidWord___init__⟩,
  ⟨(some "is_integer"), ["thing"], 1, b_is_integer⟩,
  ⟨(some "is_from"), ["low", "thing"], 2, b_is_from⟩,
  ⟨(some "is_tuple"), ["many", "thing"], 2, b_is_tuple⟩,
  ⟨(some "is_sign"), ["signs", "thing"], 2, b_is_sign⟩,
  ⟨(some "check_word"), ["signs", "thing"], 4, b_check_word⟩,
  ⟨(some "check_sign"), ["signs", "thing"], 2, b_check_sign⟩,
  ⟨(some "lowest_in"), ["top", "bottom"], 3, b_lowest_in⟩,
  ⟨(some "is_fraction"), ["value"], 1, b_is_fraction⟩,
  ⟨(some "is_row"), ["many", "thing"], 4, b_is_row⟩,
  ⟨(some "is_matrix"), ["many", "width", "thing"], 5, b_is_matrix⟩,
  ⟨(some "bottom_in"), ["row"], 4, b_bottom_in⟩,
  ⟨(some "whole_in"), ["row"], 5, b_whole_in⟩,
  ⟨(some "told_in"), ["numbers", "bottom"], 4, b_told_in⟩,
  ⟨(some "whole_matrix_in"), ["matrix"], 8, b_whole_matrix_in⟩,
  ⟨(some "moved_whole_in"), ["numbers", "rows"], 8, b_moved_whole_in⟩,
  ⟨(some "move_by_in"), ["row", "whole"], 4, b_move_by_in⟩,
  ⟨(some "move_in"), ["row", "matrix"], 2, b_move_in⟩,
  ⟨(some "dot_in"), ["row", "other"], 9, b_dot_in⟩,
  ⟨none, ["self", "steps"], 4, b_Mover___init__⟩,
  ⟨none, ["self", "row", "sign"], 3, b_Mover_move⟩,
  ⟨none, ["self", "row", "word"], 4, b_Mover_along⟩,
  ⟨(some "steps_fault"), ["signs", "size", "steps"], 5, b_steps_fault⟩,
  ⟨(some "machine_fault"), ["value"], 7, b_machine_fault⟩,
  ⟨(some "is_machine"), ["value"], 1, b_is_machine⟩,
  ⟨(some "check_machine"), ["thing"], 2, b_check_machine⟩,
  ⟨(some "need_alike_signs"), ["signs", "thing"], 2, b_need_alike_signs⟩,
  ⟨(some "check_machines"), ["thing", "signs"], 5, b_check_machines⟩,
  ⟨(some "row_in"), ["machine", "word"], 2, b_row_in⟩,
  ⟨none, ["self", "machines"], 4, b_Stream___init__⟩,
  ⟨none, ["self"], 1, b_Stream_machines⟩,
  ⟨none, ["self"], 1, b_Stream_fed⟩,
  ⟨none, ["self"], 4, b_Stream_worths⟩,
  ⟨none, ["self"], 6, b_Stream_deeds⟩,
  ⟨none, ["self"], 1, b_Stream_depth⟩,
  ⟨none, ["self"], 1, b_Stream___len__⟩,
  ⟨none, ["self", "deed"], 2, b_Stream_note⟩,
  ⟨none, ["self", "word"], 7, b_Stream_moved⟩,
  ⟨none, ["self", "deed", "word"], 4, b_Stream_go⟩,
  ⟨none, ["self", "sign"], 2, b_Stream_feed⟩,
  ⟨none, ["self", "word"], 2, b_Stream_feed_all⟩,
  ⟨none, ["self", "index"], 2, b_Stream_check_index⟩,
  ⟨none, ["self", "index", "machine"], 4, b_Stream_exchange⟩,
  ⟨none, ["self"], 1, b_Stream_back⟩,
  ⟨none, ["self"], 1, b_Stream_undo⟩,
  ⟨none, ["self"], 1, b_Stream_begin⟩,
  ⟨none, ["self"], 1, b_Stream_need_block⟩,
  ⟨none, ["self"], 1, b_Stream_keep⟩,
  ⟨none, ["self"], 1, b_Stream_drop⟩,
  ⟨none, ["self"], 1, b_Stream_twin⟩,
  ⟨none, ["self", "word"], 5, b_Stream_would⟩,
  ⟨none, ["self", "index"], 2, b_Stream_from_here⟩,
  ⟨none, ["self", "number", "other_number"], 3, b_Stream_parting⟩,
  ⟨none, ["self", "number"], 2, b_Stream_settled⟩,
  ⟨(some "_law_pot"), ["script", "at"], 5, b__law_pot⟩,
  ⟨(some "_law_draw"), ["pot", "many"], 4, b__law_draw⟩,
  ⟨(some "_law_pick"), ["pot", "things"], 2, b__law_pick⟩,
  ⟨(some "_law_same"), ["told", "due"], 2, b__law_same⟩,
  ⟨(some "_law_low"), ["top", "bottom"], 4, b__law_low⟩,
  ⟨(some "_law_plus"), ["one", "other"], 2, b__law_plus⟩,
  ⟨(some "_law_times"), ["one", "other"], 2, b__law_times⟩,
  ⟨(some "_law_dot"), ["row", "other"], 5, b__law_dot⟩,
  ⟨(some "_law_move"), ["row", "step"], 5, b__law_move⟩,
  ⟨(some "_law_along"), ["machine", "word"], 4, b__law_along⟩,
  ⟨(some "_law_worth"), ["machine", "word"], 2, b__law_worth⟩,
  ⟨(some "_law_fraction"), ["pot"], 2, b__law_fraction⟩,
  ⟨(some "_law_row"), ["pot", "size"], 4, b__law_row⟩,
  ⟨(some "_law_machine"), ["pot", "signs", "size"], 8, b__law_machine⟩,
  ⟨(some "_law_word"), ["pot", "signs", "most"], 5, b__law_word⟩,
  ⟨(some "_law_caught"), ["act"], 3, b__law_caught⟩,
  ⟨(some "_law_is_model"), ["stream", "model"], 8, b__law_is_model⟩,
  ⟨(some "_law_refused"), ["pot", "stream", "model"], 12, b__law_refused⟩,
  ⟨(some "_law_step_right"), ["pot", "stream", "model"], 14, b__law_step_right⟩,
  ⟨(some "_law_right"), ["pot"], 8, b__law_right⟩,
  ⟨(some "law"), ["script"], 2, b_law⟩]
def TBcls : List Ci := [
  ⟨"PassError", false, true, [], []⟩,
  ⟨"InvalidMachines", false, true, [], []⟩,
  ⟨"InvalidSign", false, true, [], []⟩,
  ⟨"Unlike", false, true, [], []⟩,
  ⟨"InvalidIndex", false, true, [], []⟩,
  ⟨"InvalidMachine", false, true, [("__init__", 1)], []⟩,
  ⟨"InvalidWord", false, true, [("__init__", 2)], []⟩,
  ⟨"Mover", true, false, [("__init__", 21), ("move", 22), ("along", 23)], []⟩,
  ⟨"Stream", true, false, [("__init__", 31), ("__len__", 37), ("note", 38), ("moved", 39), ("go", 40), ("feed", 41), ("feed_all", 42), ("check_index", 43), ("exchange", 44), ("back", 45), ("undo", 46), ("begin", 47), ("need_block", 48), ("keep", 49), ("drop", 50), ("twin", 51), ("would", 52), ("from_here", 53), ("parting", 54), ("settled", 55)], [("machines", 32), ("fed", 33), ("worths", 34), ("deeds", 35), ("depth", 36)]⟩]
def TBL : Tb := { fns := TBfns, cls := TBcls, flds := ["place", "index", "steps", "own_machines", "rows", "heard", "past", "blocks"], up := fun a b => match TBcls[a]?, TBcls[b]? with
  | some x, some y => x.name == y.name || y.name == "PassError"
  | _, _ => false }
end H91

set_option Elab.async false
set_option linter.all false
set_option maxRecDepth 100000
/-! looks into the table, printed by genF. -/
namespace H91
open Pl PySem
theorem ps_all : psOf TBL 0 = (["k"] : List Str) ∧ psOf TBL 1 = (["self", "place"] : List Str) ∧ psOf TBL 2 = (["self", "index"] : List Str) ∧ psOf TBL 3 = (["thing"] : List Str) ∧ psOf TBL 4 = (["low", "thing"] : List Str) ∧ psOf TBL 5 = (["many", "thing"] : List Str) ∧ psOf TBL 6 = (["signs", "thing"] : List Str) ∧ psOf TBL 7 = (["signs", "thing"] : List Str) ∧ psOf TBL 8 = (["signs", "thing"] : List Str) ∧ psOf TBL 9 = (["top", "bottom"] : List Str) ∧ psOf TBL 10 = (["value"] : List Str) ∧ psOf TBL 11 = (["many", "thing"] : List Str) ∧ psOf TBL 12 = (["many", "width", "thing"] : List Str) ∧ psOf TBL 13 = (["row"] : List Str) ∧ psOf TBL 14 = (["row"] : List Str) ∧ psOf TBL 15 = (["numbers", "bottom"] : List Str) ∧ psOf TBL 16 = (["matrix"] : List Str) ∧ psOf TBL 17 = (["numbers", "rows"] : List Str) ∧ psOf TBL 18 = (["row", "whole"] : List Str) ∧ psOf TBL 19 = (["row", "matrix"] : List Str) ∧ psOf TBL 20 = (["row", "other"] : List Str) ∧ psOf TBL 21 = (["self", "steps"] : List Str) ∧ psOf TBL 22 = (["self", "row", "sign"] : List Str) ∧ psOf TBL 23 = (["self", "row", "word"] : List Str) ∧ psOf TBL 24 = (["signs", "size", "steps"] : List Str) ∧ psOf TBL 25 = (["value"] : List Str) ∧ psOf TBL 26 = (["value"] : List Str) ∧ psOf TBL 27 = (["thing"] : List Str) ∧ psOf TBL 28 = (["signs", "thing"] : List Str) ∧ psOf TBL 29 = (["thing", "signs"] : List Str) ∧ psOf TBL 30 = (["machine", "word"] : List Str) ∧ psOf TBL 31 = (["self", "machines"] : List Str) ∧ psOf TBL 32 = (["self"] : List Str) ∧ psOf TBL 33 = (["self"] : List Str) ∧ psOf TBL 34 = (["self"] : List Str) ∧ psOf TBL 35 = (["self"] : List Str) ∧ psOf TBL 36 = (["self"] : List Str) ∧ psOf TBL 37 = (["self"] : List Str) ∧ psOf TBL 38 = (["self", "deed"] : List Str) ∧ psOf TBL 39 = (["self", "word"] : List Str) ∧ psOf TBL 40 = (["self", "deed", "word"] : List Str) ∧ psOf TBL 41 = (["self", "sign"] : List Str) ∧ psOf TBL 42 = (["self", "word"] : List Str) ∧ psOf TBL 43 = (["self", "index"] : List Str) ∧ psOf TBL 44 = (["self", "index", "machine"] : List Str) ∧ psOf TBL 45 = (["self"] : List Str) ∧ psOf TBL 46 = (["self"] : List Str) ∧ psOf TBL 47 = (["self"] : List Str) ∧ psOf TBL 48 = (["self"] : List Str) ∧ psOf TBL 49 = (["self"] : List Str) ∧ psOf TBL 50 = (["self"] : List Str) ∧ psOf TBL 51 = (["self"] : List Str) ∧ psOf TBL 52 = (["self", "word"] : List Str) ∧ psOf TBL 53 = (["self", "index"] : List Str) ∧ psOf TBL 54 = (["self", "number", "other_number"] : List Str) ∧ psOf TBL 55 = (["self", "number"] : List Str) ∧ psOf TBL 56 = (["script", "at"] : List Str) ∧ psOf TBL 57 = (["pot", "many"] : List Str) ∧ psOf TBL 58 = (["pot", "things"] : List Str) ∧ psOf TBL 59 = (["told", "due"] : List Str) ∧ psOf TBL 60 = (["top", "bottom"] : List Str) ∧ psOf TBL 61 = (["one", "other"] : List Str) ∧ psOf TBL 62 = (["one", "other"] : List Str) ∧ psOf TBL 63 = (["row", "other"] : List Str) ∧ psOf TBL 64 = (["row", "step"] : List Str) ∧ psOf TBL 65 = (["machine", "word"] : List Str) ∧ psOf TBL 66 = (["machine", "word"] : List Str) ∧ psOf TBL 67 = (["pot"] : List Str) ∧ psOf TBL 68 = (["pot", "size"] : List Str) ∧ psOf TBL 69 = (["pot", "signs", "size"] : List Str) ∧ psOf TBL 70 = (["pot", "signs", "most"] : List Str) ∧ psOf TBL 71 = (["act"] : List Str) ∧ psOf TBL 72 = (["stream", "model"] : List Str) ∧ psOf TBL 73 = (["pot", "stream", "model"] : List Str) ∧ psOf TBL 74 = (["pot", "stream", "model"] : List Str) ∧ psOf TBL 75 = (["pot"] : List Str) ∧ psOf TBL 76 = (["script"] : List Str) := ⟨rfl, rfl, rfl, rfl, rfl, rfl, rfl, rfl, rfl, rfl, rfl, rfl, rfl, rfl, rfl, rfl, rfl, rfl, rfl, rfl, rfl, rfl, rfl, rfl, rfl, rfl, rfl, rfl, rfl, rfl, rfl, rfl, rfl, rfl, rfl, rfl, rfl, rfl, rfl, rfl, rfl, rfl, rfl, rfl, rfl, rfl, rfl, rfl, rfl, rfl, rfl, rfl, rfl, rfl, rfl, rfl, rfl, rfl, rfl, rfl, rfl, rfl, rfl, rfl, rfl, rfl, rfl, rfl, rfl, rfl, rfl, rfl, rfl, rfl, rfl, rfl, rfl⟩
theorem at_0 : TBL.fns[0]? = some ⟨(some "_wall"), ["k"], 1, b__wall⟩ := rfl
theorem at_1 : TBL.fns[1]? = some ⟨none, ["self", "place"], 2, b_InvalidMachine___init__⟩ := rfl
theorem at_2 : TBL.fns[2]? = some ⟨none, ["self", "index"], 2, b_InvalidWord___init__⟩ := rfl
theorem at_3 : TBL.fns[3]? = some ⟨(some "is_integer"), ["thing"], 1, b_is_integer⟩ := rfl
theorem at_4 : TBL.fns[4]? = some ⟨(some "is_from"), ["low", "thing"], 2, b_is_from⟩ := rfl
theorem at_5 : TBL.fns[5]? = some ⟨(some "is_tuple"), ["many", "thing"], 2, b_is_tuple⟩ := rfl
theorem at_6 : TBL.fns[6]? = some ⟨(some "is_sign"), ["signs", "thing"], 2, b_is_sign⟩ := rfl
theorem at_7 : TBL.fns[7]? = some ⟨(some "check_word"), ["signs", "thing"], 4, b_check_word⟩ := rfl
theorem at_8 : TBL.fns[8]? = some ⟨(some "check_sign"), ["signs", "thing"], 2, b_check_sign⟩ := rfl
theorem at_9 : TBL.fns[9]? = some ⟨(some "lowest_in"), ["top", "bottom"], 3, b_lowest_in⟩ := rfl
theorem at_10 : TBL.fns[10]? = some ⟨(some "is_fraction"), ["value"], 1, b_is_fraction⟩ := rfl
theorem at_11 : TBL.fns[11]? = some ⟨(some "is_row"), ["many", "thing"], 4, b_is_row⟩ := rfl
theorem at_12 : TBL.fns[12]? = some ⟨(some "is_matrix"), ["many", "width", "thing"], 5, b_is_matrix⟩ := rfl
theorem at_13 : TBL.fns[13]? = some ⟨(some "bottom_in"), ["row"], 4, b_bottom_in⟩ := rfl
theorem at_14 : TBL.fns[14]? = some ⟨(some "whole_in"), ["row"], 5, b_whole_in⟩ := rfl
theorem at_15 : TBL.fns[15]? = some ⟨(some "told_in"), ["numbers", "bottom"], 4, b_told_in⟩ := rfl
theorem at_16 : TBL.fns[16]? = some ⟨(some "whole_matrix_in"), ["matrix"], 8, b_whole_matrix_in⟩ := rfl
theorem at_17 : TBL.fns[17]? = some ⟨(some "moved_whole_in"), ["numbers", "rows"], 8, b_moved_whole_in⟩ := rfl
theorem at_18 : TBL.fns[18]? = some ⟨(some "move_by_in"), ["row", "whole"], 4, b_move_by_in⟩ := rfl
theorem at_19 : TBL.fns[19]? = some ⟨(some "move_in"), ["row", "matrix"], 2, b_move_in⟩ := rfl
theorem at_20 : TBL.fns[20]? = some ⟨(some "dot_in"), ["row", "other"], 9, b_dot_in⟩ := rfl
theorem at_21 : TBL.fns[21]? = some ⟨none, ["self", "steps"], 4, b_Mover___init__⟩ := rfl
theorem at_22 : TBL.fns[22]? = some ⟨none, ["self", "row", "sign"], 3, b_Mover_move⟩ := rfl
theorem at_23 : TBL.fns[23]? = some ⟨none, ["self", "row", "word"], 4, b_Mover_along⟩ := rfl
theorem at_24 : TBL.fns[24]? = some ⟨(some "steps_fault"), ["signs", "size", "steps"], 5, b_steps_fault⟩ := rfl
theorem at_25 : TBL.fns[25]? = some ⟨(some "machine_fault"), ["value"], 7, b_machine_fault⟩ := rfl
theorem at_26 : TBL.fns[26]? = some ⟨(some "is_machine"), ["value"], 1, b_is_machine⟩ := rfl
theorem at_27 : TBL.fns[27]? = some ⟨(some "check_machine"), ["thing"], 2, b_check_machine⟩ := rfl
theorem at_28 : TBL.fns[28]? = some ⟨(some "need_alike_signs"), ["signs", "thing"], 2, b_need_alike_signs⟩ := rfl
theorem at_29 : TBL.fns[29]? = some ⟨(some "check_machines"), ["thing", "signs"], 5, b_check_machines⟩ := rfl
theorem at_30 : TBL.fns[30]? = some ⟨(some "row_in"), ["machine", "word"], 2, b_row_in⟩ := rfl
theorem at_31 : TBL.fns[31]? = some ⟨none, ["self", "machines"], 4, b_Stream___init__⟩ := rfl
theorem at_32 : TBL.fns[32]? = some ⟨none, ["self"], 1, b_Stream_machines⟩ := rfl
theorem at_33 : TBL.fns[33]? = some ⟨none, ["self"], 1, b_Stream_fed⟩ := rfl
theorem at_34 : TBL.fns[34]? = some ⟨none, ["self"], 4, b_Stream_worths⟩ := rfl
theorem at_35 : TBL.fns[35]? = some ⟨none, ["self"], 6, b_Stream_deeds⟩ := rfl
theorem at_36 : TBL.fns[36]? = some ⟨none, ["self"], 1, b_Stream_depth⟩ := rfl
theorem at_37 : TBL.fns[37]? = some ⟨none, ["self"], 1, b_Stream___len__⟩ := rfl
theorem at_38 : TBL.fns[38]? = some ⟨none, ["self", "deed"], 2, b_Stream_note⟩ := rfl
theorem at_39 : TBL.fns[39]? = some ⟨none, ["self", "word"], 7, b_Stream_moved⟩ := rfl
theorem at_40 : TBL.fns[40]? = some ⟨none, ["self", "deed", "word"], 4, b_Stream_go⟩ := rfl
theorem at_41 : TBL.fns[41]? = some ⟨none, ["self", "sign"], 2, b_Stream_feed⟩ := rfl
theorem at_42 : TBL.fns[42]? = some ⟨none, ["self", "word"], 2, b_Stream_feed_all⟩ := rfl
theorem at_43 : TBL.fns[43]? = some ⟨none, ["self", "index"], 2, b_Stream_check_index⟩ := rfl
theorem at_44 : TBL.fns[44]? = some ⟨none, ["self", "index", "machine"], 4, b_Stream_exchange⟩ := rfl
theorem at_45 : TBL.fns[45]? = some ⟨none, ["self"], 1, b_Stream_back⟩ := rfl
theorem at_46 : TBL.fns[46]? = some ⟨none, ["self"], 1, b_Stream_undo⟩ := rfl
theorem at_47 : TBL.fns[47]? = some ⟨none, ["self"], 1, b_Stream_begin⟩ := rfl
theorem at_48 : TBL.fns[48]? = some ⟨none, ["self"], 1, b_Stream_need_block⟩ := rfl
theorem at_49 : TBL.fns[49]? = some ⟨none, ["self"], 1, b_Stream_keep⟩ := rfl
theorem at_50 : TBL.fns[50]? = some ⟨none, ["self"], 1, b_Stream_drop⟩ := rfl
theorem at_51 : TBL.fns[51]? = some ⟨none, ["self"], 1, b_Stream_twin⟩ := rfl
theorem at_52 : TBL.fns[52]? = some ⟨none, ["self", "word"], 5, b_Stream_would⟩ := rfl
theorem at_53 : TBL.fns[53]? = some ⟨none, ["self", "index"], 2, b_Stream_from_here⟩ := rfl
theorem at_54 : TBL.fns[54]? = some ⟨none, ["self", "number", "other_number"], 3, b_Stream_parting⟩ := rfl
theorem at_55 : TBL.fns[55]? = some ⟨none, ["self", "number"], 2, b_Stream_settled⟩ := rfl
theorem at_56 : TBL.fns[56]? = some ⟨(some "_law_pot"), ["script", "at"], 5, b__law_pot⟩ := rfl
theorem at_57 : TBL.fns[57]? = some ⟨(some "_law_draw"), ["pot", "many"], 4, b__law_draw⟩ := rfl
theorem at_58 : TBL.fns[58]? = some ⟨(some "_law_pick"), ["pot", "things"], 2, b__law_pick⟩ := rfl
theorem at_59 : TBL.fns[59]? = some ⟨(some "_law_same"), ["told", "due"], 2, b__law_same⟩ := rfl
theorem at_60 : TBL.fns[60]? = some ⟨(some "_law_low"), ["top", "bottom"], 4, b__law_low⟩ := rfl
theorem at_61 : TBL.fns[61]? = some ⟨(some "_law_plus"), ["one", "other"], 2, b__law_plus⟩ := rfl
theorem at_62 : TBL.fns[62]? = some ⟨(some "_law_times"), ["one", "other"], 2, b__law_times⟩ := rfl
theorem at_63 : TBL.fns[63]? = some ⟨(some "_law_dot"), ["row", "other"], 5, b__law_dot⟩ := rfl
theorem at_64 : TBL.fns[64]? = some ⟨(some "_law_move"), ["row", "step"], 5, b__law_move⟩ := rfl
theorem at_65 : TBL.fns[65]? = some ⟨(some "_law_along"), ["machine", "word"], 4, b__law_along⟩ := rfl
theorem at_66 : TBL.fns[66]? = some ⟨(some "_law_worth"), ["machine", "word"], 2, b__law_worth⟩ := rfl
theorem at_67 : TBL.fns[67]? = some ⟨(some "_law_fraction"), ["pot"], 2, b__law_fraction⟩ := rfl
theorem at_68 : TBL.fns[68]? = some ⟨(some "_law_row"), ["pot", "size"], 4, b__law_row⟩ := rfl
theorem at_69 : TBL.fns[69]? = some ⟨(some "_law_machine"), ["pot", "signs", "size"], 8, b__law_machine⟩ := rfl
theorem at_70 : TBL.fns[70]? = some ⟨(some "_law_word"), ["pot", "signs", "most"], 5, b__law_word⟩ := rfl
theorem at_71 : TBL.fns[71]? = some ⟨(some "_law_caught"), ["act"], 3, b__law_caught⟩ := rfl
theorem at_72 : TBL.fns[72]? = some ⟨(some "_law_is_model"), ["stream", "model"], 8, b__law_is_model⟩ := rfl
theorem at_73 : TBL.fns[73]? = some ⟨(some "_law_refused"), ["pot", "stream", "model"], 12, b__law_refused⟩ := rfl
theorem at_74 : TBL.fns[74]? = some ⟨(some "_law_step_right"), ["pot", "stream", "model"], 14, b__law_step_right⟩ := rfl
theorem at_75 : TBL.fns[75]? = some ⟨(some "_law_right"), ["pot"], 8, b__law_right⟩ := rfl
theorem at_76 : TBL.fns[76]? = some ⟨(some "law"), ["script"], 2, b_law⟩ := rfl
theorem inst_all : TBL.inst 0 = false ∧ TBL.exc 0 = true ∧ TBL.inst 1 = false ∧ TBL.exc 1 = true ∧ TBL.inst 2 = false ∧ TBL.exc 2 = true ∧ TBL.inst 3 = false ∧ TBL.exc 3 = true ∧ TBL.inst 4 = false ∧ TBL.exc 4 = true ∧ TBL.inst 5 = false ∧ TBL.exc 5 = true ∧ TBL.inst 6 = false ∧ TBL.exc 6 = true ∧ TBL.inst 7 = true ∧ TBL.exc 7 = false ∧ TBL.inst 8 = true ∧ TBL.exc 8 = false := by decide
theorem meth_all : methOf TBL 5 ("__init__" : Str) = some 1 ∧ methOf TBL 6 ("__init__" : Str) = some 2 ∧ methOf TBL 7 ("__init__" : Str) = some 21 ∧ propOf TBL 7 ("__init__" : Str) = none ∧ methOf TBL 7 ("move" : Str) = some 22 ∧ propOf TBL 7 ("move" : Str) = none ∧ methOf TBL 7 ("along" : Str) = some 23 ∧ propOf TBL 7 ("along" : Str) = none ∧ propOf TBL 7 ("place" : Str) = none ∧ methOf TBL 7 ("place" : Str) = none ∧ propOf TBL 7 ("index" : Str) = none ∧ methOf TBL 7 ("index" : Str) = none ∧ propOf TBL 7 ("steps" : Str) = none ∧ methOf TBL 7 ("steps" : Str) = none ∧ propOf TBL 7 ("own_machines" : Str) = none ∧ methOf TBL 7 ("own_machines" : Str) = none ∧ propOf TBL 7 ("rows" : Str) = none ∧ methOf TBL 7 ("rows" : Str) = none ∧ propOf TBL 7 ("heard" : Str) = none ∧ methOf TBL 7 ("heard" : Str) = none ∧ propOf TBL 7 ("past" : Str) = none ∧ methOf TBL 7 ("past" : Str) = none ∧ propOf TBL 7 ("blocks" : Str) = none ∧ methOf TBL 7 ("blocks" : Str) = none ∧ methOf TBL 8 ("__init__" : Str) = some 31 ∧ propOf TBL 8 ("__init__" : Str) = none ∧ methOf TBL 8 ("__len__" : Str) = some 37 ∧ propOf TBL 8 ("__len__" : Str) = none ∧ methOf TBL 8 ("note" : Str) = some 38 ∧ propOf TBL 8 ("note" : Str) = none ∧ methOf TBL 8 ("moved" : Str) = some 39 ∧ propOf TBL 8 ("moved" : Str) = none ∧ methOf TBL 8 ("go" : Str) = some 40 ∧ propOf TBL 8 ("go" : Str) = none ∧ methOf TBL 8 ("feed" : Str) = some 41 ∧ propOf TBL 8 ("feed" : Str) = none ∧ methOf TBL 8 ("feed_all" : Str) = some 42 ∧ propOf TBL 8 ("feed_all" : Str) = none ∧ methOf TBL 8 ("check_index" : Str) = some 43 ∧ propOf TBL 8 ("check_index" : Str) = none ∧ methOf TBL 8 ("exchange" : Str) = some 44 ∧ propOf TBL 8 ("exchange" : Str) = none ∧ methOf TBL 8 ("back" : Str) = some 45 ∧ propOf TBL 8 ("back" : Str) = none ∧ methOf TBL 8 ("undo" : Str) = some 46 ∧ propOf TBL 8 ("undo" : Str) = none ∧ methOf TBL 8 ("begin" : Str) = some 47 ∧ propOf TBL 8 ("begin" : Str) = none ∧ methOf TBL 8 ("need_block" : Str) = some 48 ∧ propOf TBL 8 ("need_block" : Str) = none ∧ methOf TBL 8 ("keep" : Str) = some 49 ∧ propOf TBL 8 ("keep" : Str) = none ∧ methOf TBL 8 ("drop" : Str) = some 50 ∧ propOf TBL 8 ("drop" : Str) = none ∧ methOf TBL 8 ("twin" : Str) = some 51 ∧ propOf TBL 8 ("twin" : Str) = none ∧ methOf TBL 8 ("would" : Str) = some 52 ∧ propOf TBL 8 ("would" : Str) = none ∧ methOf TBL 8 ("from_here" : Str) = some 53 ∧ propOf TBL 8 ("from_here" : Str) = none ∧ methOf TBL 8 ("parting" : Str) = some 54 ∧ propOf TBL 8 ("parting" : Str) = none ∧ methOf TBL 8 ("settled" : Str) = some 55 ∧ propOf TBL 8 ("settled" : Str) = none ∧ propOf TBL 8 ("machines" : Str) = some 32 ∧ methOf TBL 8 ("machines" : Str) = none ∧ propOf TBL 8 ("fed" : Str) = some 33 ∧ methOf TBL 8 ("fed" : Str) = none ∧ propOf TBL 8 ("worths" : Str) = some 34 ∧ methOf TBL 8 ("worths" : Str) = none ∧ propOf TBL 8 ("deeds" : Str) = some 35 ∧ methOf TBL 8 ("deeds" : Str) = none ∧ propOf TBL 8 ("depth" : Str) = some 36 ∧ methOf TBL 8 ("depth" : Str) = none ∧ propOf TBL 8 ("place" : Str) = none ∧ methOf TBL 8 ("place" : Str) = none ∧ propOf TBL 8 ("index" : Str) = none ∧ methOf TBL 8 ("index" : Str) = none ∧ propOf TBL 8 ("steps" : Str) = none ∧ methOf TBL 8 ("steps" : Str) = none ∧ propOf TBL 8 ("own_machines" : Str) = none ∧ methOf TBL 8 ("own_machines" : Str) = none ∧ propOf TBL 8 ("rows" : Str) = none ∧ methOf TBL 8 ("rows" : Str) = none ∧ propOf TBL 8 ("heard" : Str) = none ∧ methOf TBL 8 ("heard" : Str) = none ∧ propOf TBL 8 ("past" : Str) = none ∧ methOf TBL 8 ("past" : Str) = none ∧ propOf TBL 8 ("blocks" : Str) = none ∧ methOf TBL 8 ("blocks" : Str) = none := ⟨by decide +kernel, by decide +kernel, by decide +kernel, by decide +kernel, by decide +kernel, by decide +kernel, by decide +kernel, by decide +kernel, by decide +kernel, by decide +kernel, by decide +kernel, by decide +kernel, by decide +kernel, by decide +kernel, by decide +kernel, by decide +kernel, by decide +kernel, by decide +kernel, by decide +kernel, by decide +kernel, by decide +kernel, by decide +kernel, by decide +kernel, by decide +kernel, by decide +kernel, by decide +kernel, by decide +kernel, by decide +kernel, by decide +kernel, by decide +kernel, by decide +kernel, by decide +kernel, by decide +kernel, by decide +kernel, by decide +kernel, by decide +kernel, by decide +kernel, by decide +kernel, by decide +kernel, by decide +kernel, by decide +kernel, by decide +kernel, by decide +kernel, by decide +kernel, by decide +kernel, by decide +kernel, by decide +kernel, by decide +kernel, by decide +kernel, by decide +kernel, by decide +kernel, by decide +kernel, by decide +kernel, by decide +kernel, by decide +kernel, by decide +kernel, by decide +kernel, by decide +kernel, by decide +kernel, by decide +kernel, by decide +kernel, by decide +kernel, by decide +kernel, by decide +kernel, by decide +kernel, by decide +kernel, by decide +kernel, by decide +kernel, by decide +kernel, by decide +kernel, by decide +kernel, by decide +kernel, by decide +kernel, by decide +kernel, by decide +kernel, by decide +kernel, by decide +kernel, by decide +kernel, by decide +kernel, by decide +kernel, by decide +kernel, by decide +kernel, by decide +kernel, by decide +kernel, by decide +kernel, by decide +kernel, by decide +kernel, by decide +kernel, by decide +kernel, by decide +kernel⟩
theorem flds_all : TBL.flds.contains ("place" : Str) = true ∧ TBL.flds.contains ("index" : Str) = true ∧ TBL.flds.contains ("steps" : Str) = true ∧ TBL.flds.contains ("own_machines" : Str) = true ∧ TBL.flds.contains ("rows" : Str) = true ∧ TBL.flds.contains ("heard" : Str) = true ∧ TBL.flds.contains ("past" : Str) = true ∧ TBL.flds.contains ("blocks" : Str) = true := by decide +kernel
end H91

set_option Elab.async false
set_option linter.all false
set_option maxRecDepth 100000
/-! the names of fields and methods are not alike. -/
namespace H91
open Pl PySem
theorem keys_ne : (("own_machines" : Str) = "rows") = False ∧ (("own_machines" : Str) = "heard") = False ∧ (("own_machines" : Str) = "past") = False ∧ (("own_machines" : Str) = "blocks") = False ∧ (("own_machines" : Str) = "steps") = False ∧ (("rows" : Str) = "own_machines") = False ∧ (("rows" : Str) = "heard") = False ∧ (("rows" : Str) = "past") = False ∧ (("rows" : Str) = "blocks") = False ∧ (("rows" : Str) = "steps") = False ∧ (("heard" : Str) = "own_machines") = False ∧ (("heard" : Str) = "rows") = False ∧ (("heard" : Str) = "past") = False ∧ (("heard" : Str) = "blocks") = False ∧ (("heard" : Str) = "steps") = False ∧ (("past" : Str) = "own_machines") = False ∧ (("past" : Str) = "rows") = False ∧ (("past" : Str) = "heard") = False ∧ (("past" : Str) = "blocks") = False ∧ (("past" : Str) = "steps") = False ∧ (("blocks" : Str) = "own_machines") = False ∧ (("blocks" : Str) = "rows") = False ∧ (("blocks" : Str) = "heard") = False ∧ (("blocks" : Str) = "past") = False ∧ (("blocks" : Str) = "steps") = False ∧ (("steps" : Str) = "own_machines") = False ∧ (("steps" : Str) = "rows") = False ∧ (("steps" : Str) = "heard") = False ∧ (("steps" : Str) = "past") = False ∧ (("steps" : Str) = "blocks") = False ∧ (("move" : Str) = "own_machines") = False ∧ (("move" : Str) = "rows") = False ∧ (("move" : Str) = "heard") = False ∧ (("move" : Str) = "past") = False ∧ (("move" : Str) = "blocks") = False ∧ (("move" : Str) = "steps") = False ∧ (("along" : Str) = "own_machines") = False ∧ (("along" : Str) = "rows") = False ∧ (("along" : Str) = "heard") = False ∧ (("along" : Str) = "past") = False ∧ (("along" : Str) = "blocks") = False ∧ (("along" : Str) = "steps") = False ∧ (("note" : Str) = "own_machines") = False ∧ (("note" : Str) = "rows") = False ∧ (("note" : Str) = "heard") = False ∧ (("note" : Str) = "past") = False ∧ (("note" : Str) = "blocks") = False ∧ (("note" : Str) = "steps") = False ∧ (("moved" : Str) = "own_machines") = False ∧ (("moved" : Str) = "rows") = False ∧ (("moved" : Str) = "heard") = False ∧ (("moved" : Str) = "past") = False ∧ (("moved" : Str) = "blocks") = False ∧ (("moved" : Str) = "steps") = False ∧ (("go" : Str) = "own_machines") = False ∧ (("go" : Str) = "rows") = False ∧ (("go" : Str) = "heard") = False ∧ (("go" : Str) = "past") = False ∧ (("go" : Str) = "blocks") = False ∧ (("go" : Str) = "steps") = False ∧ (("feed" : Str) = "own_machines") = False ∧ (("feed" : Str) = "rows") = False ∧ (("feed" : Str) = "heard") = False ∧ (("feed" : Str) = "past") = False ∧ (("feed" : Str) = "blocks") = False ∧ (("feed" : Str) = "steps") = False ∧ (("feed_all" : Str) = "own_machines") = False ∧ (("feed_all" : Str) = "rows") = False ∧ (("feed_all" : Str) = "heard") = False ∧ (("feed_all" : Str) = "past") = False ∧ (("feed_all" : Str) = "blocks") = False ∧ (("feed_all" : Str) = "steps") = False ∧ (("check_index" : Str) = "own_machines") = False ∧ (("check_index" : Str) = "rows") = False ∧ (("check_index" : Str) = "heard") = False ∧ (("check_index" : Str) = "past") = False ∧ (("check_index" : Str) = "blocks") = False ∧ (("check_index" : Str) = "steps") = False ∧ (("exchange" : Str) = "own_machines") = False ∧ (("exchange" : Str) = "rows") = False ∧ (("exchange" : Str) = "heard") = False ∧ (("exchange" : Str) = "past") = False ∧ (("exchange" : Str) = "blocks") = False ∧ (("exchange" : Str) = "steps") = False ∧ (("back" : Str) = "own_machines") = False ∧ (("back" : Str) = "rows") = False ∧ (("back" : Str) = "heard") = False ∧ (("back" : Str) = "past") = False ∧ (("back" : Str) = "blocks") = False ∧ (("back" : Str) = "steps") = False ∧ (("undo" : Str) = "own_machines") = False ∧ (("undo" : Str) = "rows") = False ∧ (("undo" : Str) = "heard") = False ∧ (("undo" : Str) = "past") = False ∧ (("undo" : Str) = "blocks") = False ∧ (("undo" : Str) = "steps") = False ∧ (("begin" : Str) = "own_machines") = False ∧ (("begin" : Str) = "rows") = False ∧ (("begin" : Str) = "heard") = False ∧ (("begin" : Str) = "past") = False ∧ (("begin" : Str) = "blocks") = False ∧ (("begin" : Str) = "steps") = False ∧ (("need_block" : Str) = "own_machines") = False ∧ (("need_block" : Str) = "rows") = False ∧ (("need_block" : Str) = "heard") = False ∧ (("need_block" : Str) = "past") = False ∧ (("need_block" : Str) = "blocks") = False ∧ (("need_block" : Str) = "steps") = False ∧ (("keep" : Str) = "own_machines") = False ∧ (("keep" : Str) = "rows") = False ∧ (("keep" : Str) = "heard") = False ∧ (("keep" : Str) = "past") = False ∧ (("keep" : Str) = "blocks") = False ∧ (("keep" : Str) = "steps") = False ∧ (("drop" : Str) = "own_machines") = False ∧ (("drop" : Str) = "rows") = False ∧ (("drop" : Str) = "heard") = False ∧ (("drop" : Str) = "past") = False ∧ (("drop" : Str) = "blocks") = False ∧ (("drop" : Str) = "steps") = False ∧ (("twin" : Str) = "own_machines") = False ∧ (("twin" : Str) = "rows") = False ∧ (("twin" : Str) = "heard") = False ∧ (("twin" : Str) = "past") = False ∧ (("twin" : Str) = "blocks") = False ∧ (("twin" : Str) = "steps") = False ∧ (("machines" : Str) = "own_machines") = False ∧ (("machines" : Str) = "rows") = False ∧ (("machines" : Str) = "heard") = False ∧ (("machines" : Str) = "past") = False ∧ (("machines" : Str) = "blocks") = False ∧ (("machines" : Str) = "steps") = False ∧ (("fed" : Str) = "own_machines") = False ∧ (("fed" : Str) = "rows") = False ∧ (("fed" : Str) = "heard") = False ∧ (("fed" : Str) = "past") = False ∧ (("fed" : Str) = "blocks") = False ∧ (("fed" : Str) = "steps") = False ∧ (("worths" : Str) = "own_machines") = False ∧ (("worths" : Str) = "rows") = False ∧ (("worths" : Str) = "heard") = False ∧ (("worths" : Str) = "past") = False ∧ (("worths" : Str) = "blocks") = False ∧ (("worths" : Str) = "steps") = False ∧ (("deeds" : Str) = "own_machines") = False ∧ (("deeds" : Str) = "rows") = False ∧ (("deeds" : Str) = "heard") = False ∧ (("deeds" : Str) = "past") = False ∧ (("deeds" : Str) = "blocks") = False ∧ (("deeds" : Str) = "steps") = False ∧ (("depth" : Str) = "own_machines") = False ∧ (("depth" : Str) = "rows") = False ∧ (("depth" : Str) = "heard") = False ∧ (("depth" : Str) = "past") = False ∧ (("depth" : Str) = "blocks") = False ∧ (("depth" : Str) = "steps") = False := by
  refine ⟨?_, ?_, ?_, ?_, ?_, ?_, ?_, ?_, ?_, ?_, ?_, ?_, ?_, ?_, ?_, ?_, ?_, ?_, ?_, ?_, ?_, ?_, ?_, ?_, ?_, ?_, ?_, ?_, ?_, ?_, ?_, ?_, ?_, ?_, ?_, ?_, ?_, ?_, ?_, ?_, ?_, ?_, ?_, ?_, ?_, ?_, ?_, ?_, ?_, ?_, ?_, ?_, ?_, ?_, ?_, ?_, ?_, ?_, ?_, ?_, ?_, ?_, ?_, ?_, ?_, ?_, ?_, ?_, ?_, ?_, ?_, ?_, ?_, ?_, ?_, ?_, ?_, ?_, ?_, ?_, ?_, ?_, ?_, ?_, ?_, ?_, ?_, ?_, ?_, ?_, ?_, ?_, ?_, ?_, ?_, ?_, ?_, ?_, ?_, ?_, ?_, ?_, ?_, ?_, ?_, ?_, ?_, ?_, ?_, ?_, ?_, ?_, ?_, ?_, ?_, ?_, ?_, ?_, ?_, ?_, ?_, ?_, ?_, ?_, ?_, ?_, ?_, ?_, ?_, ?_, ?_, ?_, ?_, ?_, ?_, ?_, ?_, ?_, ?_, ?_, ?_, ?_, ?_, ?_, ?_, ?_, ?_, ?_, ?_, ?_, ?_, ?_, ?_, ?_, ?_, ?_⟩ <;> exact eq_false (by decide +kernel)
theorem keys_bne : (("own_machines" : Str) == "rows") = false ∧ (("own_machines" : Str) == "heard") = false ∧ (("own_machines" : Str) == "past") = false ∧ (("own_machines" : Str) == "blocks") = false ∧ (("own_machines" : Str) == "steps") = false ∧ (("rows" : Str) == "own_machines") = false ∧ (("rows" : Str) == "heard") = false ∧ (("rows" : Str) == "past") = false ∧ (("rows" : Str) == "blocks") = false ∧ (("rows" : Str) == "steps") = false ∧ (("heard" : Str) == "own_machines") = false ∧ (("heard" : Str) == "rows") = false ∧ (("heard" : Str) == "past") = false ∧ (("heard" : Str) == "blocks") = false ∧ (("heard" : Str) == "steps") = false ∧ (("past" : Str) == "own_machines") = false ∧ (("past" : Str) == "rows") = false ∧ (("past" : Str) == "heard") = false ∧ (("past" : Str) == "blocks") = false ∧ (("past" : Str) == "steps") = false ∧ (("blocks" : Str) == "own_machines") = false ∧ (("blocks" : Str) == "rows") = false ∧ (("blocks" : Str) == "heard") = false ∧ (("blocks" : Str) == "past") = false ∧ (("blocks" : Str) == "steps") = false ∧ (("steps" : Str) == "own_machines") = false ∧ (("steps" : Str) == "rows") = false ∧ (("steps" : Str) == "heard") = false ∧ (("steps" : Str) == "past") = false ∧ (("steps" : Str) == "blocks") = false ∧ (("move" : Str) == "own_machines") = false ∧ (("move" : Str) == "rows") = false ∧ (("move" : Str) == "heard") = false ∧ (("move" : Str) == "past") = false ∧ (("move" : Str) == "blocks") = false ∧ (("move" : Str) == "steps") = false ∧ (("along" : Str) == "own_machines") = false ∧ (("along" : Str) == "rows") = false ∧ (("along" : Str) == "heard") = false ∧ (("along" : Str) == "past") = false ∧ (("along" : Str) == "blocks") = false ∧ (("along" : Str) == "steps") = false ∧ (("note" : Str) == "own_machines") = false ∧ (("note" : Str) == "rows") = false ∧ (("note" : Str) == "heard") = false ∧ (("note" : Str) == "past") = false ∧ (("note" : Str) == "blocks") = false ∧ (("note" : Str) == "steps") = false ∧ (("moved" : Str) == "own_machines") = false ∧ (("moved" : Str) == "rows") = false ∧ (("moved" : Str) == "heard") = false ∧ (("moved" : Str) == "past") = false ∧ (("moved" : Str) == "blocks") = false ∧ (("moved" : Str) == "steps") = false ∧ (("go" : Str) == "own_machines") = false ∧ (("go" : Str) == "rows") = false ∧ (("go" : Str) == "heard") = false ∧ (("go" : Str) == "past") = false ∧ (("go" : Str) == "blocks") = false ∧ (("go" : Str) == "steps") = false ∧ (("feed" : Str) == "own_machines") = false ∧ (("feed" : Str) == "rows") = false ∧ (("feed" : Str) == "heard") = false ∧ (("feed" : Str) == "past") = false ∧ (("feed" : Str) == "blocks") = false ∧ (("feed" : Str) == "steps") = false ∧ (("feed_all" : Str) == "own_machines") = false ∧ (("feed_all" : Str) == "rows") = false ∧ (("feed_all" : Str) == "heard") = false ∧ (("feed_all" : Str) == "past") = false ∧ (("feed_all" : Str) == "blocks") = false ∧ (("feed_all" : Str) == "steps") = false ∧ (("check_index" : Str) == "own_machines") = false ∧ (("check_index" : Str) == "rows") = false ∧ (("check_index" : Str) == "heard") = false ∧ (("check_index" : Str) == "past") = false ∧ (("check_index" : Str) == "blocks") = false ∧ (("check_index" : Str) == "steps") = false ∧ (("exchange" : Str) == "own_machines") = false ∧ (("exchange" : Str) == "rows") = false ∧ (("exchange" : Str) == "heard") = false ∧ (("exchange" : Str) == "past") = false ∧ (("exchange" : Str) == "blocks") = false ∧ (("exchange" : Str) == "steps") = false ∧ (("back" : Str) == "own_machines") = false ∧ (("back" : Str) == "rows") = false ∧ (("back" : Str) == "heard") = false ∧ (("back" : Str) == "past") = false ∧ (("back" : Str) == "blocks") = false ∧ (("back" : Str) == "steps") = false ∧ (("undo" : Str) == "own_machines") = false ∧ (("undo" : Str) == "rows") = false ∧ (("undo" : Str) == "heard") = false ∧ (("undo" : Str) == "past") = false ∧ (("undo" : Str) == "blocks") = false ∧ (("undo" : Str) == "steps") = false ∧ (("begin" : Str) == "own_machines") = false ∧ (("begin" : Str) == "rows") = false ∧ (("begin" : Str) == "heard") = false ∧ (("begin" : Str) == "past") = false ∧ (("begin" : Str) == "blocks") = false ∧ (("begin" : Str) == "steps") = false ∧ (("need_block" : Str) == "own_machines") = false ∧ (("need_block" : Str) == "rows") = false ∧ (("need_block" : Str) == "heard") = false ∧ (("need_block" : Str) == "past") = false ∧ (("need_block" : Str) == "blocks") = false ∧ (("need_block" : Str) == "steps") = false ∧ (("keep" : Str) == "own_machines") = false ∧ (("keep" : Str) == "rows") = false ∧ (("keep" : Str) == "heard") = false ∧ (("keep" : Str) == "past") = false ∧ (("keep" : Str) == "blocks") = false ∧ (("keep" : Str) == "steps") = false ∧ (("drop" : Str) == "own_machines") = false ∧ (("drop" : Str) == "rows") = false ∧ (("drop" : Str) == "heard") = false ∧ (("drop" : Str) == "past") = false ∧ (("drop" : Str) == "blocks") = false ∧ (("drop" : Str) == "steps") = false ∧ (("twin" : Str) == "own_machines") = false ∧ (("twin" : Str) == "rows") = false ∧ (("twin" : Str) == "heard") = false ∧ (("twin" : Str) == "past") = false ∧ (("twin" : Str) == "blocks") = false ∧ (("twin" : Str) == "steps") = false ∧ (("machines" : Str) == "own_machines") = false ∧ (("machines" : Str) == "rows") = false ∧ (("machines" : Str) == "heard") = false ∧ (("machines" : Str) == "past") = false ∧ (("machines" : Str) == "blocks") = false ∧ (("machines" : Str) == "steps") = false ∧ (("fed" : Str) == "own_machines") = false ∧ (("fed" : Str) == "rows") = false ∧ (("fed" : Str) == "heard") = false ∧ (("fed" : Str) == "past") = false ∧ (("fed" : Str) == "blocks") = false ∧ (("fed" : Str) == "steps") = false ∧ (("worths" : Str) == "own_machines") = false ∧ (("worths" : Str) == "rows") = false ∧ (("worths" : Str) == "heard") = false ∧ (("worths" : Str) == "past") = false ∧ (("worths" : Str) == "blocks") = false ∧ (("worths" : Str) == "steps") = false ∧ (("deeds" : Str) == "own_machines") = false ∧ (("deeds" : Str) == "rows") = false ∧ (("deeds" : Str) == "heard") = false ∧ (("deeds" : Str) == "past") = false ∧ (("deeds" : Str) == "blocks") = false ∧ (("deeds" : Str) == "steps") = false ∧ (("depth" : Str) == "own_machines") = false ∧ (("depth" : Str) == "rows") = false ∧ (("depth" : Str) == "heard") = false ∧ (("depth" : Str) == "past") = false ∧ (("depth" : Str) == "blocks") = false ∧ (("depth" : Str) == "steps") = false := by
  refine ⟨?_, ?_, ?_, ?_, ?_, ?_, ?_, ?_, ?_, ?_, ?_, ?_, ?_, ?_, ?_, ?_, ?_, ?_, ?_, ?_, ?_, ?_, ?_, ?_, ?_, ?_, ?_, ?_, ?_, ?_, ?_, ?_, ?_, ?_, ?_, ?_, ?_, ?_, ?_, ?_, ?_, ?_, ?_, ?_, ?_, ?_, ?_, ?_, ?_, ?_, ?_, ?_, ?_, ?_, ?_, ?_, ?_, ?_, ?_, ?_, ?_, ?_, ?_, ?_, ?_, ?_, ?_, ?_, ?_, ?_, ?_, ?_, ?_, ?_, ?_, ?_, ?_, ?_, ?_, ?_, ?_, ?_, ?_, ?_, ?_, ?_, ?_, ?_, ?_, ?_, ?_, ?_, ?_, ?_, ?_, ?_, ?_, ?_, ?_, ?_, ?_, ?_, ?_, ?_, ?_, ?_, ?_, ?_, ?_, ?_, ?_, ?_, ?_, ?_, ?_, ?_, ?_, ?_, ?_, ?_, ?_, ?_, ?_, ?_, ?_, ?_, ?_, ?_, ?_, ?_, ?_, ?_, ?_, ?_, ?_, ?_, ?_, ?_, ?_, ?_, ?_, ?_, ?_, ?_, ?_, ?_, ?_, ?_, ?_, ?_, ?_, ?_, ?_, ?_, ?_, ?_⟩ <;> decide +kernel
end H91

set_option Elab.async false
set_option linter.all false
set_option maxRecDepth 100000
set_option maxHeartbeats 4000000
/-! Q91: fractions, rows, matrices by the text's own functions. -/
namespace H91
open Pl PySem PyProof.Rows L2
/-- a fraction, a row, a matrix as data -/
def dQ (q : Rat) : D := .tup [.int q.num, .int q.den]
def dR (r : List Rat) : D := .tup (r.map dQ)
def dMx (m : List (List Rat)) : D := .tup (m.map dR)
section
variable {W : Nat}
theorem is_integer_int (k : Nat) (i : Int) (S : Store) : run TBL W (k + 1) 3 [.int i] S = .ok (.bl true) S := by
  rw [run_succ at_3 rfl]
  simp [b_is_integer, evCs, evC, evE, isiE, tyD, isTy, onBl, Out.bind]
theorem is_from_int (k : Nat) (l i : Int) (S : Store) : run TBL W (k + 2) 4 [.int l, .int i] S = .ok (.bl (decide (l ≤ i))) S := by
  rw [run_succ at_4 rfl]
  simp [b_is_from, evCs, evC, evE, evEs, bindK, ps_all, is_integer_int, cmpE, ordE, onBl, Out.bind]
theorem is_tuple_n (k : Nat) (n : Int) (ds : List D) (S : Store) : run TBL W (k + 1) 5 [.int n, .tup ds] S = .ok (.bl (decide ((ds.length : Int) = n))) S := by
  rw [run_succ at_5 rfl]
  simp [b_is_tuple, evCs, evC, evE, evEs, bltX, bltE, lenE, insD, seqD, isNon, isiE, tyD, isTy, cmpE, eqE, eqD, onBl, Out.bind]
theorem is_sign_int (k : Nat) (s i : Int) (S : Store) : run TBL W (k + 3) 6 [.int s, .int i] S = .ok (.bl (decide (0 ≤ i) && decide (i < s))) S := by
  rw [run_succ at_6 rfl]
  simp only [b_is_sign, evCs, evC, evE, evEs, bindK, ps_all, is_from_int, cmpE, ordE, onBl, Out.bind, List.map_cons, List.map_nil, List.length_cons, List.length_nil, List.nil_append, List.cons_append, List.getElem?_cons_zero, List.getElem?_cons_succ]
  by_cases h : (0 : Int) ≤ i <;> simp [h, Out.bind, is_from_int, evE, onBl]
theorem gcd_pos {q : Rat} : Nat.gcd q.num.natAbs q.den = 1 := q.reduced
theorem log2_le {a b k : Nat} (h : a ≤ b) (hb : b.log2 < k) : a.log2 < k := by
  by_cases ha : a = 0
  · subst ha
    have : Nat.log2 0 = 0 := by decide
    omega
  · exact (Nat.log2_lt ha).mpr (Nat.lt_of_le_of_lt h ((Nat.log2_lt (by omega)).mp hb))
/-- t / b in lowest terms -/
theorem lowest (k : Nat) (t b : Int) (hb : 0 < b) (hl : b.natAbs.log2 < 9000) (S : Store) : run TBL W (k + 1) 9 [.int t, .int b] S = .ok (dQ (Rat.divInt t b)) S := by
  have hg : (0 : Int) < (Nat.gcd t.natAbs b.natAbs : Nat) := by
    have : 0 < Nat.gcd t.natAbs b.natAbs := Nat.gcd_pos_of_pos_right _ (by omega)
    omega
  have hle : Nat.gcd t.natAbs b.natAbs ≤ b.natAbs := Nat.gcd_le_right _ (by omega)
  have hlg : (Nat.gcd t.natAbs b.natAbs).log2 < 9000 := log2_le hle hl
  have hlt : ¬ b < 0 := by omega
  have e1 : (Rat.divInt t b).num = t / (Nat.gcd t.natAbs b.natAbs : Nat) := by
    rw [Rat.num_divInt, Int.sign_eq_one_of_pos hb, Int.one_mul, Int.gcd_comm]
    rfl
  have e2 : ((Rat.divInt t b).den : Int) = b / (Nat.gcd t.natAbs b.natAbs : Nat) := by
    rw [Rat.den_divInt, if_neg (by omega), Int.gcd_comm]
    have : ((b.natAbs / Int.gcd t b : Nat) : Int) = (b.natAbs : Int) / (Int.gcd t b : Nat) := Int.natCast_ediv _ _
    rw [this]
    have : (b.natAbs : Int) = b := by omega
    rw [this]
    rfl
  have hb0 : ¬ b = 0 := by omega
  rw [run_succ at_9 rfl]
  simp [sizeLine_eq, hb0, b_lowest_in, evCs, evC, evE, evEs, asT, noExc, bltX, bltE, gcdE, cmpE, ordE, onBlS, Out.bind, Out.st, SOut.seq, binE, fdivE, hg, hlg, hlt, dQ, e1, e2]
theorem is_fraction_q (k : Nat) (q : Rat) (S : Store) : run TBL W (k + 3) 10 [dQ q] S = .ok (.bl true) S := by
  have hd : (1 : Int) ≤ q.den := by have := q.den_pos; omega
  have hg : Nat.gcd q.num.natAbs q.den = 1 := q.reduced
  rw [run_succ at_10 rfl]
  simp [b_is_fraction, dQ, evCs, evC, evE, evEs, bindK, ps_all, is_tuple_n, is_integer_int, is_from_int, idxE, seqD, atI, ixN, hd, bltX, bltE, gcdE, hg, cmpE, eqE, eqD, onBl, onBlS, Out.bind, Out.st, SOut.seq]
/-- a context -/
abbrev cxk (W k : Nat) : Pl.Ctx := ⟨TBL, run TBL W k, (run2 TBL W k).2.1, W, lamK TBL W (run2 TBL W k).2.2.1 (run2 TBL W k).2.2.2 k, lvK k⟩
theorem is_row_q (hW : 1000 < W) (k : Nat) (n : Int) (r : List Rat) (hn : (r.length : Int) = n) (hl : r.length ≤ 1000) (S : Store) : ∃ S', run TBL W (k + 4) 11 [.int n, dR r] S = .ok (.bl true) S' ∧ Ext S S' := by
  rw [run_succ at_11 rfl]
  have hz := sizeLine_eq
  obtain ⟨S2, L, x1, hL, e⟩ := comp_ev (cx := cxk W (k + 3)) (elt := .call 10 (.cons (.var 3) .nil) [] .nil) (own := [2, 3]) (t := .name 3) (it := .seq (.var 1)) (ρ := [some (.int n), some (dR r), none, none]) (S := S) (S1 := S) (iv := .sq (dR r)) (items := r.map dQ) (g := fun _ => .bl true)
    (by simp [evI, evE, dR, seqD, Out.bind]) (fun m T _ _ => next_sq (by rfl) m) (fun d hd T _ => by
      obtain ⟨q, _, rfl⟩ := List.mem_map.mp hd
      refine ⟨_, T, by rw [asT], ?_, Ext.refl _⟩
      simp [wipeD, evE, evEs, bindK, ps_all, is_fraction_q, Out.bind]) (by simp only [List.length_map]; show _ < W; omega) (by simp only [List.length_map]; omega)
  refine ⟨_, ?_, x1.snoc (.lst L)⟩
  have ha : blsD L = some ((r.map dQ).map fun _ => true) := by rw [hL]; exact blsD_map _ fun _ => true
  have hall : ((r.map dQ).map fun _ => true).all id = true := by simp
  unfold dR at e
  simp [b_is_row, ev_st, ev_all, ev_cst, ev_var, Out.bind, Out.st, SOut.seq, onBl_bl, dR, bindK, ps_all, is_tuple_n, hn]
  rw [e]
  simp [bltX_not, all_new ha, hall]
/-- a matrix of that size -/
theorem is_matrix_q (hW : 1000 < W) (k : Nat) (n : Int) (m : List (List Rat)) (hn : (m.length : Int) = n) (hr : ∀ r ∈ m, (r.length : Int) = n) (hl : m.length ≤ 1000) (S : Store) : ∃ S', run TBL W (k + 5) 12 [.int n, .int n, dMx m] S = .ok (.bl true) S' ∧ Ext S S' := by
  rw [run_succ at_12 rfl]
  have hz := sizeLine_eq
  obtain ⟨S2, L, x1, hL, e⟩ := comp_ev (cx := cxk W (k + 4)) (elt := .call 11 (.cons (.var 1) (.cons (.var 4) .nil)) [] .nil) (own := [3, 4]) (t := .name 4) (it := .seq (.var 2)) (ρ := [some (.int n), some (.int n), some (dMx m), none, none]) (S := S) (S1 := S) (iv := .sq (dMx m)) (items := m.map dR) (g := fun _ => .bl true)
    (by simp [evI, evE, dMx, seqD, Out.bind]) (fun m T _ _ => next_sq (by rfl) m) (fun d hd T _ => by
      obtain ⟨r, hrm, rfl⟩ := List.mem_map.mp hd
      have h1 := hr r hrm
      obtain ⟨S', e1, x⟩ := is_row_q hW k n r h1 (by omega) T
      refine ⟨_, S', by rw [asT], ?_, x⟩
      simp [wipeD, evE, evEs, bindK, ps_all, e1, Out.bind]) (by simp only [List.length_map]; show _ < W; omega) (by simp only [List.length_map]; omega)
  refine ⟨_, ?_, x1.snoc (.lst L)⟩
  have ha : blsD L = some ((m.map dR).map fun _ => true) := by rw [hL]; exact blsD_map _ fun _ => true
  have hall : ((m.map dR).map fun _ => true).all id = true := by simp
  unfold dMx at e
  simp [b_is_matrix, ev_st, ev_all, ev_cst, ev_var, Out.bind, Out.st, SOut.seq, onBl_bl, dMx, bindK, ps_all, is_tuple_n, hn]
  rw [e]
  simp [bltX_not, all_new ha, hall]
end
end H91

set_option Elab.async false
set_option linter.all false
set_option maxRecDepth 100000
set_option maxHeartbeats 4000000
/-! Q91b: whole numbers of a row, the dot product. -/
namespace H91
open Pl PySem PyProof.Rows L2
section
variable {W : Nat}
def bot (r : List Rat) : Nat := r.foldl (fun f q => Nat.lcm f q.den) 1
theorem fold_dvd {N : Nat} : ∀ (r : List Rat) (f : Nat), f ∣ N → (∀ q ∈ r, q.den ∣ N) → r.foldl (fun f q => Nat.lcm f q.den) f ∣ N
  | [], f, hf, _ => hf
  | q :: r, f, hf, h => fold_dvd r _ (Nat.lcm_dvd hf (h q List.mem_cons_self)) fun p hp => h p (List.mem_cons_of_mem _ hp)
theorem bot_dvd {N : Nat} {r : List Rat} (h : ∀ q ∈ r, q.den ∣ N) : bot r ∣ N := fold_dvd r 1 (Nat.one_dvd _) h
theorem fold_mem : ∀ (r : List Rat) (f : Nat), f ∣ r.foldl (fun f q => Nat.lcm f q.den) f ∧ ∀ q ∈ r, q.den ∣ r.foldl (fun f q => Nat.lcm f q.den) f
  | [], f => ⟨Nat.dvd_refl _, by simp⟩
  | q :: r, f => by
    obtain ⟨h1, h2⟩ := fold_mem r (Nat.lcm f q.den)
    refine ⟨Nat.dvd_trans (Nat.dvd_lcm_left _ _) h1, fun p hp => ?_⟩
    rcases List.mem_cons.mp hp with e | e
    · subst e; exact Nat.dvd_trans (Nat.dvd_lcm_right _ _) h1
    · exact h2 p e
theorem den_dvd_bot {r : List Rat} {q : Rat} (h : q ∈ r) : q.den ∣ bot r := (fold_mem r 1).2 q h
/-- the bits of what is reckoned with -/
structure Bits (N : Nat) : Prop where
  pos : 0 < N
  log : N.log2 < 4000
theorem Bits.le4 {N a : Nat} (b : Bits N) (h : a ∣ N) : a.log2 < 4000 := log2_le (Nat.le_of_dvd b.pos h) b.log
theorem Bits.le {N a : Nat} (b : Bits N) (h : a ∣ N) : a.log2 < 8000 := Nat.lt_trans (b.le4 h) (by decide)
theorem bottom_in_q (k : Nat) {N : Nat} (r : List Rat) (b : Bits N) (h : ∀ q ∈ r, q.den ∣ N) (hl : r.length < W) (d : D) (S : Store) (hd : seqD S d = some (r.map dQ)) : run TBL W (k + 1) 13 [d] S = .ok (.int (bot r)) S := by
  rw [run_succ at_13 rfl]
  obtain ⟨ρ', S', e, hS, a, c, hρ⟩ := for_ev (cx := cxk W k) (t := .tup (.cons (.name 2) (.cons (.name 3) .nil))) (it := .seq (.var 0)) (iv := .sq d) (items := r.map dQ) (ρ := [some d, some (.int 1), none, none]) (S := S) (S1 := S) (b := .cons (.asg (.name 1) (.bin .mul (.bin .fdiv (.var 1) (.blt .gcd (.cons (.var 1) (.cons (.var 3) .nil)))) (.var 3))) .nil)
    (fun n ρ S' => S' = S ∧ ∃ a c, ρ = [some d, some (.int (bot (r.take n))), a, c]) (by simp [evI, evE, hd, Out.bind]) (by simpa using hl) ⟨rfl, none, none, rfl⟩ (fun n ρ S' hn hI => by rw [hI.1]; exact next_sq hd n) (fun n x ρ S' hx hI => by
      obtain ⟨rfl, a, c, rfl⟩ := hI
      rw [List.getElem?_map] at hx
      cases hq : r[n]? with
      | none => rw [hq] at hx; cases hx
      | some q =>
        rw [hq] at hx
        cases hx
        have hq1 : q ∈ r := List.mem_of_getElem? hq
        have hd1 := h q hq1
        have hf : bot (r.take n) ∣ N := bot_dvd fun p hp => h p (List.mem_of_mem_take hp)
        have fpos : 0 < bot (r.take n) := Nat.pos_of_dvd_of_pos hf b.pos
        have hg : 0 < Nat.gcd (bot (r.take n)) q.den := Nat.gcd_pos_of_pos_left _ fpos
        have hgl : (Nat.gcd (bot (r.take n)) q.den).log2 < 9000 := by
          have := log2_le (Nat.gcd_le_left q.den fpos) (b.le hf)
          omega
        have e1 : bot (r.take (n + 1)) = Nat.lcm (bot (r.take n)) q.den := by
          unfold bot
          rw [List.take_succ, hq, List.foldl_append]
          rfl
        have e2 : ((bot (r.take n) : Int) / (Nat.gcd (bot (r.take n)) q.den : Nat)) * (q.den : Int) = (Nat.lcm (bot (r.take n)) q.den : Nat) := by
          have hdv := Nat.gcd_dvd_left (bot (r.take n)) q.den
          have : (bot (r.take n) : Int) / (Nat.gcd (bot (r.take n)) q.den : Nat) = ((bot (r.take n) / Nat.gcd (bot (r.take n)) q.den : Nat) : Int) := (Int.natCast_ediv _ _).symm
          rw [this]
          have : bot (r.take n) / Nat.gcd (bot (r.take n)) q.den * q.den = Nat.lcm (bot (r.take n)) q.den := by
            unfold Nat.lcm
            rw [Nat.div_mul_right_comm hdv]
          rw [← this]
          push_cast
          rfl
        have hm1 : ((bot (r.take n) : Int) / (Nat.gcd (bot (r.take n)) q.den : Nat)).natAbs.log2 < 8000 := by
          have : ((bot (r.take n) : Int) / (Nat.gcd (bot (r.take n)) q.den : Nat)).natAbs = bot (r.take n) / Nat.gcd (bot (r.take n)) q.den := by
            rw [← Int.natCast_ediv]; rfl
          rw [this]
          exact log2_le (Nat.div_le_self _ _) (b.le hf)
        have hm2 : q.den.log2 < 8000 := b.le hd1
        have hmul : ((bot (r.take n) : Int) / (Nat.gcd (bot (r.take n)) q.den : Nat)).natAbs.log2 + q.den.log2 < 1000000 := by omega
        refine ⟨[some d, some (.int (bot (r.take n))), some (.int q.num), some (.int q.den)], S', [some d, some (.int (bot (r.take (n + 1)))), some (.int q.num), some (.int q.den)], S', ?_, ?_, rfl, some (.int q.num), some (.int q.den), rfl⟩
        · simp [dQ, ev_st, seqD, Out.bind]
        simp only [dQ, ev_st, seqD, Out.bind, noExc, Out.st, List.set_cons_zero, List.set_cons_succ, SOut.seq, ev_all, ev_var, ev_cst, List.getElem?_cons_zero, List.getElem?_cons_succ, bltX_not (show Blt.gcd ≠ Blt.len by decide), bltE, gcdE, binE, fdivE, mulE, Int.natAbs_natCast]
        rw [if_pos ⟨by omega, hgl⟩]
        simp only
        rw [if_pos (.inl hmul), e2, e1])
  subst hS hρ
  rw [List.take_of_length_le (by simp)] at e
  simp only [b_bottom_in, ev_st, ev_all, ev_var, ev_cst, Out.bind, Out.st, SOut.seq, noExc, List.map_cons, List.map_nil, List.length_cons, List.length_nil, List.nil_append, List.cons_append, List.set_cons_zero, List.set_cons_succ, List.getElem?_cons_zero, List.getElem?_cons_succ, List.replicate]
  rw [e]
  rfl
/-- q as a whole number over B -/
def nz (B : Nat) (q : Rat) : Int := q.num * ((B / q.den : Nat) : Int)
theorem whole_in_q (k : Nat) {N : Nat} (r : List Rat) (b : Bits N) (h : ∀ q ∈ r, q.den ∣ N) (hq : ∀ q ∈ r, q.num.natAbs.log2 < 8000) (hl : r.length < W) (hz : r.length ≤ 1000) (d : D) (S : Store) (hd : seqD S d = some (r.map dQ)) :
    ∃ S2, Ext S S2 ∧ run TBL W (k + 2) 14 [d] S = .ok (.tup [.ref S2.length, .int (bot r)]) (S2 ++ [.lst (r.map fun q => .int (nz (bot r) q))]) := by
  rw [run_succ at_14 rfl]
  have hsz := sizeLine_eq
  have hB : bot r ∣ N := bot_dvd h
  obtain ⟨S2, L, x1, hL, e⟩ := comp_ev (cx := cxk W (k + 1)) (elt := .bin .mul (.var 3) (.bin .fdiv (.var 1) (.var 4))) (own := [2, 3, 4]) (t := .tup (.cons (.name 3) (.cons (.name 4) .nil))) (it := .seq (.var 0)) (ρ := [some d, some (.int (bot r)), none, none, none]) (S := S) (S1 := S) (iv := .sq d) (items := r.map dQ)
    (g := fun x => match x with
      | .tup [.int a, .int c] => .int (a * ((bot r : Int) / c))
      | _ => .non)
    (by simp [evI, evE, hd, Out.bind]) (fun m T x _ => next_sq (x.seqD hd) m) (fun y hy T x => by
      obtain ⟨q, hqm, rfl⟩ := List.mem_map.mp hy
      have dp := q.den_pos
      have hd1 := h q hqm
      have hdl : q.den.log2 < 9000 := by have := b.le hd1; omega
      have e1 : ((bot r : Int) / (q.den : Int)).natAbs = bot r / q.den := by rw [← Int.natCast_ediv]; rfl
      have hm : q.num.natAbs.log2 + ((bot r : Int) / (q.den : Int)).natAbs.log2 < 1000000 := by
        rw [e1]
        have h1 := hq q hqm
        have h2 := log2_le (Nat.div_le_self (bot r) q.den) (b.le hB)
        omega
      refine ⟨[some d, some (.int (bot r)), none, some (.int q.num), some (.int q.den)], T, ?_, ?_, Ext.refl _⟩
      · simp [dQ, wipeD, ev_st, seqD, Out.bind]
      · simp only [dQ, Out.bind, ev_all, ev_var, ev_cst, List.getElem?_cons_zero, List.getElem?_cons_succ, binE, fdivE, mulE, Int.natAbs_natCast]
        rw [if_pos ⟨by omega, hdl⟩]
        simp only
        rw [if_pos (.inl hm)]) (by simp only [List.length_map]; exact hl) (by simp only [List.length_map]; omega)
  have hL2 : L = r.map fun q => .int (nz (bot r) q) := by
    rw [hL, List.map_map]
    refine List.map_congr_left fun q hq => ?_
    show D.int (q.num * ((bot r : Int) / (q.den : Int))) = _
    unfold nz
    rw [Int.natCast_ediv]
  refine ⟨S2, x1, ?_⟩
  rw [← hL2]
  simp [b_whole_in, ev_st, ev_all, ev_cst, ev_var, Out.bind, Out.st, SOut.seq, noExc, bindK, ps_all, bottom_in_q k r b h hl d S hd]
  rw [e]
  simp [hsz]
theorem nz_rat {B : Nat} {q : Rat} (h : q.den ∣ B) : ((nz B q : Int) : Rat) = q * (B : Nat) := by
  obtain ⟨c, rfl⟩ := h
  unfold nz
  rw [Nat.mul_div_cancel_left _ q.den_pos]
  have h1 : (q.num : Rat) = q * (q.den : Nat) := by
    have h2 := Rat.num_divInt_den q
    have h3 : (Rat.divInt q.num q.den) = (q.num : Rat) / ((q.den : Int) : Rat) := Rat.divInt_eq_div _ _
    rw [h2] at h3
    have h4 : ((q.den : Int) : Rat) ≠ 0 := by
      have := q.den_pos
      intro z
      have : (q.den : Int) = 0 := by exact_mod_cast z
      omega
    have h5 : ((q.den : Int) : Rat) = ((q.den : Nat) : Rat) := by norm_cast
    rw [h5] at h3 h4
    grind
  push_cast
  rw [h1]
  grind
theorem told_in_q (k : Nat) (ns : List Int) (c : Int) (hc : 0 < c) (hl2 : c.natAbs.log2 < 9000) (hl : ns.length < W) (hz : ns.length ≤ 1000) (d : D) (S : Store) (hd : seqD S d = some (ns.map D.int)) :
    ∃ S', Ext S S' ∧ run TBL W (k + 2) 15 [d, .int c] S = .ok (dR (ns.map fun n => Rat.divInt n c)) S' := by
  rw [run_succ at_15 rfl]
  have hsz := sizeLine_eq
  obtain ⟨S2, L, x1, hL, e⟩ := comp_ev (cx := cxk W (k + 1)) (elt := .call 9 (.cons (.var 3) (.cons (.var 1) .nil)) [] .nil) (own := [2, 3]) (t := .name 3) (it := .seq (.var 0)) (ρ := [some d, some (.int c), none, none]) (S := S) (S1 := S) (iv := .sq d) (items := ns.map D.int)
    (g := fun x => match x with
      | .int a => dQ (Rat.divInt a c)
      | _ => .non)
    (by simp [evI, evE, hd, Out.bind]) (fun m T x _ => next_sq (x.seqD hd) m) (fun y hy T x => by
      obtain ⟨q, hqm, rfl⟩ := List.mem_map.mp hy
      refine ⟨_, T, by rw [asT], ?_, Ext.refl _⟩
      simp [wipeD, evE, evEs, bindK, ps_all, lowest k q c hc hl2, Out.bind]) (by simp only [List.length_map]; exact hl) (by simp only [List.length_map]; omega)
  have hL2 : L = (ns.map fun n => Rat.divInt n c).map dQ := by
    rw [hL, List.map_map, List.map_map]
    rfl
  refine ⟨_, x1.snoc (.lst L), ?_⟩
  simp [b_told_in, ev_st, ev_all, ev_cst, ev_var, Out.bind, Out.st, SOut.seq]
  rw [e]
  simp [bltX_not, tuple_new, dR, hL2]
end
end H91

set_option Elab.async false
set_option linter.all false
set_option maxRecDepth 100000
set_option maxHeartbeats 4000000
/-! Q91c: the dot product. -/
namespace H91
open Pl PySem PyProof.Rows L2
section
variable {W : Nat}
theorem log2_mul_le (a b : Nat) : (a * b).log2 ≤ a.log2 + b.log2 + 1 := by
  by_cases ha : a = 0
  · subst ha; simp
  by_cases hb : b = 0
  · subst hb; simp
  have h1 : a < 2 ^ (a.log2 + 1) := Nat.lt_log2_self
  have h2 : b < 2 ^ (b.log2 + 1) := Nat.lt_log2_self
  have h3 : a * b < 2 ^ (a.log2 + 1 + (b.log2 + 1)) := by
    rw [Nat.pow_add]
    exact Nat.mul_lt_mul'' h1 h2
  have := (Nat.log2_lt (Nat.mul_ne_zero ha hb)).mpr h3
  omega
theorem nz_log {N : Nat} (b : Bits N) {B : Nat} (hB : B ∣ N) {q : Rat} (hq : q.num.natAbs.log2 < 8000) : (nz B q).natAbs.log2 < 13000 := by
  have e : (nz B q).natAbs = q.num.natAbs * (B / q.den) := by
    unfold nz
    rw [Int.natAbs_mul]
    rfl
  rw [e]
  have h1 := log2_mul_le q.num.natAbs (B / q.den)
  have h2 := log2_le (Nat.div_le_self B q.den) (b.le4 hB)
  omega
theorem sum_nz {B C : Nat} : ∀ (a c : List Rat), (∀ q ∈ a, q.den ∣ B) → (∀ q ∈ c, q.den ∣ C) → (((List.zipWith (fun x y => nz B x * nz C y) a c).sum : Int) : Rat) = dotQ a c * (B : Nat) * (C : Nat)
  | [], c, _, _ => by simp [dotQ]
  | _ :: _, [], _, _ => by simp [dotQ]
  | x :: a, y :: c, h1, h2 => by
    have ih := sum_nz a c (fun q hq => h1 q (List.mem_cons_of_mem _ hq)) (fun q hq => h2 q (List.mem_cons_of_mem _ hq))
    have e1 := nz_rat (h1 x List.mem_cons_self)
    have e2 := nz_rat (h2 y List.mem_cons_self)
    unfold dotQ at ih ⊢
    simp only [List.zipWith_cons_cons, List.sum_cons]
    push_cast
    rw [ih, e1, e2]
    grind
theorem dot_div {B C : Nat} (hB : 0 < B) (hC : 0 < C) (a c : List Rat) (h1 : ∀ q ∈ a, q.den ∣ B) (h2 : ∀ q ∈ c, q.den ∣ C) : Rat.divInt (List.zipWith (fun x y => nz B x * nz C y) a c).sum ((B : Int) * (C : Int)) = dotQ a c := by
  rw [Rat.divInt_eq_div, sum_nz a c h1 h2]
  push_cast
  have hb : ((B : Nat) : Rat) ≠ 0 := by
    intro z
    have : B = 0 := by exact_mod_cast z
    omega
  have hc : ((C : Nat) : Rat) ≠ 0 := by
    intro z
    have : C = 0 := by exact_mod_cast z
    omega
  grind
theorem zip_items (B C : Nat) : ∀ a c : List Rat, ((((a.map fun q => D.int (nz B q)).zip (c.map fun q => D.int (nz C q))).map fun p => D.tup [p.1, p.2]).map fun x => match x with
      | .tup [.int u, .int v] => D.int (u * v)
      | _ => .non) = (List.zipWith (fun x y => nz B x * nz C y) a c).map D.int
  | [], c => by simp
  | _ :: _, [] => by simp
  | x :: a, y :: c => by
    have ih := zip_items B C a c
    simp only [List.map_cons, List.zip_cons_cons, List.zipWith_cons_cons]
    rw [ih]
theorem dot_in_q (k : Nat) {N : Nat} (a c : List Rat) (b : Bits N) (ha : ∀ q ∈ a, q.den ∣ N) (hc : ∀ q ∈ c, q.den ∣ N) (hqa : ∀ q ∈ a, q.num.natAbs.log2 < 8000) (hqc : ∀ q ∈ c, q.num.natAbs.log2 < 8000) (hla : a.length ≤ 1000) (hlc : c.length ≤ 1000) (hW : 1000 < W) (S : Store) :
    ∃ S', Ext S S' ∧ run TBL W (k + 3) 20 [dR a, dR c] S = .ok (dQ (dotQ a c)) S' := by
  rw [run_succ at_20 rfl]
  have hsz := sizeLine_eq
  obtain ⟨S2, x1, e1⟩ := whole_in_q (W := W) k a b ha hqa (by omega) hla (dR a) S rfl
  generalize hLa : (a.map fun q => D.int (nz (bot a) q)) = La at e1
  obtain ⟨S3, x2, e2⟩ := whole_in_q (W := W) k c b hc hqc (by omega) hlc (dR c) (S2 ++ [.lst La]) rfl
  generalize hLc : (c.map fun q => D.int (nz (bot c) q)) = Lc at e2
  have g1 : seqD (S3 ++ [.lst Lc]) (.ref S2.length) = some La := (x2.snoc (.lst Lc)).seqD seqD_new
  have g2 : seqD (S3 ++ [.lst Lc]) (.ref S3.length) = some Lc := seqD_new
  obtain ⟨S4, L, x3, hL, e3⟩ := comp_ev (cx := cxk W (k + 2)) (elt := .bin .mul (.var 7) (.var 8)) (own := [6, 7, 8]) (t := .tup (.cons (.name 7) (.cons (.name 8) .nil))) (it := .zip (.var 2) (.var 4)) (ρ := [some (dR a), some (dR c), some (.ref S2.length), some (.int (bot a)), some (.ref S3.length), some (.int (bot c)), none, none, none]) (S := S3 ++ [.lst Lc]) (S1 := S3 ++ [.lst Lc]) (iv := .zp (.ref S2.length) (.ref S3.length)) (items := (La.zip Lc).map fun p => D.tup [p.1, p.2])
    (g := fun x => match x with
      | .tup [.int u, .int v] => .int (u * v)
      | _ => .non)
    (by simp [evI, evE, g1, g2, Out.bind]) (fun m T x hm => next_zp (x.seqD g1) (x.seqD g2) (by simpa using hm)) (fun y hy T x => by
      obtain ⟨p, hp, rfl⟩ := List.mem_map.mp hy
      obtain ⟨p1, p2⟩ := p
      have hp' := List.of_mem_zip hp
      rw [← hLa, ← hLc] at hp'
      obtain ⟨u, hu, rfl⟩ := List.mem_map.mp hp'.1
      obtain ⟨v, hv, rfl⟩ := List.mem_map.mp hp'.2
      have m1 := nz_log b (bot_dvd ha) (hqa u hu)
      have m2 := nz_log b (bot_dvd hc) (hqc v hv)
      refine ⟨[some (dR a), some (dR c), some (.ref S2.length), some (.int (bot a)), some (.ref S3.length), some (.int (bot c)), none, some (.int (nz (bot a) u)), some (.int (nz (bot c) v))], T, ?_, ?_, Ext.refl _⟩
      · simp [wipeD, ev_st, seqD, Out.bind]
      · simp only [Out.bind, ev_all, ev_var, ev_cst, List.getElem?_cons_zero, List.getElem?_cons_succ, binE, mulE]
        rw [if_pos (.inl (by omega))]) (by
      have : (La.zip Lc).length ≤ La.length := by rw [List.length_zip]; omega
      simp only [List.length_map]
      have h2 : La.length = a.length := by rw [← hLa, List.length_map]
      show _ < W
      omega) (by
      have : (La.zip Lc).length ≤ La.length := by rw [List.length_zip]; omega
      simp only [List.length_map]
      have h2 : La.length = a.length := by rw [← hLa, List.length_map]
      omega)
  have hL2 : L = (List.zipWith (fun x y => nz (bot a) x * nz (bot c) y) a c).map D.int := by
    rw [hL, ← hLa, ← hLc]
    exact zip_items (bot a) (bot c) a c
  have hi : intsD L = some (List.zipWith (fun x y => nz (bot a) x * nz (bot c) y) a c) := by
    rw [hL2]
    have := intsD_map (List.zipWith (fun x y => nz (bot a) x * nz (bot c) y) a c) id
    simpa using this
  have pa : 0 < bot a := Nat.pos_of_dvd_of_pos (bot_dvd ha) b.pos
  have pc : 0 < bot c := Nat.pos_of_dvd_of_pos (bot_dvd hc) b.pos
  have la := b.le4 (bot_dvd ha)
  have lc := b.le4 (bot_dvd hc)
  have hpos : (0 : Int) < (bot a : Int) * (bot c : Int) := Int.mul_pos (by omega) (by omega)
  have hlog : ((bot a : Int) * (bot c : Int)).natAbs.log2 < 9000 := by
    rw [Int.natAbs_mul]
    have := log2_mul_le (bot a) (bot c)
    simp only [Int.natAbs_natCast]
    omega
  have hmul : (bot a).log2 + (bot c).log2 < 1000000 := by omega
  refine ⟨_, (x1.snoc (.lst La)).trans ((x2.snoc (.lst Lc)).trans (x3.snoc (.lst L))), ?_⟩
  have e4 := lowest (W := W) (k + 1) (List.zipWith (fun x y => nz (bot a) x * nz (bot c) y) a c).sum ((bot a : Int) * (bot c : Int)) hpos hlog (S4 ++ [.lst L])
  rw [dot_div pa pc a c (fun q hq => den_dvd_bot hq) (fun q hq => den_dvd_bot hq)] at e4
  simp [b_dot_in, ev_st, ev_all, ev_cst, ev_var, Out.bind, Out.st, SOut.seq, noExc, bindK, ps_all]
  rw [e1]
  simp [ev_st, seqD, Out.bind]
  rw [e2]
  simp [ev_st, seqD, Out.bind]
  rw [e3]
  simp [bltX_not, sum_new hi, binE, mulE, hmul]
  rw [e4]
end
end H91

set_option Elab.async false
set_option linter.all false
set_option maxRecDepth 100000
set_option maxHeartbeats 4000000
/-! Q91d: whole numbers of a matrix. -/
namespace H91
open Pl PySem PyProof.Rows L2
theorem set_mid {A T : Store} {x y : O} : (A ++ [x] ++ T).set A.length y = A ++ [y] ++ T := by
  rw [List.append_assoc, List.set_append_right _ _ (Nat.le_refl _), Nat.sub_self]
  simp
theorem get_mid {A T : Store} {x : O} : (A ++ [x] ++ T)[A.length]? = some x := by
  rw [List.append_assoc, List.getElem?_append_right (Nat.le_refl _), Nat.sub_self]
  rfl
theorem get_past {A T U : Store} {x y o : O} {p : Nat} (h : A.length < p) (e : (A ++ [x] ++ T)[p]? = some o) : (A ++ [y] ++ (T ++ U))[p]? = some o := by
  rw [List.getElem?_append_right (by simp; omega)] at e ⊢
  simp only [List.length_append, List.length_cons, List.length_nil] at e ⊢
  rw [List.getElem?_append_left (List.getElem?_eq_some_iff.mp e).1]
  exact e
theorem get_last {A T : Store} {x y z : O} : (A ++ [y] ++ (T ++ [z]))[(A ++ [x] ++ T).length]? = some z := by
  have e : (A ++ [x] ++ T).length = (A ++ [y] ++ T).length := by simp
  rw [e, ← List.append_assoc, List.getElem?_append_right (Nat.le_refl _), Nat.sub_self]
  rfl
theorem sIx_in {n d : Nat} {i : Nat} (h : i ≤ n) : HT.sIx n d (some (i : Int)) = i := by
  unfold HT.sIx
  simp only
  split <;> first | omega | (split <;> omega)
theorem cut_in {ds : List D} {a b : Nat} (h : a + b ≤ ds.length) : Pl.cutD ds (some (a : Int)) (some ((a : Int) + (b : Int))) = (ds.drop a).take b := by
  unfold Pl.cutD
  have e : ((a : Int) + (b : Int)) = ((a + b : Nat) : Int) := by omega
  rw [e, sIx_in h, sIx_in (show a ≤ ds.length by omega)]
  congr 1
  omega
section
variable {W : Nat}
theorem whole_matrix_q (k : Nat) {N : Nat} (m : List (List Rat)) (b : Bits N) (h : ∀ r ∈ m, ∀ q ∈ r, q.den ∣ N) (hq : ∀ r ∈ m, ∀ q ∈ r, q.num.natAbs.log2 < 8000) (hl : m.length ≤ 1000) (hl2 : m.flatten.length ≤ 1000) (hW : 1000 < W) (S : Store) :
    ∃ (S' : Store) (j : Nat) (refs : List Nat), Ext S S' ∧ run TBL W (k + 3) 16 [dMx m] S = .ok (.tup [.ref j, .int (bot m.flatten)]) S' ∧ seqD S' (.ref j) = some (refs.map D.ref) ∧ refs.length = m.length ∧
      ∀ (i : Nat) r, m[i]? = some r → ∃ p, refs[i]? = some p ∧ S'[p]? = some (.lst (r.map fun q => .int (nz (bot m.flatten) q))) := by
  rw [run_succ at_16 rfl]
  have hsz := sizeLine_eq
  have hfl : ∀ q ∈ m.flatten, ∃ r ∈ m, q ∈ r := fun q hq => by
    obtain ⟨r, h1, h2⟩ := List.mem_flatten.mp hq
    exact ⟨r, h1, h2⟩
  have hrl : ∀ r ∈ m, r.length ≤ 1000 := fun r hr => by
    have : r.length ≤ m.flatten.length := (List.sublist_flatten_of_mem hr).length_le
    omega
  have e1 := comp2_flat (cx := cxk W (k + 2)) (own := [6, 1, 7]) (own2 := [7]) (i := 1) (j := 7) (a := 0) (ρ := [some (dMx m), none, none, none, none, none, none, none]) (S := S) (rows := m.map fun r => r.map dQ) (by simp [dMx, dR]) (by simp) (by simp) (by decide)
    (by simp only [List.length_map]; show _ < W; omega) (fun r hr => by
      obtain ⟨r', hr', rfl⟩ := List.mem_map.mp hr
      simp only [List.length_map]
      have := hrl r' hr'
      show _ < W
      omega) (by rw [← List.map_flatten, List.length_map]; omega)
  rw [← List.map_flatten] at e1
  obtain ⟨S2, x1, e2⟩ := whole_in_q (W := W) k m.flatten b (fun q hqm => by obtain ⟨r, h1, h2⟩ := hfl q hqm; exact h r h1 q h2) (fun q hqm => by obtain ⟨r, h1, h2⟩ := hfl q hqm; exact hq r h1 q h2) (by omega) hl2 (.ref S.length) (S ++ [.lst (m.flatten.map dQ)]) seqD_new
  generalize hF : m.flatten.map dQ = F at e1 e2 x1
  generalize hB : bot m.flatten = B at e2
  generalize hNu : (m.flatten.map fun q => D.int (nz B q)) = nums at e2
  generalize hA : S2 ++ [O.lst nums] = A at e2
  have hj0 : A[S2.length]? = some (.lst nums) := by rw [← hA, List.getElem?_append_right (Nat.le_refl _), Nat.sub_self]; rfl
  have hj1 : S2.length < A.length := by rw [← hA]; simp
  obtain ⟨ρ', S3, e3, refs, T, hS3, hrefs, hit, r1, hρ⟩ := for_ev (cx := cxk W (k + 2)) (t := .name 1) (it := .seq (.var 0)) (iv := .sq (dMx m)) (items := m.map dR) (ρ := [some (dMx m), none, some (.ref S2.length), some (.int B), some (.ref A.length), some (.int 0), none, none]) (S := A ++ [.lst []] ++ []) (S1 := A ++ [.lst []] ++ [])
    (b := .cons (.expr (.bm .append (.var 4) (.cons (.slc (.var 2) (.some (.var 5)) (.some (.bin .add (.var 5) (.blt .len (.cons (.var 1) .nil))))) .nil))) (.cons (.aug 5 .add (.blt .len (.cons (.var 1) .nil))) .nil))
    (fun n ρ S' => ∃ (refs : List Nat) (T : Store), S' = A ++ [.lst (refs.map D.ref)] ++ T ∧ refs.length = n ∧ (∀ (i : Nat) r, m[i]? = some r → i < n → ∃ p, refs[i]? = some p ∧ A.length < p ∧ S'[p]? = some (.lst (r.map fun q => .int (nz B q)))) ∧
      ∃ r1, ρ = [some (dMx m), r1, some (.ref S2.length), some (.int B), some (.ref A.length), some (.int ((m.take n).flatten.length : Nat)), none, none])
    (by simp [evI, evE, dMx, seqD, Out.bind]) (by simp only [List.length_map]; show _ < W; omega) ⟨[], [], rfl, rfl, fun i r _ hi => absurd hi (Nat.not_lt_zero _), none, rfl⟩ (fun n ρ S' _ _ => next_sq rfl n) (fun n d ρ S' hd hI => by
      obtain ⟨refs, T, hS', hrl2, hit, r1, hρ⟩ := hI
      rw [List.getElem?_map] at hd
      cases hr : m[n]? with
      | none => rw [hr] at hd; cases hd
      | some r =>
        rw [hr] at hd
        cases hd
        have hrm : r ∈ m := List.mem_of_getElem? hr
        have hnl := (List.getElem?_eq_some_iff.mp hr).1
        subst hρ
        have hsp : m.flatten = (m.take n).flatten ++ (r ++ (m.drop (n + 1)).flatten) := by
          have e2 : m.drop n = r :: m.drop (n + 1) := by
            obtain ⟨hn1, hn2⟩ := List.getElem?_eq_some_iff.mp hr
            rw [← hn2]
            exact List.drop_eq_getElem_cons hn1
          conv => lhs; rw [← List.take_append_drop n m]
          rw [List.flatten_append, e2, List.flatten_cons]
        have hnum : nums = ((m.take n).flatten.map fun q => D.int (nz B q)) ++ ((r.map fun q => D.int (nz B q)) ++ ((m.drop (n + 1)).flatten.map fun q => D.int (nz B q))) := by
          rw [← hNu, hsp, List.map_append, List.map_append]
        have hcut : Pl.cutD nums (some (((m.take n).flatten.length : Nat) : Int)) (some ((((m.take n).flatten.length : Nat) : Int) + (r.length : Int))) = r.map fun q => D.int (nz B q) := by
          have hle : (m.take n).flatten.length + r.length ≤ nums.length := by
            rw [hnum]
            simp only [List.length_append, List.length_map]
            omega
          rw [cut_in hle, hnum]
          have hp : (m.take n).flatten.length = ((m.take n).flatten.map fun q => D.int (nz B q)).length := by rw [List.length_map]
          have hq' : r.length = (r.map fun q => D.int (nz B q)).length := by rw [List.length_map]
          rw [hp, List.drop_left, hq', List.take_left]
        have hn0 : S'[S2.length]? = some (.lst nums) := by
          rw [hS', List.append_assoc, List.getElem?_append_left hj1]
          exact hj0
        have hf0 : S'[A.length]? = some (.lst (refs.map D.ref)) := by rw [hS']; exact get_mid
        have hAl : A.length < S'.length := (List.getElem?_eq_some_iff.mp hf0).1
        refine ⟨[some (dMx m), some (dR r), some (.ref S2.length), some (.int B), some (.ref A.length), some (.int ((m.take n).flatten.length : Nat)), none, none], S', [some (dMx m), some (dR r), some (.ref S2.length), some (.int B), some (.ref A.length), some (.int ((m.take (n + 1)).flatten.length : Nat)), none, none], A ++ [.lst ((refs ++ [S'.length]).map D.ref)] ++ (T ++ [.lst (r.map fun q => .int (nz B q))]), by rw [asT]; rfl, ?_, refs ++ [S'.length], T ++ [.lst (r.map fun q => .int (nz B q))], rfl, by simp [hrl2], fun i r' hr' hi => ?_, some (dR r), rfl⟩
        · have hil : isLst S' (.ref A.length) = true := by
            show (match S'[A.length]? with
              | some (.lst _) => true
              | _ => false) = true
            rw [hf0]
          have hsq : seqD S' (.ref S2.length) = some nums := by
            show (match S'[S2.length]? with
              | some (.lst ds) => some ds
              | _ => none) = some nums
            rw [hn0]
          have hap : (S' ++ [O.lst (r.map fun q => D.int (nz B q))])[A.length]? = some (.lst (refs.map D.ref)) := by
            rw [List.getElem?_append_left hAl]
            exact hf0
          have hrs : refs.length < sizeLine := by omega
          have hset : (S' ++ [O.lst (r.map fun q => D.int (nz B q))]).set A.length (.lst (refs.map D.ref ++ [D.ref S'.length])) = A ++ [.lst ((refs ++ [S'.length]).map D.ref)] ++ (T ++ [.lst (r.map fun q => .int (nz B q))]) := by
            have : S' ++ [O.lst (r.map fun q => D.int (nz B q))] = A ++ [.lst (refs.map D.ref)] ++ (T ++ [.lst (r.map fun q => .int (nz B q))]) := by rw [hS']; simp
            rw [this, set_mid, List.map_append]
            rfl
          have hoff : (((m.take n).flatten.length : Nat) : Int) + (r.length : Int) = (((m.take (n + 1)).flatten.length : Nat) : Int) := by
            rw [List.take_succ, hr]
            simp
          rw [hoff] at hcut
          simp only [evCs, evC, ev_all, ev_var, ev_cst, Out.bind, Out.st, SOut.seq, List.getElem?_cons_zero, List.getElem?_cons_succ, hil, if_true, bltX, dR, insD, bltE, lenE, seqD, List.length_map, binE, addE, onInt, slcE, hn0, hcut, bmE, appendE, hap, hrs, hset, augE, List.set_cons_zero, List.set_cons_succ, hoff]
        · by_cases hin : i < n
          · obtain ⟨p, q1, q2, q3⟩ := hit i r' hr' hin
            refine ⟨p, by rw [List.getElem?_append_left (by have := (List.getElem?_eq_some_iff.mp q1).1; omega)]; exact q1, q2, ?_⟩
            rw [hS'] at q3
            exact get_past q2 q3
          · have hin2 : i = n := by omega
            subst hin2
            rw [hr] at hr'
            cases hr'
            refine ⟨S'.length, by rw [List.getElem?_append_right (by omega), hrl2, Nat.sub_self]; rfl, hAl, ?_⟩
            rw [hS']
            exact get_last)
  subst hρ hS3
  have hx : Ext S A := by
    rw [← hA]
    exact ((Ext.refl S).snoc _).trans (x1.snoc _)
  refine ⟨A ++ [.lst (refs.map D.ref)] ++ T, A.length, refs, ?_, ?_, ?_, by simpa using hrefs, fun i r hr => ?_⟩
  · obtain ⟨U, hU⟩ := hx
    exact ⟨U ++ [O.lst (refs.map D.ref)] ++ T, by rw [hU]; simp⟩
  · rw [List.append_nil] at e3
    simp [b_whole_matrix_in, ev_st, ev_all, ev_cst, ev_var, Out.bind, Out.st, SOut.seq, noExc, bindK, ps_all]
    rw [e1]
    simp [Out.bind]
    rw [e2]
    simp [ev_st, seqD, Out.bind, setsD]
    rw [e3]
    simp [hsz]
  · show (match (A ++ [O.lst (refs.map D.ref)] ++ T)[A.length]? with
      | some (.lst ds) => some ds
      | _ => none) = some (refs.map D.ref)
    rw [get_mid]
  · obtain ⟨p, q1, _, q3⟩ := hit i r hr (by
      have := (List.getElem?_eq_some_iff.mp hr).1
      simpa using this)
    exact ⟨p, q1, q3⟩
end
end H91

set_option Elab.async false
set_option linter.all false
set_option maxRecDepth 100000
set_option maxHeartbeats 4000000
/-! Q91e: a row moved, in whole numbers. -/
namespace H91
open Pl PySem PyProof.Rows L2
/-- a list of lists of ints stands -/
structure LL (S : Store) (j : Nat) (rows : List (List Int)) : Prop where
  ex : ∃ refs : List Nat, S[j]? = some (.lst (refs.map D.ref)) ∧ refs.length = rows.length ∧ ∀ (i : Nat) r, rows[i]? = some r → ∃ p, refs[i]? = some p ∧ S[p]? = some (.lst (r.map D.int))
theorem LL.ext {S S' : Store} {j : Nat} {rows : List (List Int)} (h : LL S j rows) (x : Ext S S') : LL S' j rows := by
  obtain ⟨refs, h1, h2, h3⟩ := h.ex
  exact ⟨refs, x.get h1, h2, fun i r hr => let ⟨p, q1, q2⟩ := h3 i r hr; ⟨p, q1, x.get q2⟩⟩
theorem seq_of {S : Store} {j : Nat} {ds : List D} (h : S[j]? = some (.lst ds)) : seqD S (.ref j) = some ds := by
  show (match S[j]? with
      | some (.lst ds) => some ds
      | _ => none) = some ds
  rw [h]
theorem LL.py {S : Store} {j : Nat} {rows : List (List Int)} (h : LL S j rows) (n : Nat) : toPy S (n + 3) (.ref j) = some (.list (rows.map fun r => .list (r.map PyData.int))) := by
  obtain ⟨refs, h1, h2, h3⟩ := h.ex
  refine toPy_lst h1 ?_
  have gen : ∀ (rs : List Nat) (ws : List (List Int)), rs.length = ws.length → (∀ (i : Nat) r, ws[i]? = some r → ∃ p, rs[i]? = some p ∧ S[p]? = some (.lst (r.map D.int))) → (rs.map D.ref).mapM (toPy S (n + 2)) = some (ws.map fun r => .list (r.map PyData.int)) := by
    intro rs
    induction rs with
    | nil => intro ws hl _; cases ws with
      | nil => rfl
      | cons _ _ => cases hl
    | cons p rs ih =>
      intro ws hl hh
      cases ws with
      | nil => cases hl
      | cons r ws =>
        obtain ⟨p', q1, q2⟩ := hh 0 r rfl
        cases q1
        have e1 : toPy S (n + 2) (.ref p) = some (.list (r.map PyData.int)) := toPy_lst q2 (mapM_map fun x _ => rfl)
        have e2 := ih ws (by simpa using hl) fun i r hr => hh (i + 1) r hr
        rw [List.map_cons, List.mapM_cons, e1, e2]
        rfl
  exact gen refs rows h2 h3
theorem LL.flat {rows : List (List Int)} : flatD 3 (.list (rows.map fun r => .list (r.map PyData.int))) = true := by
  simp [flatD]
def stepI (acc : List Int) (n : Int) (r : List Int) : List Int := if n ≠ 0 then List.zipWith (fun a b => a + n * b) acc r else acc
def movI : List Int → List Int → List (List Int) → List Int
  | acc, n :: ns, r :: rs => movI (stepI acc n r) ns rs
  | acc, _, _ => acc
def widthI (rows : List (List Int)) : Nat := match rows with
  | [] => 0
  | r :: _ => r.length
section
variable {W : Nat}
/-- [0] * (len(rows[0]) if rows != [] else 0) -/
theorem zeros_q (cx : Pl.Ctx) {S : Store} {j : Nat} {rows : List (List Int)} (h : LL S j rows) (hw : widthI rows ≤ 1000) (ρ : Slots) (hρ : ρ[1]? = some (some (.ref j))) :
    ∃ S', Ext S S' ∧ evE cx (.bin .mul (.lst (.cons (.cst (.int (0))) .nil)) (.ite (.cmp .ne (.var 1) (.lst .nil)) (.blt .len (.cons (.idx (.var 1) (.cst (.int (0)))) .nil)) (.cst (.int (0))))) ρ S = .ok (.ref S'.length) (S' ++ [.lst ((List.replicate (widthI rows) (0 : Int)).map D.int)]) := by
  have hsz := sizeLine_eq
  have x1 : Ext S (S ++ [O.lst [D.int 0]] ++ [O.lst []]) := ((Ext.refl S).snoc _).snoc _
  have h2 := h.ext x1
  have hge : (S ++ [O.lst [D.int 0]] ++ [O.lst []])[(S ++ [O.lst [D.int 0]]).length]? = some (.lst []) := by
    rw [List.getElem?_append_right (Nat.le_refl _), Nat.sub_self]
    rfl
  have hg0 : (S ++ [O.lst [D.int 0]] ++ [O.lst []])[S.length]? = some (.lst [.int 0]) := by
    rw [List.append_assoc, List.getElem?_append_right (Nat.le_refl _), Nat.sub_self]
    rfl
  have heq := eq_empty (neg := true) (h2.py 37) (flat_shaped LL.flat (by decide)) hge
  refine ⟨S ++ [O.lst [D.int 0]] ++ [O.lst []], x1, ?_⟩
  obtain ⟨refs, g1, g2, g3⟩ := h2.ex
  have hrep : ∀ w : Nat, (List.replicate w [D.int 0]).flatten = (List.replicate w (0 : Int)).map D.int := fun w => by
    induction w with
    | zero => rfl
    | succ w ih => rw [List.replicate_succ, List.replicate_succ, List.flatten_cons, ih]; rfl
  simp only [ev_all, ev_cst, ev_var, Out.bind, hρ, List.length_cons, List.length_nil]
  rw [if_pos (by omega)]
  simp only [ev_all, ev_cst, ev_var, Out.bind, hρ, List.length_cons, List.length_nil]
  rw [if_pos (by omega)]
  simp only [cmpE, heq, if_true, onBl]
  cases rows with
  | nil =>
    simp only [List.map_nil, List.isEmpty_nil, Bool.not_true, Bool.false_eq_true, if_false, ev_cst, binE, mulE, hg0, widthI]
    rw [if_pos ⟨by decide, by simp⟩]
    rfl
  | cons r rows =>
    obtain ⟨p, q1, q2⟩ := g3 0 r rfl
    have hat : atI (refs.map D.ref) 0 = some (.ref p) := by
      cases refs with
      | nil => cases q1
      | cons a refs => cases q1; simp [atI, ixN]
    have hsp := seq_of q2
    have hw' : (r.length : Int).natAbs < 2 ^ 63 := by
      have : r.length ≤ 1000 := hw
      omega
    simp only [List.map_cons, List.isEmpty_cons, Bool.not_false, if_true, ev_all, ev_cst, ev_var, Out.bind, hρ, idxE, seq_of g1, hat, bltX, insD_seq hsp, bltE, lenE, hsp, List.length_map, binE, mulE, hg0, widthI]
    rw [if_pos ⟨hw', by simp; have : r.length ≤ 1000 := hw; omega⟩]
    rw [Int.toNat_natCast, hrep]
theorem movI_snoc : ∀ (a : List Int) (b : List (List Int)) (acc : List Int) (x : Int) (y : List Int), a.length = b.length → movI acc (a ++ [x]) (b ++ [y]) = stepI (movI acc a b) x y
  | [], [], acc, x, y, _ => by simp [movI]
  | n :: a, r :: b, acc, x, y, h => by
    simp only [List.cons_append, movI]
    exact movI_snoc a b (stepI acc n r) x y (by simpa using h)
  | [], _ :: _, _, _, _, h => by cases h
  | _ :: _, [], _, _, _, h => by cases h
theorem moved_whole_q (k : Nat) {d1 : D} {ns : List Int} {j : Nat} {rows : List (List Int)} {S : Store} (h1 : seqD S d1 = some (ns.map D.int)) (h : LL S j rows) (hn : ns.length = rows.length) (hw : widthI rows ≤ 1000) (hr : ∀ r ∈ rows, r.length ≤ 1000) (hl : rows.length ≤ 1000)
    (b1 : ∀ x ∈ ns, x.natAbs.log2 < 400000) (b2 : ∀ r ∈ rows, ∀ y ∈ r, y.natAbs.log2 < 400000) (hW : 1000 < W) :
    ∃ S' p, Ext S S' ∧ run TBL W (k + 1) 17 [d1, .ref j] S = .ok (.ref p) S' ∧ seqD S' (.ref p) = some ((movI (List.replicate (widthI rows) 0) ns rows).map D.int) := by
  rw [run_succ at_17 rfl]
  have hsz := sizeLine_eq
  obtain ⟨S1, x1, e1⟩ := zeros_q (cxk W k) h hw [some d1, some (.ref j), none, none, none, none, none, none] rfl
  generalize hZ : (List.replicate (widthI rows) (0 : Int)).map D.int = Z at e1
  have x2 : Ext S (S1 ++ [O.lst Z]) := x1.snoc _
  have hL := h.ext x2
  have hs1 := x2.seqD h1
  obtain ⟨refs, g1, g2, g3⟩ := hL.ex
  have hrefs := seq_of g1
  obtain ⟨ρ', S3, e3, x3, a, c, p, hρ, hp⟩ := for_ev (cx := cxk W k) (t := .tup (.cons (.name 3) (.cons (.name 4) .nil))) (it := .zip (.var 0) (.var 1)) (iv := .zp d1 (.ref j)) (items := ((ns.map D.int).zip (refs.map D.ref)).map fun p => D.tup [p.1, p.2]) (ρ := [some d1, some (.ref j), some (.ref S1.length), none, none, none, none, none]) (S := S1 ++ [.lst Z]) (S1 := S1 ++ [.lst Z])
    (b := .cons (.ite (.cmp .ne (.var 3) (.cst (.int (0)))) (.cons (.asg (.name 2) (.comp (.bin .add (.var 6) (.bin .mul (.var 3) (.var 7))) [5, 6, 7] (.tup (.cons (.name 6) (.cons (.name 7) .nil))) (.zip (.var 2) (.var 4)) .none)) .nil) .nil) .nil)
    (fun n ρ S' => Ext (S1 ++ [O.lst Z]) S' ∧ ∃ (a c : Option D) (p : Nat), ρ = [some d1, some (.ref j), some (.ref p), a, c, none, none, none] ∧ seqD S' (.ref p) = some ((movI (List.replicate (widthI rows) 0) (ns.take n) (rows.take n)).map D.int) )
    (by simp [evI, evE, hs1, hrefs, Out.bind]) (by
      simp only [List.length_map, List.length_zip]
      show _ < W
      omega) ⟨Ext.refl _, none, none, S1.length, rfl, by rw [seqD_new, ← hZ]; rfl⟩ (fun n ρ S' hn hI => by
      have := next_zp (hI.1.seqD hs1) (hI.1.seqD hrefs) (n := n) (by simpa using hn)
      exact this) (fun n d ρ S' hd hI => by
      obtain ⟨x, a, c, p, hρ, hp⟩ := hI
      subst hρ
      rw [List.getElem?_map] at hd
      have hnl : n < rows.length := by
        by_cases hlt : n < rows.length
        · exact hlt
        · rw [List.getElem?_eq_none (by simp only [List.length_zip, List.length_map]; omega)] at hd
          cases hd
      have en : ns[n]? = some (ns[n]'(by omega)) := List.getElem?_eq_getElem _
      have er : rows[n]? = some rows[n] := List.getElem?_eq_getElem hnl
      generalize ns[n]'(by omega) = v at en
      generalize rows[n] = r at er
      obtain ⟨pr, q1, q2⟩ := g3 n r er
      have hz : ((ns.map D.int).zip (refs.map D.ref))[n]? = some (D.int v, D.ref pr) := by
        rw [List.getElem?_zip_eq_some]
        exact ⟨by rw [List.getElem?_map, en]; rfl, by rw [List.getElem?_map, q1]; rfl⟩
      rw [hz] at hd
      cases hd
      have hsn : movI (List.replicate (widthI rows) 0) (ns.take (n + 1)) (rows.take (n + 1)) = stepI (movI (List.replicate (widthI rows) 0) (ns.take n) (rows.take n)) v r := by
        rw [List.take_succ, List.take_succ, en, er]
        exact movI_snoc _ _ _ _ _ (by simp only [List.length_take]; omega)
      generalize hM : movI (List.replicate (widthI rows) 0) (ns.take n) (rows.take n) = M at hp hsn
      have hrr := x.seqD (seq_of q2)
      have hrm : r ∈ rows := List.mem_of_getElem? er
      have hvm : v ∈ ns := List.mem_of_getElem? en
      by_cases hv : v = 0
      · refine ⟨[some d1, some (.ref j), some (.ref p), some (.int v), some (.ref pr), none, none, none], S', [some d1, some (.ref j), some (.ref p), some (.int v), some (.ref pr), none, none, none], S', by simp [ev_st, seqD, Out.bind], ?_, x, _, _, p, rfl, ?_⟩
        · subst hv
          simp [ev_st, ev_all, ev_var, ev_cst, Out.bind, Out.st, SOut.seq, cmpE, eqE, eqD, onBlS]
        · rw [hsn]
          unfold stepI
          rw [if_neg (by simpa using hv)]
          exact hp
      · obtain ⟨S4, L, x4, hL4, e4⟩ := comp_ev (cx := cxk W k) (elt := .bin .add (.var 6) (.bin .mul (.var 3) (.var 7))) (own := [5, 6, 7]) (t := .tup (.cons (.name 6) (.cons (.name 7) .nil))) (it := .zip (.var 2) (.var 4)) (ρ := [some d1, some (.ref j), some (.ref p), some (.int v), some (.ref pr), none, none, none]) (S := S') (S1 := S') (iv := .zp (.ref p) (.ref pr)) (items := ((M.map D.int).zip (r.map D.int)).map fun p => D.tup [p.1, p.2])
          (g := fun x => match x with
            | .tup [.int a, .int b] => .int (a + v * b)
            | _ => .non)
          (by simp [evI, evE, hp, hrr, Out.bind]) (fun m T y hm => next_zp (y.seqD hp) (y.seqD hrr) (by simpa using hm)) (fun y hy T xx => by
            obtain ⟨pp, hpp, rfl⟩ := List.mem_map.mp hy
            obtain ⟨p1, p2⟩ := pp
            have hp' := List.of_mem_zip hpp
            obtain ⟨u1, hu1, rfl⟩ := List.mem_map.mp hp'.1
            obtain ⟨u2, hu2, rfl⟩ := List.mem_map.mp hp'.2
            have m1 := b1 v hvm
            have m2 := b2 r hrm u2 hu2
            refine ⟨[some d1, some (.ref j), some (.ref p), some (.int v), some (.ref pr), none, some (.int u1), some (.int u2)], T, ?_, ?_, Ext.refl _⟩
            · simp [wipeD, ev_st, seqD, Out.bind]
            · simp only [Out.bind, ev_all, ev_var, ev_cst, List.getElem?_cons_zero, List.getElem?_cons_succ, binE, mulE, addE]
              rw [if_pos (.inl (by omega))]) (by
            simp only [List.length_map, List.length_zip]
            have := hr r hrm
            show _ < W
            omega) (by
            simp only [List.length_map, List.length_zip]
            have := hr r hrm
            omega)
        have hLi : L = (stepI M v r).map D.int := by
          rw [hL4]
          unfold stepI
          rw [if_pos hv]
          have gen : ∀ (M r : List Int), ((((M.map D.int).zip (r.map D.int)).map fun p => D.tup [p.1, p.2]).map fun x => match x with
            | .tup [.int a, .int b] => D.int (a + v * b)
            | _ => .non) = (List.zipWith (fun a b => a + v * b) M r).map D.int := by
            intro M
            induction M with
            | nil => intro r; simp
            | cons a M ih =>
              intro r
              cases r with
              | nil => simp
              | cons b r => simp only [List.map_cons, List.zip_cons_cons, List.zipWith_cons_cons]; rw [ih r]
          exact gen M r
        refine ⟨[some d1, some (.ref j), some (.ref p), some (.int v), some (.ref pr), none, none, none], S', [some d1, some (.ref j), some (.ref S4.length), some (.int v), some (.ref pr), none, none, none], S4 ++ [.lst L], by simp [ev_st, seqD, Out.bind], ?_, (x.trans x4).snoc _, _, _, S4.length, rfl, ?_⟩
        · simp [ev_st, ev_all, ev_var, ev_cst, Out.bind, Out.st, SOut.seq, cmpE, eqE, eqD, onBlS, hv, noExc]
          rw [e4]
        · rw [seqD_new, hLi, hsn])
  have hlen : (((ns.map D.int).zip (refs.map D.ref)).map fun p => D.tup [p.1, p.2]).length = rows.length := by
    simp only [List.length_map, List.length_zip]
    omega
  rw [hlen, List.take_of_length_le (by omega), List.take_of_length_le (Nat.le_refl _)] at hp
  subst hρ
  refine ⟨S3, p, x2.trans x3, ?_, hp⟩
  simp only [b_moved_whole_in, ev_st, Out.bind, Out.st, SOut.seq, noExc, List.map_cons, List.map_nil, List.length_cons, List.length_nil, List.nil_append, List.cons_append, List.replicate]
  rw [e1]
  simp only [List.set_cons_zero, List.set_cons_succ]
  rw [e3]
  simp [ev_var]
end
end H91

set_option Elab.async false
set_option linter.all false
set_option maxRecDepth 100000
set_option maxHeartbeats 4000000
/-! Q91f: a row moved by a matrix. -/
namespace H91
open Pl PySem PyProof.Rows L2
theorem movI_len : ∀ (ns : List Int) (rows : List (List Int)) (acc : List Int), (∀ r ∈ rows, r.length = acc.length) → (movI acc ns rows).length = acc.length
  | [], _, acc, _ => by simp [movI]
  | _ :: _, [], acc, _ => by simp [movI]
  | n :: ns, r :: rows, acc, h => by
    have e : (stepI acc n r).length = acc.length := by
      unfold stepI
      split
      · rw [List.length_zipWith, h r List.mem_cons_self, Nat.min_self]
      · rfl
    show (movI (stepI acc n r) ns rows).length = _
    rw [movI_len ns rows (stepI acc n r) (fun x hx => by rw [e]; exact h x (List.mem_cons_of_mem _ hx)), e]
theorem step_cast {B C : Nat} (hB : 0 < B) (hC : 0 < C) {q : Rat} (hq : q.den ∣ B) : ∀ (acc : List Int) (r : List Rat), (∀ x ∈ r, x.den ∣ C) → r.length = acc.length →
    (stepI acc (nz B q) (r.map (nz C))).map (fun n => Rat.divInt n ((B : Int) * (C : Int))) = stepQ (acc.map fun n => Rat.divInt n ((B : Int) * (C : Int))) q r := by
  have hb : ((B : Nat) : Rat) ≠ 0 := by
    intro z
    have : B = 0 := by exact_mod_cast z
    omega
  have hc : ((C : Nat) : Rat) ≠ 0 := by
    intro z
    have : C = 0 := by exact_mod_cast z
    omega
  have e0 := nz_rat hq
  intro acc r hr hl
  unfold stepI stepQ
  by_cases hz : nz B q = 0
  · rw [if_neg (by simpa using hz)]
    have hq0 : q = 0 := by
      rw [hz] at e0
      have : (0 : Rat) = q * (B : Nat) := by simpa using e0
      grind
    subst hq0
    induction acc generalizing r with
    | nil => simp
    | cons a acc ih =>
      cases r with
      | nil => cases hl
      | cons x r =>
        have := ih r (fun y hy => hr y (List.mem_cons_of_mem _ hy)) (by simpa using hl)
        simp only [List.map_cons, List.zipWith_cons_cons]
        rw [← this]
        congr 1
        grind
  · rw [if_pos hz]
    induction acc generalizing r with
    | nil => simp
    | cons a acc ih =>
      cases r with
      | nil => cases hl
      | cons x r =>
        have := ih r (fun y hy => hr y (List.mem_cons_of_mem _ hy)) (by simpa using hl)
        have e1 := nz_rat (hr x List.mem_cons_self)
        simp only [List.map_cons, List.zipWith_cons_cons]
        rw [← this]
        congr 1
        rw [Rat.divInt_eq_div, Rat.divInt_eq_div]
        push_cast
        rw [e0, e1]
        grind
theorem mov_cast {B C : Nat} (hB : 0 < B) (hC : 0 < C) : ∀ (qs : List Rat) (m : List (List Rat)) (acc : List Int), (∀ q ∈ qs, q.den ∣ B) → (∀ r ∈ m, ∀ x ∈ r, x.den ∣ C) → (∀ r ∈ m, r.length = acc.length) →
    (movI acc (qs.map (nz B)) (m.map fun r => r.map (nz C))).map (fun n => Rat.divInt n ((B : Int) * (C : Int))) = movQ (acc.map fun n => Rat.divInt n ((B : Int) * (C : Int))) qs m
  | [], _, acc, _, _, _ => by simp [movI, movQ]
  | _ :: _, [], acc, _, _, _ => by simp [movI, movQ]
  | q :: qs, r :: m, acc, h1, h2, h3 => by
    have e := step_cast hB hC (h1 q List.mem_cons_self) acc r (h2 r List.mem_cons_self) (h3 r List.mem_cons_self)
    have el : (stepI acc (nz B q) (r.map (nz C))).length = acc.length := by
      unfold stepI
      split
      · rw [List.length_zipWith, List.length_map, h3 r List.mem_cons_self, Nat.min_self]
      · rfl
    show (movI (stepI acc (nz B q) (r.map (nz C))) (qs.map (nz B)) (m.map fun r => r.map (nz C))).map _ = movQ (stepQ _ q r) qs m
    rw [mov_cast hB hC qs m _ (fun x hx => h1 x (List.mem_cons_of_mem _ hx)) (fun x hx => h2 x (List.mem_cons_of_mem _ hx)) (fun x hx => by rw [el]; exact h3 x (List.mem_cons_of_mem _ hx)), e]
/-- rows and matrices that are reckoned with -/
structure RowB (N : Nat) (r : List Rat) : Prop where
  den : ∀ q ∈ r, q.den ∣ N
  num : ∀ q ∈ r, q.num.natAbs.log2 < 8000
structure MatB (N n : Nat) (m : List (List Rat)) : Prop where
  rows : ∀ r ∈ m, RowB N r ∧ r.length = n
  len : m.length = n
section
variable {W : Nat}
theorem move_by_q (k : Nat) {N n j : Nat} (b : Bits N) {r : List Rat} {m : List (List Rat)} (hr : RowB N r) (hm : MatB N n m) (hrn : r.length = n) (hn : n ≤ 30) (hW : 1000 < W) (S : Store) (hL : LL S j (m.map fun r => r.map (nz (bot m.flatten)))) :
    ∃ S', Ext S S' ∧ run TBL W (k + 3) 18 [dR r, .tup [.ref j, .int (bot m.flatten)]] S = .ok (dR (moveQ r m)) S' := by
  rw [run_succ at_18 rfl]
  have hsz := sizeLine_eq
  have hfl : ∀ q ∈ m.flatten, q.den ∣ N ∧ q.num.natAbs.log2 < 8000 := fun q hq => by
    obtain ⟨x, h1, h2⟩ := List.mem_flatten.mp hq
    exact ⟨(hm.rows x h1).1.den q h2, (hm.rows x h1).1.num q h2⟩
  have hB2 : bot m.flatten ∣ N := bot_dvd fun q hq => (hfl q hq).1
  have p2 : 0 < bot m.flatten := Nat.pos_of_dvd_of_pos hB2 b.pos
  have hB1 : bot r ∣ N := bot_dvd hr.den
  have p1 : 0 < bot r := Nat.pos_of_dvd_of_pos hB1 b.pos
  have hw : widthI (m.map fun r => r.map (nz (bot m.flatten))) = widthQ m := by
    cases m with
    | nil => rfl
    | cons x m => simp [widthI, widthQ]
  have hwn : widthQ m ≤ n := by
    cases hmm : m with
    | nil => exact Nat.zero_le _
    | cons x m' =>
      have := (hm.rows x (by rw [hmm]; exact List.mem_cons_self)).2
      show x.length ≤ n
      omega
  have hln := hm.len
  obtain ⟨S2, x1, e1⟩ := whole_in_q (W := W) k r b hr.den hr.num (by omega) (by omega) (dR r) S rfl
  have hnz : (r.map fun q => D.int (nz (bot r) q)) = (r.map (nz (bot r))).map D.int := by rw [List.map_map]; rfl
  rw [hnz] at e1
  have x2 : Ext S (S2 ++ [O.lst ((r.map (nz (bot r))).map D.int)]) := x1.snoc _
  obtain ⟨S3, p, x3, e2, hp⟩ := moved_whole_q (W := W) (k + 1) (d1 := .ref S2.length) (ns := r.map (nz (bot r))) (rows := m.map fun r => r.map (nz (bot m.flatten))) seqD_new (hL.ext x2) (by simp only [List.length_map]; omega) (by rw [hw]; omega) (fun x hx => by
    obtain ⟨y, hy, rfl⟩ := List.mem_map.mp hx
    have := (hm.rows y hy).2
    simp only [List.length_map]
    omega) (by simp only [List.length_map]; omega) (fun x hx => by
    obtain ⟨q, hq, rfl⟩ := List.mem_map.mp hx
    have := nz_log b hB1 (hr.num q hq)
    omega) (fun x hx y hy => by
    obtain ⟨z, hz, rfl⟩ := List.mem_map.mp hx
    obtain ⟨q, hq, rfl⟩ := List.mem_map.mp hy
    have := nz_log b hB2 ((hm.rows z hz).1.num q hq)
    omega) hW
  generalize hM : movI (List.replicate (widthI (m.map fun r => r.map (nz (bot m.flatten)))) 0) (r.map (nz (bot r))) (m.map fun r => r.map (nz (bot m.flatten))) = M at hp
  have hrow : ∀ x ∈ m, x.length = widthQ m := fun x hx => by
    cases hmm : m with
    | nil => rw [hmm] at hx; cases hx
    | cons y m' =>
      have h1 := (hm.rows x hx).2
      have h2 := (hm.rows y (by rw [hmm]; exact List.mem_cons_self)).2
      show x.length = y.length
      omega
  have hMl : M.length = widthQ m := by
    rw [← hM, movI_len _ _ _ (fun x hx => by
      obtain ⟨z, hz, rfl⟩ := List.mem_map.mp hx
      rw [List.length_map, List.length_replicate, hw]
      exact hrow z hz), List.length_replicate, hw]
  have hmul : (bot r).log2 + (bot m.flatten).log2 < 1000000 := by
    have := b.le hB1
    have := b.le hB2
    omega
  have hpos : (0 : Int) < (bot r : Int) * (bot m.flatten : Int) := Int.mul_pos (by omega) (by omega)
  have hlog : ((bot r : Int) * (bot m.flatten : Int)).natAbs.log2 < 9000 := by
    rw [Int.natAbs_mul]
    have := log2_mul_le (bot r) (bot m.flatten)
    have := b.le4 hB1
    have := b.le4 hB2
    simp only [Int.natAbs_natCast]
    omega
  obtain ⟨S4, x4, e3⟩ := told_in_q (W := W) k M ((bot r : Int) * (bot m.flatten : Int)) hpos hlog (by omega) (by omega) (.ref p) S3 hp
  have hfin : M.map (fun n => Rat.divInt n ((bot r : Int) * (bot m.flatten : Int))) = moveQ r m := by
    rw [← hM, mov_cast p1 p2 r m _ (fun q hq => den_dvd_bot hq) (fun x hx q hq => den_dvd_bot (List.mem_flatten.mpr ⟨x, hx, hq⟩)) (fun x hx => by rw [List.length_replicate, hw]; exact hrow x hx)]
    unfold moveQ
    rw [hw, List.map_replicate]
    have : Rat.divInt 0 ((bot r : Int) * (bot m.flatten : Int)) = 0 := Rat.zero_divInt _
    rw [this]
  rw [hfin] at e3
  refine ⟨S4, x2.trans (x3.trans x4), ?_⟩
  generalize hNU : (r.map (nz (bot r))).map D.int = NU at e1 x2 e2 x3
  simp [b_move_by_in, ev_st, ev_all, ev_cst, ev_var, Out.bind, Out.st, SOut.seq, noExc, bindK, ps_all]
  rw [e1]
  simp [ev_st, seqD, idxE, atI, ixN, Out.bind]
  rw [e2]
  simp [binE, mulE, hmul]
  rw [e3]
end
end H91

set_option Elab.async false
set_option linter.all false
set_option maxRecDepth 100000
set_option maxHeartbeats 4000000
/-! Q91g: a row moved; the law's own arithmetic. -/
namespace H91
open Pl PySem PyProof.Rows L2
/-- more turns than any loop takes -/
def BIG : Nat := 2 ^ 9000
theorem BIG_gt : 1000 < BIG := by decide +kernel
theorem bitsN : Bits (6 ^ 200) := ⟨by decide +kernel, by decide +kernel⟩
theorem big100 : (100 ^ 200 : Nat).log2 < 1900 := by decide +kernel
theorem pow_mono {a b : Nat} (h : a ≤ b) : 6 ^ a ∣ 6 ^ b ∧ 100 ^ a ≤ 100 ^ b := ⟨Nat.pow_dvd_pow 6 h, Nat.pow_le_pow_right (by decide) h⟩
/-- a number of few bits -/
structure Bq (q : Rat) : Prop where
  den : q.den.log2 < 3000
  num : q.num.natAbs.log2 < 8000
theorem sm_bq {k : Nat} {q : Rat} (h : Sm (6 ^ k) (100 ^ k) q) (hk : k ≤ 200) : q.den ∣ 6 ^ 200 ∧ q.num.natAbs.log2 < 1900 := by
  obtain ⟨h1, h2⟩ := h.fits (Nat.pow_pos (by decide))
  exact ⟨Nat.dvd_trans h1 (pow_mono hk).1, log2_le (Nat.le_trans h2 (pow_mono hk).2) big100⟩
theorem sm_Bq {k : Nat} {q : Rat} (h : Sm (6 ^ k) (100 ^ k) q) (hk : k ≤ 200) : Bq q := by
  obtain ⟨h1, h2⟩ := sm_bq h hk
  exact ⟨Nat.lt_of_lt_of_le (log2_le (Nat.le_of_dvd (Nat.pow_pos (by decide)) h1) (show (6 ^ 200 : Nat).log2 < 3000 by decide +kernel)) (Nat.le_refl _), by omega⟩
theorem rowK_b {k : Nat} {r : List Rat} (h : RowK k r) (hk : k ≤ 198) : RowB (6 ^ 200) r := ⟨fun q hq => (sm_bq (h q hq) (by omega)).1, fun q hq => by have := (sm_bq (h q hq) (by omega)).2; omega⟩
theorem ent_sm {q : Rat} (h : Sm 6 24 q) : Sm (6 ^ 1) (100 ^ 1) q := h.mono (by decide)
theorem sq_b {n : Nat} {m : List (List Rat)} (h : Sq n m) : MatB (6 ^ 200) n m := ⟨fun r hr => ⟨rowK_b (rowK_ent (h.ent r hr)) (by omega), h.rows r hr⟩, h.len⟩
section
variable {W : Nat}
theorem move_in_q (k : Nat) {n j : Nat} {r : List Rat} {m : List (List Rat)} (hr : RowK j r) (hj : j ≤ 198) (hm : Sq n m) (hrn : r.length = n) (hn : n ≤ 4) (hW : 1000 < W) (S : Store) :
    ∃ S', Ext S S' ∧ run TBL W (k + 4) 19 [dR r, dMx m] S = .ok (dR (moveQ r m)) S' := by
  have hb := rowK_b hr hj
  have hmb := sq_b hm
  have hfl : m.flatten.length ≤ 1000 := by
    have h1 : ∀ (m : List (List Rat)), (∀ r ∈ m, r.length = n) → m.flatten.length = m.length * n := by
      intro m
      induction m with
      | nil => simp
      | cons x m ih =>
        intro h
        rw [List.flatten_cons, List.length_append, ih fun r hr => h r (List.mem_cons_of_mem _ hr), h x List.mem_cons_self, List.length_cons, Nat.add_mul]
        omega
    rw [h1 m hm.rows, hm.len]
    have : n * n ≤ 4 * 4 := Nat.mul_le_mul hn hn
    omega
  obtain ⟨S2, jj, refs, x1, e1, h2, h3, h4⟩ := whole_matrix_q (W := W) k m bitsN (fun r hr q hq => (hmb.rows r hr).1.den q hq) (fun r hr q hq => (hmb.rows r hr).1.num q hq) (by rw [hm.len]; omega) hfl hW S
  have hLL : LL S2 jj (m.map fun r => r.map (nz (bot m.flatten))) := by
    refine ⟨refs, seq_get h2, by rw [h3, List.length_map], fun i r hr => ?_⟩
    rw [List.getElem?_map] at hr
    cases e : m[i]? with
    | none => rw [e] at hr; cases hr
    | some r' =>
      rw [e] at hr
      cases hr
      obtain ⟨p, q1, q2⟩ := h4 i r' e
      exact ⟨p, q1, by rw [q2, List.map_map]; rfl⟩
  obtain ⟨S3, x2, e2⟩ := move_by_q (W := W) k bitsN hb hmb hrn (by omega) hW S2 hLL
  refine ⟨S3, x1.trans x2, ?_⟩
  rw [run_succ at_19 rfl]
  simp [b_move_in, ev_st, ev_all, ev_cst, ev_var, Out.bind, Out.st, SOut.seq, bindK, ps_all]
  rw [e1]
  simp
  rw [e2]
set_option exponentiation.threshold 100000 in
theorem lt_of_log2 {n k : Nat} (h : n.log2 < k) : n < 2 ^ k := by
  by_cases h0 : n = 0
  · subst h0; exact Nat.pow_pos (by decide)
  · exact (Nat.log2_lt h0).mp h
theorem low_loop (cx : Pl.Ctx) (S : Store) (x y : Option D) : ∀ (n b a fuel : Nat), b ≤ n → b < fuel →
    loopW (evE cx (.cmp .ne (.var 3) (.cst (.int (0))))) (evCs cx (.cons (.par [2, 3] (.cons (.var 3) (.cons (.bin .mod (.blt .int (.cons (.var 2) .nil)) (.var 3)) .nil))) .nil)) fuel [x, y, some (.int a), some (.int b)] S = .nx [x, y, some (.int (Nat.gcd a b : Nat)), some (.int 0)] S := by
  intro n
  induction n with
  | zero =>
    intro b a fuel hb hf
    have : b = 0 := by omega
    subst this
    cases fuel with
    | zero => omega
    | succ f =>
      rw [loopW]
      simp [ev_st, ev_all, ev_cst, ev_var, Out.bind, Out.st, cmpE, eqE, eqD, onBlS]
  | succ n ih =>
    intro b a fuel hb hf
    cases fuel with
    | zero => omega
    | succ f =>
      rw [loopW]
      by_cases h0 : b = 0
      · subst h0
        simp [ev_st, ev_all, ev_cst, ev_var, Out.bind, Out.st, cmpE, eqE, eqD, onBlS]
      · have hp : 0 < b := by omega
        have hp' : (0 : Int) < (b : Int) := by omega
        have hne : ¬ (b : Int) = 0 := by omega
        have hlt := Nat.mod_lt a hp
        have ih' := ih (a % b) b f (by omega) (by omega)
        have hmod : ((a : Int) % (b : Int)) = ((a % b : Nat) : Int) := by simp
        have hg : Nat.gcd b (a % b) = Nat.gcd a b := by
          rw [Nat.gcd_comm a b, Nat.gcd_rec b a, Nat.gcd_comm]
        rw [hg] at ih'
        simp only [ev_st, ev_all, ev_cst, ev_var, Out.bind, Out.st, cmpE, eqE, eqD, onBlS, SOut.seq, bltX_not (show Blt.int ≠ Blt.len by decide), bltE, intE, binE, modE, setsD, List.getElem?_cons_zero, List.getElem?_cons_succ, List.set_cons_zero, List.set_cons_succ, hp', if_true, hmod, hne, decide_false, Bool.not_false, ih']
theorem law_low_q (k : Nat) (t b : Int) (hb : 0 < b) (hl : b.natAbs.log2 < 9000) (hW : BIG ≤ W) (S : Store) : run TBL W (k + 1) 60 [.int t, .int b] S = .ok (dQ (Rat.divInt t b)) S := by
  have hg : (0 : Int) < (Nat.gcd t.natAbs b.natAbs : Nat) := by
    have : 0 < Nat.gcd t.natAbs b.natAbs := Nat.gcd_pos_of_pos_right _ (by omega)
    omega
  have hle : Nat.gcd t.natAbs b.natAbs ≤ b.natAbs := Nat.gcd_le_right _ (by omega)
  have hlg : (Nat.gcd t.natAbs b.natAbs).log2 < 9000 := log2_le hle hl
  have e1 : (Rat.divInt t b).num = t / (Nat.gcd t.natAbs b.natAbs : Nat) := by
    rw [Rat.num_divInt, Int.sign_eq_one_of_pos hb, Int.one_mul, Int.gcd_comm]
    rfl
  have e2 : ((Rat.divInt t b).den : Int) = b / (Nat.gcd t.natAbs b.natAbs : Nat) := by
    rw [Rat.den_divInt, if_neg (by omega), Int.gcd_comm]
    have : ((b.natAbs / Int.gcd t b : Nat) : Int) = (b.natAbs : Int) / (Int.gcd t b : Nat) := Int.natCast_ediv _ _
    rw [this]
    have : (b.natAbs : Int) = b := by omega
    rw [this]
    rfl
  have hfu : b.natAbs < W := Nat.lt_of_lt_of_le (lt_of_log2 hl) hW
  have el := low_loop (cxk W k) S (some (.int t)) (some (.int b)) b.natAbs b.natAbs t.natAbs W (Nat.le_refl _) hfu
  have hbb : (b.natAbs : Int) = b := by omega
  rw [hbb] at el
  have hc : evC (cxk W k) c_law_low_0 [some (.int t), some (.int b), some (.int t.natAbs), some (.int b)] S = .nx [some (.int t), some (.int b), some (.int (Nat.gcd t.natAbs b.natAbs : Nat)), some (.int 0)] S := by
    unfold c_law_low_0
    rw [evC]
    exact el
  have habs : (if t < 0 then -t else t) = (t.natAbs : Int) := by split <;> omega
  have hor : ¬t = 0 ∨ ¬b = 0 := .inr (by omega)
  rw [run_succ at_60 rfl]
  simp only [b__law_low, ev_st, ev_all, ev_cst, ev_var, Out.bind, Out.st, SOut.seq, List.map_cons, List.map_nil, List.length_cons, List.length_nil, List.nil_append, List.cons_append, List.replicate, List.getElem?_cons_zero, List.getElem?_cons_succ, bltX_not (show Blt.abs ≠ Blt.len by decide), bltE, absE, setsD, List.set_cons_zero, List.set_cons_succ, habs]
  rw [hc]
  simp [ev_st, ev_all, ev_cst, ev_var, Out.bind, Out.st, binE, fdivE, hg, hlg, hor, dQ, e1, e2, sizeLine_eq]
theorem num_den (q : Rat) : (q.num : Rat) = q * (q.den : Nat) ∧ ((q.den : Nat) : Rat) ≠ 0 := by
  have h2 := Rat.num_divInt_den q
  have h3 : (Rat.divInt q.num q.den) = (q.num : Rat) / ((q.den : Int) : Rat) := Rat.divInt_eq_div _ _
  rw [h2] at h3
  have h4 : ((q.den : Int) : Rat) ≠ 0 := by
    have := q.den_pos
    intro z
    have : (q.den : Int) = 0 := by exact_mod_cast z
    omega
  have h5 : ((q.den : Int) : Rat) = ((q.den : Nat) : Rat) := by norm_cast
  rw [h5] at h3 h4
  exact ⟨by grind, h4⟩
theorem idx_tup {ds : List D} {j : Nat} {x : D} (h : ds[j]? = some x) (S : Store) : idxE (.tup ds) (.int j) S = .ok x S := by
  obtain ⟨hl, rfl⟩ := List.getElem?_eq_some_iff.mp h
  simp [idxE, seqD, atI, ixN, hl]
theorem idx_seq {d : D} {S : Store} {ds : List D} (hd : seqD S d = some ds) (hs : ∀ x, d ≠ .str x) {j : Nat} {x : D} (h : ds[j]? = some x) : idxE d (.int j) S = .ok x S := by
  obtain ⟨hl, rfl⟩ := List.getElem?_eq_some_iff.mp h
  cases d with
  | str x => exact absurd rfl (hs x)
  | _ => simp [idxE, hd, atI, ixN, hl]
theorem law_plus_q (k : Nat) (p q : Rat) (hp : Bq p) (hq : Bq q) (hW : BIG ≤ W) (S : Store) : run TBL W (k + 2) 61 [dQ p, dQ q] S = .ok (dQ (p + q)) S := by
  have h1 := hp.den
  have h2 := hp.num
  have h3 := hq.den
  have h4 := hq.num
  have d1 := p.den_pos
  have d2 := q.den_pos
  have m1 : p.num.natAbs.log2 + q.den.log2 < 1000000 := by omega
  have m2 : q.num.natAbs.log2 + p.den.log2 < 1000000 := by omega
  have m3 : p.den.log2 + q.den.log2 < 1000000 := by omega
  have hpos : (0 : Int) < (p.den : Int) * (q.den : Int) := Int.mul_pos (by omega) (by omega)
  have hlog : ((p.den : Int) * (q.den : Int)).natAbs.log2 < 9000 := by
    rw [Int.natAbs_mul]
    have := log2_mul_le p.den q.den
    simp only [Int.natAbs_natCast]
    omega
  have e : Rat.divInt (p.num * q.den + q.num * p.den) ((p.den : Int) * (q.den : Int)) = p + q := by
    rw [Rat.divInt_eq_div]
    push_cast
    obtain ⟨a1, a2⟩ := num_den p
    obtain ⟨b1, b2⟩ := num_den q
    rw [a1, b1]
    grind
  rw [run_succ at_61 rfl]
  simp [b__law_plus, dQ, ev_st, ev_all, ev_cst, ev_var, Out.bind, Out.st, SOut.seq, bindK, ps_all, idxE, seqD, atI, ixN, binE, mulE, addE, m1, m2, m3]
  rw [law_low_q k _ _ hpos hlog hW S, e]
  simp [dQ]
theorem law_times_q (k : Nat) (p q : Rat) (hp : Bq p) (hq : Bq q) (hW : BIG ≤ W) (S : Store) : run TBL W (k + 2) 62 [dQ p, dQ q] S = .ok (dQ (p * q)) S := by
  have h1 := hp.den
  have h2 := hp.num
  have h3 := hq.den
  have h4 := hq.num
  have d1 := p.den_pos
  have d2 := q.den_pos
  have m1 : p.num.natAbs.log2 + q.num.natAbs.log2 < 1000000 := by omega
  have m3 : p.den.log2 + q.den.log2 < 1000000 := by omega
  have hpos : (0 : Int) < (p.den : Int) * (q.den : Int) := Int.mul_pos (by omega) (by omega)
  have hlog : ((p.den : Int) * (q.den : Int)).natAbs.log2 < 9000 := by
    rw [Int.natAbs_mul]
    have := log2_mul_le p.den q.den
    simp only [Int.natAbs_natCast]
    omega
  have e : Rat.divInt (p.num * q.num) ((p.den : Int) * (q.den : Int)) = p * q := by
    rw [Rat.divInt_eq_div]
    push_cast
    obtain ⟨a1, a2⟩ := num_den p
    obtain ⟨b1, b2⟩ := num_den q
    rw [a1, b1]
    grind
  rw [run_succ at_62 rfl]
  simp [b__law_times, dQ, ev_st, ev_all, ev_cst, ev_var, Out.bind, Out.st, SOut.seq, bindK, ps_all, idxE, seqD, atI, ixN, binE, mulE, addE, m1, m3]
  rw [law_low_q k _ _ hpos hlog hW S, e]
  simp [dQ]
/-- the bounds that a dot product needs -/
structure DotB (a c : List Rat) : Prop where
  len : a.length = c.length
  sm : a.length ≤ 1000
  pr : ∀ x ∈ a, ∀ y ∈ c, Bq x ∧ Bq y ∧ Bq (x * y)
  su : ∀ n, Bq (dotQ (a.take n) (c.take n))
theorem law_dot_q (k : Nat) (a c : List Rat) (h : DotB a c) (hW : BIG ≤ W) (d d' : D) (S : Store) (hd : seqD S d = some (a.map dQ)) (hd' : seqD S d' = some (c.map dQ)) : run TBL W (k + 3) 63 [d, d'] S = .ok (dQ (dotQ a c)) S := by
  have hB := BIG_gt
  have hl := h.len
  have hs := h.sm
  have hz : ((a.map dQ).zip (c.map dQ)).length = a.length := by simp; omega
  obtain ⟨ρ', S', e, hS, u, v, hρ⟩ : ∃ ρ' S', evC (cxk W (k + 2)) c_law_dot_0 [some d, some d', some (.tup [.int 0, .int 1]), none, none] S = .nx ρ' S' ∧ _ :=
    for_ev (cx := cxk W (k + 2)) (iv := .zp d d') (S1 := S) (items := ((a.map dQ).zip (c.map dQ)).map fun p => D.tup [p.1, p.2])
      (fun n ρ S' => S' = S ∧ ∃ u v, ρ = [some d, some d', some (dQ (dotQ (a.take n) (c.take n))), u, v])
      (by simp [evI, ev_all, ev_var, hd, hd', Out.bind]) (by rw [List.length_map, hz]; show _ < W; omega) ⟨rfl, none, none, rfl⟩ (fun n ρ S' hn hI => by rw [hI.1]; exact next_zp hd hd' (by simpa using hn)) (fun n x ρ S' hx hI => by
        obtain ⟨rfl, u, v, rfl⟩ := hI
        have hn : n < a.length := by
          have := (List.getElem?_eq_some_iff.mp hx).1
          rwa [List.length_map, hz] at this
        have ea : a[n]? = some a[n] := List.getElem?_eq_getElem hn
        have ec : c[n]? = some (c[n]'(by omega)) := List.getElem?_eq_getElem _
        have ma : a[n] ∈ a := List.getElem_mem _
        have mc : c[n]'(by omega) ∈ c := List.getElem_mem _
        generalize a[n] = xa at ea ma
        generalize c[n]'(by omega) = xc at ec mc
        have hx2 : ((a.map dQ).zip (c.map dQ))[n]? = some (dQ xa, dQ xc) := by
          rw [List.getElem?_zip_eq_some]
          exact ⟨by rw [List.getElem?_map, ea]; rfl, by rw [List.getElem?_map, ec]; rfl⟩
        rw [List.getElem?_map, hx2] at hx
        cases hx
        have est : dotQ (a.take (n + 1)) (c.take (n + 1)) = dotQ (a.take n) (c.take n) + xa * xc := by
          rw [List.take_succ, List.take_succ, ea, ec]
          exact dotQ_snoc (by simp only [List.length_take]; omega)
        obtain ⟨b1, b2, b3⟩ := h.pr xa ma xc mc
        have t1 := law_times_q (W := W) k xa xc b1 b2 hW S'
        have t2 := law_plus_q (W := W) k _ _ (h.su n) b3 hW S'
        refine ⟨[some d, some d', some (dQ (dotQ (a.take n) (c.take n))), some (dQ xa), some (dQ xc)], S', [some d, some d', some (dQ (dotQ (a.take (n + 1)) (c.take (n + 1)))), some (dQ xa), some (dQ xc)], S', ?_, ?_, rfl, _, _, rfl⟩
        · simp [ev_st, seqD, Out.bind]
        · rw [est]
          simp only [ev_st, ev_all, ev_cst, ev_var, Out.bind, Out.st, SOut.seq, noExc, bindK, ps_all, List.getElem?_cons_zero, List.getElem?_cons_succ, List.length_cons, List.length_nil, List.set_cons_zero, List.set_cons_succ, List.append_nil]
          simp [t1, t2])
  subst hS hρ
  rw [List.length_map, hz, List.take_of_length_le (Nat.le_refl _), List.take_of_length_le (by omega)] at e
  rw [run_succ at_63 rfl]
  simp only [b__law_dot, ev_st, ev_all, ev_cst, ev_var, Out.bind, Out.st, SOut.seq, noExc, List.map_cons, List.map_nil, List.length_cons, List.length_nil, List.nil_append, List.cons_append, List.replicate, List.set_cons_zero, List.set_cons_succ]
  have hz2 := sizeLine_eq
  simp [hz2]
  rw [e]
  simp
end
end H91

set_option Elab.async false
set_option linter.all false
set_option maxRecDepth 100000
set_option maxHeartbeats 4000000
/-! Q91h: the law's own going along. -/
namespace H91
open Pl PySem PyProof.Rows L2
def dW (w : List Nat) : D := .tup (w.map fun s => .int (s : Nat))
def dSteps (st : List (List (List Rat))) : D := .tup (st.map dMx)
def dM (M : Mc) : D := .tup [.int (M.signs : Nat), .int (M.size : Nat), dR M.begin, dSteps M.steps, dR M.fin]
theorem dot_b {j : Nat} {a c : List Rat} (ha : RowK j a) (hc : Ent c) (hj : j ≤ 197) (hl : a.length = c.length) (h4 : a.length ≤ 4) : DotB a c := by
  refine ⟨hl, by omega, fun x hx y hy => ⟨sm_Bq (ha x hx) (by omega), sm_Bq (ent_sm (hc y hy)) (by omega), ?_⟩, fun n => ?_⟩
  · have := (ha x hx).mul (hc y hy)
    have e : (6 ^ (j + 1) * 6 : Nat) = 6 ^ (j + 2) := (Nat.pow_succ 6 (j + 1)).symm
    rw [e] at this
    refine sm_Bq (this.mono ?_) (show j + 2 ≤ 200 by omega)
    have e2 : (100 ^ (j + 2) : Nat) = 100 ^ (j + 1) * 100 := Nat.pow_succ 100 (j + 1)
    rw [e2]
    exact Nat.mul_le_mul_left _ (by decide)
  · exact sm_Bq (dot_rowK (k := j) (fun q hq => ha q (List.mem_of_mem_take hq)) (fun q hq => hc q (List.mem_of_mem_take hq)) (by simp only [List.length_take]; omega)) (by omega)
section
variable {W : Nat}
theorem col_q (k : Nat) {n j : Nat} (d : Option D) {m : List (List Rat)} (hm : Sq n m) (hj : j < n) (hn : n ≤ 4) (hW : BIG ≤ W) (S : Store) :
    ∃ S2, Ext S S2 ∧ evE (cxk W k) c_law_move_0 [d, some (dMx m), none, some (.int (j : Nat)), none] S = .ok (.ref S2.length) (S2 ++ [.lst ((colQ j m).map dQ)]) := by
  have hB := BIG_gt
  have hl := hm.len
  have hsz := sizeLine_eq
  obtain ⟨S2, L, x, hL, e⟩ : ∃ S2 L, Ext S S2 ∧ L = _ ∧ evE (cxk W k) c_law_move_0 [d, some (dMx m), none, some (.int (j : Nat)), none] S = .ok (.ref S2.length) (S2 ++ [.lst L]) :=
    comp_ev (cx := cxk W k) (S1 := S) (iv := .sq (dMx m)) (items := m.map dR) (g := fun x => match x with
      | .tup ds => ds.getD j .non
      | _ => .non)
      (by simp [evI, ev_all, ev_var, dMx, seqD, Out.bind]) (fun i T _ _ => next_sq (by rfl) i) (fun y hy T _ => by
        obtain ⟨r, hr, rfl⟩ := List.mem_map.mp hy
        have hrl := hm.rows r hr
        have ex : (r.map dQ)[j]? = some (dQ (r[j]'(by omega))) := by rw [List.getElem?_map, List.getElem?_eq_getElem (by omega)]; rfl
        refine ⟨_, T, by rw [asT], ?_, Ext.refl _⟩
        simp [wipeD, ev_st, ev_all, ev_var, Out.bind, dR]
        rw [idx_tup ex]
        rw [List.getElem?_map] at ex
        simp [ex]) (by simp only [List.length_map]; show _ < W; omega) (by simp only [List.length_map]; omega)
  refine ⟨S2, x, ?_⟩
  rw [e, hL]
  congr 3
  rw [List.map_map]
  unfold colQ
  rw [List.map_map]
  congr 1
  refine List.map_congr_left fun r hr => ?_
  have hrl := hm.rows r hr
  have : j < r.length := by omega
  simp [dR, List.getD_eq_getElem?_getD, this]
theorem law_move_q (k : Nat) {n j : Nat} {r : List Rat} {m : List (List Rat)} (hr : RowK j r) (hj : j ≤ 197) (hm : Sq n m) (hrn : r.length = n) (hn : n ≤ 4) (hW : BIG ≤ W) (S : Store) :
    ∃ S', Ext S S' ∧ run TBL W (k + 4) 64 [dR r, dMx m] S = .ok (dR (moveQ r m)) S' := by
  have hB := BIG_gt
  have hsz := sizeLine_eq
  obtain ⟨S2, L, x, hL, e⟩ : ∃ S2 L, Ext S S2 ∧ L = _ ∧ evE (cxk W (k + 3)) c_law_move_1 [some (dR r), some (dMx m), none, none, none] S = .ok (.ref S2.length) (S2 ++ [.lst L]) :=
    comp_ev (cx := cxk W (k + 3)) (S1 := S) (iv := .rg 0 n) (items := (List.range n).map fun (i : Nat) => D.int (0 + i)) (g := fun x => match x with
      | .int i => dQ (dotQ r (colQ i.toNat m))
      | _ => .non)
      (rng1_ev (by simp [ev_all, ev_var, ev_cst, dR, seqD, Out.bind, bltX, insD, bltE, lenE, hrn]) (by omega)) (fun i T _ _ => next_rg) (fun y hy T _ => by
        obtain ⟨i, hi, rfl⟩ := List.mem_map.mp hy
        have hi' : i < n := by simpa using hi
        obtain ⟨T2, x2, e2⟩ := col_q (W := W) (k + 3) (some (dR r)) hm hi' hn hW T
        have e3 := law_dot_q (W := W) k r (colQ i m) (dot_b hr (col_ent hm) hj (by rw [hrn]; unfold colQ; rw [List.length_map, hm.len]) (by omega)) hW (dR r) (.ref T2.length) (T2 ++ [.lst ((colQ i m).map dQ)]) rfl seqD_new
        refine ⟨[some (dR r), some (dMx m), none, some (.int (i : Nat)), none], _, ?_, ?_, x2.snoc (.lst ((colQ i m).map dQ))⟩
        · simp [ev_st, wipeD]
        · simp [ev_all, ev_var, ev_cst, Out.bind, bindK, ps_all]
          rw [e2]
          simp [e3]) (by simp only [List.length_map, List.length_range]; show _ < W; omega) (by simp only [List.length_map, List.length_range]; omega)
  refine ⟨_, x.snoc (.lst L), ?_⟩
  have hL2 : L = (moveQ r m).map dQ := by
    rw [hL, moveQ_col hm, List.map_map, List.map_map]
    refine List.map_congr_left fun i hi => ?_
    simp
  rw [run_succ at_64 rfl]
  simp [b__law_move, ev_st, ev_all, ev_cst, ev_var, Out.bind, Out.st, SOut.seq]
  rw [e]
  simp [bltX_not, tuple_new, dR, hL2]
theorem at_word {w : List Nat} {n : Nat} {x : D} (h : (w.map fun s => D.int (s : Nat))[n]? = some x) : ∃ s, w[n]? = some s ∧ x = .int (s : Nat) := by
  rw [List.getElem?_map] at h
  cases e : w[n]? with
  | none => rw [e] at h; cases h
  | some s => rw [e] at h; cases h; exact ⟨s, rfl, rfl⟩
theorem along_take {M : Mc} {w : List Nat} {n s : Nat} (h : w[n]? = some s) : M.along (w.take (n + 1)) = moveQ (M.along (w.take n)) (M.step s) := by
  rw [List.take_succ, h]
  exact M.along_snoc _ _
theorem step_at {M : Mc} (h : M.Ok) {s : Nat} (hs : s < M.signs) : (M.steps.map dMx)[s]? = some (dMx (M.step s)) := by
  have hl : s < M.steps.length := by rw [h.sl]; exact hs
  unfold Mc.step
  rw [List.getElem?_map, List.getD_eq_getElem?_getD, List.getElem?_eq_getElem hl]
  rfl
theorem law_along_q (k : Nat) {M : Mc} (h : M.Ok) {w : List Nat} (hw : ∀ s ∈ w, s < M.signs) (hl : w.length ≤ 190) (hW : BIG ≤ W) (S : Store) :
    ∃ S', Ext S S' ∧ run TBL W (k + 5) 65 [dM M, dW w] S = .ok (dR (M.along w)) S' := by
  have hB := BIG_gt
  have h4 := h.size4
  obtain ⟨ρ', S', e, x, u, hρ⟩ : ∃ ρ' S', evC (cxk W (k + 4)) c_law_along_0 [some (dM M), some (dW w), some (dR M.begin), none] S = .nx ρ' S' ∧ _ :=
    for_ev (cx := cxk W (k + 4)) (iv := .sq (dW w)) (S1 := S) (items := w.map fun s => D.int (s : Nat))
      (fun n ρ S' => Ext S S' ∧ ∃ u, ρ = [some (dM M), some (dW w), some (dR (M.along (w.take n))), u])
      (by simp [evI, ev_all, ev_var, dW, seqD, Out.bind]) (by rw [List.length_map]; show _ < W; omega) ⟨Ext.refl _, none, rfl⟩ (fun n ρ S' hn hI => next_sq (by rfl) n) (fun n y ρ S' hy hI => by
        obtain ⟨x, u, rfl⟩ := hI
        obtain ⟨s, hs, rfl⟩ := at_word hy
        have hsm : s < M.signs := hw s (List.mem_of_getElem? hs)
        have hwt : ∀ s ∈ w.take n, s < M.signs := fun s hs => hw s (List.mem_of_mem_take hs)
        obtain ⟨q1, q2⟩ := h.along hwt
        obtain ⟨S2, x2, e2⟩ := law_move_q (W := W) k q1 (by simp only [List.length_take]; omega) (h.step hsm) q2 h4 hW S'
        refine ⟨[some (dM M), some (dW w), some (dR (M.along (w.take n))), some (.int (s : Nat))], S', [some (dM M), some (dW w), some (dR (M.along (w.take (n + 1)))), some (.int (s : Nat))], S2, ?_, ?_, x.trans x2, _, rfl⟩
        · simp [ev_st]
        · rw [along_take hs]
          have i1 := idx_tup (ds := M.steps.map dMx) (step_at h hsm) S'
          have i2 : idxE (dM M) (.int 3) S' = .ok (.tup (M.steps.map dMx)) S' := by simp [dM, idxE, seqD, atI, ixN, dSteps]
          simp only [ev_st, ev_all, ev_cst, ev_var, Out.bind, Out.st, SOut.seq, noExc, bindK, ps_all, List.getElem?_cons_zero, List.getElem?_cons_succ, List.length_cons, List.length_nil, List.set_cons_zero, List.set_cons_succ, List.append_nil, i2, i1]
          simp [e2])
  subst hρ
  rw [List.length_map, List.take_of_length_le (Nat.le_refl _)] at e
  refine ⟨S', x, ?_⟩
  have i2 : idxE (dM M) (.int 2) S = .ok (dR M.begin) S := by simp [dM, idxE, seqD, atI, ixN]
  rw [run_succ at_65 rfl]
  simp [b__law_along, ev_st, ev_all, ev_cst, ev_var, Out.bind, Out.st, SOut.seq, noExc, i2]
  rw [e]
  simp
theorem law_worth_q (k : Nat) {M : Mc} (h : M.Ok) {w : List Nat} (hw : ∀ s ∈ w, s < M.signs) (hl : w.length ≤ 190) (hW : BIG ≤ W) (S : Store) :
    ∃ S', Ext S S' ∧ run TBL W (k + 6) 66 [dM M, dW w] S = .ok (dQ (M.worth w)) S' := by
  have hB := BIG_gt
  have h4 := h.size4
  obtain ⟨S', x, e⟩ := law_along_q (W := W) k h hw hl hW S
  obtain ⟨q1, q2⟩ := h.along hw
  have e3 := law_dot_q (W := W) (k + 2) (M.along w) M.fin (dot_b q1 h.fe (by omega) (by rw [q2, h.fl]) (by omega)) hW (dR (M.along w)) (dR M.fin) S' rfl rfl
  have i2 : idxE (dM M) (.int 4) S' = .ok (dR M.fin) S' := by simp [dM, idxE, seqD, atI, ixN]
  refine ⟨S', x, ?_⟩
  rw [run_succ at_66 rfl]
  simp [b__law_worth, ev_st, ev_all, ev_cst, ev_var, Out.bind, Out.st, SOut.seq, noExc, bindK, ps_all]
  rw [e]
  simp [i2]
  rw [e3]
  rfl
end
end H91

set_option Elab.async false
set_option linter.all false
set_option maxRecDepth 100000
set_option maxHeartbeats 4000000
/-! Q91i: what is drawn. -/
namespace H91
open Pl PySem PyProof.Rows L2
/-- the store goes on, t alone is changed -/
structure Fr (t : Nat) (S S' : Store) : Prop where
  len : S.length ≤ S'.length
  get : ∀ i o, i ≠ t → S[i]? = some o → S'[i]? = some o
theorem Fr.refl (t : Nat) (S : Store) : Fr t S S := ⟨Nat.le_refl _, fun _ _ _ h => h⟩
theorem Fr.trans {t : Nat} {S S1 S2 : Store} (a : Fr t S S1) (b : Fr t S1 S2) : Fr t S S2 := ⟨Nat.le_trans a.len b.len, fun i o h e => b.get i o h (a.get i o h e)⟩
theorem Ext.len {S S' : Store} (x : Ext S S') : S.length ≤ S'.length := by
  obtain ⟨T, rfl⟩ := x
  simp
theorem _root_.Pl.Ext.fr {S S' : Store} (t : Nat) (x : Ext S S') : Fr t S S' := ⟨Ext.len x, fun _ _ _ e => x.get e⟩
theorem Fr.snoc {t : Nat} {S S1 : Store} (a : Fr t S S1) (x : O) : Fr t S (S1 ++ [x]) := a.trans ((Ext.refl S1).snoc x |>.fr t)
theorem get_lt {S : Store} {i : Nat} {o : O} (h : S[i]? = some o) : i < S.length := (List.getElem?_eq_some_iff.mp h).1
theorem fr_set {S : Store} (t : Nat) (o : O) : Fr t S (S.set t o) := ⟨by simp, fun i o' hi h => by rw [List.getElem?_set_ne (fun e => hi e.symm)]; exact h⟩
/-- the pot, so many draws behind -/
def PotS (S : Store) (t c : Nat) : Prop := ∃ (a b k : Int), S[t]? = some (.lst [.int a, .int b, .int k]) ∧ 0 ≤ b ∧ b ≤ 10 ^ 28 ∧ 0 ≤ k ∧ k ≤ c
theorem PotS.mono {S : Store} {t c c' : Nat} (h : PotS S t c) (hc : c ≤ c') : PotS S t c' := by
  obtain ⟨a, b, k, h1, h2, h3, h4, h5⟩ := h
  exact ⟨a, b, k, h1, h2, h3, h4, by omega⟩
theorem PotS.ext {S S' : Store} {t c : Nat} (h : PotS S t c) (x : Ext S S') : PotS S' t c := by
  obtain ⟨a, b, k, h1, h2⟩ := h
  exact ⟨a, b, k, x.get h1, h2⟩
section
variable {W : Nat}
theorem log2_lt {n k : Nat} (h : n < 2 ^ k) (hk : 0 < k) : n.log2 < k := by
  by_cases h0 : n = 0
  · subst h0
    have : Nat.log2 0 = 0 := by decide
    omega
  · exact (Nat.log2_lt h0).mpr h
theorem pow_ok {i j : Int} {S : Store} (h : 0 ≤ j ∧ ((i.natAbs.log2 + 1 : Nat) : Int) * j ≤ 134217728) : powE (.int i) (.int j) S = .ok (.int (i ^ j.toNat)) S := if_pos h
theorem mul_small {i j : Int} {S : Store} (h : i.natAbs < 2 ^ 64) : mulE (.int i) (.int j) S = .ok (.int (i * j)) S := if_pos (.inr (.inl h))
theorem set_at {S : Store} {t : Nat} {xs : List D} (h : S[t]? = some (.lst xs)) {j : Nat} (hj : j < xs.length) (d : D) : setE (.ref t) (.int (j : Nat)) d S = .ok () (S.set t (.lst (xs.set j d))) := by
  unfold setE
  simp [h, ixN, hj]
theorem draw_q (k : Nat) {t c m : Nat} {S : Store} (h : PotS S t c) (hc : c < 2 ^ 60) (hm : 0 < m) (hm2 : m < 2 ^ 60) :
    ∃ (j : Nat) (S' : Store), j < m ∧ run TBL W (k + 1) 57 [.ref t, .int (m : Nat)] S = .ok (.int (j : Nat)) S' ∧ PotS S' t (c + 1) ∧ Fr t S S' := by
  obtain ⟨a, b, q, h1, h2, h3, h4, h5⟩ := h
  have ht := get_lt h1
  have hm' : (0 : Int) < (m : Int) := by omega
  have hml : m.log2 < 9000 := by
    have := log2_lt hm2 (by decide)
    omega
  have hs : seqD S (.ref t) = some [.int a, .int b, .int q] := seq_of h1
  have i0 : idxE (.ref t) (.int 0) S = .ok (.int a) S := by simp [idxE, hs, atI, ixN]
  by_cases ha : 0 < a
  · refine ⟨(a % m).toNat, S.set t (.lst [.int (a / m), .int b, .int q]), ?_, ?_, ⟨a / m, b, q, by rw [List.getElem?_set_self ht], h2, h3, h4, by omega⟩, fr_set t _⟩
    · have := Int.emod_nonneg a (show (m : Int) ≠ 0 by omega)
      have := Int.emod_lt_of_pos a hm'
      omega
    · have hn := Int.emod_nonneg a (show (m : Int) ≠ 0 by omega)
      have e : ((a % m).toNat : Int) = a % m := by omega
      have es := set_at h1 (j := 0) (by simp) (.int (a / m))
      rw [run_succ at_57 rfl]
      simp [b__law_draw, ev_st, ev_all, ev_cst, ev_var, Out.bind, Out.st, SOut.seq, noExc, i0, cmpE, ordE, ha, onBlS, bltX_not, bltE, intE, binE, modE, fdivE, hm', hml, asT, e, hm]
      simp at es
      simp [es, ev_all, ev_var, Out.bind, Out.st]
  · have i2 : idxE (.ref t) (.int 2) S = .ok (.int q) S := by simp [idxE, hs, atI, ixN]
    have es : setE (.ref t) (.int 2) (.int (q + 1)) S = .ok () (S.set t (.lst [.int a, .int b, .int (q + 1)])) := set_at h1 (j := 2) (by simp) (.int (q + 1))
    have h1' : (S.set t (.lst [.int a, .int b, .int (q + 1)]))[t]? = some (.lst [.int a, .int b, .int (q + 1)]) := by rw [List.getElem?_set_self ht]
    have hs' := seq_of h1'
    generalize hS1 : S.set t (.lst [.int a, .int b, .int (q + 1)]) = S1 at es h1' hs'
    have i1' : idxE (.ref t) (.int 1) S1 = .ok (.int b) S1 := by simp [idxE, hs', atI, ixN]
    have i2' : idxE (.ref t) (.int 2) S1 = .ok (.int (q + 1)) S1 := by simp [idxE, hs', atI, ixN]
    have b1 : (b + 611953 * (q + 1)).natAbs < 2 ^ 100 := by
      have e1 : (10 : Int) ^ 28 < 2 ^ 94 := by decide
      have e2 : ((2 : Nat) ^ 100) = 1267650600228229401496703205376 := by decide
      have e3 : (2 : Int) ^ 94 = 19807040628566084398385987584 := by decide
      have e4 : (2 : Nat) ^ 60 = 1152921504606846976 := by decide
      omega
    have b2 := log2_lt b1 (by decide)
    have hpow : (0 : Int) ≤ 2 ∧ ((((b + 611953 * (q + 1)).natAbs.log2 + 1 : Nat) : Int)) * 2 ≤ 134217728 := by omega
    have hp26 : powE (.int 10) (.int 26) S1 = .ok (.int (10 ^ 26)) S1 := pow_ok (by decide +kernel)
    have hp2 : powE (.int (b + 611953 * (q + 1))) (.int 2) S1 = .ok (.int ((b + 611953 * (q + 1)) ^ 2)) S1 := pow_ok hpow
    generalize hv : ((b + 611953 * (q + 1)) ^ 2 + 13 * (q + 1)) % (10 ^ 26 + 67) / 100003 = v
    refine ⟨(v % m).toNat, S1, ?_, ?_, ⟨a, b, q + 1, h1', h2, h3, by omega, by omega⟩, by rw [← hS1]; exact fr_set t _⟩
    · have := Int.emod_nonneg v (show (m : Int) ≠ 0 by omega)
      have := Int.emod_lt_of_pos v hm'
      omega
    · have hn := Int.emod_nonneg v (show (m : Int) ≠ 0 by omega)
      have e : ((v % m).toNat : Int) = v % m := by omega
      have l1 : (100003 : Int).natAbs.log2 < 9000 := by decide +kernel
      have c1 : (0 : Int) < 10 ^ 26 + 67 := by decide
      have m1 : mulE (.int 611953) (.int (q + 1)) S1 = .ok (.int (611953 * (q + 1))) S1 := mul_small (by decide)
      have m2 : mulE (.int 13) (.int (q + 1)) S1 = .ok (.int (13 * (q + 1))) S1 := mul_small (by decide)
      rw [run_succ at_57 rfl]
      simp only [b__law_draw, ev_st, ev_all, ev_cst, ev_var, Out.bind, Out.st, SOut.seq, noExc, List.map_cons, List.map_nil, List.length_cons, List.length_nil, List.nil_append, List.cons_append, List.replicate, List.getElem?_cons_zero, List.getElem?_cons_succ, i0, cmpE, ordE, ha, decide_false, onBlS, Bool.false_eq_true, if_false, i2, binE, addE, asT, es, List.set_cons_succ, List.set_cons_zero]
      simp only [i1', i2', m1, m2, hp2, hp26, List.getElem?_cons_zero, List.getElem?_cons_succ, List.set_cons_succ, List.set_cons_zero, ev_var, bltX_not (show Blt.int ≠ Blt.len by decide), bltE, intE, modE, fdivE, c1, if_true, and_self, l1, show (0 : Int) < 100003 by decide, hv, hm', e]
theorem fraction_q (k : Nat) {t c : Nat} {S : Store} (h : PotS S t c) (hc : c + 3 < 2 ^ 60) (hW : BIG ≤ W) :
    ∃ (q : Rat) (S' : Store), Sm 6 24 q ∧ run TBL W (k + 2) 67 [.ref t] S = .ok (dQ q) S' ∧ PotS S' t (c + 3) ∧ Fr t S S' := by
  have hsz := sizeLine_eq
  obtain ⟨j, S1, hj, e1, p1, f1⟩ := draw_q (W := W) k (m := 6) h (by omega) (by decide) (by decide)
  by_cases h4 : j < 4
  · have hj4 : (j : Int) < 4 := by omega
    have hp : ∃ q, Sm 6 24 q ∧ ([D.tup [.int 0, .int 1], .tup [.int 1, .int 1], .tup [.int (-1), .int 1], .tup [.int 0, .int 1]])[j]? = some (dQ q) := by
      match j, h4 with
      | 0, _ => exact ⟨0, Sm.zero _ _, by simp [dQ]⟩
      | 1, _ => exact ⟨1, ⟨6, by decide +kernel, by decide⟩, by simp [dQ]⟩
      | 2, _ => exact ⟨-1, ⟨-6, by decide +kernel, by decide⟩, by simp [dQ]⟩
      | 3, _ => exact ⟨0, Sm.zero _ _, by simp [dQ]⟩
    obtain ⟨q, hq, eq⟩ := hp
    refine ⟨q, S1 ++ [.lst [D.tup [.int 0, .int 1], .tup [.int 1, .int 1], .tup [.int (-1), .int 1], .tup [.int 0, .int 1]]], hq, ?_, (p1.mono (show c + 1 ≤ c + 3 by omega)).ext ((Ext.refl S1).snoc _), f1.snoc _⟩
    · have hl := (List.getElem?_eq_some_iff.mp eq).1
      have ei : ∀ (ds : List D), ds[j]? = some (dQ q) → idxE (.ref S1.length) (.int (j : Nat)) (S1 ++ [.lst ds]) = .ok (dQ q) (S1 ++ [.lst ds]) := fun ds hds => by
        exact idx_seq seqD_new (by simp) hds
      rw [run_succ at_67 rfl]
      simp only [b__law_fraction, ev_st, ev_all, ev_cst, ev_var, Out.bind, Out.st, SOut.seq, noExc, List.map_cons, List.map_nil, List.length_cons, List.length_nil, List.nil_append, List.cons_append, List.replicate, List.getElem?_cons_zero, List.getElem?_cons_succ, bindK, ps_all]
      simp only [show (6 : Int) = ((6 : Nat) : Int) from rfl, e1]
      simp [cmpE, ordE, hj4, onBlS, hsz]
      rw [ei _ eq]
  · obtain ⟨u, S2, hu, e2, p2, f2⟩ := draw_q (W := W) k (m := 9) p1 (by omega) (by decide) (by decide)
    obtain ⟨v, S3, hv, e3, p3, f3⟩ := draw_q (W := W) k (m := 3) p2 (by omega) (by decide) (by decide)
    have hj4 : ¬ (j : Int) < 4 := by omega
    have hb : (0 : Int) < 1 + (v : Int) := by omega
    have hlb : (1 + (v : Int)).natAbs.log2 < 9000 := by
      have : (1 + (v : Int)).natAbs < 2 ^ 3 := by omega
      have := log2_lt this (by decide)
      omega
    refine ⟨Rat.divInt ((u : Int) - 4) (1 + (v : Int)), S3, ?_, ?_, p3, f1.trans (f2.trans f3)⟩
    · have hv3 : (1 + (v : Int)).natAbs = 1 ∨ (1 + (v : Int)).natAbs = 2 ∨ (1 + (v : Int)).natAbs = 3 := by omega
      refine Sm.divInt hb ?_ ?_
      · rcases hv3 with e | e | e <;> rw [e] <;> decide
      · have hu4 : ((u : Int) - 4).natAbs ≤ 4 := by omega
        have : 6 / (1 + (v : Int)).natAbs ≤ 6 := Nat.div_le_self _ _
        exact Nat.mul_le_mul hu4 this
    · have el := law_low_q (W := W) k ((u : Int) - 4) (1 + (v : Int)) hb hlb hW S3
      rw [run_succ at_67 rfl]
      simp only [b__law_fraction, ev_st, ev_all, ev_cst, ev_var, Out.bind, Out.st, SOut.seq, noExc, List.map_cons, List.map_nil, List.length_cons, List.length_nil, List.nil_append, List.cons_append, List.replicate, List.getElem?_cons_zero, List.getElem?_cons_succ, bindK, ps_all]
      simp only [show (6 : Int) = ((6 : Nat) : Int) from rfl, e1]
      simp [cmpE, ordE, hj4, onBlS]
      simp only [show (9 : Int) = ((9 : Nat) : Int) from rfl, e2]
      simp [binE, subE]
      simp only [show (3 : Int) = ((3 : Nat) : Int) from rfl, e3]
      simp [binE, addE, el]
theorem row_q (k : Nat) {t c n : Nat} {S : Store} (h : PotS S t c) (hc : c + 12 < 2 ^ 60) (hn : n ≤ 4) (hW : BIG ≤ W) :
    ∃ (r : List Rat) (S' : Store), Ent r ∧ r.length = n ∧ run TBL W (k + 3) 68 [.ref t, .int (n : Nat)] S = .ok (dR r) S' ∧ PotS S' t (c + 12) ∧ Fr t S S' := by
  have hB := BIG_gt
  have hsz := sizeLine_eq
  obtain ⟨S2, L, ⟨r, hL, hr, he, hp, hf⟩, e⟩ : ∃ S2 L, _ ∧ evE (cxk W (k + 2)) c_law_row_0 [some (.ref t), some (.int (n : Nat)), none, none] S = .ok (.ref S2.length) (S2 ++ [.lst L]) :=
    comp_inv (cx := cxk W (k + 2)) (S1 := S) (iv := .rg 0 n) (items := (List.range n).map fun (i : Nat) => D.int (0 + i))
      (fun i acc T => ∃ r : List Rat, acc = r.map dQ ∧ r.length = i ∧ Ent r ∧ PotS T t (c + 3 * i) ∧ Fr t S T)
      (rng1_ev (by simp [ev_all, ev_var, ev_cst, Out.bind]) (by omega)) ⟨[], rfl, rfl, (fun q hq => by cases hq), h, Fr.refl _ _⟩ (fun i acc T _ _ => next_rg) (fun i d acc T hd hI => by
        obtain ⟨r, rfl, hr, he, hp, hf⟩ := hI
        have hi : i < n := by
          have := (List.getElem?_eq_some_iff.mp hd).1
          simpa using this
        obtain ⟨q, S', hq, eq, hp', hf'⟩ := fraction_q (W := W) k hp (by omega) hW
        refine ⟨by simp only [List.length_map]; omega, [some (.ref t), some (.int (n : Nat)), none, some d], dQ q, S', by simp [ev_st, wipeD], ?_, r ++ [q], by simp, by simp [hr], ?_, hp'.mono (by omega), hf.trans hf'⟩
        · simp [ev_all, ev_var, ev_cst, Out.bind, bindK, ps_all, eq]
        · intro x hx
          rcases List.mem_append.mp hx with q1 | q1
          · exact he x q1
          · simp at q1; subst q1; exact hq) (by simp only [List.length_map, List.length_range]; show _ < W; omega)
  simp only [List.length_map, List.length_range] at hr hp
  refine ⟨r, S2 ++ [.lst L], he, hr, ?_, (hp.mono (by omega)).ext ((Ext.refl S2).snoc _), hf.snoc _⟩
  rw [run_succ at_68 rfl]
  simp [b__law_row, ev_st, ev_all, ev_cst, ev_var, Out.bind, Out.st, SOut.seq]
  rw [e]
  simp [bltX_not, tuple_new, dR, hL]
theorem mat_q (k : Nat) {t c n : Nat} (d1 d3 d5 d6 d7 : Option D) {S : Store} (h : PotS S t c) (hc : c + 48 < 2 ^ 60) (hn : n ≤ 4) (hW : BIG ≤ W) :
    ∃ (m : List (List Rat)) (S' : Store), Sq n m ∧ evE (cxk W (k + 3)) (.blt .tuple (.cons c_law_machine_0 .nil)) [some (.ref t), d1, some (.int (n : Nat)), d3, none, d5, d6, d7] S = .ok (dMx m) S' ∧ PotS S' t (c + 48) ∧ Fr t S S' := by
  have hB := BIG_gt
  have hsz := sizeLine_eq
  obtain ⟨S2, L, ⟨m, hL, hm, he, hp, hf⟩, e⟩ : ∃ S2 L, _ ∧ evE (cxk W (k + 3)) c_law_machine_0 [some (.ref t), d1, some (.int (n : Nat)), d3, none, d5, d6, d7] S = .ok (.ref S2.length) (S2 ++ [.lst L]) :=
    comp_inv (cx := cxk W (k + 3)) (S1 := S) (iv := .rg 0 n) (items := (List.range n).map fun (i : Nat) => D.int (0 + i))
      (fun i acc T => ∃ m : List (List Rat), acc = m.map dR ∧ m.length = i ∧ (∀ r ∈ m, Ent r ∧ r.length = n) ∧ PotS T t (c + 12 * i) ∧ Fr t S T)
      (rng1_ev (by simp [ev_all, ev_var, ev_cst, Out.bind]) (by omega)) ⟨[], rfl, rfl, (fun q hq => by cases hq), h, Fr.refl _ _⟩ (fun i acc T _ _ => next_rg) (fun i d acc T hd hI => by
        obtain ⟨m, rfl, hr, he, hp, hf⟩ := hI
        have hi : i < n := by
          have := (List.getElem?_eq_some_iff.mp hd).1
          simpa using this
        obtain ⟨r, S', hq, hq2, eq, hp', hf'⟩ := row_q (W := W) k (n := n) hp (by omega) hn hW
        refine ⟨by simp only [List.length_map]; omega, [some (.ref t), d1, some (.int (n : Nat)), d3, none, none, d6, some d], dR r, S', by simp [ev_st, wipeD], ?_, m ++ [r], by simp, by simp [hr], ?_, hp'.mono (by omega), hf.trans hf'⟩
        · simp [ev_all, ev_var, ev_cst, Out.bind, bindK, ps_all, eq]
        · intro x hx
          rcases List.mem_append.mp hx with q1 | q1
          · exact he x q1
          · simp at q1; subst q1; exact ⟨hq, hq2⟩) (by simp only [List.length_map, List.length_range]; show _ < W; omega)
  simp only [List.length_map, List.length_range] at hm hp
  refine ⟨m, S2 ++ [.lst L], ⟨hm, fun r hr => (he r hr).2, fun r hr => (he r hr).1⟩, ?_, (hp.mono (by omega)).ext ((Ext.refl S2).snoc _), hf.snoc _⟩
  simp [ev_all, ev_cst, Out.bind]
  rw [e]
  simp [bltX_not, tuple_new, dMx, hL]
theorem machine_q (k : Nat) {t c g n : Nat} {S : Store} (h : PotS S t c) (hc : c + 300 < 2 ^ 60) (hg1 : 1 ≤ g) (hg : g ≤ 4) (hn : n ≤ 4) (hW : BIG ≤ W) :
    ∃ (M : Mc) (S' : Store), M.Ok ∧ M.signs = g ∧ M.size = n ∧ run TBL W (k + 4) 69 [.ref t, .int (g : Nat), .int (n : Nat)] S = .ok (dM M) S' ∧ PotS S' t (c + 300) ∧ Fr t S S' := by
  have hB := BIG_gt
  have hsz := sizeLine_eq
  obtain ⟨b, S1, hb, hbl, e1, p1, f1⟩ := row_q (W := W) k (n := n) h (by omega) hn hW
  obtain ⟨S2, L, ⟨st, hL, hst, he, hp, hf⟩, e⟩ : ∃ S2 L, _ ∧ evE (cxk W (k + 3)) c_law_machine_1 [some (.ref t), some (.int (g : Nat)), some (.int (n : Nat)), some (dR b), none, none, none, none] S1 = .ok (.ref S2.length) (S2 ++ [.lst L]) :=
    comp_inv (cx := cxk W (k + 3)) (S1 := S1) (iv := .rg 0 g) (items := (List.range g).map fun (i : Nat) => D.int (0 + i))
      (fun i acc T => ∃ m : List (List (List Rat)), acc = m.map dMx ∧ m.length = i ∧ (∀ r ∈ m, Sq n r) ∧ PotS T t (c + 12 + 48 * i) ∧ Fr t S1 T)
      (rng1_ev (by simp [ev_all, ev_var, ev_cst, Out.bind]) (by omega)) ⟨[], rfl, rfl, (fun q hq => by cases hq), p1, Fr.refl _ _⟩ (fun i acc T _ _ => next_rg) (fun i d acc T hd hI => by
        obtain ⟨m, rfl, hr, he, hp, hf⟩ := hI
        have hi : i < g := by
          have := (List.getElem?_eq_some_iff.mp hd).1
          simpa using this
        obtain ⟨r, S', hq, eq, hp', hf'⟩ := mat_q (W := W) k (n := n) (some (.int (g : Nat))) (some (dR b)) none (some d) none hp (by omega) hn hW
        refine ⟨by simp only [List.length_map]; omega, [some (.ref t), some (.int (g : Nat)), some (.int (n : Nat)), some (dR b), none, none, some d, none], dMx r, S', by simp [ev_st, wipeD], eq, m ++ [r], by simp, by simp [hr], ?_, hp'.mono (by omega), hf.trans hf'⟩
        · intro x hx
          rcases List.mem_append.mp hx with q1 | q1
          · exact he x q1
          · simp at q1; subst q1; exact hq) (by simp only [List.length_map, List.length_range]; show _ < W; omega)
  simp only [List.length_map, List.length_range] at hst hp
  subst hL
  obtain ⟨fi, S3, hfi, hfl, e3, p3, f3⟩ := row_q (W := W) k (n := n) (hp.ext ((Ext.refl S2).snoc (.lst (st.map dMx)))) (by omega) hn hW
  refine ⟨⟨g, n, b, st, fi⟩, S3, ⟨hn, hg, hg1, hbl, hb, hst, he, hfl, hfi⟩, rfl, rfl, ?_, p3.mono (by omega), f1.trans ((hf.snoc _).trans f3)⟩
  rw [run_succ at_69 rfl]
  simp [b__law_machine, ev_st, ev_all, ev_cst, ev_var, Out.bind, Out.st, SOut.seq, noExc, bindK, ps_all, e1]
  rw [e]
  simp [bltX_not, tuple_new, e3, hsz, dM, dSteps]
theorem word_q (k : Nat) {t c g m : Nat} {S : Store} (h : PotS S t c) (hc : c + 20 < 2 ^ 60) (hg1 : 1 ≤ g) (hg : g ≤ 4) (hm : m ≤ 10) (hW : BIG ≤ W) :
    ∃ (w : List Nat) (S' : Store), (∀ s ∈ w, s < g) ∧ w.length ≤ m ∧ run TBL W (k + 2) 70 [.ref t, .int (g : Nat), .int (m : Nat)] S = .ok (dW w) S' ∧ PotS S' t (c + 20) ∧ Fr t S S' := by
  have hB := BIG_gt
  have hsz := sizeLine_eq
  obtain ⟨n, S1, hn, e1, p1, f1⟩ := draw_q (W := W) k (m := m + 1) h (by omega) (by omega) (by omega)
  have e60 : (2 : Nat) ^ 60 = 1152921504606846976 := by decide
  obtain ⟨S2, L, ⟨w, hL, hw, he, hp, hf⟩, e⟩ : ∃ S2 L, _ ∧ evE (cxk W (k + 1)) c_law_word_0 [some (.ref t), some (.int (g : Nat)), some (.int (m : Nat)), none, none] S = .ok (.ref S2.length) (S2 ++ [.lst L]) :=
    comp_inv (cx := cxk W (k + 1)) (S1 := S1) (iv := .rg 0 n) (items := (List.range n).map fun (i : Nat) => D.int (0 + i))
      (fun i acc T => ∃ w : List Nat, acc = (w.map fun s => D.int (s : Nat)) ∧ w.length = i ∧ (∀ s ∈ w, s < g) ∧ PotS T t (c + 1 + i) ∧ Fr t S T)
      (rng1_ev (S1 := S1) (n := n) (by
        simp [ev_all, ev_var, ev_cst, Out.bind, bindK, ps_all, binE, addE]
        simp only [show ((m : Int) + 1) = ((m + 1 : Nat) : Int) from rfl, e1]) (by omega)) ⟨[], rfl, rfl, (fun q hq => by cases hq), p1, f1⟩ (fun i acc T _ _ => next_rg) (fun i d acc T hd hI => by
        obtain ⟨w, rfl, hr, he, hp, hf⟩ := hI
        have hi : i < n := by
          have := (List.getElem?_eq_some_iff.mp hd).1
          simpa using this
        obtain ⟨s, S', hs, eq, hp', hf'⟩ := draw_q (W := W) k (m := g) hp (by omega) (by omega) (by omega)
        refine ⟨by simp only [List.length_map]; omega, [some (.ref t), some (.int (g : Nat)), some (.int (m : Nat)), none, some d], .int (s : Nat), S', by simp [ev_st, wipeD], ?_, w ++ [s], by simp, by simp [hr], ?_, hp'.mono (by omega), hf.trans hf'⟩
        · simp [ev_all, ev_var, ev_cst, Out.bind, bindK, ps_all, eq]
        · intro x hx
          rcases List.mem_append.mp hx with q1 | q1
          · exact he x q1
          · simp at q1; subst q1; exact hs) (by simp only [List.length_map, List.length_range]; show _ < W; omega)
  simp only [List.length_map, List.length_range] at hw hp
  refine ⟨w, S2 ++ [.lst L], he, by omega, ?_, (hp.mono (by omega)).ext ((Ext.refl S2).snoc _), hf.snoc _⟩
  rw [run_succ at_70 rfl]
  simp [b__law_word, ev_st, ev_all, ev_cst, ev_var, Out.bind, Out.st, SOut.seq]
  rw [e]
  simp [bltX_not, tuple_new, dW, hL]
end
end H91

set_option Elab.async false
set_option linter.all false
set_option maxRecDepth 100000
set_option maxHeartbeats 4000000
/-! Q91j: fields, the checks of machines, a row by the Mover. -/
namespace H91
open Pl PySem PyProof.Rows L2
section
variable {W : Nat}
theorem ins_of {S : Store} {i c : Nat} {fs : List (Str × D)} (h : S[i]? = some (.ins c fs)) : insD S (.ref i) = some (i, c, fs) := by
  show (match S[i]? with
    | some (.ins c fs) => some (i, c, fs)
    | _ => none) = _
  rw [h]
theorem fld_read {k i c : Nat} {e : E} {ρ : Slots} {S S1 : Store} {fs : List (Str × D)} {f : Str} {d : D} (he : evE (cxk W k) e ρ S = .ok (.ref i) S1) (hi : S1[i]? = some (.ins c fs)) (h1 : TBL.inst c = true) (h2 : propOf TBL c f = none) (h3 : methOf TBL c f = none) (h4 : TBL.flds.contains f = true) (h5 : fs.lookup f = some d) :
    evE (cxk W k) (.fld e f) ρ S = .ok d S1 := by
  rw [evE, he]
  simp only [Out.bind, ins_of hi, h1, if_true, h2, h3, h4, h5]
theorem fld_prop {k i c g : Nat} {e : E} {ρ : Slots} {S S1 : Store} {fs : List (Str × D)} {f : Str} (he : evE (cxk W k) e ρ S = .ok (.ref i) S1) (hi : S1[i]? = some (.ins c fs)) (h1 : TBL.inst c = true) (h2 : propOf TBL c f = some g) :
    evE (cxk W k) (.fld e f) ρ S = noExc ((run2 TBL W k).2.1 g [.ref i] S1) := by
  rw [evE, he]
  simp only [Out.bind, ins_of hi, h1, if_true, h2]
theorem mth_call {k i c g : Nat} {e : E} {es kes : Es} {ks : List Str} {ρ : Slots} {S S1 S2 S3 : Store} {fs : List (Str × D)} {m : Str} {ds zs : List D} (he : evE (cxk W k) e ρ S = .ok (.ref i) S1) (hi : S1[i]? = some (.ins c fs)) (h1 : TBL.inst c = true) (h2 : methOf TBL c m = some g) (h3 : fs.lookup m = none)
    (h4 : evEs (cxk W k) es ρ S1 = .ok ds S2) (h5 : evEs (cxk W k) kes ρ S2 = .ok zs S3) (h6 : bindK (psOf TBL g) ks zs.length (ds.length + zs.length + 1) = true) :
    evE (cxk W k) (.mth e m es ks kes) ρ S = run TBL W k g (.ref i :: (ds ++ zs)) S3 := by
  rw [evE, he]
  simp only [Out.bind, ins_of hi, h1, if_true, h2, h3, h4, h5]
  rw [if_pos h6]
theorem as_fld (cx : Pl.Ctx) : (∀ o f d ρ S, asT cx (.fld o f) d ρ S = (evE cx o ρ S).bind fun x S => match insD S x with
    | some (i, c, fs) => if cx.tb.inst c = true then (match propOf cx.tb c f, methOf cx.tb c f with
      | none, none => if fs.length < 1000 then .ok ρ (S.set i (.ins c (putD f d fs))) else .bad
      | _, _ => .bad) else .bad
    | none => .bad) ∧ (∀ o i d ρ S, asT cx (.idx o i) d ρ S = (evE cx o ρ S).bind fun x S => (evE cx i ρ S).bind fun y S => (setE x y d S).bind fun _ S => .ok ρ S) := by
  refine ⟨?_, ?_⟩ <;> intros <;> rw [asT] <;> rfl
theorem fld_set {k i c : Nat} {e : E} {ρ : Slots} {S S1 : Store} {fs : List (Str × D)} {f : Str} (d : D) (he : evE (cxk W k) e ρ S = .ok (.ref i) S1) (hi : S1[i]? = some (.ins c fs)) (h1 : TBL.inst c = true) (h2 : propOf TBL c f = none) (h3 : methOf TBL c f = none) (h4 : fs.length < 1000) :
    asT (cxk W k) (.fld e f) d ρ S = .ok ρ (S1.set i (.ins c (putD f d fs))) := by
  rw [asT, he]
  simp only [Out.bind, ins_of hi, h1, if_true, h2, h3]
  rw [if_pos h4]
/-! ### the checks of machines -/
theorem steps_fault_q (k : Nat) {M : Mc} (h : M.Ok) (hW : BIG ≤ W) (S : Store) : ∃ S', Ext S S' ∧ run TBL W (k + 6) 24 [.int (M.signs : Nat), .int (M.size : Nat), dSteps M.steps] S = .ok .non S' := by
  have hB := BIG_gt
  have h4 := h.size4
  have hs4 := h.signs4
  have hl := h.sl
  have hz : ((M.steps.map dMx).zipIdx.map fun p => D.tup [.int (p.2 : Nat), p.1]).length = M.signs := by simp [hl]
  obtain ⟨ρ', S', e, x, u, v, hρ⟩ : ∃ ρ' S', evC (cxk W (k + 5)) c_steps_fault_0 [some (.int (M.signs : Nat)), some (.int (M.size : Nat)), some (dSteps M.steps), none, none] S = .nx ρ' S' ∧ _ :=
    for_ev (cx := cxk W (k + 5)) (iv := .en (dSteps M.steps)) (S1 := S) (items := (M.steps.map dMx).zipIdx.map fun p => D.tup [.int (p.2 : Nat), p.1])
      (fun n ρ S' => Ext S S' ∧ ∃ u v, ρ = [some (.int (M.signs : Nat)), some (.int (M.size : Nat)), some (dSteps M.steps), u, v])
      (by simp [evI, ev_all, ev_var, dSteps, seqD, Out.bind]) (by rw [hz]; show _ < W; omega) ⟨Ext.refl _, none, none, rfl⟩ (fun n ρ S' hn hI => next_en (by rfl) (by simpa using hn)) (fun n y ρ S' hy hI => by
        obtain ⟨x, u, v, rfl⟩ := hI
        have hn : n < M.signs := by
          have := (List.getElem?_eq_some_iff.mp hy).1
          rwa [hz] at this
        have hm : M.steps[n]'(by omega) ∈ M.steps := List.getElem_mem _
        have hy' : y = .tup [.int (n : Nat), dMx (M.steps[n]'(by omega))] := by
          rw [List.getElem?_eq_getElem (by rw [hz]; omega)] at hy
          have := Option.some.inj hy
          rw [← this]
          simp
        generalize M.steps[n]'(by omega) = m at hm hy'
        subst hy'
        have hq := h.sq m hm
        obtain ⟨S2, e2, x2⟩ := is_matrix_q (W := W) (by omega) k (M.size : Nat) m (by rw [hq.len]) (fun r hr => by rw [hq.rows r hr]) (by rw [hq.len]; omega) S'
        refine ⟨[some (.int (M.signs : Nat)), some (.int (M.size : Nat)), some (dSteps M.steps), some (.int (n : Nat)), some (dMx m)], S', [some (.int (M.signs : Nat)), some (.int (M.size : Nat)), some (dSteps M.steps), some (.int (n : Nat)), some (dMx m)], S2, ?_, ?_, x.trans x2, _, _, rfl⟩
        · simp [ev_st, seqD, Out.bind]
        · simp [ev_st, ev_all, ev_cst, ev_var, Out.bind, Out.st, SOut.seq, noExc, bindK, ps_all, e2, onBl_bl, onBlS_bl])
  subst hρ
  refine ⟨S', x, ?_⟩
  rw [run_succ at_24 rfl]
  have hlen : (dSteps M.steps) = .tup (M.steps.map dMx) := rfl
  have ht := is_tuple_n (W := W) (k + 4) (M.signs : Nat) (M.steps.map dMx) S
  simp [hl] at ht
  simp [b_steps_fault, ev_st, ev_all, ev_cst, ev_var, Out.bind, Out.st, SOut.seq, noExc, bindK, ps_all, hlen, ht, onBl_bl, onBlS_bl]
  rw [← hlen, e]
theorem machine_fault_q (k : Nat) {M : Mc} (h : M.Ok) (hW : BIG ≤ W) (S : Store) : ∃ S', Ext S S' ∧ run TBL W (k + 7) 25 [dM M] S = .ok .non S' := by
  have hB := BIG_gt
  have h4 := h.size4
  have hs1 := h.signs1
  obtain ⟨S1, e1, x1⟩ := is_row_q (W := W) (by omega) (k + 2) (M.size : Nat) M.begin (by rw [h.bl]) (by rw [h.bl]; omega) S
  obtain ⟨S2, x2, e2⟩ := steps_fault_q (W := W) k h hW S1
  obtain ⟨S3, e3, x3⟩ := is_row_q (W := W) (by omega) (k + 2) (M.size : Nat) M.fin (by rw [h.fl]) (by rw [h.fl]; omega) S2
  refine ⟨S3, x1.trans (x2.trans x3), ?_⟩
  have ht := is_tuple_n (W := W) (k + 5) 5 [.int (M.signs : Nat), .int (M.size : Nat), dR M.begin, dSteps M.steps, dR M.fin] S
  have f1 := is_from_int (W := W) (k + 4) 1 (M.signs : Nat) S
  have f2 := is_from_int (W := W) (k + 4) 0 (M.size : Nat) S
  have q1 : (1 : Int) ≤ (M.signs : Nat) := by omega
  rw [run_succ at_25 rfl]
  simp at ht
  simp [b_machine_fault, dM, ev_st, ev_all, ev_cst, ev_var, Out.bind, Out.st, SOut.seq, noExc, bindK, ps_all, ht, f1, f2, q1, hs1, seqD, onBl_bl, onBlS_bl, e1, e2, e3, isNon]
theorem is_machine_q (k : Nat) {M : Mc} (h : M.Ok) (hW : BIG ≤ W) (S : Store) : ∃ S', Ext S S' ∧ run TBL W (k + 8) 26 [dM M] S = .ok (.bl true) S' := by
  obtain ⟨S1, x1, e1⟩ := machine_fault_q (W := W) k h hW S
  refine ⟨S1, x1, ?_⟩
  rw [run_succ at_26 rfl]
  simp [b_is_machine, ev_st, ev_all, ev_cst, ev_var, Out.bind, Out.st, SOut.seq, bindK, ps_all, e1, isNon]
theorem check_machine_q (k : Nat) {M : Mc} (h : M.Ok) (hW : BIG ≤ W) (S : Store) : ∃ S', Ext S S' ∧ run TBL W (k + 8) 27 [dM M] S = .ok .non S' := by
  obtain ⟨S1, x1, e1⟩ := machine_fault_q (W := W) k h hW S
  refine ⟨S1, x1, ?_⟩
  rw [run_succ at_27 rfl]
  simp [b_check_machine, ev_st, ev_all, ev_cst, ev_var, Out.bind, Out.st, SOut.seq, noExc, bindK, ps_all, e1, isNon, onBlS_bl]
theorem dM_at (M : Mc) (S : Store) : idxE (dM M) (.int 0) S = .ok (.int (M.signs : Nat)) S ∧ idxE (dM M) (.int 2) S = .ok (dR M.begin) S ∧ idxE (dM M) (.int 3) S = .ok (dSteps M.steps) S ∧ idxE (dM M) (.int 4) S = .ok (dR M.fin) S := by
  refine ⟨?_, ?_, ?_, ?_⟩ <;> simp [dM, idxE, seqD, atI, ixN]
theorem need_alike_q (k : Nat) (M : Mc) (S : Store) : run TBL W (k + 1) 28 [.int (M.signs : Nat), dM M] S = .ok .non S := by
  rw [run_succ at_28 rfl]
  simp [b_need_alike_signs, ev_st, ev_all, ev_cst, ev_var, Out.bind, Out.st, SOut.seq, (dM_at M S).1, cmpE, eqE, eqD, onBlS_bl]
/-- machines of so many signs -/
def Mcs (g : Nat) (ms : List Mc) : Prop := ∀ M ∈ ms, M.Ok ∧ M.signs = g
theorem check_machines_q (k : Nat) {g : Nat} {ms : List Mc} (h : Mcs g ms) (hl : ms.length ≤ 100) (hW : BIG ≤ W) (S : Store) : ∃ S', Ext S S' ∧ run TBL W (k + 9) 29 [.tup (ms.map dM), .non] S = .ok .non S' := by
  have hB := BIG_gt
  have hsz := sizeLine_eq
  obtain ⟨S1, L1, x1, hL1, e1⟩ : ∃ S2 L, Ext S S2 ∧ L = _ ∧ evE (cxk W (k + 8)) c_check_machines_0 [some (.tup (ms.map dM)), some .non, none, none, none] S = .ok (.ref S2.length) (S2 ++ [.lst L]) :=
    comp_ev (cx := cxk W (k + 8)) (S1 := S) (iv := .sq (.tup (ms.map dM))) (items := ms.map dM) (g := fun _ => .bl true)
      (by simp [evI, ev_all, ev_var, seqD, Out.bind]) (fun i T _ _ => next_sq (by rfl) i) (fun y hy T _ => by
        obtain ⟨M, hM, rfl⟩ := List.mem_map.mp hy
        obtain ⟨T2, x2, e2⟩ := is_machine_q (W := W) k (h M hM).1 hW T
        refine ⟨[some (.tup (ms.map dM)), some .non, none, none, some (dM M)], T2, by simp [ev_st, wipeD], ?_, x2⟩
        simp [ev_all, ev_var, ev_cst, Out.bind, bindK, ps_all, e2]) (by simp only [List.length_map]; show _ < W; omega) (by simp only [List.length_map]; omega)
  have ha : blsD L1 = some ((ms.map dM).map fun _ => true) := by rw [hL1]; exact blsD_map _ fun _ => true
  have hall : ((ms.map dM).map fun _ => true).all id = true := by simp
  obtain ⟨S2, L2, x2, hL2, e2⟩ : ∃ S3 L, Ext (S1 ++ [.lst L1]) S3 ∧ L = _ ∧ evE (cxk W (k + 8)) c_check_machines_1 [some (.tup (ms.map dM)), some .non, none, none, none] (S1 ++ [.lst L1]) = .ok (.ref S3.length) (S3 ++ [.lst L]) :=
    comp_ev (cx := cxk W (k + 8)) (S1 := S1 ++ [.lst L1]) (iv := .sq (.tup (ms.map dM))) (items := ms.map dM) (g := fun _ => .int (g : Nat))
      (by simp [evI, ev_all, ev_var, seqD, Out.bind]) (fun i T _ _ => next_sq (by rfl) i) (fun y hy T _ => by
        obtain ⟨M, hM, rfl⟩ := List.mem_map.mp hy
        refine ⟨[some (.tup (ms.map dM)), some .non, none, none, some (dM M)], T, by simp [ev_st, wipeD], ?_, Ext.refl _⟩
        simp [ev_all, ev_var, ev_cst, Out.bind, (dM_at M T).1, (h M hM).2]) (by simp only [List.length_map]; show _ < W; omega) (by simp only [List.length_map]; omega)
  have hL2' : L2 = ms.map fun _ => D.int (g : Nat) := by rw [hL2, List.map_map]; rfl
  have hlen2 : L2.length = ms.length := by rw [hL2', List.length_map]
  generalize hS3 : S2 ++ [O.lst L2] ++ [O.lst []] ++ [O.lst L2] = S3
  have g3 : seqD S3 (.ref (S2.length + 2)) = some L2 := by
    rw [← hS3]
    have := seqD_new (S := S2 ++ [O.lst L2] ++ [O.lst []]) (ds := L2)
    simpa using this
  obtain ⟨S4, L4, x4, hL4, e4⟩ : ∃ S3' L, Ext S3 S3' ∧ L = _ ∧ evE (cxk W (k + 8)) c_check_machines_2 [some (.tup (ms.map dM)), some .non, some (.ref (S2.length + 2)), none, none] S3 = .ok (.ref S3'.length) (S3' ++ [.lst L]) :=
    comp_ev (cx := cxk W (k + 8)) (S1 := S3) (iv := .sq (.ref (S2.length + 2))) (items := L2) (g := fun _ => .bl false)
      (by simp [evI, ev_all, ev_var, g3, Out.bind]) (fun i T x _ => next_sq (x.seqD g3) i) (fun y hy T x => by
        rw [hL2'] at hy
        obtain ⟨M, hM, rfl⟩ := List.mem_map.mp hy
        have hi : idxE (.ref (S2.length + 2)) (.int 0) T = .ok (.int (g : Nat)) T := idx_seq (j := 0) (x.seqD g3) (by simp) (by
          rw [hL2']
          cases ms with
          | nil => cases hM
          | cons _ _ => rfl)
        refine ⟨[some (.tup (ms.map dM)), some .non, some (.ref (S2.length + 2)), none, some (.int (g : Nat))], T, by simp [ev_st, wipeD], ?_, Ext.refl _⟩
        simp [ev_all, ev_var, ev_cst, Out.bind, hi, cmpE, eqE, eqD]) (by rw [hlen2]; show _ < W; omega) (by rw [hlen2]; omega)
  have ha4 : blsD L4 = some (L2.map fun _ => false) := by rw [hL4]; exact blsD_map _ fun _ => false
  have hany : (L2.map fun _ => false).any id = false := by simp
  have hS3' : Ext (S2 ++ [O.lst L2]) S3 := ⟨[O.lst [], O.lst L2], by rw [← hS3]; simp⟩
  refine ⟨S4 ++ [.lst L4], x1.trans ((Ext.refl S1).snoc _ |>.trans (x2.trans (((Ext.refl S2).snoc _).trans (hS3'.trans (x4.snoc _))))), ?_⟩
  have gA : (S2 ++ [O.lst L2] ++ [O.lst []])[S2.length]? = some (.lst L2) := by simp
  have gB : (S2 ++ [O.lst L2] ++ [O.lst []])[(S2 ++ [O.lst L2]).length]? = some (.lst []) := by simp
  have hadd : addE (.ref S2.length) (.ref (S2 ++ [O.lst L2]).length) (S2 ++ [O.lst L2] ++ [O.lst []]) = .ok (.ref (S2.length + 2)) S3 := by
    unfold addE
    simp only [gA, gB]
    rw [if_pos (by simp only [List.length_nil]; omega), ← hS3]
    simp
  rw [run_succ at_29 rfl]
  simp only [b_check_machines, ev_st, ev_all, ev_cst, ev_var, Out.bind, Out.st, SOut.seq, noExc, bindK, ps_all, List.map_cons, List.map_nil, List.length_cons, List.length_nil, List.nil_append, List.cons_append, List.replicate, List.getElem?_cons_zero, List.getElem?_cons_succ, isiE, tyD, isTy, onBl_bl, onBlS_bl]
  simp only [ev_st, ev_all, ev_cst, ev_var, Out.bind, Out.st, SOut.seq, noExc, bindK, ps_all, List.map_cons, List.map_nil, List.length_cons, List.length_nil, List.nil_append, List.cons_append, List.append_nil, List.replicate, List.getElem?_cons_zero, List.getElem?_cons_succ, List.set_cons_zero, List.set_cons_succ, onBl_bl, onBlS_bl, if_true, if_false, Bool.not_true, Bool.not_false, Bool.false_eq_true, e1, bltX_not (show Blt.all ≠ Blt.len by decide), all_new ha, hall, decide_true, e2, isNon, binE, Nat.zero_le, hsz, hadd, e4, bltX_not (show Blt.any ≠ Blt.len by decide), any_new ha4, hany]
end
end H91

set_option Elab.async false
set_option linter.all false
set_option maxRecDepth 100000
set_option maxHeartbeats 4000000
/-! Q91k: a row by the Mover; the checks of signs and words. -/
namespace H91
open Pl PySem PyProof.Rows L2
section
variable {W : Nat}
/-- the whole matrix at an item of a Mover -/
def WM (S : Store) (d : D) (m : List (List Rat)) : Prop := ∃ j : Nat, d = .tup [.ref j, .int (bot m.flatten : Nat)] ∧ LL S j (m.map fun r => r.map (nz (bot m.flatten)))
theorem WM.ext {S S' : Store} {d : D} {m : List (List Rat)} (h : WM S d m) (x : Ext S S') : WM S' d m := by
  obtain ⟨j, e, l⟩ := h
  exact ⟨j, e, l.ext x⟩
theorem ll_set {S : Store} {o c : Nat} {fs : List (Str × D)} {x : O} {j : Nat} {rows : List (List Int)} (ho : S[o]? = some (.ins c fs)) (h : LL S j rows) : LL (S.set o x) j rows := by
  obtain ⟨refs, h1, h2, h3⟩ := h.ex
  have g : ∀ (i : Nat) (ds : List D), S[i]? = some (.lst ds) → (S.set o x)[i]? = some (.lst ds) := fun i ds e => by
    rw [List.getElem?_set_ne]
    · exact e
    · rintro rfl
      rw [ho] at e
      cases e
  exact ⟨refs, g _ _ h1, h2, fun i r hr => let ⟨p, q1, q2⟩ := h3 i r hr; ⟨p, q1, g _ _ q2⟩⟩
theorem WM.set {S : Store} {o c : Nat} {fs : List (Str × D)} {x : O} {d : D} {m : List (List Rat)} (ho : S[o]? = some (.ins c fs)) (h : WM S d m) : WM (S.set o x) d m := by
  obtain ⟨j, e, l⟩ := h
  exact ⟨j, e, ll_set ho l⟩
/-- a Mover of a machine's steps -/
def MoverS (S : Store) (o : Nat) (M : Mc) : Prop := ∃ (L : Nat) (its : List D), S[o]? = some (.ins 7 [("steps", .ref L)]) ∧ S[L]? = some (.lst its) ∧ ∀ s, s < M.signs → ∃ d, its[s]? = some d ∧ WM S d (M.step s)
theorem MoverS.ext {S S' : Store} {o : Nat} {M : Mc} (h : MoverS S o M) (x : Ext S S') : MoverS S' o M := by
  obtain ⟨L, its, h1, h2, h3⟩ := h
  exact ⟨L, its, x.get h1, x.get h2, fun s hs => let ⟨d, q1, q2⟩ := h3 s hs; ⟨d, q1, q2.ext x⟩⟩
theorem whole_wm (k : Nat) {n : Nat} {m : List (List Rat)} (hm : Sq n m) (hn : n ≤ 4) (hW : 1000 < W) (S : Store) : ∃ S' d, Ext S S' ∧ run TBL W (k + 3) 16 [dMx m] S = .ok d S' ∧ WM S' d m := by
  have hmb := sq_b hm
  have hfl : m.flatten.length ≤ 1000 := by
    have h1 : ∀ (m : List (List Rat)), (∀ r ∈ m, r.length = n) → m.flatten.length = m.length * n := by
      intro m
      induction m with
      | nil => simp
      | cons x m ih =>
        intro h
        rw [List.flatten_cons, List.length_append, ih fun r hr => h r (List.mem_cons_of_mem _ hr), h x List.mem_cons_self, List.length_cons, Nat.add_mul]
        omega
    rw [h1 m hm.rows, hm.len]
    have : n * n ≤ 4 * 4 := Nat.mul_le_mul hn hn
    omega
  obtain ⟨S2, jj, refs, x1, e1, h2, h3, h4⟩ := whole_matrix_q (W := W) k m bitsN (fun r hr q hq => (hmb.rows r hr).1.den q hq) (fun r hr q hq => (hmb.rows r hr).1.num q hq) (by rw [hm.len]; omega) hfl hW S
  refine ⟨S2, _, x1, e1, jj, rfl, ?_⟩
  refine ⟨refs, seq_get h2, by rw [h3, List.length_map], fun i r hr => ?_⟩
  rw [List.getElem?_map] at hr
  cases e : m[i]? with
  | none => rw [e] at hr; cases hr
  | some r' =>
    rw [e] at hr
    cases hr
    obtain ⟨p, q1, q2⟩ := h4 i r' e
    exact ⟨p, q1, by rw [q2, List.map_map]; rfl⟩
theorem mover_init_q (k : Nat) {M : Mc} (h : M.Ok) (hW : BIG ≤ W) (o : Nat) (S : Store) (ho : S[o]? = some (.ins 7 [])) :
    ∃ S' S2 : Store, Ext S S2 ∧ run TBL W (k + 4) 21 [.ref o, dSteps M.steps] S = .ok .non S' ∧ S' = S2.set o (.ins 7 [("steps", .ref (S2.length - 1))]) ∧ MoverS S' o M ∧ o < S2.length - 1 := by
  have hB := BIG_gt
  have hsz := sizeLine_eq
  have h4 := h.size4
  have hs4 := h.signs4
  have hl := h.sl
  obtain ⟨S2, L, ⟨x, hlen, hw⟩, e⟩ : ∃ S2 L, _ ∧ evE (cxk W (k + 3)) c_Mover___init___0 [some (.ref o), some (dSteps M.steps), none, none] S = .ok (.ref S2.length) (S2 ++ [.lst L]) :=
    comp_inv (cx := cxk W (k + 3)) (S1 := S) (iv := .sq (dSteps M.steps)) (items := M.steps.map dMx)
      (fun i acc T => Ext S T ∧ acc.length = i ∧ ∀ s, s < i → ∃ d, acc[s]? = some d ∧ WM T d (M.step s))
      (by simp [evI, ev_all, ev_var, dSteps, seqD, Out.bind]) ⟨Ext.refl _, rfl, fun s hs => by omega⟩ (fun i acc T _ _ => next_sq (by rfl) i) (fun i d acc T hd hI => by
        obtain ⟨x, ha, hw⟩ := hI
        have hi : i < M.signs := by
          have := (List.getElem?_eq_some_iff.mp hd).1
          rw [List.length_map] at this
          omega
        rw [step_at h hi] at hd
        cases hd
        obtain ⟨T2, d, x2, e2, w2⟩ := whole_wm (W := W) k (h.step hi) h4 (by omega) T
        refine ⟨by omega, [some (.ref o), some (dSteps M.steps), none, some (dMx (M.step i))], d, T2, by simp [ev_st, wipeD], ?_, x.trans x2, by simp [ha], fun s hs => ?_⟩
        · simp [ev_all, ev_var, ev_cst, Out.bind, bindK, ps_all, e2]
        · by_cases hsi : s < i
          · obtain ⟨d', q1, q2⟩ := hw s hsi
            exact ⟨d', by rw [List.getElem?_append_left (by omega)]; exact q1, q2.ext x2⟩
          · have : s = i := by omega
            subst this
            exact ⟨d, by rw [List.getElem?_append_right (by omega), ha]; simp, w2⟩) (by simp only [List.length_map]; show _ < W; omega)
  have hlen' : L.length = M.signs := by rw [hlen, List.length_map, hl]
  have ho2 : (S2 ++ [O.lst L])[o]? = some (.ins 7 []) := (x.snoc _).get ho
  have hol : o < S2.length := by
    have := get_lt (x.get ho)
    exact this
  refine ⟨(S2 ++ [O.lst L]).set o (.ins 7 [("steps", .ref S2.length)]), S2 ++ [O.lst L], x.snoc _, ?_, ?_, ?_, ?_⟩
  · rw [run_succ at_21 rfl]
    simp only [b_Mover___init__, ev_st, ev_all, ev_cst, ev_var, Out.bind, Out.st, SOut.seq, noExc, bindK, ps_all, List.map_cons, List.map_nil, List.length_cons, List.length_nil, List.nil_append, List.cons_append, List.append_nil, List.replicate, List.getElem?_cons_zero, List.getElem?_cons_succ, List.set_cons_zero, List.set_cons_succ, onBl_bl, onBlS_bl, if_true, if_false, Bool.not_true, Bool.not_false, Bool.false_eq_true]
    rw [e]
    simp only [ev_st, ev_all, ev_cst, ev_var, Out.bind, Out.st, SOut.seq, noExc, bindK, ps_all, List.map_cons, List.map_nil, List.length_cons, List.length_nil, List.nil_append, List.cons_append, List.append_nil, List.replicate, List.getElem?_cons_zero, List.getElem?_cons_succ, List.set_cons_zero, List.set_cons_succ, onBl_bl, onBlS_bl, if_true, if_false, Bool.not_true, Bool.not_false, Bool.false_eq_true, Bool.true_or, Bool.or_true, Bool.false_or, Bool.or_false, inst_all, meth_all, flds_all, as_fld, List.lookup_cons, List.lookup_nil, keys_bne, keys_ne, beq_self_eq_true, putD, isNon, decide_true, decide_false, Bool.and_true, Bool.true_and, Nat.zero_add, Nat.add_zero, ins_of ho2, show (0 : Nat) < 1000 by decide]
  · simp
  · refine ⟨S2.length, L, by rw [List.getElem?_set_self (by simp; omega)], ?_, fun s hs => ?_⟩
    · rw [List.getElem?_set_ne (by omega)]
      simp
    · obtain ⟨d, q1, q2⟩ := hw s (by rw [List.length_map, hl]; exact hs)
      exact ⟨d, q1, (q2.ext ((Ext.refl S2).snoc _)).set ho2⟩
  · simp
    omega
theorem mover_move_q (k : Nat) {M : Mc} (h : M.Ok) {o s j : Nat} (hs : s < M.signs) {r : List Rat} (hr : RowK j r) (hj : j ≤ 190) (hrn : r.length = M.size) (hW : BIG ≤ W) {S : Store} (ho : MoverS S o M) :
    ∃ S', Ext S S' ∧ run TBL W (k + 4) 22 [.ref o, dR r, .int (s : Nat)] S = .ok (dR (moveQ r (M.step s))) S' := by
  have hB := BIG_gt
  have h4 := h.size4
  obtain ⟨L, its, h1, h2, h3⟩ := ho
  obtain ⟨d, q1, jj, hd, hLL⟩ := h3 s hs
  obtain ⟨S3, x2, e2⟩ := move_by_q (W := W) k bitsN (rowK_b hr (by omega)) (sq_b (h.step hs)) hrn (by omega) (by omega) S hLL
  refine ⟨S3, x2, ?_⟩
  have ei := idx_seq (seq_of h2) (by simp) q1
  rw [run_succ at_22 rfl]
  rw [← hd] at e2
  simp only [b_Mover_move, ev_st, ev_all, ev_cst, ev_var, Out.bind, Out.st, SOut.seq, noExc, bindK, ps_all, List.map_cons, List.map_nil, List.length_cons, List.length_nil, List.nil_append, List.cons_append, List.append_nil, List.replicate, List.getElem?_cons_zero, List.getElem?_cons_succ, List.set_cons_zero, List.set_cons_succ, onBl_bl, onBlS_bl, if_true, if_false, Bool.not_true, Bool.not_false, Bool.false_eq_true, Bool.true_or, Bool.or_true, Bool.false_or, Bool.or_false, inst_all, meth_all, flds_all, as_fld, List.lookup_cons, List.lookup_nil, keys_bne, keys_ne, beq_self_eq_true, putD, isNon, decide_true, decide_false, Bool.and_true, Bool.true_and, Nat.zero_add, Nat.add_zero, ins_of h1, ei]
  simp [e2]
theorem mover_along_q (k : Nat) {M : Mc} (h : M.Ok) {w : List Nat} (hw : ∀ s ∈ w, s < M.signs) (hl : w.length ≤ 190) (hW : BIG ≤ W) {o : Nat} {S : Store} (ho : MoverS S o M) :
    ∃ S', Ext S S' ∧ run TBL W (k + 5) 23 [.ref o, dR M.begin, dW w] S = .ok (dR (M.along w)) S' := by
  have hB := BIG_gt
  have h4 := h.size4
  obtain ⟨ρ', S', e, x, u, hρ⟩ : ∃ ρ' S', evC (cxk W (k + 4)) c_Mover_along_0 [some (.ref o), some (dR M.begin), some (dW w), none] S = .nx ρ' S' ∧ _ :=
    for_ev (cx := cxk W (k + 4)) (iv := .sq (dW w)) (S1 := S) (items := w.map fun s => D.int (s : Nat))
      (fun n ρ S' => Ext S S' ∧ ∃ u, ρ = [some (.ref o), some (dR (M.along (w.take n))), some (dW w), u])
      (by simp [evI, ev_all, ev_var, dW, seqD, Out.bind]) (by rw [List.length_map]; show _ < W; omega) ⟨Ext.refl _, none, rfl⟩ (fun n ρ S' hn hI => next_sq (by rfl) n) (fun n y ρ S' hy hI => by
        obtain ⟨x, u, rfl⟩ := hI
        obtain ⟨s, hs, rfl⟩ := at_word hy
        have hsm : s < M.signs := hw s (List.mem_of_getElem? hs)
        have hwt : ∀ s ∈ w.take n, s < M.signs := fun s hs => hw s (List.mem_of_mem_take hs)
        obtain ⟨q1, q2⟩ := h.along hwt
        obtain ⟨S2, x2, e2⟩ := mover_move_q (W := W) k h hsm q1 (by simp only [List.length_take]; omega) q2 hW (ho.ext x)
        refine ⟨[some (.ref o), some (dR (M.along (w.take n))), some (dW w), some (.int (s : Nat))], S', [some (.ref o), some (dR (M.along (w.take (n + 1)))), some (dW w), some (.int (s : Nat))], S2, ?_, ?_, x.trans x2, _, rfl⟩
        · simp [ev_st]
        · obtain ⟨L, its, h1, h2, h3⟩ := ho.ext x
          rw [along_take hs]
          simp only [ev_st, ev_all, ev_cst, ev_var, Out.bind, Out.st, SOut.seq, noExc, bindK, ps_all, List.map_cons, List.map_nil, List.length_cons, List.length_nil, List.nil_append, List.cons_append, List.append_nil, List.replicate, List.getElem?_cons_zero, List.getElem?_cons_succ, List.set_cons_zero, List.set_cons_succ, onBl_bl, onBlS_bl, if_true, if_false, Bool.not_true, Bool.not_false, Bool.false_eq_true, Bool.true_or, Bool.or_true, Bool.false_or, Bool.or_false, inst_all, meth_all, flds_all, as_fld, List.lookup_cons, List.lookup_nil, keys_bne, keys_ne, beq_self_eq_true, putD, isNon, decide_true, decide_false, Bool.and_true, Bool.true_and, Nat.zero_add, Nat.add_zero, ins_of h1]
          simp [e2])
  subst hρ
  rw [List.length_map, List.take_of_length_le (Nat.le_refl _)] at e
  refine ⟨S', x, ?_⟩
  rw [run_succ at_23 rfl]
  simp only [b_Mover_along, ev_st, ev_all, ev_cst, ev_var, Out.bind, Out.st, SOut.seq, noExc, bindK, ps_all, List.map_cons, List.map_nil, List.length_cons, List.length_nil, List.nil_append, List.cons_append, List.append_nil, List.replicate, List.getElem?_cons_zero, List.getElem?_cons_succ, List.set_cons_zero, List.set_cons_succ, onBl_bl, onBlS_bl, if_true, if_false, Bool.not_true, Bool.not_false, Bool.false_eq_true]
  rw [e]
  simp
theorem row_in_q (k : Nat) {M : Mc} (h : M.Ok) {w : List Nat} (hw : ∀ s ∈ w, s < M.signs) (hl : w.length ≤ 190) (hW : BIG ≤ W) (S : Store) :
    ∃ S', Ext S S' ∧ run TBL W (k + 6) 30 [dM M, dW w] S = .ok (dR (M.along w)) S' := by
  have ho : (S ++ [O.ins 7 []])[S.length]? = some (.ins 7 []) := by simp
  obtain ⟨S1, S2, x1, e1, hS1, hM, hlt⟩ := mover_init_q (W := W) k h hW S.length (S ++ [.ins 7 []]) ho
  obtain ⟨S3, x3, e3⟩ := mover_along_q (W := W) k h hw hl hW hM
  have hx : Ext S S1 := by
    obtain ⟨T, rfl⟩ := x1
    refine ⟨[.ins 7 [("steps", .ref ((S ++ [O.ins 7 []] ++ T).length - 1))]] ++ T, ?_⟩
    rw [hS1]
    simp
  refine ⟨S3, hx.trans x3, ?_⟩
  obtain ⟨L, its, h1, h2, h3⟩ := hM
  have emk : evE (cxk W (k + 5)) (.mk 7 (.cons (.idx (.var 0) (.cst (.int (3)))) .nil) [] .nil) [some (dM M), some (dW w)] S = .ok (.ref S.length) S1 := by
    rw [evE]
    simp only [ev_st, ev_all, ev_cst, ev_var, Out.bind, Out.st, SOut.seq, noExc, bindK, ps_all, List.map_cons, List.map_nil, List.length_cons, List.length_nil, List.nil_append, List.cons_append, List.append_nil, List.replicate, List.getElem?_cons_zero, List.getElem?_cons_succ, List.set_cons_zero, List.set_cons_succ, onBl_bl, onBlS_bl, if_true, if_false, Bool.not_true, Bool.not_false, Bool.false_eq_true, Bool.true_or, Bool.or_true, Bool.false_or, Bool.or_false, inst_all, meth_all, flds_all, as_fld, List.lookup_cons, List.lookup_nil, keys_bne, keys_ne, beq_self_eq_true, putD, isNon, decide_true, decide_false, Bool.and_true, Bool.true_and, Nat.zero_add, Nat.add_zero, (dM_at M S).2.2.1]
    rw [show ((run2 TBL W (k + 5)).2.1 21 [.ref S.length, dSteps M.steps] (S ++ [.ins 7 []])) = _ from e1]
    simp
  rw [run_succ at_30 rfl]
  rw [show (List.map some [dM M, dW w] ++ List.replicate (2 - [dM M, dW w].length) none) = [some (dM M), some (dW w)] from rfl]
  simp only [b_row_in, ev_st]
  rw [(ev_all (cxk W (k + 5))).2.2.2.2.2.2.2.2.2.2.2.2.2.2.2.2.1, emk]
  simp only [ev_st, ev_all, ev_cst, ev_var, Out.bind, Out.st, SOut.seq, noExc, bindK, ps_all, List.map_cons, List.map_nil, List.length_cons, List.length_nil, List.nil_append, List.cons_append, List.append_nil, List.replicate, List.getElem?_cons_zero, List.getElem?_cons_succ, List.set_cons_zero, List.set_cons_succ, onBl_bl, onBlS_bl, if_true, if_false, Bool.not_true, Bool.not_false, Bool.false_eq_true, Bool.true_or, Bool.or_true, Bool.false_or, Bool.or_false, inst_all, meth_all, flds_all, as_fld, List.lookup_cons, List.lookup_nil, keys_bne, keys_ne, beq_self_eq_true, putD, isNon, decide_true, decide_false, Bool.and_true, Bool.true_and, Nat.zero_add, Nat.add_zero, ins_of h1, (dM_at M S1).2.1]
  simp [e3]
theorem check_sign_q (k : Nat) {g s : Nat} (h : s < g) (S : Store) : run TBL W (k + 4) 8 [.int (g : Nat), .int (s : Nat)] S = .ok .non S := by
  have e := is_sign_int (W := W) k (g : Nat) (s : Nat) S
  have h1 : (0 : Int) ≤ (s : Nat) := by omega
  have h2 : ((s : Nat) : Int) < (g : Nat) := by omega
  rw [decide_eq_true h1, decide_eq_true h2] at e
  rw [run_succ at_8 rfl]
  simp [b_check_sign, ev_st, ev_all, ev_cst, ev_var, Out.bind, Out.st, SOut.seq, noExc, bindK, ps_all, e, onBlS_bl, onBl_bl]
theorem check_word_q (k : Nat) {g : Nat} {w : List Nat} (h : ∀ s ∈ w, s < g) (hl : w.length ≤ 190) (hW : BIG ≤ W) (S : Store) : run TBL W (k + 4) 7 [.int (g : Nat), dW w] S = .ok .non S := by
  have hB := BIG_gt
  have hz : ((w.map fun s => D.int (s : Nat)).zipIdx.map fun p => D.tup [.int (p.2 : Nat), p.1]).length = w.length := by simp
  obtain ⟨ρ', S', e, hS, u, v, hρ⟩ : ∃ ρ' S', evC (cxk W (k + 3)) c_check_word_0 [some (.int (g : Nat)), some (dW w), none, none] S = .nx ρ' S' ∧ _ :=
    for_ev (cx := cxk W (k + 3)) (iv := .en (dW w)) (S1 := S) (items := (w.map fun s => D.int (s : Nat)).zipIdx.map fun p => D.tup [.int (p.2 : Nat), p.1])
      (fun n ρ S' => S' = S ∧ ∃ u v, ρ = [some (.int (g : Nat)), some (dW w), u, v])
      (by simp [evI, ev_all, ev_var, dW, seqD, Out.bind]) (by rw [hz]; show _ < W; omega) ⟨rfl, none, none, rfl⟩ (fun n ρ S' hn hI => next_en (by rfl) (by simpa using hn)) (fun n y ρ S' hy hI => by
        obtain ⟨rfl, u, v, rfl⟩ := hI
        have hn : n < w.length := by
          have := (List.getElem?_eq_some_iff.mp hy).1
          rwa [hz] at this
        have hm : w[n] ∈ w := List.getElem_mem _
        have hy' : y = .tup [.int (n : Nat), .int (w[n] : Nat)] := by
          rw [List.getElem?_eq_getElem (by rw [hz]; omega)] at hy
          have := Option.some.inj hy
          rw [← this]
          simp
        generalize w[n] = s at hm hy'
        subst hy'
        have e := is_sign_int (W := W) k (g : Nat) (s : Nat) S'
        have h1 : (0 : Int) ≤ (s : Nat) := by omega
        have h2 : ((s : Nat) : Int) < (g : Nat) := by have := h s hm; omega
        rw [decide_eq_true h1, decide_eq_true h2] at e
        refine ⟨[some (.int (g : Nat)), some (dW w), some (.int (n : Nat)), some (.int (s : Nat))], S', [some (.int (g : Nat)), some (dW w), some (.int (n : Nat)), some (.int (s : Nat))], S', ?_, ?_, rfl, _, _, rfl⟩
        · simp [ev_st, seqD, Out.bind]
        · simp [ev_st, ev_all, ev_cst, ev_var, Out.bind, Out.st, SOut.seq, noExc, bindK, ps_all, e, onBl_bl, onBlS_bl])
  subst hρ hS
  rw [run_succ at_7 rfl]
  have ht : isiE .tuple (dW w) S' = .ok (.bl true) S' := rfl
  simp only [b_check_word, ev_st, ev_all, ev_cst, ev_var, Out.bind, Out.st, SOut.seq, noExc, bindK, ps_all, List.map_cons, List.map_nil, List.length_cons, List.length_nil, List.nil_append, List.cons_append, List.append_nil, List.replicate, List.getElem?_cons_zero, List.getElem?_cons_succ, List.set_cons_zero, List.set_cons_succ, onBl_bl, onBlS_bl, if_true, if_false, Bool.not_true, Bool.not_false, Bool.false_eq_true, ht]
  rw [e]
end
end H91

set_option Elab.async false
set_option linter.all false
set_option maxRecDepth 100000
set_option maxHeartbeats 4000000
/-! Q91l: a stream; what it tells. -/
namespace H91
open Pl PySem PyProof.Rows L2
inductive Deed where
  | feed (s : Nat)
  | feedAll (w : List Nat)
  | exch (i : Nat) (M : Mc)
def dDeed : Deed → D
  | .feed s => .tup [.str "feed", .int (s : Nat)]
  | .feedAll w => .tup [.str "feed_all", dW w]
  | .exch i M => .tup [.str "exchange", .int (i : Nat), dM M]
/-- machines, what was fed -/
abbrev Cur := List Mc × List Nat
def app : Cur → Deed → Cur
  | (ms, w), .feed s => (ms, w ++ [s])
  | (ms, w), .feedAll v => (ms, w ++ v)
  | (ms, w), .exch i M => (ms.take i ++ [M] ++ ms.drop (i + 1), w)
def cur (c : Cur) (ds : List Deed) : Cur := ds.foldl app c
theorem cur_snoc (c : Cur) (ds : List Deed) (d : Deed) : cur c (ds ++ [d]) = app (cur c ds) d := by
  unfold cur
  rw [List.foldl_append]
  rfl
def dMs (ms : List Mc) : D := .tup (ms.map dM)
def dRows (c : Cur) : D := .tup (c.1.map fun M => dR (M.along c.2))
def dWorths (c : Cur) : D := .tup (c.1.map fun M => dQ (M.worth c.2))
def dPast (c : Cur) (d : Deed) : D := .tup [dDeed d, dMs c.1, dRows c, dW c.2]
def dSt (c : Cur) (d : D) : D := .tup [dMs c.1, dW c.2, d]
def pastL : Cur → List Deed → List D
  | _, [] => []
  | c, d :: ds => dPast c d :: pastL (app c d) ds
def statesL : Cur → List Deed → List D
  | _, [] => []
  | c, d :: ds => dSt (app c d) (dDeed d) :: statesL (app c d) ds
theorem past_snoc : ∀ (ds : List Deed) (c : Cur) (d : Deed), pastL c (ds ++ [d]) = pastL c ds ++ [dPast (cur c ds) d]
  | [], _, _ => rfl
  | x :: ds, c, d => by
    show dPast c x :: pastL (app c x) (ds ++ [d]) = _
    rw [past_snoc ds]
    rfl
theorem states_snoc : ∀ (ds : List Deed) (c : Cur) (d : Deed), statesL c (ds ++ [d]) = statesL c ds ++ [dSt (cur c (ds ++ [d])) (dDeed d)]
  | [], _, _ => rfl
  | x :: ds, c, d => by
    show dSt (app c x) (dDeed x) :: statesL (app c x) (ds ++ [d]) = _
    rw [states_snoc ds]
    rfl
theorem past_len : ∀ (ds : List Deed) (c : Cur), (pastL c ds).length = ds.length
  | [], _ => rfl
  | x :: ds, c => by show (pastL (app c x) ds).length + 1 = _; rw [past_len ds]; rfl
theorem states_len : ∀ (ds : List Deed) (c : Cur), (statesL c ds).length = ds.length
  | [], _ => rfl
  | x :: ds, c => by show (statesL (app c x) ds).length + 1 = _; rw [states_len ds]; rfl
theorem past_take : ∀ (n : Nat) (ds : List Deed) (c : Cur), (pastL c ds).take n = pastL c (ds.take n)
  | 0, _, _ => by simp [pastL]
  | n + 1, [], _ => by simp [pastL]
  | n + 1, x :: ds, c => by
    show dPast c x :: (pastL (app c x) ds).take n = dPast c x :: pastL (app c x) (ds.take n)
    rw [past_take n ds]
theorem states_take : ∀ (n : Nat) (ds : List Deed) (c : Cur), (statesL c ds).take n = statesL c (ds.take n)
  | 0, _, _ => by simp [statesL]
  | n + 1, [], _ => by simp [statesL]
  | n + 1, x :: ds, c => by
    show dSt (app c x) (dDeed x) :: (statesL (app c x) ds).take n = dSt (app c x) (dDeed x) :: statesL (app c x) (ds.take n)
    rw [states_take n ds]
/-- a deed that may be done -/
def DeedOk (g n : Nat) : Deed → Prop
  | .feed s => s < g
  | .feedAll w => (∀ s ∈ w, s < g) ∧ w.length ≤ 3
  | .exch i M => i < n ∧ M.Ok ∧ M.signs = g
structure CurOk (g n l : Nat) (c : Cur) : Prop where
  ms : Mcs g c.1
  len : c.1.length = n
  fed : ∀ s ∈ c.2, s < g
  fl : c.2.length ≤ l
theorem CurOk.app {g n l : Nat} {c : Cur} {d : Deed} (h : CurOk g n l c) (hd : DeedOk g n d) : CurOk g n (l + 3) (app c d) := by
  obtain ⟨ms, w⟩ := c
  have h1 := h.ms
  have h2 := h.len
  have h3 := h.fed
  have h4 := h.fl
  simp only at h1 h2 h3 h4
  cases d with
  | feed s =>
    refine ⟨h1, h2, fun x hx => ?_, by simp [H91.app]; omega⟩
    rcases List.mem_append.mp hx with q | q
    · exact h3 x q
    · simp at q; subst q; exact hd
  | feedAll v =>
    have := hd.2
    refine ⟨h1, h2, fun x hx => ?_, by simp [H91.app]; omega⟩
    rcases List.mem_append.mp hx with q | q
    · exact h3 x q
    · exact hd.1 x q
  | exch i M =>
    obtain ⟨q1, q2, q3⟩ := hd
    refine ⟨fun x hx => ?_, by simp [H91.app]; omega, h3, by simp [H91.app]; omega⟩
    simp [H91.app] at hx
    rcases hx with q | q | q
    · exact h1 x (List.mem_of_mem_take q)
    · subst q; exact ⟨q2, q3⟩
    · exact h1 x (List.mem_of_mem_drop q)
theorem CurOk.cur {g n : Nat} : ∀ (ds : List Deed) {l : Nat} {c : Cur}, CurOk g n l c → (∀ d ∈ ds, DeedOk g n d) → CurOk g n (l + 3 * ds.length) (cur c ds)
  | [], l, c, h, _ => h
  | d :: ds, l, c, h, hd => by
    have := CurOk.cur ds (h.app (hd d List.mem_cons_self)) fun x hx => hd x (List.mem_cons_of_mem _ hx)
    have e : l + 3 * (d :: ds).length = l + 3 + 3 * ds.length := by simp; omega
    rw [e]
    exact this
/-- all that is known of what was done -/
structure DsOk (g n : Nat) (c0 : Cur) (ds : List Deed) : Prop where
  g1 : 1 ≤ g
  g4 : g ≤ 4
  n1 : 1 ≤ n
  n4 : n ≤ 4
  c0 : CurOk g n 0 c0
  dok : ∀ d ∈ ds, DeedOk g n d
  dl : ds.length ≤ 40
theorem DsOk.cur {g n : Nat} {c0 : Cur} {ds : List Deed} (h : DsOk g n c0 ds) : CurOk g n 180 (cur c0 ds) := by
  have := h.c0.cur ds h.dok
  have hl := h.dl
  exact ⟨this.ms, this.len, this.fed, by have := this.fl; omega⟩
theorem CurOk.along {g n l : Nat} {c : Cur} (h : CurOk g n l c) {M : Mc} (hM : M ∈ c.1) : M.Ok ∧ M.signs = g ∧ ∀ s ∈ c.2, s < M.signs := by
  obtain ⟨q1, q2⟩ := h.ms M hM
  exact ⟨q1, q2, fun s hs => by rw [q2]; exact h.fed s hs⟩
/-- a stream stands -/
structure Strm (S : Store) (s p b : Nat) (c0 : Cur) (ds : List Deed) (bl : List Nat) : Prop where
  ins : S[s]? = some (.ins 8 [("own_machines", dMs (cur c0 ds).1), ("rows", dRows (cur c0 ds)), ("heard", dW (cur c0 ds).2), ("past", .ref p), ("blocks", .ref b)])
  past : S[p]? = some (.lst (pastL c0 ds))
  blk : S[b]? = some (.lst (bl.map fun n => .int (n : Nat)))
theorem Strm.frame {P : List Nat} {S S' : Store} {s p b : Nat} {c0 : Cur} {ds : List Deed} {bl : List Nat} (h : Strm S s p b c0 ds bl) (f : FrL P S S') (h1 : s ∉ P) (h2 : p ∉ P) (h3 : b ∉ P) : Strm S' s p b c0 ds bl :=
  ⟨f.get _ _ h1 h.ins, f.get _ _ h2 h.past, f.get _ _ h3 h.blk⟩
theorem Strm.ext {S S' : Store} {s p b : Nat} {c0 : Cur} {ds : List Deed} {bl : List Nat} (h : Strm S s p b c0 ds bl) (x : Ext S S') : Strm S' s p b c0 ds bl := ⟨x.get h.ins, x.get h.past, x.get h.blk⟩
section
variable {W : Nat} {s p b : Nat} {c0 : Cur} {ds : List Deed} {bl : List Nat} {g n : Nat} {S : Store}
theorem machines_q (k : Nat) (h : Strm S s p b c0 ds bl) : run TBL W (k + 1) 32 [.ref s] S = .ok (dMs (cur c0 ds).1) S := by
  rw [run_succ at_32 rfl]
  simp only [b_Stream_machines, ev_st, ev_all, ev_cst, ev_var, Out.bind, Out.st, SOut.seq, noExc, bindK, ps_all, List.map_cons, List.map_nil, List.length_cons, List.length_nil, List.nil_append, List.cons_append, List.append_nil, List.replicate, List.getElem?_cons_zero, List.getElem?_cons_succ, List.set_cons_zero, List.set_cons_succ, onBl_bl, onBlS_bl, if_true, if_false, Bool.not_true, Bool.not_false, Bool.false_eq_true, Bool.true_or, Bool.or_true, Bool.false_or, Bool.or_false, inst_all, meth_all, flds_all, as_fld, List.lookup_cons, List.lookup_nil, keys_bne, keys_ne, beq_self_eq_true, putD, isNon, decide_true, decide_false, Bool.and_true, Bool.true_and, Nat.zero_add, Nat.add_zero, ins_of h.ins]
theorem fed_q (k : Nat) (h : Strm S s p b c0 ds bl) : run TBL W (k + 1) 33 [.ref s] S = .ok (dW (cur c0 ds).2) S := by
  rw [run_succ at_33 rfl]
  simp only [b_Stream_fed, ev_st, ev_all, ev_cst, ev_var, Out.bind, Out.st, SOut.seq, noExc, bindK, ps_all, List.map_cons, List.map_nil, List.length_cons, List.length_nil, List.nil_append, List.cons_append, List.append_nil, List.replicate, List.getElem?_cons_zero, List.getElem?_cons_succ, List.set_cons_zero, List.set_cons_succ, onBl_bl, onBlS_bl, if_true, if_false, Bool.not_true, Bool.not_false, Bool.false_eq_true, Bool.true_or, Bool.or_true, Bool.false_or, Bool.or_false, inst_all, meth_all, flds_all, as_fld, List.lookup_cons, List.lookup_nil, keys_bne, keys_ne, beq_self_eq_true, putD, isNon, decide_true, decide_false, Bool.and_true, Bool.true_and, Nat.zero_add, Nat.add_zero, ins_of h.ins]
theorem depth_q (k : Nat) (h : Strm S s p b c0 ds bl) : run TBL W (k + 1) 36 [.ref s] S = .ok (.int (bl.length : Nat)) S := by
  rw [run_succ at_36 rfl]
  simp only [b_Stream_depth, ev_st, ev_all, ev_cst, ev_var, Out.bind, Out.st, SOut.seq, noExc, bindK, ps_all, List.map_cons, List.map_nil, List.length_cons, List.length_nil, List.nil_append, List.cons_append, List.append_nil, List.replicate, List.getElem?_cons_zero, List.getElem?_cons_succ, List.set_cons_zero, List.set_cons_succ, onBl_bl, onBlS_bl, if_true, if_false, Bool.not_true, Bool.not_false, Bool.false_eq_true, Bool.true_or, Bool.or_true, Bool.false_or, Bool.or_false, inst_all, meth_all, flds_all, as_fld, List.lookup_cons, List.lookup_nil, keys_bne, keys_ne, beq_self_eq_true, putD, isNon, decide_true, decide_false, Bool.and_true, Bool.true_and, Nat.zero_add, Nat.add_zero, ins_of h.ins, bltX, insD_seq (seq_of h.blk), bltE, lenE, seq_of h.blk, List.length_map]
theorem len_q (k : Nat) (h : Strm S s p b c0 ds bl) : run TBL W (k + 1) 37 [.ref s] S = .ok (.int (ds.length : Nat)) S := by
  rw [run_succ at_37 rfl]
  simp only [b_Stream___len__, ev_st, ev_all, ev_cst, ev_var, Out.bind, Out.st, SOut.seq, noExc, bindK, ps_all, List.map_cons, List.map_nil, List.length_cons, List.length_nil, List.nil_append, List.cons_append, List.append_nil, List.replicate, List.getElem?_cons_zero, List.getElem?_cons_succ, List.set_cons_zero, List.set_cons_succ, onBl_bl, onBlS_bl, if_true, if_false, Bool.not_true, Bool.not_false, Bool.false_eq_true, Bool.true_or, Bool.or_true, Bool.false_or, Bool.or_false, inst_all, meth_all, flds_all, as_fld, List.lookup_cons, List.lookup_nil, keys_bne, keys_ne, beq_self_eq_true, putD, isNon, decide_true, decide_false, Bool.and_true, Bool.true_and, Nat.zero_add, Nat.add_zero, ins_of h.ins, bltX, insD_seq (seq_of h.past), bltE, lenE, seq_of h.past, past_len]
theorem dot_m (k : Nat) {M : Mc} (h : M.Ok) {w : List Nat} (hw : ∀ s ∈ w, s < M.signs) (hl : w.length ≤ 190) (hW : BIG ≤ W) (S : Store) : ∃ S', Ext S S' ∧ run TBL W (k + 3) 20 [dR (M.along w), dR M.fin] S = .ok (dQ (M.worth w)) S' := by
  have hB := BIG_gt
  have h4 := h.size4
  obtain ⟨q1, q2⟩ := h.along hw
  have b1 := rowK_b q1 (by omega)
  have b2 := rowK_b (rowK_ent h.fe) (by omega)
  exact dot_in_q (W := W) k (M.along w) M.fin bitsN b1.den b2.den b1.num b2.num (by omega) (by rw [h.fl]; omega) (by omega) S
theorem worths_q (k : Nat) (h : Strm S s p b c0 ds bl) (hk : DsOk g n c0 ds) (hW : BIG ≤ W) : ∃ S', Ext S S' ∧ run TBL W (k + 4) 34 [.ref s] S = .ok (dWorths (cur c0 ds)) S' := by
  have hB := BIG_gt
  have hsz := sizeLine_eq
  have hc := hk.cur
  have hn := hk.n4
  have hl := hc.len
  have hfl := hc.fl
  generalize hC : cur c0 ds = c at hc hl hfl
  have hi := h.ins
  rw [hC] at hi
  have hzip : ((c.1.map fun M => dR (M.along c.2)).zip (c.1.map dM)).map (fun p => D.tup [p.1, p.2]) = c.1.map fun M => D.tup [dR (M.along c.2), dM M] := by
    rw [List.zip_map', List.map_map]
    rfl
  obtain ⟨S2, x, e⟩ : ∃ S2, Ext S S2 ∧ evE (cxk W (k + 3)) c_Stream_worths_0 [some (.ref s), none, none, none] S = .ok (.ref S2.length) (S2 ++ [O.lst (c.1.map fun M => dQ (M.worth c.2))]) :=
    comp_list (cx := cxk W (k + 3)) (S1 := S) (iv := .zp (dRows c) (dMs c.1)) c.1 (fun M => D.tup [dR (M.along c.2), dM M]) (fun M => dQ (M.worth c.2))
      (by rw [evI]; simp only [ev_st, ev_all, ev_cst, ev_var, Out.bind, Out.st, SOut.seq, noExc, bindK, ps_all, List.map_cons, List.map_nil, List.length_cons, List.length_nil, List.nil_append, List.cons_append, List.append_nil, List.replicate, List.getElem?_cons_zero, List.getElem?_cons_succ, List.set_cons_zero, List.set_cons_succ, onBl_bl, onBlS_bl, if_true, if_false, Bool.not_true, Bool.not_false, Bool.false_eq_true, Bool.true_or, Bool.or_true, Bool.false_or, Bool.or_false, inst_all, meth_all, flds_all, as_fld, List.lookup_cons, List.lookup_nil, keys_bne, keys_ne, beq_self_eq_true, putD, isNon, decide_true, decide_false, Bool.and_true, Bool.true_and, Nat.zero_add, Nat.add_zero, ins_of hi]; rfl) (fun i T _ hn => by
        have := next_zp (S := T) (a := dRows c) (b := dMs c.1) rfl rfl (n := i) (by simpa using hn)
        rw [hzip] at this
        exact this) (fun M hM T _ => by
        obtain ⟨q1, q2, q3⟩ := hc.along hM
        obtain ⟨T2, x2, e2⟩ := dot_m (W := W) k q1 q3 (by omega) hW T
        refine ⟨[some (.ref s), none, some (dR (M.along c.2)), some (dM M)], T2, ?_, ?_, x2⟩
        · simp [ev_st, wipeD, seqD, Out.bind]
        · simp only [ev_st, ev_all, ev_cst, ev_var, Out.bind, Out.st, SOut.seq, noExc, bindK, ps_all, List.map_cons, List.map_nil, List.length_cons, List.length_nil, List.nil_append, List.cons_append, List.append_nil, List.replicate, List.getElem?_cons_zero, List.getElem?_cons_succ, List.set_cons_zero, List.set_cons_succ, onBl_bl, onBlS_bl, if_true, if_false, Bool.not_true, Bool.not_false, Bool.false_eq_true, (dM_at M T).2.2.2]
          simp [e2]) (by show _ < W; omega) (by omega)
  refine ⟨S2 ++ [O.lst (c.1.map fun M => dQ (M.worth c.2))], x.snoc _, ?_⟩
  rw [run_succ at_34 rfl]
  simp only [b_Stream_worths, ev_st, ev_all, ev_cst, ev_var, Out.bind, Out.st, SOut.seq, noExc, bindK, ps_all, List.map_cons, List.map_nil, List.length_cons, List.length_nil, List.nil_append, List.cons_append, List.append_nil, List.replicate, List.getElem?_cons_zero, List.getElem?_cons_succ, List.set_cons_zero, List.set_cons_succ, onBl_bl, onBlS_bl, if_true, if_false, Bool.not_true, Bool.not_false, Bool.false_eq_true]
  rw [e]
  simp only [ev_st, ev_all, ev_cst, ev_var, Out.bind, Out.st, SOut.seq, noExc, bindK, ps_all, List.map_cons, List.map_nil, List.length_cons, List.length_nil, List.nil_append, List.cons_append, List.append_nil, List.replicate, List.getElem?_cons_zero, List.getElem?_cons_succ, List.set_cons_zero, List.set_cons_succ, onBl_bl, onBlS_bl, if_true, if_false, Bool.not_true, Bool.not_false, Bool.false_eq_true, bltX_not (show Blt.tuple ≠ Blt.len by decide), tuple_new]
  rfl
theorem deeds_q (k : Nat) (h : Strm S s p b c0 ds bl) (hk : DsOk g n c0 ds) (hW : BIG ≤ W) : ∃ S', Ext S S' ∧ run TBL W (k + 1) 35 [.ref s] S = .ok (.tup (ds.map dDeed)) S' := by
  have hB := BIG_gt
  have hsz := sizeLine_eq
  have hl := hk.dl
  obtain ⟨S2, L, x, hL, e⟩ : ∃ S2 L, Ext S S2 ∧ L = _ ∧ evE (cxk W k) c_Stream_deeds_0 [some (.ref s), none, none, none, none, none] S = .ok (.ref S2.length) (S2 ++ [.lst L]) :=
    comp_ev (cx := cxk W k) (S1 := S) (iv := .sq (.ref p)) (items := pastL c0 ds) (g := fun x => match x with
      | .tup (d :: _) => d
      | _ => .non)
      (by rw [evI]; simp only [ev_st, ev_all, ev_cst, ev_var, Out.bind, Out.st, SOut.seq, noExc, bindK, ps_all, List.map_cons, List.map_nil, List.length_cons, List.length_nil, List.nil_append, List.cons_append, List.append_nil, List.replicate, List.getElem?_cons_zero, List.getElem?_cons_succ, List.set_cons_zero, List.set_cons_succ, onBl_bl, onBlS_bl, if_true, if_false, Bool.not_true, Bool.not_false, Bool.false_eq_true, Bool.true_or, Bool.or_true, Bool.false_or, Bool.or_false, inst_all, meth_all, flds_all, as_fld, List.lookup_cons, List.lookup_nil, keys_bne, keys_ne, beq_self_eq_true, putD, isNon, decide_true, decide_false, Bool.and_true, Bool.true_and, Nat.zero_add, Nat.add_zero, ins_of h.ins, seq_of h.past]; rfl) (fun i T x hn => next_sq (x.seqD (seq_of h.past)) i) (fun d hd T _ => by
        have hd' : ∃ c x, d = dPast c x := by
          have gen : ∀ (ds : List Deed) (c : Cur), d ∈ pastL c ds → ∃ c x, d = dPast c x := by
            intro ds
            induction ds with
            | nil => intro c hh; cases hh
            | cons y ds ih =>
              intro c hh
              rcases List.mem_cons.mp hh with q | q
              · exact ⟨_, _, q⟩
              · exact ih _ q
          exact gen ds c0 hd
        obtain ⟨c, x, rfl⟩ := hd'
        refine ⟨[some (.ref s), none, some (dDeed x), some (dMs c.1), some (dRows c), some (dW c.2)], T, ?_, ?_, Ext.refl _⟩
        · simp [ev_st, wipeD, seqD, Out.bind, dPast]
        · simp [ev_var, dPast]) (by rw [past_len]; show _ < W; omega) (by rw [past_len]; omega)
  have hL2 : L = ds.map dDeed := by
    rw [hL]
    have gen : ∀ (ds : List Deed) (c : Cur), (pastL c ds).map (fun x => match x with
      | .tup (d :: _) => d
      | _ => .non) = ds.map dDeed := by
      intro ds
      induction ds with
      | nil => intro c; rfl
      | cons y ds ih => intro c; show dDeed y :: (pastL (app c y) ds).map _ = _; rw [ih]; rfl
    exact gen ds c0
  refine ⟨S2 ++ [.lst L], x.snoc _, ?_⟩
  rw [run_succ at_35 rfl]
  simp only [b_Stream_deeds, ev_st, ev_all, ev_cst, ev_var, Out.bind, Out.st, SOut.seq, noExc, bindK, ps_all, List.map_cons, List.map_nil, List.length_cons, List.length_nil, List.nil_append, List.cons_append, List.append_nil, List.replicate, List.getElem?_cons_zero, List.getElem?_cons_succ, List.set_cons_zero, List.set_cons_succ, onBl_bl, onBlS_bl, if_true, if_false, Bool.not_true, Bool.not_false, Bool.false_eq_true]
  rw [e]
  simp only [ev_st, ev_all, ev_cst, ev_var, Out.bind, Out.st, SOut.seq, noExc, bindK, ps_all, List.map_cons, List.map_nil, List.length_cons, List.length_nil, List.nil_append, List.cons_append, List.append_nil, List.replicate, List.getElem?_cons_zero, List.getElem?_cons_succ, List.set_cons_zero, List.set_cons_succ, onBl_bl, onBlS_bl, if_true, if_false, Bool.not_true, Bool.not_false, Bool.false_eq_true, bltX_not (show Blt.tuple ≠ Blt.len by decide), tuple_new, hL2]
end
end H91

set_option Elab.async false
set_option linter.all false
set_option maxRecDepth 100000
set_option maxHeartbeats 4000000
/-! Q91m: what a stream does. -/
namespace H91
open Pl PySem PyProof.Rows L2
theorem append_q {S : Store} {p : Nat} {xs : List D} (h : S[p]? = some (.lst xs)) (hl : xs.length < 16777216) (d : D) : appendE (.ref p) [d] S = .ok .non (S.set p (.lst (xs ++ [d]))) := by
  unfold appendE
  simp only [h]
  rw [if_pos (by rw [sizeLine_eq]; exact hl)]
theorem isLst_of {S : Store} {p : Nat} {xs : List D} (h : S[p]? = some (.lst xs)) : isLst S (.ref p) = true := by
  show (match S[p]? with
    | some (.lst _) => true
    | _ => false) = true
  rw [h]
theorem pop_q {S : Store} {p : Nat} {xs : List D} {d : D} (h : S[p]? = some (.lst (xs ++ [d]))) : popE (.ref p) [] S = .ok d (S.set p (.lst xs)) := by
  unfold popE
  simp only [h]
  have e : (xs ++ [d])[(xs ++ [d]).length - 1]? = some d := by simp
  rw [e]
  simp
theorem cut_lo {ds : List D} {i : Nat} (h : i ≤ ds.length) : Pl.cutD ds none (some (i : Int)) = ds.take i := by
  unfold Pl.cutD
  rw [sIx_in h]
  have : HT.sIx ds.length 0 none = 0 := rfl
  rw [this]
  simp
theorem cut_hi {ds : List D} {i : Nat} (h : i ≤ ds.length) : Pl.cutD ds (some (i : Int)) none = ds.drop i := by
  unfold Pl.cutD
  rw [sIx_in h]
  have : HT.sIx ds.length ds.length none = ds.length := rfl
  rw [this, List.take_of_length_le (by simp)]
section
variable {W : Nat} {s p b : Nat} {c0 : Cur} {ds : List Deed} {bl : List Nat} {g n : Nat} {S : Store}
theorem note_q (k : Nat) (h : Strm S s p b c0 ds bl) (hl : ds.length ≤ 100) (d : Deed) : run TBL W (k + 1) 38 [.ref s, dDeed d] S = .ok .non (S.set p (.lst (pastL c0 (ds ++ [d])))) := by
  have hsz := sizeLine_eq
  rw [run_succ at_38 rfl]
  simp only [b_Stream_note, ev_st, ev_all, ev_cst, ev_var, Out.bind, Out.st, SOut.seq, noExc, bindK, ps_all, List.map_cons, List.map_nil, List.length_cons, List.length_nil, List.nil_append, List.cons_append, List.append_nil, List.replicate, List.getElem?_cons_zero, List.getElem?_cons_succ, List.set_cons_zero, List.set_cons_succ, onBl_bl, onBlS_bl, if_true, if_false, Bool.not_true, Bool.not_false, Bool.false_eq_true, Bool.true_or, Bool.or_true, Bool.false_or, Bool.or_false, inst_all, meth_all, flds_all, as_fld, List.lookup_cons, List.lookup_nil, keys_bne, keys_ne, beq_self_eq_true, putD, isNon, decide_true, decide_false, Bool.and_true, Bool.true_and, Nat.zero_add, Nat.add_zero, ins_of h.ins, isLst_of h.past, bmE]
  rw [if_pos (by rw [hsz]; decide)]
  simp only
  rw [append_q h.past (by rw [past_len]; omega), past_snoc]
  rfl
theorem moved_q (k : Nat) (h : Strm S s p b c0 ds bl) {c : Cur} (hC : cur c0 ds = c) (hc : CurOk g n 150 c) (hn4 : n ≤ 4) {w : List Nat} (hw : ∀ s ∈ w, s < g) (hwl : w.length ≤ 20) (hW : BIG ≤ W) :
    ∃ S', Ext S S' ∧ run TBL W (k + 5) 39 [.ref s, dW w] S = .ok (.tup (c.1.map fun M => dR (M.along (c.2 ++ w)))) S' := by
  have hB := BIG_gt
  have hsz := sizeLine_eq
  have hl := hc.len
  have hfl := hc.fl
  have hi := h.ins
  rw [hC] at hi
  obtain ⟨ρ', S', e, x, q, u, hρ, hq⟩ : ∃ ρ' S', evC (cxk W (k + 4)) c_Stream_moved_1 [some (.ref s), some (dW w), some (.ref S.length), none, none, none, none] (S ++ [O.lst (c.1.map fun M => dR (M.along c.2))]) = .nx ρ' S' ∧ _ :=
    for_ev (cx := cxk W (k + 4)) (iv := .sq (dW w)) (S1 := S ++ [O.lst (c.1.map fun M => dR (M.along c.2))]) (items := w.map fun s => D.int (s : Nat))
      (fun i ρ S' => Ext S S' ∧ ∃ q u, ρ = [some (.ref s), some (dW w), some (.ref q), u, none, none, none] ∧ S'[q]? = some (.lst (c.1.map fun M => dR (M.along (c.2 ++ w.take i)))))
      (by simp [evI, ev_all, ev_var, dW, seqD, Out.bind]) (by rw [List.length_map]; show _ < W; omega) ⟨(Ext.refl S).snoc _, S.length, none, rfl, by simp⟩ (fun n ρ S' hn hI => next_sq (by rfl) n) (fun i y ρ S' hy hI => by
        obtain ⟨x, q, u, rfl, hq⟩ := hI
        obtain ⟨t, ht, rfl⟩ := at_word hy
        have htg : t < g := hw t (List.mem_of_getElem? ht)
        have hwt : ∀ s ∈ w.take i, s < g := fun s hs => hw s (List.mem_of_mem_take hs)
        have hzip : ((c.1.map fun M => dR (M.along (c.2 ++ w.take i))).zip (c.1.map dM)).map (fun p => D.tup [p.1, p.2]) = c.1.map fun M => D.tup [dR (M.along (c.2 ++ w.take i)), dM M] := by
          rw [List.zip_map', List.map_map]
          rfl
        have hi' := x.get hi
        obtain ⟨S2, x2, e2⟩ : ∃ S2, Ext S' S2 ∧ evE (cxk W (k + 4)) c_Stream_moved_0 [some (.ref s), some (dW w), some (.ref q), some (.int (t : Nat)), none, none, none] S' = .ok (.ref S2.length) (S2 ++ [O.lst (c.1.map fun M => dR (M.along (c.2 ++ w.take (i + 1))))]) :=
          comp_list (cx := cxk W (k + 4)) (S1 := S') (iv := .zp (.ref q) (dMs c.1)) c.1 (fun M => D.tup [dR (M.along (c.2 ++ w.take i)), dM M]) (fun M => dR (M.along (c.2 ++ w.take (i + 1))))
            (by
              rw [evI]
              simp only [ev_st, ev_all, ev_cst, ev_var, Out.bind, Out.st, SOut.seq, noExc, bindK, ps_all, List.map_cons, List.map_nil, List.length_cons, List.length_nil, List.nil_append, List.cons_append, List.append_nil, List.replicate, List.getElem?_cons_zero, List.getElem?_cons_succ, List.set_cons_zero, List.set_cons_succ, onBl_bl, onBlS_bl, if_true, if_false, Bool.not_true, Bool.not_false, Bool.false_eq_true, Bool.true_or, Bool.or_true, Bool.false_or, Bool.or_false, inst_all, meth_all, flds_all, as_fld, List.lookup_cons, List.lookup_nil, keys_bne, keys_ne, beq_self_eq_true, putD, isNon, decide_true, decide_false, Bool.and_true, Bool.true_and, Nat.zero_add, Nat.add_zero, ins_of hi', seq_of hq]
              rfl) (fun j T y hn => by
              have := next_zp (S := T) (a := .ref q) (b := dMs c.1) (y.seqD (seq_of hq)) rfl (n := j) (by simpa using hn)
              rw [hzip] at this
              exact this) (fun M hM T _ => by
              obtain ⟨q1, q2, q3⟩ := hc.along hM
              have h4 := q1.size4
              have hall : ∀ s ∈ c.2 ++ w.take i, s < M.signs := fun s hs => by
                rcases List.mem_append.mp hs with z | z
                · exact q3 s z
                · rw [q2]; exact hwt s z
              obtain ⟨r1, r2⟩ := q1.along hall
              have hlen : (c.2 ++ w.take i).length ≤ 190 := by simp only [List.length_append, List.length_take]; omega
              obtain ⟨T2, x3, e3⟩ := move_in_q (W := W) k r1 (by omega) (q1.step (by rw [q2]; exact htg)) r2 h4 (by omega) T
              have ea : M.along (c.2 ++ w.take (i + 1)) = moveQ (M.along (c.2 ++ w.take i)) (M.step t) := by
                rw [List.take_succ, ht, Option.toList_some, ← List.append_assoc]
                exact M.along_snoc _ _
              refine ⟨[some (.ref s), some (dW w), some (.ref q), some (.int (t : Nat)), none, some (dR (M.along (c.2 ++ w.take i))), some (dM M)], T2, ?_, ?_, x3⟩
              · simp [ev_st, wipeD, seqD, Out.bind]
              · rw [ea]
                simp only [ev_st, ev_all, ev_cst, ev_var, Out.bind, Out.st, SOut.seq, noExc, bindK, ps_all, List.map_cons, List.map_nil, List.length_cons, List.length_nil, List.nil_append, List.cons_append, List.append_nil, List.replicate, List.getElem?_cons_zero, List.getElem?_cons_succ, List.set_cons_zero, List.set_cons_succ, onBl_bl, onBlS_bl, if_true, if_false, Bool.not_true, Bool.not_false, Bool.false_eq_true, (dM_at M T).2.2.1, idx_tup (step_at q1 (show t < M.signs by rw [q2]; exact htg)) T, dSteps]
                simp [e3]) (by show _ < W; omega) (by omega)
        refine ⟨[some (.ref s), some (dW w), some (.ref q), some (.int (t : Nat)), none, none, none], S', [some (.ref s), some (dW w), some (.ref S2.length), some (.int (t : Nat)), none, none, none], S2 ++ [O.lst (c.1.map fun M => dR (M.along (c.2 ++ w.take (i + 1))))], by simp [ev_st], ?_, (x.trans x2).snoc _, S2.length, _, rfl, by simp⟩
        simp only [ev_st, ev_all, ev_cst, ev_var, Out.bind, Out.st, SOut.seq, noExc, bindK, ps_all, List.map_cons, List.map_nil, List.length_cons, List.length_nil, List.nil_append, List.cons_append, List.append_nil, List.replicate, List.getElem?_cons_zero, List.getElem?_cons_succ, List.set_cons_zero, List.set_cons_succ, onBl_bl, onBlS_bl, if_true, if_false, Bool.not_true, Bool.not_false, Bool.false_eq_true]
        rw [e2])
  rw [List.length_map, List.take_of_length_le (Nat.le_refl _)] at hq
  subst hρ
  refine ⟨S', x, ?_⟩
  rw [run_succ at_39 rfl]
  have hlst : bltE .list [dRows c] S = .ok (.ref S.length) (S ++ [O.lst (c.1.map fun M => dR (M.along c.2))]) := rfl
  simp only [b_Stream_moved, ev_st, ev_all, ev_cst, ev_var, Out.bind, Out.st, SOut.seq, noExc, bindK, ps_all, List.map_cons, List.map_nil, List.length_cons, List.length_nil, List.nil_append, List.cons_append, List.append_nil, List.replicate, List.getElem?_cons_zero, List.getElem?_cons_succ, List.set_cons_zero, List.set_cons_succ, onBl_bl, onBlS_bl, if_true, if_false, Bool.not_true, Bool.not_false, Bool.false_eq_true, Bool.true_or, Bool.or_true, Bool.false_or, Bool.or_false, inst_all, meth_all, flds_all, as_fld, List.lookup_cons, List.lookup_nil, keys_bne, keys_ne, beq_self_eq_true, putD, isNon, decide_true, decide_false, Bool.and_true, Bool.true_and, Nat.zero_add, Nat.add_zero, ins_of hi, bltX_not (show Blt.list ≠ Blt.len by decide), hlst]
  rw [e]
  simp only [ev_st, ev_all, ev_cst, ev_var, Out.bind, Out.st, SOut.seq, noExc, bindK, ps_all, List.map_cons, List.map_nil, List.length_cons, List.length_nil, List.nil_append, List.cons_append, List.append_nil, List.replicate, List.getElem?_cons_zero, List.getElem?_cons_succ, List.set_cons_zero, List.set_cons_succ, onBl_bl, onBlS_bl, if_true, if_false, Bool.not_true, Bool.not_false, Bool.false_eq_true, bltX_not (show Blt.tuple ≠ Blt.len by decide)]
  have htup : bltE .tuple [.ref q] S' = .ok (.tup (c.1.map fun M => dR (M.along (c.2 ++ w)))) S' := by
    show (match seqD S' (.ref q) with
      | some xs => Out.ok (D.tup xs) S'
      | none => .bad) = _
    rw [seq_of hq]
  rw [htup]
theorem DsOk.snoc {d : Deed} (hk : DsOk g n c0 ds) (hd : DeedOk g n d) (hl : ds.length < 40) : DsOk g n c0 (ds ++ [d]) :=
  ⟨hk.g1, hk.g4, hk.n1, hk.n4, hk.c0, fun x hx => by
    rcases List.mem_append.mp hx with q | q
    · exact hk.dok x q
    · simp at q; subst q; exact hd, by simp; omega⟩
theorem DsOk.cur150 (hk : DsOk g n c0 ds) : CurOk g n 150 (H91.cur c0 ds) := by
  have := hk.c0.cur ds hk.dok
  have hl := hk.dl
  exact ⟨this.ms, this.len, this.fed, by have := this.fl; omega⟩
/-- a deed that feeds -/
def feeds : Deed → List Nat
  | .feed s => [s]
  | .feedAll w => w
  | .exch _ _ => []
theorem go_q (k : Nat) (h : Strm S s p b c0 ds bl) (hk : DsOk g n c0 ds) (hpb : p ≠ b) {d : Deed} (hd : DeedOk g n d) (hf : app (cur c0 ds) d = ((cur c0 ds).1, (cur c0 ds).2 ++ feeds d)) (hfg : ∀ s ∈ feeds d, s < g) (hfl : (feeds d).length ≤ 3) (hl : ds.length < 40) (hW : BIG ≤ W) :
    ∃ S', run TBL W (k + 6) 40 [.ref s, dDeed d, dW (feeds d)] S = .ok (dWorths (cur c0 (ds ++ [d]))) S' ∧ Strm S' s p b c0 (ds ++ [d]) bl ∧ FrL [s, p] S S' := by
  have hB := BIG_gt
  have hsz := sizeLine_eq
  have hc := hk.cur150
  have hcfl := hc.fl
  have hcn := hc.len
  obtain ⟨S1, x1, e1⟩ := moved_q (W := W) k h rfl hc hk.n4 hfg (by omega) hW
  have h1 := h.ext x1
  have e2 := note_q (W := W) (k + 4) h1 (by omega) d
  have hsp : p ≠ s := by
    rintro rfl
    have := h.ins
    rw [h.past] at this
    cases this
  have hsb : s ≠ b := by
    rintro rfl
    have := h.ins
    rw [h.blk] at this
    cases this
  have hi2 := set_ne h1.ins hsp (O.lst (pastL c0 (ds ++ [d])))
  have hp2 := set_self h1.past (O.lst (pastL c0 (ds ++ [d])))
  have hb2 := set_ne h1.blk hpb (O.lst (pastL c0 (ds ++ [d])))
  generalize hS2 : S1.set p (.lst (pastL c0 (ds ++ [d]))) = S2 at e2 hi2 hp2 hb2
  have hi3 := set_self hi2 (.ins 8 [("own_machines", dMs (cur c0 ds).1), ("rows", .tup ((cur c0 ds).1.map fun M => dR (M.along ((cur c0 ds).2 ++ feeds d)))), ("heard", dW (cur c0 ds).2), ("past", .ref p), ("blocks", .ref b)])
  generalize hS3 : S2.set s (.ins 8 [("own_machines", dMs (cur c0 ds).1), ("rows", .tup ((cur c0 ds).1.map fun M => dR (M.along ((cur c0 ds).2 ++ feeds d)))), ("heard", dW (cur c0 ds).2), ("past", .ref p), ("blocks", .ref b)]) = S3 at hi3
  generalize hS4 : S3.set s (.ins 8 [("own_machines", dMs (cur c0 ds).1), ("rows", .tup ((cur c0 ds).1.map fun M => dR (M.along ((cur c0 ds).2 ++ feeds d)))), ("heard", dW ((cur c0 ds).2 ++ feeds d)), ("past", .ref p), ("blocks", .ref b)]) = S4
  have hcs : cur c0 (ds ++ [d]) = ((cur c0 ds).1, (cur c0 ds).2 ++ feeds d) := by rw [cur_snoc, hf]
  have h4 : Strm S4 s p b c0 (ds ++ [d]) bl := by
    refine ⟨?_, ?_, ?_⟩
    · rw [hcs, ← hS4, set_self hi3]
      rfl
    · rw [← hS4, ← hS3]
      exact set_ne (set_ne hp2 (fun q => hsp q.symm) _) (fun q => hsp q.symm) _
    · rw [← hS4, ← hS3]
      exact set_ne (set_ne hb2 hsb _) hsb _
  obtain ⟨S5, x5, e5⟩ := worths_q (W := W) k h4 (hk.snoc hd hl) hW
  refine ⟨S5, ?_, h4.ext x5, (x1.frl _).trans ?_⟩
  · rw [run_succ at_40 rfl]
    have hadd : addE (dW (cur c0 ds).2) (dW (feeds d)) S3 = .ok (dW ((cur c0 ds).2 ++ feeds d)) S3 := by
      show (if _ then Out.ok (D.tup _) S3 else .bad) = _
      rw [if_pos (by simp only [List.length_map]; omega)]
      unfold dW
      rw [List.map_append]
    simp only [b_Stream_go, ev_st, ev_all, ev_cst, ev_var, Out.bind, Out.st, SOut.seq, noExc, bindK, ps_all, List.map_cons, List.map_nil, List.length_cons, List.length_nil, List.nil_append, List.cons_append, List.append_nil, List.replicate, List.getElem?_cons_zero, List.getElem?_cons_succ, List.set_cons_zero, List.set_cons_succ, onBl_bl, onBlS_bl, if_true, if_false, Bool.not_true, Bool.not_false, Bool.false_eq_true, Bool.true_or, Bool.or_true, Bool.false_or, Bool.or_false, inst_all, meth_all, flds_all, as_fld, List.lookup_cons, List.lookup_nil, keys_bne, keys_ne, beq_self_eq_true, putD, isNon, decide_true, decide_false, Bool.and_true, Bool.true_and, Nat.zero_add, Nat.add_zero, ins_of h.ins]
    rw [e1]
    simp only [ev_st, ev_all, ev_cst, ev_var, Out.bind, Out.st, SOut.seq, noExc, bindK, ps_all, List.map_cons, List.map_nil, List.length_cons, List.length_nil, List.nil_append, List.cons_append, List.append_nil, List.replicate, List.getElem?_cons_zero, List.getElem?_cons_succ, List.set_cons_zero, List.set_cons_succ, onBl_bl, onBlS_bl, if_true, if_false, Bool.not_true, Bool.not_false, Bool.false_eq_true, Bool.true_or, Bool.or_true, Bool.false_or, Bool.or_false, inst_all, meth_all, flds_all, as_fld, List.lookup_cons, List.lookup_nil, keys_bne, keys_ne, beq_self_eq_true, putD, isNon, decide_true, decide_false, Bool.and_true, Bool.true_and, Nat.zero_add, Nat.add_zero, ins_of h1.ins]
    rw [e2]
    simp only [ev_st, ev_all, ev_cst, ev_var, Out.bind, Out.st, SOut.seq, noExc, bindK, ps_all, List.map_cons, List.map_nil, List.length_cons, List.length_nil, List.nil_append, List.cons_append, List.append_nil, List.replicate, List.getElem?_cons_zero, List.getElem?_cons_succ, List.set_cons_zero, List.set_cons_succ, onBl_bl, onBlS_bl, if_true, if_false, Bool.not_true, Bool.not_false, Bool.false_eq_true, Bool.true_or, Bool.or_true, Bool.false_or, Bool.or_false, inst_all, meth_all, flds_all, as_fld, List.lookup_cons, List.lookup_nil, keys_bne, keys_ne, beq_self_eq_true, putD, isNon, decide_true, decide_false, Bool.and_true, Bool.true_and, Nat.zero_add, Nat.add_zero, ins_of hi2, show (List.length [(("own_machines" : Str), dMs (cur c0 ds).1)] : Nat) = 1 from rfl, show (0 + 1 + 1 + 1 + 1 + 1 < 1000) by decide, hS3, ins_of hi3, binE, hadd, hS4, ins_of h4.ins]
    rw [show ((run2 TBL W (k + 5)).2.1 34 [.ref s] S4) = _ from e5]
  · refine FrL.trans ?_ (x5.frl _)
    rw [← hS4, ← hS3, ← hS2]
    exact ((frl_set (by simp) _).set (by simp) _).set (by simp) _
end
end H91

set_option Elab.async false
set_option linter.all false
set_option maxRecDepth 100000
set_option maxHeartbeats 4000000
/-! Q91n: data that are shown; a stream made, fed, exchanged, taken back. -/
namespace H91
open Pl PySem PyProof.Rows L2
theorem shown_ent {q : Rat} (h : Sm 6 24 q) : Shown 2 33 (dQ q) := by
  obtain ⟨h1, h2⟩ := h.fits (by decide)
  have h3 := Nat.le_of_dvd (by decide) h1
  have e1 : q.num.natAbs < 10 ^ 12 := by have : (10 : Nat) ^ 12 = 1000000000000 := by decide
                                         omega
  have e2 : ((q.den : Nat) : Int).natAbs < 10 ^ 12 := by have : (10 : Nat) ^ 12 = 1000000000000 := by decide
                                                         simp only [Int.natAbs_natCast]
                                                         omega
  exact (Showns.cons (Shown.int e1) (Showns.cons (Shown.int e2) Showns.nil)).tup.mono (by decide)
theorem shown_big {k : Nat} {q : Rat} (h : Sm (6 ^ k) (100 ^ k) q) (hk : k ≤ 200) : Shown 2 1209 (dQ q) := by
  obtain ⟨h1, h2⟩ := sm_bq h hk
  have h3 := log2_le (Nat.le_of_dvd (Nat.pow_pos (by decide)) h1) (show (6 ^ 200 : Nat).log2 < 1900 by decide +kernel)
  exact (Showns.cons (Shown.big h2) (Showns.cons (Shown.big (i := ((q.den : Nat) : Int)) (by simpa using h3)) Showns.nil)).tup.mono (by decide)
theorem Showns.listle {α : Type} {n L N : Nat} {f : α → D} (l : List α) (h : ∀ a ∈ l, Shown n L (f a)) (hl : l.length ≤ N) : Shown (n + 1) (N * (L + 2) + 3) (.tup (l.map f)) :=
  (Showns.list l h).tup.mono (by have := Nat.mul_le_mul_right (L + 2) hl; omega)
theorem shown_row {r : List Rat} (h : Ent r) (hl : r.length ≤ 4) : Shown 3 143 (dR r) := (Showns.listle r (fun q hq => shown_ent (h q hq)) hl).mono (by decide)
theorem shown_mx {n : Nat} {m : List (List Rat)} (h : Sq n m) (hn : n ≤ 4) : Shown 4 583 (dMx m) := (Showns.listle m (fun r hr => shown_row (h.ent r hr) (by rw [h.rows r hr]; exact hn)) (by rw [h.len]; exact hn)).mono (by decide)
theorem lt12 {i : Nat} (h : i ≤ 1000) : ((i : Nat) : Int).natAbs < 10 ^ 12 := by
  have : (10 : Nat) ^ 12 = 1000000000000 := by decide
  simp only [Int.natAbs_natCast]
  omega
theorem shown_small {n : Nat} {i : Nat} (h : i ≤ 1000) : Shown (n + 1) 13 (.int (i : Nat)) := Shown.int (lt12 h)
theorem shown_M {M : Mc} (h : M.Ok) : Shown 6 2668 (dM M) := by
  have h4 := h.size4
  have h5 := h.signs4
  have hst : Shown 5 2343 (dSteps M.steps) := (Showns.listle M.steps (fun m hm => shown_mx (h.sq m hm) h4) (by rw [h.sl]; exact h5)).mono (by decide)
  have hb := shown_row h.be (by rw [h.bl]; exact h4)
  have hf := shown_row h.fe (by rw [h.fl]; exact h4)
  exact (Showns.cons (shown_small (n := 4) (show M.signs ≤ 1000 by omega)) (Showns.cons (shown_small (n := 4) (show M.size ≤ 1000 by omega)) (Showns.cons (hb.up (by decide)) (Showns.cons hst (Showns.cons (hf.up (by decide)) Showns.nil))))).tup.mono (by decide)
theorem shown_Ms {g : Nat} {ms : List Mc} (h : Mcs g ms) (hl : ms.length ≤ 4) : Shown 7 10683 (dMs ms) := (Showns.listle ms (fun M hM => shown_M (h M hM).1) hl).mono (by decide)
theorem shown_W {g N : Nat} {w : List Nat} (h : ∀ s ∈ w, s < g) (hg : g ≤ 4) (hl : w.length ≤ N) : Shown 2 (N * 15 + 3) (dW w) := Showns.listle w (fun s hs => shown_small (n := 0) (show s ≤ 1000 by have := h s hs; omega)) hl
theorem shown_deed {g n : Nat} {d : Deed} (h : DeedOk g n d) (hg : g ≤ 4) (hn : n ≤ 4) : Shown 7 2800 (dDeed d) := by
  have s1 : Shown 1 20 (.str "feed") := Shown.str (by decide +kernel) (by decide +kernel)
  have s2 : Shown 2 20 (.str "feed_all") := Shown.str (by decide +kernel) (by decide +kernel)
  have s3 : Shown 6 20 (.str "exchange") := Shown.str (by decide +kernel) (by decide +kernel)
  cases d with
  | feed s =>
    have : s < g := h
    exact ((Showns.cons s1 (Showns.cons (shown_small (n := 0) (show s ≤ 1000 by omega)) Showns.nil)).tup.up (by decide)).mono (by decide)
  | feedAll w => exact ((Showns.cons s2 (Showns.cons (shown_W h.1 hg h.2) Showns.nil)).tup.up (by decide)).mono (by decide)
  | exch i M =>
    have := h.1
    exact (Showns.cons s3 (Showns.cons (shown_small (n := 5) (show i ≤ 1000 by omega)) (Showns.cons (shown_M h.2.1) Showns.nil))).tup.mono (by decide)
section
variable {W : Nat} {s p b : Nat} {c0 : Cur} {ds : List Deed} {bl : List Nat} {g n : Nat} {S : Store}
theorem init_q (k : Nat) {ms : List Mc} (hms : Mcs g ms) (hl : ms.length ≤ 4) (hne : ms ≠ []) (hs : S[s]? = some (.ins 8 [])) (hW : BIG ≤ W) :
    ∃ S' p b, run TBL W (k + 10) 31 [.ref s, dMs ms] S = .ok .non S' ∧ Strm S' s p b (ms, []) [] [] ∧ FrL [s] S S' ∧ S.length ≤ p ∧ p < b := by
  have hB := BIG_gt
  have hsz := sizeLine_eq
  obtain ⟨S1, x1, e1⟩ := check_machines_q (W := W) k hms (by omega) hW S
  obtain ⟨ps, hps⟩ := (shown_Ms hms hl).tuple
  have he := eq_empty_t (S := S1) (neg := false) (toPy_le (by decide) (hps.to S1)) (flat_shaped hps.flat (by decide))
  have hpe : ps.isEmpty = false := by
    have h1 : (((ms.map dM).mapM (toPy [] 6)).map PyData.tuple) = some (.tuple ps) := hps.to []
    cases hm : (ms.map dM).mapM (toPy [] 6) with
    | none => rw [hm] at h1; cases h1
    | some qs =>
      rw [hm] at h1
      cases h1
      have := toPys_len hm
      cases ps with
      | nil =>
        rw [List.length_map] at this
        exact absurd (List.length_eq_zero_iff.mp this.symm) hne
      | cons _ _ => rfl
  rw [hpe] at he
  have he : eqE false (dMs ms) (.tup []) S1 = .ok (.bl false) S1 := he
  have hs1 := x1.get hs
  have hs2 := set_self hs1 (.ins 8 [("own_machines", dMs ms)])
  have f2 : FrL [s] S (S1.set s (.ins 8 [("own_machines", dMs ms)])) := (x1.frl _).set (by simp) _
  generalize hS2 : S1.set s (.ins 8 [("own_machines", dMs ms)]) = S2 at hs2 f2
  obtain ⟨S3, x3, e3⟩ : ∃ S3, Ext S2 S3 ∧ evE (cxk W (k + 9)) c_Stream___init___0 [some (.ref s), some (dMs ms), none, none] S2 = .ok (.ref S3.length) (S3 ++ [O.lst (ms.map fun M => dR M.begin)]) :=
    comp_list (cx := cxk W (k + 9)) (S1 := S2) (iv := .sq (dMs ms)) ms dM (fun M => dR M.begin)
      (by rw [evI]; simp only [ev_st, ev_all, ev_cst, ev_var, Out.bind, Out.st, SOut.seq, noExc, bindK, ps_all, List.map_cons, List.map_nil, List.length_cons, List.length_nil, List.nil_append, List.cons_append, List.append_nil, List.replicate, List.getElem?_cons_zero, List.getElem?_cons_succ, List.set_cons_zero, List.set_cons_succ, onBl_bl, onBlS_bl, if_true, if_false, Bool.not_true, Bool.not_false, Bool.false_eq_true]; rfl) (fun j T y hn => next_sq (by rfl) j) (fun M hM T _ => by
        refine ⟨[some (.ref s), some (dMs ms), none, some (dM M)], T, by simp [ev_st, wipeD], ?_, Ext.refl _⟩
        simp only [ev_st, ev_all, ev_cst, ev_var, Out.bind, Out.st, SOut.seq, noExc, bindK, ps_all, List.map_cons, List.map_nil, List.length_cons, List.length_nil, List.nil_append, List.cons_append, List.append_nil, List.replicate, List.getElem?_cons_zero, List.getElem?_cons_succ, List.set_cons_zero, List.set_cons_succ, onBl_bl, onBlS_bl, if_true, if_false, Bool.not_true, Bool.not_false, Bool.false_eq_true, (dM_at M T).2.1]) (by show _ < W; omega) (by omega)
  have hs3 := (x3.snoc (O.lst (ms.map fun M => dR M.begin))).get hs2
  have f3 : FrL [s] S (S3 ++ [O.lst (ms.map fun M => dR M.begin)]) := f2.trans ((x3.snoc _).frl _)
  generalize hS3 : S3 ++ [O.lst (ms.map fun M => dR M.begin)] = S3' at hs3 f3 e3
  have htup : bltE .tuple [.ref S3.length] S3' = .ok (.tup (ms.map fun M => dR M.begin)) S3' := by rw [← hS3]; exact tuple_new
  have hs4 := set_self hs3 (.ins 8 [("own_machines", dMs ms), ("rows", .tup (ms.map fun M => dR M.begin))])
  have f4 := f3.set (t := s) (by simp) (.ins 8 [("own_machines", dMs ms), ("rows", .tup (ms.map fun M => dR M.begin))])
  generalize hS4 : S3'.set s (.ins 8 [("own_machines", dMs ms), ("rows", .tup (ms.map fun M => dR M.begin))]) = S4 at hs4 f4
  have hs5 := set_self hs4 (.ins 8 [("own_machines", dMs ms), ("rows", .tup (ms.map fun M => dR M.begin)), ("heard", .tup [])])
  have f5 := f4.set (t := s) (by simp) (.ins 8 [("own_machines", dMs ms), ("rows", .tup (ms.map fun M => dR M.begin)), ("heard", .tup [])])
  generalize hS5 : S4.set s (.ins 8 [("own_machines", dMs ms), ("rows", .tup (ms.map fun M => dR M.begin)), ("heard", .tup [])]) = S5 at hs5 f5
  have hs6 := ((Ext.refl S5).snoc (.lst [])).get hs5
  have hp6 : (S5 ++ [O.lst []])[S5.length]? = some (.lst []) := by simp
  have hsp : s ≠ S5.length := by have := idx_lt hs5; omega
  have hs7 := set_self hs6 (.ins 8 [("own_machines", dMs ms), ("rows", .tup (ms.map fun M => dR M.begin)), ("heard", .tup []), ("past", .ref S5.length)])
  have hp7 := set_ne hp6 hsp (.ins 8 [("own_machines", dMs ms), ("rows", .tup (ms.map fun M => dR M.begin)), ("heard", .tup []), ("past", .ref S5.length)])
  have f7 := (f5.snoc (.lst [])).set (t := s) (by simp) (.ins 8 [("own_machines", dMs ms), ("rows", .tup (ms.map fun M => dR M.begin)), ("heard", .tup []), ("past", .ref S5.length)])
  generalize hS7 : (S5 ++ [O.lst []]).set s (.ins 8 [("own_machines", dMs ms), ("rows", .tup (ms.map fun M => dR M.begin)), ("heard", .tup []), ("past", .ref S5.length)]) = S7 at hs7 hp7 f7
  have hl7 : S7.length = S5.length + 1 := by rw [← hS7]; simp
  have hs8 := ((Ext.refl S7).snoc (.lst [])).get hs7
  have hp8 := ((Ext.refl S7).snoc (.lst [])).get hp7
  have hb8 : (S7 ++ [O.lst []])[S7.length]? = some (.lst []) := by simp
  have hsb : s ≠ S7.length := by have := idx_lt hs7; omega
  have hs9 := set_self hs8 (.ins 8 [("own_machines", dMs ms), ("rows", .tup (ms.map fun M => dR M.begin)), ("heard", .tup []), ("past", .ref S5.length), ("blocks", .ref S7.length)])
  have hp9 := set_ne hp8 hsp (.ins 8 [("own_machines", dMs ms), ("rows", .tup (ms.map fun M => dR M.begin)), ("heard", .tup []), ("past", .ref S5.length), ("blocks", .ref S7.length)])
  have hb9 := set_ne hb8 hsb (.ins 8 [("own_machines", dMs ms), ("rows", .tup (ms.map fun M => dR M.begin)), ("heard", .tup []), ("past", .ref S5.length), ("blocks", .ref S7.length)])
  have f9 := (f7.snoc (.lst [])).set (t := s) (by simp) (.ins 8 [("own_machines", dMs ms), ("rows", .tup (ms.map fun M => dR M.begin)), ("heard", .tup []), ("past", .ref S5.length), ("blocks", .ref S7.length)])
  generalize hS9 : (S7 ++ [O.lst []]).set s (.ins 8 [("own_machines", dMs ms), ("rows", .tup (ms.map fun M => dR M.begin)), ("heard", .tup []), ("past", .ref S5.length), ("blocks", .ref S7.length)]) = S9 at hs9 hp9 hb9 f9
  refine ⟨S9, S5.length, S7.length, ?_, ⟨hs9, hp9, hb9⟩, f9, f5.len, by omega⟩
  rw [run_succ at_31 rfl]
  simp only [b_Stream___init__, ev_st, ev_all, ev_cst, ev_var, Out.bind, Out.st, SOut.seq, noExc, bindK, ps_all, List.map_cons, List.map_nil, List.length_cons, List.length_nil, List.nil_append, List.cons_append, List.append_nil, List.replicate, List.getElem?_cons_zero, List.getElem?_cons_succ, List.set_cons_zero, List.set_cons_succ, onBl_bl, onBlS_bl, if_true, if_false, Bool.not_true, Bool.not_false, Bool.false_eq_true, Bool.true_or, Bool.or_true, Bool.false_or, Bool.or_false, inst_all, meth_all, flds_all, as_fld, List.lookup_cons, List.lookup_nil, keys_bne, keys_ne, beq_self_eq_true, putD, isNon, decide_true, decide_false, Bool.and_true, Bool.true_and, Nat.zero_add, Nat.add_zero]
  rw [show (run TBL W (k + 9) 29 [dMs ms, .non] S) = _ from e1]
  simp only [ev_st, ev_all, ev_cst, ev_var, Out.bind, Out.st, SOut.seq, noExc, bindK, ps_all, List.map_cons, List.map_nil, List.length_cons, List.length_nil, List.nil_append, List.cons_append, List.append_nil, List.replicate, List.getElem?_cons_zero, List.getElem?_cons_succ, List.set_cons_zero, List.set_cons_succ, onBl_bl, onBlS_bl, if_true, if_false, Bool.not_true, Bool.not_false, Bool.false_eq_true, Bool.true_or, Bool.or_true, Bool.false_or, Bool.or_false, inst_all, meth_all, flds_all, as_fld, List.lookup_cons, List.lookup_nil, keys_bne, keys_ne, beq_self_eq_true, putD, isNon, decide_true, decide_false, Bool.and_true, Bool.true_and, Nat.zero_add, Nat.add_zero, cmpE, Nat.zero_le, he, ins_of hs1, show (0 < 1000) by decide, hS2]
  rw [e3]
  simp only [ev_st, ev_all, ev_cst, ev_var, Out.bind, Out.st, SOut.seq, noExc, bindK, ps_all, List.map_cons, List.map_nil, List.length_cons, List.length_nil, List.nil_append, List.cons_append, List.append_nil, List.replicate, List.getElem?_cons_zero, List.getElem?_cons_succ, List.set_cons_zero, List.set_cons_succ, onBl_bl, onBlS_bl, if_true, if_false, Bool.not_true, Bool.not_false, Bool.false_eq_true, Bool.true_or, Bool.or_true, Bool.false_or, Bool.or_false, inst_all, meth_all, flds_all, as_fld, List.lookup_cons, List.lookup_nil, keys_bne, keys_ne, beq_self_eq_true, putD, isNon, decide_true, decide_false, Bool.and_true, Bool.true_and, Nat.zero_add, Nat.add_zero, bltX_not (show Blt.tuple ≠ Blt.len by decide), htup, ins_of hs3, ins_of hs4, ins_of hs5, ins_of hs6, ins_of hs8, Nat.zero_le, show (0 < 1000) by decide, show (1 < 1000) by decide, show (1 + 1 < 1000) by decide, show (1 + 1 + 1 < 1000) by decide, show (1 + 1 + 1 + 1 < 1000) by decide, hS4, hS5, hS7, hS9]
end
end H91

set_option Elab.async false
set_option linter.all false
set_option maxRecDepth 100000
set_option maxHeartbeats 4000000
/-! Q91o: a stream fed, exchanged. -/
namespace H91
open Pl PySem PyProof.Rows L2
section
variable {W : Nat} {s p b : Nat} {c0 : Cur} {ds : List Deed} {bl : List Nat} {g n : Nat} {S : Store}
theorem first_q {c : Cur} {l : Nat} (hc : CurOk g n l c) (h1 : 1 ≤ n) (S : Store) : ∃ M, c.1[0]? = some M ∧ M.signs = g ∧ idxE (dMs c.1) (.int 0) S = .ok (dM M) S ∧ idxE (dM M) (.int 0) S = .ok (.int (g : Nat)) S := by
  have hl := hc.len
  cases hm : c.1 with
  | nil => rw [hm] at hl; simp at hl; omega
  | cons M ms =>
    have hg := (hc.ms M (by rw [hm]; exact List.mem_cons_self)).2
    refine ⟨M, rfl, hg, idx_tup (j := 0) (by simp) S, ?_⟩
    rw [(dM_at M S).1, hg]
theorem feed_q (k : Nat) (h : Strm S s p b c0 ds bl) (hk : DsOk g n c0 ds) (hpb : p ≠ b) {t : Nat} (ht : t < g) (hl : ds.length < 40) (hW : BIG ≤ W) :
    ∃ S', run TBL W (k + 7) 41 [.ref s, .int (t : Nat)] S = .ok (dWorths (cur c0 (ds ++ [.feed t]))) S' ∧ Strm S' s p b c0 (ds ++ [.feed t]) bl ∧ FrL [s, p] S S' := by
  have hsz := sizeLine_eq
  obtain ⟨S', e, h', f⟩ := go_q (W := W) k h hk hpb (d := .feed t) ht rfl (by intro x hx; simp [feeds] at hx; omega) (by simp [feeds]) hl hW
  refine ⟨S', ?_, h', f⟩
  obtain ⟨M, m1, m2, m3, m4⟩ := first_q hk.cur hk.n1 S
  have e1 := check_sign_q (W := W) (k + 2) ht S
  rw [run_succ at_41 rfl]
  simp only [b_Stream_feed, ev_st, ev_all, ev_cst, ev_var, Out.bind, Out.st, SOut.seq, noExc, bindK, ps_all, List.map_cons, List.map_nil, List.length_cons, List.length_nil, List.nil_append, List.cons_append, List.append_nil, List.replicate, List.getElem?_cons_zero, List.getElem?_cons_succ, List.set_cons_zero, List.set_cons_succ, onBl_bl, onBlS_bl, if_true, if_false, Bool.not_true, Bool.not_false, Bool.false_eq_true, Bool.true_or, Bool.or_true, Bool.false_or, Bool.or_false, inst_all, meth_all, flds_all, as_fld, List.lookup_cons, List.lookup_nil, keys_bne, keys_ne, beq_self_eq_true, putD, isNon, decide_true, decide_false, Bool.and_true, Bool.true_and, Nat.zero_add, Nat.add_zero, ins_of h.ins, m3, m4, e1, hsz, show (0 + 1 + 1 ≤ 16777216) by decide, show (0 + 1 ≤ 16777216) by decide, show (1 + 1 ≤ 16777216) by decide, show (1 ≤ 16777216) by decide]
  rw [show (run TBL W (k + 6) 40 [.ref s, .tup [.str "feed", .int (t : Nat)], .tup [.int (t : Nat)]] S) = _ from e]
theorem feed_all_q (k : Nat) (h : Strm S s p b c0 ds bl) (hk : DsOk g n c0 ds) (hpb : p ≠ b) {w : List Nat} (hw : ∀ t ∈ w, t < g) (hwl : w.length ≤ 3) (hl : ds.length < 40) (hW : BIG ≤ W) :
    ∃ S', run TBL W (k + 7) 42 [.ref s, dW w] S = .ok (dWorths (cur c0 (ds ++ [.feedAll w]))) S' ∧ Strm S' s p b c0 (ds ++ [.feedAll w]) bl ∧ FrL [s, p] S S' := by
  have hsz := sizeLine_eq
  obtain ⟨S', e, h', f⟩ := go_q (W := W) k h hk hpb (d := .feedAll w) ⟨hw, hwl⟩ rfl hw hwl hl hW
  refine ⟨S', ?_, h', f⟩
  obtain ⟨M, m1, m2, m3, m4⟩ := first_q hk.cur hk.n1 S
  have e1 := check_word_q (W := W) (k + 2) hw (by omega) hW S
  rw [run_succ at_42 rfl]
  simp only [b_Stream_feed_all, ev_st, ev_all, ev_cst, ev_var, Out.bind, Out.st, SOut.seq, noExc, bindK, ps_all, List.map_cons, List.map_nil, List.length_cons, List.length_nil, List.nil_append, List.cons_append, List.append_nil, List.replicate, List.getElem?_cons_zero, List.getElem?_cons_succ, List.set_cons_zero, List.set_cons_succ, onBl_bl, onBlS_bl, if_true, if_false, Bool.not_true, Bool.not_false, Bool.false_eq_true, Bool.true_or, Bool.or_true, Bool.false_or, Bool.or_false, inst_all, meth_all, flds_all, as_fld, List.lookup_cons, List.lookup_nil, keys_bne, keys_ne, beq_self_eq_true, putD, isNon, decide_true, decide_false, Bool.and_true, Bool.true_and, Nat.zero_add, Nat.add_zero, ins_of h.ins, m3, m4, e1, hsz, show (0 + 1 + 1 ≤ 16777216) by decide, show (0 + 1 ≤ 16777216) by decide, show (1 + 1 ≤ 16777216) by decide, show (1 ≤ 16777216) by decide]
  rw [show (run TBL W (k + 6) 40 [.ref s, .tup [.str "feed_all", dW w], dW w] S) = _ from e]
theorem check_index_q (k : Nat) (h : Strm S s p b c0 ds bl) {l : Nat} (hc : CurOk g n l (cur c0 ds)) {i : Nat} (hi : i < n) : run TBL W (k + 3) 43 [.ref s, .int (i : Nat)] S = .ok .non S := by
  have e1 := is_from_int (W := W) k 0 (i : Nat) S
  rw [decide_eq_true (by omega : (0 : Int) ≤ (i : Nat))] at e1
  have hlen : bltE .len [dMs (cur c0 ds).1] S = .ok (.int (n : Nat)) S := by
    show Out.ok (D.int (((cur c0 ds).1.map dM).length : Nat)) S = _
    rw [List.length_map, hc.len]
  have hlt : ¬ ((n : Nat) : Int) ≤ (i : Nat) := by omega
  have hins : insD S (dMs (cur c0 ds).1) = none := rfl
  rw [run_succ at_43 rfl]
  simp only [b_Stream_check_index, ev_st, ev_all, ev_cst, ev_var, Out.bind, Out.st, SOut.seq, noExc, bindK, ps_all, List.map_cons, List.map_nil, List.length_cons, List.length_nil, List.nil_append, List.cons_append, List.append_nil, List.replicate, List.getElem?_cons_zero, List.getElem?_cons_succ, List.set_cons_zero, List.set_cons_succ, onBl_bl, onBlS_bl, if_true, if_false, Bool.not_true, Bool.not_false, Bool.false_eq_true, Bool.true_or, Bool.or_true, Bool.false_or, Bool.or_false, inst_all, meth_all, flds_all, as_fld, List.lookup_cons, List.lookup_nil, keys_bne, keys_ne, beq_self_eq_true, putD, isNon, decide_true, decide_false, Bool.and_true, Bool.true_and, Nat.zero_add, Nat.add_zero, ins_of h.ins, e1, bltX, hins, hlen, cmpE, ordE, hlt]
theorem take_map_q {α : Type} (l : List α) (f : α → D) (i : Nat) (x : D) (a : α) (hx : x = f a) : (l.map f).take i ++ [x] ++ (l.map f).drop (i + 1) = (l.take i ++ [a] ++ l.drop (i + 1)).map f := by
  subst hx
  simp [List.map_take, List.map_drop]
theorem exchange_q (k : Nat) (h : Strm S s p b c0 ds bl) (hk : DsOk g n c0 ds) (hpb : p ≠ b) {i : Nat} {M : Mc} (hi : i < n) (hM : M.Ok) (hMg : M.signs = g) (hl : ds.length < 40) (hW : BIG ≤ W) :
    ∃ S', run TBL W (k + 9) 44 [.ref s, .int (i : Nat), dM M] S = .ok (dQ (M.worth (cur c0 ds).2)) S' ∧ Strm S' s p b c0 (ds ++ [.exch i M]) bl ∧ FrL [s, p] S S' := by
  have hsz := sizeLine_eq
  have hc := hk.cur150
  have hcl := hc.len
  have hcfl := hc.fl
  have hn4 := hk.n4
  have hwM : ∀ t ∈ (cur c0 ds).2, t < M.signs := fun t ht => by rw [hMg]; exact hc.fed t ht
  have e1 := check_index_q (W := W) (k + 5) h hc hi
  obtain ⟨S1, x1, e2⟩ := check_machine_q (W := W) k hM hW S
  have h1 := h.ext x1
  obtain ⟨M0, m1, m2, m3, m4⟩ := first_q hk.cur hk.n1 S1
  have e3 := need_alike_q (W := W) (k + 7) M S1
  rw [hMg] at e3
  have e4 := note_q (W := W) (k + 7) h1 (by omega) (.exch i M)
  have hsp : p ≠ s := by
    rintro rfl
    have := h.ins
    rw [h.past] at this
    cases this
  have hsb : s ≠ b := by
    rintro rfl
    have := h.ins
    rw [h.blk] at this
    cases this
  have hi2 := set_ne h1.ins hsp (O.lst (pastL c0 (ds ++ [.exch i M])))
  have hp2 := set_self h1.past (O.lst (pastL c0 (ds ++ [.exch i M])))
  have hb2 := set_ne h1.blk hpb (O.lst (pastL c0 (ds ++ [.exch i M])))
  have f2 : FrL [s, p] S (S1.set p (.lst (pastL c0 (ds ++ [.exch i M])))) := (x1.frl _).set (by simp) _
  generalize hS2 : S1.set p (.lst (pastL c0 (ds ++ [.exch i M]))) = S2 at e4 hi2 hp2 hb2 f2
  obtain ⟨S3, x3, e5⟩ := row_in_q (W := W) (k + 2) hM hwM (by omega) hW S2
  have hi3 := x3.get hi2
  have hp3 := x3.get hp2
  have hb3 := x3.get hb2
  have f3 := f2.trans (x3.frl _)
  have hcs : cur c0 (ds ++ [.exch i M]) = ((cur c0 ds).1.take i ++ [M] ++ (cur c0 ds).1.drop (i + 1), (cur c0 ds).2) := by rw [cur_snoc]; rfl
  have hi4 := set_self hi3 (.ins 8 [("own_machines", dMs (cur c0 (ds ++ [.exch i M])).1), ("rows", dRows (cur c0 ds)), ("heard", dW (cur c0 ds).2), ("past", .ref p), ("blocks", .ref b)])
  have hp4 := set_ne hp3 (fun q => hsp q.symm) (.ins 8 [("own_machines", dMs (cur c0 (ds ++ [.exch i M])).1), ("rows", dRows (cur c0 ds)), ("heard", dW (cur c0 ds).2), ("past", .ref p), ("blocks", .ref b)])
  have hb4 := set_ne hb3 hsb (.ins 8 [("own_machines", dMs (cur c0 (ds ++ [.exch i M])).1), ("rows", dRows (cur c0 ds)), ("heard", dW (cur c0 ds).2), ("past", .ref p), ("blocks", .ref b)])
  have f4 := f3.set (t := s) (by simp) (.ins 8 [("own_machines", dMs (cur c0 (ds ++ [.exch i M])).1), ("rows", dRows (cur c0 ds)), ("heard", dW (cur c0 ds).2), ("past", .ref p), ("blocks", .ref b)])
  generalize hS4 : S3.set s (.ins 8 [("own_machines", dMs (cur c0 (ds ++ [.exch i M])).1), ("rows", dRows (cur c0 ds)), ("heard", dW (cur c0 ds).2), ("past", .ref p), ("blocks", .ref b)]) = S4 at hi4 hp4 hb4 f4
  have hi5 := set_self hi4 (.ins 8 [("own_machines", dMs (cur c0 (ds ++ [.exch i M])).1), ("rows", dRows (cur c0 (ds ++ [.exch i M]))), ("heard", dW (cur c0 ds).2), ("past", .ref p), ("blocks", .ref b)])
  have hp5 := set_ne hp4 (fun q => hsp q.symm) (.ins 8 [("own_machines", dMs (cur c0 (ds ++ [.exch i M])).1), ("rows", dRows (cur c0 (ds ++ [.exch i M]))), ("heard", dW (cur c0 ds).2), ("past", .ref p), ("blocks", .ref b)])
  have hb5 := set_ne hb4 hsb (.ins 8 [("own_machines", dMs (cur c0 (ds ++ [.exch i M])).1), ("rows", dRows (cur c0 (ds ++ [.exch i M]))), ("heard", dW (cur c0 ds).2), ("past", .ref p), ("blocks", .ref b)])
  have f5 := f4.set (t := s) (by simp) (.ins 8 [("own_machines", dMs (cur c0 (ds ++ [.exch i M])).1), ("rows", dRows (cur c0 (ds ++ [.exch i M]))), ("heard", dW (cur c0 ds).2), ("past", .ref p), ("blocks", .ref b)])
  generalize hS5 : S4.set s (.ins 8 [("own_machines", dMs (cur c0 (ds ++ [.exch i M])).1), ("rows", dRows (cur c0 (ds ++ [.exch i M]))), ("heard", dW (cur c0 ds).2), ("past", .ref p), ("blocks", .ref b)]) = S5 at hi5 hp5 hb5 f5
  obtain ⟨S6, x6, e6⟩ := dot_m (W := W) (k + 5) hM hwM (by omega) hW S5
  have h5 : Strm S5 s p b c0 (ds ++ [.exch i M]) bl := by
    refine ⟨?_, hp5, hb5⟩
    rw [hi5, hcs]
  refine ⟨S6, ?_, h5.ext x6, f5.trans (x6.frl _)⟩
  have c1 : ∀ (T : Store) {α : Type} (l : List α) (f : α → D), l.length = n → slcE (.tup (l.map f)) none (some (i : Nat)) T = .ok (.tup ((l.map f).take i)) T := fun T α l f hl => by
    show Out.ok (D.tup (Pl.cutD (l.map f) none (some ((i : Nat) : Int)))) T = _
    rw [cut_lo (by rw [List.length_map]; omega)]
  have c2 : ∀ (T : Store) {α : Type} (l : List α) (f : α → D), l.length = n → slcE (.tup (l.map f)) (some ((i : Nat) + 1 : Int)) none T = .ok (.tup ((l.map f).drop (i + 1))) T := fun T α l f hl => by
    show Out.ok (D.tup (Pl.cutD (l.map f) (some (((i + 1 : Nat)) : Int)) none)) T = _
    rw [cut_hi (by rw [List.length_map]; omega)]
  have b1 : ∀ (T : Store) {α : Type} (l : List α) (f : α → D) (x : D), l.length = n → addE (.tup ((l.map f).take i)) (.tup [x]) T = .ok (.tup ((l.map f).take i ++ [x])) T := fun T α l f x hl => if_pos (by rw [hsz]; simp; omega)
  have b2 : ∀ (T : Store) {α : Type} (l : List α) (f : α → D) (x : D) (a : α), x = f a → l.length = n → addE (.tup ((l.map f).take i ++ [x])) (.tup ((l.map f).drop (i + 1))) T = .ok (.tup ((l.take i ++ [a] ++ l.drop (i + 1)).map f)) T := fun T α l f x a hx hl => by
    rw [← take_map_q l f i x a hx]
    exact if_pos (by rw [hsz]; simp; omega)
  have d1 : slcE (dMs (cur c0 ds).1) none (some (i : Nat)) S3 = _ := c1 S3 (cur c0 ds).1 dM hcl
  have d2 : slcE (dMs (cur c0 ds).1) (some ((i : Nat) + 1 : Int)) none S3 = _ := c2 S3 (cur c0 ds).1 dM hcl
  have d3 := b1 S3 (cur c0 ds).1 dM (dM M) hcl
  have d4 := b2 S3 (cur c0 ds).1 dM (dM M) M rfl hcl
  have d5 : slcE (dRows (cur c0 ds)) none (some (i : Nat)) S4 = _ := c1 S4 (cur c0 ds).1 (fun M => dR (M.along (cur c0 ds).2)) hcl
  have d6 : slcE (dRows (cur c0 ds)) (some ((i : Nat) + 1 : Int)) none S4 = _ := c2 S4 (cur c0 ds).1 (fun M => dR (M.along (cur c0 ds).2)) hcl
  have d7 := b1 S4 (cur c0 ds).1 (fun M => dR (M.along (cur c0 ds).2)) (dR (M.along (cur c0 ds).2)) hcl
  have d8 := b2 S4 (cur c0 ds).1 (fun M => dR (M.along (cur c0 ds).2)) (dR (M.along (cur c0 ds).2)) M rfl hcl
  have d4 : addE (.tup (((cur c0 ds).1.map dM).take i ++ [dM M])) (.tup (((cur c0 ds).1.map dM).drop (i + 1))) S3 = .ok (dMs (cur c0 (ds ++ [.exch i M])).1) S3 := by rw [d4, hcs]; rfl
  have d8 : addE (.tup (((cur c0 ds).1.map fun M => dR (M.along (cur c0 ds).2)).take i ++ [dR (M.along (cur c0 ds).2)])) (.tup (((cur c0 ds).1.map fun M => dR (M.along (cur c0 ds).2)).drop (i + 1))) S4 = .ok (dRows (cur c0 (ds ++ [.exch i M]))) S4 := by rw [d8, hcs]; rfl
  have a3 : addE (.int (i : Nat)) (.int 1) S3 = .ok (.int ((i : Nat) + 1 : Int)) S3 := rfl
  have a4 : addE (.int (i : Nat)) (.int 1) S4 = .ok (.int ((i : Nat) + 1 : Int)) S4 := rfl
  have lt := show (0 + 1 + 1 + 1 + 1 + 1 < 1000) by decide
  have le3 := show (0 + 1 + 1 + 1 ≤ 16777216) by decide
  have le1 := show (0 + 1 ≤ 16777216) by decide
  simp only [Nat.zero_add] at lt le3 le1
  rw [run_succ at_44 rfl]
  simp only [b_Stream_exchange, ev_st, ev_all, ev_cst, ev_var, Out.bind, Out.st, SOut.seq, noExc, bindK, ps_all, List.map_cons, List.map_nil, List.length_cons, List.length_nil, List.nil_append, List.cons_append, List.append_nil, List.replicate, List.getElem?_cons_zero, List.getElem?_cons_succ, List.set_cons_zero, List.set_cons_succ, onBl_bl, onBlS_bl, if_true, if_false, Bool.not_true, Bool.not_false, Bool.false_eq_true, Bool.true_or, Bool.or_true, Bool.false_or, Bool.or_false, inst_all, meth_all, flds_all, as_fld, List.lookup_cons, List.lookup_nil, keys_bne, keys_ne, beq_self_eq_true, putD, isNon, decide_true, decide_false, Bool.and_true, Bool.true_and, Nat.zero_add, Nat.add_zero, ins_of h.ins]
  rw [e1]
  simp only [ev_st, ev_all, ev_cst, ev_var, Out.bind, Out.st, SOut.seq, noExc, bindK, ps_all, List.map_cons, List.map_nil, List.length_cons, List.length_nil, List.nil_append, List.cons_append, List.append_nil, List.replicate, List.getElem?_cons_zero, List.getElem?_cons_succ, List.set_cons_zero, List.set_cons_succ, onBl_bl, onBlS_bl, if_true, if_false, Bool.not_true, Bool.not_false, Bool.false_eq_true, Bool.true_or, Bool.or_true, Bool.false_or, Bool.or_false, inst_all, meth_all, flds_all, as_fld, List.lookup_cons, List.lookup_nil, keys_bne, keys_ne, beq_self_eq_true, putD, isNon, decide_true, decide_false, Bool.and_true, Bool.true_and, Nat.zero_add, Nat.add_zero]
  rw [e2]
  simp only [ev_st, ev_all, ev_cst, ev_var, Out.bind, Out.st, SOut.seq, noExc, bindK, ps_all, List.map_cons, List.map_nil, List.length_cons, List.length_nil, List.nil_append, List.cons_append, List.append_nil, List.replicate, List.getElem?_cons_zero, List.getElem?_cons_succ, List.set_cons_zero, List.set_cons_succ, onBl_bl, onBlS_bl, if_true, if_false, Bool.not_true, Bool.not_false, Bool.false_eq_true, Bool.true_or, Bool.or_true, Bool.false_or, Bool.or_false, inst_all, meth_all, flds_all, as_fld, List.lookup_cons, List.lookup_nil, keys_bne, keys_ne, beq_self_eq_true, putD, isNon, decide_true, decide_false, Bool.and_true, Bool.true_and, Nat.zero_add, Nat.add_zero, ins_of h1.ins, m3, m4]
  rw [e3]
  simp only [ev_st, ev_all, ev_cst, ev_var, Out.bind, Out.st, SOut.seq, noExc, bindK, ps_all, List.map_cons, List.map_nil, List.length_cons, List.length_nil, List.nil_append, List.cons_append, List.append_nil, List.replicate, List.getElem?_cons_zero, List.getElem?_cons_succ, List.set_cons_zero, List.set_cons_succ, onBl_bl, onBlS_bl, if_true, if_false, Bool.not_true, Bool.not_false, Bool.false_eq_true, Bool.true_or, Bool.or_true, Bool.false_or, Bool.or_false, inst_all, meth_all, flds_all, as_fld, List.lookup_cons, List.lookup_nil, keys_bne, keys_ne, beq_self_eq_true, putD, isNon, decide_true, decide_false, Bool.and_true, Bool.true_and, Nat.zero_add, Nat.add_zero, ins_of h1.ins, hsz, le3]
  rw [show (run TBL W (k + 8) 38 [.ref s, .tup [.str "exchange", .int (i : Nat), dM M]] S1) = _ from e4]
  simp only [ev_st, ev_all, ev_cst, ev_var, Out.bind, Out.st, SOut.seq, noExc, bindK, ps_all, List.map_cons, List.map_nil, List.length_cons, List.length_nil, List.nil_append, List.cons_append, List.append_nil, List.replicate, List.getElem?_cons_zero, List.getElem?_cons_succ, List.set_cons_zero, List.set_cons_succ, onBl_bl, onBlS_bl, if_true, if_false, Bool.not_true, Bool.not_false, Bool.false_eq_true, Bool.true_or, Bool.or_true, Bool.false_or, Bool.or_false, inst_all, meth_all, flds_all, as_fld, List.lookup_cons, List.lookup_nil, keys_bne, keys_ne, beq_self_eq_true, putD, isNon, decide_true, decide_false, Bool.and_true, Bool.true_and, Nat.zero_add, Nat.add_zero, ins_of hi2]
  rw [e5]
  simp only [ev_st, ev_all, ev_cst, ev_var, Out.bind, Out.st, SOut.seq, noExc, bindK, ps_all, List.map_cons, List.map_nil, List.length_cons, List.length_nil, List.nil_append, List.cons_append, List.append_nil, List.replicate, List.getElem?_cons_zero, List.getElem?_cons_succ, List.set_cons_zero, List.set_cons_succ, onBl_bl, onBlS_bl, if_true, if_false, Bool.not_true, Bool.not_false, Bool.false_eq_true, Bool.true_or, Bool.or_true, Bool.false_or, Bool.or_false, inst_all, meth_all, flds_all, as_fld, List.lookup_cons, List.lookup_nil, keys_bne, keys_ne, beq_self_eq_true, putD, isNon, decide_true, decide_false, Bool.and_true, Bool.true_and, Nat.zero_add, Nat.add_zero, ins_of hi3, onInt_int, hsz, le1]
  simp only [ev_st, ev_all, ev_cst, ev_var, Out.bind, Out.st, SOut.seq, noExc, bindK, ps_all, List.map_cons, List.map_nil, List.length_cons, List.length_nil, List.nil_append, List.cons_append, List.append_nil, List.replicate, List.getElem?_cons_zero, List.getElem?_cons_succ, List.set_cons_zero, List.set_cons_succ, onBl_bl, onBlS_bl, if_true, if_false, Bool.not_true, Bool.not_false, Bool.false_eq_true, Bool.true_or, Bool.or_true, Bool.false_or, Bool.or_false, inst_all, meth_all, flds_all, as_fld, List.lookup_cons, List.lookup_nil, keys_bne, keys_ne, beq_self_eq_true, putD, isNon, decide_true, decide_false, Bool.and_true, Bool.true_and, Nat.zero_add, Nat.add_zero, binE, d1, d3, ins_of hi3, a3, onInt_int, d2, d4, lt, hS4, ins_of hi4, d5, d7, a4, d6, d8, hsz, le1, hS5, (dM_at M S5).2.2.2, Nat.reduceAdd, Nat.reduceLT]
  rw [e6]
end
end H91

set_option Elab.async false
set_option linter.all false
set_option maxRecDepth 100000
set_option maxHeartbeats 4000000
/-! Q91p: what is refused: signs, words, indices. -/
namespace H91
open Pl PySem PyProof.Rows L2
/-- a loop that raises at its item m -/
theorem loop_exc {iv : Iv} {items : Nat → D} {body : D → Slots → Store → SOut} {x : Exn} {S2 : Store} (I : Nat → Slots → Store → Prop) {m fuel : Nat} {ρ : Slots} {S : Store} (hf : m < fuel) (h0 : I 0 ρ S)
    (hiv : ∀ n ρ S, n ≤ m → I n ρ S → nextI S iv n = .item (items n)) (hs : ∀ n ρ S, n < m → I n ρ S → ∃ ρ' S', body (items n) ρ S = .nx ρ' S' ∧ I (n + 1) ρ' S') (he : ∀ ρ S, I m ρ S → ∃ ρ', body (items m) ρ S = .exc x ρ' S2) :
    ∃ ρ', loopF iv body fuel 0 ρ S = .exc x ρ' S2 := by
  have main : ∀ (j n : Nat) (ρ : Slots) (S : Store), n + j = m → I n ρ S → ∀ fuel, j < fuel → ∃ ρ', loopF iv body fuel n ρ S = .exc x ρ' S2 := by
    intro j
    induction j with
    | zero =>
      intro n ρ S hn hI fuel hf
      obtain rfl : n = m := by omega
      cases fuel with
      | zero => omega
      | succ f =>
        obtain ⟨ρ', e⟩ := he ρ S hI
        refine ⟨ρ', ?_⟩
        rw [loopF, hiv n ρ S (Nat.le_refl _) hI]
        simp only [e]
    | succ j ih =>
      intro n ρ S hn hI fuel hf
      cases fuel with
      | zero => omega
      | succ f =>
        obtain ⟨ρ1, S1, e1, h1⟩ := hs n ρ S (by omega) hI
        rw [loopF, hiv n ρ S (by omega) hI]
        simp only [e1]
        exact ih (n + 1) ρ1 S1 (by omega) h1 f (by omega)
  exact main m 0 ρ S (by omega) h0 fuel hf
/-- no whole number -/
def badI : D → Bool
  | .non => true
  | .bl _ => true
  | .str _ => true
  | .tup _ => true
  | _ => false
section
variable {W : Nat} {S : Store}
theorem isi_bad {d : D} (h : badI d = true) (S : Store) : (∃ b, isiE .int d S = .ok (.bl b) S ∧ (b = true → isiE .bool d S = .ok (.bl true) S)) := by
  cases d with
  | non => exact ⟨false, rfl, fun h => by cases h⟩
  | bl b => exact ⟨true, rfl, fun _ => rfl⟩
  | str x => exact ⟨false, rfl, fun h => by cases h⟩
  | tup ds => exact ⟨false, rfl, fun h => by cases h⟩
  | int i => cases h
  | rol ds => cases h
  | ref i => cases h
theorem is_integer_bad (k : Nat) {d : D} (h : badI d = true) (S : Store) : run TBL W (k + 1) 3 [d] S = .ok (.bl false) S := by
  obtain ⟨b, h1, h2⟩ := isi_bad h S
  rw [run_succ at_3 rfl]
  cases b with
  | false => simp [b_is_integer, ev_st, ev_all, ev_var, h1, onBl_bl, Out.bind, Out.st, SOut.seq]
  | true => simp [b_is_integer, ev_st, ev_all, ev_var, h1, h2 rfl, onBl_bl, Out.bind, Out.st, SOut.seq]
theorem is_from_bad (k : Nat) (l : Int) {d : D} (h : badI d = true) (S : Store) : run TBL W (k + 2) 4 [.int l, d] S = .ok (.bl false) S := by
  rw [run_succ at_4 rfl]
  simp [b_is_from, ev_st, ev_all, ev_cst, ev_var, bindK, ps_all, is_integer_bad (W := W) k h S, onBl_bl, Out.bind, Out.st, SOut.seq]
theorem is_sign_bad (k : Nat) (g : Int) {d : D} (h : badI d = true) (S : Store) : run TBL W (k + 3) 6 [.int g, d] S = .ok (.bl false) S := by
  rw [run_succ at_6 rfl]
  simp [b_is_sign, ev_st, ev_all, ev_cst, ev_var, bindK, ps_all, is_from_bad (W := W) k 0 h S, onBl_bl, Out.bind, Out.st, SOut.seq]
/-- no sign of g signs -/
def noSign (g : Nat) (d : D) : Prop := badI d = true ∨ d = .int (-1) ∨ d = .int (g : Nat)
theorem no_sign_q (k : Nat) {g : Nat} {d : D} (h : noSign g d) (S : Store) : run TBL W (k + 3) 6 [.int (g : Nat), d] S = .ok (.bl false) S := by
  rcases h with h | h | h
  · exact is_sign_bad k g h S
  · subst h
    rw [is_sign_int]
    simp
  · subst h
    rw [is_sign_int]
    simp
theorem check_sign_no (k : Nat) {g : Nat} {d : D} (h : noSign g d) (S : Store) : run TBL W (k + 4) 8 [.int (g : Nat), d] S = .exc ⟨2, none⟩ S := by
  have e := no_sign_q (W := W) k h S
  rw [run_succ at_8 rfl]
  simp [b_check_sign, ev_st, ev_all, ev_cst, ev_var, Out.bind, Out.st, SOut.seq, noExc, bindK, ps_all, e, onBlS_bl, onBl_bl]
theorem ev_raiseF (cx : Pl.Ctx) (c : Nat) (f : Str) (e : E) (ρ : Slots) (S : Store) : evC cx (.raiseF c f e) ρ S = (evE cx e ρ S).st ρ fun d S => match reprX d S with
    | some x => if cx.lv = true ∧ x.length ≤ 1000000 then .exc ⟨c, some (f, d)⟩ ρ S else .bad
    | none => .bad := by rw [evC] <;> rfl
def shOk (d : D) (S : Store) : Prop := ∃ x, reprX d S = some x ∧ x.length ≤ 1000000
theorem sh_of {d : D} {S : Store} (h : (match reprX d S with
    | some x => decide (x.length ≤ 1000000)
    | none => false) = true) : shOk d S := by
  split at h
  · rename_i x e
    exact ⟨x, e, of_decide_eq_true h⟩
  · cases h
theorem sh_int (i : Int) (h : -1 ≤ i) (h2 : i ≤ 8) (S : Store) : shOk (.int i) S := by
  have : i = -1 ∨ i = 0 ∨ i = 1 ∨ i = 2 ∨ i = 3 ∨ i = 4 ∨ i = 5 ∨ i = 6 ∨ i = 7 ∨ i = 8 := by omega
  have e : ∀ i : Int, reprX (.int i) S = reprX (.int i) [] := fun _ => rfl
  rcases this with h | h | h | h | h | h | h | h | h | h
  · subst h; obtain ⟨x, h1, h2⟩ := sh_of (d := .int (-1)) (S := []) (by decide +kernel); exact ⟨x, (e _).trans h1, h2⟩
  · subst h; obtain ⟨x, h1, h2⟩ := sh_of (d := .int (0)) (S := []) (by decide +kernel); exact ⟨x, (e _).trans h1, h2⟩
  · subst h; obtain ⟨x, h1, h2⟩ := sh_of (d := .int (1)) (S := []) (by decide +kernel); exact ⟨x, (e _).trans h1, h2⟩
  · subst h; obtain ⟨x, h1, h2⟩ := sh_of (d := .int (2)) (S := []) (by decide +kernel); exact ⟨x, (e _).trans h1, h2⟩
  · subst h; obtain ⟨x, h1, h2⟩ := sh_of (d := .int (3)) (S := []) (by decide +kernel); exact ⟨x, (e _).trans h1, h2⟩
  · subst h; obtain ⟨x, h1, h2⟩ := sh_of (d := .int (4)) (S := []) (by decide +kernel); exact ⟨x, (e _).trans h1, h2⟩
  · subst h; obtain ⟨x, h1, h2⟩ := sh_of (d := .int (5)) (S := []) (by decide +kernel); exact ⟨x, (e _).trans h1, h2⟩
  · subst h; obtain ⟨x, h1, h2⟩ := sh_of (d := .int (6)) (S := []) (by decide +kernel); exact ⟨x, (e _).trans h1, h2⟩
  · subst h; obtain ⟨x, h1, h2⟩ := sh_of (d := .int (7)) (S := []) (by decide +kernel); exact ⟨x, (e _).trans h1, h2⟩
  · subst h; obtain ⟨x, h1, h2⟩ := sh_of (d := .int (8)) (S := []) (by decide +kernel); exact ⟨x, (e _).trans h1, h2⟩
theorem sh_tup (l : List D) (h : l = [] ∨ l = [.int 0] ∨ l = [.int 4]) (S : Store) : shOk (.tup l) S := by
  rcases h with h | h | h
  · subst h
    have e : reprX (.tup []) S = reprX (.tup []) [] := rfl
    obtain ⟨x, h1, h2⟩ := sh_of (d := .tup []) (S := []) (by decide +kernel)
    exact ⟨x, e.trans h1, h2⟩
  · subst h
    have e : reprX (.tup [.int 0]) S = reprX (.tup [.int 0]) [] := rfl
    obtain ⟨x, h1, h2⟩ := sh_of (d := .tup [.int 0]) (S := []) (by decide +kernel)
    exact ⟨x, e.trans h1, h2⟩
  · subst h
    have e : reprX (.tup [.int 4]) S = reprX (.tup [.int 4]) [] := rfl
    obtain ⟨x, h1, h2⟩ := sh_of (d := .tup [.int 4]) (S := []) (by decide +kernel)
    exact ⟨x, e.trans h1, h2⟩
theorem raiseF_q {cx : Pl.Ctx} {c : Nat} {f : Str} {e : E} {ρ : Slots} {S S' : Store} {d : D} (he : evE cx e ρ S = .ok d S') (hl : cx.lv = true) (hs : shOk d S') : evC cx (.raiseF c f e) ρ S = .exc ⟨c, some (f, d)⟩ ρ S' := by
  obtain ⟨x, h1, h2⟩ := hs
  rw [ev_raiseF, he]
  show (match reprX d S' with
    | some x => if cx.lv = true ∧ x.length ≤ 1000000 then SOut.exc ⟨c, some (f, d)⟩ ρ S' else .bad
    | none => .bad) = _
  rw [h1]
  exact if_pos ⟨hl, h2⟩
theorem check_word_out (k : Nat) {g : Nat} {w : List Nat} (hw : ∀ s ∈ w, s < g) (hl : w.length ≤ 3) {x : D} (hx : noSign g x) (hW : BIG ≤ W) (S : Store) :
    run TBL W (k + 4) 7 [.int (g : Nat), .tup ((w.map fun s => D.int (s : Nat)) ++ [x])] S = .exc ⟨6, some ("index", .int (w.length : Nat))⟩ S := by
  have hB := BIG_gt
  have hz : ((w.map fun s => D.int (s : Nat)) ++ [x]).length = w.length + 1 := by simp
  obtain ⟨ρ', e⟩ : ∃ ρ', evC (cxk W (k + 3)) c_check_word_0 [some (.int (g : Nat)), some (.tup ((w.map fun s => D.int (s : Nat)) ++ [x])), none, none] S = .exc ⟨6, some ("index", .int (w.length : Nat))⟩ ρ' S := by
    have e0 : evI (cxk W (k + 3)) (.enum (.var 1)) [some (.int (g : Nat)), some (.tup ((w.map fun s => D.int (s : Nat)) ++ [x])), none, none] S = .ok (.en (.tup ((w.map fun s => D.int (s : Nat)) ++ [x]))) S := by
      simp [evI, ev_all, ev_var, seqD, Out.bind]
    unfold c_check_word_0
    rw [evC, e0]
    refine loop_exc (items := fun n => D.tup [.int (n : Nat), (((w.map fun s => D.int (s : Nat)) ++ [x])[n]?).getD .non]) (m := w.length) (fun n ρ S' => S' = S ∧ ∃ u v, ρ = [some (.int (g : Nat)), some (.tup ((w.map fun s => D.int (s : Nat)) ++ [x])), u, v]) (by show _ < W; omega) ⟨rfl, none, none, rfl⟩ (fun n ρ S' hn hI => ?_) (fun n ρ S' hn hI => ?_) (fun ρ S' hI => ?_)
    · unfold nextI
      simp only [seqD]
      have hlt : n < ((w.map fun s => D.int (s : Nat)) ++ [x]).length := by rw [hz]; omega
      rw [List.getElem?_eq_getElem hlt]
      simp
    · obtain ⟨rfl, u, v, rfl⟩ := hI
      have hm : w[n] ∈ w := List.getElem_mem _
      have hx2 : (((w.map fun s => D.int (s : Nat)) ++ [x])[n]?).getD .non = .int (w[n] : Nat) := by
        rw [List.getElem?_append_left (by simpa using hn)]
        simp [hn]
      rw [hx2]
      generalize w[n] = s at hm
      have e := is_sign_int (W := W) k (g : Nat) (s : Nat) S'
      have h1 : (0 : Int) ≤ (s : Nat) := by omega
      have h2 : ((s : Nat) : Int) < (g : Nat) := by have := hw s hm; omega
      rw [decide_eq_true h1, decide_eq_true h2] at e
      refine ⟨[some (.int (g : Nat)), some (.tup ((w.map fun s => D.int (s : Nat)) ++ [x])), some (.int (n : Nat)), some (.int (s : Nat))], S', ?_, rfl, _, _, rfl⟩
      simp [ev_st, ev_all, ev_cst, ev_var, seqD, Out.bind, Out.st, SOut.seq, noExc, bindK, ps_all, e, onBl_bl, onBlS_bl]
    · obtain ⟨rfl, u, v, rfl⟩ := hI
      have hx2 : (((w.map fun s => D.int (s : Nat)) ++ [x])[w.length]?).getD .non = x := by
        rw [List.getElem?_append_right (by simp)]
        simp
      rw [hx2]
      have e := no_sign_q (W := W) k hx S'
      have er := raiseF_q (cx := cxk W (k + 3)) (c := 6) (f := "index") (e := .var 2) (ρ := [some (.int (g : Nat)), some (.tup ((w.map fun s => D.int (s : Nat)) ++ [x])), some (.int (w.length : Nat)), some x]) (S := S') (d := .int (w.length : Nat)) (by simp [ev_var]) rfl (sh_int _ (by omega) (by omega) S')
      refine ⟨[some (.int (g : Nat)), some (.tup ((w.map fun s => D.int (s : Nat)) ++ [x])), some (.int (w.length : Nat)), some x], ?_⟩
      simp [ev_st, ev_all, ev_cst, ev_var, seqD, Out.bind, Out.st, SOut.seq, noExc, bindK, ps_all, e, onBl_bl, onBlS_bl, er]
  rw [run_succ at_7 rfl]
  have ht : isiE .tuple (.tup ((w.map fun s => D.int (s : Nat)) ++ [x])) S = .ok (.bl true) S := rfl
  simp only [b_check_word, ev_st, ev_all, ev_cst, ev_var, Out.bind, Out.st, SOut.seq, noExc, bindK, ps_all, List.map_cons, List.map_nil, List.length_cons, List.length_nil, List.nil_append, List.cons_append, List.append_nil, List.replicate, List.getElem?_cons_zero, List.getElem?_cons_succ, List.set_cons_zero, List.set_cons_succ, onBl_bl, onBlS_bl, if_true, if_false, Bool.not_true, Bool.not_false, Bool.false_eq_true, ht]
  rw [e]
theorem check_word_no (k : Nat) {g : Nat} {d : D} (h : d = .non ∨ ∃ j ds, d = .ref j ∧ S[j]? = some (.lst ds)) : run TBL W (k + 4) 7 [.int (g : Nat), d] S = .exc ⟨6, some ("index", .int (-1))⟩ S := by
  have ht : isiE .tuple d S = .ok (.bl false) S := by
    rcases h with h | ⟨j, ds, h, hj⟩
    · subst h; rfl
    · subst h
      simp [isiE, tyD, hj, isTy]
  have er := raiseF_q (cx := cxk W (k + 3)) (c := 6) (f := "index") (e := .cst (.int (-1))) (ρ := [some (.int (g : Nat)), some d, none, none]) (S := S) (d := .int (-1)) (by simp [ev_cst]) rfl (sh_int _ (by omega) (by omega) S)
  rw [run_succ at_7 rfl]
  rw [show (List.map some [D.int (g : Nat), d] ++ List.replicate (4 - [D.int (g : Nat), d].length) none) = [some (.int (g : Nat)), some d, none, none] from rfl]
  simp [b_check_word, ev_st, ev_all, ev_cst, ev_var, ht, Out.bind, Out.st, SOut.seq, onBl_bl, onBlS_bl, er]
end
end H91

set_option Elab.async false
set_option linter.all false
set_option maxRecDepth 100000
set_option maxHeartbeats 4000000
/-! Q91q: what is refused: machines; the stream's calls that refuse; would. -/
namespace H91
open Pl PySem PyProof.Rows L2
section
variable {W : Nat} {S : Store}
theorem is_tuple_no (k : Nat) (n : Int) {d : D} (h : isiE .tuple d S = .ok (.bl false) S) : run TBL W (k + 1) 5 [.int n, d] S = .ok (.bl false) S := by
  rw [run_succ at_5 rfl]
  simp [b_is_tuple, ev_st, ev_all, ev_cst, ev_var, h, onBl_bl, Out.bind, Out.st, SOut.seq]
theorem nt_non : isiE .tuple .non S = .ok (.bl false) S := rfl
theorem nt_lst {j : Nat} {ds : List D} (hj : S[j]? = some (.lst ds)) : isiE .tuple (.ref j) S = .ok (.bl false) S := by
  simp [isiE, tyD, hj, isTy]
theorem fault_nt (k : Nat) {d : D} (h : isiE .tuple d S = .ok (.bl false) S) : run TBL W (k + 7) 25 [d] S = .ok (.tup []) S := by
  have e := is_tuple_no (W := W) (k + 5) 5 h
  rw [run_succ at_25 rfl]
  simp [b_machine_fault, ev_st, ev_all, ev_cst, ev_var, Out.bind, Out.st, SOut.seq, noExc, bindK, ps_all, e, onBl_bl, onBlS_bl]
theorem fault_0 (k : Nat) (a b c d : D) : run TBL W (k + 7) 25 [.tup [.int 0, a, b, c, d]] S = .ok (.tup [.int 0]) S := by
  have ht := is_tuple_n (W := W) (k + 5) 5 [.int 0, a, b, c, d] S
  have f1 := is_from_int (W := W) (k + 4) 1 0 S
  rw [run_succ at_25 rfl]
  simp at ht f1
  simp [b_machine_fault, ev_st, ev_all, ev_cst, ev_var, Out.bind, Out.st, SOut.seq, noExc, bindK, ps_all, ht, f1, seqD, onBl_bl, onBlS_bl, sizeLine_eq]
theorem is_row_no (k : Nat) (n : Int) : run TBL W (k + 2) 11 [.int n, .non] S = .ok (.bl false) S := by
  have e := is_tuple_no (W := W) (S := S) k n nt_non
  rw [run_succ at_11 rfl]
  simp [b_is_row, ev_st, ev_all, ev_cst, ev_var, Out.bind, Out.st, SOut.seq, noExc, bindK, ps_all, e, onBl_bl, onBlS_bl]
theorem fault_4 (k : Nat) {M : Mc} (h : M.Ok) (hW : BIG ≤ W) (S : Store) : ∃ S', Ext S S' ∧ run TBL W (k + 7) 25 [.tup [.int (M.signs : Nat), .int (M.size : Nat), dR M.begin, dSteps M.steps, .non]] S = .ok (.tup [.int 4]) S' := by
  have hB := BIG_gt
  have h4 := h.size4
  have hs1 := h.signs1
  obtain ⟨S1, e1, x1⟩ := is_row_q (W := W) (by omega) (k + 2) (M.size : Nat) M.begin (by rw [h.bl]) (by rw [h.bl]; omega) S
  obtain ⟨S2, x2, e2⟩ := steps_fault_q (W := W) k h hW S1
  have e3 := is_row_no (W := W) (S := S2) (k + 4) (M.size : Nat)
  refine ⟨S2, x1.trans x2, ?_⟩
  have ht := is_tuple_n (W := W) (k + 5) 5 [.int (M.signs : Nat), .int (M.size : Nat), dR M.begin, dSteps M.steps, .non] S
  have f1 := is_from_int (W := W) (k + 4) 1 (M.signs : Nat) S
  have f2 := is_from_int (W := W) (k + 4) 0 (M.size : Nat) S
  have q1 : (1 : Int) ≤ (M.signs : Nat) := by omega
  rw [run_succ at_25 rfl]
  simp at ht
  simp [b_machine_fault, ev_st, ev_all, ev_cst, ev_var, Out.bind, Out.st, SOut.seq, noExc, bindK, ps_all, ht, f1, f2, q1, hs1, seqD, onBl_bl, onBlS_bl, e1, e2, e3, isNon, sizeLine_eq]
theorem check_machine_no (k : Nat) {d : D} {l : List D} {S S' : Store} (h : run TBL W (k + 7) 25 [d] S = .ok (.tup l) S') (hl : l = [] ∨ l = [.int 0] ∨ l = [.int 4]) : run TBL W (k + 8) 27 [d] S = .exc ⟨5, some ("place", .tup l)⟩ S' := by
  have er := raiseF_q (cx := cxk W (k + 7)) (c := 5) (f := "place") (e := .var 1) (ρ := [some d, some (.tup l)]) (S := S') (d := .tup l) (by simp [ev_var]) rfl (sh_tup l hl S')
  rw [run_succ at_27 rfl]
  simp [b_check_machine, ev_st, ev_all, ev_cst, ev_var, Out.bind, Out.st, SOut.seq, noExc, bindK, ps_all, h, isNon, onBlS_bl, er]
theorem need_alike_no (k : Nat) (g : Nat) (M : Mc) (h : M.signs ≠ g) (S : Store) : run TBL W (k + 1) 28 [.int (g : Nat), dM M] S = .exc ⟨3, none⟩ S := by
  have hne : ¬ ((M.signs : Nat) : Int) = (g : Nat) := by omega
  rw [run_succ at_28 rfl]
  simp [b_need_alike_signs, ev_st, ev_all, ev_cst, ev_var, Out.bind, Out.st, SOut.seq, (dM_at M S).1, cmpE, eqE, eqD, onBlS_bl, hne]
end
section
variable {W : Nat} {s p b : Nat} {c0 : Cur} {ds : List Deed} {bl : List Nat} {g n : Nat} {S : Store}
theorem feed_no (k : Nat) (h : Strm S s p b c0 ds bl) (hk : DsOk g n c0 ds) {d : D} (hd : noSign g d) : run TBL W (k + 5) 41 [.ref s, d] S = .exc ⟨2, none⟩ S := by
  obtain ⟨M, m1, m2, m3, m4⟩ := first_q hk.cur hk.n1 S
  have e1 := check_sign_no (W := W) k hd S
  rw [run_succ at_41 rfl]
  simp only [b_Stream_feed, ev_st, ev_all, ev_cst, ev_var, Out.bind, Out.st, SOut.seq, noExc, bindK, ps_all, List.map_cons, List.map_nil, List.length_cons, List.length_nil, List.nil_append, List.cons_append, List.append_nil, List.replicate, List.getElem?_cons_zero, List.getElem?_cons_succ, List.set_cons_zero, List.set_cons_succ, onBl_bl, onBlS_bl, if_true, if_false, Bool.not_true, Bool.not_false, Bool.false_eq_true, Bool.true_or, Bool.or_true, Bool.false_or, Bool.or_false, inst_all, meth_all, flds_all, as_fld, List.lookup_cons, List.lookup_nil, keys_bne, keys_ne, beq_self_eq_true, putD, isNon, decide_true, decide_false, Bool.and_true, Bool.true_and, Nat.zero_add, Nat.add_zero, ins_of h.ins, m3, m4, e1]
theorem feed_all_no (k : Nat) (h : Strm S s p b c0 ds bl) (hk : DsOk g n c0 ds) {d : D} {x : Exn} (e1 : run TBL W (k + 4) 7 [.int (g : Nat), d] S = .exc x S) : run TBL W (k + 5) 42 [.ref s, d] S = .exc x S := by
  obtain ⟨M, m1, m2, m3, m4⟩ := first_q hk.cur hk.n1 S
  rw [run_succ at_42 rfl]
  simp only [b_Stream_feed_all, ev_st, ev_all, ev_cst, ev_var, Out.bind, Out.st, SOut.seq, noExc, bindK, ps_all, List.map_cons, List.map_nil, List.length_cons, List.length_nil, List.nil_append, List.cons_append, List.append_nil, List.replicate, List.getElem?_cons_zero, List.getElem?_cons_succ, List.set_cons_zero, List.set_cons_succ, onBl_bl, onBlS_bl, if_true, if_false, Bool.not_true, Bool.not_false, Bool.false_eq_true, Bool.true_or, Bool.or_true, Bool.false_or, Bool.or_false, inst_all, meth_all, flds_all, as_fld, List.lookup_cons, List.lookup_nil, keys_bne, keys_ne, beq_self_eq_true, putD, isNon, decide_true, decide_false, Bool.and_true, Bool.true_and, Nat.zero_add, Nat.add_zero, ins_of h.ins, m3, m4, e1]
theorem would_no (k : Nat) (h : Strm S s p b c0 ds bl) (hk : DsOk g n c0 ds) {d : D} {x : Exn} (e1 : run TBL W (k + 4) 7 [.int (g : Nat), d] S = .exc x S) : run TBL W (k + 5) 52 [.ref s, d] S = .exc x S := by
  obtain ⟨M, m1, m2, m3, m4⟩ := first_q hk.cur hk.n1 S
  rw [run_succ at_52 rfl]
  simp only [b_Stream_would, ev_st, ev_all, ev_cst, ev_var, Out.bind, Out.st, SOut.seq, noExc, bindK, ps_all, List.map_cons, List.map_nil, List.length_cons, List.length_nil, List.nil_append, List.cons_append, List.append_nil, List.replicate, List.getElem?_cons_zero, List.getElem?_cons_succ, List.set_cons_zero, List.set_cons_succ, onBl_bl, onBlS_bl, if_true, if_false, Bool.not_true, Bool.not_false, Bool.false_eq_true, Bool.true_or, Bool.or_true, Bool.false_or, Bool.or_false, inst_all, meth_all, flds_all, as_fld, List.lookup_cons, List.lookup_nil, keys_bne, keys_ne, beq_self_eq_true, putD, isNon, decide_true, decide_false, Bool.and_true, Bool.true_and, Nat.zero_add, Nat.add_zero, ins_of h.ins, m3, m4, e1]
theorem check_index_no (k : Nat) (h : Strm S s p b c0 ds bl) (hk : DsOk g n c0 ds) {d : D} (hd : noSign n d) : run TBL W (k + 3) 43 [.ref s, d] S = .exc ⟨4, none⟩ S := by
  have hc := hk.cur
  have hlen : bltE .len [dMs (cur c0 ds).1] S = .ok (.int (n : Nat)) S := by
    show Out.ok (D.int (((cur c0 ds).1.map dM).length : Nat)) S = _
    rw [List.length_map, hc.len]
  have hins : insD S (dMs (cur c0 ds).1) = none := rfl
  rw [run_succ at_43 rfl]
  rcases hd with hd | hd | hd
  · have e1 := is_from_bad (W := W) k 0 hd S
    simp only [b_Stream_check_index, ev_st, ev_all, ev_cst, ev_var, Out.bind, Out.st, SOut.seq, noExc, bindK, ps_all, List.map_cons, List.map_nil, List.length_cons, List.length_nil, List.nil_append, List.cons_append, List.append_nil, List.replicate, List.getElem?_cons_zero, List.getElem?_cons_succ, List.set_cons_zero, List.set_cons_succ, onBl_bl, onBlS_bl, if_true, if_false, Bool.not_true, Bool.not_false, Bool.false_eq_true, Bool.true_or, Bool.or_true, Bool.false_or, Bool.or_false, inst_all, meth_all, flds_all, as_fld, List.lookup_cons, List.lookup_nil, keys_bne, keys_ne, beq_self_eq_true, putD, isNon, decide_true, decide_false, Bool.and_true, Bool.true_and, Nat.zero_add, Nat.add_zero, ins_of h.ins, e1]
  · subst hd
    have e1 := is_from_int (W := W) k 0 (-1) S
    rw [decide_eq_false (by omega : ¬ (0 : Int) ≤ -1)] at e1
    simp only [b_Stream_check_index, ev_st, ev_all, ev_cst, ev_var, Out.bind, Out.st, SOut.seq, noExc, bindK, ps_all, List.map_cons, List.map_nil, List.length_cons, List.length_nil, List.nil_append, List.cons_append, List.append_nil, List.replicate, List.getElem?_cons_zero, List.getElem?_cons_succ, List.set_cons_zero, List.set_cons_succ, onBl_bl, onBlS_bl, if_true, if_false, Bool.not_true, Bool.not_false, Bool.false_eq_true, Bool.true_or, Bool.or_true, Bool.false_or, Bool.or_false, inst_all, meth_all, flds_all, as_fld, List.lookup_cons, List.lookup_nil, keys_bne, keys_ne, beq_self_eq_true, putD, isNon, decide_true, decide_false, Bool.and_true, Bool.true_and, Nat.zero_add, Nat.add_zero, ins_of h.ins, e1]
  · subst hd
    have e1 := is_from_int (W := W) k 0 (n : Nat) S
    rw [decide_eq_true (by omega : (0 : Int) ≤ (n : Nat))] at e1
    simp only [b_Stream_check_index, ev_st, ev_all, ev_cst, ev_var, Out.bind, Out.st, SOut.seq, noExc, bindK, ps_all, List.map_cons, List.map_nil, List.length_cons, List.length_nil, List.nil_append, List.cons_append, List.append_nil, List.replicate, List.getElem?_cons_zero, List.getElem?_cons_succ, List.set_cons_zero, List.set_cons_succ, onBl_bl, onBlS_bl, if_true, if_false, Bool.not_true, Bool.not_false, Bool.false_eq_true, Bool.true_or, Bool.or_true, Bool.false_or, Bool.or_false, inst_all, meth_all, flds_all, as_fld, List.lookup_cons, List.lookup_nil, keys_bne, keys_ne, beq_self_eq_true, putD, isNon, decide_true, decide_false, Bool.and_true, Bool.true_and, Nat.zero_add, Nat.add_zero, ins_of h.ins, e1, bltX, hins, hlen, cmpE, ordE, Int.le_refl]
theorem exchange_no_index (k : Nat) (h : Strm S s p b c0 ds bl) (hk : DsOk g n c0 ds) {d m : D} (hd : noSign n d) : run TBL W (k + 4) 44 [.ref s, d, m] S = .exc ⟨4, none⟩ S := by
  have e1 := check_index_no (W := W) k h hk hd
  rw [run_succ at_44 rfl]
  simp only [b_Stream_exchange, ev_st, ev_all, ev_cst, ev_var, Out.bind, Out.st, SOut.seq, noExc, bindK, ps_all, List.map_cons, List.map_nil, List.length_cons, List.length_nil, List.nil_append, List.cons_append, List.append_nil, List.replicate, List.getElem?_cons_zero, List.getElem?_cons_succ, List.set_cons_zero, List.set_cons_succ, onBl_bl, onBlS_bl, if_true, if_false, Bool.not_true, Bool.not_false, Bool.false_eq_true, Bool.true_or, Bool.or_true, Bool.false_or, Bool.or_false, inst_all, meth_all, flds_all, as_fld, List.lookup_cons, List.lookup_nil, keys_bne, keys_ne, beq_self_eq_true, putD, isNon, decide_true, decide_false, Bool.and_true, Bool.true_and, Nat.zero_add, Nat.add_zero, ins_of h.ins, e1]
theorem exchange_no_machine (k : Nat) (h : Strm S s p b c0 ds bl) (hk : DsOk g n c0 ds) {i : Nat} (hi : i < n) {d : D} {x : Exn} {S' : Store} (e2 : run TBL W (k + 8) 27 [d] S = .exc x S') : run TBL W (k + 9) 44 [.ref s, .int (i : Nat), d] S = .exc x S' := by
  have e1 := check_index_q (W := W) (k + 5) h hk.cur hi
  rw [run_succ at_44 rfl]
  simp only [b_Stream_exchange, ev_st, ev_all, ev_cst, ev_var, Out.bind, Out.st, SOut.seq, noExc, bindK, ps_all, List.map_cons, List.map_nil, List.length_cons, List.length_nil, List.nil_append, List.cons_append, List.append_nil, List.replicate, List.getElem?_cons_zero, List.getElem?_cons_succ, List.set_cons_zero, List.set_cons_succ, onBl_bl, onBlS_bl, if_true, if_false, Bool.not_true, Bool.not_false, Bool.false_eq_true, Bool.true_or, Bool.or_true, Bool.false_or, Bool.or_false, inst_all, meth_all, flds_all, as_fld, List.lookup_cons, List.lookup_nil, keys_bne, keys_ne, beq_self_eq_true, putD, isNon, decide_true, decide_false, Bool.and_true, Bool.true_and, Nat.zero_add, Nat.add_zero, ins_of h.ins, e1, e2]
theorem exchange_no_alike (k : Nat) (h : Strm S s p b c0 ds bl) (hk : DsOk g n c0 ds) {i : Nat} (hi : i < n) {M : Mc} (hM : M.Ok) (hg : M.signs ≠ g) (hW : BIG ≤ W) : ∃ S', Ext S S' ∧ run TBL W (k + 9) 44 [.ref s, .int (i : Nat), dM M] S = .exc ⟨3, none⟩ S' := by
  have e1 := check_index_q (W := W) (k + 5) h hk.cur hi
  obtain ⟨S1, x1, e2⟩ := check_machine_q (W := W) k hM hW S
  have h1 := h.ext x1
  obtain ⟨M0, m1, m2, m3, m4⟩ := first_q hk.cur hk.n1 S1
  have e3 := need_alike_no (W := W) (k + 7) g M hg S1
  refine ⟨S1, x1, ?_⟩
  rw [run_succ at_44 rfl]
  simp only [b_Stream_exchange, ev_st, ev_all, ev_cst, ev_var, Out.bind, Out.st, SOut.seq, noExc, bindK, ps_all, List.map_cons, List.map_nil, List.length_cons, List.length_nil, List.nil_append, List.cons_append, List.append_nil, List.replicate, List.getElem?_cons_zero, List.getElem?_cons_succ, List.set_cons_zero, List.set_cons_succ, onBl_bl, onBlS_bl, if_true, if_false, Bool.not_true, Bool.not_false, Bool.false_eq_true, Bool.true_or, Bool.or_true, Bool.false_or, Bool.or_false, inst_all, meth_all, flds_all, as_fld, List.lookup_cons, List.lookup_nil, keys_bne, keys_ne, beq_self_eq_true, putD, isNon, decide_true, decide_false, Bool.and_true, Bool.true_and, Nat.zero_add, Nat.add_zero, ins_of h.ins, ins_of h1.ins, e1, e2, m3, m4, e3]
end
end H91

set_option Elab.async false
set_option linter.all false
set_option maxRecDepth 100000
set_option maxHeartbeats 4000000
/-! Q91r: would; what a lambda raises is told. -/
namespace H91
open Pl PySem PyProof.Rows L2
section
variable {W : Nat} {s p b : Nat} {c0 : Cur} {ds : List Deed} {bl : List Nat} {g n : Nat} {S : Store}
theorem would_q (k : Nat) (h : Strm S s p b c0 ds bl) (hk : DsOk g n c0 ds) {w : List Nat} (hw : ∀ t ∈ w, t < g) (hwl : w.length ≤ 3) (hW : BIG ≤ W) :
    ∃ S', Ext S S' ∧ run TBL W (k + 6) 52 [.ref s, dW w] S = .ok (.tup ((cur c0 ds).1.map fun M => dQ (M.worth ((cur c0 ds).2 ++ w)))) S' := by
  have hB := BIG_gt
  have hsz := sizeLine_eq
  have hc := hk.cur150
  have hn := hk.n4
  have hl := hc.len
  have hfl := hc.fl
  have ec := check_word_q (W := W) (k + 1) hw (by omega) hW S
  obtain ⟨S1, x1, e1⟩ := moved_q (W := W) k h rfl hc hn hw (by omega) hW
  obtain ⟨M0, m1, m2, m3, m4⟩ := first_q hk.cur hk.n1 S
  have h1 := h.ext x1
  have hi := h.ins
  have hi1 := h1.ins
  generalize hC : cur c0 ds = c at hc hl hfl e1 hi hi1 m1 m3
  have hzip : ((c.1.map fun M => dR (M.along (c.2 ++ w))).zip (c.1.map dM)).map (fun p => D.tup [p.1, p.2]) = c.1.map fun M => D.tup [dR (M.along (c.2 ++ w)), dM M] := by
    rw [List.zip_map', List.map_map]
    rfl
  obtain ⟨S2, x, e⟩ : ∃ S2, Ext S1 S2 ∧ evE (cxk W (k + 5)) c_Stream_would_0 [some (.ref s), some (dW w), none, none, none] S = .ok (.ref S2.length) (S2 ++ [O.lst (c.1.map fun M => dQ (M.worth (c.2 ++ w)))]) :=
    comp_list (cx := cxk W (k + 5)) (S1 := S1) (iv := .zp (.tup (c.1.map fun M => dR (M.along (c.2 ++ w)))) (dMs c.1)) c.1 (fun M => D.tup [dR (M.along (c.2 ++ w)), dM M]) (fun M => dQ (M.worth (c.2 ++ w)))
      (by rw [evI]; simp only [ev_st, ev_all, ev_cst, ev_var, Out.bind, Out.st, SOut.seq, noExc, bindK, ps_all, List.map_cons, List.map_nil, List.length_cons, List.length_nil, List.nil_append, List.cons_append, List.append_nil, List.replicate, List.getElem?_cons_zero, List.getElem?_cons_succ, List.set_cons_zero, List.set_cons_succ, onBl_bl, onBlS_bl, if_true, if_false, Bool.not_true, Bool.not_false, Bool.false_eq_true, Bool.true_or, Bool.or_true, Bool.false_or, Bool.or_false, inst_all, meth_all, flds_all, as_fld, List.lookup_cons, List.lookup_nil, keys_bne, keys_ne, beq_self_eq_true, putD, isNon, decide_true, decide_false, Bool.and_true, Bool.true_and, Nat.zero_add, Nat.add_zero, ins_of hi]; rw [e1]; simp only [ev_st, ev_all, ev_cst, ev_var, Out.bind, Out.st, SOut.seq, noExc, bindK, ps_all, List.map_cons, List.map_nil, List.length_cons, List.length_nil, List.nil_append, List.cons_append, List.append_nil, List.replicate, List.getElem?_cons_zero, List.getElem?_cons_succ, List.set_cons_zero, List.set_cons_succ, onBl_bl, onBlS_bl, if_true, if_false, Bool.not_true, Bool.not_false, Bool.false_eq_true, Bool.true_or, Bool.or_true, Bool.false_or, Bool.or_false, inst_all, meth_all, flds_all, as_fld, List.lookup_cons, List.lookup_nil, keys_bne, keys_ne, beq_self_eq_true, putD, isNon, decide_true, decide_false, Bool.and_true, Bool.true_and, Nat.zero_add, Nat.add_zero, ins_of hi1]; rfl) (fun i T _ hn => by
        have := next_zp (S := T) (a := .tup (c.1.map fun M => dR (M.along (c.2 ++ w)))) (b := dMs c.1) rfl rfl (n := i) (by simpa using hn)
        rw [hzip] at this
        exact this) (fun M hM T _ => by
        obtain ⟨q1, q2, q3⟩ := hc.along hM
        obtain ⟨T2, x2, e2⟩ := dot_m (W := W) (k + 2) (w := c.2 ++ w) q1 (fun s hs => by
          rcases List.mem_append.mp hs with z | z
          · exact q3 s z
          · rw [q2]; exact hw s z) (by rw [List.length_append]; omega) hW T
        refine ⟨[some (.ref s), some (dW w), none, some (dR (M.along (c.2 ++ w))), some (dM M)], T2, ?_, ?_, x2⟩
        · simp [ev_st, wipeD, seqD, Out.bind]
        · simp only [ev_st, ev_all, ev_cst, ev_var, Out.bind, Out.st, SOut.seq, noExc, bindK, ps_all, List.map_cons, List.map_nil, List.length_cons, List.length_nil, List.nil_append, List.cons_append, List.append_nil, List.replicate, List.getElem?_cons_zero, List.getElem?_cons_succ, List.set_cons_zero, List.set_cons_succ, onBl_bl, onBlS_bl, if_true, if_false, Bool.not_true, Bool.not_false, Bool.false_eq_true, (dM_at M T).2.2.2]
          simp [e2]) (by show _ < W; omega) (by omega)
  refine ⟨S2 ++ [O.lst (c.1.map fun M => dQ (M.worth (c.2 ++ w)))], x1.trans (x.snoc _), ?_⟩
  rw [run_succ at_52 rfl]
  simp only [b_Stream_would, ev_st, ev_all, ev_cst, ev_var, Out.bind, Out.st, SOut.seq, noExc, bindK, ps_all, List.map_cons, List.map_nil, List.length_cons, List.length_nil, List.nil_append, List.cons_append, List.append_nil, List.replicate, List.getElem?_cons_zero, List.getElem?_cons_succ, List.set_cons_zero, List.set_cons_succ, onBl_bl, onBlS_bl, if_true, if_false, Bool.not_true, Bool.not_false, Bool.false_eq_true, Bool.true_or, Bool.or_true, Bool.false_or, Bool.or_false, inst_all, meth_all, flds_all, as_fld, List.lookup_cons, List.lookup_nil, keys_bne, keys_ne, beq_self_eq_true, putD, isNon, decide_true, decide_false, Bool.and_true, Bool.true_and, Nat.zero_add, Nat.add_zero, ins_of hi, m3, m4, ec]
  rw [show [some (D.ref s), some (dW w), none, none, none] = [some (D.ref s), some (dW w), none, none, none] from rfl] at e
  rw [e]
  simp only [ev_st, ev_all, ev_cst, ev_var, Out.bind, Out.st, SOut.seq, noExc, bindK, ps_all, List.map_cons, List.map_nil, List.length_cons, List.length_nil, List.nil_append, List.cons_append, List.append_nil, List.replicate, List.getElem?_cons_zero, List.getElem?_cons_succ, List.set_cons_zero, List.set_cons_succ, onBl_bl, onBlS_bl, if_true, if_false, Bool.not_true, Bool.not_false, Bool.false_eq_true, bltX_not (show Blt.tuple ≠ Blt.len by decide), tuple_new]
end
/-! ### told -/
abbrev HS : List (Nat × Str × Option Str) := [(4, "InvalidIndex", none), (5, "InvalidMachine", some "place"), (1, "InvalidMachines", none), (2, "InvalidSign", none), (6, "InvalidWord", some "index"), (3, "Unlike", none), (0, "other", none)]
/-- a lambda's context, two levels below -/
abbrev cxl (W k : Nat) : Pl.Ctx := ⟨TBL, run TBL W k, (run2 TBL W k).2.1, W, badL, false⟩
theorem told_ev {W k : Nat} {e : E} {ρ : Slots} {S : Store} : evE (cxk W (k + 2)) (.told e HS) ρ S = toldE TBL HS (evE (cxl W k) e ρ S) := by
  rw [evE]
  rfl
theorem up_self : TBL.up 2 2 = true ∧ TBL.up 2 4 = false ∧ TBL.up 2 5 = false ∧ TBL.up 2 1 = false ∧ TBL.up 6 4 = false ∧ TBL.up 6 5 = false ∧ TBL.up 6 1 = false ∧ TBL.up 6 2 = false ∧ TBL.up 6 6 = true ∧ TBL.up 4 4 = true ∧ TBL.up 5 4 = false ∧ TBL.up 5 5 = true ∧
    TBL.up 3 4 = false ∧ TBL.up 3 5 = false ∧ TBL.up 3 1 = false ∧ TBL.up 3 2 = false ∧ TBL.up 3 6 = false ∧ TBL.up 3 3 = true ∧ TBL.up 1 4 = false ∧ TBL.up 1 5 = false ∧ TBL.up 1 1 = true := by decide +kernel
theorem exc_self : TBL.exc 1 = true ∧ TBL.exc 2 = true ∧ TBL.exc 3 = true ∧ TBL.exc 4 = true ∧ TBL.exc 5 = true ∧ TBL.exc 6 = true := by decide +kernel
theorem tell_2 (S : Store) : toldE TBL HS (.exc ⟨2, none⟩ S) = .ok (.tup [.str "InvalidSign", .non]) S := by simp [toldE, tellX, up_self, exc_self]
theorem tell_4 (S : Store) : toldE TBL HS (.exc ⟨4, none⟩ S) = .ok (.tup [.str "InvalidIndex", .non]) S := by simp [toldE, tellX, up_self, exc_self]
theorem tell_3 (S : Store) : toldE TBL HS (.exc ⟨3, none⟩ S) = .ok (.tup [.str "Unlike", .non]) S := by simp [toldE, tellX, up_self, exc_self]
theorem tell_1 (S : Store) : toldE TBL HS (.exc ⟨1, none⟩ S) = .ok (.tup [.str "InvalidMachines", .non]) S := by simp [toldE, tellX, up_self, exc_self]
theorem tell_6 (d : D) (S : Store) : toldE TBL HS (.exc ⟨6, some ("index", d)⟩ S) = .ok (.tup [.str "InvalidWord", d]) S := by simp [toldE, tellX, up_self, exc_self]
theorem tell_5 (d : D) (S : Store) : toldE TBL HS (.exc ⟨5, some ("place", d)⟩ S) = .ok (.tup [.str "InvalidMachine", d]) S := by simp [toldE, tellX, up_self, exc_self]
end H91

set_option Elab.async false
set_option linter.all false
set_option maxRecDepth 100000
set_option maxHeartbeats 4000000
/-! Q91s: the law's own model: whether a stream is as it. -/
namespace H91
open Pl PySem PyProof.Rows L2
structure Mod (S : Store) (m a e : Nat) (c : Cur) (ds : List Deed) : Prop where
  top : S[m]? = some (.lst [.ref a, dW c.2, .ref e])
  ms : S[a]? = some (.lst (c.1.map dM))
  dd : S[e]? = some (.lst (ds.map dDeed))
theorem Mod.frame {P : List Nat} {S S' : Store} {m a e : Nat} {c : Cur} {ds : List Deed} (h : Mod S m a e c ds) (f : FrL P S S') (h1 : m ∉ P) (h2 : a ∉ P) (h3 : e ∉ P) : Mod S' m a e c ds := ⟨f.get _ _ h1 h.top, f.get _ _ h2 h.ms, f.get _ _ h3 h.dd⟩
theorem Mod.ext {S S' : Store} {m a e : Nat} {c : Cur} {ds : List Deed} (h : Mod S m a e c ds) (x : Ext S S') : Mod S' m a e c ds := ⟨x.get h.top, x.get h.ms, x.get h.dd⟩
/-- a stream and its model -/
structure SM (S : Store) (s p b m a e : Nat) (c0 : Cur) (ds : List Deed) : Prop where
  str : Strm S s p b c0 ds []
  mod : Mod S m a e (cur c0 ds) ds
  nd : [s, p, b, m, a, e].Nodup
theorem SM.ext {S S' : Store} {s p b m a e : Nat} {c0 : Cur} {ds : List Deed} (h : SM S s p b m a e c0 ds) (x : Ext S S') : SM S' s p b m a e c0 ds := ⟨h.str.ext x, h.mod.ext x, h.nd⟩
theorem SM.frame {P : List Nat} {S S' : Store} {s p b m a e : Nat} {c0 : Cur} {ds : List Deed} (h : SM S s p b m a e c0 ds) (f : FrL P S S') (hP : ∀ i ∈ P, i ∉ [s, p, b, m, a, e]) : SM S' s p b m a e c0 ds :=
  ⟨h.str.frame f (fun q => hP s q (by simp)) (fun q => hP p q (by simp)) (fun q => hP b q (by simp)), h.mod.frame f (fun q => hP m q (by simp)) (fun q => hP a q (by simp)) (fun q => hP e q (by simp)), h.nd⟩
section
variable {W : Nat} {s p b m a e : Nat} {c0 : Cur} {ds : List Deed} {g n : Nat} {S : Store}
theorem same_lst (k : Nat) {N L i j : Nat} {ds : List D} (h : Showns N L ds) (hn : N ≤ 38) (hL : L ≤ 16000000) (hi : S[i]? = some (.lst ds)) (hj : S[j]? = some (.lst ds)) : run TBL W (k + 1) 59 [.ref i, .ref j] S = .ok (.bl true) S := by
  obtain ⟨ps, hp⟩ := h
  rw [run_succ at_59 rfl]
  simp only [b__law_same, ev_st, ev_all, ev_cst, ev_var, Out.bind, Out.st, SOut.seq, noExc, bindK, ps_all, List.map_cons, List.map_nil, List.length_cons, List.length_nil, List.nil_append, List.cons_append, List.append_nil, List.replicate, List.getElem?_cons_zero, List.getElem?_cons_succ, List.set_cons_zero, List.set_cons_succ, onBl_bl, onBlS_bl, if_true, if_false, Bool.not_true, Bool.not_false, Bool.false_eq_true, bltX_not (show Blt.repr ≠ Blt.len by decide), bltE, repr_lst hp hn hL hi, repr_lst hp hn hL hj, cmpE, eqE, eqD, decide_true]
theorem same_tup (k : Nat) {N L : Nat} {d : D} (h : Shown (N + 1) L d) (hd : ∃ ds, d = .tup ds) (hn : N + 1 ≤ 38) (hL : L ≤ 16000000) : run TBL W (k + 1) 59 [d, d] S = .ok (.bl true) S := by
  obtain ⟨ds, rfl⟩ := hd
  obtain ⟨ps, hp⟩ := h.tuple
  rw [run_succ at_59 rfl]
  simp only [b__law_same, ev_st, ev_all, ev_cst, ev_var, Out.bind, Out.st, SOut.seq, noExc, bindK, ps_all, List.map_cons, List.map_nil, List.length_cons, List.length_nil, List.nil_append, List.cons_append, List.append_nil, List.replicate, List.getElem?_cons_zero, List.getElem?_cons_succ, List.set_cons_zero, List.set_cons_succ, onBl_bl, onBlS_bl, if_true, if_false, Bool.not_true, Bool.not_false, Bool.false_eq_true, bltX_not (show Blt.repr ≠ Blt.len by decide), bltE, repr_tup hp hn hL, cmpE, eqE, eqD, decide_true]
theorem deed_tup (d : Deed) : ∃ ds, dDeed d = .tup ds := by cases d <;> exact ⟨_, rfl⟩
theorem is_model_q (k : Nat) (h : SM S s p b m a e c0 ds) (hk : DsOk g n c0 ds) (hW : BIG ≤ W) : ∃ S', Ext S S' ∧ run TBL W (k + 7) 72 [.ref s, .ref m] S = .ok (.bl true) S' := by
  have hB := BIG_gt
  have hsz := sizeLine_eq
  have hc := hk.cur
  have hcl := hc.len
  have hcfl := hc.fl
  have hn4 := hk.n4
  have hdl := hk.dl
  have hseq := seq_of h.mod.ms
  obtain ⟨S1, x1, e1⟩ : ∃ S1, Ext S S1 ∧ evE (cxk W (k + 6)) c_law_is_model_0 [some (.ref s), some (.ref m), some (.ref a), some (dW (cur c0 ds).2), some (.ref e), none, none, none] S = .ok (.ref S1.length) (S1 ++ [O.lst ((cur c0 ds).1.map fun M => dQ (M.worth (cur c0 ds).2))]) :=
    comp_list (cx := cxk W (k + 6)) (S1 := S) (iv := .sq (.ref a)) (cur c0 ds).1 dM (fun M => dQ (M.worth (cur c0 ds).2))
      (by rw [evI]; simp only [ev_st, ev_all, ev_cst, ev_var, Out.bind, Out.st, SOut.seq, noExc, bindK, ps_all, List.map_cons, List.map_nil, List.length_cons, List.length_nil, List.nil_append, List.cons_append, List.append_nil, List.replicate, List.getElem?_cons_zero, List.getElem?_cons_succ, List.set_cons_zero, List.set_cons_succ, onBl_bl, onBlS_bl, if_true, if_false, Bool.not_true, Bool.not_false, Bool.false_eq_true, hseq, Option.isSome_some]) (fun j T y hn => next_sq (y.seqD hseq) j) (fun M hM T _ => by
        obtain ⟨q1, q2, q3⟩ := hc.along hM
        obtain ⟨T2, x2, e2⟩ := law_worth_q (W := W) k q1 q3 (by omega) hW T
        refine ⟨[some (.ref s), some (.ref m), some (.ref a), some (dW (cur c0 ds).2), some (.ref e), none, none, some (dM M)], T2, by simp [ev_st, wipeD], ?_, x2⟩
        simp only [ev_st, ev_all, ev_cst, ev_var, Out.bind, Out.st, SOut.seq, noExc, bindK, ps_all, List.map_cons, List.map_nil, List.length_cons, List.length_nil, List.nil_append, List.cons_append, List.append_nil, List.replicate, List.getElem?_cons_zero, List.getElem?_cons_succ, List.set_cons_zero, List.set_cons_succ, onBl_bl, onBlS_bl, if_true, if_false, Bool.not_true, Bool.not_false, Bool.false_eq_true]
        simp [e2]) (by show _ < W; omega) (by omega)
  have htup1 : bltE .tuple [.ref S1.length] (S1 ++ [O.lst ((cur c0 ds).1.map fun M => dQ (M.worth (cur c0 ds).2))]) = .ok (dWorths (cur c0 ds)) (S1 ++ [O.lst ((cur c0 ds).1.map fun M => dQ (M.worth (cur c0 ds).2))]) := tuple_new
  have h2 := h.ext (x1.snoc (O.lst ((cur c0 ds).1.map fun M => dQ (M.worth (cur c0 ds).2))))
  have xx2 : Ext S (S1 ++ [O.lst ((cur c0 ds).1.map fun M => dQ (M.worth (cur c0 ds).2))]) := x1.snoc _
  generalize hT2 : S1 ++ [O.lst ((cur c0 ds).1.map fun M => dQ (M.worth (cur c0 ds).2))] = T2 at e1 htup1 h2 xx2
  have p1 := machines_q (W := W) (k + 4) h2.str
  have p2 := fed_q (W := W) (k + 4) h2.str
  obtain ⟨S3, x3, p3⟩ := worths_q (W := W) (k + 1) h2.str hk hW
  have h3 := h2.ext x3
  have q1 := shown_Ms hc.ms (by omega)
  have q2 := shown_W hc.fed hk.g4 hcfl
  have q3 : Shown 3 4847 (dWorths (cur c0 ds)) := (Showns.listle (cur c0 ds).1 (fun M hM => by
      obtain ⟨r1, r2, r3⟩ := hc.along hM
      exact shown_big (r1.worth r3) (by omega)) (by omega : (cur c0 ds).1.length ≤ 4)).mono (by decide)
  have hsh : Showns 8 200000 [dMs (cur c0 ds).1, dW (cur c0 ds).2, dWorths (cur c0 ds)] := (Showns.cons (q1.up (by decide)) (Showns.cons (q2.up (by decide)) (Showns.cons (q3.up (by decide)) Showns.nil))).mono (by decide)
  have hst : bltE .tuple [.ref a] (S3 ++ [O.lst [dMs (cur c0 ds).1, dW (cur c0 ds).2, dWorths (cur c0 ds)]]) = .ok (dMs (cur c0 ds).1) (S3 ++ [O.lst [dMs (cur c0 ds).1, dW (cur c0 ds).2, dWorths (cur c0 ds)]]) := by
    have := seq_of (((Ext.refl S3).snoc (O.lst [dMs (cur c0 ds).1, dW (cur c0 ds).2, dWorths (cur c0 ds)])).get h3.mod.ms)
    simp only [bltE, tupleE, this]
    rfl
  have e5 := same_lst (W := W) (k + 5) hsh (by decide) (by decide) (S := S3 ++ [O.lst [dMs (cur c0 ds).1, dW (cur c0 ds).2, dWorths (cur c0 ds)]] ++ [O.lst [dMs (cur c0 ds).1, dW (cur c0 ds).2, dWorths (cur c0 ds)]]) (i := S3.length) (j := (S3 ++ [O.lst [dMs (cur c0 ds).1, dW (cur c0 ds).2, dWorths (cur c0 ds)]]).length) (by simp) (by simp)
  have x5 : Ext S3 (S3 ++ [O.lst [dMs (cur c0 ds).1, dW (cur c0 ds).2, dWorths (cur c0 ds)]] ++ [O.lst [dMs (cur c0 ds).1, dW (cur c0 ds).2, dWorths (cur c0 ds)]]) := ((Ext.refl S3).snoc _).snoc _
  have h5 := h3.ext x5
  have xx5 := xx2.trans (x3.trans x5)
  generalize hT5 : S3 ++ [O.lst [dMs (cur c0 ds).1, dW (cur c0 ds).2, dWorths (cur c0 ds)]] ++ [O.lst [dMs (cur c0 ds).1, dW (cur c0 ds).2, dWorths (cur c0 ds)]] = T5 at e5 h5 xx5
  obtain ⟨S6, x6, p4⟩ := deeds_q (W := W) (k + 4) h5.str hk hW
  have h6 := h5.ext x6
  have p6 := len_q (W := W) (k + 4) h6.str
  have p7 := depth_q (W := W) (k + 4) h6.str
  have hsh2 : Showns 8 200000 [.tup (ds.map dDeed), .int (ds.length : Nat), .int 0] := by
    have q4 := Showns.listle ds (fun d hd => shown_deed (hk.dok d hd) hk.g4 hn4) hdl
    exact (Showns.cons q4 (Showns.cons ((shown_small (n := 0) (by omega : ds.length ≤ 1000)).up (by decide)) (Showns.cons ((shown_small (n := 0) (by omega : 0 ≤ 1000)).up (by decide)) Showns.nil))).mono (by decide)
  have e8 := same_lst (W := W) (k + 5) hsh2 (by decide) (by decide) (S := S6 ++ [O.lst [.tup (ds.map dDeed), .int (ds.length : Nat), .int 0]] ++ [O.lst [.tup (ds.map dDeed), .int (ds.length : Nat), .int 0]]) (i := S6.length) (j := (S6 ++ [O.lst [.tup (ds.map dDeed), .int (ds.length : Nat), .int 0]]).length) (by simp) (by simp)
  refine ⟨_, xx5.trans (x6.trans (((Ext.refl S6).snoc (O.lst [.tup (ds.map dDeed), .int (ds.length : Nat), .int 0])).snoc (O.lst [.tup (ds.map dDeed), .int (ds.length : Nat), .int 0]))), ?_⟩
  have i2 := ins_of h2.str.ins
  have i3 := ins_of h3.str.ins
  have i5 := ins_of h5.str.ins
  have i6 := ins_of h6.str.ins
  have r1 : (run2 TBL W (k + 6)).2.1 32 [.ref s] T2 = _ := p1
  have r2 : (run2 TBL W (k + 6)).2.1 33 [.ref s] T2 = _ := p2
  have r3 : (run2 TBL W (k + 6)).2.1 34 [.ref s] T2 = _ := p3
  have r4 : (run2 TBL W (k + 6)).2.1 35 [.ref s] T5 = _ := p4
  have r6 : (run2 TBL W (k + 6)).2.1 37 [.ref s] S6 = _ := p6
  have r7 : (run2 TBL W (k + 6)).2.1 36 [.ref s] S6 = _ := p7
  have g1 : (0 : Int) ≤ ((ds.length : Nat) : Int) ∧ ((ds.length : Nat) : Int).natAbs < 2 ^ 63 := by omega
  have sq6 := seq_of (((Ext.refl S6).snoc (O.lst [.tup (ds.map dDeed), .int (ds.length : Nat), .int 0])).get h6.mod.dd)
  have td : bltE .tuple [.ref e] (S6 ++ [O.lst [.tup (ds.map dDeed), .int (ds.length : Nat), .int 0]]) = .ok (.tup (ds.map dDeed)) (S6 ++ [O.lst [.tup (ds.map dDeed), .int (ds.length : Nat), .int 0]]) := by
    simp only [bltE, tupleE, sq6]
  have ld : bltE .len [.ref e] (S6 ++ [O.lst [.tup (ds.map dDeed), .int (ds.length : Nat), .int 0]]) = .ok (.int (ds.length : Nat)) (S6 ++ [O.lst [.tup (ds.map dDeed), .int (ds.length : Nat), .int 0]]) := by
    simp only [bltE, lenE, sq6, List.length_map]
  rw [run_succ at_72 rfl]
  simp only [b__law_is_model, ev_st, ev_all, ev_cst, ev_var, Out.bind, Out.st, SOut.seq, noExc, bindK, ps_all, List.map_cons, List.map_nil, List.length_cons, List.length_nil, List.nil_append, List.cons_append, List.append_nil, List.replicate, List.getElem?_cons_zero, List.getElem?_cons_succ, List.set_cons_zero, List.set_cons_succ, onBl_bl, onBlS_bl, if_true, if_false, Bool.not_true, Bool.not_false, Bool.false_eq_true, seq_of h.mod.top]
  rw [show (evE (cxk W (k + 6)) c_law_is_model_0 _ S) = _ from e1]
  simp only [ev_st, ev_all, ev_cst, ev_var, Out.bind, Out.st, SOut.seq, noExc, bindK, ps_all, List.map_cons, List.map_nil, List.length_cons, List.length_nil, List.nil_append, List.cons_append, List.append_nil, List.replicate, List.getElem?_cons_zero, List.getElem?_cons_succ, List.set_cons_zero, List.set_cons_succ, onBl_bl, onBlS_bl, if_true, if_false, Bool.not_true, Bool.not_false, Bool.false_eq_true, Bool.true_or, Bool.or_true, Bool.false_or, Bool.or_false, inst_all, meth_all, flds_all, as_fld, List.lookup_cons, List.lookup_nil, keys_bne, keys_ne, beq_self_eq_true, putD, isNon, decide_true, decide_false, Bool.and_true, Bool.true_and, Nat.zero_add, Nat.add_zero, bltX_not (show Blt.tuple ≠ Blt.len by decide), htup1, i2, r1, r2, r3, hsz, Nat.reduceAdd, Nat.reduceLeDiff]
  rw [hst]
  simp only [ev_st, ev_all, ev_cst, ev_var, Out.bind, Out.st, SOut.seq, noExc, bindK, ps_all, List.map_cons, List.map_nil, List.length_cons, List.length_nil, List.nil_append, List.cons_append, List.append_nil, List.replicate, List.getElem?_cons_zero, List.getElem?_cons_succ, List.set_cons_zero, List.set_cons_succ, onBl_bl, onBlS_bl, if_true, if_false, Bool.not_true, Bool.not_false, Bool.false_eq_true, Bool.true_or, Bool.or_true, Bool.false_or, Bool.or_false, inst_all, meth_all, flds_all, as_fld, List.lookup_cons, List.lookup_nil, keys_bne, keys_ne, beq_self_eq_true, putD, isNon, decide_true, decide_false, Bool.and_true, Bool.true_and, Nat.zero_add, Nat.add_zero, hsz, Nat.reduceAdd, Nat.reduceLeDiff]
  rw [hT5, e5]
  simp only [ev_st, ev_all, ev_cst, ev_var, Out.bind, Out.st, SOut.seq, noExc, bindK, ps_all, List.map_cons, List.map_nil, List.length_cons, List.length_nil, List.nil_append, List.cons_append, List.append_nil, List.replicate, List.getElem?_cons_zero, List.getElem?_cons_succ, List.set_cons_zero, List.set_cons_succ, onBl_bl, onBlS_bl, if_true, if_false, Bool.not_true, Bool.not_false, Bool.false_eq_true, Bool.true_or, Bool.or_true, Bool.false_or, Bool.or_false, inst_all, meth_all, flds_all, as_fld, List.lookup_cons, List.lookup_nil, keys_bne, keys_ne, beq_self_eq_true, putD, isNon, decide_true, decide_false, Bool.and_true, Bool.true_and, Nat.zero_add, Nat.add_zero, i5, r4, i6, bltX, r6, g1, and_self, onInt_int, r7, List.length_nil, Int.ofNat_zero, hsz, Nat.reduceAdd, Nat.reduceLeDiff, insD_seq sq6, td, ld]
  rw [e8]
end
end H91

set_option Elab.async false
set_option linter.all false
set_option maxRecDepth 100000
set_option maxHeartbeats 4000000
/-! Q91t: the law's refusals. -/
namespace H91
open Pl PySem PyProof.Rows L2
theorem Fr.frl {t : Nat} {S S' : Store} (f : Fr t S S') : FrL [t] S S' := ⟨f.len, fun i o hi h => f.get i o (by simpa using hi) h⟩
theorem PotS.frame {P : List Nat} {S S' : Store} {t c : Nat} (h : PotS S t c) (f : FrL P S S') (ht : t ∉ P) : PotS S' t c := by
  obtain ⟨a, b, k, h1, h2⟩ := h
  exact ⟨a, b, k, f.get _ _ ht h1, h2⟩
section
variable {W : Nat} {s p b m a e t c : Nat} {c0 : Cur} {ds : List Deed} {g n : Nat} {S : Store}
theorem pick_q (k : Nat) (h : PotS S t c) (hc : c < 2 ^ 60) {j : Nat} {xs : List D} (hj : S[j]? = some (.lst xs)) (hjt : j ≠ t) (h0 : 0 < xs.length) (h1 : xs.length ≤ 100) :
    ∃ d S', d ∈ xs ∧ run TBL W (k + 2) 58 [.ref t, .ref j] S = .ok d S' ∧ PotS S' t (c + 1) ∧ Fr t S S' := by
  have e60 : (2 : Nat) ^ 60 = 1152921504606846976 := by decide
  obtain ⟨i, S1, hi, e1, p1, f1⟩ := draw_q (W := W) k (m := xs.length) h hc h0 (by omega)
  have hs := seq_of hj
  have hs1 := seq_of (f1.get j _ hjt hj)
  have hix : idxE (.ref j) (.int (i : Nat)) S1 = .ok xs[i] S1 := by
    unfold idxE
    simp only [hs1]
    simp [atI, ixN, hi]
  refine ⟨xs[i], S1, List.getElem_mem _, ?_, p1, f1⟩
  rw [run_succ at_58 rfl]
  simp only [b__law_pick, ev_st, ev_all, ev_cst, ev_var, Out.bind, Out.st, SOut.seq, noExc, bindK, ps_all, List.map_cons, List.map_nil, List.length_cons, List.length_nil, List.nil_append, List.cons_append, List.append_nil, List.replicate, List.getElem?_cons_zero, List.getElem?_cons_succ, List.set_cons_zero, List.set_cons_succ, onBl_bl, onBlS_bl, if_true, if_false, Bool.not_true, Bool.not_false, Bool.false_eq_true, bltX, insD_seq hs, bltE, lenE, hs]
  rw [show run TBL W (k + 1) 57 [D.ref t, .int (xs.length : Nat)] S = _ from e1]
  simp only [ev_st, ev_all, ev_cst, ev_var, Out.bind, Out.st, SOut.seq, noExc, bindK, ps_all, List.map_cons, List.map_nil, List.length_cons, List.length_nil, List.nil_append, List.cons_append, List.append_nil, List.replicate, List.getElem?_cons_zero, List.getElem?_cons_succ, List.set_cons_zero, List.set_cons_succ, onBl_bl, onBlS_bl, if_true, if_false, Bool.not_true, Bool.not_false, Bool.false_eq_true, Bool.true_or, Bool.or_true, Bool.false_or, Bool.or_false, inst_all, meth_all, flds_all, as_fld, List.lookup_cons, List.lookup_nil, keys_bne, keys_ne, beq_self_eq_true, putD, isNon, decide_true, decide_false, Bool.and_true, Bool.true_and, Nat.zero_add, Nat.add_zero, hix]
theorem eq_tell {x y : D} (h : ∀ T : Store, eqD T x y = eqD [] x y) (h2 : eqD [] x y = some true) (T : Store) : eqE false x y T = .ok (.bl true) T := by
  unfold eqE
  rw [h, h2]
  rfl
theorem eq_sign (T : Store) : eqE false (.tup [.str "InvalidSign", .non]) (.tup [.str "InvalidSign", .non]) T = .ok (.bl true) T := eq_tell (fun _ => rfl) (by decide +kernel) T
theorem eq_index (T : Store) : eqE false (.tup [.str "InvalidIndex", .non]) (.tup [.str "InvalidIndex", .non]) T = .ok (.bl true) T := eq_tell (fun _ => rfl) (by decide +kernel) T
theorem eq_unlike (T : Store) : eqE false (.tup [.str "Unlike", .non]) (.tup [.str "Unlike", .non]) T = .ok (.bl true) T := eq_tell (fun _ => rfl) (by decide +kernel) T
theorem eq_word (i : Int) (h : -1 ≤ i) (h2 : i ≤ 3) (T : Store) : eqE false (.tup [.str "InvalidWord", .int i]) (.tup [.str "InvalidWord", .int i]) T = .ok (.bl true) T := by
  have : i = -1 ∨ i = 0 ∨ i = 1 ∨ i = 2 ∨ i = 3 := by omega
  rcases this with h | h | h | h | h <;> subst h <;> exact eq_tell (fun _ => rfl) (by decide +kernel) T
theorem eq_mach (l : List D) (h : l = [] ∨ l = [.int 0] ∨ l = [.int 4]) (T : Store) : eqE false (.tup [.str "InvalidMachine", .tup l]) (.tup [.str "InvalidMachine", .tup l]) T = .ok (.bl true) T := by
  rcases h with h | h | h <;> subst h <;> exact eq_tell (fun _ => rfl) (by decide +kernel) T
/-- a method's call in a lambda -/
theorem ne_machs (T : Store) : eqE true (.tup [.str "InvalidMachines", .non]) (.tup [.str "InvalidMachines", .non]) T = .ok (.bl false) T := by
  have h : eqD T (.tup [.str "InvalidMachines", .non]) (.tup [.str "InvalidMachines", .non]) = some true := (show _ = eqD [] (.tup [.str "InvalidMachines", .non]) (.tup [.str "InvalidMachines", .non]) from rfl).trans (by decide +kernel)
  unfold eqE
  rw [h]
  rfl
theorem way0_q (k : Nat) (h : SM S s p b m a e c0 ds) (hk : DsOk g n c0 ds) (hp : PotS S t c) (hc : c + 500 < 2 ^ 60) (ht : t ∉ [s, p, b, m, a, e]) {d4 d5 d6 d7 d8 d9 d11 : Option D} :
    ∃ ρ S', evCs (cxk W (k + 8)) t_law_refused_8 [some (.ref t), some (.ref s), some (.ref m), some (.int (g : Nat)), d4, d5, d6, d7, d8, d9, none, d11] S = .rt (.bl true) S' ∧ SM S' s p b m a e c0 ds ∧ PotS S' t (c + 1) ∧ ρ = 0 := by
  have tl : t < S.length := by obtain ⟨_, _, _, h1, _⟩ := hp; exact idx_lt h1
  have x1 : Ext S (S ++ [O.lst [.non, .int (-1), .int (g : Nat), .bl true, .str "a", .tup [.int 0]]]) := (Ext.refl S).snoc _
  obtain ⟨d, S2, hd, e2, p2, f2⟩ := pick_q (W := W) (k + 6) (hp.ext x1) (by omega) (j := S.length) (xs := [.non, .int (-1), .int (g : Nat), .bl true, .str "a", .tup [.int 0]]) (by simp) (by omega) (by simp) (by simp)
  have h2 : SM S2 s p b m a e c0 ds := (h.ext x1).frame f2.frl (by intro i hi; simp at hi; subst hi; exact ht)
  have hns : noSign g d := by
    simp only [List.mem_cons, List.not_mem_nil, or_false] at hd
    rcases hd with r | r | r | r | r | r <;> subst r
    · exact .inl rfl
    · exact .inr (.inl rfl)
    · exact .inr (.inr rfl)
    · exact .inl rfl
    · exact .inl rfl
    · exact .inl rfl
  have e3 := feed_no (W := W) (k + 1) h2.str hk hns
  refine ⟨0, S2, ?_, h2, p2, rfl⟩
  simp only [t_law_refused_8, ev_st, ev_all, ev_cst, ev_var, Out.bind, Out.st, SOut.seq, noExc, bindK, ps_all, List.map_cons, List.map_nil, List.length_cons, List.length_nil, List.nil_append, List.cons_append, List.append_nil, List.replicate, List.getElem?_cons_zero, List.getElem?_cons_succ, List.set_cons_zero, List.set_cons_succ, onBl_bl, onBlS_bl, if_true, if_false, Bool.not_true, Bool.not_false, Bool.false_eq_true, Bool.true_or, Bool.or_true, Bool.false_or, Bool.or_false, inst_all, meth_all, flds_all, as_fld, List.lookup_cons, List.lookup_nil, keys_bne, keys_ne, beq_self_eq_true, putD, isNon, decide_true, decide_false, Bool.and_true, Bool.true_and, Nat.zero_add, Nat.add_zero, sizeLine_eq, Nat.reduceAdd, Nat.reduceLeDiff]
  rw [e2]
  simp only [ev_st, ev_all, ev_cst, ev_var, Out.bind, Out.st, SOut.seq, noExc, bindK, ps_all, List.map_cons, List.map_nil, List.length_cons, List.length_nil, List.nil_append, List.cons_append, List.append_nil, List.replicate, List.getElem?_cons_zero, List.getElem?_cons_succ, List.set_cons_zero, List.set_cons_succ, onBl_bl, onBlS_bl, if_true, if_false, Bool.not_true, Bool.not_false, Bool.false_eq_true, Bool.true_or, Bool.or_true, Bool.false_or, Bool.or_false, inst_all, meth_all, flds_all, as_fld, List.lookup_cons, List.lookup_nil, keys_bne, keys_ne, beq_self_eq_true, putD, isNon, decide_true, decide_false, Bool.and_true, Bool.true_and, Nat.zero_add, Nat.add_zero]
  rw [told_ev]
  simp only [ev_st, ev_all, ev_cst, ev_var, Out.bind, Out.st, SOut.seq, noExc, bindK, ps_all, List.map_cons, List.map_nil, List.length_cons, List.length_nil, List.nil_append, List.cons_append, List.append_nil, List.replicate, List.getElem?_cons_zero, List.getElem?_cons_succ, List.set_cons_zero, List.set_cons_succ, onBl_bl, onBlS_bl, if_true, if_false, Bool.not_true, Bool.not_false, Bool.false_eq_true, Bool.true_or, Bool.or_true, Bool.false_or, Bool.or_false, inst_all, meth_all, flds_all, as_fld, List.lookup_cons, List.lookup_nil, keys_bne, keys_ne, beq_self_eq_true, putD, isNon, decide_true, decide_false, Bool.and_true, Bool.true_and, Nat.zero_add, Nat.add_zero, ins_of h2.str.ins]
  rw [e3, tell_2]
  simp only [ev_st, ev_all, ev_cst, ev_var, Out.bind, Out.st, SOut.seq, noExc, bindK, ps_all, List.map_cons, List.map_nil, List.length_cons, List.length_nil, List.nil_append, List.cons_append, List.append_nil, List.replicate, List.getElem?_cons_zero, List.getElem?_cons_succ, List.set_cons_zero, List.set_cons_succ, onBl_bl, onBlS_bl, if_true, if_false, Bool.not_true, Bool.not_false, Bool.false_eq_true, Bool.true_or, Bool.or_true, Bool.false_or, Bool.or_false, inst_all, meth_all, flds_all, as_fld, List.lookup_cons, List.lookup_nil, keys_bne, keys_ne, beq_self_eq_true, putD, isNon, decide_true, decide_false, Bool.and_true, Bool.true_and, Nat.zero_add, Nat.add_zero, sizeLine_eq, Nat.reduceAdd, Nat.reduceLeDiff, cmpE, eq_sign]
end
end H91

set_option Elab.async false
set_option linter.all false
set_option maxRecDepth 100000
set_option maxHeartbeats 4000000
/-! Q91u: the law's refusals, further. -/
namespace H91
open Pl PySem PyProof.Rows L2
theorem would_bne : (("would" : Str) == "own_machines") = false ∧ (("would" : Str) == "rows") = false ∧ (("would" : Str) == "heard") = false ∧ (("would" : Str) == "past") = false ∧ (("would" : Str) == "blocks") = false := by
  refine ⟨?_, ?_, ?_, ?_, ?_⟩ <;> decide +kernel
section
variable {W : Nat} {s p b m a e t c : Nat} {c0 : Cur} {ds : List Deed} {g n : Nat} {S : Store}
theorem way3_q (k : Nat) (h : SM S s p b m a e c0 ds) (hk : DsOk g n c0 ds) (hp : PotS S t c) (hc : c + 500 < 2 ^ 60) (ht : t ∉ [s, p, b, m, a, e]) {d3 d4 d5 d6 d7 d8 d11 : Option D} :
    ∃ S', evCs (cxk W (k + 8)) t_law_refused_2 [some (.ref t), some (.ref s), some (.ref m), d3, d4, d5, d6, d7, d8, some (.int (n : Nat)), none, d11] S = .rt (.bl true) S' ∧ SM S' s p b m a e c0 ds ∧ PotS S' t (c + 1) := by
  have tl : t < S.length := by obtain ⟨_, _, _, h1, _⟩ := hp; exact idx_lt h1
  have x1 : Ext S (S ++ [O.lst [.non, .int (-1), .int (n : Nat), .bl true, .str "0", .tup [.int 0]]]) := (Ext.refl S).snoc _
  obtain ⟨d, S2, hd, e2, p2, f2⟩ := pick_q (W := W) (k + 6) (hp.ext x1) (by omega) (j := S.length) (xs := [.non, .int (-1), .int (n : Nat), .bl true, .str "0", .tup [.int 0]]) (by simp) (by omega) (by simp) (by simp)
  have h2 : SM S2 s p b m a e c0 ds := (h.ext x1).frame f2.frl (by intro i hi; simp at hi; subst hi; exact ht)
  have hns : noSign n d := by
    simp only [List.mem_cons, List.not_mem_nil, or_false] at hd
    rcases hd with r | r | r | r | r | r <;> subst r
    · exact .inl rfl
    · exact .inr (.inl rfl)
    · exact .inr (.inr rfl)
    · exact .inl rfl
    · exact .inl rfl
    · exact .inl rfl
  have e3 := exchange_no_index (W := W) (k + 2) h2.str hk (m := .non) hns
  refine ⟨S2, ?_, h2, p2⟩
  simp only [t_law_refused_2, ev_st, ev_all, ev_cst, ev_var, Out.bind, Out.st, SOut.seq, noExc, bindK, ps_all, List.map_cons, List.map_nil, List.length_cons, List.length_nil, List.nil_append, List.cons_append, List.append_nil, List.replicate, List.getElem?_cons_zero, List.getElem?_cons_succ, List.set_cons_zero, List.set_cons_succ, onBl_bl, onBlS_bl, if_true, if_false, Bool.not_true, Bool.not_false, Bool.false_eq_true, Bool.true_or, Bool.or_true, Bool.false_or, Bool.or_false, inst_all, meth_all, flds_all, as_fld, List.lookup_cons, List.lookup_nil, keys_bne, keys_ne, beq_self_eq_true, putD, isNon, decide_true, decide_false, Bool.and_true, Bool.true_and, Nat.zero_add, Nat.add_zero, sizeLine_eq, Nat.reduceAdd, Nat.reduceLeDiff]
  rw [e2]
  simp only [ev_st, ev_all, ev_cst, ev_var, Out.bind, Out.st, SOut.seq, noExc, bindK, ps_all, List.map_cons, List.map_nil, List.length_cons, List.length_nil, List.nil_append, List.cons_append, List.append_nil, List.replicate, List.getElem?_cons_zero, List.getElem?_cons_succ, List.set_cons_zero, List.set_cons_succ, onBl_bl, onBlS_bl, if_true, if_false, Bool.not_true, Bool.not_false, Bool.false_eq_true, Bool.true_or, Bool.or_true, Bool.false_or, Bool.or_false, inst_all, meth_all, flds_all, as_fld, List.lookup_cons, List.lookup_nil, keys_bne, keys_ne, beq_self_eq_true, putD, isNon, decide_true, decide_false, Bool.and_true, Bool.true_and, Nat.zero_add, Nat.add_zero]
  rw [told_ev]
  simp only [ev_st, ev_all, ev_cst, ev_var, Out.bind, Out.st, SOut.seq, noExc, bindK, ps_all, List.map_cons, List.map_nil, List.length_cons, List.length_nil, List.nil_append, List.cons_append, List.append_nil, List.replicate, List.getElem?_cons_zero, List.getElem?_cons_succ, List.set_cons_zero, List.set_cons_succ, onBl_bl, onBlS_bl, if_true, if_false, Bool.not_true, Bool.not_false, Bool.false_eq_true, Bool.true_or, Bool.or_true, Bool.false_or, Bool.or_false, inst_all, meth_all, flds_all, as_fld, List.lookup_cons, List.lookup_nil, keys_bne, keys_ne, beq_self_eq_true, putD, isNon, decide_true, decide_false, Bool.and_true, Bool.true_and, Nat.zero_add, Nat.add_zero, ins_of h2.str.ins]
  rw [e3, tell_4]
  simp only [ev_st, ev_all, ev_cst, ev_var, Out.bind, Out.st, SOut.seq, noExc, bindK, ps_all, List.map_cons, List.map_nil, List.length_cons, List.length_nil, List.nil_append, List.cons_append, List.append_nil, List.replicate, List.getElem?_cons_zero, List.getElem?_cons_succ, List.set_cons_zero, List.set_cons_succ, onBl_bl, onBlS_bl, if_true, if_false, Bool.not_true, Bool.not_false, Bool.false_eq_true, Bool.true_or, Bool.or_true, Bool.false_or, Bool.or_false, inst_all, meth_all, flds_all, as_fld, List.lookup_cons, List.lookup_nil, keys_bne, keys_ne, beq_self_eq_true, putD, isNon, decide_true, decide_false, Bool.and_true, Bool.true_and, Nat.zero_add, Nat.add_zero, sizeLine_eq, Nat.reduceAdd, Nat.reduceLeDiff, cmpE, eq_index]
theorem way12_q (k : Nat) (h : SM S s p b m a e c0 ds) (hk : DsOk g n c0 ds) (hp : PotS S t c) (hc : c + 500 < 2 ^ 60) (ht : t ∉ [s, p, b, m, a, e]) {w : List Nat} (hw : ∀ x ∈ w, x < g) (hwl : w.length ≤ 3) (hW : BIG ≤ W) {way : Nat} {d5 d8 d9 d11 : Option D} :
    ∃ S', evCs (cxk W (k + 8)) t_law_refused_6 [some (.ref t), some (.ref s), some (.ref m), some (.int (g : Nat)), some (dW w), d5, some (.int (way : Nat)), none, d8, d9, none, d11] S = .rt (.bl true) S' ∧ SM S' s p b m a e c0 ds ∧ PotS S' t (c + 1) := by
  have hsz := sizeLine_eq
  have tl : t < S.length := by obtain ⟨_, _, _, h1, _⟩ := hp; exact idx_lt h1
  generalize hwD : (w.map fun s => D.int (s : Nat)) = wD
  have hdW : dW w = .tup wD := by rw [← hwD]; rfl
  have hwDl : wD.length = w.length := by rw [← hwD]; simp
  generalize hits : [D.tup [.non, .int (-1)], .tup [.ref S.length, .int (-1)], .tup [.tup (wD ++ [.int (g : Nat)]), .int (w.length : Nat)], .tup [.tup [.bl true], .int 0], .tup [.tup (wD ++ [.non]), .int (w.length : Nat)]] = its
  have x1 : Ext S (S ++ [O.lst wD] ++ [O.lst its]) := ((Ext.refl S).snoc _).snoc _
  obtain ⟨d, S2, hd, e2, p2, f2⟩ := pick_q (W := W) (k + 6) (hp.ext x1) (by omega) (j := (S ++ [O.lst wD]).length) (xs := its) (by simp) (by simp; omega) (by rw [← hits]; simp) (by rw [← hits]; simp)
  have h2 : SM S2 s p b m a e c0 ds := (h.ext x1).frame f2.frl (by intro i hi; simp at hi; subst hi; exact ht)
  have hL : S2[S.length]? = some (.lst wD) := f2.get _ _ (by omega) (by simp)
  have hx : ∃ x i, d = .tup [x, .int i] ∧ -1 ≤ i ∧ i ≤ 3 ∧ ∀ k, run TBL W (k + 4) 7 [.int (g : Nat), x] S2 = .exc ⟨6, some ("index", .int i)⟩ S2 := by
    rw [← hits] at hd
    simp only [List.mem_cons, List.not_mem_nil, or_false] at hd
    rcases hd with r | r | r | r | r <;> subst r
    · exact ⟨_, _, rfl, by omega, by omega, fun k => check_word_no k (.inl rfl)⟩
    · exact ⟨_, _, rfl, by omega, by omega, fun k => check_word_no k (.inr ⟨_, _, rfl, hL⟩)⟩
    · refine ⟨_, _, rfl, by omega, by omega, fun k => ?_⟩
      rw [← hwD]
      exact check_word_out (W := W) k hw hwl (.inr (.inr rfl)) hW S2
    · refine ⟨_, _, rfl, by omega, by omega, fun k => ?_⟩
      exact check_word_out (W := W) k (w := []) (fun s hs => by cases hs) (by simp) (x := .bl true) (.inl rfl) hW S2
    · refine ⟨_, _, rfl, by omega, by omega, fun k => ?_⟩
      rw [← hwD]
      exact check_word_out (W := W) k hw hwl (x := .non) (.inl rfl) hW S2
  obtain ⟨x, i, rfl, hi1, hi2, he⟩ := hx
  have e3 := feed_all_no (W := W) (k + 1) h2.str hk (he (k + 1))
  have e4 := would_no (W := W) (k + 1) h2.str hk (he (k + 1))
  refine ⟨S2, ?_, h2, p2⟩
  have hlist : bltE .list [.tup wD] S = .ok (.ref S.length) (S ++ [O.lst wD]) := rfl
  have hadd : ∀ (x : D) (T : Store), addE (.tup wD) (.tup [x]) T = .ok (.tup (wD ++ [x])) T := fun x T => by
    unfold addE
    simp only
    rw [if_pos (by rw [hsz]; simp; omega)]
  have hlen : ∀ T : Store, bltE .len [.tup wD] T = .ok (.int (w.length : Nat)) T := fun T => by
    show Out.ok (D.int (wD.length : Nat)) T = _
    rw [hwDl]
  have hins : ∀ T : Store, insD T (.tup wD) = none := fun _ => rfl
  have h5 : its.length ≤ 16777216 := by rw [← hits]; simp
  rw [hdW]
  simp only [t_law_refused_6, ev_st, ev_all, ev_cst, ev_var, Out.bind, Out.st, SOut.seq, noExc, bindK, ps_all, List.map_cons, List.map_nil, List.length_cons, List.length_nil, List.nil_append, List.cons_append, List.append_nil, List.replicate, List.getElem?_cons_zero, List.getElem?_cons_succ, List.set_cons_zero, List.set_cons_succ, onBl_bl, onBlS_bl, if_true, if_false, Bool.not_true, Bool.not_false, Bool.false_eq_true, Bool.true_or, Bool.or_true, Bool.false_or, Bool.or_false, inst_all, meth_all, flds_all, as_fld, List.lookup_cons, List.lookup_nil, keys_bne, keys_ne, beq_self_eq_true, putD, isNon, decide_true, decide_false, Bool.and_true, Bool.true_and, Nat.zero_add, Nat.add_zero, hsz, Nat.reduceAdd, Nat.reduceLeDiff, bltX_not (show Blt.list ≠ Blt.len by decide), hlist, binE, hadd, bltX, hins, hlen, hits, h5]
  rw [e2]
  simp only [ev_st, ev_all, ev_cst, ev_var, Out.bind, Out.st, SOut.seq, noExc, bindK, ps_all, List.map_cons, List.map_nil, List.length_cons, List.length_nil, List.nil_append, List.cons_append, List.append_nil, List.replicate, List.getElem?_cons_zero, List.getElem?_cons_succ, List.set_cons_zero, List.set_cons_succ, onBl_bl, onBlS_bl, if_true, if_false, Bool.not_true, Bool.not_false, Bool.false_eq_true, Bool.true_or, Bool.or_true, Bool.false_or, Bool.or_false, inst_all, meth_all, flds_all, as_fld, List.lookup_cons, List.lookup_nil, keys_bne, keys_ne, beq_self_eq_true, putD, isNon, decide_true, decide_false, Bool.and_true, Bool.true_and, Nat.zero_add, Nat.add_zero, seqD]
  by_cases hway : way = 1
  · subst hway
    have hq : cmpE .eq (.int ((1 : Nat) : Int)) (.int 1) S2 = .ok (.bl true) S2 := rfl
    simp only [hq, ev_st, ev_all, ev_cst, ev_var, Out.bind, Out.st, SOut.seq, noExc, bindK, ps_all, List.map_cons, List.map_nil, List.length_cons, List.length_nil, List.nil_append, List.cons_append, List.append_nil, List.replicate, List.getElem?_cons_zero, List.getElem?_cons_succ, List.set_cons_zero, List.set_cons_succ, onBl_bl, onBlS_bl, if_true, if_false, Bool.not_true, Bool.not_false, Bool.false_eq_true, Bool.true_or, Bool.or_true, Bool.false_or, Bool.or_false, inst_all, meth_all, flds_all, as_fld, List.lookup_cons, List.lookup_nil, keys_bne, keys_ne, beq_self_eq_true, putD, isNon, decide_true, decide_false, Bool.and_true, Bool.true_and, Nat.zero_add, Nat.add_zero, t_law_refused_4]
    rw [told_ev]
    simp only [ev_st, ev_all, ev_cst, ev_var, Out.bind, Out.st, SOut.seq, noExc, bindK, ps_all, List.map_cons, List.map_nil, List.length_cons, List.length_nil, List.nil_append, List.cons_append, List.append_nil, List.replicate, List.getElem?_cons_zero, List.getElem?_cons_succ, List.set_cons_zero, List.set_cons_succ, onBl_bl, onBlS_bl, if_true, if_false, Bool.not_true, Bool.not_false, Bool.false_eq_true, Bool.true_or, Bool.or_true, Bool.false_or, Bool.or_false, inst_all, meth_all, flds_all, as_fld, List.lookup_cons, List.lookup_nil, keys_bne, keys_ne, beq_self_eq_true, putD, isNon, decide_true, decide_false, Bool.and_true, Bool.true_and, Nat.zero_add, Nat.add_zero, ins_of h2.str.ins]
    rw [e3, tell_6]
    simp only [ev_st, ev_all, ev_cst, ev_var, Out.bind, Out.st, SOut.seq, noExc, bindK, ps_all, List.map_cons, List.map_nil, List.length_cons, List.length_nil, List.nil_append, List.cons_append, List.append_nil, List.replicate, List.getElem?_cons_zero, List.getElem?_cons_succ, List.set_cons_zero, List.set_cons_succ, onBl_bl, onBlS_bl, if_true, if_false, Bool.not_true, Bool.not_false, Bool.false_eq_true, Bool.true_or, Bool.or_true, Bool.false_or, Bool.or_false, inst_all, meth_all, flds_all, as_fld, List.lookup_cons, List.lookup_nil, keys_bne, keys_ne, beq_self_eq_true, putD, isNon, decide_true, decide_false, Bool.and_true, Bool.true_and, Nat.zero_add, Nat.add_zero, sizeLine_eq, Nat.reduceAdd, Nat.reduceLeDiff, cmpE, eq_word i hi1 hi2]
  · have hq : cmpE .eq (.int (way : Int)) (.int 1) S2 = .ok (.bl false) S2 := by
      have : ¬ ((way : Nat) : Int) = 1 := by omega
      simp [cmpE, eqE, eqD, this]
    simp only [hq, ev_st, ev_all, ev_cst, ev_var, Out.bind, Out.st, SOut.seq, noExc, bindK, ps_all, List.map_cons, List.map_nil, List.length_cons, List.length_nil, List.nil_append, List.cons_append, List.append_nil, List.replicate, List.getElem?_cons_zero, List.getElem?_cons_succ, List.set_cons_zero, List.set_cons_succ, onBl_bl, onBlS_bl, if_true, if_false, Bool.not_true, Bool.not_false, Bool.false_eq_true, Bool.true_or, Bool.or_true, Bool.false_or, Bool.or_false, inst_all, meth_all, flds_all, as_fld, List.lookup_cons, List.lookup_nil, keys_bne, keys_ne, beq_self_eq_true, putD, isNon, decide_true, decide_false, Bool.and_true, Bool.true_and, Nat.zero_add, Nat.add_zero, r_law_refused_5]
    rw [told_ev]
    simp only [ev_st, ev_all, ev_cst, ev_var, Out.bind, Out.st, SOut.seq, noExc, bindK, ps_all, List.map_cons, List.map_nil, List.length_cons, List.length_nil, List.nil_append, List.cons_append, List.append_nil, List.replicate, List.getElem?_cons_zero, List.getElem?_cons_succ, List.set_cons_zero, List.set_cons_succ, onBl_bl, onBlS_bl, if_true, if_false, Bool.not_true, Bool.not_false, Bool.false_eq_true, Bool.true_or, Bool.or_true, Bool.false_or, Bool.or_false, inst_all, meth_all, flds_all, as_fld, List.lookup_cons, List.lookup_nil, keys_bne, keys_ne, beq_self_eq_true, putD, isNon, decide_true, decide_false, Bool.and_true, Bool.true_and, Nat.zero_add, Nat.add_zero, ins_of h2.str.ins, would_bne]
    rw [e4, tell_6]
    simp only [ev_st, ev_all, ev_cst, ev_var, Out.bind, Out.st, SOut.seq, noExc, bindK, ps_all, List.map_cons, List.map_nil, List.length_cons, List.length_nil, List.nil_append, List.cons_append, List.append_nil, List.replicate, List.getElem?_cons_zero, List.getElem?_cons_succ, List.set_cons_zero, List.set_cons_succ, onBl_bl, onBlS_bl, if_true, if_false, Bool.not_true, Bool.not_false, Bool.false_eq_true, Bool.true_or, Bool.or_true, Bool.false_or, Bool.or_false, inst_all, meth_all, flds_all, as_fld, List.lookup_cons, List.lookup_nil, keys_bne, keys_ne, beq_self_eq_true, putD, isNon, decide_true, decide_false, Bool.and_true, Bool.true_and, Nat.zero_add, Nat.add_zero, sizeLine_eq, Nat.reduceAdd, Nat.reduceLeDiff, cmpE, eq_word i hi1 hi2]
end
end H91

set_option Elab.async false
set_option linter.all false
set_option maxRecDepth 100000
set_option maxHeartbeats 4000000
/-! Q91v: the law's refusals: machines of other signs, bent machines. -/
namespace H91
open Pl PySem PyProof.Rows L2
section
variable {W : Nat} {s p b m a e t c : Nat} {c0 : Cur} {ds : List Deed} {g n : Nat} {S : Store}
theorem way5_q (k : Nat) (h : SM S s p b m a e c0 ds) (hk : DsOk g n c0 ds) (hp : PotS S t c) (hc : c + 500 < 2 ^ 60) (ht : t ∉ [s, p, b, m, a, e]) (hg3 : g ≤ 3) (hW : BIG ≤ W) {d4 d5 d6 d7 d8 d10 : Option D} :
    ∃ S', evCs (cxk W (k + 11)) r_law_refused_1 [some (.ref t), some (.ref s), some (.ref m), some (.int (g : Nat)), d4, d5, d6, d7, d8, some (.int (n : Nat)), d10, none] S = .rt (.bl true) S' ∧ SM S' s p b m a e c0 ds ∧ PotS S' t (c + 300) := by
  have hg1 := hk.g1
  have hn1 := hk.n1
  obtain ⟨M, S1, hM, hMg, hMn, e1, p1, f1⟩ := machine_q (W := W) (k + 7) (g := g + 1) (n := 1) hp (by omega) (by omega) (by omega) (by omega) hW
  have h1 : SM S1 s p b m a e c0 ds := h.frame f1.frl (by intro i hi; simp at hi; subst hi; exact ht)
  have e1' : run TBL W (k + 11) 69 [.ref t, .int ((g + 1 : Nat) : Int), .int 1] S = .ok (dM M) S1 := e1
  obtain ⟨S2, x2, e2⟩ := exchange_no_alike (W := W) k h1.str hk (i := n - 1) (by omega) hM (by omega) hW
  have h2 := h1.ext x2
  refine ⟨S2, ?_, h2, p1.ext x2⟩
  have hadd : addE (.int (g : Nat)) (.int 1) S = .ok (.int ((g + 1 : Nat) : Int)) S := by
    show Out.ok (D.int ((g : Int) + 1)) S = _
    rw [show ((g : Int) + 1) = ((g + 1 : Nat) : Int) by omega]
  have hsub : subE (.int (n : Nat)) (.int 1) S1 = .ok (.int ((n - 1 : Nat) : Int)) S1 := by
    show Out.ok (D.int ((n : Int) - 1)) S1 = _
    rw [show ((n : Int) - 1) = ((n - 1 : Nat) : Int) by omega]
  simp only [r_law_refused_1, ev_st, ev_all, ev_cst, ev_var, Out.bind, Out.st, SOut.seq, noExc, bindK, ps_all, List.map_cons, List.map_nil, List.length_cons, List.length_nil, List.nil_append, List.cons_append, List.append_nil, List.replicate, List.getElem?_cons_zero, List.getElem?_cons_succ, List.set_cons_zero, List.set_cons_succ, onBl_bl, onBlS_bl, if_true, if_false, Bool.not_true, Bool.not_false, Bool.false_eq_true, Bool.true_or, Bool.or_true, Bool.false_or, Bool.or_false, inst_all, meth_all, flds_all, as_fld, List.lookup_cons, List.lookup_nil, keys_bne, keys_ne, beq_self_eq_true, putD, isNon, decide_true, decide_false, Bool.and_true, Bool.true_and, Nat.zero_add, Nat.add_zero, binE, hadd]
  rw [e1']
  simp only [ev_st, ev_all, ev_cst, ev_var, Out.bind, Out.st, SOut.seq, noExc, bindK, ps_all, List.map_cons, List.map_nil, List.length_cons, List.length_nil, List.nil_append, List.cons_append, List.append_nil, List.replicate, List.getElem?_cons_zero, List.getElem?_cons_succ, List.set_cons_zero, List.set_cons_succ, onBl_bl, onBlS_bl, if_true, if_false, Bool.not_true, Bool.not_false, Bool.false_eq_true, Bool.true_or, Bool.or_true, Bool.false_or, Bool.or_false, inst_all, meth_all, flds_all, as_fld, List.lookup_cons, List.lookup_nil, keys_bne, keys_ne, beq_self_eq_true, putD, isNon, decide_true, decide_false, Bool.and_true, Bool.true_and, Nat.zero_add, Nat.add_zero]
  rw [told_ev]
  simp only [ev_st, ev_all, ev_cst, ev_var, Out.bind, Out.st, SOut.seq, noExc, bindK, ps_all, List.map_cons, List.map_nil, List.length_cons, List.length_nil, List.nil_append, List.cons_append, List.append_nil, List.replicate, List.getElem?_cons_zero, List.getElem?_cons_succ, List.set_cons_zero, List.set_cons_succ, onBl_bl, onBlS_bl, if_true, if_false, Bool.not_true, Bool.not_false, Bool.false_eq_true, Bool.true_or, Bool.or_true, Bool.false_or, Bool.or_false, inst_all, meth_all, flds_all, as_fld, List.lookup_cons, List.lookup_nil, keys_bne, keys_ne, beq_self_eq_true, putD, isNon, decide_true, decide_false, Bool.and_true, Bool.true_and, Nat.zero_add, Nat.add_zero, binE, hsub, ins_of h1.str.ins]
  rw [e2, tell_3]
  simp only [ev_st, ev_all, ev_cst, ev_var, Out.bind, Out.st, SOut.seq, noExc, bindK, ps_all, List.map_cons, List.map_nil, List.length_cons, List.length_nil, List.nil_append, List.cons_append, List.append_nil, List.replicate, List.getElem?_cons_zero, List.getElem?_cons_succ, List.set_cons_zero, List.set_cons_succ, onBl_bl, onBlS_bl, if_true, if_false, Bool.not_true, Bool.not_false, Bool.false_eq_true, Bool.true_or, Bool.or_true, Bool.false_or, Bool.or_false, inst_all, meth_all, flds_all, as_fld, List.lookup_cons, List.lookup_nil, keys_bne, keys_ne, beq_self_eq_true, putD, isNon, decide_true, decide_false, Bool.and_true, Bool.true_and, Nat.zero_add, Nat.add_zero, sizeLine_eq, Nat.reduceAdd, Nat.reduceLeDiff, cmpE, eq_unlike]
theorem way4_q (k : Nat) (h : SM S s p b m a e c0 ds) (hk : DsOk g n c0 ds) (hp : PotS S t c) (hc : c + 500 < 2 ^ 60) (ht : t ∉ [s, p, b, m, a, e]) {M : Mc} (hM : M.Ok) (hW : BIG ≤ W) {d3 d4 d6 d7 d9 d11 : Option D} :
    ∃ S', evCs (cxk W (k + 11)) t_law_refused_0 [some (.ref t), some (.ref s), some (.ref m), d3, d4, some (dM M), d6, d7, none, d9, none, d11] S = .rt (.bl true) S' ∧ SM S' s p b m a e c0 ds ∧ PotS S' t (c + 1) := by
  have hsz := sizeLine_eq
  have hn1 := hk.n1
  have tl : t < S.length := by obtain ⟨_, _, _, h1, _⟩ := hp; exact idx_lt h1
  generalize hL : [D.int (M.signs : Nat), .int (M.size : Nat), dR M.begin, dSteps M.steps, dR M.fin] = L
  have hdM : dM M = .tup L := by rw [← hL]; rfl
  generalize hits : [D.tup [.non, .tup []], .tup [.ref S.length, .tup []], .tup [.tup [.int 0, .int (M.size : Nat), dR M.begin, dSteps M.steps, dR M.fin], .tup [.int 0]], .tup [.tup [.int (M.signs : Nat), .int (M.size : Nat), dR M.begin, dSteps M.steps, .non], .tup [.int 4]]] = its
  have x1 : Ext S (S ++ [O.lst L] ++ [O.lst its]) := ((Ext.refl S).snoc _).snoc _
  obtain ⟨d, S2, hd, e2, p2, f2⟩ := pick_q (W := W) (k + 9) (hp.ext x1) (by omega) (j := (S ++ [O.lst L]).length) (xs := its) (by simp) (by simp; omega) (by rw [← hits]; simp) (by rw [← hits]; simp)
  have h2 : SM S2 s p b m a e c0 ds := (h.ext x1).frame f2.frl (by intro i hi; simp at hi; subst hi; exact ht)
  have hLs : S2[S.length]? = some (.lst L) := f2.get _ _ (by omega) (by simp)
  have hx : ∃ x l S3, d = .tup [x, .tup l] ∧ (l = [] ∨ l = [.int 0] ∨ l = [.int 4]) ∧ Ext S2 S3 ∧ run TBL W (k + 7) 25 [x] S2 = .ok (.tup l) S3 := by
    rw [← hits] at hd
    simp only [List.mem_cons, List.not_mem_nil, or_false] at hd
    rcases hd with r | r | r | r <;> subst r
    · exact ⟨_, _, _, rfl, .inl rfl, Ext.refl _, fault_nt k nt_non⟩
    · exact ⟨_, _, _, rfl, .inl rfl, Ext.refl _, fault_nt k (nt_lst hLs)⟩
    · exact ⟨_, _, _, rfl, .inr (.inl rfl), Ext.refl _, fault_0 k _ _ _ _⟩
    · obtain ⟨S3, x3, e3⟩ := fault_4 (W := W) k hM hW S2
      exact ⟨_, _, _, rfl, .inr (.inr rfl), x3, e3⟩
  obtain ⟨x, l, S3, rfl, hl, x3, e3⟩ := hx
  have e4 := check_machine_no (W := W) k e3 hl
  have e5 := exchange_no_machine (W := W) k h2.str hk (i := 0) (by omega) e4
  have e5' : run TBL W (k + 9) 44 [.ref s, .int 0, x] S2 = _ := e5
  refine ⟨S3, ?_, h2.ext x3, p2.ext x3⟩
  have hlist : bltE .list [.tup L] S = .ok (.ref S.length) (S ++ [O.lst L]) := rfl
  have hs1 : ∀ T : Store, slcE (.tup L) (some 1) none T = .ok (.tup [.int (M.size : Nat), dR M.begin, dSteps M.steps, dR M.fin]) T := fun T => by
    rw [← hL]; rfl
  have hs2 : ∀ T : Store, slcE (.tup L) none (some 4) T = .ok (.tup [.int (M.signs : Nat), .int (M.size : Nat), dR M.begin, dSteps M.steps]) T := fun T => by
    rw [← hL]; rfl
  have ha1 : ∀ T : Store, addE (.tup [.int 0]) (.tup [.int (M.size : Nat), dR M.begin, dSteps M.steps, dR M.fin]) T = .ok (.tup [.int 0, .int (M.size : Nat), dR M.begin, dSteps M.steps, dR M.fin]) T := fun T => by
    unfold addE
    simp only
    rw [if_pos (by rw [hsz]; simp)]
    rfl
  have ha2 : ∀ T : Store, addE (.tup [.int (M.signs : Nat), .int (M.size : Nat), dR M.begin, dSteps M.steps]) (.tup [.non]) T = .ok (.tup [.int (M.signs : Nat), .int (M.size : Nat), dR M.begin, dSteps M.steps, .non]) T := fun T => by
    unfold addE
    simp only
    rw [if_pos (by rw [hsz]; simp)]
    rfl
  have h5 : its.length ≤ 16777216 := by rw [← hits]; simp
  rw [hdM]
  simp only [t_law_refused_0, ev_st, ev_all, ev_cst, ev_var, Out.bind, Out.st, SOut.seq, noExc, bindK, ps_all, List.map_cons, List.map_nil, List.length_cons, List.length_nil, List.nil_append, List.cons_append, List.append_nil, List.replicate, List.getElem?_cons_zero, List.getElem?_cons_succ, List.set_cons_zero, List.set_cons_succ, onBl_bl, onBlS_bl, if_true, if_false, Bool.not_true, Bool.not_false, Bool.false_eq_true, Bool.true_or, Bool.or_true, Bool.false_or, Bool.or_false, inst_all, meth_all, flds_all, as_fld, List.lookup_cons, List.lookup_nil, keys_bne, keys_ne, beq_self_eq_true, putD, isNon, decide_true, decide_false, Bool.and_true, Bool.true_and, Nat.zero_add, Nat.add_zero, hsz, Nat.reduceAdd, Nat.reduceLeDiff, bltX_not (show Blt.list ≠ Blt.len by decide), hlist, binE, onInt_int, hs1, hs2, ha1, ha2, Nat.zero_le, hits, h5]
  rw [e2]
  simp only [ev_st, ev_all, ev_cst, ev_var, Out.bind, Out.st, SOut.seq, noExc, bindK, ps_all, List.map_cons, List.map_nil, List.length_cons, List.length_nil, List.nil_append, List.cons_append, List.append_nil, List.replicate, List.getElem?_cons_zero, List.getElem?_cons_succ, List.set_cons_zero, List.set_cons_succ, onBl_bl, onBlS_bl, if_true, if_false, Bool.not_true, Bool.not_false, Bool.false_eq_true, Bool.true_or, Bool.or_true, Bool.false_or, Bool.or_false, inst_all, meth_all, flds_all, as_fld, List.lookup_cons, List.lookup_nil, keys_bne, keys_ne, beq_self_eq_true, putD, isNon, decide_true, decide_false, Bool.and_true, Bool.true_and, Nat.zero_add, Nat.add_zero, seqD]
  rw [told_ev]
  simp only [ev_st, ev_all, ev_cst, ev_var, Out.bind, Out.st, SOut.seq, noExc, bindK, ps_all, List.map_cons, List.map_nil, List.length_cons, List.length_nil, List.nil_append, List.cons_append, List.append_nil, List.replicate, List.getElem?_cons_zero, List.getElem?_cons_succ, List.set_cons_zero, List.set_cons_succ, onBl_bl, onBlS_bl, if_true, if_false, Bool.not_true, Bool.not_false, Bool.false_eq_true, Bool.true_or, Bool.or_true, Bool.false_or, Bool.or_false, inst_all, meth_all, flds_all, as_fld, List.lookup_cons, List.lookup_nil, keys_bne, keys_ne, beq_self_eq_true, putD, isNon, decide_true, decide_false, Bool.and_true, Bool.true_and, Nat.zero_add, Nat.add_zero, ins_of h2.str.ins]
  rw [e5', tell_5]
  simp only [ev_st, ev_all, ev_cst, ev_var, Out.bind, Out.st, SOut.seq, noExc, bindK, ps_all, List.map_cons, List.map_nil, List.length_cons, List.length_nil, List.nil_append, List.cons_append, List.append_nil, List.replicate, List.getElem?_cons_zero, List.getElem?_cons_succ, List.set_cons_zero, List.set_cons_succ, onBl_bl, onBlS_bl, if_true, if_false, Bool.not_true, Bool.not_false, Bool.false_eq_true, Bool.true_or, Bool.or_true, Bool.false_or, Bool.or_false, inst_all, meth_all, flds_all, as_fld, List.lookup_cons, List.lookup_nil, keys_bne, keys_ne, beq_self_eq_true, putD, isNon, decide_true, decide_false, Bool.and_true, Bool.true_and, Nat.zero_add, Nat.add_zero, sizeLine_eq, Nat.reduceAdd, Nat.reduceLeDiff, cmpE, eq_mach l hl]
end
end H91

set_option Elab.async false
set_option linter.all false
set_option maxRecDepth 100000
set_option maxHeartbeats 4000000
/-! Q91w: _law_refused. -/
namespace H91
open Pl PySem PyProof.Rows L2
section
variable {W : Nat} {s p b m a e t c : Nat} {c0 : Cur} {ds : List Deed} {g n : Nat} {S : Store}
theorem refused_q (k : Nat) (h : SM S s p b m a e c0 ds) (hk : DsOk g n c0 ds) (hp : PotS S t c) (hc : c + 1000 < 2 ^ 60) (ht : t ∉ [s, p, b, m, a, e]) (hg3 : g ≤ 3) (hW : BIG ≤ W) :
    ∃ S', run TBL W (k + 12) 73 [.ref t, .ref s, .ref m] S = .ok (.bl true) S' ∧ SM S' s p b m a e c0 ds ∧ PotS S' t (c + 1000) := by
  have hsz := sizeLine_eq
  have hc0 := hk.cur
  have hcl := hc0.len
  have hn1 := hk.n1
  have hg1 := hk.g1
  obtain ⟨M0, m1, m2, m3, m4⟩ := first_q hc0 hn1 S
  have hidx : idxE (.ref a) (.int 0) S = .ok (dM M0) S := by
    unfold idxE
    have hl0 : 0 < (cur c0 ds).1.length := by omega
    simp only [seq_of h.mod.ms]
    have hm0 : (cur c0 ds).1[0] = M0 := by
      have := m1
      rw [List.getElem?_eq_getElem hl0] at this
      exact Option.some.inj this
    simp [atI, ixN, hl0, hm0]
  have hlen : bltE .len [.ref a] S = .ok (.int (n : Nat)) S := by
    simp only [bltE, lenE, seq_of h.mod.ms, List.length_map, hcl]
  obtain ⟨w, S1, hw, hwl, e1, p1, f1⟩ := word_q (W := W) (k + 9) (g := g) (m := 3) hp (by omega) hg1 (by omega) (by decide) hW
  have h1 : SM S1 s p b m a e c0 ds := h.frame f1.frl (by intro i hi; simp at hi; subst hi; exact ht)
  obtain ⟨M, S2, hM, hMg, hMn, e2, p2, f2⟩ := machine_q (W := W) (k + 7) (g := g) (n := 1) p1 (by omega) hg1 (by omega) (by omega) hW
  have h2 : SM S2 s p b m a e c0 ds := h1.frame f2.frl (by intro i hi; simp at hi; subst hi; exact ht)
  obtain ⟨way, S3, hway, e3, p3, f3⟩ := draw_q (W := W) (k + 10) (m := 6) p2 (by omega) (by decide) (by decide)
  have h3 : SM S3 s p b m a e c0 ds := h2.frame f3.frl (by intro i hi; simp at hi; subst hi; exact ht)
  have e1' : run TBL W (k + 11) 70 [.ref t, .int (g : Nat), .int 3] S = .ok (dW w) S1 := e1
  have e2' : run TBL W (k + 11) 69 [.ref t, .int (g : Nat), .int 1] S1 = .ok (dM M) S2 := e2
  have e3' : run TBL W (k + 11) 57 [.ref t, .int 6] S2 = .ok (.int (way : Nat)) S3 := e3
  have hq : ∀ (j : Nat) (T : Store), eqE false (.int (way : Nat)) (.int (j : Nat)) T = .ok (.bl (decide (way = j))) T := fun j T => by
    have e : (((way : Nat) : Int) = (j : Nat)) ↔ way = j := by omega
    simp [eqE, eqD, e]
  have q0 := hq 0 S3
  have q3 := hq 3 S3
  have q4 := hq 4 S3
  have hseq : ∀ (x y : D) (T : Store), seqD T (.tup [x, y]) = some [x, y] := fun _ _ _ => rfl
  have hins : insD S (.ref a) = none := insD_seq (seq_of h.mod.ms)
  have start : ∀ S', evCs (cxk W (k + 11)) (.cons (.ite (.cmp .eq (.var 6) (.cst (.int (0)))) t_law_refused_8 .nil) r_law_refused_9) [some (.ref t), some (.ref s), some (.ref m), some (.int (g : Nat)), some (dW w), some (dM M), some (.int (way : Nat)), none, none, some (.int (n : Nat)), none, none] S3 = .rt (.bl true) S' →
      run TBL W (k + 12) 73 [.ref t, .ref s, .ref m] S = .ok (.bl true) S' := by
    intro S' hh
    rw [run_succ at_73 rfl]
    have i0 : idxE (.ref m) (.int 0) S = .ok (.ref a) S := by
      unfold idxE
      simp only [seq_of h.mod.top]
      simp [atI, ixN]
    have hb : bltX (cxk W (k + 11)) .len [.ref a] S = .ok (.int (n : Nat)) S := by
      unfold bltX
      simp only [hins, hlen]
    simp only [b__law_refused, ev_st, ev_all, ev_cst, ev_var, Out.bind, Out.st, SOut.seq, noExc, bindK, ps_all, List.map_cons, List.map_nil, List.length_cons, List.length_nil, List.nil_append, List.cons_append, List.append_nil, List.replicate, List.getElem?_cons_zero, List.getElem?_cons_succ, List.set_cons_zero, List.set_cons_succ, onBl_bl, onBlS_bl, if_true, if_false, Bool.not_true, Bool.not_false, Bool.false_eq_true, Bool.true_or, Bool.or_true, Bool.false_or, Bool.or_false, inst_all, meth_all, flds_all, as_fld, List.lookup_cons, List.lookup_nil, keys_bne, keys_ne, beq_self_eq_true, putD, isNon, decide_true, decide_false, Bool.and_true, Bool.true_and, Nat.zero_add, Nat.add_zero, i0, hidx, m4, hb, hsz, Nat.reduceAdd, Nat.reduceLeDiff, hseq, e1', e2', e3', setsD]
    have hh' := hh
    simp only [ev_st, ev_all, ev_cst, ev_var, Out.bind, Out.st, SOut.seq, noExc, bindK, ps_all, List.map_cons, List.map_nil, List.length_cons, List.length_nil, List.nil_append, List.cons_append, List.append_nil, List.replicate, List.getElem?_cons_zero, List.getElem?_cons_succ, List.set_cons_zero, List.set_cons_succ, onBl_bl, onBlS_bl, if_true, if_false, Bool.not_true, Bool.not_false, Bool.false_eq_true, Bool.true_or, Bool.or_true, Bool.false_or, Bool.or_false, inst_all, meth_all, flds_all, as_fld, List.lookup_cons, List.lookup_nil, keys_bne, keys_ne, beq_self_eq_true, putD, isNon, decide_true, decide_false, Bool.and_true, Bool.true_and, Nat.zero_add, Nat.add_zero] at hh'
    rw [hh']
  rcases (show way = 0 ∨ way = 1 ∨ way = 2 ∨ way = 3 ∨ way = 4 ∨ way = 5 by omega) with r | r | r | r | r | r
  · subst r
    obtain ⟨_, S4, e4, h4, p4, _⟩ := way0_q (W := W) (k + 3) h3 hk p3 (by omega) ht (d4 := some (dW w)) (d5 := some (dM M)) (d6 := some (.int ((0 : Nat) : Int))) (d7 := none) (d8 := none) (d9 := some (.int (n : Nat))) (d11 := none)
    refine ⟨S4, start S4 ?_, h4, p4.mono (by omega)⟩
    have z0 : cmpE .eq (.int ((0 : Nat) : Int)) (.int 0) S3 = .ok (.bl true) S3 := rfl
    simp only [ev_st, ev_all, ev_cst, ev_var, Out.bind, Out.st, SOut.seq, noExc, bindK, ps_all, List.map_cons, List.map_nil, List.length_cons, List.length_nil, List.nil_append, List.cons_append, List.append_nil, List.replicate, List.getElem?_cons_zero, List.getElem?_cons_succ, List.set_cons_zero, List.set_cons_succ, onBl_bl, onBlS_bl, if_true, if_false, Bool.not_true, Bool.not_false, Bool.false_eq_true, z0]
    rw [e4]
  · subst r
    obtain ⟨S4, e4, h4, p4⟩ := way12_q (W := W) (k + 3) h3 hk p3 (by omega) ht hw hwl hW (way := 1) (d5 := some (dM M)) (d8 := none) (d9 := some (.int (n : Nat))) (d11 := none)
    refine ⟨S4, start S4 ?_, h4, p4.mono (by omega)⟩
    have z0 : cmpE .eq (.int ((1 : Nat) : Int)) (.int 0) S3 = .ok (.bl false) S3 := rfl
    have z1 : cmpE .lt (.int ((1 : Nat) : Int)) (.int 3) S3 = .ok (.bl true) S3 := rfl
    simp only [ev_st, ev_all, ev_cst, ev_var, Out.bind, Out.st, SOut.seq, noExc, bindK, ps_all, List.map_cons, List.map_nil, List.length_cons, List.length_nil, List.nil_append, List.cons_append, List.append_nil, List.replicate, List.getElem?_cons_zero, List.getElem?_cons_succ, List.set_cons_zero, List.set_cons_succ, onBl_bl, onBlS_bl, if_true, if_false, Bool.not_true, Bool.not_false, Bool.false_eq_true, z0, r_law_refused_9, z1]
    rw [e4]
  · subst r
    obtain ⟨S4, e4, h4, p4⟩ := way12_q (W := W) (k + 3) h3 hk p3 (by omega) ht hw hwl hW (way := 2) (d5 := some (dM M)) (d8 := none) (d9 := some (.int (n : Nat))) (d11 := none)
    refine ⟨S4, start S4 ?_, h4, p4.mono (by omega)⟩
    have z0 : cmpE .eq (.int ((2 : Nat) : Int)) (.int 0) S3 = .ok (.bl false) S3 := rfl
    have z1 : cmpE .lt (.int ((2 : Nat) : Int)) (.int 3) S3 = .ok (.bl true) S3 := rfl
    simp only [ev_st, ev_all, ev_cst, ev_var, Out.bind, Out.st, SOut.seq, noExc, bindK, ps_all, List.map_cons, List.map_nil, List.length_cons, List.length_nil, List.nil_append, List.cons_append, List.append_nil, List.replicate, List.getElem?_cons_zero, List.getElem?_cons_succ, List.set_cons_zero, List.set_cons_succ, onBl_bl, onBlS_bl, if_true, if_false, Bool.not_true, Bool.not_false, Bool.false_eq_true, z0, r_law_refused_9, z1]
    rw [e4]
  · subst r
    obtain ⟨S4, e4, h4, p4⟩ := way3_q (W := W) (k + 3) h3 hk p3 (by omega) ht (d3 := some (.int (g : Nat))) (d4 := some (dW w)) (d5 := some (dM M)) (d6 := some (.int ((3 : Nat) : Int))) (d7 := none) (d8 := none) (d11 := none)
    refine ⟨S4, start S4 ?_, h4, p4.mono (by omega)⟩
    have z0 : cmpE .eq (.int ((3 : Nat) : Int)) (.int 0) S3 = .ok (.bl false) S3 := rfl
    have z1 : cmpE .lt (.int ((3 : Nat) : Int)) (.int 3) S3 = .ok (.bl false) S3 := rfl
    have z2 : cmpE .eq (.int ((3 : Nat) : Int)) (.int 3) S3 = .ok (.bl true) S3 := rfl
    simp only [ev_st, ev_all, ev_cst, ev_var, Out.bind, Out.st, SOut.seq, noExc, bindK, ps_all, List.map_cons, List.map_nil, List.length_cons, List.length_nil, List.nil_append, List.cons_append, List.append_nil, List.replicate, List.getElem?_cons_zero, List.getElem?_cons_succ, List.set_cons_zero, List.set_cons_succ, onBl_bl, onBlS_bl, if_true, if_false, Bool.not_true, Bool.not_false, Bool.false_eq_true, z0, r_law_refused_9, z1, r_law_refused_7, z2]
    rw [e4]
  · subst r
    obtain ⟨S4, e4, h4, p4⟩ := way4_q (W := W) k h3 hk p3 (by omega) ht hM hW (d3 := some (.int (g : Nat))) (d4 := some (dW w)) (d6 := some (.int ((4 : Nat) : Int))) (d7 := none) (d9 := some (.int (n : Nat))) (d11 := none)
    refine ⟨S4, start S4 ?_, h4, p4.mono (by omega)⟩
    have z0 : cmpE .eq (.int ((4 : Nat) : Int)) (.int 0) S3 = .ok (.bl false) S3 := rfl
    have z1 : cmpE .lt (.int ((4 : Nat) : Int)) (.int 3) S3 = .ok (.bl false) S3 := rfl
    have z2 : cmpE .eq (.int ((4 : Nat) : Int)) (.int 3) S3 = .ok (.bl false) S3 := rfl
    have z3 : cmpE .eq (.int ((4 : Nat) : Int)) (.int 4) S3 = .ok (.bl true) S3 := rfl
    simp only [ev_st, ev_all, ev_cst, ev_var, Out.bind, Out.st, SOut.seq, noExc, bindK, ps_all, List.map_cons, List.map_nil, List.length_cons, List.length_nil, List.nil_append, List.cons_append, List.append_nil, List.replicate, List.getElem?_cons_zero, List.getElem?_cons_succ, List.set_cons_zero, List.set_cons_succ, onBl_bl, onBlS_bl, if_true, if_false, Bool.not_true, Bool.not_false, Bool.false_eq_true, z0, r_law_refused_9, z1, r_law_refused_7, z2, r_law_refused_3, z3]
    rw [e4]
  · subst r
    obtain ⟨S4, e4, h4, p4⟩ := way5_q (W := W) k h3 hk p3 (by omega) ht hg3 hW (d4 := some (dW w)) (d5 := some (dM M)) (d6 := some (.int ((5 : Nat) : Int))) (d7 := none) (d8 := none) (d10 := none)
    refine ⟨S4, start S4 ?_, h4, p4.mono (by omega)⟩
    have z0 : cmpE .eq (.int ((5 : Nat) : Int)) (.int 0) S3 = .ok (.bl false) S3 := rfl
    have z1 : cmpE .lt (.int ((5 : Nat) : Int)) (.int 3) S3 = .ok (.bl false) S3 := rfl
    have z2 : cmpE .eq (.int ((5 : Nat) : Int)) (.int 3) S3 = .ok (.bl false) S3 := rfl
    have z3 : cmpE .eq (.int ((5 : Nat) : Int)) (.int 4) S3 = .ok (.bl false) S3 := rfl
    simp only [ev_st, ev_all, ev_cst, ev_var, Out.bind, Out.st, SOut.seq, noExc, bindK, ps_all, List.map_cons, List.map_nil, List.length_cons, List.length_nil, List.nil_append, List.cons_append, List.append_nil, List.replicate, List.getElem?_cons_zero, List.getElem?_cons_succ, List.set_cons_zero, List.set_cons_succ, onBl_bl, onBlS_bl, if_true, if_false, Bool.not_true, Bool.not_false, Bool.false_eq_true, z0, r_law_refused_9, z1, r_law_refused_7, z2, r_law_refused_3, z3]
    rw [e4]
end
end H91

set_option Elab.async false
set_option linter.all false
set_option maxRecDepth 100000
set_option maxHeartbeats 4000000
/-! Q91x: lists cut and joined in the store; small lemmas for _law_step_right. -/
namespace H91
open Pl PySem PyProof.Rows L2
theorem cut_take {ds : List D} (i : Nat) : Pl.cutD ds none (some (i : Int)) = ds.take i := by
  unfold Pl.cutD
  rw [HT.sIx_nat]
  have : HT.sIx ds.length 0 none = 0 := rfl
  rw [this, Nat.sub_zero, List.drop_zero]
  by_cases h : i ≤ ds.length
  · rw [Nat.min_eq_left h]
  · rw [Nat.min_eq_right (by omega), List.take_of_length_le (Nat.le_refl _), List.take_of_length_le (by omega)]
theorem slc_ref_lo {T : Store} {a : Nat} {xs : List D} (h : T[a]? = some (.lst xs)) (i : Nat) : slcE (.ref a) none (some (i : Nat)) T = .ok (.ref T.length) (T ++ [.lst (xs.take i)]) := by
  show (match seqD T (.ref a) with
    | some ds => Out.ok (D.ref T.length) (T ++ [O.lst (Pl.cutD ds none (some ((i : Nat) : Int)))])
    | none => .bad) = _
  rw [seq_of h]
  simp only [cut_take]
theorem slc_ref_hi {T : Store} {a : Nat} {xs : List D} (h : T[a]? = some (.lst xs)) (i : Nat) (hi : i < xs.length) : slcE (.ref a) (some ((i : Nat) + 1 : Int)) none T = .ok (.ref T.length) (T ++ [.lst (xs.drop (i + 1))]) := by
  show (match seqD T (.ref a) with
    | some ds => Out.ok (D.ref T.length) (T ++ [O.lst (Pl.cutD ds (some (((i + 1 : Nat)) : Int)) none)])
    | none => .bad) = _
  rw [seq_of h]
  simp only [cut_hi (by omega : i + 1 ≤ xs.length)]
theorem add_ref {T : Store} {i j : Nat} {xs ys : List D} (h1 : T[i]? = some (.lst xs)) (h2 : T[j]? = some (.lst ys)) (hl : xs.length + ys.length ≤ 1000) : addE (.ref i) (.ref j) T = .ok (.ref T.length) (T ++ [.lst (xs ++ ys)]) := by
  unfold addE
  simp only [h1, h2]
  rw [if_pos (by rw [sizeLine_eq]; omega)]
theorem add_w {v w : List Nat} (h : v.length + w.length ≤ 1000) (T : Store) : addE (dW v) (dW w) T = .ok (dW (v ++ w)) T := by
  unfold dW
  rw [List.map_append]
  exact if_pos (by rw [sizeLine_eq]; simp; omega)
theorem nd_sp {s p b m a e : Nat} (h : [s, p, b, m, a, e].Nodup) : p ≠ b ∧ m ∉ [s, p] ∧ a ∉ [s, p] ∧ e ∉ [s, p] := by
  simp only [List.nodup_cons, List.mem_cons, not_or, List.not_mem_nil, not_false_eq_true, and_true, List.nodup_nil] at h ⊢
  obtain ⟨⟨n1, n2, n3, n4, n5⟩, ⟨n6, n7, n8, n9⟩, ⟨n10, n11, n12⟩, ⟨n13, n14⟩, n15⟩ := h
  exact ⟨n6, ⟨Ne.symm n3, Ne.symm n7⟩, ⟨Ne.symm n4, Ne.symm n8⟩, Ne.symm n5, Ne.symm n9⟩
theorem nt_sp {t s p b m a e : Nat} (h : t ∉ [s, p, b, m, a, e]) : t ∉ [s, p] ∧ t ∉ [m] ∧ t ∉ [e] := by
  simp only [List.mem_cons, not_or, List.not_mem_nil, not_false_eq_true, and_true] at h ⊢
  obtain ⟨t1, t2, t3, t4, t5, t6⟩ := h
  exact ⟨⟨t1, t2⟩, t4, t6⟩
end H91

set_option Elab.async false
set_option linter.all false
set_option maxRecDepth 100000
set_option maxHeartbeats 4000000
/-! Q91y: the model goes on with a deed. -/
namespace H91
open Pl PySem PyProof.Rows L2
section
variable {W : Nat} {s p b m a e t c : Nat} {c0 : Cur} {ds : List Deed} {g n : Nat} {S : Store}
theorem Strm.set {i : Nat} (h : Strm S s p b c0 ds []) (h1 : i ≠ s) (h2 : i ≠ p) (h3 : i ≠ b) (o : O) : Strm (S.set i o) s p b c0 ds [] := ⟨set_ne h.ins h1 o, set_ne h.past h2 o, set_ne h.blk h3 o⟩
/-- a feeding is noted in the model -/
theorem SM.feed {d : Deed} (hs : Strm S s p b c0 (ds ++ [d]) []) (hm : Mod S m a e (cur c0 ds) ds) (hnd : [s, p, b, m, a, e].Nodup) (hd : (cur c0 (ds ++ [d])).1 = (cur c0 ds).1) :
    SM ((S.set e (.lst (ds.map dDeed ++ [dDeed d]))).set m (.lst [.ref a, dW (cur c0 (ds ++ [d])).2, .ref e])) s p b m a e c0 (ds ++ [d]) := by
  have hnd' := hnd
  simp only [List.nodup_cons, List.mem_cons, not_or, List.not_mem_nil, not_false_eq_true, and_true, List.nodup_nil] at hnd
  obtain ⟨⟨n1, n2, n3, n4, n5⟩, ⟨n6, n7, n8, n9⟩, ⟨n10, n11, n12⟩, ⟨n13, n14⟩, n15⟩ := hnd
  have h1 := hs.set (Ne.symm n5) (Ne.symm n9) (Ne.symm n12) (.lst (ds.map dDeed ++ [dDeed d]))
  have h2 := h1.set (Ne.symm n3) (Ne.symm n7) (Ne.symm n10) (.lst [.ref a, dW (cur c0 (ds ++ [d])).2, .ref e])
  refine ⟨h2, ⟨?_, ?_, ?_⟩, hnd'⟩
  · exact set_self (set_ne hm.top (Ne.symm n14) _) _
  · rw [hd]
    exact set_ne (set_ne hm.ms (Ne.symm n15) _) n13 _
  · rw [List.map_append]
    exact set_ne (set_self hm.dd _) n14 _
/-- an exchange is noted in the model: its machines are a new list -/
theorem SM.exch {d : Deed} {a' : Nat} (hs : Strm S s p b c0 (ds ++ [d]) []) (hm : Mod S m a e (cur c0 ds) ds) (hnd : [s, p, b, m, a, e].Nodup) (ha : S[a']? = some (.lst ((cur c0 (ds ++ [d])).1.map dM))) (hn : a' ∉ [s, p, b, m, e]) (hd : (cur c0 (ds ++ [d])).2 = (cur c0 ds).2) :
    SM ((S.set m (.lst [.ref a', dW (cur c0 (ds ++ [d])).2, .ref e])).set e (.lst (ds.map dDeed ++ [dDeed d]))) s p b m a' e c0 (ds ++ [d]) := by
  simp only [List.nodup_cons, List.mem_cons, not_or, List.not_mem_nil, not_false_eq_true, and_true, List.nodup_nil] at hnd hn
  obtain ⟨⟨n1, n2, n3, n4, n5⟩, ⟨n6, n7, n8, n9⟩, ⟨n10, n11, n12⟩, ⟨n13, n14⟩, n15⟩ := hnd
  obtain ⟨u1, u2, u3, u4, u5⟩ := hn
  have h1 := hs.set (Ne.symm n3) (Ne.symm n7) (Ne.symm n10) (.lst [.ref a', dW (cur c0 (ds ++ [d])).2, .ref e])
  have h2 := h1.set (Ne.symm n5) (Ne.symm n9) (Ne.symm n12) (.lst (ds.map dDeed ++ [dDeed d]))
  refine ⟨h2, ⟨?_, ?_, ?_⟩, ?_⟩
  · exact set_ne (set_self hm.top _) (Ne.symm n14) _
  · exact set_ne (set_ne ha (Ne.symm u4) _) (Ne.symm u5) _
  · rw [List.map_append]
    exact set_self (set_ne hm.dd n14 _) _
  · simp only [List.nodup_cons, List.mem_cons, not_or, List.not_mem_nil, not_false_eq_true, and_true, List.nodup_nil]
    exact ⟨⟨n1, n2, n3, Ne.symm u1, n5⟩, ⟨n6, n7, Ne.symm u2, n9⟩, ⟨n10, Ne.symm u3, n12⟩, ⟨Ne.symm u4, n14⟩, u5⟩
end
end H91

set_option Elab.async false
set_option linter.all false
set_option maxRecDepth 100000
set_option maxHeartbeats 4000000
/-! Q91z: _law_step_right, an exchange. -/
namespace H91
open Pl PySem PyProof.Rows L2
section
variable {W : Nat} {s p b m a e t c : Nat} {c0 : Cur} {ds : List Deed} {g n : Nat} {S : Store}
theorem SM.lt (h : SM S s p b m a e c0 ds) : ∀ i ∈ [s, p, b, m, a, e], i < S.length := by
  intro i hi
  simp only [List.mem_cons, List.not_mem_nil, or_false] at hi
  rcases hi with r | r | r | r | r | r <;> subst r
  · exact idx_lt h.str.ins
  · exact idx_lt h.str.past
  · exact idx_lt h.str.blk
  · exact idx_lt h.mod.top
  · exact idx_lt h.mod.ms
  · exact idx_lt h.mod.dd
theorem PotS.lt (h : PotS S t c) : t < S.length := by
  obtain ⟨_, _, _, h1, _⟩ := h
  exact idx_lt h1
/-- the last rows of an exchange's turn -/
theorem exch_q (k : Nat) (h : SM S s p b m a e c0 ds) (hk : DsOk g n c0 ds) (hp : PotS S t c) (hc : c + 1000 < 2 ^ 60) (ht : t ∉ [s, p, b, m, a, e]) (hl : ds.length < 40) (hW : BIG ≤ W) {d12 d13 : Option D} :
    ∃ d a' S', evCs (cxk W (k + 9)) t_law_step_right_1 [some (.ref t), some (.ref s), some (.ref m), some (.ref a), some (dW (cur c0 ds).2), some (.ref e), some (.int (g : Nat)), some (.int ((2 : Nat) : Int)), none, none, none, none, d12, d13] S = .rt (.bl true) S' ∧ DeedOk g n d ∧ SM S' s p b m a' e c0 (ds ++ [d]) ∧ PotS S' t (c + 500) ∧ t ∉ [s, p, b, m, a', e] := by
  have hsz := sizeLine_eq
  have e60 : (2 : Nat) ^ 60 = 1152921504606846976 := by decide
  have hcur := hk.cur
  have hcl := hcur.len
  have hcfl := hcur.fl
  have hn4 := hk.n4
  have hn1 := hk.n1
  have hg1 := hk.g1
  have hg4 := hk.g4
  obtain ⟨n6, nm, na, ne⟩ := nd_sp h.nd
  obtain ⟨tsp, tm, te⟩ := nt_sp ht
  obtain ⟨at_, S2, hat, e2, p2, f2⟩ := draw_q (W := W) (k + 8) (m := n) hp (by omega) (by omega) (by omega)
  obtain ⟨z, S3, hz, e3, p3, f3⟩ := draw_q (W := W) (k + 8) (m := 3) p2 (by omega) (by decide) (by decide)
  obtain ⟨M, S4, hM, hMg, hMn, e4, p4, f4⟩ := machine_q (W := W) (k + 5) (g := g) (n := z) p3 (by omega) hg1 hg4 (by omega) hW
  have F4 : FrL [t] S S4 := (f2.trans (f3.trans f4)).frl
  have h4 : SM S4 s p b m a e c0 ds := h.frame F4 (by intro i hi; simp at hi; subst hi; exact ht)
  obtain ⟨S5, e5, s5, f5⟩ := exchange_q (W := W) k h4.str hk n6 hat hM hMg hl hW
  have m5 : Mod S5 m a e (cur c0 ds) ds := h4.mod.frame f5 nm na ne
  have p5 : PotS S5 t (c + 302) := (p4.frame f5 tsp).mono (by omega)
  have hxs : S5[a]? = some (.lst ((cur c0 ds).1.map dM)) := m5.ms
  have hai : at_ < ((cur c0 ds).1.map dM).length := by rw [List.length_map]; omega
  have b1 := slc_ref_lo hxs at_
  generalize hT1 : S5 ++ [O.lst (((cur c0 ds).1.map dM).take at_)] = T1 at b1
  have l1 : T1[S5.length]? = some (.lst (((cur c0 ds).1.map dM).take at_)) := by rw [← hT1]; simp
  have x1 : Ext S5 T1 := by rw [← hT1]; exact (Ext.refl S5).snoc _
  generalize hT2 : T1 ++ [O.lst [dM M]] = T2
  have l2 : T2[T1.length]? = some (.lst [dM M]) := by rw [← hT2]; simp
  have x2 : Ext T1 T2 := by rw [← hT2]; exact (Ext.refl T1).snoc _
  have b2 := add_ref (x2.get l1) l2 (by simp; omega)
  generalize hT3 : T2 ++ [O.lst (((cur c0 ds).1.map dM).take at_ ++ [dM M])] = T3 at b2
  have l3 : T3[T2.length]? = some (.lst (((cur c0 ds).1.map dM).take at_ ++ [dM M])) := by rw [← hT3]; simp
  have x3 : Ext T2 T3 := by rw [← hT3]; exact (Ext.refl T2).snoc _
  have b3 := slc_ref_hi (x3.get (x2.get (x1.get hxs))) at_ hai
  generalize hT4 : T3 ++ [O.lst (((cur c0 ds).1.map dM).drop (at_ + 1))] = T4 at b3
  have l4 : T4[T3.length]? = some (.lst (((cur c0 ds).1.map dM).drop (at_ + 1))) := by rw [← hT4]; simp
  have x4 : Ext T3 T4 := by rw [← hT4]; exact (Ext.refl T3).snoc _
  have b4 := add_ref (x4.get l3) l4 (by simp; omega)
  rw [take_map_q (cur c0 ds).1 dM at_ (dM M) M rfl] at b4
  generalize hT5 : T4 ++ [O.lst (((cur c0 ds).1.take at_ ++ [M] ++ (cur c0 ds).1.drop (at_ + 1)).map dM)] = T5 at b4
  have l5 : T5[T4.length]? = some (.lst (((cur c0 ds).1.take at_ ++ [M] ++ (cur c0 ds).1.drop (at_ + 1)).map dM)) := by rw [← hT5]; simp
  have x5 : Ext T4 T5 := by rw [← hT5]; exact (Ext.refl T4).snoc _
  have xx := x1.trans (x2.trans (x3.trans (x4.trans x5)))
  have hcs : cur c0 (ds ++ [.exch at_ M]) = ((cur c0 ds).1.take at_ ++ [M] ++ (cur c0 ds).1.drop (at_ + 1), (cur c0 ds).2) := by rw [cur_snoc]; rfl
  have hs5 := s5.ext xx
  have hm5 := m5.ext xx
  have h45 : S5.length ≤ T4.length := Ext.len (x1.trans (x2.trans (x3.trans x4)))
  have i1 := idx_lt s5.ins
  have i2 := idx_lt s5.past
  have i3 := idx_lt s5.blk
  have i4 := idx_lt m5.top
  have i5 := idx_lt m5.dd
  have hn' : T4.length ∉ [s, p, b, m, e] := by
    simp only [List.mem_cons, not_or, List.not_mem_nil, not_false_eq_true, and_true]
    omega
  have hfin := SM.exch (S := T5) (a' := T4.length) (d := .exch at_ M) hs5 hm5 h.nd (by rw [hcs]; exact l5) hn' (by rw [hcs])
  have hset := set_at (S := T5) (t := m) hm5.top (j := 0) (by simp) (.ref T4.length)
  have hnd := h.nd
  have hme : m ≠ e := by
    simp only [List.nodup_cons, List.mem_cons, not_or, List.not_mem_nil, not_false_eq_true, and_true, List.nodup_nil] at hnd
    exact hnd.2.2.2.1.2
  have hee : (T5.set m (.lst [.ref T4.length, dW (cur c0 ds).2, .ref e]))[e]? = some (.lst (ds.map dDeed)) := set_ne hm5.dd hme _
  have eap := append_q hee (by rw [List.length_map]; omega) (dDeed (.exch at_ M))
  have tl5 := p5.lt
  have p7 : PotS ((T5.set m (.lst [.ref T4.length, dW (cur c0 ds).2, .ref e])).set e (.lst (ds.map dDeed ++ [dDeed (.exch at_ M)]))) t (c + 302) := (((p5.ext xx).frame (frl_set (P := [m]) (by simp) _) tm).frame (frl_set (P := [e]) (by simp) _) te)
  have hwM : ∀ x ∈ (cur c0 ds).2, x < M.signs := fun x hx => by rw [hMg]; exact hcur.fed x hx
  rw [hcs] at hfin
  generalize hT7 : (T5.set m (.lst [.ref T4.length, dW (cur c0 ds).2, .ref e])).set e (.lst (ds.map dDeed ++ [dDeed (.exch at_ M)])) = T7 at eap p7 hfin
  obtain ⟨T8, x8, e8⟩ := law_worth_q (W := W) (k + 3) hM hwM (by omega) hW T7
  have e9 := same_tup (W := W) (S := T8) (k + 8) (shown_big (hM.worth hwM) (by omega)) ⟨_, rfl⟩ (by decide) (by decide)
  have hlen : bltX (cxk W (k + 9)) .len [.ref a] S = .ok (.int (n : Nat)) S := by
    simp only [bltX, insD_seq (seq_of h.mod.ms), bltE, lenE, seq_of h.mod.ms, List.length_map, hcl]
  have e3' : run TBL W (k + 9) 57 [.ref t, .int 3] S2 = .ok (.int (z : Nat)) S3 := e3
  have a3 : addE (.int (at_ : Nat)) (.int 1) T3 = .ok (.int ((at_ : Nat) + 1 : Int)) T3 := rfl
  refine ⟨.exch at_ M, T4.length, T8, ?_, ⟨hat, hM, hMg⟩, hfin.ext x8, (p7.ext x8).mono (by omega), ?_⟩
  · have hi8 : isLst (T5.set m (.lst [.ref T4.length, dW (cur c0 ds).2, .ref e])) (.ref e) = true := isLst_of hee
    have hset' : setE (.ref m) (.int 0) (.ref T4.length) T5 = .ok () (T5.set m (.lst [.ref T4.length, dW (cur c0 ds).2, .ref e])) := hset
    simp only [t_law_step_right_1, ev_st, ev_all, ev_cst, ev_var, Out.bind, Out.st, SOut.seq, noExc, bindK, ps_all, List.map_cons, List.map_nil, List.length_cons, List.length_nil, List.nil_append, List.cons_append, List.append_nil, List.replicate, List.getElem?_cons_zero, List.getElem?_cons_succ, List.set_cons_zero, List.set_cons_succ, onBl_bl, onBlS_bl, if_true, if_false, Bool.not_true, Bool.not_false, Bool.false_eq_true, hlen, e2, e3', e4, setsD, Bool.true_or, Bool.or_true, Bool.false_or, Bool.or_false, inst_all, meth_all, flds_all, as_fld, List.lookup_cons, List.lookup_nil, keys_bne, keys_ne, beq_self_eq_true, putD, isNon, decide_true, decide_false, Bool.and_true, Bool.true_and, Nat.zero_add, Nat.add_zero, ins_of h4.str.ins, Nat.reduceAdd, Nat.reduceSub, List.drop_succ_cons, List.drop_zero, e5, b1, hT2, binE, b2, a3, onInt_int, b3, b4, hsz, Nat.reduceLeDiff, bmE, hset', hi8]
    rw [show (appendE (.ref e) [.tup [.str "exchange", .int (at_ : Nat), dM M]] _) = _ from eap]
    simp only [ev_st, ev_all, ev_cst, ev_var, Out.bind, Out.st, SOut.seq, noExc, bindK, ps_all, List.map_cons, List.map_nil, List.length_cons, List.length_nil, List.nil_append, List.cons_append, List.append_nil, List.replicate, List.getElem?_cons_zero, List.getElem?_cons_succ, List.set_cons_zero, List.set_cons_succ, onBl_bl, onBlS_bl, if_true, if_false, Bool.not_true, Bool.not_false, Bool.false_eq_true, Bool.true_or, Bool.or_true, Bool.false_or, Bool.or_false, inst_all, meth_all, flds_all, as_fld, List.lookup_cons, List.lookup_nil, keys_bne, keys_ne, beq_self_eq_true, putD, isNon, decide_true, decide_false, Bool.and_true, Bool.true_and, Nat.zero_add, Nat.add_zero]
    rw [show run TBL W (k + 9) 66 [dM M, dW (cur c0 ds).2] T7 = _ from e8]
    simp only [ev_st, ev_all, ev_cst, ev_var, Out.bind, Out.st, SOut.seq, noExc, bindK, ps_all, List.map_cons, List.map_nil, List.length_cons, List.length_nil, List.nil_append, List.cons_append, List.append_nil, List.replicate, List.getElem?_cons_zero, List.getElem?_cons_succ, List.set_cons_zero, List.set_cons_succ, onBl_bl, onBlS_bl, if_true, if_false, Bool.not_true, Bool.not_false, Bool.false_eq_true, Bool.true_or, Bool.or_true, Bool.false_or, Bool.or_false, inst_all, meth_all, flds_all, as_fld, List.lookup_cons, List.lookup_nil, keys_bne, keys_ne, beq_self_eq_true, putD, isNon, decide_true, decide_false, Bool.and_true, Bool.true_and, Nat.zero_add, Nat.add_zero]
    rw [e9]
  · simp only [List.mem_cons, not_or, List.not_mem_nil, not_false_eq_true, and_true] at ht ⊢
    omega
end
end H91

set_option Elab.async false
set_option linter.all false
set_option maxRecDepth 100000
set_option maxHeartbeats 4000000
/-! Q91za: _law_step_right, a feeding: what is due. -/
namespace H91
open Pl PySem PyProof.Rows L2
section
variable {W : Nat} {s p b m a e t c : Nat} {c0 : Cur} {ds : List Deed} {g n : Nat} {S : Store}
theorem due_q (k : Nat) (h : SM S s p b m a e c0 ds) (hk : DsOk g n c0 ds) {w : List Nat} (hw : ∀ x ∈ w, x < g) (hwl : w.length ≤ 3) (hW : BIG ≤ W) {d0 d1 d2 d5 d6 d7 d8 d10 d12 : Option D} :
    ∃ S', Ext S S' ∧ evE (cxk W (k + 6)) (.blt .tuple (.cons c_law_step_right_0 .nil)) [d0, d1, d2, some (.ref a), some (dW (cur c0 ds).2), d5, d6, d7, d8, none, d10, some (dW w), d12, none] S = .ok (.tup ((cur c0 ds).1.map fun M => dQ (M.worth ((cur c0 ds).2 ++ w)))) S' := by
  have hB := BIG_gt
  have hsz := sizeLine_eq
  have hc := hk.cur150
  have hcl := hc.len
  have hcfl := hc.fl
  have hn4 := hk.n4
  have hseq := seq_of h.mod.ms
  obtain ⟨S1, x1, e1⟩ : ∃ S1, Ext S S1 ∧ evE (cxk W (k + 6)) c_law_step_right_0 [d0, d1, d2, some (.ref a), some (dW (cur c0 ds).2), d5, d6, d7, d8, none, d10, some (dW w), d12, none] S = .ok (.ref S1.length) (S1 ++ [O.lst ((cur c0 ds).1.map fun M => dQ (M.worth ((cur c0 ds).2 ++ w)))]) :=
    comp_list (cx := cxk W (k + 6)) (S1 := S) (iv := .sq (.ref a)) (cur c0 ds).1 dM (fun M => dQ (M.worth ((cur c0 ds).2 ++ w)))
      (by rw [evI]; simp only [ev_st, ev_all, ev_cst, ev_var, Out.bind, Out.st, SOut.seq, noExc, bindK, ps_all, List.map_cons, List.map_nil, List.length_cons, List.length_nil, List.nil_append, List.cons_append, List.append_nil, List.replicate, List.getElem?_cons_zero, List.getElem?_cons_succ, List.set_cons_zero, List.set_cons_succ, onBl_bl, onBlS_bl, if_true, if_false, Bool.not_true, Bool.not_false, Bool.false_eq_true, hseq, Option.isSome_some]) (fun j T y hn => next_sq (y.seqD hseq) j) (fun M hM T _ => by
        obtain ⟨q1, q2, q3⟩ := hc.along hM
        obtain ⟨T2, x2, e2⟩ := law_worth_q (W := W) k (w := (cur c0 ds).2 ++ w) q1 (fun s hs => by
          rcases List.mem_append.mp hs with z | z
          · exact q3 s z
          · rw [q2]; exact hw s z) (by rw [List.length_append]; omega) hW T
        have ha := add_w (v := (cur c0 ds).2) (w := w) (by omega) T
        refine ⟨[d0, d1, d2, some (.ref a), some (dW (cur c0 ds).2), d5, d6, d7, d8, some (dM M), d10, some (dW w), d12, none], T2, by simp [ev_st, wipeD], ?_, x2⟩
        simp only [ev_st, ev_all, ev_cst, ev_var, Out.bind, Out.st, SOut.seq, noExc, bindK, ps_all, List.map_cons, List.map_nil, List.length_cons, List.length_nil, List.nil_append, List.cons_append, List.append_nil, List.replicate, List.getElem?_cons_zero, List.getElem?_cons_succ, List.set_cons_zero, List.set_cons_succ, onBl_bl, onBlS_bl, if_true, if_false, Bool.not_true, Bool.not_false, Bool.false_eq_true, binE, ha]
        simp [e2]) (by show _ < W; omega) (by omega)
  refine ⟨S1 ++ [O.lst ((cur c0 ds).1.map fun M => dQ (M.worth ((cur c0 ds).2 ++ w)))], x1.snoc _, ?_⟩
  simp only [ev_st, ev_all, ev_cst, ev_var, Out.bind, Out.st, SOut.seq, noExc, bindK, ps_all, List.map_cons, List.map_nil, List.length_cons, List.length_nil, List.nil_append, List.cons_append, List.append_nil, List.replicate, List.getElem?_cons_zero, List.getElem?_cons_succ, List.set_cons_zero, List.set_cons_succ, onBl_bl, onBlS_bl, if_true, if_false, Bool.not_true, Bool.not_false, Bool.false_eq_true, e1, bltX_not (show Blt.tuple ≠ Blt.len by decide), tuple_new]
end
end H91

set_option Elab.async false
set_option linter.all false
set_option maxRecDepth 100000
set_option maxHeartbeats 4000000
/-! Q91zb: _law_step_right, a feeding: would, the model; the last rows. -/
namespace H91
open Pl PySem PyProof.Rows L2
section
variable {W : Nat} {s p b m a e t c : Nat} {c0 : Cur} {ds : List Deed} {g n : Nat} {S : Store}
theorem shown_due (hk : DsOk g n c0 ds) {w : List Nat} (hw : ∀ x ∈ w, x < g) (hwl : w.length ≤ 3) : Shown 3 4847 (.tup ((cur c0 ds).1.map fun M => dQ (M.worth ((cur c0 ds).2 ++ w)))) := by
  have hc := hk.cur
  have hcl := hc.len
  have hcfl := hc.fl
  have hn4 := hk.n4
  exact (Showns.listle (cur c0 ds).1 (fun M hM => by
      obtain ⟨r1, r2, r3⟩ := hc.along hM
      exact shown_big (r1.worth (w := (cur c0 ds).2 ++ w) (fun x hx => by
        rcases List.mem_append.mp hx with z | z
        · exact r3 x z
        · rw [r2]; exact hw x z)) (by rw [List.length_append]; omega)) (by omega : (cur c0 ds).1.length ≤ 4)).mono (by decide)
/-- would, twice, and the model behind it -/
theorem test_q (k : Nat) (h : SM S s p b m a e c0 ds) (hk : DsOk g n c0 ds) {w : List Nat} (hw : ∀ x ∈ w, x < g) (hwl : w.length ≤ 3) (hW : BIG ≤ W) {due : D} (hdue : due = .tup ((cur c0 ds).1.map fun M => dQ (M.worth ((cur c0 ds).2 ++ w)))) {d0 d3 d4 d5 d6 d7 d8 d9 d10 d13 : Option D} :
    ∃ S', Ext S S' ∧ evE (cxk W (k + 9)) (.or (.not (.call 59 (.cons (.lst (.cons (.mth (.var 1) "would" (.cons (.var 11) .nil) [] .nil) (.cons (.mth (.var 1) "would" .nil ["word"] (.cons (.var 11) .nil)) .nil))) (.cons (.lst (.cons (.var 12) (.cons (.var 12) .nil))) .nil)) [] .nil)) (.not (.call 72 (.cons (.var 1) (.cons (.var 2) .nil)) [] .nil))) [d0, some (.ref s), some (.ref m), d3, d4, d5, d6, d7, d8, d9, d10, some (dW w), some due, d13] S = .ok (.bl false) S' := by
  have hsz := sizeLine_eq
  have hsh := shown_due hk hw hwl
  obtain ⟨S1, x1, e1⟩ := would_q (W := W) (k + 3) h.str hk hw hwl hW
  have h1 := h.ext x1
  obtain ⟨S2, x2, e2⟩ := would_q (W := W) (k + 3) h1.str hk hw hwl hW
  have h2 := h1.ext x2
  rw [← hdue] at hsh e1 e2
  have hshs : Showns 8 200000 [due, due] := (Showns.cons (hsh.up (by decide)) (Showns.cons (hsh.up (by decide)) Showns.nil)).mono (by decide)
  have e3 := same_lst (W := W) (k + 8) hshs (by decide) (by decide) (S := S2 ++ [O.lst [due, due]] ++ [O.lst [due, due]]) (i := S2.length) (j := (S2 ++ [O.lst [due, due]]).length) (by simp) (by simp)
  have x3 : Ext S2 (S2 ++ [O.lst [due, due]] ++ [O.lst [due, due]]) := ((Ext.refl S2).snoc _).snoc _
  have h3 := h2.ext x3
  have e1' : run TBL W (k + 9) 52 [.ref s, dW w] S = .ok due S1 := e1
  have e2' : run TBL W (k + 9) 52 [.ref s, dW w] S1 = .ok due S2 := e2
  obtain ⟨S4, x4, e4⟩ := is_model_q (W := W) (k + 2) h3 hk hW
  refine ⟨S4, x1.trans (x2.trans (x3.trans x4)), ?_⟩
  simp only [ev_st, ev_all, ev_cst, ev_var, Out.bind, Out.st, SOut.seq, noExc, bindK, ps_all, List.map_cons, List.map_nil, List.length_cons, List.length_nil, List.nil_append, List.cons_append, List.append_nil, List.replicate, List.getElem?_cons_zero, List.getElem?_cons_succ, List.set_cons_zero, List.set_cons_succ, onBl_bl, onBlS_bl, if_true, if_false, Bool.not_true, Bool.not_false, Bool.false_eq_true, Bool.true_or, Bool.or_true, Bool.false_or, Bool.or_false, inst_all, meth_all, flds_all, as_fld, List.lookup_cons, List.lookup_nil, keys_bne, keys_ne, beq_self_eq_true, putD, isNon, decide_true, decide_false, Bool.and_true, Bool.true_and, Nat.zero_add, Nat.add_zero, would_bne, ins_of h.str.ins, ins_of h1.str.ins, e1', e2', hsz, Nat.reduceAdd, Nat.reduceSub, Nat.reduceLeDiff, List.drop_succ_cons, List.drop_zero]
  rw [show run TBL W (k + 9) 59 [.ref S2.length, .ref (S2 ++ [O.lst [due, due]]).length] (S2 ++ [O.lst [due, due]] ++ [O.lst [due, due]]) = _ from e3]
  simp only [ev_st, ev_all, ev_cst, ev_var, Out.bind, Out.st, SOut.seq, noExc, bindK, ps_all, List.map_cons, List.map_nil, List.length_cons, List.length_nil, List.nil_append, List.cons_append, List.append_nil, List.replicate, List.getElem?_cons_zero, List.getElem?_cons_succ, List.set_cons_zero, List.set_cons_succ, onBl_bl, onBlS_bl, if_true, if_false, Bool.not_true, Bool.not_false, Bool.false_eq_true, Bool.true_or, Bool.or_true, Bool.false_or, Bool.or_false, inst_all, meth_all, flds_all, as_fld, List.lookup_cons, List.lookup_nil, keys_bne, keys_ne, beq_self_eq_true, putD, isNon, decide_true, decide_false, Bool.and_true, Bool.true_and, Nat.zero_add, Nat.add_zero]
  rw [show run TBL W (k + 9) 72 [.ref s, .ref m] (S2 ++ [O.lst [due, due]] ++ [O.lst [due, due]]) = _ from e4]
  simp only [ev_st, ev_all, ev_cst, ev_var, Out.bind, Out.st, SOut.seq, noExc, bindK, ps_all, List.map_cons, List.map_nil, List.length_cons, List.length_nil, List.nil_append, List.cons_append, List.append_nil, List.replicate, List.getElem?_cons_zero, List.getElem?_cons_succ, List.set_cons_zero, List.set_cons_succ, onBl_bl, onBlS_bl, if_true, if_false, Bool.not_true, Bool.not_false, Bool.false_eq_true, Bool.true_or, Bool.or_true, Bool.false_or, Bool.or_false, inst_all, meth_all, flds_all, as_fld, List.lookup_cons, List.lookup_nil, keys_bne, keys_ne, beq_self_eq_true, putD, isNon, decide_true, decide_false, Bool.and_true, Bool.true_and, Nat.zero_add, Nat.add_zero]
/-- the last rows of a feeding's turn -/
theorem feed_end (k : Nat) (h : SM S s p b m a e c0 ds) (hk : DsOk g n c0 ds) (hp : PotS S t c) (ht : t ∉ [s, p, b, m, a, e]) (hl : ds.length < 40) (hW : BIG ≤ W) {w : List Nat} (hw : ∀ x ∈ w, x < g) (hwl : w.length ≤ 3) {due : D} (hdue : due = .tup ((cur c0 ds).1.map fun M => dQ (M.worth ((cur c0 ds).2 ++ w))))
    {d : Deed} (hd : DeedOk g n d) (hcs : cur c0 (ds ++ [d]) = ((cur c0 ds).1, (cur c0 ds).2 ++ w)) {TOLD TUP : E} {d0 d1 d3 d6 d7 d8 d9 d13 : Option D} {S5 : Store}
    (hT : evE (cxk W (k + 9)) TOLD [d0, d1, some (.ref m), d3, some (dW (cur c0 ds).2), some (.ref e), d6, d7, d8, d9, none, some (dW w), some due, d13] S = .ok due S5)
    (hU : ∀ T, evE (cxk W (k + 9)) TUP [d0, d1, some (.ref m), d3, some (dW (cur c0 ds).2), some (.ref e), d6, d7, d8, d9, some due, some (dW w), some due, d13] T = .ok (dDeed d) T)
    (hs5 : Strm S5 s p b c0 (ds ++ [d]) []) (f5 : FrL [s, p] S S5) :
    ∃ S', evCs (cxk W (k + 9)) (.cons (.asg (.name 10) TOLD) (.cons (.expr (.bm .append (.var 5) (.cons TUP .nil))) (.cons (.asg (.idx (.var 2) (.cst (.int (1)))) (.bin .add (.var 4) (.var 11))) (.cons (.ret (.call 59 (.cons (.var 10) (.cons (.var 12) .nil)) [] .nil)) .nil)))) [d0, d1, some (.ref m), d3, some (dW (cur c0 ds).2), some (.ref e), d6, d7, d8, d9, none, some (dW w), some due, d13] S = .rt (.bl true) S' ∧ SM S' s p b m a e c0 (ds ++ [d]) ∧ PotS S' t c := by
  have hsz := sizeLine_eq
  have hsh := shown_due hk hw hwl
  rw [← hdue] at hsh
  have hcfl := hk.cur.fl
  obtain ⟨n6, nm, na, ne⟩ := nd_sp h.nd
  obtain ⟨tsp, tm, te⟩ := nt_sp ht
  have hnd := h.nd
  have hme : m ≠ e := by
    simp only [List.nodup_cons, List.mem_cons, not_or, List.not_mem_nil, not_false_eq_true, and_true, List.nodup_nil] at hnd
    exact hnd.2.2.2.1.2
  have m5 : Mod S5 m a e (cur c0 ds) ds := h.mod.frame f5 nm na ne
  have p5 := hp.frame f5 tsp
  have hfin := SM.feed hs5 m5 h.nd (by rw [hcs])
  rw [hcs] at hfin
  have eap := append_q m5.dd (by rw [List.length_map]; omega) (dDeed d)
  have hi5 : isLst S5 (.ref e) = true := isLst_of m5.dd
  have hmt := set_ne m5.top (Ne.symm hme) (.lst (ds.map dDeed ++ [dDeed d]))
  have p6 := p5.frame (frl_set (P := [e]) (t := e) (by simp) (.lst (ds.map dDeed ++ [dDeed d]))) te
  generalize S5.set e (.lst (ds.map dDeed ++ [dDeed d])) = S6 at hfin eap hmt p6
  have hset : setE (.ref m) (.int 1) (dW ((cur c0 ds).2 ++ w)) S6 = .ok () (S6.set m (.lst [.ref a, dW ((cur c0 ds).2 ++ w), .ref e])) := set_at hmt (j := 1) (by simp) _
  have p7 := p6.frame (frl_set (P := [m]) (t := m) (by simp) (.lst [.ref a, dW ((cur c0 ds).2 ++ w), .ref e])) tm
  generalize S6.set m (.lst [.ref a, dW ((cur c0 ds).2 ++ w), .ref e]) = S7 at hfin hset p7
  have hadd := add_w (v := (cur c0 ds).2) (w := w) (by omega) S6
  have e9 := same_tup (W := W) (S := S7) (k + 8) hsh ⟨_, hdue⟩ (by decide) (by decide)
  refine ⟨S7, ?_, hfin, p7⟩
  simp only [ev_st, ev_all, ev_cst, ev_var, Out.bind, Out.st, SOut.seq, noExc, bindK, ps_all, List.map_cons, List.map_nil, List.length_cons, List.length_nil, List.nil_append, List.cons_append, List.append_nil, List.replicate, List.getElem?_cons_zero, List.getElem?_cons_succ, List.set_cons_zero, List.set_cons_succ, onBl_bl, onBlS_bl, if_true, if_false, Bool.not_true, Bool.not_false, Bool.false_eq_true, Bool.true_or, Bool.or_true, Bool.false_or, Bool.or_false, inst_all, meth_all, flds_all, as_fld, List.lookup_cons, List.lookup_nil, keys_bne, keys_ne, beq_self_eq_true, putD, isNon, decide_true, decide_false, Bool.and_true, Bool.true_and, Nat.zero_add, Nat.add_zero]
  rw [hT]
  simp only [ev_st, ev_all, ev_cst, ev_var, Out.bind, Out.st, SOut.seq, noExc, bindK, ps_all, List.map_cons, List.map_nil, List.length_cons, List.length_nil, List.nil_append, List.cons_append, List.append_nil, List.replicate, List.getElem?_cons_zero, List.getElem?_cons_succ, List.set_cons_zero, List.set_cons_succ, onBl_bl, onBlS_bl, if_true, if_false, Bool.not_true, Bool.not_false, Bool.false_eq_true, Bool.true_or, Bool.or_true, Bool.false_or, Bool.or_false, inst_all, meth_all, flds_all, as_fld, List.lookup_cons, List.lookup_nil, keys_bne, keys_ne, beq_self_eq_true, putD, isNon, decide_true, decide_false, Bool.and_true, Bool.true_and, Nat.zero_add, Nat.add_zero, hi5, hU, bmE]
  rw [eap]
  simp only [ev_st, ev_all, ev_cst, ev_var, Out.bind, Out.st, SOut.seq, noExc, bindK, ps_all, List.map_cons, List.map_nil, List.length_cons, List.length_nil, List.nil_append, List.cons_append, List.append_nil, List.replicate, List.getElem?_cons_zero, List.getElem?_cons_succ, List.set_cons_zero, List.set_cons_succ, onBl_bl, onBlS_bl, if_true, if_false, Bool.not_true, Bool.not_false, Bool.false_eq_true, Bool.true_or, Bool.or_true, Bool.false_or, Bool.or_false, inst_all, meth_all, flds_all, as_fld, List.lookup_cons, List.lookup_nil, keys_bne, keys_ne, beq_self_eq_true, putD, isNon, decide_true, decide_false, Bool.and_true, Bool.true_and, Nat.zero_add, Nat.add_zero, binE, hadd, setsD, hset]
  rw [e9]
end
end H91

set_option Elab.async false
set_option linter.all false
set_option maxRecDepth 100000
set_option maxHeartbeats 4000000
/-! Q91zc: _law_step_right, whole. -/
namespace H91
open Pl PySem PyProof.Rows L2
section
variable {W : Nat} {s p b m a e t c : Nat} {c0 : Cur} {ds : List Deed} {g n : Nat} {S : Store}
/-- the word of a feeding -/
theorem draw_word (k : Nat) (hp : PotS S t c) (hc : c + 1000 < 2 ^ 60) (hg1 : 1 ≤ g) (hg4 : g ≤ 4) (hW : BIG ≤ W) {way : Nat} {d1 d2 d3 d4 d5 d8 d9 d10 d11 d12 d13 : Option D} :
    ∃ w S', (∀ x ∈ w, x < g) ∧ w.length ≤ 3 ∧ (way = 0 → ∃ x, w = [x]) ∧ evE (cxk W (k + 9)) (.ite (.cmp .eq (.var 7) (.cst (.int (0)))) (.tup (.cons (.call 57 (.cons (.var 0) (.cons (.var 6) .nil)) [] .nil) .nil)) (.call 70 (.cons (.var 0) (.cons (.var 6) (.cons (.cst (.int (3))) .nil))) [] .nil)) [some (.ref t), d1, d2, d3, d4, d5, some (.int (g : Nat)), some (.int (way : Nat)), d8, d9, d10, d11, d12, d13] S = .ok (dW w) S' ∧ PotS S' t (c + 20) ∧ Fr t S S' := by
  have hsz := sizeLine_eq
  have e60 : (2 : Nat) ^ 60 = 1152921504606846976 := by decide
  by_cases h0 : way = 0
  · subst h0
    obtain ⟨x, S1, hx, e1, p1, f1⟩ := draw_q (W := W) (k + 8) (m := g) hp (by omega) (by omega) (by omega)
    have e1' : run TBL W (k + 9) 57 [.ref t, .int (g : Nat)] S = .ok (.int (x : Nat)) S1 := e1
    refine ⟨[x], S1, by intro y hy; simp at hy; omega, by simp, fun _ => ⟨x, rfl⟩, ?_, p1.mono (by omega), f1⟩
    have z0 : cmpE .eq (.int ((0 : Nat) : Int)) (.int 0) S = .ok (.bl true) S := rfl
    simp only [ev_st, ev_all, ev_cst, ev_var, Out.bind, Out.st, SOut.seq, noExc, bindK, ps_all, List.map_cons, List.map_nil, List.length_cons, List.length_nil, List.nil_append, List.cons_append, List.append_nil, List.replicate, List.getElem?_cons_zero, List.getElem?_cons_succ, List.set_cons_zero, List.set_cons_succ, onBl_bl, onBlS_bl, if_true, if_false, Bool.not_true, Bool.not_false, Bool.false_eq_true, Bool.true_or, Bool.or_true, Bool.false_or, Bool.or_false, inst_all, meth_all, flds_all, as_fld, List.lookup_cons, List.lookup_nil, keys_bne, keys_ne, beq_self_eq_true, putD, isNon, decide_true, decide_false, Bool.and_true, Bool.true_and, Nat.zero_add, Nat.add_zero, z0, e1', hsz, Nat.reduceAdd, Nat.reduceLeDiff]
    rfl
  · obtain ⟨w, S1, hw, hwl, e1, p1, f1⟩ := word_q (W := W) (k + 7) (g := g) (m := 3) hp (by omega) hg1 hg4 (by decide) hW
    have e1' : run TBL W (k + 9) 70 [.ref t, .int (g : Nat), .int 3] S = .ok (dW w) S1 := e1
    refine ⟨w, S1, hw, hwl, fun z => absurd z h0, ?_, p1, f1⟩
    have z0 : cmpE .eq (.int ((way : Nat) : Int)) (.int 0) S = .ok (.bl false) S := by
      have e : decide (((way : Nat) : Int) = 0) = false := decide_eq_false (by omega)
      simp only [cmpE, eqE, eqD, e]
      rfl
    simp only [ev_st, ev_all, ev_cst, ev_var, Out.bind, Out.st, SOut.seq, noExc, bindK, ps_all, List.map_cons, List.map_nil, List.length_cons, List.length_nil, List.nil_append, List.cons_append, List.append_nil, List.replicate, List.getElem?_cons_zero, List.getElem?_cons_succ, List.set_cons_zero, List.set_cons_succ, onBl_bl, onBlS_bl, if_true, if_false, Bool.not_true, Bool.not_false, Bool.false_eq_true, Bool.true_or, Bool.or_true, Bool.false_or, Bool.or_false, inst_all, meth_all, flds_all, as_fld, List.lookup_cons, List.lookup_nil, keys_bne, keys_ne, beq_self_eq_true, putD, isNon, decide_true, decide_false, Bool.and_true, Bool.true_and, Nat.zero_add, Nat.add_zero, z0, e1']
theorem fedb_q (k : Nat) (h : SM S s p b m a e c0 ds) (hk : DsOk g n c0 ds) (hp : PotS S t c) (hc : c + 1000 < 2 ^ 60) (ht : t ∉ [s, p, b, m, a, e]) (hl : ds.length < 40) (hW : BIG ≤ W) {way : Nat} {d8 : Option D} :
    ∃ d S', evCs (cxk W (k + 9)) r_law_step_right_2 [some (.ref t), some (.ref s), some (.ref m), some (.ref a), some (dW (cur c0 ds).2), some (.ref e), some (.int (g : Nat)), some (.int (way : Nat)), d8, none, none, none, none, none] S = .rt (.bl true) S' ∧ DeedOk g n d ∧ SM S' s p b m a e c0 (ds ++ [d]) ∧ PotS S' t (c + 500) := by
  have hsz := sizeLine_eq
  obtain ⟨w, S1, hw, hwl, hw0, e1, p1, f1⟩ := draw_word (W := W) (g := g) (way := way) k hp hc hk.g1 hk.g4 hW (d1 := some (.ref s)) (d2 := some (.ref m)) (d3 := some (.ref a)) (d4 := some (dW (cur c0 ds).2)) (d5 := some (.ref e)) (d8 := d8) (d9 := none) (d10 := none) (d11 := none) (d12 := none) (d13 := none)
  have h1 : SM S1 s p b m a e c0 ds := h.frame f1.frl (by intro i hi; simp at hi; subst hi; exact ht)
  obtain ⟨S2, x2, e2⟩ := due_q (W := W) (k + 3) h1 hk hw hwl hW (d0 := some (.ref t)) (d1 := some (.ref s)) (d2 := some (.ref m)) (d5 := some (.ref e)) (d6 := some (.int (g : Nat))) (d7 := some (.int (way : Nat))) (d8 := d8) (d10 := none) (d12 := none)
  have h2 := h1.ext x2
  have p2 := p1.ext x2
  obtain ⟨due, hdue⟩ : ∃ due, due = D.tup ((cur c0 ds).1.map fun M => dQ (M.worth ((cur c0 ds).2 ++ w))) := ⟨_, rfl⟩
  rw [← hdue] at e2
  obtain ⟨S3, x3, e3⟩ := test_q (W := W) k h2 hk hw hwl hW hdue (d0 := some (.ref t)) (d3 := some (.ref a)) (d4 := some (dW (cur c0 ds).2)) (d5 := some (.ref e)) (d6 := some (.int (g : Nat))) (d7 := some (.int (way : Nat))) (d8 := d8) (d9 := none) (d10 := none) (d13 := none)
  have h3 := h2.ext x3
  have p3 := p2.ext x3
  have hpb : p ≠ b := (nd_sp h.nd).1
  have start : ∀ S', evCs (cxk W (k + 9)) r_law_step_right_0 [some (.ref t), some (.ref s), some (.ref m), some (.ref a), some (dW (cur c0 ds).2), some (.ref e), some (.int (g : Nat)), some (.int (way : Nat)), d8, none, none, some (dW w), some due, none] S3 = .rt (.bl true) S' →
      evCs (cxk W (k + 9)) r_law_step_right_2 [some (.ref t), some (.ref s), some (.ref m), some (.ref a), some (dW (cur c0 ds).2), some (.ref e), some (.int (g : Nat)), some (.int (way : Nat)), d8, none, none, none, none, none] S = .rt (.bl true) S' := by
    intro S' hh
    simp only [r_law_step_right_2, ev_st]
    rw [e1]
    simp only [Out.st, SOut.seq, noExc, ev_st, List.set_cons_succ, List.set_cons_zero]
    rw [show evE (cxk W (k + 9)) (.blt .tuple (.cons c_law_step_right_0 .nil)) _ S1 = _ from e2]
    simp only [Out.st, SOut.seq, noExc, ev_st, List.set_cons_succ, List.set_cons_zero]
    rw [e3]
    simp only [Out.st, SOut.seq, noExc, ev_st, onBlS_bl, Bool.false_eq_true, if_false]
    exact hh
  by_cases h0 : way = 0
  · obtain ⟨x, rfl⟩ := hw0 h0
    subst h0
    have hx : x < g := hw x (by simp)
    obtain ⟨S5, e5, s5, f5⟩ := feed_q (W := W) (k + 2) h3.str hk hpb hx hl hW
    have hcs : cur c0 (ds ++ [.feed x]) = ((cur c0 ds).1, (cur c0 ds).2 ++ [x]) := by rw [cur_snoc]; rfl
    have hdw : dWorths (cur c0 (ds ++ [.feed x])) = due := by rw [hcs, hdue]; rfl
    rw [hdw] at e5
    have e5' : run TBL W (k + 9) 41 [.ref s, .int (x : Nat)] S3 = .ok due S5 := e5
    have hix : ∀ T, idxE (dW [x]) (.int 0) T = .ok (.int (x : Nat)) T := fun T => rfl
    have z0 : ∀ T, cmpE .eq (.int ((0 : Nat) : Int)) (.int 0) T = .ok (.bl true) T := fun T => rfl
    obtain ⟨S6, e6, h6, p6⟩ := feed_end (W := W) k h3 hk p3 ht hl hW hw hwl hdue (d := .feed x) hx hcs (TOLD := (.ite (.cmp .eq (.var 7) (.cst (.int (0)))) (.mth (.var 1) "feed" (.cons (.idx (.var 11) (.cst (.int (0)))) .nil) [] .nil) (.mth (.var 1) "feed_all" (.cons (.var 11) .nil) [] .nil))) (TUP := (.ite (.cmp .eq (.var 7) (.cst (.int (0)))) (.tup (.cons (.cst (.str "feed")) (.cons (.idx (.var 11) (.cst (.int (0)))) .nil))) (.tup (.cons (.cst (.str "feed_all")) (.cons (.var 11) .nil)))))
      (d0 := some (.ref t)) (d1 := some (.ref s)) (d3 := some (.ref a)) (d6 := some (.int (g : Nat))) (d7 := some (.int ((0 : Nat) : Int))) (d8 := d8) (d9 := none) (d13 := none) (by
        simp only [ev_st, ev_all, ev_cst, ev_var, Out.bind, Out.st, SOut.seq, noExc, bindK, ps_all, List.map_cons, List.map_nil, List.length_cons, List.length_nil, List.nil_append, List.cons_append, List.append_nil, List.replicate, List.getElem?_cons_zero, List.getElem?_cons_succ, List.set_cons_zero, List.set_cons_succ, onBl_bl, onBlS_bl, if_true, if_false, Bool.not_true, Bool.not_false, Bool.false_eq_true, Bool.true_or, Bool.or_true, Bool.false_or, Bool.or_false, inst_all, meth_all, flds_all, as_fld, List.lookup_cons, List.lookup_nil, keys_bne, keys_ne, beq_self_eq_true, putD, isNon, decide_true, decide_false, Bool.and_true, Bool.true_and, Nat.zero_add, Nat.add_zero, z0, hix, ins_of h3.str.ins, e5']) (fun T => by
        simp only [ev_st, ev_all, ev_cst, ev_var, Out.bind, Out.st, SOut.seq, noExc, bindK, ps_all, List.map_cons, List.map_nil, List.length_cons, List.length_nil, List.nil_append, List.cons_append, List.append_nil, List.replicate, List.getElem?_cons_zero, List.getElem?_cons_succ, List.set_cons_zero, List.set_cons_succ, onBl_bl, onBlS_bl, if_true, if_false, Bool.not_true, Bool.not_false, Bool.false_eq_true, Bool.true_or, Bool.or_true, Bool.false_or, Bool.or_false, inst_all, meth_all, flds_all, as_fld, List.lookup_cons, List.lookup_nil, keys_bne, keys_ne, beq_self_eq_true, putD, isNon, decide_true, decide_false, Bool.and_true, Bool.true_and, Nat.zero_add, Nat.add_zero, z0, hix, hsz, Nat.reduceAdd, Nat.reduceLeDiff]
        rfl) s5 f5
    exact ⟨.feed x, S6, start S6 e6, hx, h6, p6.mono (by omega)⟩
  · obtain ⟨S5, e5, s5, f5⟩ := feed_all_q (W := W) (k + 2) h3.str hk hpb hw hwl hl hW
    have hcs : cur c0 (ds ++ [.feedAll w]) = ((cur c0 ds).1, (cur c0 ds).2 ++ w) := by rw [cur_snoc]; rfl
    have hdw : dWorths (cur c0 (ds ++ [.feedAll w])) = due := by rw [hcs, hdue]; rfl
    rw [hdw] at e5
    have e5' : run TBL W (k + 9) 42 [.ref s, dW w] S3 = .ok due S5 := e5
    have z0 : ∀ T, cmpE .eq (.int ((way : Nat) : Int)) (.int 0) T = .ok (.bl false) T := fun T => by
      have e : decide (((way : Nat) : Int) = 0) = false := decide_eq_false (by omega)
      simp only [cmpE, eqE, eqD, e]
      rfl
    obtain ⟨S6, e6, h6, p6⟩ := feed_end (W := W) k h3 hk p3 ht hl hW hw hwl hdue (d := .feedAll w) ⟨hw, hwl⟩ hcs (TOLD := (.ite (.cmp .eq (.var 7) (.cst (.int (0)))) (.mth (.var 1) "feed" (.cons (.idx (.var 11) (.cst (.int (0)))) .nil) [] .nil) (.mth (.var 1) "feed_all" (.cons (.var 11) .nil) [] .nil))) (TUP := (.ite (.cmp .eq (.var 7) (.cst (.int (0)))) (.tup (.cons (.cst (.str "feed")) (.cons (.idx (.var 11) (.cst (.int (0)))) .nil))) (.tup (.cons (.cst (.str "feed_all")) (.cons (.var 11) .nil)))))
      (d0 := some (.ref t)) (d1 := some (.ref s)) (d3 := some (.ref a)) (d6 := some (.int (g : Nat))) (d7 := some (.int (way : Nat))) (d8 := d8) (d9 := none) (d13 := none) (by
        simp only [ev_st, ev_all, ev_cst, ev_var, Out.bind, Out.st, SOut.seq, noExc, bindK, ps_all, List.map_cons, List.map_nil, List.length_cons, List.length_nil, List.nil_append, List.cons_append, List.append_nil, List.replicate, List.getElem?_cons_zero, List.getElem?_cons_succ, List.set_cons_zero, List.set_cons_succ, onBl_bl, onBlS_bl, if_true, if_false, Bool.not_true, Bool.not_false, Bool.false_eq_true, Bool.true_or, Bool.or_true, Bool.false_or, Bool.or_false, inst_all, meth_all, flds_all, as_fld, List.lookup_cons, List.lookup_nil, keys_bne, keys_ne, beq_self_eq_true, putD, isNon, decide_true, decide_false, Bool.and_true, Bool.true_and, Nat.zero_add, Nat.add_zero, z0, ins_of h3.str.ins, e5']) (fun T => by
        simp only [ev_st, ev_all, ev_cst, ev_var, Out.bind, Out.st, SOut.seq, noExc, bindK, ps_all, List.map_cons, List.map_nil, List.length_cons, List.length_nil, List.nil_append, List.cons_append, List.append_nil, List.replicate, List.getElem?_cons_zero, List.getElem?_cons_succ, List.set_cons_zero, List.set_cons_succ, onBl_bl, onBlS_bl, if_true, if_false, Bool.not_true, Bool.not_false, Bool.false_eq_true, Bool.true_or, Bool.or_true, Bool.false_or, Bool.or_false, inst_all, meth_all, flds_all, as_fld, List.lookup_cons, List.lookup_nil, keys_bne, keys_ne, beq_self_eq_true, putD, isNon, decide_true, decide_false, Bool.and_true, Bool.true_and, Nat.zero_add, Nat.add_zero, z0, hsz, Nat.reduceAdd, Nat.reduceLeDiff]
        rfl) s5 f5
    exact ⟨.feedAll w, S6, start S6 e6, ⟨hw, hwl⟩, h6, p6.mono (by omega)⟩
theorem step_right_q (k : Nat) (h : SM S s p b m a e c0 ds) (hk : DsOk g n c0 ds) (hp : PotS S t c) (hc : c + 2000 < 2 ^ 60) (ht : t ∉ [s, p, b, m, a, e]) (hl : ds.length < 40) (hW : BIG ≤ W) :
    ∃ d a' S', run TBL W (k + 10) 74 [.ref t, .ref s, .ref m] S = .ok (.bl true) S' ∧ DeedOk g n d ∧ SM S' s p b m a' e c0 (ds ++ [d]) ∧ PotS S' t (c + 600) ∧ t ∉ [s, p, b, m, a', e] := by
  have hsz := sizeLine_eq
  have hc0 := hk.cur
  have hcl := hc0.len
  have hn1 := hk.n1
  obtain ⟨M0, m1, m2, m3, m4⟩ := first_q hc0 hn1 S
  have hidx : idxE (.ref a) (.int 0) S = .ok (dM M0) S := by
    unfold idxE
    have hl0 : 0 < (cur c0 ds).1.length := by omega
    simp only [seq_of h.mod.ms]
    have hm0 : (cur c0 ds).1[0] = M0 := by
      have := m1
      rw [List.getElem?_eq_getElem hl0] at this
      exact Option.some.inj this
    simp [atI, ixN, hl0, hm0]
  obtain ⟨way, S1, hway, e1, p1, f1⟩ := draw_q (W := W) (k + 8) (m := 3) hp (by omega) (by decide) (by decide)
  have h1 : SM S1 s p b m a e c0 ds := h.frame f1.frl (by intro i hi; simp at hi; subst hi; exact ht)
  have e1' : run TBL W (k + 9) 57 [.ref t, .int 3] S = .ok (.int (way : Nat)) S1 := e1
  have start : ∀ S', evCs (cxk W (k + 9)) (.cons (.ite (.cmp .eq (.var 7) (.cst (.int (2)))) t_law_step_right_1 .nil) r_law_step_right_2) [some (.ref t), some (.ref s), some (.ref m), some (.ref a), some (dW (cur c0 ds).2), some (.ref e), some (.int (g : Nat)), some (.int (way : Nat)), none, none, none, none, none, none] S1 = .rt (.bl true) S' →
      run TBL W (k + 10) 74 [.ref t, .ref s, .ref m] S = .ok (.bl true) S' := by
    intro S' hh
    rw [run_succ at_74 rfl]
    simp only [b__law_step_right, ev_st, ev_all, ev_cst, ev_var, Out.bind, Out.st, SOut.seq, noExc, bindK, ps_all, List.map_cons, List.map_nil, List.length_cons, List.length_nil, List.nil_append, List.cons_append, List.append_nil, List.replicate, List.getElem?_cons_zero, List.getElem?_cons_succ, List.set_cons_zero, List.set_cons_succ, onBl_bl, onBlS_bl, if_true, if_false, Bool.not_true, Bool.not_false, Bool.false_eq_true, Bool.true_or, Bool.or_true, Bool.false_or, Bool.or_false, inst_all, meth_all, flds_all, as_fld, List.lookup_cons, List.lookup_nil, keys_bne, keys_ne, beq_self_eq_true, putD, isNon, decide_true, decide_false, Bool.and_true, Bool.true_and, Nat.zero_add, Nat.add_zero, seq_of h.mod.top, hidx, m4, e1', setsD]
    have hh' := hh
    simp only [ev_st, ev_all, ev_cst, ev_var, Out.bind, Out.st, SOut.seq, noExc, bindK, ps_all, List.map_cons, List.map_nil, List.length_cons, List.length_nil, List.nil_append, List.cons_append, List.append_nil, List.replicate, List.getElem?_cons_zero, List.getElem?_cons_succ, List.set_cons_zero, List.set_cons_succ, onBl_bl, onBlS_bl, if_true, if_false, Bool.not_true, Bool.not_false, Bool.false_eq_true, Bool.true_or, Bool.or_true, Bool.false_or, Bool.or_false, inst_all, meth_all, flds_all, as_fld, List.lookup_cons, List.lookup_nil, keys_bne, keys_ne, beq_self_eq_true, putD, isNon, decide_true, decide_false, Bool.and_true, Bool.true_and, Nat.zero_add, Nat.add_zero] at hh'
    rw [hh']
  by_cases h2 : way = 2
  · subst h2
    obtain ⟨d, a', S2, e2, hd, h2, p2, t2⟩ := exch_q (W := W) k h1 hk p1 (by omega) ht hl hW (d12 := none) (d13 := none)
    refine ⟨d, a', S2, start S2 ?_, hd, h2, p2.mono (by omega), t2⟩
    have z0 : cmpE .eq (.int ((2 : Nat) : Int)) (.int 2) S1 = .ok (.bl true) S1 := rfl
    simp only [ev_st, ev_all, ev_cst, ev_var, Out.bind, Out.st, SOut.seq, noExc, bindK, ps_all, List.map_cons, List.map_nil, List.length_cons, List.length_nil, List.nil_append, List.cons_append, List.append_nil, List.replicate, List.getElem?_cons_zero, List.getElem?_cons_succ, List.set_cons_zero, List.set_cons_succ, onBl_bl, onBlS_bl, if_true, if_false, Bool.not_true, Bool.not_false, Bool.false_eq_true, z0]
    rw [e2]
  · obtain ⟨d, S2, e2, hd, h2', p2⟩ := fedb_q (W := W) k h1 hk p1 (by omega) ht hl hW (way := way) (d8 := none)
    refine ⟨d, a, S2, start S2 ?_, hd, h2', p2.mono (by omega), ht⟩
    have z0 : cmpE .eq (.int ((way : Nat) : Int)) (.int 2) S1 = .ok (.bl false) S1 := by
      have e : decide (((way : Nat) : Int) = 2) = false := decide_eq_false (by omega)
      simp only [cmpE, eqE, eqD, e]
      rfl
    simp only [ev_st, ev_all, ev_cst, ev_var, Out.bind, Out.st, SOut.seq, noExc, bindK, ps_all, List.map_cons, List.map_nil, List.length_cons, List.length_nil, List.nil_append, List.cons_append, List.append_nil, List.replicate, List.getElem?_cons_zero, List.getElem?_cons_succ, List.set_cons_zero, List.set_cons_succ, onBl_bl, onBlS_bl, if_true, if_false, Bool.not_true, Bool.not_false, Bool.false_eq_true, z0]
    rw [e2]
end
end H91

set_option Elab.async false
set_option linter.all false
set_option maxRecDepth 100000
set_option maxHeartbeats 4000000
/-! Q91zd: what is no tuple of machines. -/
namespace H91
open Pl PySem PyProof.Rows L2
section
variable {W : Nat} {S : Store}
theorem fault_len (k : Nat) (ds : List D) (h : ds.length ≠ 5) (S : Store) : run TBL W (k + 7) 25 [.tup ds] S = .ok (.tup []) S := by
  have e := is_tuple_n (W := W) (k + 5) 5 ds S
  have hd : ¬ ((ds.length : Int) = 5) := by omega
  simp only [hd, decide_false] at e
  rw [run_succ at_25 rfl]
  simp [b_machine_fault, ev_st, ev_all, ev_cst, ev_var, Out.bind, Out.st, SOut.seq, noExc, bindK, ps_all, e, onBl_bl, onBlS_bl]
theorem nt_int (i : Int) (S : Store) : isiE .tuple (.int i) S = .ok (.bl false) S := rfl
theorem is_machine_no (k : Nat) {d : D} (h : run TBL W (k + 7) 25 [d] S = .ok (.tup []) S) : run TBL W (k + 8) 26 [d] S = .ok (.bl false) S := by
  rw [run_succ at_26 rfl]
  simp [b_is_machine, ev_st, ev_all, ev_cst, ev_var, Out.bind, Out.st, SOut.seq, bindK, ps_all, h, isNon]
/-- no tuple -/
theorem machs_nt (k : Nat) {d : D} (h : isiE .tuple d S = .ok (.bl false) S) : run TBL W (k + 9) 29 [d, .non] S = .exc ⟨1, none⟩ S := by
  rw [run_succ at_29 rfl]
  simp only [b_check_machines, ev_st, ev_all, ev_cst, ev_var, Out.bind, Out.st, SOut.seq, noExc, bindK, ps_all, List.map_cons, List.map_nil, List.length_cons, List.length_nil, List.nil_append, List.cons_append, List.append_nil, List.replicate, List.getElem?_cons_zero, List.getElem?_cons_succ, List.set_cons_zero, List.set_cons_succ, onBl_bl, onBlS_bl, if_true, if_false, Bool.not_true, Bool.not_false, Bool.false_eq_true, h]
/-- none of them is a machine -/
theorem machs_none (k : Nat) (l : List D) (hne : l ≠ []) (hl : l.length ≤ 100) (h : ∀ d ∈ l, ∀ T, run TBL W (k + 7) 25 [d] T = .ok (.tup []) T) (hW : BIG ≤ W) : ∃ S', Ext S S' ∧ run TBL W (k + 9) 29 [.tup l, .non] S = .exc ⟨1, none⟩ S' := by
  have hB := BIG_gt
  have hsz := sizeLine_eq
  obtain ⟨S1, L1, x1, hL1, e1⟩ : ∃ S2 L, Ext S S2 ∧ L = _ ∧ evE (cxk W (k + 8)) c_check_machines_0 [some (.tup l), some .non, none, none, none] S = .ok (.ref S2.length) (S2 ++ [.lst L]) :=
    comp_ev (cx := cxk W (k + 8)) (S1 := S) (iv := .sq (.tup l)) (items := l) (g := fun _ => .bl false)
      (by simp [evI, ev_all, ev_var, seqD, Out.bind]) (fun i T _ _ => next_sq (by rfl) i) (fun y hy T _ => by
        have e2 := is_machine_no (W := W) k (h y hy T)
        refine ⟨[some (.tup l), some .non, none, none, some y], T, by simp [ev_st, wipeD], ?_, Ext.refl _⟩
        simp [ev_all, ev_var, ev_cst, Out.bind, bindK, ps_all, e2]) (by show _ < W; omega) (by omega)
  have ha : blsD L1 = some (l.map fun _ => false) := by rw [hL1]; exact blsD_map _ fun _ => false
  have hall : (l.map fun _ => false).all id = false := by
    cases l with
    | nil => exact absurd rfl hne
    | cons _ _ => rfl
  refine ⟨S1 ++ [O.lst L1], x1.snoc _, ?_⟩
  rw [run_succ at_29 rfl]
  simp only [b_check_machines, ev_st, ev_all, ev_cst, ev_var, Out.bind, Out.st, SOut.seq, noExc, bindK, ps_all, List.map_cons, List.map_nil, List.length_cons, List.length_nil, List.nil_append, List.cons_append, List.replicate, List.getElem?_cons_zero, List.getElem?_cons_succ, isiE, tyD, isTy, onBl_bl, onBlS_bl]
  simp only [ev_st, ev_all, ev_cst, ev_var, Out.bind, Out.st, SOut.seq, noExc, bindK, ps_all, List.map_cons, List.map_nil, List.length_cons, List.length_nil, List.nil_append, List.cons_append, List.append_nil, List.replicate, List.getElem?_cons_zero, List.getElem?_cons_succ, List.set_cons_zero, List.set_cons_succ, onBl_bl, onBlS_bl, if_true, if_false, Bool.not_true, Bool.not_false, Bool.false_eq_true, e1, bltX_not (show Blt.all ≠ Blt.len by decide), all_new ha, hall, decide_true]
/-- one of other signs among them -/
theorem machs_unlike (k : Nat) {g : Nat} {ms : List Mc} (h : Mcs g ms) (hne : ms ≠ []) (hl : ms.length ≤ 50) {M1 : Mc} (hM1 : M1.Ok) (hg1 : M1.signs ≠ g) (hW : BIG ≤ W) (S : Store) : ∃ S', Ext S S' ∧ run TBL W (k + 9) 29 [.tup ((ms ++ [M1]).map dM), .non] S = .exc ⟨1, none⟩ S' := by
  have hB := BIG_gt
  have hsz := sizeLine_eq
  have hok : ∀ M ∈ ms ++ [M1], M.Ok := fun M hM => by
    rcases List.mem_append.mp hM with z | z
    · exact (h M z).1
    · simp at z; subst z; exact hM1
  have hhead : (ms ++ [M1])[0]? = ms[0]? := by
    cases ms with
    | nil => exact absurd rfl hne
    | cons _ _ => rfl
  have hlen : (ms ++ [M1]).length ≤ 51 := by simp; omega
  have hmem : M1 ∈ ms ++ [M1] := by simp
  obtain ⟨M0, hM0, hg0⟩ : ∃ M0, (ms ++ [M1])[0]? = some M0 ∧ M0.signs = g := by
    rw [hhead]
    cases ms with
    | nil => exact absurd rfl hne
    | cons M0 _ => exact ⟨M0, rfl, (h M0 (by simp)).2⟩
  generalize ms ++ [M1] = ns at hok hlen hmem hM0
  obtain ⟨S1, x1, e1⟩ : ∃ S2, Ext S S2 ∧ evE (cxk W (k + 8)) c_check_machines_0 [some (.tup (ns.map dM)), some .non, none, none, none] S = .ok (.ref S2.length) (S2 ++ [O.lst (ns.map fun _ => D.bl true)]) :=
    comp_list (cx := cxk W (k + 8)) (S1 := S) (iv := .sq (.tup (ns.map dM))) ns dM (fun _ => D.bl true)
      (by simp [evI, ev_all, ev_var, seqD, Out.bind]) (fun i T _ _ => next_sq (by rfl) i) (fun M hM T _ => by
        obtain ⟨T2, x2, e2⟩ := is_machine_q (W := W) k (hok M hM) hW T
        refine ⟨[some (.tup (ns.map dM)), some .non, none, none, some (dM M)], T2, by simp [ev_st, wipeD], ?_, x2⟩
        simp [ev_all, ev_var, ev_cst, Out.bind, bindK, ps_all, e2]) (by show _ < W; omega) (by omega)
  have ha : blsD (ns.map fun _ => D.bl true) = some (ns.map fun _ => true) := blsD_map _ fun _ => true
  have hall : (ns.map fun _ => true).all id = true := by simp
  obtain ⟨S2, x2, e2⟩ : ∃ S3, Ext (S1 ++ [O.lst (ns.map fun _ => D.bl true)]) S3 ∧ evE (cxk W (k + 8)) c_check_machines_1 [some (.tup (ns.map dM)), some .non, none, none, none] (S1 ++ [O.lst (ns.map fun _ => D.bl true)]) = .ok (.ref S3.length) (S3 ++ [O.lst (ns.map fun M => D.int (M.signs : Nat))]) :=
    comp_list (cx := cxk W (k + 8)) (S1 := S1 ++ [O.lst (ns.map fun _ => D.bl true)]) (iv := .sq (.tup (ns.map dM))) ns dM (fun M => .int (M.signs : Nat))
      (by simp [evI, ev_all, ev_var, seqD, Out.bind]) (fun i T _ _ => next_sq (by rfl) i) (fun M hM T _ => by
        refine ⟨[some (.tup (ns.map dM)), some .non, none, none, some (dM M)], T, by simp [ev_st, wipeD], ?_, Ext.refl _⟩
        simp [ev_all, ev_var, ev_cst, Out.bind, (dM_at M T).1]) (by show _ < W; omega) (by omega)
  obtain ⟨L2, hL2'⟩ : ∃ L2, L2 = ns.map fun M => D.int (M.signs : Nat) := ⟨_, rfl⟩
  rw [← hL2'] at e2
  have hlen2 : L2.length = ns.length := by rw [hL2', List.length_map]
  have hx2' : Ext S2 (S2 ++ [O.lst L2]) := (Ext.refl S2).snoc _
  generalize hS3 : S2 ++ [O.lst L2] ++ [O.lst []] ++ [O.lst L2] = S3
  have g3 : seqD S3 (.ref (S2.length + 2)) = some L2 := by
    rw [← hS3]
    have := seqD_new (S := S2 ++ [O.lst L2] ++ [O.lst []]) (ds := L2)
    simpa using this
  obtain ⟨S4, x4, e4⟩ : ∃ S3', Ext S3 S3' ∧ evE (cxk W (k + 8)) c_check_machines_2 [some (.tup (ns.map dM)), some .non, some (.ref (S2.length + 2)), none, none] S3 = .ok (.ref S3'.length) (S3' ++ [O.lst (ns.map fun M => D.bl (!decide (M.signs = g)))]) :=
    comp_list (cx := cxk W (k + 8)) (S1 := S3) (iv := .sq (.ref (S2.length + 2))) ns (fun M => D.int (M.signs : Nat)) (fun M => D.bl (!decide (M.signs = g)))
      (by simp [evI, ev_all, ev_var, g3, Out.bind]) (fun i T x _ => next_sq (by rw [← hL2']; exact x.seqD g3) i) (fun M hM T x => by
        have hi : idxE (.ref (S2.length + 2)) (.int 0) T = .ok (.int (g : Nat)) T := idx_seq (j := 0) (x.seqD g3) (by simp) (by
          rw [hL2', List.getElem?_map, hM0]
          simp [hg0])
        refine ⟨[some (.tup (ns.map dM)), some .non, some (.ref (S2.length + 2)), none, some (.int (M.signs : Nat))], T, by simp [ev_st, wipeD], ?_, Ext.refl _⟩
        have hdd : decide (((M.signs : Nat) : Int) = (g : Nat)) = decide (M.signs = g) := by
          by_cases q : M.signs = g
          · simp [q]
          · have : ¬ ((M.signs : Nat) : Int) = (g : Nat) := by omega
            simp [q, this]
        simp [ev_all, ev_var, ev_cst, Out.bind, hi, cmpE, eqE, eqD, hdd]) (by show _ < W; omega) (by omega)
  have ha4 : blsD (ns.map fun M => D.bl (!decide (M.signs = g))) = some (ns.map fun M => !decide (M.signs = g)) := blsD_map ns fun M => !decide (M.signs = g)
  have hany : (ns.map fun M => !decide (M.signs = g)).any id = true := by
    rw [List.any_eq_true]
    exact ⟨_, List.mem_map.mpr ⟨M1, hmem, rfl⟩, by simp [hg1]⟩
  have hS3' : Ext (S2 ++ [O.lst L2]) S3 := ⟨[O.lst [], O.lst L2], by rw [← hS3]; simp⟩
  refine ⟨S4 ++ [O.lst (ns.map fun M => D.bl (!decide (M.signs = g)))], x1.trans ((Ext.refl S1).snoc _ |>.trans (x2.trans (((Ext.refl S2).snoc _).trans (hS3'.trans (x4.snoc _))))), ?_⟩
  have gA : (S2 ++ [O.lst L2] ++ [O.lst []])[S2.length]? = some (.lst L2) := by simp
  have gB : (S2 ++ [O.lst L2] ++ [O.lst []])[(S2 ++ [O.lst L2]).length]? = some (.lst []) := by simp
  have hadd : addE (.ref S2.length) (.ref (S2 ++ [O.lst L2]).length) (S2 ++ [O.lst L2] ++ [O.lst []]) = .ok (.ref (S2.length + 2)) S3 := by
    unfold addE
    simp only [gA, gB]
    rw [if_pos (by simp only [List.length_nil]; omega), ← hS3]
    simp
  rw [run_succ at_29 rfl]
  simp only [b_check_machines, ev_st, ev_all, ev_cst, ev_var, Out.bind, Out.st, SOut.seq, noExc, bindK, ps_all, List.map_cons, List.map_nil, List.length_cons, List.length_nil, List.nil_append, List.cons_append, List.replicate, List.getElem?_cons_zero, List.getElem?_cons_succ, isiE, tyD, isTy, onBl_bl, onBlS_bl]
  simp only [ev_st, ev_all, ev_cst, ev_var, Out.bind, Out.st, SOut.seq, noExc, bindK, ps_all, List.map_cons, List.map_nil, List.length_cons, List.length_nil, List.nil_append, List.cons_append, List.append_nil, List.replicate, List.getElem?_cons_zero, List.getElem?_cons_succ, List.set_cons_zero, List.set_cons_succ, onBl_bl, onBlS_bl, if_true, if_false, Bool.not_true, Bool.not_false, Bool.false_eq_true, e1, bltX_not (show Blt.all ≠ Blt.len by decide), all_new ha, hall, decide_true, e2, isNon, binE, Nat.zero_le, hsz, hadd, e4, bltX_not (show Blt.any ≠ Blt.len by decide), any_new ha4, hany]
/-! ### a stream of what is none -/
theorem init_no (k : Nat) {s : Nat} {d : D} {S S' : Store} (e : run TBL W (k + 9) 29 [d, .non] S = .exc ⟨1, none⟩ S') : run TBL W (k + 10) 31 [.ref s, d] S = .exc ⟨1, none⟩ S' := by
  rw [run_succ at_31 rfl]
  simp only [b_Stream___init__, ev_st, ev_all, ev_cst, ev_var, Out.bind, Out.st, SOut.seq, noExc, bindK, ps_all, List.map_cons, List.map_nil, List.length_cons, List.length_nil, List.nil_append, List.cons_append, List.append_nil, List.replicate, List.getElem?_cons_zero, List.getElem?_cons_succ, List.set_cons_zero, List.set_cons_succ, onBl_bl, onBlS_bl, if_true, if_false, Bool.not_true, Bool.not_false, Bool.false_eq_true, Bool.true_or, Bool.or_true, Bool.false_or, Bool.or_false, inst_all, meth_all, flds_all, as_fld, List.lookup_cons, List.lookup_nil, keys_bne, keys_ne, beq_self_eq_true, putD, isNon, decide_true, decide_false, Bool.and_true, Bool.true_and, Nat.zero_add, Nat.add_zero, e]
theorem init_empty (k : Nat) {s : Nat} (hW : BIG ≤ W) (S : Store) : ∃ S', Ext S S' ∧ run TBL W (k + 10) 31 [.ref s, .tup []] S = .exc ⟨1, none⟩ S' := by
  obtain ⟨S1, x1, e1⟩ := check_machines_q (W := W) k (g := 1) (ms := []) (fun _ h => by cases h) (by simp) hW S
  refine ⟨S1, x1, ?_⟩
  have e1' : run TBL W (k + 9) 29 [.tup [], .non] S = .ok .non S1 := e1
  have he : eqE false (.tup []) (.tup []) S1 = .ok (.bl true) S1 := eq_tell (fun _ => rfl) (by decide +kernel) S1
  rw [run_succ at_31 rfl]
  simp only [b_Stream___init__, ev_st, ev_all, ev_cst, ev_var, Out.bind, Out.st, SOut.seq, noExc, bindK, ps_all, List.map_cons, List.map_nil, List.length_cons, List.length_nil, List.nil_append, List.cons_append, List.append_nil, List.replicate, List.getElem?_cons_zero, List.getElem?_cons_succ, List.set_cons_zero, List.set_cons_succ, onBl_bl, onBlS_bl, if_true, if_false, Bool.not_true, Bool.not_false, Bool.false_eq_true, Bool.true_or, Bool.or_true, Bool.false_or, Bool.or_false, inst_all, meth_all, flds_all, as_fld, List.lookup_cons, List.lookup_nil, keys_bne, keys_ne, beq_self_eq_true, putD, isNon, decide_true, decide_false, Bool.and_true, Bool.true_and, Nat.zero_add, Nat.add_zero, e1', cmpE, sizeLine_eq, Nat.zero_le, he]
/-- told: no machines -/
theorem mk_no (k : Nat) {d : D} {S S' : Store} {d0 d1 d2 d3 d4 d5 d7 : Option D} (e : run TBL W (k + 10) 31 [.ref S.length, d] (S ++ [O.ins 8 []]) = .exc ⟨1, none⟩ S') :
    evE (cxk W (k + 13)) (.cmp .ne (.told (.mk 8 (.cons (.var 6) .nil) [] .nil) HS) (.tup (.cons (.cst (.str "InvalidMachines")) (.cons (.cst .non) .nil)))) [d0, d1, d2, d3, d4, d5, some d, d7] S = .ok (.bl false) S' := by
  have e' : (run2 TBL W (k + 11)).2.1 31 [.ref S.length, d] (S ++ [O.ins 8 []]) = .exc ⟨1, none⟩ S' := e
  have hm : evE (cxl W (k + 11)) (.mk 8 (.cons (.var 6) .nil) [] .nil) [d0, d1, d2, d3, d4, d5, some d, d7] S = .exc ⟨1, none⟩ S' := by
    rw [evE]
    simp only [ev_st, ev_all, ev_cst, ev_var, Out.bind, Out.st, SOut.seq, noExc, bindK, ps_all, List.map_cons, List.map_nil, List.length_cons, List.length_nil, List.nil_append, List.cons_append, List.append_nil, List.replicate, List.getElem?_cons_zero, List.getElem?_cons_succ, List.set_cons_zero, List.set_cons_succ, onBl_bl, onBlS_bl, if_true, if_false, Bool.not_true, Bool.not_false, Bool.false_eq_true, Bool.true_or, Bool.or_true, Bool.false_or, Bool.or_false, inst_all, meth_all, flds_all, as_fld, List.lookup_cons, List.lookup_nil, keys_bne, keys_ne, beq_self_eq_true, putD, isNon, decide_true, decide_false, Bool.and_true, Bool.true_and, Nat.zero_add, Nat.add_zero, Nat.reduceAdd, and_self]
    rw [e']
  rw [evE, told_ev, hm, tell_1]
  simp only [ev_st, ev_all, ev_cst, ev_var, Out.bind, Out.st, SOut.seq, noExc, bindK, ps_all, List.map_cons, List.map_nil, List.length_cons, List.length_nil, List.nil_append, List.cons_append, List.append_nil, List.replicate, List.getElem?_cons_zero, List.getElem?_cons_succ, List.set_cons_zero, List.set_cons_succ, onBl_bl, onBlS_bl, if_true, if_false, Bool.not_true, Bool.not_false, Bool.false_eq_true, Bool.true_or, Bool.or_true, Bool.false_or, Bool.or_false, inst_all, meth_all, flds_all, as_fld, List.lookup_cons, List.lookup_nil, keys_bne, keys_ne, beq_self_eq_true, putD, isNon, decide_true, decide_false, Bool.and_true, Bool.true_and, Nat.zero_add, Nat.add_zero, sizeLine_eq, Nat.reduceAdd, Nat.reduceLeDiff, cmpE, ne_machs]
end
end H91

set_option Elab.async false
set_option linter.all false
set_option maxRecDepth 100000
set_option maxHeartbeats 4000000
/-! Q91ze: _law_right: what is no stream. -/
namespace H91
open Pl PySem PyProof.Rows L2
section
variable {W : Nat} {t c : Nat} {g n : Nat} {S : Store}
abbrev ODD : E := (.call 58 (.cons (.var 0) (.cons (.lst (.cons (.cst .non) (.cons (.tup .nil) (.cons (.blt .list (.cons (.var 3) .nil)) (.cons (.tup (.cons (.cst .non) .nil)) (.cons (.bin .add (.blt .tuple (.cons (.var 3) .nil)) (.tup (.cons (.call 69 (.cons (.var 0) (.cons (.bin .add (.var 1) (.cst (.int (1)))) (.cons (.cst (.int (1))) .nil))) [] .nil) .nil))) (.cons (.idx (.var 3) (.cst (.int (0)))) .nil))))))) .nil)) [] .nil)
theorem odd_q (k : Nat) (hp : PotS S t c) (hc : c + 1000 < 2 ^ 60) (hg1 : 1 ≤ g) (hg3 : g ≤ 3) {ms : List Mc} (hms : Mcs g ms) (hne : ms ≠ []) (hml : ms.length ≤ 4) {j : Nat} (hj : S[j]? = some (.lst (ms.map dM))) (hjt : j ≠ t) (hW : BIG ≤ W) {d2 d4 d5 d7 : Option D} :
    ∃ d S', evE (cxk W (k + 13)) ODD [some (.ref t), some (.int (g : Nat)), d2, some (.ref j), d4, d5, none, d7] S = .ok d S' ∧ PotS S' t (c + 400) ∧ Fr t S S' ∧
      ∃ S2, Ext S' S2 ∧ evE (cxk W (k + 13)) (.cmp .ne (.told (.mk 8 (.cons (.var 6) .nil) [] .nil) HS) (.tup (.cons (.cst (.str "InvalidMachines")) (.cons (.cst .non) .nil)))) [some (.ref t), some (.int (g : Nat)), d2, some (.ref j), d4, d5, some d, d7] S' = .ok (.bl false) S2 := by
  have hsz := sizeLine_eq
  have htl : t < S.length := hp.lt
  have hsj := seq_of hj
  have x1 : Ext S (S ++ [O.lst (ms.map dM)]) := (Ext.refl S).snoc _
  have e1 : bltE .list [.ref j] S = .ok (.ref S.length) (S ++ [O.lst (ms.map dM)]) := by
    simp only [bltE, listE, hsj]
  have l1 : (S ++ [O.lst (ms.map dM)])[S.length]? = some (.lst (ms.map dM)) := by simp
  have hj1 := x1.get hj
  have p1 := hp.ext x1
  have f1 : Fr t S (S ++ [O.lst (ms.map dM)]) := x1.fr t
  generalize S ++ [O.lst (ms.map dM)] = S1 at x1 e1 l1 hj1 p1 f1
  have hsj1 := seq_of hj1
  have t1 : bltE .tuple [.ref j] S1 = .ok (.tup (ms.map dM)) S1 := by
    simp only [bltE, tupleE, hsj1]
  obtain ⟨M1, S2, hM1, hM1g, hM1n, e2, p2, f2⟩ := machine_q (W := W) (k + 9) (g := g + 1) (n := 1) p1 (by omega) (by omega) (by omega) (by omega) hW
  have e2' : run TBL W (k + 13) 69 [.ref t, .int ((g + 1 : Nat) : Int), .int 1] S1 = .ok (dM M1) S2 := e2
  have ha2 : addE (.int (g : Nat)) (.int 1) S1 = .ok (.int ((g + 1 : Nat) : Int)) S1 := by
    show Out.ok (D.int ((g : Int) + 1)) S1 = _
    rw [show ((g : Int) + 1) = ((g + 1 : Nat) : Int) by omega]
  have ha3 : addE (.tup (ms.map dM)) (.tup [dM M1]) S2 = .ok (.tup ((ms ++ [M1]).map dM)) S2 := by
    unfold addE
    simp only
    rw [if_pos (by rw [hsz]; simp; omega), List.map_append]
    rfl
  have hj2 := f2.get j _ hjt hj1
  have l2 := f2.get S.length _ (by omega) l1
  obtain ⟨M0, hM0⟩ : ∃ M0, ms[0]? = some M0 := by
    cases ms with
    | nil => exact absurd rfl hne
    | cons M0 _ => exact ⟨M0, rfl⟩
  have hM0m : M0 ∈ ms := List.mem_of_getElem? hM0
  have i0 : idxE (.ref j) (.int 0) S2 = .ok (dM M0) S2 := idx_seq (j := 0) (seq_of hj2) (by simp) (by rw [List.getElem?_map, hM0]; rfl)
  generalize hits : [D.non, .tup [], .ref S.length, .tup [.non], .tup ((ms ++ [M1]).map dM), dM M0] = its
  have x3 : Ext S2 (S2 ++ [O.lst its]) := (Ext.refl S2).snoc _
  have tl2 := p2.lt
  obtain ⟨d, S4, hd, e4, p4, f4⟩ := pick_q (W := W) (k + 11) (p2.ext x3) (by omega) (j := S2.length) (xs := its) (by simp) (by omega) (by rw [← hits]; simp) (by rw [← hits]; simp)
  have l4 := f4.get _ _ (by omega) (x3.get l2)
  have hitl : its.length ≤ 16777216 := by rw [← hits]; simp
  refine ⟨d, S4, ?_, p4.mono (by omega), f1.trans (f2.trans ((x3.fr t).trans f4)), ?_⟩
  · simp only [ev_st, ev_all, ev_cst, ev_var, Out.bind, Out.st, SOut.seq, noExc, bindK, ps_all, List.map_cons, List.map_nil, List.length_cons, List.length_nil, List.nil_append, List.cons_append, List.append_nil, List.replicate, List.getElem?_cons_zero, List.getElem?_cons_succ, List.set_cons_zero, List.set_cons_succ, onBl_bl, onBlS_bl, if_true, if_false, Bool.not_true, Bool.not_false, Bool.false_eq_true, Bool.true_or, Bool.or_true, Bool.false_or, Bool.or_false, inst_all, meth_all, flds_all, as_fld, List.lookup_cons, List.lookup_nil, keys_bne, keys_ne, beq_self_eq_true, putD, isNon, decide_true, decide_false, Bool.and_true, Bool.true_and, Nat.zero_add, Nat.add_zero, hsz, Nat.zero_le, Nat.reduceAdd, Nat.reduceLeDiff, bltX_not (show Blt.list ≠ Blt.len by decide), e1, bltX_not (show Blt.tuple ≠ Blt.len by decide), t1, binE, ha2, e2', ha3, i0, hits, hitl]
    rw [e4]
  · have x5 : Ext S4 (S4 ++ [O.ins 8 []]) := (Ext.refl S4).snoc _
    suffices hh : ∃ S5, Ext (S4 ++ [O.ins 8 []]) S5 ∧ run TBL W (k + 10) 31 [.ref S4.length, d] (S4 ++ [O.ins 8 []]) = .exc ⟨1, none⟩ S5 by
      obtain ⟨S5, y5, e5⟩ := hh
      exact ⟨S5, x5.trans y5, mk_no k e5⟩
    have l5 := x5.get l4
    rw [← hits] at hd
    simp only [List.mem_cons, List.not_mem_nil, or_false] at hd
    rcases hd with r | r | r | r | r | r <;> subst r
    · exact ⟨_, Ext.refl _, init_no k (machs_nt k nt_non)⟩
    · obtain ⟨S5, y5, e5⟩ := init_empty (W := W) k (s := S4.length) hW (S4 ++ [O.ins 8 []])
      exact ⟨S5, y5, e5⟩
    · exact ⟨_, Ext.refl _, init_no k (machs_nt k (nt_lst l5))⟩
    · obtain ⟨S5, y5, e5⟩ := machs_none (W := W) (S := S4 ++ [O.ins 8 []]) k [.non] (by simp) (by simp) (fun d hd T => by
        simp at hd
        subst hd
        exact fault_nt k nt_non) hW
      exact ⟨S5, y5, init_no k e5⟩
    · obtain ⟨S5, y5, e5⟩ := machs_unlike (W := W) k hms hne (by omega) hM1 (by omega) hW (S4 ++ [O.ins 8 []])
      exact ⟨S5, y5, init_no k e5⟩
    · have hok := (hms M0 hM0m).1
      have hsg := (hms M0 hM0m).2
      obtain ⟨S5, y5, e5⟩ := machs_none (W := W) (S := S4 ++ [O.ins 8 []]) k [.int (M0.signs : Nat), .int (M0.size : Nat), dR M0.begin, dSteps M0.steps, dR M0.fin] (by simp) (by simp) (fun d hd T => by
        have h4 := hok.size4
        have q1 := hok.bl
        have q2 := hok.sl
        have q3 := hok.fl
        simp only [List.mem_cons, List.not_mem_nil, or_false] at hd
        rcases hd with r | r | r | r | r <;> subst r
        · exact fault_nt k (nt_int _ _)
        · exact fault_nt k (nt_int _ _)
        · exact fault_len k _ (by rw [List.length_map]; omega) T
        · exact fault_len k _ (by rw [List.length_map]; omega) T
        · exact fault_len k _ (by rw [List.length_map]; omega) T) hW
      exact ⟨S5, y5, init_no k e5⟩
end
end H91

set_option Elab.async false
set_option linter.all false
set_option maxRecDepth 100000
set_option maxHeartbeats 4000000
/-! Q91zf: _law_right. -/
namespace H91
open Pl PySem PyProof.Rows L2
section
variable {W : Nat} {s p b m a e t c : Nat} {c0 : Cur} {ds : List Deed} {g n : Nat} {S : Store}
theorem right_q (k : Nat) (hp : PotS S t c) (hc : c + 100000 < 2 ^ 60) (hW : BIG ≤ W) : ∃ S', run TBL W (k + 14) 75 [.ref t] S = .ok (.bl true) S' := by
  have hB := BIG_gt
  have hsz := sizeLine_eq
  have e60 : (2 : Nat) ^ 60 = 1152921504606846976 := by decide
  obtain ⟨g', S1, hg', e1, p1, f1⟩ := draw_q (W := W) (k + 12) (m := 3) hp (by omega) (by decide) (by decide)
  obtain ⟨n', S2, hn', e2, p2, f2⟩ := draw_q (W := W) (k + 12) (m := 3) p1 (by omega) (by decide) (by decide)
  have e1' : run TBL W (k + 13) 57 [.ref t, .int 3] S = .ok (.int (g' : Nat)) S1 := e1
  have e2' : run TBL W (k + 13) 57 [.ref t, .int 3] S1 = .ok (.int (n' : Nat)) S2 := e2
  have hadd : ∀ (j : Nat) (T : Store), addE (.int 1) (.int (j : Nat)) T = .ok (.int ((j + 1 : Nat) : Int)) T := fun j T => by
    show Out.ok (D.int (1 + (j : Int))) T = _
    rw [show (1 + (j : Int)) = ((j + 1 : Nat) : Int) by omega]
  obtain ⟨S3, L, ⟨ms, hL, hml, hms, hp3, hf3⟩, e3⟩ : ∃ S2' L, _ ∧ evE (cxk W (k + 13)) c_law_right_0 [some (.ref t), some (.int ((g' + 1 : Nat) : Int)), none, none, none, none, none, none] S1 = .ok (.ref S2'.length) (S2' ++ [.lst L]) :=
    comp_inv (cx := cxk W (k + 13)) (S1 := S2) (iv := .rg 0 (n' + 1)) (items := (List.range (n' + 1)).map fun (i : Nat) => D.int (0 + i))
      (fun i acc T => ∃ ms : List Mc, acc = ms.map dM ∧ ms.length = i ∧ Mcs (g' + 1) ms ∧ PotS T t (c + 2 + 301 * i) ∧ Fr t S1 T)
      (rng1_ev (by simp only [ev_st, ev_all, ev_cst, ev_var, Out.bind, Out.st, SOut.seq, noExc, bindK, ps_all, List.map_cons, List.map_nil, List.length_cons, List.length_nil, List.nil_append, List.cons_append, List.append_nil, List.replicate, List.getElem?_cons_zero, List.getElem?_cons_succ, List.set_cons_zero, List.set_cons_succ, onBl_bl, onBlS_bl, if_true, if_false, Bool.not_true, Bool.not_false, Bool.false_eq_true, Bool.true_or, Bool.or_true, Bool.false_or, Bool.or_false, inst_all, meth_all, flds_all, as_fld, List.lookup_cons, List.lookup_nil, keys_bne, keys_ne, beq_self_eq_true, putD, isNon, decide_true, decide_false, Bool.and_true, Bool.true_and, Nat.zero_add, Nat.add_zero, e2', binE, hadd]) (by omega)) ⟨[], rfl, rfl, (fun q hq => by cases hq), p2, f2⟩ (fun i acc T _ _ => next_rg) (fun i d acc T hd hI => by
        obtain ⟨ms, rfl, hr, he, hp, hf⟩ := hI
        have hi : i < n' + 1 := by
          have := (List.getElem?_eq_some_iff.mp hd).1
          simpa using this
        obtain ⟨z, T1, hz, q1, q2, q3⟩ := draw_q (W := W) (k + 12) (m := 4) hp (by omega) (by decide) (by decide)
        have q1' : run TBL W (k + 13) 57 [.ref t, .int 4] T = .ok (.int (z : Nat)) T1 := q1
        obtain ⟨M, T2, hM, hMg, hMn, r1, r2, r3⟩ := machine_q (W := W) (k + 9) (g := g' + 1) (n := z) q2 (by omega) (by omega) (by omega) (by omega) hW
        refine ⟨by simp only [List.length_map]; omega, [some (.ref t), some (.int ((g' + 1 : Nat) : Int)), some d, none, none, none, none, none], dM M, T2, by simp [ev_st, wipeD], ?_, ms ++ [M], by simp, by simp [hr], ?_, r2.mono (by omega), hf.trans (q3.trans r3)⟩
        · simp only [ev_st, ev_all, ev_cst, ev_var, Out.bind, Out.st, SOut.seq, noExc, bindK, ps_all, List.map_cons, List.map_nil, List.length_cons, List.length_nil, List.nil_append, List.cons_append, List.append_nil, List.replicate, List.getElem?_cons_zero, List.getElem?_cons_succ, List.set_cons_zero, List.set_cons_succ, onBl_bl, onBlS_bl, if_true, if_false, Bool.not_true, Bool.not_false, Bool.false_eq_true, Bool.true_or, Bool.or_true, Bool.false_or, Bool.or_false, inst_all, meth_all, flds_all, as_fld, List.lookup_cons, List.lookup_nil, keys_bne, keys_ne, beq_self_eq_true, putD, isNon, decide_true, decide_false, Bool.and_true, Bool.true_and, Nat.zero_add, Nat.add_zero, q1', r1]
        · intro x hx
          rcases List.mem_append.mp hx with y | y
          · exact he x y
          · simp at y; subst y; exact ⟨hM, hMg⟩) (by simp only [List.length_map, List.length_range]; show _ < W; omega)
  simp only [List.length_map, List.length_range] at hml hp3
  subst hL
  have hj3 : (S3 ++ [O.lst (ms.map dM)])[S3.length]? = some (.lst (ms.map dM)) := by simp
  have hp4 := hp3.ext ((Ext.refl S3).snoc (.lst (ms.map dM)))
  have htS3 := hp3.lt
  obtain ⟨j, hjd⟩ : ∃ j, j = S3.length := ⟨_, rfl⟩
  rw [← hjd] at e3 hj3
  have hjt : j ≠ t := by omega
  generalize S3 ++ [O.lst (ms.map dM)] = S4 at e3 hj3 hp4
  have hne : ms ≠ [] := by intro q; rw [q] at hml; simp at hml
  obtain ⟨d, S5, e5, p5, f5, S6, x6, e6⟩ := odd_q (W := W) k hp4 (by omega) (by omega) (by omega) hms hne (by omega) hj3 hjt hW (d2 := none) (d4 := none) (d5 := none) (d7 := none)
  have hj6 := x6.get (f5.get j _ hjt hj3)
  have p6 := p5.ext x6
  have htup : bltE .tuple [.ref j] S6 = .ok (dMs ms) S6 := by
    simp only [bltE, tupleE, seq_of hj6]
    rfl
  have tl6 := p6.lt
  have jl6 := idx_lt hj6
  obtain ⟨S7, p7, b7, e7, h7, f7, q1, q2⟩ := init_q (W := W) (k + 2) hms (by omega) hne (S := S6 ++ [O.ins 8 []]) (s := S6.length) (by simp) hW
  have xs6 : Ext S6 (S6 ++ [O.ins 8 []]) := (Ext.refl S6).snoc _
  have hp7 := (p6.ext xs6).frame f7 (by simp; omega)
  have hj7 := f7.get j _ (by simp; omega) (xs6.get hj6)
  have ls7 := idx_lt h7.ins
  have lp7 := idx_lt h7.past
  have lb7 := idx_lt h7.blk
  have emk : evE (cxk W (k + 13)) (.mk 8 (.cons (.blt .tuple (.cons (.var 3) .nil)) .nil) [] .nil) [some (.ref t), some (.int ((g' + 1 : Nat) : Int)), none, some (.ref j), none, none, some d, none] S6 = .ok (.ref S6.length) S7 := by
    rw [evE]
    simp only [ev_st, ev_all, ev_cst, ev_var, Out.bind, Out.st, SOut.seq, noExc, bindK, ps_all, List.map_cons, List.map_nil, List.length_cons, List.length_nil, List.nil_append, List.cons_append, List.append_nil, List.replicate, List.getElem?_cons_zero, List.getElem?_cons_succ, List.set_cons_zero, List.set_cons_succ, onBl_bl, onBlS_bl, if_true, if_false, Bool.not_true, Bool.not_false, Bool.false_eq_true, Bool.true_or, Bool.or_true, Bool.false_or, Bool.or_false, inst_all, meth_all, flds_all, as_fld, List.lookup_cons, List.lookup_nil, keys_bne, keys_ne, beq_self_eq_true, putD, isNon, decide_true, decide_false, Bool.and_true, Bool.true_and, Nat.zero_add, Nat.add_zero, bltX_not (show Blt.tuple ≠ Blt.len by decide), htup, Nat.reduceAdd, Nat.reduceSub, List.drop_succ_cons, List.drop_zero, true_and, and_self]
    rw [show ((run2 TBL W (k + 13)).2.1 31 [.ref S6.length, dMs ms] (S6 ++ [O.ins 8 []])) = _ from e7]
    simp only [ev_st, ev_all, ev_cst, ev_var, Out.bind, Out.st, SOut.seq, noExc, bindK, ps_all, List.map_cons, List.map_nil, List.length_cons, List.length_nil, List.nil_append, List.cons_append, List.append_nil, List.replicate, List.getElem?_cons_zero, List.getElem?_cons_succ, List.set_cons_zero, List.set_cons_succ, onBl_bl, onBlS_bl, if_true, if_false, Bool.not_true, Bool.not_false, Bool.false_eq_true]
  have x8 : Ext S7 (S7 ++ [O.lst []] ++ [O.lst [.ref j, dW [], .ref S7.length]]) := ((Ext.refl S7).snoc _).snoc _
  have e8 : (S7 ++ [O.lst []] ++ [O.lst [.ref j, dW [], .ref S7.length]])[S7.length]? = some (.lst []) := by simp
  have m8 : (S7 ++ [O.lst []] ++ [O.lst [.ref j, dW [], .ref S7.length]])[S7.length + 1]? = some (.lst [.ref j, dW [], .ref S7.length]) := by simp
  have hown : evEs (cxk W (k + 13)) (.cons (.lst (.cons (.var 3) (.cons (.tup .nil) (.cons (.lst .nil) .nil)))) .nil) [some (.ref t), some (.int ((g' + 1 : Nat) : Int)), none, some (.ref j), none, none, some d, none] S7 = .ok [.ref (S7.length + 1)] (S7 ++ [O.lst []] ++ [O.lst [.ref j, dW [], .ref S7.length]]) := by
    simp only [ev_st, ev_all, ev_cst, ev_var, Out.bind, Out.st, SOut.seq, noExc, bindK, ps_all, List.map_cons, List.map_nil, List.length_cons, List.length_nil, List.nil_append, List.cons_append, List.append_nil, List.replicate, List.getElem?_cons_zero, List.getElem?_cons_succ, List.set_cons_zero, List.set_cons_succ, onBl_bl, onBlS_bl, if_true, if_false, Bool.not_true, Bool.not_false, Bool.false_eq_true, hsz, Nat.zero_le, Nat.reduceAdd, Nat.reduceLeDiff]
    simp [dW]
  generalize S7 ++ [O.lst []] ++ [O.lst [.ref j, dW [], .ref S7.length]] = S8 at x8 e8 m8 hown
  have h8 : SM S8 S6.length p7 b7 (S7.length + 1) j S7.length (ms, []) [] := ⟨h7.ext x8, ⟨m8, x8.get hj7, e8⟩, by
    simp at q1
    simp only [List.nodup_cons, List.mem_cons, not_or, List.not_mem_nil, not_false_eq_true, and_true, List.nodup_nil]
    omega⟩
  have hk0 : DsOk (g' + 1) (n' + 1) (ms, []) [] := ⟨by omega, by omega, by omega, by omega, ⟨hms, hml, (fun x hx => by cases hx), by simp⟩, (fun x hx => by cases hx), by simp⟩
  have t8 : t ∉ [S6.length, p7, b7, S7.length + 1, j, S7.length] := by
    simp at q1
    simp only [List.mem_cons, not_or, List.not_mem_nil, not_false_eq_true, and_true]
    omega
  have hp8 := hp7.ext x8
  obtain ⟨ρ', S9, e9, ds9, a9, u9, hρ, h9, hk9, hl9, p9, t9⟩ : ∃ ρ' S', evC (cxk W (k + 13)) c_law_right_1 [some (.ref t), some (.int ((g' + 1 : Nat) : Int)), none, some (.ref j), some (.ref S6.length), some (.ref (S7.length + 1)), some d, none] S8 = .nx ρ' S' ∧ _ :=
    for_ev (cx := cxk W (k + 13)) (iv := .rg 0 8) (S1 := S8) (items := (List.range 8).map fun (i : Nat) => D.int (0 + i))
      (fun i ρ S' => ∃ ds9 a9 u, ρ = [some (.ref t), some (.int ((g' + 1 : Nat) : Int)), u, some (.ref j), some (.ref S6.length), some (.ref (S7.length + 1)), some d, none] ∧ SM S' S6.length p7 b7 (S7.length + 1) a9 S7.length (ms, []) ds9 ∧ DsOk (g' + 1) (n' + 1) (ms, []) ds9 ∧ ds9.length ≤ i ∧ PotS S' t (c + 2 + 301 * (n' + 1) + 400 + 1600 * i) ∧ t ∉ [S6.length, p7, b7, S7.length + 1, a9, S7.length])
      (rng1_ev (n := 8) (by simp only [ev_st, ev_all, ev_cst, ev_var, Out.bind, Out.st, SOut.seq, noExc, bindK, ps_all, List.map_cons, List.map_nil, List.length_cons, List.length_nil, List.nil_append, List.cons_append, List.append_nil, List.replicate, List.getElem?_cons_zero, List.getElem?_cons_succ, List.set_cons_zero, List.set_cons_succ, onBl_bl, onBlS_bl, if_true, if_false, Bool.not_true, Bool.not_false, Bool.false_eq_true]; rfl) (by omega)) (by simp only [List.length_map, List.length_range]; show _ < W; omega) ⟨[], j, none, rfl, h8, hk0, by simp, hp8, t8⟩ (fun i ρ S' _ _ => next_rg) (fun i y ρ S' hy hI => by
        obtain ⟨ds9, a9, u, rfl, r1, r2, r3, r4, r5⟩ := hI
        have hi : i < 8 := by
          have := (List.getElem?_eq_some_iff.mp hy).1
          simpa using this
        obtain ⟨T1, x1, z1⟩ := is_model_q (W := W) (k + 6) r1 r2 hW
        obtain ⟨T2, z2, w2, v2⟩ := refused_q (W := W) (k + 1) (r1.ext x1) r2 (r4.ext x1) (by omega) r5 (by omega) hW
        obtain ⟨T3, x3, z3⟩ := is_model_q (W := W) (k + 6) w2 r2 hW
        obtain ⟨d', a', T4, z4, hd', w4, v4, t4⟩ := step_right_q (W := W) (k + 3) (w2.ext x3) r2 (v2.ext x3) (by omega) r5 (by omega) hW
        refine ⟨[some (.ref t), some (.int ((g' + 1 : Nat) : Int)), some y, some (.ref j), some (.ref S6.length), some (.ref (S7.length + 1)), some d, none], S', [some (.ref t), some (.int ((g' + 1 : Nat) : Int)), some y, some (.ref j), some (.ref S6.length), some (.ref (S7.length + 1)), some d, none], T4, by simp [ev_st], ?_, ds9 ++ [d'], a', some y, rfl, w4, r2.snoc hd' (by omega), by simp; omega, v4.mono (by omega), t4⟩
        have z1' : run TBL W (k + 13) 72 [.ref S6.length, .ref (S7.length + 1)] S' = .ok (.bl true) T1 := z1
        have z2' : run TBL W (k + 13) 73 [.ref t, .ref S6.length, .ref (S7.length + 1)] T1 = .ok (.bl true) T2 := z2
        have z3' : run TBL W (k + 13) 72 [.ref S6.length, .ref (S7.length + 1)] T2 = .ok (.bl true) T3 := z3
        have z4' : run TBL W (k + 13) 74 [.ref t, .ref S6.length, .ref (S7.length + 1)] T3 = .ok (.bl true) T4 := z4
        simp only [ev_st, ev_all, ev_cst, ev_var, Out.bind, Out.st, SOut.seq, noExc, bindK, ps_all, List.map_cons, List.map_nil, List.length_cons, List.length_nil, List.nil_append, List.cons_append, List.append_nil, List.replicate, List.getElem?_cons_zero, List.getElem?_cons_succ, List.set_cons_zero, List.set_cons_succ, onBl_bl, onBlS_bl, if_true, if_false, Bool.not_true, Bool.not_false, Bool.false_eq_true, Bool.true_or, Bool.or_true, Bool.false_or, Bool.or_false, inst_all, meth_all, flds_all, as_fld, List.lookup_cons, List.lookup_nil, keys_bne, keys_ne, beq_self_eq_true, putD, isNon, decide_true, decide_false, Bool.and_true, Bool.true_and, Nat.zero_add, Nat.add_zero, z1', z2', z3', z4'])
  subst hρ
  obtain ⟨S10, x10, e10⟩ := is_model_q (W := W) (k + 6) h9 hk9 hW
  have e10' : run TBL W (k + 13) 72 [.ref S6.length, .ref (S7.length + 1)] S9 = .ok (.bl true) S10 := e10
  refine ⟨S10, ?_⟩
  have epar : evEs (cxk W (k + 13)) (.cons (.mk 8 (.cons (.blt .tuple (.cons (.var 3) .nil)) .nil) [] .nil) (.cons (.lst (.cons (.var 3) (.cons (.tup .nil) (.cons (.lst .nil) .nil)))) .nil)) [some (.ref t), some (.int ((g' + 1 : Nat) : Int)), none, some (.ref j), none, none, some d, none] S6 = .ok [.ref S6.length, .ref (S7.length + 1)] S8 := by
    rw [evEs, emk]
    simp only [Out.bind]
    rw [hown]
  rw [run_succ at_75 rfl]
  simp only [b__law_right, ev_st, ev_var, Out.st, SOut.seq, noExc, List.map_cons, List.map_nil, List.length_cons, List.length_nil, List.nil_append, List.cons_append, List.replicate, List.set_cons_zero, List.set_cons_succ]
  have eA : evE (cxk W (k + 13)) (.bin .add (.cst (.int (1))) (.call 57 (.cons (.var 0) (.cons (.cst (.int (3))) .nil)) [] .nil)) [some (.ref t), none, none, none, none, none, none, none] S = .ok (.int ((g' + 1 : Nat) : Int)) S1 := by
    simp only [ev_st, ev_all, ev_cst, ev_var, Out.bind, Out.st, SOut.seq, noExc, bindK, ps_all, List.map_cons, List.map_nil, List.length_cons, List.length_nil, List.nil_append, List.cons_append, List.append_nil, List.replicate, List.getElem?_cons_zero, List.getElem?_cons_succ, List.set_cons_zero, List.set_cons_succ, onBl_bl, onBlS_bl, if_true, if_false, Bool.not_true, Bool.not_false, Bool.false_eq_true, Bool.true_or, Bool.or_true, Bool.false_or, Bool.or_false, inst_all, meth_all, flds_all, as_fld, List.lookup_cons, List.lookup_nil, keys_bne, keys_ne, beq_self_eq_true, putD, isNon, decide_true, decide_false, Bool.and_true, Bool.true_and, Nat.zero_add, Nat.add_zero, e1', binE, hadd]
  rw [eA]
  simp only [List.set_cons_zero, List.set_cons_succ]
  rw [e3]
  simp only [List.set_cons_zero, List.set_cons_succ]
  rw [show evE (cxk W (k + 13)) (.call 58 _ [] .nil) _ S4 = _ from e5]
  simp only [List.set_cons_zero, List.set_cons_succ]
  rw [e6]
  simp only [onBlS_bl, Bool.false_eq_true, if_false]
  rw [epar]
  simp only [List.set_cons_zero, List.set_cons_succ, setsD]
  rw [e9]
  simp only [ev_st, ev_all, ev_cst, ev_var, Out.bind, Out.st, SOut.seq, noExc, bindK, ps_all, List.map_cons, List.map_nil, List.length_cons, List.length_nil, List.nil_append, List.cons_append, List.append_nil, List.replicate, List.getElem?_cons_zero, List.getElem?_cons_succ, List.set_cons_zero, List.set_cons_succ, onBl_bl, onBlS_bl, if_true, if_false, Bool.not_true, Bool.not_false, Bool.false_eq_true, Bool.true_or, Bool.or_true, Bool.false_or, Bool.or_false, inst_all, meth_all, flds_all, as_fld, List.lookup_cons, List.lookup_nil, keys_bne, keys_ne, beq_self_eq_true, putD, isNon, decide_true, decide_false, Bool.and_true, Bool.true_and, Nat.zero_add, Nat.add_zero, e10']
end
end H91

set_option Elab.async false
set_option linter.all false
set_option maxRecDepth 100000
set_option maxHeartbeats 4000000
/-! Q91zg: the pot; the whole law. -/
namespace H91
open Pl PySem PyProof.Rows L2
section
variable {W : Nat} {S : Store}
theorem slc_rol {ns : List Int} (S : Store) : slcE (.rol (ns.map D.int)) none (some 63) S = .ok (.ref S.length) (S ++ [O.lst ((ns.take 63).map D.int)]) := by
  show Out.ok (D.ref S.length) (S ++ [O.lst (Pl.cutD (ns.map D.int) none (some ((63 : Nat) : Int)))]) = _
  rw [cut_take, List.map_take]
theorem pot_q (k : Nat) {ns : List Int} {j : Nat} (hj : j ≤ 2) (hn : ns.length ≤ 63) (hW : BIG ≤ W) : ∃ S' t, run TBL W (k + 1) 56 [.rol (ns.map D.int), .int (j : Nat)] S = .ok (.ref t) S' ∧ PotS S' t 0 := by
  have hB := BIG_gt
  have hsz := sizeLine_eq
  have hl63 : (ns.take 63).length ≤ 63 := by simp only [List.length_take]; omega
  have hP : (0 : Int) < 10 ^ 27 + 103 := by decide
  have hP2 : (10 : Int) ^ 27 + 103 ≤ 10 ^ 28 := by decide
  have x1 : seqD (S ++ [O.lst ((ns.take 63).map D.int)]) (.ref S.length) = some ((ns.take 63).map D.int) := seqD_new
  have i1 := insD_seq x1
  obtain ⟨S1, hS1⟩ : ∃ S1, S1 = S ++ [O.lst ((ns.take 63).map D.int)] := ⟨_, rfl⟩
  have s1 := slc_rol (ns := ns) S
  rw [← hS1] at s1 x1 i1
  have x2 : seqD (S1 ++ [O.lst ((ns.take 63).map D.int)]) (.ref S1.length) = some ((ns.take 63).map D.int) := seqD_new
  have s2 := slc_rol (ns := ns) S1
  obtain ⟨S2, hS2⟩ : ∃ S2, S2 = S1 ++ [O.lst ((ns.take 63).map D.int)] := ⟨_, rfl⟩
  rw [← hS2] at s2 x2
  have hmul : mulE (.int 1009) (.int (j : Nat)) S = .ok (.int (1009 * (j : Nat))) S := mul_small (by decide)
  have hlen : bltX (cxk W k) .len [.ref S.length] S1 = .ok (.int ((ns.take 63).length : Nat)) S1 := by
    simp only [bltX, i1, bltE, lenE, x1, List.length_map]
  have p27 : ∀ T, powE (.int 10) (.int 27) T = .ok (.int (10 ^ 27)) T := fun T => pow_ok (by decide +kernel)
  have p18 : ∀ T, powE (.int 10) (.int 18) T = .ok (.int (10 ^ 18)) T := fun T => pow_ok (by decide +kernel)
  generalize hv0 : (17 : Int) + 1009 * (j : Nat) + ((ns.take 63).length : Nat) = v0
  have b0 : 0 ≤ v0 ∧ v0 ≤ 10 ^ 28 := by
    have : (10 : Int) ^ 28 = 10000000000000000000000000000 := by decide
    omega
  obtain ⟨ρ', S3, e3, hS3, v, u, hρ, hv⟩ : ∃ ρ' S', evC (cxk W k) c_law_pot_0 [some (.rol (ns.map D.int)), some (.int (j : Nat)), some (.int v0), none, none] S1 = .nx ρ' S' ∧ _ :=
    for_ev (cx := cxk W k) (iv := .sq (.ref S1.length)) (S1 := S2) (items := (ns.take 63).map D.int)
      (fun i ρ S' => S' = S2 ∧ ∃ (v : Int) (u : Option D), ρ = [some (.rol (ns.map D.int)), some (.int (j : Nat)), some (.int v), u, none] ∧ 0 ≤ v ∧ v ≤ 10 ^ 28)
      (by
        rw [evI]
        simp only [ev_st, ev_all, ev_cst, ev_var, Out.bind, Out.st, SOut.seq, noExc, bindK, ps_all, List.map_cons, List.map_nil, List.length_cons, List.length_nil, List.nil_append, List.cons_append, List.append_nil, List.replicate, List.getElem?_cons_zero, List.getElem?_cons_succ, List.set_cons_zero, List.set_cons_succ, onBl_bl, onBlS_bl, if_true, if_false, Bool.not_true, Bool.not_false, Bool.false_eq_true, onInt_int, s2, x2, Option.isSome_some]) (by rw [List.length_map]; show _ < W; omega) ⟨rfl, v0, none, rfl, b0⟩ (fun i ρ S' hi hI => by rw [hI.1]; exact next_sq x2 i) (fun i y ρ S' hy hI => by
        obtain ⟨rfl, v, u, rfl, hv1, hv2⟩ := hI
        have hy' : ∃ z, y = .int z := by
          rw [List.getElem?_map] at hy
          cases hz : (ns.take 63)[i]? with
          | none => rw [hz] at hy; cases hy
          | some z => rw [hz] at hy; cases hy; exact ⟨z, rfl⟩
        obtain ⟨z, rfl⟩ := hy'
        have m1 : mulE (.int v) (.int 900007) S' = .ok (.int (v * 900007)) S' := if_pos (.inr (.inr (by decide)))
        have m2 : mulE (.int z) (.int 77377) S' = .ok (.int (z * 77377)) S' := if_pos (.inr (.inr (by decide)))
        have md : ∀ w : Int, modE (.int w) (.int (10 ^ 27 + 103)) S' = .ok (.int (w % (10 ^ 27 + 103))) S' := fun w => by
          unfold modE
          simp only [hP, if_true]
        have r1 := Int.emod_nonneg (v * 900007 + z * 77377 + 4241) (show ((10 : Int) ^ 27 + 103) ≠ 0 by decide)
        have r2 := Int.emod_lt_of_pos (v * 900007 + z * 77377 + 4241) hP
        refine ⟨[some (.rol (ns.map D.int)), some (.int (j : Nat)), some (.int v), some (.int z), none], S', [some (.rol (ns.map D.int)), some (.int (j : Nat)), some (.int ((v * 900007 + z * 77377 + 4241) % (10 ^ 27 + 103))), some (.int z), none], S', by simp [ev_st], ?_, rfl, _, _, rfl, r1, by omega⟩
        simp only [ev_st, ev_all, ev_cst, ev_var, Out.bind, Out.st, SOut.seq, noExc, bindK, ps_all, List.map_cons, List.map_nil, List.length_cons, List.length_nil, List.nil_append, List.cons_append, List.append_nil, List.replicate, List.getElem?_cons_zero, List.getElem?_cons_succ, List.set_cons_zero, List.set_cons_succ, onBl_bl, onBlS_bl, if_true, if_false, Bool.not_true, Bool.not_false, Bool.false_eq_true, binE, m1, m2, addE, bltX_not (show Blt.int ≠ Blt.len by decide), bltE, intE, p27, md])
  subst hρ hS3
  have hcell : ∃ cell : Int, evE (cxk W k) (.ite (.cmp .lt (.var 1) (.blt .len (.cons (.var 0) .nil))) (.blt .int (.cons (.idx (.var 0) (.var 1)) .nil)) (.cst (.int (0)))) [some (.rol (ns.map D.int)), some (.int (j : Nat)), some (.int v), u, none] S3 = .ok (.int cell) S3 := by
    have hlen2 : bltX (cxk W k) .len [.rol (ns.map D.int)] S3 = .ok (.int (ns.length : Nat)) S3 := by
      show Out.ok (D.int ((ns.map D.int).length : Nat)) S3 = _
      rw [List.length_map]
    by_cases hlt : j < ns.length
    · have hlt' : ((j : Nat) : Int) < (ns.length : Nat) := by omega
      have hi : idxE (.rol (ns.map D.int)) (.int (j : Nat)) S3 = .ok (.int ns[j]) S3 := idx_seq (d := .rol (ns.map D.int)) (ds := ns.map D.int) rfl (by simp) (by rw [List.getElem?_map, List.getElem?_eq_getElem hlt]; rfl)
      refine ⟨ns[j], ?_⟩
      simp only [ev_st, ev_all, ev_cst, ev_var, Out.bind, Out.st, SOut.seq, noExc, bindK, ps_all, List.map_cons, List.map_nil, List.length_cons, List.length_nil, List.nil_append, List.cons_append, List.append_nil, List.replicate, List.getElem?_cons_zero, List.getElem?_cons_succ, List.set_cons_zero, List.set_cons_succ, onBl_bl, onBlS_bl, if_true, if_false, Bool.not_true, Bool.not_false, Bool.false_eq_true, hlen2, cmpE, ordE, hlt', decide_true, hi, bltX_not (show Blt.int ≠ Blt.len by decide), bltE, intE]
    · have hlt' : ¬ ((j : Nat) : Int) < (ns.length : Nat) := by omega
      refine ⟨0, ?_⟩
      simp only [ev_st, ev_all, ev_cst, ev_var, Out.bind, Out.st, SOut.seq, noExc, bindK, ps_all, List.map_cons, List.map_nil, List.length_cons, List.length_nil, List.nil_append, List.cons_append, List.append_nil, List.replicate, List.getElem?_cons_zero, List.getElem?_cons_succ, List.set_cons_zero, List.set_cons_succ, onBl_bl, onBlS_bl, if_true, if_false, Bool.not_true, Bool.not_false, Bool.false_eq_true, hlen2, cmpE, ordE, hlt', decide_false]
  obtain ⟨cell, hcell⟩ := hcell
  have hmax : ∀ (x : Int) (T : Store), ∃ y, bltE .max [.int 0, .int x] T = .ok (.int y) T := fun x T => ⟨_, rfl⟩
  have habs : ∀ (x : Int) (T : Store), ∃ y, bltE .abs [.int x] T = .ok (.int y) T := fun x T => ⟨_, rfl⟩
  obtain ⟨y1, hy1⟩ := habs cell S3
  have hsub : ∃ y2, subE (.int y1) (.int (10 ^ 18)) S3 = .ok (.int y2) S3 := ⟨_, rfl⟩
  obtain ⟨y2, hy2⟩ := hsub
  obtain ⟨y3, hy3⟩ := hmax y2 S3
  refine ⟨S3 ++ [O.lst [.int y3, .int v, .int 0]], S3.length, ?_, y3, v, 0, by simp, hv.1, hv.2, by decide, by decide⟩
  rw [run_succ at_56 rfl]
  have eA : evE (cxk W k) (.bin .add (.bin .add (.cst (.int (17))) (.bin .mul (.cst (.int (1009))) (.var 1))) (.blt .len (.cons (.slc (.var 0) .none (.some (.cst (.int (63))))) .nil))) [some (.rol (ns.map D.int)), some (.int (j : Nat)), none, none, none] S = .ok (.int v0) S1 := by
    simp only [ev_st, ev_all, ev_cst, ev_var, Out.bind, Out.st, SOut.seq, noExc, bindK, ps_all, List.map_cons, List.map_nil, List.length_cons, List.length_nil, List.nil_append, List.cons_append, List.append_nil, List.replicate, List.getElem?_cons_zero, List.getElem?_cons_succ, List.set_cons_zero, List.set_cons_succ, onBl_bl, onBlS_bl, if_true, if_false, Bool.not_true, Bool.not_false, Bool.false_eq_true, binE, hmul, onInt_int, s1, hlen, addE]
    rw [hv0]
  simp only [b__law_pot, ev_st, ev_var, Out.st, SOut.seq, noExc, List.map_cons, List.map_nil, List.length_cons, List.length_nil, List.nil_append, List.cons_append, List.replicate, List.set_cons_zero, List.set_cons_succ]
  rw [eA]
  simp only [List.set_cons_zero, List.set_cons_succ]
  rw [e3]
  simp only [List.set_cons_zero, List.set_cons_succ]
  rw [hcell]
  simp only [ev_st, ev_all, ev_cst, ev_var, Out.bind, Out.st, SOut.seq, noExc, bindK, ps_all, List.map_cons, List.map_nil, List.length_cons, List.length_nil, List.nil_append, List.cons_append, List.append_nil, List.replicate, List.getElem?_cons_zero, List.getElem?_cons_succ, List.set_cons_zero, List.set_cons_succ, onBl_bl, onBlS_bl, if_true, if_false, Bool.not_true, Bool.not_false, Bool.false_eq_true, bltX_not (show Blt.abs ≠ Blt.len by decide), hy1, binE, p18, hy2, bltX_not (show Blt.max ≠ Blt.len by decide), hy3, hsz, Nat.reduceAdd, Nat.reduceLeDiff]
theorem law_q (k : Nat) {ns : List Int} (hn : ns.length ≤ 63) (hW : BIG ≤ W) : ∃ S', run TBL W (k + 15) 76 [.rol (ns.map D.int)] S = .ok (.bl true) S' := by
  have hB := BIG_gt
  have hlen2 : bltX (cxk W (k + 14)) .len [.rol (ns.map D.int)] S = .ok (.int (ns.length : Nat)) S := by
    show Out.ok (D.int ((ns.map D.int).length : Nat)) S = _
    rw [List.length_map]
  have hmin : ∃ q : Nat, q ≤ 3 ∧ bltE .min [.int 3, .int (ns.length : Nat)] S = .ok (.int (q : Nat)) S := by
    by_cases h : ns.length < 3
    · refine ⟨ns.length, by omega, ?_⟩
      show Out.ok (D.int (if ((ns.length : Nat) : Int) < 3 then ((ns.length : Nat) : Int) else 3)) S = _
      rw [if_pos (by omega)]
    · refine ⟨3, by omega, ?_⟩
      show Out.ok (D.int (if ((ns.length : Nat) : Int) < 3 then ((ns.length : Nat) : Int) else 3)) S = _
      rw [if_neg (by omega)]
      rfl
  obtain ⟨q, hq, hmin⟩ := hmin
  have hmax : ∃ r : Nat, r ≤ 3 ∧ bltE .max [.int 1, .int (q : Nat)] S = .ok (.int (r : Nat)) S := by
    by_cases h : 1 < q
    · refine ⟨q, hq, ?_⟩
      show Out.ok (D.int (if ((q : Nat) : Int) > 1 then ((q : Nat) : Int) else 1)) S = _
      rw [if_pos (by omega)]
    · refine ⟨1, by omega, ?_⟩
      show Out.ok (D.int (if ((q : Nat) : Int) > 1 then ((q : Nat) : Int) else 1)) S = _
      rw [if_neg (by omega)]
      rfl
  obtain ⟨r, hr, hmax⟩ := hmax
  obtain ⟨ρ', S9, e9, u, hρ⟩ : ∃ ρ' S', evC (cxk W (k + 14)) c_law_0 [some (.rol (ns.map D.int)), none] S = .nx ρ' S' ∧ _ :=
    for_ev (cx := cxk W (k + 14)) (iv := .rg 0 r) (S1 := S) (items := (List.range r).map fun (i : Nat) => D.int (0 + i))
      (fun i ρ S' => ∃ u, ρ = [some (.rol (ns.map D.int)), u])
      (rng1_ev (by simp only [ev_st, ev_all, ev_cst, ev_var, Out.bind, Out.st, SOut.seq, noExc, bindK, ps_all, List.map_cons, List.map_nil, List.length_cons, List.length_nil, List.nil_append, List.cons_append, List.append_nil, List.replicate, List.getElem?_cons_zero, List.getElem?_cons_succ, List.set_cons_zero, List.set_cons_succ, onBl_bl, onBlS_bl, if_true, if_false, Bool.not_true, Bool.not_false, Bool.false_eq_true, hlen2, bltX_not (show Blt.min ≠ Blt.len by decide), hmin, bltX_not (show Blt.max ≠ Blt.len by decide), hmax]) (by omega)) (by simp only [List.length_map, List.length_range]; show _ < W; omega) ⟨none, rfl⟩ (fun i ρ S' _ _ => next_rg) (fun i y ρ S' hy hI => by
        obtain ⟨u, rfl⟩ := hI
        have hi : i < r := by
          have := (List.getElem?_eq_some_iff.mp hy).1
          simpa using this
        have hy' : y = .int (i : Nat) := by
          rw [List.getElem?_map, List.getElem?_range hi] at hy
          have := Option.some.inj hy
          rw [← this]
          simp
        subst hy'
        obtain ⟨S2, t, e2, p2⟩ := pot_q (W := W) (S := S') (k + 13) (ns := ns) (j := i) (by omega) hn hW
        obtain ⟨S3, e3⟩ := right_q (W := W) k p2 (by decide) hW
        refine ⟨[some (.rol (ns.map D.int)), some (.int (i : Nat))], S', [some (.rol (ns.map D.int)), some (.int (i : Nat))], S3, by simp [ev_st], ?_, _, rfl⟩
        simp only [ev_st, ev_all, ev_cst, ev_var, Out.bind, Out.st, SOut.seq, noExc, bindK, ps_all, List.map_cons, List.map_nil, List.length_cons, List.length_nil, List.nil_append, List.cons_append, List.append_nil, List.replicate, List.getElem?_cons_zero, List.getElem?_cons_succ, List.set_cons_zero, List.set_cons_succ, onBl_bl, onBlS_bl, if_true, if_false, Bool.not_true, Bool.not_false, Bool.false_eq_true, Bool.true_or, Bool.or_true, Bool.false_or, Bool.or_false, inst_all, meth_all, flds_all, as_fld, List.lookup_cons, List.lookup_nil, keys_bne, keys_ne, beq_self_eq_true, putD, isNon, decide_true, decide_false, Bool.and_true, Bool.true_and, Nat.zero_add, Nat.add_zero, e2, e3])
  subst hρ
  refine ⟨S9, ?_⟩
  rw [run_succ at_76 rfl]
  simp only [b_law, ev_st, ev_all, ev_cst, ev_var, Out.bind, Out.st, SOut.seq, noExc, bindK, ps_all, List.map_cons, List.map_nil, List.length_cons, List.length_nil, List.nil_append, List.cons_append, List.append_nil, List.replicate, List.getElem?_cons_zero, List.getElem?_cons_succ, List.set_cons_zero, List.set_cons_succ, onBl_bl, onBlS_bl, if_true, if_false, Bool.not_true, Bool.not_false, Bool.false_eq_true]
  rw [e9]
end
end H91

set_option Elab.async false
set_option linter.all false
set_option maxRecDepth 100000
set_option maxHeartbeats 0
namespace H91
open PySem PySem.W PySem.Calls PyProof.Rows Pl
theorem chk : tbChk T = true := by kernel_rfl
theorem fns_eq : (tbOf T (ceOf T bltsG)).fns = TBfns := by kernel_rfl
theorem cls_eq : T.cls.map (ciOf T) = TBcls := by kernel_rfl
theorem TB_eq : tbOf T (ceOf T bltsG) = TBL := by
  have e1 := fns_eq
  have e3 : (tbOf T (ceOf T bltsG)).up = TBL.up := by
    funext a b
    show (match T.cls[a]?, T.cls[b]? with
      | some x, some y => T.up x.name y.name
      | _, _ => false) = (match TBcls[a]?, TBcls[b]? with
      | some x, some y => x.name == y.name || y.name == "PassError"
      | _, _ => false)
    rw [← cls_eq, List.getElem?_map, List.getElem?_map]
    cases T.cls[a]? <;> cases T.cls[b]? <;> rfl
  have mk : ∀ t : Tb, t.fns = TBfns → t.cls = TBcls → t.flds = TBL.flds → t.up = TBL.up → t = TBL := fun t h1 h2 h3 h4 => by
    cases t
    simp only at h1 h2 h3 h4
    subst h1 h2 h3 h4
    rfl
  exact mk _ e1 cls_eq rfl e3
end H91
open PySem PySem.W PySem.Calls PyProof.Rows
theorem H91.holds_of {Wn : Nat} (plain : ∀ ns : List Int, ns.length ≤ 63 → (∀ z ∈ ns, Builtin.Int.intBits z ≤ 1048576) → ∃ S', Pl.run H91.TBL Wn 40 76 [.rol (ns.map Pl.D.int)] [] = .ok (.bl true) S') : PySem.Challenge.rw_onepassexact_k91_streams_fed.Holds := by
  w_on; o_law
  refine HandSHeadRun.head_imp (r := OpenLaw.row PySem.Challenge.rw_onepassexact_k91_streams_fed) (q := view (OpenLaw.row PySem.Challenge.rw_onepassexact_k91_streams_fed).prog [0, 64]) (H := H91.hk) (ob := H91.ob) (M := 9000) (loose := H91.names) (d := HandSHeadRun.topDef (OpenLaw.row PySem.Challenge.rw_onepassexact_k91_streams_fed).prog 64) (kwd := []) H91.ob_eq
    H91.hrun (by kernel_rfl) (by kernel_rfl) (by kernel_rfl) (by first | rfl | decide +kernel) (by first | assumption | decide +kernel) (by decide +kernel) ⟨rfl, rfl, rfl, rfl, rfl, by decide +kernel⟩ ?hw ?hc
  case hw => w_witness2
  case hc =>
    refine Pl.walk_G (l := PySem.Challenge.rw_onepassexact_k91_streams_fed) (n := 63) (k := 40) (x := "script") rfl (by decide) (by kernel_rfl) ⟨rfl, by decide, by decide⟩ ?F
    intro w mg fa h Y G hmg0
    obtain ⟨K, KX, c, TH⟩ := Y
    have hmg : mg ("law" : PySem.Str) = some (.ref fa) := by
      have e : (HandSHeadRun.topDef (OpenLaw.row PySem.Challenge.rw_onepassexact_k91_streams_fed).prog 64).name = ("law" : PySem.Str) := by kernel_rfl
      rw [← e]
      exact hmg0
    refine Pl.law_end (blt := Pl.bltsG) (Wn := Wn) (li := 76) c TH KX G H91.chk (Pl.bltsG_ok c KX G (by decide +kernel) (by decide +kernel)) (by rw [H91.TB_eq]; rfl) rfl rfl hmg ?_
    rw [H91.TB_eq]
    exact plain

set_option Elab.async false
open PySem PySem.W PySem.Calls PyProof.Rows
theorem PySem.Challenge.cw_onepassexact_k91_streams_fed_holds : PySem.Challenge.rw_onepassexact_k91_streams_fed.Holds := by
  exact H91.holds_of (Wn := H91.BIG) fun ns hn _ => H91.law_q (W := H91.BIG) 25 hn (Nat.le_refl _)
