import PyProof.Rows.All
import Wide.All
import OpenK.AllK
import Wide.FinOn
import HandS.Head0
import HandS.Head1
import HandS.Head2
import HandS.HeadEnd
import HandS.HeadHook1
import HandS.HeadHook2
import HandS.HeadHook3
import HandS.HeadHook4
import HandS.HeadNt
import KE.KExcInit
import OpenK.KCls
import HandS.Property
import HandS.ForMost
import HandS.IsInst
import HandS.Zip
import HandS.Defaults
import HandS.Style
import HandS.ForExc
import HandS.ExcInit
import HandS.ExcOwn
import HandS.Lambda
import KE.KDflt
import HandS.Walk
import HandS.TupAny
import HandS.ExcIs
import HandS.ExcField
import KE.KExcIs
import HandS.TryMany
import HandS.HotCalls
import KE.KTryMore
import HandS.ExcInitHot
import HandS.ClsMeth
import HandS.MakeKw
import HandS.MakeKwOnly
import HandS.FStr
import HandS.More
import KE.KOpsOwn
import PyProof.InstEq
import KE.SortData
import HandS.Star
import HandS.OwnEq
import HandS.Conv
import HandS.Text
import HandS.ExcBuiltin
import PyProof.Rows.FactsN_abs
import HandS.Comp
import HandS.HeadWalk
import PySem.Challenge.RW_ringlessday_k43_ratios_reckoned
set_option Elab.async false
set_option linter.all false
set_option maxRecDepth 100000
set_option maxHeartbeats 4000000
namespace Rg
open PySem L2
/-! ### an own class of errors, by one look -/
inductive XB where
  | value | lookup | index
def XB.mro : XB → List Value
  | .value => [.type "ValueError", .type "Exception", .type "BaseException", .type "object"]
  | .lookup => [.type "LookupError", .type "Exception", .type "BaseException", .type "object"]
  | .index => [.type "IndexError", .type "LookupError", .type "Exception", .type "BaseException", .type "object"]
def XB.new : XB → String
  | .value => "ValueError.__new__"
  | .lookup => "LookupError.__new__"
  | .index => "IndexError.__new__"
def xgB (K : PySem.W.Frag) (C : Addr) (b : XB) : Bool := PySem.W.excInitIn K C b.mro b.new && (PySem.W.excOver K C b.mro && (PySem.W.hasDictIn K C && (He.eqO (PySem.W.findIn K (.ref C) "__setattr__") (some (some (.builtin "object.__setattr__"))) && (decide (PySem.W.subIn K (.ref C) (.type "BaseException") = some true) &&
  (decide (PySem.W.typeIn K (.ref C) = some (.type "type")) && (PySem.W.keepIn K (.ref C) && (He.eqO (PySem.W.findIn K (.ref C) "__getattribute__") (some (some (.builtin "BaseException.__getattribute__"))) && (He.eqO (PySem.W.findIn K (.ref C) "__getattr__") (some none) &&
  (He.eqO (PySem.W.findIn K (.ref C) "__class__") (some (some (.builtin "object.__class__"))) && (He.eqO (PySem.W.specialIn K (.builtin "object.__class__") "__get__") (some (some (.builtin "getset_descriptor.__get__"))) && (decide (PySem.W.takesIn K (.builtin "object.__class__") = some true) && decide (PySem.W.mroIn K C (.type "object") = some true))))))))))))
/-- the errors of a program: their base, their fields -/
def erB (K : PySem.W.Frag) : List (Str × XB × List Str) → Bool
  | [] => true
  | (e, b, fs) :: r => xgB K (He.ga K e) b && (He.eqO (PySem.W.findIn K (.ref (He.ga K e)) "__init__") (some (some (.ref (He.ma K (He.ga K e) "__init__")))) && (decide (PySem.W.typeIn K (.ref (He.ma K (He.ga K e) "__init__")) = some (.type "function")) && ((fs.all fun f => He.eqO (PySem.W.findIn K (.ref (He.ga K e)) f) (some none)) && erB K r)))
end Rg
namespace Rg
open PySem L2
/-! ### looks at own classes, in one list -/
/-- a written value -/
inductive Lit where
  | non | bl (b : Bool) | int (i : Int) | str (x : Str) | tup (ds : List Lit)
mutual
def litB (K : PySem.W.Frag) : Lit → Value → Bool
  | .non, v => (match v with | .none => true | _ => false)
  | .bl b, v => (match v with | .bool c => decide (c = b) | _ => false)
  | .int i, v => (match v with | .int j _ => decide (j = i) | _ => false)
  | .str x, v => (match v with | .str y _ => decide (y = x) | _ => false)
  | .tup ds, v => (match v with
    | .ref a => (match K.lookup a with
      | some ⟨.type c, _, .seq its _, _⟩ => decide (c = "tuple") && (decide (its.size ≤ 1000) && litsB K ds its.toList)
      | _ => false)
    | _ => false)
def litsB (K : PySem.W.Frag) : List Lit → List Value → Bool
  | [], vs => vs.isEmpty
  | d :: ds, vs => (match vs with
    | v :: r => litB K d v && litsB K ds r
    | [] => false)
end
/-- a class: an own one, a built-in type -/
inductive Cn where
  | own (x : Str) | ty (n : String)
def Cn.val (K : PySem.W.Frag) : Cn → Value
  | .own x => .ref (He.ga K x)
  | .ty n => .type n
inductive Ck where
  | cls (C : Str)
  | mk (C D : Str)
  | meth (C m D : Str)
  | spec (C m D : Str)
  | no (C f : Str)
  | find (C m : Str) (id : String)
  | con (C f : Str) (d : Lit)
  | cval (C f : Str) (d : Lit)
  | kit (t c : Cn) (b : Bool)
  | nf (C : Str) (t : Cn)
  | sub (C' C : Str)
  | exm (t : Str) (c : Cn) (b : Bool)
  | gl (x : Str) (d : Lit)
def optB (o : Option (Option Value)) (p : Value → Bool) : Bool := match o with
  | some (some v) => p v
  | _ => false
def Ck.ok (K : PySem.W.Frag) : Ck → Bool
  | .cls C => (He.Fa.cls C).ok K && (He.eqO (PySem.W.findIn K (.ref (He.ga K C)) "__class__") (some (some (.builtin "object.__class__"))) && (He.eqO (PySem.W.specialIn K (.builtin "object.__class__") "__get__") (some (some (.builtin "getset_descriptor.__get__"))) && (decide (PySem.W.takesIn K (.builtin "object.__class__") = some true) && decide (PySem.W.mroIn K (He.ga K C) (.type "object") = some true))))
  | .mk C D => PySem.W.makesIn K (He.ga K C) && (He.eqO (PySem.W.findIn K (.ref (He.ga K C)) "__init__") (some (some (.ref (He.ma K (He.ga K D) "__init__")))) && (PySem.W.isFn K (.ref (He.ma K (He.ga K D) "__init__")) && PySem.W.keepIn K (.ref (He.ga K C))))
  | .meth C m D => He.eqO (PySem.W.findIn K (.ref (He.ga K C)) m) (some (some (.ref (He.ma K (He.ga K D) m)))) && (PySem.W.isFn K (.ref (He.ma K (He.ga K D) m)) && PySem.W.keepIn K (.ref (He.ma K (He.ga K D) m)))
  | .spec C m D => He.eqO (PySem.W.findIn K (.ref (He.ga K C)) m) (some (some (.ref (He.ma K (He.ga K D) m)))) && PySem.W.isFn K (.ref (He.ma K (He.ga K D) m))
  | .no C f => He.eqO (PySem.W.findIn K (.ref (He.ga K C)) f) (some none)
  | .find C m id => He.eqO (PySem.W.findIn K (.ref (He.ga K C)) m) (some (some (.builtin id)))
  | .con C f d => optB (PySem.W.findIn K (.ref (He.ga K C)) f) (fun u => litB K d u && He.eqO (PySem.W.specialIn K u "__get__") (some none)) && !PySem.W.copiedNames.contains f
  | .cval C f d => (match PySem.W.findCls K (.ref (He.ga K C)) (.type "type") f with
    | some (.val u) => litB K d u
    | _ => false) && (PySem.W.readsIn K (He.ga K C) (.type "type") && He.eqO (PySem.W.specialIn K (.ref (He.ga K C)) "__getattribute__") (some (some (.builtin "type.__getattribute__"))))
  | .kit t c b => decide (PySem.W.kitOne K (t.val K) (c.val K) = some b)
  | .nf C t => PySem.W.notFirst K (He.ga K C) (t.val K)
  | .sub C' C => decide (PySem.W.subIn K (.ref (He.ga K C')) (.ref (He.ga K C)) = some true) && !decide (He.ga K C = He.ga K C')
  | .exm t c b => decide (PySem.W.exmOne K (.ref (He.ga K t)) (c.val K) = some b)
  | .gl x d => optB (PySem.W.nsIn K mainGlobals x) (litB K d)
def cksB (K : PySem.W.Frag) (l : List Ck) : Bool := l.all fun c => c.ok K
/-! ### the Hook: with the interpreter's own statics -/
def asY (g : Addr → Option Obj) (n : Nat) : List Addr := He.asD g n ++ [cStatics]
def obsY (n : Nat) (fa : List He.Fa) (fn : List He.DefD) (tf : List He.Defn) (ex : PySem.W.Frag → Bool) (g : Addr → Option Obj) : He.AlX := (He.obsT fa fn [] (He.frT g (asY g n)), ex (He.frT g (asY g n)) && He.tabsB g tf (He.frT g (asY g n)))
theorem saysY_of {n : Nat} {fa : List He.Fa} {fn : List He.DefD} {tf : List He.Defn} {ex : PySem.W.Frag → Bool} {w : World} {h : Heap} (e : obsY n fa fn tf ex h.get? = He.valX fn [] w) : He.SaysX fa fn [] tf ex w h (He.frT h.get? (asY h.get? n)) := by
  have a1 : He.obsT fa fn [] (He.frT h.get? (asY h.get? n)) = He.valT fn [] w := congrArg (fun z : He.AlX => z.1) e
  obtain ⟨a2, a3⟩ := He.ba (show (ex (He.frT h.get? (asY h.get? n)) && He.tabsB h.get? tf (He.frT h.get? (asY h.get? n))) = true from congrArg (fun z : He.AlX => z.2) e)
  have one : ∀ p ∈ tf, PySem.W.codeHdIn (He.frT h.get? (asY h.get? n)) (He.cT (He.frT h.get? (asY h.get? n)) p).1 (He.cT (He.frT h.get? (asY h.get? n)) p).2 = true ∧ ∃ u, h.get? (He.cT (He.frT h.get? (asY h.get? n)) p).2 = some u ∧ He.emptyTab u = true := fun p hp => by
    obtain ⟨b1, b2⟩ := He.ba (List.all_eq_true.mp a3 p hp)
    cases q : h.get? (He.cT (He.frT h.get? (asY h.get? n)) p).2 with
    | none => rw [q] at b2; cases b2
    | some u => rw [q] at b2; exact ⟨b1, u, rfl, b2⟩
  refine ⟨a1, a2, fun p hp => (one p hp).1, fun p hp => ?_, fun p hp => ?_⟩
  · obtain ⟨_, u, q, z⟩ := one p hp
    exact He.frT_none q z
  · obtain ⟨_, u, q, z⟩ := one p hp
    rw [q, He.emptyTab_eq z]
def hookY (n : Nat) (fa : List He.Fa) (fn : List He.DefD) (tf : List He.Defn) (ex : PySem.W.Frag → Bool) : PySem.W.Hook where
  α := He.AlX
  obs := fun s => obsY n fa fn tf ex s.heap.get?
  val := fun w => He.valX fn [] w
  says := fun w h => ∃ K : PySem.W.Frag, K.In h ∧ He.SaysX fa fn [] tf ex w h K
  of := fun _ _ e => ⟨_, He.frT_in, saysY_of e⟩
  keeps := fun _ _ _ ⟨K, hK, c⟩ k => ⟨K, PySem.W.Frag.In.keeps hK k, ⟨c.t, c.more, c.hd, c.out, fun p hp => k _ _ (c.empty p hp)⟩⟩
theorem obsY_eq {n : Nat} {fa : List He.Fa} {fn : List He.DefD} {tf : List He.Defn} {ex : PySem.W.Frag → Bool} {g : Addr → Option Obj} {s : Shared} (h : ∀ a, g a = s.heap.get? a) : obsY n fa fn tf ex g = (hookY n fa fn tf ex).obs s := by
  have e : g = s.heap.get? := funext h
  rw [e] <;> rfl
end Rg
namespace Rg
open PySem L2
/-! ### defs that stand behind a property -/
structure GetD where
  C : Str
  f : Str
  d : He.DefD
def GetD.p (K : PySem.W.Frag) (q : GetD) : Addr := He.ma K (He.ga K q.C) q.f
def GetD.ad (K : PySem.W.Frag) (q : GetD) : Addr := match PySem.W.recIn K (q.p K) "property" with
  | some (.ref g :: _) => g
  | _ => 0
def fnA (K : PySem.W.Frag) (a : Addr) : He.FnW := match K.lookup a with
  | some ⟨_, _, .func fd, _⟩ => some (fd.name, fd.qualname, fd.params, fd.body, fd.scope, fd.globals, fd.closure, fd.builtins)
  | _ => none
def GetD.ok (K : PySem.W.Frag) (q : GetD) : Bool := (PySem.W.keepIn K (.ref (q.ad K)) && (match K.lookup (q.ad K) with
    | some ⟨_, _, .func fd, _⟩ => PySem.W.codeIn K fd.code q.d.qual && (He.dflB K fd.defaults (q.d.dvs K) && He.kwdB K fd.kwdefaults (q.d.kws K))
    | _ => false)) && (He.eqO (PySem.W.findIn K (.ref (He.ga K q.C)) q.f) (some (some (.ref (q.p K)))) && (He.eqO (PySem.W.specialIn K (.ref (q.p K)) "__get__") (some (some (.builtin "property.__get__"))) && (decide (PySem.W.takesIn K (.ref (q.p K)) = some true) && (match PySem.W.recIn K (q.p K) "property" with
    | some (.ref _ :: _) => true
    | _ => false))))
theorem GetD.funD {K : PySem.W.Frag} {q : GetD} (e : fnA K (q.ad K) = q.d.val) (c : q.ok K = true) : (∃ fd, FunD K q.d.name q.d.qual q.d.params q.d.body q.d.scope (q.d.dvs K) (q.d.kws K) (q.ad K) fd) ∧ PropOf K (He.ga K q.C) q.f (q.p K) (q.ad K) := by
  obtain ⟨c1, c2⟩ := He.ba c
  obtain ⟨kp, c3⟩ := He.ba c1
  obtain ⟨p1, c4⟩ := He.ba c2
  obtain ⟨p2, c5⟩ := He.ba c4
  obtain ⟨p3, p4⟩ := He.ba c5
  refine ⟨?_, He.eqO_ok p1, He.eqO_ok p2, of_decide_eq_true p3, ?_⟩
  · unfold fnA at e
    cases r : K.lookup (q.ad K) with
    | none => rw [r] at c3; cases c3
    | some o =>
      obtain ⟨oc, od, dt, osl⟩ := o
      rw [r] at c3 e
      cases dt with
      | func fd =>
        obtain ⟨m1, m2, m3, m4, m5, m6, m7, m8, m9, m10, m11, m12, m13, m14, m15⟩ := fd
        have e2 : (some (m1, m2, m3, m4, m5, m6, m7, m15) : He.FnW) = some (q.d.name, q.d.qual, q.d.params, .stmts q.d.body, q.d.scope, mainGlobals, [], builtinsNs) := e
        simp only [Option.some.injEq, Prod.mk.injEq] at e2
        obtain ⟨g1, g2, g3, g4, g5, g6, g7, g8⟩ := e2
        subst g1 g2 g3 g4 g5 g6 g7 g8
        obtain ⟨k1, k2⟩ := He.ba (show (PySem.W.codeIn K m13 q.d.qual && (He.dflB K m8 (q.d.dvs K) && He.kwdB K m9 (q.d.kws K))) = true from c3)
        obtain ⟨k3, k4⟩ := He.ba k2
        exact ⟨_, ⟨oc, od, m8, m9, m10, m11, m12, m13, m14, osl, rfl, r, k1, He.dflB_ok k3, He.kwdB_ok k4⟩, kp⟩
      | _ => cases c3
  · unfold GetD.ad
    cases r : PySem.W.recIn K (q.p K) "property" with
    | none => rw [r] at p4; cases p4
    | some l =>
      rw [r] at p4
      match l, p4 with
      | .ref g :: rest, _ => exact ⟨rest, rfl⟩
abbrev AlZ : Type := He.AlX × List He.FnW
def exZ (gs : List GetD) (ex : PySem.W.Frag → Bool) (K : PySem.W.Frag) : Bool := ex K && gs.all fun q => q.ok K
def obsZ (n : Nat) (fa : List He.Fa) (fn : List He.DefD) (tf : List He.Defn) (gs : List GetD) (ex : PySem.W.Frag → Bool) (g : Addr → Option Obj) : AlZ := (obsY n fa fn tf (exZ gs ex) g, gs.map fun q => fnA (He.frT g (asY g n)) (q.ad (He.frT g (asY g n))))
structure SaysZ (fa : List He.Fa) (fn : List He.DefD) (tf : List He.Defn) (gs : List GetD) (ex : PySem.W.Frag → Bool) (w : World) (h : Heap) (K : PySem.W.Frag) : Prop where
  x : He.SaysX fa fn [] tf (exZ gs ex) w h K
  g : (gs.map fun q => fnA K (q.ad K)) = gs.map fun q => q.d.val
def hookZ (n : Nat) (fa : List He.Fa) (fn : List He.DefD) (tf : List He.Defn) (gs : List GetD) (ex : PySem.W.Frag → Bool) : PySem.W.Hook where
  α := AlZ
  obs := fun s => obsZ n fa fn tf gs ex s.heap.get?
  val := fun w => ((He.valX fn [] w, gs.map fun q : GetD => q.d.val) : AlZ)
  says := fun w h => ∃ K : PySem.W.Frag, K.In h ∧ SaysZ fa fn tf gs ex w h K
  of := fun w s e => ⟨He.frT s.heap.get? (asY s.heap.get? n), He.frT_in, saysY_of (congrArg (fun z : AlZ => z.1) e), congrArg (fun z : AlZ => z.2) e⟩
  keeps := fun _ _ _ ⟨K, hK, c⟩ k => ⟨K, PySem.W.Frag.In.keeps hK k, ⟨⟨c.x.t, c.x.more, c.x.hd, c.x.out, fun p hp => k _ _ (c.x.empty p hp)⟩, c.g⟩⟩
theorem obsZ_eq {n : Nat} {fa : List He.Fa} {fn : List He.DefD} {tf : List He.Defn} {gs : List GetD} {ex : PySem.W.Frag → Bool} {g : Addr → Option Obj} {s : Shared} (h : ∀ a, g a = s.heap.get? a) : obsZ n fa fn tf gs ex g = (hookZ n fa fn tf gs ex).obs s := by
  have e : g = s.heap.get? := funext h
  rw [e] <;> rfl
theorem SaysZ.get {fa : List He.Fa} {fn : List He.DefD} {tf : List He.Defn} {gs : List GetD} {ex : PySem.W.Frag → Bool} {w : World} {h : Heap} {K : PySem.W.Frag} (c : SaysZ fa fn tf gs ex w h K) (i : Nat) {q : GetD} (e : gs[i]? = some q) :
    (∃ fd, FunD K q.d.name q.d.qual q.d.params q.d.body q.d.scope (q.d.dvs K) (q.d.kws K) (q.ad K) fd) ∧ PropOf K (He.ga K q.C) q.f (q.p K) (q.ad K) := by
  have a : fnA K (q.ad K) = q.d.val := by
    have z := congrArg (fun l => l[i]?) c.g
    simp only [List.getElem?_map, e, Option.map_some] at z
    exact Option.some.inj z
  exact GetD.funD a (List.all_eq_true.mp (He.ba (show (ex K && gs.all fun q => q.ok K) = true from c.x.more)).2 q (List.mem_of_getElem? e))
end Rg
namespace Rg
open PySem L2
/-! ### classmethods: their defs -/
structure CmD where
  C : Str
  f : Str
  d : He.DefD
def CmD.p (K : PySem.W.Frag) (q : CmD) : Addr := He.ma K (He.ga K q.C) q.f
def CmD.ad (K : PySem.W.Frag) (q : CmD) : Addr := He5.wf K (He.ga K q.C) "classmethod" q.f
def CmD.ok (K : PySem.W.Frag) (q : CmD) : Bool := (PySem.W.keepIn K (.ref (q.ad K)) && (match K.lookup (q.ad K) with
    | some ⟨_, _, .func fd, _⟩ => PySem.W.codeIn K fd.code q.d.qual && (He.dflB K fd.defaults (q.d.dvs K) && He.kwdB K fd.kwdefaults (q.d.kws K))
    | _ => false)) && (He5.wrapB K (He.ga K q.C) "classmethod" "classmethod.__get__" q.f && PySem.W.fnIn K (q.ad K))
theorem CmD.funD {K : PySem.W.Frag} {q : CmD} (e : fnA K (q.ad K) = q.d.val) (c : q.ok K = true) : (∃ fd, FunD K q.d.name q.d.qual q.d.params q.d.body q.d.scope (q.d.dvs K) (q.d.kws K) (q.ad K) fd) ∧ ClX.CMet K (He.ga K q.C) (.type "type") q.f (q.p K) (q.ad K) := by
  obtain ⟨c1, c2⟩ := He.ba c
  obtain ⟨kp, c3⟩ := He.ba c1
  obtain ⟨p1, p2⟩ := He.ba c2
  refine ⟨?_, He5.cmet_of p1 p2⟩
  unfold fnA at e
  cases r : K.lookup (q.ad K) with
  | none => rw [r] at c3; cases c3
  | some o =>
    obtain ⟨oc, od, dt, osl⟩ := o
    rw [r] at c3 e
    cases dt with
    | func fd =>
      obtain ⟨m1, m2, m3, m4, m5, m6, m7, m8, m9, m10, m11, m12, m13, m14, m15⟩ := fd
      have e2 : (some (m1, m2, m3, m4, m5, m6, m7, m15) : He.FnW) = some (q.d.name, q.d.qual, q.d.params, .stmts q.d.body, q.d.scope, mainGlobals, [], builtinsNs) := e
      simp only [Option.some.injEq, Prod.mk.injEq] at e2
      obtain ⟨g1, g2, g3, g4, g5, g6, g7, g8⟩ := e2
      subst g1 g2 g3 g4 g5 g6 g7 g8
      obtain ⟨k1, k2⟩ := He.ba (show (PySem.W.codeIn K m13 q.d.qual && (He.dflB K m8 (q.d.dvs K) && He.kwdB K m9 (q.d.kws K))) = true from c3)
      obtain ⟨k3, k4⟩ := He.ba k2
      exact ⟨_, ⟨oc, od, m8, m9, m10, m11, m12, m13, m14, osl, rfl, r, k1, He.dflB_ok k3, He.kwdB_ok k4⟩, kp⟩
    | _ => cases c3
abbrev AlV : Type := AlZ × List He.FnW
def exV (cs : List CmD) (ex : PySem.W.Frag → Bool) (K : PySem.W.Frag) : Bool := ex K && cs.all fun q => q.ok K
def obsV (n : Nat) (fa : List He.Fa) (fn : List He.DefD) (tf : List He.Defn) (gs : List GetD) (cs : List CmD) (ex : PySem.W.Frag → Bool) (g : Addr → Option Obj) : AlV := (obsZ n fa fn tf gs (exV cs ex) g, cs.map fun q => fnA (He.frT g (asY g n)) (q.ad (He.frT g (asY g n))))
structure SaysV (fa : List He.Fa) (fn : List He.DefD) (tf : List He.Defn) (gs : List GetD) (cs : List CmD) (ex : PySem.W.Frag → Bool) (w : World) (h : Heap) (K : PySem.W.Frag) : Prop where
  z : SaysZ fa fn tf gs (exV cs ex) w h K
  g : (cs.map fun q => fnA K (q.ad K)) = cs.map fun q => q.d.val
def hookV (n : Nat) (fa : List He.Fa) (fn : List He.DefD) (tf : List He.Defn) (gs : List GetD) (cs : List CmD) (ex : PySem.W.Frag → Bool) : PySem.W.Hook where
  α := AlV
  obs := fun s => obsV n fa fn tf gs cs ex s.heap.get?
  val := fun w => (((He.valX fn [] w, gs.map fun q : GetD => q.d.val), cs.map fun q : CmD => q.d.val) : AlV)
  says := fun w h => ∃ K : PySem.W.Frag, K.In h ∧ SaysV fa fn tf gs cs ex w h K
  of := fun w s e => ⟨He.frT s.heap.get? (asY s.heap.get? n), He.frT_in, ⟨saysY_of (congrArg (fun z : AlV => z.1.1) e), congrArg (fun z : AlV => z.1.2) e⟩, congrArg (fun z : AlV => z.2) e⟩
  keeps := fun _ _ _ ⟨K, hK, c⟩ k => ⟨K, PySem.W.Frag.In.keeps hK k, ⟨⟨⟨c.z.x.t, c.z.x.more, c.z.x.hd, c.z.x.out, fun p hp => k _ _ (c.z.x.empty p hp)⟩, c.z.g⟩, c.g⟩⟩
theorem obsV_eq {n : Nat} {fa : List He.Fa} {fn : List He.DefD} {tf : List He.Defn} {gs : List GetD} {cs : List CmD} {ex : PySem.W.Frag → Bool} {g : Addr → Option Obj} {s : Shared} (h : ∀ a, g a = s.heap.get? a) : obsV n fa fn tf gs cs ex g = (hookV n fa fn tf gs cs ex).obs s := by
  have e : g = s.heap.get? := funext h
  rw [e] <;> rfl
theorem SaysV.met {fa : List He.Fa} {fn : List He.DefD} {tf : List He.Defn} {gs : List GetD} {cs : List CmD} {ex : PySem.W.Frag → Bool} {w : World} {h : Heap} {K : PySem.W.Frag} (c : SaysV fa fn tf gs cs ex w h K) (i : Nat) {q : CmD} (e : cs[i]? = some q) :
    (∃ fd, FunD K q.d.name q.d.qual q.d.params q.d.body q.d.scope (q.d.dvs K) (q.d.kws K) (q.ad K) fd) ∧ ClX.CMet K (He.ga K q.C) (.type "type") q.f (q.p K) (q.ad K) := by
  have a : fnA K (q.ad K) = q.d.val := by
    have z := congrArg (fun l => l[i]?) c.g
    simp only [List.getElem?_map, e, Option.map_some] at z
    exact Option.some.inj z
  have m1 := (He.ba (show (exV cs ex K && gs.all fun q => q.ok K) = true from c.z.x.more)).1
  exact CmD.funD a (List.all_eq_true.mp (He.ba (show (ex K && cs.all fun q => q.ok K) = true from m1)).2 q (List.mem_of_getElem? e))
theorem SaysV.ex {fa : List He.Fa} {fn : List He.DefD} {tf : List He.Defn} {gs : List GetD} {cs : List CmD} {ex : PySem.W.Frag → Bool} {w : World} {h : Heap} {K : PySem.W.Frag} (c : SaysV fa fn tf gs cs ex w h K) : ex K = true :=
  (He.ba (show (ex K && cs.all fun q => q.ok K) = true from (He.ba (show (exV cs ex K && gs.all fun q => q.ok K) = true from c.z.x.more)).1)).1
/-! ### further looks -/
inductive Cj where
  | cread (C : Str)
  | tfind (T : String) (m : Str) (id : String)
  | subF (t c : Cn)
  | self1 (C : Str)
def Cj.ok (K : PySem.W.Frag) : Cj → Bool
  | .cread C => PySem.W.readsIn K (He.ga K C) (.type "type") && He.eqO (PySem.W.specialIn K (.ref (He.ga K C)) "__getattribute__") (some (some (.builtin "type.__getattribute__")))
  | .tfind T m id => He.eqO (PySem.W.findIn K (.type T) m) (some (some (.builtin id)))
  | .subF t c => decide (PySem.W.subIn K (t.val K) (c.val K) = some false)
  | .self1 C => PySem.W.selfFirst K (He.ga K C)
def Cj.tells (K : PySem.W.Frag) : Cj → Prop
  | .cread C => ClX.CRead K (He.ga K C) (.type "type")
  | .tfind T m id => PySem.W.findIn K (.type T) m = some (some (.builtin id))
  | .subF t c => PySem.W.subIn K (t.val K) (c.val K) = some false
  | .self1 C => PySem.W.selfFirst K (He.ga K C) = true
def cjsB (K : PySem.W.Frag) (l : List Cj) : Bool := l.all fun c => c.ok K
theorem Cj.sound {K : PySem.W.Frag} : ∀ {c : Cj}, c.ok K = true → c.tells K
  | .cread C, h => by
    obtain ⟨h1, h2⟩ := He.ba h
    exact ⟨h1, He.eqO_ok h2⟩
  | .tfind T m id, h => He.eqO_ok h
  | .subF t c, h => by
    have z : decide (PySem.W.subIn K (t.val K) (c.val K) = some false) = true := h
    have y : PySem.W.subIn K (t.val K) (c.val K) = some false := of_decide_eq_true z
    exact y
  | .self1 C, h => h
theorem cj_at {K : PySem.W.Frag} {l : List Cj} (h : cjsB K l = true) (i : Nat) {c : Cj} (e : l[i]? = some c) : c.tells K := Cj.sound (List.all_eq_true.mp h c (List.mem_of_getElem? e))
end Rg
namespace L43
open PySem L2 Rg PyProof.Rows
def topS (i : Nat) : Stmt := PySem.Challenge.pw_ringlessday_k43_ratios_reckoned.main.body.getD i (.Pass ⟨0, 0, 0, 0⟩)
def inClass (s : Stmt) (i : Nat) : Stmt := match s with
  | .ClassDef _ _ _ b _ _ _ _ _ _ _ => b.getD i (.Pass ⟨0, 0, 0, 0⟩)
  | _ => .Pass ⟨0, 0, 0, 0⟩
abbrev s_isinteger : Stmt := topS 7
abbrev s_greatestdivisor : Stmt := topS 8
abbrev s_digitsin : Stmt := topS 9
abbrev s_partsin : Stmt := topS 10
abbrev s_pairof : Stmt := topS 12
abbrev s_Lbag : Stmt := topS 14
abbrev s_Lpull : Stmt := topS 15
abbrev s_Lof : Stmt := topS 16
abbrev s_Llike : Stmt := topS 17
abbrev s_Lfield : Stmt := topS 18
abbrev s_Ltry : Stmt := topS 19
abbrev s_Lplain : Stmt := topS 20
abbrev s_Lnumber : Stmt := topS 21
abbrev s_Lso : Stmt := topS 22
abbrev s_Lzero : Stmt := topS 23
abbrev s_law : Stmt := topS 24
abbrev s_Ratioinit : Stmt := inClass (topS 11) 0
abbrev s_Ratioceiling : Stmt := inClass (topS 11) 2
abbrev s_Ratiofloor : Stmt := inClass (topS 11) 3
abbrev s_Ratiocompare : Stmt := inClass (topS 11) 4
abbrev s_Ratioover : Stmt := inClass (topS 11) 5
abbrev s_Rationeg : Stmt := inClass (topS 11) 13
abbrev s_Ratioabs : Stmt := inClass (topS 11) 14
abbrev s_Ratiobool : Stmt := inClass (topS 11) 15
abbrev s_Ratioeq : Stmt := inClass (topS 11) 16
abbrev s_Ratiostr : Stmt := inClass (topS 11) 17
abbrev s_Ratiorepr : Stmt := inClass (topS 11) 18
abbrev s_Ratioadd : Stmt := inClass (topS 11) 6
abbrev s_Ratioradd : Stmt := inClass (topS 11) 7
abbrev s_Ratiosub : Stmt := inClass (topS 11) 8
abbrev s_Ratiorsub : Stmt := inClass (topS 11) 9
abbrev s_Ratiomul : Stmt := inClass (topS 11) 10
abbrev s_Ratiormul : Stmt := inClass (topS 11) 11
abbrev s_Ratiofloordiv : Stmt := inClass (topS 11) 12
abbrev s_InvalidTextinit : Stmt := inClass (topS 2) 0
abbrev s_NothingLeftinit : Stmt := inClass (topS 4) 0
abbrev s_Ratioread : Stmt := inClass (topS 11) 1
def d_isinteger : He.DefD := ⟨("is_integer", none), "is_integer", "is_integer", defArgs s_isinteger, defBody s_isinteger, defScope s_isinteger, [], []⟩
def d_greatestdivisor : He.DefD := ⟨("greatest_divisor", none), "greatest_divisor", "greatest_divisor", defArgs s_greatestdivisor, defBody s_greatestdivisor, defScope s_greatestdivisor, [], []⟩
def d_digitsin : He.DefD := ⟨("digits_in", none), "digits_in", "digits_in", defArgs s_digitsin, defBody s_digitsin, defScope s_digitsin, [], []⟩
def d_partsin : He.DefD := ⟨("parts_in", none), "parts_in", "parts_in", defArgs s_partsin, defBody s_partsin, defScope s_partsin, [], []⟩
def d_pairof : He.DefD := ⟨("pair_of", none), "pair_of", "pair_of", defArgs s_pairof, defBody s_pairof, defScope s_pairof, [], []⟩
def d_Lbag : He.DefD := ⟨("_law_bag", none), "_law_bag", "_law_bag", defArgs s_Lbag, defBody s_Lbag, defScope s_Lbag, [], []⟩
def d_Lpull : He.DefD := ⟨("_law_pull", none), "_law_pull", "_law_pull", defArgs s_Lpull, defBody s_Lpull, defScope s_Lpull, [], []⟩
def d_Lof : He.DefD := ⟨("_law_of", none), "_law_of", "_law_of", defArgs s_Lof, defBody s_Lof, defScope s_Lof, [], []⟩
def d_Llike : He.DefD := ⟨("_law_like", none), "_law_like", "_law_like", defArgs s_Llike, defBody s_Llike, defScope s_Llike, [], []⟩
def d_Lfield : He.DefD := ⟨("_law_field", none), "_law_field", "_law_field", defArgs s_Lfield, defBody s_Lfield, defScope s_Lfield, [], []⟩
def d_Ltry : He.DefD := ⟨("_law_try", none), "_law_try", "_law_try", defArgs s_Ltry, defBody s_Ltry, defScope s_Ltry, [], []⟩
def d_Lplain : He.DefD := ⟨("_law_plain", none), "_law_plain", "_law_plain", defArgs s_Lplain, defBody s_Lplain, defScope s_Lplain, [], []⟩
def d_Lnumber : He.DefD := ⟨("_law_number", none), "_law_number", "_law_number", defArgs s_Lnumber, defBody s_Lnumber, defScope s_Lnumber, [], []⟩
def d_Lso : He.DefD := ⟨("_law_so", none), "_law_so", "_law_so", defArgs s_Lso, defBody s_Lso, defScope s_Lso, [], []⟩
def d_Lzero : He.DefD := ⟨("_law_zero", none), "_law_zero", "_law_zero", defArgs s_Lzero, defBody s_Lzero, defScope s_Lzero, [], []⟩
def d_law : He.DefD := ⟨("law", none), "law", "law", defArgs s_law, defBody s_law, defScope s_law, [], []⟩
def d_Ratioinit : He.DefD := ⟨("Ratio", some "__init__"), "__init__", "Ratio.__init__", defArgs s_Ratioinit, defBody s_Ratioinit, defScope s_Ratioinit, [.int 1], []⟩
def d_Ratioceiling : He.DefD := ⟨("Ratio", some "ceiling"), "ceiling", "Ratio.ceiling", defArgs s_Ratioceiling, defBody s_Ratioceiling, defScope s_Ratioceiling, [], []⟩
def d_Ratiofloor : He.DefD := ⟨("Ratio", some "floor"), "floor", "Ratio.floor", defArgs s_Ratiofloor, defBody s_Ratiofloor, defScope s_Ratiofloor, [], []⟩
def d_Ratiocompare : He.DefD := ⟨("Ratio", some "compare"), "compare", "Ratio.compare", defArgs s_Ratiocompare, defBody s_Ratiocompare, defScope s_Ratiocompare, [], []⟩
def d_Ratioover : He.DefD := ⟨("Ratio", some "over"), "over", "Ratio.over", defArgs s_Ratioover, defBody s_Ratioover, defScope s_Ratioover, [], []⟩
def d_Rationeg : He.DefD := ⟨("Ratio", some "__neg__"), "__neg__", "Ratio.__neg__", defArgs s_Rationeg, defBody s_Rationeg, defScope s_Rationeg, [], []⟩
def d_Ratioabs : He.DefD := ⟨("Ratio", some "__abs__"), "__abs__", "Ratio.__abs__", defArgs s_Ratioabs, defBody s_Ratioabs, defScope s_Ratioabs, [], []⟩
def d_Ratiobool : He.DefD := ⟨("Ratio", some "__bool__"), "__bool__", "Ratio.__bool__", defArgs s_Ratiobool, defBody s_Ratiobool, defScope s_Ratiobool, [], []⟩
def d_Ratioeq : He.DefD := ⟨("Ratio", some "__eq__"), "__eq__", "Ratio.__eq__", defArgs s_Ratioeq, defBody s_Ratioeq, defScope s_Ratioeq, [], []⟩
def d_Ratiostr : He.DefD := ⟨("Ratio", some "__str__"), "__str__", "Ratio.__str__", defArgs s_Ratiostr, defBody s_Ratiostr, defScope s_Ratiostr, [], []⟩
def d_Ratiorepr : He.DefD := ⟨("Ratio", some "__repr__"), "__repr__", "Ratio.__repr__", defArgs s_Ratiorepr, defBody s_Ratiorepr, defScope s_Ratiorepr, [], []⟩
def d_Ratioadd : He.DefD := ⟨("Ratio", some "__add__"), "__add__", "Ratio.__add__", defArgs s_Ratioadd, defBody s_Ratioadd, defScope s_Ratioadd, [], []⟩
def d_Ratioradd : He.DefD := ⟨("Ratio", some "__radd__"), "__radd__", "Ratio.__radd__", defArgs s_Ratioradd, defBody s_Ratioradd, defScope s_Ratioradd, [], []⟩
def d_Ratiosub : He.DefD := ⟨("Ratio", some "__sub__"), "__sub__", "Ratio.__sub__", defArgs s_Ratiosub, defBody s_Ratiosub, defScope s_Ratiosub, [], []⟩
def d_Ratiorsub : He.DefD := ⟨("Ratio", some "__rsub__"), "__rsub__", "Ratio.__rsub__", defArgs s_Ratiorsub, defBody s_Ratiorsub, defScope s_Ratiorsub, [], []⟩
def d_Ratiomul : He.DefD := ⟨("Ratio", some "__mul__"), "__mul__", "Ratio.__mul__", defArgs s_Ratiomul, defBody s_Ratiomul, defScope s_Ratiomul, [], []⟩
def d_Ratiormul : He.DefD := ⟨("Ratio", some "__rmul__"), "__rmul__", "Ratio.__rmul__", defArgs s_Ratiormul, defBody s_Ratiormul, defScope s_Ratiormul, [], []⟩
def d_Ratiofloordiv : He.DefD := ⟨("Ratio", some "__floordiv__"), "__floordiv__", "Ratio.__floordiv__", defArgs s_Ratiofloordiv, defBody s_Ratiofloordiv, defScope s_Ratiofloordiv, [], []⟩
def d_InvalidTextinit : He.DefD := ⟨("InvalidText", some "__init__"), "__init__", "InvalidText.__init__", defArgs s_InvalidTextinit, defBody s_InvalidTextinit, defScope s_InvalidTextinit, [], []⟩
def d_NothingLeftinit : He.DefD := ⟨("NothingLeft", some "__init__"), "__init__", "NothingLeft.__init__", defArgs s_NothingLeftinit, defBody s_NothingLeftinit, defScope s_NothingLeftinit, [], []⟩
def d_Ratioread : He.DefD := ⟨("Ratio", some "read"), "read", "Ratio.read", defArgs s_Ratioread, defBody s_Ratioread, defScope s_Ratioread, [], []⟩
def fn : List He.DefD := ([d_isinteger, d_greatestdivisor, d_digitsin, d_partsin, d_pairof, d_Lbag, d_Lpull, d_Lof, d_Llike, d_Lfield, d_Ltry, d_Lplain, d_Lnumber, d_Lso, d_Lzero, d_law, d_Ratioinit, d_Ratioceiling, d_Ratiofloor, d_Ratiocompare, d_Ratioover, d_Rationeg, d_Ratioabs, d_Ratiobool, d_Ratioeq, d_Ratiostr, d_Ratiorepr, d_Ratioadd, d_Ratioradd, d_Ratiosub] : List He.DefD) ++ ([d_Ratiorsub, d_Ratiomul, d_Ratiormul, d_Ratiofloordiv, d_InvalidTextinit, d_NothingLeftinit] : List He.DefD)
def fa : List He.Fa := ([.glo "is_integer", .glo "greatest_divisor", .glo "digits_in", .glo "parts_in", .glo "pair_of", .glo "_law_bag", .glo "_law_pull", .glo "_law_of", .glo "_law_like", .glo "_law_field", .glo "_law_try", .glo "_law_plain", .glo "_law_number", .glo "_law_so", .glo "_law_zero", .glo "law", .glo "DayError", .glo "Missing", .glo "Ratio", .glo "InvalidText", .glo "NothingLeft", .free "isinstance", .free "len", .free "all", .free "abs", .free "int", .free "str", .free "list", .free "tuple", .free "bool"] : List He.Fa) ++ ([.free "range", .free "zip", .free "repr", .free "ZeroDivisionError"] : List He.Fa)
def erl : List (Str × XB × List Str) := ([("InvalidText", XB.value, ["code", "line"]), ("NothingLeft", XB.index, ["code"])] : List (Str × XB × List Str))
def cks : List Ck := ([.gl "DIGITS" (.str "0123456789"), .cls "Ratio", .mk "Ratio" "Ratio", .find "Ratio" "__ne__" "object.__ne__", .no "Ratio" "top", .no "Ratio" "bottom", .no "Ratio" "__rfloordiv__", .spec "Ratio" "__add__" "Ratio", .spec "Ratio" "__radd__" "Ratio", .spec "Ratio" "__sub__" "Ratio", .spec "Ratio" "__rsub__" "Ratio", .spec "Ratio" "__mul__" "Ratio", .spec "Ratio" "__rmul__" "Ratio", .spec "Ratio" "__floordiv__" "Ratio", .spec "Ratio" "__neg__" "Ratio", .spec "Ratio" "__abs__" "Ratio", .spec "Ratio" "__bool__" "Ratio", .spec "Ratio" "__eq__" "Ratio", .spec "Ratio" "__str__" "Ratio", .spec "Ratio" "__repr__" "Ratio", .meth "Ratio" "ceiling" "Ratio", .meth "Ratio" "floor" "Ratio", .meth "Ratio" "compare" "Ratio", .meth "Ratio" "over" "Ratio", .kit (.own "Ratio") (.own "Ratio") true, .nf "Ratio" (.own "Ratio"), .nf "Ratio" (.ty "str"), .kit (.ty "str") (.own "Ratio") false, .nf "Ratio" (.ty "int"), .kit (.ty "int") (.own "Ratio") false] : List Ck) ++ ([.exm "InvalidText" (.own "DayError") true, .exm "InvalidText" (.own "Missing") false, .exm "InvalidText" (.own "NothingLeft") false] : List Ck)
def tf : List He.Defn := [("law", none)]
def cjs : List Cj := ([.cread "Ratio", .self1 "Ratio", .subF (.ty "int") (.own "Ratio"), .subF (.own "Ratio") (.ty "int"), .tfind "int" "__add__" "int.__add__", .tfind "int" "__radd__" "int.__radd__", .tfind "int" "__sub__" "int.__sub__", .tfind "int" "__rsub__" "int.__rsub__", .tfind "int" "__mul__" "int.__mul__", .tfind "int" "__rmul__" "int.__rmul__", .tfind "int" "__floordiv__" "int.__floordiv__", .tfind "int" "__rfloordiv__" "int.__rfloordiv__"] : List Cj)
def ex (K : PySem.W.Frag) : Bool := erB K erl && (cjsB K cjs && cksB K cks)
def loose : List Str := (["DayError", "InvalidText", "Missing", "NothingLeft", "DIGITS", "is_integer", "greatest_divisor", "digits_in", "parts_in", "Ratio", "pair_of", "_law_bag", "_law_pull", "_law_of", "_law_like", "_law_field", "_law_try", "_law_plain", "_law_number", "_law_so", "_law_zero"] : List Str)
def gs : List GetD := []
def cs : List CmD := [⟨"Ratio", "read", d_Ratioread⟩]
abbrev R : PySem.W.OpenRow := PySem.W.OpenLaw.row PySem.Challenge.rw_ringlessday_k43_ratios_reckoned
abbrev hk : PySem.W.Hook := hookV 5 fa fn tf gs cs ex
def ob (s : PySem.W.SharedT) : AlV := obsV 5 fa fn tf gs cs ex (HandSHeadRun.getT s)
theorem ob_eq (s : PySem.W.SharedT) : ob s = hk.obs s.abs := obsV_eq (HandSHeadRun.getT_eq s)
theorem run (w : World) : HandSHeadRun.RunEq R (PySem.W.view R.prog [24]) hk ob 20000 loose w := by
  intro os
  kernel_rfl
end L43
namespace Rg
open PySem L2
/-! ### data -/
/-- a lambda that was made: its code object at c, its cells clos, its defaults' tuple (of one 0) at dt -/
structure Lm where
  qual : Str
  params : Arguments
  body : Expr
  scope : Scope
  clos : List (Str × Addr)
  dt : Option Addr
  doc : Value
  pm : Value
  c : Addr
  ct : Value
def Lm.dV (L : Lm) : Value := match L.dt with
  | none => .none
  | some d => .ref d
abbrev Lm.fd (L : Lm) : FuncData := PySem.W.kdv_fn "<lambda>" L.qual L.params (.expr L.body) L.scope L.clos L.dV L.doc L.pm (.ref L.c) L.ct
abbrev Lm.obj (L : Lm) : Obj := { cls := .type "function", data := .func L.fd }
/-- a thing that is known to the object -/
def ExO (a : Addr) (ob : Obj) : HO := .ext fun h => h.get? a = some ob
/-- what a value is worth, without the heap; exc: an error of an own class with its fields; cau: such a one, caught; seq: a list that is only read (the script); raw: a value by itself (an object that changes, a class, a def) -/
inductive D where
  | non
  | bl (b : Bool)
  | int (i : Int)
  | str (x : Str)
  | list (ds : List D)
  | tup (ds : List D)
  | obj (C : Addr) (ns : List Str) (ds : List D)
  | exc (C : Addr) (ns : List Str) (ds : List D)
  | cau (a dd C : Addr) (ns : List Str) (ds : List D)
  | seq (ds : List D)
  | raw (v : V)
  | fob (L : Lm)
  | dict (ks : List Key) (ds : List D)
mutual
inductive Rp (K : PySem.W.Frag) (G : Hp) : V → D → Prop
  | non : Rp K G .non .non
  | bl (b : Bool) : Rp K G (.bl b) (.bl b)
  | int (i : Int) : Rp K G (.int i) (.int i)
  | str (x : Str) : Rp K G (.str x) (.str x)
  | lst {a : Addr} {xs : List V} {ds : List D} : G a = some (.lst xs) → RpAll K G xs ds → Rp K G (.ref a) (.list ds)
  | tup {a : Addr} {xs : List V} {ds : List D} : SqT K G a xs → RpAll K G xs ds → Rp K G (.ref a) (.tup ds)
  | obj {a C dx : Addr} {fs : List (Str × V)} {ds : List D} : G a = some (.ins C dx fs) → RpAll K G (fs.map (·.2)) ds → Rp K G (.ref a) (.obj C (fs.map (·.1)) ds)
  | exc {a C dx : Addr} {fs : List (Str × V)} {ds : List D} : G a = some (exo a C (some dx)) → G dx = some (exd dx fs) → RpAll K G (fs.map (·.2)) ds → Rp K G (.ref a) (.exc C (fs.map (·.1)) ds)
  | cau {a C dd : Addr} {fs : List (Str × V)} {ds : List D} : G dd = some (.xd fs) → RpAll K G (fs.map (·.2)) ds → Rp K G (.ref a) (.cau a dd C (fs.map (·.1)) ds)
  | seq {a : Addr} {xs : List V} {ds : List D} : SqL K G a xs → RpAll K G xs ds → Rp K G (.ref a) (.seq ds)
  | raw (v : V) : Rp K G v (.raw v)
  | dict {a : Addr} {us : List (Key × V)} {ds : List D} : G a = some (.dK us) → RpAll K G (us.map (·.2)) ds → Rp K G (.ref a) (.dict (us.map (·.1)) ds)
  | fob {a : Addr} {L : Lm} : G a = some (ExO a L.obj) → G L.c = some (LamX.CodeO L.c L.qual) → (∀ d, L.dt = some d → G d = some (.tup [.int 0])) → Rp K G (.ref a) (.fob L)
inductive RpAll (K : PySem.W.Frag) (G : Hp) : List V → List D → Prop
  | nil : RpAll K G [] []
  | cons {v : V} {vs : List V} {d : D} {ds : List D} : Rp K G v d → RpAll K G vs ds → RpAll K G (v :: vs) (d :: ds)
end
theorem sq {K : PySem.W.Frag} {H : Hp} {a : Addr} {xs : List V} (h : H a = some (.lst xs)) : SqL K H a xs := .inl (.inl h)
theorem same_t {K : PySem.W.Frag} {H H' : Hp} {a : Addr} {xs : List V} (e : Same H H') (h : SqT K H a xs) : SqT K H' a xs := by
  rcases h with (h | ⟨o, h⟩) | h
  · exact .inl (.inl (e _ _ h))
  · exact .inl (.inr ⟨o, e _ _ h⟩)
  · exact .inr h
mutual
theorem Rp.mono {K : PySem.W.Frag} {G G' : Hp} (s : Same G G') : ∀ {v : V} {d : D}, Rp K G v d → Rp K G' v d
  | _, _, .non => .non
  | _, _, .bl b => .bl b
  | _, _, .int i => .int i
  | _, _, .str x => .str x
  | _, _, .lst h r => .lst (s _ _ h) (RpAll.mono s r)
  | _, _, .tup h r => .tup (same_t s h) (RpAll.mono s r)
  | _, _, .obj h r => .obj (s _ _ h) (RpAll.mono s r)
  | _, _, .exc h h2 r => .exc (s _ _ h) (s _ _ h2) (RpAll.mono s r)
  | _, _, .cau h r => .cau (s _ _ h) (RpAll.mono s r)
  | _, _, .seq h r => .seq (s.seq h) (RpAll.mono s r)
  | _, _, .raw v => .raw v
  | _, _, .dict h r => .dict (s _ _ h) (RpAll.mono s r)
  | _, _, .fob h1 h2 h3 => .fob (s _ _ h1) (s _ _ h2) (fun d e => s _ _ (h3 d e))
theorem RpAll.mono {K : PySem.W.Frag} {G G' : Hp} (s : Same G G') : ∀ {vs : List V} {ds : List D}, RpAll K G vs ds → RpAll K G' vs ds
  | _, _, .nil => .nil
  | _, _, .cons h r => .cons (Rp.mono s h) (RpAll.mono s r)
end
section
variable {K : PySem.W.Frag} {G : Hp}
theorem RpAll.length : ∀ {vs : List V} {ds : List D}, RpAll K G vs ds → vs.length = ds.length
  | _, _, .nil => rfl
  | _, _, .cons _ r => by rw [List.length_cons, List.length_cons, RpAll.length r]
theorem RpAll.get : ∀ {vs : List V} {ds : List D} {i : Nat} {d : D}, RpAll K G vs ds → ds[i]? = some d → ∃ v, vs[i]? = some v ∧ Rp K G v d
  | _, _, _, _, .nil, e => by simp at e
  | _, _, 0, _, .cons (v := v) h _, e => by
    have e2 := Option.some.inj (show some _ = some _ from e)
    exact ⟨v, rfl, e2 ▸ h⟩
  | _, _, i + 1, _, .cons _ r, e => RpAll.get (i := i) r e
theorem RpAll.getV : ∀ {vs : List V} {ds : List D} {i : Nat} {v : V}, RpAll K G vs ds → vs[i]? = some v → ∃ d, ds[i]? = some d ∧ Rp K G v d
  | _, _, _, _, .nil, e => by simp at e
  | _, _, 0, _, .cons (d := d) h _, e => by
    have e2 := Option.some.inj (show some _ = some _ from e)
    exact ⟨d, rfl, e2 ▸ h⟩
  | _, _, i + 1, _, .cons _ r, e => RpAll.getV (i := i) r e
theorem RpAll.append : ∀ {vs ws : List V} {ds es : List D}, RpAll K G vs ds → RpAll K G ws es → RpAll K G (vs ++ ws) (ds ++ es)
  | _, _, _, _, .nil, s => s
  | _, _, _, _, .cons h r, s => .cons h (RpAll.append r s)
theorem RpAll.take : ∀ (n : Nat) {vs : List V} {ds : List D}, RpAll K G vs ds → RpAll K G (vs.take n) (ds.take n)
  | 0, _, _, _ => .nil
  | _ + 1, _, _, .nil => .nil
  | n + 1, _, _, .cons h r => .cons h (RpAll.take n r)
theorem RpAll.drop : ∀ (n : Nat) {vs : List V} {ds : List D}, RpAll K G vs ds → RpAll K G (vs.drop n) (ds.drop n)
  | 0, _, _, r => r
  | _ + 1, _, _, .nil => .nil
  | n + 1, _, _, .cons _ r => RpAll.drop n r
theorem RpAll.ints : ∀ (ns : List Int), RpAll K G (ns.map V.int) (ns.map D.int)
  | [] => .nil
  | n :: r => .cons (.int n) (RpAll.ints r)
theorem Rp.int_inv {v : V} {i : Int} (h : Rp K G v (.int i)) : v = .int i := by cases h; rfl
theorem Rp.bl_inv {v : V} {b : Bool} (h : Rp K G v (.bl b)) : v = .bl b := by cases h; rfl
theorem Rp.str_inv {v : V} {x : Str} (h : Rp K G v (.str x)) : v = .str x := by cases h; rfl
theorem Rp.non_inv {v : V} (h : Rp K G v .non) : v = .non := by cases h; rfl
theorem Rp.raw_inv {v u : V} (h : Rp K G v (.raw u)) : v = u := by cases h; rfl
theorem Rp.list_inv {v : V} {ds : List D} (h : Rp K G v (.list ds)) : ∃ a xs, v = .ref a ∧ SqL K G a xs ∧ RpAll K G xs ds := by
  cases h with
  | lst h r => exact ⟨_, _, rfl, sq h, r⟩
theorem Rp.list_ex {v : V} {ds : List D} (h : Rp K G v (.list ds)) : ∃ a xs, v = .ref a ∧ G a = some (.lst xs) ∧ RpAll K G xs ds := by
  cases h with
  | lst h r => exact ⟨_, _, rfl, h, r⟩
theorem Rp.tup_inv {v : V} {ds : List D} (h : Rp K G v (.tup ds)) : ∃ a xs, v = .ref a ∧ SqT K G a xs ∧ RpAll K G xs ds := by
  cases h with
  | tup h r => exact ⟨_, _, rfl, h, r⟩
theorem RpAll.int_inv : ∀ {ns : List Int} {vs : List V}, RpAll K G vs (ns.map D.int) → vs = ns.map V.int
  | [], _, .nil => rfl
  | n :: r, _, .cons h t => by rw [h.int_inv, RpAll.int_inv t]; rfl
theorem RpAll.bl_inv : ∀ {ns : List Bool} {vs : List V}, RpAll K G vs (ns.map D.bl) → vs = ns.map V.bl
  | [], _, .nil => rfl
  | n :: r, _, .cons h t => by rw [h.bl_inv, RpAll.bl_inv t]; rfl
theorem RpAll.str_inv : ∀ {ns : List Str} {vs : List V}, RpAll K G vs (ns.map D.str) → vs = ns.map V.str
  | [], _, .nil => rfl
  | n :: r, _, .cons h t => by rw [h.str_inv, RpAll.str_inv t]; rfl
end
/-! ### the two heaps: G what stands for ever, H what is; M what changes, by what is true of it -/
abbrev Ml := List (Addr × (Hp → HO → Prop))
structure Wd0 (M : Ml) (G H : Hp) : Prop where
  sub : Same G H
  mt : ∀ p ∈ M, G p.1 = none ∧ ∃ o, H p.1 = some o ∧ p.2 G o
  mono : ∀ p ∈ M, ∀ G1 G2 o, Same G1 G2 → p.2 G1 o → p.2 G2 o
  nd : (M.map (·.1)).Nodup
theorem same_new {H : Hp} {p : Addr} {o : HO} (h : H p = none) : Same H (upd H p o) := fun b x e => by
  rw [upd_ne (ne_of_none e h)]
  exact e
section
variable {M : Ml} {G H : Hp} {p : Addr} {o : HO}
theorem Wd0.free (w : Wd0 M G H) (h : H p = none) : G p = none := w.sub.free h
/-- a new thing that stands for ever -/
theorem Wd0.new (w : Wd0 M G H) (h : H p = none) : Wd0 M (upd G p o) (upd H p o) where
  sub := fun a u e => by
    by_cases q : a = p
    · subst q; rw [upd_same] at e ⊢; exact e
    · rw [upd_ne q] at e ⊢; exact w.sub a u e
  mt := fun m hm => by
    obtain ⟨g, u, hu, f⟩ := w.mt m hm
    have ne : m.1 ≠ p := ne_of_none hu h
    refine ⟨by rw [upd_ne ne]; exact g, u, by rw [upd_ne ne]; exact hu, w.mono m hm _ _ _ (same_new (w.free h)) f⟩
  mono := w.mono
  nd := w.nd
/-- a new thing that changes -/
theorem Wd0.newM (w : Wd0 M G H) (h : H p = none) {φ : Hp → HO → Prop} (f : φ G o) (mo : ∀ G1 G2 o, Same G1 G2 → φ G1 o → φ G2 o) : Wd0 ((p, φ) :: M) G (upd H p o) where
  sub := fun a u e => by
    rw [upd_ne (ne_of_none (w.sub _ _ e) h)]
    exact w.sub a u e
  mt := fun m hm => by
    rcases List.mem_cons.mp hm with rfl | hm
    · exact ⟨w.free h, o, upd_same, f⟩
    · obtain ⟨g, u, hu, f⟩ := w.mt m hm
      exact ⟨g, u, by rw [upd_ne (ne_of_none hu h)]; exact hu, f⟩
  mono := fun m hm => by
    rcases List.mem_cons.mp hm with rfl | hm
    · exact mo
    · exact w.mono m hm
  nd := by
    rw [List.map_cons, List.nodup_cons]
    refine ⟨fun hm => ?_, w.nd⟩
    obtain ⟨q, hq, e⟩ := List.mem_map.mp hm
    obtain ⟨_, u, hu, _⟩ := w.mt q hq
    exact ne_of_none hu h e
theorem mem_eq : ∀ {M : Ml} {p q : Addr × (Hp → HO → Prop)}, (M.map (·.1)).Nodup → p ∈ M → q ∈ M → p.1 = q.1 → p = q
  | [], _, _, _, h, _, _ => by simp at h
  | m :: r, p, q, nd, hp, hq, e => by
    rw [List.map_cons, List.nodup_cons] at nd
    rcases List.mem_cons.mp hp with h1 | h1
    · rcases List.mem_cons.mp hq with h2 | h2
      · rw [h1, h2]
      · exact absurd (List.mem_map.mpr ⟨q, h2, by rw [← e, h1]⟩) nd.1
    · rcases List.mem_cons.mp hq with h2 | h2
      · exact absurd (List.mem_map.mpr ⟨p, h1, by rw [e, h2]⟩) nd.1
      · exact mem_eq nd.2 h1 h2 e
/-- a thing that changes is changed -/
theorem Wd0.write (w : Wd0 M G H) {φ : Hp → HO → Prop} (hp : (p, φ) ∈ M) (f : φ G o) : Wd0 M G (upd H p o) where
  sub := fun a u e => by
    have ne : a ≠ p := fun z => by
      have := (w.mt _ hp).1
      rw [z] at e; rw [e] at this; cases this
    rw [upd_ne ne]; exact w.sub a u e
  mt := fun m hm => by
    obtain ⟨g, u, hu, f'⟩ := w.mt m hm
    by_cases q : m.1 = p
    · have e := mem_eq w.nd hm hp q
      subst e
      exact ⟨g, o, upd_same, f⟩
    · exact ⟨g, u, by rw [upd_ne q]; exact hu, f'⟩
  mono := w.mono
  nd := w.nd
/-- what is told of it is told anew -/
theorem Wd0.turn {φ ψ : Hp → HO → Prop} (w : Wd0 ((p, φ) :: M) G H) (e : H p = some o) (f : ψ G o) (mo : ∀ G1 G2 o, Same G1 G2 → ψ G1 o → ψ G2 o) : Wd0 ((p, ψ) :: M) G H where
  sub := w.sub
  mt := fun m hm => by
    rcases List.mem_cons.mp hm with rfl | hm
    · exact ⟨(w.mt _ List.mem_cons_self).1, o, e, f⟩
    · exact w.mt m (List.mem_cons_of_mem _ hm)
  mono := fun m hm => by
    rcases List.mem_cons.mp hm with rfl | hm
    · exact mo
    · exact w.mono m (List.mem_cons_of_mem _ hm)
  nd := w.nd
/-- it stands for ever from now on -/
theorem Wd0.freeze {φ : Hp → HO → Prop} (w : Wd0 ((p, φ) :: M) G H) (e : H p = some o) : Wd0 M (upd G p o) H where
  sub := fun a u h => by
    by_cases q : a = p
    · subst q; rw [upd_same] at h; rw [e]; exact h
    · rw [upd_ne q] at h; exact w.sub a u h
  mt := fun m hm => by
    have g0 : G p = none := (w.mt _ List.mem_cons_self).1
    have ne : m.1 ≠ p := fun z => by
      have nd := w.nd
      rw [List.map_cons, List.nodup_cons] at nd
      exact nd.1 (List.mem_map.mpr ⟨m, hm, z⟩)
    obtain ⟨g, u, hu, f⟩ := w.mt m (List.mem_cons_of_mem _ hm)
    exact ⟨by rw [upd_ne ne]; exact g, u, hu, w.mono m (List.mem_cons_of_mem _ hm) _ _ _ (same_new g0) f⟩
  mono := fun m hm => w.mono m (List.mem_cons_of_mem _ hm)
  nd := (List.nodup_cons.mp w.nd).2
theorem Wd0.tail {m : Addr × (Hp → HO → Prop)} (w : Wd0 (m :: M) G H) : Wd0 M G H := ⟨w.sub, fun q hq => w.mt q (List.mem_cons_of_mem _ hq), fun q hq => w.mono q (List.mem_cons_of_mem _ hq), (List.nodup_cons.mp w.nd).2⟩
theorem Wd0.less {M1 : Ml} (w : Wd0 M G H) (s : M1.Sublist M) : Wd0 M1 G H := ⟨w.sub, fun q hq => w.mt q (s.mem hq), fun q hq => w.mono q (s.mem hq), w.nd.sublist (s.map _)⟩
end
/-- M: l what changes; b what the one knows of it who takes an exception; ex the exceptions that he takes, W his wish -/
structure Mt where
  l : Ml
  b : Ml := []
  sub : b.Sublist l := by exact List.nil_sublist _
  ex : Ml → Hp → L2.St → Value → Option Addr → Prop := fun _ _ _ _ _ => False
  W : WX := fun _ _ _ _ => False
instance : Membership (Addr × (Hp → HO → Prop)) Mt := ⟨fun M p => p ∈ M.l⟩
abbrev Mt.cons (M : Mt) (p : Addr × (Hp → HO → Prop)) : Mt := { M with l := p :: M.l, sub := M.sub.cons p }
structure Wd (M : Mt) (G H : Hp) : Prop extends Wd0 M.l G H where
  xk : ∀ l' cls d σ' G' H', M.ex l' G' σ' cls d → Same G G' → Wd0 (l' ++ M.b) G' H' → M.W cls d σ' H'
section
variable {M : Mt} {G H : Hp} {p : Addr} {o : HO}
theorem Wd.free (w : Wd M G H) (h : H p = none) : G p = none := w.sub.free h
theorem Wd.to (w : Wd M G H) {G' H' : Hp} (s : Same G G') (w' : Wd0 M.l G' H') : Wd M G' H' := ⟨w', fun l' cls d σ G2 H2 x s2 => w.xk l' cls d σ G2 H2 x (s.trans s2)⟩
theorem Wd.new (w : Wd M G H) (h : H p = none) : Wd M (upd G p o) (upd H p o) := w.to (same_new (w.free h)) (w.toWd0.new h)
theorem Wd.newM (w : Wd M G H) (h : H p = none) {φ : Hp → HO → Prop} (f : φ G o) (mo : ∀ G1 G2 o, Same G1 G2 → φ G1 o → φ G2 o) : Wd (M.cons (p, φ)) G (upd H p o) := ⟨w.toWd0.newM h f mo, w.xk⟩
theorem Wd.write (w : Wd M G H) {φ : Hp → HO → Prop} (hp : (p, φ) ∈ M) (f : φ G o) : Wd M G (upd H p o) := ⟨w.toWd0.write hp f, w.xk⟩
theorem Wd.turn {φ ψ : Hp → HO → Prop} (w : Wd (M.cons (p, φ)) G H) (e : H p = some o) (f : ψ G o) (mo : ∀ G1 G2 o, Same G1 G2 → ψ G1 o → ψ G2 o) : Wd (M.cons (p, ψ)) G H := ⟨w.toWd0.turn e f mo, w.xk⟩
theorem Wd.freeze {φ : Hp → HO → Prop} (w : Wd (M.cons (p, φ)) G H) (e : H p = some o) : Wd M (upd G p o) H := by
  have g0 : G p = none := (w.mt _ List.mem_cons_self).1
  exact ⟨w.toWd0.freeze e, fun l' cls d σ G2 H2 x s2 => w.xk l' cls d σ G2 H2 x ((same_new g0).trans s2)⟩
theorem Wd.tail {m : Addr × (Hp → HO → Prop)} (w : Wd (M.cons m) G H) : Wd M G H := ⟨w.toWd0.tail, w.xk⟩
/-- an exception is taken -/
theorem Wd.take (w : Wd M G H) {cls : Value} {d : Option Addr} {σ : L2.St} (x : M.ex [] G σ cls d) : M.W cls d σ H := w.xk [] cls d σ G H x (Same.refl G) (w.toWd0.less M.sub)
end
structure MSub (M M' : Mt) : Prop where
  l : ∀ p ∈ M, p ∈ M'
  ex : M'.ex = M.ex
  W : M'.W = M.W
theorem MSub.refl (M : Mt) : MSub M M := ⟨fun _ h => h, rfl, rfl⟩
theorem MSub.trans {M M1 M2 : Mt} (a : MSub M M1) (b : MSub M1 M2) : MSub M M2 := ⟨fun p h => b.l p (a.l p h), b.ex.trans a.ex, b.W.trans a.W⟩
theorem MSub.cons {M M' : Mt} {p : Addr × (Hp → HO → Prop)} (a : MSub M M') : MSub M (M'.cons p) := ⟨fun q h => List.mem_cons_of_mem _ (a.l q h), a.ex, a.W⟩
theorem MSub.cons2 {M M' : Mt} {p : Addr × (Hp → HO → Prop)} (a : MSub M M') : MSub (M.cons p) (M'.cons p) := ⟨fun q h => (List.mem_cons.mp h).elim (fun e => e ▸ List.mem_cons_self) fun h => List.mem_cons_of_mem _ (a.l q h), a.ex, a.W⟩
/-! ### slots -/
abbrev DS := List (Option D)
structure Sg (K : PySem.W.Frag) (G : Hp) (σ : L2.St) (ds : DS) : Prop where
  len : σ.length = ds.length
  at_ : ∀ (i : Nat) (d : D), ds[i]? = some (some d) → ∃ v, σ[i]? = some (some v) ∧ Rp K G v d
section
variable {K : PySem.W.Frag} {G G' : Hp} {σ : L2.St} {ds : DS}
theorem Sg.mono (s : Same G G') (h : Sg K G σ ds) : Sg K G' σ ds := ⟨h.len, fun i d e => let ⟨v, a, b⟩ := h.at_ i d e; ⟨v, a, b.mono s⟩⟩
theorem Sg.set {v : V} {d : D} (h : Sg K G σ ds) (i : Nat) (r : Rp K G v d) : Sg K G (σ.set i (some v)) (ds.set i (some d)) := by
  refine ⟨by rw [List.length_set, List.length_set, h.len], fun j e q => ?_⟩
  rw [List.getElem?_set] at q ⊢
  by_cases hij : i = j
  · subst hij
    rw [if_pos rfl] at q ⊢
    by_cases hl : i < ds.length
    · rw [if_pos hl] at q
      rw [if_pos (by rw [h.len]; exact hl)]
      cases q
      exact ⟨v, rfl, r⟩
    · rw [if_neg hl] at q; cases q
  · rw [if_neg hij] at q ⊢
    exact h.at_ j e q
theorem Sg.drop {i : Nat} {x : Option V} (h : Sg K G σ ds) : Sg K G (σ.set i x) (ds.set i none) := by
  refine ⟨by rw [List.length_set, List.length_set, h.len], fun j e q => ?_⟩
  rw [List.getElem?_set] at q ⊢
  by_cases hij : i = j
  · subst hij
    rw [if_pos rfl] at q
    split at q <;> cases q
  · rw [if_neg hij] at q ⊢
    exact h.at_ j e q
theorem Sg.start {N : List Str} {vs : List V} {as : List D} (h : RpAll K G vs as) : Sg K G (start N vs) (as.map some ++ List.replicate (N.length - as.length) none) := by
  have hl := h.length
  refine ⟨by unfold L2.start; simp [hl], fun i d e => ?_⟩
  unfold L2.start
  by_cases hi : i < as.length
  · rw [List.getElem?_append_left (by simpa using hi), List.getElem?_map] at e
    cases q : as[i]? with
    | none => rw [q] at e; cases e
    | some d' =>
      rw [q] at e; cases e
      obtain ⟨v, e1, r⟩ := h.get q
      exact ⟨v, by rw [List.getElem?_append_left (by rw [List.length_map, hl]; exact hi), List.getElem?_map, e1]; rfl, r⟩
  · rw [List.getElem?_append_right (by simpa using hi)] at e
    rw [List.getElem?_replicate] at e
    split at e <;> cases e
end
/-! ### exceptions, told of the data -/
inductive XRp (K : PySem.W.Frag) (G : Hp) : Value → Option Addr → D → Prop
  | own {C dd : Addr} {fs : List (Str × V)} {ds : List D} : G dd = some (.xd fs) → RpAll K G (fs.map (·.2)) ds → XRp K G (.ref C) (some dd) (.exc C (fs.map (·.1)) ds)
  | blt (n : String) (d : Option Addr) : XRp K G (.type n) d (.raw (.ty n))
theorem XRp.mono {K : PySem.W.Frag} {G G' : Hp} (s : Same G G') {c : Value} {d : Option Addr} {x : D} (h : XRp K G c d x) : XRp K G' c d x := by
  cases h with
  | own h r => exact .own (s _ _ h) (r.mono s)
  | blt n d => exact .blt n d
def exD (K : PySem.W.Frag) (Rx : D → DS → Prop) : Ml → Hp → L2.St → Value → Option Addr → Prop := fun l' G σ c d => l' = [] ∧ ∃ x ds, Rx x ds ∧ XRp K G c d x ∧ Sg K G σ ds
/-- M takes the exception x from the slots ds -/
def Exk (K : PySem.W.Frag) (M : Mt) (x : D) (ds : DS) : Prop := ∀ G σ c d, XRp K G c d x → Sg K G σ ds → M.ex [] G σ c d
theorem exk_D {K : PySem.W.Frag} {M : Mt} {Rx : D → DS → Prop} {x : D} {ds : DS} (e : M.ex = exD K Rx) (h : Rx x ds) : Exk K M x ds := fun G σ c d hx s => by
  rw [e]
  exact ⟨rfl, x, ds, h, hx, s⟩
/-- M within a try -/
abbrev Mt.tr (M : Mt) (K : PySem.W.Frag) (W : WX) (Rx : D → DS → Prop) : Mt := { l := M.l, b := M.l, sub := List.Sublist.refl _, ex := exD K Rx, W := W }
/-! ### what an expression, a test, an argument list may give -/
section
variable (K : PySem.W.Frag) (M : Mt) (ds : DS)
def Ev (te : TE) (R : D → Prop) : Prop := ∀ (M' : Mt) (σ : L2.St) (G H : Hp) (Q : VK), MSub M M' → Sg K G σ ds → Wd M' G H →
  (∀ v d G' H', Same G G' → Wd M' G' H' → Rp K G' v d → R d → Q v H') → te σ H Q
def EvT (tt : TT) (R : Bool → Prop) : Prop := ∀ (M' : Mt) (σ : L2.St) (G H : Hp) (Q : Bool → Hp → Prop), MSub M M' → Sg K G σ ds → Wd M' G H →
  (∀ b G' H', Same G G' → Wd M' G' H' → R b → Q b H') → tt σ H Q
def EvA (ta : TA) (R : List D → Prop) : Prop := ∀ (M' : Mt) (σ : L2.St) (G H : Hp) (Q : List V → Hp → Prop), MSub M M' → Sg K G σ ds → Wd M' G H →
  (∀ vs es G' H', Same G G' → Wd M' G' H' → RpAll K G' vs es → R es → Q vs H') → ta σ H Q
/-- the ends of a statement, told of the data -/
structure AE where
  nx : DS → Prop
  rt : D → Prop
  bk : DS → Prop := fun _ => False
  ct : DS → Prop := fun _ => False
structure EndsOk (M' : Mt) (G : Hp) (E : AE) (Z : Ends) : Prop where
  nx : ∀ ds' σ' G' H', E.nx ds' → Same G G' → Sg K G' σ' ds' → Wd M' G' H' → Z.nx σ' H'
  rt : ∀ v d G' H', E.rt d → Same G G' → Rp K G' v d → Wd M' G' H' → Z.rt v H'
  bk : ∀ ds' σ' G' H', E.bk ds' → Same G G' → Sg K G' σ' ds' → Wd M' G' H' → Z.bk σ' H'
  ct : ∀ ds' σ' G' H', E.ct ds' → Same G G' → Sg K G' σ' ds' → Wd M' G' H' → Z.ct σ' H'
def Run (ts : TS) (E : AE) : Prop := ∀ (M' : Mt) (σ : L2.St) (G H : Hp) (Z : Ends), MSub M M' → Sg K G σ ds → Wd M' G H → EndsOk K M' G E Z → ts Z σ H
end
theorem EndsOk.mono {K : PySem.W.Frag} {M' : Mt} {G G' : Hp} {E : AE} {Z : Ends} (s : Same G G') (h : EndsOk K M' G E Z) : EndsOk K M' G' E Z :=
  ⟨fun ds σ G1 H1 a b => h.nx ds σ G1 H1 a (s.trans b), fun v d G1 H1 a b => h.rt v d G1 H1 a (s.trans b), fun ds σ G1 H1 a b => h.bk ds σ G1 H1 a (s.trans b), fun ds σ G1 H1 a b => h.ct ds σ G1 H1 a (s.trans b)⟩
section
variable {K : PySem.W.Frag} {M M1 : Mt} {ds : DS} {te ta tb tc : TE} {t u : TT} {R R' : D → Prop} {RT RT' : Bool → Prop}
theorem Ev.weak (h : Ev K M ds te R) (f : ∀ d, R d → R' d) : Ev K M ds te R' := fun M' σ G H Q m s w q => h M' σ G H Q m s w fun v d G' H' a b c r => q v d G' H' a b c (f d r)
theorem Ev.more (h : Ev K M ds te R) (m : MSub M M1) : Ev K M1 ds te R := fun M' σ G H Q m' => h M' σ G H Q (m.trans m')
theorem EvT.weak (h : EvT K M ds t RT) (f : ∀ d, RT d → RT' d) : EvT K M ds t RT' := fun M' σ G H Q m s w q => h M' σ G H Q m s w fun b G' H' a w' r => q b G' H' a w' (f b r)
theorem EvA.weak {ta : TA} {R R' : List D → Prop} (h : EvA K M ds ta R) (f : ∀ d, R d → R' d) : EvA K M ds ta R' := fun M' σ G H Q m s w q => h M' σ G H Q m s w fun v d G' H' a b c r => q v d G' H' a b c (f d r)
theorem Run.more {ts : TS} {E : AE} (h : Run K M ds ts E) (m : MSub M M1) : Run K M1 ds ts E := fun M' σ G H Z m' => h M' σ G H Z (m.trans m')
/-- one after another -/
theorem ev_var {i : Nat} {d : D} (h : ds[i]? = some (some d)) : Ev K M ds (tVar i) (· = d) := fun M' σ G H Q _ s w q =>
  let ⟨v, e, r⟩ := s.at_ i d h
  ⟨v, e, q v d G H (Same.refl G) w r rfl⟩
theorem ev_c {v : V} {d : D} (h : ∀ G, Rp K G v d) : Ev K M ds (tC v) (· = d) := fun M' σ G H Q _ s w q => q v d G H (Same.refl G) w (h G) rfl
theorem ev_cint {i : Int} : Ev K M ds (tC (.int i)) (· = .int i) := ev_c fun _ => .int i
theorem ev_cbl {b : Bool} : Ev K M ds (tC (.bl b)) (· = .bl b) := ev_c fun _ => .bl b
theorem ev_cnon : Ev K M ds (tC .non) (· = .non) := ev_c fun _ => .non
theorem ev_cstr {x : Str} : Ev K M ds (tC (.str x)) (· = .str x) := ev_c fun _ => .str x
theorem ev_craw {v : V} : Ev K M ds (tC v) (· = .raw v) := ev_c fun _ => .raw v
/-- an operation on values: what it asks and gives -/
def OpD (K : PySem.W.Frag) (M : Mt) (r : R2) (a b : D) (R : D → Prop) : Prop := ∀ (M' : Mt) (G H : Hp) (x y : V) (Q : VK), MSub M M' → Rp K G x a → Rp K G y b → Wd M' G H →
  (∀ v d G' H', Same G G' → Wd M' G' H' → Rp K G' v d → R d → Q v H') → r x y H Q
def UnD (K : PySem.W.Frag) (M : Mt) (r : V → Hp → VK → Prop) (a : D) (R : D → Prop) : Prop := ∀ (M' : Mt) (G H : Hp) (x : V) (Q : VK), MSub M M' → Rp K G x a → Wd M' G H →
  (∀ v d G' H', Same G G' → Wd M' G' H' → Rp K G' v d → R d → Q v H') → r x H Q
def CallD (K : PySem.W.Frag) (M : Mt) (r : List V → Hp → VK → Prop) (as : List D) (R : D → Prop) : Prop := ∀ (M' : Mt) (G H : Hp) (xs : List V) (Q : VK), MSub M M' → RpAll K G xs as → Wd M' G H →
  (∀ v d G' H', Same G G' → Wd M' G' H' → Rp K G' v d → R d → Q v H') → r xs H Q
theorem ev_op {r : R2} {Ra Rb : D → Prop} (ha : Ev K M ds ta Ra) (hb : Ev K M ds tb Rb) (hr : ∀ a b, Ra a → Rb b → OpD K M r a b R) : Ev K M ds (tOp r ta tb) R := fun M' σ G H Q m s w q =>
  ha M' σ G H _ m s w fun v a G1 H1 s1 w1 r1 q1 => hb M' σ G1 H1 _ m (s.mono s1) w1 fun u b G2 H2 s2 w2 r2 q2 =>
    hr a b q1 q2 M' G2 H2 v u Q m (r1.mono s2) r2 w2 fun z d G3 H3 s3 w3 r3 q3 => q z d G3 H3 ((s1.trans s2).trans s3) w3 r3 q3
theorem ev_un {r : V → Hp → VK → Prop} {Ra : D → Prop} (ha : Ev K M ds ta Ra) (hr : ∀ a, Ra a → UnD K M r a R) : Ev K M ds (tUn r ta) R := fun M' σ G H Q m s w q =>
  ha M' σ G H _ m s w fun v a G1 H1 s1 w1 r1 q1 => hr a q1 M' G1 H1 v Q m r1 w1 fun z d G3 H3 s3 w3 r3 q3 => q z d G3 H3 (s1.trans s3) w3 r3 q3
theorem ev_cb {r : List V → Hp → VK → Prop} {ta : TA} {Ra : List D → Prop} (ha : EvA K M ds ta Ra) (hr : ∀ as, Ra as → CallD K M r as R) : Ev K M ds (tCB r ta) R := fun M' σ G H Q m s w q =>
  ha M' σ G H _ m s w fun v a G1 H1 s1 w1 r1 q1 => hr a q1 M' G1 H1 v Q m r1 w1 fun z d G3 H3 s3 w3 r3 q3 => q z d G3 H3 (s1.trans s3) w3 r3 q3
theorem ea_nil : EvA K M ds tNil (· = []) := fun M' σ G H Q _ s w q => q [] [] G H (Same.refl G) w .nil rfl
theorem ea_cons {Ra : D → Prop} {ta : TE} {tr : TA} {Rr : List D → Prop} (ha : Ev K M ds ta Ra) (hr : EvA K M ds tr Rr) : EvA K M ds (tCons ta tr) (fun as => ∃ a r, as = a :: r ∧ Ra a ∧ Rr r) := fun M' σ G H Q m s w q =>
  ha M' σ G H _ m s w fun v a G1 H1 s1 w1 r1 q1 => hr M' σ G1 H1 _ m (s.mono s1) w1 fun us bs G2 H2 s2 w2 r2 q2 =>
    q (v :: us) (a :: bs) G2 H2 (s1.trans s2) w2 (.cons (r1.mono s2) r2) ⟨a, bs, rfl, q1, q2⟩
/-- the same where all is known -/
theorem ea1 {a : D} {as : List D} {ta : TE} {tr : TA} (ha : Ev K M ds ta (· = a)) (hr : EvA K M ds tr (· = as)) : EvA K M ds (tCons ta tr) (· = a :: as) :=
  (ea_cons ha hr).weak fun _ ⟨_, _, e, e1, e2⟩ => by rw [e, e1, e2]
theorem ev_tup {ta : TA} {Ra : List D → Prop} (ha : EvA K M ds ta Ra) (hl : ∀ as, Ra as → as.length ≤ 100000) : Ev K M ds (tTup ta) (fun d => ∃ as, d = .tup as ∧ Ra as) := fun M' σ G H Q m s w q =>
  ha M' σ G H _ m s w fun vs as G1 H1 s1 w1 r1 q1 => ⟨by rw [r1.length]; exact Nat.le_trans (hl as q1) (by decide), fun p hp =>
    q (.ref p) (.tup as) (upd G1 p (.tup vs)) (upd H1 p (.tup vs)) (s1.trans (same_new (w1.free hp))) (w1.new hp) (.tup (.inl (.inl upd_same)) (r1.mono (same_new (w1.free hp)))) ⟨as, rfl, q1⟩⟩
theorem ev_lst {ta : TA} {Ra : List D → Prop} (ha : EvA K M ds ta Ra) (hl : ∀ as, Ra as → as.length ≤ 100000) : Ev K M ds (tLst ta) (fun d => ∃ as, d = .list as ∧ Ra as) := fun M' σ G H Q m s w q =>
  ha M' σ G H _ m s w fun vs as G1 H1 s1 w1 r1 q1 => ⟨by rw [r1.length]; exact Nat.le_trans (hl as q1) (by decide), fun p hp =>
    q (.ref p) (.list as) (upd G1 p (.lst vs)) (upd H1 p (.lst vs)) (s1.trans (same_new (w1.free hp))) (w1.new hp) (.lst upd_same (r1.mono (same_new (w1.free hp)))) ⟨as, rfl, q1⟩⟩
theorem ev_tup1 {ta : TA} {as : List D} (ha : EvA K M ds ta (· = as)) (hl : as.length ≤ 100000) : Ev K M ds (tTup ta) (· = .tup as) :=
  (ev_tup ha fun _ e => by rw [e]; exact hl).weak fun _ ⟨_, e, e1⟩ => by rw [e, e1]
theorem ev_lst1 {ta : TA} {as : List D} (ha : EvA K M ds ta (· = as)) (hl : as.length ≤ 100000) : Ev K M ds (tLst ta) (· = .list as) :=
  (ev_lst ha fun _ e => by rw [e]; exact hl).weak fun _ ⟨_, e, e1⟩ => by rw [e, e1]
/-! known values -/
theorem ev_op1 {r : R2} {a b : D} (ha : Ev K M ds ta (· = a)) (hb : Ev K M ds tb (· = b)) (hr : OpD K M r a b R) : Ev K M ds (tOp r ta tb) R := ev_op ha hb fun _ _ e1 e2 => by rw [e1, e2]; exact hr
theorem ev_un1 {r : V → Hp → VK → Prop} {a : D} (ha : Ev K M ds ta (· = a)) (hr : UnD K M r a R) : Ev K M ds (tUn r ta) R := ev_un ha fun _ e => by rw [e]; exact hr
theorem ev_cb1 {r : List V → Hp → VK → Prop} {ta : TA} {as : List D} (ha : EvA K M ds ta (· = as)) (hr : CallD K M r as R) : Ev K M ds (tCB r ta) R := ev_cb ha fun _ e => by rw [e]; exact hr
theorem od_int {g : Int → Int → V} {h : Int → Int → D} {i j : Int} (hg : ∀ G, Rp K G (g i j) (h i j)) : OpD K M (rI0 g) (.int i) (.int j) (· = h i j) := fun M' G H x y Q _ rx ry w q =>
  ⟨i, j, rx.int_inv, ry.int_inv, q _ _ G H (Same.refl G) w (hg G) rfl⟩
theorem od_intC {C : Int → Int → Prop} {g : Int → Int → V} {h : Int → Int → D} {i j : Int} (hc : C i j) (hg : ∀ G, Rp K G (g i j) (h i j)) : OpD K M (rI C g) (.int i) (.int j) (· = h i j) := fun M' G H x y Q _ rx ry w q =>
  ⟨i, j, rx.int_inv, ry.int_inv, hc, q _ _ G H (Same.refl G) w (hg G) rfl⟩
theorem od_add {i j : Int} : OpD K M rAdd (.int i) (.int j) (· = .int (i + j)) := fun M' G H x y Q _ rx ry w q => ⟨i, j, rx.int_inv, ry.int_inv, q _ _ G H (Same.refl G) w (.int _) rfl⟩
theorem od_sub {i j : Int} : OpD K M rSub (.int i) (.int j) (· = .int (i - j)) := fun M' G H x y Q _ rx ry w q => ⟨i, j, rx.int_inv, ry.int_inv, q _ _ G H (Same.refl G) w (.int _) rfl⟩
end
end Rg
namespace Rg
open PySem L2 RZ
section
variable {K : PySem.W.Frag} {M M1 : Mt} {ds : DS} {te ta tb tc : TE} {t u : TT} {R R' : D → Prop} {RT RT' : Bool → Prop}
/-! ### tests -/
theorem et_B {b : Bool} (h : Ev K M ds te (· = .bl b)) : EvT K M ds (tB te) (· = b) := fun M' σ G H Q m s w q =>
  h M' σ G H _ m s w fun v d G1 H1 s1 w1 r1 e => by
    subst e
    exact ⟨b, r1.bl_inv, q b G1 H1 s1 w1 rfl⟩
theorem et_BR (h : Ev K M ds te (fun d => ∃ b, d = .bl b ∧ RT b)) : EvT K M ds (tB te) RT := fun M' σ G H Q m s w q =>
  h M' σ G H _ m s w fun v d G1 H1 s1 w1 r1 ⟨b, e, hb⟩ => by
    subst e
    exact ⟨b, r1.bl_inv, q b G1 H1 s1 w1 hb⟩
theorem et_test {b : Bool} (h : Ev K M ds te (· = .bl b)) : EvT K M ds (tTest te) (· = b) := et_B h
theorem et_testR (h : Ev K M ds te (fun d => ∃ b, d = .bl b ∧ RT b)) : EvT K M ds (tTest te) RT := et_BR h
theorem et_and {a b : Bool} (h1 : EvT K M ds t (· = a)) (h2 : a = true → EvT K M ds u (· = b)) : EvT K M ds (tAnd t u) (· = (a && b)) := fun M' σ G H Q m s w q =>
  h1 M' σ G H _ m s w fun c G1 H1 s1 w1 e => by
    subst e
    cases c with
    | true => exact h2 rfl M' σ G1 H1 Q m (s.mono s1) w1 fun b' G2 H2 s2 w2 e2 => q b' G2 H2 (s1.trans s2) w2 e2
    | false => exact q false G1 H1 s1 w1 rfl
theorem et_or {a b : Bool} (h1 : EvT K M ds t (· = a)) (h2 : a = false → EvT K M ds u (· = b)) : EvT K M ds (tOr t u) (· = (a || b)) := fun M' σ G H Q m s w q =>
  h1 M' σ G H _ m s w fun c G1 H1 s1 w1 e => by
    subst e
    cases c with
    | false => exact h2 rfl M' σ G1 H1 Q m (s.mono s1) w1 fun b' G2 H2 s2 w2 e2 => q b' G2 H2 (s1.trans s2) w2 e2
    | true => exact q true G1 H1 s1 w1 rfl
theorem et_andR {Ra : Bool → Prop} (h1 : EvT K M ds t Ra) (h2 : Ra true → EvT K M ds u RT) (h3 : Ra false → RT false) : EvT K M ds (tAnd t u) RT := fun M' σ G H Q m s w q =>
  h1 M' σ G H _ m s w fun c G1 H1 s1 w1 e => by
    cases c with
    | true => exact h2 e M' σ G1 H1 Q m (s.mono s1) w1 fun b' G2 H2 s2 w2 e2 => q b' G2 H2 (s1.trans s2) w2 e2
    | false => exact q false G1 H1 s1 w1 (h3 e)
theorem et_orR {Ra : Bool → Prop} (h1 : EvT K M ds t Ra) (h2 : Ra false → EvT K M ds u RT) (h3 : Ra true → RT true) : EvT K M ds (tOr t u) RT := fun M' σ G H Q m s w q =>
  h1 M' σ G H _ m s w fun c G1 H1 s1 w1 e => by
    cases c with
    | false => exact h2 e M' σ G1 H1 Q m (s.mono s1) w1 fun b' G2 H2 s2 w2 e2 => q b' G2 H2 (s1.trans s2) w2 e2
    | true => exact q true G1 H1 s1 w1 (h3 e)
theorem et_not {a : Bool} (h : EvT K M ds t (· = a)) : EvT K M ds (tNot t) (· = !a) := fun M' σ G H Q m s w q =>
  h M' σ G H _ m s w fun c G1 H1 s1 w1 e => q _ G1 H1 s1 w1 (by rw [e])
theorem et_notR {Ra : Bool → Prop} (h : EvT K M ds t Ra) (f : ∀ b, Ra b → RT (!b)) : EvT K M ds (tNot t) RT := fun M' σ G H Q m s w q =>
  h M' σ G H _ m s w fun c G1 H1 s1 w1 e => q _ G1 H1 s1 w1 (f c e)
theorem et_yes : EvT K M ds tYes (· = true) := fun M' σ G H Q m s w q => q true G H (Same.refl G) w rfl
/-- truth of any value -/
def truD : D → Option Bool
  | .non => some false
  | .bl b => some b
  | .int i => some (i != 0)
  | .str x => some (x.length != 0)
  | .list xs => some (!xs.isEmpty)
  | .tup xs => some (!xs.isEmpty)
  | _ => none
theorem ev_ifE {c : Bool} {a b : D} (ht : EvT K M ds t (· = c)) (h1 : c = true → Ev K M ds ta (· = a)) (h2 : c = false → Ev K M ds tb (· = b)) : Ev K M ds (tIf t ta tb) (· = if c then a else b) := fun M' σ G H Q m s w q =>
  ht M' σ G H _ m s w fun c' G1 H1 s1 w1 e => by
    subst e
    cases c' with
    | true => exact h1 rfl M' σ G1 H1 Q m (s.mono s1) w1 fun v d G2 H2 s2 w2 r2 e2 => q v d G2 H2 (s1.trans s2) w2 r2 e2
    | false => exact h2 rfl M' σ G1 H1 Q m (s.mono s1) w1 fun v d G2 H2 s2 w2 r2 e2 => q v d G2 H2 (s1.trans s2) w2 r2 e2
theorem ev_ifR {Ra : Bool → Prop} (ht : EvT K M ds t Ra) (h1 : Ra true → Ev K M ds ta R) (h2 : Ra false → Ev K M ds tb R) : Ev K M ds (tIf t ta tb) R := fun M' σ G H Q m s w q =>
  ht M' σ G H _ m s w fun c' G1 H1 s1 w1 e => by
    cases c' with
    | true => exact h1 e M' σ G1 H1 Q m (s.mono s1) w1 fun v d G2 H2 s2 w2 r2 e2 => q v d G2 H2 (s1.trans s2) w2 r2 e2
    | false => exact h2 e M' σ G1 H1 Q m (s.mono s1) w1 fun v d G2 H2 s2 w2 r2 e2 => q v d G2 H2 (s1.trans s2) w2 r2 e2
theorem ev_andV {a : Bool} (ha : Ev K M ds ta (· = .bl a)) (hb : a = true → Ev K M ds tb R) (hf : a = false → R (.bl false)) : Ev K M ds (tAndV ta tb) R := fun M' σ G H Q m s w q =>
  ha M' σ G H _ m s w fun v d G1 H1 s1 w1 r1 e => by
    subst e
    refine ⟨a, r1.bl_inv, ?_⟩
    cases a with
    | true => exact hb rfl M' σ G1 H1 Q m (s.mono s1) w1 fun v d G2 H2 s2 w2 r2 e2 => q v d G2 H2 (s1.trans s2) w2 r2 e2
    | false => exact q _ _ G1 H1 s1 w1 (.bl false) (hf rfl)
theorem ev_orV {a : Bool} (ha : Ev K M ds ta (· = .bl a)) (hb : a = false → Ev K M ds tb R) (hf : a = true → R (.bl true)) : Ev K M ds (tOrV ta tb) R := fun M' σ G H Q m s w q =>
  ha M' σ G H _ m s w fun v d G1 H1 s1 w1 r1 e => by
    subst e
    refine ⟨a, r1.bl_inv, ?_⟩
    cases a with
    | false => exact hb rfl M' σ G1 H1 Q m (s.mono s1) w1 fun v d G2 H2 s2 w2 r2 e2 => q v d G2 H2 (s1.trans s2) w2 r2 e2
    | true => exact q _ _ G1 H1 s1 w1 (.bl true) (hf rfl)
theorem ev_andB {a b : Bool} (ha : Ev K M ds ta (· = .bl a)) (hb : a = true → Ev K M ds tb (· = .bl b)) : Ev K M ds (tAndV ta tb) (· = .bl (a && b)) :=
  ev_andV ha (fun e => by subst e; exact hb rfl) fun e => by subst e; rfl
theorem ev_orB {a b : Bool} (ha : Ev K M ds ta (· = .bl a)) (hb : a = false → Ev K M ds tb (· = .bl b)) : Ev K M ds (tOrV ta tb) (· = .bl (a || b)) :=
  ev_orV ha (fun e => by subst e; exact hb rfl) fun e => by subst e; rfl
theorem ev_notV {a : Bool} (ha : Ev K M ds ta (· = .bl a)) : Ev K M ds (tNotV ta) (· = .bl (!a)) := fun M' σ G H Q m s w q =>
  ha M' σ G H _ m s w fun v d G1 H1 s1 w1 r1 e => by
    subst e
    exact ⟨a, r1.bl_inv, q _ _ G1 H1 s1 w1 (.bl _) rfl⟩
theorem ev_isN {d : D} (ha : Ev K M ds ta (· = d)) (b : Bool) (hb : ∀ G v, Rp K G v d → decide (v = .non) = b) : Ev K M ds (tIsN ta) (· = .bl b) := fun M' σ G H Q m s w q =>
  ha M' σ G H _ m s w fun v d' G1 H1 s1 w1 r1 e => by
    subst e
    rw [hb G1 v r1]
    exact q _ _ G1 H1 s1 w1 (.bl _) rfl
/-- a < b < c -/
theorem ev_chain {r r' : R2} {x y z : D} {k : Bool} (ha : Ev K M ds ta (· = x)) (hb : Ev K M ds tb (· = y)) (hr : OpD K M r x y (· = .bl k)) (hc : k = true → Ev K M ds tc (· = z)) (hr' : k = true → OpD K M r' y z R) (hf : k = false → R (.bl false)) :
    Ev K M ds (tChain r r' ta tb tc) R := fun M' σ G H Q m s w q =>
  ha M' σ G H _ m s w fun v d G1 H1 s1 w1 r1 e1 => hb M' σ G1 H1 _ m (s.mono s1) w1 fun v2 d2 G2 H2 s2 w2 r2 e2 => by
    subst e1; subst e2
    refine hr M' G2 H2 v v2 _ m (r1.mono s2) r2 w2 fun v3 d3 G3 H3 s3 w3 r3 e3 => ?_
    subst e3
    refine ⟨k, r3.bl_inv, ?_⟩
    have s13 := (s1.trans s2).trans s3
    cases k with
    | true =>
      rw [if_pos rfl]
      refine hc rfl M' σ G3 H3 _ m (s.mono s13) w3 fun v4 d4 G4 H4 s4 w4 r4 e4 => ?_
      subst e4
      exact hr' rfl M' G4 H4 v2 v4 Q m (r2.mono (s3.trans s4)) r4 w4 fun v5 d5 G5 H5 s5 w5 r5 e5 => q v5 d5 G5 H5 ((s13.trans s4).trans s5) w5 r5 e5
    | false =>
      rw [if_neg Bool.false_ne_true]
      exact q _ _ G3 H3 s13 w3 (.bl false) (hf rfl)
/-! ### statements -/
variable {E : AE} {a b : TS}
theorem run_next (h : E.nx ds) : Run K M ds tNext E := fun M' σ G H Z m s w z => z.nx ds σ G H h (Same.refl G) s w
theorem run_brk (h : E.bk ds) : Run K M ds tBreak E := fun M' σ G H Z m s w z => z.bk ds σ G H h (Same.refl G) s w
theorem run_cnt (h : E.ct ds) : Run K M ds tCont E := fun M' σ G H Z m s w z => z.ct ds σ G H h (Same.refl G) s w
theorem run_seq (h : Run K M ds a { E with nx := fun ds' => Run K M ds' b E }) : Run K M ds (tSeq a b) E := fun M' σ G H Z m s w z =>
  h M' σ G H { Z with nx := b Z } m s w ⟨fun ds' σ' G' H' r g s' w' => r M' σ' G' H' Z m s' w' (z.mono g), z.rt, z.bk, z.ct⟩
theorem run_weak {E' : AE} (h : Run K M ds a E) (h1 : ∀ d, E.nx d → E'.nx d) (h2 : ∀ d, E.rt d → E'.rt d) (h3 : ∀ d, E.bk d → E'.bk d) (h4 : ∀ d, E.ct d → E'.ct d) : Run K M ds a E' := fun M' σ G H Z m s w z =>
  h M' σ G H Z m s w ⟨fun ds' σ' G' H' r => z.nx ds' σ' G' H' (h1 _ r), fun v d G' H' r => z.rt v d G' H' (h2 _ r), fun ds' σ' G' H' r => z.bk ds' σ' G' H' (h3 _ r), fun ds' σ' G' H' r => z.ct ds' σ' G' H' (h4 _ r)⟩
theorem run_ret (h : Ev K M ds te E.rt) : Run K M ds (tRet te) E := fun M' σ G H Z m s w z =>
  h M' σ G H _ m s w fun v d G1 H1 s1 w1 r1 e => z.rt v d G1 H1 e s1 r1 w1
theorem run_retN (h : E.rt .non) : Run K M ds tRetN E := fun M' σ G H Z m s w z => z.rt .non .non G H h (Same.refl G) .non w
theorem run_expr (h : Ev K M ds te R) (hn : ∀ d, R d → E.nx ds) : Run K M ds (tDrop te) E := fun M' σ G H Z m s w z =>
  h M' σ G H _ m s w fun v d G1 H1 s1 w1 r1 e => z.nx ds σ G1 H1 (hn d e) s1 (s.mono s1) w1
theorem run_asgN {i : Nat} (h : Ev K M ds te R) (hn : ∀ d, R d → E.nx (ds.set i (some d))) : Run K M ds (tAsg te (gName i)) E := fun M' σ G H Z m s w z =>
  h M' σ G H _ m s w fun v d G1 H1 s1 w1 r1 e => z.nx _ _ G1 H1 (hn d e) s1 ((s.mono s1).set i r1) w1
theorem run_if {tc : TT} (h : EvT K M ds tc RT) (h1 : RT true → Run K M ds a E) (h2 : RT false → Run K M ds b E) : Run K M ds (tIfS tc a b) E := fun M' σ G H Z m s w z =>
  h M' σ G H _ m s w fun c G1 H1 s1 w1 e => by
    cases c with
    | true => exact h1 e M' σ G1 H1 Z m (s.mono s1) w1 (z.mono s1)
    | false => exact h2 e M' σ G1 H1 Z m (s.mono s1) w1 (z.mono s1)
theorem run_never (h : False) : Run K M ds tNever E := h.elim
/-- the same in a row with what follows -/
theorem run_asg {i : Nat} (h : Ev K M ds te R) (hn : ∀ d, R d → Run K M (ds.set i (some d)) b E) : Run K M ds (tSeq (tAsg te (gName i)) b) E := run_seq (run_asgN h hn)
theorem run_asg1 {i : Nat} {d : D} (h : Ev K M ds te (· = d)) (hn : Run K M (ds.set i (some d)) b E) : Run K M ds (tSeq (tAsg te (gName i)) b) E := run_asg h fun _ e => by rw [e]; exact hn
theorem run_par {i j : Nat} {ta : TA} {RA : List D → Prop} (h : EvA K M ds ta RA) (hn : ∀ l, RA l → ∃ x y, l = [x, y] ∧ E.nx ((ds.set i (some x)).set j (some y))) : Run K M ds (tPar i j ta) E := fun M' σ G H Z m s w z =>
  h M' σ G H _ m s w fun vs es G1 H1 s1 w1 r1 e => by
    obtain ⟨x, y, rfl, hx⟩ := hn es e
    cases r1 with
    | cons p r =>
      cases r with
      | cons q r =>
        cases r
        exact ⟨_, _, rfl, z.nx _ _ G1 H1 hx s1 (((s.mono s1).set i p).set j q) w1⟩
/-! ### targets -/
/-- vs: the block's own slots in a comprehension, none in a for -/
def EvG (K : PySem.W.Frag) (M : Mt) (vs : Option (List Nat)) (g : TG) (d : D) (ds : DS) (N : DS → Prop) : Prop := ∀ (M' : Mt) (σ : L2.St) (G H : Hp) (v : V) (Q : L2.St → Hp → Prop), MSub M M' → Sg K G σ ds → Wd M' G H → Rp K G v d →
  (∀ ds' σ' G' H', N ds' → Same G G' → Sg K G' σ' ds' → Wd M' G' H' → (∀ l, vs = some l → ∀ ρ : L2.St, wipe σ l = wipe ρ l → wipe σ' l = wipe ρ l) → Q σ' H') → g v σ H Q
theorem wipe_none : ∀ {vs : List Nat} {σ : L2.St} {i : Nat}, i ∈ vs → (wipe σ vs)[i]? = some none ∨ (wipe σ vs)[i]? = none
  | v :: r, σ, i, h => by
    show ((wipe σ r).set v none)[i]? = some none ∨ ((wipe σ r).set v none)[i]? = none
    rw [List.getElem?_set]
    by_cases e : v = i
    · rw [if_pos e]
      split
      · exact .inl rfl
      · exact .inr rfl
    · rw [if_neg e]
      rcases List.mem_cons.mp h with q | q
      · exact absurd q.symm e
      · exact wipe_none q
theorem wipe_out : ∀ {vs : List Nat} {σ : L2.St} {i : Nat}, i ∉ vs → (wipe σ vs)[i]? = σ[i]?
  | [], _, _, _ => rfl
  | v :: r, σ, i, h => by
    show ((wipe σ r).set v none)[i]? = _
    have ne : ¬ v = i := fun e => h (by rw [e]; exact List.mem_cons_self)
    rw [List.getElem?_set, if_neg ne, wipe_out fun q => h (List.mem_cons_of_mem _ q)]
theorem wipe_wipe (σ : L2.St) (vs : List Nat) : wipe (wipe σ vs) vs = wipe σ vs := by
  apply List.ext_getElem?
  intro i
  by_cases h : i ∈ vs
  · have l1 : (wipe (wipe σ vs) vs).length = σ.length := by rw [wipe_length, wipe_length]
    have l2 : (wipe σ vs).length = σ.length := wipe_length σ vs
    rcases wipe_none (σ := wipe σ vs) h with a | a <;> rcases wipe_none (σ := σ) h with b | b
    · rw [a, b]
    · have := List.getElem?_eq_none_iff.mp b
      have := (List.getElem?_eq_some_iff.mp a).1
      omega
    · have := List.getElem?_eq_none_iff.mp a
      have := (List.getElem?_eq_some_iff.mp b).1
      omega
    · rw [a, b]
  · rw [wipe_out h]
theorem wipe_set_in : ∀ {vs : List Nat} {σ : L2.St} {i : Nat} {x : Option V}, i ∈ vs → wipe (σ.set i x) vs = wipe σ vs
  | v :: r, σ, i, x, h => by
    show ((wipe (σ.set i x) r).set v none) = (wipe σ r).set v none
    by_cases hr : i ∈ r
    · rw [wipe_set_in hr]
    · have e : i = v := by
        rcases List.mem_cons.mp h with e | e
        · exact e
        · exact absurd e hr
      subst e
      have key : ∀ (r : List Nat) (σ : L2.St), (wipe (σ.set i x) r).set i none = (wipe σ r).set i none := by
        intro r
        induction r with
        | nil => intro σ; rw [wipe, wipe, List.set_set]
        | cons k r ih =>
          intro σ
          show ((wipe (σ.set i x) r).set k none).set i none = ((wipe σ r).set k none).set i none
          by_cases hk : k = i
          · subst hk
            rw [List.set_set, List.set_set]
            exact ih σ
          · rw [List.set_comm _ _ hk, List.set_comm _ _ hk, ih σ]
      exact key r σ
def ownIn (vs : Option (List Nat)) (i : Nat) : Bool := match vs with
  | none => true
  | some l => l.contains i
theorem eg_name {vs : Option (List Nat)} {i : Nat} {d : D} {N : DS → Prop} (h : N (ds.set i (some d))) (hi : ownIn vs i = true := by rfl) : EvG K M vs (gName i) d ds N := fun M' σ G H v Q m s w r q =>
  q _ _ G H h (Same.refl G) (s.set i r) w fun l e ρ e2 => by
    subst e
    rw [wipe_set_in (List.contains_iff_mem.mp hi)]; exact e2
def EvGs (K : PySem.W.Frag) (M : Mt) (vs : Option (List Nat)) (g : TGs) (es : List D) (ds : DS) (N : DS → Prop) : Prop := ∀ (M' : Mt) (σ : L2.St) (G H : Hp) (xs : List V) (Q : L2.St → Hp → Prop), MSub M M' → Sg K G σ ds → Wd M' G H → RpAll K G xs es →
  (∀ ds' σ' G' H', N ds' → Same G G' → Sg K G' σ' ds' → Wd M' G' H' → (∀ l, vs = some l → ∀ ρ : L2.St, wipe σ l = wipe ρ l → wipe σ' l = wipe ρ l) → Q σ' H') → g xs σ H Q
theorem Rp.tupAt {H : Hp} {G : Hp} {v : V} {es : List D} (h : Rp K G v (.tup es)) (s : Same G H) : ∃ a xs, v = .ref a ∧ SqT K H a xs ∧ RpAll K G xs es := by
  obtain ⟨a, xs, e, h1, h2⟩ := h.tup_inv
  exact ⟨a, xs, e, same_t s h1, h2⟩
theorem eg_tup {vs : Option (List Nat)} {n : Nat} {g : TGs} {es : List D} {N : DS → Prop} (h : EvGs K M vs g es ds N) (hn : es.length = n := by rfl) : EvG K M vs (gTup K n g) (.tup es) ds N := fun M' σ G H v Q m s w r q => by
  obtain ⟨a, xs, e, h1, h2⟩ := r.tupAt w.sub
  exact ⟨a, xs, e, h1, by rw [h2.length, hn], h M' σ G H xs Q m s w h2 q⟩
theorem egs_nil {vs : Option (List Nat)} {N : DS → Prop} (h : N ds) : EvGs K M vs gNil [] ds N := fun M' σ G H xs Q m s w r q => by
  cases r
  exact ⟨rfl, q ds σ G H h (Same.refl G) s w fun _ _ _ e => e⟩
theorem egs_cons {vs : Option (List Nat)} {i : Nat} {g : TGs} {d : D} {es : List D} {N : DS → Prop} (h : EvGs K M vs g es (ds.set i (some d)) N) (hi : ownIn vs i = true := by rfl) : EvGs K M vs (gCons (gName i) g) (d :: es) ds N := fun M' σ G H xs Q m s w r q => by
  cases r with
  | cons p r =>
    refine ⟨_, _, rfl, ?_⟩
    refine h M' _ G H _ Q m (s.set i p) w r fun ds' σ' G' H' a b c d' f => q ds' σ' G' H' a b c d' fun l e ρ e2 => f l e ρ ?_
    subst e
    rw [wipe_set_in (List.contains_iff_mem.mp hi)]; exact e2
/-! ### what is walked -/
structure WalkD (K : PySem.W.Frag) (G : Hp) (J : It) (es : List D) : Prop where
  goes : ∀ i H G' M', i < es.length → Same G G' → Wd M' G' H → J.go i H
  stops : ∀ H G' M', Same G G' → Wd M' G' H → J.stop es.length H
  yields : ∀ i H x H' G' M', i < es.length → Same G G' → Wd M' G' H → J.yld i H x H' → ∃ G2 d, Same G' G2 ∧ Wd M' G2 H' ∧ es[i]? = some d ∧ Rp K G2 x d
def EvI (K : PySem.W.Frag) (M : Mt) (ds : DS) (wi : TI) (R : List D → Prop) : Prop := ∀ (M' : Mt) (σ : L2.St) (G H : Hp) (Z : It → Hp → Prop), MSub M M' → Sg K G σ ds → Wd M' G H →
  (∀ J es G' H', Same G G' → Wd M' G' H' → R es → WalkD K G' J es → Z J H') → wi σ H Z
theorem wd_list {G : Hp} {a : Addr} {xs : List V} {es : List D} (h : SqL K G a xs) (r : RpAll K G xs es) : WalkD K G (Itl K a) es := by
  have hl := r.length
  refine ⟨fun i H G' M' hi s w => ⟨xs, xs[i]'(by omega), w.sub.seq (s.seq h), by simp [show i < xs.length by omega]⟩, fun H G' M' s w => ⟨xs, w.sub.seq (s.seq h), by omega⟩, fun i H x H' G' M' hi s w y => ?_⟩
  obtain ⟨rfl, y⟩ := y
  obtain ⟨d, e, rd⟩ := (r.mono s).getV (y xs (w.sub.seq (s.seq h)))
  exact ⟨G', d, Same.refl _, w, e, rd⟩
theorem wd_tup {G : Hp} {a : Addr} {xs : List V} {es : List D} (h : SqT K G a xs) (r : RpAll K G xs es) : WalkD K G (Itt K a) es := by
  have hl := r.length
  refine ⟨fun i H G' M' hi s w => ⟨xs, xs[i]'(by omega), same_t w.sub (same_t s h), by simp [show i < xs.length by omega]⟩, fun H G' M' s w => ⟨xs, same_t w.sub (same_t s h), by omega⟩, fun i H x H' G' M' hi s w y => ?_⟩
  obtain ⟨rfl, y⟩ := y
  obtain ⟨d, e, rd⟩ := (r.mono s).getV (y xs (same_t w.sub (same_t s h)))
  exact ⟨G', d, Same.refl _, w, e, rd⟩
def rangeD (lo : Int) (n : Nat) : List D := (List.range n).map fun (i : Nat) => D.int (lo + i)
theorem wd_range {G : Hp} {lo : Int} {n : Nat} : WalkD K G (Itr lo n) (rangeD lo n) := by
  have hl : (rangeD lo n).length = n := by simp [rangeD]
  refine ⟨fun i H G' M' hi s w => by rw [hl] at hi; exact hi, fun H G' M' s w => by rw [hl]; exact Nat.le_refl _, fun i H x H' G' M' hi s w y => ?_⟩
  obtain ⟨rfl, rfl⟩ := y
  rw [hl] at hi
  exact ⟨G', .int (lo + i), Same.refl _, w, by simp [rangeD, hi], .int _⟩
/-- the signs of a text -/
def signsD (x : Str) : List D := x.cps.toList.map fun c => D.str ⟨#[c]⟩
theorem wd_str {G : Hp} {x : Str} : WalkD K G (Its x) (signsD x) := by
  have hl : (signsD x).length = x.cps.size := by simp [signsD]
  refine ⟨fun i H G' M' hi s w => by rw [hl] at hi; exact hi, fun H G' M' s w => by rw [hl]; exact Nat.le_refl _, fun i H v H' G' M' hi s w y => ?_⟩
  obtain ⟨rfl, c, hc, rfl⟩ := y
  refine ⟨G', .str ⟨#[c]⟩, Same.refl _, w, ?_, .str _⟩
  unfold signsD
  rw [List.getElem?_map, Array.getElem?_toList, hc]
  rfl
/-- the items of what is walked -/
def itemsD : D → Option (List D)
  | .list xs => some xs
  | .tup xs => some xs
  | .str x => some (signsD x)
  | .seq xs => some xs
  | _ => none
def iAny (K : PySem.W.Frag) (te : TE) : TI := fun σ H Z => te σ H fun v H1 => (∃ a, v = .ref a ∧ (∃ xs, SqL K H1 a xs) ∧ Z (Itl K a) H1) ∨ (∃ a, v = .ref a ∧ (∃ xs, SqT K H1 a xs) ∧ Z (Itt K a) H1) ∨ ∃ x, v = .str x ∧ Z (Its x) H1
theorem pi_any {X : Cx} {tg e : Expr} {te : TE} (he : PE X e te) : PI X tg e (iAny X.K te) := by
  refine ⟨fun pins s σ H Z J h => ?_⟩
  refine thn (he.run pins s σ H _ J h) fun v s2 ⟨x, H2, J2, rx, qx⟩ => ?_
  rcases qx with ⟨a, rfl, ⟨xs, hx⟩, q⟩ | ⟨a, rfl, ⟨xs, hx⟩, q⟩ | ⟨z, rfl, q⟩
  · cases rx
    obtain ⟨us, _, pl, _⟩ := J2.list hx
    exact wpAny_pyIter_list pl.isList (pi_one (tk := s2.toks) J2 _ (turn_list a _) ⟨_, Heap.get?_push_size _ rfl, rfl, rfl⟩ q)
  · cases rx
    obtain ⟨us, _, pl, _⟩ := J2.tuple hx
    exact wpAny_pyIter_tuple (show s2.heap.IsTuple a us.toArray from pl) (pi_one (tk := s2.toks) J2 _ (turn_tuple a _) ⟨_, Heap.get?_push_size _ rfl, rfl, rfl⟩ q)
  · obtain ⟨tz, rfl⟩ := rx
    cases hw : z.cps.all (· < 128)
    · exact wpAny_pyIter_wide hw (pi_one (tk := s2.toks) J2 _ (turn_str _ z tz "str_iterator" (.inr rfl)) ⟨_, Heap.get?_push_size _ rfl, rfl, rfl⟩ q)
    · exact wpAny_pyIter_ascii hw (pi_one (tk := s2.toks) J2 _ (turn_str _ z tz "str_ascii_iterator" (.inl rfl)) ⟨_, Heap.get?_push_size _ rfl, rfl, rfl⟩ q)
theorem ei_any {d : D} {es : List D} (h : Ev K M ds te (· = d)) (hi : itemsD d = some es) : EvI K M ds (iAny K te) (· = es) := fun M' σ G H Z m s w q =>
  h M' σ G H _ m s w fun v d' G1 H1 s1 w1 r1 e => by
    subst e
    cases r1 with
    | lst hx r => cases hi; exact .inl ⟨_, rfl, ⟨_, w1.sub.seq (sq hx)⟩, q _ _ G1 H1 s1 w1 rfl (wd_list (sq hx) r)⟩
    | tup hx r => cases hi; exact .inr (.inl ⟨_, rfl, ⟨_, same_t w1.sub hx⟩, q _ _ G1 H1 s1 w1 rfl (wd_tup hx r)⟩)
    | str x => cases hi; exact .inr (.inr ⟨_, rfl, q _ _ G1 H1 s1 w1 rfl wd_str⟩)
    | seq hx r => cases hi; exact .inl ⟨_, rfl, ⟨_, w1.sub.seq hx⟩, q _ _ G1 H1 s1 w1 rfl (wd_list hx r)⟩
    | _ => cases hi
theorem ei_anyR (h : Ev K M ds te R) {RI : List D → Prop} (hi : ∀ d, R d → ∃ es, itemsD d = some es ∧ RI es) : EvI K M ds (iAny K te) RI := fun M' σ G H Z m s w q =>
  h M' σ G H _ m s w fun v d' G1 H1 s1 w1 r1 e => by
    obtain ⟨es, hi, hes⟩ := hi d' e
    cases r1 with
    | lst hx r => cases hi; exact .inl ⟨_, rfl, ⟨_, w1.sub.seq (sq hx)⟩, q _ _ G1 H1 s1 w1 hes (wd_list (sq hx) r)⟩
    | tup hx r => cases hi; exact .inr (.inl ⟨_, rfl, ⟨_, same_t w1.sub hx⟩, q _ _ G1 H1 s1 w1 hes (wd_tup hx r)⟩)
    | str x => cases hi; exact .inr (.inr ⟨_, rfl, q _ _ G1 H1 s1 w1 hes wd_str⟩)
    | seq hx r => cases hi; exact .inl ⟨_, rfl, ⟨_, w1.sub.seq hx⟩, q _ _ G1 H1 s1 w1 hes (wd_list hx r)⟩
    | _ => cases hi
theorem ei_range1 {ta : TA} {RA : List D → Prop} (h : EvA K M ds ta RA) (hb : ∀ l, RA l → ∃ j : Int, l = [.int j] ∧ -(2 ^ 62) ≤ j ∧ j < 2 ^ 62) : EvI K M ds (iRng1 ta) (fun es => ∃ j : Int, RA [.int j] ∧ es = rangeD 0 j.toNat) := fun M' σ G H Z m s w q =>
  h M' σ G H _ m s w fun vs l G1 H1 s1 w1 r1 e => by
    obtain ⟨j, rfl, h1, h2⟩ := hb l e
    cases r1 with
    | cons p r =>
      cases r
      exact ⟨j, by rw [p.int_inv], h1, h2, q _ _ G1 H1 s1 w1 ⟨j, e, rfl⟩ wd_range⟩
theorem ei_range2 {ta : TA} {RA : List D → Prop} (h : EvA K M ds ta RA) (hb : ∀ l, RA l → ∃ i j : Int, l = [.int i, .int j] ∧ (-(2 ^ 62) ≤ i ∧ i < 2 ^ 62 ∧ -(2 ^ 62) ≤ j ∧ j < 2 ^ 62)) :
    EvI K M ds (iRng2 ta) (fun es => ∃ i j : Int, RA [.int i, .int j] ∧ es = rangeD i (j - i).toNat) := fun M' σ G H Z m s w q =>
  h M' σ G H _ m s w fun vs l G1 H1 s1 w1 r1 e => by
    obtain ⟨i, j, rfl, hb⟩ := hb l e
    cases r1 with
    | cons p r =>
      cases r with
      | cons p2 r =>
        cases r
        exact ⟨i, j, by rw [p.int_inv, p2.int_inv], hb, q _ _ G1 H1 s1 w1 ⟨i, j, e, rfl⟩ wd_range⟩
/-- zip of two lists or two tuples -/
def zipD (xs ys : List D) : List D := (xs.zip ys).map fun p => D.tup [p.1, p.2]
theorem zipD_get {xs ys : List D} {i : Nat} {x y : D} (hx : xs[i]? = some x) (hy : ys[i]? = some y) : (zipD xs ys)[i]? = some (.tup [x, y]) := by
  have hz : (xs.zip ys)[i]? = some (x, y) := List.getElem?_zip_eq_some.mpr ⟨hx, hy⟩
  unfold zipD
  rw [List.getElem?_map, hz]
  rfl
theorem wd_zipL {G : Hp} {a b : Addr} {xs ys : List V} {es fs : List D} (h : SqL K G a xs) (r : RpAll K G xs es) (h' : SqL K G b ys) (r' : RpAll K G ys fs) : WalkD K G (Itz K a b) (zipD es fs) := by
  have hl := r.length
  have hl' := r'.length
  have hz : (zipD es fs).length = min es.length fs.length := by simp [zipD]
  refine ⟨fun i H G' M' hi s w => ?_, fun H G' M' s w => ⟨xs, ys, w.sub.seq (s.seq h), w.sub.seq (s.seq h'), by omega⟩, fun i H x H' G' M' hi s w y => ?_⟩
  · exact ⟨xs, ys, xs[i]'(by omega), ys[i]'(by omega), w.sub.seq (s.seq h), w.sub.seq (s.seq h'), by simp [show i < xs.length by omega], by simp [show i < ys.length by omega]⟩
  · obtain ⟨T, v1, v2, rfl, nT, rfl, f1, f2⟩ := y
    obtain ⟨d1, e1, p1⟩ := (r.mono s).getV (f1 xs (w.sub.seq (s.seq h)))
    obtain ⟨d2, e2, p2⟩ := (r'.mono s).getV (f2 ys (w.sub.seq (s.seq h')))
    have sn := same_new (o := HO.tup [v1, v2]) (w.free nT)
    exact ⟨upd G' T (.tup [v1, v2]), .tup [d1, d2], sn, w.new nT, zipD_get e1 e2, .tup (.inl (.inl upd_same)) (.cons (p1.mono sn) (.cons (p2.mono sn) .nil))⟩
theorem wd_zipT {G : Hp} {a b : Addr} {xs ys : List V} {es fs : List D} (h : SqT K G a xs) (r : RpAll K G xs es) (h' : SqT K G b ys) (r' : RpAll K G ys fs) : WalkD K G (ItzT K a b) (zipD es fs) := by
  have hl := r.length
  have hl' := r'.length
  have hz : (zipD es fs).length = min es.length fs.length := by simp [zipD]
  refine ⟨fun i H G' M' hi s w => ?_, fun H G' M' s w => ⟨xs, ys, same_t w.sub (same_t s h), same_t w.sub (same_t s h'), by omega⟩, fun i H x H' G' M' hi s w y => ?_⟩
  · exact ⟨xs, ys, xs[i]'(by omega), ys[i]'(by omega), same_t w.sub (same_t s h), same_t w.sub (same_t s h'), by simp [show i < xs.length by omega], by simp [show i < ys.length by omega]⟩
  · obtain ⟨T, v1, v2, rfl, nT, rfl, f1, f2⟩ := y
    obtain ⟨d1, e1, p1⟩ := (r.mono s).getV (f1 xs (same_t w.sub (same_t s h)))
    obtain ⟨d2, e2, p2⟩ := (r'.mono s).getV (f2 ys (same_t w.sub (same_t s h')))
    have sn := same_new (o := HO.tup [v1, v2]) (w.free nT)
    exact ⟨upd G' T (.tup [v1, v2]), .tup [d1, d2], sn, w.new nT, zipD_get e1 e2, .tup (.inl (.inl upd_same)) (.cons (p1.mono sn) (.cons (p2.mono sn) .nil))⟩
theorem ei_zip {ta : TA} {x y : D} {es fs : List D} (h : EvA K M ds ta (· = [x, y])) (hxy : (x = .list es ∧ y = .list fs) ∨ (x = .tup es ∧ y = .tup fs)) : EvI K M ds (iZipA K ta) (· = zipD es fs) := fun M' σ G H Z m s w q =>
  h M' σ G H _ m s w fun vs l G1 H1 s1 w1 r1 e => by
    subst e
    cases r1 with
    | cons p r =>
      cases r with
      | cons p2 r =>
        cases r
        rcases hxy with ⟨rfl, rfl⟩ | ⟨rfl, rfl⟩
        · obtain ⟨a, xs, rfl, ha, ra⟩ := p.list_inv
          obtain ⟨b, ys, rfl, hb, rb⟩ := p2.list_inv
          exact ⟨a, b, xs, ys, rfl, .inl ⟨w1.sub.seq ha, w1.sub.seq hb, q _ _ G1 H1 s1 w1 rfl (wd_zipL ha ra hb rb)⟩⟩
        · obtain ⟨a, xs, rfl, ha, ra⟩ := p.tup_inv
          obtain ⟨b, ys, rfl, hb, rb⟩ := p2.tup_inv
          exact ⟨a, b, xs, ys, rfl, .inr ⟨same_t w1.sub ha, same_t w1.sub hb, q _ _ G1 H1 s1 w1 rfl (wd_zipT ha ra hb rb)⟩⟩
/-! ### for -/
theorem run_for {wi : TI} {g : TG} {tb : TS} {RI : List D → Prop} (hI : EvI K M ds wi RI) (h : ∀ es, RI es → ∃ Pv : Nat → DS → Prop, Pv 0 ds ∧
      (∀ i d ds', es[i]? = some d → Pv i ds' → EvG K M none g d ds' (fun ds2 => Run K M ds2 tb { nx := Pv (i + 1), ct := Pv (i + 1), bk := E.nx, rt := E.rt })) ∧ ∀ ds', Pv es.length ds' → E.nx ds') : Run K M ds (tFor wi g tb) E := fun M' σ G H Z m s w z =>
  hI M' σ G H _ m s w fun J es G1 H1 s1 w1 hes W => by
    obtain ⟨Pv, h0, hs, hd⟩ := h es hes
    refine for_it (n := es.length) (G := fun H => ∃ G2, Same G1 G2 ∧ Wd M' G2 H) (Y := fun i H x H' => J.yld i H x H') ⟨fun i H hi ⟨G2, s2, w2⟩ => W.goes i H G2 M' hi s2 w2, fun H ⟨G2, s2, w2⟩ => W.stops H G2 M' s2 w2, fun i H x H' _ _ y => y⟩
      (fun i σ' H' => ∃ ds' G2, Pv i ds' ∧ Same G1 G2 ∧ Sg K G2 σ' ds' ∧ Wd M' G2 H') ⟨ds, G1, h0, Same.refl _, s.mono s1, w1⟩ (fun i σ' H' _ ⟨_, G2, _, s2, _, w2⟩ => ⟨G2, s2, w2⟩) (fun i x σ' H2 H3 hi ⟨ds', G2, hp, s2, sg, w2⟩ y => ?_)
      (fun σ' H' ⟨ds', G2, hp, s2, sg, w2⟩ => z.nx ds' σ' G2 H' (hd ds' hp) (s1.trans s2) sg w2)
    obtain ⟨G3, d, s3, w3, hd', rd⟩ := W.yields i H2 x H3 G2 M' hi s2 w2 y
    refine hs i d ds' hd' hp M' σ' G3 H3 x _ m (sg.mono s3) w3 rd fun ds2 σ2 G4 H4 hr s4 sg4 w4 _ => ?_
    have s14 := (s2.trans s3).trans s4
    exact hr M' σ2 G4 H4 _ m sg4 w4 ⟨fun ds5 σ5 G5 H5 r5 s5 sg5 w5 => ⟨ds5, G5, r5, s14.trans s5, sg5, w5⟩, fun v d G5 H5 r5 s5 rp5 w5 => z.rt v d G5 H5 r5 (s1.trans (s14.trans s5)) rp5 w5,
      fun ds5 σ5 G5 H5 r5 s5 sg5 w5 => z.nx ds5 σ5 G5 H5 r5 (s1.trans (s14.trans s5)) sg5 w5, fun ds5 σ5 G5 H5 r5 s5 sg5 w5 => ⟨ds5, G5, r5, s14.trans s5, sg5, w5⟩⟩
/-! ### comprehensions -/
def wipeD (ds : DS) : List Nat → DS
  | [] => ds
  | v :: vs => (wipeD ds vs).set v none
theorem Sg.wipe {G : Hp} {σ : L2.St} (s : Sg K G σ ds) : ∀ vs : List Nat, Sg K G (wipe σ vs) (wipeD ds vs)
  | [] => s
  | v :: vs => (Sg.wipe s vs).drop
theorem Wd.put {G H : Hp} {p : Addr} {o : HO} {φ ψ : Hp → HO → Prop} (w : Wd (M.cons (p, φ)) G H) (f : ψ G o) (mo : ∀ G1 G2 o, Same G1 G2 → ψ G1 o → ψ G2 o) : Wd (M.cons (p, ψ)) G (upd H p o) := by
  have nd := w.nd
  rw [List.map_cons, List.nodup_cons] at nd
  refine ⟨⟨fun a u e => ?_, fun m hm => ?_, fun m hm => ?_, w.nd⟩, w.xk⟩
  · have ne : a ≠ p := fun z => by
      have := (w.mt _ List.mem_cons_self).1
      rw [z] at e; rw [e] at this; cases this
    rw [upd_ne ne]; exact w.sub a u e
  · rcases List.mem_cons.mp hm with rfl | hm
    · exact ⟨(w.mt _ List.mem_cons_self).1, o, upd_same, f⟩
    · have ne : m.1 ≠ p := fun z => nd.1 (List.mem_map.mpr ⟨m, hm, z⟩)
      obtain ⟨g, u, hu, f'⟩ := w.mt m (List.mem_cons_of_mem _ hm)
      exact ⟨g, u, by rw [upd_ne ne]; exact hu, f'⟩
  · rcases List.mem_cons.mp hm with rfl | hm
    · exact mo
    · exact w.mono m (List.mem_cons_of_mem _ hm)
def isL (xs : List V) : Hp → HO → Prop := fun _ o => o = .lst xs
theorem ev_lc {wi : TI} {g : TG} {tt : TT} {vs : List Nat} {RI : List D → Prop} (hI : EvI K M ds wi RI) (h : ∀ es, RI es → es.length ≤ 100000 ∧ ∃ Pv : Nat → List D → Prop, Pv 0 [] ∧
      (∀ i d acc, es[i]? = some d → acc.length ≤ i → Pv i acc → EvG K M (some vs) g d (wipeD ds vs) (fun ds2 => ∃ RT : Bool → Prop, EvT K M ds2 tt RT ∧ (RT true → Ev K M ds2 te (fun y => Pv (i + 1) (acc ++ [y]))) ∧ (RT false → Pv (i + 1) acc))) ∧
      ∀ acc, acc.length ≤ es.length → Pv es.length acc → R (.list acc)) : Ev K M ds (tLc wi g tt te vs) R := fun M' σ G H Q m s w q =>
  hI M' σ G H _ m s w fun J es G1 H1 s1 w1 hes W D hD => by
    obtain ⟨hl, Pv, h0, hs, hd⟩ := h es hes
    have mo : ∀ xs : List V, ∀ (G1 G2 : Hp) (o : HO), Same G1 G2 → isL xs G1 o → isL xs G2 o := fun _ _ _ _ _ e => e
    refine lc_it (n := es.length) (G := fun H => ∃ G2 M2, Same G1 G2 ∧ Wd M2 G2 H) (Y := fun i H x H' => J.yld i H x H') ⟨fun i H hi ⟨G2, M2, s2, w2⟩ => W.goes i H G2 M2 hi s2 w2, fun H ⟨G2, M2, s2, w2⟩ => W.stops H G2 M2 s2 w2, fun i H x H' _ _ y => y⟩
      (fun i H' => ∃ G2 xs acc, Same G1 G2 ∧ Wd (M'.cons (D, isL xs)) G2 H' ∧ RpAll K G2 xs acc ∧ Pv i acc ∧ acc.length ≤ i) ⟨G1, [], [], Same.refl _, w1.newM hD rfl (mo []), .nil, h0, Nat.le_refl _⟩
      (fun i H' _ ⟨G2, xs, acc, s2, w2, _⟩ => ⟨G2, _, s2, w2⟩) (fun i x H2 H3 hi ⟨G2, xs, acc, s2, w2, ra, hp, hla⟩ y => ?_) (fun H' ⟨G2, xs, acc, s2, w2, ra, hp, hla⟩ => ?_)
    · obtain ⟨G3, d, s3, w3, hd', rd⟩ := W.yields i H2 x H3 G2 _ hi s2 w2 y
      refine hs i d acc hd' hla hp _ (wipe σ vs) G3 H3 x _ (MSub.cons m) ((s.mono ((s1.trans s2).trans s3)).wipe vs) w3 rd fun ds2 σ2 G4 H4 ⟨RT, hT, hE, hN⟩ s4 sg4 w4 hw => ?_
      refine ⟨?_, ?_⟩
      · have e := hw vs rfl (wipe σ vs) rfl
        have e2 : wipe (wipe σ vs) vs = wipe σ vs := wipe_wipe σ vs
        rw [e, e2]
      · refine hT _ σ2 G4 H4 _ (MSub.cons m) sg4 w4 fun b G5 H5 s5 w5 hb => ?_
        cases b with
        | true =>
          rw [if_pos rfl]
          refine hE hb _ σ2 G5 H5 _ (MSub.cons m) (sg4.mono s5) w5 fun v d6 G6 H6 s6 w6 r6 p6 => ?_
          obtain ⟨_, o, ho, eo⟩ := w6.mt _ List.mem_cons_self
          have eo : o = .lst xs := eo
          subst eo
          have s26 := ((s3.trans s4).trans s5).trans s6
          refine ⟨xs, ho, ?_, G6, xs ++ [v], acc ++ [d6], s2.trans s26, w6.put rfl (mo _), (ra.mono s26).append (.cons r6 .nil), p6, ?_⟩
          · have := ra.length
            exact Nat.lt_of_le_of_lt (show xs.length ≤ 100000 by omega) (by decide)
          · simp only [List.length_append, List.length_singleton]; omega
        | false =>
          rw [if_neg Bool.false_ne_true]
          exact ⟨G5, xs, acc, s2.trans ((s3.trans s4).trans s5), w5, ra.mono ((s3.trans s4).trans s5), hN hb, Nat.le_succ_of_le hla⟩
    · obtain ⟨g0, o, ho, eo⟩ := w2.mt _ List.mem_cons_self
      have eo : o = .lst xs := eo
      subst eo
      have sn := same_new (o := HO.lst xs) g0
      exact q (.ref D) (.list acc) (upd G2 D (.lst xs)) H' ((s1.trans s2).trans sn) (w2.freeze ho) (.lst upd_same (ra.mono sn)) (hd acc hla hp)
end
end Rg
namespace Rg
open PySem L2 RZ PyProof.Rows
/-! ### a def's promise, told of the data -/
/-- pre: what it asks of what changes and of the arguments; post: what it gives; px: what it may raise -/
def spX (K : PySem.W.Frag) (pre : Ml → List D → Prop) (post px : List D → D → Prop) : Sp := fun vs H Q E => ∃ M G as, Wd0 M G H ∧ RpAll K G vs as ∧ pre M as ∧ (∀ v d G' H', Same G G' → Wd0 M G' H' → Rp K G' v d → post as d → Q v H') ∧
  ∀ c dx x G' H', Same G G' → Wd0 M G' H' → XRp K G' c dx x → px as x → E c dx H'
abbrev spF (K : PySem.W.Frag) (pre : Ml → List D → Prop) (post : List D → D → Prop) : Sp := spX K pre post fun _ _ => False
/-- M in the body of a def that may raise px -/
abbrev mfn (K : PySem.W.Frag) (M : Ml) (E : XK) (px : D → Prop) : Mt := { l := M, b := M, sub := List.Sublist.refl _, ex := fun l' G _ c d => l' = [] ∧ ∃ x, px x ∧ XRp K G c d x, W := fun c d _ H => E c d H }
theorem exk_fn {K : PySem.W.Frag} {M : Ml} {E : XK} {px : D → Prop} {x : D} {ds : DS} (h : px x) : Exk K (mfn K M E px) x ds := fun _ _ _ _ hx _ => ⟨rfl, x, h, hx⟩
section
variable {P : Program} {w : World} {K : PySem.W.Frag} {mg : Str → Option Value} {base : Heap} {pre : Ml → List D → Prop} {post px : List D → D → Prop}
theorem spX_run {N : List Str} {t : TS} {vs : List V} {H : Hp} {Q : VK} {E : XK} (hrun : ∀ M as, pre M as → Run K (mfn K M E (px as)) (as.map some ++ List.replicate (N.length - as.length) none) t { nx := fun _ => post as .non, rt := post as }) (h : spX K pre post px vs H Q E) :
    t { nx := fun _ H' => Q .non H', rt := Q } (start N vs) H := by
  obtain ⟨M, G, as, wd, r, hp, q, qx⟩ := h
  exact hrun M as hp _ _ G H _ (MSub.refl _) (Sg.start r) ⟨wd, fun l' c d σ' G' H' ⟨el, x, px, hx⟩ s' w' => qx c d x G' H' s' (by subst el; exact w') hx px⟩ ⟨fun ds' σ' G' H' e s' _ w' => q _ _ G' H' s' w'.toWd0 .non e, fun v d G' H' e s' r' w' => q v d G' H' s' w'.toWd0 r' e, fun _ _ _ _ e => e.elim, fun _ _ _ _ e => e.elim⟩
theorem spX_len {vs : List V} {H : Hp} {Q : VK} {E : XK} {n : Nat} (hl : ∀ M as, pre M as → as.length = n) (h : spX K pre post px vs H Q E) : vs.length = n := by
  obtain ⟨M, G, as, _, r, hp, _⟩ := h
  rw [r.length]
  exact hl M as hp
theorem fn_run {x qual : Str} {st : Stmt} {f : Addr} {fd : FuncData} {N ps : List Str} {k : Nat} (F : Fun K x qual st f fd) (S : FnScope N ps (defScope st)) (hl : ∀ M as, pre M as → as.length = ps.length)
    (body : ∀ (cdv : Value) (A : Around) (outer : List Env) (s : Shared) (H : Hp) (E : XK), Room k (A.deeper (envOfC qual (defScope st) s.heap.objs.size f cdv)) →
      ∃ t, PSs (cxOf CX0 P w K mg base N qual (defScope st) f cdv A outer s H E).nox (defBody st) t ∧
        ∀ (M : Mt) as, pre M.l as → Run K M (as.map some ++ List.replicate (N.length - as.length) none) t { nx := fun _ => post as .non, rt := post as }) : FnOk P w K mg base CX0 (k + 1) f fd ps (spF K pre post) := by
  refine F.ok S (fun vs H Q E h => spX_len hl h) (fun cdv A outer s H vs Q E hr h => ?_)
  obtain ⟨t, ht, hrun⟩ := body cdv A outer s H E hr
  exact ⟨t, ht, spX_run (fun M as hp => hrun _ as hp) h⟩
/-- a def that may raise -/
theorem fn_runX {x qual : Str} {st : Stmt} {f : Addr} {fd : FuncData} {N ps : List Str} {k : Nat} (F : Fun K x qual st f fd) (S : FnScope N ps (defScope st)) (hl : ∀ M as, pre M as → as.length = ps.length)
    (body : ∀ (X : Cx) (cdv : Value) (A : Around) (outer : List Env) (s : Shared) (H : Hp) (E : XK), X = cxOf (L2.CX P w) P w K mg base N qual (defScope st) f cdv A outer s H E → Room k (A.deeper (envOfC qual (defScope st) s.heap.objs.size f cdv)) → Takes X (fun c d _ H => E c d H) →
      ∃ t, PSs (cxOf (L2.CX P w) P w K mg base N qual (defScope st) f cdv A outer s H E) (defBody st) t ∧
        ∀ (M : Ml) as, pre M as → Run K (mfn K M E (px as)) (as.map some ++ List.replicate (N.length - as.length) none) t { nx := fun _ => post as .non, rt := post as }) : FnOk P w K mg base (L2.CX P w) (k + 1) f fd ps (spX K pre post px) := by
  refine F.okX S (fun vs H Q E h => spX_len hl h) (fun cdv A outer s H vs Q E hr h => ?_)
  obtain ⟨t, ht, hrun⟩ := body _ cdv A outer s H E rfl hr (takes_of (X := cxOf (L2.CX P w) P w K mg base N qual (defScope st) f cdv A outer s H E) rfl rfl rfl rfl)
  exact ⟨t, ht, spX_run hrun h⟩
end
section
variable {K : PySem.W.Frag} {M M1 : Mt} {ds : DS} {te ta tb tc : TE} {t u : TT} {R R' : D → Prop} {RT RT' : Bool → Prop} {pre : Ml → List D → Prop} {post px : List D → D → Prop}
theorem ev_callD {ta : TA} {RA : List D → Prop} {dvs : List V} {dd : List D} {E : XK} (ha : EvA K M ds ta RA) (hd : ∀ G, RpAll K G dvs dd) (h : ∀ as, RA as → (∀ M', MSub M M' → pre M'.l (as ++ dd)) ∧ ∀ d, post (as ++ dd) d → R d) :
    Ev K M ds (tCall (spF K pre post) dvs E ta) R := fun M' σ G H Q m s w q =>
  ha M' σ G H _ m s w fun vs as G1 H1 s1 w1 r1 e => ⟨M'.l, G1, as ++ dd, w1.toWd0, r1.append (hd G1), (h as e).1 M' m, fun v d G2 H2 s2 w2 r2 p2 => q v d G2 H2 (s1.trans s2) (w1.to s2 w2) r2 ((h as e).2 d p2), fun _ _ _ _ _ _ _ _ z => z.elim⟩
theorem ev_call {ta : TA} {RA : List D → Prop} {E : XK} (ha : EvA K M ds ta RA) (h : ∀ as, RA as → (∀ M', MSub M M' → pre M'.l as) ∧ ∀ d, post as d → R d) :
    Ev K M ds (tCall (spF K pre post) [] E ta) R := ev_callD ha (fun _ => .nil) fun as e => by rw [List.append_nil]; exact h as e
theorem ev_call1 {ta : TA} {as : List D} {E : XK} (ha : EvA K M ds ta (· = as)) (h : ∀ M', MSub M M' → pre M'.l as) : Ev K M ds (tCall (spF K pre post) [] E ta) (post as) :=
  ev_call ha fun _ e => by rw [e]; exact ⟨h, fun _ q => q⟩
theorem ev_callK {ta tk : TA} {RA RK : List D → Prop} {E : XK} {gV : List V → List V → List V} {gD : List D → List D → List D} (ha : EvA K M ds ta RA) (hk : EvA K M ds tk RK)
    (hg : ∀ G vs zs as ks, RA as → RK ks → RpAll K G vs as → RpAll K G zs ks → RpAll K G (gV vs zs) (gD as ks)) (h : ∀ as ks, RA as → RK ks → (∀ M', MSub M M' → pre M'.l (gD as ks)) ∧ ∀ d, post (gD as ks) d → R d) :
    Ev K M ds (tCallK (spF K pre post) gV E ta tk) R := fun M' σ G H Q m s w q =>
  ha M' σ G H _ m s w fun vs as G1 H1 s1 w1 r1 e => hk M' σ G1 H1 _ m (s.mono s1) w1 fun zs ks G2 H2 s2 w2 r2 e2 =>
    ⟨M'.l, G2, gD as ks, w2.toWd0, hg G2 vs zs as ks e e2 (r1.mono s2) r2, (h as ks e e2).1 M' m, fun v d G3 H3 s3 w3 r3 p3 => q v d G3 H3 ((s1.trans s2).trans s3) (w2.to s3 w3) r3 ((h as ks e e2).2 d p3), fun _ _ _ _ _ _ _ _ z => z.elim⟩
/-- an exception is let on -/
theorem Wd.toW {M' : Mt} {W : WX} {G G1 H1 : Hp} {H : Hp} {σ : L2.St} {c : Value} {dx : Option Addr} {x : D} (w : Wd M' G H) (m : MSub M M') (hW : M.W = W) (s1 : Same G G1) (w1 : Wd0 M'.l G1 H1) (sg : Sg K G1 σ ds) (hx : XRp K G1 c dx x) (k : Exk K M x ds) : W c dx σ H1 := by
  have z := (w.to s1 w1).take (cls := c) (d := dx) (σ := σ) (by rw [m.ex]; exact k G1 σ c dx hx sg)
  rw [m.W, hW] at z
  exact z
/-- a call that may raise -/
theorem ev_callX {ta : TA} {RA : List D → Prop} {W : WX} (hW : M.W = W) (ha : EvA K M ds ta RA) (h : ∀ as, RA as → (∀ M', MSub M M' → pre M'.l as) ∧ (∀ d, post as d → R d) ∧ ∀ x, px as x → Exk K M x ds) :
    Ev K M ds (tCallS (spX K pre post px) (WE W) ta) R := fun M' σ G H Q m s w q =>
  ha M' σ G H _ m s w fun vs as G1 H1 s1 w1 r1 e => ⟨M'.l, G1, as, w1.toWd0, r1, (h as e).1 M' m, fun v d G2 H2 s2 w2 r2 p2 => q v d G2 H2 (s1.trans s2) (w1.to s2 w2) r2 ((h as e).2.1 d p2),
    fun c dx x G2 H2 s2 w2 hx p => w1.toW m hW s2 w2 (s.mono (s1.trans s2)) hx ((h as e).2.2 x p)⟩
/-! ### kinds -/
def tyD : D → Option String
  | .non => some "NoneType"
  | .bl _ => some "bool"
  | .int _ => some "int"
  | .str _ => some "str"
  | .list _ => some "list"
  | .tup _ => some "tuple"
  | .dict _ _ => some "dict"
  | _ => none
theorem ty_of {G H : Hp} {v : V} {d : D} {n : String} (h : Rp K G v d) (s : Same G H) (e : tyD d = some n) : TyX K H v (.type n) := by
  cases h with
  | non => cases e; exact .base .non
  | bl b => cases e; exact .base (.bl b)
  | int i => cases e; exact .base (.int i)
  | str x => cases e; exact .base (.str x)
  | lst h r =>
    cases e
    exact .base (.lst (s _ _ h))
  | tup h r =>
    cases e
    rcases h with (h | ⟨o, h⟩) | ⟨o, its, k, h1, h2, _⟩
    · exact .base (.tup (s _ _ h))
    · exact .fTuple (s _ _ h)
    · exact .kTuple h1 h2
  | obj _ _ => cases e
  | exc _ _ _ => cases e
  | cau _ _ => cases e
  | seq _ _ => cases e
  | raw _ => cases e
  | fob _ _ _ => cases e
  | dict h r =>
    cases e
    exact .base (.dK (s _ _ h))
def isD (d : D) (n : String) : Option Bool := (tyD d).bind fun a => kitB a n
theorem isD_inv {d : D} {n : String} {b : Bool} (h : isD d n = some b) : ∃ a, tyD d = some a ∧ kitB a n = some b := by
  unfold isD at h
  cases e : tyD d with
  | none => rw [e] at h; cases h
  | some a => rw [e] at h; exact ⟨a, rfl, h⟩
theorem cd_isi {d : D} {n : String} {b : Bool} (h : isD d n = some b) : CallD K M (rIsi K) [d, .raw (.ty n)] (· = .bl b) := fun M' G H xs Q m r w q => by
  obtain ⟨a, e1, e2⟩ := isD_inv h
  cases r with
  | cons p r =>
    cases r with
    | cons p2 r =>
      cases r
      cases p2
      exact ⟨_, _, .type a, .type n, b, rfl, .ty n, ty_of p w.sub e1, kit_ty e2, q _ _ G H (Same.refl G) w (.bl b) rfl⟩
theorem ev_isiT2 {d : D} {n1 n2 : String} {b1 b2 : Bool} {tcs : TA} (ha : Ev K M ds ta (· = d)) (hc : EvA K M ds tcs (· = [.raw (.ty n1), .raw (.ty n2)])) (h1 : isD d n1 = some b1) (h2 : isD d n2 = some b2) :
    Ev K M ds (tCB (rIsiT K) (tCons ta (tCons (tTup tcs) tNil))) (· = .bl (b1 || b2)) := fun M' σ G H Q m s w q => by
  obtain ⟨a1, e1, e1'⟩ := isD_inv h1
  obtain ⟨a2, e2, e2'⟩ := isD_inv h2
  have ea : a1 = a2 := Option.some.inj (e1.symm.trans e2)
  subst ea
  refine ha M' σ G H _ m s w fun v d' G1 H1 s1 w1 r1 e => ?_
  subst e
  refine hc M' σ G1 H1 _ m (s.mono s1) w1 fun vs es G2 H2 s2 w2 r2 e3 => ?_
  subst e3
  cases r2 with
  | cons p r =>
    cases r with
    | cons p2 r =>
      cases r
      cases p; cases p2
      refine ⟨show 2 ≤ sizeLine by decide, fun tp hp => ?_⟩
      have sn := same_new (o := HO.tup [V.ty n1, V.ty n2]) (w2.free hp)
      have wn := w2.new (o := HO.tup [V.ty n1, V.ty n2]) hp
      refine ⟨v, tp, [.ty n1, .ty n2], .type a1, [.type n1, .type n2], b1 || b2, rfl, upd_same, .cons (.ty n1) (.cons (.ty n2) .nil), ty_of ((r1.mono s2).mono sn) wn.sub e1, ?_, q _ _ _ _ ((s1.trans s2).trans sn) wn (.bl _) rfl⟩
      refine kitAny_cons (kit_ty e1') (fun hb => kitAny_cons (kit_ty e2') (fun hb2 => ?_) fun hb2 => ?_) fun hb => ?_
      · rw [hb, hb2]; rfl
      · rw [hb, hb2]; rfl
      · rw [hb]; rfl
/-! ### sizes, items, slices -/
def lenD : D → Option Nat
  | .seq xs => some xs.length
  | .str x => if x.length ≤ 100000 then some x.length else none
  | .list xs => some xs.length
  | .tup xs => some xs.length
  | _ => none
theorem cd_len {d : D} {n : Nat} (h : lenD d = some n) : CallD K M (fun xs H Q => ∃ x n, xs = [x] ∧ LenV K x H n ∧ Q (.int (n : Nat)) H) [d] (· = .int n) := fun M' G H xs Q m r w q => by
  cases r with
  | cons p r =>
    cases r
    refine ⟨_, n, rfl, ?_, q _ _ G H (Same.refl G) w (.int _) rfl⟩
    cases p with
    | str x =>
      replace h : (if x.length ≤ 100000 then some x.length else none) = some n := h
      split at h
      · rename_i hx
        exact ⟨Nat.le_trans hx (by decide), (Option.some.inj h).symm⟩
      · cases h
    | lst hx r => exact .inl ⟨_, w.sub.seq (sq hx), by rw [r.length]; exact (Option.some.inj h).symm⟩
    | tup hx r => exact .inr ⟨_, same_t w.sub hx, by rw [r.length]; exact (Option.some.inj h).symm⟩
    | seq hx r => exact .inl ⟨_, w.sub.seq hx, by rw [r.length]; exact (Option.some.inj h).symm⟩
    | _ => cases h
/-- the item at i -/
def itemD : D → Int → Option D
  | .list xs, i => atI xs i
  | .tup xs, i => atI xs i
  | .str x, i => if x.length ≤ 100000 then (atI x.cps.toList i).map fun c => D.str ⟨#[c]⟩ else none
  | _, _ => none
theorem RpAll.atI {G : Hp} {xs : List V} {es : List D} {i : Int} {d : D} (r : RpAll K G xs es) (h : L2.atI es i = some d) : ∃ v, L2.atI xs i = some v ∧ Rp K G v d := by
  unfold L2.atI at h ⊢
  rw [r.length]
  cases e : ixN es.length i with
  | none => rw [e] at h; cases h
  | some j =>
    rw [e] at h
    obtain ⟨v, e1, r1⟩ := r.get (show es[j]? = some d from h)
    exact ⟨v, e1, r1⟩
theorem od_ix {d e : D} {i : Int} (h : itemD d i = some e) : OpD K M (rIx K) d (.int i) (· = e) := fun M' G H x y Q m rx ry w q => by
  obtain rfl := ry.int_inv
  cases rx with
  | lst hx r =>
    obtain ⟨v, e1, r1⟩ := r.atI h
    exact .inl ⟨_, _, i, v, rfl, rfl, w.sub.seq (sq hx), e1, q v e G H (Same.refl G) w r1 rfl⟩
  | tup hx r =>
    obtain ⟨v, e1, r1⟩ := r.atI h
    exact .inr (.inl ⟨_, _, i, v, rfl, rfl, same_t w.sub hx, e1, q v e G H (Same.refl G) w r1 rfl⟩)
  | str x =>
    replace h : (if x.length ≤ 100000 then (L2.atI x.cps.toList i).map fun c => D.str ⟨#[c]⟩ else none) = some e := h
    split at h
    · rename_i hx
      cases ec : L2.atI x.cps.toList i with
      | none => rw [ec] at h; cases h
      | some c =>
        rw [ec] at h
        cases h
        exact .inr (.inr ⟨x, i, c, rfl, rfl, Nat.le_trans hx (by decide), ec, q _ _ G H (Same.refl G) w (.str _) rfl⟩)
    · cases h
  | _ => cases h
def EvO (K : PySem.W.Frag) (M : Mt) (ds : DS) (to : TO) (o : Option Int) : Prop := ∀ (M' : Mt) (σ : L2.St) (G H : Hp) (Q : Option Int → Hp → Prop), MSub M M' → Sg K G σ ds → Wd M' G H → (∀ G' H', Same G G' → Wd M' G' H' → Q o H') → to σ H Q
theorem eo_none : EvO K M ds tNoPart none := fun M' σ G H Q m s w q => q G H (Same.refl G) w
theorem eo_some {i : Int} (h : Ev K M ds te (· = .int i)) : EvO K M ds (tPart te) (some i) := fun M' σ G H Q m s w q =>
  h M' σ G H _ m s w fun v d G1 H1 s1 w1 r1 e => by
    subst e
    exact ⟨i, r1.int_inv, q G1 H1 s1 w1⟩
def cutD (xs : List D) (lo hi : Option Int) : List D := (xs.drop (HT.sIx xs.length 0 lo)).take (HT.sIx xs.length xs.length hi - HT.sIx xs.length 0 lo)
theorem RpAll.cut {G : Hp} {xs : List V} {es : List D} (r : RpAll K G xs es) (lo hi : Option Int) : RpAll K G (cutV xs lo hi) (cutD es lo hi) := by
  unfold cutV cutD
  rw [r.length]
  exact (r.drop _).take _
/-- slices of texts and lists -/
def rSlU (K : PySem.W.Frag) : V → Option Int → Option Int → Hp → VK → Prop := fun x lo hi H Q => rSlS x lo hi H Q ∨ (rSlL K x lo hi H Q ∨ rSlA K x lo hi H Q)
theorem sl_any {X : Cx} : SlR X (rSlU X.K) := sl_str.or (sl_list.or sl_tupA)
theorem ev_slS {tl th : TO} {x : Str} {lo hi : Option Int} (h : Ev K M ds te (· = .str x)) (hl : EvO K M ds tl lo) (hh : EvO K M ds th hi) (hx : x.length ≤ 100000) : Ev K M ds (tSl (rSlU K) te tl th) (· = .str (cutS x lo hi)) := fun M' σ G H Q m s w q =>
  h M' σ G H _ m s w fun v d G1 H1 s1 w1 r1 e => hl M' σ G1 H1 _ m (s.mono s1) w1 fun G2 H2 s2 w2 => hh M' σ G2 H2 _ m (s.mono (s1.trans s2)) w2 fun G3 H3 s3 w3 => by
    subst e
    exact .inl ⟨x, r1.str_inv, Nat.le_trans hx (by decide), q _ _ G3 H3 ((s1.trans s2).trans s3) w3 (.str _) rfl⟩
theorem ev_slQ {tl th : TO} {xs : List D} {lo hi : Option Int} (h : Ev K M ds te (· = .seq xs)) (hl : EvO K M ds tl lo) (hh : EvO K M ds th hi) : Ev K M ds (tSl (rSlU K) te tl th) (· = .list (cutD xs lo hi)) := fun M' σ G H Q m s w q =>
  h M' σ G H _ m s w fun v d G1 H1 s1 w1 r1 e => hl M' σ G1 H1 _ m (s.mono s1) w1 fun G2 H2 s2 w2 => hh M' σ G2 H2 _ m (s.mono (s1.trans s2)) w2 fun G3 H3 s3 w3 => by
    subst e
    cases r1 with
    | @seq a us _ hx r =>
      refine .inr (.inl ⟨_, _, rfl, w3.sub.seq ((s2.trans s3).seq hx), fun p hp => ?_⟩)
      have sn := same_new (o := HO.lst (cutV us lo hi)) (w3.free hp)
      exact q (.ref p) _ _ _ (((s1.trans s2).trans s3).trans sn) (w3.new hp) (.lst upd_same ((r.cut lo hi).mono ((s2.trans s3).trans sn))) rfl
theorem ev_slL {tl th : TO} {xs : List D} {lo hi : Option Int} (h : Ev K M ds te (· = .list xs)) (hl : EvO K M ds tl lo) (hh : EvO K M ds th hi) : Ev K M ds (tSl (rSlU K) te tl th) (· = .list (cutD xs lo hi)) := fun M' σ G H Q m s w q =>
  h M' σ G H _ m s w fun v d G1 H1 s1 w1 r1 e => hl M' σ G1 H1 _ m (s.mono s1) w1 fun G2 H2 s2 w2 => hh M' σ G2 H2 _ m (s.mono (s1.trans s2)) w2 fun G3 H3 s3 w3 => by
    subst e
    obtain ⟨a, us, rfl, hx, r⟩ := r1.list_inv
    refine .inr (.inl ⟨a, us, rfl, w3.sub.seq ((s2.trans s3).seq hx), fun p hp => ?_⟩)
    have sn := same_new (o := HO.lst (cutV us lo hi)) (w3.free hp)
    exact q (.ref p) _ _ _ (((s1.trans s2).trans s3).trans sn) (w3.new hp) (.lst upd_same ((r.cut lo hi).mono ((s2.trans s3).trans sn))) rfl
theorem ev_slT {tl th : TO} {xs : List D} {lo hi : Option Int} (h : Ev K M ds te (· = .tup xs)) (hl : EvO K M ds tl lo) (hh : EvO K M ds th hi) : Ev K M ds (tSl (rSlU K) te tl th) (· = .tup (cutD xs lo hi)) := fun M' σ G H Q m s w q =>
  h M' σ G H _ m s w fun v d G1 H1 s1 w1 r1 e => hl M' σ G1 H1 _ m (s.mono s1) w1 fun G2 H2 s2 w2 => hh M' σ G2 H2 _ m (s.mono (s1.trans s2)) w2 fun G3 H3 s3 w3 => by
    subst e
    obtain ⟨a, us, rfl, hx, r⟩ := r1.tup_inv
    have hx3 := same_t (s2.trans s3) hx
    refine .inr (.inr ⟨a, us, rfl, same_t w3.sub hx3, fun hw => ?_, fun hw p hp => ?_⟩)
    · have e2 : cutD xs lo hi = xs := by
        unfold cutD
        rw [← r.length, hw.1, hw.2, List.drop_zero, Nat.sub_zero]
        exact List.take_of_length_le (by rw [r.length]; exact Nat.le_refl _)
      exact q (.ref a) _ G3 H3 ((s1.trans s2).trans s3) w3 (.tup hx3 (r.mono (s2.trans s3))) (by rw [e2])
    · have sn := same_new (o := HO.tup (cutV us lo hi)) (w3.free hp)
      exact q (.ref p) _ _ _ (((s1.trans s2).trans s3).trans sn) (w3.new hp) (.tup (.inl (.inl upd_same)) ((r.cut lo hi).mono ((s2.trans s3).trans sn))) rfl
/-! ### operators of several kinds -/
def rOr (r r' : R2) : R2 := fun x y H Q => r x y H Q ∨ r' x y H Q
theorem op_or {X : Cx} {f : Value → Value → Sem Value} {r r' : R2} (h : OpR X f r) (h' : OpR X f r') : OpR X f (rOr r r') := fun pins s σ H x y v u Q I rx ry q =>
  q.elim (fun q => h pins s σ H x y v u Q I rx ry q) fun q => h' pins s σ H x y v u Q I rx ry q
theorem od_l {r r' : R2} {a b : D} (h : OpD K M r a b R) : OpD K M (rOr r r') a b R := fun M' G H x y Q m rx ry w q => .inl (h M' G H x y Q m rx ry w q)
theorem od_r {r r' : R2} {a b : D} (h : OpD K M r' a b R) : OpD K M (rOr r r') a b R := fun M' G H x y Q m rx ry w q => .inr (h M' G H x y Q m rx ry w q)
abbrev rAddS : R2 := fun x y H Q => ∃ i j, x = .str i ∧ y = .str j ∧ i.length + j.length ≤ sizeLine ∧ Q (.str (i ++ j)) H
/-- + of two lists, wherever they stand -/
def rAddU (K : PySem.W.Frag) : R2 := rOr (rI0 fun i j => .int (i + j)) (rOr rAddS rCat)
theorem op_addU {X : Cx} : OpR X (binaryOp .Add) (rAddU X.K) := op_or op_add (op_or op_add_str op_cat)
theorem od_addI {i j : Int} : OpD K M (rAddU K) (.int i) (.int j) (· = .int (i + j)) := od_l (od_int (h := fun i j => .int (i + j)) fun _ => .int _)
theorem od_addS {x y : Str} (h : x.length + y.length ≤ 100000) : OpD K M (rAddU K) (.str x) (.str y) (· = .str (x ++ y)) := od_r (od_l fun M' G H v u Q m rx ry w q => ⟨x, y, rx.str_inv, ry.str_inv, Nat.le_trans h (by decide), q _ _ G H (Same.refl G) w (.str _) rfl⟩)
theorem od_eqI {i j : Int} : OpD K M rEq (.int i) (.int j) (· = .bl (decide (i = j))) := fun M' G H x y Q m rx ry w q => by
  cases rx; cases ry
  refine ⟨rfl, q _ _ G H (Same.refl G) w ?_ rfl⟩
  rw [show decide (V.int i = V.int j) = decide (i = j) by simp]
  exact .bl _
theorem od_eqS {i j : Str} : OpD K M rEq (.str i) (.str j) (· = .bl (decide (i = j))) := fun M' G H x y Q m rx ry w q => by
  cases rx; cases ry
  refine ⟨rfl, q _ _ G H (Same.refl G) w ?_ rfl⟩
  rw [show decide (V.str i = V.str j) = decide (i = j) by simp]
  exact .bl _
theorem od_eqB {i j : Bool} : OpD K M rEq (.bl i) (.bl j) (· = .bl (decide (i = j))) := fun M' G H x y Q m rx ry w q => by
  cases rx; cases ry
  refine ⟨rfl, q _ _ G H (Same.refl G) w ?_ rfl⟩
  rw [show decide (V.bl i = V.bl j) = decide (i = j) by simp]
  exact .bl _
theorem od_neI {i j : Int} : OpD K M rNe (.int i) (.int j) (· = .bl (!decide (i = j))) := fun M' G H x y Q m rx ry w q => by
  cases rx; cases ry
  refine ⟨rfl, q _ _ G H (Same.refl G) w ?_ rfl⟩
  rw [show decide (V.int i = V.int j) = decide (i = j) by simp]
  exact .bl _
theorem od_neB {i j : Bool} : OpD K M rNe (.bl i) (.bl j) (· = .bl (!decide (i = j))) := fun M' G H x y Q m rx ry w q => by
  cases rx; cases ry
  refine ⟨rfl, q _ _ G H (Same.refl G) w ?_ rfl⟩
  rw [show decide (V.bl i = V.bl j) = decide (i = j) by simp]
  exact .bl _
theorem od_inSign {c : Nat} {z : Str} : OpD K M (fun x y H Q => ∃ (c : Nat) (z : Str), x = .str ⟨#[c]⟩ ∧ y = .str z ∧ Q (.bl (decide (c ∈ z.cps.toList))) H) (.str ⟨#[c]⟩) (.str z) (· = .bl (decide (c ∈ z.cps.toList))) := fun M' G H x y Q m rx ry w q =>
  ⟨c, z, rx.str_inv, ry.str_inv, q _ _ G H (Same.refl G) w (.bl _) rfl⟩
/-- flat things -/
def flatD : D → Option V
  | .non => some .non
  | .bl b => some (.bl b)
  | .int i => some (.int i)
  | .str x => some (.str x)
  | _ => none
theorem flat_inv {G : Hp} {v x : V} {d : D} (r : Rp K G v d) (h : flatD d = some x) : v = x ∧ flatV v = true := by
  cases r <;> cases h <;> exact ⟨rfl, rfl⟩
theorem flats_inv {G : Hp} : ∀ {vs xs : List V} {es : List D}, RpAll K G vs es → es.map flatD = xs.map some → vs = xs ∧ vs.all flatV = true
  | _, [], _, .nil, _ => ⟨rfl, rfl⟩
  | _, x :: xs, _, .cons h r, e => by
    simp only [List.map_cons, List.cons.injEq] at e
    obtain ⟨rfl, f⟩ := flat_inv h e.1
    obtain ⟨rfl, g⟩ := flats_inv r e.2
    exact ⟨rfl, by rw [List.all_cons, f, g]; rfl⟩
  | _, _ :: _, _, .nil, e => by simp at e
theorem od_inSeq {d : D} {es : List D} {x : V} {xs : List V} {n : Bool} {c : D} (hc : c = .list es ∨ c = .tup es) (h : flatD d = some x) (hs : es.map flatD = xs.map some) : OpD K M (rIn K n) d c (· = .bl (if n then !inV x xs else inV x xs)) := fun M' G H v u Q m rx ry w q => by
  obtain ⟨rfl, f⟩ := flat_inv rx h
  rcases hc with rfl | rfl
  · obtain ⟨a, us, rfl, hx, r⟩ := ry.list_inv
    obtain ⟨rfl, g⟩ := flats_inv r hs
    exact ⟨a, _, rfl, .inl (w.sub.seq hx), f, g, q _ _ G H (Same.refl G) w (.bl _) rfl⟩
  · obtain ⟨a, us, rfl, hx, r⟩ := ry.tup_inv
    obtain ⟨rfl, g⟩ := flats_inv r hs
    exact ⟨a, _, rfl, .inr (same_t w.sub hx), f, g, q _ _ G H (Same.refl G) w (.bl _) rfl⟩
theorem od_isN {d : D} {b : Bool} (hb : ∀ G v, Rp K G v d → decide (v = .non) = b) : OpD K M (fun x y H Q => y = .non ∧ Q (.bl (decide (x = .non))) H) d .non (· = .bl b) := fun M' G H x y Q m rx ry w q =>
  ⟨ry.non_inv, by rw [hb G x rx]; exact q _ _ G H (Same.refl G) w (.bl _) rfl⟩
def noneD : D → Option Bool
  | .non => some true
  | .raw _ => none
  | .seq _ => none
  | _ => some false
theorem od_none {d : D} {b : Bool} (h : noneD d = some b) : OpD K M (fun x y H Q => y = .non ∧ Q (.bl (decide (x = .non))) H) d .non (· = .bl b) := od_isN fun G v r => by
  cases r <;> cases h <;> simp
/-! ### calls of built-ins -/
theorem cd_all {bs : List Bool} : CallD K M (rAll K) [.list (bs.map D.bl)] (· = .bl (bs.all id)) := fun M' G H xs Q m r w q => by
  cases r with
  | cons p r =>
    cases r
    obtain ⟨a, us, rfl, hx, r⟩ := p.list_inv
    have e := r.bl_inv
    subst e
    exact ⟨a, bs, rfl, w.sub.seq hx, q _ _ G H (Same.refl G) w (.bl _) rfl⟩
theorem cd_any {bs : List Bool} : CallD K M (rAny K) [.list (bs.map D.bl)] (· = .bl (bs.any id)) := fun M' G H xs Q m r w q => by
  cases r with
  | cons p r =>
    cases r
    obtain ⟨a, us, rfl, hx, r⟩ := p.list_inv
    have e := r.bl_inv
    subst e
    exact ⟨a, bs, rfl, w.sub.seq hx, q _ _ G H (Same.refl G) w (.bl _) rfl⟩
theorem cd_intI {i : Int} : CallD K M (fun xs H Q => (∃ i, xs = [.int i] ∧ Q (.int i) H) ∨ ∃ k, xs = [.bl k] ∧ Q (.int (if k = true then 1 else 0)) H) [.int i] (· = .int i) := fun M' G H xs Q m r w q => by
  cases r with
  | cons p r =>
    cases r
    exact .inl ⟨i, by rw [p.int_inv], q _ _ G H (Same.refl G) w (.int _) rfl⟩
theorem cd_listof {xs : List D} : CallD K M (fun xs H Q => ∃ p ys, xs = [.ref p] ∧ (SqL K H p ys ∨ SqT K H p ys) ∧ ∀ l, H l = none → Q (.ref l) (upd H l (.lst ys))) [.list xs] (· = .list xs) := fun M' G H vs Q m r w q => by
  cases r with
  | cons p r =>
    cases r
    obtain ⟨a, us, rfl, hx, r⟩ := p.list_inv
    refine ⟨a, us, rfl, .inl (w.sub.seq hx), fun l hl => ?_⟩
    have sn := same_new (o := HO.lst us) (w.free hl)
    exact q (.ref l) _ _ _ sn (w.new hl) (.lst upd_same (r.mono sn)) rfl
theorem cd_str {i : Int} (h : i.natAbs.log2 < 1920) : CallD K M (fun xs H Q => ∃ i : Int, xs = [.int i] ∧ i.natAbs.log2 < 1920 ∧ Q (.str (Str.ofString (toString i))) H) [.int i] (· = .str (Str.ofString (toString i))) := fun M' G H xs Q m r w q => by
  cases r with
  | cons p r =>
    cases r
    exact ⟨i, by rw [p.int_inv], h, q _ _ G H (Same.refl G) w (.str _) rfl⟩
theorem ev_join {x : Str} {xs : List Str} {R1 : D → Prop} (ha : Ev K M ds ta (· = .str x)) (hb : Ev K M ds tb (fun d => ∃ xs : List Str, d = .list (xs.map D.str) ∧ (xs.map (·.length)).sum + xs.length * x.length ≤ 100000 ∧ R (.str (Txt.join x xs)))) :
    Ev K M ds (tM1 (fun x xs H Q => ∃ a p, ∃ ys : List Str, x = .str a ∧ xs = [.ref p] ∧ (SqL K H p (ys.map V.str) ∨ SqT K H p (ys.map V.str)) ∧ (ys.map (·.length)).sum + ys.length * a.length ≤ 16777216 ∧ Q (.str (Txt.join a ys)) H) ta tb) R := fun M' σ G H Q m s w q =>
  ha M' σ G H _ m s w fun v d G1 H1 s1 w1 r1 e => by
    subst e
    refine ⟨⟨x, r1.str_inv⟩, hb M' σ G1 H1 _ m (s.mono s1) w1 fun v2 d2 G2 H2 s2 w2 r2 ⟨ys, e2, hl, hR⟩ => ?_⟩
    subst e2
    obtain ⟨a, us, rfl, hx, r⟩ := r2.list_inv
    have e3 := r.str_inv
    subst e3
    exact ⟨x, a, ys, r1.str_inv, rfl, .inl (w2.sub.seq hx), Nat.le_trans hl (by decide), q _ _ G2 H2 (s1.trans s2) w2 (.str _) hR⟩
end
/-! ### calls by keywords alone -/
section
variable {X : Cx} {CX : CXT} {k : Nat} {f : Addr} {fd : FuncData} {ps ks : List Str} {sp : Sp} {E : XK} {x : Str} {p pos : Pos} {kws : List Keyword} {tk : TA} {g : List Value → List Value → List Value} {gV : List V → List V → List V}
theorem pe_callKs (F : FnOk X.prog X.w X.K X.mg X.base CX k f fd ps sp) (hr : Room k X.A) (hg : Gl X x) (hm : X.mg x = some (.ref f)) (hk : PySem.W.keepIn X.K (.ref f) = true) (hb : KBinds X.K fd ps ks g gV) (hx : Passes CX X E)
    (hkw : PK X kws tk) (hall : (backToKw pos (keywordEach kws X.env)).all (·.1.isSome) = true := by rfl) (hks : (backToKw pos (keywordEach kws X.env)).filterMap (·.1) = ks := by rfl) (hdb : (x == ("__debug__" : Str)) = false := by decide)
    (hpl : ((backTo pos (starEach [] X.env)).any (·.1) || (backToKw pos (keywordEach kws X.env)).any (·.1.isNone)) = false := by rfl) : PE X (.Call (.Name x p) [] kws pos) (tCallK sp gV E tNil tk) := by
  refine ⟨fun pins s σ H Q J h => ?_⟩
  refine wpAny_Call_Name_kw (ld_glob J hg hm ?_ hdb)
  refine PySem.W.callWith_KW0 (h₀ := X.base) J.ok.mod.kin hk hall ?_ hpl
  refine thn (hkw.run pos pins s σ H _ J h) fun ws s2 ⟨zs, H2, J2, rz, q2⟩ => ⟨J2.kIn, ?_⟩
  rw [hks]
  exact run_fnk (us := []) (vs := []) F hr hb hx J2 .nil rz q2
end
/-- one keyword, one parameter -/
def kg1 {α : Type} : List α → List α → List α
  | [], [a] => [a]
  | _, _ => []
def kg2 {α : Type} : List α → List α → List α
  | [], [a, b] => [a, b]
  | _, _ => []
def kg2r {α : Type} : List α → List α → List α
  | [], [a, b] => [b, a]
  | _, _ => []
def kg3r {α : Type} : List α → List α → List α
  | [], [a, b, c] => [c, b, a]
  | _, _ => []
section
variable {K : PySem.W.Frag} {x qual : Str} {st : Stmt} {f : Addr} {fd : FuncData}
theorem kb1 {p : Str} (F : Fun K x qual st f fd) (h : ∀ (kV doc pm : Value) (an : Option Addr) (cdv ct : Value) (a : Value), bindArgs (PySem.W.fnOf x qual (defArgs st) (defBody st) (defScope st) .none kV doc pm an cdv ct) ⟨[], [(p, a)]⟩ = pure [(p, a)]) : KBinds K fd [p] [p] kg1 kg1 := by
  obtain ⟨oc, od, kV, doc, pm, an, cdv, ct, osl, rfl, lk, hcd⟩ := F.ex
  refine ⟨fun s us ws _ hl => ?_, fun r r' => ?_⟩
  · match us, ws, hl with
    | [], [a], _ => exact .of_eq (h kV doc pm an cdv ct a)
  · match r, r' with
    | .nil, .cons q .nil => exact .cons q .nil
    | .nil, .nil => exact .nil
    | .nil, .cons _ (.cons _ _) => exact .nil
    | .cons _ _, _ => exact .nil
theorem kb3r {p1 p2 p3 : Str} (F : Fun K x qual st f fd) (h : ∀ (kV doc pm : Value) (an : Option Addr) (cdv ct : Value) (a b c : Value), bindArgs (PySem.W.fnOf x qual (defArgs st) (defBody st) (defScope st) .none kV doc pm an cdv ct) ⟨[], [(p3, a), (p2, b), (p1, c)]⟩ = pure [(p1, c), (p2, b), (p3, a)]) : KBinds K fd [p1, p2, p3] [p3, p2, p1] kg3r kg3r := by
  obtain ⟨oc, od, kV, doc, pm, an, cdv, ct, osl, rfl, lk, hcd⟩ := F.ex
  refine ⟨fun s us ws _ hl => ?_, fun r r' => ?_⟩
  · match us, ws, hl with
    | [], [a, b, c], _ => exact .of_eq (h kV doc pm an cdv ct a b c)
  · match r, r' with
    | .nil, .cons q (.cons q2 (.cons q3 .nil)) => exact .cons q3 (.cons q2 (.cons q .nil))
    | .nil, .nil => exact .nil
    | .nil, .cons _ .nil => exact .nil
    | .nil, .cons _ (.cons _ .nil) => exact .nil
    | .nil, .cons _ (.cons _ (.cons _ (.cons _ _))) => exact .nil
    | .cons _ _, _ => exact .nil
end
/-! ### built-ins by name, in short -/
theorem bt_isinstance : bootBuiltins "isinstance" = some (.builtin "isinstance") := by decide +kernel
theorem bt_len : bootBuiltins "len" = some (.builtin "len") := by decide +kernel
theorem bt_all : bootBuiltins "all" = some (.builtin "all") := by decide +kernel
theorem bt_any : bootBuiltins "any" = some (.builtin "any") := by decide +kernel
theorem bt_abs : bootBuiltins "abs" = some (.builtin "abs") := by decide +kernel
theorem bt_int : bootBuiltins "int" = some (.type "int") := by decide +kernel
theorem bt_str : bootBuiltins "str" = some (.type "str") := by decide +kernel
theorem bt_list : bootBuiltins "list" = some (.type "list") := by decide +kernel
theorem bt_tuple : bootBuiltins "tuple" = some (.type "tuple") := by decide +kernel
theorem bt_bool : bootBuiltins "bool" = some (.type "bool") := by decide +kernel
section
variable {X : Cx} {pos p : Pos} {e : Expr} {te : TE}
theorem pe_ty {x : Str} {n : String} (hv : bootBuiltins x = some (.type n)) (hm : X.mg x = none) (hg : Gl X x := by rfl) (hn : x ≠ "__name__" := by decide) (hd : (x == ("__debug__" : Str)) = false := by decide) : PE X (.Name x pos) (tC (.ty n)) := pe_bltn hg hm hv rfl hn hd
end
/-- in: of a list or tuple of flat things, of one sign in a text -/
abbrev rInSign : R2 := fun x y H Q => ∃ (c : Nat) (z : Str), x = .str ⟨#[c]⟩ ∧ y = .str z ∧ Q (.bl (decide (c ∈ z.cps.toList))) H
def rInU (K : PySem.W.Frag) : R2 := rOr (rIn K false) rInSign
theorem op_inU {X : Cx} : OpR X (compareOp .In) (rInU X.K) := op_or op_in_seq op_in_sign
section
variable {K : PySem.W.Frag} {M : Mt}
theorem od_inS {c : Nat} {z : Str} : OpD K M (rInU K) (.str ⟨#[c]⟩) (.str z) (· = .bl (decide (c ∈ z.cps.toList))) := od_r od_inSign
theorem od_inQ {d : D} {es : List D} {x : V} {xs : List V} {c : D} (hc : c = .list es ∨ c = .tup es) (h : flatD d = some x) (hs : es.map flatD = xs.map some) : OpD K M (rInU K) d c (· = .bl (inV x xs)) := od_l (od_inSeq (n := false) hc h hs)
theorem od_catL {xs ys : List D} (h : xs.length + ys.length ≤ 100000) : OpD K M (rAddU K) (.list xs) (.list ys) (· = .list (xs ++ ys)) := od_r (od_r fun M' G H v u Q m rx ry w q => by
  obtain ⟨a, us, rfl, ha, ra⟩ := rx.list_ex
  obtain ⟨b, ws, rfl, hb, rb⟩ := ry.list_ex
  refine ⟨a, b, us, ws, rfl, rfl, w.sub _ _ ha, w.sub _ _ hb, by rw [ra.length, rb.length]; exact Nat.le_trans h (by decide), fun p hp => ?_⟩
  have sn := same_new (o := HO.lst (us ++ ws)) (w.free hp)
  exact q (.ref p) _ _ _ sn (w.new hp) (.lst upd_same ((ra.append rb).mono sn)) rfl)
end
/-! ### the same rules with the written part by its own name (within a comprehension's block) -/
section
variable {X : Cx} {K : PySem.W.Frag}
theorem q_len (h : X.K = K := by rfl) : CallR X (.builtin "len") (fun xs H Q => ∃ x n, xs = [x] ∧ LenV K x H n ∧ Q (.int (n : Nat)) H) := h ▸ call_len
theorem q_isi (h : X.K = K := by rfl) : CallR X (.builtin "isinstance") (rIsi K) := h ▸ call_isi
theorem q_isiT (h : X.K = K := by rfl) : CallR X (.builtin "isinstance") (rIsiT K) := h ▸ call_isiT
theorem q_all (hc : X.calm = true := by rfl) (h : X.K = K := by rfl) : CallR X (.builtin "all") (rAll K) := h ▸ cr_all hc
theorem q_any (hc : X.calm = true := by rfl) (h : X.K = K := by rfl) : CallR X (.builtin "any") (rAny K) := h ▸ cr_any hc
theorem q_ix (h : X.K = K := by rfl) : IxR X (rIx K) := h ▸ ix_seq
theorem q_sl (h : X.K = K := by rfl) : SlR X (rSlU K) := h ▸ sl_any
theorem q_add (h : X.K = K := by rfl) : OpR X (binaryOp .Add) (rAddU K) := h ▸ op_addU
theorem q_in (h : X.K = K := by rfl) : OpR X (compareOp .In) (rInU K) := h ▸ op_inU
theorem q_notIn (h : X.K = K := by rfl) : OpR X (compareOp .NotIn) (rIn K true) := h ▸ op_notIn_seq
theorem q_listof (h : X.K = K := by rfl) : CallR X (.type "list") (fun xs H Q => ∃ p ys, xs = [.ref p] ∧ (SqL K H p ys ∨ SqT K H p ys) ∧ ∀ l, H l = none → Q (.ref l) (upd H l (.lst ys))) := h ▸ call_list_of
theorem q_itany {tg e : Expr} {te : TE} (he : PE X e te) (h : X.K = K := by rfl) : PI X tg e (iAny K te) := h ▸ pi_any he
theorem q_zip {e e2 : Expr} {ta : TA} {p pos tpos : Pos} {elts : List Expr} {kk : Nat} (hm : X.mg "zip" = none) (ha : PA X [e, e2] ta) (h : X.K = K := by rfl) (hg : Gl X "zip" := by rfl)
    (hs : starEach [e, e2] X.env = (false, eval e X.env) :: starEach [e2] X.env := by rfl) (hpl : (backTo pos (starEach [e2] X.env)).any (·.1) = false := by rfl) :
    PI X (.Tuple elts kk tpos) (.Call (.Name "zip" p) [e, e2] [] pos) (iZipA K ta) := h ▸ pi_zipA hg hm ha hs hpl
theorem q_join {o e : Expr} {to te : TE} {apos pos : Pos} (ho : PE X o to) (he : PE X e te) (h : X.K = K := by rfl) (hs : starEach [e] X.env = [(false, eval e X.env)] := by rfl) (hb : attributeBase o "join" X.env (eval o X.env) = eval o X.env := by rfl)
    (hl : (apos.endLine == pos.line) = true := by rfl) : PE X (.Call (.Attribute o "join" apos) [e] [] pos)
      (tM1 (fun x xs H Q => ∃ a p, ∃ ys : List Str, x = .str a ∧ xs = [.ref p] ∧ (SqL K H p (ys.map V.str) ∨ SqT K H p (ys.map V.str)) ∧ (ys.map (·.length)).sum + ys.length * a.length ≤ 16777216 ∧ Q (.str (Txt.join a ys)) H) to te) := h ▸ pe_join ho he hs hb hl
theorem q_tup {es : List Expr} {k : Nat} {t : TGs} {n : Nat} {pos : Pos} (hc : X.calm = true) (h : PGs X es t) (hK : X.K = K := by rfl) (hn : (assignEach es X.env).length = n := by rfl) (hst : (assignEach es X.env).findIdx? (·.1) = none := by rfl) : PG X (.Tuple es k pos) (gTup K n t) := hK ▸ pg_tup hc h hn hst
end
end Rg
namespace Rg
open PySem L2 RZ PyProof.Rows
section
variable {K : PySem.W.Frag} {M M1 : Mt} {ds : DS} {te ta tb tc : TE} {t u : TT} {R R' : D → Prop} {RT RT' : Bool → Prop}
theorem et_orT {a : Bool} (h : EvT K M ds t (· = a)) (ha : a = true) : EvT K M ds (tOr t u) (· = true) := by subst ha; exact (et_or (b := true) h fun e => nomatch e)
theorem et_orF {a b : Bool} (h : EvT K M ds t (· = a)) (ha : a = false) (h2 : EvT K M ds u (· = b)) : EvT K M ds (tOr t u) (· = b) := by subst ha; exact et_or h fun _ => h2
theorem et_andF {a : Bool} (h : EvT K M ds t (· = a)) (ha : a = false) : EvT K M ds (tAnd t u) (· = false) := by subst ha; exact (et_and (b := false) h fun e => nomatch e)
theorem et_andT {a b : Bool} (h : EvT K M ds t (· = a)) (ha : a = true) (h2 : EvT K M ds u (· = b)) : EvT K M ds (tAnd t u) (· = b) := by subst ha; exact et_and h fun _ => h2
theorem ev_orT {a : Bool} (h : Ev K M ds ta (· = .bl a)) (ha : a = true) : Ev K M ds (tOrV ta tb) (· = .bl true) := by subst ha; exact ev_orV h (fun e => nomatch e) fun _ => rfl
theorem ev_orF {a : Bool} {d : D} (h : Ev K M ds ta (· = .bl a)) (ha : a = false) (h2 : Ev K M ds tb (· = d)) : Ev K M ds (tOrV ta tb) (· = d) := by subst ha; exact ev_orV h (fun _ => h2) fun e => nomatch e
theorem ev_andF {a : Bool} (h : Ev K M ds ta (· = .bl a)) (ha : a = false) : Ev K M ds (tAndV ta tb) (· = .bl false) := by subst ha; exact ev_andV h (fun e => nomatch e) fun _ => rfl
theorem ev_andT {a : Bool} {d : D} (h : Ev K M ds ta (· = .bl a)) (ha : a = true) (h2 : Ev K M ds tb (· = d)) : Ev K M ds (tAndV ta tb) (· = d) := by subst ha; exact ev_andV h (fun _ => h2) fun e => nomatch e
theorem ev_ifT {a : Bool} {d : D} (h : EvT K M ds t (· = a)) (ha : a = true) (h1 : Ev K M ds ta (· = d)) : Ev K M ds (tIf t ta tb) (· = d) := by subst ha; exact ev_ifR h (fun _ => h1) fun e => nomatch e
theorem ev_ifF {a : Bool} {d : D} (h : EvT K M ds t (· = a)) (ha : a = false) (h1 : Ev K M ds tb (· = d)) : Ev K M ds (tIf t ta tb) (· = d) := by subst ha; exact ev_ifR h (fun e => nomatch e) fun _ => h1
theorem ev_chainB {r r' : R2} {x y z : D} {k k' : Bool} (ha : Ev K M ds ta (· = x)) (hb : Ev K M ds tb (· = y)) (hr : OpD K M r x y (· = .bl k)) (hc : Ev K M ds tc (· = z)) (hr' : OpD K M r' y z (· = .bl k')) :
    Ev K M ds (tChain r r' ta tb tc) (· = .bl (k && k')) := ev_chain ha hb hr (fun _ => hc) (fun e => by subst e; exact hr') fun e => by subst e; rfl
theorem od_leI {i j : Int} : OpD K M (rI0 fun i j => V.bl (decide (i ≤ j))) (.int i) (.int j) (· = .bl (decide (i ≤ j))) := od_int (h := fun i j => .bl (decide (i ≤ j))) fun _ => .bl _
theorem od_ltI {i j : Int} : OpD K M (rI0 fun i j => V.bl (decide (i < j))) (.int i) (.int j) (· = .bl (decide (i < j))) := od_int (h := fun i j => .bl (decide (i < j))) fun _ => .bl _
theorem od_gtI {i j : Int} : OpD K M (rI0 fun i j => V.bl (decide (j < i))) (.int i) (.int j) (· = .bl (decide (j < i))) := od_int (h := fun i j => .bl (decide (j < i))) fun _ => .bl _
theorem od_geI {i j : Int} : OpD K M (rI0 fun i j => V.bl (decide (j ≤ i))) (.int i) (.int j) (· = .bl (decide (j ≤ i))) := od_int (h := fun i j => .bl (decide (j ≤ i))) fun _ => .bl _
theorem od_subI {i j : Int} : OpD K M (rI0 fun i j => V.int (i - j)) (.int i) (.int j) (· = .int (i - j)) := od_int (h := fun i j => .int (i - j)) fun _ => .int _
theorem od_mulI {i j : Int} (h : CMul i j) : OpD K M (rI CMul fun i j => V.int (i * j)) (.int i) (.int j) (· = .int (i * j)) := od_intC (h := fun i j => .int (i * j)) h fun _ => .int _
theorem od_modI {i j : Int} (h : j ≠ 0) : OpD K M (rI (fun _ j => j ≠ 0) fun i j => V.int (i.fmod j)) (.int i) (.int j) (· = .int (i.fmod j)) := od_intC (h := fun i j => .int (i.fmod j)) h fun _ => .int _
theorem od_divI {i j : Int} (h : CDivN i j) : OpD K M (rI CDivN fun i j => V.int (i.fdiv j)) (.int i) (.int j) (· = .int (i.fdiv j)) := od_intC (h := fun i j => .int (i.fdiv j)) h fun _ => .int _
theorem od_powI {i j : Int} (h : CPow i j) : OpD K M (rI CPow fun i j => V.int (i ^ j.toNat)) (.int i) (.int j) (· = .int (i ^ j.toNat)) := od_intC (h := fun i j => .int (i ^ j.toNat)) h fun _ => .int _
theorem ud_neg {i : Int} : UnD K M (rU fun i => .int (-i)) (.int i) (· = .int (-i)) := fun M' G H x Q m rx w q => ⟨i, rx.int_inv, q _ _ G H (Same.refl G) w (.int _) rfl⟩
/-- a comprehension without a test, all known -/
theorem ev_lc1 {wi : TI} {g : TG} {vs : List Nat} {es : List D} {f : D → D} (hI : EvI K M ds wi (· = es)) (hl : es.length ≤ 100000) (h : ∀ (i : Nat) d, es[i]? = some d → EvG K M (some vs) g d (wipeD ds vs) (fun ds2 => Ev K M ds2 te (· = f d))) :
    Ev K M ds (tLc wi g tYes te vs) (· = .list (es.map f)) := by
  refine ev_lc hI fun es' e => ?_
  subst e
  refine ⟨hl, fun i acc => acc = (es'.take i).map f, rfl, fun i d acc hd _ ha => ?_, fun acc _ ha => ?_⟩
  · intro M' σ G H v Q m s w r q
    refine h i d hd M' σ G H v Q m s w r fun ds' σ' G' H' hE => q ds' σ' G' H' ⟨(· = true), et_yes, fun _ => hE.weak fun y ey => ?_, fun e => nomatch e⟩
    show acc ++ [y] = List.map f (List.take (i + 1) es')
    rw [ey, show acc = _ from ha, List.take_add_one, hd, List.map_append]
    rfl
  · rw [show acc = _ from ha, List.take_length]
/-- the same, each item told by a word -/
theorem ev_lcR {wi : TI} {g : TG} {vs : List Nat} {RI : List D → Prop} {Pi : List D → Nat → D → Prop} (hI : EvI K M ds wi RI) (hl : ∀ es, RI es → es.length ≤ 100000)
    (h : ∀ es (i : Nat) d, RI es → es[i]? = some d → EvG K M (some vs) g d (wipeD ds vs) (fun ds2 => Ev K M ds2 te (Pi es i))) :
    Ev K M ds (tLc wi g tYes te vs) (fun d => ∃ es acc, RI es ∧ d = .list acc ∧ acc.length = es.length ∧ ∀ (i : Nat) y, acc[i]? = some y → Pi es i y) := by
  refine ev_lc hI fun es e => ⟨hl es e, fun i acc => acc.length = i ∧ ∀ (j : Nat) y, acc[j]? = some y → Pi es j y, ⟨rfl, fun j y hy => by simp at hy⟩, fun i d acc hd _ ⟨ha, hb⟩ => ?_, fun acc _ ⟨ha, hb⟩ => ⟨es, acc, e, rfl, ha, hb⟩⟩
  intro M' σ G H v Q m s w r q
  refine h es i d e hd M' σ G H v Q m s w r fun ds' σ' G' H' hE => q ds' σ' G' H' ⟨(· = true), et_yes, fun _ => hE.weak fun y ey => ⟨by simp [ha], fun j z hz => ?_⟩, fun e => nomatch e⟩
  by_cases hj : j < acc.length
  · rw [List.getElem?_append_left hj] at hz
    exact hb j z hz
  · have ej : j = acc.length := by
      have := (List.getElem?_eq_some_iff.mp hz).1
      simp at this
      omega
    subst ej
    rw [List.getElem?_append_right (Nat.le_refl _)] at hz
    simp at hz
    subst hz
    rw [ha]
    exact ey
def isStrD : D → Option Bool
  | .non => some false
  | .bl _ => some false
  | .int _ => some false
  | .str _ => some true
  | .list _ => some false
  | .tup _ => some false
  | .dict _ _ => some false
  | _ => none
theorem isStr_of {d : D} {b : Bool} (h : isStrD d = some b) : isD d "str" = some b := by
  cases d with
  | non => cases h; exact (show kitB "NoneType" "str" = some false by decide +kernel)
  | bl _ => cases h; exact (show kitB "bool" "str" = some false by decide +kernel)
  | int _ => cases h; exact (show kitB "int" "str" = some false by decide +kernel)
  | str _ => cases h; exact (show kitB "str" "str" = some true by decide +kernel)
  | list _ => cases h; exact (show kitB "list" "str" = some false by decide +kernel)
  | tup _ => cases h; exact (show kitB "tuple" "str" = some false by decide +kernel)
  | dict _ _ => cases h; exact (show kitB "dict" "str" = some false by decide +kernel)
  | _ => cases h
theorem cd_isStr {d : D} {b : Bool} (h : isStrD d = some b) : CallD K M (rIsi K) [d, .raw (.ty "str")] (· = .bl b) := cd_isi (isStr_of h)
def isIntD : D → Option Bool
  | .non => some false
  | .bl _ => some true
  | .int _ => some true
  | .str _ => some false
  | .list _ => some false
  | .tup _ => some false
  | .dict _ _ => some false
  | _ => none
theorem isInt_of {d : D} {b : Bool} (h : isIntD d = some b) : isD d "int" = some b := by
  cases d with
  | non => cases h; exact (show kitB "NoneType" "int" = some false by decide +kernel)
  | bl _ => cases h; exact (show kitB "bool" "int" = some true by decide +kernel)
  | int _ => cases h; exact (show kitB "int" "int" = some true by decide +kernel)
  | str _ => cases h; exact (show kitB "str" "int" = some false by decide +kernel)
  | list _ => cases h; exact (show kitB "list" "int" = some false by decide +kernel)
  | tup _ => cases h; exact (show kitB "tuple" "int" = some false by decide +kernel)
  | dict _ _ => cases h; exact (show kitB "dict" "int" = some false by decide +kernel)
  | _ => cases h
theorem cd_isInt {d : D} {b : Bool} (h : isIntD d = some b) : CallD K M (rIsi K) [d, .raw (.ty "int")] (· = .bl b) := cd_isi (isInt_of h)
def isBoolD : D → Option Bool
  | .non => some false
  | .bl _ => some true
  | .int _ => some false
  | .str _ => some false
  | .list _ => some false
  | .tup _ => some false
  | .dict _ _ => some false
  | _ => none
theorem isBool_of {d : D} {b : Bool} (h : isBoolD d = some b) : isD d "bool" = some b := by
  cases d with
  | non => cases h; exact (show kitB "NoneType" "bool" = some false by decide +kernel)
  | bl _ => cases h; exact (show kitB "bool" "bool" = some true by decide +kernel)
  | int _ => cases h; exact (show kitB "int" "bool" = some false by decide +kernel)
  | str _ => cases h; exact (show kitB "str" "bool" = some false by decide +kernel)
  | list _ => cases h; exact (show kitB "list" "bool" = some false by decide +kernel)
  | tup _ => cases h; exact (show kitB "tuple" "bool" = some false by decide +kernel)
  | dict _ _ => cases h; exact (show kitB "dict" "bool" = some false by decide +kernel)
  | _ => cases h
theorem cd_isBool {d : D} {b : Bool} (h : isBoolD d = some b) : CallD K M (rIsi K) [d, .raw (.ty "bool")] (· = .bl b) := cd_isi (isBool_of h)
def isListD : D → Option Bool
  | .non => some false
  | .bl _ => some false
  | .int _ => some false
  | .str _ => some false
  | .list _ => some true
  | .tup _ => some false
  | .dict _ _ => some false
  | _ => none
theorem isList_of {d : D} {b : Bool} (h : isListD d = some b) : isD d "list" = some b := by
  cases d with
  | non => cases h; exact (show kitB "NoneType" "list" = some false by decide +kernel)
  | bl _ => cases h; exact (show kitB "bool" "list" = some false by decide +kernel)
  | int _ => cases h; exact (show kitB "int" "list" = some false by decide +kernel)
  | str _ => cases h; exact (show kitB "str" "list" = some false by decide +kernel)
  | list _ => cases h; exact (show kitB "list" "list" = some true by decide +kernel)
  | tup _ => cases h; exact (show kitB "tuple" "list" = some false by decide +kernel)
  | dict _ _ => cases h; exact (show kitB "dict" "list" = some false by decide +kernel)
  | _ => cases h
theorem cd_isList {d : D} {b : Bool} (h : isListD d = some b) : CallD K M (rIsi K) [d, .raw (.ty "list")] (· = .bl b) := cd_isi (isList_of h)
def isTupleD : D → Option Bool
  | .non => some false
  | .bl _ => some false
  | .int _ => some false
  | .str _ => some false
  | .list _ => some false
  | .tup _ => some true
  | .dict _ _ => some false
  | _ => none
theorem isTuple_of {d : D} {b : Bool} (h : isTupleD d = some b) : isD d "tuple" = some b := by
  cases d with
  | non => cases h; exact (show kitB "NoneType" "tuple" = some false by decide +kernel)
  | bl _ => cases h; exact (show kitB "bool" "tuple" = some false by decide +kernel)
  | int _ => cases h; exact (show kitB "int" "tuple" = some false by decide +kernel)
  | str _ => cases h; exact (show kitB "str" "tuple" = some false by decide +kernel)
  | list _ => cases h; exact (show kitB "list" "tuple" = some false by decide +kernel)
  | tup _ => cases h; exact (show kitB "tuple" "tuple" = some true by decide +kernel)
  | dict _ _ => cases h; exact (show kitB "dict" "tuple" = some false by decide +kernel)
  | _ => cases h
theorem cd_isTuple {d : D} {b : Bool} (h : isTupleD d = some b) : CallD K M (rIsi K) [d, .raw (.ty "tuple")] (· = .bl b) := cd_isi (isTuple_of h)
theorem ev_isSeq {d : D} {b1 b2 : Bool} {tcs : TA} (ha : Ev K M ds ta (· = d)) (hc : EvA K M ds tcs (· = [.raw (.ty "list"), .raw (.ty "tuple")])) (h1 : isListD d = some b1) (h2 : isTupleD d = some b2) :
    Ev K M ds (tCB (rIsiT K) (tCons ta (tCons (tTup tcs) tNil))) (· = .bl (b1 || b2)) := ev_isiT2 ha hc (isList_of h1) (isTuple_of h2)
theorem run_if1 {tc : TT} {a b : TS} {E : AE} {c : Bool} (h : EvT K M ds tc (· = c)) (h1 : c = true → Run K M ds a E) (h2 : c = false → Run K M ds b E) : Run K M ds (tIfS tc a b) E := run_if h (fun e => h1 e.symm) fun e => h2 e.symm
theorem run_ifT {tc : TT} {a b : TS} {E : AE} {c : Bool} (h : EvT K M ds tc (· = c)) (hc : c = true) (h1 : Run K M ds a E) : Run K M ds (tIfS tc a b) E := by subst hc; exact run_if1 h (fun _ => h1) fun e => nomatch e
theorem run_ifF {tc : TT} {a b : TS} {E : AE} {c : Bool} (h : EvT K M ds tc (· = c)) (hc : c = false) (h1 : Run K M ds b E) : Run K M ds (tIfS tc a b) E := by subst hc; exact run_if1 h (fun e => nomatch e) fun _ => h1
theorem run_ret1 {E : AE} {d : D} (h : Ev K M ds te (· = d)) (hr : E.rt d) : Run K M ds (tRet te) E := run_ret (h.weak fun _ e => by rw [e]; exact hr)
theorem ev_lcM {α : Type} {wi : TI} {g : TG} {vs : List Nat} {cs : List α} {inj f : α → D} (hI : EvI K M ds wi (· = cs.map inj)) (hl : cs.length ≤ 100000) (h : ∀ c, c ∈ cs → EvG K M (some vs) g (inj c) (wipeD ds vs) (fun ds2 => Ev K M ds2 te (· = f c))) :
    Ev K M ds (tLc wi g tYes te vs) (· = .list (cs.map f)) := by
  refine ev_lc hI fun es' e => ?_
  subst e
  refine ⟨by rw [List.length_map]; exact hl, fun i acc => acc = (cs.take i).map f, rfl, fun i d acc hd _ ha => ?_, fun acc _ ha => ?_⟩
  · rw [List.getElem?_map] at hd
    cases hc : cs[i]? with
    | none => rw [hc] at hd; cases hd
    | some c =>
      rw [hc] at hd
      have ed : inj c = d := Option.some.inj hd
      subst ed
      intro M' σ G H v Q m s w r q
      refine h c (List.mem_of_getElem? hc) M' σ G H v Q m s w r fun ds' σ' G' H' hE => q ds' σ' G' H' ⟨(· = true), et_yes, fun _ => hE.weak fun y ey => ?_, fun e => nomatch e⟩
      show acc ++ [y] = List.map f (List.take (i + 1) cs)
      rw [ey, show acc = _ from ha, List.take_add_one, hc, List.map_append]
      rfl
  · rw [show acc = _ from ha, List.length_map, List.take_length]
theorem ev_intP {φ : Int → Prop} (h : ∃ k, Ev K M ds te (· = .int k) ∧ φ k) : Ev K M ds te (fun d => ∃ k, φ k ∧ d = .int k) := let ⟨k, h1, h2⟩ := h; h1.weak fun _ e => ⟨k, h2, e⟩
end
end Rg
namespace Rg
open PySem L2 RZ PyProof.Rows
abbrev rLenR (K : PySem.W.Frag) : List V → Hp → VK → Prop := fun xs H Q => ∃ x n, xs = [x] ∧ LenV K x H n ∧ Q (.int (n : Nat)) H
abbrev rIntR : List V → Hp → VK → Prop := fun xs H Q => (∃ i, xs = [.int i] ∧ Q (.int i) H) ∨ ∃ k, xs = [.bl k] ∧ Q (.int (if k = true then 1 else 0)) H
abbrev rAbsR : List V → Hp → VK → Prop := fun xs H Q => ∃ i : Int, xs = [.int i] ∧ Q (.int (if i < 0 then -i else i)) H
/-! ### expressions that lay nothing, over the heap as it stands -/
def Px (te : TE) (σ : L2.St) (H : Hp) (v : V) : Prop := ∀ Q : VK, Q v H → te σ H Q
def PxA (ta : TA) (σ : L2.St) (H : Hp) (vs : List V) : Prop := ∀ Q : List V → Hp → Prop, Q vs H → ta σ H Q
def PxT (t : TT) (σ : L2.St) (H : Hp) (b : Bool) : Prop := ∀ Q : Bool → Hp → Prop, Q b H → t σ H Q
section
variable {K : PySem.W.Frag} {σ : L2.St} {H : Hp} {ta tb te : TE} {t u : TT} {x y z v : V}
theorem px_var {i : Nat} (h : σ[i]? = some (some v)) : Px (tVar i) σ H v := fun Q q => ⟨v, h, q⟩
theorem px_c : Px (tC v) σ H v := fun Q q => q
theorem px_op {r : R2} (ha : Px ta σ H x) (hb : Px tb σ H y) (hr : ∀ Q : VK, Q z H → r x y H Q) : Px (tOp r ta tb) σ H z := fun Q q => ha _ (hb _ (hr Q q))
theorem px_nil : PxA tNil σ H [] := fun Q q => q
theorem px_cons {vs : List V} {tr : TA} (ha : Px ta σ H v) (hr : PxA tr σ H vs) : PxA (tCons ta tr) σ H (v :: vs) := fun Q q => ha _ (hr _ q)
theorem px_cb {r : List V → Hp → VK → Prop} {vs : List V} {ta : TA} (ha : PxA ta σ H vs) (hr : ∀ Q : VK, Q z H → r vs H Q) : Px (tCB r ta) σ H z := fun Q q => ha _ (hr Q q)
theorem px_addI {i j : Int} : ∀ Q : VK, Q (.int (i + j)) H → rAddU K (.int i) (.int j) H Q := fun Q q => .inl ⟨i, j, rfl, rfl, q⟩
theorem px_I0 {g : Int → Int → V} {i j : Int} : ∀ Q : VK, Q (g i j) H → rI0 g (.int i) (.int j) H Q := fun Q q => ⟨i, j, rfl, rfl, q⟩
theorem px_IC {C : Int → Int → Prop} {g : Int → Int → V} {i j : Int} (h : C i j) : ∀ Q : VK, Q (g i j) H → rI C g (.int i) (.int j) H Q := fun Q q => ⟨i, j, rfl, rfl, h, q⟩
theorem px_eqI {i j : Int} : ∀ Q : VK, Q (.bl (decide (i = j))) H → rEq (.int i) (.int j) H Q := fun Q q => ⟨rfl, by rw [show decide (V.int i = V.int j) = decide (i = j) by simp]; exact q⟩
theorem px_ix {p : Addr} {xs : List V} {i : Int} (h : H p = some (.lst xs)) (e : atI xs i = some v) : ∀ Q : VK, Q v H → rIx K (.ref p) (.int i) H Q := fun Q q => .inl ⟨p, xs, i, v, rfl, rfl, sq h, e, q⟩
theorem px_len {p : Addr} {xs : List V} (h : H p = some (.lst xs)) : ∀ Q : VK, Q (.int (xs.length : Nat)) H → rLenR K [.ref p] H Q := fun Q q => ⟨_, xs.length, rfl, .inl ⟨xs, sq h, rfl⟩, q⟩
theorem px_intI {i : Int} : ∀ Q : VK, Q (.int i) H → rIntR [.int i] H Q := fun Q q => .inl ⟨i, rfl, q⟩
theorem px_abs {i : Int} : ∀ Q : VK, Q (.int (if i < 0 then -i else i)) H → rAbsR [.int i] H Q := fun Q q => ⟨i, rfl, q⟩
theorem px_test {b : Bool} (h : Px te σ H (.bl b)) : PxT (tTest te) σ H b := fun Q q => h _ ⟨b, rfl, q⟩
theorem px_B {b : Bool} (h : Px te σ H (.bl b)) : PxT (tB te) σ H b := fun Q q => h _ ⟨b, rfl, q⟩
theorem px_and {a b : Bool} (h1 : PxT t σ H a) (h2 : PxT u σ H b) : PxT (tAnd t u) σ H (a && b) := fun Q q => h1 _ (by
  cases a with
  | true => exact h2 Q q
  | false => exact q)
/-- statements -/
theorem st_set {Z : Ends} {i : Nat} {b : TS} (h : Px te σ H v) (hn : b Z (σ.set i (some v)) H) : tSeq (tAsg te (gName i)) b Z σ H := h _ hn
theorem st_putN {Z : Ends} {p : Addr} {k : Int} {j : Nat} {xs : List V} (h : Px te σ H v) (ho : Px ta σ H (.ref p)) (hi : Px tb σ H (.int k)) (hp : H p = some (.lst xs)) (hj : ixN xs.length k = some j) (hn : Z.nx σ (upd H p (.lst (xs.set j v)))) :
    tAsg te (gSub ta tb rSetL) Z σ H := h _ (ho _ (hi _ ⟨p, xs, k, j, rfl, rfl, hp, hj, hn⟩))
theorem st_put {Z : Ends} {p : Addr} {k : Int} {j : Nat} {xs : List V} {b : TS} (h : Px te σ H v) (ho : Px ta σ H (.ref p)) (hi : Px tb σ H (.int k)) (hp : H p = some (.lst xs)) (hj : ixN xs.length k = some j) (hn : b Z σ (upd H p (.lst (xs.set j v)))) :
    tSeq (tAsg te (gSub ta tb rSetL)) b Z σ H := st_putN h ho hi hp hj hn
theorem upd_self {H : Hp} {p : Addr} {o : HO} (h : H p = some o) : upd H p o = H := by
  funext a
  unfold upd
  split
  · rename_i e; rw [e, h]
  · rfl
theorem at_upd {t : TS} {Z : Ends} {p : Addr} {o : HO} (h : H p = some o) (q : t Z σ (upd H p o)) : t Z σ H := by rw [upd_self h] at q; exact q
theorem st_bag {Z : Ends} {p : Addr} {k : Int} {j : Nat} {xs ys : List V} {b : TS} (h : Px te σ (upd H p (.lst xs)) v) (ho : Px ta σ (upd H p (.lst xs)) (.ref p)) (hi : Px tb σ (upd H p (.lst xs)) (.int k)) (hj : ixN xs.length k = some j) (hy : xs.set j v = ys)
    (hn : b Z σ (upd H p (.lst ys))) : tSeq (tAsg te (gSub ta tb rSetL)) b Z σ (upd H p (.lst xs)) := st_put h ho hi upd_same hj (by rw [upd_upd, hy]; exact hn)
theorem st_bagN {Z : Ends} {p : Addr} {k : Int} {j : Nat} {xs ys : List V} (h : Px te σ (upd H p (.lst xs)) v) (ho : Px ta σ (upd H p (.lst xs)) (.ref p)) (hi : Px tb σ (upd H p (.lst xs)) (.int k)) (hj : ixN xs.length k = some j) (hy : xs.set j v = ys)
    (hn : Z.nx σ (upd H p (.lst ys))) : tAsg te (gSub ta tb rSetL) Z σ (upd H p (.lst xs)) := st_putN h ho hi upd_same hj (by rw [upd_upd, hy]; exact hn)
theorem st_ret {Z : Ends} (h : Px te σ H v) (hr : Z.rt v H) : tRet te Z σ H := h _ hr
theorem st_setE {Z : Ends} {i : Nat} {b : TS} {φ : Int → Prop} (h : ∃ k, Px te σ H (.int k) ∧ φ k) (hn : ∀ k, φ k → b Z (σ.set i (some (.int k))) H) : tSeq (tAsg te (gName i)) b Z σ H := let ⟨k, h1, h2⟩ := h; st_set h1 (hn k h2)
theorem st_bagE {Z : Ends} {p : Addr} {k : Int} {j : Nat} {xs : List V} {b : TS} {φ : Int → Prop} {f : Int → List V} (h : ∃ k, Px te σ (upd H p (.lst xs)) (.int k) ∧ φ k) (ho : Px ta σ (upd H p (.lst xs)) (.ref p)) (hi : Px tb σ (upd H p (.lst xs)) (.int k))
    (hj : ixN xs.length k = some j) (hy : ∀ k, xs.set j (.int k) = f k) (hn : ∀ k, φ k → b Z σ (upd H p (.lst (f k)))) : tSeq (tAsg te (gSub ta tb rSetL)) b Z σ (upd H p (.lst xs)) := let ⟨k, h1, h2⟩ := h; st_bag h1 ho hi hj (hy k) (hn k h2)
theorem st_bagNE {Z : Ends} {p : Addr} {k : Int} {j : Nat} {xs : List V} {φ : Int → Prop} {f : Int → List V} (h : ∃ k, Px te σ (upd H p (.lst xs)) (.int k) ∧ φ k) (ho : Px ta σ (upd H p (.lst xs)) (.ref p)) (hi : Px tb σ (upd H p (.lst xs)) (.int k))
    (hj : ixN xs.length k = some j) (hy : ∀ k, xs.set j (.int k) = f k) (hn : ∀ k, φ k → Z.nx σ (upd H p (.lst (f k)))) : tAsg te (gSub ta tb rSetL) Z σ (upd H p (.lst xs)) := let ⟨k, h1, h2⟩ := h; st_bagN h1 ho hi hj (hy k) (hn k h2)
theorem st_retE {Z : Ends} {φ : Int → Prop} (h : ∃ k, Px te σ H (.int k) ∧ φ k) (hr : ∀ k, φ k → Z.rt (.int k) H) : tRet te Z σ H := let ⟨k, h1, h2⟩ := h; st_ret h1 (hr k h2)
theorem st_next {Z : Ends} (h : Z.nx σ H) : tNext Z σ H := h
theorem st_if {Z : Ends} {a b : TS} {c : Bool} (h : PxT t σ H c) (h1 : c = true → a Z σ H) (h2 : c = false → b Z σ H) : tIfS t a b Z σ H := h _ (by
  cases c with
  | true => exact h1 rfl
  | false => exact h2 rfl)
end
theorem run_at {K : PySem.W.Frag} {M : Mt} {G H : Hp} {σ : L2.St} {ds : DS} {t : TS} {E : AE} {Z : Ends} (h : Run K M ds t E) (s : Sg K G σ ds) (w : Wd M G H) (z : EndsOk K M G E Z) : t Z σ H := h M σ G H Z (MSub.refl M) s w z
theorem fmod_bd {i k : Int} (h : 0 < k) : 0 ≤ i.fmod k ∧ i.fmod k < k := ⟨Int.fmod_nonneg_of_pos i h, Int.fmod_lt_of_pos i h⟩
theorem fmod_lt {i k : Int} {m : Int} (h : 0 < k) (hm : k ≤ m) : 0 ≤ i.fmod k ∧ i.fmod k < m := ⟨(fmod_bd h).1, Int.lt_of_lt_of_le (fmod_bd h).2 hm⟩
theorem fdiv_nn {i k : Int} (hi : 0 ≤ i) (h : 0 < k) : 0 ≤ i.fdiv k := Int.fdiv_nonneg hi (Int.le_of_lt h)
/-! ### the bag of the law's draws -/
structure Bg (K : PySem.W.Frag) (G : Hp) (c : Addr) (ns : List Int) (i r m n : Int) : Prop where
  cells : G c = some (.lst (ns.map V.int))
  len : ns.length ≤ 63
  i0 : 0 ≤ i
  r0 : 0 ≤ r
  m0 : 0 ≤ m
  m1 : m < 2147483648
abbrev bagL (c : Addr) (i r m n : Int) : HO := .lst [.ref c, .int i, .int r, .int m, .int n]
def IsBag (K : PySem.W.Frag) (G : Hp) (o : HO) : Prop := ∃ c ns i r m n, o = bagL c i r m n ∧ Bg K G c ns i r m n
theorem Bg.mono {K : PySem.W.Frag} {G G' : Hp} {c : Addr} {ns : List Int} {i r m n : Int} (s : Same G G') (h : Bg K G c ns i r m n) : Bg K G' c ns i r m n := ⟨s _ _ h.cells, h.len, h.i0, h.r0, h.m0, h.m1⟩
theorem IsBag.mono {K : PySem.W.Frag} : ∀ G1 G2 o, Same G1 G2 → IsBag K G1 o → IsBag K G2 o := fun _ _ _ s ⟨c, ns, i, r, m, n, e, h⟩ => ⟨c, ns, i, r, m, n, e, h.mono s⟩
def preDraw (K : PySem.W.Frag) (M : Ml) (as : List D) : Prop := ∃ b m, as = [.raw (.ref b), .int m] ∧ (b, IsBag K) ∈ M ∧ 0 < m ∧ m < 1073741824
def postDraw (as : List D) (d : D) : Prop := ∃ i : Int, d = .int i ∧ 0 ≤ i ∧ ∀ b m, as = [.raw (.ref b), .int m] → i < m
/-- what the walk of a draw must show -/
theorem draw_of {K : PySem.W.Frag} {vs : List V} {H : Hp} {Q : VK} {E : XK} (h : spF K (preDraw K) postDraw vs H Q E) : ∃ (b : Addr) (m : Int) (c : Addr) (ns : List Int) (i r mx n : Int), vs = [.ref b, .int m] ∧ 0 < m ∧ m < 1073741824 ∧ H b = some (bagL c i r mx n) ∧ H c = some (.lst (ns.map V.int)) ∧ c ≠ b ∧
    ns.length ≤ 63 ∧ 0 ≤ i ∧ 0 ≤ r ∧ 0 ≤ mx ∧ mx < 2147483648 ∧
    ∀ (d i' r' mx' n' : Int), 0 ≤ d → d < m → 0 ≤ i' → 0 ≤ r' → 0 ≤ mx' → mx' < 2147483648 → Q (.int d) (upd H b (bagL c i' r' mx' n')) := by
  obtain ⟨M, G, as, wd, ra, ⟨b, m, rfl, hb, h0, h1⟩, q, _⟩ := h
  obtain ⟨gb, o, ho, c, ns, i, r, mx, n, rfl, B⟩ := wd.mt _ hb
  cases ra with
  | cons p ra =>
    cases ra with
    | cons p2 ra =>
      cases ra
      have e1 := p.raw_inv
      have e2 := p2.int_inv
      subst e1; subst e2
      have gb' : G b = none := gb
      refine ⟨b, m, c, ns, i, r, mx, n, rfl, h0, h1, ho, wd.sub _ _ B.cells, fun e => ?_, B.len, B.i0, B.r0, B.m0, B.m1, fun d i' r' mx' n' hd0 hd1 a1 a2 a3 a4 => ?_⟩
      · have := B.cells
        rw [e, gb'] at this
        cases this
      · exact q (.int d) (.int d) G _ (Same.refl G) (wd.write hb ⟨c, ns, i', r', mx', n', rfl, B.cells, B.len, a1, a2, a3, a4⟩) (.int d) ⟨d, rfl, hd0, fun b' m' e => by cases e; exact hd1⟩
end Rg
namespace Rg
open PySem L2 RZ PyProof.Rows
theorem atI_in {α : Type} {xs : List α} {i : Int} (h0 : 0 ≤ i) (h1 : i < (xs.length : Int)) : ∃ x, L2.atI xs i = some x ∧ xs[i.toNat]? = some x ∧ x ∈ xs := by
  have hl : i.toNat < xs.length := by omega
  refine ⟨xs[i.toNat], ?_, List.getElem?_eq_getElem hl, List.getElem_mem hl⟩
  unfold L2.atI ixN
  rw [if_pos h0, if_pos h1]
  exact List.getElem?_eq_getElem hl
theorem item_in {d : D} {es : List D} {i : Int} (h : itemsD d = some es) (hl : lenD d = some es.length) (hq : ∀ xs, d ≠ .seq xs) (h0 : 0 ≤ i) (h1 : i < (es.length : Int)) : ∃ e, itemD d i = some e ∧ es[i.toNat]? = some e ∧ e ∈ es := by
  cases d with
  | list xs => cases h; exact atI_in h0 h1
  | tup xs => cases h; exact atI_in h0 h1
  | seq xs => exact absurd rfl (hq xs)
  | str x =>
    cases h
    replace hl : (if x.length ≤ 100000 then some x.length else none) = some (signsD x).length := hl
    split at hl
    · rename_i hx
      have e1 : (signsD x).length = x.cps.toList.length := by unfold signsD; rw [List.length_map]
      obtain ⟨c, h3, h4, h5⟩ := atI_in (xs := x.cps.toList) h0 (by rw [← e1]; exact h1)
      refine ⟨.str ⟨#[c]⟩, ?_, ?_, ?_⟩
      · show (if x.length ≤ 100000 then (L2.atI x.cps.toList i).map fun c => D.str ⟨#[c]⟩ else none) = _
        rw [if_pos hx, h3]; rfl
      · unfold signsD; rw [List.getElem?_map, h4]; rfl
      · unfold signsD; exact List.mem_map.mpr ⟨c, h5, rfl⟩
    · cases hl
  | _ => cases h
def preOf (K : PySem.W.Frag) (M : Ml) (as : List D) : Prop := ∃ b d es, as = [.raw (.ref b), d] ∧ (b, IsBag K) ∈ M ∧ itemsD d = some es ∧ lenD d = some es.length ∧ (∀ xs, d ≠ .seq xs) ∧ 0 < es.length ∧ es.length ≤ 100000
def postOf (as : List D) (r : D) : Prop := ∀ b d es, as = [.raw (.ref b), d] → itemsD d = some es → r ∈ es
section
variable {K : PySem.W.Frag} {M : Mt} {ds : DS} {ta tb : TE} {b : Addr} {E : XK}
theorem ev_draw {m : Int} (ha : Ev K M ds ta (· = .raw (.ref b))) (hb : Ev K M ds tb (· = .int m)) (hm : (b, IsBag K) ∈ M) (h0 : 0 < m) (h1 : m < 1073741824) :
    Ev K M ds (tCall (spF K (preDraw K) postDraw) [] E (tCons ta (tCons tb tNil))) (fun d => ∃ i : Int, (0 ≤ i ∧ i < m) ∧ d = .int i) :=
  (ev_call1 (ea1 ha (ea1 hb ea_nil)) fun M' ms => ⟨b, m, rfl, ms.l _ hm, h0, h1⟩).weak fun d ⟨i, e, i0, i1⟩ => ⟨i, ⟨i0, i1 b m rfl⟩, e⟩
theorem run_of_body {E2 : AE} {d : D} {es : List D} (hm : (b, IsBag K) ∈ M) (h : itemsD d = some es) (hl : lenD d = some es.length) (hq : ∀ xs, d ≠ .seq xs) (h0 : 0 < es.length) (h1 : es.length ≤ 100000) (hr : ∀ e ∈ es, E2.rt e) :
    Run K M [some (.raw (.ref b)), some d] (tRet (tOp (rIx K) (tVar 1) (tCall (spF K (preDraw K) postDraw) [] E (tCons (tVar 0) (tCons (tCB (rLenR K) (tCons (tVar 1) tNil)) tNil))))) E2 := by
  refine run_ret (ev_op (ev_var rfl) (ev_draw (m := (es.length : Int)) (ev_var rfl) (ev_cb1 (ea1 (ev_var rfl) ea_nil) (cd_len hl)) hm (by omega) (by omega)) fun a c ea ⟨i, ⟨i0, i1⟩, ec⟩ => ?_)
  rw [ea, ec]
  obtain ⟨e, e1, _, e2⟩ := item_in h hl hq i0 i1
  intro M' G H x y Q m rx ry w q
  exact od_ix (M := M) e1 M' G H x y Q m rx ry w fun v d G' H' s' w' r' ed => q v d G' H' s' w' r' (by rw [ed]; exact hr e e2)
theorem ev_of {d : D} {es : List D} (ha : Ev K M ds ta (· = .raw (.ref b))) (hb : Ev K M ds tb (· = d)) (hm : (b, IsBag K) ∈ M) (h : itemsD d = some es) (hl : lenD d = some es.length) (h0 : 0 < es.length := by exact Nat.le_of_ble_eq_true rfl) (h1 : es.length ≤ 100000 := by exact Nat.le_of_ble_eq_true rfl) (hq : ∀ xs, d ≠ .seq xs := by intro _ h; cases h) :
    Ev K M ds (tCall (spF K (preOf K) postOf) [] E (tCons ta (tCons tb tNil))) (· ∈ es) :=
  (ev_call1 (ea1 ha (ea1 hb ea_nil)) fun M' ms => ⟨b, d, es, rfl, ms.l _ hm, h, hl, hq, h0, h1⟩).weak fun r q => q b d es rfl h
theorem ev_kw1 {tk : TA} {d : D} {pre : Ml → List D → Prop} {post : List D → D → Prop} (hk : EvA K M ds tk (· = [d])) (hp : ∀ M', MSub M M' → pre M'.l [d]) : Ev K M ds (tCallK (spF K pre post) kg1 E tNil tk) (post [d]) :=
  ev_callK (gD := kg1) ea_nil hk (fun G vs zs as ks e1 e2 r1 r2 => by
    subst e1; subst e2
    cases r1
    cases r2 with
    | cons p r => cases r; exact .cons p .nil) fun as ks e1 e2 => by subst e1; subst e2; exact ⟨hp, fun _ q => q⟩
theorem ev_kw3r {tk : TA} {a b c : D} {pre : Ml → List D → Prop} {post : List D → D → Prop} (hk : EvA K M ds tk (· = [a, b, c])) (hp : ∀ M', MSub M M' → pre M'.l [c, b, a]) : Ev K M ds (tCallK (spF K pre post) kg3r E tNil tk) (post [c, b, a]) :=
  ev_callK (gD := kg3r) ea_nil hk (fun G vs zs as ks e1 e2 r1 r2 => by
    subst e1; subst e2
    cases r1
    cases r2 with
    | cons p r =>
      cases r with
      | cons p2 r =>
        cases r with
        | cons p3 r => cases r; exact .cons p3 (.cons p2 (.cons p .nil))) fun as ks e1 e2 => by subst e1; subst e2; exact ⟨hp, fun _ q => q⟩
theorem ev_eq {te : TE} {d d' : D} (h : Ev K M ds te (· = d)) (e : d = d') : Ev K M ds te (· = d') := e ▸ h
end
end Rg
namespace Rg
open PySem L2 RZ PyProof.Rows
section
variable {K : PySem.W.Frag} {M : Mt} {G : Hp} {σ : L2.St} {ds : DS} {v : V} {d : D}
/-! ### slots one by one; slots forgotten -/
theorem sg_nil : Sg K G [] [] := ⟨rfl, fun i d e => by simp at e⟩
theorem sg_some (r : Rp K G v d) (s : Sg K G σ ds) : Sg K G (some v :: σ) (some d :: ds) := ⟨by simp [s.len], fun i d' e => by
  match i, e with
  | 0, e => cases e; exact ⟨v, rfl, r⟩
  | i + 1, e => exact s.at_ i d' e⟩
theorem sg_none {x : Option V} (s : Sg K G σ ds) : Sg K G (x :: σ) (none :: ds) := ⟨by simp [s.len], fun i d' e => by
  match i, e with
  | 0, e => cases e
  | i + 1, e => exact s.at_ i d' e⟩
inductive Fg : DS → DS → Prop where
  | nil : Fg [] []
  | keep {x : Option D} {a b : DS} : Fg a b → Fg (x :: a) (x :: b)
  | drop {x : Option D} {a b : DS} : Fg a b → Fg (x :: a) (none :: b)
theorem Fg.refl : ∀ a : DS, Fg a a
  | [] => .nil
  | _ :: r => .keep (Fg.refl r)
theorem Fg.get : ∀ {a b : DS}, Fg a b → ∀ (i : Nat) (d : D), b[i]? = some (some d) → a[i]? = some (some d)
  | _, _, .nil, i, d, e => e
  | _, _, .keep h, 0, d, e => e
  | _, _, .keep h, i + 1, d, e => Fg.get h i d e
  | _, _, .drop h, 0, d, e => by cases e
  | _, _, .drop h, i + 1, d, e => Fg.get h i d e
theorem Fg.length : ∀ {a b : DS}, Fg a b → a.length = b.length
  | _, _, .nil => rfl
  | _, _, .keep h => by rw [List.length_cons, List.length_cons, h.length]
  | _, _, .drop h => by rw [List.length_cons, List.length_cons, h.length]
theorem Sg.forget {b : DS} (s : Sg K G σ ds) (f : Fg ds b) : Sg K G σ b := ⟨by rw [s.len, f.length], fun i d e => s.at_ i d (f.get i d e)⟩
theorem run_forget {b : DS} {t : TS} {E : AE} (f : Fg ds b) (h : Run K M b t E) : Run K M ds t E := fun M' σ G H Z m s w z => h M' σ G H Z m (s.forget f) w z
/-- a for whose turns begin alike: what they store is forgotten -/
theorem run_forF {wi : TI} {g : TG} {tb : TS} {RI : List D → Prop} {E : AE} (b0 : DS) (hI : EvI K M ds wi RI) (h0 : Fg ds b0)
    (hs : ∀ es (i : Nat) d, RI es → es[i]? = some d → EvG K M none g d b0 (fun ds2 => Run K M ds2 tb { nx := fun ds' => Fg ds' b0, ct := fun ds' => Fg ds' b0, bk := E.nx, rt := E.rt })) (hd : E.nx b0) : Run K M ds (tFor wi g tb) E := fun M' σ G H Z m s w z =>
  hI M' σ G H _ m s w fun J es G1 H1 s1 w1 hes W => by
    refine for_it (n := es.length) (G := fun H => ∃ G2, Same G1 G2 ∧ Wd M' G2 H) (Y := fun i H x H' => J.yld i H x H') ⟨fun i H hi ⟨G2, s2, w2⟩ => W.goes i H G2 M' hi s2 w2, fun H ⟨G2, s2, w2⟩ => W.stops H G2 M' s2 w2, fun i H x H' _ _ y => y⟩
      (fun i σ' H' => ∃ G2, Same G1 G2 ∧ Sg K G2 σ' b0 ∧ Wd M' G2 H') ⟨G1, Same.refl _, (s.mono s1).forget h0, w1⟩ (fun i σ' H' _ ⟨G2, s2, _, w2⟩ => ⟨G2, s2, w2⟩) (fun i x σ' H2 H3 hi ⟨G2, s2, sg, w2⟩ y => ?_)
      (fun σ' H' ⟨G2, s2, sg, w2⟩ => z.nx b0 σ' G2 H' hd (s1.trans s2) sg w2)
    obtain ⟨G3, d, s3, w3, hd', rd⟩ := W.yields i H2 x H3 G2 M' hi s2 w2 y
    refine hs es i d hes hd' M' σ' G3 H3 x _ m (sg.mono s3) w3 rd fun ds2 σ2 G4 H4 hr s4 sg4 w4 _ => ?_
    have s14 := (s2.trans s3).trans s4
    exact hr M' σ2 G4 H4 _ m sg4 w4 ⟨fun ds5 σ5 G5 H5 r5 s5 sg5 w5 => ⟨G5, s14.trans s5, sg5.forget r5, w5⟩, fun v d G5 H5 r5 s5 rp5 w5 => z.rt v d G5 H5 r5 (s1.trans (s14.trans s5)) rp5 w5,
      fun ds5 σ5 G5 H5 r5 s5 sg5 w5 => z.nx ds5 σ5 G5 H5 r5 (s1.trans (s14.trans s5)) sg5 w5, fun ds5 σ5 G5 H5 r5 s5 sg5 w5 => ⟨G5, s14.trans s5, sg5.forget r5, w5⟩⟩
theorem ei_range {ta : TA} {n : Int} (h : EvA K M ds ta (· = [.int n])) (hn : -(2 ^ 62) ≤ n ∧ n < 2 ^ 62) : EvI K M ds (iRng1 ta) (· = rangeD 0 n.toNat) := fun M' σ G H Z m s w q =>
  ei_range1 h (fun l e => ⟨n, e, hn.1, hn.2⟩) M' σ G H Z m s w fun J es G' H' a b ⟨j, ej, e2⟩ => q J es G' H' a b (by cases ej; exact e2)
variable {ta tb : TE} {b : Addr} {E : XK} {R : D → Prop}
/-- a draw out of a list that was drawn itself -/
theorem ev_ofR {Rb : D → Prop} (ha : Ev K M ds ta (· = .raw (.ref b))) (hb : Ev K M ds tb Rb) (hm : (b, IsBag K) ∈ M) (h : ∀ d, Rb d → ∃ es, itemsD d = some es ∧ lenD d = some es.length ∧ (∀ xs, d ≠ .seq xs) ∧ 0 < es.length ∧ es.length ≤ 100000 ∧ ∀ e ∈ es, R e) :
    Ev K M ds (tCall (spF K (preOf K) postOf) [] E (tCons ta (tCons tb tNil))) R :=
  ev_call (ea_cons ha (ea_cons hb ea_nil)) fun as ⟨a, r, e, e1, c, r2, e2, hc, e3⟩ => by
    subst e3; subst e2; subst e1; subst e
    obtain ⟨es, h1, h2, h3, h4, h5, h6⟩ := h c hc
    exact ⟨fun M' ms => ⟨b, c, es, rfl, ms.l _ hm, h1, h2, h3, h4, h5⟩, fun r q => h6 r (q b c es rfl h1)⟩
end
section
variable {K : PySem.W.Frag} {M : Mt} {ds : DS} {ta tb : TE}
theorem od_weak {r : R2} {a b : D} {R R' : D → Prop} (h : OpD K M r a b R) (f : ∀ d, R d → R' d) : OpD K M r a b R' := fun M' G H x y Q m rx ry w q => h M' G H x y Q m rx ry w fun v d G' H' s' w' r' e => q v d G' H' s' w' r' (f d e)
theorem EvI.weak {wi : TI} {R R' : List D → Prop} (h : EvI K M ds wi R) (f : ∀ es, R es → R' es) : EvI K M ds wi R' := fun M' σ G H Z m s w q => h M' σ G H Z m s w fun J es G' H' s' w' e W => q J es G' H' s' w' (f es e) W
/-- whole numbers that are drawn -/
abbrev anyInt : D → Prop := fun d => ∃ i : Int, d = .int i
theorem ev_subAny (ha : Ev K M ds ta anyInt) (hb : Ev K M ds tb anyInt) : Ev K M ds (tOp (rI0 fun i j => V.int (i - j)) ta tb) anyInt := ev_op ha hb fun a b ⟨i, e1⟩ ⟨j, e2⟩ => by rw [e1, e2]; exact od_weak od_subI fun d e => ⟨_, e⟩
theorem ev_addAny (ha : Ev K M ds ta anyInt) (hb : Ev K M ds tb anyInt) : Ev K M ds (tOp (rAddU K) ta tb) anyInt := ev_op ha hb fun a b ⟨i, e1⟩ ⟨j, e2⟩ => by rw [e1, e2]; exact od_weak od_addI fun d e => ⟨_, e⟩
theorem ev_any {te : TE} {R : D → Prop} (h : Ev K M ds te R) (f : ∀ d, R d → anyInt d) : Ev K M ds te anyInt := h.weak f
end
/-! ### texts of signs -/
theorem foldl_ones : ∀ (cs : List Nat) (acc : Array Nat), ((cs.map fun c => (⟨#[c]⟩ : Str)).foldl (fun acc p => acc ++ (Str.ofString "").cps ++ p.cps) acc) = acc ++ cs.toArray
  | [], acc => by simp
  | c :: r, acc => by
    rw [List.map_cons, List.foldl_cons, foldl_ones r]
    have e : (Str.ofString "").cps = #[] := by decide +kernel
    rw [e]
    simp
theorem join0 (cs : List Nat) : Txt.join (Str.ofString "") (cs.map fun c => (⟨#[c]⟩ : Str)) = ⟨cs.toArray⟩ := by
  show Builtin.Str.glued (Str.ofString "") _ = _
  cases cs with
  | nil => rfl
  | cons c r =>
    show (⟨((r.map fun c => (⟨#[c]⟩ : Str)).foldl (fun acc p => acc ++ (Str.ofString "").cps ++ p.cps) #[c])⟩ : Str) = _
    rw [foldl_ones]
    simp
theorem sum_ones (cs : List Nat) : ((cs.map fun c => (⟨#[c]⟩ : Str)).map (·.length)).sum = cs.length := by
  induction cs with
  | nil => rfl
  | cons c r ih =>
    rw [List.map_cons, List.map_cons, List.sum_cons, ih]
    show 1 + r.length = r.length + 1
    omega
/-- signs that were drawn -/
theorem signs_all {x : Str} : ∀ {acc : List D}, (∀ (i : Nat) y, acc[i]? = some y → y ∈ signsD x) → ∃ cs : List Nat, acc = (cs.map fun c => (⟨#[c]⟩ : Str)).map D.str ∧ ∀ c ∈ cs, c ∈ x.cps.toList
  | [], _ => ⟨[], rfl, fun _ h => by cases h⟩
  | y :: r, h => by
    obtain ⟨cs, e, hc⟩ := signs_all (acc := r) fun i z hz => h (i + 1) z hz
    obtain ⟨c, hc1, rfl⟩ := List.mem_map.mp (h 0 y rfl)
    refine ⟨c :: cs, by rw [e]; rfl, fun d hd => ?_⟩
    rcases List.mem_cons.mp hd with rfl | hd
    · exact hc1
    · exact hc d hd
theorem cutS_len (z : Str) (lo hi : Option Int) : (cutS z lo hi).length ≤ z.length := by
  show (((z.cps.toList.drop _).take _).toArray).size ≤ z.cps.size
  simp
  omega
end Rg
namespace Rg
open PySem L2 RZ PyProof.Rows PySem.Builtin PySem.Builtin.ObjectAttr
/-- an own class of errors over a built-in one, with an __init__ of its own -/
structure Xc (K : PySem.W.Frag) (C : Addr) : Prop where
  base : ∃ (B newId initId : String) (bmB : List Value), ExcBaseFacts B newId initId bmB ∧ StoreFacts B bmB "object.__setattr__" "object" ∧ PySem.W.excInitIn K C bmB newId = true ∧ PySem.W.excOver K C bmB = true
  dct : PySem.W.hasDictIn K C = true
  sa : PySem.W.findIn K (.ref C) "__setattr__" = some (some (.builtin "object.__setattr__"))
  exC : PySem.W.subIn K (.ref C) (.type "BaseException") = some true
  tyC : PySem.W.typeIn K (.ref C) = some (.type "type")
  kC : PySem.W.keepIn K (.ref C) = true
section
variable {prog : Program} {w : World} {A : Around} {R : Result → Shared → Prop} {hp : Heap} {g : Array GenState} {d : Drawn} {t : Nat} {os : OsState}
variable {K : PySem.W.Frag} {x C dx : Addr} {f : Str} {tk : Tok} {v : Value} {fv : Array Value} {m0 : Str → Option Value} {nl : List Str}
theorem xdict (T : Xc K C) : ∃ cd : ClassData, PySem.W.clsIn K C = some cd ∧ cd.hasDict = true := by
  have h := T.dct
  unfold PySem.W.hasDictIn at h
  cases e : PySem.W.clsIn K C with
  | none => rw [e] at h; cases h
  | some cd => rw [e] at h; exact ⟨cd, rfl, h⟩
/-- the first field: the object gets its dict -/
theorem xstore_new (T : Xc K C) (X : K.In hp) (hx : hp.get? x = some { cls := .ref C, data := .fields fv }) (ha : PySem.W.findIn K (.ref C) f = some none)
    (hq : ∀ h' tk' dx, (∀ b o, b ≠ x → hp.get? b = some o → h'.get? b = some o) → hp.objs.size ≤ dx → dx ≠ x → h'.get? x = some { cls := .ref C, dict := some dx, data := .fields fv } → h'.Ns1 dx (fun y => if y = f then some v else none) → R (.ok (.ret .none)) ⟨h', g, d, tk', os⟩) :
    codeAny (model prog w) A (.call (.builtin "object.__setattr__") ⟨[.ref x, .str f tk, v], []⟩) R ⟨hp, g, d, t, os⟩ := by
  obtain ⟨B, newId, initId, bmB, FB, SF, _, hov⟩ := T.base
  obtain ⟨cd, hcd, hh⟩ := xdict T
  have I : PySem.W.InstAt hp x { cls := .ref C, data := .fields fv } C none := ⟨hx, rfl, rfl, trivial⟩
  have apart : x ≠ hp.objs.size := Nat.ne_of_lt (Heap.lt_size hx)
  refine PySem.W.osa_openX (s := ⟨hp, g, d, t, os⟩) SF X I hov (r := none) (by unfold PySem.W.takerIn; rw [ha]; rfl) fun b => ?_
  have lk : PySem.W.Looks (model prog w) hp (classData C) cd := PySem.W.looks_clsIn X hcd
  obtain ⟨c1, c2, c3, c4, c5, c6, c7, c8, c9, c10, c11⟩ := cd
  dsimp only at hh ⊢
  subst hh
  unfold storeInOwnDict ownDictForStores
  repeat (first | (with_reducible refine PySem.HandSPX.store_in_new ?_ ?_) | (with_reducible refine lk.at ?_) | (with_reducible refine wpAny_loadPart_at hx ?_) | wp_step)
  · refine ⟨_, #[], _, (Heap.get?_update_ne _ _ _ _ apart.symm).trans (Heap.get?_push_at rfl rfl), rfl, fun z hz => ?_, fun _ => rfl⟩
    simp at hz
  · intro h2 tk2 ns sb
    have up : (hp.push { cls := .type "dict", data := .dict #[] }).get? x = some { cls := .ref C, data := .fields fv } := Heap.get?_push_of_some _ hx
    refine hq h2 tk2 hp.objs.size (fun c o hc ho => ?_) (Nat.le_refl _) apart.symm ?_ ns
    · have e1 := sb.2 c (Nat.ne_of_lt (Heap.lt_size ho))
      exact e1.trans ((Heap.get?_update_ne _ _ _ _ hc).trans (Heap.get?_push_of_some _ ho))
    · have e1 := sb.2 x apart
      exact e1.trans (Heap.get?_update_self _ up rfl)
/-- a further field -/
theorem xstore_old (T : Xc K C) (X : K.In hp) (hx : hp.get? x = some { cls := .ref C, dict := some dx, data := .fields fv }) (hn : hp.Ns1 dx m0) (hw : Within m0 nl) (hz : nl.length ≤ 1000) (ha : PySem.W.findIn K (.ref C) f = some none)
    (hq : ∀ h' tk', (∀ b o, b ≠ dx → hp.get? b = some o → h'.get? b = some o) → h'.Ns1 dx (fun y => if y = f then some v else m0 y) → R (.ok (.ret .none)) ⟨h', g, d, tk', os⟩) :
    codeAny (model prog w) A (.call (.builtin "object.__setattr__") ⟨[.ref x, .str f tk, v], []⟩) R ⟨hp, g, d, t, os⟩ := by
  obtain ⟨B, newId, initId, bmB, FB, SF, _, hov⟩ := T.base
  obtain ⟨cd, hcd, hh⟩ := xdict T
  obtain ⟨oD, _, _, hoD, _, _⟩ := hn.count hw
  have I : PySem.W.InstAt hp x { cls := .ref C, dict := some dx, data := .fields fv } C (some oD) := ⟨hx, rfl, rfl, hoD⟩
  refine PySem.W.osa_openX (s := ⟨hp, g, d, t, os⟩) SF X I hov (r := none) (by unfold PySem.W.takerIn; rw [ha]; rfl) fun b => ?_
  have lk : PySem.W.Looks (model prog w) hp (classData C) cd := PySem.W.looks_clsIn X hcd
  obtain ⟨c1, c2, c3, c4, c5, c6, c7, c8, c9, c10, c11⟩ := cd
  dsimp only at hh ⊢
  subst hh
  unfold storeInOwnDict ownDictForStores
  repeat (first | (with_reducible refine PySem.OEX.store_in_old hn hw hz ?_) | (with_reducible refine lk.at ?_) | (with_reducible refine wpAny_loadPart_at hx ?_) | wp_step)
  intro h2 tk2 ns sb
  exact hq h2 tk2 (fun c o hc ho => (sb.2 c hc).trans ho) ns
end
section
variable {X : Cx} {pins : List (Addr × Obj)} {σ : L2.St} {H : Hp} {s : Shared} {a C dx : Addr} {f : Str} {y : V} {u : Value} {fs : List (Str × V)} {Q : Unit → Shared → Prop} {E : Value → Shared → Prop} {A : Around}
/-- self.f = y on an error that is being made, over the layer's state -/
theorem xset_new (T : Xc X.K C) (J : Inv X pins σ H s) (e : H a = some (exo a C none)) (hno : PySem.W.findIn X.K (.ref C) f = some none) (ry : RelV y u)
    (h : ∀ dx s', H dx = none → dx ≠ a → Inv X pins σ (upd (upd H dx (exd dx [(f, y)])) a (exo a C (some dx))) s' → Q () s') : wpAny (model X.prog X.w) A (setAttr (.ref a) f u) Q E s := by
  obtain ⟨t1, ho⟩ := exo_at J.hok e
  obtain ⟨hp, g, d, t, os⟩ := s
  refine PySem.W.set_plain J.kIn (od := none) ⟨ho, rfl, rfl, trivial⟩ T.sa ?_
  refine xstore_new T J.kIn ho hno fun h2 tk2 dx k dn dne hx hn => ?_
  have fresh : H dx = none := J.hok.fresh dn
  have ltd : ∀ {b : Addr} {o : Obj}, hp.get? b = some o → b ≠ dx := fun {b o} q => Nat.ne_of_lt (Nat.lt_of_lt_of_le (Heap.lt_size q) dn)
  have nea : ∀ {b : Addr}, H b = none → b ≠ a := fun {b} n z => by
    subst z
    rw [n] at e
    cases e
  have at2 : ∀ b u, H b = some u → u ≠ exo a C none → upd (upd H dx (exd dx [(f, y)])) a (exo a C (some dx)) b = some u := fun b u q ne => by
    have b1 : b ≠ a := fun z => by
      subst z
      rw [e] at q
      exact ne (Option.some.inj q).symm
    rw [upd_ne b1, upd_ne (ne_of_none q fresh)]
    exact q
  refine h dx _ fresh dne (J.un (t' := tk2) ⟨fun b o q n _ _ => k b o (nea n) q, fun b o q n _ _ => ⟨o.slots, k b o (nea n) q⟩, fun b o q n _ => ?_, fun b o q _ => ?_, fun b xs q => at2 b _ q fun z => exo_tup z.symm, fun b o v q => at2 b _ q fun z => exo_frz z.symm, fun b ps q => ⟨#[], ?_⟩⟩ fun b o q => ?_)
  · rw [upd_ne (nea n), upd_ne (ltd q)]
    exact n
  · by_cases hb : b = a
    · subst hb; exact ⟨_, hx⟩
    · exact ⟨o, k b o hb q⟩
  · rw [at2 b _ q fun z => exo_tbl z.symm]
    simp
  · by_cases hb : b = a
    · subst hb
      rw [upd_same] at q
      cases q
      exact exo_ok hx
    · rw [upd_ne hb] at q
      by_cases hd : b = dx
      · subst hd
        rw [upd_same] at q
        cases q
        exact exd_ok hn (relO_put (fs := []) ry fun _ => True.intro)
      · rw [upd_ne hd] at q
        refine (J.hok b o q).stay (fun c v hc z => k c v (fun w' => ?_) z) (fun c hc => at2 c _ hc fun z => exo_own z.symm) fun c xs hc => at2 c _ hc fun z => exo_tup z.symm
        subst w'
        rcases hc with hc | hc
        · exact hb hc.symm
        · rw [e] at hc
          exact exo_own (Option.some.inj hc)
theorem xset_old (T : Xc X.K C) (J : Inv X pins σ H s) (e : H a = some (exo a C (some dx))) (ed : H dx = some (exd dx fs)) (hl : fs.length ≤ 900) (hno : PySem.W.findIn X.K (.ref C) f = some none) (ry : RelV y u)
    (h : ∀ s', Inv X pins σ (upd H dx (exd dx ((f, y) :: fs))) s' → Q () s') : wpAny (model X.prog X.w) A (setAttr (.ref a) f u) Q E s := by
  obtain ⟨t1, ho⟩ := exo_at J.hok e
  obtain ⟨mA, ns, rel⟩ := exd_at J.hok ed
  have wi := within_of rel
  obtain ⟨hp, g, d, t, os⟩ := s
  obtain ⟨oD, _, _, hoD, _, _⟩ := ns.count wi
  refine PySem.W.set_plain J.kIn (od := some oD) ⟨ho, rfl, rfl, hoD⟩ T.sa ?_
  refine xstore_old T J.kIn ho ns wi (by rw [List.length_map]; omega) hno fun h2 tk2 k hn => ?_
  refine h _ (J.write (t' := tk2) (x := dx) (e := dx) (o := exd dx ((f, y) :: fs)) (by rw [ed]; exact True.intro) (.inl rfl) k ?_ (exd_ok hn (relO_put ry rel)))
  obtain ⟨o, _, _, e2, _⟩ := hn
  exact ⟨o, e2⟩
end
end Rg
namespace Rg
open PySem L2 RZ PyProof.Rows
/-- self.f = e, self an error that is being made -/
def tXst (K : PySem.W.Frag) (f : Str) (to te : TE) : TS := fun Z σ H => te σ H fun y H1 => to σ H1 fun x H2 => ∃ a C : Addr, x = .ref a ∧ Xc K C ∧ PySem.W.findIn K (.ref C) f = some none ∧
  ((H2 a = some (exo a C none) ∧ ∀ dx, H2 dx = none → dx ≠ a → Z.nx σ (upd (upd H2 dx (exd dx [(f, y)])) a (exo a C (some dx)))) ∨
    ∃ (dx : Addr) (fs : List (Str × V)), H2 a = some (exo a C (some dx)) ∧ H2 dx = some (exd dx fs) ∧ fs.length ≤ 900 ∧ Z.nx σ (upd H2 dx (exd dx ((f, y) :: fs))))
/-- C(e, ..) of an own error as a value -/
def tXmk (C : Addr) (sp : Sp) (dvs : List V) (ta : TA) : TE := fun σ H Q => ta σ H fun vs H1 => vs.length ≤ 1000 ∧ ∀ a, H1 a = none → sp (.ref a :: (vs ++ dvs)) (upd H1 a (exo a C none)) (fun v H2 => v = .non ∧ Q (.ref a) H2) (fun _ _ _ => False)
section
variable {X : Cx} {o e : Expr} {es : List Expr} {to te : TE} {ta : TA} {f : Str} {p p' pos : Pos}
theorem ps_xset (ho : PE X o to) (he : PE X e te) (hs : swapsWith e (some (.Attribute o f p')) pos.line X.env = pure false := by rfl) : PS X (.Assign [.Attribute o f p'] e pos) (tXst X.K f to te) :=
  ⟨fun pins s σ H Z J h => plainObj_wpAny_Assign_Attribute (thn (he.run pins s σ H _ J h) fun v s1 ⟨y, H1, J1, r1, q1⟩ => thn (ho.run pins s1 σ H1 _ J1 q1) fun u s2 ⟨x, H2, J2, r2, a, C, ex, T, hno, q⟩ => by
    subst ex
    obtain rfl : u = Value.ref a := r2
    rcases q with ⟨ea, q⟩ | ⟨dx, fs, ea, ed, hl, q⟩
    · exact xset_new T J2 ea hno r1 fun dx s3 n ne J3 => ⟨σ, _, J3, q dx n ne⟩
    · exact xset_old T J2 ea ed hl hno r1 fun s3 J3 => ⟨σ, _, J3, q⟩) hs⟩
theorem pe_xmk {CX : CXT} {x : Str} {C fI : Addr} {k : Nat} {fd : FuncData} {ps : List Str} {sp : Sp} {ds : List Value} {dvs : List V} (T : Xc X.K C) (iC : PySem.W.findIn X.K (.ref C) "__init__" = some (some (.ref fI))) (tI : PySem.W.typeIn X.K (.ref fI) = some (.type "function"))
    (FI : FnOk X.prog X.w X.K X.mg X.base CX k fI fd ps sp) (hr : Room (k + 1) X.A) (hb : Binds X.K fd ps ds) (hd : Vals dvs ds) (hx : Passes CX X (fun _ _ _ => False)) (hg : Gl X x) (hm : X.mg x = some (.ref C)) (ha : PA X (e :: es) ta)
    (hdb : (x == ("__debug__" : Str)) = false := by decide) (he : starEach (e :: es) X.env = (false, eval e X.env) :: starEach es X.env := by rfl) (hpl : (backTo pos (starEach es X.env)).any (·.1) = false := by rfl) :
    PE X (.Call (.Name x p) (e :: es) [] pos) (tXmk C sp dvs ta) := by
  refine ⟨fun pins s σ H Q J h => ?_⟩
  obtain ⟨B, newId, initId, bmB, FB, SF, hin, hov⟩ := T.base
  refine wpAny_Call_Name_kw (ld_glob J hg hm ?_ hdb)
  refine PySem.W.callWith_K (h₀ := X.base) J.ok.mod.kin T.kC (thn (ha.run pos pins s σ H _ J h) fun us s1 ⟨vs, H1, J1, r1, hz, q1⟩ => ⟨J1.kIn, ?_⟩) he hpl
  obtain ⟨hp, g, dr, tk, os⟩ := s1
  obtain ⟨nm, N, q, bs, bm, hdct, sn, sub, ab, col, dd, k0, k1, k2, k3, k5, hC, hT⟩ := PySem.W.excInit_of J1.kIn hin
  show wpAny _ _ (call (.ref C) us) _ _ _
  have up : hp.objs.size ≤ hp.objs.size + 1 := Nat.le_succ _
  have fr : H1 (hp.objs.size + 1) = none := J1.hok.fresh up
  have got : ((hp.push (PySem.W.kdv_tup us)).push (PySem.HandSPX.excO C hp.objs.size)).get? (hp.objs.size + 1) = some (PySem.HandSPX.excO C hp.objs.size) := by heap_get
  have J2 := J1.laid (t' := tk) (a := hp.objs.size + 1) (o := exo (hp.objs.size + 1) C none) (h' := (hp.push (PySem.W.kdv_tup us)).push (PySem.HandSPX.excO C hp.objs.size)) (fun b o z => Heap.get?_push_of_some _ (Heap.get?_push_of_some _ z)) up (exo_ok got)
  have want := q1 (hp.objs.size + 1) fr
  have rel : Vals (V.ref (hp.objs.size + 1) :: (vs ++ dvs)) (Value.ref (hp.objs.size + 1) :: (us ++ ds)) := .cons rfl (r1.append hd)
  have len : (Value.ref (hp.objs.size + 1) :: us ++ ds).length = ps.length := (rel.length.symm).trans (FI.len _ _ _ _ want)
  have small : us.length ≤ sizeLine := Nat.le_trans (show us.length ≤ 1000 by rw [← r1.length]; exact hz) (by decide)
  refine wpAny_call (PySem.HandSPX.call_own FB hT hC (PySem.W.looks_findIn J1.kIn iC) (fun self => PySem.W.bind_fn J1.kIn self tI) small
    (codeAny_mono (FI.run _ X.stack _ _ ⟨Value.ref (hp.objs.size + 1) :: us, []⟩ (Value.ref (hp.objs.size + 1) :: (us ++ ds)) _ _ (fun _ _ _ => False) (hr.make C us []) (J2.env0.make C us []) (hb _ (Value.ref (hp.objs.size + 1) :: us) J2.kIn len) rel want) fun r s2 got2 => ?_))
  cases r with
  | error er => exact hx pins σ _ _ er s2 J2 got2
  | ok fl =>
    cases fl with
    | ret u =>
      obtain ⟨v, H', J3, rv, ev, q3⟩ := J2.after got2
      subst ev
      exact ⟨rv, V.ref (hp.objs.size + 1), H', J3, rfl, q3⟩
    | next => exact False.elim got2
    | brk => exact False.elim got2
    | cont => exact False.elim got2
end
end Rg
namespace PySem
namespace XKw
open PySem.HandSPX
/-! the making of an own error by keywords -/
section
variable {M : Model} {prog : Program} {w : World} {A : Around} {E : Value → Shared → Prop} {R : Result → Shared → Prop} {h : Heap} {g : Array GenState} {d : Drawn} {t : Nat} {os : OsState}
variable {nm q : Str} {C N : Addr} {bs bm bmB : List Value} {hdct : Bool} {sn : List Str} {sub : List Value} {ab : Bool} {col : Option Bool} {dd : Option Addr} {k0 k1 k2 k3 k5 : Option Value} {B newId initId : String} {rest : List Value} {kw : List (Str × Value)}
theorem passes_new (FB : ExcBaseFacts B newId initId bmB) (tl : ∀ Y : String, bm.contains (.type Y) = bmB.contains (.type Y)) {Q : Unit → Shared → Prop} (at_ : h.get? C = some (excClassObj nm q C N bs bm hdct sn sub ab col dd k0 k1 k2 k3 k5 newId)) (hq : Q () ⟨h, g, d, t, os⟩) :
    wpAny M A (checkBuiltinCall newId ⟨.ref C :: rest, kw⟩) Q E ⟨h, g, d, t, os⟩ := by
  have inB : (Value.ref C :: bm).contains (.type B) = true := by rw [List.contains_cons, tl B, FB.hasB]; exact Bool.or_true _
  have nst := FB.noStar
  simp only [checkBuiltinCall, FB.newRow, FB.newKind, FB.newSplit]
  repeat (first | refine wpAny_staticBase_exc at_ ?_ | refine wpAny_madeBy_exc at_ ?_ | refine wpAny_loadPart_at at_ ?_ | (refine wpAny_isSubtype_exc at_ ?_; rw [inB]) | simp only [bne_self_eq_false, Bool.false_eq_true, if_false] | wp_step)
  exact hq
theorem lays_new (FB : ExcBaseFacts B newId initId bmB) (tl : ∀ Y : String, bm.contains (.type Y) = bmB.contains (.type Y)) (at_ : h.get? C = some (excClassObj nm q C N bs bm hdct sn sub ab col dd k0 k1 k2 k3 k5 newId)) (few : rest.length ≤ sizeLine)
    (hq : R (.ok (.ret (.ref (h.objs.size + 1)))) ⟨(h.push { cls := .type "tuple", data := .seq rest.toArray }).push { cls := .ref C, data := .fields #[.ref h.objs.size, .none, .none, .none, .bool false, .none] }, g, d, t, os⟩) :
    codeAny (model prog w) A (.builtin newId ⟨.ref C :: rest, kw⟩) R ⟨h, g, d, t, os⟩ := by
  have ends := FB.ends
  have inN : (Value.ref C :: bm).contains (.type "NameError") = false := by rw [List.contains_cons, tl, FB.noName]; rfl
  have inA : (Value.ref C :: bm).contains (.type "AttributeError") = false := by rw [List.contains_cons, tl, FB.noAttr]; rfl
  have inB : (Value.ref C :: bm).contains (.type B) = true := by rw [List.contains_cons, tl B, FB.hasB]; exact Bool.or_true _
  refine codeAny_builtinAt FB.entry ?_
  unfold Builtin.«BaseException.__new__»
  refine wpAt_bind ?_
  show wpAt _ _ _ (stack >>= _) _ _ _
  refine wpAt_bind (wpAt_stack fun p0 b0 => wpAt_of_wpAny ?_)
  wp_walk
  refine wpAt_of_wpAny ?_
  rw [FB.owner]
  repeat (first | with_reducible refine wpAny_madeHere_exc FB.canon at_ ?_ | with_reducible refine wpAny_loadPart_at at_ ?_ | (with_reducible refine wpAny_isSubtype_exc at_ ?_; first | rw [inB] | rw [inA] | rw [inN]) | wp_step)
  show R _ _
  rw [Heap.size_push]
  exact hq
theorem looks_call {Q : Unit → Shared → Prop} (at_ : h.get? C = some (excClassObj nm q C N bs bm hdct sn sub ab col dd k0 k1 k2 k3 k5 newId)) (hq : Q () ⟨h, g, d, t, os⟩) : wpAny M A (checkBuiltinCall "type.__call__" ⟨.ref C :: rest, kw⟩) Q E ⟨h, g, d, t, os⟩ := by
  have ts := tc_sub
  have ty : (⟨h, g, d, t, os⟩ : Shared).TypeIs (.ref C) "type" := ⟨_, at_, rfl⟩
  simp only [checkBuiltinCall, tc_split, tc_kind]
  repeat (any_goals (first | assumption | (with_reducible refine wpAny_loadPart_at at_ ?_) | (with_reducible refine wpAny_onRaise ?_) | (with_reducible refine wpAny_map ?_) | wp_step))
theorem makes_kw (FB : ExcBaseFacts B newId initId bmB) (tl : ∀ Y : String, bm.contains (.type Y) = bmB.contains (.type Y)) {fI : Addr} {Q : Fin → Shared → Prop} (at_ : h.get? C = some (excClassObj nm q C N bs bm hdct sn sub ab col dd k0 k1 k2 k3 k5 newId))
    (hi : W.Looks (model prog w) h (typeLookup (.ref C) "__init__") (some (.ref fI))) (hb : ∀ self, W.Looks (model prog w) h (bindSpecial (.ref fI) self) (.ref fI, [self])) (few : rest.length ≤ sizeLine)
    (hq : codeAny (model prog w) A (.call (.ref fI) ⟨.ref (h.objs.size + 1) :: rest, kw⟩) (fun r s' => match r with | .ok (.ret v) => v = .none ∧ Q (.done (.ret (.ref (h.objs.size + 1)))) s' | .ok _ => False | .error e => E e s') ⟨(h.push (W.kdv_tup rest)).push (excO C h.objs.size), g, d, t, os⟩) :
    wpAny (model prog w) A (Builtin.«type.__call__» ⟨.ref C :: rest, kw⟩) Q E ⟨h, g, d, t, os⟩ := by
  repeat (first | (with_reducible refine wpAny_madeBy_exc at_ ?_) | (with_reducible refine wpAny_loadPart_at at_ ?_) | wp_step)
  refine codeAny_call_builtin_code (Code.quiet_builtin _ FB.quiet) (passes_new FB tl at_ (lays_new FB tl at_ few ?_))
  show wpAny _ _ _ _ _ _
  have st : ∀ b o, h.get? b = some o → ((h.push (W.kdv_tup rest)).push (excO C h.objs.size)).get? b = some o := fun b o z => Heap.get?_push_of_some _ (Heap.get?_push_of_some _ z)
  have got : ((h.push (W.kdv_tup rest)).push (excO C h.objs.size)).get? (h.objs.size + 1) = some (excO C h.objs.size) := by heap_get
  have at2 := st _ _ at_
  have inC : (Value.ref C :: bm).contains (.ref C) = true := by simp
  have i2 := hi.keeps st
  have b2 := (hb (.ref (h.objs.size + 1))).keeps st
  unfold isInstance
  repeat (first | (with_reducible refine wpAny_loadPart_at got ?_) | (with_reducible refine wpAny_isSubtype_exc at2 ?_; rw [inC]) | wp_step)
  show wpAny _ _ (typeLookup (.ref C) _) _ _ _
  refine i2.at (wpAny_holding (wpAny_bind (b2.at (wpAny_bind (wpAny_call (codeAny_mono hq fun r s2 z => ?_))))))
  cases r with
  | error er => exact z
  | ok fl =>
    cases fl with
    | ret v =>
      obtain ⟨ev, z⟩ := z
      subst ev
      first
      | exact wpAny_pure (wpAny_pure z)
      | (wp_walk; exact z)
    | next => exact z.elim
    | brk => exact z.elim
    | cont => exact z.elim
theorem call_kw (FB : ExcBaseFacts B newId initId bmB) (tl : ∀ Y : String, bm.contains (.type Y) = bmB.contains (.type Y)) {fI : Addr} (at_ : h.get? C = some (excClassObj nm q C N bs bm hdct sn sub ab col dd k0 k1 k2 k3 k5 newId))
    (hi : W.Looks (model prog w) h (typeLookup (.ref C) "__init__") (some (.ref fI))) (hb : ∀ self, W.Looks (model prog w) h (bindSpecial (.ref fI) self) (.ref fI, [self])) (few : rest.length ≤ sizeLine)
    (hq : codeAny (model prog w) (A.under (.builtin "type.__call__" ⟨.ref C :: rest, kw⟩)) (.call (.ref fI) ⟨.ref (h.objs.size + 1) :: rest, kw⟩) (W.InitBack (h.objs.size + 1) R) ⟨(h.push (W.kdv_tup rest)).push (excO C h.objs.size), g, d, t, os⟩) :
    codeAny (model prog w) A (.call (.ref C) ⟨rest, kw⟩) R ⟨h, g, d, t, os⟩ := by
  have t1 := tc_lookup
  have t2 := tc_bind (.ref C)
  have ty : (⟨h, g, d, t, os⟩ : Shared).TypeIs (.ref C) "type" := ⟨_, at_, rfl⟩
  refine codeAny_of_tree ?_
  show wpAny _ _ (callAny (.ref C) _) _ _ _
  repeat (any_goals (first | assumption | (with_reducible refine wpAny_loadPart_at at_ ?_) | wp_step))
  refine ⟨rfl, codeAny_call_builtin_at (Code.quiet_builtin _ (by decide +kernel)) entry_typeCall (looks_call at_ (makes_kw FB tl at_ hi hb few (codeAny_mono hq fun r s2 z => ?_)))⟩
  rcases r with e | (v | _ | _ | _) <;> exact z
end
end XKw
end PySem
namespace Rg
open PySem L2 RZ PyProof.Rows
/-- what else such a class must say, for its errors to be asked -/
structure Xg (K : PySem.W.Frag) (C : Addr) : Prop extends Xc K C where
  ga : PySem.W.findIn K (.ref C) "__getattribute__" = some (some (.builtin "BaseException.__getattribute__"))
  gg : PySem.W.findIn K (.ref C) "__getattr__" = some none
  cl : PySem.W.findIn K (.ref C) "__class__" = some (some (.builtin "object.__class__"))
  gs : PySem.W.specialIn K (.builtin "object.__class__") "__get__" = some (some (.builtin "getset_descriptor.__get__"))
  tk : PySem.W.takesIn K (.builtin "object.__class__") = some true
  ob : PySem.W.mroIn K C (.type "object") = some true
/-- C(k = v, ..) of an own error, the keywords from behind; C() -/
def tXmkK (C : Addr) (n : Nat) (sp : Sp) (tk : TA) : TE := fun σ H Q => tk σ H fun zs H1 => zs.length = n ∧ ∀ a, H1 a = none → sp (.ref a :: zs.reverse) (upd H1 a (exo a C none)) (fun v H2 => v = .non ∧ Q (.ref a) H2) (fun _ _ _ => False)
/-- e.f of an own error -/
def tXget (K : PySem.W.Frag) (f : Str) (te : TE) : TE := fun σ H Q => te σ H fun x H1 => ∃ (a C dx : Addr) (fs : List (Str × V)) (v : V), x = .ref a ∧ H1 a = some (exo a C (some dx)) ∧ H1 dx = some (exd dx fs) ∧ Xg K C ∧ PySem.W.findIn K (.ref C) f = some none ∧ fs.lookup f = some v ∧ Q v H1
/-- isinstance(e, c) of an own error -/
def rIsX (K : PySem.W.Frag) : List V → Hp → VK → Prop := fun xs H Q => ∃ (a C dx : Addr) (c : V) (cv : Value) (b : Bool), xs = [.ref a, c] ∧ H a = some (exo a C (some dx)) ∧ (∃ fs, H dx = some (exd dx fs)) ∧ Xg K C ∧ ClsV c cv ∧ PySem.W.kitOne K (.ref C) cv = some b ∧ Q (.bl b) H
def rOrC (r r' : List V → Hp → VK → Prop) : List V → Hp → VK → Prop := fun xs H Q => r xs H Q ∨ r' xs H Q
section
variable {X : Cx} {e : Expr} {te : TE} {f : Str} {p pos : Pos} {a C dx : Addr} {fs : List (Str × V)} {H : Hp} {s : Shared} {σ : L2.St} {pins : List (Addr × Obj)}
theorem xinst (J : Inv X pins σ H s) (ea : H a = some (exo a C (some dx))) (ed : H dx = some (exd dx fs)) : ∃ (ox od : Obj) (mA : Str → Option Value), PySem.W.InstAt s.heap a ox C (some od) ∧ (∀ g, RelO (fs.lookup g) (mA g)) ∧ ∀ g, PySem.W.lookIn g od = some (mA g) := by
  obtain ⟨t1, ho⟩ := exo_at J.hok ea
  obtain ⟨mA, ns, rel⟩ := exd_at J.hok ed
  obtain ⟨od, hod, hl⟩ := lookIn_ns ns
  exact ⟨_, od, mA, ⟨ho, rfl, rfl, hod⟩, rel, fun g => hl g⟩
theorem pe_xget (he : PE X e te) (hb : attributeBase e f X.env (eval e X.env) = eval e X.env := by rfl) : PE X (.Attribute e f pos) (tXget X.K f te) := by
  refine ⟨fun pins s σ H Q J h => attr_of hb (thn (he.run pins s σ H _ J h) fun u s1 ⟨x, H1, J1, rx, a, C, dx, fs, v, ex, ea, ed, T, hno, l, q⟩ => ?_)⟩
  subst ex
  obtain rfl : u = Value.ref a := rx
  obtain ⟨ox, od, mA, I, rel, hl⟩ := xinst J1 ea ed
  obtain ⟨u2, hu, ru⟩ := RelO.some_of (v := v) (o := mA f) (by rw [← l]; exact rel f)
  exact PySem.HandSPX.exc_get J1.kIn I T.ga T.gg T.exC (PySem.W.findObj_own T.dct hno rfl (by rw [hl, hu])) (handed_of ru) ⟨v, H1, J1.tok _, ru, q⟩
theorem call_isX : CallR X (.builtin "isinstance") (rIsX X.K) := by
  intro pins s σ H xs us Q J r h
  obtain ⟨a, C, dx, c, cv, b, rfl, ea, ⟨fs, ed⟩, T, hc, hk, q⟩ := h
  obtain ⟨u1, u2, rfl, r1, r2⟩ := vals2 r
  obtain rfl : u1 = Value.ref a := r1
  have e2 := hc.eq r2
  subst e2
  obtain ⟨ox, od, mA, I, _, _⟩ := xinst J ea ed
  obtain ⟨cd, hcd, _⟩ := xdict T.toXc
  exact PySem.W.kia_one (PySem.W.kitx_exc (by rw [hcd]; rfl) T.ga T.gg T.exC T.cl T.gs T.tk T.ob) J.kIn I hk (fun z => nomatch z) fun t2 => ⟨.bl b, H, J.tok t2, rfl, q⟩
theorem call_or {g : Value} {r r' : List V → Hp → VK → Prop} (h : CallR X g r) (h' : CallR X g r') : CallR X g (rOrC r r') := fun pins s σ H xs us Q J rv q => q.elim (fun q => h pins s σ H xs us Q J rv q) fun q => h' pins s σ H xs us Q J rv q
theorem q_isiU {K : PySem.W.Frag} (h : X.K = K := by rfl) : CallR X (.builtin "isinstance") (rOrC (rIsi K) (rIsX K)) := h ▸ call_or call_isi call_isX
theorem q_xget {K : PySem.W.Frag} (he : PE X e te) (h : X.K = K := by rfl) (hb : attributeBase e f X.env (eval e X.env) = eval e X.env := by rfl) : PE X (.Attribute e f pos) (tXget K f te) := h ▸ pe_xget he hb
theorem pe_xmkK {CX : CXT} {x : Str} {C fI : Addr} {k : Nat} {fd : FuncData} {ps ks : List Str} {sp : Sp} {kws : List Keyword} {tk : TA} (T : Xc X.K C) (iC : PySem.W.findIn X.K (.ref C) "__init__" = some (some (.ref fI))) (tI : PySem.W.typeIn X.K (.ref fI) = some (.type "function"))
    (FI : FnOk X.prog X.w X.K X.mg X.base CX k fI fd ps sp) (hr : Room (k + 1) X.A) (hb : ∀ (s : Shared) (v : Value) (ws : List Value), ws.length = ks.length → BindsTo s fd ⟨[v], ks.zip ws⟩ (ps.zip (v :: ws.reverse))) (hx : Passes CX X (fun _ _ _ => False)) (hg : Gl X x) (hm : X.mg x = some (.ref C)) (hkw : PK X kws tk)
    (hall : (backToKw pos (keywordEach kws X.env)).all (·.1.isSome) = true := by rfl) (hks : (backToKw pos (keywordEach kws X.env)).filterMap (·.1) = ks := by rfl) (hdb : (x == ("__debug__" : Str)) = false := by decide)
    (hpl : ((backTo pos (starEach [] X.env)).any (·.1) || (backToKw pos (keywordEach kws X.env)).any (·.1.isNone)) = false := by rfl) : PE X (.Call (.Name x p) [] kws pos) (tXmkK C ks.length sp tk) := by
  refine ⟨fun pins s σ H Q J h => ?_⟩
  obtain ⟨B, newId, initId, bmB, FB, SF, hin, hov⟩ := T.base
  refine wpAny_Call_Name_kw (ld_glob J hg hm ?_ hdb)
  refine PySem.W.callWith_KW0 (h₀ := X.base) J.ok.mod.kin T.kC hall ?_ hpl
  refine thn (hkw.run pos pins s σ H _ J h) fun ws s1 ⟨zs, H1, J1, rz, lz, q1⟩ => ⟨J1.kIn, ?_⟩
  rw [hks]
  obtain ⟨hp, g, dr, tk, os⟩ := s1
  obtain ⟨nm, N, q, bs, bm, hdct, sn, sub, ab, col, dd, k0, k1, k2, k3, k5, hC, hT⟩ := PySem.W.excInit_of J1.kIn hin
  have up : hp.objs.size ≤ hp.objs.size + 1 := Nat.le_succ _
  have fr : H1 (hp.objs.size + 1) = none := J1.hok.fresh up
  have got : ((hp.push (PySem.W.kdv_tup [])).push (PySem.HandSPX.excO C hp.objs.size)).get? (hp.objs.size + 1) = some (PySem.HandSPX.excO C hp.objs.size) := by heap_get
  have J2 := J1.laid (t' := tk) (a := hp.objs.size + 1) (o := exo (hp.objs.size + 1) C none) (h' := (hp.push (PySem.W.kdv_tup [])).push (PySem.HandSPX.excO C hp.objs.size)) (fun b o z => Heap.get?_push_of_some _ (Heap.get?_push_of_some _ z)) up (exo_ok got)
  have want := q1 (hp.objs.size + 1) fr
  have rev : ∀ {zs : List V} {ws : List Value}, Vals zs ws → Vals zs.reverse ws.reverse := by
    intro zs ws r
    induction r with
    | nil => exact .nil
    | cons r0 _ ih => rw [List.reverse_cons, List.reverse_cons]; exact ih.append (.cons r0 .nil)
  have rel : Vals (V.ref (hp.objs.size + 1) :: zs.reverse) (Value.ref (hp.objs.size + 1) :: ws.reverse) := .cons rfl (rev rz)
  refine wpAny_call (PySem.XKw.call_kw (rest := []) FB hT hC (PySem.W.looks_findIn J1.kIn iC) (fun self => PySem.W.bind_fn J1.kIn self tI) (Nat.zero_le _)
    (codeAny_mono (FI.run _ X.stack _ _ ⟨[Value.ref (hp.objs.size + 1)], ks.zip ws⟩ (Value.ref (hp.objs.size + 1) :: ws.reverse) _ _ (fun _ _ _ => False) (hr.make C [] (ks.zip ws)) (J2.env0.make C [] (ks.zip ws)) (hb _ _ ws (by rw [← rz.length]; exact lz)) rel want) fun r s2 got2 => ?_))
  cases r with
  | error er => exact hx pins σ _ _ er s2 J2 got2
  | ok fl =>
    cases fl with
    | ret u =>
      obtain ⟨v, H', J3, rv, ev, q3⟩ := J2.after got2
      subst ev
      exact ⟨rv, V.ref (hp.objs.size + 1), H', J3, rfl, q3⟩
    | next => exact False.elim got2
    | brk => exact False.elim got2
    | cont => exact False.elim got2
end
end Rg
namespace Rg
open PySem L2 RZ PyProof.Rows
/-! ### clauses of a try: each by a test, with or without a name -/
theorem fly_on {h h' B : Heap} {fr : List Env} {a : Addr} {Z : Obj → Prop} (k : ∀ b o, h.get? b = some o → h'.get? b = some o) (x : HandSPX.FlyingZ B fr a Z h) : HandSPX.FlyingZ B fr a Z h' := by
  obtain ⟨x1, x2, x3, oe, vs, T, oT, ts, y1, y2, y3, y4, y5, y6, y7, y8⟩ := x
  exact ⟨fun b o e => k b o (x1 b o e), x2, Heap.FunFrames.of_keeps (fun b o e _ => ⟨o, k b o e, rfl⟩) x3, oe, vs, T, oT, ts, k _ _ y1, y2, y3, y4, y5, y6, k _ _ y7, y8⟩
/-- m tells whether an exception of a class is taken by the clause with the expression t -/
def HTest (X : Cx) (t : Expr) (m : Value → Option Bool) : Prop := ∀ (a : Addr) (oe : Obj) (pn : List (Addr × Obj)) (s : Shared) (σ : L2.St) (H : Hp) (b : Bool) (Q : Value → Shared → Prop) (E : Value → Shared → Prop),
  Inv (X.suite a ((a, oe) :: pn)) [] σ H s → m oe.cls = some b →
  (∀ h' u, (∀ c o, s.heap.get? c = some o → h'.get? c = some o) → PySem.W.Looks (model X.prog X.w) h' (excMatches (.ref a) u) b → Q u { s with heap := h' }) →
  wpAny (model X.prog X.w) (X.A.mark (some (.ref a))) (eval t X.env) Q E s
structure Hd where
  m : Value → Option Bool
  i : Option Nat
  ts : Addr × Obj → TS
def hdE (i : Option Nat) (Z : Ends) : Ends := match i with
  | none => Z
  | some i => { nx := fun σ' H' => Z.nx (σ'.set i none) H', rt := Z.rt, bk := fun σ' H' => Z.bk (σ'.set i none) H', ct := fun σ' H' => Z.ct (σ'.set i none) H' }
def hdS (i : Option Nat) (a : Addr) (σ : L2.St) : L2.St := match i with
  | none => σ
  | some i => σ.set i (some (.ref a))
/-- what the clauses wish of an exception of the body -/
def wHs (W0 : WX) (Z : Ends) : List Hd → WX
  | [] => W0
  | h :: r => fun cls d σ H => ∃ b, h.m cls = some b ∧ (b = true → ∀ p : Addr × Obj, Zc cls d p.2 → H p.1 = none → h.ts p (hdE h.i Z) (hdS h.i p.1 σ) H) ∧ (b = false → wHs W0 Z r cls d σ H)
def tTry (tb : WX → TS) (W0 : WX) (l : List Hd) : TS := fun Z σ H => tb (wHs W0 Z l) Z σ H
inductive HdOk (X : Cx) : List ExceptHandler → List Hd → Prop
  | nil : HdOk X [] []
  | only {t : Expr} {m : Value → Option Bool} {ts : Addr × Obj → TS} {st : Stmt} {sts : List Stmt} {q : Pos} {hs : List ExceptHandler} {l : List Hd} (ht : HTest X t m)
      (hb : ∀ (p : Addr × Obj) (pn : List (Addr × Obj)), (∃ vs, p.2.data = .fields vs) → PSs (X.suite p.1 (p :: pn)) (st :: sts) (ts p)) (r : HdOk X hs l) : HdOk X (.ExceptHandler (some t) none (st :: sts) q :: hs) (⟨m, none, ts⟩ :: l)
  | name {t : Expr} {m : Value → Option Bool} {ts : Addr × Obj → TS} {st : Stmt} {sts : List Stmt} {q : Pos} {hs : List ExceptHandler} {l : List Hd} {n : Str} {i : Nat} (ht : HTest X t m) (hi : X.N[i]? = some n) (hn : X.env.kindOf n = some .local)
      (hb : ∀ (p : Addr × Obj) (pn : List (Addr × Obj)), (∃ vs, p.2.data = .fields vs) → PSs (X.suite p.1 (p :: pn)) (st :: sts) (ts p)) (r : HdOk X hs l) : HdOk X (.ExceptHandler (some t) (some n) (st :: sts) q :: hs) (⟨m, some i, ts⟩ :: l)
section
variable {X : Cx} {body : List Stmt} {h₀ : ExceptHandler} {hds : List ExceptHandler} {l : List Hd} {pos : Pos} {tb : WX → TS} {W0 : WX}
theorem ps_tryH (stk : X.stack = X.env :: X.outer) (frm : X.env.frame = some X.env.locals) (nd : X.N.Nodup) (tk : Takes X W0)
    (hb : ∀ (W : WX) (pn : List (Addr × Obj)) (xe : Value → Shared → Prop), Takes (X.tr pn xe) W → PassesOwn (model X.prog X.w) X.A X.env xe → PSs (X.tr pn xe) body (tb W))
    (hh : HdOk X (h₀ :: hds) l) : PS X (.Try body (h₀ :: hds) [] [] pos) (tTry tb W0 l) := by
  refine ⟨fun pins s σ H Z J h0 => ?_⟩
  have h : tb (wHs W0 Z l) Z σ H := h0
  have okX := J.ok
  have frs' : X.A.frames = some (X.env :: X.outer) := by rw [okX.frames, stk]
  refine wpAny_Try_except ?_
  refine wpAny_mono ((hb (wHs W0 Z l) (X.pn ++ pins) (fun e s₁ => wpAny (model X.prog X.w) X.A (noteFrame e X.env) (fun _ s₂ => wpAny (model X.prog X.w) X.A (setFlight e none) (fun _ s₃ =>
    wpAny (model X.prog X.w) X.A (handleBy e X.env (h₀ :: hds)) (SP X pins Z) X.xe s₃) X.xe s₂) X.xe s₁) (fun u s' xx => ?_) PassesOwn.looking).run [] s σ H Z (J.toTry _) h) (fun f s1 got => ?_) (fun e s1 z => z)
  · obtain ⟨a, B, sI, pins', σ', H', cls, d, rfl, J', nb, up, sky, na, eos, ag, wish⟩ := xx
    have JI : Inv X pins σ' H' sI := J'.ofTry okX
    have sky2 : Sky B (X.env :: X.outer) a (Zc cls d) X.env.locals s'.heap := by rw [← stk]; exact sky
    show wpAny (model X.prog X.w) X.A (noteFrame (.ref a) X.env) _ _ _
    refine Sky.land Zc.steady frs' frm sky2 fun h3 fl3 up3 => ?_
    have onward : ∀ {hs' : List ExceptHandler} {l' : List Hd}, HdOk X hs' l' → ∀ (h4 : Heap), HandSPX.FlyingZ B (X.env :: X.outer) a (Zc cls d) h4 → sI.heap.UpToSlots h4 → wHs W0 Z l' cls d σ' H' →
        wpAny (model X.prog X.w) X.A (handleBy (.ref a) X.env hs') (SP X pins Z) X.xe { s' with heap := h4 } := by
      intro hs' l' hk
      -- what a clause has, whatever its name
      have have4 : ∀ (h4 : Heap), HandSPX.FlyingZ B (X.env :: X.outer) a (Zc cls d) h4 → sI.heap.UpToSlots h4 → ∃ oe : Obj, Zc cls d oe ∧ (∃ vs, oe.data = .fields vs) ∧ Inv (X.suite a ((a, oe) :: (X.pn ++ pins))) [] σ' H' { s' with heap := h4 } := fun h4 fl4 up4 => by
        have J4 : Inv X pins σ' H' { s' with heap := h4 } := JI.landed nb fl4.1 up4 eos ag
        obtain ⟨oe, vs, e1, z1, d1⟩ := fl4.there
        have off : a ∉ frs (X.env :: X.outer) := fun hm => by
          obtain ⟨_, o', e', hnf⟩ := fl4.2.2.1.mem hm
          have z := e1.symm.trans e'
          cases z
          exact hnf _ d1
        have offL : a ≠ X.env.locals := fun z => off (List.mem_filterMap.mpr ⟨X.env, List.mem_cons_self, by rw [frm, z]⟩)
        have offF : a ∉ X.fs := fun hm => by
          obtain ⟨e, he, q⟩ := List.mem_filterMap.mp hm
          exact off (List.mem_filterMap.mpr ⟨e, List.mem_cons_of_mem _ he, q⟩)
        exact ⟨oe, z1, ⟨vs, d1⟩, J4.suite e1 d1 na offL offF⟩
      induction hk with
      | nil =>
        intro h4 fl4 up4 w4
        refine wpAny_handleBy_nil ?_
        obtain ⟨k1, k2, k3, oe, vs, T, oT, ts', e1, z1, d1, v1, rest⟩ := id fl4
        unfold PySem.passOn
        refine wpAny_bind (wpAny_field e1 d1 v1 ?_)
        rw [if_neg (show ¬ ((Value.ref T == Value.none) = true) by simp)]
        have out : wpAny (model X.prog X.w) X.A (setFlight (.ref a) X.env.frame) (fun _ s5 => wpAny (model X.prog X.w) X.A (throw (.ref a) : Sem Flow) (SP X pins Z) X.xe s5) X.xe { s' with heap := h4 } := by
          rw [frm]
          refine HandSPX.setFlight_upZ fl4 fun h5 hh5 up5 => wpAny_throw (tk _ _ ?_)
          exact ⟨a, B, sI, pins, σ', H', cls, d, rfl, JI, nb, up4.trans up5, .inr (.inr (by rw [stk]; exact hh5)), na, eos, ag, w4⟩
        first
          | exact wpAny_bind (wpAny_pure (wpAny_bind out))
          | exact wpAny_bind out
      | @only t m ts st sts q hs2 l2 ht hb2 r ih =>
        intro h4 fl4 up4 ⟨b, hb1, yes, no⟩
        refine wpAny_handleBy_cons (codeAny_handlers_test ?_) (by intro z; cases z)
        obtain ⟨oe, z1, d1, S4⟩ := have4 h4 fl4 up4
        refine ht a oe _ _ σ' H' b _ _ S4 (by rw [z1.1]; exact hb1) fun h5 u k5 lk => lk.here ?_
        have fl5 := fly_on k5 fl4
        have up5 := up4.trans (Heap.UpToSlots.of_keeps k5)
        cases b with
        | true =>
          refine codeAny_handlers_suite (HandSPX.lands_againZ fl5 fun h6 fl6 up6 => ?_)
          obtain ⟨oe6, z6, d6, S6⟩ := have4 h6 fl6 (up5.trans up6)
          refine wpAny_mono ((hb2 (a, oe6) (X.pn ++ pins) d6).run [] _ _ H' _ S6 (yes rfl (a, oe6) z6 na)) (fun f s7 got => ?_) (fun _ _ z => False.elim z)
          cases f with
          | next =>
            obtain ⟨σ7, H7, S7, q7⟩ := got
            exact ⟨_, _, S7.unsuite okX, q7⟩
          | brk =>
            obtain ⟨σ7, H7, S7, q7⟩ := got
            exact ⟨_, _, S7.unsuite okX, q7⟩
          | cont =>
            obtain ⟨σ7, H7, S7, q7⟩ := got
            exact ⟨_, _, S7.unsuite okX, q7⟩
          | ret u =>
            obtain ⟨v7, σ7, H7, S7, r7, q7⟩ := got
            exact ⟨_, _, _, S7.unsuite okX, r7, q7⟩
        | false =>
          show wpAny _ X.A (handleBy (.ref a) X.env hs2) _ _ _
          exact ih h5 fl5 up5 (no rfl)
      | @name t m ts st sts q hs2 l2 n i ht hi hn hb2 r ih =>
        intro h4 fl4 up4 ⟨b, hb1, yes, no⟩
        refine wpAny_handleBy_cons (codeAny_handlers_test ?_) (by intro z; cases z)
        obtain ⟨oe, z1, d1, S4⟩ := have4 h4 fl4 up4
        refine ht a oe _ _ σ' H' b _ _ S4 (by rw [z1.1]; exact hb1) fun h5 u k5 lk => lk.here ?_
        have fl5 := fly_on k5 fl4
        have up5 := up4.trans (Heap.UpToSlots.of_keeps k5)
        cases b with
        | true =>
          refine codeAny_handlers_suite_as (HandSPX.lands_againZ fl5 fun h6 fl6 up6 => ?_)
          obtain ⟨oe6, z6, d6, S6⟩ := have4 h6 fl6 (up5.trans up6)
          refine store_ok (X := X.suite a ((a, oe6) :: (X.pn ++ pins))) (v := .ref a) S6 nd hi (.inl hn) rfl (fun s7 S7 => ?_) (.inr hn)
          refine wpAny_mono ((hb2 (a, oe6) (X.pn ++ pins) d6).run [] s7 _ H' _ S7 (yes rfl (a, oe6) z6 na)) (fun f s8 got => ?_) (fun _ _ z => False.elim z)
          have leave : ∀ {σ8 : L2.St} {H8 : Hp} {Q : Shared → Prop}, Inv (X.suite a ((a, oe6) :: (X.pn ++ pins))) [] σ8 H8 s8 → (∀ s9, Inv X pins (σ8.set i none) H8 s9 → Q s9) →
              wpAny (model X.prog X.w) X.A (do bindName X.env n .none; unbindBehindTheSuite X.env n q) (fun _ s9 => Q s9) X.xe s8 := fun {σ8 H8 Q} S8 hq => gone_ok (S8.unsuite okX) nd hi hn hq
          cases f with
          | next =>
            obtain ⟨σ8, H8, S8, q8⟩ := got
            exact leave S8 fun s9 J9 => ⟨_, _, J9, q8⟩
          | brk =>
            obtain ⟨σ8, H8, S8, q8⟩ := got
            exact leave S8 fun s9 J9 => ⟨_, _, J9, q8⟩
          | cont =>
            obtain ⟨σ8, H8, S8, q8⟩ := got
            exact leave S8 fun s9 J9 => ⟨_, _, J9, q8⟩
          | ret u =>
            obtain ⟨v8, σ8, H8, S8, r8, q8⟩ := got
            exact leave S8 fun s9 J9 => ⟨_, _, _, J9, r8, q8⟩
        | false =>
          show wpAny _ X.A (handleBy (.ref a) X.env hs2) _ _ _
          exact ih h5 fl5 up5 (no rfl)
    exact onward hh h3 fl3 (up.trans up3) wish
  · cases f with
    | next =>
      obtain ⟨σ', H', J', q⟩ := got
      exact wpAny_execs_nil ⟨σ', H', J'.ofTry okX, q⟩
    | brk =>
      obtain ⟨σ', H', J', q⟩ := got
      exact ⟨σ', H', J'.ofTry okX, q⟩
    | cont =>
      obtain ⟨σ', H', J', q⟩ := got
      exact ⟨σ', H', J'.ofTry okX, q⟩
    | ret u =>
      obtain ⟨v, σ', H', J', r, q⟩ := got
      exact ⟨v, σ', H', J'.ofTry okX, r, q⟩
theorem name_at {X : Cx} {x : Str} {c : Value} {np : Pos} {a : Addr} {oe : Obj} {pn : List (Addr × Obj)} {s : Shared} {σ : L2.St} {H : Hp} {Q E : Value → Shared → Prop} (hc : Names X x c) (J : Inv (X.suite a ((a, oe) :: pn)) [] σ H s) (q : Q c s) :
    wpAny (model X.prog X.w) (X.A.mark (some (.ref a))) (eval (.Name x np) X.env) Q E s := by
  obtain ⟨hg, hdbg, hm | ⟨hm, hv, hnn⟩⟩ := hc
  · exact ld_glob (X := X.suite a ((a, oe) :: pn)) J hg hm q hdbg
  · exact ld_blt (X := X.suite a ((a, oe) :: pn)) J hg hm hv q hnn hdbg
theorem looks_ty {X : Cx} {a : Addr} {oe : Obj} {pn : List (Addr × Obj)} {s : Shared} {σ : L2.St} {H : Hp} (J : Inv (X.suite a ((a, oe) :: pn)) [] σ H s) : PySem.W.Looks (model X.prog X.w) s.heap (typeOf (.ref a)) oe.cls :=
  fun A Q E s2 k q => wpAny_typeOf_ref (k _ _ (J.pin (a, oe) (List.mem_append_left _ List.mem_cons_self)).1) q
theorem ht_name {X : Cx} {x : Str} {c : Value} {np : Pos} (hc : Names X x c) : HTest X (.Name x np) (fun cls => PySem.W.exmOne X.K cls c) := fun a oe pn s σ H b Q E J hm q =>
  name_at hc J (q s.heap c (fun _ _ e => e) (PySem.W.exm_one J.kIn (looks_ty J) hm))
theorem ht_tup3 {X : Cx} {x1 x2 x3 : Str} {c1 c2 c3 : Value} {p1 p2 p3 pos : Pos} {ctx : Nat} (h1 : Names X x1 c1) (h2 : Names X x2 c2) (h3 : Names X x3 c3) : HTest X (.Tuple [.Name x1 p1, .Name x2 p2, .Name x3 p3] ctx pos) (fun cls => PySem.W.exmAny X.K cls [c1, c2, c3]) := fun a oe pn s σ H b Q E J hm q => by
  have k : ∀ c o, s.heap.get? c = some o → (s.heap.push { cls := .type "tuple", data := .seq [c1, c2, c3].toArray }).get? c = some o := fun c o e => Heap.get?_push_of_some _ e
  refine wpAny_Tuple_spliced (wpAny_items_cons (name_at h1 J (wpAny_items_cons (name_at h2 J (wpAny_items_cons (name_at h3 J (wpAny_items_nil ⟨show 3 ≤ sizeLine by decide, q _ _ k ?_⟩)))))))
  exact PySem.W.exm_tup3 (J.kIn.keeps k) ((looks_ty J).keeps k) (Heap.get?_push_size _ rfl) hm
end
end Rg
namespace Rg
open PySem L2 RZ PyProof.Rows
/-! ### raise C(..) of an own class -/
/-- C(k = v, ..), the keywords from behind, to be raised; C() -/
def tRmk (C : Addr) (n : Nat) (sp : Sp) (tk : TA) : L2.St → Hp → XK → Prop := fun σ H Q => tk σ H fun zs H1 => zs.length = n ∧ ∀ a, H1 a = none → sp (.ref a :: zs.reverse) (upd H1 a (exo a C none))
  (fun v H2 => v = .non ∧ ∃ (d : Addr) (fs : List (Str × V)), H2 a = some (exo a C (some d)) ∧ H2 d = some (exd d fs) ∧ H1 d = none ∧ Q (.ref C) (some d) (upd (del H2 a) d (.xd fs))) (fun _ _ _ => False)
section
variable {X : Cx} {e : Expr} {es : List Expr} {ta tk : TA} {p pos : Pos} {CX : CXT} {x : Str} {C fI : Addr} {k : Nat} {fd : FuncData} {ps ks : List Str} {sp : Sp} {kws : List Keyword}
theorem pmk_x {ds : List Value} {dvs : List V} (T : Xc X.K C) (iC : PySem.W.findIn X.K (.ref C) "__init__" = some (some (.ref fI))) (tI : PySem.W.typeIn X.K (.ref fI) = some (.type "function"))
    (FI : FnOk X.prog X.w X.K X.mg X.base CX k fI fd ps sp) (hr : Room (k + 1) X.A) (hb : Binds X.K fd ps ds) (hd : Vals dvs ds) (hx : Passes CX X (fun _ _ _ => False)) (hg : Gl X x) (hm : X.mg x = some (.ref C)) (ha : PA X (e :: es) ta)
    (hdb : (x == ("__debug__" : Str)) = false := by decide) (he : starEach (e :: es) X.env = (false, eval e X.env) :: starEach es X.env := by rfl) (hpl : (backTo pos (starEach es X.env)).any (·.1) = false := by rfl) :
    PMk X (.Call (.Name x p) (e :: es) [] pos) (tMkO C sp dvs ta) := by
  intro pins s σ H Q J h
  obtain ⟨B, newId, initId, bmB, FB, SF, hin, hov⟩ := T.base
  refine wpAny_Call_Name_kw (ld_glob J hg hm ?_ hdb)
  refine PySem.W.callWith_K (h₀ := X.base) J.ok.mod.kin T.kC (thn (ha.run pos pins s σ H _ J h) fun us s1 ⟨vs, H1, J1, r1, hz, q1⟩ => ⟨J1.kIn, ?_⟩) he hpl
  obtain ⟨hp, g, dr, tk, os⟩ := s1
  obtain ⟨nm, N, q, bs, bm, hdct, sn, sub, ab, col, dd, k0, k1, k2, k3, k5, hC, hT⟩ := PySem.W.excInit_of J1.kIn hin
  show wpAny _ _ (call (.ref C) us) _ _ _
  have up : hp.objs.size ≤ hp.objs.size + 1 := Nat.le_succ _
  have kk : ∀ b o, hp.get? b = some o → ((hp.push (PySem.W.kdv_tup us)).push (PySem.HandSPX.excO C hp.objs.size)).get? b = some o := fun b o z => Heap.get?_push_of_some _ (Heap.get?_push_of_some _ z)
  have fr : H1 (hp.objs.size + 1) = none := J1.hok.fresh up
  have got : ((hp.push (PySem.W.kdv_tup us)).push (PySem.HandSPX.excO C hp.objs.size)).get? (hp.objs.size + 1) = some (PySem.HandSPX.excO C hp.objs.size) := by heap_get
  have J2 := J1.laid (t' := tk) (a := hp.objs.size + 1) (o := exo (hp.objs.size + 1) C none) (h' := (hp.push (PySem.W.kdv_tup us)).push (PySem.HandSPX.excO C hp.objs.size)) kk up (exo_ok got)
  have want := q1 (hp.objs.size + 1) fr
  have rel : Vals (V.ref (hp.objs.size + 1) :: (vs ++ dvs)) (Value.ref (hp.objs.size + 1) :: (us ++ ds)) := .cons rfl (r1.append hd)
  have len : (Value.ref (hp.objs.size + 1) :: us ++ ds).length = ps.length := (rel.length.symm).trans (FI.len _ _ _ _ want)
  have small : us.length ≤ sizeLine := Nat.le_trans (show us.length ≤ 1000 by rw [← r1.length]; exact hz) (by decide)
  refine wpAny_call (PySem.HandSPX.call_own FB hT hC (PySem.W.looks_findIn J1.kIn iC) (fun self => PySem.W.bind_fn J1.kIn self tI) small
    (codeAny_mono (FI.run _ X.stack _ _ ⟨Value.ref (hp.objs.size + 1) :: us, []⟩ (Value.ref (hp.objs.size + 1) :: (us ++ ds)) _ _ (fun _ _ _ => False) (hr.make C us []) (J2.env0.make C us []) (hb _ (Value.ref (hp.objs.size + 1) :: us) J2.kIn len) rel want) fun r s2 got2 => ?_))
  cases r with
  | error er => exact hx pins σ _ _ er s2 J2 got2
  | ok fl =>
    cases fl with
    | ret u =>
      obtain ⟨v, H2, eo2, ba2, un2, ok2, rv, ev, dx, fs, ea, ed, hd1, q2⟩ := got2
      subst ev
      obtain ⟨h2, g2, d2, t2, os'⟩ := s2
      exact ⟨rv, mk_end (raises_own T.exC T.tyC) J1 up kk un2 ok2 eo2 ba2 ea ed hd1 q2⟩
    | next => exact False.elim got2
    | brk => exact False.elim got2
    | cont => exact False.elim got2
theorem pmk_xK (T : Xc X.K C) (iC : PySem.W.findIn X.K (.ref C) "__init__" = some (some (.ref fI))) (tI : PySem.W.typeIn X.K (.ref fI) = some (.type "function"))
    (FI : FnOk X.prog X.w X.K X.mg X.base CX k fI fd ps sp) (hr : Room (k + 1) X.A) (hb : ∀ (s : Shared) (v : Value) (ws : List Value), ws.length = ks.length → BindsTo s fd ⟨[v], ks.zip ws⟩ (ps.zip (v :: ws.reverse))) (hx : Passes CX X (fun _ _ _ => False)) (hg : Gl X x) (hm : X.mg x = some (.ref C)) (hkw : PK X kws tk)
    (hall : (backToKw pos (keywordEach kws X.env)).all (·.1.isSome) = true := by rfl) (hks : (backToKw pos (keywordEach kws X.env)).filterMap (·.1) = ks := by rfl) (hdb : (x == ("__debug__" : Str)) = false := by decide)
    (hpl : ((backTo pos (starEach [] X.env)).any (·.1) || (backToKw pos (keywordEach kws X.env)).any (·.1.isNone)) = false := by rfl) : PMk X (.Call (.Name x p) [] kws pos) (tRmk C ks.length sp tk) := by
  intro pins s σ H Q J h
  obtain ⟨B, newId, initId, bmB, FB, SF, hin, hov⟩ := T.base
  refine wpAny_Call_Name_kw (ld_glob J hg hm ?_ hdb)
  refine PySem.W.callWith_KW0 (h₀ := X.base) J.ok.mod.kin T.kC hall ?_ hpl
  refine thn (hkw.run pos pins s σ H _ J h) fun ws s1 ⟨zs, H1, J1, rz, lz, q1⟩ => ⟨J1.kIn, ?_⟩
  rw [hks]
  obtain ⟨hp, g, dr, tk, os⟩ := s1
  obtain ⟨nm, N, q, bs, bm, hdct, sn, sub, ab, col, dd, k0, k1, k2, k3, k5, hC, hT⟩ := PySem.W.excInit_of J1.kIn hin
  have up : hp.objs.size ≤ hp.objs.size + 1 := Nat.le_succ _
  have kk : ∀ b o, hp.get? b = some o → ((hp.push (PySem.W.kdv_tup [])).push (PySem.HandSPX.excO C hp.objs.size)).get? b = some o := fun b o z => Heap.get?_push_of_some _ (Heap.get?_push_of_some _ z)
  have fr : H1 (hp.objs.size + 1) = none := J1.hok.fresh up
  have got : ((hp.push (PySem.W.kdv_tup [])).push (PySem.HandSPX.excO C hp.objs.size)).get? (hp.objs.size + 1) = some (PySem.HandSPX.excO C hp.objs.size) := by heap_get
  have J2 := J1.laid (t' := tk) (a := hp.objs.size + 1) (o := exo (hp.objs.size + 1) C none) (h' := (hp.push (PySem.W.kdv_tup [])).push (PySem.HandSPX.excO C hp.objs.size)) kk up (exo_ok got)
  have want := q1 (hp.objs.size + 1) fr
  have rev : ∀ {zs : List V} {ws : List Value}, Vals zs ws → Vals zs.reverse ws.reverse := by
    intro zs ws r
    induction r with
    | nil => exact .nil
    | cons r0 _ ih => rw [List.reverse_cons, List.reverse_cons]; exact ih.append (.cons r0 .nil)
  have rel : Vals (V.ref (hp.objs.size + 1) :: zs.reverse) (Value.ref (hp.objs.size + 1) :: ws.reverse) := .cons rfl (rev rz)
  refine wpAny_call (PySem.XKw.call_kw (rest := []) FB hT hC (PySem.W.looks_findIn J1.kIn iC) (fun self => PySem.W.bind_fn J1.kIn self tI) (Nat.zero_le _)
    (codeAny_mono (FI.run _ X.stack _ _ ⟨[Value.ref (hp.objs.size + 1)], ks.zip ws⟩ (Value.ref (hp.objs.size + 1) :: ws.reverse) _ _ (fun _ _ _ => False) (hr.make C [] (ks.zip ws)) (J2.env0.make C [] (ks.zip ws)) (hb _ _ ws (by rw [← rz.length]; exact lz)) rel want) fun r s2 got2 => ?_))
  cases r with
  | error er => exact hx pins σ _ _ er s2 J2 got2
  | ok fl =>
    cases fl with
    | ret u =>
      obtain ⟨v, H2, eo2, ba2, un2, ok2, rv, ev, dx, fs, ea, ed, hd1, q2⟩ := got2
      subst ev
      obtain ⟨h2, g2, d2, t2, os'⟩ := s2
      exact ⟨rv, mk_end (raises_own T.exC T.tyC) J1 up kk un2 ok2 eo2 ba2 ea ed hd1 q2⟩
    | next => exact False.elim got2
    | brk => exact False.elim got2
    | cont => exact False.elim got2
end
/-! ### a caught error, its fields; a def that is called while it is handled -/
/-- e.f of the pinned error p -/
def tXq (K : PySem.W.Frag) (p : Addr × Obj) (f : Str) (te : TE) : TE := fun σ H Q => te σ H fun x H1 => ∃ (C dd : Addr) (fs : List (Str × V)) (v : V), x = .ref p.1 ∧ Zc (.ref C) (some dd) p.2 ∧ Xg K C ∧ PySem.W.findIn K (.ref C) f = some none ∧ H1 dd = some (.xd fs) ∧ fs.lookup f = some v ∧ Q v H1
theorem pe_xq {X : Cx} {q : Addr × Obj} {e : Expr} {te : TE} {pos : Pos} {f : Str} (hq : q ∈ X.pn) (hf : ∃ vs, q.2.data = .fields vs) (he : PE X e te) (hb : attributeBase e f X.env (eval e X.env) = eval e X.env := by rfl) : PE X (.Attribute e f pos) (tXq X.K q f te) := by
  refine ⟨fun pins s σ H Q J h => attr_of hb (thn (he.run pins s σ H _ J h) fun u s1 ⟨x, H1, J1, rx, C, dd, fs, v, ex, hz, T, hno, ed, l, hQ⟩ => ?_)⟩
  subst ex
  obtain rfl : u = Value.ref q.1 := rx
  obtain ⟨at_, _⟩ := J1.pin q (List.mem_append_left _ hq)
  obtain ⟨vs, dv⟩ := hf
  obtain ⟨mA, ns, rel⟩ := (show ObjOk X.prog X.w H1 s1.heap dd (.xd fs) from J1.hok dd _ ed)
  obtain ⟨od, hod, hl⟩ := lookIn_ns ns
  obtain ⟨u2, hu, ru⟩ := RelO.some_of (v := v) (o := mA f) (by rw [← l]; exact rel f)
  have I : PySem.W.InstAt s1.heap q.1 q.2 C (some od) := ⟨at_, hz.1, by unfold PySem.W.notCls; rw [dv] <;> rfl, by rw [hz.2]; exact hod⟩
  exact PySem.HandSPX.exc_get J1.kIn I T.ga T.gg T.exC (PySem.W.findObj_own T.dct hno rfl (by rw [hl, hu])) (handed_of ru) ⟨v, H1, J1.tok _, ru, hQ⟩
structure FnQ (P : Program) (w : World) (K : PySem.W.Frag) (mg : Str → Option Value) (base : Heap) (k : Nat) (f : Addr) (fd : FuncData) (ps : List Str) (sp : Addr × Obj → Sp) : Prop where
  len : ∀ p vs H Q E, sp p vs H Q E → vs.length = ps.length
  run : ∀ (A : Around) (outer : List Env) (s : Shared) (H : Hp) (args : Args) (us : List Value) (vs : List V) (Q : VK) (E : XK) (p : Addr × Obj), L2H.RoomH k A → L2H.PinOk outer H s p → (∃ vs, p.2.data = .fields vs) → Env0 P w K mg base A outer s H → BindsTo s fd args (ps.zip us) → Vals vs us → sp p vs H Q E →
    codeAny (model P w) A (.call (.ref f) args) (CR CX0 outer P w H s Q E) s
section
variable {P : Program} {w : World} {K : PySem.W.Frag} {mg : Str → Option Value} {base : Heap}
theorem fn_quiet {x qual : Str} {st : Stmt} {f : Addr} {fd : FuncData} {N ps : List Str} {k : Nat} {sp : Addr × Obj → Sp} (F : Fun K x qual st f fd) (S : FnScope N ps (defScope st)) (len : ∀ p vs H Q E, sp p vs H Q E → vs.length = ps.length)
    (hbody : ∀ (cdv : Value) (A : Around) (outer : List Env) (s : Shared) (H : Hp) (vs : List V) (Q : VK) (E : XK) (p : Addr × Obj), (∃ vs, p.2.data = .fields vs) → L2H.RoomH k (A.deeper (envOfC qual (defScope st) s.heap.objs.size f cdv)) → sp p vs H Q E →
      ∃ t, PSs (L2H.cxH CX0 P w K mg base N qual (defScope st) f cdv A outer s H E p).nox (defBody st) t ∧ t { nx := fun _ H' => Q .non H', rt := Q } (start N vs) H) : FnQ P w K mg base (k + 1) f fd ps sp := by
  obtain ⟨oc, od, kV, doc, pm, an, cdv, ct, osl, rfl, lk, hcd⟩ := F.ex
  refine ⟨len, fun A outer s H args us vs Q E p room pin hf e0 bnd r want => ?_⟩
  have inK : K.In s.heap := e0.mod.kin.keeps fun b o e => (e0.bs b o e).1
  have noL : s.heap.NoLimit := e0.mod.nolimit.keeps fun b o e => (e0.bs b o e).1
  have kinds : ∀ y ∈ ps.zip us, (defScope st).names.lookup y.1 = some .local ∨ ((defScope st).names.lookup y.1 = some .cell ∧ ((cellsFrom (s.heap.objs.size + 1) (defScope st).names []).lookup y.1).isSome = true) := fun ⟨n, v⟩ hy => by
    rcases S.par n (List.of_mem_zip hy).1 with q | q
    · exact Or.inl q
    · exact Or.inr ⟨q, PySem.W.cellsFrom_some _ _ _ (Or.inl q)⟩
  refine codeAny_call_function room.depth (inK _ _ lk) rfl S.co S.gen rfl (PySem.W.codeRec_of inK hcd) (bnd _ _ _ _ ?_)
  refine wpAny_newFunctionEnv_cells S.kind kinds fun env he s1 x => ?_
  subst he
  refine ⟨noL.keeps x.toInCall.keep, codeAny_func ?_⟩
  obtain ⟨t, ht0, hq⟩ := hbody cdv A outer s H vs Q E p hf (room.deeper _) want
  have ht := ht0.nox
  have J : Inv (L2H.cxH CX0 P w K mg base N qual (defScope st) f cdv A outer s H E p) [] (start N vs) H s1 := L2H.inv_startH S pin e0 (len p _ _ _ _ want) r x
  refine wpAny_mono (ht.run [] s1 (start N vs) H _ J hq) (fun fl s2 got => ?_) fun _ _ z => z
  have last : ∀ {σ2 : L2.St} {H2 : Hp} {v : V} {u : Value}, Inv (L2H.cxH CX0 P w K mg base N qual (defScope st) f cdv A outer s H E p) [] σ2 H2 s2 → RelV v u → Q v H2 → CE outer P w H s Q u s2 := fun {σ2 H2 v u} J2 rv q => ⟨v, H2, J2.os, J2.bare, J2.base, J2.hok, rv, q⟩
  cases fl with
  | ret u =>
    obtain ⟨v, σ2, H2, J2, rv, q⟩ := got
    exact last J2 rv q
  | next =>
    obtain ⟨σ2, H2, J2, q⟩ := got
    exact last (v := V.non) (u := Value.none) J2 rfl q
  | brk => exact (got.choose_spec.choose_spec.2).elim
  | cont => exact (got.choose_spec.choose_spec.2).elim
end
section
variable {X : Cx} {k : Nat} {f : Addr} {fd : FuncData} {ps : List Str} {sp : Addr × Obj → Sp} {x : Str} {q pos : Pos} {e : Expr} {es : List Expr} {t : TA} {p : Addr × Obj}
theorem pe_callQ (F : FnQ X.prog X.w X.K X.mg X.base k f fd ps sp) (hr : L2H.RoomH k X.A) (hp : p ∈ X.pn) (hf : ∃ vs, p.2.data = .fields vs) (hg : Gl X x) (hm : X.mg x = some (.ref f)) (hk : PySem.W.keepIn X.K (.ref f) = true) (hb : Binds X.K fd ps [])
    (ha : PA X (e :: es) t) (hdb : (x == ("__debug__" : Str)) = false := by decide) (he : starEach (e :: es) X.env = (false, eval e X.env) :: starEach es X.env := by rfl) (hpl : (backTo pos (starEach es X.env)).any (·.1) = false := by rfl) :
    PE X (.Call (.Name x q) (e :: es) [] pos) (tCall (sp p) [] E0 t) := by
  refine ⟨fun pins s σ H Q J h => wpAny_Call_Name_kw (ld_glob J hg hm ?_ hdb)⟩
  refine PySem.W.callWith_K (h₀ := X.base) J.ok.mod.kin hk (thn (ha.run pos pins s σ H _ J h) fun us s1 ⟨vs, H1, J1, r, want⟩ => ⟨J1.kIn, ?_⟩) he hpl
  have want : sp p (vs ++ []) H1 Q E0 := want
  rw [List.append_nil] at want
  have hl : us.length = ps.length := by rw [← r.length]; exact F.len _ _ _ _ _ want
  have b := hb s1 us J1.kIn (by rw [List.append_nil]; exact hl)
  rw [List.append_nil] at b
  have P1 := J1.pin p (List.mem_append_left _ hp)
  have pin : L2H.PinOk X.stack H1 s1 p := ⟨P1.1, P1.2.1, fun z => (List.mem_cons.mp (J1.stkSub p.1 z)).elim P1.2.2.1 P1.2.2.2.1, P1.2.2.2.2⟩
  refine wpAny_call (codeAny_mono (F.run X.A X.stack s1 H1 ⟨us, []⟩ us vs Q E0 p hr pin hf J1.env0 b r want) fun r s2 got => ?_)
  cases r with
  | error e => exact False.elim got
  | ok fl =>
    cases fl with
    | ret u => exact J1.after got
    | next => exact False.elim got
    | brk => exact False.elim got
    | cont => exact False.elim got
end
end Rg
namespace Rg
open PySem L2 RZ PyProof.Rows
/-! ### own errors, told of the data -/
/-- what the __init__ of an own error does: the code, then each parameter as a field -/
def spInit (C : Addr) (ps : List Str) (code : Str) : Sp := fun vs H Q _ => ∃ (a : Addr) (ws : List V), vs = .ref a :: ws ∧ ws.length = ps.length ∧ H a = some (exo a C none) ∧
  ∀ dx, H dx = none → dx ≠ a → Q .non (upd (upd H dx (exd dx ((ps.zip ws).reverse ++ [(("code" : Str), V.str code)]))) a (exo a C (some dx)))
def excN (ps : List Str) : List Str := ps.reverse ++ [("code" : Str)]
def excV (code : Str) (ds : List D) : List D := ds.reverse ++ [.str code]
abbrev excD (C : Addr) (ps : List Str) (code : Str) (ds : List D) : D := .exc C (excN ps) (excV code ds)
section
variable {K : PySem.W.Frag} {M : Mt} {ds : DS} {te : TE} {ta : TA} {R : D → Prop} {E : AE} {C : Addr} {ps : List Str} {code : Str} {as : List D}
theorem RpAll.rev {G : Hp} : ∀ {vs : List V} {es : List D}, RpAll K G vs es → RpAll K G vs.reverse es.reverse
  | _, _, .nil => .nil
  | _, _, .cons h r => by rw [List.reverse_cons, List.reverse_cons]; exact (RpAll.rev r).append (.cons h .nil)
theorem fsN {ws : List V} (h : ws.length = ps.length) : ((ps.zip ws).reverse ++ [(("code" : Str), V.str code)]).map (·.1) = excN ps := by
  unfold excN
  rw [List.map_append, List.map_reverse, List.map_fst_zip (by omega)]
  rfl
theorem fsV {ws : List V} (h : ws.length = ps.length) : ((ps.zip ws).reverse ++ [(("code" : Str), V.str code)]).map (·.2) = ws.reverse ++ [.str code] := by
  rw [List.map_append, List.map_reverse, List.map_snd_zip (by omega)]
  rfl
theorem rp_exc {G : Hp} {a dx : Addr} {ws : List V} (e1 : G a = some (exo a C (some dx))) (e2 : G dx = some (exd dx ((ps.zip ws).reverse ++ [(("code" : Str), V.str code)]))) (h : ws.length = ps.length) (r : RpAll K G ws as) : Rp K G (.ref a) (excD C ps code as) := by
  have z := Rp.exc (K := K) (ds := excV code as) e1 e2 (by rw [fsV h]; exact r.rev.append (.cons (.str code) .nil))
  rw [fsN h] at z
  exact z
theorem xrp_exc {G : Hp} {dx : Addr} {ws : List V} (e2 : G dx = some (.xd ((ps.zip ws).reverse ++ [(("code" : Str), V.str code)]))) (h : ws.length = ps.length) (r : RpAll K G ws as) : XRp K G (.ref C) (some dx) (excD C ps code as) := by
  have z := XRp.own (K := K) (C := C) (ds := excV code as) e2 (by rw [fsV h]; exact r.rev.append (.cons (.str code) .nil))
  rw [fsN h] at z
  exact z
theorem upd_over {H : Hp} {a dx : Addr} {o o' e : HO} (h : dx ≠ a) : upd (upd (upd H a o) dx e) a o' = upd (upd H dx e) a o' := by
  funext b
  by_cases h1 : b = a
  · subst h1; rw [upd_same, upd_same]
  · rw [upd_ne h1, upd_ne h1]
    by_cases h2 : b = dx
    · subst h2; rw [upd_same, upd_same]
    · rw [upd_ne h2, upd_ne h2, upd_ne h1]
/-- the making itself -/
theorem mk_exc {M' : Mt} {G H : Hp} {vs : List V} {Q : VK} {a : Addr} (w : Wd M' G H) (r : RpAll K G vs as) (hl : as.length = ps.length) (ha : H a = none)
    (q : ∀ v d G' H', Same G G' → Wd M' G' H' → Rp K G' v d → d = excD C ps code as → Q v H') : spInit C ps code (.ref a :: vs) (upd H a (exo a C none)) (fun v H2 => v = .non ∧ Q (.ref a) H2) (fun _ _ _ => False) := by
  have hv : vs.length = ps.length := r.length.trans hl
  refine ⟨a, vs, rfl, hv, upd_same, fun dx hdx ne => ⟨rfl, ?_⟩⟩
  rw [upd_ne ne] at hdx
  rw [upd_over ne]
  have w1 := w.new (o := exd dx ((ps.zip vs).reverse ++ [(("code" : Str), V.str code)])) hdx
  have ha1 : upd H dx (exd dx ((ps.zip vs).reverse ++ [(("code" : Str), V.str code)])) a = none := by rw [upd_ne (Ne.symm ne)]; exact ha
  have w2 := w1.new (o := exo a C (some dx)) ha1
  have s1 := same_new (o := exd dx ((ps.zip vs).reverse ++ [(("code" : Str), V.str code)])) (w.free hdx)
  have s2 := same_new (o := exo a C (some dx)) (w1.free ha1)
  exact q _ _ _ _ (s1.trans s2) w2 (rp_exc (ws := vs) upd_same (by rw [upd_ne ne, upd_same]) hv (r.mono (s1.trans s2))) rfl
theorem ev_xmk (ha : EvA K M ds ta (· = as)) (hl : as.length = ps.length) (h1 : ps.length ≤ 1000) : Ev K M ds (tXmk C (spInit C ps code) [] ta) (· = excD C ps code as) := fun M' σ G H Q m s w q =>
  ha M' σ G H _ m s w fun vs es G1 H1 s1 w1 r1 e => by
    subst e
    refine ⟨by rw [r1.length, hl]; exact h1, fun a ha => ?_⟩
    rw [List.append_nil]
    exact mk_exc w1 r1 hl ha fun v d G2 H2 s2 w2 r2 e2 => q v d G2 H2 (s1.trans s2) w2 r2 e2
theorem ev_xmkK {n : Nat} (ha : EvA K M ds ta (· = as)) (hn : as.length = n) (hl : n = ps.length) : Ev K M ds (tXmkK C n (spInit C ps code) ta) (· = excD C ps code as.reverse) := fun M' σ G H Q m s w q =>
  ha M' σ G H _ m s w fun vs es G1 H1 s1 w1 r1 e => by
    subst e
    refine ⟨by rw [r1.length, hn], fun a ha => ?_⟩
    exact mk_exc w1 r1.rev (by rw [List.length_reverse, hn, hl]) ha fun v d G2 H2 s2 w2 r2 e2 => q v d G2 H2 (s1.trans s2) w2 r2 e2
/-- a field of an error -/
def fldD : List Str → List D → Str → Option D
  | n :: ns, d :: ds, f => if f = n then some d else fldD ns ds f
  | _, _, _ => none
theorem fld_of {G : Hp} : ∀ {fs : List (Str × V)} {es : List D} {f : Str} {d : D}, RpAll K G (fs.map (·.2)) es → fldD (fs.map (·.1)) es f = some d → ∃ v, fs.lookup f = some v ∧ Rp K G v d
  | [], es, f, d, r, h => by cases h
  | (n, v) :: fs, [], f, d, r, h => by cases r
  | (n, v) :: fs, e :: es, f, d, r, h => by
    cases r with
    | cons r1 r2 =>
      rw [List.lookup_cons]
      have h2 : (if f = n then some e else fldD (fs.map (·.1)) es f) = some d := h
      by_cases q : f = n
      · rw [if_pos q] at h2
        cases h2
        have z : (f == n) = true := by simp [q]
        rw [z]
        exact ⟨v, rfl, r1⟩
      · rw [if_neg q] at h2
        have z : (f == n) = false := by simp [q]
        rw [z]
        exact fld_of r2 h2
theorem ev_xget {f : Str} {ns : List Str} {es : List D} {d : D} (he : Ev K M ds te (· = .exc C ns es)) (T : Xg K C) (hno : PySem.W.findIn K (.ref C) f = some none) (h : fldD ns es f = some d) : Ev K M ds (tXget K f te) (· = d) := fun M' σ G H Q m s w q =>
  he M' σ G H _ m s w fun v d1 G1 H1 s1 w1 r1 e => by
    subst e
    cases r1 with
    | exc h1 h2 r =>
      obtain ⟨u, hu, ru⟩ := fld_of r h
      exact ⟨_, C, _, _, u, rfl, w1.sub _ _ h1, w1.sub _ _ h2, T, hno, hu, q u d G1 H1 s1 w1 ru rfl⟩
theorem ev_xq {f : Str} {p : Addr × Obj} {dd : Addr} {ns : List Str} {es : List D} {d : D} (he : Ev K M ds te (· = .cau p.1 dd C ns es)) (hz : Zc (.ref C) (some dd) p.2) (T : Xg K C) (hno : PySem.W.findIn K (.ref C) f = some none) (h : fldD ns es f = some d) : Ev K M ds (tXq K p f te) (· = d) := fun M' σ G H Q m s w q =>
  he M' σ G H _ m s w fun v d1 G1 H1 s1 w1 r1 e => by
    subst e
    cases r1 with
    | cau h1 r =>
      obtain ⟨u, hu, ru⟩ := fld_of r h
      exact ⟨C, dd, _, u, rfl, hz, T, hno, w1.sub _ _ h1, hu, q u d G1 H1 s1 w1 ru rfl⟩
/-- isinstance of an error -/
theorem cd_isX {c : V} {cv : Value} {ns : List Str} {es : List D} {b : Bool} (T : Xg K C) (hc : ClsV c cv) (hk : PySem.W.kitOne K (.ref C) cv = some b) : CallD K M (rOrC (rIsi K) (rIsX K)) [.exc C ns es, .raw c] (· = .bl b) := fun M' G H xs Q m r w q => by
  cases r with
  | cons r1 r =>
    cases r with
    | cons r2 r =>
      cases r
      have e2 := r2.raw_inv
      subst e2
      cases r1 with
      | exc h1 h2 rr => exact .inr ⟨_, C, _, _, cv, b, rfl, w.sub _ _ h1, ⟨_, w.sub _ _ h2⟩, T, hc, hk, q _ _ G H (Same.refl G) w (.bl b) rfl⟩
theorem cd_isiU {as : List D} (h : CallD K M (rIsi K) as R) : CallD K M (rOrC (rIsi K) (rIsX K)) as R := fun M' G H xs Q m r w q => .inl (h M' G H xs Q m r w q)
/-! ### raise -/
def tRz (W : WX) (t : L2.St → Hp → XK → Prop) : TS := fun _ σ H => t σ H fun cls d H' => W cls d σ H'
theorem ps_rz {X : Cx} {W : WX} {e : Expr} {t : L2.St → Hp → XK → Prop} {pos : Pos} (hc : X.calm = true) (tk : Takes X W) (he : PMk X e t) : PS X (.Raise (some e) none pos) (tRz W t) := ps_raise hc tk he
theorem upd_del {H : Hp} {a dx : Addr} {o e x : HO} (h : dx ≠ a) (ha : H a = none) : upd (del (upd (upd H dx e) a o) a) dx x = upd H dx x := by
  funext b
  by_cases h2 : b = dx
  · subst h2; rw [upd_same, upd_same]
  · rw [upd_ne h2, upd_ne h2]
    by_cases h1 : b = a
    · subst h1; rw [del_same, ha]
    · rw [del_ne h1, upd_ne h1, upd_ne h2]
theorem raise_exc {M' : Mt} {G H : Hp} {vs : List V} {Q : XK} {a : Addr} (w : Wd M' G H) (r : RpAll K G vs as) (hl : as.length = ps.length) (ha : H a = none)
    (q : ∀ c d G' H', Same G G' → Wd0 M'.l G' H' → XRp K G' c d (excD C ps code as) → Q c d H') : spInit C ps code (.ref a :: vs) (upd H a (exo a C none))
      (fun v H2 => v = .non ∧ ∃ (d : Addr) (fs : List (Str × V)), H2 a = some (exo a C (some d)) ∧ H2 d = some (exd d fs) ∧ H d = none ∧ Q (.ref C) (some d) (upd (del H2 a) d (.xd fs))) (fun _ _ _ => False) := by
  have hv : vs.length = ps.length := r.length.trans hl
  refine ⟨a, vs, rfl, hv, upd_same, fun dx hdx ne => ⟨rfl, dx, (ps.zip vs).reverse ++ [(("code" : Str), V.str code)], upd_same, ?_, ?_, ?_⟩⟩
  · rw [upd_ne ne, upd_same]
  · rw [upd_ne ne] at hdx; exact hdx
  · rw [upd_ne ne] at hdx
    rw [upd_over ne, upd_del ne ha]
    have s1 := same_new (o := HO.xd ((ps.zip vs).reverse ++ [(("code" : Str), V.str code)])) (w.free hdx)
    exact q _ _ _ _ s1 (w.toWd0.new hdx) (xrp_exc (ws := vs) upd_same hv (r.mono s1))
theorem run_raise {W : WX} (hW : M.W = W) (ha : EvA K M ds ta (· = as)) (hl : as.length = ps.length) (hx : Exk K M (excD C ps code as) ds) (h1 : ps.length ≤ 1000 := by decide) : Run K M ds (tRz W (tMkO C (spInit C ps code) [] ta)) E := fun M' σ G H Z m s w z =>
  ha M' σ G H _ m s w fun vs es G1 H1 s1 w1 r1 e => by
    subst e
    refine ⟨by rw [r1.length, hl]; exact h1, fun a ha => ?_⟩
    rw [List.append_nil]
    exact raise_exc w1 r1 hl ha fun c d G2 H2 s2 w2 x2 => w1.toW m hW s2 w2 (s.mono (s1.trans s2)) x2 hx
theorem run_raiseK {W : WX} {n : Nat} (hW : M.W = W) (ha : EvA K M ds ta (· = as)) (hn : as.length = n) (hl : n = ps.length) (hx : Exk K M (excD C ps code as.reverse) ds) : Run K M ds (tRz W (tRmk C n (spInit C ps code) ta)) E := fun M' σ G H Z m s w z =>
  ha M' σ G H _ m s w fun vs es G1 H1 s1 w1 r1 e => by
    subst e
    refine ⟨by rw [r1.length, hn], fun a ha => ?_⟩
    exact raise_exc w1 r1.rev (by rw [List.length_reverse, hn, hl]) ha fun c d G2 H2 s2 w2 x2 => w1.toW m hW s2 w2 (s.mono (s1.trans s2)) x2 hx
/-! ### try -/
def clsX : D → Option Value
  | .exc C _ _ => some (.ref C)
  | .raw (.ty n) => some (.type n)
  | _ => none
def hdD (i : Option Nat) (d : D) (ds : DS) : DS := match i with
  | none => ds
  | some i => ds.set i (some d)
def hdA (i : Option Nat) (E : AE) : AE := match i with
  | none => E
  | some i => { nx := fun d => E.nx (d.set i none), rt := E.rt, bk := fun d => E.bk (d.set i none), ct := fun d => E.ct (d.set i none) }
def yesR (K : PySem.W.Frag) (M : Mt) (E : AE) (ds : DS) (h : Hd) : D → Prop
  | .exc C ns es => ∀ (p : Addr × Obj) (dd : Addr), Zc (.ref C) (some dd) p.2 → Run K M (hdD h.i (.cau p.1 dd C ns es) ds) (h.ts p) (hdA h.i E)
  | .raw (.ty n) => ∀ (p : Addr × Obj) (d : Option Addr), Zc (.type n) d p.2 → Run K M (hdD h.i (.raw (.ref p.1)) ds) (h.ts p) (hdA h.i E)
  | _ => False
/-- what the clauses do with the exception x from the slots ds -/
def Hok (K : PySem.W.Frag) (M : Mt) (W0 : WX) (E : AE) (x : D) (ds : DS) : List Hd → Prop
  | [] => M.W = W0 ∧ Exk K M x ds
  | h :: r => ∃ b, (clsX x).bind h.m = some b ∧ (b = true → yesR K M E ds h x) ∧ (b = false → Hok K M W0 E x ds r)
theorem hdS_sg {G : Hp} {σ : L2.St} {i : Option Nat} {a : Addr} {d : D} (s : Sg K G σ ds) (r : Rp K G (.ref a) d) : Sg K G (hdS i a σ) (hdD i d ds) := by
  cases i with
  | none => exact s
  | some i => exact s.set i r
theorem hdE_ok {M' : Mt} {G : Hp} {Z : Ends} {i : Option Nat} (z : EndsOk K M' G E Z) : EndsOk K M' G (hdA i E) (hdE i Z) := by
  cases i with
  | none => exact z
  | some i => exact ⟨fun ds' σ' G' H' e g s' w' => z.nx _ _ G' H' e g s'.drop w', z.rt, fun ds' σ' G' H' e g s' w' => z.bk _ _ G' H' e g s'.drop w', fun ds' σ' G' H' e g s' w' => z.ct _ _ G' H' e g s'.drop w'⟩
theorem hok_w {M' : Mt} {G H : Hp} {Z : Ends} {σ : L2.St} {W0 : WX} {c : Value} {d : Option Addr} {x : D} (m : MSub M M') (s : Sg K G σ ds) (w : Wd M' G H) (z : EndsOk K M' G E Z) (hx : XRp K G c d x) : ∀ {l : List Hd}, Hok K M W0 E x ds l → wHs W0 Z l c d σ H
  | [], h => w.toW m h.1 (Same.refl G) w.toWd0 s hx h.2
  | h :: r, ⟨b, e, yes, no⟩ => by
    refine ⟨b, ?_, fun eb p zp np => ?_, fun eb => hok_w m s w z hx (no eb)⟩
    · cases hx with
      | own _ _ => exact e
      | blt n d => exact e
    · have y := yes eb
      cases hx with
      | @own C dd fs es h1 r1 => exact y p dd zp M' _ G H _ m (hdS_sg s (.cau h1 r1)) w (hdE_ok z)
      | blt n d => exact y p d zp M' _ G H _ m (hdS_sg s (.raw _)) w (hdE_ok z)
theorem run_try {tb : WX → TS} {l : List Hd} {W0 : WX} (Rx : D → DS → Prop) (hb : ∀ W, Run K (M.tr K W Rx) ds (tb W) E) (hh : ∀ x ds', Rx x ds' → Hok K M W0 E x ds' l) : Run K M ds (tTry tb W0 l) E := fun M' σ G H Z m s w z =>
  hb _ (M'.tr K (wHs W0 Z l) Rx) σ G H Z ⟨m.l, rfl, rfl⟩ s ⟨w.toWd0, fun l' c d σ' G' H' ⟨el, x, ds', rx, hx, sg⟩ s' w' => hok_w m sg (w.to s' (by subst el; exact w')) (z.mono s') hx (hh x ds' rx)⟩
    ⟨fun ds' σ' G' H' e g s' w' => z.nx ds' σ' G' H' e g s' (w.to g w'.toWd0), fun v d G' H' e g r w' => z.rt v d G' H' e g r (w.to g w'.toWd0), fun ds' σ' G' H' e g s' w' => z.bk ds' σ' G' H' e g s' (w.to g w'.toWd0), fun ds' σ' G' H' e g s' w' => z.ct ds' σ' G' H' e g s' (w.to g w'.toWd0)⟩
/-! ### a def that is called while an error is handled -/
def spQ (K : PySem.W.Frag) (pre : Addr × Obj → List D → Prop) (post : List D → D → Prop) (p : Addr × Obj) : Sp := fun vs H Q _ => ∃ M G as, Wd0 M G H ∧ RpAll K G vs as ∧ pre p as ∧ ∀ v d G' H', Same G G' → Wd0 M G' H' → Rp K G' v d → post as d → Q v H'
theorem ev_callQ {RA : List D → Prop} {pre : Addr × Obj → List D → Prop} {post : List D → D → Prop} {p : Addr × Obj} {Ex : XK} (ha : EvA K M ds ta RA) (h : ∀ as, RA as → pre p as ∧ ∀ d, post as d → R d) : Ev K M ds (tCall (spQ K pre post p) [] Ex ta) R := fun M' σ G H Q m s w q =>
  ha M' σ G H _ m s w fun vs as G1 H1 s1 w1 r1 e => ⟨M'.l, G1, as, w1.toWd0, by rw [List.append_nil]; exact r1, (h as e).1, fun v d G2 H2 s2 w2 r2 p2 => q v d G2 H2 (s1.trans s2) (w1.to s2 w2) r2 ((h as e).2 d p2)⟩
end
section
variable {P : Program} {w : World} {K : PySem.W.Frag} {mg : Str → Option Value} {base : Heap} {pre : Addr × Obj → List D → Prop} {post : List D → D → Prop}
theorem fn_quietD {x qual : Str} {st : Stmt} {f : Addr} {fd : FuncData} {N ps : List Str} {k : Nat} (F : Fun K x qual st f fd) (S : FnScope N ps (defScope st)) (hl : ∀ p as, pre p as → as.length = ps.length)
    (body : ∀ (cdv : Value) (A : Around) (outer : List Env) (s : Shared) (H : Hp) (E : XK) (p : Addr × Obj), (∃ vs, p.2.data = .fields vs) → L2H.RoomH k (A.deeper (envOfC qual (defScope st) s.heap.objs.size f cdv)) →
      ∃ t, PSs (L2H.cxH CX0 P w K mg base N qual (defScope st) f cdv A outer s H E p).nox (defBody st) t ∧
        ∀ (M : Mt) as, pre p as → Run K M (as.map some ++ List.replicate (N.length - as.length) none) t { nx := fun _ => post as .non, rt := post as }) : FnQ P w K mg base (k + 1) f fd ps (spQ K pre post) := by
  refine fn_quiet F S (fun p vs H Q E h => ?_) (fun cdv A outer s H vs Q E p hf hr h => ?_)
  · obtain ⟨M, G, as, _, r, hp, _⟩ := h
    rw [r.length]
    exact hl p as hp
  · obtain ⟨t, ht, hrun⟩ := body cdv A outer s H E p hf hr
    obtain ⟨M, G, as, wd, r, hp, q⟩ := h
    refine ⟨t, ht, hrun { l := M } as hp _ _ G H _ (MSub.refl _) (Sg.start r) ⟨wd, fun _ _ _ _ _ _ z => z.elim⟩ ⟨fun ds' σ' G' H' e s' _ w' => q _ _ G' H' s' w'.toWd0 .non e, fun v d G' H' e s' r' w' => q v d G' H' s' w'.toWd0 r' e, fun _ _ _ _ e => e.elim, fun _ _ _ _ e => e.elim⟩⟩
end
end Rg
namespace Rg
open PySem L2 RZ PyProof.Rows
/-! ### == of data of any depth -/
mutual
def pyT : D → PyData
  | .bl b => .bool b
  | .int i => .int i
  | .str x => .str x
  | .list xs => .list (pyTs xs)
  | .tup xs => .tuple (pyTs xs)
  | _ => .none
def pyTs : List D → List PyData
  | [] => []
  | d :: ds => pyT d :: pyTs ds
end
/-- plain data of at most this depth -/
def flD : Nat → D → Bool
  | 0, _ => false
  | _ + 1, .non => true
  | _ + 1, .bl _ => true
  | _ + 1, .int _ => true
  | _ + 1, .str x => x.cps.all (· < 0x110000)
  | n + 1, .list xs => xs.all (flD n)
  | n + 1, .tup xs => xs.all (flD n)
  | _ + 1, _ => false
mutual
theorem dp_of {K : PySem.W.Frag} {G H : Hp} (s : Same G H) : ∀ {n : Nat} {d : D} {v : V}, flD n d = true → Rp K G v d → Dp K H v (pyT d)
  | 0, _, _, h, _ => by cases h
  | _ + 1, _, _, _, .non => .non
  | _ + 1, _, _, _, .bl b => .bl b
  | _ + 1, _, _, _, .int i => .int i
  | _ + 1, _, _, _, .str x => .str x
  | n + 1, _, _, h, .lst e r => .lst (s.seq (sq e)) (dps_of s (n := n) h r)
  | n + 1, _, _, h, .tup e r => .tup (same_t s e) (dps_of s (n := n) h r)
  | _ + 1, _, _, h, .obj _ _ => by cases h
  | _ + 1, _, _, h, .exc _ _ _ => by cases h
  | _ + 1, _, _, h, .cau _ _ => by cases h
  | _ + 1, _, _, h, .seq _ _ => by cases h
  | _ + 1, _, _, h, .raw _ => by cases h
  | _ + 1, _, _, h, .fob _ _ _ => by cases h
  | _ + 1, _, _, h, .dict _ _ => by cases h
theorem dps_of {K : PySem.W.Frag} {G H : Hp} (s : Same G H) : ∀ {n : Nat} {ds : List D} {vs : List V}, ds.all (flD n) = true → RpAll K G vs ds → DpAll K H vs (pyTs ds)
  | _, _, _, _, .nil => .nil
  | n, _, _, h, .cons r1 r2 => by
    have h2 := Bool.and_eq_true_iff.mp (show (flD n _ && List.all _ (flD n)) = true from h)
    exact .cons (dp_of s h2.1 r1) (dps_of s h2.2 r2)
end
mutual
theorem lay_of : ∀ (n : Nat) (d : D), flD n d = true → (pyT d).canLay0 = true ∧ (pyT d).depth ≤ n
  | 0, _, h => by cases h
  | n + 1, .non, _ => ⟨rfl, by simp [pyT, PyData.depth]⟩
  | n + 1, .bl b, _ => ⟨rfl, by simp [pyT, PyData.depth]⟩
  | n + 1, .int b, _ => ⟨rfl, by simp [pyT, PyData.depth]⟩
  | n + 1, .str x, h => ⟨h, by simp [pyT, PyData.depth]⟩
  | n + 1, .list xs, h => by
    obtain ⟨a, b⟩ := lays_of n xs h
    exact ⟨a, by simp only [pyT, PyData.depth]; omega⟩
  | n + 1, .tup xs, h => by
    obtain ⟨a, b⟩ := lays_of n xs h
    exact ⟨a, by simp only [pyT, PyData.depth]; omega⟩
  | n + 1, .obj _ _ _, h => by cases h
  | n + 1, .exc _ _ _, h => by cases h
  | n + 1, .cau _ _ _ _ _, h => by cases h
  | n + 1, .seq _, h => by cases h
  | n + 1, .raw _, h => by cases h
  | n + 1, .fob _, h => by cases h
  | n + 1, .dict _ _, h => by cases h
theorem lays_of : ∀ (n : Nat) (ds : List D), ds.all (flD n) = true → PyData.canLayAll0 (pyTs ds) = true ∧ PyData.depthAll (pyTs ds) ≤ n
  | n, [], _ => ⟨rfl, by simp [pyTs, PyData.depthAll]⟩
  | n, d :: ds, h => by
    have h2 := Bool.and_eq_true_iff.mp (show (flD n d && List.all ds (flD n)) = true from h)
    obtain ⟨a, b⟩ := lay_of n d h2.1
    obtain ⟨a2, b2⟩ := lays_of n ds h2.2
    refine ⟨?_, ?_⟩
    · show ((pyT d).canLay0 && PyData.canLayAll0 (pyTs ds)) = true
      rw [a, a2]; rfl
    · simp only [pyTs, PyData.depthAll]; omega
end
def eqvD (a b : D) : Bool := PyData.eqv (pyT a) (pyT b)
section
variable {K : PySem.W.Frag} {M : Mt} {ds : DS} {te : TE}
theorem shaped_of {n : Nat} {d : D} (h : flD n d = true) (hn : n ≤ 64) : SeqAt.shaped (pyT d) = true := by
  obtain ⟨a, b⟩ := lay_of n d h
  show ((pyT d).canLay0 && decide ((pyT d).depth ≤ 64)) = true
  rw [a, decide_eq_true (Nat.le_trans b hn)]
  rfl
theorem od_eqD {n : Nat} {a b : D} (ha : flD n a = true) (hb : flD n b = true) (hn : n ≤ 64 := by decide) : OpD K M (rEqD K) a b (· = .bl (eqvD a b)) := fun M' G H x y Q m rx ry w q =>
  ⟨pyT a, pyT b, dp_of w.sub ha rx, dp_of w.sub hb ry, shaped_of ha hn, shaped_of hb hn, q _ _ G H (Same.refl G) w (.bl _) rfl⟩
theorem od_neD {n : Nat} {a b : D} (ha : flD n a = true) (hb : flD n b = true) (hn : n ≤ 64 := by decide) : OpD K M (rNeD K) a b (· = .bl (!eqvD a b)) := fun M' G H x y Q m rx ry w q =>
  ⟨pyT a, pyT b, dp_of w.sub ha rx, dp_of w.sub hb ry, shaped_of ha hn, shaped_of hb hn, q _ _ G H (Same.refl G) w (.bl _) rfl⟩
theorem room_u {k : Nat} {A : Around} (hr : Room k A) : A.units + 64 < cLine := by have := hr.un; omega
theorem q_eqD {X : Cx} {K : PySem.W.Frag} (hu : X.A.units + 64 < cLine) (h : X.K = K := by rfl) : OpR X (compareOp .Eq) (rEqD K) := h ▸ op_eqD hu
theorem q_neD {X : Cx} {K : PySem.W.Frag} (hu : X.A.units + 64 < cLine) (h : X.K = K := by rfl) : OpR X (compareOp .NotEq) (rNeD K) := h ▸ op_neD hu
mutual
theorem eqv_refl : ∀ (n : Nat) (d : D), flD n d = true → eqvD d d = true
  | 0, _, h => by cases h
  | n + 1, .non, _ => rfl
  | n + 1, .bl b, _ => by simp [eqvD, pyT, PyData.eqv]
  | n + 1, .int b, _ => by simp [eqvD, pyT, PyData.eqv]
  | n + 1, .str x, h => by simp [eqvD, pyT, PyData.eqv]
  | n + 1, .list xs, h => by
    have := eqvs_refl n xs h
    simpa [eqvD, pyT, PyData.eqv] using this
  | n + 1, .tup xs, h => by
    have := eqvs_refl n xs h
    simpa [eqvD, pyT, PyData.eqv] using this
  | n + 1, .obj _ _ _, h => by cases h
  | n + 1, .exc _ _ _, h => by cases h
  | n + 1, .cau _ _ _ _ _, h => by cases h
  | n + 1, .seq _, h => by cases h
  | n + 1, .raw _, h => by cases h
  | n + 1, .fob _, h => by cases h
  | n + 1, .dict _ _, h => by cases h
theorem eqvs_refl : ∀ (n : Nat) (ds : List D), ds.all (flD n) = true → PyData.eqvAll (pyTs ds) (pyTs ds) = true
  | n, [], _ => rfl
  | n, d :: ds, h => by
    have h2 := Bool.and_eq_true_iff.mp (show (flD n d && List.all ds (flD n)) = true from h)
    have a := eqv_refl n d h2.1
    have b := eqvs_refl n ds h2.2
    show (PyData.eqv (pyT d) (pyT d) && PyData.eqvAll (pyTs ds) (pyTs ds)) = true
    rw [show PyData.eqv (pyT d) (pyT d) = true from a, b]
    rfl
end
/-! ### lists repeated -/
abbrev rMulU : R2 := rOr (rI CMul fun i j => .int (i * j)) rRep
theorem op_mulU {X : Cx} : OpR X (binaryOp .Mult) rMulU := op_or op_mul op_rep
theorem od_mulU {i j : Int} (h : CMul i j) : OpD K M rMulU (.int i) (.int j) (· = .int (i * j)) := od_l (od_intC (h := fun i j => .int (i * j)) h fun _ => .int _)
theorem RpAll.rep {G : Hp} {vs : List V} {es : List D} (r : RpAll K G vs es) : ∀ n : Nat, RpAll K G (List.replicate n vs).flatten (List.replicate n es).flatten
  | 0 => .nil
  | n + 1 => by
    rw [List.replicate_succ, List.replicate_succ, List.flatten_cons, List.flatten_cons]
    exact r.append (RpAll.rep r n)
theorem od_rep {xs : List D} {k : Int} (h0 : -(2 ^ 63) ≤ k) (h1 : k < 2 ^ 63) (hz : xs.length * k.toNat ≤ 100000) : OpD K M rMulU (.list xs) (.int k) (· = .list (List.replicate k.toNat xs).flatten) := od_r fun M' G H x y Q m rx ry w q => by
  obtain ⟨a, us, rfl, e, r⟩ := rx.list_ex
  refine ⟨a, k, us, rfl, ry.int_inv, w.sub _ _ e, h0, h1, by rw [r.length]; exact Nat.le_trans hz (by decide), fun p hp => ?_⟩
  have sn := same_new (o := HO.lst (List.replicate k.toNat us).flatten) (w.free hp)
  exact q (.ref p) _ _ _ sn (w.new hp) (.lst upd_same ((r.mono sn).rep k.toNat)) rfl
end
theorem xgB_ok {K : PySem.W.Frag} {C : Addr} {b : XB} (h : xgB K C b = true) : Xg K C := by
  obtain ⟨h1, h⟩ := He.ba h
  obtain ⟨h2, h⟩ := He.ba h
  obtain ⟨h3, h⟩ := He.ba h
  obtain ⟨h4, h⟩ := He.ba h
  obtain ⟨h5, h⟩ := He.ba h
  obtain ⟨h6, h⟩ := He.ba h
  obtain ⟨h7, h⟩ := He.ba h
  obtain ⟨h8, h⟩ := He.ba h
  obtain ⟨h9, h⟩ := He.ba h
  obtain ⟨h10, h⟩ := He.ba h
  obtain ⟨h11, h⟩ := He.ba h
  obtain ⟨h12, h13⟩ := He.ba h
  refine { base := ?_, dct := h3, sa := He.eqO_ok h4, exC := of_decide_eq_true h5, tyC := of_decide_eq_true h6, kC := h7, ga := He.eqO_ok h8, gg := He.eqO_ok h9, cl := He.eqO_ok h10, gs := He.eqO_ok h11, tk := of_decide_eq_true h12, ob := of_decide_eq_true h13 }
  cases b with
  | value => exact ⟨_, _, _, _, PySem.F.excBase_ValueError, PySem.F.store_ValueError, h1, h2⟩
  | lookup => exact ⟨_, _, _, _, PySem.F.excBase_LookupError, PySem.F.store_LookupError, h1, h2⟩
  | index => exact ⟨_, _, _, _, PySem.F.excBase_IndexError, PySem.F.store_IndexError, h1, h2⟩
structure ErF (K : PySem.W.Frag) (e : Str) (fs : List Str) : Prop where
  x : Xg K (He.ga K e)
  i : PySem.W.findIn K (.ref (He.ga K e)) "__init__" = some (some (.ref (He.ma K (He.ga K e) "__init__")))
  t : PySem.W.typeIn K (.ref (He.ma K (He.ga K e) "__init__")) = some (.type "function")
  no : ∀ f ∈ fs, PySem.W.findIn K (.ref (He.ga K e)) f = some none
theorem erB_ok {K : PySem.W.Frag} : ∀ {l : List (Str × XB × List Str)}, erB K l = true → ∀ {e : Str} {b : XB} {fs : List Str}, (e, b, fs) ∈ l → ErF K e fs
  | [], _, _, _, _, h => by cases h
  | (e0, b0, fs0) :: r, h, e, b, fs, hm => by
    obtain ⟨h1, h⟩ := He.ba h
    obtain ⟨h2, h⟩ := He.ba h
    obtain ⟨h3, h⟩ := He.ba h
    obtain ⟨h4, h5⟩ := He.ba h
    rcases List.mem_cons.mp hm with z | z
    · cases z
      exact ⟨xgB_ok h1, He.eqO_ok h2, of_decide_eq_true h3, fun f hf => He.eqO_ok (List.all_eq_true.mp h4 f hf)⟩
    · exact erB_ok h5 z
end Rg
namespace Rg
open PySem L2 RZ PyProof.Rows
theorem q_xq {X : Cx} {K : PySem.W.Frag} {q : Addr × Obj} {e : Expr} {te : TE} {pos : Pos} {f : Str} (hq : q ∈ X.pn) (hf : ∃ vs, q.2.data = .fields vs) (he : PE X e te) (h : X.K = K := by rfl) (hb : attributeBase e f X.env (eval e X.env) = eval e X.env := by rfl) : PE X (.Attribute e f pos) (tXq K q f te) := h ▸ pe_xq hq hf he hb
theorem pe_cls {X : Cx} {x : Str} {c : Addr} {p : Pos} (hg : Gl X x) (hm : X.mg x = some (.ref c)) (hdb : (x == ("__debug__" : Str)) = false := by decide) : PE X (.Name x p) (tC (.ref c)) := pe_glob hg hm (show RelV (.ref c) (.ref c) from rfl) hdb
abbrev m0 : Mt := { l := [] }
/-! ### targets of any form; a promise for each of many readings -/
section
variable {K : PySem.W.Frag} {M : Mt} {ds : DS} {te : TE} {R : D → Prop} {E : AE}
theorem run_asgG {g : TG} (h : Ev K M ds te R) (hg : ∀ d, R d → EvG K M none g d ds E.nx) : Run K M ds (tAsg te g) E := fun M' σ G H Z m s w z =>
  h M' σ G H _ m s w fun v d G1 H1 s1 w1 r1 e => hg d e M' σ G1 H1 v _ m (s.mono s1) w1 r1 fun ds2 σ2 G2 H2 n2 s2 sg2 w2 _ => z.nx ds2 σ2 G2 H2 n2 (s1.trans s2) sg2 w2
def spAny {ι : Type} (sp : ι → Sp) : Sp := fun vs H Q E => ∃ i, sp i vs H Q E
theorem fn_any {P : Program} {w : World} {mg : Str → Option Value} {base : Heap} {CX : CXT} {k : Nat} {f : Addr} {fd : FuncData} {ps : List Str} {ι : Type} {sp : ι → Sp} (h : ∀ i, FnOk P w K mg base CX k f fd ps (sp i)) : FnOk P w K mg base CX k f fd ps (spAny sp) :=
  ⟨fun vs H Q E ⟨i, q⟩ => (h i).len vs H Q E q, fun A outer s H args us vs Q E hr he hb hv ⟨i, q⟩ => (h i).run A outer s H args us vs Q E hr he hb hv q⟩
theorem ev_callI {ι : Type} {pre : ι → Ml → List D → Prop} {post : ι → List D → D → Prop} (i : ι) {ta : TA} {RA : List D → Prop} {E : XK} (ha : EvA K M ds ta RA) (h : ∀ as, RA as → (∀ M', MSub M M' → pre i M'.l as) ∧ ∀ d, post i as d → R d) :
    Ev K M ds (tCall (spAny fun i => spF K (pre i) (post i)) [] E ta) R := fun M' σ G H Q m s w q =>
  ha M' σ G H _ m s w fun vs as G1 H1 s1 w1 r1 e => ⟨i, M'.l, G1, as, w1.toWd0, by rw [List.append_nil]; exact r1, (h as e).1 M' m, fun v d G2 H2 s2 w2 r2 p2 => q v d G2 H2 (s1.trans s2) (w1.to s2 w2) r2 ((h as e).2 d p2), fun _ _ _ _ _ _ _ _ z => z.elim⟩
theorem ev_callI1 {ι : Type} {pre : ι → Ml → List D → Prop} {post : ι → List D → D → Prop} (i : ι) {ta : TA} {as : List D} {d : D} {E : XK} (ha : EvA K M ds ta (· = as)) (hp : ∀ M', MSub M M' → pre i M'.l as) (hd : ∀ r, post i as r → r = d) :
    Ev K M ds (tCall (spAny fun i => spF K (pre i) (post i)) [] E ta) (· = d) := ev_callI i ha fun _ e => by rw [e]; exact ⟨hp, hd⟩
end
/-! ### the __init__ of an own error with 0 .. 3 parameters -/
section
variable {K : PySem.W.Frag} {H : Hp} {a C : Addr} {code f1 f2 f3 : Str} {Q : VK}
theorem upd_upd {H : Hp} {p : Addr} {x y : HO} : upd (upd H p x) p y = upd H p y := by
  funext b
  by_cases h : b = p
  · subst h; rw [upd_same, upd_same]
  · rw [upd_ne h, upd_ne h, upd_ne h]
theorem upd_comm {H : Hp} {p q : Addr} {x y : HO} (h : p ≠ q) : upd (upd H p x) q y = upd (upd H q y) p x := by
  funext b
  by_cases h1 : b = p
  · subst h1; rw [upd_ne h, upd_same, upd_same]
  · rw [upd_ne h1]
    by_cases h2 : b = q
    · subst h2; rw [upd_same, upd_same]
    · rw [upd_ne h2, upd_ne h2, upd_ne h1]
/-- one field more -/
theorem st_fld {Z : Ends} {σ : L2.St} {dx : Addr} {f : Str} {j : Nat} {y : V} {fs : List (Str × V)} (T : Xc K C) (hn : PySem.W.findIn K (.ref C) f = some none) (h0 : σ[0]? = some (some (.ref a))) (hj : σ[j]? = some (some y)) (hd : dx ≠ a) (hl : fs.length ≤ 900)
    (q : Z.nx σ (upd (upd H dx (exd dx ((f, y) :: fs))) a (exo a C (some dx)))) : tXst K f (tVar 0) (tVar j) Z σ (upd (upd H dx (exd dx fs)) a (exo a C (some dx))) :=
  ⟨y, hj, .ref a, h0, a, C, rfl, T, hn, .inr ⟨dx, fs, upd_same, by rw [upd_ne hd, upd_same], hl, by
    have e : upd (upd (upd H dx (exd dx fs)) a (exo a C (some dx))) dx (exd dx ((f, y) :: fs)) = upd (upd H dx (exd dx ((f, y) :: fs))) a (exo a C (some dx)) := by
      rw [upd_comm (Ne.symm hd), upd_upd]
    rw [e]; exact q⟩⟩
theorem st_code {Z : Ends} {σ : L2.St} (T : Xc K C) (hn : PySem.W.findIn K (.ref C) "code" = some none) (h0 : σ[0]? = some (some (.ref a))) (ha : H a = some (exo a C none))
    (q : ∀ dx, H dx = none → dx ≠ a → Z.nx σ (upd (upd H dx (exd dx [(("code" : Str), V.str code)])) a (exo a C (some dx)))) : tXst K "code" (tVar 0) (tC (.str code)) Z σ H :=
  ⟨.ref a, h0, a, C, rfl, T, hn, .inl ⟨ha, q⟩⟩
theorem init0 (T : Xc K C) (ha : H a = some (exo a C none)) (q : ∀ dx, H dx = none → dx ≠ a → Q .non (upd (upd H dx (exd dx [(("code" : Str), V.str code)])) a (exo a C (some dx)))) (n0 : PySem.W.findIn K (.ref C) "code" = some none) :
    tXst K "code" (tVar 0) (tC (.str code)) { nx := fun _ H' => Q .non H', rt := Q } [some (.ref a)] H := st_code T n0 rfl ha q
theorem init1 {w1 : V} (T : Xc K C) (ha : H a = some (exo a C none)) (q : ∀ dx, H dx = none → dx ≠ a → Q .non (upd (upd H dx (exd dx [(f1, w1), (("code" : Str), V.str code)])) a (exo a C (some dx)))) (n0 : PySem.W.findIn K (.ref C) "code" = some none) (n1 : PySem.W.findIn K (.ref C) f1 = some none) :
    tSeq (tXst K "code" (tVar 0) (tC (.str code))) (tXst K f1 (tVar 0) (tVar 1)) { nx := fun _ H' => Q .non H', rt := Q } [some (.ref a), some w1] H :=
  st_code T n0 rfl ha fun dx h1 h2 => st_fld T n1 rfl rfl h2 (by simp) (q dx h1 h2)
theorem init2 {w1 w2 : V} (T : Xc K C) (ha : H a = some (exo a C none)) (q : ∀ dx, H dx = none → dx ≠ a → Q .non (upd (upd H dx (exd dx [(f2, w2), (f1, w1), (("code" : Str), V.str code)])) a (exo a C (some dx)))) (n0 : PySem.W.findIn K (.ref C) "code" = some none) (n1 : PySem.W.findIn K (.ref C) f1 = some none) (n2 : PySem.W.findIn K (.ref C) f2 = some none) :
    tSeq (tXst K "code" (tVar 0) (tC (.str code))) (tSeq (tXst K f1 (tVar 0) (tVar 1)) (tXst K f2 (tVar 0) (tVar 2))) { nx := fun _ H' => Q .non H', rt := Q } [some (.ref a), some w1, some w2] H :=
  st_code T n0 rfl ha fun dx h1 h2 => st_fld T n1 rfl rfl h2 (by simp) (st_fld T n2 rfl rfl h2 (by simp) (q dx h1 h2))
theorem init3 {w1 w2 w3 : V} (T : Xc K C) (ha : H a = some (exo a C none)) (q : ∀ dx, H dx = none → dx ≠ a → Q .non (upd (upd H dx (exd dx [(f3, w3), (f2, w2), (f1, w1), (("code" : Str), V.str code)])) a (exo a C (some dx)))) (n0 : PySem.W.findIn K (.ref C) "code" = some none) (n1 : PySem.W.findIn K (.ref C) f1 = some none) (n2 : PySem.W.findIn K (.ref C) f2 = some none) (n3 : PySem.W.findIn K (.ref C) f3 = some none) :
    tSeq (tXst K "code" (tVar 0) (tC (.str code))) (tSeq (tXst K f1 (tVar 0) (tVar 1)) (tSeq (tXst K f2 (tVar 0) (tVar 2)) (tXst K f3 (tVar 0) (tVar 3)))) { nx := fun _ H' => Q .non H', rt := Q } [some (.ref a), some w1, some w2, some w3] H :=
  st_code T n0 rfl ha fun dx h1 h2 => st_fld T n1 rfl rfl h2 (by simp) (st_fld T n2 rfl rfl h2 (by simp) (st_fld T n3 rfl rfl h2 (by simp) (q dx h1 h2)))
end
end Rg
namespace Rg
open PySem PySem.Spec L2 RZ PyProof.Rows
/-! ### cells told to a callee: tracked while it runs -/
def trkX (h : Heap) (cs : List Addr) (H : Hp) : Hp := fun b => if b ∈ cs then (h.get? b).map (ExO b) else H b
def unX (cs : List Addr) (H : Hp) : Hp := fun b => if b ∈ cs then none else H b
section
variable {P : Program} {w : World} {K : PySem.W.Frag} {mg : Str → Option Value} {base : Heap} {A : Around} {outer : List Env} {s s' : Shared} {H H' : Hp} {cs : List Addr} {h h' : Heap}
theorem trkX_in {c : Addr} {o : Obj} (hc : c ∈ cs) (e : h.get? c = some o) : trkX h cs H c = some (ExO c o) := by
  unfold trkX
  rw [if_pos hc, e]
  rfl
theorem trkX_out {b : Addr} (hb : b ∉ cs) : trkX h cs H b = H b := if_neg hb
theorem unX_in {b : Addr} (hb : b ∈ cs) : unX cs H b = none := if_pos hb
theorem unX_out {b : Addr} (hb : b ∉ cs) : unX cs H b = H b := if_neg hb
theorem exO_ok {a : Addr} {o : Obj} (e : h.get? a = some o) : ObjOk P w H h a (ExO a o) := ⟨e, ⟨o, e⟩, fun _ _ e1 st => st _ e1⟩
theorem exO_at {a : Addr} {o : Obj} (k : ObjOk P w H h a (ExO a o)) : h.get? a = some o := k.1
theorem exO_inj {a : Addr} {o o' : Obj} (e : ExO a o = ExO a o') (h0 : ∃ h : Heap, h.get? a = some o) : o = o' := by
  obtain ⟨h, q⟩ := h0
  unfold ExO at e
  have e1 : (fun h : Heap => h.get? a = some o) = fun h => h.get? a = some o' := by
    injection e
  have e2 := congrFun e1 h
  have e3 : h.get? a = some o' := e2 ▸ q
  exact Option.some.inj (q.symm.trans e3)
theorem hok_trk (x : HOk P w H h) (hn : ∀ c ∈ cs, H c = none) (ht : ∀ c ∈ cs, ∃ o, h.get? c = some o) : HOk P w (trkX h cs H) h := fun a o e => by
  by_cases ha : a ∈ cs
  · obtain ⟨ob, eo⟩ := ht a ha
    rw [trkX_in ha eo] at e
    cases e
    exact exO_ok eo
  · rw [trkX_out ha] at e
    refine (x a o e).stay (fun _ _ _ q => q) (fun b q => ?_) fun b xs q => ?_
    · rw [trkX_out fun z => by rw [hn b z] at q; cases q]
      exact q
    · rw [trkX_out fun z => by rw [hn b z] at q; cases q]
      exact q
/-- without the tracked cells -/
theorem hok_un (x : HOk P w H h) (hx : ∀ c ∈ cs, ∃ o, H c = some (ExO c o)) : HOk P w (unX cs H) h := fun a o e => by
  by_cases ha : a ∈ cs
  · rw [unX_in ha] at e
    cases e
  · rw [unX_out ha] at e
    refine (x a o e).stay (fun _ _ _ q => q) (fun b q => ?_) fun b xs q => ?_
    · rw [unX_out fun z => by obtain ⟨o', eo⟩ := hx b z; rw [eo] at q; cases q]
      exact q
    · rw [unX_out fun z => by obtain ⟨o', eo⟩ := hx b z; rw [eo] at q; cases q]
      exact q
theorem Env0.trk (e : Env0 P w K mg base A outer s H) (hn : ∀ c ∈ cs, H c = none) (ht : ∀ c ∈ cs, ∃ o, s.heap.get? c = some o) (hb : ∀ c ∈ cs, base.get? c = none) (hf : ∀ c ∈ cs, c ∉ frs outer) : Env0 P w K mg base A outer s (trkX s.heap cs H) :=
  ⟨e.frames, e.mod, fun b o q => ⟨(e.bs b o q).1, by rw [trkX_out fun z => by rw [hb b z] at q; cases q]; exact (e.bs b o q).2⟩, e.bsz, e.funs, fun b q => by rw [trkX_out fun z => hf b z q]; exact e.frf b q, hok_trk e.hok hn ht, e.bare⟩
theorem Env0.un (e : Env0 P w K mg base A outer s H) (hx : ∀ c ∈ cs, ∃ o, H c = some (ExO c o)) : Env0 P w K mg base A outer s (unX cs H) :=
  ⟨e.frames, e.mod, fun b o q => ⟨(e.bs b o q).1, by
    by_cases z : b ∈ cs
    · exact unX_in z
    · rw [unX_out z]; exact (e.bs b o q).2⟩, e.bsz, e.funs, fun b q => by
    by_cases z : b ∈ cs
    · exact unX_in z
    · rw [unX_out z]; exact e.frf b q, hok_un e.hok hx, e.bare⟩
/-- behind the callee: the cells are as they were -/
theorem un_trk {fs : List Addr} (u : Un fs [] (trkX h cs H) H' h h') (k : HOk P w H' h') (hn : ∀ c ∈ cs, H c = none) (ht : ∀ c ∈ cs, ∃ o, h.get? c = some o) (hf : ∀ c ∈ cs, c ∉ fs) (hs : ∀ c ∈ cs, H' c = trkX h cs H c) : Un fs [] H (unX cs H') h h' where
  keep := fun b o e n hb hx => by
    by_cases z : b ∈ cs
    · have q := hs b z
      rw [trkX_in z e] at q
      exact exO_at (k b _ q)
    · exact u.keep b o e (by rw [trkX_out z]; exact n) hb hx
  slot := fun b o e n hb hx => u.slot b o e (by rw [trkX_out fun z => hf b z hb]; exact n) hb hx
  free := fun b o e n hx => by
    by_cases z : b ∈ cs
    · exact unX_in z
    · rw [unX_out z]; exact u.free b o e (by rw [trkX_out z]; exact n) hx
  there := u.there
  tups := fun b xs e => by
    have z : b ∉ cs := fun z => by rw [hn b z] at e; cases e
    rw [unX_out z]; exact u.tups b xs (by rw [trkX_out z]; exact e)
  frzs := fun b o x e => by
    have z : b ∉ cs := fun z => by rw [hn b z] at e; cases e
    rw [unX_out z]; exact u.frzs b o x (by rw [trkX_out z]; exact e)
  tbls := fun b ps e => by
    have z : b ∉ cs := fun z => by rw [hn b z] at e; cases e
    rw [unX_out z]; exact u.tbls b ps (by rw [trkX_out z]; exact e)
/-- a closure's run, from its cells untracked back to tracked -/
def reX (cs : List Addr) (H0 H : Hp) : Hp := fun b => if b ∈ cs then H0 b else H b
theorem reX_in {H0 : Hp} {b : Addr} (hb : b ∈ cs) : reX cs H0 H b = H0 b := if_pos hb
theorem reX_out {H0 : Hp} {b : Addr} (hb : b ∉ cs) : reX cs H0 H b = H b := if_neg hb
theorem hok_re {H0 : Hp} (x0 : HOk P w H0 h) (x : HOk P w H h') (hx : ∀ c ∈ cs, ∃ o, H0 c = some (ExO c o)) (hn : ∀ c ∈ cs, H c = none) (hk : ∀ c ∈ cs, ∀ o, h.get? c = some o → h'.get? c = some o) : HOk P w (reX cs H0 H) h' := fun a o e => by
  by_cases ha : a ∈ cs
  · rw [reX_in ha] at e
    obtain ⟨ob, eo⟩ := hx a ha
    rw [eo] at e
    cases e
    exact exO_ok (hk a ha ob (exO_at (x0 a _ eo)))
  · rw [reX_out ha] at e
    refine (x a o e).stay (fun _ _ _ q => q) (fun b q => ?_) fun b xs q => ?_
    · rw [reX_out fun z => by rw [hn b z] at q; cases q]
      exact q
    · rw [reX_out fun z => by rw [hn b z] at q; cases q]
      exact q
theorem un_re {fs : List Addr} (u : Un fs [] (unX cs H) H' h h') (x0 : HOk P w H h) (hx : ∀ c ∈ cs, ∃ o, H c = some (ExO c o)) (hf : ∀ c ∈ cs, c ∉ fs) : Un fs [] H (reX cs H H') h h' := by
  have old : ∀ {b : Addr} {u : HO}, H b = some u → (∀ o, u ≠ ExO b o) → b ∉ cs := fun {b u} e ne z => by
    obtain ⟨o, eo⟩ := hx b z
    rw [eo] at e
    exact ne o (Option.some.inj e).symm
  refine ⟨fun b o e n hb hx' => ?_, fun b o e n hb hx' => ?_, fun b o e n hx' => ?_, u.there, fun b xs e => ?_, fun b o y e => ?_, fun b ps e => ?_⟩
  · have z : b ∉ cs := fun z => by obtain ⟨o', eo⟩ := hx b z; rw [eo] at n; cases n
    exact u.keep b o e (by rw [unX_out z]; exact n) hb hx'
  · have z : b ∉ cs := fun z => by obtain ⟨o', eo⟩ := hx b z; rw [eo] at n; cases n
    exact u.slot b o e (by rw [unX_out z]; exact n) hb hx'
  · have z : b ∉ cs := fun z => by obtain ⟨o', eo⟩ := hx b z; rw [eo] at n; cases n
    rw [reX_out z]; exact u.free b o e (by rw [unX_out z]; exact n) hx'
  · have z := old e fun o q => by cases q
    rw [reX_out z]; exact u.tups b xs (by rw [unX_out z]; exact e)
  · have z := old e fun o q => by cases q
    rw [reX_out z]; exact u.frzs b o y (by rw [unX_out z]; exact e)
  · have z := old e fun o q => by cases q
    rw [reX_out z]; exact u.tbls b ps (by rw [unX_out z]; exact e)
/-- where the cells were tracked, they stand unchanged behind what left them untracked -/
theorem cells_keep {fs : List Addr} (u : Un fs [] (unX cs H) H' h h') (hf : ∀ c ∈ cs, c ∉ fs) : ∀ c ∈ cs, ∀ o, h.get? c = some o → h'.get? c = some o := fun c hc o e => u.keep c o e (unX_in hc) (hf c hc) (by simp)
theorem ce_re {Q : VK} {u : Value} (x0 : HOk P w H s.heap) (hx : ∀ c ∈ cs, ∃ o, H c = some (ExO c o)) (hf : ∀ c ∈ cs, c ∉ frs outer) (h : CE outer P w (unX cs H) s (fun v H' => (∀ c ∈ cs, H' c = none) → Q v (reX cs H H')) u s') : CE outer P w H s Q u s' := by
  obtain ⟨v, H', os, bare, un, hok, r, q⟩ := h
  have hn : ∀ c ∈ cs, H' c = none := fun c hc => by
    obtain ⟨o, eo⟩ := hx c hc
    exact un.free c o (exO_at (x0 c _ eo)) (unX_in hc) (by simp)
  exact ⟨v, reX cs H H', os, bare, un_re un x0 hx hf, hok_re x0 hok hx hn (cells_keep un hf), r, q hn⟩
theorem cx_re {E : XK} {u : Value} (x0 : HOk P w H s.heap) (hx : ∀ c ∈ cs, ∃ o, H c = some (ExO c o)) (hf : ∀ c ∈ cs, c ∉ frs outer) (h : L2.CX P w outer (unX cs H) s (fun cls d H' => (∀ c ∈ cs, H' c = none) → E cls d (reX cs H H')) u s') : L2.CX P w outer H s E u s' := by
  obtain ⟨a, B, H', cls, d, e, fl, hok, ub, ha, os, bare, q⟩ := h
  have at_ : ∀ c ∈ cs, ∃ o, s.heap.get? c = some o := fun c hc => by
    obtain ⟨o, eo⟩ := hx c hc
    exact ⟨o, exO_at (x0 c _ eo)⟩
  have kp : ∀ c ∈ cs, ∀ o, s.heap.get? c = some o → B.get? c = some o := fun c hc o eo => ub.keep c o eo (unX_in hc) (hf c hc)
  have hn : ∀ c ∈ cs, H' c = none := fun c hc => by
    obtain ⟨o, eo⟩ := at_ c hc
    exact ub.free c o eo (unX_in hc)
  have na : a ∉ cs := fun z => by
    obtain ⟨o, eo⟩ := at_ a z
    have := kp a z o eo
    rw [fl.2.1] at this
    cases this
  have old : ∀ {b : Addr} {u : HO}, H b = some u → (∀ o, u ≠ ExO b o) → b ∉ cs := fun {b u} e ne z => by
    obtain ⟨o, eo⟩ := hx b z
    rw [eo] at e
    exact ne o (Option.some.inj e).symm
  refine ⟨a, B, reX cs H H', cls, d, e, fl, hok_re x0 hok hx hn kp, ⟨fun b o e n hb => ?_, ub.slot, fun b o e n => ?_, ub.there, fun b xs e => ?_, fun b o y e => ?_, fun b ps e => ?_⟩, by rw [reX_out na]; exact ha, os, bare, q hn⟩
  · have z : b ∉ cs := fun z => by obtain ⟨o', eo⟩ := hx b z; rw [eo] at n; cases n
    exact ub.keep b o e (by rw [unX_out z]; exact n) hb
  · have z : b ∉ cs := fun z => by obtain ⟨o', eo⟩ := hx b z; rw [eo] at n; cases n
    rw [reX_out z]; exact ub.free b o e (by rw [unX_out z]; exact n)
  · have z := old e fun o q => by cases q
    rw [reX_out z]; exact ub.tups b xs (by rw [unX_out z]; exact e)
  · have z := old e fun o q => by cases q
    rw [reX_out z]; exact ub.frzs b o y (by rw [unX_out z]; exact e)
  · have z := old e fun o q => by cases q
    rw [reX_out z]; exact ub.tbls b ps (by rw [unX_out z]; exact e)
end
end Rg
namespace Rg
open PySem PySem.Spec L2 RZ PyProof.Rows
/-! ### a call whose callee may call closures of this def: the cells ys are told -/
def cA (cl : List (Str × Addr)) (y : Str) : Addr := (cl.lookup y).getD 0
def csOf (cl : List (Str × Addr)) (ys : List (Str × Nat)) : List Addr := ys.map fun y => cA cl y.1
def tCallT (cl : List (Str × Addr)) (ys : List (Str × Nat)) (sp : Sp) (t : TA) : TE := fun σ H Q => t σ H fun vs H1 =>
  (∀ y ∈ ys, ∃ v, σ[y.2]? = some (some v)) ∧ ∀ (H2 : Hp) (obs : Addr → Obj), (∀ c ∈ csOf cl ys, H1 c = none) → (csOf cl ys).Nodup → (∀ b, b ∉ csOf cl ys → H2 b = H1 b) →
    (∀ y ∈ ys, ∃ u v, H2 (cA cl y.1) = some (ExO (cA cl y.1) (obs (cA cl y.1))) ∧ (obs (cA cl y.1)).data = .cell (some u) ∧ RelV v u ∧ σ[y.2]? = some (some v)) → sp vs H2 (fun v H' => (∀ c ∈ csOf cl ys, H' c = H2 c) ∧ Q v (unX (csOf cl ys) H')) E0
theorem nodup_map {α β : Type} {f : α → β} : ∀ {l : List α}, l.Nodup → (∀ x ∈ l, ∀ y ∈ l, f x = f y → x = y) → (l.map f).Nodup
  | [], _, _ => List.nodup_nil
  | a :: l, h, k => by
    rw [List.map_cons, List.nodup_cons]
    have h' := List.nodup_cons.mp h
    refine ⟨fun hm => ?_, nodup_map h'.2 fun x hx y hy e => k x (List.mem_cons_of_mem _ hx) y (List.mem_cons_of_mem _ hy) e⟩
    obtain ⟨b, hb, e⟩ := List.mem_map.mp hm
    have := k b (List.mem_cons_of_mem _ hb) a List.mem_cons_self e
    exact h'.1 (this ▸ hb)
theorem pe_callT {X : Cx} {k : Nat} {f : Addr} {fd : FuncData} {ps : List Str} {sp : Sp} {x : Str} {p pos : Pos} {e : Expr} {es : List Expr} {t : TA} {ys : List (Str × Nat)} (F : FnOk X.prog X.w X.K X.mg X.base CX0 k f fd ps sp) (hr : Room k X.A) (hg : Gl X x) (hm : X.mg x = some (.ref f)) (hk : PySem.W.keepIn X.K (.ref f) = true)
    (hb : Binds X.K fd ps []) (hys : ∀ y ∈ ys, X.N[y.2]? = some y.1 ∧ X.env.scope.names.lookup y.1 = some .cell ∧ X.fn y.1 = true) (nd : (ys.map (·.1)).Nodup) (ha : PA X (e :: es) t) (hdb : (x == ("__debug__" : Str)) = false := by decide)
    (he : starEach (e :: es) X.env = (false, eval e X.env) :: starEach es X.env := by rfl) (hpl : (backTo pos (starEach es X.env)).any (·.1) = false := by rfl) :
    PE X (.Call (.Name x p) (e :: es) [] pos) (tCallT X.env.cells ys sp t) := by
  refine ⟨fun pins s σ H Q I h => ?_⟩
  refine wpAny_Call_Name_kw (ld_glob I hg hm ?_ hdb)
  refine PySem.W.callWith_K (h₀ := X.base) I.ok.mod.kin hk (thn (ha.run pos pins s σ H _ I h) fun us s1 ⟨vs, H1, I1, r, q⟩ => ⟨I1.kIn, ?_⟩) he hpl
  obtain ⟨hσ, q⟩ := q
  have fact : ∀ y ∈ ys, ∃ (u : Value) (v : V) (o : Obj), X.env.cells.lookup y.1 = some (cA X.env.cells y.1) ∧ s1.heap.get? (cA X.env.cells y.1) = some o ∧ o.data = .cell (some u) ∧ RelV v u ∧ σ[y.2]? = some (some v) := fun y hy => by
    obtain ⟨h1, h2, h3⟩ := hys y hy
    obtain ⟨v, hv⟩ := hσ y hy
    obtain ⟨m, hn, hl⟩ := I1.loc
    obtain ⟨u, ru, lk⟩ := hl y.2 y.1 v h1 hv (.inr (.inl h2))
    rcases lk with ⟨z, _⟩ | ⟨_, c, e1, o, e2, e3⟩
    · have z : X.env.scope.names.lookup y.1 = some .local := z
      rw [h2] at z; cases z
    · have ec : cA X.env.cells y.1 = c := by unfold cA; rw [e1]; rfl
      rw [ec]
      exact ⟨u, v, o, e1, e2, e3, ru, hv⟩
  have inC : ∀ c ∈ csOf X.env.cells ys, ∃ y ∈ ys, cA X.env.cells y.1 = c := fun c hc => by
    obtain ⟨y, hy, e⟩ := List.mem_map.mp hc
    exact ⟨y, hy, e⟩
  have hn : ∀ c ∈ csOf X.env.cells ys, H1 c = none := fun c hc => by
    obtain ⟨y, hy, e⟩ := inC c hc
    obtain ⟨u, v, o, e1, _⟩ := fact y hy
    rw [← e]; exact I1.freeC _ _ e1
  have ht : ∀ c ∈ csOf X.env.cells ys, ∃ o, s1.heap.get? c = some o := fun c hc => by
    obtain ⟨y, hy, e⟩ := inC c hc
    obtain ⟨u, v, o, _, e2, _⟩ := fact y hy
    rw [← e]; exact ⟨o, e2⟩
  have hsz : ∀ c ∈ csOf X.env.cells ys, X.s_0.heap.objs.size ≤ c := fun c hc => by
    obtain ⟨y, hy, e⟩ := inC c hc
    obtain ⟨u, v, o, e1, _⟩ := fact y hy
    rw [← e]; exact I1.ok.cab _ _ (hys y hy).2.2 e1
  have hbs : ∀ c ∈ csOf X.env.cells ys, X.base.get? c = none := fun c hc => Heap.get?_none_of_le (Nat.le_trans I1.ok.bsz (hsz c hc))
  have hfr : ∀ c ∈ csOf X.env.cells ys, c ∉ frs X.stack := fun c hc z => by
    rcases List.mem_cons.mp (I1.stkSub c z) with q | q
    · obtain ⟨y, hy, e⟩ := inC c hc
      obtain ⟨u, v, o, e1, _⟩ := fact y hy
      exact I1.cne _ _ e1 (e.trans q)
    · obtain ⟨_, o, ho, _⟩ := I1.ok.funs.mem q
      exact absurd (Nat.lt_of_lt_of_le (Heap.lt_size ho) (hsz c hc)) (Nat.lt_irrefl _)
  have ndc : (csOf X.env.cells ys).Nodup := by
    have e : csOf X.env.cells ys = (ys.map (·.1)).map (cA X.env.cells) := by unfold csOf; rw [List.map_map]; rfl
    rw [e]
    refine nodup_map nd fun a ha b hb eab => ?_
    obtain ⟨y, hy, rfl⟩ := List.mem_map.mp ha
    obtain ⟨z, hz, rfl⟩ := List.mem_map.mp hb
    obtain ⟨_, _, _, e1, _⟩ := fact y hy
    obtain ⟨_, _, _, e2, _⟩ := fact z hz
    exact I1.ok.inj _ _ _ e1 (eab ▸ e2)
  have hsp := q (trkX s1.heap (csOf X.env.cells ys) H1) (fun c => (s1.heap.get? c).getD { cls := .none, data := .plain }) hn ndc (fun b hb => trkX_out hb) fun y hy => by
    obtain ⟨u, v, o, e1, e2, e3, e4, e5⟩ := fact y hy
    refine ⟨u, v, ?_, ?_, e4, e5⟩
    · have hc : cA X.env.cells y.1 ∈ csOf X.env.cells ys := List.mem_map.mpr ⟨y, hy, rfl⟩
      rw [trkX_in hc e2, e2]
      rfl
    · rw [e2]
      exact e3
  have hl : (us ++ []).length = ps.length := by rw [List.append_nil, ← r.length]; exact F.len _ _ _ _ hsp
  have bt := hb s1 us I1.kIn hl
  rw [List.append_nil] at bt
  refine wpAny_call (codeAny_mono (F.run X.A X.stack s1 (trkX s1.heap (csOf X.env.cells ys) H1) ⟨us, []⟩ us vs _ _ hr (Env0.trk I1.env0 hn ht hbs hfr) bt r hsp) fun r s' hq => ?_)
  cases r with
  | error e => exact (show False from hq).elim
  | ok fl =>
    cases fl with
    | next => exact False.elim hq
    | brk => exact False.elim hq
    | cont => exact False.elim hq
    | ret u =>
      obtain ⟨v, H', os, bare, un, hok, rv, hs, qv⟩ := hq
      refine I1.after ⟨v, unX (csOf X.env.cells ys) H', os, bare, un_trk un hok hn ht hfr hs, hok_un hok (fun c hc => ?_), rv, qv⟩
      obtain ⟨o, eo⟩ := ht c hc
      exact ⟨o, by rw [hs c hc, trkX_in hc eo]⟩
/-! told of the data -/
def CellP (K : PySem.W.Frag) (c : Addr) (ob : Obj) (d : D) : Hp → HO → Prop := fun G o => o = ExO c ob ∧ ∃ u v, ob.data = .cell (some u) ∧ RelV v u ∧ Rp K G v d
theorem CellP.mono {K : PySem.W.Frag} {c : Addr} {ob : Obj} {d : D} : ∀ G1 G2 o, Same G1 G2 → CellP K c ob d G1 o → CellP K c ob d G2 o := fun _ _ _ s ⟨e, u, v, a, b, r⟩ => ⟨e, u, v, a, b, r.mono s⟩
def dAt (ds : DS) (i : Nat) : D := ((ds[i]?).getD none).getD .non
def cellsM (K : PySem.W.Frag) (cl : List (Str × Addr)) (ys : List (Str × Nat)) (ds : DS) (obs : Addr → Obj) : Ml := ys.map fun y => (cA cl y.1, CellP K (cA cl y.1) (obs (cA cl y.1)) (dAt ds y.2))
section
variable {K : PySem.W.Frag} {M : Mt} {ds : DS} {R : D → Prop} {pre : Ml → List D → Prop} {post : List D → D → Prop}
theorem ev_callT {cl : List (Str × Addr)} {ys : List (Str × Nat)} {ta : TA} {RA : List D → Prop} (hy : ∀ y ∈ ys, ∃ d, ds[y.2]? = some (some d)) (ha : EvA K M ds ta RA)
    (h : ∀ as, RA as → (∀ M' obs, MSub M M' → pre (cellsM K cl ys ds obs ++ M'.l) as) ∧ ∀ d, post as d → R d) : Ev K M ds (tCallT cl ys (spF K pre post) ta) R := fun M' σ G H Q m s w q =>
  ha M' σ G H _ m s w fun vs as G1 H1 s1 w1 r1 e1 => by
    have sg := s.mono s1
    refine ⟨fun y hy' => ?_, fun H2 obs hn nd hout hin => ?_⟩
    · obtain ⟨d, hd⟩ := hy y hy'
      obtain ⟨v, e, _⟩ := sg.at_ _ _ hd
      exact ⟨v, e⟩
    have inC : ∀ {c : Addr}, c ∈ csOf cl ys → ∃ y ∈ ys, cA cl y.1 = c := fun {c} hc => by
      obtain ⟨y, hy, e⟩ := List.mem_map.mp hc
      exact ⟨y, hy, e⟩
    have mC : ∀ {p : Addr × (Hp → HO → Prop)}, p ∈ cellsM K cl ys ds obs → ∃ y ∈ ys, p = (cA cl y.1, CellP K (cA cl y.1) (obs (cA cl y.1)) (dAt ds y.2)) := fun {p} hp => by
      obtain ⟨y, hy, e⟩ := List.mem_map.mp hp
      exact ⟨y, hy, e.symm⟩
    have outM : ∀ p ∈ M'.l, p.1 ∉ csOf cl ys := fun p hp z => by
      obtain ⟨_, o, e, _⟩ := w1.mt p hp
      rw [hn _ z] at e; cases e
    have W2 : Wd0 (cellsM K cl ys ds obs ++ M'.l) G1 H2 := by
      refine ⟨fun b u e => ?_, fun p hp => ?_, fun p hp => ?_, ?_⟩
      · have e' := w1.sub b u e
        rw [hout b fun z => by rw [hn b z] at e'; cases e']
        exact e'
      · rcases List.mem_append.mp hp with hp | hp
        · obtain ⟨y, hy', rfl⟩ := mC hp
          obtain ⟨u, v, a1, a2, a3, a4⟩ := hin y hy'
          obtain ⟨d, hd⟩ := hy y hy'
          obtain ⟨v', e', r'⟩ := sg.at_ _ _ hd
          rw [a4] at e'
          cases e'
          refine ⟨w1.free (hn _ (List.mem_map.mpr ⟨y, hy', rfl⟩)), _, a1, rfl, u, v, a2, a3, ?_⟩
          have ed : dAt ds y.2 = d := by unfold dAt; rw [hd]; rfl
          rw [ed]; exact r'
        · obtain ⟨g, o, e, f⟩ := w1.mt p hp
          exact ⟨g, o, by rw [hout _ (outM p hp)]; exact e, f⟩
      · rcases List.mem_append.mp hp with hp | hp
        · obtain ⟨y, hy', rfl⟩ := mC hp
          exact CellP.mono
        · exact w1.mono p hp
      · rw [List.map_append]
        refine List.nodup_append.mpr ⟨?_, w1.nd, fun a ha b hb e => ?_⟩
        · have e : (cellsM K cl ys ds obs).map (·.1) = csOf cl ys := by unfold cellsM csOf; rw [List.map_map]; rfl
          rw [e]; exact nd
        · obtain ⟨p, hp, rfl⟩ := List.mem_map.mp ha
          obtain ⟨p2, hp2, rfl⟩ := List.mem_map.mp hb
          obtain ⟨y, hy', rfl⟩ := mC hp
          exact outM p2 hp2 (e ▸ List.mem_map.mpr ⟨y, hy', rfl⟩)
    refine ⟨_, G1, as, W2, r1, (h as e1).1 M' obs m, fun v d G2 H3 s2 w2 r2 p2 => ⟨fun c hc => ?_, ?_⟩, fun _ _ _ _ _ _ _ _ z => z.elim⟩
    · obtain ⟨y, hy', rfl⟩ := inC hc
      obtain ⟨_, o, e, eo, _⟩ := w2.mt (cA cl y.1, CellP K (cA cl y.1) (obs (cA cl y.1)) (dAt ds y.2)) (List.mem_append_left _ (List.mem_map.mpr ⟨y, hy', rfl⟩))
      obtain ⟨u, v, a1, _⟩ := hin y hy'
      rw [a1]
      rw [eo] at e
      exact e
    · have gn : ∀ c ∈ csOf cl ys, G2 c = none := fun c hc => by
        obtain ⟨y, hy', rfl⟩ := inC hc
        exact (w2.mt (cA cl y.1, CellP K (cA cl y.1) (obs (cA cl y.1)) (dAt ds y.2)) (List.mem_append_left _ (List.mem_map.mpr ⟨y, hy', rfl⟩))).1
      have W3 : Wd0 M'.l G2 (unX (csOf cl ys) H3) := by
        refine ⟨fun b u e => ?_, fun p hp => ?_, w1.mono, w1.nd⟩
        · rw [unX_out fun z => by rw [gn b z] at e; cases e]
          exact w2.sub b u e
        · obtain ⟨g, o, e, f⟩ := w2.mt p (List.mem_append_right _ hp)
          exact ⟨g, o, by rw [unX_out (outM p hp)]; exact e, f⟩
      exact q v d G2 _ (s1.trans s2) (w1.to s2 W3) r2 ((h as e1).2 d p2)
end
end Rg
namespace Rg
open PySem PySem.Spec L2 RZ PyProof.Rows
/-! ### a closure's run: its cells are told by the heap -/
abbrev lEnv (L : Lm) (loc f : Addr) : Env := PySem.W.envX L.qual L.scope loc f (.ref L.c) L.clos
def lcx (P : Program) (w : World) (K : PySem.W.Frag) (mg : Str → Option Value) (base : Heap) (N : List Str) (L : Lm) (A : Around) (outer : List Env) (s : Shared) (H : Hp) (E : XK) (f : Addr) : Cx where
  prog := P
  w := w
  K := K
  mg := mg
  base := base
  A := A.deeper (lEnv L s.heap.objs.size f)
  N := N
  s_0 := s
  H_0 := H
  env := lEnv L s.heap.objs.size f
  outer := outer
  stack := lEnv L s.heap.objs.size f :: outer
  ex := []
  fn := fun _ => false
  calm := true
  pn := []
  xe := fun e s' => wpAny (model P w) (A.deeper (lEnv L s.heap.objs.size f)) (leaving (lEnv L s.heap.objs.size f) e) (fun _ s'' => L2.CX P w outer H s E e s'') (fun e' s'' => L2.CX P w outer H s E e' s'') s'
/-- a lambda's names: free ones, globals, and a parameter that the maker does not have -/
structure LamS3 (N : List Str) (scope : Scope) : Prop where
  kind : scope.kind = .function
  co : scope.isCoroutine = false
  gen : scope.isGenerator = false
  own : ∀ y ∈ scope.names, y.2 ≠ .cell
  loc : ∀ y ∈ scope.names, y.2 = .local → y.1 ∉ N
def lamS3B (N : List Str) (scope : Scope) : Bool :=
  decide (scope.kind = .function) && !scope.isCoroutine && !scope.isGenerator && scope.names.all fun y => !decide (y.2 = .cell) && (!decide (y.2 = .local) || !decide (y.1 ∈ N))
theorem lamS3_by {N : List Str} {scope : Scope} (h : lamS3B N scope = true) : LamS3 N scope := by
  unfold lamS3B at h
  simp only [Bool.and_eq_true, Bool.or_eq_true, Bool.not_eq_true', decide_eq_true_eq, decide_eq_false_iff_not, List.all_eq_true] at h
  obtain ⟨⟨⟨h1, h2⟩, h3⟩, h4⟩ := h
  refine ⟨h1, h2, h3, fun y hy => (h4 y hy).1, fun y hy e => ?_⟩
  rcases (h4 y hy).2 with z | z
  · exact absurd e z
  · exact z
/-- the cells of a closure, each with its name -/
structure CloOk (scope : Scope) (clos : List (Str × Addr)) : Prop where
  inj : ∀ x y c, clos.lookup x = some c → clos.lookup y = some c → x = y
  has : ∀ y ∈ scope.names, y.2 = .free → ∃ c, clos.lookup y.1 = some c
  look : ∀ p ∈ clos, clos.lookup p.1 = some p.2
section
variable {P : Program} {w : World} {K : PySem.W.Frag} {mg : Str → Option Value} {base : Heap} {A : Around} {outer : List Env} {s : Shared} {H : Hp} {N : List Str} {L : Lm} {f : Addr} {E : XK} {σ : L2.St}
theorem lam_start3 {h₁ : Heap} {tk : Nat} {m : Str → Option Value} (S : LamS3 N L.scope) (C : CloOk L.scope L.clos) (e0 : Env0 P w K mg base A outer s H) (hd : A.handled = none) (hlen : σ.length = N.length)
    (hc : ∀ y c, L.clos.lookup y = some c → H c = none ∧ ∃ v, s.heap.IsCell c v) (hσ : ∀ (i : Nat) y v, N[i]? = some y → σ[i]? = some (some v) → ∀ c, L.clos.lookup y = some c → ∃ u, RelV v u ∧ s.heap.IsCell c (some u))
    (hns : h₁.Ns s.heap.objs.size m) (kp : ∀ b o, s.heap.get? b = some o → h₁.get? b = some o) :
    Inv (lcx P w K mg base N L A outer s H E f) [] σ H { s with heap := h₁, toks := tk } := by
  have noA : ∀ b : Addr, b ∉ (lcx P w K mg base N L A outer s H E f).ex := fun b z => absurd (show b ∈ ([] : List Addr) from z) (by simp)
  have look : ∀ {y}, L.scope.names.lookup y = some .free → ∃ c, L.clos.lookup y = some c := fun {y} hl => C.has (y, .free) (PySem.mem_of_lookup hl) rfl
  refine ⟨⟨e0.mod, S.kind, rfl, rfl, Nat.le_refl _, C.inj, fun y hy => ?_, fun y c z _ => ?_, fun _ => hd, Around.frames_deeper e0.frames, .inr ⟨rfl, rfl⟩, fun b z => absurd z (noA b), e0.bs, e0.bsz, fun b _ _ => noA b,
      fun b z => absurd z (noA b), e0.funs, e0.frf⟩,
    rfl, e0.bare, Un.kept kp, ⟨_, hns, fun i y v e1 e2 e3 => ?_⟩, fun y c e => ?_, e0.hok.fresh (Nat.le_refl _), fun y c e => (hc y c e).1, fun q hq => absurd (show q ∈ ([] : List (Addr × Obj)) ++ [] from hq) (by simp), e0.hok.kept kp, hlen⟩
  · have hy : L.scope.names.lookup y = some .cell ∨ L.scope.names.lookup y = some .free := hy
    rcases hy with hy | hy
    · exact absurd rfl (S.own _ (PySem.mem_of_lookup hy))
    · exact look hy
  · have z : false = true := z
    cases z
  · have e3 : Vis L.scope y := e3
    rcases e3 with k | k | k
    · exact absurd (List.mem_of_getElem? e1) (S.loc _ (PySem.mem_of_lookup k) rfl)
    · exact absurd rfl (S.own _ (PySem.mem_of_lookup k))
    · obtain ⟨c2, h2⟩ := look k
      obtain ⟨u, ru, o, ho, hd'⟩ := hσ i y v e1 e2 c2 h2
      exact ⟨u, ru, .inr ⟨.inr k, c2, h2, o, kp _ _ ho, hd'⟩⟩
  · obtain ⟨_, v, o, ho, hd'⟩ := hc y c e
    exact ⟨v, o, kp _ _ ho, hd'⟩
/-- how a lambda's parameters are bound in a call without arguments -/
def BindL (params : Arguments) : Option Str → Prop
  | none => ∀ (q : Str) (body : Expr) (scope : Scope) (cl : List (Str × Addr)) (doc pm cv ct : Value), bindArgs (PySem.W.kdv_fn "<lambda>" q params (.expr body) scope cl .none doc pm cv ct) ⟨[], []⟩ = pure []
  | some n => ∀ (q : Str) (body : Expr) (scope : Scope) (cl : List (Str × Addr)) (d : Addr) (doc pm cv ct : Value), ∃ k : Option (Array Value) → Sem (List (Str × Value)), bindArgs (PySem.W.kdv_fn "<lambda>" q params (.expr body) scope cl (.ref d) doc pm cv ct) ⟨[], []⟩ = seqItems? (.ref d) >>= k ∧ ∀ u : Value, k (some #[u]) = pure [(n, u)]
structure BindOk (L : Lm) (nm : Option Str) : Prop where
  b : BindL L.params nm
  d : L.dt.isSome = nm.isSome
  n : ∀ n, nm = some n → L.scope.names.lookup n = some .local
theorem binds_lam {nm : Option Str} (B : BindOk L nm) (hk : HOk P w H s.heap) (hd : ∀ d, L.dt = some d → H d = some (.tup [.int 0])) : ∃ binds, BindsTo s L.fd ⟨[], []⟩ binds ∧ ∀ y ∈ binds, L.scope.names.lookup y.1 = some .local := by
  obtain ⟨b, d, n⟩ := B
  cases nm with
  | none =>
    cases e : L.dt with
    | some z => rw [e] at d; cases d
    | none =>
      refine ⟨[], .of_eq ?_, fun y hy => absurd hy (by simp)⟩
      have := b L.qual L.body L.scope L.clos L.doc L.pm (.ref L.c) L.ct
      unfold Lm.fd Lm.dV
      rw [e]
      exact this
  | some nm =>
    cases e : L.dt with
    | none => rw [e] at d; cases d
    | some z =>
      obtain ⟨_, its, r, o, ho, hc, k0, hd'⟩ := hk z _ (hd z e)
      obtain ⟨k, h1, h2⟩ := b L.qual L.body L.scope L.clos z L.doc L.pm (.ref L.c) L.ct
      cases r with
      | cons r1 r2 =>
        cases r2
        rename_i u
        refine ⟨[(nm, u)], BindsTo.of_defaults (T := z) (items := #[u]) (k := k) ?_ ho hd' ?_ (h2 u), fun y hy => ?_⟩
        · unfold Lm.fd Lm.dV
          rw [e]
        · unfold Lm.fd Lm.dV
          rw [e]
          exact h1
        · rw [List.mem_singleton.mp hy]
          exact n nm rfl
theorem lam_run {k : Nat} {Q : VK} {tb : TE} {nm : Option Str} (hr : Room (k + 1) A) (e0 : Env0 P w K mg base A outer s H) (hf : H f = some (ExO f L.obj)) (hcd : H L.c = some (LamX.CodeO L.c L.qual)) (hdt : ∀ d, L.dt = some d → H d = some (.tup [.int 0])) (S : LamS3 N L.scope) (C : CloOk L.scope L.clos) (B : BindOk L nm)
    (hlen : σ.length = N.length) (hc : ∀ y c, L.clos.lookup y = some c → ∃ o u, H c = some (ExO c o) ∧ o.data = .cell (some u)) (hσ : ∀ (i : Nat) y v, N[i]? = some y → σ[i]? = some (some v) → ∀ c, L.clos.lookup y = some c → ∃ o u, RelV v u ∧ H c = some (ExO c o) ∧ o.data = .cell (some u))
    (hbody : Room k (A.deeper (lEnv L s.heap.objs.size f)) → PE (lcx P w K mg base N L A outer s (unX (L.clos.map (·.2)) H) (fun cls d H' => (∀ c ∈ L.clos.map (·.2), H' c = none) → E cls d (reX (L.clos.map (·.2)) H H')) f) L.body tb)
    (ht : tb σ (unX (L.clos.map (·.2)) H) fun v H' => (∀ c ∈ L.clos.map (·.2), H' c = none) → Q v (reX (L.clos.map (·.2)) H H')) :
    codeAny (model P w) A (.call (.ref f) ⟨[], []⟩) (CR (L2.CX P w) outer P w H s Q E) s := by
  have of1 : s.heap.get? f = some L.obj := exO_at (e0.hok f _ hf)
  obtain ⟨⟨oc, vs, t, hoc, hdc, hvc⟩, _, _⟩ := e0.hok L.c _ hcd
  have lim : s.heap.NoLimit := e0.mod.nolimit.keeps fun b o e => (e0.bs b o e).1
  have inC : ∀ c ∈ L.clos.map (·.2), ∃ y, L.clos.lookup y = some c := fun c h => by
    obtain ⟨p, hp, e⟩ := List.mem_map.mp h
    exact ⟨p.1, e ▸ C.look p hp⟩
  have hx : ∀ c ∈ L.clos.map (·.2), ∃ o, H c = some (ExO c o) := fun c h => by
    obtain ⟨y, e⟩ := inC c h
    obtain ⟨o, _, e1, _⟩ := hc y c e
    exact ⟨o, e1⟩
  have hfr : ∀ c ∈ L.clos.map (·.2), c ∉ frs outer := fun c h z => by
    obtain ⟨o, e⟩ := hx c h
    rw [e0.frf c z] at e; cases e
  have mem : ∀ {y c}, L.clos.lookup y = some c → c ∈ L.clos.map (·.2) := fun {y c} e => List.mem_map.mpr ⟨(y, c), PySem.mem_of_lookup e, rfl⟩
  obtain ⟨binds, hb, hbl⟩ := binds_lam (s := s) B e0.hok hdt
  refine PySem.W.kla_callFunE hr.depth of1 rfl S.co S.gen rfl ⟨L.c, oc, vs, t, rfl, hoc, hdc, hvc⟩ (hb _ _ _ _ ?_)
  refine wpAny_newFunctionEnv S.own hbl (fun h₁ hns hsb => ⟨lim.fresh _ hsb, ?_⟩) S.kind
  show codeAny _ _ (.expr L.body (lEnv L s.heap.objs.size f)) _ _
  have kp : ∀ b o, s.heap.get? b = some o → h₁.get? b = some o := fun b o e => hsb.extBut b o (Nat.ne_of_lt (Heap.lt_size e)) (Heap.get?_push_of_some _ e)
  have J := lam_start3 (E := fun cls d H' => (∀ c ∈ L.clos.map (·.2), H' c = none) → E cls d (reX (L.clos.map (·.2)) H H')) (f := f) (tk := s.toks + binds.length) S C (Env0.un e0 hx) hr.hd hlen (fun y c e => by
    obtain ⟨o, u, e1, e2⟩ := hc y c e
    exact ⟨unX_in (mem e), some u, o, exO_at (e0.hok c _ e1), e2⟩) (fun i y v e1 e2 c e => by
    obtain ⟨o, u, ru, e3, e4⟩ := hσ i y v e1 e2 c e
    exact ⟨u, ru, o, exO_at (e0.hok c _ e3), e4⟩) hns kp
  refine PySem.W.kla_codeExpr (wpAny_mono ((hbody (hr.deeper _)).run [] _ _ _ _ J ht) (fun v s' hq => ?_) fun e s' hq => ?_)
  · obtain ⟨w', H', J', rv, q⟩ := hq
    exact ce_re e0.hok hx hfr ⟨w', H', J'.os, J'.bare, J'.base, J'.hok, rv, q⟩
  · exact wpAny_mono (show wpAny _ _ _ _ _ _ from hq) (fun _ s'' z => cx_re e0.hok hx hfr z) fun e' s'' z => cx_re e0.hok hx hfr z
end
end Rg
namespace Rg
open PySem PySem.Spec L2 RZ PyProof.Rows
/-! ### what a closure promises, told of the data -/
def LamD (P : Program) (w : World) (K : PySem.W.Frag) (mg : Str → Option Value) (base : Heap) (k : Nat) (l : Ml) (L : Lm) (post px : D → Prop) : Prop :=
  ∀ (l' : Ml), (∀ p ∈ l, p ∈ l') → ∀ (A : Around) (outer : List Env) (s : Shared) (H : Hp) (f : Addr) (G : Hp) (Q : VK) (E : XK), Room k A → Env0 P w K mg base A outer s H → Wd0 l' G H → Rp K G (.ref f) (.fob L) →
    (∀ v d G' H', Same G G' → Wd0 l' G' H' → Rp K G' v d → post d → Q v H') → (∀ c dx x G' H', Same G G' → Wd0 l' G' H' → XRp K G' c dx x → px x → E c dx H') →
    codeAny (model P w) A (.call (.ref f) ⟨[], []⟩) (CR (L2.CX P w) outer P w H s Q E) s
/-- x(), x a local that holds a closure -/
def tAct (P : Program) (w : World) (K : PySem.W.Frag) (mg : Str → Option Value) (base : Heap) (k : Nat) (W : WX) (i : Nat) : TE := fun σ H Q => ∃ (f : Addr) (L : Lm), σ[i]? = some (some (.ref f)) ∧ H f = some (ExO f L.obj) ∧
  ∀ (A : Around) (outer : List Env) (s : Shared), Room k A → Env0 P w K mg base A outer s H → codeAny (model P w) A (.call (.ref f) ⟨[], []⟩) (CR (L2.CX P w) outer P w H s Q fun c d H' => W c d σ H') s
theorem pe_act3 {X : Cx} {k i : Nat} {W : WX} {a : Str} {p1 p2 : Pos} (tk : Takes X W) (hr : Room k X.A) (hN : X.N[i]? = some a) (hv : Vis X.env.scope a) (hd : (a == ("__debug__" : Str)) = false := by decide) (hcd : (a == ("__classdict__" : Str)) = false := by decide) :
    PE X (.Call (.Name a p1) [] [] p2) (tAct X.prog X.w X.K X.mg X.base k W i) := by
  refine ⟨fun pins s σ H Q I h => ?_⟩
  obtain ⟨f, L, hs, hf, hc⟩ := h
  refine wpAny_Call_Name_kw (thn ((pe_var (pos := p1) (i := i) hN hv hd hcd).run pins s σ H (fun v H1 => v = .ref f ∧ H1 = H) I ⟨.ref f, hs, rfl, rfl⟩) fun u s1 ⟨v, H1, I1, r1, q1⟩ => ?_)
  obtain ⟨ev, eH⟩ := q1
  subst ev
  rw [eH] at I1
  obtain rfl : u = Value.ref f := r1
  have of1 : s1.heap.get? f = some L.obj := exO_at (I1.hok f _ hf)
  refine PySem.W.callWith_F0 ⟨_, _, _, _, of1⟩ ?_
  refine wpAny_call (codeAny_mono (hc X.A X.stack s1 hr I1.env0) fun r s' hq => ?_)
  cases r with
  | error e => exact tk e s' (XE.of_call I1 (fun cls d H' h => h) hq)
  | ok fl =>
    cases fl with
    | ret u => exact I1.after hq
    | next => exact False.elim hq
    | brk => exact False.elim hq
    | cont => exact False.elim hq
section
variable {P : Program} {w : World} {K : PySem.W.Frag} {mg : Str → Option Value} {base : Heap} {M : Mt} {ds : DS} {R : D → Prop}
theorem ev_act {k i : Nat} {W : WX} {L : Lm} {post px : D → Prop} (hW : M.W = W) (h : ds[i]? = some (some (.fob L))) (hL : LamD P w K mg base k M.l L post px) (hR : ∀ d, post d → R d) (hx : ∀ x, px x → Exk K M x ds) :
    Ev K M ds (tAct P w K mg base k W i) R := fun M' σ G H Q m s w' q => by
  obtain ⟨v, e, r⟩ := s.at_ i _ h
  cases r with
  | fob h1 h2 h3 =>
    rename_i f
    refine ⟨f, L, e, w'.sub _ _ h1, fun A outer s' hr e0 => hL M'.l m.l A outer s' H f G Q _ hr e0 w'.toWd0 (.fob h1 h2 h3) (fun v d G' H' s1 w1 r1 p => q v d G' H' s1 (w'.to s1 w1) r1 (hR d p)) fun c dx x G' H' s1 w1 hx' p => ?_⟩
    exact w'.toW m hW s1 w1 (s.mono s1) hx' (hx x p)
/-! ### how a closure keeps its promise -/
theorem list_choose : ∀ (ds : DS) (Pv : Nat → D → V → Prop), (∀ (i : Nat) d, ds[i]? = some (some d) → ∃ v, Pv i d v) → ∃ σ : L2.St, σ.length = ds.length ∧ (∀ (i : Nat) d, ds[i]? = some (some d) → ∃ v, σ[i]? = some (some v) ∧ Pv i d v) ∧ ∀ (i : Nat) v, σ[i]? = some (some v) → ∃ d, ds[i]? = some (some d) ∧ Pv i d v
  | [], _, _ => ⟨[], rfl, fun i d e => by simp at e, fun i v e => by simp at e⟩
  | o :: ds, Pv, h => by
    obtain ⟨σ, hl, h1, h2⟩ := list_choose ds (fun i => Pv (i + 1)) fun i d e => h (i + 1) d e
    cases o with
    | none =>
      refine ⟨none :: σ, by simp [hl], fun i d e => ?_, fun i v e => ?_⟩
      · cases i with
        | zero => cases e
        | succ i => exact h1 i d e
      · cases i with
        | zero => cases e
        | succ i => exact h2 i v e
    | some d0 =>
      obtain ⟨v0, p0⟩ := h 0 d0 rfl
      refine ⟨some v0 :: σ, by simp [hl], fun i d e => ?_, fun i v e => ?_⟩
      · cases i with
        | zero => cases e; exact ⟨v0, rfl, p0⟩
        | succ i => exact h1 i d e
      · cases i with
        | zero => cases e; exact ⟨d0, rfl, p0⟩
        | succ i => exact h2 i v e
theorem re_wd0 {l l0 : Ml} {cs : List Addr} {G G' H H' : Hp} (W : Wd0 l G H) (W' : Wd0 l0 G' H') (sm : Same G G') (hn : ∀ c ∈ cs, H' c = none) (h0 : ∀ p ∈ l, p.1 ∉ cs → p ∈ l0) : Wd0 l G' (reX cs H H') := by
  refine ⟨fun b u e => ?_, fun p hp => ?_, W.mono, W.nd⟩
  · have e' := W'.sub b u e
    rw [reX_out fun z => by rw [hn b z] at e'; cases e']
    exact e'
  · by_cases z : p.1 ∈ cs
    · obtain ⟨g, o, e, f⟩ := W.mt p hp
      exact ⟨W'.free (hn _ z), o, by rw [reX_in z]; exact e, W.mono p hp _ _ _ sm f⟩
    · obtain ⟨g, o, e, f⟩ := W'.mt p (h0 p hp z)
      exact ⟨g, o, by rw [reX_out z]; exact e, f⟩
theorem lamD_of {k : Nat} {l : Ml} {N : List Str} {L : Lm} {nm : Option Str} {dsc : DS} {post px : D → Prop} (S : LamS3 N L.scope) (C : CloOk L.scope L.clos) (B : BindOk L nm) (hN : dsc.length = N.length)
    (hcl : ∀ y c, L.clos.lookup y = some c → ∃ ob d, (c, CellP K c ob d) ∈ l) (hcap : ∀ (i : Nat) d, dsc[i]? = some (some d) → ∃ y c ob, N[i]? = some y ∧ L.clos.lookup y = some c ∧ (c, CellP K c ob d) ∈ l)
    (body : ∀ (X : Cx) (A : Around) (outer : List Env) (s : Shared) (H : Hp) (E : XK) (f : Addr), X = lcx P w K mg base N L A outer s H E f → Room k X.A → Takes X (fun c d _ H => E c d H) →
      ∃ t, PE X L.body t ∧ ∀ l0 : Ml, (∀ p ∈ l, p.1 ∉ L.clos.map (·.2) → p ∈ l0) → Ev K (mfn K l0 E px) dsc t post) : LamD P w K mg base (k + 1) l L post px := by
  intro l' hl A outer s H f G Q E hr e0 W R hq hx
  cases R with
  | fob h1 h2 h3 =>
    obtain ⟨σ, hlen, hs1, hs2⟩ := list_choose dsc (fun i d v => Rp K G v d ∧ ∃ y c ob u, N[i]? = some y ∧ L.clos.lookup y = some c ∧ H c = some (ExO c ob) ∧ ob.data = .cell (some u) ∧ RelV v u) fun i d e => by
      obtain ⟨y, c, ob, e1, e2, hm⟩ := hcap i d e
      obtain ⟨_, o, e3, e4, u, v, e5, e6, r⟩ := W.mt _ (hl _ hm)
      exact ⟨v, r, y, c, ob, u, e1, e2, by rw [← e4]; exact e3, e5, e6⟩
    have inC : ∀ c ∈ L.clos.map (·.2), ∃ y, L.clos.lookup y = some c := fun c h => by
      obtain ⟨p, hp, e⟩ := List.mem_map.mp h
      exact ⟨p.1, e ▸ C.look p hp⟩
    have hc : ∀ y c, L.clos.lookup y = some c → ∃ o u, H c = some (ExO c o) ∧ o.data = .cell (some u) := fun y c e => by
      obtain ⟨ob, d, hm⟩ := hcl y c e
      obtain ⟨_, o, e3, e4, u, v, e5, _⟩ := W.mt _ (hl _ hm)
      exact ⟨ob, u, by rw [← e4]; exact e3, e5⟩
    have gnone : ∀ c ∈ L.clos.map (·.2), G c = none := fun c h => by
      obtain ⟨y, e⟩ := inC c h
      obtain ⟨ob, d, hm⟩ := hcl y c e
      exact (W.mt _ (hl _ hm)).1
    let cs := L.clos.map (·.2)
    let l0 : Ml := l'.filter fun p => decide (p.1 ∉ cs)
    have h0 : ∀ p ∈ l', p.1 ∉ cs → p ∈ l0 := fun p hp z => List.mem_filter.mpr ⟨hp, decide_eq_true z⟩
    have W0 : Wd0 l0 G (unX cs H) := by
      refine ⟨fun b u e => ?_, fun p hp => ?_, fun p hp => W.mono p (List.mem_filter.mp hp).1, W.nd.sublist ((List.filter_sublist).map _)⟩
      · rw [unX_out fun z => by rw [gnone b z] at e; cases e]
        exact W.sub b u e
      · have hp' := List.mem_filter.mp hp
        obtain ⟨g, o, e, f⟩ := W.mt p hp'.1
        exact ⟨g, o, by rw [unX_out (of_decide_eq_true hp'.2)]; exact e, f⟩
    obtain ⟨t, ht, hev⟩ := body _ A outer s (unX cs H) (fun cls d H' => (∀ c ∈ cs, H' c = none) → E cls d (reX cs H H')) f rfl (hr.deeper _)
      (takes_of (X := lcx P w K mg base N L A outer s (unX cs H) (fun cls d H' => (∀ c ∈ cs, H' c = none) → E cls d (reX cs H H')) f) rfl rfl rfl rfl)
    refine lam_run (N := N) (σ := σ) (tb := t) hr e0 (W.sub _ _ h1) (W.sub _ _ h2) (fun d e => W.sub _ _ (h3 d e)) S C B (by rw [hlen, hN]) hc (fun i y v e1 e2 c e3 => ?_) (fun _ => ht) ?_
    · obtain ⟨d, _, _, y', c', ob, u, a1, a2, a3, a4, a5⟩ := hs2 i v e2
      rw [e1] at a1
      cases a1
      rw [e3] at a2
      cases a2
      exact ⟨ob, u, a5, a3, a4⟩
    · refine hev l0 (fun p hp z => h0 p (hl p hp) z) _ σ G (unX cs H) _ (MSub.refl _) ⟨hlen, fun i d e => ?_⟩ ⟨W0, fun l' cls d σ' G' H' ⟨el, x, hpx, hxr⟩ sm W' hn => ?_⟩ fun v d G' H' sm w' r p hn => ?_
      · obtain ⟨v, a, b, _⟩ := hs1 i d e
        exact ⟨v, a, b⟩
      · subst el
        exact hx cls d x G' _ sm (re_wd0 W W' sm hn h0) hxr hpx
      · exact hq v d G' _ sm (re_wd0 W w'.toWd0 sm hn h0) r p
end
end Rg
namespace Rg
open PySem PySem.Spec L2 RZ PyProof.Rows
/-! ### a lambda is made -/
theorem cloOk_of {cells : List (Str × Addr)} {scope : Scope} (inj : ∀ x y c, cells.lookup x = some c → cells.lookup y = some c → x = y) (has : ∀ y ∈ scope.names, y.2 = .free → ∃ c, cells.lookup y.1 = some c) : CloOk scope (cloFrom cells scope.names []) := by
  have key : ∀ {y c}, (y, c) ∈ cloFrom cells scope.names [] → cells.lookup y = some c := fun {y c} hm => by
    rcases cloFrom_mem hm with hm | ⟨h1, h2⟩
    · cases hm
    · obtain ⟨c1, hc⟩ := has _ h1 rfl
      have hc : cells.lookup y = some c1 := hc
      rw [h2, hc]
      rfl
  refine ⟨fun x y c h1 h2 => inj x y c (key (PySem.mem_of_lookup h1)) (key (PySem.mem_of_lookup h2)), fun y hy e => ?_, fun p hp => ?_⟩
  · obtain ⟨n, k⟩ := y
    have e : k = .free := e
    subst e
    exact mem_lookup (cloFrom_has (cells := cells) (acc := []) hy)
  · obtain ⟨y, c⟩ := p
    obtain ⟨c', h'⟩ := mem_lookup hp
    have e1 := key hp
    have e2 := key (PySem.mem_of_lookup h')
    rw [e1] at e2
    cases e2
    exact h'
def tMkL (cl : List (Str × Addr)) (qual : Str) (params : Arguments) (body : Expr) (scope : Scope) (P : Addr) (hasD : Bool) : TE := fun σ H Q => ∃ ps : Array Value, H P = some (.tbl ps) ∧ TriplesOk ps.toList ∧ (∀ pos' cv, codeAmong pos' ps.toList = some cv → ∃ c, cv = .ref c ∧ H c = some (LamX.CodeO c qual)) ∧
  ∀ (f : Addr) (L : Lm) (H1 H2 : Hp), L.qual = qual → L.params = params → L.body = body → L.scope = scope → L.clos = cloFrom cl scope.names [] → CloOk scope L.clos → L.dt.isSome = hasD →
    ((L.dt = none ∧ H1 = H) ∨ ∃ d, L.dt = some d ∧ H d = none ∧ H1 = upd H d (.tup [.int 0])) →
    ((H2 = H1 ∧ ∃ pos', codeAmong pos' ps.toList = some (.ref L.c)) ∨ ∃ ps' : Array Value, H1 L.c = none ∧ H2 = upd (upd H1 P (.tbl ps')) L.c (LamX.CodeO L.c qual) ∧ TriplesOk ps'.toList ∧ ∀ pos' cv, codeAmong pos' ps'.toList = some cv → codeAmong pos' ps.toList = some cv ∨ cv = .ref L.c) →
    H2 f = none → Q (.ref f) (upd H2 f (ExO f L.obj))
section
variable {X : Cx} {pins : List (Addr × Obj)} {σ : L2.St} {H : Hp} {s : Shared}
theorem tail_inv {c P : Addr} {params : Arguments} {body : Expr} {scope : Scope} {pos : Pos} {line : Nat} {ps : Array Value} {dt : Option Addr} {dV : Value} {Q : VK} (hdV : ∀ L : Lm, L.dt = dt → L.dV = dV) (I : Inv X pins σ H s) (TB : LamX.TabB X.base X.mg c P) (hcode : X.env.code = .ref c)
    (hfree : ∀ y ∈ scope.names, y.2 = .free → ∃ c, X.env.cells.lookup y.1 = some c) (hP : H P = some (.tbl ps)) (ht : TriplesOk ps.toList) (ha : ∀ pos' cv, codeAmong pos' ps.toList = some cv → ∃ c, cv = .ref c ∧ H c = some (LamX.CodeO c (X.env.qual ++ "<lambda>")))
    (h : ∀ (f : Addr) (L : Lm) (H2 : Hp), L.qual = X.env.qual ++ "<lambda>" → L.params = params → L.body = body → L.scope = scope → L.clos = cloFrom X.env.cells scope.names [] → L.dt = dt →
      ((H2 = H ∧ ∃ pos', codeAmong pos' ps.toList = some (.ref L.c)) ∨ ∃ ps' : Array Value, H L.c = none ∧ H2 = upd (upd H P (.tbl ps')) L.c (LamX.CodeO L.c (X.env.qual ++ "<lambda>")) ∧ TriplesOk ps'.toList ∧ ∀ pos' cv, codeAmong pos' ps'.toList = some cv → codeAmong pos' ps.toList = some cv ∨ cv = .ref L.c) →
      H2 f = none → Q (.ref f) (upd H2 f (ExO f L.obj))) :
    wpAny (model X.prog X.w) X.A (makeTail "<lambda>" (X.env.qual ++ "<lambda>") params (.expr body) scope X.env dV .none none pos line) (EP X pins σ Q) X.xe s := by
  have bP : s.heap.BuiltinsAt X.mg P := TB.bm.keeps I.bk
  have hP' : s.heap.get? P = some { cls := .none, data := .fields ps } := I.hok P _ hP
  cases hc : codeAmong pos ps.toList with
  | none =>
    refine PySem.W.kdv_makeTail (mg := X.mg) (c := c) (P := P) (ps := ps) (closure_ok hfree) I.ok.glob (I.mod.glob.keeps I.bk) hcode (TB.code.keeps I.bk) hP' ht hc TB.gP bP fun c' ctv doc h' tk hx hge hlt hrec htb => ?_
    obtain ⟨c2, oc, vs, t, e2, hoc, hd, hv⟩ := hrec
    cases e2
    have I1 := LamX.inv_table (t' := tk) (more := #[rawInt pos.line, rawInt pos.col, .ref c']) (h' := h') (q := X.env.qual ++ "<lambda>") I hP (fun b o hb e => hx b o hb e) htb hge ⟨oc, vs, t, hoc, hd, hv⟩
    have eL : (ps ++ #[rawInt pos.line, rawInt pos.col, .ref c']).toList = ps.toList ++ [rawInt pos.line, rawInt pos.col, .ref c'] := by simp
    let L : Lm := ⟨X.env.qual ++ "<lambda>", params, body, scope, cloFrom X.env.cells scope.names [], dt, doc, (X.mg "__name__").getD .none, c', ctv⟩
    have eo : PySem.W.kdv_obj "<lambda>" (X.env.qual ++ "<lambda>") params (.expr body) scope (cloFrom X.env.cells scope.names []) dV doc ((X.mg "__name__").getD .none) c' ctv = L.obj := by
      show _ = ({ cls := .type "function", data := .func (PySem.W.kdv_fn _ _ _ _ _ _ L.dV _ _ _ _) } : Obj)
      rw [hdV L rfl]
    rw [eo]
    have I2 := I1.laid (h' := h'.push L.obj) (a := h'.objs.size) (o := ExO h'.objs.size L.obj) (t' := tk) (fun b u e => Heap.get?_push_of_some _ e) (Nat.le_refl _) (exO_ok (Heap.get?_push_size _ rfl))
    refine ⟨.ref h'.objs.size, _, I2, rfl, h h'.objs.size L _ rfl rfl rfl rfl rfl rfl (.inr ⟨_, I.hok.fresh hge, rfl, by rw [eL]; exact PySem.TriplesOk_snoc _ _ _ _ ht, fun p' cv hcv => ?_⟩) (I1.hok.fresh (Nat.le_refl _))⟩
    rw [eL] at hcv
    exact LamX.among_app _ ht hcv
  | some cv =>
    obtain ⟨c', e, hco⟩ := ha pos cv hc
    subst e
    refine PySem.W.kdv_makeTailHit (mg := X.mg) (c := c) (P := P) (ps := ps) (closure_ok hfree) I.ok.glob (I.mod.glob.keeps I.bk) hcode (TB.code.keeps I.bk) hP' ht hc bP fun ctv doc h' tk hx hsz => ?_
    have I1 : Inv X pins σ H { s with heap := h', toks := tk } := I.kept hx
    let L : Lm := ⟨X.env.qual ++ "<lambda>", params, body, scope, cloFrom X.env.cells scope.names [], dt, doc, (X.mg "__name__").getD .none, c', ctv⟩
    have eo : ({ cls := .type "function", data := .func (PySem.W.kdv_fn "<lambda>" (X.env.qual ++ "<lambda>") params (.expr body) scope (cloFrom X.env.cells scope.names []) dV doc ((X.mg "__name__").getD .none) (.ref c') ctv) } : Obj) = L.obj := by
      show _ = ({ cls := .type "function", data := .func (PySem.W.kdv_fn _ _ _ _ _ _ L.dV _ _ _ _) } : Obj)
      rw [hdV L rfl]
    rw [eo]
    have I2 := I1.laid (h' := h'.push L.obj) (a := h'.objs.size) (o := ExO h'.objs.size L.obj) (t' := tk) (fun b u e => Heap.get?_push_of_some _ e) (Nat.le_refl _) (exO_ok (Heap.get?_push_size _ rfl))
    exact ⟨.ref h'.objs.size, _, I2, rfl, h h'.objs.size L _ rfl rfl rfl rfl rfl rfl (.inl ⟨rfl, pos, hc⟩) (I1.hok.fresh (Nat.le_refl _))⟩
/-- a lambda without parameters, or with one that has the default 0 -/
theorem pe_lam0 {c P : Addr} {params : Arguments} {body : Expr} {scope : Scope} {pos : Pos} (TB : LamX.TabB X.base X.mg c P) (hcode : X.env.code = .ref c) (hfree : X.Ok → ∀ y ∈ scope.names, y.2 = .free → ∃ c, X.env.cells.lookup y.1 = some c) (hdef : defaultsOf params X.env = ([], [])) :
    PE X (.Lambda params body scope pos) (tMkL X.env.cells (X.env.qual ++ "<lambda>") params body scope P false) := by
  refine ⟨fun pins s σ H Q I h => ?_⟩
  obtain ⟨ps, hP, ht, ha, h⟩ := h
  refine PySem.W.kla_eval hdef ?_
  rw [makeFunction_eq]
  simp only [List.zip_nil_right, List.filterMap_nil, List.isEmpty_nil, if_true, pure_bind]
  exact tail_inv (dt := none) (fun L e => by unfold Lm.dV; rw [e]) I TB hcode (hfree I.ok) hP ht ha fun f L H2 e1 e2 e3 e4 e5 e6 hc hf => h f L H H2 e1 e2 e3 e4 e5 (by rw [e5]; exact cloOk_of I.ok.inj (hfree I.ok)) (by rw [e6]; rfl) (.inl ⟨e6, rfl⟩) hc hf
theorem pe_lam1 {c P : Addr} {params : Arguments} {body : Expr} {scope : Scope} {pos dp : Pos} {j : Nat} (TB : LamX.TabB X.base X.mg c P) (hcode : X.env.code = .ref c) (hfree : X.Ok → ∀ y ∈ scope.names, y.2 = .free → ∃ c, X.env.cells.lookup y.1 = some c) (hdef : params.defaults = [.Constant (.int 0) j dp]) (hk0 : params.kw_defaults = []) :
    PE X (.Lambda params body scope pos) (tMkL X.env.cells (X.env.qual ++ "<lambda>") params body scope P true) := by
  refine ⟨fun pins s σ H Q I h => ?_⟩
  obtain ⟨ps, hP, ht, ha, h⟩ := h
  refine PySem.W.kdv_lam (by rw [hdef]; rfl) hk0 ?_
  rw [hdef]
  refine PySem.W.kdv_all1 (thn (pe_int.run pins s σ H (fun v H1 => v = .int 0 ∧ H1 = H) I ⟨rfl, rfl⟩) fun u s1 ⟨v, H1, I1, r1, q1⟩ => PySem.W.kdv_all0 ?_)
  obtain ⟨ev, eH⟩ := q1
  subst ev
  rw [eH] at I1
  rw [makeFunction_eq]
  simp only [List.zip_nil_right, List.filterMap_nil, List.isEmpty_nil, if_true, pure_bind, List.isEmpty_cons, Bool.false_eq_true, if_false]
  refine wpAny_bind (wpAny_newTextTuple ?_)
  have hf0 : H s1.heap.objs.size = none := I1.hok.fresh (Nat.le_refl _)
  have I2 := I1.laid (h' := s1.heap.push { cls := .type "tuple", data := .seq [u].toArray }) (a := s1.heap.objs.size) (o := .tup [.int 0]) (t' := s1.toks) (fun b u e => Heap.get?_push_of_some _ e) (Nat.le_refl _) ⟨by decide, [u], .cons r1 .nil, _, Heap.get?_push_size _ rfl, rfl, _, rfl⟩
  have np : P ≠ s1.heap.objs.size := ne_of_none hP hf0
  exact tail_inv (dt := some s1.heap.objs.size) (fun L e => by unfold Lm.dV; rw [e]) I2 TB hcode (hfree I.ok) (by rw [upd_ne np]; exact hP) ht (fun p' cv hcv => by
    obtain ⟨c0, e1, e2⟩ := ha p' cv hcv
    exact ⟨c0, e1, by rw [upd_ne (ne_of_none e2 hf0)]; exact e2⟩) fun f L H2 e1 e2 e3 e4 e5 e6 hc hf => h f L _ H2 e1 e2 e3 e4 e5 (by rw [e5]; exact cloOk_of I.ok.inj (hfree I.ok)) (by rw [e6]; rfl) (.inr ⟨_, e6, hf0, rfl⟩) hc hf
end
/-- the table of code objects of a def with the lambdas' name q -/
def TabP (q : Str) : Hp → HO → Prop := fun G o => ∃ ps : Array Value, o = .tbl ps ∧ TriplesOk ps.toList ∧ ∀ pos' cv, codeAmong pos' ps.toList = some cv → ∃ c, cv = .ref c ∧ G c = some (LamX.CodeO c q)
theorem TabP.mono {q : Str} : ∀ G1 G2 o, Same G1 G2 → TabP q G1 o → TabP q G2 o := fun _ _ _ s ⟨ps, e, h1, h2⟩ => ⟨ps, e, h1, fun p cv h => let ⟨c, a, b⟩ := h2 p cv h; ⟨c, a, s _ _ b⟩⟩
structure IsLm (cl : List (Str × Addr)) (qual : Str) (params : Arguments) (body : Expr) (scope : Scope) (hasD : Bool) (L : Lm) : Prop where
  e1 : L.qual = qual
  e2 : L.params = params
  e3 : L.body = body
  e4 : L.scope = scope
  e5 : L.clos = cloFrom cl scope.names []
  ok : CloOk scope L.clos
  e7 : L.dt.isSome = hasD
section
variable {K : PySem.W.Frag} {M : Mt} {ds : DS}
theorem ev_lam {cl : List (Str × Addr)} {qual : Str} {params : Arguments} {body : Expr} {scope : Scope} {P : Addr} {hasD : Bool} (hm : (P, TabP qual) ∈ M) : Ev K M ds (tMkL cl qual params body scope P hasD) (fun d => ∃ L, d = .fob L ∧ IsLm cl qual params body scope hasD L) := fun M' σ G H Q m s w q => by
  obtain ⟨gP, o, hP, ps, eo, ht, ha⟩ := w.mt _ (m.l _ hm)
  subst eo
  refine ⟨ps, hP, ht, fun p' cv h => ?_, fun f L H1 H2 e1 e2 e3 e4 e5 e6 e7 h1 h2 h3 => ?_⟩
  · obtain ⟨c, a, b⟩ := ha p' cv h
    exact ⟨c, a, w.sub _ _ b⟩
  -- the defaults
  have key1 : ∃ G1, Same G G1 ∧ Wd M' G1 H1 ∧ ∀ d, L.dt = some d → G1 d = some (.tup [.int 0]) := by
    rcases h1 with ⟨a, b⟩ | ⟨d, a, b, c⟩
    · rw [b]
      exact ⟨G, Same.refl G, w, fun d e => by rw [a] at e; cases e⟩
    · rw [c]
      refine ⟨upd G d (.tup [.int 0]), same_new (w.free b), w.new b, fun d' e => ?_⟩
      rw [a] at e
      cases e
      exact upd_same
  obtain ⟨G1, s1, w1, hd1⟩ := key1
  have key2 : ∃ G2, Same G1 G2 ∧ Wd M' G2 H2 ∧ G2 L.c = some (LamX.CodeO L.c qual) := by
    obtain ⟨gP1, o1, hP1, ps1, eo1, ht1, ha1⟩ := w1.mt _ (m.l _ hm)
    have hPs : H1 P = some (.tbl ps) := by
      rcases h1 with ⟨a, b⟩ | ⟨d, a, b, c⟩
      · rw [b]; exact hP
      · rw [c, upd_ne (ne_of_none hP b)]; exact hP
    rw [hPs] at hP1
    cases hP1
    cases eo1
    rcases h2 with ⟨a, b⟩ | ⟨ps', b, c, t', h'⟩
    · rw [a]
      obtain ⟨pos', hp⟩ := b
      obtain ⟨c0, a0, b0⟩ := ha1 pos' _ hp
      cases a0
      exact ⟨G1, Same.refl G1, w1, b0⟩
    · have np : L.c ≠ P := fun z => by rw [z, hPs] at b; cases b
      have w2 := w1.new (o := LamX.CodeO L.c qual) b
      have w3 := w2.write (o := .tbl ps') (m.l _ hm) ⟨ps', rfl, t', fun p' cv h => ?_⟩
      · refine ⟨_, same_new (w1.free b), ?_, upd_same⟩
        rw [c, Rg.upd_comm (Ne.symm np)]
        exact w3
      · rcases h' p' cv h with z | z
        · obtain ⟨c0, a0, b0⟩ := ha1 p' cv z
          exact ⟨c0, a0, by rw [upd_ne (ne_of_none b0 (w1.free b))]; exact b0⟩
        · exact ⟨L.c, z, upd_same⟩
  obtain ⟨G2, s2, w2, hc2⟩ := key2
  have sn := same_new (o := ExO f L.obj) (w2.free h3)
  exact q (.ref f) (.fob L) _ _ ((s1.trans s2).trans sn) (w2.new h3) (.fob upd_same (by rw [e1]; exact sn _ _ hc2) fun d e => sn _ _ (s2 _ _ (hd1 d e))) ⟨L, rfl, e1, e2, e3, e4, e5, e6, e7⟩
end
end Rg
namespace Rg
open PySem L2 RZ PyProof.Rows
/-! ### what is owned: things that change, each with its content -/
inductive Ob where
  | lst (ds : List D)
  | ins (C : Addr) (fs : List (Str × D))
  | dct (kvs : List (Key × D))
abbrev Own := List (Addr × Ob)
def obP (K : PySem.W.Frag) : Ob → Hp → HO → Prop
  | .lst ds => fun G o => ∃ vs, o = .lst vs ∧ RpAll K G vs ds
  | .ins C fs => fun G o => ∃ dx gs, o = .ins C dx gs ∧ gs.map (·.1) = fs.map (·.1) ∧ RpAll K G (gs.map (·.2)) (fs.map (·.2))
  | .dct kvs => fun G o => ∃ us : List (Key × V), o = .dK us ∧ us.map (·.1) = kvs.map (·.1) ∧ RpAll K G (us.map (·.2)) (kvs.map (·.2))
theorem obP.mono {K : PySem.W.Frag} {b : Ob} : ∀ G1 G2 o, Same G1 G2 → obP K b G1 o → obP K b G2 o := fun G1 G2 o s h => by
  cases b with
  | lst ds => obtain ⟨vs, e, r⟩ := h; exact ⟨vs, e, r.mono s⟩
  | ins C fs => obtain ⟨dx, gs, e, e2, r⟩ := h; exact ⟨dx, gs, e, e2, r.mono s⟩
  | dct kvs => obtain ⟨us, e, e2, r⟩ := h; exact ⟨us, e, e2, r.mono s⟩
def ownM (K : PySem.W.Frag) (o : Own) : Ml := o.map fun p => (p.1, obP K p.2)
abbrev Mt.adds (M : Mt) (l : Ml) : Mt := { M with l := l ++ M.l, sub := M.sub.trans (List.sublist_append_right l M.l) }
theorem MSub.adds {M M' : Mt} {l : Ml} (a : MSub M M') : MSub M (M'.adds l) := ⟨fun q h => List.mem_append_right _ (a.l q h), a.ex, a.W⟩
theorem MSub.adds2 {M M' : Mt} {l : Ml} (a : MSub M M') : MSub (M.adds l) (M'.adds l) := ⟨fun q h => (List.mem_append.mp h).elim (fun h => List.mem_append_left _ h) fun h => List.mem_append_right _ (a.l q h), a.ex, a.W⟩
section
variable (K : PySem.W.Frag) (M : Mt) (o : Own) (ds : DS)
def EvW (te : TE) (R : Own → D → Prop) : Prop := ∀ (M' : Mt) (σ : L2.St) (G H : Hp) (Q : VK), MSub M M' → Sg K G σ ds → Wd (M'.adds (ownM K o)) G H →
  (∀ v d o' G' H', Same G G' → Wd (M'.adds (ownM K o')) G' H' → Rp K G' v d → R o' d → Q v H') → te σ H Q
def EvTW (tt : TT) (R : Own → Bool → Prop) : Prop := ∀ (M' : Mt) (σ : L2.St) (G H : Hp) (Q : Bool → Hp → Prop), MSub M M' → Sg K G σ ds → Wd (M'.adds (ownM K o)) G H →
  (∀ b o' G' H', Same G G' → Wd (M'.adds (ownM K o')) G' H' → R o' b → Q b H') → tt σ H Q
structure AW where
  nx : Own → DS → Prop
  rt : Own → D → Prop
  bk : Own → DS → Prop := fun _ _ => False
  ct : Own → DS → Prop := fun _ _ => False
structure EndsW (M' : Mt) (G : Hp) (E : AW) (Z : Ends) : Prop where
  nx : ∀ o' ds' σ' G' H', E.nx o' ds' → Same G G' → Sg K G' σ' ds' → Wd (M'.adds (ownM K o')) G' H' → Z.nx σ' H'
  rt : ∀ v o' d G' H', E.rt o' d → Same G G' → Rp K G' v d → Wd (M'.adds (ownM K o')) G' H' → Z.rt v H'
  bk : ∀ o' ds' σ' G' H', E.bk o' ds' → Same G G' → Sg K G' σ' ds' → Wd (M'.adds (ownM K o')) G' H' → Z.bk σ' H'
  ct : ∀ o' ds' σ' G' H', E.ct o' ds' → Same G G' → Sg K G' σ' ds' → Wd (M'.adds (ownM K o')) G' H' → Z.ct σ' H'
def RunW (ts : TS) (E : AW) : Prop := ∀ (M' : Mt) (σ : L2.St) (G H : Hp) (Z : Ends), MSub M M' → Sg K G σ ds → Wd (M'.adds (ownM K o)) G H → EndsW K M' G E Z → ts Z σ H
end
theorem EndsW.mono {K : PySem.W.Frag} {M' : Mt} {G G' : Hp} {E : AW} {Z : Ends} (s : Same G G') (h : EndsW K M' G E Z) : EndsW K M' G' E Z :=
  ⟨fun o ds σ G1 H1 a b => h.nx o ds σ G1 H1 a (s.trans b), fun v o d G1 H1 a b => h.rt v o d G1 H1 a (s.trans b), fun o ds σ G1 H1 a b => h.bk o ds σ G1 H1 a (s.trans b), fun o ds σ G1 H1 a b => h.ct o ds σ G1 H1 a (s.trans b)⟩
section
variable {K : PySem.W.Frag} {M : Mt} {o : Own} {ds : DS} {te ta tb : TE} {t u : TT} {R R' : Own → D → Prop} {E E' : AW} {a b : TS}
theorem EvW.weak (h : EvW K M o ds te R) (f : ∀ o' d, R o' d → R' o' d) : EvW K M o ds te R' := fun M' σ G H Q m s w q => h M' σ G H Q m s w fun v d o' G' H' a b c r => q v d o' G' H' a b c (f o' d r)
theorem evw_of {R : D → Prop} (h : Ev K (M.adds (ownM K o)) ds te R) : EvW K M o ds te (fun o' d => o' = o ∧ R d) := fun M' σ G H Q m s w q =>
  h (M'.adds (ownM K o)) σ G H Q m.adds2 s w fun v d G' H' s' w' r' e => q v d o G' H' s' w' r' ⟨rfl, e⟩
theorem evw_ev {R : D → Prop} (h : Ev K M ds te R) : EvW K M o ds te (fun o' d => o' = o ∧ R d) := fun M' σ G H Q m s w q =>
  h (M'.adds (ownM K o)) σ G H Q m.adds s w fun v d G' H' s' w' r' e => q v d o G' H' s' w' r' ⟨rfl, e⟩
/-- nothing owned before and behind -/
theorem ev_w {R : D → Prop} (h : EvW K M [] ds te (fun o' d => o' = [] ∧ R d)) : Ev K M ds te R := fun M' σ G H Q m s w q =>
  h M' σ G H Q m s w fun v d o' G' H' s' w' r' ⟨e, e2⟩ => by subst e; exact q v d G' H' s' w' r' e2
theorem etw_of {R : Bool → Prop} (h : EvT K (M.adds (ownM K o)) ds t R) : EvTW K M o ds t (fun o' d => o' = o ∧ R d) := fun M' σ G H Q m s w q =>
  h (M'.adds (ownM K o)) σ G H Q m.adds2 s w fun b G' H' s' w' e => q b o G' H' s' w' ⟨rfl, e⟩
theorem etw_B {RT : Own → Bool → Prop} (h : EvW K M o ds te (fun o' d => ∃ b, d = .bl b ∧ RT o' b)) : EvTW K M o ds (tB te) RT := fun M' σ G H Q m s w q =>
  h M' σ G H _ m s w fun v d o' G1 H1 s1 w1 r1 ⟨b, e, hb⟩ => by
    subst e
    exact ⟨b, r1.bl_inv, q b o' G1 H1 s1 w1 hb⟩
/-! ### statements -/
theorem runw_lift {E : AE} {rt : Own → D → Prop} {nx bk ct : Own → DS → Prop} (h : Run K (M.adds (ownM K o)) ds a E) (h1 : ∀ d, E.nx d → nx o d) (h2 : ∀ d, E.rt d → rt o d) (h3 : ∀ d, E.bk d → bk o d) (h4 : ∀ d, E.ct d → ct o d) : RunW K M o ds a ⟨nx, rt, bk, ct⟩ := fun M' σ G H Z m s w z =>
  h (M'.adds (ownM K o)) σ G H Z m.adds2 s w ⟨fun ds' σ' G' H' e g s' w' => z.nx o ds' σ' G' H' (h1 _ e) g s' w', fun v d G' H' e g r' w' => z.rt v o d G' H' (h2 _ e) g r' w', fun ds' σ' G' H' e g s' w' => z.bk o ds' σ' G' H' (h3 _ e) g s' w', fun ds' σ' G' H' e g s' w' => z.ct o ds' σ' G' H' (h4 _ e) g s' w'⟩
/-- a run with nothing owned is a run -/
theorem run_w {E : AE} (h : RunW K M [] ds a ⟨fun o d => o = [] ∧ E.nx d, fun o d => o = [] ∧ E.rt d, fun o d => o = [] ∧ E.bk d, fun o d => o = [] ∧ E.ct d⟩) : Run K M ds a E := fun M' σ G H Z m s w z =>
  h M' σ G H Z m s w ⟨fun o' ds' σ' G' H' ⟨e, e2⟩ g s' w' => by subst e; exact z.nx ds' σ' G' H' e2 g s' w', fun v o' d G' H' ⟨e, e2⟩ g r' w' => by subst e; exact z.rt v d G' H' e2 g r' w', fun o' ds' σ' G' H' ⟨e, e2⟩ g s' w' => by subst e; exact z.bk ds' σ' G' H' e2 g s' w', fun o' ds' σ' G' H' ⟨e, e2⟩ g s' w' => by subst e; exact z.ct ds' σ' G' H' e2 g s' w'⟩
theorem runw_weak (h : RunW K M o ds a E) (h1 : ∀ o d, E.nx o d → E'.nx o d) (h2 : ∀ o d, E.rt o d → E'.rt o d) (h3 : ∀ o d, E.bk o d → E'.bk o d) (h4 : ∀ o d, E.ct o d → E'.ct o d) : RunW K M o ds a E' := fun M' σ G H Z m s w z =>
  h M' σ G H Z m s w ⟨fun o' ds' σ' G' H' e => z.nx o' ds' σ' G' H' (h1 _ _ e), fun v o' d G' H' e => z.rt v o' d G' H' (h2 _ _ e), fun o' ds' σ' G' H' e => z.bk o' ds' σ' G' H' (h3 _ _ e), fun o' ds' σ' G' H' e => z.ct o' ds' σ' G' H' (h4 _ _ e)⟩
theorem runw_next (h : E.nx o ds) : RunW K M o ds tNext E := fun M' σ G H Z m s w z => z.nx o ds σ G H h (Same.refl G) s w
theorem runw_brk (h : E.bk o ds) : RunW K M o ds tBreak E := fun M' σ G H Z m s w z => z.bk o ds σ G H h (Same.refl G) s w
theorem runw_cnt (h : E.ct o ds) : RunW K M o ds tCont E := fun M' σ G H Z m s w z => z.ct o ds σ G H h (Same.refl G) s w
theorem runw_seq (h : RunW K M o ds a { E with nx := fun o' ds' => RunW K M o' ds' b E }) : RunW K M o ds (tSeq a b) E := fun M' σ G H Z m s w z =>
  h M' σ G H { Z with nx := b Z } m s w ⟨fun o' ds' σ' G' H' r g s' w' => r M' σ' G' H' Z m s' w' (z.mono g), z.rt, z.bk, z.ct⟩
theorem runw_ret (h : EvW K M o ds te E.rt) : RunW K M o ds (tRet te) E := fun M' σ G H Z m s w z =>
  h M' σ G H _ m s w fun v d o' G1 H1 s1 w1 r1 e => z.rt v o' d G1 H1 e s1 r1 w1
theorem runw_retN (h : E.rt o .non) : RunW K M o ds tRetN E := fun M' σ G H Z m s w z => z.rt .non o .non G H h (Same.refl G) .non w
theorem runw_expr (h : EvW K M o ds te R) (hn : ∀ o' d, R o' d → E.nx o' ds) : RunW K M o ds (tDrop te) E := fun M' σ G H Z m s w z =>
  h M' σ G H _ m s w fun v d o' G1 H1 s1 w1 r1 e => z.nx o' ds σ G1 H1 (hn o' d e) s1 (s.mono s1) w1
theorem runw_asgN {i : Nat} (h : EvW K M o ds te R) (hn : ∀ o' d, R o' d → E.nx o' (ds.set i (some d))) : RunW K M o ds (tAsg te (gName i)) E := fun M' σ G H Z m s w z =>
  h M' σ G H _ m s w fun v d o' G1 H1 s1 w1 r1 e => z.nx o' _ _ G1 H1 (hn o' d e) s1 ((s.mono s1).set i r1) w1
theorem runw_asg {i : Nat} (h : EvW K M o ds te R) (hn : ∀ o' d, R o' d → RunW K M o' (ds.set i (some d)) b E) : RunW K M o ds (tSeq (tAsg te (gName i)) b) E := runw_seq (runw_asgN h hn)
theorem runw_asgG {g : TG} {R : D → Prop} (h : EvW K M o ds te (fun o' d => o' = o ∧ R d)) (hg : ∀ d, R d → EvG K (M.adds (ownM K o)) none g d ds (E.nx o)) : RunW K M o ds (tAsg te g) E := fun M' σ G H Z m s w z =>
  h M' σ G H _ m s w fun v d o' G1 H1 s1 w1 r1 ⟨eo, e⟩ => by
    subst eo
    exact hg d e (M'.adds (ownM K o')) σ G1 H1 v _ m.adds2 (s.mono s1) w1 r1 fun ds2 σ2 G2 H2 n2 s2 sg2 w2 _ => z.nx o' ds2 σ2 G2 H2 n2 (s1.trans s2) sg2 w2
theorem runw_if {tc : TT} {RT : Own → Bool → Prop} (h : EvTW K M o ds tc RT) (h1 : ∀ o', RT o' true → RunW K M o' ds a E) (h2 : ∀ o', RT o' false → RunW K M o' ds b E) : RunW K M o ds (tIfS tc a b) E := fun M' σ G H Z m s w z =>
  h M' σ G H _ m s w fun c o' G1 H1 s1 w1 e => by
    cases c with
    | true => exact h1 o' e M' σ G1 H1 Z m (s.mono s1) w1 (z.mono s1)
    | false => exact h2 o' e M' σ G1 H1 Z m (s.mono s1) w1 (z.mono s1)
theorem runw_if1 {tc : TT} {c : Bool} (h : EvT K (M.adds (ownM K o)) ds tc (· = c)) (h1 : c = true → RunW K M o ds a E) (h2 : c = false → RunW K M o ds b E) : RunW K M o ds (tIfS tc a b) E :=
  runw_if (etw_of h) (fun o' ⟨e, e2⟩ => by subst e; exact h1 e2.symm) fun o' ⟨e, e2⟩ => by subst e; exact h2 e2.symm
theorem runw_ifT {tc : TT} {c : Bool} (h : EvT K (M.adds (ownM K o)) ds tc (· = c)) (hc : c = true) (h1 : RunW K M o ds a E) : RunW K M o ds (tIfS tc a b) E := by subst hc; exact runw_if1 h (fun _ => h1) fun e => nomatch e
theorem runw_ifF {tc : TT} {c : Bool} (h : EvT K (M.adds (ownM K o)) ds tc (· = c)) (hc : c = false) (h1 : RunW K M o ds b E) : RunW K M o ds (tIfS tc a b) E := by subst hc; exact runw_if1 h (fun e => nomatch e) fun _ => h1
theorem runw_forget {ds' : DS} (f : Fg ds ds') (h : RunW K M o ds' a E) : RunW K M o ds a E := fun M' σ G H Z m s w z => h M' σ G H Z m (s.forget f) w z
theorem runw_for {wi : TI} {g : TG} {tb : TS} {RI : List D → Prop} (hI : EvI K (M.adds (ownM K o)) ds wi RI) (h : ∀ es, RI es → ∃ Pv : Nat → Own → DS → Prop, Pv 0 o ds ∧
      (∀ i d o' ds', es[i]? = some d → Pv i o' ds' → EvG K (M.adds (ownM K o')) none g d ds' (fun ds2 => RunW K M o' ds2 tb { nx := Pv (i + 1), ct := Pv (i + 1), bk := E.nx, rt := E.rt })) ∧ ∀ o' ds', Pv es.length o' ds' → E.nx o' ds') : RunW K M o ds (tFor wi g tb) E := fun M' σ G H Z m s w z =>
  hI (M'.adds (ownM K o)) σ G H _ m.adds2 s w fun J es G1 H1 s1 w1 hes W => by
    obtain ⟨Pv, h0, hs, hd⟩ := h es hes
    refine for_it (n := es.length) (G := fun H => ∃ M2 G2, Same G1 G2 ∧ Wd M2 G2 H) (Y := fun i H x H' => J.yld i H x H') ⟨fun i H hi ⟨M2, G2, s2, w2⟩ => W.goes i H G2 M2 hi s2 w2, fun H ⟨M2, G2, s2, w2⟩ => W.stops H G2 M2 s2 w2, fun i H x H' _ _ y => y⟩
      (fun i σ' H' => ∃ o' ds' G2, Pv i o' ds' ∧ Same G1 G2 ∧ Sg K G2 σ' ds' ∧ Wd (M'.adds (ownM K o')) G2 H') ⟨o, ds, G1, h0, Same.refl _, s.mono s1, w1⟩ (fun i σ' H' _ ⟨o', _, G2, _, s2, _, w2⟩ => ⟨_, G2, s2, w2⟩) (fun i x σ' H2 H3 hi ⟨o', ds', G2, hp, s2, sg, w2⟩ y => ?_)
      (fun σ' H' ⟨o', ds', G2, hp, s2, sg, w2⟩ => z.nx o' ds' σ' G2 H' (hd o' ds' hp) (s1.trans s2) sg w2)
    obtain ⟨G3, d, s3, w3, hd', rd⟩ := W.yields i H2 x H3 G2 _ hi s2 w2 y
    refine hs i d o' ds' hd' hp (M'.adds (ownM K o')) σ' G3 H3 x _ m.adds2 (sg.mono s3) w3 rd fun ds2 σ2 G4 H4 hr s4 sg4 w4 _ => ?_
    have s14 := (s2.trans s3).trans s4
    exact hr M' σ2 G4 H4 _ m sg4 w4 ⟨fun o5 ds5 σ5 G5 H5 r5 s5 sg5 w5 => ⟨o5, ds5, G5, r5, s14.trans s5, sg5, w5⟩, fun v o5 d G5 H5 r5 s5 rp5 w5 => z.rt v o5 d G5 H5 r5 (s1.trans (s14.trans s5)) rp5 w5,
      fun o5 ds5 σ5 G5 H5 r5 s5 sg5 w5 => z.nx o5 ds5 σ5 G5 H5 r5 (s1.trans (s14.trans s5)) sg5 w5, fun o5 ds5 σ5 G5 H5 r5 s5 sg5 w5 => ⟨o5, ds5, G5, r5, s14.trans s5, sg5, w5⟩⟩
theorem runw_while {c : TT} {tb : TS} (Pv : Nat → Own → DS → Prop) (h0 : ∃ n, Pv n o ds) (hs : ∀ n o' ds', Pv n o' ds' → ∃ RT : Own → Bool → Prop, EvTW K M o' ds' c RT ∧ (∀ o2, RT o2 false → E.nx o2 ds') ∧
      ∀ o2, RT o2 true → RunW K M o2 ds' tb { nx := fun o3 ds3 => ∃ k < n, Pv k o3 ds3, ct := fun o3 ds3 => ∃ k < n, Pv k o3 ds3, bk := E.nx, rt := E.rt }) : RunW K M o ds (tWhile c tb) E := fun M' σ G H Z m s w z => by
  obtain ⟨n0, p0⟩ := h0
  refine ⟨fun k σ' H' => ∃ o' ds' G2, Pv k o' ds' ∧ Same G G2 ∧ Sg K G2 σ' ds' ∧ Wd (M'.adds (ownM K o')) G2 H', ⟨n0, o, ds, G, p0, Same.refl _, s, w⟩, ?_⟩
  rintro k σ1 H1 ⟨o1, ds1, G1, p1, s1, sg1, w1⟩
  obtain ⟨RT, hT, hF, hB⟩ := hs k o1 ds1 p1
  refine hT M' σ1 G1 H1 _ m sg1 w1 fun b o2 G2 H2 s2 w2 e => ?_
  cases b with
  | false =>
    rw [if_neg Bool.false_ne_true]
    exact z.nx o2 ds1 σ1 G2 H2 (hF o2 e) (s1.trans s2) (sg1.mono s2) w2
  | true =>
    rw [if_pos rfl]
    refine ⟨fun σ' H' => ∃ k' < k, ∃ o' ds' G2, Pv k' o' ds' ∧ Same G G2 ∧ Sg K G2 σ' ds' ∧ Wd (M'.adds (ownM K o')) G2 H', fun σ' H' ⟨k', hk, h⟩ => ⟨k', hk, h⟩, ?_⟩
    have s12 := s1.trans s2
    exact hB o2 e M' σ1 G2 H2 _ m (sg1.mono s2) w2 ⟨fun o5 ds5 σ5 G5 H5 ⟨k', hk, r5⟩ s5 sg5 w5 => ⟨k', hk, o5, ds5, G5, r5, s12.trans s5, sg5, w5⟩, fun v o5 d G5 H5 r5 s5 rp5 w5 => z.rt v o5 d G5 H5 r5 (s12.trans s5) rp5 w5,
      fun o5 ds5 σ5 G5 H5 r5 s5 sg5 w5 => z.nx o5 ds5 σ5 G5 H5 r5 (s12.trans s5) sg5 w5, fun o5 ds5 σ5 G5 H5 ⟨k', hk, r5⟩ s5 sg5 w5 => ⟨k', hk, o5, ds5, G5, r5, s12.trans s5, sg5, w5⟩⟩
/-! ### what is owned is arranged anew, frozen -/
theorem Wd.perm {M' : Mt} {l l' : Ml} {G H : Hp} (w : Wd (M'.adds l) G H) (p : l.Perm l') : Wd (M'.adds l') G H :=
  ⟨⟨w.sub, fun q hq => w.mt q ((p.append_right _).mem_iff.mpr hq), fun q hq => w.mono q ((p.append_right _).mem_iff.mpr hq), (((p.append_right M'.l).map (·.1)).nodup_iff).mp w.nd⟩, w.xk⟩
theorem runw_perm {o' : Own} (p : o.Perm o') (h : RunW K M o' ds a E) : RunW K M o ds a E := fun M' σ G H Z m s w z => h M' σ G H Z m s (w.perm (p.map _)) z
theorem evw_perm {o' : Own} (p : o.Perm o') (h : EvW K M o' ds te R) : EvW K M o ds te R := fun M' σ G H Q m s w q => h M' σ G H Q m s (w.perm (p.map _)) q
theorem Wd.freezeW {M' : Mt} {p : Addr} {b : Ob} {G H : Hp} (w : Wd (M'.adds (ownM K ((p, b) :: o))) G H) : ∃ u, H p = some u ∧ obP K b G u ∧ G p = none ∧ Wd (M'.adds (ownM K o)) (upd G p u) H := by
  obtain ⟨g, u, hu, f⟩ := w.mt (p, obP K b) List.mem_cons_self
  exact ⟨u, hu, f, g, w.toWd0.freeze hu, fun l' cls d σ G2 H2 x s2 => w.xk l' cls d σ G2 H2 x ((same_new g).trans s2)⟩
/-- what a frozen thing is worth -/
def obD : Ob → Option D
  | .lst ds => some (.list ds)
  | .ins C fs => some (.obj C (fs.map (·.1)) (fs.map (·.2)))
  | .dct kvs => some (.dict (kvs.map (·.1)) (kvs.map (·.2)))
theorem rp_frozen {p : Addr} {b : Ob} {d : D} {u : HO} {G : Hp} (f : obP K b G u) (g : G p = none) (h : obD b = some d) : Rp K (upd G p u) (.ref p) d := by
  have sn := same_new (o := u) g
  cases b with
  | lst ds =>
    cases h
    obtain ⟨vs, rfl, r⟩ := f
    exact .lst upd_same (r.mono sn)
  | ins C fs =>
    cases h
    obtain ⟨dx, gs, rfl, e, r⟩ := f
    have z := Rp.obj (K := K) (G := upd G p (.ins C dx gs)) (a := p) (fs := gs) (ds := fs.map (·.2)) upd_same (r.mono sn)
    rw [e] at z
    exact z
  | dct kvs =>
    cases h
    obtain ⟨us, rfl, e, r⟩ := f
    have z := Rp.dict (K := K) (G := upd G p (.dK us)) (a := p) (us := us) (ds := kvs.map (·.2)) upd_same (r.mono sn)
    rw [e] at z
    exact z
theorem runw_freeze {p : Addr} {b : Ob} {d : D} {i : Nat} (hi : ds[i]? = some (some (.raw (.ref p)))) (hb : obD b = some d) (h : RunW K M o (ds.set i (some d)) a E) : RunW K M ((p, b) :: o) ds a E := fun M' σ G H Z m s w z => by
  obtain ⟨u, hu, f, g, w2⟩ := w.freezeW
  have sn := same_new (o := u) g
  obtain ⟨v, e, r⟩ := s.at_ i _ hi
  have ev := r.raw_inv
  subst ev
  have s2 : Sg K (upd G p u) σ (ds.set i (some d)) := by
    have := (s.mono sn).set i (v := .ref p) (rp_frozen f g hb)
    have e2 : σ.set i (some (.ref p)) = σ := by
      apply List.ext_getElem?
      intro j
      rw [List.getElem?_set]
      by_cases hj : i = j
      · subst hj
        rw [if_pos rfl, e]
        split
        · rfl
        · rename_i hl
          have := (List.getElem?_eq_some_iff.mp e).1
          omega
      · rw [if_neg hj]
    rw [e2] at this
    exact this
  exact h M' σ (upd G p u) H Z m s2 w2 (z.mono sn)
theorem evw_freeze (h : EvW K M o ds te (fun o' d => ∃ p b o2 e, o' = (p, b) :: o2 ∧ d = .raw (.ref p) ∧ obD b = some e ∧ R o2 e)) : EvW K M o ds te R := fun M' σ G H Q m s w q =>
  h M' σ G H Q m s w fun v d o' G1 H1 s1 w1 r1 ⟨p, b, o2, e, e1, e2, hb, hR⟩ => by
    subst e1; subst e2
    have ev := r1.raw_inv
    subst ev
    obtain ⟨u, hu, f, g, w2⟩ := w1.freezeW
    exact q (.ref p) e o2 (upd G1 p u) H1 (s1.trans (same_new g)) w2 (rp_frozen f g hb) hR
/-! ### new things -/
theorem Wd.newW {M' : Mt} {p : Addr} {b : Ob} {u : HO} {G H : Hp} (w : Wd (M'.adds (ownM K o)) G H) (h : H p = none) (f : obP K b G u) : Wd (M'.adds (ownM K ((p, b) :: o))) G (upd H p u) := by
  have z := w.newM h f obP.mono
  exact ⟨z.toWd0, w.xk⟩
theorem evw_lst {ta : TA} {as : List D} (ha : EvA K (M.adds (ownM K o)) ds ta (· = as)) (hl : as.length ≤ 100000) : EvW K M o ds (tLst ta) (fun o' d => ∃ p, o' = (p, .lst as) :: o ∧ d = .raw (.ref p)) := fun M' σ G H Q m s w q =>
  ha (M'.adds (ownM K o)) σ G H _ m.adds2 s w fun vs es G1 H1 s1 w1 r1 e => by
    subst e
    exact ⟨by rw [r1.length]; exact Nat.le_trans hl (by decide), fun p hp => q (.ref p) (.raw (.ref p)) ((p, .lst es) :: o) G1 _ s1 (w1.newW hp ⟨vs, rfl, r1⟩) (.raw _) ⟨p, rfl, rfl⟩⟩
/-! ### lists that change -/
theorem Wd.putW {M' : Mt} {p : Addr} {b c : Ob} {u : HO} {G H : Hp} (w : Wd (M'.adds (ownM K ((p, b) :: o))) G H) (f : obP K c G u) : Wd (M'.adds (ownM K ((p, c) :: o))) G (upd H p u) := by
  have w0 : Wd ((M'.adds (ownM K o)).cons (p, obP K b)) G H := ⟨w.toWd0, w.xk⟩
  have z := w0.put f obP.mono
  exact ⟨z.toWd0, w.xk⟩
theorem Wd.atW {M' : Mt} {p : Addr} {b : Ob} {G H : Hp} (w : Wd (M'.adds (ownM K ((p, b) :: o))) G H) : ∃ u, H p = some u ∧ obP K b G u := by
  obtain ⟨g, u, hu, f⟩ := w.mt (p, obP K b) List.mem_cons_self
  exact ⟨u, hu, f⟩
theorem evw_append {to : TE} {tx : TE} {p : Addr} {xs : List D} {d : D} (ho : Ev K (M.adds (ownM K ((p, .lst xs) :: o))) ds to (· = .raw (.ref p))) (he : Ev K (M.adds (ownM K ((p, .lst xs) :: o))) ds tx (· = d)) (hl : xs.length < 100000) :
    EvW K M ((p, .lst xs) :: o) ds (tBM K "list" rAppend to (tCons tx tNil)) (fun o' r => o' = (p, .lst (xs ++ [d])) :: o ∧ r = .non) := fun M' σ G H Q m s w q =>
  ho (M'.adds _) σ G H _ m.adds2 s w fun v1 d1 G1 H1 s1 w1 r1 e1 => by
    subst e1
    have ev := r1.raw_inv
    subst ev
    obtain ⟨u, hu, vs0, eu, r0⟩ := w1.atW
    subst eu
    refine ⟨.inl ⟨rfl, vs0, sq hu⟩, he (M'.adds _) σ G1 H1 _ m.adds2 (s.mono s1) w1 fun v2 d2 G2 H2 s2 w2 r2 e2 => ?_⟩
    subst e2
    obtain ⟨u2, hu2, vs, eu2, r3⟩ := w2.atW
    subst eu2
    refine ⟨p, vs, v2, rfl, rfl, hu2, by rw [r3.length]; exact Nat.lt_of_lt_of_le hl (by decide), ?_⟩
    exact q .non .non _ G2 _ (s1.trans s2) (w2.putW (c := .lst _) ⟨_, rfl, r3.append (.cons r2 .nil)⟩) .non ⟨rfl, rfl⟩
theorem evw_clear {to : TE} {p : Addr} {xs : List D} (ho : Ev K (M.adds (ownM K ((p, .lst xs) :: o))) ds to (· = .raw (.ref p))) :
    EvW K M ((p, .lst xs) :: o) ds (tBM0 K "list" rClear to) (fun o' r => o' = (p, .lst []) :: o ∧ r = .non) := fun M' σ G H Q m s w q =>
  ho (M'.adds _) σ G H _ m.adds2 s w fun v1 d1 G1 H1 s1 w1 r1 e1 => by
    subst e1
    have ev := r1.raw_inv
    subst ev
    obtain ⟨u, hu, vs0, eu, r0⟩ := w1.atW
    subst eu
    exact ⟨.inl ⟨rfl, vs0, sq hu⟩, p, vs0, rfl, rfl, hu, q .non .non _ G1 _ s1 (w1.putW (c := .lst []) ⟨_, rfl, .nil⟩) .non ⟨rfl, rfl⟩⟩
/-- what is owned and never asked again -/
theorem evw_drop (h : EvW K M o ds te R) (f : ∀ o' d, R o' d → ∃ o2, R' o2 d ∧ o2.Sublist o') : EvW K M o ds te R' := fun M' σ G H Q m s w q =>
  h M' σ G H Q m s w fun v d o' G1 H1 s1 w1 r1 e => by
    obtain ⟨o2, e2, sb⟩ := f o' d e
    refine q v d o2 G1 H1 s1 ⟨w1.toWd0.less (List.Sublist.append (sb.map _) (List.Sublist.refl _)), w1.xk⟩ r1 e2
theorem runw_drop {o2 : Own} (sb : o2.Sublist o) (h : RunW K M o2 ds a E) : RunW K M o ds a E := fun M' σ G H Z m s w z =>
  h M' σ G H Z m s ⟨w.toWd0.less (List.Sublist.append (sb.map _) (List.Sublist.refl _)), w.xk⟩ z
end
end Rg
namespace Rg
open PySem PySem.Spec L2 RZ PyProof.Rows
/-! ### own classes: methods by what is true of the class -/
def tMeG (K : PySem.W.Frag) (f : Addr) (m : Str) (sp : Sp) (dvs : List V) (E : XK) (ta : TE) (t : TA) : TE := fun σ H Q => ta σ H fun x H1 => ∃ a C dx fs, x = .ref a ∧ H1 a = some (.ins C dx fs) ∧ Cls K C ∧ Meth K C m f ∧ fs.lookup m = none ∧
  t σ H1 fun vs H2 => sp (x :: (vs ++ dvs)) H2 Q E
def tMeGK (K : PySem.W.Frag) (f : Addr) (m : Str) (sp : Sp) (gV : List V → List V → List V) (E : XK) (ta : TE) (tk : TA) : TE := fun σ H Q => ta σ H fun x H1 => ∃ a C dx fs, x = .ref a ∧ H1 a = some (.ins C dx fs) ∧ Cls K C ∧ Meth K C m f ∧ fs.lookup m = none ∧
  tk σ H1 fun zs H2 => sp (gV [x] zs) H2 Q E
section
variable {X : Cx} {CX : CXT} {k : Nat} {f C : Addr} {fd : FuncData} {ps ks : List Str} {sp : Sp} {dvs : List V} {ds : List Value} {E : XK} {x m : Str} {p pos apos : Pos} {e o : Expr} {es : List Expr} {kws : List Keyword} {ta : TE} {t tk : TA} {K : PySem.W.Frag}
theorem pe_meG {pl : Sem Bool} (he : PE X o ta) (F : FnOk X.prog X.w X.K X.mg X.base CX k f fd ps sp) (hr : Room k X.A) (hb : Binds X.K fd ps ds) (hd : Vals dvs ds) (hx : Passes CX X E) (ha : PA X (e :: es) t) (hK : X.K = K := by rfl)
    (hst : starEach (e :: es) X.env = (false, eval e X.env) :: starEach es X.env := by rfl) (hpl : (backTo pos (starEach es X.env)).any (·.1) = false := by rfl)
    (ht : eval (.Call (.Attribute o m apos) (e :: es) [] pos) X.env = (do
      let ov ← eval o X.env
      standAt apos.atName
      let (f, first) ← holding [ov] (getMethod ov m pl)
      callWith pos f first (backTo pos (starEach (e :: es) X.env)) (backToKw pos (keywordEach [] X.env))) := by rfl) :
    PE X (.Call (.Attribute o m apos) (e :: es) [] pos) (tMeG K f m sp dvs E ta t) := by
  subst hK
  refine ⟨fun pins s σ H Q I h => ?_⟩
  refine PySem.W.methodCall_KW (pl := pl) (thn (he.run pins s σ H _ I h) fun u s1 ⟨x, H1, I1, rx, a, C, dx, fs, ex, ea, c, hm, l, q⟩ => ?_) ht
  subst ex
  obtain rfl : u = Value.ref a := rx
  refine getmeth_ok I1 ea c hm l ?_
  refine PySem.W.callWith_K (first := [.ref a]) (h₀ := X.base) I.ok.mod.kin hm.kp (thn (ha.run pos pins s1 σ H1 _ I1 q) fun us s2 ⟨vs, H2, I2, r, q2⟩ => ⟨I2.kIn, ?_⟩) hst hpl
  exact run_fn (us := .ref a :: us) (vs := .ref a :: vs) F hr hb hd hx I2 (.cons rfl r) q2
theorem pe_meG0 {pl : Sem Bool} (he : PE X o ta) (F : FnOk X.prog X.w X.K X.mg X.base CX k f fd ps sp) (hr : Room k X.A) (hb : Binds X.K fd ps ds) (hd : Vals dvs ds) (hx : Passes CX X E) (hK : X.K = K := by rfl)
    (ht : eval (.Call (.Attribute o m apos) [] [] pos) X.env = (do
      let ov ← eval o X.env
      standAt apos.atName
      let (f, first) ← holding [ov] (getMethod ov m pl)
      callWith pos f first (backTo pos (starEach [] X.env)) (backToKw pos (keywordEach [] X.env))) := by rfl) :
    PE X (.Call (.Attribute o m apos) [] [] pos) (tMeG K f m sp dvs E ta tNil) := by
  subst hK
  refine ⟨fun pins s σ H Q I h => ?_⟩
  refine PySem.W.methodCall_KW (pl := pl) (thn (he.run pins s σ H _ I h) fun u s1 ⟨x, H1, I1, rx, a, C, dx, fs, ex, ea, c, hm, l, q⟩ => ?_) ht
  subst ex
  obtain rfl : u = Value.ref a := rx
  refine getmeth_ok I1 ea c hm l ?_
  exact PySem.W.callWith_K0 (first := [.ref a]) I1.kIn hm.kp (run_fn (us := [.ref a]) (vs := [.ref a]) F hr hb hd hx I1 (.cons rfl .nil) q)
/-- o.m(k = v, ..) -/
theorem pe_meGK {pl : Sem Bool} {g : List Value → List Value → List Value} {gV : List V → List V → List V} (he : PE X o ta) (F : FnOk X.prog X.w X.K X.mg X.base CX k f fd ps sp) (hr : Room k X.A) (hb : KBinds X.K fd ps ks g gV) (hx : Passes CX X E) (hkw : PK X kws tk) (hK : X.K = K := by rfl)
    (hall : (backToKw pos (keywordEach kws X.env)).all (·.1.isSome) = true := by rfl) (hks : (backToKw pos (keywordEach kws X.env)).filterMap (·.1) = ks := by rfl)
    (hpl : ((backTo pos (starEach [] X.env)).any (·.1) || (backToKw pos (keywordEach kws X.env)).any (·.1.isNone)) = false := by rfl)
    (ht : eval (.Call (.Attribute o m apos) [] kws pos) X.env = (do
      let ov ← eval o X.env
      standAt apos.atName
      let (f, first) ← holding [ov] (getMethod ov m pl)
      callWith pos f first (backTo pos (starEach [] X.env)) (backToKw pos (keywordEach kws X.env))) := by rfl) :
    PE X (.Call (.Attribute o m apos) [] kws pos) (tMeGK K f m sp gV E ta tk) := by
  subst hK
  refine ⟨fun pins s σ H Q I h => ?_⟩
  refine PySem.W.methodCall_KW (pl := pl) (thn (he.run pins s σ H _ I h) fun u s1 ⟨x, H1, I1, rx, a, C, dx, fs, ex, ea, c, hm, l, q⟩ => ?_) ht
  subst ex
  obtain rfl : u = Value.ref a := rx
  refine getmeth_ok I1 ea c hm l ?_
  refine PySem.W.callWith_KW0 (first := [.ref a]) (h₀ := X.base) I1.ok.mod.kin hm.kp hall (thn (hkw.run pos pins s1 σ H1 _ I1 q) fun ws s2 ⟨zs, H2, I2, rz, q2⟩ => ⟨I2.kIn, ?_⟩) hpl
  rw [hks]
  exact run_fnk (us := [.ref a]) (vs := [.ref a]) F hr hb hx I2 (.cons rfl .nil) rz q2
theorem q_fld {f : Str} (he : PE X e ta) (hK : X.K = K := by rfl) (hb : attributeBase e f X.env (eval e X.env) = eval e X.env := by rfl) : PE X (.Attribute e f pos) (tFld K ta f) := hK ▸ pe_fld he hb
theorem q_con {f : Str} (he : PE X e ta) (hK : X.K = K := by rfl) (hb : attributeBase e f X.env (eval e X.env) = eval e X.env := by rfl) : PE X (.Attribute e f pos) (tCon K ta f) := hK ▸ pe_con he hb
theorem q_cval {f : Str} (he : PE X e ta) (hK : X.K = K := by rfl) (hb : attributeBase e f X.env (eval e X.env) = eval e X.env := by rfl) : PE X (.Attribute e f pos) (ClX.tCVal K ta f) := hK ▸ ClX.pe_cval he hb
end
/-! ### an exception that cannot be -/
theorem passF {X : Cx} : Passes (L2.CX X.prog X.w) X E0 := fun _ _ _ _ _ _ _ h => by
  obtain ⟨a, B, H', cls, d, _, _, _, _, _, _, _, q⟩ := h
  exact q.elim
theorem passT {X : Cx} {E : XK} (tk : Takes X (fun c d _ H => E c d H)) : Passes (L2.CX X.prog X.w) X E := fun pins σ H s e s' I h => tk e s' (XE.of_call I (fun cls d H' h => h) h)
end Rg
namespace PySem.W
open PySem PySem.Spec PySem.Calls PyProof.Rows
section
variable {prog : Program} {w : World} {A A₀ : Around} {E : Value → Shared → Prop} {s : Shared} {K : Frag} {x y C C' L f : Addr} {h₀ : Heap} {m : Str → Option Value} {ox oy : Obj} {od odd : Option Obj} {name : Str} {b tb : Value}
theorem ifBound_B {M : Model} {args : List Value} {id : String} {Q : Option Value → Shared → Prop} (X : K.In s.heap) (I : InstAt s.heap x ox C od) (hs : findIn K (.ref C) name = some (some (.builtin id))) (hb : ∀ self, bindSpecial (.builtin id) self = pure (.builtin id, [self]))
    (h : wpAny M A (call (.builtin id) (.ref x :: args)) (fun v => Q (some v)) E s) : wpAny M A (callSpecialIfBound? (.ref x) name args) Q E s := by
  simp only [callSpecialIfBound?, bindSpecialIfBound?]
  refine wpAny_holding (wpAny_bind (wpAny_bind (wpAny_bind (I.type.here ((looks_findIn X hs).here ?_)))))
  refine wpAny_bind (wpAny_askSetting (wpAny_ite ?_))
  have fin : wpAny M A (call (.builtin id) ([.ref x] ++ args) >>= fun v => pure (some v)) Q E s := wpAny_bind (wpAny_mono h (fun v s' h' => wpAny_pure h') fun _ _ h' => h')
  split
  · exact wpAny_bind ((Looks.of_pure (hb _)).here (wpAny_pure (by exact fin)))
  · exact wpAny_tryCatch (wpAny_bind ((Looks.of_pure (hb _)).here (wpAny_pure (by exact fin))))
/-- x == y, y of a class below x's: y's def is asked first -/
theorem cmp_R {Q : Value → Shared → Prop} (hu : A.units < cLine) (F : Fr h₀ L s.heap m) (X₀ : K.In h₀) (I : InstAt s.heap x ox C od) (I' : InstAt s.heap y oy C' odd) (hn : (Value.ref C != Value.ref C') = true) (hsub : subIn K (.ref C') (.ref C) = some true)
    (hs : findIn K (.ref C') "__eq__" = some (some (.ref f))) (hf : isFn K (.ref f) = true)
    (h : wpAny (model prog w) A (call (.ref f) [.ref y, .ref x]) (CmpBack Q) E s) : wpAny (model prog w) A (richCompare .Eq (.ref x) (.ref y)) Q E s := by
  have X := X₀.keeps F.keep
  have one : wpAny (model prog w) A (tryCompare (.ref y) "__eq__" (.ref x)) (fun r s' => ∃ v, r = some v ∧ Q v s') E s := by
    unfold tryCompare
    refine wpAny_bind (ifBound_K X I' hs hf (wpAny_mono h (fun v s' hv => ?_) fun _ _ e => e))
    cases v <;> first | exact hv.elim | exact wpAny_pure ⟨_, rfl, hv⟩
  unfold richCompare
  simp only [oneThing_ref]
  refine wpAny_holding (wpAny_bind (wpAny_cRoomFor hu ?_))
  refine wpAny_bind (I.type.here (wpAny_bind (I'.type.here ?_)))
  rw [if_pos hn]
  refine wpAny_bind ((looks_subIn X hsub).here ?_)
  simp only [if_true]
  refine wpAny_bind (m := tryCompare (.ref y) "__eq__" (.ref x)) (wpAny_mono one (fun r s' z => ?_) fun _ _ e => e)
  obtain ⟨v, rfl, hq⟩ := z
  first
    | exact wpAny_bind (wpAny_rule (wpAny_pure hq))
    | exact wpAny_pure hq
theorem ne_bind (self : Value) : bindSpecial (.builtin "object.__ne__") self = pure (.builtin "object.__ne__", [self]) := PySem.F.cmp_object.ne.bind self
theorem ne_K {Q : Value → Shared → Prop} (hu : A.units + 1 < cLine) (F : Fr h₀ L s.heap m) (X₀ : K.In h₀) (I : InstAt s.heap x ox C od) (hb : Looks (model prog w) s.heap (typeOf b) tb) (hn : notFirst K C tb = true)
    (hne : findIn K (.ref C) "__ne__" = some (some (.builtin "object.__ne__"))) (ho : mroIn K C (.type "object") = some true) (hs : findIn K (.ref C) "__eq__" = some (some (.ref f))) (hf : isFn K (.ref f) = true)
    (h : wpAny (model prog w) A.in1 (call (.ref f) [.ref x, b]) (BoolBack fun r s' => Q (.bool (!r)) s') E s) : wpAny (model prog w) A (richCompare .NotEq (.ref x) b) Q E s := by
  have X := X₀.keeps F.keep
  have one : wpAny (model prog w) A (tryCompare (.ref x) "__ne__" b) (fun r s' => ∃ v, r = some v ∧ Q v s') E s := by
    unfold tryCompare
    refine wpAny_bind (ifBound_B X I hne ne_bind (wpAny_call (codeAny_call_builtin PySem.F.cmp_object.ne.plain PySem.F.cmpEntry_ne (@check_slot (model prog w) _ _ s "object.__ne__" "object" "__ne__" (.ref x) [b] [] _ PySem.F.cmpKind_ne PySem.F.cmpSplit_ne (I.type.andThen (looks_mroIn X ho)) (PySem.F.cmpArgs_ne _ _) ?_))))
    unfold Builtin.«object.__ne__»
    have hu1 : A.in1.units < cLine := hu
    repeat (first | with_reducible refine wpAny_cRoomFor hu1 ?_ | (with_reducible refine ifBound_K X I hs hf (wpAny_mono h ?mono fun _ _ e => e)) | wp_step)
    intro v s' hv
    cases v <;> first | exact hv.elim | skip
    rename_i c
    cases c
    · repeat wp_step
      exact ⟨_, rfl, hv⟩
    · repeat wp_step
      exact ⟨_, rfl, hv⟩
  unfold richCompare
  simp only [oneThing_ref]
  refine wpAny_holding (wpAny_bind (wpAny_cRoomFor (by omega) ?_))
  refine wpAny_bind (I.type.here (wpAny_bind (hb.here ?_)))
  split
  · rename_i q
    have e : subIn K tb (.ref C) = some false := by
      rcases Bool.or_eq_true_iff.mp hn with e | e
      · rw [beq_iff_eq.mp e] at q; simp at q
      · exact beq_iff_eq.mp e
    refine wpAny_bind ((looks_subIn X e).here ?_)
    simp only [Bool.false_eq_true, if_false]
    refine wpAny_bind (m := tryCompare (.ref x) "__ne__" b) (wpAny_mono one (fun r s' z => ?_) fun _ _ e => e)
    obtain ⟨v, rfl, hq⟩ := z
    exact wpAny_pure hq
  · refine wpAny_bind (wpAny_pure ?_)
    simp only [Bool.false_eq_true, if_false]
    refine wpAny_bind (m := tryCompare (.ref x) "__ne__" b) (wpAny_mono one (fun r s' z => ?_) fun _ _ e => e)
    obtain ⟨v, rfl, hq⟩ := z
    exact wpAny_pure hq
end
end PySem.W
namespace Rg
open PySem PySem.Spec L2 RZ PyProof.Rows
/-! ### own ==, !=, repr -/
section
variable {X : Cx} {CX : CXT} {k : Nat} {f C : Addr} {fd : FuncData} {ps : List Str} {sp : Sp} {E : XK} {pins : List (Addr × Obj)} {σ : L2.St} {H : Hp} {s : Shared} {Q : VK} {us : List Value} {vs : List V} {K : PySem.W.Frag}
theorem ty_looks {x : V} {u t : Value} (I : Inv X pins σ H s) (rx : RelV x u) (ty : TyX X.K H x t) : PySem.W.Looks (model X.prog X.w) s.heap (typeOf u) t := by
  obtain ⟨P, Z, p, _⟩ := kit_of I rx ty
  exact Z.ty _ _ I.kIn p
theorem ins_at {a C dx : Addr} {fs : List (Str × V)} (I : Inv X pins σ H s) (e : H a = some (.ins C dx fs)) : ∃ ox od, PySem.W.InstAt s.heap a ox C (some od) := by
  obtain ⟨mA, O, _⟩ := ins_get I.hok e
  obtain ⟨od, J, _⟩ := O.look
  exact ⟨_, od, J⟩
theorem run_fnA {A : Around} (F : FnOk X.prog X.w X.K X.mg X.base CX k f fd ps sp) (hr : Room k A) (e0 : Env0 X.prog X.w X.K X.mg X.base A X.stack s H) (hb : Binds X.K fd ps []) (hx : Passes CX X E) (I : Inv X pins σ H s) (r : Vals vs us) (h : sp vs H Q E) :
    wpAny (model X.prog X.w) A (call (.ref f) us) (EP X pins σ Q) X.xe s := by
  have hl : us.length = ps.length := by rw [← r.length]; exact F.len _ _ _ _ h
  have b := hb s us I.kIn (by rw [List.append_nil]; exact hl)
  rw [List.append_nil] at b
  refine wpAny_call (codeAny_mono (F.run A X.stack s H ⟨us, []⟩ us vs Q E hr e0 b r h) fun r s' hq => ?_)
  cases r with
  | error e => exact hx pins σ H s e s' I hq
  | ok fl =>
    cases fl with
    | ret u => exact I.after hq
    | next => exact False.elim hq
    | brk => exact False.elim hq
    | cont => exact False.elim hq
theorem cmpback {P : Value → Shared → Prop} {z : V} {v : Value} {s' : Shared} (r : RelV z v) (h : P v s') : PySem.W.CmpBack P v s' := by
  cases z with
  | non => cases (show v = Value.none from r); exact h
  | bl b => cases (show v = Value.bool b from r); exact h
  | int i => obtain ⟨t, e⟩ := (show ∃ t, v = Value.int i t from r); cases e; exact h
  | str i => obtain ⟨t, e⟩ := (show ∃ t, v = Value.str i t from r); cases e; exact h
  | byt i => obtain ⟨t, e⟩ := (show ∃ t, v = Value.bytes i t from r); cases e; exact h
  | flt i => obtain ⟨t, e⟩ := (show ∃ t, v = Value.float i t from r); cases e; exact h
  | ref i => cases (show v = Value.ref i from r); exact h
  | ty n => cases (show v = Value.type n from r); exact h
def rEqO (K : PySem.W.Frag) (f : Addr) (sp : Sp) (E : XK) : R2 := fun x y H Q => ∃ a C dx fs, x = .ref a ∧ H a = some (.ins C dx fs) ∧
  ((∃ tb, PySem.W.findIn K (.ref C) "__eq__" = some (some (.ref f)) ∧ TyX K H y tb ∧ PySem.W.notFirst K C tb = true ∧ sp [x, y] H Q E) ∨
   ∃ b C' dy gs, y = .ref b ∧ H b = some (.ins C' dy gs) ∧ C ≠ C' ∧ PySem.W.subIn K (.ref C') (.ref C) = some true ∧ PySem.W.findIn K (.ref C') "__eq__" = some (some (.ref f)) ∧ sp [y, x] H Q E)
theorem q_eqO (hf : PySem.W.isFn X.K (.ref f) = true) (F : FnOk X.prog X.w X.K X.mg X.base CX k f fd ps sp) (hr : Room k X.A) (hb : Binds X.K fd ps []) (hx : Passes CX X E) (hK : X.K = K := by rfl) : OpR X (compareOp .Eq) (rEqO K f sp E) := by
  subst hK
  intro pins s σ H x y v u Q I rx ry h
  obtain ⟨a, C, dx, fs, rfl, ea, h⟩ := h
  cases (show v = Value.ref a from rx)
  obtain ⟨ox, od, J⟩ := ins_at I ea
  obtain ⟨m, hF⟩ := I.fr
  have hu : X.A.units < cLine := by have := hr.un; omega
  show wpAny (model X.prog X.w) X.A (richCompare .Eq (.ref a) u) _ _ s
  rcases h with ⟨tb, hs, ty, hn, q⟩ | ⟨b, C', dy, gs, rfl, eb, hne, hsub, hs, q⟩
  · refine PySem.W.cmp_K (op := .Eq) (tb := tb) hu hF I.ok.mod.kin J (ty_looks I ry ty) hn hs hf ?_
    exact wpAny_mono (run_fnA (us := [.ref a, u]) (vs := [.ref a, y]) F hr I.env0 hb hx I (.cons rfl (.cons ry .nil)) q) (fun w s' z => let ⟨z', H', I', rz, qz⟩ := z; cmpback rz ⟨z', H', I', rz, qz⟩) fun _ _ x => x
  · cases (show u = Value.ref b from ry)
    obtain ⟨oy, odd, J'⟩ := ins_at I eb
    refine PySem.W.cmp_R hu hF I.ok.mod.kin J J' (by simp [hne]) hsub hs hf ?_
    exact wpAny_mono (run_fnA (us := [.ref b, .ref a]) (vs := [.ref b, .ref a]) F hr I.env0 hb hx I (.cons rfl (.cons rfl .nil)) q) (fun w s' z => let ⟨z', H', I', rz, qz⟩ := z; cmpback rz ⟨z', H', I', rz, qz⟩) fun _ _ x => x
def rNeO (K : PySem.W.Frag) (f : Addr) (sp : Sp) (E : XK) : R2 := fun x y H Q => ∃ a C dx fs tb, x = .ref a ∧ H a = some (.ins C dx fs) ∧ PySem.W.findIn K (.ref C) "__ne__" = some (some (.builtin "object.__ne__")) ∧ PySem.W.mroIn K C (.type "object") = some true ∧
  PySem.W.findIn K (.ref C) "__eq__" = some (some (.ref f)) ∧ TyX K H y tb ∧ PySem.W.notFirst K C tb = true ∧ sp [x, y] H (fun z H' => ∃ b, z = .bl b ∧ Q (.bl (!b)) H') E
theorem q_neO (hf : PySem.W.isFn X.K (.ref f) = true) (F : FnOk X.prog X.w X.K X.mg X.base CX k f fd ps sp) (hr : Room (k + 1) X.A) (hb : Binds X.K fd ps []) (hx : Passes CX X E) (hK : X.K = K := by rfl) : OpR X (compareOp .NotEq) (rNeO K f sp E) := by
  subst hK
  intro pins s σ H x y v u Q I rx ry h
  obtain ⟨a, C, dx, fs, tb, rfl, ea, hne, ho, hs, ty, hn, q⟩ := h
  cases (show v = Value.ref a from rx)
  obtain ⟨ox, od, J⟩ := ins_at I ea
  obtain ⟨m, hF⟩ := I.fr
  show wpAny (model X.prog X.w) X.A (richCompare .NotEq (.ref a) u) _ _ s
  refine PySem.W.ne_K (by have := hr.un; omega) hF I.ok.mod.kin J (ty_looks I ry ty) hn hne ho hs hf ?_
  refine wpAny_mono (run_fnA (us := [.ref a, u]) (vs := [.ref a, y]) F hr.in1 I.env0.in1 hb hx I (.cons rfl (.cons ry .nil)) q) (fun w s' z => ?_) fun _ _ x => x
  obtain ⟨z', H', I', rz, b, eb, qz⟩ := z
  subst eb
  cases (show w = Value.bool b from rz)
  exact ⟨.bl (!b), H', I', rfl, qz⟩
def rReprO (K : PySem.W.Frag) (f : Addr) (sp : Sp) (E : XK) : List V → Hp → VK → Prop := fun xs H Q => ∃ a C dx fs, xs = [.ref a] ∧ H a = some (.ins C dx fs) ∧ PySem.W.findIn K (.ref C) "__repr__" = some (some (.ref f)) ∧ sp [.ref a] H (fun z H' => ∃ y, z = .str y ∧ Q z H') E
theorem q_reprO (hf : PySem.W.isFn X.K (.ref f) = true) (F : FnOk X.prog X.w X.K X.mg X.base CX k f fd ps sp) (hr : Room (k + 1) X.A) (hb : Binds X.K fd ps []) (hx : Passes CX X E) (hK : X.K = K := by rfl) : CallR X (.builtin "repr") (rReprO K f sp E) := by
  subst hK
  intro pins s σ H xs us Q I r h
  obtain ⟨a, C, dx, fs, rfl, ea, hs, q⟩ := h
  obtain ⟨u, rfl, ru⟩ := r.one
  cases (show u = Value.ref a from ru)
  obtain ⟨ox, od, J⟩ := ins_at I ea
  obtain ⟨m, hF⟩ := I.fr
  refine PySem.W.repr_K (by have := hr.in1.un; omega) hF I.ok.mod.kin J hs hf ?_
  refine wpAny_mono (run_fnA (us := [.ref a]) (vs := [.ref a]) F hr.in1 I.env0.in1 hb hx I (.cons rfl .nil) q) (fun w s' z => ?_) fun _ _ x => x
  obtain ⟨z', H', I', rz, y, eb, qz⟩ := z
  subst eb
  obtain ⟨t, e⟩ := (show ∃ t, w = Value.str y t from rz)
  cases e
  exact ⟨.str y, H', I', ⟨t, rfl⟩, qz⟩
end
end Rg
namespace Rg
open PySem PySem.Spec L2 RZ PyProof.Rows
/-! ### sorted of a list of data, any length -/
def leT (p q : V × PyData) : Bool := !PySem.W.dataLt q.2 p.2
def rSortDt (K : PySem.W.Frag) : List V → Hp → VK → Prop := fun vs H Q => ∃ (a : Addr) (xs : List V) (ds : List PyData), vs = [.ref a] ∧ SqL K H a xs ∧ DpAll K H xs ds ∧ PySem.W.AllAlike ds ∧ PySem.W.Sortable ds ∧ (∀ d ∈ ds, d.depth ≤ 64) ∧
  ∀ p, H p = none → Q (.ref p) (upd H p (.lst (((xs.zip ds).mergeSort leT).map (·.1))))
section
variable {X : Cx} {K : PySem.W.Frag}
theorem dps_len {H : Hp} : ∀ {xs : List V} {ds : List PyData}, DpAll K H xs ds → xs.length = ds.length
  | _, _, .nil => rfl
  | _, _, .cons _ r => by rw [List.length_cons, List.length_cons, dps_len r]
theorem each_of {pins : List (Addr × Obj)} {σ : L2.St} {H : Hp} {s : Shared} (I : Inv X pins σ H s) : ∀ {xs : List V} {ds : List PyData} {us : List Value}, DpAll X.K H xs ds → Vals xs us →
    PySem.W.EachIs (fun v (b : V × PyData) => RelV b.1 v) us (xs.zip ds) ∧ PySem.W.EachIs (fun v (b : V × PyData) => ∃ as, Reads s.heap v b.2 as) us (xs.zip ds)
  | _, _, _, .nil, .nil => ⟨.nil, .nil⟩
  | _, _, _, .cons h r, .cons rv rt => by
    obtain ⟨e1, e2⟩ := each_of I r rt
    exact ⟨.cons rv e1, .cons (Dp.reads I _ _ _ h rv) e2⟩
theorem vals_each : ∀ {us : List Value} {bs : List (V × PyData)}, PySem.W.EachIs (fun v (b : V × PyData) => RelV b.1 v) us bs → Vals (bs.map (·.1)) us
  | _, _, .nil => .nil
  | _, _, .cons h r => .cons h (vals_each r)
theorem q_sortDt (hu : X.A.units + 70 < cLine) (hK : X.K = K := by rfl) : CallR X (.builtin "sorted") (rSortDt K) := by
  subst hK
  intro pins s σ H vs us Q I r h
  obtain ⟨a, xs, ds, rfl, hs, hd, hal, hk, hdp, q⟩ := h
  obtain ⟨its, rv, hl, hLL⟩ := I.list hs
  rw [Vals.ref1 r]
  have hlen0 := rv.length
  obtain ⟨e1, e2⟩ := each_of I hd rv
  have hz : (xs.zip ds).length = xs.length := by rw [List.length_zip, dps_len hd, Nat.min_self]
  have hmap : (xs.zip ds).map (·.2) = ds := List.map_snd_zip (Nat.le_of_eq (dps_len hd).symm)
  have hsz : xs.length ≤ sizeLine := hLL
  refine PySem.W.sorted_data (bs := xs.zip ds) (enc := (·.2)) (R := fun v (b : V × PyData) => RelV b.1 v) hl.isList e1 e2 (by rw [hmap]; exact hal) (by rw [hmap]; exact hk) (by rw [hz]; exact hsz) (fun b hb => ?_) fun out hlo ho => ?_
  · have := hdp b.2 (by rw [← hmap]; exact List.mem_map.mpr ⟨b, hb, rfl⟩)
    omega
  · obtain ⟨ep, he'⟩ := PyProof.Rows.sortedAll_at s.heap its (List.toArray out)
    have ev : Vals (((xs.zip ds).mergeSort leT).map (·.1)) out := vals_each ho
    refine ⟨.ref _, upd H (s.heap.objs.size + 1) (.lst (((xs.zip ds).mergeSort leT).map (·.1))), I.laid (t' := s.toks) (fun _ _ => PyProof.Rows.sortedAll_old) (Nat.le_succ _) ⟨by rw [ev.length, hlo, hz]; exact hsz, out, ep, ev, ?_⟩, rfl, q _ (I.hok.fresh (Nat.le_succ _))⟩
    exact he'
end
/-! told of the data -/
def leD (a b : D) : Bool := !PySem.W.dataLt (pyT b) (pyT a)
def sortD (ds : List D) : List D := ds.mergeSort leD
theorem pyTs_map : ∀ ds : List D, pyTs ds = ds.map pyT
  | [] => rfl
  | d :: r => by show pyT d :: pyTs r = _; rw [pyTs_map r]; rfl
theorem rpAll_of {K : PySem.W.Frag} {G : Hp} : ∀ {l : List (V × D)}, (∀ p ∈ l, Rp K G p.1 p.2) → RpAll K G (l.map (·.1)) (l.map (·.2))
  | [], _ => .nil
  | p :: r, h => .cons (h p List.mem_cons_self) (rpAll_of fun q hq => h q (List.mem_cons_of_mem _ hq))
theorem rpAll_zip {K : PySem.W.Frag} {G : Hp} : ∀ {vs : List V} {ds : List D}, RpAll K G vs ds → ∀ p ∈ vs.zip ds, Rp K G p.1 p.2
  | _, _, .nil, p, h => by cases h
  | _, _, .cons h r, p, hp => by
    rcases List.mem_cons.mp hp with e | e
    · rw [e]; exact h
    · exact rpAll_zip r p e
/-- data that can be sorted together -/
def srtD (n : Nat) (ds : List D) : Prop := ds.all (flD n) = true ∧ PySem.W.AllAlike (ds.map pyT) ∧ PySem.W.Sortable (ds.map pyT)
section
variable {K : PySem.W.Frag} {M : Mt}
theorem cd_sortD {n : Nat} {ds : List D} (h : srtD n ds) (hn : n ≤ 64 := by decide) : CallD K M (rSortDt K) [.list ds] (· = .list (sortD ds)) := fun M' G H xs Q m r w q => by
  cases r with
  | cons p r =>
    cases r
    obtain ⟨a, us, rfl, hx, ru⟩ := p.list_inv
    have dp := dps_of w.sub h.1 ru
    rw [pyTs_map] at dp
    refine ⟨a, us, ds.map pyT, rfl, w.sub.seq hx, dp, h.2.1, h.2.2, fun d hd => ?_, fun p hp => ?_⟩
    · obtain ⟨e, he, rfl⟩ := List.mem_map.mp hd
      exact Nat.le_trans (lay_of n e (List.all_eq_true.mp h.1 e he)).2 hn
    · have sn := same_new (o := HO.lst (((us.zip (ds.map pyT)).mergeSort leT).map (·.1))) (w.free hp)
      refine q (.ref p) _ _ _ sn (w.new hp) (.lst upd_same (RpAll.mono sn ?_)) rfl
      have e1 : us.zip (ds.map pyT) = (us.zip ds).map fun p => (p.1, pyT p.2) := by
        rw [List.zip_map_right]; rfl
      have e2 : (us.zip (ds.map pyT)).mergeSort leT = ((us.zip ds).mergeSort fun p q => leD p.2 q.2).map fun p => (p.1, pyT p.2) := by
        rw [e1, List.map_mergeSort (s := leT)]
        intro a _ b _; rfl
      have e3 : sortD ds = ((us.zip ds).mergeSort fun p q => leD p.2 q.2).map (·.2) := by
        rw [List.map_mergeSort (s := leD) (fun a _ b _ => rfl), List.map_snd_zip (Nat.le_of_eq ru.length.symm)]
        rfl
      rw [e2, e3, List.map_map]
      exact rpAll_of fun p hp => rpAll_zip ru p ((List.mergeSort_perm _ _).mem_iff.mp hp)
variable {o : Own} {ds : DS} {te : TE}
theorem evw_sortD {n : Nat} {es : List D} (he : Ev K (M.adds (ownM K o)) ds te (· = .list es)) (h : srtD n es) (hn : n ≤ 64 := by decide) : EvW K M o ds (tCB (rSortDt K) (tCons te tNil)) (fun o' d => ∃ p, o' = (p, .lst (sortD es)) :: o ∧ d = .raw (.ref p)) := fun M' σ G H Q m s w q =>
  he (M'.adds (ownM K o)) σ G H _ m.adds2 s w fun v d G1 H1 s1 w1 r1 e => by
    subst e
    obtain ⟨a, us, rfl, hx, ru⟩ := r1.list_inv
    have dp := dps_of w1.sub h.1 ru
    rw [pyTs_map] at dp
    refine ⟨a, us, es.map pyT, rfl, w1.sub.seq hx, dp, h.2.1, h.2.2, fun d hd => ?_, fun p hp => ?_⟩
    · obtain ⟨e, he, rfl⟩ := List.mem_map.mp hd
      exact Nat.le_trans (lay_of n e (List.all_eq_true.mp h.1 e he)).2 hn
    · refine q (.ref p) (.raw (.ref p)) ((p, .lst (sortD es)) :: o) G1 _ s1 (w1.newW hp ⟨_, rfl, ?_⟩) (.raw _) ⟨p, rfl, rfl⟩
      have e1 : us.zip (es.map pyT) = (us.zip es).map fun p => (p.1, pyT p.2) := by
        rw [List.zip_map_right]; rfl
      have e2 : (us.zip (es.map pyT)).mergeSort leT = ((us.zip es).mergeSort fun p q => leD p.2 q.2).map fun p => (p.1, pyT p.2) := by
        rw [e1, List.map_mergeSort (s := leT)]
        intro a _ b _; rfl
      have e3 : sortD es = ((us.zip es).mergeSort fun p q => leD p.2 q.2).map (·.2) := by
        rw [List.map_mergeSort (s := leD) (fun a _ b _ => rfl), List.map_snd_zip (Nat.le_of_eq ru.length.symm)]
        rfl
      rw [e2, e3, List.map_map]
      exact rpAll_of fun p hp => rpAll_zip ru p ((List.mergeSort_perm _ _).mem_iff.mp hp)
end
end Rg
namespace Rg
open PySem PySem.Spec L2 RZ PyProof.Rows
/-! ### a def's promise over what is owned -/
/-- pre: what changes besides, what is owned, the arguments; post, px: what is owned behind it, what it gives or raises -/
def spW (K : PySem.W.Frag) (pre : Ml → Own → List D → Prop) (post px : Own → List D → Own → D → Prop) : Sp := fun vs H Q E => ∃ M o G as, Wd0 (ownM K o ++ M) G H ∧ RpAll K G vs as ∧ pre M o as ∧
  (∀ v d o' G' H', Same G G' → Wd0 (ownM K o' ++ M) G' H' → Rp K G' v d → post o as o' d → Q v H') ∧ ∀ c dx x o' G' H', Same G G' → Wd0 (ownM K o' ++ M) G' H' → XRp K G' c dx x → px o as o' x → E c dx H'
abbrev noX : Own → List D → Own → D → Prop := fun _ _ _ _ => False
abbrev mfnW (K : PySem.W.Frag) (M : Ml) (E : XK) (px : Own → D → Prop) : Mt := { l := M, b := M, sub := List.Sublist.refl _, ex := fun l' G _ c d => ∃ o' x, l' = ownM K o' ∧ px o' x ∧ XRp K G c d x, W := fun c d _ H => E c d H }
/-- M takes the exception x from the slots ds, o2 of what is owned is handed on -/
def ExkW (K : PySem.W.Frag) (M : Mt) (o2 : Own) (x : D) (ds : DS) : Prop := ∀ G σ c d, XRp K G c d x → Sg K G σ ds → M.ex (ownM K o2) G σ c d
theorem exkw_fn {K : PySem.W.Frag} {M : Ml} {E : XK} {px : Own → D → Prop} {o2 : Own} {x : D} {ds : DS} (h : px o2 x) : ExkW K (mfnW K M E px) o2 x ds := fun _ _ _ _ hx _ => ⟨o2, x, rfl, h, hx⟩
theorem ownM_app (K : PySem.W.Frag) (a b : Own) : ownM K (a ++ b) = ownM K a ++ ownM K b := List.map_append
section
variable {P : Program} {w : World} {K : PySem.W.Frag} {mg : Str → Option Value} {base : Heap} {pre : Ml → Own → List D → Prop} {post px : Own → List D → Own → D → Prop}
theorem spW_run {N : List Str} {t : TS} {vs : List V} {H : Hp} {Q : VK} {E : XK} (hrun : ∀ M o as, pre M o as → RunW K (mfnW K M E (px o as)) o (as.map some ++ List.replicate (N.length - as.length) none) t { nx := fun o' _ => post o as o' .non, rt := post o as }) (h : spW K pre post px vs H Q E) :
    t { nx := fun _ H' => Q .non H', rt := Q } (start N vs) H := by
  obtain ⟨M, o, G, as, wd, r, hp, q, qx⟩ := h
  exact hrun M o as hp _ _ G H _ (MSub.refl _) (Sg.start r) ⟨wd, fun l' c d σ' G' H' ⟨o', x, el, hpx, hx⟩ s' w' => qx c d x o' G' H' s' (by subst el; exact w') hx hpx⟩
    ⟨fun o' ds' σ' G' H' e s' _ w' => q _ _ o' G' H' s' w'.toWd0 .non e, fun v o' d G' H' e s' r' w' => q v d o' G' H' s' w'.toWd0 r' e, fun _ _ _ _ _ e => e.elim, fun _ _ _ _ _ e => e.elim⟩
theorem spW_len {vs : List V} {H : Hp} {Q : VK} {E : XK} {n : Nat} (hl : ∀ M o as, pre M o as → as.length = n) (h : spW K pre post px vs H Q E) : vs.length = n := by
  obtain ⟨M, o, G, as, _, r, hp, _⟩ := h
  rw [r.length]
  exact hl M o as hp
theorem fn_runW {x qual : Str} {st : Stmt} {f : Addr} {fd : FuncData} {N ps : List Str} {k : Nat} (F : Fun K x qual st f fd) (S : FnScope N ps (defScope st)) (hl : ∀ M o as, pre M o as → as.length = ps.length)
    (body : ∀ (cdv : Value) (A : Around) (outer : List Env) (s : Shared) (H : Hp) (E : XK), Room k (A.deeper (envOfC qual (defScope st) s.heap.objs.size f cdv)) →
      ∃ t, PSs (cxOf CX0 P w K mg base N qual (defScope st) f cdv A outer s H E).nox (defBody st) t ∧
        ∀ (M : Mt) o as, pre M.l o as → RunW K M o (as.map some ++ List.replicate (N.length - as.length) none) t { nx := fun o' _ => post o as o' .non, rt := post o as }) : FnOk P w K mg base CX0 (k + 1) f fd ps (spW K pre post noX) := by
  refine F.ok S (fun vs H Q E h => spW_len hl h) (fun cdv A outer s H vs Q E hr h => ?_)
  obtain ⟨t, ht, hrun⟩ := body cdv A outer s H E hr
  exact ⟨t, ht, spW_run (fun M o as hp => hrun _ o as hp) h⟩
theorem fn_runWX {x qual : Str} {st : Stmt} {f : Addr} {fd : FuncData} {N ps : List Str} {k : Nat} (F : Fun K x qual st f fd) (S : FnScope N ps (defScope st)) (hl : ∀ M o as, pre M o as → as.length = ps.length)
    (body : ∀ (X : Cx) (cdv : Value) (A : Around) (outer : List Env) (s : Shared) (H : Hp) (E : XK), X = cxOf (L2.CX P w) P w K mg base N qual (defScope st) f cdv A outer s H E → Room k (A.deeper (envOfC qual (defScope st) s.heap.objs.size f cdv)) → Takes X (fun c d _ H => E c d H) →
      ∃ t, PSs (cxOf (L2.CX P w) P w K mg base N qual (defScope st) f cdv A outer s H E) (defBody st) t ∧
        ∀ (M : Ml) o as, pre M o as → RunW K (mfnW K M E (px o as)) o (as.map some ++ List.replicate (N.length - as.length) none) t { nx := fun o' _ => post o as o' .non, rt := post o as }) : FnOk P w K mg base (L2.CX P w) (k + 1) f fd ps (spW K pre post px) := by
  refine F.okX S (fun vs H Q E h => spW_len hl h) (fun cdv A outer s H vs Q E hr h => ?_)
  obtain ⟨t, ht, hrun⟩ := body _ cdv A outer s H E rfl hr (takes_of (X := cxOf (L2.CX P w) P w K mg base N qual (defScope st) f cdv A outer s H E) rfl rfl rfl rfl)
  exact ⟨t, ht, spW_run hrun h⟩
end
section
variable {K : PySem.W.Frag} {M : Mt} {o o1 o2 : Own} {ds : DS} {te to : TE} {ta : TA} {R : Own → D → Prop} {E : XK} {pre : Ml → Own → List D → Prop} {post px : Own → List D → Own → D → Prop}
/-- an exception leaves with what is owned -/
theorem Wd.toWW {M' : Mt} {W : WX} {G G1 H H1 : Hp} {σ : L2.St} {c : Value} {dx : Option Addr} {x : D} {o o' o3 : Own} (w : Wd (M'.adds (ownM K o)) G H) (m : MSub M M') (hW : M.W = W) (s1 : Same G G1) (w1 : Wd0 (ownM K o' ++ M'.l) G1 H1) (sb : o3.Sublist o') (sg : Sg K G1 σ ds) (hx : XRp K G1 c dx x) (k : ExkW K M o3 x ds) : W c dx σ H1 := by
  have z := w.xk (ownM K o3) c dx σ G1 H1 (by show M'.ex _ _ _ _ _; rw [m.ex]; exact k G1 σ c dx hx sg) s1 (w1.less (List.Sublist.append (sb.map _) M'.sub))
  have z : M'.W c dx σ H1 := z
  rw [m.W, hW] at z
  exact z
/-- a call: o1 is handed to the callee, o2 stays -/
theorem evw_call {RA : List D → Prop} (ha : EvA K (M.adds (ownM K (o1 ++ o2))) ds ta RA) (h : ∀ as, RA as → (∀ M', MSub M M' → pre (ownM K o2 ++ M'.l) o1 as) ∧ (∀ o' d, post o1 as o' d → R (o' ++ o2) d) ∧ ∀ o' x, ¬ px o1 as o' x) :
    EvW K M (o1 ++ o2) ds (tCall (spW K pre post px) [] E ta) R := fun M' σ G H Q m s w q =>
  ha (M'.adds (ownM K (o1 ++ o2))) σ G H _ m.adds2 s w fun vs as G1 H1 s1 w1 r1 e => by
    have e0 : ∀ o', ownM K (o' ++ o2) ++ M'.l = ownM K o' ++ (ownM K o2 ++ M'.l) := fun o' => by rw [ownM_app, List.append_assoc]
    refine ⟨ownM K o2 ++ M'.l, o1, G1, as, by rw [← e0]; exact w1.toWd0, by rw [List.append_nil]; exact r1, (h as e).1 M' m, fun v d o' G2 H2 s2 w2 r2 p2 => ?_, fun _ _ x o' _ _ _ _ _ z => ((h as e).2.2 o' x z).elim⟩
    refine q v d (o' ++ o2) G2 H2 (s1.trans s2) ⟨by show Wd0 (ownM K (o' ++ o2) ++ M'.l) G2 H2; rw [e0]; exact w2, fun l' cls d σ G3 H3 x s3 => w1.xk l' cls d σ G3 H3 x (s2.trans s3)⟩ r2 ((h as e).2.1 o' d p2)
/-- a new instance: the making itself -/
theorem make_go {C x dx : Addr} {M' : Mt} {σ : L2.St} {G H1 : Hp} {Q : VK} {R : D → Prop} {as : List D} {vs : List V} (m : MSub M M') (sg : Sg K G σ ds) (w1 : Wd M' G H1) (r1 : RpAll K G vs (.raw (.ref x) :: as)) (hx : H1 x = none) (hdx : H1 dx = none) (hne : dx ≠ x)
    (hpre : pre M'.l [(x, .ins C [])] (.raw (.ref x) :: as)) (hpost : ∀ o' d, post [(x, .ins C [])] (.raw (.ref x) :: as) o' d → d = .non ∧ ∃ fs, o' = [(x, .ins C fs)] ∧ R (.obj C (fs.map (·.1)) (fs.map (·.2))))
    (hpx : ∀ o' y, px [(x, .ins C [])] (.raw (.ref x) :: as) o' y → M.W = (fun c d _ H => E c d H) ∧ Exk K M y ds)
    (q : ∀ v d G' H', Same G G' → Wd M' G' H' → Rp K G' v d → R d → Q v H') : spW K pre post px vs (upd (upd H1 dx (.own x)) x (.ins C dx [])) (fun v H2 => v = .non ∧ Q (.ref x) H2) E := by
  have w2 : Wd M' G (upd H1 dx (.own x)) := ⟨⟨fun a u e => by rw [upd_ne (ne_of_none (w1.sub _ _ e) hdx)]; exact w1.sub a u e, fun p hp => by
    obtain ⟨g, u, hu, f⟩ := w1.mt p hp
    exact ⟨g, u, by rw [upd_ne (ne_of_none hu hdx)]; exact hu, f⟩, w1.mono, w1.nd⟩, w1.xk⟩
  have hx2 : upd H1 dx (.own x) x = none := by rw [upd_ne (Ne.symm hne)]; exact hx
  have w3 : Wd0 (ownM K [(x, .ins C [])] ++ M'.l) G (upd (upd H1 dx (.own x)) x (.ins C dx [])) := w2.toWd0.newM hx2 (φ := obP K (.ins C [])) ⟨dx, [], rfl, rfl, .nil⟩ obP.mono
  refine ⟨M'.l, [(x, .ins C [])], G, .raw (.ref x) :: as, w3, r1, hpre, fun v d o' G2 H2 s2 w4 r2 p2 => ?_, fun c d y o' G2 H2 s2 w4 hy z => ?_⟩
  · obtain ⟨ed, fs, eo, hR⟩ := hpost o' d p2
    subst ed; subst eo
    have w5 : Wd (M'.adds (ownM K [(x, .ins C fs)])) G2 H2 := ⟨w4, fun l' cls d σ G3 H3 y s3 => w1.xk l' cls d σ G3 H3 y (s2.trans s3)⟩
    obtain ⟨u, hu, f, g, w6⟩ := w5.freezeW (o := [])
    exact ⟨r2.non_inv, q (.ref x) _ (upd G2 x u) H2 (s2.trans (same_new g)) w6 (rp_frozen f g rfl) hR⟩
  · obtain ⟨hW, k⟩ := hpx o' y z
    exact w1.toW (σ := σ) m hW s2 (w4.less (List.sublist_append_right _ _)) (sg.mono s2) hy k
theorem ev_make {C : Addr} {RA : List D → Prop} {R : D → Prop} (ha : EvA K M ds ta RA)
    (h : ∀ p as, RA as → (∀ M', MSub M M' → pre M'.l [(p, .ins C [])] (.raw (.ref p) :: as)) ∧ (∀ o' d, post [(p, .ins C [])] (.raw (.ref p) :: as) o' d → d = .non ∧ ∃ fs, o' = [(p, .ins C fs)] ∧ R (.obj C (fs.map (·.1)) (fs.map (·.2)))) ∧
      ∀ o' y, px [(p, .ins C [])] (.raw (.ref p) :: as) o' y → M.W = (fun c d _ H => E c d H) ∧ Exk K M y ds) :
    Ev K M ds (tMake C (spW K pre post px) [] E ta) R := fun M' σ G H Q m s w q =>
  ha M' σ G H _ m s w fun vs as G1 H1 s1 w1 r1 e x dx hx hdx hne => by
    obtain ⟨h1, h2, h3⟩ := h x as e
    exact make_go m (s.mono s1) w1 (by rw [List.append_nil]; exact .cons (.raw _) r1) hx hdx hne (h1 M' m) h2 h3 fun v d G' H' a b c r => q v d G' H' (s1.trans a) b c r
/-- by keywords alone -/
theorem ev_makeK {C : Addr} {n : Nat} {RA : List D → Prop} {R : D → Prop} {gV : List V → List V → List V} {gD : D → List D → List D} (ha : EvA K M ds ta RA) (hn : ∀ as, RA as → as.length = n)
    (hg : ∀ G p vs as, RA as → RpAll K G vs as → RpAll K G (gV [.ref p] vs) (.raw (.ref p) :: gD (.raw (.ref p)) as))
    (h : ∀ p as, RA as → (∀ M', MSub M M' → pre M'.l [(p, .ins C [])] (.raw (.ref p) :: gD (.raw (.ref p)) as)) ∧ (∀ o' d, post [(p, .ins C [])] (.raw (.ref p) :: gD (.raw (.ref p)) as) o' d → d = .non ∧ ∃ fs, o' = [(p, .ins C fs)] ∧ R (.obj C (fs.map (·.1)) (fs.map (·.2)))) ∧
      ∀ o' y, px [(p, .ins C [])] (.raw (.ref p) :: gD (.raw (.ref p)) as) o' y → M.W = (fun c d _ H => E c d H) ∧ Exk K M y ds) :
    Ev K M ds (tMakeK C 0 n (spW K pre post px) gV E tNil ta) R := fun M' σ G H Q m s w q =>
  ha M' σ G H _ m s w fun vs as G1 H1 s1 w1 r1 e => by
    refine ⟨rfl, by rw [r1.length, hn as e], fun x dx hx hdx hne => ?_⟩
    obtain ⟨h1, h2, h3⟩ := h x as e
    exact make_go m (s.mono s1) w1 (hg G1 x vs as e r1) hx hdx hne (h1 M' m) h2 h3 fun v d G' H' a b c r => q v d G' H' (s1.trans a) b c r
end
/-! ### fields, constants, methods -/
section
variable {K : PySem.W.Frag} {M : Mt} {o : Own} {ds : DS} {te tv : TE} {ta : TA} {R : D → Prop} {E : XK} {C : Addr} {ns : List Str} {es : List D} {f : Str} {d : D}
theorem ev_fld (he : Ev K M ds te (· = .obj C ns es)) (c : Cls K C) (hno : NoAttr K C f) (h : fldD ns es f = some d) : Ev K M ds (tFld K te f) (· = d) := fun M' σ G H Q m s w q =>
  he M' σ G H _ m s w fun v d1 G1 H1 s1 w1 r1 e => by
    subst e
    cases r1 with
    | obj h1 r =>
      obtain ⟨u, hu, ru⟩ := fld_of r h
      exact ⟨_, C, _, _, u, rfl, w1.sub _ _ h1, c, hno, hu, q u d G1 H1 s1 w1 ru rfl⟩
theorem look_none {fs : List (Str × V)} (h : fs.map (·.1) = ns) (hn : f ∉ ns) : fs.lookup f = none := by
  rw [List.lookup_eq_none_iff]
  intro p hp
  have : p.1 ∈ ns := by rw [← h]; exact List.mem_map.mpr ⟨p, hp, rfl⟩
  simp only [beq_eq_false_iff_ne, ne_eq, bne_iff_ne]
  intro e
  exact hn (e ▸ this)
theorem ev_con {v : V} {u : Value} (he : Ev K M ds te (· = .obj C ns es)) (c : Cls K C) (k : Con K C f v u) (hn : f ∉ ns) (hd : ∀ G, Rp K G v d) : Ev K M ds (tCon K te f) (· = d) := fun M' σ G H Q m s w q =>
  he M' σ G H _ m s w fun v1 d1 G1 H1 s1 w1 r1 e => by
    cases r1 with
    | obj h1 r =>
      injection e with e1 e2 e3
      subst e1
      exact ⟨_, _, _, _, v, u, rfl, w1.sub _ _ h1, c, k, look_none e2 hn, q v d G1 H1 s1 w1 (hd G1) rfl⟩
    | _ => cases e
theorem ev_cval {mc : Value} {v : V} {u : Value} (he : Ev K M ds te (· = .raw (.ref C))) (r : ClX.CRead K C mc) (k : ClX.CVal K C mc f v u) (hd : ∀ G, Rp K G v d) : Ev K M ds (ClX.tCVal K te f) (· = d) := fun M' σ G H Q m s w q =>
  he M' σ G H _ m s w fun v1 d1 G1 H1 s1 w1 r1 e => by
    subst e
    exact ⟨C, mc, v, u, r1.raw_inv, r, k, q v d G1 H1 s1 w1 (hd G1) rfl⟩
variable {g : Addr} {mn : Str} {pre : Ml → List D → Prop} {post : List D → D → Prop}
theorem obj_at {G : Hp} {v : V} (r : Rp K G v (.obj C ns es)) : ∃ a dx fs, v = .ref a ∧ G a = some (.ins C dx fs) ∧ fs.map (·.1) = ns := by
  generalize e : D.obj C ns es = z at r
  cases r with
  | obj h1 r =>
    injection e with e1 e2 e3
    subst e1
    exact ⟨_, _, _, rfl, h1, e2.symm⟩
  | _ => cases e
theorem ev_meG {RA : List D → Prop} (he : Ev K M ds te (· = .obj C ns es)) (c : Cls K C) (hm : Meth K C mn g) (hn : mn ∉ ns) (ha : EvA K M ds ta RA) (h : ∀ as, RA as → (∀ M', MSub M M' → pre M'.l (.obj C ns es :: as)) ∧ ∀ d, post (.obj C ns es :: as) d → R d) :
    Ev K M ds (tMeG K g mn (spF K pre post) [] E te ta) R := fun M' σ G H Q m s w q =>
  he M' σ G H _ m s w fun v d1 G1 H1 s1 w1 r1 e => by
    subst e
    obtain ⟨a, dx, fs, rfl, h1, h2⟩ := obj_at r1
    refine ⟨a, C, dx, fs, rfl, w1.sub _ _ h1, c, hm, look_none h2 hn, ha M' σ G1 H1 _ m (s.mono s1) w1 fun vs as G2 H2 s2 w2 r2 e2 => ?_⟩
    exact ⟨M'.l, G2, .obj C ns es :: as, w2.toWd0, by rw [List.append_nil]; exact .cons (r1.mono s2) r2, (h as e2).1 M' m, fun v d G3 H3 s3 w3 r3 p3 => q v d G3 H3 ((s1.trans s2).trans s3) (w2.to s3 w3) r3 ((h as e2).2 d p3), fun _ _ _ _ _ _ _ _ z => z.elim⟩
/-- one keyword -/
theorem ev_meGK {RA : List D → Prop} {gV : List V → List V → List V} {gD : D → List D → List D} (he : Ev K M ds te (· = .obj C ns es)) (c : Cls K C) (hm : Meth K C mn g) (hn : mn ∉ ns) (ha : EvA K M ds ta RA) (hg : ∀ G v d vs as, RA as → Rp K G v d → RpAll K G vs as → RpAll K G (gV [v] vs) (gD d as))
    (h : ∀ as, RA as → (∀ M', MSub M M' → pre M'.l (gD (.obj C ns es) as)) ∧ ∀ d, post (gD (.obj C ns es) as) d → R d) :
    Ev K M ds (tMeGK K g mn (spF K pre post) gV E te ta) R := fun M' σ G H Q m s w q =>
  he M' σ G H _ m s w fun v d1 G1 H1 s1 w1 r1 e => by
    subst e
    obtain ⟨a, dx, fs, rfl, h1, h2⟩ := obj_at r1
    refine ⟨a, C, dx, fs, rfl, w1.sub _ _ h1, c, hm, look_none h2 hn, ha M' σ G1 H1 _ m (s.mono s1) w1 fun vs as G2 H2 s2 w2 r2 e2 => ?_⟩
    exact ⟨M'.l, G2, gD (.obj C ns es) as, w2.toWd0, hg G2 _ _ vs as e2 (r1.mono s2) r2, (h as e2).1 M' m, fun v d G3 H3 s3 w3 r3 p3 => q v d G3 H3 ((s1.trans s2).trans s3) (w2.to s3 w3) r3 ((h as e2).2 d p3), fun _ _ _ _ _ _ _ _ z => z.elim⟩
/-- a method that hands back what is owned -/
theorem evw_meG {R : Own → D → Prop} {RA : List D → Prop} {pre : Ml → Own → List D → Prop} {post px : Own → List D → Own → D → Prop} (he : Ev K (M.adds (ownM K o)) ds te (· = .obj C ns es)) (c : Cls K C) (hm : Meth K C mn g) (hn : mn ∉ ns) (ha : EvA K (M.adds (ownM K o)) ds ta RA)
    (h : ∀ as, RA as → (∀ M', MSub M M' → pre (ownM K o ++ M'.l) [] (.obj C ns es :: as)) ∧ (∀ o' d, post [] (.obj C ns es :: as) o' d → R (o' ++ o) d) ∧ ∀ o' x, ¬ px [] (.obj C ns es :: as) o' x) :
    EvW K M o ds (tMeG K g mn (spW K pre post px) [] E te ta) R := fun M' σ G H Q m s w q =>
  he (M'.adds (ownM K o)) σ G H _ m.adds2 s w fun v d1 G1 H1 s1 w1 r1 e => by
    subst e
    obtain ⟨a, dx, fs, rfl, h1, h2⟩ := obj_at r1
    refine ⟨a, C, dx, fs, rfl, w1.sub _ _ h1, c, hm, look_none h2 hn, ha (M'.adds (ownM K o)) σ G1 H1 _ m.adds2 (s.mono s1) w1 fun vs as G2 H2 s2 w2 r2 e2 => ?_⟩
    have e0 : ∀ o', ownM K (o' ++ o) ++ M'.l = ownM K o' ++ (ownM K o ++ M'.l) := fun o' => by rw [ownM_app, List.append_assoc]
    refine ⟨ownM K o ++ M'.l, [], G2, .obj C ns es :: as, w2.toWd0, by rw [List.append_nil]; exact .cons (r1.mono s2) r2, (h as e2).1 M' m, fun v d o' G3 H3 s3 w3 r3 p3 => ?_, fun _ _ x o' _ _ _ _ _ z => ((h as e2).2.2 o' x z).elim⟩
    exact q v d (o' ++ o) G3 H3 ((s1.trans s2).trans s3) ⟨by show Wd0 (ownM K (o' ++ o) ++ M'.l) G3 H3; rw [e0]; exact w3, fun l' cls d σ G4 H4 x s4 => w2.xk l' cls d σ G4 H4 x (s3.trans s4)⟩ r3 ((h as e2).2.1 o' d p3)
/-- self.f = e on what is owned -/
def putD (f : Str) (d : D) : List (Str × D) → List (Str × D)
  | [] => [(f, d)]
  | (g, x) :: r => if g = f then (g, d) :: r else (g, x) :: putD f d r
theorem put_rel {G : Hp} {y : V} {d : D} (r : Rp K G y d) : ∀ {gs : List (Str × V)} {fs : List (Str × D)}, gs.map (·.1) = fs.map (·.1) → RpAll K G (gs.map (·.2)) (fs.map (·.2)) → (putF f y gs).map (·.1) = (putD f d fs).map (·.1) ∧ RpAll K G ((putF f y gs).map (·.2)) ((putD f d fs).map (·.2))
  | [], [], _, _ => ⟨rfl, .cons r .nil⟩
  | (g, x) :: gs, (g', x') :: fs, e, h => by
    rw [List.map_cons, List.map_cons] at e
    injection e with e1 e2
    have e1 : g = g' := e1
    subst e1
    cases h with
    | cons h1 h2 =>
      obtain ⟨a, b⟩ := put_rel r e2 h2
      by_cases q : g = f
      · simp only [putF, putD, if_pos q, List.map_cons]
        exact ⟨by rw [e2], .cons r h2⟩
      · simp only [putF, putD, if_neg q, List.map_cons]
        exact ⟨by rw [a], .cons h1 b⟩
  | [], _ :: _, e, _ => by cases e
  | _ :: _, [], e, _ => by cases e
theorem put_len (f : Str) (d : D) : ∀ fs : List (Str × D), (putD f d fs).length ≤ fs.length + 1
  | [] => Nat.le_refl _
  | (g, x) :: r => by
    unfold putD
    split
    · exact Nat.le_succ _
    · have := put_len f d r
      simp only [List.length_cons]; omega
theorem runw_fld {to : TE} {p : Addr} {fs : List (Str × D)} {E : AW} (hv : Ev K (M.adds (ownM K ((p, .ins C fs) :: o))) ds tv (· = d)) (ho : Ev K (M.adds (ownM K ((p, .ins C fs) :: o))) ds to (· = .raw (.ref p))) (c : Cls K C) (hno : NoAttr K C f) (hl : fs.length < 900)
    (hn : E.nx ((p, .ins C (putD f d fs)) :: o) ds) : RunW K M ((p, .ins C fs) :: o) ds (sFld K to tv f) E := fun M' σ G H Z m s w z =>
  hv (M'.adds _) σ G H _ m.adds2 s w fun v1 d1 G1 H1 s1 w1 r1 e1 => ho (M'.adds _) σ G1 H1 _ m.adds2 (s.mono s1) w1 fun v2 d2 G2 H2 s2 w2 r2 e2 => by
    subst e1; subst e2
    have ev := r2.raw_inv
    subst ev
    obtain ⟨u, hu, dx, gs, eu, e3, r3⟩ := w2.atW
    subst eu
    have lg : gs.length = fs.length := by
      have := congrArg List.length e3
      simpa using this
    obtain ⟨a, b⟩ := put_rel (f := f) (r1.mono s2) e3 r3
    exact ⟨p, C, dx, gs, rfl, hu, c, hno, by omega, z.nx _ ds σ G2 _ hn (s1.trans s2) (s.mono (s1.trans s2)) (w2.putW (c := .ins C _) ⟨dx, _, rfl, a, b⟩)⟩
/-- o.f of what is owned -/
theorem ev_ofld {p : Addr} {fs : List (Str × D)} (hm : (p, obP K (.ins C fs)) ∈ M) (he : Ev K M ds te (· = .raw (.ref p))) (c : Cls K C) (hno : NoAttr K C f) (h : fldD (fs.map (·.1)) (fs.map (·.2)) f = some d) : Ev K M ds (tFld K te f) (· = d) := fun M' σ G H Q m s w q =>
  he M' σ G H _ m s w fun v d1 G1 H1 s1 w1 r1 e => by
    subst e
    have ev := r1.raw_inv
    subst ev
    obtain ⟨_, u, hu, dx, gs, eu, e3, r3⟩ := w1.mt _ (m.l _ hm)
    subst eu
    obtain ⟨y, hy, ry⟩ := fld_of r3 (by rw [e3]; exact h)
    exact ⟨p, C, dx, gs, y, rfl, hu, c, hno, hy, q y d G1 H1 s1 w1 ry rfl⟩
theorem runw_raise {W : WX} {E : AW} {ps : List Str} {code : Str} {as : List D} {o2 : Own} {B : Addr} (hW : M.W = W) (ha : EvA K (M.adds (ownM K o)) ds ta (· = as)) (hl : as.length = ps.length) (sb : o2.Sublist o) (hx : ExkW K M o2 (excD B ps code as) ds) (h1 : ps.length ≤ 1000 := by decide) :
    RunW K M o ds (tRz W (tMkO B (spInit B ps code) [] ta)) E := fun M' σ G H Z m s w z =>
  ha (M'.adds (ownM K o)) σ G H _ m.adds2 s w fun vs es G1 H1 s1 w1 r1 e => by
    subst e
    refine ⟨by rw [r1.length, hl]; exact h1, fun a ha => ?_⟩
    rw [List.append_nil]
    exact raise_exc w1 r1 hl ha fun c d G2 H2 s2 w2 x2 => w1.toWW (o' := o) m hW s2 w2 sb (s.mono (s1.trans s2)) x2 hx
end
/-! ### kinds of own things -/
structure OCls (K : PySem.W.Frag) (C : Addr) : Prop extends Cls K C where
  ca : PySem.W.findIn K (.ref C) "__class__" = some (some (.builtin "object.__class__"))
  cn : PySem.W.specialIn K (.builtin "object.__class__") "__get__" = some (some (.builtin "getset_descriptor.__get__"))
  ct : PySem.W.takesIn K (.builtin "object.__class__") = some true
  cm : PySem.W.mroIn K C (.type "object") = some true
inductive TyD (K : PySem.W.Frag) : D → Value → Prop
  | plain {d : D} {n : String} (h : tyD d = some n) : TyD K d (.type n)
  | own {C : Addr} {ns : List Str} {es : List D} (h : OCls K C) : TyD K (.obj C ns es) (.ref C)
theorem tyx_of {K : PySem.W.Frag} {G H : Hp} {v : V} {d : D} {t : Value} (r : Rp K G v d) (s : Same G H) (h : TyD K d t) : TyX K H v t := by
  cases h with
  | plain h => exact ty_of r s h
  | own h =>
    obtain ⟨a, dx, fs, rfl, h1, h2⟩ := obj_at r
    exact .base (.ins (s _ _ h1) h.toCls h.ca h.cn h.ct h.cm)
section
variable {K : PySem.W.Frag} {M : Mt} {ds : DS} {te : TE} {R : D → Prop} {E : XK} {C C' g : Addr} {ns ns' : List Str} {es es' : List D} {d : D} {pre : Ml → List D → Prop} {post : List D → D → Prop}
theorem cd_isO {t u : Value} {c : V} {b : Bool} (h : TyD K d t) (hc : ClsV c u) (hk : PySem.W.kitOne K t u = some b) : CallD K M (rOrC (rIsi K) (rIsX K)) [d, .raw c] (· = .bl b) := fun M' G H xs Q m r w q => by
  cases r with
  | cons p r =>
    cases r with
    | cons p2 r =>
      cases r
      have e2 := p2.raw_inv
      subst e2
      exact .inl ⟨_, _, t, u, b, rfl, hc, tyx_of p w.sub h, hk, q _ _ G H (Same.refl G) w (.bl b) rfl⟩
theorem od_eqO {t : Value} (hs : PySem.W.findIn K (.ref C) "__eq__" = some (some (.ref g))) (ht : TyD K d t) (hn : PySem.W.notFirst K C t = true) (h : ∀ M', MSub M M' → pre M'.l [.obj C ns es, d]) (hR : ∀ r, post [.obj C ns es, d] r → R r) : OpD K M (rEqO K g (spF K pre post) E) (.obj C ns es) d R := fun M' G H x y Q m rx ry w q => by
  obtain ⟨a, dx, fs, rfl, h1, h2⟩ := obj_at rx
  refine ⟨a, C, dx, fs, rfl, w.sub _ _ h1, .inl ⟨t, hs, tyx_of ry w.sub ht, hn, M'.l, G, _, w.toWd0, .cons rx (.cons ry .nil), h M' m, fun v d G' H' s' w' r' p => q v d G' H' s' (w.to s' w') r' (hR d p), fun _ _ _ _ _ _ _ _ z => z.elim⟩⟩
theorem od_eqOR (hne : C ≠ C') (hsub : PySem.W.subIn K (.ref C') (.ref C) = some true) (hs : PySem.W.findIn K (.ref C') "__eq__" = some (some (.ref g))) (h : ∀ M', MSub M M' → pre M'.l [.obj C' ns' es', .obj C ns es]) (hR : ∀ r, post [.obj C' ns' es', .obj C ns es] r → R r) : OpD K M (rEqO K g (spF K pre post) E) (.obj C ns es) (.obj C' ns' es') R := fun M' G H x y Q m rx ry w q => by
  obtain ⟨a, dx, fs, rfl, h1, h2⟩ := obj_at rx
  obtain ⟨b, dy, gs, rfl, h3, h4⟩ := obj_at ry
  exact ⟨a, C, dx, fs, rfl, w.sub _ _ h1, .inr ⟨b, C', dy, gs, rfl, w.sub _ _ h3, hne, hsub, hs, M'.l, G, _, w.toWd0, .cons ry (.cons rx .nil), h M' m, fun v d G' H' s' w' r' p => q v d G' H' s' (w.to s' w') r' (hR d p), fun _ _ _ _ _ _ _ _ z => z.elim⟩⟩
theorem od_neO {t : Value} {b : Bool} (hne : PySem.W.findIn K (.ref C) "__ne__" = some (some (.builtin "object.__ne__"))) (ho : PySem.W.mroIn K C (.type "object") = some true) (hs : PySem.W.findIn K (.ref C) "__eq__" = some (some (.ref g))) (ht : TyD K d t) (hn : PySem.W.notFirst K C t = true) (h : ∀ M', MSub M M' → pre M'.l [.obj C ns es, d])
    (hR : ∀ r, post [.obj C ns es, d] r → r = .bl b) : OpD K M (rNeO K g (spF K pre post) E) (.obj C ns es) d (· = .bl (!b)) := fun M' G H x y Q m rx ry w q => by
  obtain ⟨a, dx, fs, rfl, h1, h2⟩ := obj_at rx
  refine ⟨a, C, dx, fs, t, rfl, w.sub _ _ h1, hne, ho, hs, tyx_of ry w.sub ht, hn, M'.l, G, _, w.toWd0, .cons rx (.cons ry .nil), h M' m, fun v d G' H' s' w' r' p => ?_, fun _ _ _ _ _ _ _ _ z => z.elim⟩
  have e := hR d p
  subst e
  exact ⟨b, r'.bl_inv, q _ _ G' H' s' (w.to s' w') (.bl _) rfl⟩
theorem cd_reprO {x : Str} (hs : PySem.W.findIn K (.ref C) "__repr__" = some (some (.ref g))) (h : ∀ M', MSub M M' → pre M'.l [.obj C ns es]) (hR : ∀ r, post [.obj C ns es] r → r = .str x) : CallD K M (rReprO K g (spF K pre post) E) [.obj C ns es] (· = .str x) := fun M' G H xs Q m r w q => by
  cases r with
  | cons p r =>
    cases r
    obtain ⟨a, dx, fs, rfl, h1, h2⟩ := obj_at p
    refine ⟨a, C, dx, fs, rfl, w.sub _ _ h1, hs, M'.l, G, _, w.toWd0, .cons p .nil, h M' m, fun v d G' H' s' w' r' pp => ?_, fun _ _ _ _ _ _ _ _ z => z.elim⟩
    have e := hR d pp
    subst e
    exact ⟨x, r'.str_inv, q _ _ G' H' s' (w.to s' w') r' rfl⟩
/-! ### f-strings -/
theorem ev_fmtS {x : Str} (h : Ev K M ds te (· = .str x)) (hl : x.length ≤ 100000) : Ev K M ds (tFmt te) (· = .str x) := fun M' σ G H Q m s w q =>
  h M' σ G H _ m s w fun v d1 G1 H1 s1 w1 r1 e => by
    subst e
    exact .inl ⟨x, r1.str_inv, Nat.le_trans hl (by decide), q _ _ G1 H1 s1 w1 (.str _) rfl⟩
theorem ev_fmtI {i : Int} (h : Ev K M ds te (· = .int i)) (hl : i.natAbs.log2 < 1920) : Ev K M ds (tFmt te) (· = .str (Str.ofString (toString i))) := fun M' σ G H Q m s w q =>
  h M' σ G H _ m s w fun v d1 G1 H1 s1 w1 r1 e => by
    subst e
    exact .inr ⟨i, r1.int_inv, hl, q _ _ G1 H1 s1 w1 (.str _) rfl⟩
inductive EvJ (K : PySem.W.Frag) (M : Mt) (ds : DS) : List TE → List Str → Prop
  | nil : EvJ K M ds [] []
  | cons {t : TE} {ts : List TE} {x : Str} {xs : List Str} (h : Ev K M ds t (· = .str x)) (r : EvJ K M ds ts xs) : EvJ K M ds (t :: ts) (x :: xs)
def catS : Str → List Str → Str
  | acc, [] => acc
  | acc, x :: xs => catS (acc ++ x) xs
theorem evj_go {ts : List TE} {xs : List Str} (h : EvJ K M ds ts xs) : ∀ (acc : Str) (M' : Mt) (σ : L2.St) (G H : Hp) (Q : Str → Hp → Prop), MSub M M' → Sg K G σ ds → Wd M' G H → acc.length + (xs.map (·.length)).sum ≤ 100000 → (∀ G' H', Same G G' → Wd M' G' H' → Q (catS acc xs) H') → tJs ts acc σ H Q := by
  induction h with
  | nil => intro acc M' σ G H Q m s w hl q; exact q G H (Same.refl G) w
  | @cons t ts x xs h r ih =>
    intro acc M' σ G H Q m s w hl q
    refine h M' σ G H _ m s w fun v d1 G1 H1 s1 w1 r1 e => ?_
    subst e
    rw [List.map_cons, List.sum_cons] at hl
    have hle : (acc ++ x).length = acc.length + x.length := PySem.Str.length_append acc x
    refine ⟨x, r1.str_inv, ?_, ih (acc ++ x) M' σ G1 H1 Q m (s.mono s1) w1 (by rw [hle]; omega) fun G2 H2 s2 w2 => q G2 H2 (s1.trans s2) w2⟩
    rw [hle]
    exact Nat.le_trans (show acc.length + x.length ≤ 100000 by omega) (by decide)
theorem ev_joined {ts : List TE} {xs : List Str} (h : EvJ K M ds ts xs) (hl : (xs.map (·.length)).sum ≤ 100000) : Ev K M ds (fun σ H Q => tJs ts Str.empty σ H fun out H1 => Q (.str out) H1) (· = .str (catS Str.empty xs)) := fun M' σ G H Q m s w q =>
  evj_go h Str.empty M' σ G H _ m s w (by rw [show Str.empty.length = 0 from rfl]; omega) fun G1 H1 s1 w1 => q _ _ G1 H1 s1 w1 (.str _) rfl
end
end Rg
namespace Rg
open PySem PySem.Spec L2 RZ PyProof.Rows
section
variable {K : PySem.W.Frag} {M : Mt} {ds : DS} {te : TE}
theorem ev_own {ds' : List D} (h : EvW K M [] ds te (fun o' d => ∃ p, o' = [(p, .lst ds')] ∧ d = .raw (.ref p))) : Ev K M ds te (· = .list ds') :=
  ev_w (evw_freeze (h.weak fun o' d ⟨p, e1, e2⟩ => ⟨p, .lst ds', [], .list ds', e1, e2, rfl, rfl, rfl⟩))
end
end Rg
namespace Rg
open PySem PySem.Spec L2 RZ PyProof.Rows
/-! ### dicts that are read only -/
def kD : Key → D
  | .inl i => .int i
  | .inr x => .str x
theorem rp_kD {K : PySem.W.Frag} {G : Hp} {v : V} {k : Key} (r : Rp K G v (kD k)) : v = kV k := by
  cases k with
  | inl i => exact r.int_inv
  | inr x => exact r.str_inv
def getK : List Key → List D → Key → Option D
  | k :: ks, d :: ds, j => if k = j then some d else getK ks ds j
  | _, _, _ => none
theorem val_of {K : PySem.W.Frag} {G : Hp} : ∀ {us : List (Key × V)} {es : List D} {k : Key} {d : D}, RpAll K G (us.map (·.2)) es → getK (us.map (·.1)) es k = some d → ∃ v, valV us k = some v ∧ Rp K G v d
  | [], es, k, d, r, h => by cases h
  | (n, v) :: us, [], k, d, r, h => by cases r
  | (n, v) :: us, e :: es, k, d, r, h => by
    cases r with
    | cons r1 r2 =>
      have h2 : (if n = k then some e else getK (us.map (·.1)) es k) = some d := h
      by_cases q : n = k
      · rw [if_pos q] at h2
        cases h2
        exact ⟨v, valV_pos q, r1⟩
      · rw [if_neg q] at h2
        obtain ⟨u, a, b⟩ := val_of r2 h2
        exact ⟨u, by rw [valV_neg q]; exact a, b⟩
section
variable {K : PySem.W.Frag} {M : Mt} {ds : DS} {td ty : TE}
theorem ev_dget {ks : List Key} {es : List D} {k : Key} {d : D} (hd : Ev K M ds td (· = .dict ks es)) (hk : Ev K M ds ty (· = kD k)) (h : getK ks es k = some d) : Ev K M ds (tDGet td ty) (· = d) := fun M' σ G H Q m s w q =>
  hd M' σ G H _ m s w fun v d1 G1 H1 s1 w1 r1 e1 => hk M' σ G1 H1 _ m (s.mono s1) w1 fun v2 d2 G2 H2 s2 w2 r2 e2 => by
    subst e1; subst e2
    generalize ez : D.dict ks es = z at r1
    cases r1 with
    | @dict a us es' h1 r =>
      injection ez with e3 e4
      subst e3; subst e4
      obtain ⟨u, hu, ru⟩ := val_of r h
      refine ⟨a, u, rfl, .inl ⟨us, k, .inl (w2.sub _ _ (s2 _ _ h1)), rp_kD r2, hu.symm⟩, q u d G2 H2 (s1.trans s2) w2 (ru.mono s2) rfl⟩
    | _ => cases ez
inductive EvPr (K : PySem.W.Frag) (M : Mt) (ds : DS) : List (TE × TE) → List Key → List D → Prop
  | nil : EvPr K M ds [] [] []
  | cons {tk tv : TE} {r : List (TE × TE)} {k : Key} {d : D} {ks : List Key} {es : List D} (hk : Ev K M ds tk (· = kD k)) (hv : Ev K M ds tv (· = d)) (hr : EvPr K M ds r ks es) : EvPr K M ds ((tk, tv) :: r) (k :: ks) (d :: es)
theorem evpr_go {trs : List (TE × TE)} {ks : List Key} {es : List D} (h : EvPr K M ds trs ks es) : ∀ (M' : Mt) (σ : L2.St) (G H : Hp) (Q : List (V × V) → Hp → Prop), MSub M M' → Sg K G σ ds → Wd M' G H →
    (∀ (us : List (Key × V)) G' H', Same G G' → Wd M' G' H' → us.map (·.1) = ks → RpAll K G' (us.map (·.2)) es → Q (us.map fun kv => (kV kv.1, kv.2)) H') → tPairs trs σ H Q := by
  induction h with
  | nil => intro M' σ G H Q m s w q; exact q [] G H (Same.refl G) w rfl .nil
  | @cons tk tv r k d ks es hk hv hr ih =>
    intro M' σ G H Q m s w q
    refine hk M' σ G H _ m s w fun v1 d1 G1 H1 s1 w1 r1 e1 => hv M' σ G1 H1 _ m (s.mono s1) w1 fun v2 d2 G2 H2 s2 w2 r2 e2 => ?_
    subst e1; subst e2
    refine ih M' σ G2 H2 _ m (s.mono (s1.trans s2)) w2 fun us G3 H3 s3 w3 e3 r3 => ?_
    have z := q ((k, v2) :: us) G3 H3 ((s1.trans s2).trans s3) w3 (by rw [List.map_cons, e3]) (.cons (r2.mono s3) r3)
    rw [rp_kD r1]
    exact z
theorem merge_nd : ∀ (us acc : List (Key × V)), ((acc ++ us).map (·.1)).Nodup → mergeK acc us = acc ++ us
  | [], acc, _ => by rw [List.append_nil]; rfl
  | p :: us, acc, h => by
    have hn : valV acc p.1 = none := by
      unfold valV
      rw [Option.map_eq_none_iff, List.find?_eq_none]
      intro q hq e
      rw [decide_eq_true_eq] at e
      rw [List.map_append, List.nodup_append] at h
      exact h.2.2 q.1 (List.mem_map.mpr ⟨q, hq, rfl⟩) p.1 (by simp) e
    show mergeK (putK acc p.1 p.2) us = _
    rw [putK_new _ hn, merge_nd us (acc ++ [(p.1, p.2)]) (by simpa using h)]
    simp
theorem ev_disp {trs : List (TE × TE)} {ks : List Key} {es : List D} (h : EvPr K M ds trs ks es) (hl : ks.length ≤ 15) (hn : ks.Nodup) : Ev K M ds (tDisp trs) (· = .dict ks es) := fun M' σ G H Q m s w q p hp => by
  have w1 := w.newM (φ := fun _ o => o = HO.dK []) hp (o := .dK []) rfl (fun _ _ _ _ e => e)
  refine evpr_go h (M'.cons (p, fun _ o => o = HO.dK [])) σ G _ _ (MSub.cons m) s w1 fun us G1 H1 s1 w2 e1 r1 => ?_
  obtain ⟨g, u, hu, eu⟩ := w2.mt _ List.mem_cons_self
  have eu : u = .dK [] := eu
  subst eu
  have hlu : us.length = ks.length := by rw [← e1, List.length_map]
  refine ⟨hu, us, rfl, by omega, ?_⟩
  rw [merge_nd us [] (by rw [List.nil_append, e1]; exact hn), List.nil_append]
  have w3 := w2.put (ψ := fun _ o => o = HO.dK us) (o := .dK us) rfl (fun _ _ _ _ e => e)
  have w4 := w3.freeze upd_same
  have sn := same_new (o := HO.dK us) g
  have z := Rp.dict (K := K) (G := upd G1 p (.dK us)) (a := p) (us := us) (ds := es) upd_same (r1.mono sn)
  rw [e1] at z
  exact q (.ref p) _ (upd G1 p (.dK us)) _ (s1.trans sn) w4 z rfl
end
end Rg
namespace Rg
open PySem PySem.Spec L2 RZ PyProof.Rows
/-! ### comprehensions with a test; comprehensions whose list is owned -/
section
variable {K : PySem.W.Frag} {M : Mt} {o : Own} {ds : DS} {te : TE}
theorem take_filt {α : Type} (cs : List α) (t : α → Bool) (f : α → D) {i : Nat} {c : α} (h : cs[i]? = some c) : ((cs.take (i + 1)).filter t).map f = ((cs.take i).filter t).map f ++ (if t c then [f c] else []) := by
  rw [List.take_add_one, h]
  simp only [Option.toList_some, List.filter_append, List.map_append]
  congr 1
  cases hc : t c <;> simp [hc]
theorem ev_lcF {α : Type} {wi : TI} {g : TG} {tt : TT} {vs : List Nat} {cs : List α} {inj f : α → D} {t : α → Bool} (hI : EvI K M ds wi (· = cs.map inj)) (hl : cs.length ≤ 100000)
    (h : ∀ c, c ∈ cs → EvG K M (some vs) g (inj c) (wipeD ds vs) (fun ds2 => EvT K M ds2 tt (· = t c) ∧ (t c = true → Ev K M ds2 te (· = f c)))) :
    Ev K M ds (tLc wi g tt te vs) (· = .list ((cs.filter t).map f)) := by
  refine ev_lc hI fun es' e => ?_
  subst e
  refine ⟨by rw [List.length_map]; exact hl, fun i acc => acc = ((cs.take i).filter t).map f, rfl, fun i d acc hd _ ha => ?_, fun acc _ ha => ?_⟩
  · rw [List.getElem?_map] at hd
    cases hc : cs[i]? with
    | none => rw [hc] at hd; cases hd
    | some c =>
      rw [hc] at hd
      have ed : inj c = d := Option.some.inj hd
      subst ed
      intro M' σ G H v Q m s w r q
      refine h c (List.mem_of_getElem? hc) M' σ G H v Q m s w r fun ds' σ' G' H' ⟨hT, hE⟩ => q ds' σ' G' H' ⟨(· = t c), hT, fun ht => (hE ht.symm).weak fun y ey => ?_, fun ht => ?_⟩
      · show acc ++ [y] = _
        rw [ey, show acc = _ from ha, take_filt cs t f hc, ← ht]; rfl
      · show acc = _
        rw [show acc = _ from ha, take_filt cs t f hc, ← ht]; simp
  · rw [show acc = _ from ha, List.length_map, List.take_length]
/-- the list is owned -/
theorem evw_lc {wi : TI} {g : TG} {tt : TT} {vs : List Nat} {RI : List D → Prop} {R : Own → D → Prop} (hI : EvI K (M.adds (ownM K o)) ds wi RI) (h : ∀ es, RI es → es.length ≤ 100000 ∧ ∃ Pv : Nat → List D → Prop, Pv 0 [] ∧
      (∀ i d acc, es[i]? = some d → acc.length ≤ i → Pv i acc → EvG K (M.adds (ownM K o)) (some vs) g d (wipeD ds vs) (fun ds2 => ∃ RT : Bool → Prop, EvT K (M.adds (ownM K o)) ds2 tt RT ∧ (RT true → Ev K (M.adds (ownM K o)) ds2 te (fun y => Pv (i + 1) (acc ++ [y]))) ∧ (RT false → Pv (i + 1) acc))) ∧
      ∀ p acc, acc.length ≤ es.length → Pv es.length acc → R ((p, .lst acc) :: o) (.raw (.ref p))) : EvW K M o ds (tLc wi g tt te vs) R := fun M0 σ G H Q m0 s w q => by
  have m := m0.adds2 (l := ownM K o)
  refine hI (M0.adds (ownM K o)) σ G H _ m s w fun J es G1 H1 s1 w1 hes W D hD => ?_
  obtain ⟨hl, Pv, h0, hs, hd⟩ := h es hes
  have mo : ∀ xs : List V, ∀ (G1 G2 : Hp) (o : HO), Same G1 G2 → isL xs G1 o → isL xs G2 o := fun _ _ _ _ _ e => e
  refine lc_it (n := es.length) (G := fun H => ∃ G2 M2, Same G1 G2 ∧ Wd M2 G2 H) (Y := fun i H x H' => J.yld i H x H') ⟨fun i H hi ⟨G2, M2, s2, w2⟩ => W.goes i H G2 M2 hi s2 w2, fun H ⟨G2, M2, s2, w2⟩ => W.stops H G2 M2 s2 w2, fun i H x H' _ _ y => y⟩
    (fun i H' => ∃ G2 xs acc, Same G1 G2 ∧ Wd ((M0.adds (ownM K o)).cons (D, isL xs)) G2 H' ∧ RpAll K G2 xs acc ∧ Pv i acc ∧ acc.length ≤ i) ⟨G1, [], [], Same.refl _, w1.newM hD rfl (mo []), .nil, h0, Nat.le_refl _⟩
    (fun i H' _ ⟨G2, xs, acc, s2, w2, _⟩ => ⟨G2, _, s2, w2⟩) (fun i x H2 H3 hi ⟨G2, xs, acc, s2, w2, ra, hp, hla⟩ y => ?_) (fun H' ⟨G2, xs, acc, s2, w2, ra, hp, hla⟩ => ?_)
  · obtain ⟨G3, d, s3, w3, hd', rd⟩ := W.yields i H2 x H3 G2 _ hi s2 w2 y
    refine hs i d acc hd' hla hp _ (wipe σ vs) G3 H3 x _ (MSub.cons m) ((s.mono ((s1.trans s2).trans s3)).wipe vs) w3 rd fun ds2 σ2 G4 H4 ⟨RT, hT, hE, hN⟩ s4 sg4 w4 hw => ?_
    refine ⟨?_, ?_⟩
    · have e := hw vs rfl (wipe σ vs) rfl
      rw [e, wipe_wipe σ vs]
    · refine hT _ σ2 G4 H4 _ (MSub.cons m) sg4 w4 fun b G5 H5 s5 w5 hb => ?_
      cases b with
      | true =>
        rw [if_pos rfl]
        refine hE hb _ σ2 G5 H5 _ (MSub.cons m) (sg4.mono s5) w5 fun v d6 G6 H6 s6 w6 r6 p6 => ?_
        obtain ⟨_, ob, ho, eo⟩ := w6.mt _ List.mem_cons_self
        have eo : ob = .lst xs := eo
        subst eo
        have s26 := ((s3.trans s4).trans s5).trans s6
        refine ⟨xs, ho, ?_, G6, xs ++ [v], acc ++ [d6], s2.trans s26, w6.put rfl (mo _), (ra.mono s26).append (.cons r6 .nil), p6, ?_⟩
        · have := ra.length
          exact Nat.lt_of_le_of_lt (show xs.length ≤ 100000 by omega) (by decide)
        · simp only [List.length_append, List.length_singleton]; omega
      | false =>
        rw [if_neg Bool.false_ne_true]
        exact ⟨G5, xs, acc, s2.trans ((s3.trans s4).trans s5), w5, ra.mono ((s3.trans s4).trans s5), hN hb, Nat.le_succ_of_le hla⟩
  · obtain ⟨g0, ob, ho, eo⟩ := w2.mt _ List.mem_cons_self
    have eo : ob = .lst xs := eo
    subst eo
    have w3 := w2.turn (ψ := obP K (.lst acc)) ho ⟨xs, rfl, ra⟩ obP.mono
    exact q (.ref D) (.raw (.ref D)) ((D, .lst acc) :: o) G2 H' (s1.trans s2) ⟨w3.toWd0, w3.xk⟩ (.raw _) (hd D acc hla hp)
theorem evw_lcF {α : Type} {wi : TI} {g : TG} {tt : TT} {vs : List Nat} {cs : List α} {inj f : α → D} {t : α → Bool} (hI : EvI K (M.adds (ownM K o)) ds wi (· = cs.map inj)) (hl : cs.length ≤ 100000)
    (h : ∀ c, c ∈ cs → EvG K (M.adds (ownM K o)) (some vs) g (inj c) (wipeD ds vs) (fun ds2 => EvT K (M.adds (ownM K o)) ds2 tt (· = t c) ∧ (t c = true → Ev K (M.adds (ownM K o)) ds2 te (· = f c)))) :
    EvW K M o ds (tLc wi g tt te vs) (fun o' d => ∃ p, o' = (p, .lst ((cs.filter t).map f)) :: o ∧ d = .raw (.ref p)) := by
  refine evw_lc hI fun es' e => ?_
  subst e
  refine ⟨by rw [List.length_map]; exact hl, fun i acc => acc = ((cs.take i).filter t).map f, rfl, fun i d acc hd _ ha => ?_, fun p acc _ ha => ⟨p, ?_, rfl⟩⟩
  · rw [List.getElem?_map] at hd
    cases hc : cs[i]? with
    | none => rw [hc] at hd; cases hd
    | some c =>
      rw [hc] at hd
      have ed : inj c = d := Option.some.inj hd
      subst ed
      intro M' σ G H v Q m s w r q
      refine h c (List.mem_of_getElem? hc) M' σ G H v Q m s w r fun ds' σ' G' H' ⟨hT, hE⟩ => q ds' σ' G' H' ⟨(· = t c), hT, fun ht => (hE ht.symm).weak fun y ey => ?_, fun ht => ?_⟩
      · show acc ++ [y] = _
        rw [ey, show acc = _ from ha, take_filt cs t f hc, ← ht]; rfl
      · show acc = _
        rw [show acc = _ from ha, take_filt cs t f hc, ← ht]; simp
  · rw [show acc = _ from ha, List.length_map, List.take_length]
/-- xs += ys -/
theorem runw_aug {i : Nat} {p : Addr} {xs ys : List D} {E : AW} (hi : ds[i]? = some (some (.raw (.ref p)))) (he : Ev K (M.adds (ownM K ((p, .lst xs) :: o))) ds te (· = .list ys)) (hl : xs.length + ys.length ≤ 100000) (hn : E.nx ((p, .lst (xs ++ ys)) :: o) (ds.set i (some (.raw (.ref p))))) :
    RunW K M ((p, .lst xs) :: o) ds (tAug i te rExt2) E := fun M' σ G H Z m s w z => by
  obtain ⟨v, e, r⟩ := s.at_ i _ hi
  have ev := r.raw_inv
  subst ev
  refine ⟨.ref p, e, he (M'.adds _) σ G H _ m.adds2 s w fun v2 d2 G2 H2 s2 w2 r2 e2 => ?_⟩
  subst e2
  obtain ⟨b, us, rfl, hb, rb⟩ := r2.list_ex
  obtain ⟨u, hu, vs, eu, r3⟩ := w2.atW
  subst eu
  refine ⟨p, b, vs, us, rfl, rfl, hu, w2.sub _ _ hb, by rw [r3.length, rb.length]; exact Nat.le_trans hl (by decide), ?_⟩
  exact z.nx _ _ _ G2 _ hn s2 ((s.mono s2).set i (.raw _)) (w2.putW (c := .lst _) ⟨_, rfl, r3.append rb⟩)
/-- o.m(..).append(x), .clear(): what comes back is changed and never asked again -/
theorem evw_append2 {to tx : TE} {d : D} {R : Own → D → Prop} (ho : EvW K M o ds to (fun o' r => ∃ p xs, o' = (p, .lst xs) :: o ∧ r = .raw (.ref p) ∧ xs.length < 100000)) (he : Ev K M ds tx (· = d)) (h : ∀ p xs, R ((p, .lst (xs ++ [d])) :: o) .non) :
    EvW K M o ds (tBM K "list" rAppend to (tCons tx tNil)) R := fun M' σ G H Q m s w q =>
  ho M' σ G H _ m s w fun v1 d1 o1 G1 H1 s1 w1 r1 ⟨p, xs, e1, e2, hl⟩ => by
    subst e1; subst e2
    have ev := r1.raw_inv
    subst ev
    obtain ⟨u, hu, vs0, eu, r0⟩ := w1.atW
    subst eu
    refine ⟨.inl ⟨rfl, vs0, sq hu⟩, he (M'.adds _) σ G1 H1 _ m.adds (s.mono s1) w1 fun v2 d2 G2 H2 s2 w2 r2 e2 => ?_⟩
    subst e2
    obtain ⟨u2, hu2, vs, eu2, r3⟩ := w2.atW
    subst eu2
    refine ⟨p, vs, v2, rfl, rfl, hu2, by rw [r3.length]; exact Nat.lt_of_lt_of_le hl (by decide), ?_⟩
    exact q .non .non _ G2 _ (s1.trans s2) (w2.putW (c := .lst _) ⟨_, rfl, r3.append (.cons r2 .nil)⟩) .non (h p xs)
theorem evw_clear2 {to : TE} {R : Own → D → Prop} (ho : EvW K M o ds to (fun o' r => ∃ p xs, o' = (p, .lst xs) :: o ∧ r = .raw (.ref p))) (h : ∀ p, R ((p, .lst []) :: o) .non) :
    EvW K M o ds (tBM0 K "list" rClear to) R := fun M' σ G H Q m s w q =>
  ho M' σ G H _ m s w fun v1 d1 o1 G1 H1 s1 w1 r1 ⟨p, xs, e1, e2⟩ => by
    subst e1; subst e2
    have ev := r1.raw_inv
    subst ev
    obtain ⟨u, hu, vs0, eu, r0⟩ := w1.atW
    subst eu
    exact ⟨.inl ⟨rfl, vs0, sq hu⟩, p, vs0, rfl, rfl, hu, q .non .non _ G1 _ s1 (w1.putW (c := .lst []) ⟨_, rfl, .nil⟩) .non (h p)⟩
/-- an expression whose owned things are dropped -/
theorem run_exprW {E : AE} {R : Own → D → Prop} (h : EvW K M [] ds te R) (hn : E.nx ds) : Run K M ds (tDrop te) E := fun M' σ G H Z m s w z =>
  h M' σ G H _ m s w fun v d o' G1 H1 s1 w1 r1 e => z.nx ds σ G1 H1 hn s1 (s.mono s1) ⟨w1.toWd0.less (List.sublist_append_right _ _), w1.xk⟩
end
/-! ### a def whose code object is known -/
theorem fun_okC {P : Program} {w : World} {K : PySem.W.Frag} {mg : Str → Option Value} {base : Heap} {x qual : Str} {st : Stmt} {f c : Addr} {fd : FuncData} {N ps : List Str} {k : Nat} {sp : Sp} (F : Fun K x qual st f fd) (S : FnScope N ps (defScope st)) (len : ∀ vs H Q E, sp vs H Q E → vs.length = ps.length) (hc : fd.code = .ref c)
    (hbody : ∀ (A : Around) (outer : List Env) (s : Shared) (H : Hp) (vs : List V) (Q : VK) (E : XK), Room k (A.deeper (envOfC qual (defScope st) s.heap.objs.size f (.ref c))) → sp vs H Q E →
      ∃ t, PSs (cxOf CX0 P w K mg base N qual (defScope st) f (.ref c) A outer s H E).nox (defBody st) t ∧ t { nx := fun _ H' => Q .non H', rt := Q } (start N vs) H) : FnOk P w K mg base CX0 (k + 1) f fd ps sp := by
  obtain ⟨oc, od, kV, doc, pm, an, cdv, ct, osl, rfl, lk, hcd⟩ := F.ex
  have e : cdv = .ref c := hc
  subst e
  refine fn_of lk hcd S len fun A outer s H vs Q E hr hsp => ?_
  obtain ⟨t, h, q⟩ := hbody A outer s H vs Q E hr hsp
  exact ⟨t, h.nox, q⟩
end Rg
namespace Rg
open PySem PySem.Spec L2 RZ PyProof.Rows
mutual
def Lit.d : Lit → D
  | .non => .non
  | .bl b => .bl b
  | .int i => .int i
  | .str x => .str x
  | .tup ds => .tup (litsD ds)
def litsD : List Lit → List D
  | [] => []
  | d :: r => d.d :: litsD r
end
section
variable {K : PySem.W.Frag}
mutual
theorem lit_ok : ∀ (d : Lit) (u : Value), litB K d u = true → ∃ v, RelV v u ∧ ∀ G, Rp K G v d.d
  | .non, u, h => by
    cases u <;> first | exact ⟨.non, rfl, fun _ => .non⟩ | cases h
  | .bl b, u, h => by
    cases u <;> first | (exact ⟨.bl b, congrArg Value.bool (of_decide_eq_true h), fun _ => .bl b⟩) | cases h
  | .int i, u, h => by
    cases u <;> first | (exact ⟨.int i, ⟨_, by rw [show _ = i from of_decide_eq_true h]⟩, fun _ => .int i⟩) | cases h
  | .str x, u, h => by
    cases u <;> first | (exact ⟨.str x, ⟨_, by rw [show _ = x from of_decide_eq_true h]⟩, fun _ => .str x⟩) | cases h
  | .tup ds, u, h => by
    cases u with
    | ref a =>
      have h2 : (match K.lookup a with
        | some ⟨.type c, _, .seq its _, _⟩ => decide (c = "tuple") && (decide (its.size ≤ 1000) && litsB K ds its.toList)
        | _ => false) = true := h
      cases e : K.lookup a with
      | none => rw [e] at h2; cases h2
      | some o =>
        rw [e] at h2
        obtain ⟨oc, od, dt, osl⟩ := o
        cases oc with
        | type c =>
          cases dt with
          | seq its n =>
            obtain ⟨h3, h4⟩ := Bool.and_eq_true_iff.mp h2
            obtain ⟨h5, h6⟩ := Bool.and_eq_true_iff.mp h4
            obtain ⟨vs, r, hG⟩ := lits_ok ds its.toList h6
            have hc : c = "tuple" := of_decide_eq_true h3
            subst hc
            exact ⟨.ref a, rfl, fun G => .tup (.inr ⟨_, its, n, e, rfl, rfl, Nat.le_trans (of_decide_eq_true h5) (by decide), r⟩) (hG G)⟩
          | _ => cases h2
        | _ => cases dt <;> cases h2
    | _ => cases h
theorem lits_ok : ∀ (ds : List Lit) (us : List Value), litsB K ds us = true → ∃ vs, Vals vs us ∧ ∀ G, RpAll K G vs (litsD ds)
  | [], us, h => by
    cases us with
    | nil => exact ⟨[], .nil, fun _ => .nil⟩
    | cons _ _ => cases h
  | d :: ds, us, h => by
    cases us with
    | nil => cases h
    | cons u us =>
      obtain ⟨h1, h2⟩ := Bool.and_eq_true_iff.mp h
      obtain ⟨v, r, g⟩ := lit_ok d u h1
      obtain ⟨vs, rs, gs⟩ := lits_ok ds us h2
      exact ⟨v :: vs, .cons r rs, fun G => .cons (g G) (gs G)⟩
end
structure ConD (K : PySem.W.Frag) (C : Addr) (f : Str) (d : D) : Prop where
  ex : ∃ v u, Con K C f v u ∧ ∀ G, Rp K G v d
structure CvalD (K : PySem.W.Frag) (C : Addr) (f : Str) (d : D) : Prop where
  ex : ∃ v u, ClX.CRead K C (.type "type") ∧ ClX.CVal K C (.type "type") f v u ∧ ∀ G, Rp K G v d
/-- what a look tells -/
def Ck.tells (K : PySem.W.Frag) : Ck → Prop
  | .cls C => OCls K (He.ga K C)
  | .mk C D => Mk K (He.ga K C) (He.ma K (He.ga K D) "__init__")
  | .meth C m D => Meth K (He.ga K C) m (He.ma K (He.ga K D) m)
  | .spec C m D => PySem.W.findIn K (.ref (He.ga K C)) m = some (some (.ref (He.ma K (He.ga K D) m))) ∧ PySem.W.isFn K (.ref (He.ma K (He.ga K D) m)) = true
  | .no C f => NoAttr K (He.ga K C) f
  | .find C m id => PySem.W.findIn K (.ref (He.ga K C)) m = some (some (.builtin id))
  | .con C f d => ConD K (He.ga K C) f d.d
  | .cval C f d => CvalD K (He.ga K C) f d.d
  | .kit t c b => PySem.W.kitOne K (t.val K) (c.val K) = some b
  | .nf C t => PySem.W.notFirst K (He.ga K C) (t.val K) = true
  | .sub C' C => PySem.W.subIn K (.ref (He.ga K C')) (.ref (He.ga K C)) = some true ∧ He.ga K C ≠ He.ga K C'
  | .exm t c b => PySem.W.exmOne K (.ref (He.ga K t)) (c.val K) = some b
  | .gl x d => ∃ v u, PySem.W.nsIn K mainGlobals x = some (some u) ∧ RelV v u ∧ ∀ G, Rp K G v d.d
theorem optB_ok {o : Option (Option Value)} {p : Value → Bool} (h : optB o p = true) : ∃ v, o = some (some v) ∧ p v = true := by
  cases o with
  | none => cases h
  | some o =>
    cases o with
    | none => cases h
    | some v => exact ⟨v, rfl, h⟩
theorem Ck.sound : ∀ {c : Ck}, c.ok K = true → c.tells K
  | .cls C, h => by
    obtain ⟨h1, h⟩ := He.ba h
    obtain ⟨h2, h⟩ := He.ba h
    obtain ⟨h3, h⟩ := He.ba h
    obtain ⟨h4, h5⟩ := He.ba h
    obtain ⟨g1, h1⟩ := He.ba h1
    obtain ⟨g2, h1⟩ := He.ba h1
    obtain ⟨g3, g4⟩ := He.ba h1
    exact ⟨⟨g1, g2, g3, He.eqO_ok g4⟩, He.eqO_ok h2, He.eqO_ok h3, of_decide_eq_true h4, of_decide_eq_true h5⟩
  | .mk C D, h => by
    obtain ⟨h1, h⟩ := He.ba h
    obtain ⟨h2, h⟩ := He.ba h
    obtain ⟨h3, h4⟩ := He.ba h
    exact ⟨h1, He.eqO_ok h2, h3, h4⟩
  | .meth C m D, h => by
    obtain ⟨h1, h⟩ := He.ba h
    obtain ⟨h2, h3⟩ := He.ba h
    exact ⟨He.eqO_ok h1, h2, h3⟩
  | .spec C m D, h => by
    obtain ⟨h1, h2⟩ := He.ba h
    exact ⟨He.eqO_ok h1, h2⟩
  | .no C f, h => He.eqO_ok h
  | .find C m id, h => He.eqO_ok h
  | .con C f d, h => by
    obtain ⟨h1, h2⟩ := He.ba h
    obtain ⟨u, e, h3⟩ := optB_ok h1
    obtain ⟨h4, h5⟩ := He.ba h3
    obtain ⟨v, r, g⟩ := lit_ok d u h4
    have h2 : PySem.W.copiedNames.contains f = false := by simpa using h2
    exact ⟨v, u, ⟨e, r, He.eqO_ok h5, h2⟩, g⟩
  | .cval C f d, h => by
    obtain ⟨h1, h2⟩ := He.ba h
    obtain ⟨h3, h4⟩ := He.ba h2
    cases e : PySem.W.findCls K (.ref (He.ga K C)) (.type "type") f with
    | none => rw [e] at h1; cases h1
    | some r =>
      rw [e] at h1
      cases r with
      | val u =>
        obtain ⟨v, r, g⟩ := lit_ok d u h1
        exact ⟨v, u, ⟨h3, He.eqO_ok h4⟩, ⟨e, r⟩, g⟩
      | _ => cases h1
  | .kit t c b, h => by
    have z : decide (PySem.W.kitOne K (t.val K) (c.val K) = some b) = true := h
    have y : PySem.W.kitOne K (t.val K) (c.val K) = some b := of_decide_eq_true z
    exact y
  | .nf C t, h => h
  | .sub C' C, h => by
    obtain ⟨h1, h2⟩ := He.ba h
    exact ⟨of_decide_eq_true h1, by simpa using h2⟩
  | .exm t c b, h => by
    have z : decide (PySem.W.exmOne K (.ref (He.ga K t)) (c.val K) = some b) = true := h
    have y : PySem.W.exmOne K (.ref (He.ga K t)) (c.val K) = some b := of_decide_eq_true z
    exact y
  | .gl x d, h => by
    obtain ⟨u, e, h3⟩ := optB_ok h
    obtain ⟨v, r, g⟩ := lit_ok d u h3
    exact ⟨v, u, e, r, g⟩
theorem ck_at {l : List Ck} (h : cksB K l = true) (i : Nat) {c : Ck} (e : l[i]? = some c) : c.tells K := Ck.sound (List.all_eq_true.mp h c (List.mem_of_getElem? e))
variable {M : Mt} {ds : DS} {te : TE} {C : Addr} {ns : List Str} {es : List D} {f : Str} {d : D}
theorem ev_conD (he : Ev K M ds te (· = .obj C ns es)) (c : Cls K C) (k : ConD K C f d) (hn : f ∉ ns) : Ev K M ds (tCon K te f) (· = d) := by
  obtain ⟨v, u, k, g⟩ := k.ex
  exact ev_con he c k hn g
theorem ev_cvalD (he : Ev K M ds te (· = .raw (.ref C))) (k : CvalD K C f d) : Ev K M ds (ClX.tCVal K te f) (· = d) := by
  obtain ⟨v, u, r, k, g⟩ := k.ex
  exact ev_cval he r k g
end
end Rg
namespace Rg
open PySem PySem.Spec L2 RZ PyProof.Rows
theorem room_u1 {k : Nat} {A : Around} (hr : Room k A) : A.units + 1 < cLine := by have := hr.un; omega
theorem room_u70 {k : Nat} {A : Around} (hr : Room k A) : A.units + 70 < cLine := by have := hr.un; omega
theorem bt_sorted : bootBuiltins "sorted" = some (.builtin "sorted") := by decide +kernel
theorem bt_repr : bootBuiltins "repr" = some (.builtin "repr") := by decide +kernel
theorem lam_free {X : Cx} {scope : Scope} (h : X.Ok) (hd : (scope.names.all fun y => !decide (y.2 = .free) || decide (X.env.scope.names.lookup y.1 = some .cell)) = true) {y : Str × NameKind} (hy : y ∈ scope.names) (e : y.2 = .free) : ∃ c, X.env.cells.lookup y.1 = some c := by
  have z := List.all_eq_true.mp hd y hy
  rw [e] at z
  simp at z
  exact h.has _ (.inl z)
end Rg
namespace Rg
open PySem PySem.Spec L2 RZ PyProof.Rows
theorem q_act {P : Program} {w : World} {K : PySem.W.Frag} {mg : Str → Option Value} {base : Heap} {X : Cx} {k i : Nat} {W : WX} {a : Str} {p1 p2 : Pos} (tk : Takes X W) (hr : Room k X.A) (hN : X.N[i]? = some a) (hv : Vis X.env.scope a) (h1 : X.prog = P := by rfl) (h2 : X.w = w := by rfl) (h3 : X.K = K := by rfl) (h4 : X.mg = mg := by rfl) (h5 : X.base = base := by rfl) (hd : (a == ("__debug__" : Str)) = false := by decide) (hcd : (a == ("__classdict__" : Str)) = false := by decide) :
    PE X (.Call (.Name a p1) [] [] p2) (tAct P w K mg base k W i) := by
  subst h1 h2 h3 h4 h5
  exact pe_act3 tk hr hN hv hd hcd
/-! ### promises with something that is only thought of -/
def spG {Γ : Type} (K : PySem.W.Frag) (pre : Γ → Ml → List D → Prop) (post : Γ → List D → D → Prop) : Sp := fun vs H Q E => ∃ γ, spF K (pre γ) (post γ) vs H Q E
section
variable {P : Program} {w : World} {K : PySem.W.Frag} {mg : Str → Option Value} {base : Heap} {Γ : Type} {pre : Γ → Ml → List D → Prop} {post : Γ → List D → D → Prop}
theorem fn_runG {x qual : Str} {st : Stmt} {f : Addr} {fd : FuncData} {N ps : List Str} {k : Nat} (F : Fun K x qual st f fd) (S : FnScope N ps (defScope st)) (hl : ∀ γ M as, pre γ M as → as.length = ps.length)
    (body : ∀ (cdv : Value) (A : Around) (outer : List Env) (s : Shared) (H : Hp) (E : XK), Room k (A.deeper (envOfC qual (defScope st) s.heap.objs.size f cdv)) →
      ∃ t, PSs (cxOf CX0 P w K mg base N qual (defScope st) f cdv A outer s H E).nox (defBody st) t ∧
        ∀ γ (M : Mt) as, pre γ M.l as → Run K M (as.map some ++ List.replicate (N.length - as.length) none) t { nx := fun _ => post γ as .non, rt := post γ as }) : FnOk P w K mg base CX0 (k + 1) f fd ps (spG K pre post) := by
  refine F.ok S (fun vs H Q E h => h.elim fun γ h => spX_len (hl γ) h) (fun cdv A outer s H vs Q E hr h => ?_)
  obtain ⟨t, ht, hrun⟩ := body cdv A outer s H E hr
  obtain ⟨γ, h⟩ := h
  exact ⟨t, ht, spX_run (fun M as hp => hrun γ _ as hp) h⟩
end
section
variable {K : PySem.W.Frag} {M : Mt} {ds : DS} {R : D → Prop}
theorem ev_callG {Γ : Type} {pre : Γ → Ml → List D → Prop} {post : Γ → List D → D → Prop} {ta : TA} {as : List D} {E : XK} (γ : Γ) (ha : EvA K M ds ta (· = as)) (h : ∀ M', MSub M M' → pre γ M'.l as) : Ev K M ds (tCall (spG K pre post) [] E ta) (post γ as) := fun M' σ G H Q m s w q =>
  ha M' σ G H _ m s w fun vs as' G1 H1 s1 w1 r1 e => by
    subst e
    exact ⟨γ, M'.l, G1, as', w1.toWd0, by rw [List.append_nil]; exact r1, h M' m, fun v d G2 H2 s2 w2 r2 p2 => q v d G2 H2 (s1.trans s2) (w1.to s2 w2) r2 p2, fun _ _ _ _ _ _ _ _ z => z.elim⟩
theorem ev_callTG {Γ : Type} {γ : Γ} {pre : Γ → Ml → List D → Prop} {post : Γ → List D → D → Prop} {cl : List (Str × Addr)} {ys : List (Str × Nat)} {ta : TA} {RA : List D → Prop} (hy : ∀ y ∈ ys, ∃ d, ds[y.2]? = some (some d)) (ha : EvA K M ds ta RA)
    (h : ∀ as, RA as → (∀ M' obs, MSub M M' → pre γ (cellsM K cl ys ds obs ++ M'.l) as) ∧ ∀ d, post γ as d → R d) : Ev K M ds (tCallT cl ys (spG K pre post) ta) R := fun M' σ G H Q m s w q =>
  ha M' σ G H _ m s w fun vs as G1 H1 s1 w1 r1 e1 => by
    have sg := s.mono s1
    refine ⟨fun y hy' => ?_, fun H2 obs hn nd hout hin => ?_⟩
    · obtain ⟨d, hd⟩ := hy y hy'
      obtain ⟨v, e, _⟩ := sg.at_ _ _ hd
      exact ⟨v, e⟩
    have inC : ∀ {c : Addr}, c ∈ csOf cl ys → ∃ y ∈ ys, cA cl y.1 = c := fun {c} hc => by
      obtain ⟨y, hy, e⟩ := List.mem_map.mp hc
      exact ⟨y, hy, e⟩
    have mC : ∀ {p : Addr × (Hp → HO → Prop)}, p ∈ cellsM K cl ys ds obs → ∃ y ∈ ys, p = (cA cl y.1, CellP K (cA cl y.1) (obs (cA cl y.1)) (dAt ds y.2)) := fun {p} hp => by
      obtain ⟨y, hy, e⟩ := List.mem_map.mp hp
      exact ⟨y, hy, e.symm⟩
    have outM : ∀ p ∈ M'.l, p.1 ∉ csOf cl ys := fun p hp z => by
      obtain ⟨_, o, e, _⟩ := w1.mt p hp
      rw [hn _ z] at e; cases e
    have W2 : Wd0 (cellsM K cl ys ds obs ++ M'.l) G1 H2 := by
      refine ⟨fun b u e => ?_, fun p hp => ?_, fun p hp => ?_, ?_⟩
      · have e' := w1.sub b u e
        rw [hout b fun z => by rw [hn b z] at e'; cases e']
        exact e'
      · rcases List.mem_append.mp hp with hp | hp
        · obtain ⟨y, hy', rfl⟩ := mC hp
          obtain ⟨u, v, a1, a2, a3, a4⟩ := hin y hy'
          obtain ⟨d, hd⟩ := hy y hy'
          obtain ⟨v', e', r'⟩ := sg.at_ _ _ hd
          rw [a4] at e'
          cases e'
          refine ⟨w1.free (hn _ (List.mem_map.mpr ⟨y, hy', rfl⟩)), _, a1, rfl, u, v, a2, a3, ?_⟩
          have ed : dAt ds y.2 = d := by unfold dAt; rw [hd]; rfl
          rw [ed]; exact r'
        · obtain ⟨g, o, e, f⟩ := w1.mt p hp
          exact ⟨g, o, by rw [hout _ (outM p hp)]; exact e, f⟩
      · rcases List.mem_append.mp hp with hp | hp
        · obtain ⟨y, hy', rfl⟩ := mC hp
          exact CellP.mono
        · exact w1.mono p hp
      · rw [List.map_append]
        refine List.nodup_append.mpr ⟨?_, w1.nd, fun a ha b hb e => ?_⟩
        · have e : (cellsM K cl ys ds obs).map (·.1) = csOf cl ys := by unfold cellsM csOf; rw [List.map_map]; rfl
          rw [e]; exact nd
        · obtain ⟨p, hp, rfl⟩ := List.mem_map.mp ha
          obtain ⟨p2, hp2, rfl⟩ := List.mem_map.mp hb
          obtain ⟨y, hy', rfl⟩ := mC hp
          exact outM p2 hp2 (e ▸ List.mem_map.mpr ⟨y, hy', rfl⟩)
    refine ⟨γ, _, G1, as, W2, r1, (h as e1).1 M' obs m, fun v d G2 H3 s2 w2 r2 p2 => ⟨fun c hc => ?_, ?_⟩, fun _ _ _ _ _ _ _ _ z => z.elim⟩
    · obtain ⟨y, hy', rfl⟩ := inC hc
      obtain ⟨_, o, e, eo, _⟩ := w2.mt (cA cl y.1, CellP K (cA cl y.1) (obs (cA cl y.1)) (dAt ds y.2)) (List.mem_append_left _ (List.mem_map.mpr ⟨y, hy', rfl⟩))
      obtain ⟨u, v, a1, _⟩ := hin y hy'
      rw [a1]
      rw [eo] at e
      exact e
    · have gn : ∀ c ∈ csOf cl ys, G2 c = none := fun c hc => by
        obtain ⟨y, hy', rfl⟩ := inC hc
        exact (w2.mt (cA cl y.1, CellP K (cA cl y.1) (obs (cA cl y.1)) (dAt ds y.2)) (List.mem_append_left _ (List.mem_map.mpr ⟨y, hy', rfl⟩))).1
      have W3 : Wd0 M'.l G2 (unX (csOf cl ys) H3) := by
        refine ⟨fun b u e => ?_, fun p hp => ?_, w1.mono, w1.nd⟩
        · rw [unX_out fun z => by rw [gn b z] at e; cases e]
          exact w2.sub b u e
        · obtain ⟨g, o, e, f⟩ := w2.mt p (List.mem_append_right _ hp)
          exact ⟨g, o, by rw [unX_out (outM p hp)]; exact e, f⟩
      exact q v d G2 _ (s1.trans s2) (w1.to s2 W3) r2 ((h as e1).2 d p2)
end
end Rg
namespace Rg
open PySem PySem.Spec L2 RZ PyProof.Rows
/-! ### keywords behind self -/
def kgs1 {α : Type} : List α → List α → List α
  | [s], [a] => [s, a]
  | _, _ => []
def kgs2r {α : Type} : List α → List α → List α
  | [s], [a, b] => [s, b, a]
  | _, _ => []
section
variable {K : PySem.W.Frag} {x qual : Str} {st : Stmt} {f : Addr} {fd : FuncData}
theorem kgs1_rel {vs : List V} {us : List Value} {zs : List V} {ws : List Value} (r : Vals vs us) (r' : Vals zs ws) : Vals (kgs1 vs zs) (kgs1 us ws) := by
  match r, r' with
  | .cons p .nil, .cons q .nil => exact .cons p (.cons q .nil)
  | .cons p .nil, .nil => exact .nil
  | .cons p .nil, .cons _ (.cons _ _) => exact .nil
  | .nil, _ => exact .nil
  | .cons _ (.cons _ _), _ => exact .nil
theorem kgs2r_rel {vs : List V} {us : List Value} {zs : List V} {ws : List Value} (r : Vals vs us) (r' : Vals zs ws) : Vals (kgs2r vs zs) (kgs2r us ws) := by
  match r, r' with
  | .cons p .nil, .cons q (.cons q2 .nil) => exact .cons p (.cons q2 (.cons q .nil))
  | .cons p .nil, .nil => exact .nil
  | .cons p .nil, .cons _ .nil => exact .nil
  | .cons p .nil, .cons _ (.cons _ (.cons _ _)) => exact .nil
  | .nil, _ => exact .nil
  | .cons _ (.cons _ _), _ => exact .nil
theorem kbs1 {p0 p : Str} (F : Fun K x qual st f fd) (h : ∀ (kV doc pm : Value) (an : Option Addr) (cdv ct : Value) (s a : Value), bindArgs (PySem.W.fnOf x qual (defArgs st) (defBody st) (defScope st) .none kV doc pm an cdv ct) ⟨[s], [(p, a)]⟩ = pure [(p0, s), (p, a)]) : KBinds K fd [p0, p] [p] kgs1 kgs1 := by
  obtain ⟨oc, od, kV, doc, pm, an, cdv, ct, osl, rfl, lk, hcd⟩ := F.ex
  refine ⟨fun s us ws hu hl => ?_, kgs1_rel⟩
  match us, ws, hu, hl with
  | [s], [a], _, _ => exact .of_eq (h kV doc pm an cdv ct s a)
theorem kbn2r {p0 p1 p2 : Str} (F : Fun K x qual st f fd) (h : ∀ (kV doc pm : Value) (an : Option Addr) (cdv ct : Value) (s a b : Value), bindArgs (PySem.W.fnOf x qual (defArgs st) (defBody st) (defScope st) .none kV doc pm an cdv ct) ⟨[s], [(p2, a), (p1, b)]⟩ = pure [(p0, s), (p1, b), (p2, a)]) : KBn K fd [p0, p1, p2] 1 [p2, p1] kgs2r kgs2r := by
  obtain ⟨oc, od, kV, doc, pm, an, cdv, ct, osl, rfl, lk, hcd⟩ := F.ex
  refine ⟨fun s us ws _ hu hl => ?_, kgs2r_rel⟩
  match us, ws, hu, hl with
  | [s], [a, b], _, _ => exact .of_eq (h kV doc pm an cdv ct s a b)
end
section
variable {K : PySem.W.Frag} {M : Mt} {o : Own} {ds : DS} {te : TE} {ta : TA} {E : XK} {C g : Addr} {mn : Str} {ns : List Str} {es : List D}
theorem evw_meGK {R : Own → D → Prop} {RA : List D → Prop} {pre : Ml → Own → List D → Prop} {post px : Own → List D → Own → D → Prop} {gV : List V → List V → List V} {gD : D → List D → List D} (he : Ev K (M.adds (ownM K o)) ds te (· = .obj C ns es)) (c : Cls K C) (hm : Meth K C mn g) (hn : mn ∉ ns) (ha : EvA K (M.adds (ownM K o)) ds ta RA)
    (hg : ∀ G v d vs as, RA as → Rp K G v d → RpAll K G vs as → RpAll K G (gV [v] vs) (gD d as))
    (h : ∀ as, RA as → (∀ M', MSub M M' → pre (ownM K o ++ M'.l) [] (gD (.obj C ns es) as)) ∧ (∀ o' d, post [] (gD (.obj C ns es) as) o' d → R (o' ++ o) d) ∧ ∀ o' x, ¬ px [] (gD (.obj C ns es) as) o' x) :
    EvW K M o ds (tMeGK K g mn (spW K pre post px) gV E te ta) R := fun M' σ G H Q m s w q =>
  he (M'.adds (ownM K o)) σ G H _ m.adds2 s w fun v d1 G1 H1 s1 w1 r1 e => by
    subst e
    obtain ⟨a, dx, fs, rfl, h1, h2⟩ := obj_at r1
    refine ⟨a, C, dx, fs, rfl, w1.sub _ _ h1, c, hm, look_none h2 hn, ha (M'.adds (ownM K o)) σ G1 H1 _ m.adds2 (s.mono s1) w1 fun vs as G2 H2 s2 w2 r2 e2 => ?_⟩
    have e0 : ∀ o', ownM K (o' ++ o) ++ M'.l = ownM K o' ++ (ownM K o ++ M'.l) := fun o' => by rw [ownM_app, List.append_assoc]
    refine ⟨ownM K o ++ M'.l, [], G2, gD (.obj C ns es) as, w2.toWd0, hg G2 _ _ vs as e2 (r1.mono s2) r2, (h as e2).1 M' m, fun v d o' G3 H3 s3 w3 r3 p3 => ?_, fun _ _ x o' _ _ _ _ _ z => ((h as e2).2.2 o' x z).elim⟩
    exact q v d (o' ++ o) G3 H3 ((s1.trans s2).trans s3) ⟨by show Wd0 (ownM K (o' ++ o) ++ M'.l) G3 H3; rw [e0]; exact w3, fun l' cls d σ G4 H4 x s4 => w2.xk l' cls d σ G4 H4 x (s3.trans s4)⟩ r3 ((h as e2).2.1 o' d p3)
theorem kgs1_rp {G : Hp} {v : V} {d d1 : D} {vs : List V} (r : Rp K G v d) (rs : RpAll K G vs [d1]) : RpAll K G (kgs1 [v] vs) [d, d1] := by
  cases rs with
  | cons p rs =>
    cases rs
    exact .cons r (.cons p .nil)
theorem kgs2r_rp {G : Hp} {p : Addr} {vs : List V} {d1 d2 : D} (rs : RpAll K G vs [d1, d2]) : RpAll K G (kgs2r [.ref p] vs) [.raw (.ref p), d2, d1] := by
  cases rs with
  | cons q rs =>
    cases rs with
    | cons q2 rs =>
      cases rs
      exact .cons (.raw _) (.cons q2 (.cons q .nil))
end
section
variable {K : PySem.W.Frag} {M : Mt} {o : Own} {ds : DS}
theorem od_neS {a b : Str} : OpD K M rNe (.str a) (.str b) (· = .bl (!decide (a = b))) := fun M' G H x y Q m rx ry w q => by
  cases rx; cases ry
  refine ⟨rfl, q _ _ G H (Same.refl G) w ?_ rfl⟩
  rw [show decide (V.str a = V.str b) = decide (a = b) by simp]
  exact .bl _
theorem evw_lstR {ta : TA} {RA : List D → Prop} (ha : EvA K (M.adds (ownM K o)) ds ta RA) (hl : ∀ as, RA as → as.length ≤ 100000) : EvW K M o ds (tLst ta) (fun o' d => ∃ p as, RA as ∧ o' = (p, .lst as) :: o ∧ d = .raw (.ref p)) := fun M' σ G H Q m s w q =>
  ha (M'.adds (ownM K o)) σ G H _ m.adds2 s w fun vs es G1 H1 s1 w1 r1 e =>
    ⟨by rw [r1.length]; exact Nat.le_trans (hl es e) (by decide), fun p hp => q (.ref p) (.raw (.ref p)) ((p, .lst es) :: o) G1 _ s1 (w1.newW hp ⟨vs, rfl, r1⟩) (.raw _) ⟨p, es, e, rfl, rfl⟩⟩
theorem evw_appendR {to : TE} {tx : TE} {p : Addr} {xs : List D} {R : D → Prop} (ho : Ev K (M.adds (ownM K ((p, .lst xs) :: o))) ds to (· = .raw (.ref p))) (he : Ev K (M.adds (ownM K ((p, .lst xs) :: o))) ds tx R) (hl : xs.length < 100000) :
    EvW K M ((p, .lst xs) :: o) ds (tBM K "list" rAppend to (tCons tx tNil)) (fun o' r => ∃ d, R d ∧ o' = (p, .lst (xs ++ [d])) :: o ∧ r = .non) := fun M' σ G H Q m s w q =>
  ho (M'.adds _) σ G H _ m.adds2 s w fun v1 d1 G1 H1 s1 w1 r1 e1 => by
    subst e1
    have ev := r1.raw_inv
    subst ev
    obtain ⟨u, hu, vs0, eu, r0⟩ := w1.atW
    subst eu
    refine ⟨.inl ⟨rfl, vs0, sq hu⟩, he (M'.adds _) σ G1 H1 _ m.adds2 (s.mono s1) w1 fun v2 d2 G2 H2 s2 w2 r2 e2 => ?_⟩
    obtain ⟨u2, hu2, vs, eu2, r3⟩ := w2.atW
    subst eu2
    refine ⟨p, vs, v2, rfl, rfl, hu2, by rw [r3.length]; exact Nat.lt_of_lt_of_le hl (by decide), ?_⟩
    exact q .non .non _ G2 _ (s1.trans s2) (w2.putW (c := .lst _) ⟨_, rfl, r3.append (.cons r2 .nil)⟩) .non ⟨d2, e2, rfl, rfl⟩
end
/-! ### a def that makes lambdas -/
theorem tells_by {X : Cx} {N : List Str} {sc : Scope} {ys : List (Str × Nat)} (hN : X.N = N) (hs : X.env.scope = sc) (hf : ∀ y : Str, decide (sc.names.lookup y = some .cell) = true → X.fn y = true) (h : (ys.all fun y => decide (N[y.2]? = some y.1) && decide (sc.names.lookup y.1 = some .cell)) = true) : ∀ y ∈ ys, X.N[y.2]? = some y.1 ∧ X.env.scope.names.lookup y.1 = some .cell ∧ X.fn y.1 = true := fun y hy => by
  have h2 := Bool.and_eq_true_iff.mp (List.all_eq_true.mp h y hy)
  rw [hN, hs]
  exact ⟨of_decide_eq_true h2.1, of_decide_eq_true h2.2, hf y.1 h2.2⟩
theorem lam_freeS {X : Cx} {scope sc : Scope} (h : X.Ok) (hs : X.env.scope = sc) (hd : (scope.names.all fun y => !decide (y.2 = .free) || decide (sc.names.lookup y.1 = some .cell)) = true) {y : Str × NameKind} (hy : y ∈ scope.names) (e : y.2 = .free) : ∃ c, X.env.cells.lookup y.1 = some c := lam_free h (by rw [hs]; exact hd) hy e
section
variable {P : Program} {w : World} {K : PySem.W.Frag} {mg : Str → Option Value} {base : Heap} {pre : Ml → List D → Prop} {post : List D → D → Prop}
theorem fn_runC {x qual : Str} {st : Stmt} {f c : Addr} {fd : FuncData} {N ps : List Str} {k : Nat} (F : Fun K x qual st f fd) (S : FnScope N ps (defScope st)) (hl : ∀ M as, pre M as → as.length = ps.length) (hc : fd.code = .ref c)
    (body : ∀ (A : Around) (outer : List Env) (s : Shared) (H : Hp) (E : XK), Room k (A.deeper (envOfC qual (defScope st) s.heap.objs.size f (.ref c))) →
      ∃ t, PSs (cxOf CX0 P w K mg base N qual (defScope st) f (.ref c) A outer s H E).nox (defBody st) t ∧
        ∀ (M : Mt) as, pre M.l as → Run K M (as.map some ++ List.replicate (N.length - as.length) none) t { nx := fun _ => post as .non, rt := post as }) : FnOk P w K mg base CX0 (k + 1) f fd ps (spF K pre post) := by
  refine fun_okC F S (fun vs H Q E h => spX_len hl h) hc (fun A outer s H vs Q E hr h => ?_)
  obtain ⟨t, ht, hrun⟩ := body A outer s H E hr
  exact ⟨t, ht, spX_run (fun M as hp => hrun _ as hp) h⟩
def dscOf (scope : Scope) (ys : List (Str × Nat)) (ds : DS) : DS := ys.map fun y => if (y.1, NameKind.free) ∈ scope.names then some (dAt ds y.2) else none
theorem clo_look {cl : List (Str × Addr)} {scope : Scope} {y : Str} {c : Addr} (h : (cloFrom cl scope.names []).lookup y = some c) : (y, NameKind.free) ∈ scope.names ∧ c = cA cl y := by
  rcases cloFrom_mem (PySem.mem_of_lookup h) with h | h
  · cases h
  · exact h
theorem clo_has {cl : List (Str × Addr)} {scope : Scope} {y : Str} (h : (y, NameKind.free) ∈ scope.names) : (cloFrom cl scope.names []).lookup y = some (cA cl y) := by
  obtain ⟨c, e⟩ := mem_lookup (cloFrom_has (cells := cl) (acc := []) h)
  rw [e, (clo_look e).2]
/-- what a lambda does, told of the data of the cells -/
theorem lam_told {k : Nat} {cl : List (Str × Addr)} {qual : Str} {params : Arguments} {body : Expr} {scope : Scope} {hasD : Bool} {L : Lm} (h : IsLm cl qual params body scope hasD L) (ys : List (Str × Nat)) (nm : Option Str) {ds : DS} {obs : Addr → Obj} {l' : Ml} {post px : D → Prop}
    (hS : lamS3B (ys.map (·.1)) scope = true) (hfree : (scope.names.all fun y => !decide (y.2 = .free) || decide (y.1 ∈ ys.map (·.1))) = true) (hB : BindL params nm) (hD : hasD = nm.isSome) (hn : ∀ n, nm = some n → scope.names.lookup n = some .local)
    (go : ∀ (dt : Option Addr) (doc pm : Value) (c : Addr) (ct : Value) (X : Cx) (A : Around) (outer : List Env) (s : Shared) (H : Hp) (E : XK) (f : Addr), X = lcx P w K mg base (ys.map (·.1)) ⟨qual, params, body, scope, cloFrom cl scope.names [], dt, doc, pm, c, ct⟩ A outer s H E f → Room k X.A → Takes X (fun c d _ H => E c d H) →
      ∃ t, PE X body t ∧ ∀ l0 : Ml, (∀ p ∈ cellsM K cl ys ds obs ++ l', p.1 ∉ (cloFrom cl scope.names []).map (·.2) → p ∈ l0) → Ev K (mfn K l0 E px) (dscOf scope ys ds) t post) :
    LamD P w K mg base (k + 1) (cellsM K cl ys ds obs ++ l') L post px := by
  obtain ⟨q, pa, bo, sc, clos, dt, doc, pm, c, ct⟩ := L
  obtain ⟨e1, e2, e3, e4, e5, ok, e7⟩ := h
  dsimp only at e1 e2 e3 e4 e5 ok e7
  subst e1 e2 e3 e4 e5
  have inM : ∀ y ∈ ys, (cA cl y.1, CellP K (cA cl y.1) (obs (cA cl y.1)) (dAt ds y.2)) ∈ cellsM K cl ys ds obs ++ l' := fun y hy => List.mem_append_left _ (List.mem_map.mpr ⟨y, hy, rfl⟩)
  refine lamD_of (N := ys.map (·.1)) (nm := nm) (dsc := dscOf sc ys ds) (lamS3_by hS) ok ⟨hB, by rw [← hD]; exact e7, hn⟩ (by unfold dscOf; rw [List.length_map, List.length_map]) (fun y c' hy => ?_) (fun i d hd => ?_) (fun X A outer s H E f eX hr tk => ?_)
  · obtain ⟨h1, h2⟩ := clo_look hy
    have h3 := List.all_eq_true.mp hfree _ h1
    simp only [decide_true, Bool.not_true, Bool.false_or, decide_eq_true_eq] at h3
    obtain ⟨z, hz, ez⟩ := List.mem_map.mp h3
    have ez : z.1 = y := ez
    subst ez
    rw [h2]
    exact ⟨_, _, inM z hz⟩
  · unfold dscOf at hd
    rw [List.getElem?_map] at hd
    cases hy : ys[i]? with
    | none => rw [hy] at hd; cases hd
    | some y =>
      rw [hy] at hd
      have hd : (if (y.1, NameKind.free) ∈ sc.names then some (dAt ds y.2) else none) = some d := Option.some.inj hd
      split at hd
      · rename_i hm
        have ed : dAt ds y.2 = d := Option.some.inj hd
        subst ed
        exact ⟨y.1, _, _, by rw [List.getElem?_map, hy]; rfl, clo_has hm, inM y (List.mem_of_getElem? hy)⟩
      · cases hd
  · exact go dt doc pm c ct X A outer s H E f eX hr tk
end
end Rg
namespace Rg
open PySem PySem.Spec L2 RZ PyProof.Rows
section
variable {X : Cx} {CX : CXT} {K : PySem.W.Frag} {k : Nat} {f : Addr} {fd : FuncData} {ps : List Str} {sp : Sp} {E : XK} {a b e : Expr} {ta tb : TE} {pos : Pos}
/-! ### len(o), bool(o), o[i], o.p -/
def rLenO (K : PySem.W.Frag) (f : Addr) (sp : Sp) (E : XK) : List V → Hp → VK → Prop := fun xs H Q => ∃ a C dx fs, xs = [.ref a] ∧ H a = some (.ins C dx fs) ∧ PySem.W.findIn K (.ref C) "__len__" = some (some (.ref f)) ∧ sp [.ref a] H (fun z H' => ∃ i : Int, z = .int i ∧ (0 ≤ i ∧ i < 2 ^ 63) ∧ Q z H') E
theorem q_lenO (hf : PySem.W.isFn X.K (.ref f) = true) (F : FnOk X.prog X.w X.K X.mg X.base CX k f fd ps sp) (hr : Room (k + 1) X.A) (hb : Binds X.K fd ps []) (hx : Passes CX X E) (hK : X.K = K := by rfl) : CallR X (.builtin "len") (rLenO K f sp E) := by
  subst hK
  intro pins s σ H xs us Q I r h
  obtain ⟨a, C, dx, fs, rfl, ea, hs, q⟩ := h
  obtain ⟨u, rfl, ru⟩ := r.one
  cases (show u = Value.ref a from ru)
  obtain ⟨ox, od, J⟩ := ins_at I ea
  obtain ⟨m, hF⟩ := I.fr
  refine PySem.W.len_K hF I.ok.mod.kin J hs hf ?_
  refine wpAny_mono (run_fnA (us := [.ref a]) (vs := [.ref a]) F hr.in1 I.env0.in1 hb hx I (.cons rfl .nil) q) (fun w s' z => ?_) fun _ _ x => x
  obtain ⟨z', H', I', rz, i, eb, hi, qz⟩ := z
  subst eb
  obtain ⟨t, rfl⟩ := (show ∃ t, w = Value.int i t from rz)
  exact ⟨hi, .int i, H', I'.tok _, ⟨_, rfl⟩, qz⟩
theorem bool_newO {prog : Program} {w : World} (x : Addr) : MeetsIn prog w (Builtin.«bool.__new__» ⟨[.type "bool", .ref x], []⟩) (fun A R s => wpAny (model prog w) A.in1 (truthy (.ref x)) (fun b s' => R (.ok (.ret (.bool b))) s') (fun e s' => R (.error e) s') s) :=
  .of_wp fun A R s h => by
    obtain ⟨hp, g, d, tk, os⟩ := s
    have f1 := PySem.F.conv_sub_bool
    repeat (any_goals (first | assumption | (refine wpAny_bind (wpAny_mono h (fun b s' hb => ?_) fun _ _ x => x)) | wp_step))
    all_goals first | exact ⟨_, rfl, hb⟩ | skip
def rBoolO (K : PySem.W.Frag) (f : Addr) (sp : Sp) (E : XK) : List V → Hp → VK → Prop := fun xs H Q => ∃ a C dx fs, xs = [.ref a] ∧ H a = some (.ins C dx fs) ∧ PySem.W.findIn K (.ref C) "__bool__" = some (some (.ref f)) ∧ sp [.ref a] H (fun z H' => ∃ b : Bool, z = .bl b ∧ Q z H') E
theorem q_boolO (hf : PySem.W.isFn X.K (.ref f) = true) (F : FnOk X.prog X.w X.K X.mg X.base CX k f fd ps sp) (hr : Room (k + 2) X.A) (hb : Binds X.K fd ps []) (hx : Passes CX X E) (hK : X.K = K := by rfl) : CallR X (.type "bool") (rBoolO K f sp E) := by
  subst hK
  intro pins s σ H xs us Q I r h
  obtain ⟨a, C, dx, fs, rfl, ea, hs, q⟩ := h
  obtain ⟨u, rfl, ru⟩ := r.one
  cases (show u = Value.ref a from ru)
  obtain ⟨ox, od, J⟩ := ins_at I ea
  obtain ⟨m, hF⟩ := I.fr
  refine callType_newIn PySem.F.called_bool PySem.F.newNe_bool (PySem.F.typeCall_bool_1 _) (PySem.F.newCall_bool_1 _) (fun obj => PySem.F.args_object_init_2 obj _) PySem.F.entry_bool_new (bool_newO a) ?_
  refine PySem.W.truthy_K hF I.ok.mod.kin J hs hf ?_
  refine wpAny_mono (run_fnA (us := [.ref a]) (vs := [.ref a]) F hr.in1.in1 I.env0.in1.in1 hb hx I (.cons rfl .nil) q) (fun w s' z => ?_) fun _ _ x => x
  obtain ⟨z', H', I', rz, b, eb, qz⟩ := z
  subst eb
  cases (show w = Value.bool b from rz)
  exact ⟨rfl, .bl b, H', I', rfl, qz⟩
def rSubO (K : PySem.W.Frag) (f : Addr) (sp : Sp) (E : XK) : R2 := fun x y H Q => ∃ a C dx fs, x = .ref a ∧ H a = some (.ins C dx fs) ∧ PySem.W.findIn K (.ref C) "__getitem__" = some (some (.ref f)) ∧ sp [.ref a, y] H Q E
theorem fnIn_of {x qual : Str} {st : Stmt} (F : Fun K x qual st f fd) : PySem.W.fnIn K f = true := by
  obtain ⟨oc, od, kV, doc, pm, an, cdv, ct, osl, rfl, lk, hcd⟩ := F.ex
  unfold PySem.W.fnIn
  rw [lk]
theorem pe_subO (hn : PySem.W.fnIn X.K f = true) (hf : PySem.W.isFn X.K (.ref f) = true) (F : FnOk X.prog X.w X.K X.mg X.base CX k f fd ps sp) (hr : Room (k + 1) X.A) (hb : Binds X.K fd ps []) (hx : Passes CX X E) (ha : PE X a ta) (hi : PE X b tb) (hK : X.K = K := by rfl)
    (hsl : ∀ (x : Addr) (i : Value), subscripted b true (.ref x) i = runValue (.builtin "lifetime.subscript" ⟨[.ref x, i], []⟩) := by intro _ _; with_unfolding_all rfl) : PE X (.Subscript a b pos) (tOp (rSubO K f sp E) ta tb) := by
  subst hK
  refine ⟨fun pins s σ H Q I h => ?_⟩
  refine Subscript_ (binT ha hi I (R := fun x y H2 => rSubO X.K f sp E x y H2 Q) h fun v u s2 x y H2 I2 rx ry q => ?_)
  obtain ⟨p, C, dx, fs, rfl, ea, hs, q⟩ := q
  cases (show v = Value.ref p from rx)
  obtain ⟨ox, od, J⟩ := ins_at I2 ea
  obtain ⟨m, hF⟩ := I2.fr
  refine PySem.W.sub_K hF I2.ok.mod.kin J hs hn hf ?_ (hsl p u)
  exact run_fnA (us := [.ref p, u]) (vs := [.ref p, y]) F hr.in1 I2.env0.in1 hb hx I2 (.cons rfl (.cons ry .nil)) q
end
end Rg
namespace PySem.W
open PySem PySem.Calls PyProof.Rows
/-- a starred call with keywords -/
theorem star_callK {M : Model} {A : Around} {E : Value → Shared → Prop} {s : Shared} {f : Value} {first : List Value} {pos : Pos} {Q : Value → Shared → Prop} {P : Heap → Prop} {args : List (Bool × Sem Value)} {kws : List (Option Str × Sem Value)} (hst : args.any (·.1) = true)
    (hk : ∀ h, P h → ∃ k, (k = Keeper.frame ∨ k = Keeper.machine ∨ k = Keeper.boundFrame) ∧ Looks M h (keeperOf f) k)
    (h : wpAny M A (evalArgs f true args kws) (fun z s₁ => P s₁.heap ∧ wpAny M A (call f (first ++ z.pos) z.kw) Q E s₁) E s) : wpAny M A (callWith pos f first args kws) Q E s := by
  unfold callWith
  refine wpAny_bind (wpAny_holding (wpAny_mono h (fun z s₁ h₁ => wpAny_bind (wpAny_standAt ?_)) fun _ _ x => x))
  obtain ⟨k, hk', L⟩ := hk _ h₁.1
  simp only [hst, Bool.true_or]
  refine wpAny_bind (L.here ?_)
  have last : ∀ {t : Sem Value}, wpAny M A t Q E s₁ → wpAny M A (t >>= fun r => holding [r] point >>= fun _ => pure r) Q E s₁ :=
    fun ht => wpAny_bind (wpAny_mono ht (fun r s₂ hr => wpAny_bind (wpAny_holding (wpAny_point (wpAny_pure hr)))) fun _ _ x => x)
  have mk (mk : Value) : wpAny M A (callMarked mk f (first ++ z.pos) z.kw) Q E s₁ := by unfold callMarked; exact Calls.wpAny_keep h₁.2
  rcases hk' with rfl | rfl | rfl <;> dsimp only <;> first | exact last (mk _) | exact last (wpAny_operating h₁.2)
end PySem.W
namespace Rg
open PySem PySem.Spec L2 RZ PyProof.Rows
/-! ### defs with *v and keyword-only parameters -/
/-- what such a def promises: n values by place, then what is left over as a new tuple, then gz of the keywords' values (names ks) -/
def FnSK (P : Program) (w : World) (K : PySem.W.Frag) (mg : Str → Option Value) (base : Heap) (CX : CXT) (k : Nat) (f : Addr) (n : Nat) (ks : List Str) (gz : List V → List V) (sp : Sp) : Prop :=
  ∀ (A : Around) (outer : List Env) (s : Shared) (H : Hp) (us rest ws : List Value) (vs rs zs : List V) (Q : VK) (E : XK), Room k A → Env0 P w K mg base A outer s H → us.length = n → ws.length = ks.length → Vals vs us → Vals rs rest → Vals zs ws → rs.length ≤ sizeLine →
    (∀ p, H p = none → sp (vs ++ (gz zs ++ [.ref p])) (upd H p (.tup rs)) Q E) → codeAny (model P w) A (.call (.ref f) ⟨us ++ rest, ks.zip ws⟩) (CR CX outer P w H s Q E) s
section
variable {CX : CXT} {P : Program} {w : World} {K : PySem.W.Frag} {mg : Str → Option Value} {base : Heap} {k n : Nat} {f : Addr} {fd : FuncData} {x qual : Str} {st : Stmt} {N ps kps ks : List Str} {pv : Str} {sp : Sp} {kws : List (Str × V)} {gz : List V → List V} {gu : List Value → List Value}
theorem fn_sk (F : FunD K x qual (defArgs st) (defBody st) (defScope st) [] kws f fd) (S : FnScope N (ps ++ (kps ++ [pv])) (defScope st)) (hCX : StX.CXUp CX) (hn : ps.length = n) (hlz : ∀ ws : List Value, ws.length = ks.length → (gu ws).length = kps.length)
    (hgz : ∀ {zs : List V} {ws : List Value}, Vals zs ws → Vals (gz zs) (gu ws))
    (hb : ∀ us rest ws : List Value, us.length = n → ws.length = ks.length → ∀ (M : Model) (A : Around) (E : Value → Shared → Prop) (s : Shared) (Q : List (Str × Value) → Shared → Prop), K.In s.heap → wpAny M A (newTuple rest) (fun t s' => Q ((ps ++ (kps ++ [pv])).zip (us ++ (gu ws ++ [t]))) s') E s → wpAny M A (bindArgs fd ⟨us ++ rest, ks.zip ws⟩) Q E s)
    (hbody : ∀ (cdv : Value) (A : Around) (outer : List Env) (s : Shared) (H : Hp) (vs : List V) (Q : VK) (E : XK), Room k (A.deeper (envOfC qual (defScope st) s.heap.objs.size f cdv)) → sp vs H Q E →
      ∃ t, PSs (cxOf CX P w K mg base N qual (defScope st) f cdv A outer s H E) (defBody st) t ∧ t { nx := fun _ H' => Q .non H', rt := Q } (start N vs) H) : FnSK P w K mg base CX (k + 1) f n ks gz sp := by
  intro A outer s H us rest ws vs rs zs Q E hr e0 l1 l2 r1 r2 r3 hz hq
  have hb' := hb us rest ws l1 l2
  obtain ⟨oc, od, dV, kV, doc, pm, an, cdv, ct, osl, rfl, lk, hcd, _, _⟩ := F.ex
  have hnone : H s.heap.objs.size = none := e0.hok.fresh (Nat.le_refl _)
  have hz2 : rest.length ≤ sizeLine := by rw [← r2.length]; exact hz
  refine StX.run_bnd lk hcd S hr e0 (G := fun xs H2 => ∃ p, H p = none ∧ xs = vs ++ (gz zs ++ [.ref p]) ∧ H2 = upd H p (.tup rs)) (fun A' Ex Q' h => ?_) fun s2 H2 xs ⟨p, hp, ex, eH⟩ hr' => ?_
  · refine hb' _ A' Ex s Q' (e0.mod.kin.keeps fun b o e => (e0.bs b o e).1) (wpAny_newTuple ?_ hz2)
    have new : ObjOk P w (upd H s.heap.objs.size (.tup rs)) (s.heap.push ({ cls := .type "tuple", data := .seq rest.toArray } : Obj)) s.heap.objs.size (.tup rs) := ⟨hz, rest, r2, ⟨_, Heap.get?_push_size _ rfl, rfl, _, rfl⟩⟩
    have un := StX.un_laid (fs := frs outer) (s := s) (o := ({ cls := .type "tuple", data := .seq rest.toArray } : Obj)) (u := .tup rs) hnone
    have e1 := StX.env0_laid e0 new
    have rr := r1.append ((hgz r3).append (.cons (show RelV (V.ref s.heap.objs.size) (Value.ref s.heap.objs.size) from rfl) .nil))
    exact h _ _ _ _ e1 un rfl (fun e s' => hCX outer s H _ _ E e s' un (fun b o q => Heap.get?_push_of_some _ q) rfl) rr
      (by rw [rr.length]; simp only [List.length_append, List.length_cons, List.length_nil]; rw [l1, hn, hlz ws l2]) ⟨_, hnone, rfl, rfl⟩
  · subst ex eH
    exact hbody cdv A outer s2 _ _ Q E hr' (hq p hp)
end
/-! ### such an __init__ when the class is called -/
def tMakeS (C : Addr) (n m : Nat) (sp : Sp) (gz : List V → List V) (E : XK) (t tk : TA) : TE := fun σ H Q => t σ H fun vs H1 => tk σ H1 fun zs H2 => ∃ ws rs, vs = ws ++ rs ∧ ws.length = n ∧ zs.length = m ∧ rs.length ≤ sizeLine ∧ ∀ x dx p, H2 x = none → H2 dx = none → dx ≠ x →
  upd (upd H2 dx (.own x)) x (.ins C dx []) p = none → sp (.ref x :: ws ++ (gz zs ++ [.ref p])) (upd (upd (upd H2 dx (.own x)) x (.ins C dx [])) p (.tup rs)) (fun v H3 => v = .non ∧ Q (.ref x) H3) E
section
variable {X : Cx} {CX : CXT} {k n : Nat} {f C : Addr} {ks : List Str} {sp : Sp} {E : XK} {x : Str} {p pos : Pos} {e : Expr} {es : List Expr} {kws : List Keyword} {t tk : TA} {gz : List V → List V}
theorem run_makeS {pins : List (Addr × Obj)} {σ : L2.St} {H : Hp} {s : Shared} {Q : VK} {us rest ws : List Value} {vs rs zs : List V} (M : Mk X.K C f) (F : FnSK X.prog X.w X.K X.mg X.base CX k f (n + 1) ks gz sp) (hr : Room (k + 1) X.A) (hx : Passes CX X E)
    (I : Inv X pins σ H s) (r : Vals vs us) (r2 : Vals rs rest) (rz : Vals zs ws) (l1 : vs.length = n) (l2 : zs.length = ks.length) (l3 : rs.length ≤ sizeLine)
    (h : ∀ x dx p, H x = none → H dx = none → dx ≠ x → upd (upd H dx (.own x)) x (.ins C dx []) p = none → sp (.ref x :: vs ++ (gz zs ++ [.ref p])) (upd (upd (upd H dx (.own x)) x (.ins C dx [])) p (.tup rs)) (fun v H2 => v = .non ∧ Q (.ref x) H2) E) :
    wpAny (model X.prog X.w) X.A (call (.ref C) (us ++ rest) (ks.zip ws)) (EP X pins σ Q) X.xe s := by
  have hq := h (s.heap.objs.size + 1) s.heap.objs.size
  have I2 := Inv.made (C := C) I
  have r1 : Vals (V.ref (s.heap.objs.size + 1) :: vs) (Value.ref (s.heap.objs.size + 1) :: us) := .cons rfl r
  have n1 : (Value.ref (s.heap.objs.size + 1) :: us).length = n + 1 := by
    rw [List.length_cons, ← r.length, l1]
  refine wpAny_call (make_map (f := f) I.kIn M.makes M.init (beq_iff_eq.mp M.fn) (codeAny_mono (F _ X.stack _ _ (Value.ref (s.heap.objs.size + 1) :: us) rest ws _ _ _ _ E (hr.make C (us ++ rest) (ks.zip ws))
    (I2.env0.make C (us ++ rest) (ks.zip ws)) n1 (rz.length.symm.trans l2) r1 r2 rz l3 (fun p hp => hq p (I.hok.fresh (Nat.le_succ _)) (I.hok.fresh (Nat.le_refl _)) (Nat.ne_of_lt (Nat.lt_succ_self _)) hp)) fun r s' hq' => ?_))
  cases r with
  | error e => exact hx pins σ _ _ e s' I2 hq'
  | ok fl =>
    cases fl with
    | ret u =>
      obtain ⟨v, H', I3, rv, ev, q3⟩ := I2.after hq'
      subst ev
      exact ⟨rv, ⟨V.ref (s.heap.objs.size + 1), H', I3, rfl, q3⟩⟩
    | next => exact False.elim hq'
    | brk => exact False.elim hq'
    | cont => exact False.elim hq'
/-- C(e, .., k = v, ..) -/
theorem pe_makeS (M : Mk X.K C f) (F : FnSK X.prog X.w X.K X.mg X.base CX k f (n + 1) ks gz sp) (hr : Room (k + 1) X.A) (hg : Gl X x) (hm : X.mg x = some (.ref C)) (hx : Passes CX X E) (ha : PA X (e :: es) t) (hkw : PK X kws tk)
    (hall : (backToKw pos (keywordEach kws X.env)).all (·.1.isSome) = true := by rfl) (hks : (backToKw pos (keywordEach kws X.env)).filterMap (·.1) = ks := by rfl) (hdb : (x == ("__debug__" : Str)) = false := by decide)
    (he : starEach (e :: es) X.env = (false, eval e X.env) :: starEach es X.env := by rfl) (hpl : ((backTo pos (starEach (e :: es) X.env)).any (·.1) || (backToKw pos (keywordEach kws X.env)).any (·.1.isNone)) = false := by rfl) :
    PE X (.Call (.Name x p) (e :: es) kws pos) (tMakeS C n ks.length sp gz E t tk) := by
  refine ⟨fun pins s σ H Q I h => ?_⟩
  refine wpAny_Call_Name_kw (ld_glob I hg hm ?_ hdb)
  refine PySem.W.callWith_KW (h₀ := X.base) I.ok.mod.kin M.kp hall ?_ hpl he
  refine thn (ha.run pos pins s σ H _ I h) fun us s1 ⟨vs, H1, I1, r, q⟩ => ?_
  refine thn (hkw.run pos pins s1 σ H1 _ I1 q) fun ws s2 ⟨zs, H2, I2, rz, w1, rs, ev, l1, l2, l3, q2⟩ => ⟨I2.kIn, ?_⟩
  rw [hks]
  subst ev
  obtain ⟨u1, u2, rfl, ra, rb⟩ := StX.vals_split r
  exact run_makeS (us := u1) (rest := u2) M F hr hx I2 ra rb rz l1 l2 l3 q2
/-- C(e, .., *y, k = v, ..) -/
theorem pe_makeSS (M : Mk X.K C f) (F : FnSK X.prog X.w X.K X.mg X.base CX k f (n + 1) ks gz sp) (hr : Room (k + 1) X.A) (hg : Gl X x) (hm : X.mg x = some (.ref C)) (hx : Passes CX X E) (ha : PA X (e :: es) t) (hkw : PK X kws tk)
    (hall : (backToKw pos (keywordEach kws X.env)).all (·.1.isSome) = true := by rfl) (hks : (backToKw pos (keywordEach kws X.env)).filterMap (·.1) = ks := by rfl) (hdb : (x == ("__debug__" : Str)) = false := by decide)
    (he : starEach (e :: es) X.env = (false, eval e X.env) :: starEach es X.env := by rfl) (hst : (backTo pos (starEach (e :: es) X.env)).any (·.1) = true := by rfl) :
    PE X (.Call (.Name x p) (e :: es) kws pos) (tMakeS C n ks.length sp gz E t tk) := by
  refine ⟨fun pins s σ H Q I h => ?_⟩
  refine wpAny_Call_Name_kw (ld_glob I hg hm ?_ hdb)
  refine PySem.W.star_callK (P := fun h => X.K.In h) hst (PySem.W.keeps_K M.kp) (PyProof.Rows.evalArgs_kw2 hall ?_ he)
  refine thn (ha.run pos pins s σ H _ I h) fun us s1 ⟨vs, H1, I1, r, q⟩ => ?_
  refine thn (hkw.run pos pins s1 σ H1 _ I1 q) fun ws s2 ⟨zs, H2, I2, rz, w1, rs, ev, l1, l2, l3, q2⟩ => ⟨I2.kIn, ?_⟩
  rw [hks]
  subst ev
  obtain ⟨u1, u2, rfl, ra, rb⟩ := StX.vals_split r
  exact run_makeS (us := u1) (rest := u2) M F hr hx I2 ra rb rz l1 l2 l3 q2
end
end Rg
namespace GQ
open PySem PySem.SeqAt
open AutoSeq1 (wpAny_loadPart')
open MeetsSeq MeetsSeq2 MeetsSeq3 SeqRoads2
section
variable {prog : Program} {w : World} {A : Around} {R : Result → Shared → Prop}
/-- != of lists whose items are equal two by two -/
theorem ne_loopO (l b : Addr) (N : Nat) (I : Nat → Shared → Prop) (hl : ListI prog w A (fun e s' => R (.error e) s') l b N I)
    (fin : ∀ s, I N s → R (.ok (.ret (.bool false))) s) (k : Nat) :
    ∀ i : Nat, N - i = k → i ≤ N → ∀ s, I i s →
      wpAny (model prog w) A.in1 (Builtin.«list.__eq__.loop» ⟨[.ref l, .ref b, rawInt i, rawInt 3], []⟩) (FinOf prog w A R) (fun e s' => R (.error e) s') s := by
  induction k with
  | zero =>
    intro i hk hi s h
    obtain ⟨its, its2, c, c2, p1, p2, z1, z2, _⟩ := hl _ _ h
    have hiN : i = N := by omega
    have hR : R (.ok (.ret (.bool false))) s := fin s (hiN ▸ h)
    obtain ⟨hp, g, d, tk, os⟩ := s
    wp_walk using wpAny_loadPart' p1, wpAny_loadPart' p2
    have q1 : its[((i : Nat) : Int).toNat]? = none := by simp; omega
    have q2 : its2[((i : Nat) : Int).toNat]? = none := by simp; omega
    rw [q1, q2]
    wp_walk using wpAny_loadPart' p1, wpAny_loadPart' p2
    show R (.ok (.ret (.bool (its.size != its2.size)))) _
    rw [z1, z2]
    simpa using hR
  | succ k ih =>
    intro i hk hi s h
    obtain ⟨its, its2, c, c2, p1, p2, z1, z2, turn⟩ := hl _ _ h
    have b1 : i < its.size := by omega
    have b2 : i < its2.size := by omega
    have ht := turn b1 b2
    obtain ⟨hp, g, d, tk, os⟩ := s
    wp_walk using wpAny_loadPart' p1, wpAny_loadPart' p2
    have q1 : its[((i : Nat) : Int).toNat]? = some its[i] := by simp [b1]
    have q2 : its2[((i : Nat) : Int).toNat]? = some its2[i] := by simp [b2]
    have hc : ((i : Int) + 1) = ((i + 1 : Nat) : Int) := by omega
    rw [q1, q2]
    refine wpAny_bind (wpAny_mono ht (fun r s2 h2 => ?_) fun _ _ x => x)
    obtain ⟨hr, h2⟩ := h2
    subst hr
    have hrec := ih (i + 1) (by omega) (by omega) s2 h2
    obtain ⟨hp2, g2, d2, tk2, os2⟩ := s2
    wp_walk
    rw [hc]
    exact ⟨plainId_quiet plain_eq_loop _, codeAny_builtin entry_eq_loop (by
      rw [Around.under_plainId plain_eq_loop _]
      exact hrec)⟩
theorem list_neO (l b : Addr) (N : Nat) (I : Nat → Shared → Prop) (hl : ListI prog w A (fun e s' => R (.error e) s') l b N I)
    (fin : ∀ s, I N s → R (.ok (.ret (.bool false))) s) {s : Shared} (h : I 0 s) :
    wpAny (model prog w) A.in1 (Builtin.«list.__ne__» ⟨[.ref l, .ref b], []⟩) (FinOf prog w A R) (fun e s' => R (.error e) s') s := by
  obtain ⟨its, its2, c, c2, p1, p2, z1, z2, _⟩ := hl _ _ h
  have hrec := ne_loopO (A := A) (R := R) l b N I hl fin _ 0 rfl (Nat.zero_le _) s h
  obtain ⟨hp, g, d, tk, os⟩ := s
  have f3 := AutoSeq1.sub_list_list
  have hne : ¬ (its.size != its2.size) = true := by simp [z1, z2]
  wp_walk using wpAny_loadPart' p1, wpAny_loadPart' p2
  exact ⟨plainId_quiet plain_eq_loop _, codeAny_builtin entry_eq_loop (by
    rw [Around.under_plainId plain_eq_loop _]
    exact hrec)⟩
end
section
variable {prog : Program} {w : World} {A : Around} {E : Value → Shared → Prop} {s : Shared}
theorem rc_listNeO {l b : Addr} {N : Nat} {Q : Value → Shared → Prop} (hu : A.units < cLine) (I : Nat → Shared → Prop) (hl : ListI prog w A E l b N I)
    (fin : ∀ s, I N s → Q (.bool false) s) (h : I 0 s) : wpAny (model prog w) A (richCompare .NotEq (.ref l) (.ref b)) Q E s := by
  obtain ⟨its, its2, c, c2, p1, p2, _, _, _⟩ := hl _ _ h
  refine wpAny_richCompare_same_room (op := .NotEq) ⟨_, p1, rfl⟩ ⟨_, p2, rfl⟩ PySem.F.slot_list_ne (call_here PySem.F.slot_list_ne ⟨_, p1, rfl⟩ PySem.F.entry_list_ne (PySem.F.args_list_ne_2 _ _) ?_) hu
  exact list_neO (R := wants (fun v s' => v ≠ .notImplemented ∧ Q v s') E) l b N I hl (fun s' q => ⟨(fun x => nomatch x), fin s' q⟩) h
end
end GQ
namespace Rg
open PySem PySem.Spec L2 RZ PyProof.Rows
section
variable {X : Cx} {CX : CXT} {K : PySem.W.Frag} {k : Nat} {f : Addr} {fd : FuncData} {ps : List Str} {sp : Sp} {E : XK}
/-- == and != of lists of own things: of other lengths, or equal two by two -/
def rLsO (ne : Bool) (K : PySem.W.Frag) (f : Addr) (sp : Sp) (E : XK) : R2 := fun x y H Q => ∃ l b xs ys, x = .ref l ∧ y = .ref b ∧ H l = some (.lst xs) ∧ H b = some (.lst ys) ∧
  ((xs.length ≠ ys.length ∧ Q (.bl ne) H) ∨
   (xs.length = ys.length ∧ ∃ W : Hp → Prop, W H ∧ (∀ H', W H' → H' l = some (.lst xs) ∧ H' b = some (.lst ys)) ∧
     (∀ (i : Nat) x' y' H', xs[i]? = some x' → ys[i]? = some y' → W H' → ∃ a c C dx dy fs gs, x' = .ref a ∧ y' = .ref c ∧ H' a = some (.ins C dx fs) ∧ H' c = some (.ins C dy gs) ∧ PySem.W.findIn K (.ref C) "__eq__" = some (some (.ref f)) ∧ sp [x', y'] H' (fun z H'' => z = .bl true ∧ W H'') E) ∧
     ∀ H', W H' → Q (.bl (!ne)) H'))
theorem ls_turn {pins : List (Addr × Obj)} {s' : Shared} {σ : L2.St} {xs ys : List V} {its its2 : List Value} {W : Hp → Prop} (hf : PySem.W.isFn X.K (.ref f) = true) (F : FnOk X.prog X.w X.K X.mg X.base CX k f fd ps sp) (hr : Room (k + 1) X.A) (hb : Binds X.K fd ps []) (hx : Passes CX X E)
    (turn : ∀ (i : Nat) x' y' H', xs[i]? = some x' → ys[i]? = some y' → W H' → ∃ a c C dx dy fs gs, x' = .ref a ∧ y' = .ref c ∧ H' a = some (.ins C dx fs) ∧ H' c = some (.ins C dy gs) ∧ PySem.W.findIn X.K (.ref C) "__eq__" = some (some (.ref f)) ∧ sp [x', y'] H' (fun z H'' => z = .bl true ∧ W H'') E)
    (r : Vals xs its) (r2 : Vals ys its2) (i : Nat) (h1 : i < its.toArray.size) (h2 : i < its2.toArray.size) (q : ∃ H', Inv X pins σ H' s' ∧ W H') :
    wpAny (model X.prog X.w) X.A.in1 (eqBool its.toArray[i] its2.toArray[i]) (fun r s2 => r = true ∧ ∃ H', Inv X pins σ H' s2 ∧ W H') X.xe s' := by
  obtain ⟨H1, I1, hW⟩ := q
  have g1 : its[i]? = some its.toArray[i] := by
    have z : i < its.length := by simpa using h1
    rw [List.getElem?_eq_getElem z] <;> simp
  have g2 : its2[i]? = some its2.toArray[i] := by
    have z : i < its2.length := by simpa using h2
    rw [List.getElem?_eq_getElem z] <;> simp
  have k1 : i < xs.length := by rw [r.length]; simpa using h1
  have k2 : i < ys.length := by rw [r2.length]; simpa using h2
  obtain ⟨u, hu, ru⟩ := r.get (List.getElem?_eq_getElem k1)
  obtain ⟨v, hv, rv⟩ := r2.get (List.getElem?_eq_getElem k2)
  rw [g1] at hu
  rw [g2] at hv
  rw [Option.some.inj hu, Option.some.inj hv]
  obtain ⟨a, c, C, dx, dy, fs, gs, ea, ec, ha, hc, hs, hsp⟩ := turn i _ _ H1 (List.getElem?_eq_getElem k1) (List.getElem?_eq_getElem k2) hW
  rw [ea] at ru
  rw [ec] at rv
  cases (show u = Value.ref a from ru)
  cases (show v = Value.ref c from rv)
  by_cases hac : a = c
  · subst hac
    exact SeqAt.EqAt.same (A := X.A.in1) (s := s') (.ref a) X.prog X.w X.xe _ ⟨rfl, H1, I1, hW⟩
  · refine GQ.eqBool_refG hac ?_
    obtain ⟨ox, od, J⟩ := ins_at I1 ha
    obtain ⟨oy, odd, J'⟩ := ins_at I1 hc
    obtain ⟨m, hF⟩ := I1.fr
    refine PySem.W.cmp_K (op := .Eq) (tb := .ref C) (by have := hr.in1.un; omega) hF I1.ok.mod.kin J J'.type (by simp [PySem.W.notFirst]) hs hf ?_
    rw [ea, ec] at hsp
    refine wpAny_mono (run_fnA (us := [.ref a, .ref c]) (vs := [.ref a, .ref c]) F hr.in1 I1.env0.in1 hb hx I1 (.cons rfl (.cons rfl .nil)) hsp) (fun w s2 z => ?_) fun _ _ x => x
    obtain ⟨z', H', I', rz, ez, hW'⟩ := z
    subst ez
    cases (show w = Value.bool true from rz)
    exact ⟨true, rfl, rfl, H', I', hW'⟩
theorem q_eqLs (hf : PySem.W.isFn X.K (.ref f) = true) (F : FnOk X.prog X.w X.K X.mg X.base CX k f fd ps sp) (hr : Room (k + 1) X.A) (hb : Binds X.K fd ps []) (hx : Passes CX X E) (hK : X.K = K := by rfl) : OpR X (compareOp .Eq) (rLsO false K f sp E) := by
  subst hK
  intro pins s σ H x y v u Q I rx ry h
  obtain ⟨l, b, xs, ys, rfl, rfl, hl, hb', h⟩ := h
  cases (show v = Value.ref l from rx)
  cases (show u = Value.ref b from ry)
  have hu : X.A.units < cLine := by have := hr.un; omega
  show wpAny (model X.prog X.w) X.A (richCompare .Eq (.ref l) (.ref b)) _ _ s
  rcases h with ⟨hne, q⟩ | ⟨hle, W, hW, keep, turn, q⟩
  · obtain ⟨z, its, c, r, e⟩ := I.hok l _ hl
    obtain ⟨z2, its2, c2, r2, e2⟩ := I.hok b _ hb'
    refine richCompare_meets_room (op := .Eq) ⟨_, e, rfl⟩ ⟨_, e2, rfl⟩ PySem.F.slot_list_eq PySem.F.entry_list_eq (PySem.F.args_list_eq_2 _ _) (SeqAt.list_eq_lengthsAt l b its.toArray its2.toArray c c2 none none #[] #[] (by simp only [List.size_toArray, ← r.length, ← r2.length]; simpa using hne)) ⟨e, e2, (fun x => nomatch x), .bl false, H, I, rfl, q⟩ hu
  · refine GQ.rc_listG (N := xs.length) hu (fun _ s' => ∃ H', Inv X pins σ H' s' ∧ W H') (fun i s' qq => ?_) (fun s' ⟨H', I', w'⟩ => ⟨.bl true, H', I', rfl, q H' w'⟩) ⟨H, I, hW⟩
    obtain ⟨H1, I1, w1⟩ := id qq
    obtain ⟨z, its, c, r, e⟩ := I1.hok l _ (keep H1 w1).1
    obtain ⟨z2, its2, c2, r2, e2⟩ := I1.hok b _ (keep H1 w1).2
    exact ⟨its.toArray, its2.toArray, c, c2, e, e2, by rw [List.size_toArray, ← r.length], by rw [List.size_toArray, ← r2.length, ← hle], fun h1 h2 => ls_turn hf F hr hb hx turn r r2 i h1 h2 qq⟩
theorem q_neLs (hf : PySem.W.isFn X.K (.ref f) = true) (F : FnOk X.prog X.w X.K X.mg X.base CX k f fd ps sp) (hr : Room (k + 1) X.A) (hb : Binds X.K fd ps []) (hx : Passes CX X E) (hK : X.K = K := by rfl) : OpR X (compareOp .NotEq) (rLsO true K f sp E) := by
  subst hK
  intro pins s σ H x y v u Q I rx ry h
  obtain ⟨l, b, xs, ys, rfl, rfl, hl, hb', h⟩ := h
  cases (show v = Value.ref l from rx)
  cases (show u = Value.ref b from ry)
  have hu : X.A.units < cLine := by have := hr.un; omega
  show wpAny (model X.prog X.w) X.A (richCompare .NotEq (.ref l) (.ref b)) _ _ s
  rcases h with ⟨hne, q⟩ | ⟨hle, W, hW, keep, turn, q⟩
  · obtain ⟨z, its, c, r, e⟩ := I.hok l _ hl
    obtain ⟨z2, its2, c2, r2, e2⟩ := I.hok b _ hb'
    refine richCompare_meets_room (op := .NotEq) ⟨_, e, rfl⟩ ⟨_, e2, rfl⟩ PySem.F.slot_list_ne PySem.F.entry_list_ne (PySem.F.args_list_ne_2 _ _) (SeqAt.list_ne_lengthsAt l b its.toArray its2.toArray c c2 none none #[] #[] (by simp only [List.size_toArray, ← r.length, ← r2.length]; simpa using hne)) ⟨e, e2, (fun x => nomatch x), .bl true, H, I, rfl, q⟩ hu
  · refine GQ.rc_listNeO (N := xs.length) hu (fun _ s' => ∃ H', Inv X pins σ H' s' ∧ W H') (fun i s' qq => ?_) (fun s' ⟨H', I', w'⟩ => ⟨.bl false, H', I', rfl, q H' w'⟩) ⟨H, I, hW⟩
    obtain ⟨H1, I1, w1⟩ := id qq
    obtain ⟨z, its, c, r, e⟩ := I1.hok l _ (keep H1 w1).1
    obtain ⟨z2, its2, c2, r2, e2⟩ := I1.hok b _ (keep H1 w1).2
    exact ⟨its.toArray, its2.toArray, c, c2, e, e2, by rw [List.size_toArray, ← r.length], by rw [List.size_toArray, ← r2.length, ← hle], fun h1 h2 => ls_turn hf F hr hb hx turn r r2 i h1 h2 qq⟩
end
end Rg
namespace Rg
open PySem PySem.Spec L2 RZ PyProof.Rows
section
variable {X : Cx} {CX : CXT} {K : PySem.W.Frag} {k : Nat} {C p g : Addr} {f : Str} {fd : FuncData} {ps : List Str} {sp : Sp} {E : XK} {e : Expr} {pos : Pos} {ta : TE}
theorem q_prop (he : PE X e ta) (c : Cls K C) (hp : PropOf K C f p g) (F : FnOk X.prog X.w X.K X.mg X.base CX k g fd ps sp) (hr : Room (k + 1) X.A) (hb : Binds X.K fd ps []) (hx : Passes CX X.nox E) (hK : X.K = K := by rfl)
    (hab : attributeBase e f X.env (eval e X.env) = eval e X.env := by rfl) : PE X (.Attribute e f pos) (tProp C sp [] E ta) := by
  subst hK
  exact pe_prop he c hp F hr hb .nil hx hab
end
section
variable {K : PySem.W.Frag} {M : Mt} {o : Own} {ds : DS} {te ti tx : TE} {ta tk : TA} {R : D → Prop} {E : XK} {C C' g : Addr} {ns ns' : List Str} {es es' : List D} {d : D} {mn : Str} {pre : Ml → List D → Prop} {post px : List D → D → Prop}
/-- o.p, a property -/
theorem ev_prop (he : Ev K M ds te (· = .obj C ns es)) (h : ∀ M', MSub M M' → pre M'.l [.obj C ns es]) (hR : ∀ r, post [.obj C ns es] r → R r) : Ev K M ds (tProp C (spF K pre post) [] E te) R := fun M' σ G H Q m s w q =>
  he M' σ G H _ m s w fun v d1 G1 H1 s1 w1 r1 e => by
    subst e
    obtain ⟨a, dx, fs, rfl, h1, h2⟩ := obj_at r1
    exact ⟨a, dx, fs, rfl, w1.sub _ _ h1, M'.l, G1, _, w1.toWd0, .cons r1 .nil, h M' m, fun v d G2 H2 s2 w2 r2 p2 => q v d G2 H2 (s1.trans s2) (w1.to s2 w2) r2 (hR d p2), fun _ _ _ _ _ _ _ _ z => z.elim⟩
theorem cd_lenO {i : Int} (hs : PySem.W.findIn K (.ref C) "__len__" = some (some (.ref g))) (h : ∀ M', MSub M M' → pre M'.l [.obj C ns es]) (hR : ∀ r, post [.obj C ns es] r → r = .int i) (hi : 0 ≤ i ∧ i < 2 ^ 63) : CallD K M (rLenO K g (spF K pre post) E) [.obj C ns es] (· = .int i) := fun M' G H xs Q m r w q => by
  cases r with
  | cons p r =>
    cases r
    obtain ⟨a, dx, fs, rfl, h1, h2⟩ := obj_at p
    refine ⟨a, C, dx, fs, rfl, w.sub _ _ h1, hs, M'.l, G, _, w.toWd0, .cons p .nil, h M' m, fun v d G' H' s' w' r' pp => ?_, fun _ _ _ _ _ _ _ _ z => z.elim⟩
    have e := hR d pp
    subst e
    exact ⟨i, r'.int_inv, hi, q _ _ G' H' s' (w.to s' w') r' rfl⟩
theorem cd_boolO {b : Bool} (hs : PySem.W.findIn K (.ref C) "__bool__" = some (some (.ref g))) (h : ∀ M', MSub M M' → pre M'.l [.obj C ns es]) (hR : ∀ r, post [.obj C ns es] r → r = .bl b) : CallD K M (rBoolO K g (spF K pre post) E) [.obj C ns es] (· = .bl b) := fun M' G H xs Q m r w q => by
  cases r with
  | cons p r =>
    cases r
    obtain ⟨a, dx, fs, rfl, h1, h2⟩ := obj_at p
    refine ⟨a, C, dx, fs, rfl, w.sub _ _ h1, hs, M'.l, G, _, w.toWd0, .cons p .nil, h M' m, fun v d G' H' s' w' r' pp => ?_, fun _ _ _ _ _ _ _ _ z => z.elim⟩
    have e := hR d pp
    subst e
    exact ⟨b, r'.bl_inv, q _ _ G' H' s' (w.to s' w') r' rfl⟩
/-- o[i] by an own __getitem__ -/
theorem ev_subO (he : Ev K M ds te (· = .obj C ns es)) (hi : Ev K M ds ti (· = d)) (hs : PySem.W.findIn K (.ref C) "__getitem__" = some (some (.ref g))) (h : ∀ M', MSub M M' → pre M'.l [.obj C ns es, d]) (hR : ∀ r, post [.obj C ns es, d] r → R r)
    (hx : ∀ x, px [.obj C ns es, d] x → M.W = (fun c d _ H => E c d H) ∧ Exk K M x ds) : Ev K M ds (tOp (rSubO K g (spX K pre post px) E) te ti) R := fun M' σ G H Q m s w q =>
  he M' σ G H _ m s w fun v d1 G1 H1 s1 w1 r1 e => hi M' σ G1 H1 _ m (s.mono s1) w1 fun v2 d2 G2 H2 s2 w2 r2 e2 => by
    subst e; subst e2
    obtain ⟨a, dx, fs, rfl, h1, h2⟩ := obj_at r1
    exact ⟨a, C, dx, fs, rfl, w2.sub _ _ (s2 _ _ h1), hs, M'.l, G2, _, w2.toWd0, .cons (r1.mono s2) (.cons r2 .nil), h M' m, fun v d G3 H3 s3 w3 r3 p3 => q v d G3 H3 ((s1.trans s2).trans s3) (w2.to s3 w3) r3 (hR d p3),
      fun c dx x G3 H3 s3 w3 hx' pp => w2.toW m (hx x pp).1 s3 w3 (s.mono ((s1.trans s2).trans s3)) hx' (hx x pp).2⟩
/-- o.m(k = v), which may raise -/
theorem ev_meGKX {RA : List D → Prop} {gV : List V → List V → List V} {gD : D → List D → List D} (he : Ev K M ds te (· = .obj C ns es)) (c : Cls K C) (hm : Meth K C mn g) (hn : mn ∉ ns) (ha : EvA K M ds ta RA) (hg : ∀ G v d vs as, RA as → Rp K G v d → RpAll K G vs as → RpAll K G (gV [v] vs) (gD d as))
    (h : ∀ as, RA as → (∀ M', MSub M M' → pre M'.l (gD (.obj C ns es) as)) ∧ (∀ d, post (gD (.obj C ns es) as) d → R d) ∧ ∀ x, px (gD (.obj C ns es) as) x → M.W = (fun c d _ H => E c d H) ∧ Exk K M x ds) :
    Ev K M ds (tMeGK K g mn (spX K pre post px) gV E te ta) R := fun M' σ G H Q m s w q =>
  he M' σ G H _ m s w fun v d1 G1 H1 s1 w1 r1 e => by
    subst e
    obtain ⟨a, dx, fs, rfl, h1, h2⟩ := obj_at r1
    refine ⟨a, C, dx, fs, rfl, w1.sub _ _ h1, c, hm, look_none h2 hn, ha M' σ G1 H1 _ m (s.mono s1) w1 fun vs as G2 H2 s2 w2 r2 e2 => ?_⟩
    exact ⟨M'.l, G2, gD (.obj C ns es) as, w2.toWd0, hg G2 _ _ vs as e2 (r1.mono s2) r2, (h as e2).1 M' m, fun v d G3 H3 s3 w3 r3 p3 => q v d G3 H3 ((s1.trans s2).trans s3) (w2.to s3 w3) r3 ((h as e2).2.1 d p3),
      fun c dx x G3 H3 s3 w3 hx' pp => w2.toW m ((h as e2).2.2 x pp).1 s3 w3 (s.mono ((s1.trans s2).trans s3)) hx' ((h as e2).2.2 x pp).2⟩
/-- lists of own things: of other lengths -/
theorem od_lsN {b : Bool} (hl : es.length ≠ es'.length) : OpD K M (rLsO b K g sp E) (.list es) (.list es') (· = .bl b) := fun M' G H x y Q m rx ry w q => by
  obtain ⟨l, us, rfl, h1, r1⟩ := rx.list_ex
  obtain ⟨l', us', rfl, h2, r2⟩ := ry.list_ex
  exact ⟨l, l', us, us', rfl, rfl, w.sub _ _ h1, w.sub _ _ h2, .inl ⟨by rw [r1.length, r2.length]; exact hl, q _ _ G H (Same.refl G) w (.bl _) rfl⟩⟩
/-- equal two by two -/
theorem od_lsT {b : Bool} (hl : es.length = es'.length) (h : ∀ (i : Nat) d1 d2, es[i]? = some d1 → es'[i]? = some d2 → ∃ C ns vs ns' vs', d1 = .obj C ns vs ∧ d2 = .obj C ns' vs' ∧ PySem.W.findIn K (.ref C) "__eq__" = some (some (.ref g)) ∧ (∀ M', MSub M M' → pre M'.l [d1, d2]) ∧ ∀ r, post [d1, d2] r → r = .bl true) :
    OpD K M (rLsO b K g (spF K pre post) E) (.list es) (.list es') (· = .bl (!b)) := fun M' G H x y Q m rx ry w q => by
  obtain ⟨l, us, rfl, h1, r1⟩ := rx.list_ex
  obtain ⟨l', us', rfl, h2, r2⟩ := ry.list_ex
  refine ⟨l, l', us, us', rfl, rfl, w.sub _ _ h1, w.sub _ _ h2, .inr ⟨by rw [r1.length, r2.length]; exact hl, fun H' => ∃ G', Same G G' ∧ Wd M' G' H', ⟨G, Same.refl G, w⟩, fun H' ⟨G', s', w'⟩ => ⟨w'.sub _ _ (s' _ _ h1), w'.sub _ _ (s' _ _ h2)⟩, fun i x' y' H' e1 e2 ⟨G', s', w'⟩ => ?_, fun H' ⟨G', s', w'⟩ => q _ _ G' H' s' w' (.bl _) rfl⟩⟩
  have k1 : i < us.length := (List.getElem?_eq_some_iff.mp e1).1
  have k2 : i < us'.length := (List.getElem?_eq_some_iff.mp e2).1
  have n1 : es[i]? = some (es[i]'(by rw [← r1.length]; exact k1)) := List.getElem?_eq_getElem _
  have n2 : es'[i]? = some (es'[i]'(by rw [← r2.length]; exact k2)) := List.getElem?_eq_getElem _
  obtain ⟨v1, a1, b1⟩ := r1.get n1
  obtain ⟨v2, a2, b2⟩ := r2.get n2
  rw [e1] at a1
  rw [e2] at a2
  cases a1
  cases a2
  obtain ⟨C, ns, vs, ns', vs', q1, q2, hs, hp, hR⟩ := h i _ _ n1 n2
  have b1' := b1
  have b2' := b2
  rw [q1] at b1'
  rw [q2] at b2'
  obtain ⟨a, dx, fs, rfl, h3, _⟩ := obj_at b1'
  obtain ⟨c, dy, gs, rfl, h4, _⟩ := obj_at b2'
  refine ⟨a, c, C, dx, dy, fs, gs, rfl, rfl, w'.sub _ _ (s' _ _ h3), w'.sub _ _ (s' _ _ h4), hs, M'.l, G', _, w'.toWd0, .cons (b1.mono s') (.cons (b2.mono s') .nil), hp M' m, fun v d G'' H'' s'' w'' r'' pp => ?_, fun _ _ _ _ _ _ _ _ z => z.elim⟩
  have e := hR d pp
  subst e
  exact ⟨r''.bl_inv, G'', s'.trans s'', w'.to s'' w''⟩
/-- a class value through what is owned -/
theorem ev_ocon {f : Str} {p : Addr} {fs : List (Str × D)} (hm : (p, obP K (.ins C fs)) ∈ M) (he : Ev K M ds te (· = .raw (.ref p))) (c : Cls K C) (k : ConD K C f d) (hn : f ∉ fs.map (·.1)) : Ev K M ds (tCon K te f) (· = d) := fun M' σ G H Q m s w q =>
  he M' σ G H _ m s w fun v d1 G1 H1 s1 w1 r1 e => by
    subst e
    have ev := r1.raw_inv
    subst ev
    obtain ⟨v, u, k1, k2⟩ := k.ex
    obtain ⟨_, x, hx, dx, gs, eu, e3, r3⟩ := w1.mt _ (m.l _ hm)
    subst eu
    exact ⟨p, C, dx, gs, v, u, rfl, hx, c, k1, look_none e3 hn, q v d G1 H1 s1 w1 (k2 G1) rfl⟩
end
section
variable {K : PySem.W.Frag} {M : Mt} {ds : DS} {ta tk : TA} {E : XK} {R : D → Prop} {pre : Ml → Own → List D → Prop} {post px : Own → List D → Own → D → Prop}
/-- C(e, .., k = v, ..) -/
theorem ev_makeKA {C : Addr} {n l : Nat} {RA RK : List D → Prop} {gV : List V → List V → List V} {gD : List D → List D → List D} (ha : EvA K M ds ta RA) (hk : EvA K M ds tk RK) (hn : ∀ as, RA as → as.length = n) (hl : ∀ ks, RK ks → ks.length = l)
    (hg : ∀ G p vs zs as ks, RA as → RK ks → RpAll K G vs as → RpAll K G zs ks → RpAll K G (gV (.ref p :: vs) zs) (.raw (.ref p) :: gD as ks))
    (h : ∀ p as ks, RA as → RK ks → (∀ M', MSub M M' → pre M'.l [(p, .ins C [])] (.raw (.ref p) :: gD as ks)) ∧ (∀ o' d, post [(p, .ins C [])] (.raw (.ref p) :: gD as ks) o' d → d = .non ∧ ∃ fs, o' = [(p, .ins C fs)] ∧ R (.obj C (fs.map (·.1)) (fs.map (·.2)))) ∧
      ∀ o' y, px [(p, .ins C [])] (.raw (.ref p) :: gD as ks) o' y → M.W = (fun c d _ H => E c d H) ∧ Exk K M y ds) :
    Ev K M ds (tMakeK C n l (spW K pre post px) gV E ta tk) R := fun M' σ G H Q m s w q =>
  ha M' σ G H _ m s w fun vs as G1 H1 s1 w1 r1 e1 => hk M' σ G1 H1 _ m (s.mono s1) w1 fun zs ks G2 H2 s2 w2 r2 e2 => by
    refine ⟨by rw [r1.length, hn as e1], by rw [r2.length, hl ks e2], fun x dx hx hdx hne => ?_⟩
    obtain ⟨h1, h2, h3⟩ := h x as ks e1 e2
    exact make_go m (s.mono (s1.trans s2)) w2 (hg G2 x vs zs as ks e1 e2 (r1.mono s2) r2) hx hdx hne (h1 M' m) h2 h3 fun v d G' H' a b c r => q v d G' H' ((s1.trans s2).trans a) b c r
/-- C(e, .., k = v, ..), the def has *v: what is left over is a tuple -/
theorem ev_makeS {C : Addr} {n l : Nat} {RA RK : List D → Prop} {gz : List V → List V} {gD : List D → List D} (ha : EvA K M ds ta RA) (hk : EvA K M ds tk RK) (hn : ∀ as, RA as → n ≤ as.length ∧ as.length ≤ 100000) (hl : ∀ ks, RK ks → ks.length = l)
    (hg : ∀ G zs ks, RK ks → RpAll K G zs ks → RpAll K G (gz zs) (gD ks))
    (h : ∀ p as ks, RA as → RK ks → (∀ M', MSub M M' → pre M'.l [(p, .ins C [])] (.raw (.ref p) :: as.take n ++ (gD ks ++ [.tup (as.drop n)]))) ∧ (∀ o' d, post [(p, .ins C [])] (.raw (.ref p) :: as.take n ++ (gD ks ++ [.tup (as.drop n)])) o' d → d = .non ∧ ∃ fs, o' = [(p, .ins C fs)] ∧ R (.obj C (fs.map (·.1)) (fs.map (·.2)))) ∧
      ∀ o' y, px [(p, .ins C [])] (.raw (.ref p) :: as.take n ++ (gD ks ++ [.tup (as.drop n)])) o' y → M.W = (fun c d _ H => E c d H) ∧ Exk K M y ds) :
    Ev K M ds (tMakeS C n l (spW K pre post px) gz E ta tk) R := fun M' σ G H Q m s w q =>
  ha M' σ G H _ m s w fun vs as G1 H1 s1 w1 r1 e1 => hk M' σ G1 H1 _ m (s.mono s1) w1 fun zs ks G2 H2 s2 w2 r2 e2 => by
    have rA := r1.mono s2
    have lv : vs.length = as.length := r1.length
    refine ⟨vs.take n, vs.drop n, (List.take_append_drop n vs).symm, by rw [List.length_take]; have := (hn as e1).1; omega, by rw [r2.length, hl ks e2], by rw [List.length_drop]; exact Nat.le_trans (show vs.length - n ≤ 100000 by have := (hn as e1).2; omega) (by decide), fun x dx p hx hdx hne hp => ?_⟩
    obtain ⟨h1, h2, h3⟩ := h x as ks e1 e2
    have npx : p ≠ x := fun e => by rw [e, upd_same] at hp; cases hp
    have npd : p ≠ dx := fun e => by rw [upd_ne npx, e, upd_same] at hp; cases hp
    have hp2 : H2 p = none := by rw [upd_ne npx, upd_ne npd] at hp; exact hp
    have eH : upd (upd (upd H2 dx (.own x)) x (.ins C dx [])) p (.tup (vs.drop n)) = upd (upd (upd H2 p (.tup (vs.drop n))) dx (.own x)) x (.ins C dx []) := by
      funext z
      by_cases z1 : z = p
      · subst z1; rw [upd_same, upd_ne npx, upd_ne npd, upd_same]
      · by_cases z2 : z = x
        · subst z2; rw [upd_ne z1, upd_same, upd_same]
        · by_cases z3 : z = dx
          · subst z3; rw [upd_ne z1, upd_ne z2, upd_same, upd_ne z2, upd_same]
          · rw [upd_ne z1, upd_ne z2, upd_ne z3, upd_ne z2, upd_ne z3, upd_ne z1]
    rw [eH]
    have w3 := w2.new (o := HO.tup (vs.drop n)) hp2
    have s3 : Same G2 (upd G2 p (.tup (vs.drop n))) := same_new (w2.free hp2)
    have rB := rA.mono s3
    refine make_go m (s.mono ((s1.trans s2).trans s3)) w3 ?_ (by rw [upd_ne (Ne.symm npx)]; exact hx) (by rw [upd_ne (Ne.symm npd)]; exact hdx) hne (h1 M' m) h2 h3 fun v d G' H' a b c r => q v d G' H' (((s1.trans s2).trans s3).trans a) b c r
    exact .cons (.raw _) ((rB.take n).append ((hg _ zs ks e2 (r2.mono s3)).append (.cons (.tup (.inl (.inl upd_same)) (rB.drop n)) .nil)))
end
end Rg
namespace Rg
open PySem PySem.Spec L2 RZ PyProof.Rows
section
variable {K : PySem.W.Frag} {M : Mt} {o : Own} {ds : DS} {te to ti ta tb : TE}
/-! ### list(range(a, b)) -/
theorem ev_listRg {a b : Int} (ha : Ev K M ds ta (· = .int a)) (hb : Ev K M ds tb (· = .int b)) (h : RgOk a b) : Ev K M ds (tLstRg (tRg2 ta tb)) (· = .list (rangeD a (b - a).toNat)) := fun M' σ G H Q m s w q =>
  ha M' σ G H _ m s w fun v d1 G1 H1 s1 w1 r1 e1 => hb M' σ G1 H1 _ m (s.mono s1) w1 fun v2 d2 G2 H2 s2 w2 r2 e2 => by
    subst e1; subst e2
    refine ⟨a, b, r1.int_inv, r2.int_inv, h, fun p hp => ?_⟩
    have sn := same_new (o := HO.lst (rgV a b)) (w2.free hp)
    have key : ∀ (l : List Nat) (G : Hp), RpAll K G (l.map fun (i : Nat) => V.int (a + (i : Nat))) (l.map fun (i : Nat) => D.int (a + i)) := fun l G => by
      induction l with
      | nil => exact .nil
      | cons x r ih => exact .cons (.int _) ih
    exact q (.ref p) _ _ _ ((s1.trans s2).trans sn) (w2.new hp) (.lst upd_same (key _ _)) rfl
/-! ### list(tuple), is not None -/
theorem cd_listofT {xs : List D} : CallD K M (fun xs H Q => ∃ p ys, xs = [.ref p] ∧ (SqL K H p ys ∨ SqT K H p ys) ∧ ∀ l, H l = none → Q (.ref l) (upd H l (.lst ys))) [.tup xs] (· = .list xs) := fun M' G H vs Q m r w q => by
  cases r with
  | cons p r =>
    cases r
    obtain ⟨a, us, rfl, h1, r1⟩ := p.tup_inv
    refine ⟨a, us, rfl, .inr (same_t w.sub h1), fun l hl => ?_⟩
    have sn := same_new (o := HO.lst us) (w.free hl)
    exact q (.ref l) _ _ _ sn (w.new hl) (.lst upd_same (r1.mono sn)) rfl
/-- list(xs), owned -/
theorem evw_listof {xs : List D} (he : Ev K (M.adds (ownM K o)) ds te (· = .list xs)) : EvW K M o ds (tCB (fun xs H Q => ∃ p ys, xs = [.ref p] ∧ (SqL K H p ys ∨ SqT K H p ys) ∧ ∀ l, H l = none → Q (.ref l) (upd H l (.lst ys))) (tCons te tNil)) (fun o' d => ∃ p, o' = (p, .lst xs) :: o ∧ d = .raw (.ref p)) := fun M' σ G H Q m s w q =>
  he (M'.adds (ownM K o)) σ G H _ m.adds2 s w fun v d1 G1 H1 s1 w1 r1 e => by
    subst e
    obtain ⟨a, us, rfl, hx, r⟩ := r1.list_ex
    exact ⟨a, us, rfl, .inl (sq (w1.sub _ _ hx)), fun l hl => q (.ref l) (.raw (.ref l)) ((l, .lst xs) :: o) G1 _ s1 (w1.newW hl ⟨us, rfl, r⟩) (.raw _) ⟨l, rfl, rfl⟩⟩
theorem od_notNone {d : D} {b : Bool} (h : noneD d = some b) : OpD K M (fun x y H Q => y = .non ∧ Q (.bl (!decide (x = .non))) H) d .non (· = .bl (!b)) := fun M' G H x y Q m rx ry w q => by
  have e : decide (x = V.non) = b := by cases rx <;> cases h <;> simp
  exact ⟨ry.non_inv, by rw [e]; exact q _ _ G H (Same.refl G) w (.bl _) rfl⟩
/-! ### *e -/
theorem q_star {X : Cx} {e : Expr} {es : List Expr} {t : TA} {p : Pos} (he : PE X e te) (hr : PA X es t) (hK : X.K = K := by rfl) (hs : starEach (.Starred e p :: es) X.env = (true, eval e X.env) :: starEach es X.env := by rfl) : PA X (.Starred e p :: es) (StX.tStar K te t) := hK ▸ StX.pa_star he hr hs
theorem ea_star {t : TA} {xs as : List D} (he : Ev K M ds te (· = .list xs)) (ha : EvA K M ds t (· = as)) : EvA K M ds (StX.tStar K te t) (· = xs ++ as) := fun M' σ G H Q m s w q =>
  he M' σ G H _ m s w fun v d1 G1 H1 s1 w1 r1 e1 => by
    subst e1
    obtain ⟨a, us, rfl, h1, r2⟩ := r1.list_ex
    refine ⟨a, us, rfl, .inr (sq (w1.sub _ _ h1)), ha M' σ G1 H1 _ m (s.mono s1) w1 fun vs bs G2 H2 s2 w2 r3 e3 => ?_⟩
    subst e3
    exact q _ _ G2 H2 (s1.trans s2) w2 ((r2.mono s2).append r3) rfl
/-! ### xs[i] = e on an owned list -/
theorem RpAll.set {G : Hp} {v : V} {d : D} (r : Rp K G v d) : ∀ {vs : List V} {es : List D} (j : Nat), RpAll K G vs es → RpAll K G (vs.set j v) (es.set j d)
  | [], [], _, .nil => .nil
  | _ :: _, _ :: _, 0, .cons a b => .cons r b
  | _ :: _, _ :: _, j + 1, .cons a b => .cons a (RpAll.set r j b)
theorem runw_setL {p : Addr} {xs : List D} {d : D} {k : Int} {j : Nat} {E : AW} (he : Ev K (M.adds (ownM K ((p, .lst xs) :: o))) ds te (· = d)) (ho : Ev K (M.adds (ownM K ((p, .lst xs) :: o))) ds to (· = .raw (.ref p))) (hi : Ev K (M.adds (ownM K ((p, .lst xs) :: o))) ds ti (· = .int k)) (hj : ixN xs.length k = some j)
    (hn : E.nx ((p, .lst (xs.set j d)) :: o) ds) : RunW K M ((p, .lst xs) :: o) ds (tAsg te (gSub to ti rSetL)) E := fun M' σ G H Z m s w z =>
  he (M'.adds _) σ G H _ m.adds2 s w fun v1 d1 G1 H1 s1 w1 r1 e1 => ho (M'.adds _) σ G1 H1 _ m.adds2 (s.mono s1) w1 fun v2 d2 G2 H2 s2 w2 r2 e2 => hi (M'.adds _) σ G2 H2 _ m.adds2 (s.mono (s1.trans s2)) w2 fun v3 d3 G3 H3 s3 w3 r3 e3 => by
    subst e1; subst e2; subst e3
    obtain ⟨u, hu, vs, eu, rv⟩ := w3.atW
    subst eu
    refine ⟨p, vs, k, j, r2.raw_inv, r3.int_inv, hu, by rw [rv.length]; exact hj, ?_⟩
    exact z.nx _ ds σ G3 _ hn ((s1.trans s2).trans s3) (s.mono ((s1.trans s2).trans s3)) (w3.putW (c := .lst _) ⟨_, rfl, RpAll.set (r1.mono (s2.trans s3)) j rv⟩)
end
end Rg
namespace Rg
open PySem PySem.Spec L2 RZ PyProof.Rows
section
variable {K : PySem.W.Frag} {M : Mt} {ds : DS} {te : TE}
theorem q_tupleOf {X : Cx} {a : Expr} {p pos : Pos} (hg : Gl X "tuple") (hm : X.mg "tuple" = none) (ha : PE X a te) (hK : X.K = K := by rfl) (na : starEach [a] X.env = (false, eval a X.env) :: starEach [] X.env := by rfl) : PE X (.Call (.Name "tuple" p) [a] [] pos) (tThen te (kTup K)) := hK ▸ pe_tupleOf hg hm ha na
/-- tuple(xs), xs an owned list -/
theorem ev_tupO {p : Addr} {xs : List D} (hm : (p, obP K (.lst xs)) ∈ M) (he : Ev K M ds te (· = .raw (.ref p))) : Ev K M ds (tThen te (kTup K)) (· = .tup xs) := fun M' σ G H Q m s w q =>
  he M' σ G H _ m s w fun v d1 G1 H1 s1 w1 r1 e => by
    subst e
    have ev := r1.raw_inv
    subst ev
    obtain ⟨_, u, hu, vs, eu, rv⟩ := w1.mt _ (m.l _ hm)
    subst eu
    refine .inl ⟨p, vs, rfl, sq hu, fun l hl => ?_⟩
    have sn := same_new (o := HO.tup vs) (w1.free hl)
    exact q (.ref l) _ _ _ (s1.trans sn) (w1.new hl) (.tup (.inl (.inl upd_same)) (rv.mono sn)) rfl
/-- xs[i], xs an owned list -/
theorem ev_ixO {p : Addr} {xs : List D} {ti : TE} {i : Int} {d : D} (hm : (p, obP K (.lst xs)) ∈ M) (he : Ev K M ds te (· = .raw (.ref p))) (hi : Ev K M ds ti (· = .int i)) (h : L2.atI xs i = some d) : Ev K M ds (tOp (rIx K) te ti) (· = d) := fun M' σ G H Q m s w q =>
  he M' σ G H _ m s w fun v d1 G1 H1 s1 w1 r1 e => hi M' σ G1 H1 _ m (s.mono s1) w1 fun v2 d2 G2 H2 s2 w2 r2 e2 => by
    subst e; subst e2
    have ev := r1.raw_inv
    subst ev
    obtain ⟨_, u, hu, vs, eu, rv⟩ := w2.mt _ (m.l _ hm)
    subst eu
    obtain ⟨z, hz, rz⟩ := rv.atI h
    exact .inl ⟨p, vs, i, z, rfl, r2.int_inv, sq hu, hz, q z _ G2 H2 (s1.trans s2) w2 rz rfl⟩
end
/-! ### arguments of which some are owned -/
section
variable {K : PySem.W.Frag} {M : Mt} {o : Own} {ds : DS} {te : TE} {ta : TA}
def EvAW (K : PySem.W.Frag) (M : Mt) (o : Own) (ds : DS) (ta : TA) (R : Own → List D → Prop) : Prop := ∀ (M' : Mt) (σ : L2.St) (G H : Hp) (Q : List V → Hp → Prop), MSub M M' → Sg K G σ ds → Wd (M'.adds (ownM K o)) G H →
  (∀ vs as o' G' H', Same G G' → Wd (M'.adds (ownM K o')) G' H' → RpAll K G' vs as → R o' as → Q vs H') → ta σ H Q
theorem eaw_nil : EvAW K M o ds tNil (fun o' as => o' = o ∧ as = []) := fun M' σ G H Q m s w q => q [] [] o G H (Same.refl G) w .nil ⟨rfl, rfl⟩
theorem eaw_cons {R1 : Own → D → Prop} {R : Own → List D → Prop} (h : EvW K M o ds te R1) (ha : ∀ o' d, R1 o' d → EvAW K M o' ds ta (fun o2 as => R o2 (d :: as))) : EvAW K M o ds (tCons te ta) R := fun M' σ G H Q m s w q =>
  h M' σ G H _ m s w fun v d o' G1 H1 s1 w1 r1 e => ha o' d e M' σ G1 H1 _ m (s.mono s1) w1 fun vs as o2 G2 H2 s2 w2 r2 e2 => q (v :: vs) (d :: as) o2 G2 H2 (s1.trans s2) w2 (.cons (r1.mono s2) r2) e2
theorem evw_tupW {R : Own → List D → Prop} {n : Nat} (h : EvAW K M o ds ta R) (hl : ∀ o' as, R o' as → as.length ≤ 100000) : EvW K M o ds (tTup ta) (fun o' d => ∃ as, d = .tup as ∧ R o' as) := fun M' σ G H Q m s w q =>
  h M' σ G H _ m s w fun vs as o' G1 H1 s1 w1 r1 e => by
    refine ⟨by rw [r1.length]; exact Nat.le_trans (hl o' as e) (by decide), fun p hp => ?_⟩
    have sn := same_new (o := HO.tup vs) (w1.free hp)
    exact q (.ref p) (.tup as) o' _ _ (s1.trans sn) ⟨(w1.new hp).toWd0, (w1.new hp).xk⟩ (.tup (.inl (.inl upd_same)) (r1.mono sn)) ⟨as, rfl, e⟩
theorem runw_asgW {g : TG} {R : Own → D → Prop} {E : AW} (h : EvW K M o ds te R) (hg : ∀ o' d, R o' d → EvG K (M.adds (ownM K o')) none g d ds (E.nx o')) : RunW K M o ds (tAsg te g) E := fun M' σ G H Z m s w z =>
  h M' σ G H _ m s w fun v d o' G1 H1 s1 w1 r1 e =>
    hg o' d e (M'.adds (ownM K o')) σ G1 H1 v _ m.adds2 (s.mono s1) w1 r1 fun ds2 σ2 G2 H2 n2 s2 sg2 w2 _ => z.nx o' ds2 σ2 G2 H2 n2 (s1.trans s2) sg2 w2
theorem runw_par {i j : Nat} {R : Own → List D → Prop} {E : AW} (h : EvAW K M o ds ta R) (hn : ∀ o' l, R o' l → ∃ x y, l = [x, y] ∧ E.nx o' ((ds.set i (some x)).set j (some y))) : RunW K M o ds (tPar i j ta) E := fun M' σ G H Z m s w z =>
  h M' σ G H _ m s w fun vs as o' G1 H1 s1 w1 r1 e => by
    obtain ⟨x, y, rfl, hx⟩ := hn o' as e
    cases r1 with
    | cons p1 r =>
      cases r with
      | cons p2 r =>
        cases r
        exact ⟨_, _, rfl, z.nx o' _ _ G1 H1 hx s1 (((s.mono s1).set i p1).set j p2) w1⟩
/-- xs + ys, owned -/
theorem evw_catR {tb : TE} {xs : List D} {R2 : D → Prop} (h1 : Ev K (M.adds (ownM K o)) ds te (· = .list xs)) (h2 : Ev K (M.adds (ownM K o)) ds tb R2) (hR : ∀ d, R2 d → ∃ ys, d = .list ys ∧ xs.length + ys.length ≤ 100000) :
    EvW K M o ds (tOp (rAddU K) te tb) (fun o' d => ∃ p ys, R2 (.list ys) ∧ o' = (p, .lst (xs ++ ys)) :: o ∧ d = .raw (.ref p)) := fun M' σ G H Q m s w q =>
  h1 (M'.adds (ownM K o)) σ G H _ m.adds2 s w fun v1 d1 G1 H1 s1 w1 r1 e1 => h2 (M'.adds (ownM K o)) σ G1 H1 _ m.adds2 (s.mono s1) w1 fun v2 d2 G2 H2 s2 w2 r2 e2 => by
    subst e1
    obtain ⟨ys, rfl, hl⟩ := hR d2 e2
    obtain ⟨a, us, rfl, ha, ra⟩ := (r1.mono s2).list_ex
    obtain ⟨b, ws, rfl, hb, rb⟩ := r2.list_ex
    exact .inr (.inr ⟨a, b, us, ws, rfl, rfl, w2.sub _ _ ha, w2.sub _ _ hb, by rw [ra.length, rb.length]; exact Nat.le_trans hl (by decide), fun p hp => q (.ref p) (.raw (.ref p)) ((p, .lst (xs ++ ys)) :: o) G2 _ (s1.trans s2) (w2.newW hp ⟨us ++ ws, rfl, ra.append rb⟩) (.raw _) ⟨p, ys, e2, rfl, rfl⟩⟩)
end
end Rg
namespace PySem.W
open PySem PySem.Spec PySem.Calls PyProof.Rows
section
variable {prog : Program} {w : World} {A : Around} {E : Value → Shared → Prop} {s : Shared} {K : Frag} {x C L f g : Addr} {h₀ : Heap} {m : Str → Option Value} {ox : Obj} {od : Option Obj}
/-! ### n op o: a whole number's operator does not know the own thing, which is asked by its reflected one -/
/-- the whole number's operator gives NotImplemented -/
structure NotKnown (prog : Program) (w : World) (nm : String) : Prop where
  run : ∀ (A : Around) (E : Value → Shared → Prop) (s : Shared) (i : Int) (t : Tok) (x : Addr) (o : Obj) (Q : Option Value → Shared → Prop), s.heap.get? x = some o → (∀ v, o.data ≠ .prim v) → Q none s →
  wpAny (model prog w) A (tryMethod (.int i t) (PySem.dunder nm) (.ref x)) Q E s
theorem notKnown_of {nm id : String} {B : Builtin} {f : Int → Int → Sem Fin} {z : String} (slot : Slot "int" (PySem.dunder nm) id) (entry : entryFor table id = some B) (hB : B = Builtin.Int.intBinary z f) (args : ∀ a b : Value, argsOk id ⟨[a, b], []⟩) : NotKnown prog w nm := ⟨fun A E s i t x o Q ho hp hq => by
  simp only [tryMethod]
  refine wpAny_bind (wpAny_callSpecial?_slot (typeIs_int s i t) slot (wpAny_mono (wpAny_call (codeAny_call_builtin slot.plain entry (slot.check _ _ _ _ _ _ _ _ (typeIs_int s i t) (args _ _) ?_)) (Q := fun v s' => v = .notImplemented ∧ Q none s')) (fun v s' h' => ?_) fun _ _ h' => h'))
  · subst hB
    unfold Builtin.Int.intBinary
    refine wpAny_bind (wpAny_pure ?_)
    refine wpAny_bind (wpAny_pure ?_)
    refine wpAny_bind (m := asInt? (.ref x)) ?_
    unfold asInt?
    refine wpAny_bind (wpAny_load ho ?_)
    cases hd : o.data with
    | prim v => exact absurd hd (hp v)
    | _ => exact wpAny_pure (wpAny_bind (wpAny_rule (wpAny_pure ⟨rfl, hq⟩)))
  · obtain ⟨e, hq⟩ := h'
    subst e
    exact wpAny_pure hq⟩
theorem notKnown_add : NotKnown prog w "add" := notKnown_of F.slot_int_add F.entry_int_add rfl F.args_int_add_2
theorem notKnown_sub : NotKnown prog w "sub" := notKnown_of F.slot_int_sub F.entry_int_sub rfl F.args_int_sub_2
theorem notKnown_mul : NotKnown prog w "mul" := notKnown_of F.slot_int_mul F.entry_int_mul rfl F.args_int_mul_2
theorem binop_R {op : Operator} {i : Int} {t : Tok} {Q : Value → Shared → Prop} (F : Fr h₀ L s.heap m) (X₀ : K.In h₀) (I : InstAt s.heap x ox C od) (hc : selfFirst K C = true) (hp : ∀ v, ox.data ≠ .prim v)
    (hs : findIn K (.ref C) (PySem.dunder op.info.2) = some (some (.ref g))) (hr : findIn K (.ref C) (dunderR op.info.2) = some (some (.ref f))) (hf : isFn K (.ref f) = true)
    (hfl : fillsNumberSlot (.type "int") op.info.2 = pure true) (hsub : subIn K (.ref C) (.type "int") = some false) (nk : NotKnown prog w op.info.2)
    (h : wpAny (model prog w) A (call (.ref f) [.ref x, .int i t]) (CmpBack Q) E s) : wpAny (model prog w) A (binaryOp op (.int i t) (.ref x)) Q E s := by
  have X := X₀.keeps F.keep
  obtain ⟨cd, rest, hcd, hm⟩ := ksp_first hc
  rcases hi : op.info with ⟨sym, nm⟩
  rw [hi] at hs hr hfl nk
  dsimp only at hs hr hfl nk
  have one : wpAny (model prog w) A (tryMethod (.ref x) (dunderR nm) (.int i t)) (fun r s' => ∃ v, r = some v ∧ Q v s') E s := ksp_try X I hr hf h
  have hne : (Value.type "int" == Value.ref C) = false := Bool.eq_false_iff.mpr fun q => by cases beq_iff_eq.mp q
  simp only [binaryOp, hi]
  refine wpAny_holding (wpAny_bind ?_)
  unfold binaryOp1
  refine wpAny_bind (wpAny_typeOf (typeIs_int s i t) (wpAny_bind (I.type.here (wpAny_bind (wpAny_of_eq hfl ?_)))))
  simp only [hne, Bool.false_eq_true, if_false]
  refine wpAny_bind ((fills_K X hcd hm hs).here ?_)
  simp only [Bool.and_self, if_true]
  refine wpAny_bind ((looks_subIn X hsub).here ?_)
  simp only [Bool.false_eq_true, if_false, Bool.not_false, Bool.and_self, if_true]
  refine wpAny_bind (wpAny_of_eq (show numberSlotInPython (.type "int") nm = pure false from rfl) ?_)
  simp only [Bool.false_eq_true, if_false]
  refine wpAny_bind (nk.run A E s i t x ox _ I.at_ hp ?_)
  refine wpAny_bind (m := tryMethod (.ref x) (dunderR nm) (.int i t)) (wpAny_mono one (fun r s' hr' => ?_) fun _ _ e => e)
  obtain ⟨v, rfl, hq⟩ := hr'
  exact wpAny_bind (wpAny_rule (wpAny_pure (wpAny_pure hq)))
theorem abs_K {Q : Value → Shared → Prop} (F : Fr h₀ L s.heap m) (X₀ : K.In h₀) (I : InstAt s.heap x ox C od) (hs : findIn K (.ref C) "__abs__" = some (some (.ref f))) (hf : isFn K (.ref f) = true)
    (h : wpAny (model prog w) A.in1 (call (.ref f) [.ref x]) Q E s) : wpAny (model prog w) A (call (.builtin "abs") [.ref x]) Q E s := by
  refine Calls.call_function_entry PyProof.Rows.kind_abs PyProof.Rows.plain_abs PyProof.Rows.entry_abs (PyProof.Rows.args_abs _) ?_
  unfold Builtin.«abs»
  refine wpAny_bind (m := oneArg "abs" _) (wpAny_pure ?_)
  refine wpAny_bind (m := callSpecial? (.ref x) (Str.ofString "__abs__")) (special_fn (X₀.keeps F.keep) I hs (beq_iff_eq.mp hf) (wpAny_mono h (fun r s' hr => ?_) fun _ _ y => y))
  exact wpAny_pure ⟨_, rfl, hr⟩
theorem strOf_K {Q : Value → Shared → Prop} (hu : A.units < cLine) (F : Fr h₀ L s.heap m) (X₀ : K.In h₀) (I : InstAt s.heap x ox C od) (hs : findIn K (.ref C) "__str__" = some (some (.ref f))) (hf : isFn K (.ref f) = true)
    (h : wpAny (model prog w) A (call (.ref f) [.ref x]) (StrBack Q) E s) : wpAny (model prog w) A (Builtin.Str.strOf (.ref x)) Q E s := by
  unfold Builtin.Str.strOf
  simp only [Builtin.Str.isExactStr, Bool.false_eq_true, if_false]
  refine wpAny_bind (wpAny_cRoomFor hu ?_)
  refine wpAny_bind (m := callSpecial? (.ref x) (Str.ofString "__str__")) (special_fn (X₀.keeps F.keep) I hs (beq_iff_eq.mp hf) (wpAny_mono h (fun r s' hr => ?_) fun _ _ y => y))
  cases r <;> first | exact hr.elim | skip
  refine wpAny_bind (m := asStr? (.str _ _)) (wpAny_pure ?_)
  exact wpAny_pure hr
end
end PySem.W
namespace Rg
open PySem PySem.Spec L2 RZ PyProof.Rows
/-- what a class has for an operator with values of its own and whole numbers -/
structure OpO (K : PySem.W.Frag) (C f : Addr) (op : Operator) : Prop where
  first : PySem.W.selfFirst K C = true
  s : PySem.W.findIn K (.ref C) (PySem.dunder op.info.2) = some (some (.ref f))
  fn : PySem.W.isFn K (.ref f) = true
  r : ∃ rc, PySem.W.findIn K (.ref C) (dunderR op.info.2) = some rc ∧ (rc = none ∨ ∃ g : Addr, rc = some (.ref g))
  i1 : ∃ fo, PySem.W.findIn K (.type "int") (PySem.dunder op.info.2) = some fo
  i2 : ∃ fo, PySem.W.findIn K (.type "int") (dunderR op.info.2) = some fo
  sub : PySem.W.subIn K (.type "int") (.ref C) = some false
/-- the reflected one -/
structure OpR' (K : PySem.W.Frag) (C f : Addr) (op : Operator) : Prop where
  first : PySem.W.selfFirst K C = true
  s : ∃ g : Addr, PySem.W.findIn K (.ref C) (PySem.dunder op.info.2) = some (some (.ref g))
  r : PySem.W.findIn K (.ref C) (dunderR op.info.2) = some (some (.ref f))
  fn : PySem.W.isFn K (.ref f) = true
  fl : fillsNumberSlot (.type "int") op.info.2 = pure true
  sub : PySem.W.subIn K (.ref C) (.type "int") = some false
  nk : ∀ prog w, PySem.W.NotKnown prog w op.info.2
section
variable {X : Cx} {CX : CXT} {K : PySem.W.Frag} {k : Nat} {f C : Addr} {fd : FuncData} {ps : List Str} {sp : Sp} {E : XK} {op : Operator}
theorem ins_at0 {pins : List (Addr × Obj)} {σ : L2.St} {H : Hp} {s : Shared} {a C dx : Addr} {fs : List (Str × V)} (I : Inv X pins σ H s) (e : H a = some (.ins C dx fs)) : ∃ od, PySem.W.InstAt s.heap a (PySem.W.instObj C dx) C (some od) := by
  obtain ⟨mA, O, _⟩ := ins_get I.hok e
  obtain ⟨od, J, _⟩ := O.look
  exact ⟨od, J⟩
def rBinO (C : Addr) (sp : Sp) (E : XK) : R2 := fun x y H Q => ∃ a dx fs, x = .ref a ∧ H a = some (.ins C dx fs) ∧ ((∃ b dy gs, y = .ref b ∧ H b = some (.ins C dy gs)) ∨ ∃ i, y = .int i) ∧ sp [x, y] H Q E
theorem q_binO (O : OpO X.K C f op) (F : FnOk X.prog X.w X.K X.mg X.base CX k f fd ps sp) (hr : Room k X.A) (hb : Binds X.K fd ps []) (hx : Passes CX X E) : OpR X (binaryOp op) (rBinO C sp E) := by
  intro pins s σ H x y v u Q I rx ry h
  obtain ⟨a, dx, fs, rfl, ea, h, q⟩ := h
  cases (show v = Value.ref a from rx)
  obtain ⟨od, J⟩ := ins_at0 I ea
  obtain ⟨m, hF⟩ := I.fr
  obtain ⟨rc, hrc, hp⟩ := O.r
  have one : wpAny (model X.prog X.w) X.A (call (.ref f) [.ref a, u]) (PySem.W.CmpBack (EP X pins σ Q)) X.xe s := wpAny_mono (run_fnA (us := [.ref a, u]) (vs := [.ref a, y]) F hr I.env0 hb hx I (.cons rfl (.cons ry .nil)) q) (fun w s' z => let ⟨z', H', I', rz, qz⟩ := z; cmpback rz ⟨z', H', I', rz, qz⟩) fun _ _ x => x
  rcases h with ⟨b, dy, gs, rfl, eb⟩ | ⟨i, rfl⟩
  · cases (show u = Value.ref b from ry)
    obtain ⟨ob, J'⟩ := ins_at0 I eb
    exact PySem.W.binop_K hF I.ok.mod.kin J J'.type O.first O.s O.fn one
  · obtain ⟨t, rfl⟩ := (show ∃ t, u = Value.int i t from ry)
    obtain ⟨fo, h1⟩ := O.i1
    obtain ⟨ro, h2⟩ := O.i2
    exact PySem.W.ksp_binT (T := "int") hF I.ok.mod.kin J rfl O.first O.s O.fn hrc hp h1 h2 O.sub one
def rBinR (C : Addr) (sp : Sp) (E : XK) : R2 := fun x y H Q => ∃ i b dy gs, x = .int i ∧ y = .ref b ∧ H b = some (.ins C dy gs) ∧ sp [y, x] H Q E
theorem q_binR (O : OpR' X.K C f op) (F : FnOk X.prog X.w X.K X.mg X.base CX k f fd ps sp) (hr : Room k X.A) (hb : Binds X.K fd ps []) (hx : Passes CX X E) : OpR X (binaryOp op) (rBinR C sp E) := by
  intro pins s σ H x y v u Q I rx ry h
  obtain ⟨i, b, dy, gs, rfl, rfl, eb, q⟩ := h
  cases (show u = Value.ref b from ry)
  obtain ⟨t, rfl⟩ := (show ∃ t, v = Value.int i t from rx)
  obtain ⟨od, J⟩ := ins_at0 I eb
  obtain ⟨m, hF⟩ := I.fr
  obtain ⟨g, hs⟩ := O.s
  have one : wpAny (model X.prog X.w) X.A (call (.ref f) [.ref b, .int i t]) (PySem.W.CmpBack (EP X pins σ Q)) X.xe s := wpAny_mono (run_fnA (us := [.ref b, .int i t]) (vs := [.ref b, .int i]) F hr I.env0 hb hx I (.cons rfl (.cons ⟨t, rfl⟩ .nil)) q) (fun w s' z => let ⟨z', H', I', rz, qz⟩ := z; cmpback rz ⟨z', H', I', rz, qz⟩) fun _ _ x => x
  exact PySem.W.binop_R hF I.ok.mod.kin J O.first (fun v e => by cases e) hs O.r O.fn O.fl O.sub (O.nk _ _) one
/-! ### -o, abs(o), str(o) -/
def rUnO (C : Addr) (sp : Sp) (E : XK) : V → Hp → VK → Prop := fun x H Q => ∃ a dx fs, x = .ref a ∧ H a = some (.ins C dx fs) ∧ sp [x] H Q E
theorem q_negO (hs : PySem.W.findIn X.K (.ref C) "__neg__" = some (some (.ref f))) (hf : PySem.W.isFn X.K (.ref f) = true) (F : FnOk X.prog X.w X.K X.mg X.base CX k f fd ps sp) (hr : Room k X.A) (hb : Binds X.K fd ps []) (hx : Passes CX X E) : UnR X (unaryOp .USub) (rUnO C sp E) := by
  intro pins s σ H x v Q I rx h
  obtain ⟨a, dx, fs, rfl, ea, q⟩ := h
  cases (show v = Value.ref a from rx)
  obtain ⟨od, J⟩ := ins_at0 I ea
  obtain ⟨m, hF⟩ := I.fr
  exact PySem.W.ksp_neg hF I.ok.mod.kin J hs hf (run_fnA (us := [.ref a]) (vs := [.ref a]) F hr I.env0 hb hx I (.cons rfl .nil) q)
def rAbsO (C : Addr) (sp : Sp) (E : XK) : List V → Hp → VK → Prop := fun xs H Q => ∃ a dx fs, xs = [.ref a] ∧ H a = some (.ins C dx fs) ∧ sp [.ref a] H Q E
theorem q_absO (hs : PySem.W.findIn X.K (.ref C) "__abs__" = some (some (.ref f))) (hf : PySem.W.isFn X.K (.ref f) = true) (F : FnOk X.prog X.w X.K X.mg X.base CX k f fd ps sp) (hr : Room (k + 1) X.A) (hb : Binds X.K fd ps []) (hx : Passes CX X E) : CallR X (.builtin "abs") (rAbsO C sp E) := by
  intro pins s σ H xs us Q I r h
  obtain ⟨a, dx, fs, rfl, ea, q⟩ := h
  obtain ⟨u, rfl, ru⟩ := r.one
  cases (show u = Value.ref a from ru)
  obtain ⟨od, J⟩ := ins_at0 I ea
  obtain ⟨m, hF⟩ := I.fr
  exact PySem.W.abs_K hF I.ok.mod.kin J hs hf (run_fnA (us := [.ref a]) (vs := [.ref a]) F hr.in1 I.env0.in1 hb hx I (.cons rfl .nil) q)
theorem strNewO {prog : Program} {w : World} (x : Addr) : MeetsIn prog w (Builtin.«str.__new__» ⟨[.type "str", .ref x], []⟩) (fun A R s => wpAny (model prog w) A.in1 (Builtin.Str.strOf (.ref x)) (fun r s' => R (.ok (.ret r)) s') (fun e s' => R (.error e) s') s) :=
  .of_wp fun A R s h => by
    rw [str_new_tree]
    refine wpAny_bind (wpAny_pure ?_)
    refine wpAny_bind (wpAny_of_eq isSubtype_str_str ?_)
    exact wpAny_bind (wpAny_mono h (fun r s' h' => wpAny_pure ⟨_, rfl, h'⟩) fun _ _ e => e)
def rStrO (C : Addr) (sp : Sp) (E : XK) : List V → Hp → VK → Prop := fun xs H Q => ∃ a dx fs, xs = [.ref a] ∧ H a = some (.ins C dx fs) ∧ sp [.ref a] H (fun z H' => ∃ y, z = .str y ∧ Q z H') E
theorem q_strO (hs : PySem.W.findIn X.K (.ref C) "__str__" = some (some (.ref f))) (hf : PySem.W.isFn X.K (.ref f) = true) (F : FnOk X.prog X.w X.K X.mg X.base CX k f fd ps sp) (hr : Room (k + 2) X.A) (hb : Binds X.K fd ps []) (hx : Passes CX X E) : CallR X (.type "str") (rStrO C sp E) := by
  intro pins s σ H xs us Q I r h
  obtain ⟨a, dx, fs, rfl, ea, q⟩ := h
  obtain ⟨u, rfl, ru⟩ := r.one
  cases (show u = Value.ref a from ru)
  obtain ⟨od, J⟩ := ins_at0 I ea
  obtain ⟨m, hF⟩ := I.fr
  refine callType_newIn PySem.F.called_str (by decide) (PySem.F.typeCall_str_1 _) (PySem.F.newCall_str_1 _) (fun obj => PySem.F.args_object_init_2 obj _) PySem.F.entry_str_new (strNewO a) ?_
  refine PySem.W.strOf_K (by have := hr.in1.in1.un; omega) hF I.ok.mod.kin J hs hf ?_
  refine wpAny_mono (run_fnA (us := [.ref a]) (vs := [.ref a]) F hr.in1.in1 I.env0.in1.in1 hb hx I (.cons rfl .nil) q) (fun w s' z => ?_) fun _ _ x => x
  obtain ⟨z', H', I', rz, y, eb, qz⟩ := z
  subst eb
  obtain ⟨t, e⟩ := (show ∃ t, w = Value.str y t from rz)
  cases e
  exact ⟨rfl, .str y, H', I', ⟨t, rfl⟩, qz⟩
end
end Rg
namespace Rg
open PySem PySem.Spec L2 RZ PyProof.Rows
/-! ### comprehensions in whose block a callee is told cells of the def around it -/
def obsAt (s : Shared) : Addr → Obj := fun c => (s.heap.get? c).getD { cls := .none, data := .plain }
/-- the def's own cells, each with its slot -/
def OwnCells (X : Cx) (ys : List (PySem.Str × Nat)) : Prop := ∀ y ∈ ys, X.N[y.2]? = some y.1 ∧ X.env.scope.names.lookup y.1 = some .cell ∧ X.fn y.1 = true
/-- they stand as they were where the block starts, no text's and no frame's -/
def InBlk (X : Cx) (ys : List (PySem.Str × Nat)) (obs : Addr → Obj) (s : Shared) (H : Hp) (fp : List Addr) : Prop := ∀ c ∈ csOf X.env.cells ys, s.heap.get? c = some (obs c) ∧ H c = none ∧ X.base.get? c = none ∧ c ∉ frs X.stack ∧ c ∉ fp
def tLcT (cl : List (PySem.Str × Addr)) (ys : List (PySem.Str × Nat)) (wi : TI) (g : TG) (tt : (Addr → Obj) → TT) (te : (Addr → Obj) → TE) (vs : List Nat) : TE := fun σ H Q => wi σ H fun J H1 => (∀ y ∈ ys, ∃ v, σ[y.2]? = some (some v)) ∧ ∀ D, H1 D = none →
  ∀ obs : Addr → Obj, (∀ y ∈ ys, ∃ u v, (obs (cA cl y.1)).data = .cell (some u) ∧ RelV v u ∧ σ[y.2]? = some (some v)) → (csOf cl ys).Nodup → (∀ c ∈ csOf cl ys, H1 c = none) →
  ∃ W : Nat → Nat → Hp → Prop, (∃ m, W 0 m (upd H1 D (.lst []))) ∧ ∀ i m H, W i m H →
    (J.stop i H ∧ Q (.ref D) H) ∨ (J.go i H ∧ ∃ Nx : Hp → Prop, (∀ H', Nx H' → ∃ m', m' < m ∧ W (i + 1) m' H') ∧ ∀ x H', J.yld i H x H' → g x (wipe σ vs) H' fun σ2 H2 => wipe σ2 vs = wipe σ vs ∧ tt obs σ2 H2 fun b H3 =>
      if b = true then te obs σ2 H3 fun y H4 => ∃ acc, H4 D = some (.lst acc) ∧ acc.length < sizeLine ∧ Nx (upd H4 D (.lst (acc ++ [y]))) else Nx H3)
section
variable {X : Cx} {pins : List (Addr × Obj)} {σ : L2.St} {H : Hp} {s : Shared} {ys : List (PySem.Str × Nat)}
theorem told_facts (I : Inv X pins σ H s) (hys : OwnCells X ys) (hσ : ∀ y ∈ ys, ∃ v, σ[y.2]? = some (some v)) : ∀ y ∈ ys, ∃ (u : Value) (v : V), X.env.cells.lookup y.1 = some (cA X.env.cells y.1) ∧ s.heap.get? (cA X.env.cells y.1) = some (obsAt s (cA X.env.cells y.1)) ∧ (obsAt s (cA X.env.cells y.1)).data = .cell (some u) ∧ RelV v u ∧ σ[y.2]? = some (some v) := fun y hy => by
  obtain ⟨h1, h2, h3⟩ := hys y hy
  obtain ⟨v, hv⟩ := hσ y hy
  obtain ⟨m, hn, hl⟩ := I.loc
  obtain ⟨u, ru, lk⟩ := hl y.2 y.1 v h1 hv (.inr (.inl h2))
  rcases lk with ⟨z, _⟩ | ⟨_, c, e1, o, e2, e3⟩
  · have z : X.env.scope.names.lookup y.1 = some .local := z
    rw [h2] at z; cases z
  · have ec : cA X.env.cells y.1 = c := by unfold cA; rw [e1]; rfl
    rw [ec]
    have eo : obsAt s c = o := by unfold obsAt; rw [e2]; rfl
    rw [eo]
    exact ⟨u, v, e1, e2, e3, ru, hv⟩
theorem told_in {cl : List (PySem.Str × Addr)} {c : Addr} (hc : c ∈ csOf cl ys) : ∃ y ∈ ys, cA cl y.1 = c := by
  obtain ⟨y, hy, e⟩ := List.mem_map.mp hc
  exact ⟨y, hy, e⟩
theorem told_free (I : Inv X pins σ H s) (hys : OwnCells X ys) (hσ : ∀ y ∈ ys, ∃ v, σ[y.2]? = some (some v)) : ∀ c ∈ csOf X.env.cells ys, H c = none := fun c hc => by
  obtain ⟨y, hy, e⟩ := told_in hc
  obtain ⟨u, v, e1, _⟩ := told_facts I hys hσ y hy
  rw [← e]; exact I.freeC _ _ e1
theorem told_nodup (I : Inv X pins σ H s) (hys : OwnCells X ys) (nd : (ys.map (·.1)).Nodup) (hσ : ∀ y ∈ ys, ∃ v, σ[y.2]? = some (some v)) : (csOf X.env.cells ys).Nodup := by
  have e : csOf X.env.cells ys = (ys.map (·.1)).map (cA X.env.cells) := by unfold csOf; rw [List.map_map]; rfl
  rw [e]
  refine nodup_map nd fun a ha b hb eab => ?_
  obtain ⟨y, hy, rfl⟩ := List.mem_map.mp ha
  obtain ⟨z, hz, rfl⟩ := List.mem_map.mp hb
  obtain ⟨_, _, e1, _⟩ := told_facts I hys hσ y hy
  obtain ⟨_, _, e2, _⟩ := told_facts I hys hσ z hz
  exact I.ok.inj _ _ _ e1 (eab ▸ e2)
theorem inBlk_of {fp : List Addr} (I : Inv X pins σ H s) (hys : OwnCells X ys) (hσ : ∀ y ∈ ys, ∃ v, σ[y.2]? = some (some v)) (hfp : ∀ b ∈ fp, FpOk X pins H b) : InBlk X ys (obsAt s) s H fp := fun c hc => by
  obtain ⟨y, hy, e⟩ := told_in hc
  obtain ⟨u, v, e1, e2, _⟩ := told_facts I hys hσ y hy
  rw [e] at e1 e2
  have hz := I.ok.cab _ _ (hys y hy).2.2 e1
  refine ⟨e2, I.freeC _ _ e1, Heap.get?_none_of_le (Nat.le_trans I.ok.bsz hz), fun z => ?_, fun z => ?_⟩
  · rcases List.mem_cons.mp (I.stkSub c z) with q | q
    · exact I.cne _ _ e1 q
    · obtain ⟨_, o, ho, _⟩ := I.ok.funs.mem q
      exact absurd (Nat.lt_of_lt_of_le (Heap.lt_size ho) hz) (Nat.lt_irrefl _)
  · exact (hfp c z).2.2.2.2.1 _ _ e1 rfl
end
/-! ### a walk within a block -/
section
variable {X : Cx} {scope : Scope} {fp : List Addr} {it : Addr} {tg : Expr} {J : It} {tn : Nat → Heap → Prop} {ce : Env} {sB : Shared} {HB : Hp} {ρ : L2.St} {i : Nat} {H : Hp} {s : Shared}
/-- where it stands -/
structure Lp (Y : Cx) (fp : List Addr) (tn : Nat → Heap → Prop) (ρ : L2.St) (i : Nat) (H : Hp) (s : Shared) : Prop where
  run : Inv Y [] ρ H s
  pos : tn i s.heap
  clr : ∀ b ∈ fp, H b = none
/-- what it walks with is nobody else's -/
theorem Lp.own (l : Lp (X.blk sB HB scope ce fp) fp tn ρ i H s) : ∀ b ∈ fp, FpOk (X.blk sB HB scope ce fp) [] H b := by
  intro b hb
  have k := l.run.ok
  exact ⟨l.clr b hb, (k.exf b hb).1, k.exfs b hb, Or.inl hb, (k.exf b hb).2, fun p hp => absurd (show p ∈ ([] : List (Addr × Obj)) from hp) List.not_mem_nil⟩
/-- one more item: fetched, stored, tested -/
theorem Lp.item {ifs : List Expr} {g : TG} {tt : TT} {S : L2.St → Prop} {F : L2.St → Bool → Hp → Prop} {R : Bool → Shared → Prop} (hc : X.calm = true) (T : Turn X.prog X.w X.K tg J fp it tn) (l : Lp (X.blk sB HB scope ce fp) fp tn ρ i H s) (go : J.go i H)
    (pg : PG (X.blk sB HB scope ce fp) tg g) (pt : PTs (X.blk sB HB scope ce fp) ifs tt) (h : ∀ x H', J.yld i H x H' → g x ρ H' fun σ2 H2 => S σ2 ∧ tt σ2 H2 (F σ2))
    (k : ∀ σ2 b hp s3 H3, tn (i + 1) hp → (∀ b ∈ fp, ∃ o, hp.get? b = some o ∧ ∀ v, o.data ≠ .cell v) → S σ2 → Inv (X.blk sB HB scope ce fp) (pinsAt fp hp) σ2 H3 s3 → F σ2 b H3 → R b s3) :
    wpAny (model X.prog X.w) X.A (pyNext (.ref it)) (fun r s1 => ∃ v, r = some v ∧ wpAny (model X.prog X.w) X.A (letOwnedTupleGo tg (.ref it) v) (fun _ s2 => wpAny (model X.prog X.w) X.A (assign tg ce v)
      (fun _ s3 => wpAny (model X.prog X.w) X.A (forIn ifs true fun c r => if r = true then do let ok ← isTrue c ce (eval c ce); pure (ForInStep.yield ok) else pure (ForInStep.yield r)) R (fun _ _ => False) s3) (fun _ _ => False) s2) (fun _ _ => False) s1) (fun _ _ => False) s := by
  have fetched := T.item (X.blk sB HB scope ce fp) rfl rfl rfl hc i [] s ρ H (fun _ _ => False) l.run l.own l.pos go
  refine wpAny_mono fetched (fun r s1 hr => ?_) fun _ _ z => z
  obtain ⟨v, rfl, hv⟩ := hr
  refine ⟨v, rfl, wpAny_mono hv (fun _ s2 h2 => ?_) fun _ _ z => z⟩
  obtain ⟨x, H', J2, rx, yx, p2, n2⟩ := h2
  have ob := T.obj _ _ p2
  have held := J2.pinned (fp := fp) (Lp.own (tn := tn) (i := i + 1) ⟨J2, p2, n2⟩) ob
  refine wpAny_mono (pg.run _ s2 ρ H' x v _ held rx (h x H' yx)) (fun _ s3 h3 => ?_) fun _ _ z => z
  obtain ⟨σ2, H2, J3, hS, hF⟩ := h3
  refine wpAny_mono (pt.run _ s3 σ2 H2 _ J3 hF) (fun b s4 h4 => ?_) fun _ _ z => z
  obtain ⟨H4, J4, f4⟩ := h4
  exact k σ2 b s2.heap s4 H4 p2 ob hS J4 f4
/-- behind an item the walk stands one further -/
theorem Lp.on {vs : List Nat} {σ σ2 : L2.St} {hp : Heap} (T : Turn X.prog X.w X.K tg J fp it tn) (p : tn i hp) (ob : ∀ b ∈ fp, ∃ o, hp.get? b = some o ∧ ∀ v, o.data ≠ .cell v) (e : wipe σ2 vs = wipe σ vs)
    (h : Inv (X.blk sB HB scope ce fp) (pinsAt fp hp) σ2 H s) : Lp (X.blk sB HB scope ce fp) fp tn (wipe σ vs) i H s := by
  have still : ∀ b ∈ fp, ∀ o, hp.get? b = some o → s.heap.get? b = some o ∧ H b = none := by
    intro b hb o eo
    have z := h.pin (b, o) (List.mem_append_right _ (mem_pinsAt hb eo))
    exact ⟨z.1, z.2.1⟩
  refine ⟨?_, T.keep _ _ _ p fun b hb o eo => (still b hb o eo).1, fun b hb => ?_⟩
  · rw [← e]
    exact (h.pins_of (pins' := []) fun p hp => absurd hp List.not_mem_nil).weak (wipe_length _ _) fun _ _ w => (wipe_some w).1
  · obtain ⟨o, eo, _⟩ := ob b hb
    exact (still b hb o eo).2
/-- behind the last item the def goes on -/
theorem blk_leave {pins : List (Addr × Obj)} {σ : L2.St} (h : Inv X pins σ HB sB) (f : ∀ b ∈ fp, FpOk X pins HB b) (l : Inv (X.blk sB HB scope ce fp) [] ρ H s) : Inv X pins σ H s :=
  h.call' (ch := fp) l.os l.base l.hok l.bare fun b hb => let ⟨_, a, _, c, d, e⟩ := f b hb; ⟨c, a, d, e⟩
/-- the whole walk of a list's block -/
theorem lp_list {pins : List (Addr × Obj)} {σ : L2.St} {vs : List Nat} {ifs : List Expr} {elt iter : Expr} {pos : Pos} {g : TG} {tt : TT} {te : TE} {D : Addr} {Q : VK} {W : Nat → Nat → Hp → Prop} {m0 : Nat} {H0 : Hp} (hc : X.calm = true) (T : Turn X.prog X.w X.K tg J fp it tn)
    (h : Inv X pins σ HB sB) (f : ∀ b ∈ fp, FpOk X pins HB b) (hC : ce.locals = sB.heap.objs.size) (pg : PG (X.blk sB HB scope ce fp) tg g) (pt : PTs (X.blk sB HB scope ce fp) ifs tt) (pe : PE (X.blk sB HB scope ce fp) elt te) (w0 : W 0 m0 H0)
    (walk : ∀ i m H, W i m H → (J.stop i H ∧ Q (.ref D) H) ∨ (J.go i H ∧ ∃ Nx : Hp → Prop, (∀ H', Nx H' → ∃ m', m' < m ∧ W (i + 1) m' H') ∧ ∀ x H', J.yld i H x H' → g x (wipe σ vs) H' fun σ2 H2 => wipe σ2 vs = wipe σ vs ∧ tt σ2 H2 fun b H3 =>
      if b = true then te σ2 H3 fun y H4 => ∃ acc, H4 D = some (.lst acc) ∧ acc.length < sizeLine ∧ Nx (upd H4 D (.lst (acc ++ [y]))) else Nx H3))
    (l0 : Lp (X.blk sB HB scope ce fp) fp tn (wipe σ vs) 0 H0 s) :
    codeAny (model X.prog X.w) X.A (.compLoop (.ListComp elt [⟨tg, iter, ifs, 0⟩] scope pos) 0 (.ref it) (.ref D) ce) (compPost (model X.prog X.w) X.A X.xe none (fun v s' => ∃ x H', Inv X pins σ H' s' ∧ RelV x v ∧ Q x H') (.ref D) sB.heap.objs.size) s := by
  refine compLoop_any (fun n s' => ∃ i H', Lp (X.blk sB HB scope ce fp) fp tn (wipe σ vs) i H' s' ∧ W i n H') ?_ m0 ⟨0, H0, l0, w0⟩
  intro n s5 ⟨i, H5, l, w5⟩
  cases walk i n H5 w5 with
  | inl e =>
    refine wpAny_mono (T.done (X.blk sB HB scope ce fp) rfl rfl rfl hc i [] s5 _ H5 (fun _ _ => False) l.run l.own l.pos e.1) (fun r s6 hr => ?_) fun _ _ z => z.elim
    obtain ⟨rfl, l6⟩ := hr
    have gone : H5 sB.heap.objs.size = none := hC ▸ (show H5 ce.locals = none from l6.free)
    obtain ⟨m, hn, _⟩ := l6.loc
    obtain ⟨a, b, _, c, d, k⟩ := h.fpOk (Nat.le_refl _) gone
    exact ⟨m, hC ▸ (show s6.heap.Ns ce.locals m from hn), fun h' sb => ⟨.ref D, H5, (blk_leave h f l6).turned (t' := s6.toks) (fun x o hx eo => (sb.2 x hx).trans eo) a b c d k, rfl, e.2⟩⟩
  | inr e =>
    obtain ⟨go, Nx, next, step⟩ := e
    have onward : ∀ {σ2 : L2.St} {hp : Heap} {s' : Shared} {H' : Hp}, tn (i + 1) hp → (∀ b ∈ fp, ∃ o, hp.get? b = some o ∧ ∀ v, o.data ≠ .cell v) → wipe σ2 vs = wipe σ vs → Inv (X.blk sB HB scope ce fp) (pinsAt fp hp) σ2 H' s' → Nx H' →
        ∃ m, m < n ∧ ∃ i H', Lp (X.blk sB HB scope ce fp) fp tn (wipe σ vs) i H' s' ∧ W i m H' := by
      intro σ2 hp s' H' p ob ew hI nx
      obtain ⟨m', hm, w'⟩ := next H' nx
      exact ⟨m', hm, i + 1, H', Lp.on T p ob ew hI, w'⟩
    have one := l.item (R := fun b s3 => if b = true then wpAny (model X.prog X.w) X.A (eval elt ce) (fun x s4 => wpAny (model X.prog X.w) X.A (call (.builtin "list.append") [.ref D, x]) (fun _ s5 => ∃ m, m < n ∧ ∃ i H', Lp (X.blk sB HB scope ce fp) fp tn (wipe σ vs) i H' s5 ∧ W i m H') (fun _ _ => False) s4) (fun _ _ => False) s3
        else ∃ m, m < n ∧ ∃ i H', Lp (X.blk sB HB scope ce fp) fp tn (wipe σ vs) i H' s3 ∧ W i m H') hc T go pg pt step fun σ2 b hp s3 H3 p ob ew hI hF => by
      cases b with
      | false =>
        rw [if_neg Bool.false_ne_true] at hF ⊢
        exact onward p ob ew hI hF
      | true =>
        rw [if_pos rfl] at hF ⊢
        refine wpAny_mono (pe.run _ s3 σ2 H3 _ hI hF) (fun x s4 h4 => ?_) fun _ _ z => z
        obtain ⟨y, H4, J4, ry, acc, eD, hl, nx⟩ := h4
        exact app_ok (X := X.blk sB HB scope ce fp) J4 eD hl ry fun s5 J5 => onward p ob ew J5 nx
    refine wpAny_mono one (fun r s1 hr => ?_) fun _ _ z => z.elim
    obtain ⟨v, rfl, hv⟩ := hr
    refine wpAny_mono hv (fun _ s2 h2 => wpAny_mono h2 (fun _ s3 h3 => wpAny_mono h3 (fun b s4 h4 => ?_) fun _ _ z => z.elim) fun _ _ z => z.elim) fun _ _ z => z.elim
    cases b with
    | false => exact h4
    | true => exact wpAny_mono h4 (fun x s5 h5 => wpAny_mono h5 (fun _ _ z => z) fun _ _ z => z.elim) fun _ _ z => z.elim
/-- [elt for target in iter if ..] where the block is told ys -/
theorem pe_lcT {elt iter : Expr} {ifs : List Expr} {own : List (PySem.Str × Nat)} {pos : Pos} {wi : TI} {g : TG} {tt : (Addr → Obj) → TT} {te : (Addr → Obj) → TE} {ys : List (PySem.Str × Nat)} (hys : OwnCells X ys) (nd : (ys.map (·.1)).Nodup) (hc : X.calm = true) (hN : X.N.Nodup) (hi : PI X tg iter wi)
    (ok : BlkOk X.N X.env.scope scope own) (hg : ∀ (s : Shared) (H : Hp) (C : Addr) (cl : List (PySem.Str × Addr)) (fps : List Addr), PG (X.blk s H scope (compEnvC scope cl C X.env) fps) tg g)
    (ht : ∀ (obs : Addr → Obj) (s : Shared) (H : Hp) (C : Addr) (cl : List (PySem.Str × Addr)) (fps : List Addr), InBlk X ys obs s H fps → PTs (X.blk s H scope (compEnvC scope cl C X.env) fps) ifs (tt obs))
    (he : ∀ (obs : Addr → Obj) (s : Shared) (H : Hp) (C : Addr) (cl : List (PySem.Str × Addr)) (fps : List Addr), InBlk X ys obs s H fps → PE (X.blk s H scope (compEnvC scope cl C X.env) fps) elt (te obs)) (hfo : ∀ x, foldedSetIterable iter X.env x = pure x := by intro _; rfl) :
    PE X (.ListComp elt [⟨tg, iter, ifs, 0⟩] scope pos) (tLcT X.env.cells ys wi g tt te (own.map (·.2))) := by
  refine ⟨fun pins s σ H Q I h => ?_⟩
  rw [eval_ListComp]
  have outside : ∀ y ∈ scope.names, y.2 = .free → ∃ c, X.env.cells.lookup y.1 = some c := fun y hy e => I.ok.has _ (ok.free y hy e)
  refine wpAny_comprehension_free (use := none) rfl hfo (closure_ok outside) ok.kind (fun y hy e => by rw [ok.uniq y hy, e]) (thn (hi.run pins s σ H _ I h) fun xv s1 h1 => thn h1 fun iv s2 h2 => ?_)
  obtain ⟨it, fp, tn, J, H2, rfl, J2, T, p2, f2, slots, q⟩ := h2
  refine wpAny_newObj_type (newEnv_comp ?_) (by show 0 ≤ sizeLine; decide)
  have below : ∀ b ∈ fp, b < s2.heap.objs.size := fun b hb => let ⟨o, eo, _⟩ := T.obj _ _ p2 b hb; Heap.lt_size eo
  have J3 : Inv X pins σ (upd H2 s2.heap.objs.size (.lst [])) { s2 with heap := s2.heap.push { cls := .type "list", data := .seq ([] : List Value).toArray } } :=
    J2.laid (t' := s2.toks) (fun b o eo => Heap.get?_push_of_some _ eo) (Nat.le_refl _) ⟨Nat.zero_le _, [], 0, .nil, Heap.get?_push_size _ rfl⟩
  have f3 : ∀ b ∈ fp, FpOk X pins (upd H2 s2.heap.objs.size (.lst [])) b := fun b hb => ⟨by rw [upd_ne (Nat.ne_of_lt (below b hb))]; exact (f2 b hb).1, (f2 b hb).2⟩
  have told := told_facts J3 hys slots
  obtain ⟨W, ⟨m0, w0⟩, walk⟩ := q s2.heap.objs.size (J2.hok.fresh (Nat.le_refl _)) (obsAt { s2 with heap := s2.heap.push { cls := .type "list", data := .seq ([] : List Value).toArray } }) (fun y hy => by
    obtain ⟨u, v, _, _, d, r, k⟩ := told y hy
    exact ⟨u, v, d, r, k⟩) (told_nodup J3 hys nd slots) (told_free J2 hys slots)
  have inb := inBlk_of J3 hys slots f3
  generalize hs3 : ({ s2 with heap := s2.heap.push { cls := .type "list", data := .seq ([] : List Value).toArray } } : Shared) = s3 at J3 told walk w0 inb ⊢
  have grown : ∀ b o, s2.heap.get? b = some o → s3.heap.get? b = some o := fun b o eo => by rw [← hs3]; exact Heap.get?_push_of_some _ eo
  have more : s2.heap.objs.size < s3.heap.objs.size := by rw [← hs3]; exact (Heap.size_push ..) ▸ Nat.lt_succ_self _
  have start := block_start J3 ok hN fun b hb => ⟨f3 b hb, Nat.lt_trans (below b hb) more⟩
  have kept : ∀ b o, s3.heap.get? b = some o → (pushCells (s3.heap.push { cls := .type "dict", data := .dict #[] }) scope.names).get? b = some o := fun b o eo => pushCells_keeps _ _ _ _ (Heap.get?_push_of_some _ eo)
  have p4 : tn 0 (pushCells (s3.heap.push { cls := .type "dict", data := .dict #[] }) scope.names) := T.keep _ _ _ p2 fun b _ o eo => kept b o (grown b o eo)
  have all := lp_list (s := { s3 with heap := pushCells (s3.heap.push { cls := .type "dict", data := .dict #[] }) scope.names }) (pos := pos) (iter := iter) (Q := Q) hc T J3 f3 rfl (hg s3 _ s3.heap.objs.size (cellsFrom (s3.heap.objs.size + 1) scope.names (cloFrom X.env.cells scope.names [])) fp)
    (ht _ s3 _ s3.heap.objs.size (cellsFrom (s3.heap.objs.size + 1) scope.names (cloFrom X.env.cells scope.names [])) fp inb) (he _ s3 _ s3.heap.objs.size (cellsFrom (s3.heap.objs.size + 1) scope.names (cloFrom X.env.cells scope.names [])) fp inb) w0 walk ⟨start, p4, fun b hb => (f3 b hb).1⟩
  exact codeAny_compStart_list all (T.self X.A 0 _ _ _ p4 all)
end
/-! ### the call within such a block -/
def tCallO (cl : List (PySem.Str × Addr)) (ys : List (PySem.Str × Nat)) (obs : Addr → Obj) (sp : Sp) (t : TA) : TE := fun σ H Q => t σ H fun vs H1 => ∀ H2 : Hp, (∀ c ∈ csOf cl ys, H1 c = none) → (∀ b, b ∉ csOf cl ys → H2 b = H1 b) →
  (∀ c ∈ csOf cl ys, H2 c = some (ExO c (obs c))) → sp vs H2 (fun v H' => (∀ c ∈ csOf cl ys, H' c = H2 c) ∧ Q v (unX (csOf cl ys) H')) E0
theorem pe_callO {X : Cx} {scope : Scope} {obs : Addr → Obj} {s0 : Shared} {H0 : Hp} {Ca : Addr} {cl : List (PySem.Str × Addr)} {fps : List Addr} {k : Nat} {f : Addr} {fd : FuncData} {ps : List PySem.Str} {sp : Sp} {x : PySem.Str} {p pos : Pos} {e : Expr} {es : List Expr} {t : TA} {ys : List (PySem.Str × Nat)} (F : FnOk X.prog X.w X.K X.mg X.base CX0 k f fd ps sp) (hr : Room k X.A) (hg : Gl (X.blk s0 H0 scope (compEnvC scope cl Ca X.env) fps) x) (hm : X.mg x = some (.ref f)) (hk : PySem.W.keepIn X.K (.ref f) = true)
    (hb : Binds X.K fd ps []) (ib : InBlk X ys obs s0 H0 fps) (ha : PA (X.blk s0 H0 scope (compEnvC scope cl Ca X.env) fps) (e :: es) t) (hdb : (x == ("__debug__" : PySem.Str)) = false := by decide)
    (he : starEach (e :: es) (compEnvC scope cl Ca X.env) = (false, eval e (compEnvC scope cl Ca X.env)) :: starEach es (compEnvC scope cl Ca X.env) := by rfl) (hpl : (backTo pos (starEach es (compEnvC scope cl Ca X.env))).any (·.1) = false := by rfl) :
    PE (X.blk s0 H0 scope (compEnvC scope cl Ca X.env) fps) (.Call (.Name x p) (e :: es) [] pos) (tCallO X.env.cells ys obs sp t) := by
  refine ⟨fun pins s σ H Q I h => ?_⟩
  refine wpAny_Call_Name_kw (ld_glob I hg hm ?_ hdb)
  refine PySem.W.callWith_K (h₀ := X.base) I.ok.mod.kin hk (thn (ha.run pos pins s σ H _ I h) fun us s1 ⟨vs, H1, I1, r, q⟩ => ⟨I1.kIn, ?_⟩) he hpl
  have st : ∀ c ∈ csOf X.env.cells ys, s1.heap.get? c = some (obs c) ∧ H1 c = none := fun c hc => by
    obtain ⟨a1, a2, a3, a4, a5⟩ := ib c hc
    have na : c ∉ (X.blk s0 H0 scope (compEnvC scope cl Ca X.env) fps).fs := a4
    have nx : c ∉ (X.blk s0 H0 scope (compEnvC scope cl Ca X.env) fps).ex := a5
    exact ⟨I1.base.keep c _ a1 a2 na nx, I1.base.free c _ a1 a2 nx⟩
  have hn : ∀ c ∈ csOf X.env.cells ys, H1 c = none := fun c hc => (st c hc).2
  have ht : ∀ c ∈ csOf X.env.cells ys, ∃ o, s1.heap.get? c = some o := fun c hc => ⟨_, (st c hc).1⟩
  have hbs : ∀ c ∈ csOf X.env.cells ys, X.base.get? c = none := fun c hc => (ib c hc).2.2.1
  have hfr : ∀ c ∈ csOf X.env.cells ys, c ∉ frs X.stack := fun c hc => (ib c hc).2.2.2.1
  have hsp := q (trkX s1.heap (csOf X.env.cells ys) H1) hn (fun b hb => trkX_out hb) fun c hc => trkX_in hc (st c hc).1
  have hl : (us ++ []).length = ps.length := by rw [List.append_nil, ← r.length]; exact F.len _ _ _ _ hsp
  have bt := hb s1 us I1.kIn hl
  rw [List.append_nil] at bt
  refine wpAny_call (codeAny_mono (F.run X.A X.stack s1 (trkX s1.heap (csOf X.env.cells ys) H1) ⟨us, []⟩ us vs _ _ hr (Env0.trk I1.env0 hn ht hbs hfr) bt r hsp) fun r s' hq => ?_)
  cases r with
  | error e => exact (show False from hq).elim
  | ok fl =>
    cases fl with
    | next => exact False.elim hq
    | brk => exact False.elim hq
    | cont => exact False.elim hq
    | ret u =>
      obtain ⟨v, H', os, bare, un, hok, rv, hs, qv⟩ := hq
      refine I1.after ⟨v, unX (csOf X.env.cells ys) H', os, bare, un_trk un hok hn ht hfr hs, hok_un hok (fun c hc => ?_), rv, qv⟩
      obtain ⟨o, eo⟩ := ht c hc
      exact ⟨o, by rw [hs c hc, trkX_in hc eo]⟩
/-! ### told of the data -/
section
variable {K : PySem.W.Frag} {M M1 : Mt} {ds ds0 : DS} {R : D → Prop} {cl : List (PySem.Str × Addr)} {ys : List (PySem.Str × Nat)} {obs : Addr → Obj}
def CellsF (K : PySem.W.Frag) (cl : List (PySem.Str × Addr)) (ys : List (PySem.Str × Nat)) (ds : DS) (obs : Addr → Obj) (G : Hp) : Prop := ∀ y ∈ ys, ∃ u v, (obs (cA cl y.1)).data = .cell (some u) ∧ RelV v u ∧ Rp K G v (dAt ds y.2)
/-- something among what changes tells of the cells -/
def Tld (K : PySem.W.Frag) (cl : List (PySem.Str × Addr)) (ys : List (PySem.Str × Nat)) (ds : DS) (obs : Addr → Obj) (M : Mt) : Prop := (csOf cl ys).Nodup ∧ ∃ p φ, (p, φ) ∈ M ∧ ∀ G o, φ G o → CellsF K cl ys ds obs G
theorem ev_lcT {wi : TI} {g : TG} {tt : (Addr → Obj) → TT} {te : (Addr → Obj) → TE} {vs : List Nat} {RI : List D → Prop} (hy : ∀ y ∈ ys, ∃ d, ds[y.2]? = some (some d)) (hI : EvI K M ds wi RI) (h : ∀ es, RI es → es.length ≤ 100000 ∧ ∃ Pv : Nat → List D → Prop, Pv 0 [] ∧
      (∀ obs M1, MSub M M1 → Tld K cl ys ds obs M1 → ∀ i d acc, es[i]? = some d → acc.length ≤ i → Pv i acc → EvG K M1 (some vs) g d (wipeD ds vs) (fun ds2 => ∃ RT : Bool → Prop, EvT K M1 ds2 (tt obs) RT ∧ (RT true → Ev K M1 ds2 (te obs) (fun y => Pv (i + 1) (acc ++ [y]))) ∧ (RT false → Pv (i + 1) acc))) ∧
      ∀ acc, acc.length ≤ es.length → Pv es.length acc → R (.list acc)) : Ev K M ds (tLcT cl ys wi g tt te vs) R := fun M' σ G H Q m s w q =>
  hI M' σ G H _ m s w fun J es G1 H1 s1 w1 hes W => by
    have sg1 := s.mono s1
    refine ⟨fun y hy' => ?_, fun D hD obs hobs nd hfree => ?_⟩
    · obtain ⟨d, hd⟩ := hy y hy'
      obtain ⟨v, e, _⟩ := sg1.at_ _ _ hd
      exact ⟨v, e⟩
    have cf : CellsF K cl ys ds obs G1 := fun y hy' => by
      obtain ⟨u, v, a1, a2, a3⟩ := hobs y hy'
      obtain ⟨d, hd⟩ := hy y hy'
      obtain ⟨v', e, r⟩ := sg1.at_ _ _ hd
      rw [a3] at e
      cases e
      have ed : dAt ds y.2 = d := by unfold dAt; rw [hd]; rfl
      exact ⟨u, v, a1, a2, by rw [ed]; exact r⟩
    obtain ⟨hl, Pv, h0, hs, hd⟩ := h es hes
    let isT : List V → Hp → HO → Prop := fun xs G o => o = .lst xs ∧ CellsF K cl ys ds obs G
    have mo : ∀ xs : List V, ∀ (G1 G2 : Hp) (o : HO), Same G1 G2 → isT xs G1 o → isT xs G2 o := fun _ _ _ _ sm ⟨e, z⟩ => ⟨e, fun y hy' => let ⟨u, v, a, b, c⟩ := z y hy'; ⟨u, v, a, b, c.mono sm⟩⟩
    have tl : ∀ xs : List V, Tld K cl ys ds obs (M'.cons (D, isT xs)) := fun xs => ⟨nd, D, isT xs, List.mem_cons_self, fun _ _ z => z.2⟩
    refine lc_it (n := es.length) (G := fun H => ∃ G2 M2, Same G1 G2 ∧ Wd M2 G2 H) (Y := fun i H x H' => J.yld i H x H') ⟨fun i H hi ⟨G2, M2, s2, w2⟩ => W.goes i H G2 M2 hi s2 w2, fun H ⟨G2, M2, s2, w2⟩ => W.stops H G2 M2 s2 w2, fun i H x H' _ _ y => y⟩
      (fun i H' => ∃ G2 xs acc, Same G1 G2 ∧ Wd (M'.cons (D, isT xs)) G2 H' ∧ RpAll K G2 xs acc ∧ Pv i acc ∧ acc.length ≤ i) ⟨G1, [], [], Same.refl _, w1.newM hD ⟨rfl, cf⟩ (mo []), .nil, h0, Nat.le_refl _⟩
      (fun i H' _ ⟨G2, xs, acc, s2, w2, _⟩ => ⟨G2, _, s2, w2⟩) (fun i x H2 H3 hi ⟨G2, xs, acc, s2, w2, ra, hp, hla⟩ y => ?_) (fun H' ⟨G2, xs, acc, s2, w2, ra, hp, hla⟩ => ?_)
    · obtain ⟨G3, d, s3, w3, hd', rd⟩ := W.yields i H2 x H3 G2 _ hi s2 w2 y
      refine hs obs (M'.cons (D, isT xs)) (MSub.cons m) (tl xs) i d acc hd' hla hp _ (wipe σ vs) G3 H3 x _ (MSub.refl _) ((s.mono ((s1.trans s2).trans s3)).wipe vs) w3 rd fun ds2 σ2 G4 H4 ⟨RT, hT, hE, hN⟩ s4 sg4 w4 hw => ?_
      refine ⟨?_, ?_⟩
      · have e := hw vs rfl (wipe σ vs) rfl
        have e2 : wipe (wipe σ vs) vs = wipe σ vs := wipe_wipe σ vs
        rw [e, e2]
      · refine hT _ σ2 G4 H4 _ (MSub.refl _) sg4 w4 fun b G5 H5 s5 w5 hb => ?_
        cases b with
        | true =>
          rw [if_pos rfl]
          refine hE hb _ σ2 G5 H5 _ (MSub.refl _) (sg4.mono s5) w5 fun v d6 G6 H6 s6 w6 r6 p6 => ?_
          obtain ⟨_, o, ho, eo, cf6⟩ := w6.mt _ List.mem_cons_self
          subst eo
          have s26 := ((s3.trans s4).trans s5).trans s6
          refine ⟨xs, ho, ?_, G6, xs ++ [v], acc ++ [d6], s2.trans s26, w6.put ⟨rfl, cf6⟩ (mo _), (ra.mono s26).append (.cons r6 .nil), p6, ?_⟩
          · have := ra.length
            exact Nat.lt_of_le_of_lt (show xs.length ≤ 100000 by omega) (by decide)
          · simp only [List.length_append, List.length_singleton]; omega
        | false =>
          rw [if_neg Bool.false_ne_true]
          exact ⟨G5, xs, acc, s2.trans ((s3.trans s4).trans s5), w5, ra.mono ((s3.trans s4).trans s5), hN hb, Nat.le_succ_of_le hla⟩
    · obtain ⟨g0, o, ho, eo, _⟩ := w2.mt _ List.mem_cons_self
      subst eo
      have sn := same_new (o := HO.lst xs) g0
      exact q (.ref D) (.list acc) (upd G2 D (.lst xs)) H' ((s1.trans s2).trans sn) (w2.freeze ho) (.lst upd_same (ra.mono sn)) (hd acc hla hp)
/-- a test -/
theorem ev_lcTF {α : Type} {wi : TI} {g : TG} {tt : (Addr → Obj) → TT} {te : (Addr → Obj) → TE} {vs : List Nat} {cs : List α} {inj f : α → D} {t : α → Bool} (hy : ∀ y ∈ ys, ∃ d, ds[y.2]? = some (some d)) (hI : EvI K M ds wi (· = cs.map inj)) (hl : cs.length ≤ 100000)
    (h : ∀ obs M1, MSub M M1 → Tld K cl ys ds obs M1 → ∀ c, c ∈ cs → EvG K M1 (some vs) g (inj c) (wipeD ds vs) (fun ds2 => EvT K M1 ds2 (tt obs) (· = t c) ∧ (t c = true → Ev K M1 ds2 (te obs) (· = f c)))) :
    Ev K M ds (tLcT cl ys wi g tt te vs) (· = .list ((cs.filter t).map f)) := by
  refine ev_lcT hy hI fun es' e => ?_
  subst e
  refine ⟨by rw [List.length_map]; exact hl, fun i acc => acc = ((cs.take i).filter t).map f, rfl, fun obs M1 ms tl i d acc hd _ ha => ?_, fun acc _ ha => ?_⟩
  · rw [List.getElem?_map] at hd
    cases hc : cs[i]? with
    | none => rw [hc] at hd; cases hd
    | some c =>
      rw [hc] at hd
      have ed : inj c = d := Option.some.inj hd
      subst ed
      intro M' σ G H v Q m s w r q
      refine h obs M1 ms tl c (List.mem_of_getElem? hc) M' σ G H v Q m s w r fun ds' σ' G' H' ⟨hT, hE⟩ => q ds' σ' G' H' ⟨(· = t c), hT, fun ht => (hE ht.symm).weak fun y ey => ?_, fun ht => ?_⟩
      · show acc ++ [y] = _
        rw [ey, show acc = _ from ha, take_filt cs t f hc, ← ht]; rfl
      · show acc = _
        rw [show acc = _ from ha, take_filt cs t f hc, ← ht]; simp
  · rw [show acc = _ from ha, List.length_map, List.take_length]
theorem ev_callO {Γ : Type} {γ : Γ} {pre : Γ → Ml → List D → Prop} {post : Γ → List D → D → Prop} {ta : TA} {RA : List D → Prop} (tl : Tld K cl ys ds0 obs M) (ha : EvA K M ds ta RA)
    (h : ∀ as, RA as → (∀ M', MSub M M' → pre γ (cellsM K cl ys ds0 obs ++ M'.l) as) ∧ ∀ d, post γ as d → R d) : Ev K M ds (tCallO cl ys obs (spG K pre post) ta) R := fun M' σ G H Q m s w q =>
  ha M' σ G H _ m s w fun vs as G1 H1 s1 w1 r1 e1 H2 hn hout hin => by
    obtain ⟨nd, p0, φ, hp0, hφ⟩ := tl
    have cf : CellsF K cl ys ds0 obs G1 := by
      obtain ⟨_, o, _, f⟩ := w1.mt _ (m.l _ hp0)
      exact hφ _ _ f
    have mC : ∀ {p : Addr × (Hp → HO → Prop)}, p ∈ cellsM K cl ys ds0 obs → ∃ y ∈ ys, p = (cA cl y.1, CellP K (cA cl y.1) (obs (cA cl y.1)) (dAt ds0 y.2)) := fun {p} hp => by
      obtain ⟨y, hy, e⟩ := List.mem_map.mp hp
      exact ⟨y, hy, e.symm⟩
    have outM : ∀ p ∈ M'.l, p.1 ∉ csOf cl ys := fun p hp z => by
      obtain ⟨_, o, e, _⟩ := w1.mt p hp
      rw [hn _ z] at e; cases e
    have W2 : Wd0 (cellsM K cl ys ds0 obs ++ M'.l) G1 H2 := by
      refine ⟨fun b u e => ?_, fun p hp => ?_, fun p hp => ?_, ?_⟩
      · have e' := w1.sub b u e
        rw [hout b fun z => by rw [hn b z] at e'; cases e']
        exact e'
      · rcases List.mem_append.mp hp with hp | hp
        · obtain ⟨y, hy', rfl⟩ := mC hp
          have hc : cA cl y.1 ∈ csOf cl ys := List.mem_map.mpr ⟨y, hy', rfl⟩
          obtain ⟨u, v, a2, a3, r'⟩ := cf y hy'
          exact ⟨w1.free (hn _ hc), _, hin _ hc, rfl, u, v, a2, a3, r'⟩
        · obtain ⟨g, o, e, f⟩ := w1.mt p hp
          exact ⟨g, o, by rw [hout _ (outM p hp)]; exact e, f⟩
      · rcases List.mem_append.mp hp with hp | hp
        · obtain ⟨y, hy', rfl⟩ := mC hp
          exact CellP.mono
        · exact w1.mono p hp
      · rw [List.map_append]
        refine List.nodup_append.mpr ⟨?_, w1.nd, fun a ha b hb e => ?_⟩
        · have e : (cellsM K cl ys ds0 obs).map (·.1) = csOf cl ys := by unfold cellsM csOf; rw [List.map_map]; rfl
          rw [e]; exact nd
        · obtain ⟨p, hp, rfl⟩ := List.mem_map.mp ha
          obtain ⟨p2, hp2, rfl⟩ := List.mem_map.mp hb
          obtain ⟨y, hy', rfl⟩ := mC hp
          exact outM p2 hp2 (e ▸ List.mem_map.mpr ⟨y, hy', rfl⟩)
    refine ⟨γ, _, G1, as, W2, r1, (h as e1).1 M' m, fun v d G2 H3 s2 w2 r2 p2 => ⟨fun c hc => ?_, ?_⟩, fun _ _ _ _ _ _ _ _ z => z.elim⟩
    · obtain ⟨y, hy', rfl⟩ := told_in hc
      obtain ⟨_, o, e, eo, _⟩ := w2.mt (cA cl y.1, CellP K (cA cl y.1) (obs (cA cl y.1)) (dAt ds0 y.2)) (List.mem_append_left _ (List.mem_map.mpr ⟨y, hy', rfl⟩))
      rw [hin _ hc]
      rw [eo] at e
      exact e
    · have gn : ∀ c ∈ csOf cl ys, G2 c = none := fun c hc => by
        obtain ⟨y, hy', rfl⟩ := told_in hc
        exact (w2.mt (cA cl y.1, CellP K (cA cl y.1) (obs (cA cl y.1)) (dAt ds0 y.2)) (List.mem_append_left _ (List.mem_map.mpr ⟨y, hy', rfl⟩))).1
      have W3 : Wd0 M'.l G2 (unX (csOf cl ys) H3) := by
        refine ⟨fun b u e => ?_, fun p hp => ?_, w1.mono, w1.nd⟩
        · rw [unX_out fun z => by rw [gn b z] at e; cases e]
          exact w2.sub b u e
        · obtain ⟨g, o, e, f⟩ := w2.mt p (List.mem_append_right _ hp)
          exact ⟨g, o, by rw [unX_out (outM p hp)]; exact e, f⟩
      exact q v d G2 _ (s1.trans s2) (w1.to s2 W3) r2 ((h as e1).2 d p2)
end
/-! ### a reading for whatever cells a block has -/
def tAll {ι : Type} (t : ι → TE) : TE := fun σ H Q => ∀ i, t i σ H Q
theorem pe_all {ι : Type} {X : Cx} {e : Expr} {t : ι → TE} (i : ι) (h : PE X e (t i)) : PE X e (tAll t) := ⟨fun pins s σ H Q I q => h.run pins s σ H Q I (q i)⟩
theorem ev_all {ι : Type} {K : PySem.W.Frag} {M : Mt} {ds : DS} {t : ι → TE} {R : D → Prop} (h : ∀ i, Ev K M ds (t i) R) : Ev K M ds (tAll t) R := fun M' σ G H Q m s w q i => h i M' σ G H Q m s w q
end Rg
namespace Rg
open PySem PySem.Spec L2 RZ PyProof.Rows
/-! ### // by a divisor of any usual size -/
def CDivZ (_ j : Int) : Prop := j ≠ 0 ∧ j.natAbs.log2 < 9000
theorem op_fdivZ {X : Cx} : OpR X (binaryOp .FloorDiv) (rI CDivZ fun i j => .int (i.fdiv j)) := opI fun _ _ _ _ _ _ _ hc q => floordiv_int hc.1 q (.inl (PyProof.noPylong_of_log2 hc.2))
section
variable {K : PySem.W.Frag} {M : Mt} {ds : DS} {te ta tb : TE} {R : D → Prop} {E : XK} {C C' : Addr} {ns ns' : List PySem.Str} {es es' : List D} {d : D} {pre : Ml → List D → Prop} {post px : List D → D → Prop}
theorem od_fdivZ {i j : Int} (h : CDivZ i j) : OpD K M (rI CDivZ fun i j => V.int (i.fdiv j)) (.int i) (.int j) (· = .int (i.fdiv j)) := od_intC (h := fun i j => .int (i.fdiv j)) h fun _ => .int _
theorem obj_ins {G : Hp} {v : V} (r : Rp K G v (.obj C ns es)) : ∃ a dx fs, v = .ref a ∧ G a = some (.ins C dx fs) := by
  obtain ⟨a, dx, fs, e, h, _⟩ := obj_at r
  exact ⟨a, dx, fs, e, h⟩
/-- what a raising callee asks of M -/
def ExA (K : PySem.W.Frag) (M : Mt) (E : XK) (x : D) : Prop := M.W = (fun c d _ H => E c d H) ∧ Exk K M x []
theorem go_spX {M' : Mt} {G H : Hp} {vs : List V} {as : List D} {Q : VK} (m : MSub M M') (w : Wd M' G H) (r : RpAll K G vs as) (hp : pre M'.l as) (hR : ∀ d, post as d → R d) (hx : ∀ x, px as x → ExA K M E x)
    (q : ∀ v d G' H', Same G G' → Wd M' G' H' → Rp K G' v d → R d → Q v H') : spX K pre post px vs H Q E :=
  ⟨M'.l, G, as, w.toWd0, r, hp, fun v d G3 H3 s3 w3 r3 p3 => q v d G3 H3 s3 (w.to s3 w3) r3 (hR d p3), fun c dx x G3 H3 s3 w3 hx' pp => w.toW (σ := []) m (hx x pp).1 s3 w3 sg_nil hx' (hx x pp).2⟩
theorem od_binO {d2 : D} (hd : (∃ ns' es', d2 = .obj C ns' es') ∨ ∃ i : Int, d2 = .int i) (h : ∀ M', MSub M M' → pre M'.l [.obj C ns es, d2]) (hR : ∀ r, post [.obj C ns es, d2] r → R r) (hx : ∀ x, px [.obj C ns es, d2] x → ExA K M E x) : OpD K M (rBinO C (spX K pre post px) E) (.obj C ns es) d2 R := fun M' G H x y Q m rx ry w q => by
  obtain ⟨a, dx, fs, rfl, ea⟩ := obj_ins rx
  refine ⟨a, dx, fs, rfl, w.sub _ _ ea, ?_, go_spX m w (.cons rx (.cons ry .nil)) (h M' m) hR hx q⟩
  rcases hd with ⟨ns', es', rfl⟩ | ⟨i, rfl⟩
  · obtain ⟨b, dy, gs, rfl, eb⟩ := obj_ins ry
    exact .inl ⟨b, dy, gs, rfl, w.sub _ _ eb⟩
  · exact .inr ⟨i, ry.int_inv⟩
theorem od_binR {i : Int} (h : ∀ M', MSub M M' → pre M'.l [.obj C ns es, .int i]) (hR : ∀ r, post [.obj C ns es, .int i] r → R r) (hx : ∀ x, px [.obj C ns es, .int i] x → ExA K M E x) : OpD K M (rBinR C (spX K pre post px) E) (.int i) (.obj C ns es) R := fun M' G H x y Q m rx ry w q => by
  obtain ⟨a, dx, fs, rfl, ea⟩ := obj_ins ry
  exact ⟨i, a, dx, fs, rx.int_inv, rfl, w.sub _ _ ea, go_spX m w (.cons ry (.cons rx .nil)) (h M' m) hR hx q⟩
theorem ud_negO (h : ∀ M', MSub M M' → pre M'.l [.obj C ns es]) (hR : ∀ r, post [.obj C ns es] r → R r) (hx : ∀ x, px [.obj C ns es] x → ExA K M E x) : UnD K M (rUnO C (spX K pre post px) E) (.obj C ns es) R := fun M' G H x Q m rx w q => by
  obtain ⟨a, dx, fs, rfl, ea⟩ := obj_ins rx
  exact ⟨a, dx, fs, rfl, w.sub _ _ ea, go_spX m w (.cons rx .nil) (h M' m) hR hx q⟩
theorem cd_absO (h : ∀ M', MSub M M' → pre M'.l [.obj C ns es]) (hR : ∀ r, post [.obj C ns es] r → R r) (hx : ∀ x, px [.obj C ns es] x → ExA K M E x) : CallD K M (rAbsO C (spX K pre post px) E) [.obj C ns es] R := fun M' G H xs Q m rxs w q => by
  cases rxs with
  | cons rx rr =>
    cases rr
    obtain ⟨a, dx, fs, rfl, ea⟩ := obj_ins rx
    exact ⟨a, dx, fs, rfl, w.sub _ _ ea, go_spX m w (.cons rx .nil) (h M' m) hR hx q⟩
theorem cd_strO {x : PySem.Str} (h : ∀ M', MSub M M' → pre M'.l [.obj C ns es]) (hR : ∀ r, post [.obj C ns es] r → r = .str x) (hx : ∀ y, px [.obj C ns es] y → ExA K M E y) : CallD K M (rStrO C (spX K pre post px) E) [.obj C ns es] (· = .str x) := fun M' G H xs Q m rxs w q => by
  cases rxs with
  | cons rx rr =>
    cases rr
    obtain ⟨a, dx, fs, rfl, ea⟩ := obj_ins rx
    exact ⟨a, dx, fs, rfl, w.sub _ _ ea, go_spX (R := (· = .str x)) m w (.cons rx .nil) (h M' m) hR hx fun v d G' H' s' w' r' e => by subst e; exact ⟨x, r'.str_inv, q v _ G' H' s' w' r' rfl⟩⟩
/-! ### built-ins -/
theorem cd_absI {i : Int} : CallD K M rAbsR [.int i] (· = .int (if i < 0 then -i else i)) := fun M' G H xs Q m rxs w q => by
  cases rxs with
  | cons rx rr =>
    cases rr
    rw [rx.int_inv]
    exact ⟨i, rfl, q _ _ G H (Same.refl G) w (.int _) rfl⟩
theorem cd_intB {b : Bool} : CallD K M rIntR [.bl b] (· = .int (if b = true then 1 else 0)) := fun M' G H xs Q m rxs w q => by
  cases rxs with
  | cons rx rr =>
    cases rr
    rw [rx.bl_inv]
    exact .inr ⟨b, rfl, q _ _ G H (Same.refl G) w (.int _) rfl⟩
abbrev rIntS : List V → Hp → VK → Prop := fun xs H Q => ∃ a n, xs = [.str a] ∧ PySem.intText? a = some n ∧ a.length ≤ 640 ∧ Q (.int n) H
theorem cd_intS {x : PySem.Str} {n : Int} (h : PySem.intText? x = some n) (hl : x.length ≤ 640) : CallD K M rIntS [.str x] (· = .int n) := fun M' G H xs Q m rxs w q => by
  cases rxs with
  | cons rx rr =>
    cases rr
    rw [rx.str_inv]
    exact ⟨x, n, rfl, h, hl, q _ _ G H (Same.refl G) w (.int _) rfl⟩
abbrev rSplitD : V → List V → Hp → VK → Prop := fun x xs H Q => ∃ a b, x = .str a ∧ xs = [.str b] ∧ (b.length == 0) = false ∧ a.length + 2 ≤ sizeLine ∧ rNewStrs (Txt.split a b) H Q
theorem RpAll.strs {G : Hp} : ∀ l : List PySem.Str, RpAll K G (l.map V.str) (l.map D.str)
  | [] => .nil
  | x :: r => .cons (.str x) (RpAll.strs r)
theorem ev_split {a b : PySem.Str} (he : Ev K M ds ta (· = .str a)) (hb : Ev K M ds tb (· = .str b)) (h1 : (b.length == 0) = false) (h2 : a.length ≤ 100000) : Ev K M ds (tM1 rSplitD ta tb) (· = .list ((Txt.split a b).map D.str)) := fun M' σ G H Q m s w q =>
  he M' σ G H _ m s w fun v d G1 H1 s1 w1 r1 e1 => by
    subst e1
    rw [r1.str_inv]
    refine ⟨⟨a, rfl⟩, hb M' σ G1 H1 _ m (s.mono s1) w1 fun v2 d2 G2 H2 s2 w2 r2 e2 => ?_⟩
    subst e2
    rw [r2.str_inv]
    refine ⟨a, b, rfl, rfl, h1, by rw [sizeLine_eq]; omega, fun p hp => ?_⟩
    have g := w2.free hp
    have sn := same_new (o := HO.lst ((Txt.split a b).map V.str)) g
    refine q (.ref p) _ (upd G2 p (.lst ((Txt.split a b).map V.str))) _ ((s1.trans s2).trans sn) (w2.new hp) (.lst upd_same ?_) rfl
    exact RpAll.strs _
/-! ### raise T('m'), T a built-in -/
theorem run_raiseB {W : WX} {T : String} {E : AE} (hW : M.W = W) (hx : Exk K M (.raw (.ty T)) ds) : Run K M ds (fun _ σ H => W (.type T) none σ H) E := fun M' σ G H Z m s w z => w.toW m hW (Same.refl G) w.toWd0 s (.blt T none) hx
theorem runw_raiseB {W : WX} {T : String} {E : AW} {o o2 : Own} (hW : M.W = W) (sb : o2.Sublist o) (hx : ExkW K M o2 (.raw (.ty T)) ds) : RunW K M o ds (fun _ σ H => W (.type T) none σ H) E := fun M' σ G H Z m s w z => w.toWW m hW (Same.refl G) w.toWd0 sb s (.blt T none) hx
theorem exm_ZD : PySem.W.exmOne K (.type "ZeroDivisionError") (.type "ZeroDivisionError") = some true := by kernel_rfl
end
/-! ### classmethods, told of the data; by a keyword; a class called by a local's value -/
section
variable {X : Cx} {CX : CXT} {k : Nat} {C p g f : Addr} {mc : Value} {sp : Sp} {E : XK} {o e : Expr} {es : List Expr} {kws : List Keyword} {ks : List PySem.Str} {m x : PySem.Str} {pos apos : Pos} {ta : TE} {t tk : TA} {pl : Sem Bool} {fd : FuncData} {ps : List PySem.Str}
theorem pe_cmethK {gu : List Value → List Value → List Value} {gV : List V → List V → List V} (he : PE X o ta) (r : ClX.CRead X.K C mc) (c : ClX.CMet X.K C mc m p g) (F : FnOk X.prog X.w X.K X.mg X.base CX k g fd ps sp) (hr : Room k X.A) (hb : KBinds X.K fd ps ks gu gV) (hx : Passes CX X E) (hkw : PK X kws tk)
    (hall : (backToKw pos (keywordEach kws X.env)).all (·.1.isSome) = true := by rfl) (hks : (backToKw pos (keywordEach kws X.env)).filterMap (·.1) = ks := by rfl)
    (hpl : ((backTo pos (starEach [] X.env)).any (·.1) || (backToKw pos (keywordEach kws X.env)).any (·.1.isNone)) = false := by rfl)
    (ht : eval (.Call (.Attribute o m apos) [] kws pos) X.env = (do
      let ov ← eval o X.env
      standAt apos.atName
      let (f, first) ← holding [ov] (getMethod ov m pl)
      callWith pos f first (backTo pos (starEach [] X.env)) (backToKw pos (keywordEach kws X.env))) := by rfl) :
    PE X (.Call (.Attribute o m apos) [] kws pos) (ClX.tCMeth C (fun vs H Q E => sp (gV (vs.take 1) (vs.drop 1)) H Q E) E ta tk) := by
  refine ⟨fun pins s σ H Q I h => ?_⟩
  refine PySem.W.methodCall_KW (pl := pl) (thn (he.run pins s σ H _ I h) fun u s1 ⟨x, H1, I1, rx, ex, q⟩ => ?_) ht
  subst ex
  obtain rfl : u = Value.ref C := rx
  refine ClX.getmethcm_ok I1 r c fun s2 I2 => ?_
  have hL : s1.heap.objs.size ≠ X.env.locals := (I2.pin (s1.heap.objs.size, PySem.W.methodObj (.ref g) (.ref C)) (List.mem_append_right _ List.mem_cons_self)).2.2.1
  refine PySem.W.callWith_of hpl (PySem.W.keeps_M (K := X.K) c.fi) (PyProof.Rows.evalArgs_kw2_nil hall (thn (hkw.run pos _ s2 σ H1 _ I2 q) fun ws s3 ⟨zs, H2, I3, rz, q2⟩ => ⟨⟨ClX.pin_at I3, I3.kIn⟩, ?_⟩))
  rw [hks]
  have r2 := hb.rel (us := [.ref C]) (vs := [V.ref C]) (.cons rfl .nil) rz
  have q2 : sp (gV [V.ref C] zs) H2 Q E := q2
  have hl : (gu [.ref C] ws).length = ps.length := by rw [← r2.length]; exact F.len _ _ _ _ q2
  have z : wpAny (model X.prog X.w) X.A (call (.ref s1.heap.objs.size) [] (ks.zip ws)) (EP X ((s1.heap.objs.size, PySem.W.methodObj (.ref g) (.ref C)) :: pins) σ Q) X.xe s3 := by
    refine wpAny_call (PySem.W.method_call (ClX.pin_at I3) (codeAny_mono (F.run X.A X.stack s3 H2 ⟨[.ref C], ks.zip ws⟩ (gu [.ref C] ws) (gV [V.ref C] zs) Q E hr I3.env0 (hb.to s3 [.ref C] ws I3.kIn hl) r2 q2) fun r s' hq => ?_))
    cases r with
    | error e => exact hx _ σ H2 s3 e s' I3 hq
    | ok fl =>
      cases fl with
      | ret u => exact I3.after hq
      | next => exact False.elim hq
      | brk => exact False.elim hq
      | cont => exact False.elim hq
  exact thn z fun _ _ y => ClX.unpinE y
/-- x(..), x a local that holds the class at C -/
def tMakeL (C : Addr) (i : Nat) (sp : Sp) (E : XK) (t : TA) : TE := fun σ H Q => σ[i]? = some (some (.ref C)) ∧ tMake C sp [] E t σ H Q
theorem pe_makeL {i : Nat} {p1 p2 : Pos} (M : Mk X.K C f) (F : FnOk X.prog X.w X.K X.mg X.base CX k f fd ps sp) (hr : Room (k + 1) X.A) (hN : X.N[i]? = some x) (hv : Vis X.env.scope x) (hb : Binds X.K fd ps []) (hx : Passes CX X E)
    (ha : PA X (e :: es) t) (hdb : (x == ("__debug__" : PySem.Str)) = false := by decide) (hcd : (x == ("__classdict__" : PySem.Str)) = false := by decide) (he : starEach (e :: es) X.env = (false, eval e X.env) :: starEach es X.env := by rfl) (hpl : (backTo p2 (starEach es X.env)).any (·.1) = false := by rfl) :
    PE X (.Call (.Name x p1) (e :: es) [] p2) (tMakeL C i sp E t) := by
  refine ⟨fun pins s σ H Q I h => ?_⟩
  obtain ⟨hs, h⟩ := h
  refine wpAny_Call_Name_kw (thn ((pe_var (pos := p1) (i := i) hN hv hdb hcd).run pins s σ H (fun v H1 => v = .ref C ∧ H1 = H) I ⟨.ref C, hs, rfl, rfl⟩) fun u s1 ⟨v, H1, I1, r1, q1⟩ => ?_)
  obtain ⟨ev, eH⟩ := q1
  subst ev
  rw [eH] at I1
  obtain rfl : u = Value.ref C := r1
  refine PySem.W.callWith_K (h₀ := X.base) I1.ok.mod.kin M.kp (thn (ha.run p2 pins s1 σ H _ I1 h) fun us s2 ⟨vs, H2, I2, r, q⟩ => ⟨I2.kIn, ?_⟩) he hpl
  exact run_make M F hr hb .nil hx I2 r q
end
section
variable {K : PySem.W.Frag} {M : Mt} {ds : DS} {te : TE} {ta : TA} {R : D → Prop} {E : XK} {C : Addr} {pre : Ml → List D → Prop} {post px : List D → D → Prop}
theorem ev_cmeth {RA : List D → Prop} (he : Ev K M ds te (· = .raw (.ref C))) (ha : EvA K M ds ta RA) (h : ∀ as, RA as → (∀ M', MSub M M' → pre M'.l (.raw (.ref C) :: as)) ∧ (∀ d, post (.raw (.ref C) :: as) d → R d) ∧ ∀ x, px (.raw (.ref C) :: as) x → ExA K M E x) : Ev K M ds (ClX.tCMeth C (spX K pre post px) E te ta) R := fun M' σ G H Q m s w q =>
  he M' σ G H _ m s w fun v d1 G1 H1 s1 w1 r1 e => by
    subst e
    refine ⟨r1.raw_inv, ha M' σ G1 H1 _ m (s.mono s1) w1 fun vs as G2 H2 s2 w2 r2 e2 => ?_⟩
    exact go_spX m w2 (.cons (.raw _) r2) ((h as e2).1 M' m) (h as e2).2.1 (h as e2).2.2 fun v d G3 H3 s3 w3 r3 p3 => q v d G3 H3 ((s1.trans s2).trans s3) w3 r3 p3
theorem ev_makeL {pre : Ml → Own → List D → Prop} {post px : Own → List D → Own → D → Prop} {i : Nat} {RA : List D → Prop} (hi : ds[i]? = some (some (.raw (.ref C)))) (ha : EvA K M ds ta RA)
    (h : ∀ p as, RA as → (∀ M', MSub M M' → pre M'.l [(p, .ins C [])] (.raw (.ref p) :: as)) ∧ (∀ o' d, post [(p, .ins C [])] (.raw (.ref p) :: as) o' d → d = .non ∧ ∃ fs, o' = [(p, .ins C fs)] ∧ R (.obj C (fs.map (·.1)) (fs.map (·.2)))) ∧
      ∀ o' y, px [(p, .ins C [])] (.raw (.ref p) :: as) o' y → M.W = (fun c d _ H => E c d H) ∧ Exk K M y ds) : Ev K M ds (tMakeL C i (spW K pre post px) E ta) R := fun M' σ G H Q m s w q => by
  obtain ⟨v, e, r⟩ := s.at_ i _ hi
  exact ⟨by rw [e, r.raw_inv], ev_make ha h M' σ G H Q m s w q⟩
end
end Rg
namespace Rg
open PySem PySem.Spec L2 RZ PyProof.Rows
/-! ### lambdas within a comprehension's block; callees that call them -/
section
variable {X : Cx} {scope sc : Scope} {s0 : Shared} {H0 : Hp} {Ca : Addr} {cl : List (PySem.Str × Addr)} {fps : List Addr}
theorem pe_lamBl {c P : Addr} {params : Arguments} {body : Expr} {lscope : Scope} {pos : Pos} (TB : LamX.TabB X.base X.mg c P) (hcode : X.env.code = .ref c) (hs : X.env.scope = sc)
    (hd : (lscope.names.all fun y => !decide (y.2 = .free) || decide ((relS scope sc).names.lookup y.1 = some .cell)) = true) (hdef : defaultsOf params (compEnvC scope cl Ca X.env) = ([], [])) :
    PE (X.blk s0 H0 scope (compEnvC scope cl Ca X.env) fps) (.Lambda params body lscope pos) (tMkL cl (X.env.qual ++ "<lambda>") params body lscope P false) :=
  pe_lam0 (X := X.blk s0 H0 scope (compEnvC scope cl Ca X.env) fps) TB hcode (fun h y hy e => lam_freeS (sc := relS scope sc) h (by rw [← hs]; rfl) hd hy e) hdef
theorem pe_callBl {k : Nat} {f : Addr} {fd : FuncData} {ps : List PySem.Str} {sp : Sp} {x : PySem.Str} {p pos : Pos} {e : Expr} {es : List Expr} {t : TA} {ys : List (PySem.Str × Nat)}
    (F : FnOk X.prog X.w X.K X.mg X.base CX0 k f fd ps sp) (hr : Room k X.A) (hg : Gl (X.blk s0 H0 scope (compEnvC scope cl Ca X.env) fps) x) (hm : X.mg x = some (.ref f)) (hk : PySem.W.keepIn X.K (.ref f) = true)
    (hb : Binds X.K fd ps []) (hs : X.env.scope = sc) {N : List PySem.Str} (hN : X.N = N) (hys : (ys.all fun y => decide (N[y.2]? = some y.1) && (decide ((relS scope sc).names.lookup y.1 = some .cell) && decide (scope.names.lookup y.1 = some .cell))) = true) (nd : (ys.map (·.1)).Nodup) (ha : PA (X.blk s0 H0 scope (compEnvC scope cl Ca X.env) fps) (e :: es) t) (hdb : (x == ("__debug__" : PySem.Str)) = false := by decide)
    (he : starEach (e :: es) (compEnvC scope cl Ca X.env) = (false, eval e (compEnvC scope cl Ca X.env)) :: starEach es (compEnvC scope cl Ca X.env) := by rfl) (hpl : (backTo pos (starEach es (compEnvC scope cl Ca X.env))).any (·.1) = false := by rfl) :
    PE (X.blk s0 H0 scope (compEnvC scope cl Ca X.env) fps) (.Call (.Name x p) (e :: es) [] pos) (tCallT cl ys sp t) :=
  pe_callT (X := X.blk s0 H0 scope (compEnvC scope cl Ca X.env) fps) F hr hg hm hk hb (fun y hy => by
    have z := List.all_eq_true.mp hys y hy
    simp only [Bool.and_eq_true, decide_eq_true_eq] at z
    obtain ⟨h1, h2, h3⟩ := z
    refine ⟨by show X.N[y.2]? = _; rw [hN]; exact h1, ?_, by show (scope.names.lookup y.1 == some NameKind.cell) = true; rw [h3]; rfl⟩
    show (relS scope X.env.scope).names.lookup y.1 = _
    rw [hs]; exact h2) nd ha hdb he hpl
end
end Rg
namespace L43
open PySem L2 Rg RZ PyProof.Rows
abbrev n_isinteger : List Str := ["value"]
theorem sc_isinteger : FnScope n_isinteger ["value"] (defScope s_isinteger) := ⟨rfl, rfl, rfl, by decide +kernel, rfl, by decide +kernel, by decide +kernel⟩
abbrev n_greatestdivisor : List Str := ["one", "other", "low", "high"]
theorem sc_greatestdivisor : FnScope n_greatestdivisor ["one", "other"] (defScope s_greatestdivisor) := ⟨rfl, rfl, rfl, by decide +kernel, rfl, by decide +kernel, by decide +kernel⟩
abbrev n_digitsin : List Str := ["text", "sign"]
theorem sc_digitsin : FnScope n_digitsin ["text"] (defScope s_digitsin) := ⟨rfl, rfl, rfl, by decide +kernel, rfl, by decide +kernel, by decide +kernel⟩
abbrev n_partsin : List Str := ["text", "is_less", "words", "numbers", "top", "bottom", "word"]
theorem sc_partsin : FnScope n_partsin ["text"] (defScope s_partsin) := ⟨rfl, rfl, rfl, by decide +kernel, rfl, by decide +kernel, by decide +kernel⟩
abbrev n_pairof : List Str := ["value"]
theorem sc_pairof : FnScope n_pairof ["value"] (defScope s_pairof) := ⟨rfl, rfl, rfl, by decide +kernel, rfl, by decide +kernel, by decide +kernel⟩
abbrev n_Lbag : List Str := ["_law_script"]
theorem sc_Lbag : FnScope n_Lbag ["_law_script"] (defScope s_Lbag) := ⟨rfl, rfl, rfl, by decide +kernel, rfl, by decide +kernel, by decide +kernel⟩
abbrev n_Lpull : List Str := ["_law_bag_here", "_law_many", "_law_cell", "_law_digit", "_law_twice"]
theorem sc_Lpull : FnScope n_Lpull ["_law_bag_here", "_law_many"] (defScope s_Lpull) := ⟨rfl, rfl, rfl, by decide +kernel, rfl, by decide +kernel, by decide +kernel⟩
abbrev n_Lof : List Str := ["_law_bag_here", "_law_some"]
theorem sc_Lof : FnScope n_Lof ["_law_bag_here", "_law_some"] (defScope s_Lof) := ⟨rfl, rfl, rfl, by decide +kernel, rfl, by decide +kernel, by decide +kernel⟩
abbrev n_Llike : List Str := ["_law_found", "_law_due", "_law_a", "_law_b"]
theorem sc_Llike : FnScope n_Llike ["_law_found", "_law_due"] (defScope s_Llike) := ⟨rfl, rfl, rfl, by decide +kernel, rfl, by decide +kernel, by decide +kernel⟩
abbrev n_Lfield : List Str := ["_law_e"]
theorem sc_Lfield : FnScope n_Lfield ["_law_e"] (defScope s_Lfield) := ⟨rfl, rfl, rfl, by decide +kernel, rfl, by decide +kernel, by decide +kernel⟩
abbrev n_Ltry : List Str := ["_law_ask", "_law_e"]
theorem sc_Ltry : FnScope n_Ltry ["_law_ask"] (defScope s_Ltry) := ⟨rfl, rfl, rfl, by decide +kernel, rfl, by decide +kernel, by decide +kernel⟩
abbrev n_Lplain : List Str := ["_law_top_z", "_law_bottom_z", "_law_one", "_law_other_z", "_law_turn", "_law_sign"]
theorem sc_Lplain : FnScope n_Lplain ["_law_top_z", "_law_bottom_z"] (defScope s_Lplain) := ⟨rfl, rfl, rfl, by decide +kernel, rfl, by decide +kernel, by decide +kernel⟩
abbrev n_Lnumber : List Str := ["_law_bag_here", "_law_way", "_law_most", "_law_found"]
theorem sc_Lnumber : FnScope n_Lnumber ["_law_bag_here"] (defScope s_Lnumber) := ⟨rfl, rfl, rfl, by decide +kernel, rfl, by decide +kernel, by decide +kernel⟩
abbrev n_Lso : List Str := ["_law_ratio", "_law_due", "_law_top_z", "_law_bottom_z", "_law_text_z"]
theorem sc_Lso : FnScope n_Lso ["_law_ratio", "_law_due"] (defScope s_Lso) := ⟨rfl, rfl, rfl, by decide +kernel, rfl, by decide +kernel, by decide +kernel⟩
abbrev n_Lzero : List Str := ["_law_ask"]
theorem sc_Lzero : FnScope n_Lzero ["_law_ask"] (defScope s_Lzero) := ⟨rfl, rfl, rfl, by decide +kernel, rfl, by decide +kernel, by decide +kernel⟩
abbrev n_law : List Str := ["_law_script", "_law_bag_here", "_law_turn", "_law_a", "_law_b", "_law_c", "_law_d", "_law_one", "_law_other_z", "_law_n", "_law_pairs_z", "_law_told", "_law_signs", "_law_floors", "_law_asks", "_law_wrong", "_law_pair", "_law_ask", "_law_text_z"]
theorem sc_law : FnScope n_law ["_law_script"] (defScope s_law) := ⟨rfl, rfl, rfl, by decide +kernel, rfl, by decide +kernel, by decide +kernel⟩
abbrev n_Ratioinit : List Str := ["self", "top", "bottom", "by"]
theorem sc_Ratioinit : FnScope n_Ratioinit ["self", "top", "bottom"] (defScope s_Ratioinit) := ⟨rfl, rfl, rfl, by decide +kernel, rfl, by decide +kernel, by decide +kernel⟩
abbrev n_Ratioceiling : List Str := ["self"]
theorem sc_Ratioceiling : FnScope n_Ratioceiling ["self"] (defScope s_Ratioceiling) := ⟨rfl, rfl, rfl, by decide +kernel, rfl, by decide +kernel, by decide +kernel⟩
abbrev n_Ratiofloor : List Str := ["self"]
theorem sc_Ratiofloor : FnScope n_Ratiofloor ["self"] (defScope s_Ratiofloor) := ⟨rfl, rfl, rfl, by decide +kernel, rfl, by decide +kernel, by decide +kernel⟩
abbrev n_Ratiocompare : List Str := ["self", "other", "top", "bottom", "less", "more"]
theorem sc_Ratiocompare : FnScope n_Ratiocompare ["self", "other"] (defScope s_Ratiocompare) := ⟨rfl, rfl, rfl, by decide +kernel, rfl, by decide +kernel, by decide +kernel⟩
abbrev n_Ratioover : List Str := ["self", "other", "top", "bottom"]
theorem sc_Ratioover : FnScope n_Ratioover ["self", "other"] (defScope s_Ratioover) := ⟨rfl, rfl, rfl, by decide +kernel, rfl, by decide +kernel, by decide +kernel⟩
abbrev n_Rationeg : List Str := ["self"]
theorem sc_Rationeg : FnScope n_Rationeg ["self"] (defScope s_Rationeg) := ⟨rfl, rfl, rfl, by decide +kernel, rfl, by decide +kernel, by decide +kernel⟩
abbrev n_Ratioabs : List Str := ["self"]
theorem sc_Ratioabs : FnScope n_Ratioabs ["self"] (defScope s_Ratioabs) := ⟨rfl, rfl, rfl, by decide +kernel, rfl, by decide +kernel, by decide +kernel⟩
abbrev n_Ratiobool : List Str := ["self"]
theorem sc_Ratiobool : FnScope n_Ratiobool ["self"] (defScope s_Ratiobool) := ⟨rfl, rfl, rfl, by decide +kernel, rfl, by decide +kernel, by decide +kernel⟩
abbrev n_Ratioeq : List Str := ["self", "other"]
theorem sc_Ratioeq : FnScope n_Ratioeq ["self", "other"] (defScope s_Ratioeq) := ⟨rfl, rfl, rfl, by decide +kernel, rfl, by decide +kernel, by decide +kernel⟩
abbrev n_Ratiostr : List Str := ["self"]
theorem sc_Ratiostr : FnScope n_Ratiostr ["self"] (defScope s_Ratiostr) := ⟨rfl, rfl, rfl, by decide +kernel, rfl, by decide +kernel, by decide +kernel⟩
abbrev n_Ratiorepr : List Str := ["self"]
theorem sc_Ratiorepr : FnScope n_Ratiorepr ["self"] (defScope s_Ratiorepr) := ⟨rfl, rfl, rfl, by decide +kernel, rfl, by decide +kernel, by decide +kernel⟩
abbrev n_Ratioadd : List Str := ["self", "other", "top", "bottom"]
theorem sc_Ratioadd : FnScope n_Ratioadd ["self", "other"] (defScope s_Ratioadd) := ⟨rfl, rfl, rfl, by decide +kernel, rfl, by decide +kernel, by decide +kernel⟩
abbrev n_Ratioradd : List Str := ["self", "other", "top", "bottom"]
theorem sc_Ratioradd : FnScope n_Ratioradd ["self", "other"] (defScope s_Ratioradd) := ⟨rfl, rfl, rfl, by decide +kernel, rfl, by decide +kernel, by decide +kernel⟩
abbrev n_Ratiosub : List Str := ["self", "other", "top", "bottom"]
theorem sc_Ratiosub : FnScope n_Ratiosub ["self", "other"] (defScope s_Ratiosub) := ⟨rfl, rfl, rfl, by decide +kernel, rfl, by decide +kernel, by decide +kernel⟩
abbrev n_Ratiorsub : List Str := ["self", "other", "top", "bottom"]
theorem sc_Ratiorsub : FnScope n_Ratiorsub ["self", "other"] (defScope s_Ratiorsub) := ⟨rfl, rfl, rfl, by decide +kernel, rfl, by decide +kernel, by decide +kernel⟩
abbrev n_Ratiomul : List Str := ["self", "other", "top", "bottom"]
theorem sc_Ratiomul : FnScope n_Ratiomul ["self", "other"] (defScope s_Ratiomul) := ⟨rfl, rfl, rfl, by decide +kernel, rfl, by decide +kernel, by decide +kernel⟩
abbrev n_Ratiormul : List Str := ["self", "other", "top", "bottom"]
theorem sc_Ratiormul : FnScope n_Ratiormul ["self", "other"] (defScope s_Ratiormul) := ⟨rfl, rfl, rfl, by decide +kernel, rfl, by decide +kernel, by decide +kernel⟩
abbrev n_Ratiofloordiv : List Str := ["self", "other", "top", "bottom"]
theorem sc_Ratiofloordiv : FnScope n_Ratiofloordiv ["self", "other"] (defScope s_Ratiofloordiv) := ⟨rfl, rfl, rfl, by decide +kernel, rfl, by decide +kernel, by decide +kernel⟩
abbrev n_InvalidTextinit : List Str := ["self", "line"]
theorem sc_InvalidTextinit : FnScope n_InvalidTextinit ["self", "line"] (defScope s_InvalidTextinit) := ⟨rfl, rfl, rfl, by decide +kernel, rfl, by decide +kernel, by decide +kernel⟩
abbrev n_NothingLeftinit : List Str := ["self"]
theorem sc_NothingLeftinit : FnScope n_NothingLeftinit ["self"] (defScope s_NothingLeftinit) := ⟨rfl, rfl, rfl, by decide +kernel, rfl, by decide +kernel, by decide +kernel⟩
abbrev n_Ratioread : List Str := ["cls", "text", "parts"]
theorem sc_Ratioread : FnScope n_Ratioread ["cls", "text"] (defScope s_Ratioread) := ⟨rfl, rfl, rfl, by decide +kernel, rfl, by decide +kernel, by decide +kernel⟩
structure Tx (K : PySem.W.Frag) (mg : Str → Option Value) where
  f_is_integer : Addr
  fd_is_integer : FuncData
  F_is_integer : Fun K "is_integer" "is_integer" s_isinteger f_is_integer fd_is_integer
  m_is_integer : mg "is_integer" = some (.ref f_is_integer)
  f_greatest_divisor : Addr
  fd_greatest_divisor : FuncData
  F_greatest_divisor : Fun K "greatest_divisor" "greatest_divisor" s_greatestdivisor f_greatest_divisor fd_greatest_divisor
  m_greatest_divisor : mg "greatest_divisor" = some (.ref f_greatest_divisor)
  f_digits_in : Addr
  fd_digits_in : FuncData
  F_digits_in : Fun K "digits_in" "digits_in" s_digitsin f_digits_in fd_digits_in
  m_digits_in : mg "digits_in" = some (.ref f_digits_in)
  f_parts_in : Addr
  fd_parts_in : FuncData
  F_parts_in : Fun K "parts_in" "parts_in" s_partsin f_parts_in fd_parts_in
  m_parts_in : mg "parts_in" = some (.ref f_parts_in)
  f_pair_of : Addr
  fd_pair_of : FuncData
  F_pair_of : Fun K "pair_of" "pair_of" s_pairof f_pair_of fd_pair_of
  m_pair_of : mg "pair_of" = some (.ref f_pair_of)
  f__law_bag : Addr
  fd__law_bag : FuncData
  F__law_bag : Fun K "_law_bag" "_law_bag" s_Lbag f__law_bag fd__law_bag
  m__law_bag : mg "_law_bag" = some (.ref f__law_bag)
  f__law_pull : Addr
  fd__law_pull : FuncData
  F__law_pull : Fun K "_law_pull" "_law_pull" s_Lpull f__law_pull fd__law_pull
  m__law_pull : mg "_law_pull" = some (.ref f__law_pull)
  f__law_of : Addr
  fd__law_of : FuncData
  F__law_of : Fun K "_law_of" "_law_of" s_Lof f__law_of fd__law_of
  m__law_of : mg "_law_of" = some (.ref f__law_of)
  f__law_like : Addr
  fd__law_like : FuncData
  F__law_like : Fun K "_law_like" "_law_like" s_Llike f__law_like fd__law_like
  m__law_like : mg "_law_like" = some (.ref f__law_like)
  f__law_field : Addr
  fd__law_field : FuncData
  F__law_field : Fun K "_law_field" "_law_field" s_Lfield f__law_field fd__law_field
  m__law_field : mg "_law_field" = some (.ref f__law_field)
  f__law_try : Addr
  fd__law_try : FuncData
  F__law_try : Fun K "_law_try" "_law_try" s_Ltry f__law_try fd__law_try
  m__law_try : mg "_law_try" = some (.ref f__law_try)
  f__law_plain : Addr
  fd__law_plain : FuncData
  F__law_plain : Fun K "_law_plain" "_law_plain" s_Lplain f__law_plain fd__law_plain
  m__law_plain : mg "_law_plain" = some (.ref f__law_plain)
  f__law_number : Addr
  fd__law_number : FuncData
  F__law_number : Fun K "_law_number" "_law_number" s_Lnumber f__law_number fd__law_number
  m__law_number : mg "_law_number" = some (.ref f__law_number)
  f__law_so : Addr
  fd__law_so : FuncData
  F__law_so : Fun K "_law_so" "_law_so" s_Lso f__law_so fd__law_so
  m__law_so : mg "_law_so" = some (.ref f__law_so)
  f__law_zero : Addr
  fd__law_zero : FuncData
  F__law_zero : Fun K "_law_zero" "_law_zero" s_Lzero f__law_zero fd__law_zero
  m__law_zero : mg "_law_zero" = some (.ref f__law_zero)
  f_law : Addr
  fd_law : FuncData
  F_law : Fun K "law" "law" s_law f_law fd_law
  m_law : mg "law" = some (.ref f_law)
  b_isinstance : mg "isinstance" = none
  b_len : mg "len" = none
  b_all : mg "all" = none
  b_abs : mg "abs" = none
  b_int : mg "int" = none
  b_str : mg "str" = none
  b_list : mg "list" = none
  b_tuple : mg "tuple" = none
  b_bool : mg "bool" = none
  b_range : mg "range" = none
  b_zip : mg "zip" = none
  b_repr : mg "repr" = none
  b_ZeroDivisionError : mg "ZeroDivisionError" = none
  c_DayError : Addr
  m_DayError : mg "DayError" = some (.ref c_DayError)
  c_Missing : Addr
  m_Missing : mg "Missing" = some (.ref c_Missing)
  c_Ratio : Addr
  m_Ratio : mg "Ratio" = some (.ref c_Ratio)
  c_InvalidText : Addr
  m_InvalidText : mg "InvalidText" = some (.ref c_InvalidText)
  c_NothingLeft : Addr
  m_NothingLeft : mg "NothingLeft" = some (.ref c_NothingLeft)
  f_Ratioinit : Addr
  fd_Ratioinit : FuncData
  FD_Ratioinit : FunD K "__init__" "Ratio.__init__" (defArgs s_Ratioinit) (defBody s_Ratioinit) (defScope s_Ratioinit) [.int 1] [] f_Ratioinit fd_Ratioinit
  f_Ratioceiling : Addr
  fd_Ratioceiling : FuncData
  F_Ratioceiling : Fun K "ceiling" "Ratio.ceiling" s_Ratioceiling f_Ratioceiling fd_Ratioceiling
  f_Ratiofloor : Addr
  fd_Ratiofloor : FuncData
  F_Ratiofloor : Fun K "floor" "Ratio.floor" s_Ratiofloor f_Ratiofloor fd_Ratiofloor
  f_Ratiocompare : Addr
  fd_Ratiocompare : FuncData
  F_Ratiocompare : Fun K "compare" "Ratio.compare" s_Ratiocompare f_Ratiocompare fd_Ratiocompare
  f_Ratioover : Addr
  fd_Ratioover : FuncData
  F_Ratioover : Fun K "over" "Ratio.over" s_Ratioover f_Ratioover fd_Ratioover
  f_Rationeg : Addr
  fd_Rationeg : FuncData
  F_Rationeg : Fun K "__neg__" "Ratio.__neg__" s_Rationeg f_Rationeg fd_Rationeg
  f_Ratioabs : Addr
  fd_Ratioabs : FuncData
  F_Ratioabs : Fun K "__abs__" "Ratio.__abs__" s_Ratioabs f_Ratioabs fd_Ratioabs
  f_Ratiobool : Addr
  fd_Ratiobool : FuncData
  F_Ratiobool : Fun K "__bool__" "Ratio.__bool__" s_Ratiobool f_Ratiobool fd_Ratiobool
  f_Ratioeq : Addr
  fd_Ratioeq : FuncData
  F_Ratioeq : Fun K "__eq__" "Ratio.__eq__" s_Ratioeq f_Ratioeq fd_Ratioeq
  f_Ratiostr : Addr
  fd_Ratiostr : FuncData
  F_Ratiostr : Fun K "__str__" "Ratio.__str__" s_Ratiostr f_Ratiostr fd_Ratiostr
  f_Ratiorepr : Addr
  fd_Ratiorepr : FuncData
  F_Ratiorepr : Fun K "__repr__" "Ratio.__repr__" s_Ratiorepr f_Ratiorepr fd_Ratiorepr
  f_Ratioadd : Addr
  fd_Ratioadd : FuncData
  F_Ratioadd : Fun K "__add__" "Ratio.__add__" s_Ratioadd f_Ratioadd fd_Ratioadd
  f_Ratioradd : Addr
  fd_Ratioradd : FuncData
  F_Ratioradd : Fun K "__radd__" "Ratio.__radd__" s_Ratioradd f_Ratioradd fd_Ratioradd
  f_Ratiosub : Addr
  fd_Ratiosub : FuncData
  F_Ratiosub : Fun K "__sub__" "Ratio.__sub__" s_Ratiosub f_Ratiosub fd_Ratiosub
  f_Ratiorsub : Addr
  fd_Ratiorsub : FuncData
  F_Ratiorsub : Fun K "__rsub__" "Ratio.__rsub__" s_Ratiorsub f_Ratiorsub fd_Ratiorsub
  f_Ratiomul : Addr
  fd_Ratiomul : FuncData
  F_Ratiomul : Fun K "__mul__" "Ratio.__mul__" s_Ratiomul f_Ratiomul fd_Ratiomul
  f_Ratiormul : Addr
  fd_Ratiormul : FuncData
  F_Ratiormul : Fun K "__rmul__" "Ratio.__rmul__" s_Ratiormul f_Ratiormul fd_Ratiormul
  f_Ratiofloordiv : Addr
  fd_Ratiofloordiv : FuncData
  F_Ratiofloordiv : Fun K "__floordiv__" "Ratio.__floordiv__" s_Ratiofloordiv f_Ratiofloordiv fd_Ratiofloordiv
  f_Ratioread : Addr
  fd_Ratioread : FuncData
  F_Ratioread : Fun K "read" "Ratio.read" s_Ratioread f_Ratioread fd_Ratioread
  p_Ratioread : Addr
  cm_Ratioread : ClX.CMet K c_Ratio (.type "type") "read" p_Ratioread f_Ratioread
  cr_Ratio : ClX.CRead K c_Ratio (.type "type")
  s1_Ratio : PySem.W.selfFirst K c_Ratio = true
  sf_int_Ratio : PySem.W.subIn K (.type "int") (.ref c_Ratio) = some false
  sf_Ratio_int : PySem.W.subIn K (.ref c_Ratio) (.type "int") = some false
  tf_int_add : PySem.W.findIn K (.type "int") "__add__" = some (some (.builtin "int.__add__"))
  tf_int_radd : PySem.W.findIn K (.type "int") "__radd__" = some (some (.builtin "int.__radd__"))
  tf_int_sub : PySem.W.findIn K (.type "int") "__sub__" = some (some (.builtin "int.__sub__"))
  tf_int_rsub : PySem.W.findIn K (.type "int") "__rsub__" = some (some (.builtin "int.__rsub__"))
  tf_int_mul : PySem.W.findIn K (.type "int") "__mul__" = some (some (.builtin "int.__mul__"))
  tf_int_rmul : PySem.W.findIn K (.type "int") "__rmul__" = some (some (.builtin "int.__rmul__"))
  tf_int_floordiv : PySem.W.findIn K (.type "int") "__floordiv__" = some (some (.builtin "int.__floordiv__"))
  tf_int_rfloordiv : PySem.W.findIn K (.type "int") "__rfloordiv__" = some (some (.builtin "int.__rfloordiv__"))
  x_InvalidText : Xg K c_InvalidText
  fi_InvalidText : Addr
  fdi_InvalidText : FuncData
  Fi_InvalidText : Fun K "__init__" "InvalidText.__init__" s_InvalidTextinit fi_InvalidText fdi_InvalidText
  i_InvalidText : PySem.W.findIn K (.ref c_InvalidText) "__init__" = some (some (.ref fi_InvalidText))
  t_InvalidText : PySem.W.typeIn K (.ref fi_InvalidText) = some (.type "function")
  no_InvalidText : ∀ f ∈ (["code", "line"] : List Str), PySem.W.findIn K (.ref c_InvalidText) f = some none
  x_NothingLeft : Xg K c_NothingLeft
  fi_NothingLeft : Addr
  fdi_NothingLeft : FuncData
  Fi_NothingLeft : Fun K "__init__" "NothingLeft.__init__" s_NothingLeftinit fi_NothingLeft fdi_NothingLeft
  i_NothingLeft : PySem.W.findIn K (.ref c_NothingLeft) "__init__" = some (some (.ref fi_NothingLeft))
  t_NothingLeft : PySem.W.typeIn K (.ref fi_NothingLeft) = some (.type "function")
  no_NothingLeft : ∀ f ∈ (["code"] : List Str), PySem.W.findIn K (.ref c_NothingLeft) f = some none
  v_DIGITS : V
  u_DIGITS : Value
  c_DIGITS : mg "DIGITS" = some u_DIGITS
  r_DIGITS : RelV v_DIGITS u_DIGITS
  g_DIGITS : ∀ G, Rp K G v_DIGITS (.str "0123456789")
  oc_Ratio : OCls K c_Ratio
  mk_Ratio : Mk K c_Ratio f_Ratioinit
  fi_Ratio___ne__ : PySem.W.findIn K (.ref c_Ratio) "__ne__" = some (some (.builtin "object.__ne__"))
  no_Ratio_top : NoAttr K c_Ratio "top"
  no_Ratio_bottom : NoAttr K c_Ratio "bottom"
  no_Ratio___rfloordiv__ : NoAttr K c_Ratio "__rfloordiv__"
  sp_Ratio___add__ : PySem.W.findIn K (.ref c_Ratio) "__add__" = some (some (.ref f_Ratioadd)) ∧ PySem.W.isFn K (.ref f_Ratioadd) = true
  sp_Ratio___radd__ : PySem.W.findIn K (.ref c_Ratio) "__radd__" = some (some (.ref f_Ratioradd)) ∧ PySem.W.isFn K (.ref f_Ratioradd) = true
  sp_Ratio___sub__ : PySem.W.findIn K (.ref c_Ratio) "__sub__" = some (some (.ref f_Ratiosub)) ∧ PySem.W.isFn K (.ref f_Ratiosub) = true
  sp_Ratio___rsub__ : PySem.W.findIn K (.ref c_Ratio) "__rsub__" = some (some (.ref f_Ratiorsub)) ∧ PySem.W.isFn K (.ref f_Ratiorsub) = true
  sp_Ratio___mul__ : PySem.W.findIn K (.ref c_Ratio) "__mul__" = some (some (.ref f_Ratiomul)) ∧ PySem.W.isFn K (.ref f_Ratiomul) = true
  sp_Ratio___rmul__ : PySem.W.findIn K (.ref c_Ratio) "__rmul__" = some (some (.ref f_Ratiormul)) ∧ PySem.W.isFn K (.ref f_Ratiormul) = true
  sp_Ratio___floordiv__ : PySem.W.findIn K (.ref c_Ratio) "__floordiv__" = some (some (.ref f_Ratiofloordiv)) ∧ PySem.W.isFn K (.ref f_Ratiofloordiv) = true
  sp_Ratio___neg__ : PySem.W.findIn K (.ref c_Ratio) "__neg__" = some (some (.ref f_Rationeg)) ∧ PySem.W.isFn K (.ref f_Rationeg) = true
  sp_Ratio___abs__ : PySem.W.findIn K (.ref c_Ratio) "__abs__" = some (some (.ref f_Ratioabs)) ∧ PySem.W.isFn K (.ref f_Ratioabs) = true
  sp_Ratio___bool__ : PySem.W.findIn K (.ref c_Ratio) "__bool__" = some (some (.ref f_Ratiobool)) ∧ PySem.W.isFn K (.ref f_Ratiobool) = true
  sp_Ratio___eq__ : PySem.W.findIn K (.ref c_Ratio) "__eq__" = some (some (.ref f_Ratioeq)) ∧ PySem.W.isFn K (.ref f_Ratioeq) = true
  sp_Ratio___str__ : PySem.W.findIn K (.ref c_Ratio) "__str__" = some (some (.ref f_Ratiostr)) ∧ PySem.W.isFn K (.ref f_Ratiostr) = true
  sp_Ratio___repr__ : PySem.W.findIn K (.ref c_Ratio) "__repr__" = some (some (.ref f_Ratiorepr)) ∧ PySem.W.isFn K (.ref f_Ratiorepr) = true
  me_Ratio_ceiling : Meth K c_Ratio "ceiling" f_Ratioceiling
  me_Ratio_floor : Meth K c_Ratio "floor" f_Ratiofloor
  me_Ratio_compare : Meth K c_Ratio "compare" f_Ratiocompare
  me_Ratio_over : Meth K c_Ratio "over" f_Ratioover
  ki_Ratio_Ratio : PySem.W.kitOne K (.ref c_Ratio) (.ref c_Ratio) = some true
  nf_Ratio_Ratio : PySem.W.notFirst K c_Ratio (.ref c_Ratio) = true
  nf_Ratio_str : PySem.W.notFirst K c_Ratio (.type "str") = true
  ki_str_Ratio : PySem.W.kitOne K (.type "str") (.ref c_Ratio) = some false
  nf_Ratio_int : PySem.W.notFirst K c_Ratio (.type "int") = true
  ki_int_Ratio : PySem.W.kitOne K (.type "int") (.ref c_Ratio) = some false
  ex_InvalidText_DayError : PySem.W.exmOne K (.ref c_InvalidText) (.ref c_DayError) = some true
  ex_InvalidText_Missing : PySem.W.exmOne K (.ref c_InvalidText) (.ref c_Missing) = some false
  ex_InvalidText_NothingLeft : PySem.W.exmOne K (.ref c_InvalidText) (.ref c_NothingLeft) = some false
  cd_law : Addr
  tb_law : Addr
  hc_law : fd_law.code = .ref cd_law
end L43
namespace L43
open PySem L2 Rg RZ PyProof.Rows
section
variable {P : Program} {w : World} {K : PySem.W.Frag} {mg : Str → Option Value} {base : Heap}
theorem G_init_InvalidText (T : Tx K mg) : FnOk P w K mg base CX0 1 T.fi_InvalidText T.fdi_InvalidText ["self", "line"] (spInit T.c_InvalidText ["line"] "InvalidText") := by
  refine T.Fi_InvalidText.ok sc_InvalidTextinit (fun vs H Q E h => ?_) (fun cdv A outer s H vs Q E hr h => ⟨_, (pss_cons (ps_xset (pv 0) pe_str) (pss_one (ps_xset (pv 0) (pv 1)))), ?_⟩)
  · obtain ⟨a, ws, rfl, hl, _⟩ := h
    rw [List.length_cons, hl]; rfl
  · obtain ⟨a, ws, rfl, hl, ha, q⟩ := h
    match ws, hl, q with
    | [w0], _, q =>
      exact init1 T.x_InvalidText.toXc ha (fun dx h1 h2 => q dx h1 h2) (T.no_InvalidText "code" (by decide)) (T.no_InvalidText "line" (by decide))
theorem B_init_InvalidText (T : Tx K mg) : Binds K T.fdi_InvalidText ["self", "line"] [] := T.Fi_InvalidText.binds fun _ _ _ _ _ _ us hl => match us, hl with | [_, _], _ => rfl
theorem G_init_NothingLeft (T : Tx K mg) : FnOk P w K mg base CX0 1 T.fi_NothingLeft T.fdi_NothingLeft ["self"] (spInit T.c_NothingLeft [] "NothingLeft") := by
  refine T.Fi_NothingLeft.ok sc_NothingLeftinit (fun vs H Q E h => ?_) (fun cdv A outer s H vs Q E hr h => ⟨_, (pss_one (ps_xset (pv 0) pe_str)), ?_⟩)
  · obtain ⟨a, ws, rfl, hl, _⟩ := h
    rw [List.length_cons, hl]; rfl
  · obtain ⟨a, ws, rfl, hl, ha, q⟩ := h
    match ws, hl, q with
    | [], _, q =>
      exact init0 T.x_NothingLeft.toXc ha (fun dx h1 h2 => q dx h1 h2) (T.no_NothingLeft "code" (by decide))
theorem B_init_NothingLeft (T : Tx K mg) : Binds K T.fdi_NothingLeft ["self"] [] := T.Fi_NothingLeft.binds fun _ _ _ _ _ _ us hl => match us, hl with | [_], _ => rfl
theorem Bd_isinteger (T : Tx K mg) : Binds K T.fd_is_integer ["value"] [] := T.F_is_integer.binds fun _ _ _ _ _ _ us hl => match us, hl with | [_], _ => rfl
theorem Bd_greatestdivisor (T : Tx K mg) : Binds K T.fd_greatest_divisor ["one", "other"] [] := T.F_greatest_divisor.binds fun _ _ _ _ _ _ us hl => match us, hl with | [_, _], _ => rfl
theorem Bd_digitsin (T : Tx K mg) : Binds K T.fd_digits_in ["text"] [] := T.F_digits_in.binds fun _ _ _ _ _ _ us hl => match us, hl with | [_], _ => rfl
theorem Bd_partsin (T : Tx K mg) : Binds K T.fd_parts_in ["text"] [] := T.F_parts_in.binds fun _ _ _ _ _ _ us hl => match us, hl with | [_], _ => rfl
theorem Bd_pairof (T : Tx K mg) : Binds K T.fd_pair_of ["value"] [] := T.F_pair_of.binds fun _ _ _ _ _ _ us hl => match us, hl with | [_], _ => rfl
theorem Bd_Lbag (T : Tx K mg) : Binds K T.fd__law_bag ["_law_script"] [] := T.F__law_bag.binds fun _ _ _ _ _ _ us hl => match us, hl with | [_], _ => rfl
theorem Bd_Lpull (T : Tx K mg) : Binds K T.fd__law_pull ["_law_bag_here", "_law_many"] [] := T.F__law_pull.binds fun _ _ _ _ _ _ us hl => match us, hl with | [_, _], _ => rfl
theorem Bd_Lof (T : Tx K mg) : Binds K T.fd__law_of ["_law_bag_here", "_law_some"] [] := T.F__law_of.binds fun _ _ _ _ _ _ us hl => match us, hl with | [_, _], _ => rfl
theorem Bd_Llike (T : Tx K mg) : Binds K T.fd__law_like ["_law_found", "_law_due"] [] := T.F__law_like.binds fun _ _ _ _ _ _ us hl => match us, hl with | [_, _], _ => rfl
theorem Bd_Lfield (T : Tx K mg) : Binds K T.fd__law_field ["_law_e"] [] := T.F__law_field.binds fun _ _ _ _ _ _ us hl => match us, hl with | [_], _ => rfl
theorem Bd_Ltry (T : Tx K mg) : Binds K T.fd__law_try ["_law_ask"] [] := T.F__law_try.binds fun _ _ _ _ _ _ us hl => match us, hl with | [_], _ => rfl
theorem Bd_Lplain (T : Tx K mg) : Binds K T.fd__law_plain ["_law_top_z", "_law_bottom_z"] [] := T.F__law_plain.binds fun _ _ _ _ _ _ us hl => match us, hl with | [_, _], _ => rfl
theorem Bd_Lnumber (T : Tx K mg) : Binds K T.fd__law_number ["_law_bag_here"] [] := T.F__law_number.binds fun _ _ _ _ _ _ us hl => match us, hl with | [_], _ => rfl
theorem Bd_Lso (T : Tx K mg) : Binds K T.fd__law_so ["_law_ratio", "_law_due"] [] := T.F__law_so.binds fun _ _ _ _ _ _ us hl => match us, hl with | [_, _], _ => rfl
theorem Bd_Lzero (T : Tx K mg) : Binds K T.fd__law_zero ["_law_ask"] [] := T.F__law_zero.binds fun _ _ _ _ _ _ us hl => match us, hl with | [_], _ => rfl
theorem Bd_law (T : Tx K mg) : Binds K T.fd_law ["_law_script"] [] := T.F_law.binds fun _ _ _ _ _ _ us hl => match us, hl with | [_], _ => rfl
theorem Bd_Ratioceiling (T : Tx K mg) : Binds K T.fd_Ratioceiling ["self"] [] := T.F_Ratioceiling.binds fun _ _ _ _ _ _ us hl => match us, hl with | [_], _ => rfl
theorem Bd_Ratiofloor (T : Tx K mg) : Binds K T.fd_Ratiofloor ["self"] [] := T.F_Ratiofloor.binds fun _ _ _ _ _ _ us hl => match us, hl with | [_], _ => rfl
theorem Bd_Ratiocompare (T : Tx K mg) : Binds K T.fd_Ratiocompare ["self", "other"] [] := T.F_Ratiocompare.binds fun _ _ _ _ _ _ us hl => match us, hl with | [_, _], _ => rfl
theorem Bd_Ratioover (T : Tx K mg) : Binds K T.fd_Ratioover ["self", "other"] [] := T.F_Ratioover.binds fun _ _ _ _ _ _ us hl => match us, hl with | [_, _], _ => rfl
theorem Bd_Rationeg (T : Tx K mg) : Binds K T.fd_Rationeg ["self"] [] := T.F_Rationeg.binds fun _ _ _ _ _ _ us hl => match us, hl with | [_], _ => rfl
theorem Bd_Ratioabs (T : Tx K mg) : Binds K T.fd_Ratioabs ["self"] [] := T.F_Ratioabs.binds fun _ _ _ _ _ _ us hl => match us, hl with | [_], _ => rfl
theorem Bd_Ratiobool (T : Tx K mg) : Binds K T.fd_Ratiobool ["self"] [] := T.F_Ratiobool.binds fun _ _ _ _ _ _ us hl => match us, hl with | [_], _ => rfl
theorem Bd_Ratioeq (T : Tx K mg) : Binds K T.fd_Ratioeq ["self", "other"] [] := T.F_Ratioeq.binds fun _ _ _ _ _ _ us hl => match us, hl with | [_, _], _ => rfl
theorem Bd_Ratiostr (T : Tx K mg) : Binds K T.fd_Ratiostr ["self"] [] := T.F_Ratiostr.binds fun _ _ _ _ _ _ us hl => match us, hl with | [_], _ => rfl
theorem Bd_Ratiorepr (T : Tx K mg) : Binds K T.fd_Ratiorepr ["self"] [] := T.F_Ratiorepr.binds fun _ _ _ _ _ _ us hl => match us, hl with | [_], _ => rfl
theorem Bd_Ratioadd (T : Tx K mg) : Binds K T.fd_Ratioadd ["self", "other"] [] := T.F_Ratioadd.binds fun _ _ _ _ _ _ us hl => match us, hl with | [_, _], _ => rfl
theorem Bd_Ratioradd (T : Tx K mg) : Binds K T.fd_Ratioradd ["self", "other"] [] := T.F_Ratioradd.binds fun _ _ _ _ _ _ us hl => match us, hl with | [_, _], _ => rfl
theorem Bd_Ratiosub (T : Tx K mg) : Binds K T.fd_Ratiosub ["self", "other"] [] := T.F_Ratiosub.binds fun _ _ _ _ _ _ us hl => match us, hl with | [_, _], _ => rfl
theorem Bd_Ratiorsub (T : Tx K mg) : Binds K T.fd_Ratiorsub ["self", "other"] [] := T.F_Ratiorsub.binds fun _ _ _ _ _ _ us hl => match us, hl with | [_, _], _ => rfl
theorem Bd_Ratiomul (T : Tx K mg) : Binds K T.fd_Ratiomul ["self", "other"] [] := T.F_Ratiomul.binds fun _ _ _ _ _ _ us hl => match us, hl with | [_, _], _ => rfl
theorem Bd_Ratiormul (T : Tx K mg) : Binds K T.fd_Ratiormul ["self", "other"] [] := T.F_Ratiormul.binds fun _ _ _ _ _ _ us hl => match us, hl with | [_, _], _ => rfl
theorem Bd_Ratiofloordiv (T : Tx K mg) : Binds K T.fd_Ratiofloordiv ["self", "other"] [] := T.F_Ratiofloordiv.binds fun _ _ _ _ _ _ us hl => match us, hl with | [_, _], _ => rfl
theorem Bd_Ratioread (T : Tx K mg) : Binds K T.fd_Ratioread ["cls", "text"] [] := T.F_Ratioread.binds fun _ _ _ _ _ _ us hl => match us, hl with | [_, _], _ => rfl
end
end L43
namespace L43
open PySem L2 Rg RZ PyProof.Rows
local macro_rules | `(tactic| walk_at "ev") => `(tactic| first
  | with_reducible assumption
  | ((with_reducible apply ev_var); exact rfl)
  | with_reducible exact ev_cint
  | with_reducible exact ev_cbl
  | with_reducible exact ev_cnon
  | with_reducible exact ev_cstr
  | ((with_reducible apply ev_c); with_reducible assumption)
  | with_reducible exact ev_craw
  | ((with_reducible apply ev_tup1); walk_at "ea"; exact Nat.le_of_ble_eq_true rfl)
  | ((with_reducible apply ev_lst1); walk_at "ea"; exact Nat.le_of_ble_eq_true rfl)
  | ((with_reducible apply ev_op1); walk_at "ev"; walk_at "ev"; walk_at "od")
  | ((with_reducible apply ev_un1); walk_at "ev"; exact ud_neg)
  | ((with_reducible apply ev_isSeq); walk_at "ev"; walk_at "ea"; exact rfl; exact rfl)
  | ((with_reducible apply ev_cb1); walk_at "ea"; walk_at "cd")
  | ((with_reducible apply ev_chainB); walk_at "ev"; walk_at "ev"; walk_at "od"; walk_at "ev"; walk_at "od")
  | ((with_reducible apply ev_andF); walk_at "ev"; exact rfl)
  | ((with_reducible apply ev_andT); walk_at "ev"; exact rfl; walk_at "ev")
  | ((with_reducible apply ev_andB); walk_at "ev"; intro _; walk_at "ev")
  | ((with_reducible apply ev_orT); walk_at "ev"; exact rfl)
  | ((with_reducible apply ev_orF); walk_at "ev"; exact rfl; walk_at "ev")
  | ((with_reducible apply ev_orB); walk_at "ev"; intro _; walk_at "ev")
  | ((with_reducible apply ev_notV); walk_at "ev"))
local macro_rules | `(tactic| walk_at "et") => `(tactic| first
  | ((with_reducible apply et_B); walk_at "ev")
  | ((with_reducible apply et_test); walk_at "ev")
  | ((with_reducible apply et_not); walk_at "et")
  | ((with_reducible apply et_orT); walk_at "et"; exact rfl)
  | ((with_reducible apply et_orF); walk_at "et"; exact rfl; walk_at "et")
  | ((with_reducible apply et_or); walk_at "et"; intro _; walk_at "et")
  | ((with_reducible apply et_andF); walk_at "et"; exact rfl)
  | ((with_reducible apply et_andT); walk_at "et"; exact rfl; walk_at "et")
  | ((with_reducible apply et_and); walk_at "et"; intro _; walk_at "et"))
local macro_rules | `(tactic| walk_at "ea") => `(tactic| first
  | with_reducible exact ea_nil
  | ((with_reducible apply ea1); walk_at "ev"; walk_at "ea"))
local macro_rules | `(tactic| walk_at "od") => `(tactic| first
  | with_reducible exact od_addI
  | with_reducible exact od_subI
  | ((with_reducible apply od_addS); (try simp only [PySem.Str.length_append]); omega)
  | ((with_reducible apply od_catL); exact Nat.le_of_ble_eq_true rfl)
  | ((with_reducible apply od_modI); first | decide | omega)
  | ((with_reducible apply od_mulI); first | (exact Or.inr ⟨by decide, by decide⟩) | (exact Or.inl ⟨by decide, by decide⟩) | (exact Or.inl ⟨by omega, by omega⟩) | (exact Or.inr ⟨by omega, by omega⟩))
  | ((with_reducible apply od_divI); first | (exact ⟨by decide, by decide⟩) | (exact ⟨by omega, by omega⟩))
  | ((with_reducible apply od_powI); exact ⟨by decide, by decide, by decide⟩)
  | with_reducible exact od_leI
  | with_reducible exact od_ltI
  | with_reducible exact od_gtI
  | with_reducible exact od_geI
  | with_reducible exact od_eqI
  | with_reducible exact od_eqB
  | with_reducible exact od_neB
  | with_reducible exact od_neI
  | with_reducible exact od_eqS
  | with_reducible exact od_inS
  | ((with_reducible apply od_none); exact rfl)
  | ((with_reducible apply od_ix); exact rfl))
local macro_rules | `(tactic| walk_at "cd") => `(tactic| first
  | ((with_reducible apply cd_isStr); exact rfl)
  | ((with_reducible apply cd_isInt); exact rfl)
  | ((with_reducible apply cd_isBool); exact rfl)
  | ((with_reducible apply cd_isList); exact rfl)
  | ((with_reducible apply cd_isTuple); exact rfl)
  | ((with_reducible apply cd_isi); assumption)
  | ((with_reducible apply cd_len); assumption)
  | ((with_reducible apply cd_len); exact rfl)
  | with_reducible exact cd_intI
  | with_reducible exact cd_listof
  | ((with_reducible apply cd_str); assumption)
  | with_reducible exact cd_all)
local macro_rules | `(tactic| walk_at "px") => `(tactic| first
  | ((with_reducible apply px_var); exact rfl)
  | with_reducible exact px_c
  | ((with_reducible apply px_op); walk_at "px"; walk_at "px"; walk_at "pr")
  | ((with_reducible apply px_cb); walk_at "pa"; walk_at "pr")
  | ((with_reducible apply px_test); walk_at "px")
  | ((with_reducible apply px_B); walk_at "px")
  | ((with_reducible apply px_and); walk_at "px"; walk_at "px"))
local macro_rules | `(tactic| walk_at "pa") => `(tactic| first
  | with_reducible exact px_nil
  | ((with_reducible apply px_cons); walk_at "px"; walk_at "pa"))
local macro_rules | `(tactic| walk_at "pr") => `(tactic| first
  | exact px_addI
  | (apply px_ix; assumption; exact rfl)
  | (apply px_ix; assumption; assumption)
  | exact px_eqI
  | exact fun Q q => ⟨_, _, rfl, rfl, q⟩
  | exact fun Q q => ⟨_, _, rfl, rfl, (Or.inr ⟨by decide, by decide⟩), q⟩
  | exact fun Q q => ⟨_, _, rfl, rfl, (Or.inl ⟨by omega, by omega⟩), q⟩
  | exact fun Q q => ⟨_, _, rfl, rfl, (Or.inr ⟨by omega, by omega⟩), q⟩
  | exact fun Q q => ⟨_, _, rfl, rfl, ⟨by decide, by decide⟩, q⟩
  | exact fun Q q => ⟨_, _, rfl, rfl, ⟨by omega, by omega⟩, q⟩
  | exact fun Q q => ⟨_, _, rfl, rfl, ⟨by decide, by decide, by decide⟩, q⟩
  | exact fun Q q => ⟨_, _, rfl, rfl, (by decide), q⟩
  | exact fun Q q => ⟨_, _, rfl, rfl, (by omega), q⟩
  | (apply px_len; assumption)
  | exact px_intI
  | exact px_abs)
local macro_rules | `(tactic| walk_at "fg") => `(tactic| repeat first | exact Fg.nil | apply Fg.keep | apply Fg.drop)
/-! ### _law_like -/
def okN : Nat → D → Bool
  | 0, _ => false
  | _ + 1, .obj _ _ _ => false
  | _ + 1, .exc _ _ _ => false
  | _ + 1, .cau _ _ _ _ _ => false
  | _ + 1, .raw _ => false
  | _ + 1, .seq _ => false
  | _ + 1, .fob _ => false
  | _ + 1, .dict _ _ => false
  | n + 1, .list xs => decide (xs.length ≤ 100000) && xs.all (okN n)
  | n + 1, .tup xs => decide (xs.length ≤ 100000) && xs.all (okN n)
  | _ + 1, _ => true
def allZ (f : D → D → Bool) (xs ys : List D) : Bool := (xs.zip ys).all fun p => f p.1 p.2
def sameN : Nat → D → D → Bool
  | 0, _, _ => false
  | _ + 1, .non, .non => true
  | _ + 1, .bl a, .bl b => decide (a = b)
  | _ + 1, .int a, .int b => decide (a = b)
  | _ + 1, .str a, .str b => decide (a = b)
  | n + 1, .list xs, .list ys => decide ((xs.length : Int) = ys.length) && allZ (sameN n) xs ys
  | n + 1, .tup xs, .tup ys => decide ((xs.length : Int) = ys.length) && allZ (sameN n) xs ys
  | _ + 1, _, _ => false
theorem allZ_refl {f : D → D → Bool} : ∀ {xs : List D}, (∀ x ∈ xs, f x x = true) → allZ f xs xs = true
  | [], _ => rfl
  | x :: r, h => by
    show (f x x && allZ f r r) = true
    rw [h x List.mem_cons_self, allZ_refl fun y hy => h y (List.mem_cons_of_mem _ hy)]
    rfl
theorem sameN_refl : ∀ (n : Nat) (d : D), okN n d = true → sameN n d d = true
  | 0, _, h => by cases h
  | n + 1, d, h => by
    cases d with
    | list xs =>
      have h2 : xs.all (okN n) = true := by simp only [okN, Bool.and_eq_true] at h; exact h.2
      simp only [sameN, decide_true, Bool.true_and]
      exact allZ_refl fun x hx => sameN_refl n x (List.all_eq_true.mp h2 x hx)
    | tup xs =>
      have h2 : xs.all (okN n) = true := by simp only [okN, Bool.and_eq_true] at h; exact h.2
      simp only [sameN, decide_true, Bool.true_and]
      exact allZ_refl fun x hx => sameN_refl n x (List.all_eq_true.mp h2 x hx)
    | obj _ _ _ => cases h
    | exc _ _ _ => cases h
    | cau _ _ _ _ _ => cases h
    | raw _ => cases h
    | seq _ => cases h
    | fob _ => cases h
    | dict _ _ => cases h
    | non => rfl
    | _ => simp [sameN]
section
variable {P : Program} {w : World} {K : PySem.W.Frag} {mg : Str → Option Value} {base : Heap}
def preSame (n : Nat) (_ : Ml) (as : List D) : Prop := ∃ a b, as = [a, b] ∧ okN n a = true ∧ okN n b = true
def postSame (n : Nat) (as : List D) (r : D) : Prop := ∀ a b, as = [a, b] → r = .bl (sameN n a b)
theorem fn_never {f : Addr} {fd : FuncData} {ps : List Str} {k : Nat} {pre : Ml → List D → Prop} {post : List D → D → Prop} (h : ∀ M as, ¬ pre M as) : FnOk P w K mg base CX0 k f fd ps (spF K pre post) :=
  ⟨fun vs H Q E ⟨M, _, as, _, _, hp, _⟩ => (h M as hp).elim, fun A outer s H args us vs Q E _ _ _ _ ⟨M, _, as, _, _, hp, _⟩ => (h M as hp).elim⟩
theorem ok_same (T : Tx K mg) : ∀ n, FnOk P w K mg base CX0 n T.f__law_like T.fd__law_like ["_law_found", "_law_due"] (spF K (preSame n) (postSame n))
  | 0 => fn_never fun M as ⟨a, b, _, h, _⟩ => by cases h
  | n + 1 => by
    have G_Llike := ok_same T n
    have B_Llike : Binds K T.fd__law_like ["_law_found", "_law_due"] [] := T.F__law_like.binds fun _ _ _ _ _ _ us hl => match us, hl with | [_, _], _ => rfl
    refine fn_run T.F__law_like sc_Llike (fun M as ⟨a, b, e, _⟩ => by rw [e]; rfl) (fun cdv A outer s H E hr => ⟨_, (pss_cons (ps_if (PW.pt (pw_or (pt_cmpR op_isN (pv 1) pe_non (nomark _)) (pw_or1 (pt_cmpR op_isN (pv 0) pe_non (nomark _))))) (pss_one (ps_ret (pe_and (pe_cmpR op_isN (pv 1) pe_non (nomark _)) (pe_one (pe_cmpR op_isN (pv 0) pe_non (nomark _)))))) pss_nil)
  (pss_cons (ps_if (pt_val (pe_callB (q_isiT (K := K)) (by rfl) T.b_isinstance bt_isinstance (pa_cons (pv 1) (pa_cons (pe_tup (pa_cons (pe_ty bt_list T.b_list) (pa_cons (pe_ty bt_tuple T.b_tuple) pa_nil))) pa_nil)))) (pss_cons (ps_if (PW.pt (pw_or (pt_cmpR op_ne (pe_callB (q_isi (K := K)) (by rfl) T.b_isinstance bt_isinstance (pa_cons (pv 0) (pa_cons (pe_ty bt_list T.b_list) pa_nil))) (pe_callB (q_isi (K := K)) (by rfl) T.b_isinstance bt_isinstance (pa_cons (pv 1) (pa_cons (pe_ty bt_list T.b_list) pa_nil))) (nomark _)) (pw_or1 (pt_cmpR op_ne (pe_callB (q_isi (K := K)) (by rfl) T.b_isinstance bt_isinstance (pa_cons (pv 0) (pa_cons (pe_ty bt_tuple T.b_tuple) pa_nil))) (pe_callB (q_isi (K := K)) (by rfl) T.b_isinstance bt_isinstance (pa_cons (pv 1) (pa_cons (pe_ty bt_tuple T.b_tuple) pa_nil))) (nomark _))))) (pss_one (ps_ret pe_bl)) pss_nil)
    (pss_one (ps_ret (pe_and (pe_cmpR op_eq (pe_callB (q_len (K := K)) (by rfl) T.b_len bt_len (pa_cons (pv 0) pa_nil)) (pe_callB (q_len (K := K)) (by rfl) T.b_len bt_len (pa_cons (pv 1) pa_nil)) (nomark _)) (pe_one (pe_callB (q_all (K := K)) (by rfl) T.b_all bt_all (pa_cons (pe_lc (own := [("_law_a", 2), ("_law_b", 3)]) (g := (gTup K 2 (gCons (gName 2) (gCons (gName 3) gNil)))) (tt := tYes) (by rfl) sc_Llike.nd (q_zip (K := K) T.b_zip (pa_cons (pv 0) (pa_cons (pv 1) pa_nil))) (blkOk_by (own := [("_law_a", 2), ("_law_b", 3)]) (N := n_Llike) (sc := defScope s_Llike) (by decide +kernel)) (fun _ _ _ _ _ => (q_tup (K := K) (n := 2) rfl (pgs_cons (pg_name (i := 2) sc_Llike.nd rfl (Or.inl rfl)) (pgs_cons (pg_name (i := 3) sc_Llike.nd rfl (Or.inl rfl)) pgs_nil)))) (fun _ _ _ _ _ => pts_nil) (fun _ _ _ _ _ => (pe_call G_Llike hr (by rfl) T.m__law_like T.F__law_like.kp B_Llike .nil pass0 (pa_cons (pv 2) (pa_cons (pv 3) pa_nil))))) pa_nil))))))) pss_nil)
  (pss_cons (ps_if (PW.pt (pw_or (pt_cmpR op_ne (pe_callB (q_isi (K := K)) (by rfl) T.b_isinstance bt_isinstance (pa_cons (pv 1) (pa_cons (pe_ty bt_bool T.b_bool) pa_nil))) (pe_callB (q_isi (K := K)) (by rfl) T.b_isinstance bt_isinstance (pa_cons (pv 0) (pa_cons (pe_ty bt_bool T.b_bool) pa_nil))) (nomark _)) (pw_or1 (pt_cmpR op_ne (pe_callB (q_isi (K := K)) (by rfl) T.b_isinstance bt_isinstance (pa_cons (pv 1) (pa_cons (pe_ty bt_int T.b_int) pa_nil))) (pe_callB (q_isi (K := K)) (by rfl) T.b_isinstance bt_isinstance (pa_cons (pv 0) (pa_cons (pe_ty bt_int T.b_int) pa_nil))) (nomark _))))) (pss_one (ps_ret pe_bl)) pss_nil)
  (pss_one (ps_ret (pe_and (pe_cmpR op_eq (pe_callB (q_isi (K := K)) (by rfl) T.b_isinstance bt_isinstance (pa_cons (pv 0) (pa_cons (pe_ty bt_str T.b_str) pa_nil))) (pe_callB (q_isi (K := K)) (by rfl) T.b_isinstance bt_isinstance (pa_cons (pv 1) (pa_cons (pe_ty bt_str T.b_str) pa_nil))) (nomark _)) (pe_one (pe_cmpR op_eq (pv 0) (pv 1) (nomark _))))))))), fun M as ⟨a, b, e, ha, hb⟩ => ?_⟩)
    subst e
    show Rg.Run K M [some a, some b, none, none] _ _
    have key : ∀ c : Bool, c = sameN (n + 1) a b → postSame (n + 1) [a, b] (.bl c) := fun c hc a' b' e => by cases e; rw [hc]
    have seq : ∀ xs ys : List D, ((a = .list xs ∧ b = .list ys) ∨ (a = .tup xs ∧ b = .tup ys)) → Ev K M [some a, some b, none, none]
        (tAndV (tOp rEq (tCB (fun xs H Q => ∃ x n, xs = [x] ∧ LenV K x H n ∧ Q (V.int (n : Nat)) H) (tCons (tVar 0) tNil)) (tCB (fun xs H Q => ∃ x n, xs = [x] ∧ LenV K x H n ∧ Q (V.int (n : Nat)) H) (tCons (tVar 1) tNil)))
          (tCB (rAll K) (tCons (tLc (iZipA K (tCons (tVar 0) (tCons (tVar 1) tNil))) (gTup K 2 (gCons (gName 2) (gCons (gName 3) gNil))) tYes (tCall (spF K (preSame n) (postSame n)) [] E0 (tCons (tVar 2) (tCons (tVar 3) tNil))) [2, 3]) tNil)))
        (· = .bl (decide ((xs.length : Int) = ys.length) && allZ (sameN n) xs ys)) := fun xs ys hxy => by
      have hx : okN (n + 1) (.list xs) = true := by rcases hxy with ⟨rfl, _⟩ | ⟨rfl, _⟩ <;> exact ha
      have hy : okN (n + 1) (.list ys) = true := by rcases hxy with ⟨_, rfl⟩ | ⟨_, rfl⟩ <;> exact hb
      simp only [okN, Bool.and_eq_true, decide_eq_true_eq] at hx hy
      refine ev_andB ?_ fun _ => ?_
      · rcases hxy with ⟨rfl, rfl⟩ | ⟨rfl, rfl⟩ <;> walk_at "ev"
      · have hz : zipD xs ys = (xs.zip ys).map fun p => D.tup [p.1, p.2] := rfl
        apply ev_cb1
        · apply ea1
          · refine ev_lcM (cs := xs.zip ys) (inj := fun p => D.tup [p.1, p.2]) (f := fun p => .bl (sameN n p.1 p.2)) (ei_zip (ea1 (ev_var rfl) (ea1 (ev_var rfl) ea_nil)) hxy) (by rw [List.length_zip]; omega) fun c hc => ?_
            refine eg_tup (egs_cons (egs_cons (egs_nil ?_)))
            refine (ev_call1 (ea1 (ev_var rfl) (ea1 (ev_var rfl) ea_nil)) fun _ _ => ⟨c.1, c.2, rfl, ?_, ?_⟩).weak fun r q => q c.1 c.2 rfl
            · exact List.all_eq_true.mp hx.2 _ (List.of_mem_zip hc).1
            · exact List.all_eq_true.mp hy.2 _ (List.of_mem_zip hc).2
          · exact ea_nil
        · rw [show ((xs.zip ys).map fun p => D.bl (sameN n p.1 p.2)) = ((xs.zip ys).map fun p => sameN n p.1 p.2).map D.bl by rw [List.map_map]; rfl,
            show allZ (sameN n) xs ys = ((xs.zip ys).map fun p => sameN n p.1 p.2).all id by rw [List.all_map]; rfl]
          exact cd_all
    cases b with
    | obj _ _ _ => cases hb
    | exc _ _ _ => cases hb
    | cau _ _ _ _ _ => cases hb
    | raw _ => cases hb
    | seq _ => cases hb
    | fob _ => cases hb
    | dict _ _ => cases hb
    | non =>
      cases a with
      | obj _ _ _ => cases ha
      | exc _ _ _ => cases ha
      | cau _ _ _ _ _ => cases ha
      | raw _ => cases ha
      | seq _ => cases ha
      | fob _ => cases ha
      | dict _ _ => cases ha
      | _ =>
        refine run_seq ?_
        apply run_ifT
        · walk_at "et"
        · rfl
        · apply run_ret1
          · walk_at "ev"
          · exact key _ rfl
    | list ys =>
      cases a with
      | obj _ _ _ => cases ha
      | exc _ _ _ => cases ha
      | cau _ _ _ _ _ => cases ha
      | raw _ => cases ha
      | seq _ => cases ha
      | fob _ => cases ha
      | dict _ _ => cases ha
      | non =>
        refine run_seq ?_
        apply run_ifT
        · walk_at "et"
        · rfl
        · apply run_ret1
          · walk_at "ev"
          · exact key _ rfl
      | list xs =>
        refine run_seq ?_
        apply run_ifF
        · walk_at "et"
        · rfl
        refine run_next (run_seq ?_)
        apply run_ifT
        · walk_at "et"
        · rfl
        refine run_seq ?_
        apply run_ifF
        · walk_at "et"
        · rfl
        exact run_next (run_ret1 (seq xs ys (.inl ⟨rfl, rfl⟩)) (key _ rfl))
      | _ =>
        refine run_seq ?_
        apply run_ifF
        · walk_at "et"
        · rfl
        refine run_next (run_seq ?_)
        apply run_ifT
        · walk_at "et"
        · rfl
        refine run_seq ?_
        apply run_ifT
        · walk_at "et"
        · rfl
        exact run_ret1 ev_cbl (key _ rfl)
    | tup ys =>
      cases a with
      | obj _ _ _ => cases ha
      | exc _ _ _ => cases ha
      | cau _ _ _ _ _ => cases ha
      | raw _ => cases ha
      | seq _ => cases ha
      | fob _ => cases ha
      | dict _ _ => cases ha
      | non =>
        refine run_seq ?_
        apply run_ifT
        · walk_at "et"
        · rfl
        · apply run_ret1
          · walk_at "ev"
          · exact key _ rfl
      | tup xs =>
        refine run_seq ?_
        apply run_ifF
        · walk_at "et"
        · rfl
        refine run_next (run_seq ?_)
        apply run_ifT
        · walk_at "et"
        · rfl
        refine run_seq ?_
        apply run_ifF
        · walk_at "et"
        · rfl
        exact run_next (run_ret1 (seq xs ys (.inr ⟨rfl, rfl⟩)) (key _ rfl))
      | _ =>
        refine run_seq ?_
        apply run_ifF
        · walk_at "et"
        · rfl
        refine run_next (run_seq ?_)
        apply run_ifT
        · walk_at "et"
        · rfl
        refine run_seq ?_
        apply run_ifT
        · walk_at "et"
        · rfl
        exact run_ret1 ev_cbl (key _ rfl)
    | _ =>
      cases a with
      | obj _ _ _ => cases ha
      | exc _ _ _ => cases ha
      | cau _ _ _ _ _ => cases ha
      | raw _ => cases ha
      | seq _ => cases ha
      | fob _ => cases ha
      | dict _ _ => cases ha
      | non =>
        refine run_seq ?_
        apply run_ifT
        · walk_at "et"
        · rfl
        · apply run_ret1
          · walk_at "ev"
          · exact key _ rfl
      | _ =>
        refine run_seq ?_
        apply run_ifF
        · walk_at "et"
        · rfl
        refine run_next (run_seq ?_)
        apply run_ifF
        · walk_at "et"
        · rfl
        refine run_next (run_seq ?_)
        first
        | (apply run_ifT
           · walk_at "et"
           · rfl
           exact run_ret1 ev_cbl (key _ rfl))
        | (apply run_ifF
           · walk_at "et"
           · rfl
           refine run_next ?_
           apply run_ret1
           · walk_at "ev"
           · exact key _ rfl)
end
end L43
namespace L43
open PySem L2 Rg RZ PyProof.Rows
local macro_rules | `(tactic| walk_at "ev") => `(tactic| first
  | with_reducible assumption
  | ((with_reducible apply ev_var); exact rfl)
  | with_reducible exact ev_cint
  | with_reducible exact ev_cbl
  | with_reducible exact ev_cnon
  | with_reducible exact ev_cstr
  | ((with_reducible apply ev_c); with_reducible assumption)
  | with_reducible exact ev_craw
  | ((with_reducible apply ev_tup1); walk_at "ea"; exact Nat.le_of_ble_eq_true rfl)
  | ((with_reducible apply ev_lst1); walk_at "ea"; exact Nat.le_of_ble_eq_true rfl)
  | ((with_reducible apply ev_op1); walk_at "ev"; walk_at "ev"; walk_at "od")
  | ((with_reducible apply ev_un1); walk_at "ev"; exact ud_neg)
  | ((with_reducible apply ev_isSeq); walk_at "ev"; walk_at "ea"; exact rfl; exact rfl)
  | ((with_reducible apply ev_cb1); walk_at "ea"; walk_at "cd")
  | ((with_reducible apply ev_chainB); walk_at "ev"; walk_at "ev"; walk_at "od"; walk_at "ev"; walk_at "od")
  | ((with_reducible apply ev_andF); walk_at "ev"; exact rfl)
  | ((with_reducible apply ev_andT); walk_at "ev"; exact rfl; walk_at "ev")
  | ((with_reducible apply ev_andB); walk_at "ev"; intro _; walk_at "ev")
  | ((with_reducible apply ev_orT); walk_at "ev"; exact rfl)
  | ((with_reducible apply ev_orF); walk_at "ev"; exact rfl; walk_at "ev")
  | ((with_reducible apply ev_orB); walk_at "ev"; intro _; walk_at "ev")
  | ((with_reducible apply ev_notV); walk_at "ev"))
local macro_rules | `(tactic| walk_at "et") => `(tactic| first
  | ((with_reducible apply et_B); walk_at "ev")
  | ((with_reducible apply et_test); walk_at "ev")
  | ((with_reducible apply et_not); walk_at "et")
  | ((with_reducible apply et_orT); walk_at "et"; exact rfl)
  | ((with_reducible apply et_orF); walk_at "et"; exact rfl; walk_at "et")
  | ((with_reducible apply et_or); walk_at "et"; intro _; walk_at "et")
  | ((with_reducible apply et_andF); walk_at "et"; exact rfl)
  | ((with_reducible apply et_andT); walk_at "et"; exact rfl; walk_at "et")
  | ((with_reducible apply et_and); walk_at "et"; intro _; walk_at "et"))
local macro_rules | `(tactic| walk_at "ea") => `(tactic| first
  | with_reducible exact ea_nil
  | ((with_reducible apply ea1); walk_at "ev"; walk_at "ea"))
local macro_rules | `(tactic| walk_at "od") => `(tactic| first
  | with_reducible exact od_addI
  | with_reducible exact od_subI
  | ((with_reducible apply od_addS); (try simp only [PySem.Str.length_append]); omega)
  | ((with_reducible apply od_catL); exact Nat.le_of_ble_eq_true rfl)
  | ((with_reducible apply od_modI); first | decide | omega)
  | ((with_reducible apply od_mulI); first | (exact Or.inr ⟨by decide, by decide⟩) | (exact Or.inl ⟨by decide, by decide⟩) | (exact Or.inl ⟨by omega, by omega⟩) | (exact Or.inr ⟨by omega, by omega⟩))
  | ((with_reducible apply od_divI); first | (exact ⟨by decide, by decide⟩) | (exact ⟨by omega, by omega⟩))
  | ((with_reducible apply od_powI); exact ⟨by decide, by decide, by decide⟩)
  | with_reducible exact od_leI
  | with_reducible exact od_ltI
  | with_reducible exact od_gtI
  | with_reducible exact od_geI
  | with_reducible exact od_eqI
  | with_reducible exact od_eqB
  | with_reducible exact od_neB
  | with_reducible exact od_neI
  | with_reducible exact od_eqS
  | with_reducible exact od_inS
  | ((with_reducible apply od_none); exact rfl)
  | ((with_reducible apply od_ix); exact rfl))
local macro_rules | `(tactic| walk_at "cd") => `(tactic| first
  | ((with_reducible apply cd_isStr); exact rfl)
  | ((with_reducible apply cd_isInt); exact rfl)
  | ((with_reducible apply cd_isBool); exact rfl)
  | ((with_reducible apply cd_isList); exact rfl)
  | ((with_reducible apply cd_isTuple); exact rfl)
  | ((with_reducible apply cd_isi); assumption)
  | ((with_reducible apply cd_len); assumption)
  | ((with_reducible apply cd_len); exact rfl)
  | with_reducible exact cd_intI
  | with_reducible exact cd_listof
  | ((with_reducible apply cd_str); assumption)
  | with_reducible exact cd_all)
local macro_rules | `(tactic| walk_at "px") => `(tactic| first
  | ((with_reducible apply px_var); exact rfl)
  | with_reducible exact px_c
  | ((with_reducible apply px_op); walk_at "px"; walk_at "px"; walk_at "pr")
  | ((with_reducible apply px_cb); walk_at "pa"; walk_at "pr")
  | ((with_reducible apply px_test); walk_at "px")
  | ((with_reducible apply px_B); walk_at "px")
  | ((with_reducible apply px_and); walk_at "px"; walk_at "px"))
local macro_rules | `(tactic| walk_at "pa") => `(tactic| first
  | with_reducible exact px_nil
  | ((with_reducible apply px_cons); walk_at "px"; walk_at "pa"))
local macro_rules | `(tactic| walk_at "pr") => `(tactic| first
  | exact px_addI
  | (apply px_ix; assumption; exact rfl)
  | (apply px_ix; assumption; assumption)
  | exact px_eqI
  | exact fun Q q => ⟨_, _, rfl, rfl, q⟩
  | exact fun Q q => ⟨_, _, rfl, rfl, (Or.inr ⟨by decide, by decide⟩), q⟩
  | exact fun Q q => ⟨_, _, rfl, rfl, (Or.inl ⟨by omega, by omega⟩), q⟩
  | exact fun Q q => ⟨_, _, rfl, rfl, (Or.inr ⟨by omega, by omega⟩), q⟩
  | exact fun Q q => ⟨_, _, rfl, rfl, ⟨by decide, by decide⟩, q⟩
  | exact fun Q q => ⟨_, _, rfl, rfl, ⟨by omega, by omega⟩, q⟩
  | exact fun Q q => ⟨_, _, rfl, rfl, ⟨by decide, by decide, by decide⟩, q⟩
  | exact fun Q q => ⟨_, _, rfl, rfl, (by decide), q⟩
  | exact fun Q q => ⟨_, _, rfl, rfl, (by omega), q⟩
  | (apply px_len; assumption)
  | exact px_intI
  | exact px_abs)
local macro_rules | `(tactic| walk_at "fg") => `(tactic| repeat first | exact Fg.nil | apply Fg.keep | apply Fg.drop)
section
variable {P : Program} {w : World} {K : PySem.W.Frag} {mg : Str → Option Value} {base : Heap}
theorem ok_draw (T : Tx K mg) : FnOk P w K mg base CX0 1 T.f__law_pull T.fd__law_pull ["_law_bag_here", "_law_many"] (spF K (preDraw K) postDraw) := by
  refine T.F__law_pull.ok sc_Lpull (fun vs H Q E h => ?_) (fun cdv A outer s H vs Q E hr h => ?_)
  · obtain ⟨b, m, c, ns, i, r, mx, n, rfl, _⟩ := draw_of h
    rfl
  · obtain ⟨b, m, c, ns, i, r, mx, n, rfl, h0, h1, hb, hc, ne, hl, i0, r0, m0, m1, q⟩ := draw_of h
    refine ⟨_, (pss_cons (ps_if (PW.pt (pw_and (pt_cmpR op_eq (pe_ix (q_ix (K := K)) (pv 0) pe_int (fun _ _ => rfl)) pe_int (nomark _)) (pw_and1 (pt_cmpR op_lt (pe_ix (q_ix (K := K)) (pv 0) pe_int (fun _ _ => rfl)) (pe_callB (q_len (K := K)) (by rfl) T.b_len bt_len (pa_cons (pe_ix (q_ix (K := K)) (pv 0) pe_int (fun _ _ => rfl)) pa_nil)) (nomark _))))) (pss_cons (ps_set (i := 2) sc_Lpull.nd rfl (Or.inl rfl) (pe_callTy call_int1 (by rfl) T.b_int bt_int (pa_cons (pe_ix (q_ix (K := K)) (pe_ix (q_ix (K := K)) (pv 0) pe_int (fun _ _ => rfl)) (pe_ix (q_ix (K := K)) (pv 0) pe_int (fun _ _ => rfl)) (fun _ _ => rfl)) pa_nil)))
    (pss_cons (ps_asg (pe_op (q_add (K := K)) (pe_ix (q_ix (K := K)) (pv 0) pe_int (fun _ _ => rfl)) pe_int) (pg_sub (pv 0) pe_int set_list))
    (pss_one (ps_if (pt_cmpR op_ge (pe_callB call_abs (by rfl) T.b_abs bt_abs (pa_cons (pv 2) pa_nil)) (pe_op op_pow pe_int pe_int) (nomark _)) (pss_one (ps_asg (pe_callB call_abs (by rfl) T.b_abs bt_abs (pa_cons (pv 2) pa_nil)) (pg_sub (pv 0) pe_int set_list))) (pss_one (ps_asg (pe_op op_modN (pe_callTy call_int1 (by rfl) T.b_int bt_int (pa_cons (pe_op (q_add (K := K)) (pe_op (q_add (K := K)) (pe_op op_mul (pe_ix (q_ix (K := K)) (pv 0) pe_int (fun _ _ => rfl)) pe_int) (pe_op op_mul (pe_op op_modN (pe_callTy call_int1 (by rfl) T.b_int bt_int (pa_cons (pv 2) pa_nil)) pe_int) pe_int)) pe_int) pa_nil)) pe_int) (pg_sub (pv 0) pe_int set_list))))))) pss_nil)
  (pss_cons (ps_if (pt_cmpR op_gt (pe_ix (q_ix (K := K)) (pv 0) pe_int (fun _ _ => rfl)) pe_int (nomark _)) (pss_cons (ps_set (i := 3) sc_Lpull.nd rfl (Or.inl rfl) (pe_op op_modN (pe_callTy call_int1 (by rfl) T.b_int bt_int (pa_cons (pe_ix (q_ix (K := K)) (pv 0) pe_int (fun _ _ => rfl)) pa_nil)) (pv 1)))
    (pss_cons (ps_asg (pe_op op_fdivN (pe_ix (q_ix (K := K)) (pv 0) pe_int (fun _ _ => rfl)) (pv 1)) (pg_sub (pv 0) pe_int set_list))
    (pss_one (ps_ret (pv 3))))) pss_nil)
  (pss_cons (ps_asg (pe_op (q_add (K := K)) (pe_ix (q_ix (K := K)) (pv 0) pe_int (fun _ _ => rfl)) pe_int) (pg_sub (pv 0) pe_int set_list))
  (pss_cons (ps_set (i := 4) sc_Lpull.nd rfl (Or.inl rfl) (pe_op op_modN (pe_callTy call_int1 (by rfl) T.b_int bt_int (pa_cons (pe_op (q_add (K := K)) (pe_op op_mul (pe_ix (q_ix (K := K)) (pv 0) pe_int (fun _ _ => rfl)) (pe_ix (q_ix (K := K)) (pv 0) pe_int (fun _ _ => rfl))) (pe_op op_mul (pe_ix (q_ix (K := K)) (pv 0) pe_int (fun _ _ => rfl)) pe_int)) pa_nil)) pe_int))
  (pss_cons (ps_asg (pe_op op_modN (pe_callTy call_int1 (by rfl) T.b_int bt_int (pa_cons (pe_op (q_add (K := K)) (pe_op (q_add (K := K)) (pe_op op_mul (pv 4) pe_int) (pe_op op_mul (pe_ix (q_ix (K := K)) (pv 0) pe_int (fun _ _ => rfl)) pe_int)) pe_int) pa_nil)) pe_int) (pg_sub (pv 0) pe_int set_list))
  (pss_one (ps_ret (pe_op op_modN (pe_callTy call_int1 (by rfl) T.b_int bt_int (pa_cons (pe_op op_fdivN (pe_ix (q_ix (K := K)) (pv 0) pe_int (fun _ _ => rfl)) pe_int) pa_nil)) (pv 1))))))))), ?_⟩
    rw [show L2.start n_Lpull [V.ref b, V.int m] = [some (.ref b), some (.int m), none, none, none] from rfl]
    refine at_upd hb ?_
    have hb0 : upd H b (bagL c i r mx n) b = some (bagL c i r mx n) := upd_same
    show tSeq ?fst ?rest ?Z _ _
    have tail : ∀ (x2 : Option V) (i r mx n : Int), 0 ≤ i → 0 ≤ r → 0 ≤ mx → mx < 2147483648 → ?rest ?Z [some (.ref b), some (.int m), x2, none, none] (upd H b (bagL c i r mx n)) := by
      intro x2 i r mx n i0 r0 m0 m1
      have hb1 : upd H b (bagL c i r mx n) b = some (bagL c i r mx n) := upd_same
      refine st_if (c := decide (0 < r)) (by walk_at "px") (fun e => ?_) (fun e => ?_)
      · have hr : 0 < r := of_decide_eq_true e
        refine st_set (v := .int (r.fmod m)) (by walk_at "px") ?_
        refine st_bag (ys := [.ref c, .int i, .int (r.fdiv m), .int mx, .int n]) (v := .int (r.fdiv m)) (k := 2) (j := 2) (by walk_at "px") (by walk_at "px") (by walk_at "px") rfl rfl ?_
        refine st_ret (v := .int (r.fmod m)) (by walk_at "px") ?_
        exact q _ i _ mx n (fmod_bd h0).1 (fmod_bd h0).2 i0 (fdiv_nn r0 h0) m0 m1
      · refine st_next ?_
        dsimp only
        refine st_bag (ys := [.ref c, .int i, .int r, .int mx, .int (n + 1)]) (v := .int (n + 1)) (k := 4) (j := 4) (by walk_at "px") (by walk_at "px") (by walk_at "px") rfl rfl ?_
        have hb3 : upd H b (bagL c i r mx (n + 1)) b = some (bagL c i r mx (n + 1)) := upd_same
        refine st_setE (φ := fun _ => True) ⟨_, by walk_at "px", trivial⟩ fun sd _ => ?_
        refine st_bagE (k := 3) (j := 3) (φ := fun k => 0 ≤ k ∧ k < 2147483648) (f := fun k => [.ref c, .int i, .int r, .int k, .int (n + 1)]) ⟨_, by walk_at "px", fmod_lt (by decide) (by decide)⟩ (by walk_at "px") (by walk_at "px") rfl (fun _ => rfl) fun mx2 hm => ?_
        have hm0 := hm.1
        have hm1 := hm.2
        have hb2 : upd H b (bagL c i r mx2 (n + 1)) b = some (bagL c i r mx2 (n + 1)) := upd_same
        refine st_retE (φ := fun k => 0 ≤ k ∧ k < m) ⟨_, by walk_at "px", fmod_lt h0 (Int.le_refl m)⟩ fun d hd => ?_
        exact q d i r mx2 (n + 1) hd.1 hd.2 i0 r0 hm.1 hm.2
    have hc1 : upd H b (bagL c i r mx n) c = some (HO.lst (List.map V.int ns)) := by rw [upd_ne ne]; exact hc
    refine st_if (c := decide (r = 0) && decide (i < (ns.length : Int))) ?_ (fun e => ?_) (fun e => ?_)
    · rw [show (ns.length : Int) = ((ns.map V.int).length : Nat) by rw [List.length_map]]
      walk_at "px"
    · have e2 : r = 0 ∧ i < (ns.length : Int) := by simpa using e
      have hi : (ns.map V.int)[i.toNat]? = some (.int (ns.getD i.toNat 0)) := by
        rw [List.getElem?_map, List.getElem?_eq_getElem (show i.toNat < ns.length by omega), List.getD_eq_getElem?_getD, List.getElem?_eq_getElem (show i.toNat < ns.length by omega)]
        rfl
      have ha : atI (ns.map V.int) i = some (.int (ns.getD i.toNat 0)) := by
        unfold atI ixN
        rw [List.length_map, if_pos i0, if_pos e2.2]
        exact hi
      generalize ns.getD i.toNat 0 = cell at ha
      refine st_set (v := .int cell) (by walk_at "px") ?_
      refine st_bag (ys := [.ref c, .int (i + 1), .int r, .int mx, .int n]) (v := .int (i + 1)) (k := 1) (j := 1) (by walk_at "px") (by walk_at "px") (by walk_at "px") rfl rfl ?_
      have hb2 : upd H b (bagL c (i + 1) r mx n) b = some (bagL c (i + 1) r mx n) := upd_same
      have hac : 0 ≤ (if cell < 0 then -cell else cell) := by split <;> omega
      refine st_if (c := decide ((10 : Int) ^ (18 : Int).toNat ≤ (if cell < 0 then -cell else cell))) (by walk_at "px") (fun e => ?_) (fun e => ?_)
      · refine st_bagN (ys := [.ref c, .int (i + 1), .int (if cell < 0 then -cell else cell), .int mx, .int n]) (v := .int (if cell < 0 then -cell else cell)) (k := 2) (j := 2) (by walk_at "px") (by walk_at "px") (by walk_at "px") rfl rfl ?_
        exact tail _ (i + 1) _ mx n (by omega) hac m0 m1
      · refine st_bagNE (k := 3) (j := 3) (φ := fun k => 0 ≤ k ∧ k < 2147483648) (f := fun k => [.ref c, .int (i + 1), .int r, .int k, .int n]) ⟨_, by walk_at "px", fmod_lt (by decide) (by decide)⟩ (by walk_at "px") (by walk_at "px") rfl (fun _ => rfl) fun mx2 hm => ?_
        exact tail _ (i + 1) r mx2 n (by omega) r0 hm.1 hm.2
    · exact tail none i r mx n i0 r0 m0 m1
end
end L43
namespace L43
open PySem L2 Rg RZ PyProof.Rows
local macro_rules | `(tactic| walk_at "ev") => `(tactic| first
  | with_reducible assumption
  | ((with_reducible apply ev_var); exact rfl)
  | with_reducible exact ev_cint
  | with_reducible exact ev_cbl
  | with_reducible exact ev_cnon
  | with_reducible exact ev_cstr
  | ((with_reducible apply ev_c); with_reducible assumption)
  | with_reducible exact ev_craw
  | ((with_reducible apply ev_tup1); walk_at "ea"; exact Nat.le_of_ble_eq_true rfl)
  | ((with_reducible apply ev_lst1); walk_at "ea"; exact Nat.le_of_ble_eq_true rfl)
  | ((with_reducible apply ev_op1); walk_at "ev"; walk_at "ev"; walk_at "od")
  | ((with_reducible apply ev_un1); walk_at "ev"; exact ud_neg)
  | ((with_reducible apply ev_isSeq); walk_at "ev"; walk_at "ea"; exact rfl; exact rfl)
  | ((with_reducible apply ev_cb1); walk_at "ea"; walk_at "cd")
  | ((with_reducible apply ev_chainB); walk_at "ev"; walk_at "ev"; walk_at "od"; walk_at "ev"; walk_at "od")
  | ((with_reducible apply ev_andF); walk_at "ev"; exact rfl)
  | ((with_reducible apply ev_andT); walk_at "ev"; exact rfl; walk_at "ev")
  | ((with_reducible apply ev_andB); walk_at "ev"; intro _; walk_at "ev")
  | ((with_reducible apply ev_orT); walk_at "ev"; exact rfl)
  | ((with_reducible apply ev_orF); walk_at "ev"; exact rfl; walk_at "ev")
  | ((with_reducible apply ev_orB); walk_at "ev"; intro _; walk_at "ev")
  | ((with_reducible apply ev_notV); walk_at "ev"))
local macro_rules | `(tactic| walk_at "et") => `(tactic| first
  | ((with_reducible apply et_B); walk_at "ev")
  | ((with_reducible apply et_test); walk_at "ev")
  | ((with_reducible apply et_not); walk_at "et")
  | ((with_reducible apply et_orT); walk_at "et"; exact rfl)
  | ((with_reducible apply et_orF); walk_at "et"; exact rfl; walk_at "et")
  | ((with_reducible apply et_or); walk_at "et"; intro _; walk_at "et")
  | ((with_reducible apply et_andF); walk_at "et"; exact rfl)
  | ((with_reducible apply et_andT); walk_at "et"; exact rfl; walk_at "et")
  | ((with_reducible apply et_and); walk_at "et"; intro _; walk_at "et"))
local macro_rules | `(tactic| walk_at "ea") => `(tactic| first
  | with_reducible exact ea_nil
  | ((with_reducible apply ea1); walk_at "ev"; walk_at "ea"))
local macro_rules | `(tactic| walk_at "od") => `(tactic| first
  | with_reducible exact od_addI
  | with_reducible exact od_subI
  | ((with_reducible apply od_addS); (try simp only [PySem.Str.length_append]); omega)
  | ((with_reducible apply od_catL); exact Nat.le_of_ble_eq_true rfl)
  | ((with_reducible apply od_modI); first | decide | omega)
  | ((with_reducible apply od_mulI); first | (exact Or.inr ⟨by decide, by decide⟩) | (exact Or.inl ⟨by decide, by decide⟩) | (exact Or.inl ⟨by omega, by omega⟩) | (exact Or.inr ⟨by omega, by omega⟩))
  | ((with_reducible apply od_divI); first | (exact ⟨by decide, by decide⟩) | (exact ⟨by omega, by omega⟩))
  | ((with_reducible apply od_powI); exact ⟨by decide, by decide, by decide⟩)
  | with_reducible exact od_leI
  | with_reducible exact od_ltI
  | with_reducible exact od_gtI
  | with_reducible exact od_geI
  | with_reducible exact od_eqI
  | with_reducible exact od_eqB
  | with_reducible exact od_neB
  | with_reducible exact od_neI
  | with_reducible exact od_eqS
  | with_reducible exact od_inS
  | ((with_reducible apply od_none); exact rfl)
  | ((with_reducible apply od_ix); exact rfl))
local macro_rules | `(tactic| walk_at "cd") => `(tactic| first
  | ((with_reducible apply cd_isStr); exact rfl)
  | ((with_reducible apply cd_isInt); exact rfl)
  | ((with_reducible apply cd_isBool); exact rfl)
  | ((with_reducible apply cd_isList); exact rfl)
  | ((with_reducible apply cd_isTuple); exact rfl)
  | ((with_reducible apply cd_isi); assumption)
  | ((with_reducible apply cd_len); assumption)
  | ((with_reducible apply cd_len); exact rfl)
  | with_reducible exact cd_intI
  | with_reducible exact cd_listof
  | ((with_reducible apply cd_str); assumption)
  | with_reducible exact cd_all)
local macro_rules | `(tactic| walk_at "px") => `(tactic| first
  | ((with_reducible apply px_var); exact rfl)
  | with_reducible exact px_c
  | ((with_reducible apply px_op); walk_at "px"; walk_at "px"; walk_at "pr")
  | ((with_reducible apply px_cb); walk_at "pa"; walk_at "pr")
  | ((with_reducible apply px_test); walk_at "px")
  | ((with_reducible apply px_B); walk_at "px")
  | ((with_reducible apply px_and); walk_at "px"; walk_at "px"))
local macro_rules | `(tactic| walk_at "pa") => `(tactic| first
  | with_reducible exact px_nil
  | ((with_reducible apply px_cons); walk_at "px"; walk_at "pa"))
local macro_rules | `(tactic| walk_at "pr") => `(tactic| first
  | exact px_addI
  | (apply px_ix; assumption; exact rfl)
  | (apply px_ix; assumption; assumption)
  | exact px_eqI
  | exact fun Q q => ⟨_, _, rfl, rfl, q⟩
  | exact fun Q q => ⟨_, _, rfl, rfl, (Or.inr ⟨by decide, by decide⟩), q⟩
  | exact fun Q q => ⟨_, _, rfl, rfl, (Or.inl ⟨by omega, by omega⟩), q⟩
  | exact fun Q q => ⟨_, _, rfl, rfl, (Or.inr ⟨by omega, by omega⟩), q⟩
  | exact fun Q q => ⟨_, _, rfl, rfl, ⟨by decide, by decide⟩, q⟩
  | exact fun Q q => ⟨_, _, rfl, rfl, ⟨by omega, by omega⟩, q⟩
  | exact fun Q q => ⟨_, _, rfl, rfl, ⟨by decide, by decide, by decide⟩, q⟩
  | exact fun Q q => ⟨_, _, rfl, rfl, (by decide), q⟩
  | exact fun Q q => ⟨_, _, rfl, rfl, (by omega), q⟩
  | (apply px_len; assumption)
  | exact px_intI
  | exact px_abs)
local macro_rules | `(tactic| walk_at "fg") => `(tactic| repeat first | exact Fg.nil | apply Fg.keep | apply Fg.drop)
def isT0 : Hp → HO → Prop := fun _ o => o = .tbl #[]
abbrev tabL (l : List Addr) : Ml := l.map fun t => (t, isT0)
def spBag (K : PySem.W.Frag) : Sp := fun vs H Q _ => ∃ (a : Addr) (ns : List Int) (l : List Addr), vs = [.ref a] ∧ SqL K H a (ns.map V.int) ∧ ns.length ≤ 63 ∧ l.Nodup ∧ (∀ t ∈ l, H t = some (.tbl #[])) ∧ ∀ b G' H', Wd0 ((b, IsBag K) :: tabL l) G' H' → Q (.ref b) H'
theorem tab_mem {l : List Addr} {m : Addr × (Hp → HO → Prop)} (h : m ∈ tabL l) : ∃ t ∈ l, m = (t, isT0) := by
  obtain ⟨t, ht, e⟩ := List.mem_map.mp h
  exact ⟨t, ht, e.symm⟩
theorem tab_nd {l : List Addr} (h : l.Nodup) : ((tabL l).map (·.1)).Nodup := by
  rw [List.map_map]
  have e : ((fun x : Addr × (Hp → HO → Prop) => x.1) ∘ fun t => (t, isT0)) = id := rfl
  rw [e, List.map_id]
  exact h
/-- what stands for ever may change again, where nothing else is told -/
theorem thaw {G H : Hp} {p : Addr} {o : HO} {φ : Hp → HO → Prop} {l : List Addr} (w : Wd0 (tabL l) G H) (e : G p = some o) (f : φ (fun a => if a = p then none else G a) o) (mo : ∀ G1 G2 o, Same G1 G2 → φ G1 o → φ G2 o) : Wd0 ((p, φ) :: tabL l) (fun a => if a = p then none else G a) H := by
  refine ⟨fun a u h => ?_, fun m hm => ?_, fun m hm => ?_, ?_⟩
  · replace h : (if a = p then none else G a) = some u := h
    split at h
    · cases h
    · exact w.sub a u h
  · rcases List.mem_cons.mp hm with rfl | hm
    · exact ⟨if_pos rfl, o, w.sub _ _ e, f⟩
    · obtain ⟨g, u, hu, f⟩ := w.mt m hm
      obtain ⟨t, ht, rfl⟩ := tab_mem hm
      refine ⟨?_, u, hu, f⟩
      show (if t = p then none else G t) = none
      split
      · rfl
      · exact g
  · rcases List.mem_cons.mp hm with rfl | hm
    · exact mo
    · exact w.mono m hm
  · rw [List.map_cons, List.nodup_cons]
    refine ⟨fun h => ?_, w.nd⟩
    obtain ⟨m, hm, em⟩ := List.mem_map.mp h
    have g := (w.mt m hm).1
    have em : m.1 = p := em
    rw [em, e] at g
    cases g
theorem RpAll.ints_of {K : PySem.W.Frag} {G : Hp} {vs : List V} : ∀ {ds : List D} {ns : List Int}, RpAll K G vs ds → ds = ns.map D.int → vs = ns.map V.int := fun r e => by subst e; exact r.int_inv
theorem cutD_ints (ns : List Int) (h : ns.length ≤ 63) : Rg.cutD (ns.map D.int) none (some 63) = ns.map D.int := by
  unfold Rg.cutD
  rw [HT.sIx_none, List.drop_zero, List.length_map]
  apply List.take_of_length_le
  rw [List.length_map]
  have : HT.sIx ns.length ns.length (some 63) = min 63 ns.length := HT.sIx_nat ns.length ns.length 63
  omega
section
variable {P : Program} {w : World} {K : PySem.W.Frag} {mg : Str → Option Value} {base : Heap}
theorem ok_bag (T : Tx K mg) : FnOk P w K mg base CX0 1 T.f__law_bag T.fd__law_bag ["_law_script"] (spBag K) := by
  refine T.F__law_bag.ok sc_Lbag (fun vs H Q E h => ?_) (fun cdv A outer s H vs Q E hr h => ?_)
  · obtain ⟨a, ns, l, rfl, _⟩ := h
    rfl
  · obtain ⟨a, ns, l, rfl, hS, hl, hnd, htb, q⟩ := h
    refine ⟨_, (pss_one (ps_ret (pe_lst (pa_cons (pe_callTy (q_listof (K := K)) (by rfl) T.b_list bt_list (pa_cons (pe_slice (q_sl (K := K)) (pv 0) po_none (po_some pe_int)) pa_nil)) (pa_cons pe_int (pa_cons pe_int (pa_cons (pe_op (q_add (K := K)) pe_int (pe_op op_mul pe_int (pe_callB (q_len (K := K)) (by rfl) T.b_len bt_len (pa_cons (pe_slice (q_sl (K := K)) (pv 0) po_none (po_some pe_int)) pa_nil)))) (pa_cons pe_int pa_nil)))))))), ?_⟩
    rw [show L2.start n_Lbag [V.ref a] = [some (.ref a)] from rfl]
    let G0 : Hp := fun x => if x ∈ l then none else H x
    have out : ∀ {x u}, H x = some u → (∀ z, u ≠ .tbl z) → G0 x = some u := fun {x u} h n => by
      show (if x ∈ l then none else H x) = some u
      rw [if_neg fun hx => by rw [htb x hx] at h; exact n _ (Option.some.inj h).symm]
      exact h
    have hS0 : SqL K G0 a (ns.map V.int) := by
      rcases hS with (h | ⟨o, h⟩) | h
      · exact .inl (.inl (out h fun z e => by cases e))
      · exact .inl (.inr ⟨o, out h fun z e => by cases e⟩)
      · exact .inr h
    have sg : Sg K G0 [some (.ref a)] [some (.seq (ns.map D.int))] := sg_some (.seq hS0 (RpAll.ints ns)) sg_nil
    let mm : Mt := { l := tabL l }
    have wd : Wd mm G0 H := ⟨⟨fun x u h => by
        replace h : (if x ∈ l then none else H x) = some u := h
        split at h
        · cases h
        · exact h, fun p hp => by
        obtain ⟨t, ht, rfl⟩ := tab_mem hp
        exact ⟨if_pos ht, _, htb t ht, rfl⟩, fun p hp => by
        obtain ⟨t, ht, rfl⟩ := tab_mem hp
        exact fun _ _ _ _ h => h, tab_nd hnd⟩, fun _ _ _ _ _ _ z => z.elim⟩
    refine run_at (K := K) (E := { nx := fun _ => False, rt := fun d => ∃ m : Int, 0 ≤ m ∧ m < 2147483648 ∧ d = .list [.list (ns.map D.int), .int 0, .int 0, .int m, .int 0] }) ?_ sg wd ⟨fun _ _ _ _ e => e.elim, fun v d G' H' ⟨m, m0, m1, e⟩ s' r' w' => ?_, fun _ _ _ _ e => e.elim, fun _ _ _ _ e => e.elim⟩
    · have hcut : ∀ ds : DS, ds[0]? = some (some (.seq (ns.map D.int))) → Ev K mm ds (tSl (rSlU K) (tVar 0) tNoPart (tPart (tC (V.int 63)))) (· = .list (ns.map D.int)) := fun ds h => by
        have e2 := ev_slQ (K := K) (M := mm) (ev_var h) eo_none (eo_some (i := 63) ev_cint)
        rw [cutD_ints ns hl] at e2
        exact e2
      have hc := hcut [some (.seq (ns.map D.int))] rfl
      have hn : lenD (.list (ns.map D.int)) = some ns.length := by show some _ = _; rw [List.length_map]
      apply run_ret1
      · walk_at "ev"
      · exact ⟨_, by omega, by omega, rfl⟩
    · subst e
      obtain ⟨b, us, rfl, hb, ru⟩ := r'.list_ex
      cases ru with
      | cons p1 ru =>
        cases ru with
        | cons p2 ru =>
          cases ru with
          | cons p3 ru =>
            cases ru with
            | cons p4 ru =>
              cases ru with
              | cons p5 ru =>
                cases ru
                cases p2; cases p3; cases p4; cases p5
                obtain ⟨c, ws, rfl, hc, rc⟩ := p1.list_ex
                have ew := rc.int_inv
                subst ew
                refine q b _ H' (thaw w'.toWd0 hb ⟨c, ns, 0, 0, m, 0, rfl, ?_, hl, Int.le_refl 0, Int.le_refl 0, m0, m1⟩ IsBag.mono)
                have ne : c ≠ b := fun e => by
                  rw [e, hb] at hc
                  cases ns <;> cases hc
                exact (if_neg ne).trans hc
theorem B_draw (T : Tx K mg) : Binds K T.fd__law_pull ["_law_bag_here", "_law_many"] [] := T.F__law_pull.binds fun _ _ _ _ _ _ us hl => match us, hl with | [_, _], _ => rfl
theorem ok_of (T : Tx K mg) : FnOk P w K mg base CX0 2 T.f__law_of T.fd__law_of ["_law_bag_here", "_law_some"] (spF K (preOf K) postOf) := by
  have G_Lpull := ok_draw (P := P) (w := w) (base := base) T
  have B_Lpull := B_draw T
  refine fn_run T.F__law_of sc_Lof (fun M as ⟨_, _, _, e, _⟩ => by rw [e]; rfl) (fun cdv A outer s H E hr => ⟨_, (pss_one (ps_ret (pe_ix (q_ix (K := K)) (pv 1) (pe_call G_Lpull (hr.mono (by decide)) (by rfl) T.m__law_pull T.F__law_pull.kp B_Lpull .nil pass0 (pa_cons (pv 0) (pa_cons (pe_callB (q_len (K := K)) (by rfl) T.b_len bt_len (pa_cons (pv 1) pa_nil)) pa_nil))) (fun _ _ => rfl)))), fun M as ⟨b, d, es, e, hm, h, hl, hq, h0, h1⟩ => ?_⟩)
  subst e
  exact run_of_body hm h hl hq h0 h1 fun e he b' d' es' e1 e2 => by
    cases e1
    rw [h] at e2
    cases e2
    exact he
end
end L43
namespace L43
open PySem L2 Rg RZ PyProof.Rows
local macro_rules | `(tactic| walk_at "ev") => `(tactic| first
  | with_reducible assumption
  | ((with_reducible apply ev_var); exact rfl)
  | with_reducible exact ev_cint
  | with_reducible exact ev_cbl
  | with_reducible exact ev_cnon
  | with_reducible exact ev_cstr
  | ((with_reducible apply ev_c); with_reducible assumption)
  | with_reducible exact ev_craw
  | ((with_reducible apply ev_tup1); walk_at "ea"; exact Nat.le_of_ble_eq_true rfl)
  | ((with_reducible apply ev_lst1); walk_at "ea"; exact Nat.le_of_ble_eq_true rfl)
  | ((with_reducible apply ev_op1); walk_at "ev"; walk_at "ev"; walk_at "od")
  | ((with_reducible apply ev_un1); walk_at "ev"; exact ud_neg)
  | ((with_reducible apply ev_isSeq); walk_at "ev"; walk_at "ea"; exact rfl; exact rfl)
  | ((with_reducible apply ev_cb1); walk_at "ea"; walk_at "cd")
  | ((with_reducible apply ev_chainB); walk_at "ev"; walk_at "ev"; walk_at "od"; walk_at "ev"; walk_at "od")
  | ((with_reducible apply ev_andF); walk_at "ev"; exact rfl)
  | ((with_reducible apply ev_andT); walk_at "ev"; exact rfl; walk_at "ev")
  | ((with_reducible apply ev_andB); walk_at "ev"; intro _; walk_at "ev")
  | ((with_reducible apply ev_orT); walk_at "ev"; exact rfl)
  | ((with_reducible apply ev_orF); walk_at "ev"; exact rfl; walk_at "ev")
  | ((with_reducible apply ev_orB); walk_at "ev"; intro _; walk_at "ev")
  | ((with_reducible apply ev_notV); walk_at "ev"))
local macro_rules | `(tactic| walk_at "et") => `(tactic| first
  | ((with_reducible apply et_B); walk_at "ev")
  | ((with_reducible apply et_test); walk_at "ev")
  | ((with_reducible apply et_not); walk_at "et")
  | ((with_reducible apply et_orT); walk_at "et"; exact rfl)
  | ((with_reducible apply et_orF); walk_at "et"; exact rfl; walk_at "et")
  | ((with_reducible apply et_or); walk_at "et"; intro _; walk_at "et")
  | ((with_reducible apply et_andF); walk_at "et"; exact rfl)
  | ((with_reducible apply et_andT); walk_at "et"; exact rfl; walk_at "et")
  | ((with_reducible apply et_and); walk_at "et"; intro _; walk_at "et"))
local macro_rules | `(tactic| walk_at "ea") => `(tactic| first
  | with_reducible exact ea_nil
  | ((with_reducible apply ea1); walk_at "ev"; walk_at "ea"))
local macro_rules | `(tactic| walk_at "od") => `(tactic| first
  | with_reducible exact od_addI
  | with_reducible exact od_subI
  | ((with_reducible apply od_addS); (try simp only [PySem.Str.length_append]); omega)
  | ((with_reducible apply od_catL); exact Nat.le_of_ble_eq_true rfl)
  | ((with_reducible apply od_modI); first | decide | omega)
  | ((with_reducible apply od_mulI); first | (exact Or.inr ⟨by decide, by decide⟩) | (exact Or.inl ⟨by decide, by decide⟩) | (exact Or.inl ⟨by omega, by omega⟩) | (exact Or.inr ⟨by omega, by omega⟩))
  | ((with_reducible apply od_divI); first | (exact ⟨by decide, by decide⟩) | (exact ⟨by omega, by omega⟩))
  | ((with_reducible apply od_powI); exact ⟨by decide, by decide, by decide⟩)
  | with_reducible exact od_leI
  | with_reducible exact od_ltI
  | with_reducible exact od_gtI
  | with_reducible exact od_geI
  | with_reducible exact od_eqI
  | with_reducible exact od_eqB
  | with_reducible exact od_neB
  | with_reducible exact od_neI
  | with_reducible exact od_eqS
  | with_reducible exact od_inS
  | ((with_reducible apply od_none); exact rfl)
  | ((with_reducible apply od_ix); exact rfl))
local macro_rules | `(tactic| walk_at "cd") => `(tactic| first
  | ((with_reducible apply cd_isStr); exact rfl)
  | ((with_reducible apply cd_isInt); exact rfl)
  | ((with_reducible apply cd_isBool); exact rfl)
  | ((with_reducible apply cd_isList); exact rfl)
  | ((with_reducible apply cd_isTuple); exact rfl)
  | ((with_reducible apply cd_isi); assumption)
  | ((with_reducible apply cd_len); assumption)
  | ((with_reducible apply cd_len); exact rfl)
  | with_reducible exact cd_intI
  | with_reducible exact cd_listof
  | ((with_reducible apply cd_str); assumption)
  | with_reducible exact cd_all)
local macro_rules | `(tactic| walk_at "px") => `(tactic| first
  | ((with_reducible apply px_var); exact rfl)
  | with_reducible exact px_c
  | ((with_reducible apply px_op); walk_at "px"; walk_at "px"; walk_at "pr")
  | ((with_reducible apply px_cb); walk_at "pa"; walk_at "pr")
  | ((with_reducible apply px_test); walk_at "px")
  | ((with_reducible apply px_B); walk_at "px")
  | ((with_reducible apply px_and); walk_at "px"; walk_at "px"))
local macro_rules | `(tactic| walk_at "pa") => `(tactic| first
  | with_reducible exact px_nil
  | ((with_reducible apply px_cons); walk_at "px"; walk_at "pa"))
local macro_rules | `(tactic| walk_at "pr") => `(tactic| first
  | exact px_addI
  | (apply px_ix; assumption; exact rfl)
  | (apply px_ix; assumption; assumption)
  | exact px_eqI
  | exact fun Q q => ⟨_, _, rfl, rfl, q⟩
  | exact fun Q q => ⟨_, _, rfl, rfl, (Or.inr ⟨by decide, by decide⟩), q⟩
  | exact fun Q q => ⟨_, _, rfl, rfl, (Or.inl ⟨by omega, by omega⟩), q⟩
  | exact fun Q q => ⟨_, _, rfl, rfl, (Or.inr ⟨by omega, by omega⟩), q⟩
  | exact fun Q q => ⟨_, _, rfl, rfl, ⟨by decide, by decide⟩, q⟩
  | exact fun Q q => ⟨_, _, rfl, rfl, ⟨by omega, by omega⟩, q⟩
  | exact fun Q q => ⟨_, _, rfl, rfl, ⟨by decide, by decide, by decide⟩, q⟩
  | exact fun Q q => ⟨_, _, rfl, rfl, (by decide), q⟩
  | exact fun Q q => ⟨_, _, rfl, rfl, (by omega), q⟩
  | (apply px_len; assumption)
  | exact px_intI
  | exact px_abs)
local macro_rules | `(tactic| walk_at "fg") => `(tactic| repeat first | exact Fg.nil | apply Fg.keep | apply Fg.drop)
/-! ### what an error has -/
inductive Ek where
  | eInvalidText (d1 : D)
section
variable {P : Program} {w : World} {K : PySem.W.Frag} {mg : Str → Option Value} {base : Heap}
def Ek.c (T : Tx K mg) : Ek → Addr
  | .eInvalidText _ => T.c_InvalidText
def Ek.ps : Ek → List Str
  | .eInvalidText _ => ["line"]
def Ek.code : Ek → Str
  | .eInvalidText _ => "InvalidText"
def Ek.as : Ek → List D
  | .eInvalidText d1 => [d1]
def Ek.res : Ek → D
  | .eInvalidText d1 => d1
abbrev Ek.x (T : Tx K mg) (k : Ek) : D := excD (k.c T) k.ps k.code k.as
theorem Ek.g (T : Tx K mg) : ∀ k : Ek, Xg K (k.c T)
  | .eInvalidText _ => T.x_InvalidText
theorem Ek.no (T : Tx K mg) : ∀ k : Ek, ∀ f ∈ ("code" : Str) :: k.ps, PySem.W.findIn K (.ref (k.c T)) f = some none
  | .eInvalidText _ => T.no_InvalidText
theorem exm3 {C a b c : Addr} {x y z : Bool} (h1 : PySem.W.exmOne K (.ref C) (.ref a) = some x) (h2 : PySem.W.exmOne K (.ref C) (.ref b) = some y) (h3 : PySem.W.exmOne K (.ref C) (.ref c) = some z) : PySem.W.exmAny K (.ref C) [.ref a, .ref b, .ref c] = some (x || (y || (z || false))) := by
  unfold PySem.W.exmAny PySem.W.exmAny PySem.W.exmAny PySem.W.exmAny
  rw [h1, h2, h3]
theorem Ek.any (T : Tx K mg) : ∀ k : Ek, PySem.W.exmAny K (.ref (k.c T)) [.ref T.c_DayError, .ref T.c_Missing, .ref T.c_NothingLeft] = some true
  | .eInvalidText _ => exm3 T.ex_InvalidText_DayError T.ex_InvalidText_Missing T.ex_InvalidText_NothingLeft
def preFl (T : Tx K mg) (p : Addr × Obj) (as : List D) : Prop := ∃ (k : Ek) (dd : Addr), Zc (.ref (k.c T)) (some dd) p.2 ∧ as = [.cau p.1 dd (k.c T) (excN k.ps) (excV k.code k.as)]
def postFl (as : List D) (r : D) : Prop := ∀ (k : Ek) a dd C ns, as = [.cau a dd C ns (excV k.code k.as)] → r = k.res
theorem ex_inj {k k' : Ek} (h : excV k.code k.as = excV k'.code k'.as) : k.res = k'.res := by
  cases k <;> cases k' <;> simp [excV, Ek.as, Ek.code] at h <;> first | rfl | (simp [Ek.res, h]; done) | (exfalso; revert h; decide) | skip
theorem ok_field (T : Tx K mg) : FnQ P w K mg base 1 T.f__law_field T.fd__law_field ["_law_e"] (spQ K (preFl T) postFl) := by
  refine fn_quietD T.F__law_field sc_Lfield (fun p as ⟨_, _, _, e⟩ => by rw [e]; rfl) (fun cdv A outer s H E p hf hr => ⟨_, (pss_cons (ps_if (pt_cmpR (q_in (K := K)) (q_xq (K := K) List.mem_cons_self hf (pv 0)) (pe_tup (pa_cons pe_str (pa_cons pe_str pa_nil))) (by rfl)) (pss_one (ps_ret (pe_tup (pa_cons (q_xq (K := K) List.mem_cons_self hf (pv 0)) (pa_cons (q_xq (K := K) List.mem_cons_self hf (pv 0)) pa_nil))))) pss_nil)
  (pss_cons (ps_if (pt_cmpR (q_in (K := K)) (q_xq (K := K) List.mem_cons_self hf (pv 0)) (pe_tup (pa_cons pe_str (pa_cons pe_str pa_nil))) (by rfl)) (pss_one (ps_ret (pe_tup (pa_cons (q_xq (K := K) List.mem_cons_self hf (pv 0)) (pa_cons (q_xq (K := K) List.mem_cons_self hf (pv 0)) (pa_cons (q_xq (K := K) List.mem_cons_self hf (pv 0)) pa_nil)))))) pss_nil)
  (pss_cons (ps_if (pt_cmpR op_eq (q_xq (K := K) List.mem_cons_self hf (pv 0)) pe_str (nomark _)) (pss_one (ps_ret (pe_tup (pa_cons (q_xq (K := K) List.mem_cons_self hf (pv 0)) (pa_cons (q_xq (K := K) List.mem_cons_self hf (pv 0)) (pa_cons (q_xq (K := K) List.mem_cons_self hf (pv 0)) pa_nil)))))) pss_nil)
  (pss_cons (ps_if (pt_cmpR op_eq (q_xq (K := K) List.mem_cons_self hf (pv 0)) pe_str (nomark _)) (pss_one (ps_ret (pe_tup (pa_cons (q_xq (K := K) List.mem_cons_self hf (pv 0)) (pa_cons (q_xq (K := K) List.mem_cons_self hf (pv 0)) pa_nil))))) pss_nil)
  (pss_cons (ps_if (pt_cmpR (q_in (K := K)) (q_xq (K := K) List.mem_cons_self hf (pv 0)) (pe_tup (pa_cons pe_str (pa_cons pe_str pa_nil))) (by rfl)) (pss_one (ps_ret (q_xq (K := K) List.mem_cons_self hf (pv 0)))) pss_nil)
  (pss_cons (ps_if (pt_cmpR (q_in (K := K)) (q_xq (K := K) List.mem_cons_self hf (pv 0)) (pe_tup (pa_cons pe_str (pa_cons pe_str (pa_cons pe_str pa_nil)))) (by rfl)) (pss_one (ps_ret (q_xq (K := K) List.mem_cons_self hf (pv 0)))) pss_nil)
  (pss_cons (ps_if (pt_cmpR op_eq (q_xq (K := K) List.mem_cons_self hf (pv 0)) pe_str (nomark _)) (pss_one (ps_ret (pe_tup (pa_cons (q_xq (K := K) List.mem_cons_self hf (pv 0)) (pa_cons (q_xq (K := K) List.mem_cons_self hf (pv 0)) pa_nil))))) pss_nil)
  (pss_cons (ps_if (pt_cmpR op_eq (q_xq (K := K) List.mem_cons_self hf (pv 0)) pe_str (nomark _)) (pss_one (ps_ret (q_xq (K := K) List.mem_cons_self hf (pv 0)))) pss_nil)
  (pss_cons (ps_if (pt_cmpR (q_in (K := K)) (q_xq (K := K) List.mem_cons_self hf (pv 0)) (pe_tup (pa_cons pe_str (pa_cons pe_str (pa_cons pe_str (pa_cons pe_str pa_nil))))) (by rfl)) (pss_one (ps_ret (q_xq (K := K) List.mem_cons_self hf (pv 0)))) pss_nil)
  (pss_cons (ps_if (pt_cmpR (q_in (K := K)) (q_xq (K := K) List.mem_cons_self hf (pv 0)) (pe_tup (pa_cons pe_str (pa_cons pe_str (pa_cons pe_str (pa_cons pe_str pa_nil))))) (by rfl)) (pss_one (ps_ret pe_non)) pss_nil)
  (pss_one (ps_ret (pe_ifExp (pt_cmpR op_eq (q_xq (K := K) List.mem_cons_self hf (pv 0)) pe_str (nomark _)) (q_xq (K := K) List.mem_cons_self hf (pv 0)) (pe_ifExp (pt_cmpR op_eq (q_xq (K := K) List.mem_cons_self hf (pv 0)) pe_str (nomark _)) (q_xq (K := K) List.mem_cons_self hf (pv 0)) (q_xq (K := K) List.mem_cons_self hf (pv 0)))))))))))))))), fun M as ⟨k, dd, hz, e⟩ => ?_⟩)
  subst e
  have key : ∀ r, r = k.res → postFl [.cau p.1 dd (k.c T) (excN k.ps) (excV k.code k.as)] r := fun r hr k' a dd' C ns e => by
    injection e with e
    injection e with _ _ _ _ e
    rw [hr, ex_inj e]
  have g := k.g T
  have code : ∀ ds : DS, ds[0]? = some (some (.cau p.1 dd (k.c T) (excN k.ps) (excV k.code k.as))) → Ev K M ds (tXq K p "code" (tVar 0)) (· = .str k.code) := fun ds h => ev_xq (ev_var h) hz g (k.no T _ List.mem_cons_self) (by cases k <;> rfl)
  show Run K M [some (.cau p.1 dd (k.c T) (excN k.ps) (excV k.code k.as))] _ _
  cases k with
  | eInvalidText d1 =>
    refine run_seq (run_ifF (et_B (ev_op1 (code _ rfl) (ev_tup1 (ea1 ev_cstr (ea1 ev_cstr ea_nil)) (Nat.le_of_ble_eq_true rfl)) (od_inQ (.inr rfl) rfl (xs := [.str "MisplacedStep", .str "Barred"]) rfl))) (by simp only [Ek.code]; decide +kernel) (run_next ?_))
    refine run_seq (run_ifF (et_B (ev_op1 (code _ rfl) (ev_tup1 (ea1 ev_cstr (ea1 ev_cstr ea_nil)) (Nat.le_of_ble_eq_true rfl)) (od_inQ (.inr rfl) rfl (xs := [.str "OwnRing", .str "NeverCleared"]) rfl))) (by simp only [Ek.code]; decide +kernel) (run_next ?_))
    refine run_seq (run_ifF (et_B (ev_op1 (code _ rfl) ev_cstr od_eqS)) (by simp only [Ek.code]; exact decide_eq_false (by decide +kernel)) (run_next ?_))
    refine run_seq (run_ifF (et_B (ev_op1 (code _ rfl) ev_cstr od_eqS)) (by simp only [Ek.code]; exact decide_eq_false (by decide +kernel)) (run_next ?_))
    refine run_seq (run_ifF (et_B (ev_op1 (code _ rfl) (ev_tup1 (ea1 ev_cstr (ea1 ev_cstr ea_nil)) (Nat.le_of_ble_eq_true rfl)) (od_inQ (.inr rfl) rfl (xs := [.str "Unready", .str "Finished"]) rfl))) (by simp only [Ek.code]; decide +kernel) (run_next ?_))
    refine run_seq (run_ifF (et_B (ev_op1 (code _ rfl) (ev_tup1 (ea1 ev_cstr (ea1 ev_cstr (ea1 ev_cstr ea_nil))) (Nat.le_of_ble_eq_true rfl)) (od_inQ (.inr rfl) rfl (xs := [.str "UnknownName", .str "DuplicateName", .str "InUse"]) rfl))) (by simp only [Ek.code]; decide +kernel) (run_next ?_))
    refine run_seq (run_ifF (et_B (ev_op1 (code _ rfl) ev_cstr od_eqS)) (by simp only [Ek.code]; exact decide_eq_false (by decide +kernel)) (run_next ?_))
    refine run_seq (run_ifF (et_B (ev_op1 (code _ rfl) ev_cstr od_eqS)) (by simp only [Ek.code]; exact decide_eq_false (by decide +kernel)) (run_next ?_))
    refine run_seq (run_ifF (et_B (ev_op1 (code _ rfl) (ev_tup1 (ea1 ev_cstr (ea1 ev_cstr (ea1 ev_cstr (ea1 ev_cstr ea_nil)))) (Nat.le_of_ble_eq_true rfl)) (od_inQ (.inr rfl) rfl (xs := [.str "InvalidTurn", .str "InvalidWait", .str "InvalidWish", .str "InvalidJourney"]) rfl))) (by simp only [Ek.code]; decide +kernel) (run_next ?_))
    refine run_seq (run_ifF (et_B (ev_op1 (code _ rfl) (ev_tup1 (ea1 ev_cstr (ea1 ev_cstr (ea1 ev_cstr (ea1 ev_cstr ea_nil)))) (Nat.le_of_ble_eq_true rfl)) (od_inQ (.inr rfl) rfl (xs := [.str "NoDay", .str "Doomed", .str "NoPeriod", .str "NothingLeft"]) rfl))) (by simp only [Ek.code]; decide +kernel) (run_next ?_))
    exact run_ret1 (ev_ifT (et_B (ev_op1 (code _ rfl) ev_cstr od_eqS)) (by simp only [Ek.code]; exact decide_eq_true (by decide +kernel)) (ev_xq (ev_var rfl) hz g (Ek.no T (.eInvalidText d1) "line" (List.mem_cons_of_mem _ List.mem_cons_self)) (by rfl))) (key _ rfl)
/-! ### _law_try -/
def tried (ok : Bool) (k : Ek) (d : D) : D := if ok then .tup [.str "told", d] else .tup [.str k.code, k.res]
def Ask (T : Tx K mg) (P : Program) (w : World) (base : Heap) (M : Ml) (L : Lm) (r : D) : Prop :=
  (∃ k : Ek, LamD P w K mg base 8 M L (fun _ => False) (· = k.x T) ∧ r = .tup [.str k.code, k.res]) ∨ ∃ d, LamD P w K mg base 8 M L (· = d) (fun _ => False) ∧ r = .tup [.str "told", d]
theorem lam_more {k : Nat} {l l' : Ml} {L : Lm} {post px : D → Prop} (h : LamD P w K mg base k l L post px) (s : ∀ p ∈ l, p ∈ l') : LamD P w K mg base k l' L post px := fun l2 hl => h l2 fun p hp => hl p (s p hp)
theorem Ask.more (T : Tx K mg) {l l' : Ml} {L : Lm} {r : D} (h : Ask T P w base l L r) (s : ∀ p ∈ l, p ∈ l') : Ask T P w base l' L r := by
  rcases h with ⟨k, h, e⟩ | ⟨d, h, e⟩
  · exact .inl ⟨k, lam_more h s, e⟩
  · exact .inr ⟨d, lam_more h s, e⟩
def preTry (T : Tx K mg) (P : Program) (w : World) (base : Heap) (r : D) (M : Ml) (as : List D) : Prop := ∃ L, as = [.fob L] ∧ Ask T P w base M L r
def postTry (r : D) (_ : List D) (r' : D) : Prop := r' = r
theorem ok_try (T : Tx K mg) : FnOk P w K mg base CX0 9 T.f__law_try T.fd__law_try ["_law_ask"] (spG K (preTry T P w base) postTry) := by
  have GQ_Lfield := ok_field (P := P) (w := w) (base := base) T
  have B_Lfield := Bd_Lfield T
  refine fn_runG T.F__law_try sc_Ltry (fun r M as ⟨_, e, _⟩ => by rw [e]; rfl) (fun cdv A outer s H E hr => ⟨_, (pss_one (ps_tryH rfl rfl sc_Ltry.nd takes0 (fun W pn xe tk _ => (pss_one (ps_ret (pe_tup (pa_cons pe_str (pa_cons (q_act (P := P) (w := w) (K := K) (mg := mg) (base := base) (i := 0) (a := "_law_ask") tk (show Room 8 _ from hr.mono (by decide)) rfl (Or.inl rfl)) pa_nil)))))) (HdOk.name (i := 1) (ht_tup3 ⟨by rfl, by decide, .inl T.m_DayError⟩ ⟨by rfl, by decide, .inl T.m_Missing⟩ ⟨by rfl, by decide, .inl T.m_NothingLeft⟩) rfl rfl (fun p _ hf => (pss_one (ps_ret (pe_tup (pa_cons (q_xq (K := K) List.mem_cons_self hf (pv 1)) (pa_cons (pe_callQ GQ_Lfield (L2H.roomH_mark (hr.mono (by decide)) _) List.mem_cons_self hf (by rfl) T.m__law_field T.F__law_field.kp B_Lfield (pa_cons (pv 1) pa_nil)) pa_nil)))))) HdOk.nil))), fun r M as ⟨L, e, hA⟩ => ?_⟩)
  subst e
  show Run K M [some (.fob L), none] _ _
  rcases hA with ⟨k, hL, er⟩ | ⟨d, hL, er⟩
  · refine run_try (fun x' ds' => x' = k.x T ∧ ds' = [some (.fob L), none]) (fun W => ?_) (fun x' ds' ⟨e1, e2⟩ => ?_)
    · refine run_ret ((ev_tup (ea_cons ev_cstr (ea_cons (ev_act (M := M.tr K W fun x' ds' => x' = k.x T ∧ ds' = [some (.fob L), none]) (R := fun _ => False) rfl rfl hL (fun d h => h) (fun x e => exk_D rfl ⟨e, rfl⟩)) ea_nil)) fun as ⟨_, _, _, _, _, _, _, h, _⟩ => h.elim).weak fun d ⟨_, _, _, _, _, _, _, _, _, h, _⟩ => h.elim)
    · subst e1 e2
      refine ⟨true, k.any T, fun _ p dd hz => ?_, (fun e => nomatch e)⟩
      refine run_ret1 (ev_tup1 (ea1 (ev_xq (ev_var rfl) hz (k.g T) (k.no T _ List.mem_cons_self) (by cases k <;> rfl)) (ea1 ((ev_callQ (RA := (· = [D.cau p.1 dd (k.c T) (excN k.ps) (excV k.code k.as)])) (ea1 (ev_var rfl) ea_nil) fun as e => ⟨⟨k, dd, hz, e⟩, fun d' q => q k _ _ _ _ e⟩)) ea_nil)) (Nat.le_of_ble_eq_true rfl)) er.symm
  · refine run_try (fun x' ds' => False) (fun W => ?_) (fun x' ds' h => h.elim)
    exact run_ret1 (ev_tup1 (ea1 ev_cstr (ea1 (ev_act (M := M.tr K W fun x' ds' => False) rfl rfl hL (fun d h => h) (fun x h => h.elim)) ea_nil)) (Nat.le_of_ble_eq_true rfl)) er.symm
end
end L43
namespace L43
open PySem L2 Rg RZ PyProof.Rows
/-! ### fractions in lowest terms -/
def sg (b : Int) : Int := if 0 < b then 1 else -1
def gz (t b : Int) : Int := (Int.gcd t b : Nat)
def rT (t b : Int) : Int := sg b * (t / gz t b)
def rB (t b : Int) : Int := sg b * (b / gz t b)
structure Lowest (p q : Int) : Prop where
  pos : 0 < q
  one : Int.gcd p q = 1
theorem gz_pos (t : Int) {b : Int} (h : b ≠ 0) : 0 < gz t b := by
  have := Int.gcd_pos_of_ne_zero_right t h
  unfold gz; omega
theorem gz_top (t b : Int) : gz t b * (t / gz t b) = t := Int.mul_ediv_cancel' (Int.gcd_dvd_left t b)
theorem gz_bot (t b : Int) : gz t b * (b / gz t b) = b := Int.mul_ediv_cancel' (Int.gcd_dvd_right t b)
/-- by the program -/
def byG (t b : Int) : Int := if 0 < b then gz t b else -(gz t b)
theorem by_ne {t b : Int} (h : b ≠ 0) : byG t b ≠ 0 := by
  have := gz_pos t h
  unfold byG; split <;> omega
theorem exact_div {g k x : Int} (hg : g ≠ 0) (h : x = g * k) : x.fdiv g = k := by rw [h]; exact Int.mul_fdiv_cancel_left k hg
theorem by_top {t b : Int} (h : b ≠ 0) : t.fdiv (byG t b) = rT t b := by
  refine exact_div (by_ne h) ?_
  have e := gz_top t b
  unfold byG rT sg
  split
  · rw [Int.one_mul]; exact e.symm
  · rw [Int.neg_mul, Int.neg_mul, Int.one_mul, Int.mul_neg, Int.neg_neg]; exact e.symm
theorem by_bot {t b : Int} (h : b ≠ 0) : b.fdiv (byG t b) = rB t b := by
  refine exact_div (by_ne h) ?_
  have e := gz_bot t b
  unfold byG rB sg
  split
  · rw [Int.one_mul]; exact e.symm
  · rw [Int.neg_mul, Int.neg_mul, Int.one_mul, Int.mul_neg, Int.neg_neg]; exact e.symm
/-- by the law -/
theorem law_top {t b : Int} (h : b ≠ 0) : (sg b * t).fdiv (gz t b) = rT t b := by
  have := gz_pos t h
  refine exact_div (by omega) ?_
  unfold rT
  rw [Int.mul_left_comm, gz_top]
theorem law_bot {t b : Int} (h : b ≠ 0) : (sg b * b).fdiv (gz t b) = rB t b := by
  have := gz_pos t h
  refine exact_div (by omega) ?_
  unfold rB
  rw [Int.mul_left_comm, gz_bot]
theorem sg_abs (b : Int) : sg b * b = b.natAbs := by unfold sg; split <;> omega
theorem lowest (t : Int) {b : Int} (h : b ≠ 0) : Lowest (rT t b) (rB t b) := by
  have g := gz_pos t h
  have e := gz_bot t b
  refine ⟨?_, ?_⟩
  · have h1 : gz t b * rB t b = b.natAbs := by
      unfold rB
      rw [Int.mul_left_comm, e, sg_abs]
    have h2 : (0 : Int) < b.natAbs := by omega
    rw [← h1] at h2
    exact Int.pos_of_mul_pos_right h2 g
  · have h1 : Int.gcd (t / gz t b) (b / gz t b) = 1 := Int.gcd_ediv_gcd_ediv_gcd_of_ne_zero_right h
    unfold rT rB sg
    split
    · rw [Int.one_mul, Int.one_mul]; exact h1
    · rw [Int.neg_mul, Int.neg_mul, Int.one_mul, Int.one_mul, Int.gcd_neg, Int.neg_gcd]; exact h1
theorem red_self {p q : Int} (h : Lowest p q) : rT p q = p ∧ rB p q = q := by
  have hp := h.pos
  unfold rT rB sg gz
  rw [if_pos hp, h.one]
  simp
theorem Lowest.neg {p q : Int} (h : Lowest p q) : Lowest (-p) q := ⟨h.pos, by rw [Int.neg_gcd]; exact h.one⟩
theorem Lowest.abs {p q : Int} (h : Lowest p q) : Lowest (if p < 0 then -p else p) q := by
  split
  · exact h.neg
  · exact h
theorem Lowest.int (n : Int) : Lowest n 1 := ⟨by decide, Int.gcd_one_right n⟩
theorem top_le (t : Int) {b : Int} (h : b ≠ 0) : (rT t b).natAbs ≤ t.natAbs := by
  have g := gz_pos t h
  have e : rT t b = sg b * (t / gz t b) := rfl
  have e2 := gz_top t b
  have h1 : (rT t b).natAbs = (t / gz t b).natAbs := by
    rw [e]; unfold sg; split <;> omega
  rw [h1]
  have h2 : t.natAbs = (gz t b).natAbs * (t / gz t b).natAbs := by rw [← Int.natAbs_mul, e2]
  rw [h2]
  exact Nat.le_mul_of_pos_left _ (by omega)
theorem bot_le (t : Int) {b : Int} (h : b ≠ 0) : (rB t b).natAbs ≤ b.natAbs := by
  have g := gz_pos t h
  have e : rB t b = sg b * (b / gz t b) := rfl
  have e2 := gz_bot t b
  have h1 : (rB t b).natAbs = (b / gz t b).natAbs := by
    rw [e]; unfold sg; split <;> omega
  rw [h1]
  have h2 : b.natAbs = (gz t b).natAbs * (b / gz t b).natAbs := by rw [← Int.natAbs_mul, e2]
  rw [h2]
  exact Nat.le_mul_of_pos_left _ (by omega)
theorem gz_le (t : Int) {b : Int} (h : b ≠ 0) : (gz t b).natAbs ≤ b.natAbs := by
  have := Int.gcd_le_natAbs_right t h
  unfold gz; omega
theorem log2_ok {n k : Nat} (h : n < 2 ^ k) (hk : k ≤ 1900) : n.log2 < 1920 := by
  by_cases h0 : n = 0
  · subst h0; decide
  · have := (Nat.log2_lt h0).mpr h
    omega
theorem log2_ok9 {n k : Nat} (h : n < 2 ^ k) (hk : k ≤ 1900) : n.log2 < 9000 := Nat.lt_of_lt_of_le (log2_ok h hk) (by decide)
/-! ### the turns of the law's own search -/
theorem half_mod {x y : Nat} (h : y < x) (hy : 0 < y) : y * (x % y) * 2 ≤ x * y := by
  have h1 : x % y < y := Nat.mod_lt _ hy
  have h2 : x % y + y ≤ x := by
    have := Nat.div_add_mod x y
    have h3 : 1 ≤ x / y := (Nat.one_le_div_iff hy).mpr (Nat.le_of_lt h)
    have h4 : y * 1 ≤ y * (x / y) := Nat.mul_le_mul_left _ h3
    omega
  have h5 : x % y * 2 ≤ x := by omega
  calc y * (x % y) * 2 = y * (x % y * 2) := Nat.mul_assoc _ _ _
    _ ≤ y * x := Nat.mul_le_mul_left _ h5
    _ = x * y := Nat.mul_comm _ _
def Far (i x y : Nat) : Prop := (i = 0 ∧ x * y < 2 ^ 198) ∨ (y < x ∧ x * y * 2 ^ i < 2 ^ 199)
theorem Far.step {i x y : Nat} (h : Far i x y) (hy : 0 < y) : Far (i + 1) y (x % y) := by
  have hm := Nat.mod_lt x hy
  rcases h with ⟨rfl, h⟩ | ⟨h1, h⟩
  · refine .inr ⟨hm, ?_⟩
    have h2 : y * (x % y) ≤ x * y := by
      rw [Nat.mul_comm x y]
      exact Nat.mul_le_mul_left _ (Nat.mod_le _ _)
    have e : (2 : Nat) ^ (0 + 1) = 2 := rfl
    have e9 : (2 : Nat) ^ 199 = 2 ^ 198 * 2 := rfl
    rw [e, e9]
    exact Nat.mul_lt_mul_of_pos_right (Nat.lt_of_le_of_lt h2 h) (by decide)
  · refine .inr ⟨hm, ?_⟩
    have h2 := half_mod h1 hy
    have e : y * (x % y) * 2 ^ (i + 1) = y * (x % y) * 2 * 2 ^ i := by
      rw [Nat.pow_succ, Nat.mul_comm (2 ^ i) 2, ← Nat.mul_assoc]
    rw [e]
    exact Nat.lt_of_le_of_lt (Nat.mul_le_mul_right _ h2) h
theorem Far.done {x y : Nat} (h : Far 200 x y) : y = 0 := by
  rcases h with ⟨h, _⟩ | ⟨h1, h⟩
  · cases h
  · rcases Nat.eq_zero_or_pos y with h0 | h0
    · exact h0
    · exfalso
      have h2 : 1 ≤ x * y := Nat.mul_pos (by omega) h0
      have h3 : 1 * 2 ^ 200 ≤ x * y * 2 ^ 200 := Nat.mul_le_mul_right _ h2
      have h4 : (2 : Nat) ^ 199 < 1 * 2 ^ 200 := by decide
      omega
theorem fmod_nat (x : Nat) {y : Nat} : ((x : Int)).fmod (y : Int) = ((x % y : Nat) : Int) := by
  rw [Int.fmod_eq_emod_of_nonneg _ (by omega)]; rfl
theorem abs_nat (i : Int) : (if i < 0 then -i else i) = (i.natAbs : Int) := by split <;> omega
end L43
namespace L43
open PySem L2 TL Rg RZ PyProof.Rows
/-! ### texts of numbers -/
def isDig (c : Nat) : Bool := decide (48 ≤ c) && decide (c ≤ 57)
def digL (l : List Nat) : Option Nat := if l = [] then none else if l.all isDig = true then (if l = [48] ∨ l.head? ≠ some 48 then some (NumText.digitsVal l) else none) else none
theorem allDig {l : List Nat} : NumText.AllDigits l ↔ l.all isDig = true := by
  unfold NumText.AllDigits
  rw [List.all_eq_true]
  refine ⟨fun h c hc => ?_, fun h c hc => ?_⟩
  · simp [isDig, h c hc]
  · simpa [isDig] using h c hc
theorem numL_head {n : Nat} : 0 < n → (numL n).head? ≠ some 48 := by
  induction n using Nat.strongRecOn with
  | _ n ih =>
    intro hn
    by_cases h : n < 10
    · rw [numL_lt h]
      simp; omega
    · rw [numL_step (by omega)]
      have hi := ih (n / 10) (by omega) (by omega)
      cases en : numL (n / 10) with
      | nil => exact absurd en (numL_ne _)
      | cons c r => rw [en] at hi; exact hi
theorem dig_num (n : Nat) : digL (numL n) = some n := by
  unfold digL
  rw [if_neg (numL_ne n), if_pos (allDig.mp (numL_digits n)), numL_val]
  refine if_pos ?_
  rcases Nat.eq_zero_or_pos n with rfl | h
  · exact .inl (numL_lt (by decide))
  · exact .inr (numL_head h)
theorem spl_ne (S : List Nat) : ∀ (l : List Nat) (k : Nat) (acc : List Nat), spl S k acc l ≠ []
  | [], k, acc, h => by rw [spl_nil] at h; cases h
  | c :: r, 0, acc, h => by
    unfold spl at h
    split at h
    · cases h
    · exact spl_ne S r 0 _ h
  | c :: r, k + 1, acc, h => by
    unfold spl at h
    exact spl_ne S r k _ h
theorem tl_slash : tl ("/" : Str) = [47] := by decide +kernel
theorem split_slash (x : Str) : (Txt.split x "/").map tl = spl [47] 0 [] (tl x) := by
  rw [← tl_slash]
  exact split_spl x "/" (by rw [tl_slash]; simp) (kind_ok (by decide +kernel))
/-- the parts of a text -/
def numsOf (l : List Nat) : List (Option Nat) := (spl [47] 0 [] l).map digL
def restL (l : List Nat) : List Nat := if l.take 1 = [45] then l.drop 1 else l
def partsL (l : List Nat) : Option (Int × Int) :=
  match numsOf (restL l) with
  | [some t] => if l.take 1 = [45] ∧ t = 0 then none else some ((if l.take 1 = [45] then -(t : Int) else t), 1)
  | [some t, some b] => if l.take 1 = [45] ∧ t = 0 then none else if b < 2 ∨ Nat.gcd t b ≠ 1 then none else some ((if l.take 1 = [45] then -(t : Int) else t), (b : Int))
  | _ => none
/-- the text of a fraction -/
def txt (p q : Int) : Str := Str.ofString (toString p) ++ (if q = 1 then ("" : Str) else "/" ++ Str.ofString (toString q))
theorem tl_neg {p : Int} (h : p < 0) : tl (Str.ofString (toString p)) = 45 :: numL p.natAbs := by
  rw [toString_neg h, show (0 : Int) - p = ((p.natAbs : Nat) : Int) by omega, tl_ofString]
  rw [String.toList_append, List.map_append, ← tl_ofString, ← tl_ofString, tl_num]
  rfl
theorem tl_pos {p : Int} (h : 0 ≤ p) : tl (Str.ofString (toString p)) = numL p.natAbs := by
  have e := tl_num p.natAbs
  rw [show ((p.natAbs : Nat) : Int) = p by omega] at e
  exact e
theorem tl_txt (p q : Int) (hq : 0 < q) : tl (txt p q) = (if p < 0 then [45] else []) ++ (numL p.natAbs ++ (if q = 1 then [] else 47 :: numL q.natAbs)) := by
  unfold txt
  rw [tl_append]
  have e2 : tl (if q = 1 then ("" : Str) else "/" ++ Str.ofString (toString q)) = (if q = 1 then [] else 47 :: numL q.natAbs) := by
    split
    · rfl
    · rw [tl_append, tl_pos (Int.le_of_lt hq), tl_slash]; rfl
  rw [e2]
  by_cases h : p < 0
  · rw [tl_neg h, if_pos h]; rfl
  · rw [tl_pos (by omega), if_neg h]; rfl
theorem nums_of (p q : Int) (hq : 0 < q) : numsOf (numL p.natAbs ++ (if q = 1 then [] else 47 :: numL q.natAbs)) = if q = 1 then [some p.natAbs] else [some p.natAbs, some q.natAbs] := by
  unfold numsOf
  split
  · rw [List.append_nil, spl_last1 (numL_free (by omega)), List.nil_append, List.map_cons, dig_num]; rfl
  · have e : numL p.natAbs ++ 47 :: numL q.natAbs = numL p.natAbs ++ ([47] ++ numL q.natAbs) := rfl
    rw [e, spl_part1 (S := []) (numL_free (by omega)), spl_last1 (numL_free (by omega)), List.nil_append, List.nil_append, List.map_cons, List.map_cons, dig_num, dig_num]; rfl
theorem parts_txt {p q : Int} (h : Lowest p q) : partsL (tl (txt p q)) = some (p, q) := by
  have hq := h.pos
  have hg : Nat.gcd p.natAbs q.natAbs = 1 := h.one
  rw [tl_txt p q hq]
  have hr : ∀ (l : List Nat), l = numL p.natAbs ++ (if q = 1 then [] else 47 :: numL q.natAbs) → (((if p < 0 then [45] else []) ++ l).take 1 = [45] ↔ p < 0) := by
    intro l hl
    by_cases hp : p < 0
    · rw [if_pos hp]; simp [hp]
    · rw [if_neg hp, List.nil_append]
      refine ⟨fun e => ?_, fun e => absurd e hp⟩
      exfalso
      have hd := numL_digits p.natAbs
      cases en : numL p.natAbs with
      | nil => exact numL_ne _ en
      | cons c r =>
        rw [hl, en] at e
        have e : [c] = [45] := by simpa using e
        have := hd c (by rw [en]; exact List.mem_cons_self)
        injection e with e _
        omega
  have hr := hr _ rfl
  have hrest : restL ((if p < 0 then [45] else []) ++ (numL p.natAbs ++ (if q = 1 then [] else 47 :: numL q.natAbs))) = numL p.natAbs ++ (if q = 1 then [] else 47 :: numL q.natAbs) := by
    unfold restL
    by_cases hp : p < 0
    · rw [if_pos (hr.mpr hp), if_pos hp]; rfl
    · rw [if_neg (fun e => hp (hr.mp e)), if_neg hp]; rfl
  have e3 : (if ((if p < 0 then [45] else []) ++ (numL p.natAbs ++ (if q = 1 then [] else 47 :: numL q.natAbs))).take 1 = [45] then -(p.natAbs : Int) else (p.natAbs : Int)) = p := by
    by_cases hp : p < 0
    · rw [if_pos (hr.mpr hp)]; omega
    · rw [if_neg (fun e => hp (hr.mp e))]; omega
  have e4 : ¬ (((if p < 0 then [45] else []) ++ (numL p.natAbs ++ (if q = 1 then [] else 47 :: numL q.natAbs))).take 1 = [45] ∧ p.natAbs = 0) := fun ⟨a, b⟩ => by
    have := hr.mp a
    omega
  unfold partsL
  rw [hrest, nums_of p q hq]
  by_cases h1 : q = 1
  · rw [if_pos h1]
    simp only
    rw [if_neg e4, e3, h1]
  · rw [if_neg h1]
    simp only
    rw [if_neg e4, if_neg (by omega), e3]
    congr 2
    omega
theorem txt_len {p q : Int} (hp : p.natAbs < 10 ^ 20) (hq : q.natAbs < 10 ^ 20) (h : 0 < q) : (txt p q).length ≤ 50 := by
  rw [len_tl, tl_txt p q h]
  have h1 := numL_len (k := 20) (by decide) hp
  have h2 := numL_len (k := 20) (by decide) hq
  simp only [List.length_append]
  split <;> split <;> simp <;> omega
theorem int_text {x : Str} (h : (tl x).all isDig = true) (h1 : tl x ≠ []) (h2 : x.length ≤ 640) : intText? x = some ((NumText.digitsVal (tl x) : Nat) : Int) :=
  PySem.intText_digits (allDig.mpr h) h1 (by omega)
theorem wrong_ok : (["4/2", "3/1", "", "1/0", "-0", "01", "1/-2", " 1", "+1", "1/02", "0/5", "a", "1/", "/2", "1/2/3", "--1"] : List Str).all (fun x => decide (partsL (tl x) = none) && decide (x.length ≤ 50)) = true := by decide +kernel
theorem seven_ok : partsL (tl ("-7/2" : Str)) = some (-7, 2) := by decide +kernel
end L43
namespace L43
open PySem L2 TL Rg RZ PyProof.Rows
local macro_rules | `(tactic| walk_at "ev") => `(tactic| first
  | with_reducible assumption
  | ((with_reducible apply ev_var); exact rfl)
  | with_reducible exact ev_cint
  | with_reducible exact ev_cbl
  | with_reducible exact ev_cnon
  | with_reducible exact ev_cstr
  | ((with_reducible apply ev_c); with_reducible assumption)
  | with_reducible exact ev_craw
  | ((with_reducible apply ev_tup1); walk_at "ea"; exact Nat.le_of_ble_eq_true rfl)
  | ((with_reducible apply ev_lst1); walk_at "ea"; exact Nat.le_of_ble_eq_true rfl)
  | ((with_reducible apply ev_op1); walk_at "ev"; walk_at "ev"; walk_at "od")
  | ((with_reducible apply ev_un1); walk_at "ev"; exact ud_neg)
  | ((with_reducible apply ev_isSeq); walk_at "ev"; walk_at "ea"; exact rfl; exact rfl)
  | ((with_reducible apply ev_cb1); walk_at "ea"; walk_at "cd")
  | ((with_reducible apply ev_chainB); walk_at "ev"; walk_at "ev"; walk_at "od"; walk_at "ev"; walk_at "od")
  | ((with_reducible apply ev_andF); walk_at "ev"; exact rfl)
  | ((with_reducible apply ev_andT); walk_at "ev"; exact rfl; walk_at "ev")
  | ((with_reducible apply ev_andB); walk_at "ev"; intro _; walk_at "ev")
  | ((with_reducible apply ev_orT); walk_at "ev"; exact rfl)
  | ((with_reducible apply ev_orF); walk_at "ev"; exact rfl; walk_at "ev")
  | ((with_reducible apply ev_orB); walk_at "ev"; intro _; walk_at "ev")
  | ((with_reducible apply ev_notV); walk_at "ev"))
local macro_rules | `(tactic| walk_at "et") => `(tactic| first
  | ((with_reducible apply et_B); walk_at "ev")
  | ((with_reducible apply et_test); walk_at "ev")
  | ((with_reducible apply et_not); walk_at "et")
  | ((with_reducible apply et_orT); walk_at "et"; exact rfl)
  | ((with_reducible apply et_orF); walk_at "et"; exact rfl; walk_at "et")
  | ((with_reducible apply et_or); walk_at "et"; intro _; walk_at "et")
  | ((with_reducible apply et_andF); walk_at "et"; exact rfl)
  | ((with_reducible apply et_andT); walk_at "et"; exact rfl; walk_at "et")
  | ((with_reducible apply et_and); walk_at "et"; intro _; walk_at "et"))
local macro_rules | `(tactic| walk_at "ea") => `(tactic| first
  | with_reducible exact ea_nil
  | ((with_reducible apply ea1); walk_at "ev"; walk_at "ea"))
local macro_rules | `(tactic| walk_at "od") => `(tactic| first
  | with_reducible exact od_addI
  | with_reducible exact od_subI
  | ((with_reducible apply od_addS); (try simp only [PySem.Str.length_append]); omega)
  | ((with_reducible apply od_catL); exact Nat.le_of_ble_eq_true rfl)
  | ((with_reducible apply od_modI); first | decide | omega)
  | ((with_reducible apply od_mulI); first | (exact Or.inr ⟨by decide, by decide⟩) | (exact Or.inl ⟨by decide, by decide⟩) | (exact Or.inl ⟨by omega, by omega⟩) | (exact Or.inr ⟨by omega, by omega⟩))
  | ((with_reducible apply od_divI); first | (exact ⟨by decide, by decide⟩) | (exact ⟨by omega, by omega⟩))
  | ((with_reducible apply od_powI); exact ⟨by decide, by decide, by decide⟩)
  | with_reducible exact od_leI
  | with_reducible exact od_ltI
  | with_reducible exact od_gtI
  | with_reducible exact od_geI
  | with_reducible exact od_eqI
  | with_reducible exact od_eqB
  | with_reducible exact od_neB
  | with_reducible exact od_neI
  | with_reducible exact od_eqS
  | with_reducible exact od_inS
  | ((with_reducible apply od_none); exact rfl)
  | ((with_reducible apply od_ix); exact rfl))
local macro_rules | `(tactic| walk_at "cd") => `(tactic| first
  | ((with_reducible apply cd_isStr); exact rfl)
  | ((with_reducible apply cd_isInt); exact rfl)
  | ((with_reducible apply cd_isBool); exact rfl)
  | ((with_reducible apply cd_isList); exact rfl)
  | ((with_reducible apply cd_isTuple); exact rfl)
  | ((with_reducible apply cd_isi); assumption)
  | ((with_reducible apply cd_len); assumption)
  | ((with_reducible apply cd_len); exact rfl)
  | with_reducible exact cd_intI
  | with_reducible exact cd_listof
  | ((with_reducible apply cd_str); assumption)
  | with_reducible exact cd_all)
local macro_rules | `(tactic| walk_at "px") => `(tactic| first
  | ((with_reducible apply px_var); exact rfl)
  | with_reducible exact px_c
  | ((with_reducible apply px_op); walk_at "px"; walk_at "px"; walk_at "pr")
  | ((with_reducible apply px_cb); walk_at "pa"; walk_at "pr")
  | ((with_reducible apply px_test); walk_at "px")
  | ((with_reducible apply px_B); walk_at "px")
  | ((with_reducible apply px_and); walk_at "px"; walk_at "px"))
local macro_rules | `(tactic| walk_at "pa") => `(tactic| first
  | with_reducible exact px_nil
  | ((with_reducible apply px_cons); walk_at "px"; walk_at "pa"))
local macro_rules | `(tactic| walk_at "pr") => `(tactic| first
  | exact px_addI
  | (apply px_ix; assumption; exact rfl)
  | (apply px_ix; assumption; assumption)
  | exact px_eqI
  | exact fun Q q => ⟨_, _, rfl, rfl, q⟩
  | exact fun Q q => ⟨_, _, rfl, rfl, (Or.inr ⟨by decide, by decide⟩), q⟩
  | exact fun Q q => ⟨_, _, rfl, rfl, (Or.inl ⟨by omega, by omega⟩), q⟩
  | exact fun Q q => ⟨_, _, rfl, rfl, (Or.inr ⟨by omega, by omega⟩), q⟩
  | exact fun Q q => ⟨_, _, rfl, rfl, ⟨by decide, by decide⟩, q⟩
  | exact fun Q q => ⟨_, _, rfl, rfl, ⟨by omega, by omega⟩, q⟩
  | exact fun Q q => ⟨_, _, rfl, rfl, ⟨by decide, by decide, by decide⟩, q⟩
  | exact fun Q q => ⟨_, _, rfl, rfl, (by decide), q⟩
  | exact fun Q q => ⟨_, _, rfl, rfl, (by omega), q⟩
  | (apply px_len; assumption)
  | exact px_intI
  | exact px_abs)
local macro_rules | `(tactic| walk_at "fg") => `(tactic| repeat first | exact Fg.nil | apply Fg.keep | apply Fg.drop)
section
variable {P : Program} {w : World} {K : PySem.W.Frag} {mg : Str → Option Value} {base : Heap} {pre : Ml → Own → List D → Prop} {post px : Own → List D → Own → D → Prop}
theorem fn_runWXD {x qual : Str} {st : Stmt} {f : Addr} {fd : FuncData} {N ps : List Str} {k : Nat} {dvs : List V} {kws : List (Str × V)} (F : FunD K x qual (defArgs st) (defBody st) (defScope st) dvs kws f fd) (S : FnScope N ps (defScope st)) (hl : ∀ M o as, pre M o as → as.length = ps.length)
    (body : ∀ (X : Cx) (cdv : Value) (A : Around) (outer : List Env) (s : Shared) (H : Hp) (E : XK), X = cxOf (L2.CX P w) P w K mg base N qual (defScope st) f cdv A outer s H E → Room k (A.deeper (envOfC qual (defScope st) s.heap.objs.size f cdv)) → Takes X (fun c d _ H => E c d H) →
      ∃ t, PSs (cxOf (L2.CX P w) P w K mg base N qual (defScope st) f cdv A outer s H E) (defBody st) t ∧
        ∀ (M : Ml) o as, pre M o as → RunW K (mfnW K M E (px o as)) o (as.map some ++ List.replicate (N.length - as.length) none) t { nx := fun o' _ => post o as o' .non, rt := post o as }) : FnOk P w K mg base (L2.CX P w) (k + 1) f fd ps (spW K pre post px) := by
  refine F.ok (CX := L2.CX P w) S (fun vs H Q E h => spW_len hl h) (fun cdv A outer s H vs Q E hr h => ?_)
  obtain ⟨t, ht, hrun⟩ := body _ cdv A outer s H E rfl hr (takes_of (X := cxOf (L2.CX P w) P w K mg base N qual (defScope st) f cdv A outer s H E) rfl rfl rfl rfl)
  exact ⟨t, ht, spW_run hrun h⟩
end
section
variable {P : Program} {w : World} {K : PySem.W.Frag} {mg : Str → Option Value} {base : Heap}
/-! ### is_integer -/
def preIz (_ : Ml) (as : List D) : Prop := ∃ d, as = [d] ∧ ((∃ i, d = .int i) ∨ ∃ x, d = .str x)
def postIz (as : List D) (r : D) : Prop := (∀ i, as = [.int i] → r = .bl true) ∧ ∀ x, as = [.str x] → r = .bl false
theorem ok_isinteger (T : Tx K mg) : FnOk P w K mg base CX0 1 T.f_is_integer T.fd_is_integer ["value"] (spF K preIz postIz) := by
  refine fn_run T.F_is_integer sc_isinteger (fun M as ⟨_, e, _⟩ => by rw [e]; rfl) (fun cdv A outer s H E hr => ⟨_, (pss_one (ps_ret (pe_and (pe_callB (q_isi (K := K)) (by rfl) T.b_isinstance bt_isinstance (pa_cons (pv 0) (pa_cons (pe_ty bt_int T.b_int) pa_nil))) (pe_one (pe_not (pe_callB (q_isi (K := K)) (by rfl) T.b_isinstance bt_isinstance (pa_cons (pv 0) (pa_cons (pe_ty bt_bool T.b_bool) pa_nil)))))))), fun M as ⟨d, e, h⟩ => ?_⟩)
  subst e
  show Run K M [some d] _ _
  rcases h with ⟨i, rfl⟩ | ⟨x, rfl⟩
  · apply run_ret1
    · walk_at "ev"
    · exact ⟨fun i e => rfl, fun x e => by cases e⟩
  · apply run_ret1
    · walk_at "ev"
    · exact ⟨fun i e => (by cases e), fun x e => rfl⟩
/-! ### greatest_divisor -/
def preGd (_ : Ml) (as : List D) : Prop := ∃ i j : Int, as = [.int i, .int j]
def postGd (as : List D) (r : D) : Prop := ∀ i j : Int, as = [.int i, .int j] → r = .int (gz i j)
theorem ok_gd (T : Tx K mg) : FnOk P w K mg base CX0 1 T.f_greatest_divisor T.fd_greatest_divisor ["one", "other"] (spF K preGd postGd) := by
  refine fn_run T.F_greatest_divisor sc_greatestdivisor (fun M as ⟨_, _, e⟩ => by rw [e]; rfl) (fun cdv A outer s H E hr => ⟨_, (pss_cons (ps_par rfl sc_greatestdivisor.nd (i := 2) (j := 3) rfl rfl (by decide) rfl rfl (pa_cons (pe_callB call_abs (by rfl) T.b_abs bt_abs (pa_cons (pv 0) pa_nil)) (pa_cons (pe_callB call_abs (by rfl) T.b_abs bt_abs (pa_cons (pv 1) pa_nil)) pa_nil)) (by rfl))
  (pss_cons (ps_while PassesOwn.never (pt_cmpR op_ne (pv 2) pe_int (nomark _)) (pss_one (ps_par rfl sc_greatestdivisor.nd (i := 2) (j := 3) rfl rfl (by decide) rfl rfl (pa_cons (pe_op op_modN (pv 3) (pv 2)) (pa_cons (pv 2) pa_nil)) (by rfl))))
  (pss_one (ps_ret (pv 3))))), fun M as ⟨i, j, e⟩ => ?_⟩)
  subst e
  show Run K M [some (.int i), some (.int j), none, none] _ _
  refine run_seq (run_par (ea_cons (ev_cb1 (ea1 (ev_var rfl) ea_nil) cd_absI) (ea_cons (ev_cb1 (ea1 (ev_var rfl) ea_nil) cd_absI) ea_nil)) fun l ⟨a, r, e1, ea, b, r2, e2, eb, e3⟩ => ⟨a, b, by rw [e1, e2, e3], ?_⟩)
  rw [ea, eb, abs_nat, abs_nat]
  show Run K M [some (.int i), some (.int j), some (.int i.natAbs), some (.int j.natAbs)] _ _
  refine run_w (runw_seq (runw_while (fun n o' ds' => o' = [] ∧ ∃ h : Nat, ds' = [some (.int i), some (.int j), some (.int (n : Nat)), some (.int (h : Nat))] ∧ Nat.gcd n h = Int.gcd i j) ⟨i.natAbs, rfl, j.natAbs, rfl, rfl⟩ fun n o' ds' ⟨eo, h, ed, hg⟩ => ?_))
  subst eo ed
  refine ⟨fun o2 b => o2 = [] ∧ b = !decide ((n : Int) = 0), etw_of (et_B (ev_op1 (ev_var rfl) ev_cint od_neI)), fun o2 ⟨e, hb⟩ => ?_, fun o2 ⟨e, hb⟩ => ?_⟩
  · subst e
    have hn : n = 0 := by
      have : decide ((n : Int) = 0) = true := by simpa using hb
      have := of_decide_eq_true this
      omega
    subst hn
    refine runw_ret ((evw_of (ev_var rfl)).weak fun o' d ⟨eo, ed⟩ => ⟨eo, fun i' j' e => ?_⟩)
    cases e
    rw [ed]
    unfold gz
    rw [← hg, Nat.gcd_zero_left]
  · subst e
    have hn : 0 < n := by
      have : decide ((n : Int) = 0) = false := by simpa using hb
      have := of_decide_eq_false this
      omega
    refine runw_par (R := fun o' l => o' = [] ∧ l = [.int ((h : Int).fmod (n : Int)), .int (n : Nat)]) (eaw_cons (evw_of (ev_op1 (ev_var rfl) (ev_var rfl) (od_modI (by omega)))) fun o' d ⟨eo, ed⟩ => ?_) fun o' l ⟨eo, el⟩ => ⟨_, _, el, ?_⟩
    · subst eo ed
      exact eaw_cons (evw_of (ev_var rfl)) fun o' d ⟨eo, ed⟩ => by
        subst eo ed
        exact fun M' σ G H Q mm s w q => eaw_nil M' σ G H Q mm s w fun vs as o' G' H' s' w' r' ⟨e1, e2⟩ => q vs as o' G' H' s' w' r' ⟨e1, by rw [e2]⟩
    · subst eo
      rw [fmod_nat]
      exact ⟨h % n, Nat.mod_lt _ hn, rfl, n, rfl, by rw [← Nat.gcd_rec]; exact hg⟩
theorem ev_gd (T : Tx K mg) {M : Mt} {ds : DS} {ta tb : TE} {i j : Int} {E : XK} (ha : Ev K M ds ta (· = .int i)) (hb : Ev K M ds tb (· = .int j)) : Ev K M ds (tCall (spF K preGd postGd) [] E (tCons ta (tCons tb tNil))) (· = .int (gz i j)) :=
  (ev_call1 (ea1 ha (ea1 hb ea_nil)) fun _ _ => ⟨i, j, rfl⟩).weak fun r q => q i j rfl
/-! ### fractions -/
abbrev rN : List Str := ["top", "bottom"]
abbrev ratO (T : Tx K mg) (p q : Int) : D := .obj T.c_Ratio rN [.int p, .int q]
theorem rat_inj {T : Tx K mg} {p q p' q' : Int} (h : ratO T p q = ratO T p' q') : p = p' ∧ q = q' := by
  injection h with _ _ h
  injection h with h1 h
  injection h with h2 _
  injection h1 with h1
  injection h2 with h2
  exact ⟨h1, h2⟩
/-- a fraction or a number -/
def Num (T : Tx K mg) (d : D) (p q : Int) : Prop := d = ratO T p q ∨ (d = .int p ∧ q = 1)
theorem Num.inj {T : Tx K mg} {d : D} {p q p' q' : Int} (h : Num T d p q) (h' : Num T d p' q') : p = p' ∧ q = q' := by
  rcases h with rfl | ⟨rfl, rfl⟩
  · rcases h' with e | ⟨e, _⟩
    · exact rat_inj e
    · cases e
  · rcases h' with e | ⟨e, e1⟩
    · cases e
    · injection e with e
      exact ⟨e, e1.symm⟩
def prePo (T : Tx K mg) (_ : Ml) (as : List D) : Prop := ∃ d p q, as = [d] ∧ Num T d p q
def postPo (T : Tx K mg) (as : List D) (r : D) : Prop := ∀ d p q, as = [d] → Num T d p q → r = .tup [.int p, .int q]
theorem ok_pairof (T : Tx K mg) : FnOk P w K mg base CX0 1 T.f_pair_of T.fd_pair_of ["value"] (spF K (prePo T) (postPo T)) := by
  refine fn_run T.F_pair_of sc_pairof (fun M as ⟨_, _, _, e, _⟩ => by rw [e]; rfl) (fun cdv A outer s H E hr => ⟨_, (pss_one (ps_ret (pe_ifExp (pt_val (pe_callB (q_isiU (K := K)) (by rfl) T.b_isinstance bt_isinstance (pa_cons (pv 0) (pa_cons (pe_cls rfl T.m_Ratio) pa_nil)))) (pe_tup (pa_cons (q_fld (K := K) (pv 0)) (pa_cons (q_fld (K := K) (pv 0)) pa_nil))) (pe_tup (pa_cons (pv 0) (pa_cons pe_int pa_nil)))))), fun M as ⟨d, p, q, e, h⟩ => ?_⟩)
  subst e
  show Run K M [some d] _ _
  have key : ∀ r, r = .tup [.int p, .int q] → postPo T [d] r := fun r hr d' p' q' e h' => by
    cases e
    obtain ⟨rfl, rfl⟩ := h.inj h'
    exact hr
  rcases h with rfl | ⟨rfl, rfl⟩
  · have c := T.oc_Ratio.toCls
    exact run_ret1 (ev_ifT (et_test (ev_cb1 (ea1 (ev_var rfl) (ea1 ev_craw ea_nil)) (cd_isO (.own T.oc_Ratio) (.own _) T.ki_Ratio_Ratio))) rfl (ev_tup1 (ea1 (ev_fld (ev_var rfl) c T.no_Ratio_top rfl) (ea1 (ev_fld (ev_var rfl) c T.no_Ratio_bottom rfl) ea_nil)) (Nat.le_of_ble_eq_true rfl))) (key _ rfl)
  · exact run_ret1 (ev_ifF (et_test (ev_cb1 (ea1 (ev_var rfl) (ea1 ev_craw ea_nil)) (cd_isO (.plain rfl) (.own _) T.ki_int_Ratio))) rfl (ev_tup1 (ea1 (ev_var rfl) (ea1 ev_cint ea_nil)) (Nat.le_of_ble_eq_true rfl))) (key _ rfl)
theorem ev_pairof (T : Tx K mg) {M : Mt} {ds : DS} {ta : TE} {d : D} {p q : Int} {E : XK} (ha : Ev K M ds ta (· = d)) (h : Num T d p q) : Ev K M ds (tCall (spF K (prePo T) (postPo T)) [] E (tCons ta tNil)) (· = .tup [.int p, .int q]) :=
  (ev_call1 (ea1 ha ea_nil) fun _ _ => ⟨d, p, q, rfl, h⟩).weak fun r z => z d p q rfl h
/-! ### Ratio.__init__ -/
def Sz (i : Int) : Prop := i.natAbs < 2 ^ 63
def preRi (T : Tx K mg) (_ : Ml) (o : Own) (as : List D) : Prop := ∃ p t b, o = [(p, .ins T.c_Ratio [])] ∧ as = [.raw (.ref p), .int t, .int b] ∧ Sz b
def postRi (T : Tx K mg) (o : Own) (as : List D) (o' : Own) (r : D) : Prop := ∀ p t b, o = [(p, .ins T.c_Ratio [])] → as = [.raw (.ref p), .int t, .int b] → b ≠ 0 ∧ r = .non ∧ o' = [(p, .ins T.c_Ratio [("top", .int (rT t b)), ("bottom", .int (rB t b))])]
abbrev xZD : D := .raw (.ty "ZeroDivisionError")
def pxRi (T : Tx K mg) (_ : Own) (as : List D) (_ : Own) (x : D) : Prop := ∀ d t b, as = [d, .int t, .int b] → b = 0 ∧ x = xZD
theorem sz_div {t b : Int} (h : b ≠ 0) (hb : Sz b) : CDivZ t (byG t b) ∧ CDivZ b (byG t b) := by
  have h1 := gz_le t h
  have h2 : (byG t b).natAbs < 2 ^ 63 := by
    unfold byG
    unfold Sz at hb
    split <;> omega
  have h3 := log2_ok9 h2 (by decide)
  exact ⟨⟨by_ne h, h3⟩, ⟨by_ne h, h3⟩⟩
theorem ok_ratioinit (T : Tx K mg) : FnOk P w K mg base (L2.CX P w) 2 T.f_Ratioinit T.fd_Ratioinit ["self", "top", "bottom"] (spW K (preRi T) (postRi T) (pxRi T)) := by
  have G_greatestdivisor := ok_gd (P := P) (w := w) (base := base) T
  have B_greatestdivisor := Bd_greatestdivisor T
  refine fn_runWXD T.FD_Ratioinit sc_Ratioinit (fun M o as ⟨_, _, _, _, e, _⟩ => by rw [e]; rfl) (fun X cdv A outer s H E eX hr tk => ?_)
  subst eX
  refine ⟨_, (pss_cons (ps_if (pt_cmpR op_eq (pv 2) pe_int (nomark _)) (pss_one (ps_raiseB rfl tk exb_ZeroDivisionError (by rfl) T.b_ZeroDivisionError boot_ZeroDivisionError)) pss_nil)
  (pss_cons (ps_set (i := 3) sc_Ratioinit.nd rfl (Or.inl rfl) (pe_ifExp (pt_cmpR op_gt (pv 2) pe_int (nomark _)) (pe_call G_greatestdivisor (hr.mono (by decide)) (by rfl) T.m_greatest_divisor T.F_greatest_divisor.kp B_greatestdivisor .nil pass0 (pa_cons (pv 1) (pa_cons (pv 2) pa_nil))) (pe_un un_neg (pe_call G_greatestdivisor (hr.mono (by decide)) (by rfl) T.m_greatest_divisor T.F_greatest_divisor.kp B_greatestdivisor .nil pass0 (pa_cons (pv 1) (pa_cons (pv 2) pa_nil))))))
  (pss_cons (ps_fld (pv 0) (pe_op op_fdivZ (pv 1) (pv 3)) rfl)
  (pss_one (ps_fld (pv 0) (pe_op op_fdivZ (pv 2) (pv 3)) rfl))))), fun M o as ⟨p, t, b, eo, e, hb⟩ => ?_⟩
  subst e; subst eo
  show RunW K _ [(p, .ins T.c_Ratio [])] [some (.raw (.ref p)), some (.int t), some (.int b), none] _ _
  refine runw_seq (runw_if1 (et_B (ev_op1 (ev_var rfl) ev_cint od_eqI)) (fun e => ?_) fun e => runw_next ?_)
  · refine runw_raiseB (o2 := []) rfl (List.nil_sublist _) (exkw_fn fun d t' b' e' => ?_)
    cases e'
    exact ⟨by simpa using e, rfl⟩
  have h0 : b ≠ 0 := by simpa using e
  obtain ⟨c1, c2⟩ := sz_div (t := t) h0 hb
  refine runw_asg (evw_of (R := (· = .int (byG t b))) ?_) fun o' d ⟨eo, ed⟩ => ?_
  · by_cases hp : 0 < b
    · refine ev_eq (ev_ifT (et_B (ev_op1 (ev_var rfl) ev_cint od_gtI)) (decide_eq_true hp) (ev_gd T (ev_var rfl) (ev_var rfl))) ?_
      unfold byG
      rw [if_pos hp]
    · refine ev_eq (ev_ifF (et_B (ev_op1 (ev_var rfl) ev_cint od_gtI)) (decide_eq_false hp) (ev_un1 (ev_gd T (ev_var rfl) (ev_var rfl)) ud_neg)) ?_
      unfold byG
      rw [if_neg hp]
  subst eo ed
  have c := T.oc_Ratio.toCls
  refine runw_seq (runw_fld (ev_eq (ev_op1 (ev_var rfl) (ev_var rfl) (od_fdivZ c1)) (by rw [by_top h0])) (ev_var rfl) c T.no_Ratio_top (by decide) ?_)
  refine runw_fld (ev_eq (ev_op1 (ev_var rfl) (ev_var rfl) (od_fdivZ c2)) (by rw [by_bot h0])) (ev_var rfl) c T.no_Ratio_bottom (Nat.lt_of_le_of_lt (put_len _ _ _) (by decide)) ?_
  intro p' t' b' eo' e'
  cases e'
  cases eo'
  exact ⟨h0, rfl, rfl⟩
theorem B_ratio3 (T : Tx K mg) : Binds K T.fd_Ratioinit ["self", "top", "bottom"] [] := by
  obtain ⟨ds, hv, hb⟩ := T.FD_Ratioinit.binds1 (ps := ["self", "top", "bottom"]) 3 1 (by simp) rfl fun T' kV doc pm an cdv ct us its hl hi => by
    match us, its, hl, hi with
    | [a, b, c], [d], _, _ => exact ⟨_, rfl, rfl⟩
  cases hv
  exact hb
theorem B_ratio2 (T : Tx K mg) : ∃ v : Value, RelV (.int 1) v ∧ Binds K T.fd_Ratioinit ["self", "top", "bottom"] [v] := by
  obtain ⟨ds, hv, hb⟩ := T.FD_Ratioinit.binds1 (ps := ["self", "top", "bottom"]) 2 0 (by simp) rfl fun T' kV doc pm an cdv ct us its hl hi => by
    match us, its, hl, hi with
    | [a, b], [d], _, _ => exact ⟨_, rfl, rfl⟩
  cases hv with
  | cons r hr =>
    cases hr
    exact ⟨_, r, hb⟩
end
end L43
namespace L43
open PySem L2 TL Rg RZ PyProof.Rows
local macro_rules | `(tactic| walk_at "ev") => `(tactic| first
  | with_reducible assumption
  | ((with_reducible apply ev_var); exact rfl)
  | with_reducible exact ev_cint
  | with_reducible exact ev_cbl
  | with_reducible exact ev_cnon
  | with_reducible exact ev_cstr
  | ((with_reducible apply ev_c); with_reducible assumption)
  | with_reducible exact ev_craw
  | ((with_reducible apply ev_tup1); walk_at "ea"; exact Nat.le_of_ble_eq_true rfl)
  | ((with_reducible apply ev_lst1); walk_at "ea"; exact Nat.le_of_ble_eq_true rfl)
  | ((with_reducible apply ev_op1); walk_at "ev"; walk_at "ev"; walk_at "od")
  | ((with_reducible apply ev_un1); walk_at "ev"; exact ud_neg)
  | ((with_reducible apply ev_isSeq); walk_at "ev"; walk_at "ea"; exact rfl; exact rfl)
  | ((with_reducible apply ev_cb1); walk_at "ea"; walk_at "cd")
  | ((with_reducible apply ev_chainB); walk_at "ev"; walk_at "ev"; walk_at "od"; walk_at "ev"; walk_at "od")
  | ((with_reducible apply ev_andF); walk_at "ev"; exact rfl)
  | ((with_reducible apply ev_andT); walk_at "ev"; exact rfl; walk_at "ev")
  | ((with_reducible apply ev_andB); walk_at "ev"; intro _; walk_at "ev")
  | ((with_reducible apply ev_orT); walk_at "ev"; exact rfl)
  | ((with_reducible apply ev_orF); walk_at "ev"; exact rfl; walk_at "ev")
  | ((with_reducible apply ev_orB); walk_at "ev"; intro _; walk_at "ev")
  | ((with_reducible apply ev_notV); walk_at "ev"))
local macro_rules | `(tactic| walk_at "et") => `(tactic| first
  | ((with_reducible apply et_B); walk_at "ev")
  | ((with_reducible apply et_test); walk_at "ev")
  | ((with_reducible apply et_not); walk_at "et")
  | ((with_reducible apply et_orT); walk_at "et"; exact rfl)
  | ((with_reducible apply et_orF); walk_at "et"; exact rfl; walk_at "et")
  | ((with_reducible apply et_or); walk_at "et"; intro _; walk_at "et")
  | ((with_reducible apply et_andF); walk_at "et"; exact rfl)
  | ((with_reducible apply et_andT); walk_at "et"; exact rfl; walk_at "et")
  | ((with_reducible apply et_and); walk_at "et"; intro _; walk_at "et"))
local macro_rules | `(tactic| walk_at "ea") => `(tactic| first
  | with_reducible exact ea_nil
  | ((with_reducible apply ea1); walk_at "ev"; walk_at "ea"))
local macro_rules | `(tactic| walk_at "od") => `(tactic| first
  | with_reducible exact od_addI
  | with_reducible exact od_subI
  | ((with_reducible apply od_addS); (try simp only [PySem.Str.length_append]); omega)
  | ((with_reducible apply od_catL); exact Nat.le_of_ble_eq_true rfl)
  | ((with_reducible apply od_modI); first | decide | omega)
  | ((with_reducible apply od_mulI); first | (exact Or.inr ⟨by decide, by decide⟩) | (exact Or.inl ⟨by decide, by decide⟩) | (exact Or.inl ⟨by omega, by omega⟩) | (exact Or.inr ⟨by omega, by omega⟩))
  | ((with_reducible apply od_divI); first | (exact ⟨by decide, by decide⟩) | (exact ⟨by omega, by omega⟩))
  | ((with_reducible apply od_powI); exact ⟨by decide, by decide, by decide⟩)
  | with_reducible exact od_leI
  | with_reducible exact od_ltI
  | with_reducible exact od_gtI
  | with_reducible exact od_geI
  | with_reducible exact od_eqI
  | with_reducible exact od_eqB
  | with_reducible exact od_neB
  | with_reducible exact od_neI
  | with_reducible exact od_eqS
  | with_reducible exact od_inS
  | ((with_reducible apply od_none); exact rfl)
  | ((with_reducible apply od_ix); exact rfl))
local macro_rules | `(tactic| walk_at "cd") => `(tactic| first
  | ((with_reducible apply cd_isStr); exact rfl)
  | ((with_reducible apply cd_isInt); exact rfl)
  | ((with_reducible apply cd_isBool); exact rfl)
  | ((with_reducible apply cd_isList); exact rfl)
  | ((with_reducible apply cd_isTuple); exact rfl)
  | ((with_reducible apply cd_isi); assumption)
  | ((with_reducible apply cd_len); assumption)
  | ((with_reducible apply cd_len); exact rfl)
  | with_reducible exact cd_intI
  | with_reducible exact cd_listof
  | ((with_reducible apply cd_str); assumption)
  | with_reducible exact cd_all)
local macro_rules | `(tactic| walk_at "px") => `(tactic| first
  | ((with_reducible apply px_var); exact rfl)
  | with_reducible exact px_c
  | ((with_reducible apply px_op); walk_at "px"; walk_at "px"; walk_at "pr")
  | ((with_reducible apply px_cb); walk_at "pa"; walk_at "pr")
  | ((with_reducible apply px_test); walk_at "px")
  | ((with_reducible apply px_B); walk_at "px")
  | ((with_reducible apply px_and); walk_at "px"; walk_at "px"))
local macro_rules | `(tactic| walk_at "pa") => `(tactic| first
  | with_reducible exact px_nil
  | ((with_reducible apply px_cons); walk_at "px"; walk_at "pa"))
local macro_rules | `(tactic| walk_at "pr") => `(tactic| first
  | exact px_addI
  | (apply px_ix; assumption; exact rfl)
  | (apply px_ix; assumption; assumption)
  | exact px_eqI
  | exact fun Q q => ⟨_, _, rfl, rfl, q⟩
  | exact fun Q q => ⟨_, _, rfl, rfl, (Or.inr ⟨by decide, by decide⟩), q⟩
  | exact fun Q q => ⟨_, _, rfl, rfl, (Or.inl ⟨by omega, by omega⟩), q⟩
  | exact fun Q q => ⟨_, _, rfl, rfl, (Or.inr ⟨by omega, by omega⟩), q⟩
  | exact fun Q q => ⟨_, _, rfl, rfl, ⟨by decide, by decide⟩, q⟩
  | exact fun Q q => ⟨_, _, rfl, rfl, ⟨by omega, by omega⟩, q⟩
  | exact fun Q q => ⟨_, _, rfl, rfl, ⟨by decide, by decide, by decide⟩, q⟩
  | exact fun Q q => ⟨_, _, rfl, rfl, (by decide), q⟩
  | exact fun Q q => ⟨_, _, rfl, rfl, (by omega), q⟩
  | (apply px_len; assumption)
  | exact px_intI
  | exact px_abs)
local macro_rules | `(tactic| walk_at "fg") => `(tactic| repeat first | exact Fg.nil | apply Fg.keep | apply Fg.drop)
section
variable {P : Program} {w : World} {K : PySem.W.Frag} {mg : Str → Option Value} {base : Heap}
def Sm (i : Int) : Prop := i.natAbs < 2 ^ 31
theorem Sm.sz {i : Int} (h : Sm i) : Sz i := Nat.lt_trans h (by decide)
theorem Sm.mul {i j : Int} (h : Sm i) (k : Sm j) : (i * j).natAbs < 2 ^ 62 := by
  rw [Int.natAbs_mul]
  have e : (2 : Nat) ^ 62 = 2 ^ 31 * 2 ^ 31 := by decide
  rw [e]
  exact Nat.mul_lt_mul'' h k
theorem sz_of {i : Int} (h : i.natAbs < 2 ^ 62) : Sz i := Nat.lt_trans h (by decide)
theorem ev_rat (T : Tx K mg) {M : Mt} {ds : DS} {ta tb : TE} {t b : Int} {E : XK} (ha : Ev K M ds ta (· = .int t)) (hb : Ev K M ds tb (· = .int b)) (h0 : b ≠ 0) (hz : Sz b) :
    Ev K M ds (tMake T.c_Ratio (spW K (preRi T) (postRi T) (pxRi T)) [] E (tCons ta (tCons tb tNil))) (· = ratO T (rT t b) (rB t b)) :=
  ev_make (RA := (· = [.int t, .int b])) (ea1 ha (ea1 hb ea_nil)) fun p as e => by
    subst e
    refine ⟨fun M' _ => ⟨p, t, b, rfl, rfl, hz⟩, fun o' d h => ?_, fun o' y h => ?_⟩
    · obtain ⟨_, h2, h3⟩ := h p t b rfl rfl
      exact ⟨h2, _, h3, rfl⟩
    · exact absurd (h _ t b rfl).1 h0
/-- the bottom is 0: it raises -/
theorem ev_ratX (T : Tx K mg) {M : Mt} {ds : DS} {ta tb : TE} {t b : Int} {E : XK} {R : D → Prop} (ha : Ev K M ds ta (· = .int t)) (hb : Ev K M ds tb (· = .int b)) (hz : Sz b) (hR : b ≠ 0 → R (ratO T (rT t b) (rB t b))) (hx : b = 0 → M.W = (fun c d _ H => E c d H) ∧ Exk K M xZD ds) :
    Ev K M ds (tMake T.c_Ratio (spW K (preRi T) (postRi T) (pxRi T)) [] E (tCons ta (tCons tb tNil))) R :=
  ev_make (RA := (· = [.int t, .int b])) (ea1 ha (ea1 hb ea_nil)) fun p as e => by
    subst e
    refine ⟨fun M' _ => ⟨p, t, b, rfl, rfl, hz⟩, fun o' d h => ?_, fun o' y h => ?_⟩
    · obtain ⟨h1, h2, h3⟩ := h p t b rfl rfl
      exact ⟨h2, _, h3, hR h1⟩
    · obtain ⟨h1, h2⟩ := h _ t b rfl
      subst h2
      exact hx h1
/-! ### one fraction -/
def preOne (T : Tx K mg) (_ : Ml) (as : List D) : Prop := ∃ p q, as = [ratO T p q] ∧ Lowest p q ∧ Sz p ∧ Sz q
def postI (T : Tx K mg) (f : Int → Int → Int) (as : List D) (r : D) : Prop := ∀ p q, as = [ratO T p q] → r = .int (f p q)
def postR (T : Tx K mg) (f : Int → Int → Int) (as : List D) (r : D) : Prop := ∀ p q, as = [ratO T p q] → r = ratO T (f p q) q
theorem div_ok {p q : Int} (h : Lowest p q) (hq : Sz q) (t : Int) : CDivZ t q := ⟨by have := h.pos; omega, log2_ok9 hq (by decide)⟩
theorem one_key {T : Tx K mg} {p q : Int} {f : Int → Int → D} {r : D} (h : r = f p q) : ∀ p' q', [ratO T p q] = [ratO T p' q'] → r = f p' q' := fun p' q' e => by
  injection e with e
  obtain ⟨rfl, rfl⟩ := rat_inj e
  exact h
theorem ok_floor (T : Tx K mg) : FnOk P w K mg base CX0 1 T.f_Ratiofloor T.fd_Ratiofloor ["self"] (spF K (preOne T) (postI T fun p q => p.fdiv q)) := by
  refine fn_run T.F_Ratiofloor sc_Ratiofloor (fun M as ⟨_, _, e, _⟩ => by rw [e]; rfl) (fun cdv A outer s H E hr => ⟨_, (pss_one (ps_ret (pe_op op_fdivZ (q_fld (K := K) (pv 0)) (q_fld (K := K) (pv 0))))), fun M as ⟨p, q, e, h, hp, hq⟩ => ?_⟩)
  subst e
  show Run K M [some (ratO T p q)] _ _
  have c := T.oc_Ratio.toCls
  have tp : ∀ {M : Mt} {ds : DS}, ds[0]? = some (some (ratO T p q)) → Ev K M ds (tFld K (tVar 0) "top") (· = .int p) := fun h => ev_fld (ev_var h) c T.no_Ratio_top rfl
  have bo : ∀ {M : Mt} {ds : DS}, ds[0]? = some (some (ratO T p q)) → Ev K M ds (tFld K (tVar 0) "bottom") (· = .int q) := fun h => ev_fld (ev_var h) c T.no_Ratio_bottom rfl
  have hpos := h.pos
  exact run_ret1 (ev_op1 (tp rfl) (bo rfl) (od_fdivZ (div_ok h hq _))) (one_key (f := fun p q => .int (p.fdiv q)) rfl)
theorem ok_ceiling (T : Tx K mg) : FnOk P w K mg base CX0 1 T.f_Ratioceiling T.fd_Ratioceiling ["self"] (spF K (preOne T) (postI T fun p q => -((-p).fdiv q))) := by
  refine fn_run T.F_Ratioceiling sc_Ratioceiling (fun M as ⟨_, _, e, _⟩ => by rw [e]; rfl) (fun cdv A outer s H E hr => ⟨_, (pss_one (ps_ret (pe_un un_neg (pe_op op_fdivZ (pe_un un_neg (q_fld (K := K) (pv 0))) (q_fld (K := K) (pv 0)))))), fun M as ⟨p, q, e, h, hp, hq⟩ => ?_⟩)
  subst e
  show Run K M [some (ratO T p q)] _ _
  have c := T.oc_Ratio.toCls
  have tp : ∀ {M : Mt} {ds : DS}, ds[0]? = some (some (ratO T p q)) → Ev K M ds (tFld K (tVar 0) "top") (· = .int p) := fun h => ev_fld (ev_var h) c T.no_Ratio_top rfl
  have bo : ∀ {M : Mt} {ds : DS}, ds[0]? = some (some (ratO T p q)) → Ev K M ds (tFld K (tVar 0) "bottom") (· = .int q) := fun h => ev_fld (ev_var h) c T.no_Ratio_bottom rfl
  have hpos := h.pos
  exact run_ret1 (ev_un1 (ev_op1 (ev_un1 (tp rfl) ud_neg) (bo rfl) (od_fdivZ (div_ok h hq _))) ud_neg) (one_key (f := fun p q => .int (-((-p).fdiv q))) rfl)
theorem ok_neg (T : Tx K mg) : FnOk P w K mg base CX0 4 T.f_Rationeg T.fd_Rationeg ["self"] (spF K (preOne T) (postR T fun p _ => -p)) := by
  have G_Ratioinit := ok_ratioinit (P := P) (w := w) (base := base) T
  have B_Ratioinit := B_ratio3 T
  refine fn_run T.F_Rationeg sc_Rationeg (fun M as ⟨_, _, e, _⟩ => by rw [e]; rfl) (fun cdv A outer s H E hr => ⟨_, (pss_one (ps_ret (pe_make T.mk_Ratio G_Ratioinit (hr.mono (by decide)) (by rfl) T.m_Ratio B_Ratioinit .nil passF (pa_cons (pe_un un_neg (q_fld (K := K) (pv 0))) (pa_cons (q_fld (K := K) (pv 0)) pa_nil))))), fun M as ⟨p, q, e, h, hp, hq⟩ => ?_⟩)
  subst e
  show Run K M [some (ratO T p q)] _ _
  have c := T.oc_Ratio.toCls
  have tp : ∀ {M : Mt} {ds : DS}, ds[0]? = some (some (ratO T p q)) → Ev K M ds (tFld K (tVar 0) "top") (· = .int p) := fun h => ev_fld (ev_var h) c T.no_Ratio_top rfl
  have bo : ∀ {M : Mt} {ds : DS}, ds[0]? = some (some (ratO T p q)) → Ev K M ds (tFld K (tVar 0) "bottom") (· = .int q) := fun h => ev_fld (ev_var h) c T.no_Ratio_bottom rfl
  have hpos := h.pos
  obtain ⟨e1, e2⟩ := red_self h.neg
  refine run_ret1 (ev_rat T (ev_un1 (tp rfl) ud_neg) (bo rfl) (by omega) hq) (one_key (f := fun p q => ratO T (-p) q) (by rw [e1, e2]))
theorem ok_abs (T : Tx K mg) : FnOk P w K mg base CX0 4 T.f_Ratioabs T.fd_Ratioabs ["self"] (spF K (preOne T) (postR T fun p _ => if p < 0 then -p else p)) := by
  have G_Ratioinit := ok_ratioinit (P := P) (w := w) (base := base) T
  have B_Ratioinit := B_ratio3 T
  refine fn_run T.F_Ratioabs sc_Ratioabs (fun M as ⟨_, _, e, _⟩ => by rw [e]; rfl) (fun cdv A outer s H E hr => ⟨_, (pss_one (ps_ret (pe_make T.mk_Ratio G_Ratioinit (hr.mono (by decide)) (by rfl) T.m_Ratio B_Ratioinit .nil passF (pa_cons (pe_callB call_abs (by rfl) T.b_abs bt_abs (pa_cons (q_fld (K := K) (pv 0)) pa_nil)) (pa_cons (q_fld (K := K) (pv 0)) pa_nil))))), fun M as ⟨p, q, e, h, hp, hq⟩ => ?_⟩)
  subst e
  show Run K M [some (ratO T p q)] _ _
  have c := T.oc_Ratio.toCls
  have tp : ∀ {M : Mt} {ds : DS}, ds[0]? = some (some (ratO T p q)) → Ev K M ds (tFld K (tVar 0) "top") (· = .int p) := fun h => ev_fld (ev_var h) c T.no_Ratio_top rfl
  have bo : ∀ {M : Mt} {ds : DS}, ds[0]? = some (some (ratO T p q)) → Ev K M ds (tFld K (tVar 0) "bottom") (· = .int q) := fun h => ev_fld (ev_var h) c T.no_Ratio_bottom rfl
  have hpos := h.pos
  obtain ⟨e1, e2⟩ := red_self h.abs
  refine run_ret1 (ev_rat T (ev_cb1 (ea1 (tp rfl) ea_nil) cd_absI) (bo rfl) (by omega) hq) (one_key (f := fun p q => ratO T (if p < 0 then -p else p) q) (by rw [e1, e2]))
/-! ### fraction and fraction or number -/
def preOp (T : Tx K mg) (_ : Ml) (as : List D) : Prop := ∃ p q d p2 q2, as = [ratO T p q, d] ∧ Num T d p2 q2 ∧ 0 < q ∧ 0 < q2 ∧ Sm p ∧ Sm q ∧ Sm p2 ∧ Sm q2
def postOp (T : Tx K mg) (f : Int → Int → Int → Int → D) (as : List D) (r : D) : Prop := ∀ p q d p2 q2, as = [ratO T p q, d] → Num T d p2 q2 → r = f p q p2 q2
theorem op_key {T : Tx K mg} {p q p2 q2 : Int} {d : D} {f : Int → Int → Int → Int → D} {r : D} (hn : Num T d p2 q2) (h : r = f p q p2 q2) : postOp T f [ratO T p q, d] r := fun p' q' d' p2' q2' e hn' => by
  injection e with e e2
  injection e2 with e2
  subst e2
  obtain ⟨rfl, rfl⟩ := rat_inj e
  obtain ⟨rfl, rfl⟩ := hn.inj hn'
  exact h
def redD (T : Tx K mg) (t b : Int) : D := ratO T (rT t b) (rB t b)
theorem ok_add (T : Tx K mg) : FnOk P w K mg base CX0 4 T.f_Ratioadd T.fd_Ratioadd ["self", "other"] (spF K (preOp T) (postOp T fun p q p2 q2 => redD T (p * q2 + p2 * q) (q * q2))) := by
  have G_pairof := ok_pairof (P := P) (w := w) (base := base) T
  have B_pairof := Bd_pairof T
  have G_Ratioinit := ok_ratioinit (P := P) (w := w) (base := base) T
  have B_Ratioinit := B_ratio3 T
  refine fn_run T.F_Ratioadd sc_Ratioadd (fun M as ⟨_, _, _, _, _, e, _⟩ => by rw [e]; rfl) (fun cdv A outer s H E hr => ⟨_, (pss_cons (ps_asg (pe_call G_pairof (hr.mono (by decide)) (by rfl) T.m_pair_of T.F_pair_of.kp B_pairof .nil pass0 (pa_cons (pv 1) pa_nil)) (q_tup (K := K) (n := 2) rfl (pgs_cons (pg_name (i := 2) sc_Ratioadd.nd rfl (Or.inl rfl)) (pgs_cons (pg_name (i := 3) sc_Ratioadd.nd rfl (Or.inl rfl)) pgs_nil))))
  (pss_one (ps_ret (pe_make T.mk_Ratio G_Ratioinit (hr.mono (by decide)) (by rfl) T.m_Ratio B_Ratioinit .nil passF (pa_cons (pe_op (q_add (K := K)) (pe_op op_mul (q_fld (K := K) (pv 0)) (pv 3)) (pe_op op_mul (pv 2) (q_fld (K := K) (pv 0)))) (pa_cons (pe_op op_mul (q_fld (K := K) (pv 0)) (pv 3)) pa_nil)))))), fun M as ⟨p, q, d, p2, q2, e, hn, hq0, hq20, hp, hq, hp2, hq2⟩ => ?_⟩)
  subst e
  have c := T.oc_Ratio.toCls
  have tp : ∀ {M : Mt} {ds : DS}, ds[0]? = some (some (ratO T p q)) → Ev K M ds (tFld K (tVar 0) "top") (· = .int p) := fun h => ev_fld (ev_var h) c T.no_Ratio_top rfl
  have bo : ∀ {M : Mt} {ds : DS}, ds[0]? = some (some (ratO T p q)) → Ev K M ds (tFld K (tVar 0) "bottom") (· = .int q) := fun h => ev_fld (ev_var h) c T.no_Ratio_bottom rfl
  have b1 := hq.mul hq2
  have b2 := hq.mul hp2
  have b3 := hp.mul hq2
  have b4 := hp2.mul hq
  have b5 := hp.mul hp2
  have pos := Int.mul_pos hq0 hq20
  unfold Sm at hp hq hp2 hq2
  show Run K M [some (ratO T p q), some d, none, none] _ _
  refine run_seq (run_asgG (R := (· = .tup [.int p2, .int q2])) (ev_pairof T (ev_var rfl) hn) fun d' ed => ?_)
  subst ed
  refine eg_tup (egs_cons (egs_cons (egs_nil ?_)))
  show Run K M [some (ratO T p q), some d, some (.int p2), some (.int q2)] _ _
  exact run_ret1 (ev_rat T (ev_op1 (ev_op1 (tp rfl) (ev_var (i := 3) rfl) (od_mulI (.inl ⟨by omega, by omega⟩))) (ev_op1 (ev_var (i := 2) rfl) (bo rfl) (od_mulI (.inl ⟨by omega, by omega⟩))) od_addI) (ev_op1 (bo rfl) (ev_var (i := 3) rfl) (od_mulI (.inl ⟨by omega, by omega⟩))) (by omega) (sz_of b1)) (op_key (f := fun p q p2 q2 => redD T (p * q2 + p2 * q) (q * q2)) hn rfl)
theorem ok_sub (T : Tx K mg) : FnOk P w K mg base CX0 4 T.f_Ratiosub T.fd_Ratiosub ["self", "other"] (spF K (preOp T) (postOp T fun p q p2 q2 => redD T (p * q2 - p2 * q) (q * q2))) := by
  have G_pairof := ok_pairof (P := P) (w := w) (base := base) T
  have B_pairof := Bd_pairof T
  have G_Ratioinit := ok_ratioinit (P := P) (w := w) (base := base) T
  have B_Ratioinit := B_ratio3 T
  refine fn_run T.F_Ratiosub sc_Ratiosub (fun M as ⟨_, _, _, _, _, e, _⟩ => by rw [e]; rfl) (fun cdv A outer s H E hr => ⟨_, (pss_cons (ps_asg (pe_call G_pairof (hr.mono (by decide)) (by rfl) T.m_pair_of T.F_pair_of.kp B_pairof .nil pass0 (pa_cons (pv 1) pa_nil)) (q_tup (K := K) (n := 2) rfl (pgs_cons (pg_name (i := 2) sc_Ratiosub.nd rfl (Or.inl rfl)) (pgs_cons (pg_name (i := 3) sc_Ratiosub.nd rfl (Or.inl rfl)) pgs_nil))))
  (pss_one (ps_ret (pe_make T.mk_Ratio G_Ratioinit (hr.mono (by decide)) (by rfl) T.m_Ratio B_Ratioinit .nil passF (pa_cons (pe_op op_sub (pe_op op_mul (q_fld (K := K) (pv 0)) (pv 3)) (pe_op op_mul (pv 2) (q_fld (K := K) (pv 0)))) (pa_cons (pe_op op_mul (q_fld (K := K) (pv 0)) (pv 3)) pa_nil)))))), fun M as ⟨p, q, d, p2, q2, e, hn, hq0, hq20, hp, hq, hp2, hq2⟩ => ?_⟩)
  subst e
  have c := T.oc_Ratio.toCls
  have tp : ∀ {M : Mt} {ds : DS}, ds[0]? = some (some (ratO T p q)) → Ev K M ds (tFld K (tVar 0) "top") (· = .int p) := fun h => ev_fld (ev_var h) c T.no_Ratio_top rfl
  have bo : ∀ {M : Mt} {ds : DS}, ds[0]? = some (some (ratO T p q)) → Ev K M ds (tFld K (tVar 0) "bottom") (· = .int q) := fun h => ev_fld (ev_var h) c T.no_Ratio_bottom rfl
  have b1 := hq.mul hq2
  have b2 := hq.mul hp2
  have b3 := hp.mul hq2
  have b4 := hp2.mul hq
  have b5 := hp.mul hp2
  have pos := Int.mul_pos hq0 hq20
  unfold Sm at hp hq hp2 hq2
  show Run K M [some (ratO T p q), some d, none, none] _ _
  refine run_seq (run_asgG (R := (· = .tup [.int p2, .int q2])) (ev_pairof T (ev_var rfl) hn) fun d' ed => ?_)
  subst ed
  refine eg_tup (egs_cons (egs_cons (egs_nil ?_)))
  show Run K M [some (ratO T p q), some d, some (.int p2), some (.int q2)] _ _
  exact run_ret1 (ev_rat T (ev_op1 (ev_op1 (tp rfl) (ev_var (i := 3) rfl) (od_mulI (.inl ⟨by omega, by omega⟩))) (ev_op1 (ev_var (i := 2) rfl) (bo rfl) (od_mulI (.inl ⟨by omega, by omega⟩))) od_subI) (ev_op1 (bo rfl) (ev_var (i := 3) rfl) (od_mulI (.inl ⟨by omega, by omega⟩))) (by omega) (sz_of b1)) (op_key (f := fun p q p2 q2 => redD T (p * q2 - p2 * q) (q * q2)) hn rfl)
theorem ok_mul (T : Tx K mg) : FnOk P w K mg base CX0 4 T.f_Ratiomul T.fd_Ratiomul ["self", "other"] (spF K (preOp T) (postOp T fun p q p2 q2 => redD T (p * p2) (q * q2))) := by
  have G_pairof := ok_pairof (P := P) (w := w) (base := base) T
  have B_pairof := Bd_pairof T
  have G_Ratioinit := ok_ratioinit (P := P) (w := w) (base := base) T
  have B_Ratioinit := B_ratio3 T
  refine fn_run T.F_Ratiomul sc_Ratiomul (fun M as ⟨_, _, _, _, _, e, _⟩ => by rw [e]; rfl) (fun cdv A outer s H E hr => ⟨_, (pss_cons (ps_asg (pe_call G_pairof (hr.mono (by decide)) (by rfl) T.m_pair_of T.F_pair_of.kp B_pairof .nil pass0 (pa_cons (pv 1) pa_nil)) (q_tup (K := K) (n := 2) rfl (pgs_cons (pg_name (i := 2) sc_Ratiomul.nd rfl (Or.inl rfl)) (pgs_cons (pg_name (i := 3) sc_Ratiomul.nd rfl (Or.inl rfl)) pgs_nil))))
  (pss_one (ps_ret (pe_make T.mk_Ratio G_Ratioinit (hr.mono (by decide)) (by rfl) T.m_Ratio B_Ratioinit .nil passF (pa_cons (pe_op op_mul (q_fld (K := K) (pv 0)) (pv 2)) (pa_cons (pe_op op_mul (q_fld (K := K) (pv 0)) (pv 3)) pa_nil)))))), fun M as ⟨p, q, d, p2, q2, e, hn, hq0, hq20, hp, hq, hp2, hq2⟩ => ?_⟩)
  subst e
  have c := T.oc_Ratio.toCls
  have tp : ∀ {M : Mt} {ds : DS}, ds[0]? = some (some (ratO T p q)) → Ev K M ds (tFld K (tVar 0) "top") (· = .int p) := fun h => ev_fld (ev_var h) c T.no_Ratio_top rfl
  have bo : ∀ {M : Mt} {ds : DS}, ds[0]? = some (some (ratO T p q)) → Ev K M ds (tFld K (tVar 0) "bottom") (· = .int q) := fun h => ev_fld (ev_var h) c T.no_Ratio_bottom rfl
  have b1 := hq.mul hq2
  have b2 := hq.mul hp2
  have b3 := hp.mul hq2
  have b4 := hp2.mul hq
  have b5 := hp.mul hp2
  have pos := Int.mul_pos hq0 hq20
  unfold Sm at hp hq hp2 hq2
  show Run K M [some (ratO T p q), some d, none, none] _ _
  refine run_seq (run_asgG (R := (· = .tup [.int p2, .int q2])) (ev_pairof T (ev_var rfl) hn) fun d' ed => ?_)
  subst ed
  refine eg_tup (egs_cons (egs_cons (egs_nil ?_)))
  show Run K M [some (ratO T p q), some d, some (.int p2), some (.int q2)] _ _
  exact run_ret1 (ev_rat T (ev_op1 (tp rfl) (ev_var (i := 2) rfl) (od_mulI (.inl ⟨by omega, by omega⟩))) (ev_op1 (bo rfl) (ev_var (i := 3) rfl) (od_mulI (.inl ⟨by omega, by omega⟩))) (by omega) (sz_of b1)) (op_key (f := fun p q p2 q2 => redD T (p * p2) (q * q2)) hn rfl)
theorem ok_radd (T : Tx K mg) : FnOk P w K mg base CX0 4 T.f_Ratioradd T.fd_Ratioradd ["self", "other"] (spF K (preOp T) (postOp T fun p q p2 q2 => redD T (p * q2 + p2 * q) (q * q2))) := by
  have G_pairof := ok_pairof (P := P) (w := w) (base := base) T
  have B_pairof := Bd_pairof T
  have G_Ratioinit := ok_ratioinit (P := P) (w := w) (base := base) T
  have B_Ratioinit := B_ratio3 T
  refine fn_run T.F_Ratioradd sc_Ratioradd (fun M as ⟨_, _, _, _, _, e, _⟩ => by rw [e]; rfl) (fun cdv A outer s H E hr => ⟨_, (pss_cons (ps_asg (pe_call G_pairof (hr.mono (by decide)) (by rfl) T.m_pair_of T.F_pair_of.kp B_pairof .nil pass0 (pa_cons (pv 1) pa_nil)) (q_tup (K := K) (n := 2) rfl (pgs_cons (pg_name (i := 2) sc_Ratioradd.nd rfl (Or.inl rfl)) (pgs_cons (pg_name (i := 3) sc_Ratioradd.nd rfl (Or.inl rfl)) pgs_nil))))
  (pss_one (ps_ret (pe_make T.mk_Ratio G_Ratioinit (hr.mono (by decide)) (by rfl) T.m_Ratio B_Ratioinit .nil passF (pa_cons (pe_op (q_add (K := K)) (pe_op op_mul (q_fld (K := K) (pv 0)) (pv 3)) (pe_op op_mul (pv 2) (q_fld (K := K) (pv 0)))) (pa_cons (pe_op op_mul (q_fld (K := K) (pv 0)) (pv 3)) pa_nil)))))), fun M as ⟨p, q, d, p2, q2, e, hn, hq0, hq20, hp, hq, hp2, hq2⟩ => ?_⟩)
  subst e
  have c := T.oc_Ratio.toCls
  have tp : ∀ {M : Mt} {ds : DS}, ds[0]? = some (some (ratO T p q)) → Ev K M ds (tFld K (tVar 0) "top") (· = .int p) := fun h => ev_fld (ev_var h) c T.no_Ratio_top rfl
  have bo : ∀ {M : Mt} {ds : DS}, ds[0]? = some (some (ratO T p q)) → Ev K M ds (tFld K (tVar 0) "bottom") (· = .int q) := fun h => ev_fld (ev_var h) c T.no_Ratio_bottom rfl
  have b1 := hq.mul hq2
  have b2 := hq.mul hp2
  have b3 := hp.mul hq2
  have b4 := hp2.mul hq
  have b5 := hp.mul hp2
  have pos := Int.mul_pos hq0 hq20
  unfold Sm at hp hq hp2 hq2
  show Run K M [some (ratO T p q), some d, none, none] _ _
  refine run_seq (run_asgG (R := (· = .tup [.int p2, .int q2])) (ev_pairof T (ev_var rfl) hn) fun d' ed => ?_)
  subst ed
  refine eg_tup (egs_cons (egs_cons (egs_nil ?_)))
  show Run K M [some (ratO T p q), some d, some (.int p2), some (.int q2)] _ _
  exact run_ret1 (ev_rat T (ev_op1 (ev_op1 (tp rfl) (ev_var (i := 3) rfl) (od_mulI (.inl ⟨by omega, by omega⟩))) (ev_op1 (ev_var (i := 2) rfl) (bo rfl) (od_mulI (.inl ⟨by omega, by omega⟩))) od_addI) (ev_op1 (bo rfl) (ev_var (i := 3) rfl) (od_mulI (.inl ⟨by omega, by omega⟩))) (by omega) (sz_of b1)) (op_key (f := fun p q p2 q2 => redD T (p * q2 + p2 * q) (q * q2)) hn rfl)
theorem ok_rmul (T : Tx K mg) : FnOk P w K mg base CX0 4 T.f_Ratiormul T.fd_Ratiormul ["self", "other"] (spF K (preOp T) (postOp T fun p q p2 q2 => redD T (p * p2) (q * q2))) := by
  have G_pairof := ok_pairof (P := P) (w := w) (base := base) T
  have B_pairof := Bd_pairof T
  have G_Ratioinit := ok_ratioinit (P := P) (w := w) (base := base) T
  have B_Ratioinit := B_ratio3 T
  refine fn_run T.F_Ratiormul sc_Ratiormul (fun M as ⟨_, _, _, _, _, e, _⟩ => by rw [e]; rfl) (fun cdv A outer s H E hr => ⟨_, (pss_cons (ps_asg (pe_call G_pairof (hr.mono (by decide)) (by rfl) T.m_pair_of T.F_pair_of.kp B_pairof .nil pass0 (pa_cons (pv 1) pa_nil)) (q_tup (K := K) (n := 2) rfl (pgs_cons (pg_name (i := 2) sc_Ratiormul.nd rfl (Or.inl rfl)) (pgs_cons (pg_name (i := 3) sc_Ratiormul.nd rfl (Or.inl rfl)) pgs_nil))))
  (pss_one (ps_ret (pe_make T.mk_Ratio G_Ratioinit (hr.mono (by decide)) (by rfl) T.m_Ratio B_Ratioinit .nil passF (pa_cons (pe_op op_mul (q_fld (K := K) (pv 0)) (pv 2)) (pa_cons (pe_op op_mul (q_fld (K := K) (pv 0)) (pv 3)) pa_nil)))))), fun M as ⟨p, q, d, p2, q2, e, hn, hq0, hq20, hp, hq, hp2, hq2⟩ => ?_⟩)
  subst e
  have c := T.oc_Ratio.toCls
  have tp : ∀ {M : Mt} {ds : DS}, ds[0]? = some (some (ratO T p q)) → Ev K M ds (tFld K (tVar 0) "top") (· = .int p) := fun h => ev_fld (ev_var h) c T.no_Ratio_top rfl
  have bo : ∀ {M : Mt} {ds : DS}, ds[0]? = some (some (ratO T p q)) → Ev K M ds (tFld K (tVar 0) "bottom") (· = .int q) := fun h => ev_fld (ev_var h) c T.no_Ratio_bottom rfl
  have b1 := hq.mul hq2
  have b2 := hq.mul hp2
  have b3 := hp.mul hq2
  have b4 := hp2.mul hq
  have b5 := hp.mul hp2
  have pos := Int.mul_pos hq0 hq20
  unfold Sm at hp hq hp2 hq2
  show Run K M [some (ratO T p q), some d, none, none] _ _
  refine run_seq (run_asgG (R := (· = .tup [.int p2, .int q2])) (ev_pairof T (ev_var rfl) hn) fun d' ed => ?_)
  subst ed
  refine eg_tup (egs_cons (egs_cons (egs_nil ?_)))
  show Run K M [some (ratO T p q), some d, some (.int p2), some (.int q2)] _ _
  exact run_ret1 (ev_rat T (ev_op1 (tp rfl) (ev_var (i := 2) rfl) (od_mulI (.inl ⟨by omega, by omega⟩))) (ev_op1 (bo rfl) (ev_var (i := 3) rfl) (od_mulI (.inl ⟨by omega, by omega⟩))) (by omega) (sz_of b1)) (op_key (f := fun p q p2 q2 => redD T (p * p2) (q * q2)) hn rfl)
theorem ok_rsub (T : Tx K mg) : FnOk P w K mg base CX0 4 T.f_Ratiorsub T.fd_Ratiorsub ["self", "other"] (spF K (preOp T) (postOp T fun p q p2 q2 => redD T (p2 * q - p * q2) (q * q2))) := by
  have G_pairof := ok_pairof (P := P) (w := w) (base := base) T
  have B_pairof := Bd_pairof T
  have G_Ratioinit := ok_ratioinit (P := P) (w := w) (base := base) T
  have B_Ratioinit := B_ratio3 T
  refine fn_run T.F_Ratiorsub sc_Ratiorsub (fun M as ⟨_, _, _, _, _, e, _⟩ => by rw [e]; rfl) (fun cdv A outer s H E hr => ⟨_, (pss_cons (ps_asg (pe_call G_pairof (hr.mono (by decide)) (by rfl) T.m_pair_of T.F_pair_of.kp B_pairof .nil pass0 (pa_cons (pv 1) pa_nil)) (q_tup (K := K) (n := 2) rfl (pgs_cons (pg_name (i := 2) sc_Ratiorsub.nd rfl (Or.inl rfl)) (pgs_cons (pg_name (i := 3) sc_Ratiorsub.nd rfl (Or.inl rfl)) pgs_nil))))
  (pss_one (ps_ret (pe_make T.mk_Ratio G_Ratioinit (hr.mono (by decide)) (by rfl) T.m_Ratio B_Ratioinit .nil passF (pa_cons (pe_op op_sub (pe_op op_mul (pv 2) (q_fld (K := K) (pv 0))) (pe_op op_mul (q_fld (K := K) (pv 0)) (pv 3))) (pa_cons (pe_op op_mul (q_fld (K := K) (pv 0)) (pv 3)) pa_nil)))))), fun M as ⟨p, q, d, p2, q2, e, hn, hq0, hq20, hp, hq, hp2, hq2⟩ => ?_⟩)
  subst e
  have c := T.oc_Ratio.toCls
  have tp : ∀ {M : Mt} {ds : DS}, ds[0]? = some (some (ratO T p q)) → Ev K M ds (tFld K (tVar 0) "top") (· = .int p) := fun h => ev_fld (ev_var h) c T.no_Ratio_top rfl
  have bo : ∀ {M : Mt} {ds : DS}, ds[0]? = some (some (ratO T p q)) → Ev K M ds (tFld K (tVar 0) "bottom") (· = .int q) := fun h => ev_fld (ev_var h) c T.no_Ratio_bottom rfl
  have b1 := hq.mul hq2
  have b2 := hq.mul hp2
  have b3 := hp.mul hq2
  have b4 := hp2.mul hq
  have b5 := hp.mul hp2
  have pos := Int.mul_pos hq0 hq20
  unfold Sm at hp hq hp2 hq2
  show Run K M [some (ratO T p q), some d, none, none] _ _
  refine run_seq (run_asgG (R := (· = .tup [.int p2, .int q2])) (ev_pairof T (ev_var rfl) hn) fun d' ed => ?_)
  subst ed
  refine eg_tup (egs_cons (egs_cons (egs_nil ?_)))
  show Run K M [some (ratO T p q), some d, some (.int p2), some (.int q2)] _ _
  exact run_ret1 (ev_rat T (ev_op1 (ev_op1 (ev_var (i := 2) rfl) (bo rfl) (od_mulI (.inl ⟨by omega, by omega⟩))) (ev_op1 (tp rfl) (ev_var (i := 3) rfl) (od_mulI (.inl ⟨by omega, by omega⟩))) od_subI) (ev_op1 (bo rfl) (ev_var (i := 3) rfl) (od_mulI (.inl ⟨by omega, by omega⟩))) (by omega) (sz_of b1)) (op_key (f := fun p q p2 q2 => redD T (p2 * q - p * q2) (q * q2)) hn rfl)
def cmp (x y : Int) : Int := (if decide (x > y) = true then 1 else 0) - (if decide (x < y) = true then 1 else 0)
theorem ok_compare (T : Tx K mg) : FnOk P w K mg base CX0 2 T.f_Ratiocompare T.fd_Ratiocompare ["self", "other"] (spF K (preOp T) (postOp T fun p q p2 q2 => .int (cmp (p * q2) (p2 * q)))) := by
  have G_pairof := ok_pairof (P := P) (w := w) (base := base) T
  have B_pairof := Bd_pairof T
  refine fn_run T.F_Ratiocompare sc_Ratiocompare (fun M as ⟨_, _, _, _, _, e, _⟩ => by rw [e]; rfl) (fun cdv A outer s H E hr => ⟨_, (pss_cons (ps_asg (pe_call G_pairof (hr.mono (by decide)) (by rfl) T.m_pair_of T.F_pair_of.kp B_pairof .nil pass0 (pa_cons (pv 1) pa_nil)) (q_tup (K := K) (n := 2) rfl (pgs_cons (pg_name (i := 2) sc_Ratiocompare.nd rfl (Or.inl rfl)) (pgs_cons (pg_name (i := 3) sc_Ratiocompare.nd rfl (Or.inl rfl)) pgs_nil))))
  (pss_cons (ps_par rfl sc_Ratiocompare.nd (i := 4) (j := 5) rfl rfl (by decide) rfl rfl (pa_cons (pe_op op_mul (q_fld (K := K) (pv 0)) (pv 3)) (pa_cons (pe_op op_mul (pv 2) (q_fld (K := K) (pv 0))) pa_nil)) (by rfl))
  (pss_one (ps_ret (pe_op op_sub (pe_callTy call_int1 (by rfl) T.b_int bt_int (pa_cons (pe_cmpR op_gt (pv 4) (pv 5) (nomark _)) pa_nil)) (pe_callTy call_int1 (by rfl) T.b_int bt_int (pa_cons (pe_cmpR op_lt (pv 4) (pv 5) (nomark _)) pa_nil))))))), fun M as ⟨p, q, d, p2, q2, e, hn, hq0, hq20, hp, hq, hp2, hq2⟩ => ?_⟩)
  subst e
  have c := T.oc_Ratio.toCls
  have tp : ∀ {M : Mt} {ds : DS}, ds[0]? = some (some (ratO T p q)) → Ev K M ds (tFld K (tVar 0) "top") (· = .int p) := fun h => ev_fld (ev_var h) c T.no_Ratio_top rfl
  have bo : ∀ {M : Mt} {ds : DS}, ds[0]? = some (some (ratO T p q)) → Ev K M ds (tFld K (tVar 0) "bottom") (· = .int q) := fun h => ev_fld (ev_var h) c T.no_Ratio_bottom rfl
  have b1 := hq.mul hq2
  have b2 := hq.mul hp2
  have b3 := hp.mul hq2
  have b4 := hp2.mul hq
  have b5 := hp.mul hp2
  have pos := Int.mul_pos hq0 hq20
  unfold Sm at hp hq hp2 hq2
  show Run K M [some (ratO T p q), some d, none, none, none, none] _ _
  refine run_seq (run_asgG (R := (· = .tup [.int p2, .int q2])) (ev_pairof T (ev_var rfl) hn) fun d' ed => ?_)
  subst ed
  refine eg_tup (egs_cons (egs_cons (egs_nil ?_)))
  show Run K M [some (ratO T p q), some d, some (.int p2), some (.int q2), none, none] _ _
  refine run_seq (run_par (ea_cons (ev_op1 (tp rfl) (ev_var (i := 3) rfl) (od_mulI (.inl ⟨by omega, by omega⟩))) (ea_cons (ev_op1 (ev_var (i := 2) rfl) (bo rfl) (od_mulI (.inl ⟨by omega, by omega⟩))) ea_nil)) fun l ⟨a, r, e1, ea, b, r2, e2, eb, e3⟩ => ⟨a, b, by rw [e1, e2, e3], ?_⟩)
  rw [ea, eb]
  show Run K M [some (ratO T p q), some d, some (.int p2), some (.int q2), some (.int (p * q2)), some (.int (p2 * q))] _ _
  exact run_ret1 (ev_op1 (ev_cb1 (ea1 (ev_op1 (ev_var rfl) (ev_var rfl) od_gtI) ea_nil) cd_intB) (ev_cb1 (ea1 (ev_op1 (ev_var rfl) (ev_var rfl) od_ltI) ea_nil) cd_intB) od_subI) (op_key (f := fun p q p2 q2 => .int (cmp (p * q2) (p2 * q))) hn rfl)
def pxOv (T : Tx K mg) (as : List D) (x : D) : Prop := ∀ p q d p2 q2, as = [ratO T p q, d] → Num T d p2 q2 → p2 = 0 ∧ x = xZD
theorem ov_key {T : Tx K mg} {p q p2 q2 : Int} {d : D} (hn : Num T d p2 q2) (h : p2 = 0) : pxOv T [ratO T p q, d] xZD := fun p' q' d' p2' q2' e hn' => by
  injection e with e e2
  injection e2 with e2
  subst e2
  obtain ⟨rfl, rfl⟩ := hn.inj hn'
  exact ⟨h, rfl⟩
/-- what they promise where the other one is not 0 -/
def postOv (T : Tx K mg) (f : Int → Int → Int → Int → D) (as : List D) (r : D) : Prop := ∀ p q d p2 q2, as = [ratO T p q, d] → Num T d p2 q2 → p2 ≠ 0 ∧ r = f p q p2 q2
theorem opv_key {T : Tx K mg} {p q p2 q2 : Int} {d : D} {f : Int → Int → Int → Int → D} {r : D} (hn : Num T d p2 q2) (h0 : p2 ≠ 0) (h : r = f p q p2 q2) : postOv T f [ratO T p q, d] r := fun p' q' d' p2' q2' e hn' => by
  injection e with e e2
  injection e2 with e2
  subst e2
  obtain ⟨rfl, rfl⟩ := rat_inj e
  obtain ⟨rfl, rfl⟩ := hn.inj hn'
  exact ⟨h0, h⟩
theorem ok_over (T : Tx K mg) : FnOk P w K mg base (L2.CX P w) 4 T.f_Ratioover T.fd_Ratioover ["self", "other"] (spX K (preOp T) (postOv T fun p q p2 q2 => redD T (p * q2) (q * p2)) (pxOv T)) := by
  have G_pairof := ok_pairof (P := P) (w := w) (base := base) T
  have B_pairof := Bd_pairof T
  have G_Ratioinit := ok_ratioinit (P := P) (w := w) (base := base) T
  have B_Ratioinit := B_ratio3 T
  refine fn_runX T.F_Ratioover sc_Ratioover (fun M as ⟨_, _, _, _, _, e, _⟩ => by rw [e]; rfl) (fun X cdv A outer s H E eX hr tk => ?_)
  subst eX
  refine ⟨_, (pss_cons (ps_asg (pe_call G_pairof (hr.mono (by decide)) (by rfl) T.m_pair_of T.F_pair_of.kp B_pairof .nil pass0 (pa_cons (pv 1) pa_nil)) (q_tup (K := K) (n := 2) rfl (pgs_cons (pg_name (i := 2) sc_Ratioover.nd rfl (Or.inl rfl)) (pgs_cons (pg_name (i := 3) sc_Ratioover.nd rfl (Or.inl rfl)) pgs_nil))))
  (pss_one (ps_ret (pe_make T.mk_Ratio G_Ratioinit (hr.mono (by decide)) (by rfl) T.m_Ratio B_Ratioinit .nil (passT tk) (pa_cons (pe_op op_mul (q_fld (K := K) (pv 0)) (pv 3)) (pa_cons (pe_op op_mul (q_fld (K := K) (pv 0)) (pv 2)) pa_nil)))))), fun M as ⟨p, q, d, p2, q2, e, hn, hq0, hq20, hp, hq, hp2, hq2⟩ => ?_⟩
  subst e
  have c := T.oc_Ratio.toCls
  have tp : ∀ {M : Mt} {ds : DS}, ds[0]? = some (some (ratO T p q)) → Ev K M ds (tFld K (tVar 0) "top") (· = .int p) := fun h => ev_fld (ev_var h) c T.no_Ratio_top rfl
  have bo : ∀ {M : Mt} {ds : DS}, ds[0]? = some (some (ratO T p q)) → Ev K M ds (tFld K (tVar 0) "bottom") (· = .int q) := fun h => ev_fld (ev_var h) c T.no_Ratio_bottom rfl
  have b1 := hq.mul hq2
  have b2 := hq.mul hp2
  have b3 := hp.mul hq2
  have b4 := hp2.mul hq
  have b5 := hp.mul hp2
  have pos := Int.mul_pos hq0 hq20
  unfold Sm at hp hq hp2 hq2
  show Run K _ [some (ratO T p q), some d, none, none] _ _
  refine run_seq (run_asgG (R := (· = .tup [.int p2, .int q2])) (ev_pairof T (ev_var rfl) hn) fun d' ed => ?_)
  subst ed
  refine eg_tup (egs_cons (egs_cons (egs_nil ?_)))
  show Run K _ [some (ratO T p q), some d, some (.int p2), some (.int q2)] _ _
  refine run_ret (ev_ratX T (ev_op1 (tp rfl) (ev_var (i := 3) rfl) (od_mulI (.inl ⟨by omega, by omega⟩))) (ev_op1 (bo rfl) (ev_var (i := 2) rfl) (od_mulI (.inl ⟨by omega, by omega⟩))) (sz_of b2) (fun h0 => opv_key (f := fun p q p2 q2 => redD T (p * q2) (q * p2)) hn (fun e => h0 (by rw [e, Int.mul_zero])) rfl) fun h0 => ⟨rfl, exk_fn (ov_key hn ((Int.mul_eq_zero.mp h0).resolve_left (by omega)))⟩)
theorem ok_floordiv (T : Tx K mg) : FnOk P w K mg base (L2.CX P w) 2 T.f_Ratiofloordiv T.fd_Ratiofloordiv ["self", "other"] (spX K (preOp T) (postOv T fun p q p2 q2 => .int ((p * q2).fdiv (q * p2))) (pxOv T)) := by
  have G_pairof := ok_pairof (P := P) (w := w) (base := base) T
  have B_pairof := Bd_pairof T
  refine fn_runX T.F_Ratiofloordiv sc_Ratiofloordiv (fun M as ⟨_, _, _, _, _, e, _⟩ => by rw [e]; rfl) (fun X cdv A outer s H E eX hr tk => ?_)
  subst eX
  refine ⟨_, (pss_cons (ps_asg (pe_call G_pairof (hr.mono (by decide)) (by rfl) T.m_pair_of T.F_pair_of.kp B_pairof .nil pass0 (pa_cons (pv 1) pa_nil)) (q_tup (K := K) (n := 2) rfl (pgs_cons (pg_name (i := 2) sc_Ratiofloordiv.nd rfl (Or.inl rfl)) (pgs_cons (pg_name (i := 3) sc_Ratiofloordiv.nd rfl (Or.inl rfl)) pgs_nil))))
  (pss_cons (ps_if (pt_cmpR op_eq (pv 2) pe_int (nomark _)) (pss_one (ps_raiseB rfl tk exb_ZeroDivisionError (by rfl) T.b_ZeroDivisionError boot_ZeroDivisionError)) pss_nil)
  (pss_one (ps_ret (pe_op op_fdivZ (pe_op op_mul (q_fld (K := K) (pv 0)) (pv 3)) (pe_op op_mul (q_fld (K := K) (pv 0)) (pv 2))))))), fun M as ⟨p, q, d, p2, q2, e, hn, hq0, hq20, hp, hq, hp2, hq2⟩ => ?_⟩
  subst e
  have c := T.oc_Ratio.toCls
  have tp : ∀ {M : Mt} {ds : DS}, ds[0]? = some (some (ratO T p q)) → Ev K M ds (tFld K (tVar 0) "top") (· = .int p) := fun h => ev_fld (ev_var h) c T.no_Ratio_top rfl
  have bo : ∀ {M : Mt} {ds : DS}, ds[0]? = some (some (ratO T p q)) → Ev K M ds (tFld K (tVar 0) "bottom") (· = .int q) := fun h => ev_fld (ev_var h) c T.no_Ratio_bottom rfl
  have b1 := hq.mul hq2
  have b2 := hq.mul hp2
  have b3 := hp.mul hq2
  have b4 := hp2.mul hq
  have b5 := hp.mul hp2
  have pos := Int.mul_pos hq0 hq20
  unfold Sm at hp hq hp2 hq2
  show Run K _ [some (ratO T p q), some d, none, none] _ _
  refine run_seq (run_asgG (R := (· = .tup [.int p2, .int q2])) (ev_pairof T (ev_var rfl) hn) fun d' ed => ?_)
  subst ed
  refine eg_tup (egs_cons (egs_cons (egs_nil ?_)))
  show Run K _ [some (ratO T p q), some d, some (.int p2), some (.int q2)] _ _
  refine run_seq (run_if1 (et_B (ev_op1 (ev_var rfl) ev_cint od_eqI)) (fun e => ?_) fun e => run_next ?_)
  · exact run_raiseB rfl (exk_fn (ov_key hn (by simpa using e)))
  have h0 : p2 ≠ 0 := by simpa using e
  have hne : q * p2 ≠ 0 := Int.mul_ne_zero (by omega) h0
  exact run_ret1 (ev_op1 (ev_op1 (tp rfl) (ev_var (i := 3) rfl) (od_mulI (.inl ⟨by omega, by omega⟩))) (ev_op1 (bo rfl) (ev_var (i := 2) rfl) (od_mulI (.inl ⟨by omega, by omega⟩))) (od_fdivZ ⟨hne, log2_ok9 b2 (by decide)⟩)) (opv_key (f := fun p q p2 q2 => .int ((p * q2).fdiv (q * p2))) hn h0 rfl)
end
end L43
namespace L43
open PySem L2 TL Rg RZ PyProof.Rows
local macro_rules | `(tactic| walk_at "ev") => `(tactic| first
  | with_reducible assumption
  | ((with_reducible apply ev_var); exact rfl)
  | with_reducible exact ev_cint
  | with_reducible exact ev_cbl
  | with_reducible exact ev_cnon
  | with_reducible exact ev_cstr
  | ((with_reducible apply ev_c); with_reducible assumption)
  | with_reducible exact ev_craw
  | ((with_reducible apply ev_tup1); walk_at "ea"; exact Nat.le_of_ble_eq_true rfl)
  | ((with_reducible apply ev_lst1); walk_at "ea"; exact Nat.le_of_ble_eq_true rfl)
  | ((with_reducible apply ev_op1); walk_at "ev"; walk_at "ev"; walk_at "od")
  | ((with_reducible apply ev_un1); walk_at "ev"; exact ud_neg)
  | ((with_reducible apply ev_isSeq); walk_at "ev"; walk_at "ea"; exact rfl; exact rfl)
  | ((with_reducible apply ev_cb1); walk_at "ea"; walk_at "cd")
  | ((with_reducible apply ev_chainB); walk_at "ev"; walk_at "ev"; walk_at "od"; walk_at "ev"; walk_at "od")
  | ((with_reducible apply ev_andF); walk_at "ev"; exact rfl)
  | ((with_reducible apply ev_andT); walk_at "ev"; exact rfl; walk_at "ev")
  | ((with_reducible apply ev_andB); walk_at "ev"; intro _; walk_at "ev")
  | ((with_reducible apply ev_orT); walk_at "ev"; exact rfl)
  | ((with_reducible apply ev_orF); walk_at "ev"; exact rfl; walk_at "ev")
  | ((with_reducible apply ev_orB); walk_at "ev"; intro _; walk_at "ev")
  | ((with_reducible apply ev_notV); walk_at "ev"))
local macro_rules | `(tactic| walk_at "et") => `(tactic| first
  | ((with_reducible apply et_B); walk_at "ev")
  | ((with_reducible apply et_test); walk_at "ev")
  | ((with_reducible apply et_not); walk_at "et")
  | ((with_reducible apply et_orT); walk_at "et"; exact rfl)
  | ((with_reducible apply et_orF); walk_at "et"; exact rfl; walk_at "et")
  | ((with_reducible apply et_or); walk_at "et"; intro _; walk_at "et")
  | ((with_reducible apply et_andF); walk_at "et"; exact rfl)
  | ((with_reducible apply et_andT); walk_at "et"; exact rfl; walk_at "et")
  | ((with_reducible apply et_and); walk_at "et"; intro _; walk_at "et"))
local macro_rules | `(tactic| walk_at "ea") => `(tactic| first
  | with_reducible exact ea_nil
  | ((with_reducible apply ea1); walk_at "ev"; walk_at "ea"))
local macro_rules | `(tactic| walk_at "od") => `(tactic| first
  | with_reducible exact od_addI
  | with_reducible exact od_subI
  | ((with_reducible apply od_addS); (try simp only [PySem.Str.length_append]); omega)
  | ((with_reducible apply od_catL); exact Nat.le_of_ble_eq_true rfl)
  | ((with_reducible apply od_modI); first | decide | omega)
  | ((with_reducible apply od_mulI); first | (exact Or.inr ⟨by decide, by decide⟩) | (exact Or.inl ⟨by decide, by decide⟩) | (exact Or.inl ⟨by omega, by omega⟩) | (exact Or.inr ⟨by omega, by omega⟩))
  | ((with_reducible apply od_divI); first | (exact ⟨by decide, by decide⟩) | (exact ⟨by omega, by omega⟩))
  | ((with_reducible apply od_powI); exact ⟨by decide, by decide, by decide⟩)
  | with_reducible exact od_leI
  | with_reducible exact od_ltI
  | with_reducible exact od_gtI
  | with_reducible exact od_geI
  | with_reducible exact od_eqI
  | with_reducible exact od_eqB
  | with_reducible exact od_neB
  | with_reducible exact od_neI
  | with_reducible exact od_eqS
  | with_reducible exact od_inS
  | ((with_reducible apply od_none); exact rfl)
  | ((with_reducible apply od_ix); exact rfl))
local macro_rules | `(tactic| walk_at "cd") => `(tactic| first
  | ((with_reducible apply cd_isStr); exact rfl)
  | ((with_reducible apply cd_isInt); exact rfl)
  | ((with_reducible apply cd_isBool); exact rfl)
  | ((with_reducible apply cd_isList); exact rfl)
  | ((with_reducible apply cd_isTuple); exact rfl)
  | ((with_reducible apply cd_isi); assumption)
  | ((with_reducible apply cd_len); assumption)
  | ((with_reducible apply cd_len); exact rfl)
  | with_reducible exact cd_intI
  | with_reducible exact cd_listof
  | ((with_reducible apply cd_str); assumption)
  | with_reducible exact cd_all)
local macro_rules | `(tactic| walk_at "px") => `(tactic| first
  | ((with_reducible apply px_var); exact rfl)
  | with_reducible exact px_c
  | ((with_reducible apply px_op); walk_at "px"; walk_at "px"; walk_at "pr")
  | ((with_reducible apply px_cb); walk_at "pa"; walk_at "pr")
  | ((with_reducible apply px_test); walk_at "px")
  | ((with_reducible apply px_B); walk_at "px")
  | ((with_reducible apply px_and); walk_at "px"; walk_at "px"))
local macro_rules | `(tactic| walk_at "pa") => `(tactic| first
  | with_reducible exact px_nil
  | ((with_reducible apply px_cons); walk_at "px"; walk_at "pa"))
local macro_rules | `(tactic| walk_at "pr") => `(tactic| first
  | exact px_addI
  | (apply px_ix; assumption; exact rfl)
  | (apply px_ix; assumption; assumption)
  | exact px_eqI
  | exact fun Q q => ⟨_, _, rfl, rfl, q⟩
  | exact fun Q q => ⟨_, _, rfl, rfl, (Or.inr ⟨by decide, by decide⟩), q⟩
  | exact fun Q q => ⟨_, _, rfl, rfl, (Or.inl ⟨by omega, by omega⟩), q⟩
  | exact fun Q q => ⟨_, _, rfl, rfl, (Or.inr ⟨by omega, by omega⟩), q⟩
  | exact fun Q q => ⟨_, _, rfl, rfl, ⟨by decide, by decide⟩, q⟩
  | exact fun Q q => ⟨_, _, rfl, rfl, ⟨by omega, by omega⟩, q⟩
  | exact fun Q q => ⟨_, _, rfl, rfl, ⟨by decide, by decide, by decide⟩, q⟩
  | exact fun Q q => ⟨_, _, rfl, rfl, (by decide), q⟩
  | exact fun Q q => ⟨_, _, rfl, rfl, (by omega), q⟩
  | (apply px_len; assumption)
  | exact px_intI
  | exact px_abs)
local macro_rules | `(tactic| walk_at "fg") => `(tactic| repeat first | exact Fg.nil | apply Fg.keep | apply Fg.drop)
section
variable {P : Program} {w : World} {K : PySem.W.Frag} {mg : Str → Option Value} {base : Heap}
/-! ### bool, ==, str, repr -/
theorem cd_boolI {M : Mt} {i : Int} : CallD K M (fun xs H Q => (∃ i, xs = [.int i] ∧ Q (.bl (i != 0)) H) ∨ ∃ k, xs = [.bl k] ∧ Q (.bl k) H) [.int i] (· = .bl (i != 0)) := fun M' G H xs Q m rxs w q => by
  cases rxs with
  | cons rx rr =>
    cases rr
    rw [rx.int_inv]
    exact .inl ⟨i, rfl, q _ _ G H (Same.refl G) w (.bl _) rfl⟩
def postB (T : Tx K mg) (as : List D) (r : D) : Prop := ∀ p q, as = [ratO T p q] → r = .bl (p != 0)
theorem ok_rbool (T : Tx K mg) : FnOk P w K mg base CX0 1 T.f_Ratiobool T.fd_Ratiobool ["self"] (spF K (preOne T) (postB T)) := by
  refine fn_run T.F_Ratiobool sc_Ratiobool (fun M as ⟨_, _, e, _⟩ => by rw [e]; rfl) (fun cdv A outer s H E hr => ⟨_, (pss_one (ps_ret (pe_callTy call_bool1 (by rfl) T.b_bool bt_bool (pa_cons (q_fld (K := K) (pv 0)) pa_nil)))), fun M as ⟨p, q, e, h, hp, hq⟩ => ?_⟩)
  subst e
  show Run K M [some (ratO T p q)] _ _
  exact run_ret1 (ev_cb1 (ea1 (ev_fld (ev_var rfl) T.oc_Ratio.toCls T.no_Ratio_top rfl) ea_nil) cd_boolI) (one_key (f := fun p _ => .bl (p != 0)) rfl)
def preEq (T : Tx K mg) (_ : Ml) (as : List D) : Prop := ∃ p q d, as = [ratO T p q, d] ∧ ((∃ p2 q2, d = ratO T p2 q2) ∨ (∃ i, d = .int i) ∨ ∃ x, d = .str x)
def postEq (T : Tx K mg) (as : List D) (r : D) : Prop := ∀ p q d, as = [ratO T p q, d] → (∀ p2 q2, d = ratO T p2 q2 → r = .bl (decide (p = p2) && decide (q = q2))) ∧ (∀ i, d = .int i → r = .bl (decide (q = 1) && decide (p = i))) ∧ ∀ x, d = .str x → r = .bl false
theorem ok_req (T : Tx K mg) : FnOk P w K mg base CX0 2 T.f_Ratioeq T.fd_Ratioeq ["self", "other"] (spF K (preEq T) (postEq T)) := by
  have G_isinteger := ok_isinteger (P := P) (w := w) (base := base) T
  have B_isinteger := Bd_isinteger T
  refine fn_run T.F_Ratioeq sc_Ratioeq (fun M as ⟨_, _, _, e, _⟩ => by rw [e]; rfl) (fun cdv A outer s H E hr => ⟨_, (pss_cons (ps_if (pt_val (pe_callB (q_isiU (K := K)) (by rfl) T.b_isinstance bt_isinstance (pa_cons (pv 1) (pa_cons (pe_cls rfl T.m_Ratio) pa_nil)))) (pss_one (ps_ret (pe_and (pe_cmpR op_eq (q_fld (K := K) (pv 0)) (q_fld (K := K) (pv 1)) (nomark _)) (pe_one (pe_cmpR op_eq (q_fld (K := K) (pv 0)) (q_fld (K := K) (pv 1)) (nomark _)))))) pss_nil)
  (pss_one (ps_ret (pe_and (pe_call G_isinteger (hr.mono (by decide)) (by rfl) T.m_is_integer T.F_is_integer.kp B_isinteger .nil pass0 (pa_cons (pv 1) pa_nil)) (pe_and (pe_cmpR op_eq (q_fld (K := K) (pv 0)) pe_int (nomark _)) (pe_one (pe_cmpR op_eq (q_fld (K := K) (pv 0)) (pv 1) (nomark _)))))))), fun M as ⟨p, q, d, e, hd⟩ => ?_⟩)
  subst e
  show Run K M [some (ratO T p q), some d] _ _
  have c := T.oc_Ratio.toCls
  have tp : ∀ {M : Mt} {ds : DS}, ds[0]? = some (some (ratO T p q)) → Ev K M ds (tFld K (tVar 0) "top") (· = .int p) := fun h => ev_fld (ev_var h) c T.no_Ratio_top rfl
  have bo : ∀ {M : Mt} {ds : DS}, ds[0]? = some (some (ratO T p q)) → Ev K M ds (tFld K (tVar 0) "bottom") (· = .int q) := fun h => ev_fld (ev_var h) c T.no_Ratio_bottom rfl
  rcases hd with ⟨p2, q2, rfl⟩ | ⟨i, rfl⟩ | ⟨x, rfl⟩
  · refine run_seq (run_ifT (et_test (ev_cb1 (ea1 (ev_var rfl) (ea1 ev_craw ea_nil)) (cd_isO (.own T.oc_Ratio) (.own _) T.ki_Ratio_Ratio))) rfl (run_ret1 (ev_andB (ev_op1 (tp rfl) (ev_fld (ev_var rfl) c T.no_Ratio_top rfl) od_eqI) fun _ => ev_op1 (bo rfl) (ev_fld (ev_var rfl) c T.no_Ratio_bottom rfl) od_eqI) fun p' q' d' e => ?_))
    injection e with e e2
    injection e2 with e2
    subst e2
    obtain ⟨rfl, rfl⟩ := rat_inj e
    refine ⟨fun p2' q2' e => ?_, fun i e => (by cases e), fun x e => (by cases e)⟩
    obtain ⟨rfl, rfl⟩ := rat_inj e
    rfl
  · refine run_seq (run_ifF (et_test (ev_cb1 (ea1 (ev_var rfl) (ea1 ev_craw ea_nil)) (cd_isO (.plain rfl) (.own _) T.ki_int_Ratio))) rfl (run_next (run_ret1 (ev_andB (a := true) ((ev_call1 (ea1 (ev_var rfl) ea_nil) fun _ _ => ⟨_, rfl, .inl ⟨i, rfl⟩⟩).weak fun r z => z.1 i rfl) fun _ => ev_andB (ev_op1 (bo rfl) ev_cint od_eqI) fun _ => ev_op1 (tp rfl) (ev_var rfl) od_eqI) fun p' q' d' e => ?_)))
    injection e with e e2
    injection e2 with e2
    subst e2
    obtain ⟨rfl, rfl⟩ := rat_inj e
    refine ⟨fun p2' q2' e => (by cases e), fun i e => ?_, fun x e => (by cases e)⟩
    cases e
    rw [Bool.true_and]
  · refine run_seq (run_ifF (et_test (ev_cb1 (ea1 (ev_var rfl) (ea1 ev_craw ea_nil)) (cd_isO (.plain rfl) (.own _) T.ki_str_Ratio))) rfl (run_next (run_ret1 (ev_andF ((ev_call1 (ea1 (ev_var rfl) ea_nil) fun _ _ => ⟨_, rfl, .inr ⟨x, rfl⟩⟩).weak fun r z => z.2 x rfl) rfl) fun p' q' d' e => ?_)))
    injection e with e e2
    injection e2 with e2
    subst e2
    exact ⟨fun p2' q2' e => (by cases e), fun i e => (by cases e), fun x e => rfl⟩
theorem cat_nil (x : Str) : Str.empty ++ x = x := ext_tl (by rw [tl_append]; rfl)
theorem cat_as (x y z : Str) : x ++ y ++ z = x ++ (y ++ z) := ext_tl (by rw [tl_append, tl_append, tl_append, tl_append, List.append_assoc])
abbrev numS (i : Int) : Str := Str.ofString (toString i)
def postS (T : Tx K mg) (as : List D) (r : D) : Prop := ∀ p q, as = [ratO T p q] → r = .str (txt p q)
theorem num_log {i : Int} (h : Sz i) : i.natAbs.log2 < 1920 := log2_ok h (by decide)
theorem numS_len {i : Int} (h : Sz i) : (numS i).length ≤ 25 := by
  have h1 : i.natAbs < 10 ^ 24 := Nat.lt_trans h (by decide)
  have h2 := numL_len (k := 24) (by decide) h1
  rw [len_tl]
  by_cases hp : i < 0
  · rw [tl_neg hp]; simp; omega
  · rw [tl_pos (by omega)]; omega
theorem ok_rstr (T : Tx K mg) : FnOk P w K mg base CX0 1 T.f_Ratiostr T.fd_Ratiostr ["self"] (spF K (preOne T) (postS T)) := by
  refine fn_run T.F_Ratiostr sc_Ratiostr (fun M as ⟨_, _, e, _⟩ => by rw [e]; rfl) (fun cdv A outer s H E hr => ⟨_, (pss_cons (ps_if (pt_cmpR op_eq (q_fld (K := K) (pv 0)) pe_int (nomark _)) (pss_one (ps_ret (pe_callTy call_str_int (by rfl) T.b_str bt_str (pa_cons (q_fld (K := K) (pv 0)) pa_nil)))) pss_nil)
  (pss_one (ps_ret (pe_joined (.cons (pe_fmt (q_fld (K := K) (pv 0))) (.cons pe_str (.cons (pe_fmt (q_fld (K := K) (pv 0))) .nil))))))), fun M as ⟨p, q, e, h, hp, hq⟩ => ?_⟩)
  subst e
  show Run K M [some (ratO T p q)] _ _
  have c := T.oc_Ratio.toCls
  have tp : ∀ {M : Mt} {ds : DS}, ds[0]? = some (some (ratO T p q)) → Ev K M ds (tFld K (tVar 0) "top") (· = .int p) := fun h => ev_fld (ev_var h) c T.no_Ratio_top rfl
  have bo : ∀ {M : Mt} {ds : DS}, ds[0]? = some (some (ratO T p q)) → Ev K M ds (tFld K (tVar 0) "bottom") (· = .int q) := fun h => ev_fld (ev_var h) c T.no_Ratio_bottom rfl
  have key : ∀ r, r = .str (txt p q) → postS T [ratO T p q] r := fun r hr => one_key (f := fun p q => .str (txt p q)) hr
  have l1 : (Str.ofString (toString p)).length ≤ 25 := numS_len hp
  have l2 : (Str.ofString (toString q)).length ≤ 25 := numS_len hq
  refine run_seq (run_if1 (et_B (ev_op1 (bo rfl) ev_cint od_eqI)) (fun e => ?_) fun e => run_next ?_)
  · have e : q = 1 := by simpa using e
    refine run_ret1 (ev_cb1 (ea1 (tp rfl) ea_nil) (cd_str (num_log hp))) (key _ ?_)
    unfold txt
    rw [if_pos e]
    exact congrArg D.str (ext_tl (by rw [tl_append]; exact (List.append_nil _).symm))
  · have e : ¬ q = 1 := by simpa using e
    refine run_ret1 (ev_joined (.cons (ev_fmtI (tp rfl) (num_log hp)) (.cons ev_cstr (.cons (ev_fmtI (bo rfl) (num_log hq)) .nil))) ?_) (key _ ?_)
    · have l3 : ("/" : Str).length = 1 := by decide
      simp only [List.map_cons, List.map_nil, List.sum_cons, List.sum_nil]
      omega
    · unfold txt
      rw [if_neg e]
      simp only [catS, cat_nil, cat_as]
def repT (p q : Int) : Str := "Ratio(" ++ numS p ++ ", " ++ numS q ++ ")"
def postRep (T : Tx K mg) (as : List D) (r : D) : Prop := ∀ p q, as = [ratO T p q] → r = .str (repT p q)
theorem ok_rrepr (T : Tx K mg) : FnOk P w K mg base CX0 1 T.f_Ratiorepr T.fd_Ratiorepr ["self"] (spF K (preOne T) (postRep T)) := by
  refine fn_run T.F_Ratiorepr sc_Ratiorepr (fun M as ⟨_, _, e, _⟩ => by rw [e]; rfl) (fun cdv A outer s H E hr => ⟨_, (pss_one (ps_ret (pe_joined (.cons pe_str (.cons (pe_fmt (q_fld (K := K) (pv 0))) (.cons pe_str (.cons (pe_fmt (q_fld (K := K) (pv 0))) (.cons pe_str .nil)))))))), fun M as ⟨p, q, e, h, hp, hq⟩ => ?_⟩)
  subst e
  show Run K M [some (ratO T p q)] _ _
  have c := T.oc_Ratio.toCls
  have l1 : (Str.ofString (toString p)).length ≤ 25 := numS_len hp
  have l2 : (Str.ofString (toString q)).length ≤ 25 := numS_len hq
  have l3 : ("Ratio(" : Str).length = 6 := by decide
  have l4 : (", " : Str).length = 2 := by decide
  have l5 : (")" : Str).length = 1 := by decide
  refine run_ret1 (ev_joined (.cons ev_cstr (.cons (ev_fmtI (ev_fld (ev_var rfl) c T.no_Ratio_top rfl) (num_log hp)) (.cons ev_cstr (.cons (ev_fmtI (ev_fld (ev_var rfl) c T.no_Ratio_bottom rfl) (num_log hq)) (.cons ev_cstr .nil))))) ?_) (one_key (f := fun p q => .str (repT p q)) ?_)
  · simp only [List.map_cons, List.map_nil, List.sum_cons, List.sum_nil]
    omega
  · simp only [catS, cat_nil, repT]
/-! ### digits_in -/
def oD : Option Nat → D
  | none => .non
  | some n => .int n
def digD (x : Str) : D := oD (digL (tl x))
def preDg (_ : Ml) (as : List D) : Prop := ∃ x : Str, as = [.str x] ∧ x.length ≤ 200
def postDg (as : List D) (r : D) : Prop := ∀ x : Str, as = [.str x] → r = digD x
theorem in_dig (c : Nat) : decide (c ∈ ("0123456789" : Str).cps.toList) = isDig c := by
  rw [show ("0123456789" : Str).cps.toList = [48, 49, 50, 51, 52, 53, 54, 55, 56, 57] by decide +kernel, Bool.eq_iff_iff]
  simp only [isDig, decide_eq_true_eq, Bool.and_eq_true, List.mem_cons, List.not_mem_nil, or_false]
  omega
theorem tl_zero : tl ("0" : Str) = [48] := by decide +kernel
theorem ok_digitsin (T : Tx K mg) : FnOk P w K mg base CX0 1 T.f_digits_in T.fd_digits_in ["text"] (spF K preDg postDg) := by
  have gD := T.g_DIGITS
  refine fn_run T.F_digits_in sc_digitsin (fun M as ⟨_, e, _⟩ => by rw [e]; rfl) (fun cdv A outer s H E hr => ⟨_, (pss_cons (ps_if (PW.pt (pw_or (pt_cmpR op_eq (pv 0) pe_str (nomark _)) (pw_or1 (pt_not (pt_val (pe_callB (q_all (K := K)) (by rfl) T.b_all bt_all (pa_cons (pe_lc (own := [("sign", 1)]) (g := (gName 1)) (tt := tYes) (by rfl) sc_digitsin.nd (q_itany (K := K) (pv 0)) (blkOk_by (own := [("sign", 1)]) (N := n_digitsin) (sc := defScope s_digitsin) (by decide +kernel)) (fun _ _ _ _ _ => (pg_name (i := 1) sc_digitsin.nd rfl (Or.inl rfl))) (fun _ _ _ _ _ => pts_nil) (fun _ _ _ _ _ => (pe_cmpR (q_in (K := K)) (pv 1) (pe_glob rfl T.c_DIGITS T.r_DIGITS) (by rfl)))) pa_nil))))))) (pss_one (ps_ret pe_non)) pss_nil)
  (pss_one (ps_ret (pe_ifExp (PW.pt (pw_or (pt_cmpR op_eq (pv 0) pe_str (nomark _)) (pw_or1 (pt_cmpR op_ne (pe_ix (q_ix (K := K)) (pv 0) pe_int (fun _ _ => rfl)) pe_str (nomark _))))) (pe_callTy call_int_str (by rfl) T.b_int bt_int (pa_cons (pv 0) pa_nil)) pe_non)))), fun M as ⟨x, e, hl⟩ => ?_⟩)
  subst e
  show Run K M [some (.str x), none] _ _
  have key : ∀ r, r = digD x → postDg [.str x] r := fun r hr x' e => by cases e; exact hr
  have hall : Ev K M [some (.str x), none] _ (· = .bl ((tl x).all isDig)) := ev_cb1 (r := rAll K) (ea1 (ev_eq (ev_lcM (cs := tl x) (inj := fun c => .str ⟨#[c]⟩) (f := fun c => .bl (isDig c)) (vs := [1]) (g := gName 1) (ei_any (ev_var (i := 0) rfl) rfl) (by have := len_tl x; omega) fun c hc => eg_name ((ev_op1 (ev_var (i := 1) rfl) (ev_c gD) od_inS).weak fun d e => by rw [e, in_dig])) (show D.list _ = .list (((tl x).map isDig).map D.bl) by rw [List.map_map]; rfl)) ea_nil) (by
    rw [show (tl x).all isDig = ((tl x).map isDig).all id by rw [List.all_map]; rfl]
    exact cd_all)
  refine run_seq (run_if1 (et_or (et_B (ev_op1 (ev_var rfl) ev_cstr od_eqS)) fun _ => et_not (et_test hall)) (fun e => ?_) fun e => run_next ?_)
  · refine run_ret1 ev_cnon (key _ ?_)
    unfold digD digL
    rw [Bool.or_eq_true] at e
    rcases e with e | e
    · have e : x = "" := of_decide_eq_true e
      subst e
      rfl
    · split
      · rfl
      · rw [if_neg (by simpa using e)]; rfl
  · rw [Bool.or_eq_false_iff] at e
    have e1 : x ≠ "" := of_decide_eq_false e.1
    have e2 : (tl x).all isDig = true := by simpa using e.2
    have e3 : tl x ≠ [] := fun h => e1 (ext_tl h)
    obtain ⟨ch, r, ec⟩ : ∃ c r, tl x = c :: r := by
      cases h : tl x with
      | nil => exact absurd h e3
      | cons c r => exact ⟨c, r, rfl⟩
    have hi : itemD (.str x) 0 = some (.str ⟨#[ch]⟩) := by
      show (if x.length ≤ 100000 then (L2.atI (tl x) 0).map fun c => D.str ⟨#[c]⟩ else none) = _
      rw [if_pos (by omega), ec]
      unfold L2.atI ixN
      rw [if_pos (by decide), if_pos (by rw [List.length_cons]; omega)]
      rfl
    have ho : ((decide (x = "0")) || !decide ((⟨#[ch]⟩ : Str) = "0")) = decide (tl x = [48] ∨ (tl x).head? ≠ some 48) := by
      have h1 : x = "0" ↔ tl x = [48] := ⟨fun h => by rw [h]; exact tl_zero, fun h => ext_tl (by rw [h, tl_zero])⟩
      have h2 : (⟨#[ch]⟩ : Str) = "0" ↔ (tl x).head? = some 48 := by
        rw [ec]
        refine ⟨fun h => ?_, fun h => ?_⟩
        · have := congrArg tl h
          rw [tl_zero] at this
          have this : [ch] = [48] := this
          injection this with this _
          rw [this]; rfl
        · have h : some ch = some 48 := h
          cases h
          exact ext_tl (by rw [tl_zero])
      rw [Bool.eq_iff_iff]
      simp only [Bool.or_eq_true, decide_eq_true_eq, Bool.not_eq_true', decide_eq_false_iff_not, h1, h2, ne_eq]
    have et := et_or (u := tB (tOp rNe (tOp (rIx K) (tVar 0) (tC (V.int 0))) (tC (V.str "0")))) (K := K) (M := M) (ds := [some (.str x), none]) (et_B (ev_op1 (ev_var (i := 0) rfl) (ev_cstr (x := "0")) od_eqS)) fun _ => et_B (ev_op1 (ev_op1 (ev_var (i := 0) rfl) ev_cint (od_ix hi)) ev_cstr od_neS)
    rw [ho] at et
    unfold digD digL at key
    rw [if_neg e3, if_pos e2] at key
    by_cases h : tl x = [48] ∨ (tl x).head? ≠ some 48
    · rw [if_pos h] at key
      exact run_ret1 (ev_ifT et (decide_eq_true h) (ev_cb1 (ea1 (ev_var rfl) ea_nil) (cd_intS (int_text e2 e3 (by omega)) (by omega)))) (key _ rfl)
    · rw [if_neg h] at key
      exact run_ret1 (ev_ifF et (decide_eq_false h) ev_cnon) (key _ rfl)
end
end L43
namespace L43
open PySem L2 TL Rg RZ PyProof.Rows
local macro_rules | `(tactic| walk_at "ev") => `(tactic| first
  | with_reducible assumption
  | ((with_reducible apply ev_var); exact rfl)
  | with_reducible exact ev_cint
  | with_reducible exact ev_cbl
  | with_reducible exact ev_cnon
  | with_reducible exact ev_cstr
  | ((with_reducible apply ev_c); with_reducible assumption)
  | with_reducible exact ev_craw
  | ((with_reducible apply ev_tup1); walk_at "ea"; exact Nat.le_of_ble_eq_true rfl)
  | ((with_reducible apply ev_lst1); walk_at "ea"; exact Nat.le_of_ble_eq_true rfl)
  | ((with_reducible apply ev_op1); walk_at "ev"; walk_at "ev"; walk_at "od")
  | ((with_reducible apply ev_un1); walk_at "ev"; exact ud_neg)
  | ((with_reducible apply ev_isSeq); walk_at "ev"; walk_at "ea"; exact rfl; exact rfl)
  | ((with_reducible apply ev_cb1); walk_at "ea"; walk_at "cd")
  | ((with_reducible apply ev_chainB); walk_at "ev"; walk_at "ev"; walk_at "od"; walk_at "ev"; walk_at "od")
  | ((with_reducible apply ev_andF); walk_at "ev"; exact rfl)
  | ((with_reducible apply ev_andT); walk_at "ev"; exact rfl; walk_at "ev")
  | ((with_reducible apply ev_andB); walk_at "ev"; intro _; walk_at "ev")
  | ((with_reducible apply ev_orT); walk_at "ev"; exact rfl)
  | ((with_reducible apply ev_orF); walk_at "ev"; exact rfl; walk_at "ev")
  | ((with_reducible apply ev_orB); walk_at "ev"; intro _; walk_at "ev")
  | ((with_reducible apply ev_notV); walk_at "ev"))
local macro_rules | `(tactic| walk_at "et") => `(tactic| first
  | ((with_reducible apply et_B); walk_at "ev")
  | ((with_reducible apply et_test); walk_at "ev")
  | ((with_reducible apply et_not); walk_at "et")
  | ((with_reducible apply et_orT); walk_at "et"; exact rfl)
  | ((with_reducible apply et_orF); walk_at "et"; exact rfl; walk_at "et")
  | ((with_reducible apply et_or); walk_at "et"; intro _; walk_at "et")
  | ((with_reducible apply et_andF); walk_at "et"; exact rfl)
  | ((with_reducible apply et_andT); walk_at "et"; exact rfl; walk_at "et")
  | ((with_reducible apply et_and); walk_at "et"; intro _; walk_at "et"))
local macro_rules | `(tactic| walk_at "ea") => `(tactic| first
  | with_reducible exact ea_nil
  | ((with_reducible apply ea1); walk_at "ev"; walk_at "ea"))
local macro_rules | `(tactic| walk_at "od") => `(tactic| first
  | with_reducible exact od_addI
  | with_reducible exact od_subI
  | ((with_reducible apply od_addS); (try simp only [PySem.Str.length_append]); omega)
  | ((with_reducible apply od_catL); exact Nat.le_of_ble_eq_true rfl)
  | ((with_reducible apply od_modI); first | decide | omega)
  | ((with_reducible apply od_mulI); first | (exact Or.inr ⟨by decide, by decide⟩) | (exact Or.inl ⟨by decide, by decide⟩) | (exact Or.inl ⟨by omega, by omega⟩) | (exact Or.inr ⟨by omega, by omega⟩))
  | ((with_reducible apply od_divI); first | (exact ⟨by decide, by decide⟩) | (exact ⟨by omega, by omega⟩))
  | ((with_reducible apply od_powI); exact ⟨by decide, by decide, by decide⟩)
  | with_reducible exact od_leI
  | with_reducible exact od_ltI
  | with_reducible exact od_gtI
  | with_reducible exact od_geI
  | with_reducible exact od_eqI
  | with_reducible exact od_eqB
  | with_reducible exact od_neB
  | with_reducible exact od_neI
  | with_reducible exact od_eqS
  | with_reducible exact od_inS
  | ((with_reducible apply od_none); exact rfl)
  | ((with_reducible apply od_ix); exact rfl))
local macro_rules | `(tactic| walk_at "cd") => `(tactic| first
  | ((with_reducible apply cd_isStr); exact rfl)
  | ((with_reducible apply cd_isInt); exact rfl)
  | ((with_reducible apply cd_isBool); exact rfl)
  | ((with_reducible apply cd_isList); exact rfl)
  | ((with_reducible apply cd_isTuple); exact rfl)
  | ((with_reducible apply cd_isi); assumption)
  | ((with_reducible apply cd_len); assumption)
  | ((with_reducible apply cd_len); exact rfl)
  | with_reducible exact cd_intI
  | with_reducible exact cd_listof
  | ((with_reducible apply cd_str); assumption)
  | with_reducible exact cd_all)
local macro_rules | `(tactic| walk_at "px") => `(tactic| first
  | ((with_reducible apply px_var); exact rfl)
  | with_reducible exact px_c
  | ((with_reducible apply px_op); walk_at "px"; walk_at "px"; walk_at "pr")
  | ((with_reducible apply px_cb); walk_at "pa"; walk_at "pr")
  | ((with_reducible apply px_test); walk_at "px")
  | ((with_reducible apply px_B); walk_at "px")
  | ((with_reducible apply px_and); walk_at "px"; walk_at "px"))
local macro_rules | `(tactic| walk_at "pa") => `(tactic| first
  | with_reducible exact px_nil
  | ((with_reducible apply px_cons); walk_at "px"; walk_at "pa"))
local macro_rules | `(tactic| walk_at "pr") => `(tactic| first
  | exact px_addI
  | (apply px_ix; assumption; exact rfl)
  | (apply px_ix; assumption; assumption)
  | exact px_eqI
  | exact fun Q q => ⟨_, _, rfl, rfl, q⟩
  | exact fun Q q => ⟨_, _, rfl, rfl, (Or.inr ⟨by decide, by decide⟩), q⟩
  | exact fun Q q => ⟨_, _, rfl, rfl, (Or.inl ⟨by omega, by omega⟩), q⟩
  | exact fun Q q => ⟨_, _, rfl, rfl, (Or.inr ⟨by omega, by omega⟩), q⟩
  | exact fun Q q => ⟨_, _, rfl, rfl, ⟨by decide, by decide⟩, q⟩
  | exact fun Q q => ⟨_, _, rfl, rfl, ⟨by omega, by omega⟩, q⟩
  | exact fun Q q => ⟨_, _, rfl, rfl, ⟨by decide, by decide, by decide⟩, q⟩
  | exact fun Q q => ⟨_, _, rfl, rfl, (by decide), q⟩
  | exact fun Q q => ⟨_, _, rfl, rfl, (by omega), q⟩
  | (apply px_len; assumption)
  | exact px_intI
  | exact px_abs)
local macro_rules | `(tactic| walk_at "fg") => `(tactic| repeat first | exact Fg.nil | apply Fg.keep | apply Fg.drop)
theorem tl_first (x : Str) : tl (cutS x none (some 1)) = (tl x).take 1 := by
  have e : tl (cutS x none (some 1)) = ((tl x).drop 0).take (HT.sIx x.length x.length (some ((1 : Nat) : Int)) - 0) := rfl
  rw [e, HT.sIx_nat, List.drop_zero, Nat.sub_zero, len_tl]
  cases tl x with
  | nil => rfl
  | cons c r => rw [show min 1 (c :: r).length = 1 by rw [List.length_cons]; omega]
theorem tl_rest (x : Str) : tl (cutS x (some 1) none) = (tl x).drop 1 := by
  have e : tl (cutS x (some 1) none) = ((tl x).drop (HT.sIx x.length 0 (some ((1 : Nat) : Int)))).take (x.length - HT.sIx x.length 0 (some ((1 : Nat) : Int))) := rfl
  rw [e, HT.sIx_nat, len_tl]
  rw [List.take_of_length_le (by rw [List.length_drop]; exact Nat.le_refl _)]
  cases tl x with
  | nil => rfl
  | cons c r => rw [show min 1 (c :: r).length = 1 by rw [List.length_cons]; omega]
theorem tl_minus : tl ("-" : Str) = [45] := by decide +kernel
theorem less_iff (x : Str) : decide (cutS x none (some 1) = "-") = decide ((tl x).take 1 = [45]) := by
  have h : cutS x none (some 1) = "-" ↔ (tl x).take 1 = [45] := ⟨fun h => by rw [← tl_first, h, tl_minus], fun h => ext_tl (by rw [tl_first, h, tl_minus])⟩
  rw [Bool.eq_iff_iff]
  simp only [decide_eq_true_eq, h]
theorem spl_len (S : List Nat) : ∀ (l : List Nat) (k : Nat) (acc : List Nat), ∀ p ∈ spl S k acc l, p.length ≤ acc.length + l.length
  | [], k, acc, p, h => by
    rw [spl_nil] at h
    rw [List.mem_singleton.mp h]; simp
  | c :: r, 0, acc, p, h => by
    unfold spl at h
    split at h
    · rcases List.mem_cons.mp h with rfl | h
      · omega
      · have := spl_len S r _ _ p h
        simp only [List.length_cons, List.length_nil] at this ⊢
        omega
    · have := spl_len S r _ _ p h
      simp only [List.length_cons, List.length_append, List.length_nil] at this ⊢
      omega
  | c :: r, k + 1, acc, p, h => by
    unfold spl at h
    have := spl_len S r _ _ p h
    simp only [List.length_cons] at this ⊢
    omega
section
variable {P : Program} {w : World} {K : PySem.W.Frag} {mg : Str → Option Value} {base : Heap}
def oV : Option Nat → V
  | none => .non
  | some n => .int n
theorem flat_o (l : List (Option Nat)) : (l.map oD).map flatD = (l.map oV).map some := by
  rw [List.map_map, List.map_map]
  congr 1
  funext o
  cases o <;> rfl
def partsD : Option (Int × Int) → D
  | none => .non
  | some z => .tup [.int z.1, .int z.2]
def prePt (_ : Ml) (as : List D) : Prop := ∃ x : Str, as = [.str x] ∧ x.length ≤ 100
def postPt (as : List D) (r : D) : Prop := ∀ x : Str, as = [.str x] → r = partsD (partsL (tl x))
theorem ok_partsin (T : Tx K mg) : FnOk P w K mg base CX0 3 T.f_parts_in T.fd_parts_in ["text"] (spF K prePt postPt) := by
  have G_digitsin := ok_digitsin (P := P) (w := w) (base := base) T
  have B_digitsin := Bd_digitsin T
  have G_greatestdivisor := ok_gd (P := P) (w := w) (base := base) T
  have B_greatestdivisor := Bd_greatestdivisor T
  refine fn_run T.F_parts_in sc_partsin (fun M as ⟨_, e, _⟩ => by rw [e]; rfl) (fun cdv A outer s H E hr => ⟨_, (pss_cons (ps_set (i := 1) sc_partsin.nd rfl (Or.inl rfl) (pe_cmpR op_eq (pe_slice (q_sl (K := K)) (pv 0) po_none (po_some pe_int)) pe_str (nomark _)))
  (pss_cons (ps_set (i := 2) sc_partsin.nd rfl (Or.inl rfl) (L2.pe_split (pe_ifExp (pt_val (pv 1)) (pe_slice (q_sl (K := K)) (pv 0) (po_some pe_int) po_none) (pv 0)) pe_str))
  (pss_cons (ps_setLc (i := 3) (own := [("word", 6)]) (g := (gName 6)) (tt := tYes) (by rfl) sc_partsin.nd rfl rfl (sw_true rfl rfl rfl (by decide +kernel)) (q_itany (K := K) (pv 2)) (blkOk_by (own := [("word", 6)]) (N := n_partsin) (sc := defScope s_partsin) (by decide +kernel)) (fun _ _ _ _ _ => (pg_name (i := 6) sc_partsin.nd rfl (Or.inl rfl))) (fun _ _ _ _ _ => pts_nil) (fun _ _ _ _ _ => (pe_call G_digitsin (hr.mono (by decide)) (by rfl) T.m_digits_in T.F_digits_in.kp B_digitsin .nil pass0 (pa_cons (pv 6) pa_nil))))
  (pss_cons (ps_if (PW.pt (pw_or (pt_cmpR (q_in (K := K)) pe_non (pv 3) (by rfl)) (pw_or (pt_cmpR op_gt (pe_callB (q_len (K := K)) (by rfl) T.b_len bt_len (pa_cons (pv 3) pa_nil)) pe_int (nomark _)) (pw_or1 (PW.pt (pw_and (pt_val (pv 1)) (pw_and1 (pt_cmpR op_eq (pe_ix (q_ix (K := K)) (pv 3) pe_int (fun _ _ => rfl)) pe_int (nomark _))))))))) (pss_one (ps_ret pe_non)) pss_nil)
  (pss_cons (ps_par rfl sc_partsin.nd (i := 4) (j := 5) rfl rfl (by decide) rfl rfl (pa_cons (pe_ix (q_ix (K := K)) (pv 3) pe_int (fun _ _ => rfl)) (pa_cons (pe_ifExp (pt_cmpR op_eq (pe_callB (q_len (K := K)) (by rfl) T.b_len bt_len (pa_cons (pv 3) pa_nil)) pe_int (nomark _)) (pe_ix (q_ix (K := K)) (pv 3) pe_int (fun _ _ => rfl)) pe_int) pa_nil)) (by rfl))
  (pss_cons (ps_if (PW.pt (pw_and (pt_cmpR op_eq (pe_callB (q_len (K := K)) (by rfl) T.b_len bt_len (pa_cons (pv 3) pa_nil)) pe_int (nomark _)) (pw_and1 (PW.pt (pw_or (pt_cmpR op_lt (pv 5) pe_int (nomark _)) (pw_or1 (pt_cmpR op_ne (pe_call G_greatestdivisor (hr.mono (by decide)) (by rfl) T.m_greatest_divisor T.F_greatest_divisor.kp B_greatestdivisor .nil pass0 (pa_cons (pv 4) (pa_cons (pv 5) pa_nil))) pe_int (nomark _)))))))) (pss_one (ps_ret pe_non)) pss_nil)
  (pss_one (ps_ret (pe_tup (pa_cons (pe_ifExp (pt_val (pv 1)) (pe_un un_neg (pv 4)) (pv 4)) (pa_cons (pv 5) pa_nil))))))))))), fun M as ⟨x, e, hl⟩ => ?_⟩)
  subst e
  show Run K M [some (.str x), none, none, none, none, none, none] _ _
  have key : ∀ r, r = partsD (partsL (tl x)) → postPt [.str x] r := fun r hr x' e => by cases e; exact hr
  refine run_asg1 (ev_op1 (ev_slS (ev_var rfl) eo_none (eo_some ev_cint) (by omega)) ev_cstr od_eqS) ?_
  rw [less_iff]
  generalize hb : decide ((tl x).take 1 = [45]) = less
  show Run K M [some (.str x), some (.bl less), none, none, none, none, none] _ _
  obtain ⟨y, hy, hyl, ey⟩ : ∃ y : Str, tl y = restL (tl x) ∧ y.length ≤ 100 ∧ y = if less = true then cutS x (some 1) none else x := by
    refine ⟨_, ?_, ?_, rfl⟩
    · unfold restL
      cases less with
      | true => rw [if_pos rfl, if_pos (of_decide_eq_true hb), tl_rest]
      | false => rw [if_neg Bool.false_ne_true, if_neg (of_decide_eq_false hb)]
    · split
      · exact Nat.le_trans (cutS_length _ _ _) hl
      · exact hl
  refine run_asg1 (ev_split (a := y) (b := "/") ?_ ev_cstr (by decide) (by omega)) ?_
  · cases less with
    | true => exact ev_eq (ev_ifT (et_test (ev_var rfl)) rfl (ev_slS (ev_var rfl) (eo_some ev_cint) eo_none (by omega))) (by rw [ey]; rfl)
    | false => exact ev_eq (ev_ifF (et_test (ev_var rfl)) rfl (ev_var rfl)) (by rw [ey]; rfl)
  have hs := split_slash y
  rw [hy] at hs
  generalize hws : Txt.split y "/" = ws at hs
  have hlw : ∀ wd ∈ ws, wd.length ≤ 200 := fun wd hw => by
    have h1 : tl wd ∈ spl [47] 0 [] (restL (tl x)) := by rw [← hs]; exact List.mem_map.mpr ⟨wd, hw, rfl⟩
    have h2 := spl_len _ _ _ _ _ h1
    rw [← hy] at h2
    have h3 := len_tl wd
    have h4 := len_tl y
    simp only [List.length_nil] at h2
    omega
  have hwl : ws.length ≤ 100000 := by
    have h1 : ws.length = (spl [47] 0 [] (restL (tl x))).length := by rw [← hs, List.length_map]
    have h2 : ∀ (l : List Nat) (k : Nat) (acc : List Nat), (spl [47] k acc l).length ≤ l.length + 1 := fun l => by
      induction l with
      | nil => intro k acc; rw [spl_nil]; simp
      | cons c r ih =>
        intro k acc
        cases k with
        | zero =>
          unfold spl
          split
          · have := ih ([47].length - 1) []
            simp only [List.length_cons] at this ⊢
            omega
          · have := ih 0 (acc ++ [c])
            simp only [List.length_cons] at this ⊢
            omega
        | succ k =>
          unfold spl
          have := ih k acc
          simp only [List.length_cons] at this ⊢
          omega
    have h3 := h2 (restL (tl x)) 0 []
    rw [h1]
    refine Nat.le_trans h3 ?_
    rw [← hy, ← len_tl]
    omega
  have hn : ws.map digD = (numsOf (restL (tl x))).map oD := by
    unfold numsOf
    rw [← hs, List.map_map, List.map_map]
    rfl
  have hne : numsOf (restL (tl x)) ≠ [] := fun h => spl_ne [47] (restL (tl x)) 0 [] (List.map_eq_nil_iff.mp h)
  refine run_asg1 (ev_lcM (cs := ws) (inj := D.str) (f := digD) (ei_any (ev_var rfl) rfl) hwl fun wd hw => eg_name ((ev_call1 (ea1 (ev_var rfl) ea_nil) fun _ _ => ⟨wd, rfl, hlw wd hw⟩).weak fun r z => z wd rfl)) ?_
  rw [hn]
  have hp : partsL (tl x) = partsL (tl x) := rfl
  unfold partsL at key
  generalize numsOf (restL (tl x)) = nums at key hne ⊢
  show Run K M [some (.str x), some (.bl less), some (.list (ws.map D.str)), some (.list (nums.map oD)), none, none, none] _ _
  have hin : Ev K M [some (.str x), some (.bl less), some (.list (ws.map D.str)), some (.list (nums.map oD)), none, none, none] (tOp (rInU K) (tC V.non) (tVar 3)) (· = .bl (inV .non (nums.map oV))) := ev_op1 ev_cnon (ev_var rfl) (od_inQ (.inl rfl) rfl (flat_o nums))
  have hless : ∀ t : Nat, (less && decide ((t : Int) = 0)) = decide ((tl x).take 1 = [45] ∧ t = 0) := fun t => by
    rw [← hb, Bool.eq_iff_iff]
    simp only [Bool.and_eq_true, decide_eq_true_eq]
    exact and_congr Iff.rfl (by omega)
  match nums, hne, key, hin with
  | [none], _, key, hin => exact run_seq (run_ifT (et_orT (et_B hin) (by rfl)) rfl (run_ret1 ev_cnon (key _ rfl)))
  | [none, o2], _, key, hin => exact run_seq (run_ifT (et_orT (et_B hin) (by rfl)) rfl (run_ret1 ev_cnon (key _ (by cases o2 <;> rfl))))
  | [some t, none], _, key, hin => exact run_seq (run_ifT (et_orT (et_B hin) (by rfl)) rfl (run_ret1 ev_cnon (key _ rfl)))
  | o1 :: o2 :: o3 :: r, _, key, hin =>
    have hk : ∀ (f g : D), (match o1 :: o2 :: o3 :: r with | [some t] => f | [some t, some b] => g | _ => (.non : D)) = .non := fun _ _ => by cases o1 <;> cases o2 <;> rfl
    have hl3 : decide ((2 : Int) < ((((o1 :: o2 :: o3 :: r).map oD).length : Nat) : Int)) = true := decide_eq_true (by simp only [List.length_map, List.length_cons]; omega)
    refine run_seq (run_if1 (et_or (et_B hin) fun _ => et_orT (et_B (ev_op1 (ev_cb1 (ea1 (ev_var rfl) ea_nil) (cd_len rfl)) ev_cint od_gtI)) hl3) (fun _ => run_ret1 ev_cnon (key _ (by cases o1 <;> cases o2 <;> rfl))) fun e => ?_)
    rw [Bool.or_true] at e
    cases e
  | [some t], _, key, hin =>
    have e0 : ∀ u : TT, True := fun _ => trivial
    refine run_seq (run_if1 (c := less && decide ((t : Int) = 0)) (et_orF (et_B hin) (by rfl) (et_orF (et_B (ev_op1 (ev_cb1 (ea1 (ev_var rfl) ea_nil) (cd_len rfl)) ev_cint od_gtI)) (by rfl) (et_and (et_test (ev_var rfl)) fun _ => et_B (ev_op1 (ev_op1 (ev_var rfl) ev_cint (od_ix (by rfl))) ev_cint od_eqI)))) (fun e => ?_) fun e => run_next ?_)
    · rw [hless] at e
      exact run_ret1 ev_cnon (key _ (by simp only; rw [if_pos (of_decide_eq_true e)]; rfl))
    · rw [hless] at e
      refine run_seq (run_par (ea_cons (Ra := (· = .int t)) (ev_op1 (ev_var rfl) ev_cint (od_ix (by rfl))) (ea_cons (Ra := (· = .int 1)) (ev_ifF (et_B (ev_op1 (ev_cb1 (ea1 (ev_var rfl) ea_nil) (cd_len rfl)) ev_cint od_eqI)) (by rfl) ev_cint) ea_nil)) fun l ⟨a, r, e1, ea, b, r2, e2, eb, e3⟩ => ⟨a, b, by rw [e1, e2, e3], ?_⟩)
      subst ea eb
      show Run K M [some (.str x), some (.bl less), some (.list (ws.map D.str)), some (.list [.int t]), some (.int t), some (.int 1), none] _ _
      refine run_seq (run_ifF (et_andF (et_B (ev_op1 (ev_cb1 (ea1 (ev_var rfl) ea_nil) (cd_len rfl)) ev_cint od_eqI)) (by rfl)) rfl (run_next ?_))
      refine run_ret1 (ev_tup1 (ea1 (ev_ifE (et_test (ev_var rfl)) (fun _ => ev_un1 (ev_var rfl) ud_neg) fun _ => ev_var rfl) (ea1 (ev_var rfl) ea_nil)) (Nat.le_of_ble_eq_true rfl)) (key _ ?_)
      simp only
      rw [if_neg (of_decide_eq_false e)]
      cases less with
      | true => rw [if_pos rfl, if_pos (of_decide_eq_true hb)]; rfl
      | false => rw [if_neg Bool.false_ne_true, if_neg (of_decide_eq_false hb)]; rfl
  | [some t, some b], _, key, hin =>
    refine run_seq (run_if1 (c := less && decide ((t : Int) = 0)) (et_orF (et_B hin) (by rfl) (et_orF (et_B (ev_op1 (ev_cb1 (ea1 (ev_var rfl) ea_nil) (cd_len rfl)) ev_cint od_gtI)) (by rfl) (et_and (et_test (ev_var rfl)) fun _ => et_B (ev_op1 (ev_op1 (ev_var rfl) ev_cint (od_ix (by rfl))) ev_cint od_eqI)))) (fun e => ?_) fun e => run_next ?_)
    · rw [hless] at e
      exact run_ret1 ev_cnon (key _ (by simp only; rw [if_pos (of_decide_eq_true e)]; rfl))
    · rw [hless] at e
      simp only at key
      rw [if_neg (of_decide_eq_false e)] at key
      refine run_seq (run_par (ea_cons (Ra := (· = .int t)) (ev_op1 (ev_var rfl) ev_cint (od_ix (by rfl))) (ea_cons (Ra := (· = .int b)) (ev_ifT (et_B (ev_op1 (ev_cb1 (ea1 (ev_var rfl) ea_nil) (cd_len rfl)) ev_cint od_eqI)) (by rfl) (ev_op1 (ev_var rfl) ev_cint (od_ix (by rfl)))) ea_nil)) fun l ⟨a, r, e1, ea, b', r2, e2, eb, e3⟩ => ⟨a, b', by rw [e1, e2, e3], ?_⟩)
      subst ea eb
      show Run K M [some (.str x), some (.bl less), some (.list (ws.map D.str)), some (.list [.int t, .int b]), some (.int t), some (.int b), none] _ _
      have hg : (decide ((b : Int) < 2) || !decide (gz t b = 1)) = decide (b < 2 ∨ Nat.gcd t b ≠ 1) := by
        have h1 : gz t b = ((Nat.gcd t b : Nat) : Int) := rfl
        rw [h1, Bool.eq_iff_iff]
        simp only [Bool.or_eq_true, Bool.not_eq_true', decide_eq_true_eq, decide_eq_false_iff_not]
        omega
      have et := et_andT (K := K) (M := M) (et_B (ev_op1 (ev_cb1 (ea1 (ev_var (ds := [some (.str x), some (.bl less), some (.list (ws.map D.str)), some (.list [.int t, .int b]), some (.int t), some (.int b), none]) (i := 3) rfl) ea_nil) (cd_len rfl)) (ev_cint (i := 2)) od_eqI)) (by rfl) (et_or (et_B (ev_op1 (ev_var (i := 5) rfl) (ev_cint (i := 2)) od_ltI)) fun _ => et_B (ev_op1 (ev_gd (E := E0) T (ev_var (i := 4) rfl) (ev_var (i := 5) rfl)) (ev_cint (i := 1)) od_neI))
      rw [hg] at et
      refine run_seq (run_if1 et (fun e2 => ?_) fun e2 => run_next ?_)
      · exact run_ret1 ev_cnon (key _ (by rw [if_pos (of_decide_eq_true e2)]; rfl))
      · refine run_ret1 (ev_tup1 (ea1 (ev_ifE (et_test (ev_var rfl)) (fun _ => ev_un1 (ev_var rfl) ud_neg) fun _ => ev_var rfl) (ea1 (ev_var rfl) ea_nil)) (Nat.le_of_ble_eq_true rfl)) (key _ ?_)
        rw [if_neg (of_decide_eq_false e2)]
        cases less with
        | true => rw [if_pos rfl, if_pos (of_decide_eq_true hb)]; rfl
        | false => rw [if_neg Bool.false_ne_true, if_neg (of_decide_eq_false hb)]; rfl
/-! ### Ratio.read -/
def readD : D → Option (Int × Int)
  | .str x => partsL (tl x)
  | _ => none
abbrev xIT (T : Tx K mg) : D := excD T.c_InvalidText ["line"] "InvalidText" [.int 1]
def preRd (T : Tx K mg) (_ : Ml) (as : List D) : Prop := ∃ d, as = [.raw (.ref T.c_Ratio), d] ∧ ((∃ x : Str, d = .str x ∧ x.length ≤ 100) ∨ isStrD d = some false) ∧ ∀ p q, readD d = some (p, q) → q ≠ 0 ∧ Sz q
def postRd (T : Tx K mg) (as : List D) (r : D) : Prop := ∀ c d, as = [c, d] → ∃ p q, readD d = some (p, q) ∧ r = redD T p q
def pxRd (T : Tx K mg) (as : List D) (x : D) : Prop := ∀ c d, as = [c, d] → readD d = none ∧ x = xIT T
theorem ok_read (T : Tx K mg) : FnOk P w K mg base (L2.CX P w) 5 T.f_Ratioread T.fd_Ratioread ["cls", "text"] (spX K (preRd T) (postRd T) (pxRd T)) := by
  have G_partsin := ok_partsin (P := P) (w := w) (base := base) T
  have B_partsin := Bd_partsin T
  have G_Ratioinit := ok_ratioinit (P := P) (w := w) (base := base) T
  have B_Ratioinit := B_ratio3 T
  refine fn_runX T.F_Ratioread sc_Ratioread (fun M as ⟨_, e, _⟩ => by rw [e]; rfl) (fun X cdv A outer s H E eX hr tk => ?_)
  subst eX
  refine ⟨_, (pss_cons (ps_set (i := 2) sc_Ratioread.nd rfl (Or.inl rfl) (pe_ifExp (pt_val (pe_callB (q_isi (K := K)) (by rfl) T.b_isinstance bt_isinstance (pa_cons (pv 1) (pa_cons (pe_ty bt_str T.b_str) pa_nil)))) (pe_call G_partsin (hr.mono (by decide)) (by rfl) T.m_parts_in T.F_parts_in.kp B_partsin .nil pass0 (pa_cons (pv 1) pa_nil)) pe_non))
  (pss_cons (ps_if (pt_cmpR op_isN (pv 2) pe_non (nomark _)) (pss_one (ps_rz rfl tk (pmk_x T.x_InvalidText.toXc T.i_InvalidText T.t_InvalidText (G_init_InvalidText T) (hr.mono (by decide)) (B_init_InvalidText T) .nil pass0 (by rfl) T.m_InvalidText (pa_cons pe_int pa_nil)))) pss_nil)
  (pss_one (ps_ret (pe_makeL (i := 0) T.mk_Ratio G_Ratioinit (hr.mono (by decide)) rfl (Or.inl rfl) B_Ratioinit passF (pa_cons (pe_ix (q_ix (K := K)) (pv 2) pe_int (fun _ _ => rfl)) (pa_cons (pe_ix (q_ix (K := K)) (pv 2) pe_int (fun _ _ => rfl)) pa_nil))))))), fun M as ⟨d, e, hd, hz⟩ => ?_⟩
  subst e
  show Run K _ [some (.raw (.ref T.c_Ratio)), some d, none] _ _
  refine run_asg (R := (· = partsD (readD d))) ?_ fun d' ed => ?_
  · rcases hd with ⟨x, rfl, hl⟩ | hd
    · exact ev_ifT (et_test (ev_cb1 (ea1 (ev_var rfl) (ea1 ev_craw ea_nil)) (cd_isStr rfl))) rfl ((ev_call1 (ea1 (ev_var rfl) ea_nil) fun _ _ => ⟨x, rfl, hl⟩).weak fun r z => z x rfl)
    · refine ev_eq (ev_ifF (et_test (ev_cb1 (ea1 (ev_var rfl) (ea1 ev_craw ea_nil)) (cd_isStr hd))) rfl ev_cnon) ?_
      cases d <;> first | rfl | cases hd
  subst ed
  cases hp : readD d with
  | none =>
    refine run_seq (run_ifT (et_B (ev_op1 (ev_var rfl) ev_cnon (od_none (b := true) rfl))) rfl ?_)
    exact run_raise rfl (ea1 ev_cint ea_nil) rfl (exk_fn fun c d' e => by cases e; exact ⟨hp, rfl⟩)
  | some z =>
    obtain ⟨p, q⟩ := z
    obtain ⟨h0, h1⟩ := hz p q hp
    refine run_seq (run_ifF (et_B (ev_op1 (ev_var rfl) ev_cnon (od_none (b := false) rfl))) rfl (run_next ?_))
    refine run_ret (ev_makeL (RA := (· = [.int p, .int q])) rfl (ea1 (ev_op1 (ev_var rfl) ev_cint (od_ix (by rfl))) (ea1 (ev_op1 (ev_var rfl) ev_cint (od_ix (by rfl))) ea_nil)) fun a as e => ?_)
    subst e
    refine ⟨fun M' _ => ⟨a, p, q, rfl, rfl, h1⟩, fun o' d h => ?_, fun o' y h => ?_⟩
    · obtain ⟨_, h2, h3⟩ := h a p q rfl rfl
      refine ⟨h2, _, h3, fun c d' e => ?_⟩
      cases e
      exact ⟨p, q, hp, rfl⟩
    · exact absurd (h _ p q rfl).1 h0
theorem ev_read (T : Tx K mg) {M : Mt} {ds : DS} {te : TE} {x : Str} {p q : Int} {E : XK} (he : Ev K M ds te (· = .str x)) (hl : x.length ≤ 100) (hx : partsL (tl x) = some (p, q)) (h0 : q ≠ 0) (hz : Sz q) : Ev K M ds (ClX.tCMeth T.c_Ratio (spX K (preRd T) (postRd T) (pxRd T)) E (tC (.ref T.c_Ratio)) (tCons te tNil)) (· = redD T p q) :=
  ev_cmeth ev_craw (ea1 he ea_nil) fun as e => by
    subst e
    refine ⟨fun M' _ => ⟨_, rfl, .inl ⟨x, rfl, hl⟩, fun p' q' h => ?_⟩, fun d h => ?_, fun y h => ?_⟩
    · have h : partsL (tl x) = some (p', q') := h
      rw [hx] at h
      cases h
      exact ⟨h0, hz⟩
    · obtain ⟨p', q', h1, h2⟩ := h _ _ rfl
      have h1 : partsL (tl x) = some (p', q') := h1
      rw [hx] at h1
      cases h1
      exact h2
    · have h1 : partsL (tl x) = none := (h _ _ rfl).1
      rw [hx] at h1
      cases h1
end
end L43
namespace L43
open PySem L2 TL Rg RZ PyProof.Rows
local macro_rules | `(tactic| walk_at "ev") => `(tactic| first
  | with_reducible assumption
  | ((with_reducible apply ev_var); exact rfl)
  | with_reducible exact ev_cint
  | with_reducible exact ev_cbl
  | with_reducible exact ev_cnon
  | with_reducible exact ev_cstr
  | ((with_reducible apply ev_c); with_reducible assumption)
  | with_reducible exact ev_craw
  | ((with_reducible apply ev_tup1); walk_at "ea"; exact Nat.le_of_ble_eq_true rfl)
  | ((with_reducible apply ev_lst1); walk_at "ea"; exact Nat.le_of_ble_eq_true rfl)
  | ((with_reducible apply ev_op1); walk_at "ev"; walk_at "ev"; walk_at "od")
  | ((with_reducible apply ev_un1); walk_at "ev"; exact ud_neg)
  | ((with_reducible apply ev_isSeq); walk_at "ev"; walk_at "ea"; exact rfl; exact rfl)
  | ((with_reducible apply ev_cb1); walk_at "ea"; walk_at "cd")
  | ((with_reducible apply ev_chainB); walk_at "ev"; walk_at "ev"; walk_at "od"; walk_at "ev"; walk_at "od")
  | ((with_reducible apply ev_andF); walk_at "ev"; exact rfl)
  | ((with_reducible apply ev_andT); walk_at "ev"; exact rfl; walk_at "ev")
  | ((with_reducible apply ev_andB); walk_at "ev"; intro _; walk_at "ev")
  | ((with_reducible apply ev_orT); walk_at "ev"; exact rfl)
  | ((with_reducible apply ev_orF); walk_at "ev"; exact rfl; walk_at "ev")
  | ((with_reducible apply ev_orB); walk_at "ev"; intro _; walk_at "ev")
  | ((with_reducible apply ev_notV); walk_at "ev"))
local macro_rules | `(tactic| walk_at "et") => `(tactic| first
  | ((with_reducible apply et_B); walk_at "ev")
  | ((with_reducible apply et_test); walk_at "ev")
  | ((with_reducible apply et_not); walk_at "et")
  | ((with_reducible apply et_orT); walk_at "et"; exact rfl)
  | ((with_reducible apply et_orF); walk_at "et"; exact rfl; walk_at "et")
  | ((with_reducible apply et_or); walk_at "et"; intro _; walk_at "et")
  | ((with_reducible apply et_andF); walk_at "et"; exact rfl)
  | ((with_reducible apply et_andT); walk_at "et"; exact rfl; walk_at "et")
  | ((with_reducible apply et_and); walk_at "et"; intro _; walk_at "et"))
local macro_rules | `(tactic| walk_at "ea") => `(tactic| first
  | with_reducible exact ea_nil
  | ((with_reducible apply ea1); walk_at "ev"; walk_at "ea"))
local macro_rules | `(tactic| walk_at "od") => `(tactic| first
  | with_reducible exact od_addI
  | with_reducible exact od_subI
  | ((with_reducible apply od_addS); (try simp only [PySem.Str.length_append]); omega)
  | ((with_reducible apply od_catL); exact Nat.le_of_ble_eq_true rfl)
  | ((with_reducible apply od_modI); first | decide | omega)
  | ((with_reducible apply od_mulI); first | (exact Or.inr ⟨by decide, by decide⟩) | (exact Or.inl ⟨by decide, by decide⟩) | (exact Or.inl ⟨by omega, by omega⟩) | (exact Or.inr ⟨by omega, by omega⟩))
  | ((with_reducible apply od_divI); first | (exact ⟨by decide, by decide⟩) | (exact ⟨by omega, by omega⟩))
  | ((with_reducible apply od_powI); exact ⟨by decide, by decide, by decide⟩)
  | with_reducible exact od_leI
  | with_reducible exact od_ltI
  | with_reducible exact od_gtI
  | with_reducible exact od_geI
  | with_reducible exact od_eqI
  | with_reducible exact od_eqB
  | with_reducible exact od_neB
  | with_reducible exact od_neI
  | with_reducible exact od_eqS
  | with_reducible exact od_inS
  | ((with_reducible apply od_none); exact rfl)
  | ((with_reducible apply od_ix); exact rfl))
local macro_rules | `(tactic| walk_at "cd") => `(tactic| first
  | ((with_reducible apply cd_isStr); exact rfl)
  | ((with_reducible apply cd_isInt); exact rfl)
  | ((with_reducible apply cd_isBool); exact rfl)
  | ((with_reducible apply cd_isList); exact rfl)
  | ((with_reducible apply cd_isTuple); exact rfl)
  | ((with_reducible apply cd_isi); assumption)
  | ((with_reducible apply cd_len); assumption)
  | ((with_reducible apply cd_len); exact rfl)
  | with_reducible exact cd_intI
  | with_reducible exact cd_listof
  | ((with_reducible apply cd_str); assumption)
  | with_reducible exact cd_all)
local macro_rules | `(tactic| walk_at "px") => `(tactic| first
  | ((with_reducible apply px_var); exact rfl)
  | with_reducible exact px_c
  | ((with_reducible apply px_op); walk_at "px"; walk_at "px"; walk_at "pr")
  | ((with_reducible apply px_cb); walk_at "pa"; walk_at "pr")
  | ((with_reducible apply px_test); walk_at "px")
  | ((with_reducible apply px_B); walk_at "px")
  | ((with_reducible apply px_and); walk_at "px"; walk_at "px"))
local macro_rules | `(tactic| walk_at "pa") => `(tactic| first
  | with_reducible exact px_nil
  | ((with_reducible apply px_cons); walk_at "px"; walk_at "pa"))
local macro_rules | `(tactic| walk_at "pr") => `(tactic| first
  | exact px_addI
  | (apply px_ix; assumption; exact rfl)
  | (apply px_ix; assumption; assumption)
  | exact px_eqI
  | exact fun Q q => ⟨_, _, rfl, rfl, q⟩
  | exact fun Q q => ⟨_, _, rfl, rfl, (Or.inr ⟨by decide, by decide⟩), q⟩
  | exact fun Q q => ⟨_, _, rfl, rfl, (Or.inl ⟨by omega, by omega⟩), q⟩
  | exact fun Q q => ⟨_, _, rfl, rfl, (Or.inr ⟨by omega, by omega⟩), q⟩
  | exact fun Q q => ⟨_, _, rfl, rfl, ⟨by decide, by decide⟩, q⟩
  | exact fun Q q => ⟨_, _, rfl, rfl, ⟨by omega, by omega⟩, q⟩
  | exact fun Q q => ⟨_, _, rfl, rfl, ⟨by decide, by decide, by decide⟩, q⟩
  | exact fun Q q => ⟨_, _, rfl, rfl, (by decide), q⟩
  | exact fun Q q => ⟨_, _, rfl, rfl, (by omega), q⟩
  | (apply px_len; assumption)
  | exact px_intI
  | exact px_abs)
local macro_rules | `(tactic| walk_at "fg") => `(tactic| repeat first | exact Fg.nil | apply Fg.keep | apply Fg.drop)
section
variable {P : Program} {w : World} {K : PySem.W.Frag} {mg : Str → Option Value} {base : Heap}
/-! ### _law_plain -/
def prePl (_ : Ml) (as : List D) : Prop := ∃ t b : Int, as = [.int t, .int b] ∧ b ≠ 0 ∧ Sz t ∧ Sz b
def postPl (as : List D) (r : D) : Prop := ∀ t b : Int, as = [.int t, .int b] → r = .tup [.int (rT t b), .int (rB t b)]
theorem ok_plain (T : Tx K mg) : FnOk P w K mg base CX0 1 T.f__law_plain T.fd__law_plain ["_law_top_z", "_law_bottom_z"] (spF K prePl postPl) := by
  refine fn_run T.F__law_plain sc_Lplain (fun M as ⟨_, _, e, _⟩ => by rw [e]; rfl) (fun cdv A outer s H E hr => ⟨_, (pss_cons (ps_par rfl sc_Lplain.nd (i := 2) (j := 3) rfl rfl (by decide) rfl rfl (pa_cons (pe_callB call_abs (by rfl) T.b_abs bt_abs (pa_cons (pv 0) pa_nil)) (pa_cons (pe_callB call_abs (by rfl) T.b_abs bt_abs (pa_cons (pv 1) pa_nil)) pa_nil)) (by rfl))
  (pss_cons (ps_for PassesOwn.never rfl (pi_range1 rfl T.b_range (pa_cons pe_int pa_nil)) (pg_name (i := 4) sc_Lplain.nd rfl (Or.inl rfl))
    (pss_cons (ps_if (pt_cmpR op_eq (pv 3) pe_int (nomark _)) (pss_one ps_break) pss_nil)
    (pss_one (ps_par rfl sc_Lplain.nd (i := 2) (j := 3) rfl rfl (by decide) rfl rfl (pa_cons (pv 3) (pa_cons (pe_op op_modN (pe_callTy call_int1 (by rfl) T.b_int bt_int (pa_cons (pv 2) pa_nil)) (pv 3)) pa_nil)) (by rfl)))))
  (pss_cons (ps_set (i := 5) sc_Lplain.nd rfl (Or.inl rfl) (pe_ifExp (pt_cmpR op_gt (pv 1) pe_int (nomark _)) pe_int (pe_un un_neg pe_int)))
  (pss_one (ps_ret (pe_tup (pa_cons (pe_op op_fdivZ (pe_op op_mul (pv 5) (pv 0)) (pv 2)) (pa_cons (pe_op op_fdivZ (pe_op op_mul (pv 5) (pv 1)) (pv 2)) pa_nil)))))))), fun M as ⟨t, b, e, h0, ht, hb⟩ => ?_⟩)
  subst e
  show Run K M [some (.int t), some (.int b), none, none, none, none] _ _
  refine run_seq (run_par (ea_cons (ev_cb1 (ea1 (ev_var rfl) ea_nil) cd_absI) (ea_cons (ev_cb1 (ea1 (ev_var rfl) ea_nil) cd_absI) ea_nil)) fun l ⟨a, r, e1, ea, b', r2, e2, eb, e3⟩ => ⟨a, b', by rw [e1, e2, e3], ?_⟩)
  rw [ea, eb, abs_nat, abs_nat]
  show Run K M [some (.int t), some (.int b), some (.int t.natAbs), some (.int b.natAbs), none, none] _ _
  refine run_seq (run_weak (E := { nx := fun ds' => ∃ (x : Nat) (z : Option D), ds' = [some (.int t), some (.int b), some (.int x), some (.int 0), z, none] ∧ Nat.gcd x 0 = Int.gcd t b, rt := fun _ => False }) (run_for (ei_range (n := 200) (ea1 ev_cint ea_nil) (by decide)) fun es ees => ⟨fun i ds' => ∃ x y : Nat, ∃ z, ds' = [some (.int t), some (.int b), some (.int x), some (.int y), z, none] ∧ Nat.gcd x y = Int.gcd t b ∧ Far i x y, ⟨t.natAbs, b.natAbs, none, rfl, rfl, .inl ⟨rfl, ?_⟩⟩, fun i d ds' hd ⟨x, y, z, ed, hg, hf⟩ => ?_, fun ds' ⟨x, y, z, ed, hg, hf⟩ => ?_⟩) (fun ds' ⟨x, z, ed, hg⟩ => ?_) (fun _ h => h.elim) (fun _ h => h.elim) (fun _ h => h.elim))
  · have e : (2 : Nat) ^ 126 = 2 ^ 63 * 2 ^ 63 := by decide
    refine Nat.lt_trans (?_ : _ < 2 ^ 126) (by decide)
    rw [e]
    exact Nat.mul_lt_mul'' ht hb
  · subst ed
    refine eg_name ?_
    refine run_seq (run_if1 (et_B (ev_op1 (ev_var rfl) ev_cint od_eqI)) (fun e => ?_) fun e => run_next ?_)
    · have hy : y = 0 := by
        have e := of_decide_eq_true e
        omega
      subst hy
      exact run_brk ⟨x, _, rfl, hg⟩
    · have hy : 0 < y := by
        have e := of_decide_eq_false e
        omega
      refine run_par (ea_cons (ev_var rfl) (ea_cons (ev_op1 (ev_cb1 (ea1 (ev_var rfl) ea_nil) cd_intI) (ev_var rfl) (od_modI (by omega))) ea_nil)) fun l ⟨a, r, e1, ea, b', r2, e2, eb, e3⟩ => ⟨a, b', by rw [e1, e2, e3], ?_⟩
      rw [ea, eb, fmod_nat]
      exact ⟨y, x % y, some d, rfl, by rw [Nat.gcd_comm, ← Nat.gcd_rec, Nat.gcd_comm]; exact hg, hf.step hy⟩
  · subst ees
    have hy := hf.done
    subst hy ed
    exact ⟨x, z, rfl, hg⟩
  subst ed
  have hx : ((x : Nat) : Int) = gz t b := by
    unfold gz
    rw [← hg, Nat.gcd_zero_right]
  rw [hx]
  have hgp := gz_pos t h0
  have hgl := gz_le t h0
  have cd : ∀ i, CDivZ i (gz t b) := fun i => ⟨by omega, log2_ok9 (Nat.lt_of_le_of_lt hgl hb) (by decide)⟩
  have hs : sg b = 1 ∨ sg b = -1 := by unfold sg; split <;> simp
  refine run_asg1 (d := .int (sg b)) ?_ ?_
  · by_cases hp : 0 < b
    · exact ev_eq (ev_ifT (et_B (ev_op1 (ev_var rfl) ev_cint od_gtI)) (decide_eq_true hp) ev_cint) (by unfold sg; rw [if_pos hp])
    · exact ev_eq (ev_ifF (et_B (ev_op1 (ev_var rfl) ev_cint od_gtI)) (decide_eq_false hp) (ev_un1 ev_cint ud_neg)) (by unfold sg; rw [if_neg hp])
  · refine run_ret1 (ev_tup1 (ea1 (ev_op1 (ev_op1 (ev_var rfl) (ev_var rfl) (od_mulI (.inl ⟨by omega, by omega⟩))) (ev_var rfl) (od_fdivZ (cd _))) (ea1 (ev_op1 (ev_op1 (ev_var rfl) (ev_var rfl) (od_mulI (.inl ⟨by omega, by omega⟩))) (ev_var rfl) (od_fdivZ (cd _))) ea_nil)) (Nat.le_of_ble_eq_true rfl)) fun t' b' e => ?_
    cases e
    rw [law_top h0, law_bot h0]
theorem ev_plain (T : Tx K mg) {M : Mt} {ds : DS} {ta tb : TE} {t b : Int} {E : XK} (ha : Ev K M ds ta (· = .int t)) (hb : Ev K M ds tb (· = .int b)) (h0 : b ≠ 0) (h1 : Sz t) (h2 : Sz b) : Ev K M ds (tCall (spF K prePl postPl) [] E (tCons ta (tCons tb tNil))) (· = .tup [.int (rT t b), .int (rB t b)]) :=
  (ev_call1 (ea1 ha (ea1 hb ea_nil)) fun _ _ => ⟨t, b, rfl, h0, h1, h2⟩).weak fun r z => z t b rfl
/-! ### _law_number -/
def Nm (i : Int) : Prop := i.natAbs ≤ 10 ^ 9
def preNb (K : PySem.W.Frag) (M : Ml) (as : List D) : Prop := ∃ b, as = [.raw (.ref b)] ∧ (b, IsBag K) ∈ M
def postNb (_ : List D) (r : D) : Prop := ∃ i : Int, Nm i ∧ r = .int i
theorem ok_number (T : Tx K mg) : FnOk P w K mg base CX0 3 T.f__law_number T.fd__law_number ["_law_bag_here"] (spF K (preNb K) postNb) := by
  have G_Lpull := ok_draw (P := P) (w := w) (base := base) T
  have B_Lpull := B_draw T
  have G_Lof := ok_of (P := P) (w := w) (base := base) T
  have B_Lof := Bd_Lof T
  refine fn_run T.F__law_number sc_Lnumber (fun M as ⟨_, e, _⟩ => by rw [e]; rfl) (fun cdv A outer s H E hr => ⟨_, (pss_cons (ps_par rfl sc_Lnumber.nd (i := 1) (j := 2) rfl rfl (by decide) rfl rfl (pa_cons (pe_call G_Lpull (hr.mono (by decide)) (by rfl) T.m__law_pull T.F__law_pull.kp B_Lpull .nil pass0 (pa_cons (pv 0) (pa_cons pe_int pa_nil))) (pa_cons (pe_call G_Lof (hr.mono (by decide)) (by rfl) T.m__law_of T.F__law_of.kp B_Lof .nil pass0 (pa_cons (pv 0) (pa_cons (pe_lst (pa_cons pe_int (pa_cons pe_int (pa_cons (pe_op op_pow pe_int pe_int) pa_nil)))) pa_nil))) pa_nil)) (by rfl))
  (pss_cons (ps_set (i := 3) sc_Lnumber.nd rfl (Or.inl rfl) (pe_ifExp (pt_cmpR op_lt (pv 1) pe_int (nomark _)) (pe_call G_Lpull (hr.mono (by decide)) (by rfl) T.m__law_pull T.F__law_pull.kp B_Lpull .nil pass0 (pa_cons (pv 0) (pa_cons pe_int pa_nil))) (pe_call G_Lpull (hr.mono (by decide)) (by rfl) T.m__law_pull T.F__law_pull.kp B_Lpull .nil pass0 (pa_cons (pv 0) (pa_cons (pe_op (q_add (K := K)) (pv 2) pe_int) pa_nil)))))
  (pss_one (ps_ret (pe_ifExp (pt_cmpR op_eq (pe_call G_Lpull (hr.mono (by decide)) (by rfl) T.m__law_pull T.F__law_pull.kp B_Lpull .nil pass0 (pa_cons (pv 0) (pa_cons pe_int pa_nil))) pe_int (nomark _)) (pe_op op_sub pe_int (pv 3)) (pv 3)))))), fun M as ⟨b, e, hm⟩ => ?_⟩)
  subst e
  show Run K M [some (.raw (.ref b)), none, none, none] _ _
  refine run_seq (run_par (ea_cons (ev_draw (m := 4) (ev_var rfl) ev_cint hm (by decide) (by decide)) (ea_cons (ev_of (es := [.int 10, .int 100, .int (10 ^ 9)]) (ev_var rfl) (ev_eq (by walk_at "ev") (by exact rfl)) hm rfl rfl) ea_nil)) fun l ⟨a, r, e1, ⟨wy, hw, ea⟩, b', r2, e2, eb, e3⟩ => ⟨a, b', by rw [e1, e2, e3], ?_⟩)
  obtain ⟨m, hm9, em⟩ : ∃ m : Int, (1 ≤ m ∧ m ≤ 10 ^ 9) ∧ b' = .int m := by
    simp only [List.mem_cons, List.not_mem_nil, or_false] at eb
    rcases eb with h | h | h
    · exact ⟨10, by decide, h⟩
    · exact ⟨100, by decide, h⟩
    · exact ⟨10 ^ 9, by decide, h⟩
  subst em ea
  show Run K M [some (.raw (.ref b)), some (.int wy), some (.int m), none] _ _
  refine run_asg (R := fun d => ∃ i : Int, (0 ≤ i ∧ i ≤ 10 ^ 9) ∧ d = .int i) (ev_ifR (Ra := fun _ => True) ((et_B (ev_op1 (ev_var rfl) ev_cint od_ltI)).weak fun _ _ => trivial) (fun _ => (ev_draw (m := 7) (ev_var rfl) ev_cint hm (by decide) (by decide)).weak fun d ⟨i, hi, e⟩ => ⟨i, by omega, e⟩) fun _ => (ev_draw (m := m + 1) (ev_var rfl) (ev_op1 (ev_var rfl) ev_cint od_addI) hm (by omega) (by omega)).weak fun d ⟨i, hi, e⟩ => ⟨i, by omega, e⟩) fun d ⟨i, hi, ed⟩ => ?_
  subst ed
  refine run_ret ?_
  refine ev_ifR (Ra := fun _ => True) (et_BR (ev_op (ev_draw (m := 3) (ev_var rfl) ev_cint hm (by decide) (by decide)) (ev_cint (i := 0)) fun a c ⟨j, _, ea⟩ ec => ?_)) (fun _ => ?_) (fun _ => ?_)
  · subst ea ec
    exact fun M' G H x y Q m rx ry w q => od_eqI M' G H x y Q m rx ry w fun v d G' H' s' w' r' e => q v d G' H' s' w' r' ⟨_, e, trivial⟩
  · exact (ev_op1 ev_cint (ev_var rfl) od_subI).weak fun d e => ⟨0 - i, by unfold Nm; omega, e⟩
  · exact (ev_var rfl).weak fun d e => ⟨i, by unfold Nm; omega, e⟩
/-! ### _law_so -/
def preSo (T : Tx K mg) (_ : Ml) (as : List D) : Prop := ∃ p q, as = [ratO T p q, .tup [.int p, .int q]] ∧ Lowest p q ∧ Sz p ∧ Sz q
def postYes (_ : List D) (r : D) : Prop := r = .bl true
theorem nat_20 {i : Int} (h : Sz i) : i.natAbs < 10 ^ 20 := Nat.lt_trans h (by decide)
theorem ok_so (T : Tx K mg) : FnOk P w K mg base CX0 8 T.f__law_so T.fd__law_so ["_law_ratio", "_law_due"] (spF K (preSo T) postYes) := by
  have G_Llike := ok_same (P := P) (w := w) (base := base) T 4
  have B_Llike := Bd_Llike T
  have G_Ratiostr := ok_rstr (P := P) (w := w) (base := base) T
  have B_Ratiostr := Bd_Ratiostr T
  have G_Ratiorepr := ok_rrepr (P := P) (w := w) (base := base) T
  have B_Ratiorepr := Bd_Ratiorepr T
  have G_Ratioread := ok_read (P := P) (w := w) (base := base) T
  have B_Ratioread := Bd_Ratioread T
  have G_Ratioeq := ok_req (P := P) (w := w) (base := base) T
  have B_Ratioeq := Bd_Ratioeq T
  refine fn_run T.F__law_so sc_Lso (fun M as ⟨_, _, e, _⟩ => by rw [e]; rfl) (fun cdv A outer s H E hr => ⟨_, (pss_cons (ps_asg (pv 1) (q_tup (K := K) (n := 2) rfl (pgs_cons (pg_name (i := 2) sc_Lso.nd rfl (Or.inl rfl)) (pgs_cons (pg_name (i := 3) sc_Lso.nd rfl (Or.inl rfl)) pgs_nil))))
  (pss_cons (ps_set (i := 4) sc_Lso.nd rfl (Or.inl rfl) (pe_op (q_add (K := K)) (pe_callTy call_str_int (by rfl) T.b_str bt_str (pa_cons (pv 2) pa_nil)) (pe_ifExp (pt_cmpR op_eq (pv 3) pe_int (nomark _)) pe_str (pe_op (q_add (K := K)) pe_str (pe_callTy call_str_int (by rfl) T.b_str bt_str (pa_cons (pv 3) pa_nil))))))
  (pss_cons (ps_if (PW.pt (pw_or (pt_not (pt_val (pe_callB (q_isiU (K := K)) (by rfl) T.b_isinstance bt_isinstance (pa_cons (pv 0) (pa_cons (pe_cls rfl T.m_Ratio) pa_nil))))) (pw_or1 (pt_not (pt_val (pe_call G_Llike (hr.mono (by decide)) (by rfl) T.m__law_like T.F__law_like.kp B_Llike .nil pass0 (pa_cons (pe_lst (pa_cons (q_fld (K := K) (pv 0)) (pa_cons (q_fld (K := K) (pv 0)) (pa_cons (pe_callTy (q_strO T.sp_Ratio___str__.1 T.sp_Ratio___str__.2 G_Ratiostr (hr.mono (by decide)) B_Ratiostr pass0) (by rfl) T.b_str bt_str (pa_cons (pv 0) pa_nil)) pa_nil)))) (pa_cons (pe_lst (pa_cons (pv 2) (pa_cons (pv 3) (pa_cons (pv 4) pa_nil)))) pa_nil)))))))) (pss_one (ps_ret pe_bl)) pss_nil)
  (pss_one (ps_ret (pe_and (pe_cmpR op_eq (pe_callB (q_reprO (K := K) T.sp_Ratio___repr__.2 G_Ratiorepr (hr.mono (by decide)) B_Ratiorepr pass0) (by rfl) T.b_repr bt_repr (pa_cons (pv 0) pa_nil)) (pe_op (q_add (K := K)) (pe_op (q_add (K := K)) (pe_op (q_add (K := K)) (pe_op (q_add (K := K)) pe_str (pe_callTy call_str_int (by rfl) T.b_str bt_str (pa_cons (pv 2) pa_nil))) pe_str) (pe_callTy call_str_int (by rfl) T.b_str bt_str (pa_cons (pv 3) pa_nil))) pe_str) (nomark _)) (pe_and (pe_cmpR (q_eqO (K := K) T.sp_Ratio___eq__.2 G_Ratioeq (hr.mono (by decide)) B_Ratioeq pass0) (ClX.pe_cmeth (pe_cls rfl T.m_Ratio) T.cr_Ratio T.cm_Ratioread (FnOk.raw G_Ratioread B_Ratioread .nil) (hr.mono (by decide)) passF (pa_cons (pv 4) pa_nil)) (pv 0) (nomark _)) (pe_one (pe_cmpR op_eq (q_fld (K := K) (ClX.pe_cmeth (pe_cls rfl T.m_Ratio) T.cr_Ratio T.cm_Ratioread (FnOk.raw G_Ratioread B_Ratioread .nil) (hr.mono (by decide)) passF (pa_cons (pv 4) pa_nil))) (pv 2) (nomark _)))))))))), fun M as ⟨p, q, e, h, hp, hq⟩ => ?_⟩)
  subst e
  show Run K M [some (ratO T p q), some (.tup [.int p, .int q]), none, none, none] _ _
  have c := T.oc_Ratio.toCls
  have hpos := h.pos
  have l1 : (Str.ofString (toString p)).length ≤ 25 := numS_len hp
  have l2 : (Str.ofString (toString q)).length ≤ 25 := numS_len hq
  have lt := txt_len (nat_20 hp) (nat_20 hq) hpos
  refine run_seq (run_asgG (R := (· = .tup [.int p, .int q])) (ev_var rfl) fun d ed => ?_)
  subst ed
  refine eg_tup (egs_cons (egs_cons (egs_nil ?_)))
  show Run K M [some (ratO T p q), some (.tup [.int p, .int q]), some (.int p), some (.int q), none] _ _
  refine run_asg1 (d := .str (txt p q)) ?_ ?_
  · have l3 : ("/" : Str).length = 1 := by decide
    have l4 : ("" : Str).length = 0 := by decide
    unfold txt
    by_cases h1 : q = 1
    · rw [if_pos h1]
      exact ev_op1 (ev_cb1 (ea1 (ev_var rfl) ea_nil) (cd_str (num_log hp))) (ev_ifT (et_B (ev_op1 (ev_var rfl) ev_cint od_eqI)) (decide_eq_true h1) ev_cstr) (od_addS (by omega))
    · rw [if_neg h1]
      exact ev_op1 (ev_cb1 (ea1 (ev_var rfl) ea_nil) (cd_str (num_log hp))) (ev_ifF (et_B (ev_op1 (ev_var rfl) ev_cint od_eqI)) (decide_eq_false h1) (ev_op1 ev_cstr (ev_cb1 (ea1 (ev_var rfl) ea_nil) (cd_str (num_log hq))) (od_addS (by omega)))) (od_addS (by rw [PySem.Str.length_append]; omega))
  show Run K M [some (ratO T p q), some (.tup [.int p, .int q]), some (.int p), some (.int q), some (.str (txt p q))] _ _
  obtain ⟨r1, r2⟩ := red_self h
  have rd : ∀ {ds : DS} {E : XK}, ds[4]? = some (some (.str (txt p q))) → Ev K M ds (ClX.tCMeth T.c_Ratio (spX K (preRd T) (postRd T) (pxRd T)) E (tC (.ref T.c_Ratio)) (tCons (tVar 4) tNil)) (· = ratO T p q) := fun hd => ev_eq (ev_read T (ev_var hd) (by omega) (parts_txt h) (by omega) hq) (by unfold redD; rw [r1, r2])
  have lk : okN 4 (.list [.int p, .int q, .str (txt p q)]) = true := rfl
  refine run_seq (run_ifF (et_orF (et_not (et_test (ev_cb1 (ea1 (ev_var rfl) (ea1 ev_craw ea_nil)) (cd_isO (.own T.oc_Ratio) (.own _) T.ki_Ratio_Ratio)))) (by rfl) (et_not (et_test ((ev_call1 (ea1 (ev_lst1 (as := [.int p, .int q, .str (txt p q)]) (ea1 (ev_fld (ev_var rfl) c T.no_Ratio_top rfl) (ea1 (ev_fld (ev_var rfl) c T.no_Ratio_bottom rfl) (ea1 (ev_cb1 (ea1 (ev_var rfl) ea_nil) (cd_strO (fun _ _ => ⟨p, q, rfl, h, hp, hq⟩) (fun r z => z p q rfl) fun y z => z.elim)) ea_nil))) (Nat.le_of_ble_eq_true rfl)) (ea1 (ev_lst1 (as := [.int p, .int q, .str (txt p q)]) (ea1 (ev_var rfl) (ea1 (ev_var rfl) (ea1 (ev_var rfl) ea_nil))) (Nat.le_of_ble_eq_true rfl)) ea_nil)) fun _ _ => ⟨_, _, rfl, lk, lk⟩).weak fun r z => (z _ _ rfl).trans (by rw [sameN_refl 4 _ lk]))))) (by rfl) (run_next ?_))
  have hcat : Ev K M [some (ratO T p q), some (.tup [.int p, .int q]), some (.int p), some (.int q), some (.str (txt p q))] (tOp (rAddU K) (tOp (rAddU K) (tOp (rAddU K) (tOp (rAddU K) (tC (V.str "Ratio(")) (tCB (fun xs H Q => ∃ i : Int, xs = [.int i] ∧ i.natAbs.log2 < 1920 ∧ Q (.str (Str.ofString (toString i))) H) (tCons (tVar 2) tNil))) (tC (V.str ", "))) (tCB (fun xs H Q => ∃ i : Int, xs = [.int i] ∧ i.natAbs.log2 < 1920 ∧ Q (.str (Str.ofString (toString i))) H) (tCons (tVar 3) tNil))) (tC (V.str ")"))) (· = .str (repT p q)) := by
    have l3 : ("Ratio(" : Str).length = 6 := by decide
    have l4 : (", " : Str).length = 2 := by decide
    have l5 : (")" : Str).length = 1 := by decide
    exact ev_op1 (ev_op1 (ev_op1 (ev_op1 ev_cstr (ev_cb1 (ea1 (ev_var rfl) ea_nil) (cd_str (num_log hp))) (od_addS (by omega))) ev_cstr (od_addS (by simp only [PySem.Str.length_append]; omega))) (ev_cb1 (ea1 (ev_var rfl) ea_nil) (cd_str (num_log hq))) (od_addS (by simp only [PySem.Str.length_append]; omega))) ev_cstr (od_addS (by simp only [PySem.Str.length_append]; omega))
  refine run_ret1 (ev_andT (ev_op1 (ev_cb1 (ea1 (ev_var rfl) ea_nil) (cd_reprO T.sp_Ratio___repr__.1 (fun _ _ => ⟨p, q, rfl, h, hp, hq⟩) fun r z => z p q rfl)) hcat od_eqS) (decide_eq_true rfl) (ev_andT (a := true) (ev_op1 (rd rfl) (ev_var rfl) (od_eqO T.sp_Ratio___eq__.1 (.own T.oc_Ratio) T.nf_Ratio_Ratio (fun _ _ => ⟨p, q, _, rfl, .inl ⟨p, q, rfl⟩⟩) fun r z => ((z p q _ rfl).1 p q rfl).trans (by simp))) rfl (ev_op1 (ev_fld (rd rfl) c T.no_Ratio_top rfl) (ev_var rfl) od_eqI))) ?_
  show D.bl _ = .bl true
  simp
/-! ### _law_zero -/
def preZr (P : Program) (w : World) (K : PySem.W.Frag) (mg : Str → Option Value) (base : Heap) (M : Ml) (as : List D) : Prop := ∃ L, as = [.fob L] ∧ LamD P w K mg base 8 M L (fun _ => False) (· = xZD)
theorem ok_zero (T : Tx K mg) : FnOk P w K mg base CX0 9 T.f__law_zero T.fd__law_zero ["_law_ask"] (spG (Γ := Unit) K (fun _ => preZr P w K mg base) (fun _ => postYes)) := by
  refine fn_runG T.F__law_zero sc_Lzero (fun _ M as ⟨_, e, _⟩ => by rw [e]; rfl) (fun cdv A outer s H E hr => ⟨_, (pss_cons (ps_tryH rfl rfl sc_Lzero.nd takes0 (fun W pn xe tk _ => (pss_one (ps_expr (q_act (P := P) (w := w) (K := K) (mg := mg) (base := base) (i := 0) (a := "_law_ask") tk (show Room 8 _ from hr.mono (by decide)) rfl (Or.inl rfl))))) (HdOk.only (ht_name ⟨by rfl, by decide, .inr ⟨T.b_ZeroDivisionError, PyProof.Rows.Boot.«ZeroDivisionError», by decide⟩⟩) (fun p _ hf => (pss_one (ps_ret pe_bl))) HdOk.nil))
  (pss_one (ps_ret pe_bl))), fun _ M as ⟨L, e, hL⟩ => ?_⟩)
  subst e
  show Run K M [some (.fob L)] _ _
  refine run_seq (run_try (fun x' ds' => x' = xZD ∧ ds' = [some (.fob L)]) (fun W => ?_) (fun x' ds' ⟨e1, e2⟩ => ?_))
  · exact run_expr (ev_act (M := M.tr K W fun x' ds' => x' = xZD ∧ ds' = [some (.fob L)]) (R := fun _ => False) rfl rfl hL (fun d h => h) (fun x e => exk_D rfl ⟨e, rfl⟩)) fun d h => h.elim
  · subst e1 e2
    exact ⟨true, exm_ZD (K := K), fun _ p d hz => run_ret1 ev_cbl rfl, (fun e => nomatch e)⟩
end
end L43
namespace L43
open PySem L2 TL Rg RZ PyProof.Rows
local macro_rules | `(tactic| walk_at "ev") => `(tactic| first
  | with_reducible assumption
  | ((with_reducible apply ev_var); exact rfl)
  | with_reducible exact ev_cint
  | with_reducible exact ev_cbl
  | with_reducible exact ev_cnon
  | with_reducible exact ev_cstr
  | ((with_reducible apply ev_c); with_reducible assumption)
  | with_reducible exact ev_craw
  | ((with_reducible apply ev_tup1); walk_at "ea"; exact Nat.le_of_ble_eq_true rfl)
  | ((with_reducible apply ev_lst1); walk_at "ea"; exact Nat.le_of_ble_eq_true rfl)
  | ((with_reducible apply ev_op1); walk_at "ev"; walk_at "ev"; walk_at "od")
  | ((with_reducible apply ev_un1); walk_at "ev"; exact ud_neg)
  | ((with_reducible apply ev_isSeq); walk_at "ev"; walk_at "ea"; exact rfl; exact rfl)
  | ((with_reducible apply ev_cb1); walk_at "ea"; walk_at "cd")
  | ((with_reducible apply ev_chainB); walk_at "ev"; walk_at "ev"; walk_at "od"; walk_at "ev"; walk_at "od")
  | ((with_reducible apply ev_andF); walk_at "ev"; exact rfl)
  | ((with_reducible apply ev_andT); walk_at "ev"; exact rfl; walk_at "ev")
  | ((with_reducible apply ev_andB); walk_at "ev"; intro _; walk_at "ev")
  | ((with_reducible apply ev_orT); walk_at "ev"; exact rfl)
  | ((with_reducible apply ev_orF); walk_at "ev"; exact rfl; walk_at "ev")
  | ((with_reducible apply ev_orB); walk_at "ev"; intro _; walk_at "ev")
  | ((with_reducible apply ev_notV); walk_at "ev"))
local macro_rules | `(tactic| walk_at "et") => `(tactic| first
  | ((with_reducible apply et_B); walk_at "ev")
  | ((with_reducible apply et_test); walk_at "ev")
  | ((with_reducible apply et_not); walk_at "et")
  | ((with_reducible apply et_orT); walk_at "et"; exact rfl)
  | ((with_reducible apply et_orF); walk_at "et"; exact rfl; walk_at "et")
  | ((with_reducible apply et_or); walk_at "et"; intro _; walk_at "et")
  | ((with_reducible apply et_andF); walk_at "et"; exact rfl)
  | ((with_reducible apply et_andT); walk_at "et"; exact rfl; walk_at "et")
  | ((with_reducible apply et_and); walk_at "et"; intro _; walk_at "et"))
local macro_rules | `(tactic| walk_at "ea") => `(tactic| first
  | with_reducible exact ea_nil
  | ((with_reducible apply ea1); walk_at "ev"; walk_at "ea"))
local macro_rules | `(tactic| walk_at "od") => `(tactic| first
  | with_reducible exact od_addI
  | with_reducible exact od_subI
  | ((with_reducible apply od_addS); (try simp only [PySem.Str.length_append]); omega)
  | ((with_reducible apply od_catL); exact Nat.le_of_ble_eq_true rfl)
  | ((with_reducible apply od_modI); first | decide | omega)
  | ((with_reducible apply od_mulI); first | (exact Or.inr ⟨by decide, by decide⟩) | (exact Or.inl ⟨by decide, by decide⟩) | (exact Or.inl ⟨by omega, by omega⟩) | (exact Or.inr ⟨by omega, by omega⟩))
  | ((with_reducible apply od_divI); first | (exact ⟨by decide, by decide⟩) | (exact ⟨by omega, by omega⟩))
  | ((with_reducible apply od_powI); exact ⟨by decide, by decide, by decide⟩)
  | with_reducible exact od_leI
  | with_reducible exact od_ltI
  | with_reducible exact od_gtI
  | with_reducible exact od_geI
  | with_reducible exact od_eqI
  | with_reducible exact od_eqB
  | with_reducible exact od_neB
  | with_reducible exact od_neI
  | with_reducible exact od_eqS
  | with_reducible exact od_inS
  | ((with_reducible apply od_none); exact rfl)
  | ((with_reducible apply od_ix); exact rfl))
local macro_rules | `(tactic| walk_at "cd") => `(tactic| first
  | ((with_reducible apply cd_isStr); exact rfl)
  | ((with_reducible apply cd_isInt); exact rfl)
  | ((with_reducible apply cd_isBool); exact rfl)
  | ((with_reducible apply cd_isList); exact rfl)
  | ((with_reducible apply cd_isTuple); exact rfl)
  | ((with_reducible apply cd_isi); assumption)
  | ((with_reducible apply cd_len); assumption)
  | ((with_reducible apply cd_len); exact rfl)
  | with_reducible exact cd_intI
  | with_reducible exact cd_listof
  | ((with_reducible apply cd_str); assumption)
  | with_reducible exact cd_all)
local macro_rules | `(tactic| walk_at "px") => `(tactic| first
  | ((with_reducible apply px_var); exact rfl)
  | with_reducible exact px_c
  | ((with_reducible apply px_op); walk_at "px"; walk_at "px"; walk_at "pr")
  | ((with_reducible apply px_cb); walk_at "pa"; walk_at "pr")
  | ((with_reducible apply px_test); walk_at "px")
  | ((with_reducible apply px_B); walk_at "px")
  | ((with_reducible apply px_and); walk_at "px"; walk_at "px"))
local macro_rules | `(tactic| walk_at "pa") => `(tactic| first
  | with_reducible exact px_nil
  | ((with_reducible apply px_cons); walk_at "px"; walk_at "pa"))
local macro_rules | `(tactic| walk_at "pr") => `(tactic| first
  | exact px_addI
  | (apply px_ix; assumption; exact rfl)
  | (apply px_ix; assumption; assumption)
  | exact px_eqI
  | exact fun Q q => ⟨_, _, rfl, rfl, q⟩
  | exact fun Q q => ⟨_, _, rfl, rfl, (Or.inr ⟨by decide, by decide⟩), q⟩
  | exact fun Q q => ⟨_, _, rfl, rfl, (Or.inl ⟨by omega, by omega⟩), q⟩
  | exact fun Q q => ⟨_, _, rfl, rfl, (Or.inr ⟨by omega, by omega⟩), q⟩
  | exact fun Q q => ⟨_, _, rfl, rfl, ⟨by decide, by decide⟩, q⟩
  | exact fun Q q => ⟨_, _, rfl, rfl, ⟨by omega, by omega⟩, q⟩
  | exact fun Q q => ⟨_, _, rfl, rfl, ⟨by decide, by decide, by decide⟩, q⟩
  | exact fun Q q => ⟨_, _, rfl, rfl, (by decide), q⟩
  | exact fun Q q => ⟨_, _, rfl, rfl, (by omega), q⟩
  | (apply px_len; assumption)
  | exact px_intI
  | exact px_abs)
local macro_rules | `(tactic| walk_at "fg") => `(tactic| repeat first | exact Fg.nil | apply Fg.keep | apply Fg.drop)
section
variable {K : PySem.W.Frag} {x qual : Str} {st : Stmt} {f : Addr} {fd : FuncData} {dvs : List V} {kws : List (Str × V)}
theorem kbn2rD {p0 p1 p2 : Str} (F : FunD K x qual (defArgs st) (defBody st) (defScope st) dvs kws f fd) (hd : dvs ≠ []) (h : ∀ (T : Addr) (kV doc pm : Value) (an : Option Addr) (cdv ct : Value) (its : List Value) (s a b : Value), its.length = dvs.length → ∃ k, bindArgs (PySem.W.fnOf x qual (defArgs st) (defBody st) (defScope st) (.ref T) kV doc pm an cdv ct) ⟨[s], [(p2, a), (p1, b)]⟩ = seqItems? (.ref T) >>= k ∧ k (some its.toArray) = pure [(p0, s), (p1, b), (p2, a)]) : KBn K fd [p0, p1, p2] 1 [p2, p1] kgs2r kgs2r := by
  obtain ⟨oc, od, dV, kV, doc, pm, an, cdv, ct, osl, rfl, lk, hcd, hD, hK⟩ := F.ex
  rcases hD with ⟨e, _⟩ | ⟨_, T, o, its, m, rfl, lT, oT, rT⟩
  · exact absurd e hd
  · refine ⟨fun s us ws X hu hl => ?_, kgs2r_rel⟩
    match us, ws, hu, hl with
    | [s'], [a, b], _, _ =>
      obtain ⟨k, e1, e2⟩ := h T kV doc pm an cdv ct its s' a b rT.length.symm
      refine BindsTo.of_looks fun M => ?_
      show PySem.W.Looks M _ (bindArgs _ ⟨[s'], [(p2, a), (p1, b)]⟩) _
      rw [e1]
      exact looks_items X lT oT (.of_pure e2)
end
section
variable {P : Program} {w : World} {K : PySem.W.Frag} {mg : Str → Option Value} {base : Heap}
theorem KN_ratio (T : Tx K mg) : KBn K T.fd_Ratioinit ["self", "top", "bottom"] 1 ["bottom", "top"] kgs2r kgs2r := kbn2rD T.FD_Ratioinit (by simp) fun T' kV doc pm an cdv ct its s a b hi => by
  match its, hi with
  | [d], _ => exact ⟨_, rfl, rfl⟩
theorem KB_compare (T : Tx K mg) : KBinds K T.fd_Ratiocompare ["self", "other"] ["other"] kgs1 kgs1 := kbs1 T.F_Ratiocompare fun _ _ _ _ _ _ _ _ => rfl
theorem KB_over (T : Tx K mg) : KBinds K T.fd_Ratioover ["self", "other"] ["other"] kgs1 kgs1 := kbs1 T.F_Ratioover fun _ _ _ _ _ _ _ _ => rfl
theorem KB_read (T : Tx K mg) : KBinds K T.fd_Ratioread ["cls", "text"] ["text"] kgs1 kgs1 := kbs1 T.F_Ratioread fun _ _ _ _ _ _ _ _ => rfl
/-! ### the operators -/
theorem opO_add (T : Tx K mg) : OpO K T.c_Ratio T.f_Ratioadd .Add := ⟨T.s1_Ratio, T.sp_Ratio___add__.1, T.sp_Ratio___add__.2, ⟨_, T.sp_Ratio___radd__.1, .inr ⟨_, rfl⟩⟩, ⟨_, T.tf_int_add⟩, ⟨_, T.tf_int_radd⟩, T.sf_int_Ratio⟩
theorem opO_sub (T : Tx K mg) : OpO K T.c_Ratio T.f_Ratiosub .Sub := ⟨T.s1_Ratio, T.sp_Ratio___sub__.1, T.sp_Ratio___sub__.2, ⟨_, T.sp_Ratio___rsub__.1, .inr ⟨_, rfl⟩⟩, ⟨_, T.tf_int_sub⟩, ⟨_, T.tf_int_rsub⟩, T.sf_int_Ratio⟩
theorem opO_mul (T : Tx K mg) : OpO K T.c_Ratio T.f_Ratiomul .Mult := ⟨T.s1_Ratio, T.sp_Ratio___mul__.1, T.sp_Ratio___mul__.2, ⟨_, T.sp_Ratio___rmul__.1, .inr ⟨_, rfl⟩⟩, ⟨_, T.tf_int_mul⟩, ⟨_, T.tf_int_rmul⟩, T.sf_int_Ratio⟩
theorem opO_fdiv (T : Tx K mg) : OpO K T.c_Ratio T.f_Ratiofloordiv .FloorDiv := ⟨T.s1_Ratio, T.sp_Ratio___floordiv__.1, T.sp_Ratio___floordiv__.2, ⟨_, T.no_Ratio___rfloordiv__, .inl rfl⟩, ⟨_, T.tf_int_floordiv⟩, ⟨_, T.tf_int_rfloordiv⟩, T.sf_int_Ratio⟩
theorem opR_add (T : Tx K mg) : OpR' K T.c_Ratio T.f_Ratioradd .Add := ⟨T.s1_Ratio, ⟨_, T.sp_Ratio___add__.1⟩, T.sp_Ratio___radd__.1, T.sp_Ratio___radd__.2, PySem.F.fills_int_add, T.sf_Ratio_int, fun _ _ => PySem.W.notKnown_add⟩
theorem opR_sub (T : Tx K mg) : OpR' K T.c_Ratio T.f_Ratiorsub .Sub := ⟨T.s1_Ratio, ⟨_, T.sp_Ratio___sub__.1⟩, T.sp_Ratio___rsub__.1, T.sp_Ratio___rsub__.2, PySem.F.fills_int_sub, T.sf_Ratio_int, fun _ _ => PySem.W.notKnown_sub⟩
theorem opR_mul (T : Tx K mg) : OpR' K T.c_Ratio T.f_Ratiormul .Mult := ⟨T.s1_Ratio, ⟨_, T.sp_Ratio___mul__.1⟩, T.sp_Ratio___rmul__.1, T.sp_Ratio___rmul__.2, PySem.F.fills_int_mul, T.sf_Ratio_int, fun _ _ => PySem.W.notKnown_mul⟩
/-! ### Ratio(n); by keywords -/
theorem ev_rat1 (T : Tx K mg) {M : Mt} {ds : DS} {ta : TE} {t : Int} {E : XK} (ha : Ev K M ds ta (· = .int t)) : Ev K M ds (tMake T.c_Ratio (spW K (preRi T) (postRi T) (pxRi T)) [.int 1] E (tCons ta tNil)) (· = ratO T t 1) := fun M' σ G H Q m s w q =>
  ea1 ha ea_nil M' σ G H _ m s w fun vs as G1 H1 s1 w1 r1 e x dx hx hdx hne => by
    subst e
    obtain ⟨e1, e2⟩ := red_self (Lowest.int t)
    refine make_go (pre := preRi T) (post := postRi T) (px := pxRi T) (R := (· = ratO T t 1)) (as := [.int t, .int 1]) m (s.mono s1) w1 (.cons (.raw _) (r1.append (.cons (.int 1) .nil))) hx hdx hne ⟨x, t, 1, rfl, rfl, (by unfold Sz; decide)⟩ (fun o' d h => ?_) (fun o' y h => ?_) fun v d G' H' a b c r => q v d G' H' (s1.trans a) b c r
    · obtain ⟨_, h2, h3⟩ := h x t 1 rfl rfl
      exact ⟨h2, _, h3, by rw [e1, e2]; rfl⟩
    · have := (h _ t 1 rfl).1
      omega
theorem ev_ratK (T : Tx K mg) {M : Mt} {ds : DS} {ta tb : TE} {t b : Int} {E : XK} (ha : Ev K M ds ta (· = .int t)) (hb : Ev K M ds tb (· = .int b)) (h0 : b ≠ 0) (hz : Sz b) :
    Ev K M ds (tMakeK T.c_Ratio 0 2 (spW K (preRi T) (postRi T) (pxRi T)) kgs2r E tNil (tCons tb (tCons ta tNil))) (· = redD T t b) :=
  ev_makeK (RA := (· = [.int b, .int t])) (gD := fun d as => as.reverse) (ea1 hb (ea1 ha ea_nil)) (fun as e => by rw [e]; rfl) (fun G p vs as e r => by subst e; exact kgs2r_rp r) fun p as e => by
    subst e
    refine ⟨fun M' _ => ⟨p, t, b, rfl, rfl, hz⟩, fun o' d h => ?_, fun o' y h => ?_⟩
    · obtain ⟨_, h2, h3⟩ := h p t b rfl rfl
      exact ⟨h2, _, h3, rfl⟩
    · exact absurd (h _ t b rfl).1 h0
/-! ### what the operators give -/
theorem num_r (T : Tx K mg) (p q : Int) : Num T (ratO T p q) p q := .inl rfl
theorem num_i (T : Tx K mg) (n : Int) : Num T (.int n) n 1 := .inr ⟨rfl, rfl⟩
theorem num_dj {T : Tx K mg} {d : D} {p q : Int} (h : Num T d p q) : (∃ ns' es', d = .obj T.c_Ratio ns' es') ∨ ∃ i : Int, d = .int i := by
  rcases h with rfl | ⟨rfl, _⟩
  · exact .inl ⟨_, _, rfl⟩
  · exact .inr ⟨_, rfl⟩
structure Opd (p q p2 q2 : Int) : Prop where
  q0 : 0 < q
  q20 : 0 < q2
  hp : Sm p
  hq : Sm q
  hp2 : Sm p2
  hq2 : Sm q2
theorem ev_opO (T : Tx K mg) {M : Mt} {ds : DS} {ta tb : TE} {p q p2 q2 : Int} {d : D} {f : Int → Int → Int → Int → D} {E : XK} (ha : Ev K M ds ta (· = ratO T p q)) (hb : Ev K M ds tb (· = d)) (hn : Num T d p2 q2) (h : Opd p q p2 q2) : Ev K M ds (tOp (rBinO T.c_Ratio (spF K (preOp T) (postOp T f)) E) ta tb) (· = f p q p2 q2) :=
  ev_op1 ha hb (od_binO (num_dj hn) (fun _ _ => ⟨p, q, d, p2, q2, rfl, hn, h.q0, h.q20, h.hp, h.hq, h.hp2, h.hq2⟩) (fun r z => z p q d p2 q2 rfl hn) fun x z => z.elim)
theorem ev_opR (T : Tx K mg) {M : Mt} {ds : DS} {ta tb : TE} {p q n : Int} {f : Int → Int → Int → Int → D} {E : XK} (ha : Ev K M ds ta (· = .int n)) (hb : Ev K M ds tb (· = ratO T p q)) (h : Opd p q n 1) : Ev K M ds (tOp (rBinR T.c_Ratio (spF K (preOp T) (postOp T f)) E) ta tb) (· = f p q n 1) :=
  ev_op1 ha hb (od_binR (fun _ _ => ⟨p, q, .int n, n, 1, rfl, num_i T n, h.q0, h.q20, h.hp, h.hq, h.hp2, h.hq2⟩) (fun r z => z p q (.int n) n 1 rfl (num_i T n)) fun x z => z.elim)
theorem ev_fdivO (T : Tx K mg) {M : Mt} {ds : DS} {ta tb : TE} {p q p2 q2 : Int} {d : D} {f : Int → Int → Int → Int → D} {E : XK} (ha : Ev K M ds ta (· = ratO T p q)) (hb : Ev K M ds tb (· = d)) (hn : Num T d p2 q2) (h : Opd p q p2 q2) (h0 : p2 ≠ 0) : Ev K M ds (tOp (rBinO T.c_Ratio (spX K (preOp T) (postOv T f) (pxOv T)) E) ta tb) (· = f p q p2 q2) :=
  ev_op1 ha hb (od_binO (num_dj hn) (fun _ _ => ⟨p, q, d, p2, q2, rfl, hn, h.q0, h.q20, h.hp, h.hq, h.hp2, h.hq2⟩) (fun r z => (z p q d p2 q2 rfl hn).2) fun x z => absurd (z p q d p2 q2 rfl hn).1 h0)
theorem ev_fdivX (T : Tx K mg) {M : Mt} {ds : DS} {ta tb : TE} {p q : Int} {d : D} {q2 : Int} {f : Int → Int → Int → Int → D} {E : XK} (ha : Ev K M ds ta (· = ratO T p q)) (hb : Ev K M ds tb (· = d)) (hn : Num T d 0 q2) (h : Opd p q 0 q2) (hx : M.W = (fun c d _ H => E c d H) ∧ Exk K M xZD []) : Ev K M ds (tOp (rBinO T.c_Ratio (spX K (preOp T) (postOv T f) (pxOv T)) E) ta tb) (fun _ => False) :=
  ev_op1 ha hb (od_binO (num_dj hn) (fun _ _ => ⟨p, q, d, 0, q2, rfl, hn, h.q0, h.q20, h.hp, h.hq, h.hp2, h.hq2⟩) (fun r z => (z p q d 0 q2 rfl hn).1 rfl) fun x z => by rw [(z p q d 0 q2 rfl hn).2]; exact hx)
theorem ev_meth1 (T : Tx K mg) {M : Mt} {ds : DS} {te : TE} {mn : Str} {g : Addr} {p q : Int} {post : List D → D → Prop} {d : D} {E : XK} (he : Ev K M ds te (· = ratO T p q)) (hm : Meth K T.c_Ratio mn g) (hn : mn ∉ rN) (h : Lowest p q) (hp : Sz p) (hq : Sz q) (hR : ∀ r, post [ratO T p q] r → r = d) : Ev K M ds (tMeG K g mn (spF K (preOne T) post) [] E te tNil) (· = d) :=
  ev_meG he T.oc_Ratio.toCls hm hn ea_nil fun as e => by subst e; exact ⟨fun _ _ => ⟨p, q, rfl, h, hp, hq⟩, hR⟩
theorem ev_cmp (T : Tx K mg) {M : Mt} {ds : DS} {te ta : TE} {p q p2 q2 : Int} {d : D} {E : XK} (he : Ev K M ds te (· = ratO T p q)) (ha : Ev K M ds ta (· = d)) (hn : Num T d p2 q2) (h : Opd p q p2 q2) : Ev K M ds (tMeG K T.f_Ratiocompare "compare" (spF K (preOp T) (postOp T fun p q p2 q2 => .int (cmp (p * q2) (p2 * q)))) [] E te (tCons ta tNil)) (· = .int (cmp (p * q2) (p2 * q))) :=
  ev_meG he T.oc_Ratio.toCls T.me_Ratio_compare (by decide) (ea1 ha ea_nil) fun as e => by subst e; exact ⟨fun _ _ => ⟨p, q, d, p2, q2, rfl, hn, h.q0, h.q20, h.hp, h.hq, h.hp2, h.hq2⟩, fun r z => z p q d p2 q2 rfl hn⟩
theorem ev_cmpK (T : Tx K mg) {M : Mt} {ds : DS} {te ta : TE} {p q p2 q2 : Int} {d : D} {E : XK} (he : Ev K M ds te (· = ratO T p q)) (ha : Ev K M ds ta (· = d)) (hn : Num T d p2 q2) (h : Opd p q p2 q2) : Ev K M ds (tMeGK K T.f_Ratiocompare "compare" (spF K (preOp T) (postOp T fun p q p2 q2 => .int (cmp (p * q2) (p2 * q)))) kgs1 E te (tCons ta tNil)) (· = .int (cmp (p * q2) (p2 * q))) :=
  ev_meGK he T.oc_Ratio.toCls T.me_Ratio_compare (by decide) (ea1 ha ea_nil) (gD := fun d as => d :: as) (fun G v d vs as e r rs => by subst e; exact kgs1_rp r rs) fun as e => by subst e; exact ⟨fun _ _ => ⟨p, q, d, p2, q2, rfl, hn, h.q0, h.q20, h.hp, h.hq, h.hp2, h.hq2⟩, fun r z => z p q d p2 q2 rfl hn⟩
theorem ev_overX (T : Tx K mg) {M : Mt} {ds : DS} {te ta : TE} {p q p2 q2 : Int} {d : D} {E : XK} {R : D → Prop} (he : Ev K M ds te (· = ratO T p q)) (ha : Ev K M ds ta (· = d)) (hn : Num T d p2 q2) (h : Opd p q p2 q2) (hR : p2 ≠ 0 → R (redD T (p * q2) (q * p2))) (hx : p2 = 0 → M.W = (fun c d _ H => E c d H) ∧ Exk K M xZD []) : Ev K M ds (tMeG K T.f_Ratioover "over" (spX K (preOp T) (postOv T fun p q p2 q2 => redD T (p * q2) (q * p2)) (pxOv T)) [] E te (tCons ta tNil)) R := fun M' σ G H Q m s w q' =>
  he M' σ G H _ m s w fun v d1 G1 H1 s1 w1 r1 e => by
    subst e
    obtain ⟨a, dx, fs, rfl, h1, h2⟩ := obj_at r1
    refine ⟨a, T.c_Ratio, dx, fs, rfl, w1.sub _ _ h1, T.oc_Ratio.toCls, T.me_Ratio_over, look_none h2 (by decide), ea1 ha ea_nil M' σ G1 H1 _ m (s.mono s1) w1 fun vs as G2 H2 s2 w2 r2 e2 => ?_⟩
    subst e2
    rw [List.append_nil]
    refine go_spX (R := R) m w2 (.cons (r1.mono s2) r2) ⟨p, q, d, p2, q2, rfl, hn, h.q0, h.q20, h.hp, h.hq, h.hp2, h.hq2⟩ (fun r z => ?_) (fun x z => ?_) fun v d G3 H3 s3 w3 r3 p3 => q' v d G3 H3 ((s1.trans s2).trans s3) w3 r3 p3
    · obtain ⟨z1, z2⟩ := z p q d p2 q2 rfl hn
      rw [z2]
      exact hR z1
    · obtain ⟨z1, z2⟩ := z p q d p2 q2 rfl hn
      rw [z2]
      exact hx z1
theorem ev_overK (T : Tx K mg) {M : Mt} {ds : DS} {te ta : TE} {p q p2 q2 : Int} {d : D} {E : XK} (he : Ev K M ds te (· = ratO T p q)) (ha : Ev K M ds ta (· = d)) (hn : Num T d p2 q2) (h : Opd p q p2 q2) (h0 : p2 ≠ 0) : Ev K M ds (tMeGK K T.f_Ratioover "over" (spX K (preOp T) (postOv T fun p q p2 q2 => redD T (p * q2) (q * p2)) (pxOv T)) kgs1 E te (tCons ta tNil)) (· = redD T (p * q2) (q * p2)) :=
  ev_meGKX he T.oc_Ratio.toCls T.me_Ratio_over (by decide) (ea1 ha ea_nil) (gD := fun d as => d :: as) (fun G v d vs as e r rs => by subst e; exact kgs1_rp r rs) fun as e => by
    subst e
    exact ⟨fun _ _ => ⟨p, q, d, p2, q2, rfl, hn, h.q0, h.q20, h.hp, h.hq, h.hp2, h.hq2⟩, fun r z => (z p q d p2 q2 rfl hn).2, fun x z => absurd (z p q d p2 q2 rfl hn).1 h0⟩
theorem ev_eqO (T : Tx K mg) {M : Mt} {ds : DS} {ta tb : TE} {p q p2 q2 : Int} {E : XK} (ha : Ev K M ds ta (· = ratO T p q)) (hb : Ev K M ds tb (· = ratO T p2 q2)) : Ev K M ds (tOp (rEqO K T.f_Ratioeq (spF K (preEq T) (postEq T)) E) ta tb) (· = .bl (decide (p = p2) && decide (q = q2))) :=
  ev_op1 ha hb (od_eqO T.sp_Ratio___eq__.1 (.own T.oc_Ratio) T.nf_Ratio_Ratio (fun _ _ => ⟨p, q, _, rfl, .inl ⟨p2, q2, rfl⟩⟩) fun r z => (z p q _ rfl).1 p2 q2 rfl)
theorem ev_neO (T : Tx K mg) {M : Mt} {ds : DS} {ta tb : TE} {p q p2 q2 : Int} {E : XK} (ha : Ev K M ds ta (· = ratO T p q)) (hb : Ev K M ds tb (· = ratO T p2 q2)) : Ev K M ds (tOp (rNeO K T.f_Ratioeq (spF K (preEq T) (postEq T)) E) ta tb) (· = .bl (!(decide (p = p2) && decide (q = q2)))) :=
  ev_op1 ha hb (od_neO T.fi_Ratio___ne__ T.oc_Ratio.cm T.sp_Ratio___eq__.1 (.own T.oc_Ratio) T.nf_Ratio_Ratio (fun _ _ => ⟨p, q, _, rfl, .inl ⟨p2, q2, rfl⟩⟩) fun r z => (z p q _ rfl).1 p2 q2 rfl)
theorem ev_eqOI (T : Tx K mg) {M : Mt} {ds : DS} {ta tb : TE} {p q n : Int} {E : XK} (ha : Ev K M ds ta (· = ratO T p q)) (hb : Ev K M ds tb (· = .int n)) : Ev K M ds (tOp (rEqO K T.f_Ratioeq (spF K (preEq T) (postEq T)) E) ta tb) (· = .bl (decide (q = 1) && decide (p = n))) :=
  ev_op1 ha hb (od_eqO T.sp_Ratio___eq__.1 (.plain rfl) T.nf_Ratio_int (fun _ _ => ⟨p, q, _, rfl, .inr (.inl ⟨n, rfl⟩)⟩) fun r z => (z p q _ rfl).2.1 n rfl)
theorem ev_eqOS (T : Tx K mg) {M : Mt} {ds : DS} {ta tb : TE} {p q : Int} {x : Str} {E : XK} (ha : Ev K M ds ta (· = ratO T p q)) (hb : Ev K M ds tb (· = .str x)) : Ev K M ds (tOp (rEqO K T.f_Ratioeq (spF K (preEq T) (postEq T)) E) ta tb) (· = .bl false) :=
  ev_op1 ha hb (od_eqO T.sp_Ratio___eq__.1 (.plain rfl) T.nf_Ratio_str (fun _ _ => ⟨p, q, _, rfl, .inr (.inr ⟨x, rfl⟩)⟩) fun r z => (z p q _ rfl).2.2 x rfl)
theorem ev_so (T : Tx K mg) {M : Mt} {ds : DS} {ta tb : TE} {p q : Int} {E : XK} (ha : Ev K M ds ta (· = ratO T p q)) (hb : Ev K M ds tb (· = .tup [.int p, .int q])) (h : Lowest p q) (hp : Sz p) (hq : Sz q) : Ev K M ds (tCall (spF K (preSo T) postYes) [] E (tCons ta (tCons tb tNil))) (· = .bl true) :=
  (ev_call1 (ea1 ha (ea1 hb ea_nil)) fun _ _ => ⟨p, q, rfl, h, hp, hq⟩).weak fun r z => z
theorem ev_number {M : Mt} {ds : DS} {ta : TE} {b : Addr} {E : XK} (ha : Ev K M ds ta (· = .raw (.ref b))) (hm : (b, IsBag K) ∈ M) : Ev K M ds (tCall (spF K (preNb K) postNb) [] E (tCons ta tNil)) (fun r => ∃ i : Int, Nm i ∧ r = .int i) :=
  (ev_call1 (ea1 ha ea_nil) fun _ ms => ⟨b, rfl, ms.l _ hm⟩).weak fun r z => z
theorem ev_likeT {n : Nat} {M : Mt} {ds : DS} {ta tb : TE} {d d' : D} {E : XK} (ha : Ev K M ds ta (· = d)) (hb : Ev K M ds tb (· = d')) (e : d = d') (hd : okN n d' = true) : Ev K M ds (tCall (spF K (preSame n) (postSame n)) [] E (tCons ta (tCons tb tNil))) (· = .bl true) :=
  (ev_call1 (ea1 ha (ea1 hb ea_nil)) fun _ _ => ⟨d, d', rfl, by rw [e]; exact hd, hd⟩).weak fun r z => (z d d' rfl).trans (by rw [e, sameN_refl n d' hd])
/-! ### sums -/
theorem eqv_pair (a b c d : Int) : eqvD (.tup [.int a, .int b]) (.tup [.int c, .int d]) = (decide (a = c) && decide (b = d)) := by
  have e : ∀ i j : Int, (i == j) = decide (i = j) := fun i j => rfl
  show ((a == c) && ((b == d) && true)) = _
  rw [e, e, Bool.and_true]
theorem cmp_swap (x y : Int) : cmp y x = 0 - cmp x y := by
  unfold cmp
  by_cases h1 : x < y
  · have h2 : ¬ y < x := by omega
    simp [h1, h2]
  · by_cases h2 : y < x
    · simp [h1, h2]
    · simp [h1, h2]
theorem Nm.sm {i : Int} (h : Nm i) : Sm i := Nat.lt_of_le_of_lt h (by decide)
theorem sm_top {t b : Int} (h : b ≠ 0) (ht : Nm t) : Sm (rT t b) := Nat.lt_of_le_of_lt (Nat.le_trans (top_le t h) ht) (by decide)
theorem sm_bot {t b : Int} (h : b ≠ 0) (hb : Nm b) : Sm (rB t b) := Nat.lt_of_le_of_lt (Nat.le_trans (bot_le t h) hb) (by decide)
end
end L43
namespace L43
open PySem L2 TL Rg RZ PyProof.Rows
theorem egs_consG {K : PySem.W.Frag} {M : Mt} {ds : DS} {g : TG} {gs : TGs} {d : D} {es : List D} {N : DS → Prop} (h : EvG K M none g d ds (fun ds2 => EvGs K M none gs es ds2 N)) : EvGs K M none (gCons g gs) (d :: es) ds N := fun M' σ G H xs Q m s w r q => by
  cases r with
  | cons p r =>
    refine ⟨_, _, rfl, ?_⟩
    exact h M' σ G H _ _ m s w p fun ds1 σ1 G1 H1 n1 s1 sg1 w1 _ => n1 M' σ1 G1 H1 _ Q m sg1 w1 (r.mono s1) fun ds' σ' G' H' a b c d' _ => q ds' σ' G' H' a (s1.trans b) c d' fun l e => by cases e
theorem runw_of_run {K : PySem.W.Frag} {M : Mt} {ds : DS} {a : TS} (E : AE) (h : Run K M ds a E) : RunW K M [] ds a ⟨fun o d => o = [] ∧ E.nx d, fun o d => o = [] ∧ E.rt d, fun o d => o = [] ∧ E.bk d, fun o d => o = [] ∧ E.ct d⟩ :=
  runw_lift (o := []) (E := E) h (fun d e => ⟨rfl, e⟩) (fun d e => ⟨rfl, e⟩) (fun d e => ⟨rfl, e⟩) (fun d e => ⟨rfl, e⟩)
/-! ### the numbers of one turn -/
structure Five (A B C G n : Int) : Prop where
  ab : Lowest A B
  cd : Lowest C G
  a : A.natAbs < 2 ^ 31
  b : B.natAbs < 2 ^ 31
  c : C.natAbs < 2 ^ 31
  d : G.natAbs < 2 ^ 31
  n : n.natAbs < 2 ^ 31
def Okz (z : Int × Int) : Prop := Lowest z.1 z.2 ∧ Sz z.1 ∧ Sz z.2
def rz (t b : Int) : Int × Int := (rT t b, rB t b)
theorem okz_r {t b : Int} (h : b ≠ 0) (ht : Sz t) (hb : Sz b) : Okz (rz t b) := ⟨lowest t h, Nat.lt_of_le_of_lt (top_le t h) ht, Nat.lt_of_le_of_lt (bot_le t h) hb⟩
def zs (A B C G n : Int) : List (Int × Int) := [(A, B), (C, G), rz (A * G + C * B) (B * G), rz (A * G - C * B) (B * G)] ++ [rz (A * C) (B * G), (0 - A, B), (0 - C, G), (if C < 0 then -C else C, G)] ++ [rz (A + n * B) B, rz (A + n * B) B, rz (A - n * B) B] ++ [rz (n * B - A) B, rz (n * A) B, rz (n * A) B, (n, 1)]
theorem Five.m {A B C G n : Int} (h : Five A B C G n) : (A * G).natAbs < 2 ^ 62 ∧ (C * B).natAbs < 2 ^ 62 ∧ (B * G).natAbs < 2 ^ 62 ∧ (A * C).natAbs < 2 ^ 62 ∧ (n * B).natAbs < 2 ^ 62 ∧ (n * A).natAbs < 2 ^ 62 ∧ (B * C).natAbs < 2 ^ 62 ∧ (B * n).natAbs < 2 ^ 62 :=
  ⟨Sm.mul h.a h.d, Sm.mul h.c h.b, Sm.mul h.b h.d, Sm.mul h.a h.c, Sm.mul h.n h.b, Sm.mul h.n h.a, Sm.mul h.b h.c, Sm.mul h.b h.n⟩
theorem zs_ok {A B C G n : Int} (h : Five A B C G n) : ∀ z ∈ zs A B C G n, Okz z := by
  obtain ⟨m1, m2, m3, m4, m5, m6, m7, m8⟩ := h.m
  have a := h.a
  have b := h.b
  have c := h.c
  have d := h.d
  have n' := h.n
  have pb := h.ab.pos
  have pd := h.cd.pos
  have bg := Int.mul_pos pb pd
  have s : ∀ {i : Int}, i.natAbs < 2 ^ 31 → Sz i := fun h => Nat.lt_trans h (by decide)
  have k1 : B * G ≠ 0 := by omega
  have k2 : B ≠ 0 := by omega
  intro z hz
  simp only [zs, List.mem_append, List.mem_cons, List.not_mem_nil, or_false] at hz
  rcases hz with (((h1 | h1 | h1 | h1) | h1 | h1 | h1 | h1) | h1 | h1 | h1) | h1 | h1 | h1 | h1 <;> subst h1
  · exact ⟨h.ab, s a, s b⟩
  · exact ⟨h.cd, s c, s d⟩
  · exact okz_r k1 (by unfold Sz; omega) (by unfold Sz; omega)
  · exact okz_r k1 (by unfold Sz; omega) (by unfold Sz; omega)
  · exact okz_r k1 (by unfold Sz; omega) (by unfold Sz; omega)
  · exact ⟨by rw [Int.zero_sub]; exact h.ab.neg, by unfold Sz; omega, s b⟩
  · exact ⟨by rw [Int.zero_sub]; exact h.cd.neg, by unfold Sz; omega, s d⟩
  · exact ⟨h.cd.abs, by unfold Sz; split <;> omega, s d⟩
  · exact okz_r k2 (by unfold Sz; omega) (by unfold Sz; omega)
  · exact okz_r k2 (by unfold Sz; omega) (by unfold Sz; omega)
  · exact okz_r k2 (by unfold Sz; omega) (by unfold Sz; omega)
  · exact okz_r k2 (by unfold Sz; omega) (by unfold Sz; omega)
  · exact okz_r k2 (by unfold Sz; omega) (by unfold Sz; omega)
  · exact okz_r k2 (by unfold Sz; omega) (by unfold Sz; omega)
  · exact ⟨Lowest.int n, s n', show (1 : Int).natAbs < 2 ^ 63 by decide⟩
theorem fdiv_sg {A B C G : Int} (h : C ≠ 0) : (A * G * (if 0 < C then 1 else -1)).fdiv (B * (if C < 0 then -C else C)) = (A * G).fdiv (B * C) := by
  by_cases hc : 0 < C
  · rw [if_pos hc, if_neg (by omega), Int.mul_one]
  · rw [if_neg hc, if_pos (by omega), Int.mul_neg, Int.mul_neg, Int.mul_one, Int.neg_fdiv_neg]
theorem rT_zero (b : Int) : rT 0 b = 0 := by unfold rT; rw [Int.zero_ediv, Int.mul_zero]
section
variable {K : PySem.W.Frag} {mg : Str → Option Value}
abbrev prD (T : Tx K mg) (z : Int × Int) : D := .tup [ratO T z.1 z.2, .tup [.int z.1, .int z.2]]
theorem ev_readK (T : Tx K mg) {M : Mt} {ds : DS} {te : TE} {x : Str} {p q : Int} {E : XK} (he : Ev K M ds te (· = .str x)) (hl : x.length ≤ 100) (hx : partsL (tl x) = some (p, q)) (h0 : q ≠ 0) (hz : Sz q) : Ev K M ds (ClX.tCMeth T.c_Ratio (fun vs H Q E => spX K (preRd T) (postRd T) (pxRd T) (kgs1 (vs.take 1) (vs.drop 1)) H Q E) E (tC (.ref T.c_Ratio)) (tCons te tNil)) (· = redD T p q) := fun M' σ G H Q m s w q' =>
  ev_craw M' σ G H _ m s w fun v d1 G1 H1 s1 w1 r1 e => by
    subst e
    refine ⟨r1.raw_inv, ea1 he ea_nil M' σ G1 H1 _ m (s.mono s1) w1 fun vs as G2 H2 s2 w2 r2 e2 => ?_⟩
    subst e2
    cases r2 with
    | cons p0 r2 =>
      cases r2
      refine go_spX (R := (· = redD T p q)) (as := [.raw (.ref T.c_Ratio), .str x]) m w2 (.cons (.raw _) (.cons p0 .nil)) ⟨_, rfl, .inl ⟨x, rfl, hl⟩, fun p' q1 h => ?_⟩ (fun d h => ?_) (fun y h => ?_) fun v d G3 H3 s3 w3 r3 p3 => q' v d G3 H3 ((s1.trans s2).trans s3) w3 r3 p3
      · have h : partsL (tl x) = some (p', q1) := h
        rw [hx] at h
        cases h
        exact ⟨h0, hz⟩
      · obtain ⟨p', q1, h1, h2⟩ := h _ _ rfl
        have h1 : partsL (tl x) = some (p', q1) := h1
        rw [hx] at h1
        cases h1
        exact h2
      · have h1 : partsL (tl x) = none := (h _ _ rfl).1
        rw [hx] at h1
        cases h1
end
def wrongs : List D := [.str "4/2", .str "3/1", .str "", .str "1/0", .str "-0", .str "01", .str "1/-2", .str " 1", .str "+1", .str "1/02", .str "0/5", .str "a", .str "1/", .str "/2", .str "1/2/3", .str "--1", .non, .int 3, .bl true]
theorem wrongs_ok : ∀ d ∈ wrongs, readD d = none ∧ ((∃ x : Str, d = .str x ∧ x.length ≤ 100) ∨ isStrD d = some false) := by
  have key : ∀ x ∈ (["4/2", "3/1", "", "1/0", "-0", "01", "1/-2", " 1", "+1", "1/02", "0/5", "a", "1/", "/2", "1/2/3", "--1"] : List Str), partsL (tl x) = none ∧ x.length ≤ 50 := fun x hx => by
    have := List.all_eq_true.mp wrong_ok x hx
    simpa using this
  have e : wrongs = (["4/2", "3/1", "", "1/0", "-0", "01", "1/-2", " 1", "+1", "1/02", "0/5", "a", "1/", "/2", "1/2/3", "--1"] : List Str).map D.str ++ [.non, .int 3, .bl true] := rfl
  intro d hd
  rw [e] at hd
  rcases List.mem_append.mp hd with hd | hd
  · obtain ⟨x, hx, rfl⟩ := List.mem_map.mp hd
    obtain ⟨h1, h2⟩ := key x hx
    exact ⟨h1, .inl ⟨x, rfl, by omega⟩⟩
  · simp only [List.mem_cons, List.not_mem_nil, or_false] at hd
    rcases hd with rfl | rfl | rfl
    · exact ⟨rfl, .inr rfl⟩
    · exact ⟨rfl, .inr rfl⟩
    · exact ⟨rfl, .inr rfl⟩
theorem red7 : rT 7 (-2) = -7 ∧ rB 7 (-2) = 2 ∧ rT (-7) 2 = -7 ∧ rB (-7) 2 = 2 := by decide +kernel
end L43
namespace L43
open PySem L2 TL Rg RZ PyProof.Rows
local macro_rules | `(tactic| walk_at "ev") => `(tactic| first
  | with_reducible assumption
  | ((with_reducible apply ev_var); exact rfl)
  | with_reducible exact ev_cint
  | with_reducible exact ev_cbl
  | with_reducible exact ev_cnon
  | with_reducible exact ev_cstr
  | ((with_reducible apply ev_c); with_reducible assumption)
  | with_reducible exact ev_craw
  | ((with_reducible apply ev_tup1); walk_at "ea"; exact Nat.le_of_ble_eq_true rfl)
  | ((with_reducible apply ev_lst1); walk_at "ea"; exact Nat.le_of_ble_eq_true rfl)
  | ((with_reducible apply ev_op1); walk_at "ev"; walk_at "ev"; walk_at "od")
  | ((with_reducible apply ev_un1); walk_at "ev"; exact ud_neg)
  | ((with_reducible apply ev_isSeq); walk_at "ev"; walk_at "ea"; exact rfl; exact rfl)
  | ((with_reducible apply ev_cb1); walk_at "ea"; walk_at "cd")
  | ((with_reducible apply ev_chainB); walk_at "ev"; walk_at "ev"; walk_at "od"; walk_at "ev"; walk_at "od")
  | ((with_reducible apply ev_andF); walk_at "ev"; exact rfl)
  | ((with_reducible apply ev_andT); walk_at "ev"; exact rfl; walk_at "ev")
  | ((with_reducible apply ev_andB); walk_at "ev"; intro _; walk_at "ev")
  | ((with_reducible apply ev_orT); walk_at "ev"; exact rfl)
  | ((with_reducible apply ev_orF); walk_at "ev"; exact rfl; walk_at "ev")
  | ((with_reducible apply ev_orB); walk_at "ev"; intro _; walk_at "ev")
  | ((with_reducible apply ev_notV); walk_at "ev"))
local macro_rules | `(tactic| walk_at "et") => `(tactic| first
  | ((with_reducible apply et_B); walk_at "ev")
  | ((with_reducible apply et_test); walk_at "ev")
  | ((with_reducible apply et_not); walk_at "et")
  | ((with_reducible apply et_orT); walk_at "et"; exact rfl)
  | ((with_reducible apply et_orF); walk_at "et"; exact rfl; walk_at "et")
  | ((with_reducible apply et_or); walk_at "et"; intro _; walk_at "et")
  | ((with_reducible apply et_andF); walk_at "et"; exact rfl)
  | ((with_reducible apply et_andT); walk_at "et"; exact rfl; walk_at "et")
  | ((with_reducible apply et_and); walk_at "et"; intro _; walk_at "et"))
local macro_rules | `(tactic| walk_at "ea") => `(tactic| first
  | with_reducible exact ea_nil
  | ((with_reducible apply ea1); walk_at "ev"; walk_at "ea"))
local macro_rules | `(tactic| walk_at "od") => `(tactic| first
  | with_reducible exact od_addI
  | with_reducible exact od_subI
  | ((with_reducible apply od_addS); (try simp only [PySem.Str.length_append]); omega)
  | ((with_reducible apply od_catL); exact Nat.le_of_ble_eq_true rfl)
  | ((with_reducible apply od_modI); first | decide | omega)
  | ((with_reducible apply od_mulI); first | (exact Or.inr ⟨by decide, by decide⟩) | (exact Or.inl ⟨by decide, by decide⟩) | (exact Or.inl ⟨by omega, by omega⟩) | (exact Or.inr ⟨by omega, by omega⟩))
  | ((with_reducible apply od_divI); first | (exact ⟨by decide, by decide⟩) | (exact ⟨by omega, by omega⟩))
  | ((with_reducible apply od_powI); exact ⟨by decide, by decide, by decide⟩)
  | with_reducible exact od_leI
  | with_reducible exact od_ltI
  | with_reducible exact od_gtI
  | with_reducible exact od_geI
  | with_reducible exact od_eqI
  | with_reducible exact od_eqB
  | with_reducible exact od_neB
  | with_reducible exact od_neI
  | with_reducible exact od_eqS
  | with_reducible exact od_inS
  | ((with_reducible apply od_none); exact rfl)
  | ((with_reducible apply od_ix); exact rfl))
local macro_rules | `(tactic| walk_at "cd") => `(tactic| first
  | ((with_reducible apply cd_isStr); exact rfl)
  | ((with_reducible apply cd_isInt); exact rfl)
  | ((with_reducible apply cd_isBool); exact rfl)
  | ((with_reducible apply cd_isList); exact rfl)
  | ((with_reducible apply cd_isTuple); exact rfl)
  | ((with_reducible apply cd_isi); assumption)
  | ((with_reducible apply cd_len); assumption)
  | ((with_reducible apply cd_len); exact rfl)
  | with_reducible exact cd_intI
  | with_reducible exact cd_listof
  | ((with_reducible apply cd_str); assumption)
  | with_reducible exact cd_all)
local macro_rules | `(tactic| walk_at "px") => `(tactic| first
  | ((with_reducible apply px_var); exact rfl)
  | with_reducible exact px_c
  | ((with_reducible apply px_op); walk_at "px"; walk_at "px"; walk_at "pr")
  | ((with_reducible apply px_cb); walk_at "pa"; walk_at "pr")
  | ((with_reducible apply px_test); walk_at "px")
  | ((with_reducible apply px_B); walk_at "px")
  | ((with_reducible apply px_and); walk_at "px"; walk_at "px"))
local macro_rules | `(tactic| walk_at "pa") => `(tactic| first
  | with_reducible exact px_nil
  | ((with_reducible apply px_cons); walk_at "px"; walk_at "pa"))
local macro_rules | `(tactic| walk_at "pr") => `(tactic| first
  | exact px_addI
  | (apply px_ix; assumption; exact rfl)
  | (apply px_ix; assumption; assumption)
  | exact px_eqI
  | exact fun Q q => ⟨_, _, rfl, rfl, q⟩
  | exact fun Q q => ⟨_, _, rfl, rfl, (Or.inr ⟨by decide, by decide⟩), q⟩
  | exact fun Q q => ⟨_, _, rfl, rfl, (Or.inl ⟨by omega, by omega⟩), q⟩
  | exact fun Q q => ⟨_, _, rfl, rfl, (Or.inr ⟨by omega, by omega⟩), q⟩
  | exact fun Q q => ⟨_, _, rfl, rfl, ⟨by decide, by decide⟩, q⟩
  | exact fun Q q => ⟨_, _, rfl, rfl, ⟨by omega, by omega⟩, q⟩
  | exact fun Q q => ⟨_, _, rfl, rfl, ⟨by decide, by decide, by decide⟩, q⟩
  | exact fun Q q => ⟨_, _, rfl, rfl, (by decide), q⟩
  | exact fun Q q => ⟨_, _, rfl, rfl, (by omega), q⟩
  | (apply px_len; assumption)
  | exact px_intI
  | exact px_abs)
local macro_rules | `(tactic| walk_at "fg") => `(tactic| repeat first | exact Fg.nil | apply Fg.keep | apply Fg.drop)
section
variable {P : Program} {w : World} {K : PySem.W.Frag} {mg : Str → Option Value} {base : Heap}
theorem ev_catL {M : Mt} {ds : DS} {ta tb : TE} {xs : List D} {RA : List D → Prop} (ha : Ev K M ds ta (· = .list xs)) (hb : Ev K M ds tb (fun d => ∃ ys, d = .list ys ∧ RA ys)) (hl : ∀ ys, RA ys → xs.length + ys.length ≤ 100000) :
    Ev K M ds (tOp (rAddU K) ta tb) (fun d => ∃ ys, d = .list (xs ++ ys) ∧ RA ys) :=
  ev_op ha hb fun a b ea ⟨ys, eb, r⟩ => by
    subst ea eb
    exact fun M' G H x y Q m rx ry w q => od_catL (hl ys r) M' G H x y Q m rx ry w fun v d G' H' s' w' r' e => q v d G' H' s' w' r' ⟨ys, e, r⟩
theorem mem_adds {M : Mt} {q : Addr × (Hp → HO → Prop)} {l : Ml} (h : q ∈ M.l) : q ∈ (M.adds l).l := List.mem_append_right _ h
abbrev lamQ : Str := (Str.ofString "law" ++ Str.ofString ".<locals>.") ++ Str.ofString "<lambda>"
def spLaw (T : Tx K mg) : Sp := fun vs H Q _ => ∃ (a : Addr) (ns : List Int), vs = [.ref a] ∧ SqL K H a (ns.map V.int) ∧ ns.length ≤ 63 ∧ H T.tb_law = some (.tbl #[]) ∧ ∀ H', Q (.bl true) H'
/-! ### one turn of the law -/
abbrev EB (d0 : DS) : AE := { nx := fun ds' => Fg ds' d0, rt := fun _ => False }
theorem ok_law (T : Tx K mg) (TB : LamX.TabB base mg T.cd_law T.tb_law) : FnOk P w K mg base CX0 12 T.f_law T.fd_law ["_law_script"] (spLaw T) := by
  have G_Ratioinit := ok_ratioinit (P := P) (w := w) (base := base) T
  have B_Ratioinit := B_ratio3 T
  obtain ⟨v2, R2_Ratioinit, B2_Ratioinit⟩ := B_ratio2 T
  have KN_Ratioinit := KN_ratio T
  have G_Ratioadd := ok_add (P := P) (w := w) (base := base) T
  have B_Ratioadd := Bd_Ratioadd T
  have G_Ratioradd := ok_radd (P := P) (w := w) (base := base) T
  have B_Ratioradd := Bd_Ratioradd T
  have G_Ratiosub := ok_sub (P := P) (w := w) (base := base) T
  have B_Ratiosub := Bd_Ratiosub T
  have G_Ratiorsub := ok_rsub (P := P) (w := w) (base := base) T
  have B_Ratiorsub := Bd_Ratiorsub T
  have G_Ratiomul := ok_mul (P := P) (w := w) (base := base) T
  have B_Ratiomul := Bd_Ratiomul T
  have G_Ratiormul := ok_rmul (P := P) (w := w) (base := base) T
  have B_Ratiormul := Bd_Ratiormul T
  have G_Ratiofloordiv := ok_floordiv (P := P) (w := w) (base := base) T
  have B_Ratiofloordiv := Bd_Ratiofloordiv T
  have G_Rationeg := ok_neg (P := P) (w := w) (base := base) T
  have B_Rationeg := Bd_Rationeg T
  have G_Ratioabs := ok_abs (P := P) (w := w) (base := base) T
  have B_Ratioabs := Bd_Ratioabs T
  have G_Ratiobool := ok_rbool (P := P) (w := w) (base := base) T
  have B_Ratiobool := Bd_Ratiobool T
  have G_Ratioeq := ok_req (P := P) (w := w) (base := base) T
  have B_Ratioeq := Bd_Ratioeq T
  have G_Ratiostr := ok_rstr (P := P) (w := w) (base := base) T
  have B_Ratiostr := Bd_Ratiostr T
  have G_Ratiofloor := ok_floor (P := P) (w := w) (base := base) T
  have B_Ratiofloor := Bd_Ratiofloor T
  have G_Ratioceiling := ok_ceiling (P := P) (w := w) (base := base) T
  have B_Ratioceiling := Bd_Ratioceiling T
  have G_Ratiocompare := ok_compare (P := P) (w := w) (base := base) T
  have B_Ratiocompare := Bd_Ratiocompare T
  have KB_Ratiocompare := KB_compare T
  have G_Ratioover := ok_over (P := P) (w := w) (base := base) T
  have B_Ratioover := Bd_Ratioover T
  have KB_Ratioover := KB_over T
  have G_Ratioread := ok_read (P := P) (w := w) (base := base) T
  have B_Ratioread := Bd_Ratioread T
  have KB_Ratioread := KB_read T
  have G_Lbag := ok_bag (P := P) (w := w) (base := base) T
  have B_Lbag := Bd_Lbag T
  have G_Lnumber := ok_number (P := P) (w := w) (base := base) T
  have B_Lnumber := Bd_Lnumber T
  have G_Lplain := ok_plain (P := P) (w := w) (base := base) T
  have B_Lplain := Bd_Lplain T
  have G_Lso := ok_so (P := P) (w := w) (base := base) T
  have B_Lso := Bd_Lso T
  have G_Llike := ok_same (P := P) (w := w) (base := base) T 4
  have B_Llike := Bd_Llike T
  have G_Lzero := ok_zero (P := P) (w := w) (base := base) T
  have B_Lzero := Bd_Lzero T
  have G_Ltry := ok_try (P := P) (w := w) (base := base) T
  have B_Ltry := Bd_Ltry T
  refine fun_okC T.F_law sc_law (fun vs H Q E h => ?_) T.hc_law (fun A0 outer s H vs Q E hr h => ?_)
  · obtain ⟨a, ns, rfl, _⟩ := h
    rfl
  obtain ⟨a, ns, rfl, hS, hl, ht1, q⟩ := h
  refine ⟨_, (pss_cons (ps_set (i := 1) sc_law.nd rfl (Or.inl rfl) (pe_call G_Lbag (hr.mono (by decide)) (by rfl) T.m__law_bag T.F__law_bag.kp B_Lbag .nil pass0 (pa_cons (pv 0) pa_nil)))
  (pss_cons (ps_for PassesOwn.never rfl (pi_range1 rfl T.b_range (pa_cons pe_int pa_nil)) (pg_name (i := 2) sc_law.nd rfl (Or.inl rfl))
    (pss_cons (ps_asg (pe_tup (pa_cons (pe_call G_Lnumber (hr.mono (by decide)) (by rfl) T.m__law_number T.F__law_number.kp B_Lnumber .nil pass0 (pa_cons (pv 1) pa_nil)) (pa_cons (pe_call G_Lnumber (hr.mono (by decide)) (by rfl) T.m__law_number T.F__law_number.kp B_Lnumber .nil pass0 (pa_cons (pv 1) pa_nil)) (pa_cons (pe_call G_Lnumber (hr.mono (by decide)) (by rfl) T.m__law_number T.F__law_number.kp B_Lnumber .nil pass0 (pa_cons (pv 1) pa_nil)) (pa_cons (pe_call G_Lnumber (hr.mono (by decide)) (by rfl) T.m__law_number T.F__law_number.kp B_Lnumber .nil pass0 (pa_cons (pv 1) pa_nil)) pa_nil))))) (q_tup (K := K) (n := 4) rfl (pgs_cons (pg_name (i := 3) sc_law.nd rfl (Or.inr rfl)) (pgs_cons (pg_name (i := 4) sc_law.nd rfl (Or.inl rfl)) (pgs_cons (pg_name (i := 5) sc_law.nd rfl (Or.inl rfl)) (pgs_cons (pg_name (i := 6) sc_law.nd rfl (Or.inr rfl)) pgs_nil))))))
    (pss_cons (ps_asg (pe_tup (pa_cons (pe_ifExp (pt_cmpR op_ne (pv 4) pe_int (nomark _)) (pv 4) pe_int) (pa_cons (pe_ifExp (pt_cmpR op_ne (pv 6) pe_int (nomark _)) (pv 6) (pe_un un_neg pe_int)) pa_nil))) (q_tup (K := K) (n := 2) rfl (pgs_cons (pg_name (i := 4) sc_law.nd rfl (Or.inl rfl)) (pgs_cons (pg_name (i := 6) sc_law.nd rfl (Or.inr rfl)) pgs_nil))))
    (pss_cons (ps_asg (pe_tup (pa_cons (pe_make T.mk_Ratio G_Ratioinit (hr.mono (by decide)) (by rfl) T.m_Ratio B_Ratioinit .nil passF (pa_cons (pv 3) (pa_cons (pv 4) pa_nil))) (pa_cons (pe_makeK0 T.mk_Ratio G_Ratioinit (hr.mono (by decide)) (by rfl) T.m_Ratio KN_Ratioinit passF (pk_cons (pv 6) (pk_cons (pv 5) pk_nil))) pa_nil))) (q_tup (K := K) (n := 2) rfl (pgs_cons (pg_name (i := 7) sc_law.nd rfl (Or.inr rfl)) (pgs_cons (pg_name (i := 8) sc_law.nd rfl (Or.inl rfl)) pgs_nil))))
    (pss_cons (ps_asg (pe_tup (pa_cons (pe_call G_Lplain (hr.mono (by decide)) (by rfl) T.m__law_plain T.F__law_plain.kp B_Lplain .nil pass0 (pa_cons (pv 3) (pa_cons (pv 4) pa_nil))) (pa_cons (pe_call G_Lplain (hr.mono (by decide)) (by rfl) T.m__law_plain T.F__law_plain.kp B_Lplain .nil pass0 (pa_cons (pv 5) (pa_cons (pv 6) pa_nil))) (pa_cons (pe_call G_Lnumber (hr.mono (by decide)) (by rfl) T.m__law_number T.F__law_number.kp B_Lnumber .nil pass0 (pa_cons (pv 1) pa_nil)) pa_nil)))) (q_tup (K := K) (n := 3) rfl (pgs_cons (q_tup (K := K) (n := 2) rfl (pgs_cons (pg_name (i := 3) sc_law.nd rfl (Or.inr rfl)) (pgs_cons (pg_name (i := 4) sc_law.nd rfl (Or.inl rfl)) pgs_nil))) (pgs_cons (q_tup (K := K) (n := 2) rfl (pgs_cons (pg_name (i := 5) sc_law.nd rfl (Or.inl rfl)) (pgs_cons (pg_name (i := 6) sc_law.nd rfl (Or.inr rfl)) pgs_nil))) (pgs_cons (pg_name (i := 9) sc_law.nd rfl (Or.inl rfl)) pgs_nil)))))
    (pss_cons (ps_set (i := 10) sc_law.nd rfl (Or.inl rfl) (pe_lst (pa_cons (pe_tup (pa_cons (pv 7) (pa_cons (pe_tup (pa_cons (pv 3) (pa_cons (pv 4) pa_nil))) pa_nil))) (pa_cons (pe_tup (pa_cons (pv 8) (pa_cons (pe_tup (pa_cons (pv 5) (pa_cons (pv 6) pa_nil))) pa_nil))) (pa_cons (pe_tup (pa_cons (pe_op (q_binO (opO_add T) G_Ratioadd (hr.mono (by decide)) B_Ratioadd pass0) (pv 7) (pv 8)) (pa_cons (pe_call G_Lplain (hr.mono (by decide)) (by rfl) T.m__law_plain T.F__law_plain.kp B_Lplain .nil pass0 (pa_cons (pe_op (q_add (K := K)) (pe_op op_mul (pv 3) (pv 6)) (pe_op op_mul (pv 5) (pv 4))) (pa_cons (pe_op op_mul (pv 4) (pv 6)) pa_nil))) pa_nil))) (pa_cons (pe_tup (pa_cons (pe_op (q_binO (opO_sub T) G_Ratiosub (hr.mono (by decide)) B_Ratiosub pass0) (pv 7) (pv 8)) (pa_cons (pe_call G_Lplain (hr.mono (by decide)) (by rfl) T.m__law_plain T.F__law_plain.kp B_Lplain .nil pass0 (pa_cons (pe_op op_sub (pe_op op_mul (pv 3) (pv 6)) (pe_op op_mul (pv 5) (pv 4))) (pa_cons (pe_op op_mul (pv 4) (pv 6)) pa_nil))) pa_nil))) pa_nil))))))
    (pss_cons (ps_set (i := 10) sc_law.nd rfl (Or.inl rfl) (pe_op (q_add (K := K)) (pv 10) (pe_lst (pa_cons (pe_tup (pa_cons (pe_op (q_binO (opO_mul T) G_Ratiomul (hr.mono (by decide)) B_Ratiomul pass0) (pv 7) (pv 8)) (pa_cons (pe_call G_Lplain (hr.mono (by decide)) (by rfl) T.m__law_plain T.F__law_plain.kp B_Lplain .nil pass0 (pa_cons (pe_op op_mul (pv 3) (pv 5)) (pa_cons (pe_op op_mul (pv 4) (pv 6)) pa_nil))) pa_nil))) (pa_cons (pe_tup (pa_cons (pe_op (q_binR (opR_sub T) G_Ratiorsub (hr.mono (by decide)) B_Ratiorsub pass0) pe_int (pv 7)) (pa_cons (pe_tup (pa_cons (pe_op op_sub pe_int (pv 3)) (pa_cons (pv 4) pa_nil))) pa_nil))) (pa_cons (pe_tup (pa_cons (pe_un (q_negO T.sp_Ratio___neg__.1 T.sp_Ratio___neg__.2 G_Rationeg (hr.mono (by decide)) B_Rationeg pass0) (pv 8)) (pa_cons (pe_tup (pa_cons (pe_op op_sub pe_int (pv 5)) (pa_cons (pv 6) pa_nil))) pa_nil))) (pa_cons (pe_tup (pa_cons (pe_callB (q_absO T.sp_Ratio___abs__.1 T.sp_Ratio___abs__.2 G_Ratioabs (hr.mono (by decide)) B_Ratioabs pass0) (by rfl) T.b_abs bt_abs (pa_cons (pv 8) pa_nil)) (pa_cons (pe_tup (pa_cons (pe_callB call_abs (by rfl) T.b_abs bt_abs (pa_cons (pv 5) pa_nil)) (pa_cons (pv 6) pa_nil))) pa_nil))) pa_nil)))))))
    (pss_cons (ps_set (i := 10) sc_law.nd rfl (Or.inl rfl) (pe_op (q_add (K := K)) (pv 10) (pe_lst (pa_cons (pe_tup (pa_cons (pe_op (q_binO (opO_add T) G_Ratioadd (hr.mono (by decide)) B_Ratioadd pass0) (pv 7) (pv 9)) (pa_cons (pe_call G_Lplain (hr.mono (by decide)) (by rfl) T.m__law_plain T.F__law_plain.kp B_Lplain .nil pass0 (pa_cons (pe_op (q_add (K := K)) (pv 3) (pe_op op_mul (pv 9) (pv 4))) (pa_cons (pv 4) pa_nil))) pa_nil))) (pa_cons (pe_tup (pa_cons (pe_op (q_binR (opR_add T) G_Ratioradd (hr.mono (by decide)) B_Ratioradd pass0) (pv 9) (pv 7)) (pa_cons (pe_call G_Lplain (hr.mono (by decide)) (by rfl) T.m__law_plain T.F__law_plain.kp B_Lplain .nil pass0 (pa_cons (pe_op (q_add (K := K)) (pv 3) (pe_op op_mul (pv 9) (pv 4))) (pa_cons (pv 4) pa_nil))) pa_nil))) (pa_cons (pe_tup (pa_cons (pe_op (q_binO (opO_sub T) G_Ratiosub (hr.mono (by decide)) B_Ratiosub pass0) (pv 7) (pv 9)) (pa_cons (pe_call G_Lplain (hr.mono (by decide)) (by rfl) T.m__law_plain T.F__law_plain.kp B_Lplain .nil pass0 (pa_cons (pe_op op_sub (pv 3) (pe_op op_mul (pv 9) (pv 4))) (pa_cons (pv 4) pa_nil))) pa_nil))) pa_nil))))))
    (pss_cons (ps_set (i := 10) sc_law.nd rfl (Or.inl rfl) (pe_op (q_add (K := K)) (pv 10) (pe_lst (pa_cons (pe_tup (pa_cons (pe_op (q_binR (opR_sub T) G_Ratiorsub (hr.mono (by decide)) B_Ratiorsub pass0) (pv 9) (pv 7)) (pa_cons (pe_call G_Lplain (hr.mono (by decide)) (by rfl) T.m__law_plain T.F__law_plain.kp B_Lplain .nil pass0 (pa_cons (pe_op op_sub (pe_op op_mul (pv 9) (pv 4)) (pv 3)) (pa_cons (pv 4) pa_nil))) pa_nil))) (pa_cons (pe_tup (pa_cons (pe_op (q_binR (opR_mul T) G_Ratiormul (hr.mono (by decide)) B_Ratiormul pass0) (pv 9) (pv 7)) (pa_cons (pe_call G_Lplain (hr.mono (by decide)) (by rfl) T.m__law_plain T.F__law_plain.kp B_Lplain .nil pass0 (pa_cons (pe_op op_mul (pv 9) (pv 3)) (pa_cons (pv 4) pa_nil))) pa_nil))) (pa_cons (pe_tup (pa_cons (pe_op (q_binO (opO_mul T) G_Ratiomul (hr.mono (by decide)) B_Ratiomul pass0) (pv 7) (pv 9)) (pa_cons (pe_call G_Lplain (hr.mono (by decide)) (by rfl) T.m__law_plain T.F__law_plain.kp B_Lplain .nil pass0 (pa_cons (pe_op op_mul (pv 9) (pv 3)) (pa_cons (pv 4) pa_nil))) pa_nil))) (pa_cons (pe_tup (pa_cons (pe_make T.mk_Ratio G_Ratioinit (hr.mono (by decide)) (by rfl) T.m_Ratio B2_Ratioinit (.cons R2_Ratioinit .nil) passF (pa_cons (pv 9) pa_nil)) (pa_cons (pe_tup (pa_cons (pv 9) (pa_cons pe_int pa_nil))) pa_nil))) pa_nil)))))))
    (pss_cons (ps_if (pt_cmpR op_ne (pv 5) pe_int (nomark _)) (pss_one (ps_expr (pe_bm PySem.F.plainAttrs_list PySem.F.slot_list_append PySem.F.type_list_append mt_append (pv 10) (pa_cons (pe_tup (pa_cons (pe_meG (K := K) (pv 7) G_Ratioover (hr.mono (by decide)) B_Ratioover .nil passF (pa_cons (pv 8) pa_nil)) (pa_cons (pe_call G_Lplain (hr.mono (by decide)) (by rfl) T.m__law_plain T.F__law_plain.kp B_Lplain .nil pass0 (pa_cons (pe_op op_mul (pv 3) (pv 6)) (pa_cons (pe_op op_mul (pv 4) (pv 5)) pa_nil))) pa_nil))) pa_nil)))) pss_nil)
    (pss_cons (ps_if (pt_cmpR (q_neD (K := K) (room_u hr)) (pe_lc (own := [("_law_pair", 16)]) (g := (gName 16)) (by rfl) sc_law.nd (q_itany (K := K) (pv 10)) (blkOk_by (own := [("_law_pair", 16)]) (N := n_law) (sc := defScope s_law) (by decide +kernel)) (fun _ _ _ _ _ => (pg_name (i := 16) sc_law.nd rfl (Or.inl rfl))) (fun _ _ _ _ _ => pts_one (pt_not (pt_val (pe_call G_Lso (hr.mono (by decide)) (by rfl) T.m__law_so T.F__law_so.kp B_Lso .nil pass0 (pa_cons (pe_ix (q_ix (K := K)) (pv 16) pe_int (fun _ _ => rfl)) (pa_cons (pe_ix (q_ix (K := K)) (pv 16) pe_int (fun _ _ => rfl)) pa_nil)))))) (fun _ _ _ _ _ => (pv 16))) (pe_lst pa_nil) (nomark _)) (pss_one (ps_ret pe_bl)) pss_nil)
    (pss_cons (ps_set (i := 11) sc_law.nd rfl (Or.inl rfl) (pe_lst (pa_cons (pe_meG0 (K := K) (pv 7) G_Ratiofloor (hr.mono (by decide)) B_Ratiofloor .nil pass0) (pa_cons (pe_meG0 (K := K) (pv 7) G_Ratioceiling (hr.mono (by decide)) B_Ratioceiling .nil pass0) (pa_cons (pe_cmpR (q_eqO (K := K) T.sp_Ratio___eq__.2 G_Ratioeq (hr.mono (by decide)) B_Ratioeq pass0) (pv 7) (pv 8) (nomark _)) (pa_cons (pe_cmpR (q_neO (K := K) T.sp_Ratio___eq__.2 G_Ratioeq (hr.mono (by decide)) B_Ratioeq pass0) (pv 7) (pv 8) (nomark _)) (pa_cons (pe_cmpR (q_eqO (K := K) T.sp_Ratio___eq__.2 G_Ratioeq (hr.mono (by decide)) B_Ratioeq pass0) (pv 7) (pv 9) (nomark _)) (pa_cons (pe_callTy (q_boolO (K := K) T.sp_Ratio___bool__.2 G_Ratiobool (hr.mono (by decide)) B_Ratiobool pass0) (by rfl) T.b_bool bt_bool (pa_cons (pv 7) pa_nil)) (pa_cons (pe_cmpR (q_eqO (K := K) T.sp_Ratio___eq__.2 G_Ratioeq (hr.mono (by decide)) B_Ratioeq pass0) (pe_make T.mk_Ratio G_Ratioinit (hr.mono (by decide)) (by rfl) T.m_Ratio B_Ratioinit .nil passF (pa_cons (pv 3) (pa_cons (pv 4) pa_nil))) (pv 7) (nomark _)) (pa_cons (pe_cmpR (q_eqO (K := K) T.sp_Ratio___eq__.2 G_Ratioeq (hr.mono (by decide)) B_Ratioeq pass0) (pv 7) (pe_callTy (q_strO T.sp_Ratio___str__.1 T.sp_Ratio___str__.2 G_Ratiostr (hr.mono (by decide)) B_Ratiostr pass0) (by rfl) T.b_str bt_str (pa_cons (pv 7) pa_nil)) (nomark _)) pa_nil))))))))))
    (pss_cons (ps_if (pt_not (pt_val (pe_call G_Llike (hr.mono (by decide)) (by rfl) T.m__law_like T.F__law_like.kp B_Llike .nil pass0 (pa_cons (pv 11) (pa_cons (pe_lst (pa_cons (pe_op op_fdivZ (pv 3) (pv 4)) (pa_cons (pe_op op_sub pe_int (pe_op op_fdivZ (pe_op op_sub pe_int (pv 3)) (pv 4))) (pa_cons (pe_cmpR (q_eqD (K := K) (room_u hr)) (pe_tup (pa_cons (pv 3) (pa_cons (pv 4) pa_nil))) (pe_tup (pa_cons (pv 5) (pa_cons (pv 6) pa_nil))) (nomark _)) (pa_cons (pe_cmpR (q_neD (K := K) (room_u hr)) (pe_tup (pa_cons (pv 3) (pa_cons (pv 4) pa_nil))) (pe_tup (pa_cons (pv 5) (pa_cons (pv 6) pa_nil))) (nomark _)) (pa_cons (pe_cmpR (q_eqD (K := K) (room_u hr)) (pe_tup (pa_cons (pv 3) (pa_cons (pv 4) pa_nil))) (pe_tup (pa_cons (pv 9) (pa_cons pe_int pa_nil))) (nomark _)) (pa_cons (pe_cmpR op_ne (pv 3) pe_int (nomark _)) (pa_cons pe_bl (pa_cons pe_bl pa_nil))))))))) pa_nil))))) (pss_one (ps_ret pe_bl)) pss_nil)
    (pss_cons (ps_set (i := 12) sc_law.nd rfl (Or.inl rfl) (pe_lst (pa_cons (pe_op op_sub (pe_callTy call_int1 (by rfl) T.b_int bt_int (pa_cons (pe_cmpR op_gt (pe_op op_mul (pv 3) (pv 6)) (pe_op op_mul (pv 5) (pv 4)) (nomark _)) pa_nil)) (pe_callTy call_int1 (by rfl) T.b_int bt_int (pa_cons (pe_cmpR op_lt (pe_op op_mul (pv 3) (pv 6)) (pe_op op_mul (pv 5) (pv 4)) (nomark _)) pa_nil))) (pa_cons (pe_op op_sub (pe_callTy call_int1 (by rfl) T.b_int bt_int (pa_cons (pe_cmpR op_gt (pv 3) (pe_op op_mul (pv 9) (pv 4)) (nomark _)) pa_nil)) (pe_callTy call_int1 (by rfl) T.b_int bt_int (pa_cons (pe_cmpR op_lt (pv 3) (pe_op op_mul (pv 9) (pv 4)) (nomark _)) pa_nil))) pa_nil))))
    (pss_cons (ps_if (pt_not (pt_val (pe_call G_Llike (hr.mono (by decide)) (by rfl) T.m__law_like T.F__law_like.kp B_Llike .nil pass0 (pa_cons (pe_lst (pa_cons (pe_meG (K := K) (pv 7) G_Ratiocompare (hr.mono (by decide)) B_Ratiocompare .nil pass0 (pa_cons (pv 8) pa_nil)) (pa_cons (pe_meG (K := K) (pv 7) G_Ratiocompare (hr.mono (by decide)) B_Ratiocompare .nil pass0 (pa_cons (pv 9) pa_nil)) (pa_cons (pe_meG (K := K) (pv 8) G_Ratiocompare (hr.mono (by decide)) B_Ratiocompare .nil pass0 (pa_cons (pv 7) pa_nil)) pa_nil)))) (pa_cons (pe_op (q_add (K := K)) (pv 12) (pe_lst (pa_cons (pe_op op_sub pe_int (pe_ix (q_ix (K := K)) (pv 12) pe_int (fun _ _ => rfl))) pa_nil))) pa_nil))))) (pss_one (ps_ret pe_bl)) pss_nil)
    (pss_cons (ps_if (PW.pt (pw_or (pt_cmpR op_ne (pe_meGK (K := K) (pv 7) G_Ratiocompare (hr.mono (by decide)) KB_Ratiocompare pass0 (pk_cons (pv 8) pk_nil)) (pe_ix (q_ix (K := K)) (pv 12) pe_int (fun _ _ => rfl)) (nomark _)) (pw_or1 (PW.pt (pw_and (pt_cmpR op_ne (pv 5) pe_int (nomark _)) (pw_and1 (pt_cmpR (q_neO (K := K) T.sp_Ratio___eq__.2 G_Ratioeq (hr.mono (by decide)) B_Ratioeq pass0) (pe_meGK (K := K) (pv 7) G_Ratioover (hr.mono (by decide)) KB_Ratioover passF (pk_cons (pv 8) pk_nil)) (pe_meG (K := K) (pv 7) G_Ratioover (hr.mono (by decide)) B_Ratioover .nil passF (pa_cons (pv 8) pa_nil)) (nomark _)))))))) (pss_one (ps_ret pe_bl)) pss_nil)
    (pss_cons (ps_set (i := 13) sc_law.nd rfl (Or.inl rfl) (pe_lst (pa_cons (pe_ifExp (pt_cmpR op_ne (pv 5) pe_int (nomark _)) (pe_op (q_binO (opO_fdiv T) G_Ratiofloordiv (hr.mono (by decide)) B_Ratiofloordiv passF) (pv 7) (pv 8)) pe_int) (pa_cons (pe_ifExp (pt_cmpR op_ne (pv 9) pe_int (nomark _)) (pe_op (q_binO (opO_fdiv T) G_Ratiofloordiv (hr.mono (by decide)) B_Ratiofloordiv passF) (pv 7) (pv 9)) pe_int) pa_nil))))
    (pss_cons (ps_if (pt_not (pt_val (pe_call G_Llike (hr.mono (by decide)) (by rfl) T.m__law_like T.F__law_like.kp B_Llike .nil pass0 (pa_cons (pv 13) (pa_cons (pe_lst (pa_cons (pe_ifExp (pt_cmpR op_ne (pv 5) pe_int (nomark _)) (pe_op op_fdivZ (pe_op op_mul (pe_op op_mul (pv 3) (pv 6)) (pe_ifExp (pt_cmpR op_gt (pv 5) pe_int (nomark _)) pe_int (pe_un un_neg pe_int))) (pe_op op_mul (pv 4) (pe_callB call_abs (by rfl) T.b_abs bt_abs (pa_cons (pv 5) pa_nil)))) pe_int) (pa_cons (pe_ifExp (pt_cmpR op_ne (pv 9) pe_int (nomark _)) (pe_op op_fdivZ (pv 3) (pe_op op_mul (pv 4) (pv 9))) pe_int) pa_nil))) pa_nil))))) (pss_one (ps_ret pe_bl)) pss_nil)
    (pss_cons (ps_set (i := 14) sc_law.nd rfl (Or.inl rfl) (pe_lst (pa_cons (pe_lam0 TB rfl (by intro h y hy e; exact lam_freeS (sc := defScope s_law) h rfl (by decide +kernel) hy e) rfl) (pa_cons (pe_lam1 TB rfl (by intro h y hy e; exact lam_freeS (sc := defScope s_law) h rfl (by decide +kernel) hy e) rfl rfl) (pa_cons (pe_lam1 TB rfl (by intro h y hy e; exact lam_freeS (sc := defScope s_law) h rfl (by decide +kernel) hy e) rfl rfl) pa_nil)))))
    (pss_cons (ps_set (i := 14) sc_law.nd rfl (Or.inl rfl) (pe_op (q_add (K := K)) (pv 14) (pe_lst (pa_cons (pe_lam0 TB rfl (by intro h y hy e; exact lam_freeS (sc := defScope s_law) h rfl (by decide +kernel) hy e) rfl) (pa_cons (pe_lam1 TB rfl (by intro h y hy e; exact lam_freeS (sc := defScope s_law) h rfl (by decide +kernel) hy e) rfl rfl) pa_nil)))))
    (pss_one (ps_if (pt_cmpR (q_neD (K := K) (room_u hr)) (pe_lcT (ys := [("_law_a", 3), ("_law_d", 6), ("_law_one", 7)]) (own := [("_law_ask", 17)]) (g := (gName 17)) (tells_by (N := n_law) (sc := defScope s_law) rfl rfl (fun _ _ => rfl) (by decide +kernel)) (by decide) (by rfl) sc_law.nd (q_itany (K := K) (pv 14)) (blkOk_by (own := [("_law_ask", 17)]) (N := n_law) (sc := defScope s_law) (by decide +kernel)) (fun _ _ _ _ _ => (pg_name (i := 17) sc_law.nd rfl (Or.inl rfl))) (fun obs _ _ _ _ _ ib => pts_one (pt_not (pt_val (pe_callO G_Lzero (hr.mono (by decide)) (by rfl) T.m__law_zero T.F__law_zero.kp B_Lzero ib (pa_cons (pv 17) pa_nil))))) (fun obs _ _ _ _ _ ib => (pv 17))) (pe_lst pa_nil) (nomark _)) (pss_one (ps_ret pe_bl)) pss_nil))))))))))))))))))))))
  (pss_cons (ps_set (i := 15) sc_law.nd rfl (Or.inl rfl) (pe_lst (pa_cons pe_str (pa_cons pe_str (pa_cons pe_str (pa_cons pe_str (pa_cons pe_str (pa_cons pe_str (pa_cons pe_str (pa_cons pe_str (pa_cons pe_str (pa_cons pe_str (pa_cons pe_str (pa_cons pe_str (pa_cons pe_str (pa_cons pe_str (pa_cons pe_str (pa_cons pe_str (pa_cons pe_non (pa_cons pe_int (pa_cons pe_bl pa_nil)))))))))))))))))))))
  (pss_cons (ps_setLc (i := 11) (own := [("_law_text_z", 18)]) (g := (gName 18)) (tt := tYes) (by rfl) sc_law.nd rfl rfl (sw_true rfl rfl rfl (by decide +kernel)) (q_itany (K := K) (pv 15)) (blkOk_by (own := [("_law_text_z", 18)]) (N := n_law) (sc := defScope s_law) (by decide +kernel)) (fun _ _ _ _ _ => (pg_name (i := 18) sc_law.nd rfl (Or.inr rfl))) (fun _ _ _ _ _ => pts_nil) (fun s0 H0 Ca cl fps => pe_all cl (pe_callBl (sc := defScope s_law) (ys := [("_law_text_z", 18)]) G_Ltry (hr.mono (by decide)) (by rfl) T.m__law_try T.F__law_try.kp B_Ltry rfl (N := n_law) rfl (by decide +kernel) (by decide) (pa_cons (pe_lamBl (sc := defScope s_law) TB rfl rfl (by decide +kernel) rfl) pa_nil))))
  (pss_one (ps_ret (pe_and (pe_call G_Llike (hr.mono (by decide)) (by rfl) T.m__law_like T.F__law_like.kp B_Llike .nil pass0 (pa_cons (pv 11) (pa_cons (pe_op op_mulU (pe_lst (pa_cons (pe_tup (pa_cons pe_str (pa_cons pe_int pa_nil))) pa_nil)) (pe_callB (q_len (K := K)) (by rfl) T.b_len bt_len (pa_cons (pv 15) pa_nil))) pa_nil))) (pe_and (pe_cmpR (q_eqO (K := K) T.sp_Ratio___eq__.2 G_Ratioeq (hr.mono (by decide)) B_Ratioeq pass0) (ClX.pe_cmeth (pe_cls rfl T.m_Ratio) T.cr_Ratio T.cm_Ratioread (FnOk.raw G_Ratioread B_Ratioread .nil) (hr.mono (by decide)) passF (pa_cons pe_str pa_nil)) (pe_make T.mk_Ratio G_Ratioinit (hr.mono (by decide)) (by rfl) T.m_Ratio B_Ratioinit .nil passF (pa_cons pe_int (pa_cons (pe_un un_neg pe_int) pa_nil))) (nomark _)) (pe_one (pe_cmpR (q_eqO (K := K) T.sp_Ratio___eq__.2 G_Ratioeq (hr.mono (by decide)) B_Ratioeq pass0) (pe_cmethK (pe_cls rfl T.m_Ratio) T.cr_Ratio T.cm_Ratioread G_Ratioread (hr.mono (by decide)) KB_Ratioread passF (pk_cons pe_str pk_nil)) (pe_make T.mk_Ratio G_Ratioinit (hr.mono (by decide)) (by rfl) T.m_Ratio B_Ratioinit .nil passF (pa_cons pe_int (pa_cons (pe_un un_neg pe_int) pa_nil))) (nomark _))))))))))), ?_⟩
  refine ⟨.ref a, rfl, a, ns, [T.tb_law], rfl, hS, hl, by simp, fun t ht => by
    rw [List.mem_singleton.mp ht]
    exact ht1, fun b G1 H1 w1 => ?_⟩
  let M : Mt := { l := [(b, IsBag K), (T.tb_law, TabP lamQ)] }
  have hm : (b, IsBag K) ∈ M.l := List.mem_cons_self
  have hT : (T.tb_law, TabP lamQ) ∈ M.l := List.mem_cons_of_mem _ List.mem_cons_self
  have wd : Wd M G1 H1 := by
    refine ⟨⟨w1.sub, fun p hp => ?_, fun p hp => ?_, w1.nd⟩, fun _ _ _ _ _ _ z => z.elim⟩
    · rcases List.mem_cons.mp hp with rfl | hp
      · exact w1.mt _ List.mem_cons_self
      · rw [List.mem_singleton.mp hp]
        obtain ⟨g, o, ho, eo⟩ := w1.mt (T.tb_law, isT0) (List.mem_cons_of_mem _ List.mem_cons_self)
        exact ⟨g, o, ho, #[], eo, trivial, fun pos' cv h => (by have h : (none : Option Value) = some cv := h; cases h)⟩
    · rcases List.mem_cons.mp hp with rfl | hp
      · exact w1.mono _ List.mem_cons_self
      · rw [List.mem_singleton.mp hp]
        exact TabP.mono
  clear_value M
  unfold gName
  dsimp only
  refine run_at (K := K) (M := M) (G := G1) (ds := [none, some (.raw (.ref b)), none, none, none, none, none, none, none, none, none, none, none, none, none, none, none, none, none]) (E := { nx := fun _ => False, rt := fun d => d = .bl true }) (Z := { nx := fun _ H' => Q .non H', rt := Q }) ?_
    (sg_none (sg_some (.raw _) (sg_none (sg_none (sg_none (sg_none (sg_none (sg_none (sg_none (sg_none (sg_none (sg_none (sg_none (sg_none (sg_none (sg_none (sg_none (sg_none (sg_none (sg_nil)))))))))))))))))))) wd
    ⟨fun _ _ _ _ e => e.elim, fun v d G' H' e s' r' w' => by
      have e : d = .bl true := e
      subst e
      rw [r'.bl_inv]
      exact q H', fun _ _ _ _ e => e.elim, fun _ _ _ _ e => e.elim⟩
  have sm : ∀ {i : Int}, i.natAbs < 2 ^ 31 → Sm i := fun h => h
  refine run_seq (run_forF [none, some (.raw (.ref b)), none, none, none, none, none, none, none, none, none, none, none, none, none, none, none, none, none] (ei_range (n := 5) (ea1 ev_cint ea_nil) (by decide)) (Fg.refl _) (fun es i dt _ _ => ?_) ?_)
  · refine eg_name (run_weak (E := EB [none, some (.raw (.ref b)), none, none, none, none, none, none, none, none, none, none, none, none, none, none, none, none, none]) ?_ (fun d h => h) (fun _ h => h.elim) (fun _ h => h.elim) (fun _ h => h.elim))
    refine run_forget (b := [none, some (.raw (.ref b)), none, none, none, none, none, none, none, none, none, none, none, none, none, none, none, none, none]) (by walk_at "fg") ?_
    refine run_seq (run_asgG (R := fun d => ∃ A B C G : Int, (Nm A ∧ Nm B ∧ Nm C ∧ Nm G) ∧ d = .tup [.int A, .int B, .int C, .int G]) ((ev_tup (ea_cons (ev_number (ev_var rfl) hm) (ea_cons (ev_number (ev_var rfl) hm) (ea_cons (ev_number (ev_var rfl) hm) (ea_cons (ev_number (ev_var rfl) hm) ea_nil)))) ?_).weak ?_) fun d ⟨A0, B0, C0, G0, ⟨nA, nB, nC, nG⟩, ed⟩ => ?_)
    · rintro as ⟨a1, r1, e1, _, a2, r2, e2, _, a3, r3, e3, _, a4, r4, e4, _, e5⟩
      subst e5 e4 e3 e2 e1
      exact Nat.le_of_ble_eq_true rfl
    · rintro d ⟨as, ed, a1, r1, e1, ⟨A, nA, eA⟩, a2, r2, e2, ⟨B, nB, eB⟩, a3, r3, e3, ⟨C, nC, eC⟩, a4, r4, e4, ⟨G, nG, eG⟩, e5⟩
      subst eA eB eC eG e5 e4 e3 e2 e1
      exact ⟨A, B, C, G, ⟨nA, nB, nC, nG⟩, ed⟩
    subst ed
    refine eg_tup (egs_cons (egs_cons (egs_cons (egs_cons (egs_nil ?_)))))
    show Run K M [none, some (.raw (.ref b)), none, some (.int A0), some (.int B0), some (.int C0), some (.int G0), none, none, none, none, none, none, none, none, none, none, none, none] _ _
    have nz : ∀ {M : Mt} {ds : DS} {i : Nat} {te : TE} {x y : Int}, ds[i]? = some (some (.int x)) → Nm x → y ≠ 0 → Nm y → Ev K M ds te (· = .int y) → Ev K M ds (tIf (tB (tOp rNe (tVar i) (tC (V.int 0)))) (tVar i) te) (fun d => ∃ z : Int, (z ≠ 0 ∧ Nm z) ∧ d = .int z) := fun {M ds i te x y} hi hx hy hy2 he => ev_ifR (Ra := (· = !decide (x = 0))) (et_B (ev_op1 (ev_var hi) ev_cint od_neI)) (fun e => (ev_var hi).weak fun d ed => ⟨x, ⟨by simpa using e, hx⟩, ed⟩) fun _ => he.weak fun d ed => ⟨y, ⟨hy, hy2⟩, ed⟩
    refine run_seq (run_asgG (R := fun d => ∃ B G : Int, ((B ≠ 0 ∧ Nm B) ∧ (G ≠ 0 ∧ Nm G)) ∧ d = .tup [.int B, .int G]) ((ev_tup (ea_cons (nz (y := 1) rfl nB (by decide) (by unfold Nm; decide) ev_cint) (ea_cons (nz (y := -3) rfl nG (by decide) (by unfold Nm; decide) (ev_un1 ev_cint ud_neg)) ea_nil)) ?_).weak ?_) fun d ⟨B1, G1', ⟨⟨b0, nB1⟩, g0, nG1⟩, ed⟩ => ?_)
    · rintro as ⟨a1, r1, e1, _, a2, r2, e2, _, e5⟩
      subst e5 e2 e1
      exact Nat.le_of_ble_eq_true rfl
    · rintro d ⟨as, ed, a1, r1, e1, ⟨B, hB, eB⟩, a2, r2, e2, ⟨G, hG, eG⟩, e5⟩
      subst eB eG e5 e2 e1
      exact ⟨B, G, ⟨hB, hG⟩, ed⟩
    subst ed
    refine eg_tup (egs_cons (egs_cons (egs_nil ?_)))
    show Run K M [none, some (.raw (.ref b)), none, some (.int A0), some (.int B1), some (.int C0), some (.int G1'), none, none, none, none, none, none, none, none, none, none, none, none] _ _
    have smA := sm_top (t := A0) b0 nA
    have smB := sm_bot (t := A0) b0 nB1
    have smC := sm_top (t := C0) g0 nC
    have smG := sm_bot (t := C0) g0 nG1
    have szs : ∀ {i : Int}, Nm i → Sz i := fun h => h.sm.sz
    refine run_seq (run_asgG (R := (· = .tup [ratO T (rT A0 B1) (rB A0 B1), ratO T (rT C0 G1') (rB C0 G1')])) (ev_tup1 (ea1 (ev_rat T (ev_var rfl) (ev_var rfl) b0 (szs nB1)) (ea1 (ev_ratK T (ev_var rfl) (ev_var rfl) g0 (szs nG1)) ea_nil)) (Nat.le_of_ble_eq_true rfl)) fun d ed => ?_)
    subst ed
    refine eg_tup (egs_cons (egs_cons (egs_nil ?_)))
    refine run_seq (run_asgG (R := fun d => ∃ n : Int, Nm n ∧ d = .tup [.tup [.int (rT A0 B1), .int (rB A0 B1)], .tup [.int (rT C0 G1'), .int (rB C0 G1')], .int n]) ((ev_tup (ea_cons (ev_plain T (ev_var rfl) (ev_var rfl) b0 (szs nA) (szs nB1)) (ea_cons (ev_plain T (ev_var rfl) (ev_var rfl) g0 (szs nC) (szs nG1)) (ea_cons (ev_number (ev_var rfl) hm) ea_nil))) ?_).weak ?_) fun d ⟨n, nn, ed⟩ => ?_)
    · rintro as ⟨a1, r1, e1, _, a2, r2, e2, _, a3, r3, e3, _, e5⟩
      subst e5 e3 e2 e1
      exact Nat.le_of_ble_eq_true rfl
    · rintro d ⟨as, ed, a1, r1, e1, ea, a2, r2, e2, ec, a3, r3, e3, ⟨n, nn, en⟩, e5⟩
      subst ea ec en e5 e3 e2 e1
      exact ⟨n, nn, ed⟩
    subst ed
    refine eg_tup (egs_consG (eg_tup (egs_cons (egs_cons (egs_nil (egs_consG (eg_tup (egs_cons (egs_cons (egs_nil (egs_cons (egs_nil ?_))))))))))))
    have lA := lowest A0 b0
    have lC := lowest C0 g0
    generalize rT A0 B1 = A at smA lA ⊢
    generalize rB A0 B1 = B at smB lA ⊢
    generalize rT C0 G1' = C at smC lC ⊢
    generalize rB C0 G1' = G at smG lC ⊢
    have h5 : Five A B C G n := ⟨lA, lC, smA, smB, smC, smG, nn.sm⟩
    clear nA nB nC nG nB1 nG1 b0 g0 nn smA smB smC smG lA lC szs nz
    show Run K M [none, some (.raw (.ref b)), none, some (.int A), some (.int B), some (.int C), some (.int G), some (ratO T A B), some (ratO T C G), some (.int n), none, none, none, none, none, none, none, none, none] _ _
    obtain ⟨m1, m2, m3, m4, m5, m6, m7, m8⟩ := h5.m
    have ha := h5.a
    have hb := h5.b
    have hc := h5.c
    have hg := h5.d
    have hn := h5.n
    have pb := h5.ab.pos
    have pg := h5.cd.pos
    have pbg := Int.mul_pos pb pg
    have oAC : Opd A B C G := ⟨pb, pg, ha, hb, hc, hg⟩
    have oCA : Opd C G A B := ⟨pg, pb, hc, hg, ha, hb⟩
    have oAn : Opd A B n 1 := ⟨pb, by decide, ha, hb, hn, by unfold Sm; decide⟩
    have oA0 : Opd A B 0 1 := ⟨pb, by decide, ha, hb, by unfold Sm; decide, by unfold Sm; decide⟩
    -- the pairs
    refine run_asg1 (d := .list (([(A, B), (C, G), rz (A * G + C * B) (B * G), rz (A * G - C * B) (B * G)] : List (Int × Int)).map (prD T))) (ev_lst1 (ea1 (ev_tup1 (ea1 (ev_var (i := 7) rfl) (ea1 (ev_tup1 (ea1 (ev_var (i := 3) rfl) (ea1 (ev_var (i := 4) rfl) ea_nil)) (Nat.le_of_ble_eq_true rfl)) ea_nil)) (Nat.le_of_ble_eq_true rfl))
      (ea1 (ev_tup1 (ea1 (ev_var (i := 8) rfl) (ea1 (ev_tup1 (ea1 (ev_var (i := 5) rfl) (ea1 (ev_var (i := 6) rfl) ea_nil)) (Nat.le_of_ble_eq_true rfl)) ea_nil)) (Nat.le_of_ble_eq_true rfl))
      (ea1 (ev_tup1 (ea1 (ev_opO T (ev_var (i := 7) rfl) (ev_var (i := 8) rfl) (num_r T C G) oAC) (ea1 (ev_plain T (ev_op1 (ev_op1 (ev_var (i := 3) rfl) (ev_var (i := 6) rfl) (od_mulI (.inl ⟨by omega, by omega⟩))) (ev_op1 (ev_var (i := 5) rfl) (ev_var (i := 4) rfl) (od_mulI (.inl ⟨by omega, by omega⟩))) od_addI) (ev_op1 (ev_var (i := 4) rfl) (ev_var (i := 6) rfl) (od_mulI (.inl ⟨by omega, by omega⟩))) (by omega) (by unfold Sz; omega) (by unfold Sz; omega)) ea_nil)) (Nat.le_of_ble_eq_true rfl))
      (ea1 (ev_tup1 (ea1 (ev_opO T (ev_var (i := 7) rfl) (ev_var (i := 8) rfl) (num_r T C G) oAC) (ea1 (ev_plain T (ev_op1 (ev_op1 (ev_var (i := 3) rfl) (ev_var (i := 6) rfl) (od_mulI (.inl ⟨by omega, by omega⟩))) (ev_op1 (ev_var (i := 5) rfl) (ev_var (i := 4) rfl) (od_mulI (.inl ⟨by omega, by omega⟩))) od_subI) (ev_op1 (ev_var (i := 4) rfl) (ev_var (i := 6) rfl) (od_mulI (.inl ⟨by omega, by omega⟩))) (by omega) (by unfold Sz; omega) (by unfold Sz; omega)) ea_nil)) (Nat.le_of_ble_eq_true rfl))
      ea_nil)))) (Nat.le_of_ble_eq_true rfl)) ?_
    refine run_asg1 (d := .list ((([(A, B), (C, G), rz (A * G + C * B) (B * G), rz (A * G - C * B) (B * G)] ++ [rz (A * C) (B * G), (0 - A, B), (0 - C, G), (if C < 0 then -C else C, G)]) : List (Int × Int)).map (prD T))) (ev_op1 (ev_var rfl) (ev_eq (ev_lst1 (ea1 (ev_tup1 (ea1 (ev_opO T (ev_var (i := 7) rfl) (ev_var (i := 8) rfl) (num_r T C G) oAC) (ea1 (ev_plain T (ev_op1 (ev_var (i := 3) rfl) (ev_var (i := 5) rfl) (od_mulI (.inl ⟨by omega, by omega⟩))) (ev_op1 (ev_var (i := 4) rfl) (ev_var (i := 6) rfl) (od_mulI (.inl ⟨by omega, by omega⟩))) (by omega) (by unfold Sz; omega) (by unfold Sz; omega)) ea_nil)) (Nat.le_of_ble_eq_true rfl))
      (ea1 (ev_tup1 (ea1 (ev_eq (ev_opR (n := 0) T ev_cint (ev_var (i := 7) rfl) oA0) (by unfold redD; rw [Int.zero_mul, Int.mul_one, Int.mul_one, Int.zero_sub, (red_self h5.ab.neg).1, (red_self h5.ab.neg).2])) (ea1 (ev_tup1 (ea1 (ev_op1 ev_cint (ev_var (i := 3) rfl) od_subI) (ea1 (ev_var (i := 4) rfl) ea_nil)) (Nat.le_of_ble_eq_true rfl)) ea_nil)) (Nat.le_of_ble_eq_true rfl))
      (ea1 (ev_tup1 (ea1 (ev_eq (ev_un1 (ev_var (i := 8) rfl) (ud_negO (R := (· = ratO T (-C) G)) (fun _ _ => ⟨C, G, rfl, h5.cd, (by unfold Sz; omega), (by unfold Sz; omega)⟩) (fun r z => z C G rfl) fun x z => z.elim)) (by rw [Int.zero_sub])) (ea1 (ev_tup1 (ea1 (ev_op1 ev_cint (ev_var (i := 5) rfl) od_subI) (ea1 (ev_var (i := 6) rfl) ea_nil)) (Nat.le_of_ble_eq_true rfl)) ea_nil)) (Nat.le_of_ble_eq_true rfl))
      (ea1 (ev_tup1 (ea1 (ev_cb1 (ea1 (ev_var (i := 8) rfl) ea_nil) (cd_absO (R := (· = ratO T (if C < 0 then -C else C) G)) (fun _ _ => ⟨C, G, rfl, h5.cd, (by unfold Sz; omega), (by unfold Sz; omega)⟩) (fun r z => z C G rfl) fun x z => z.elim)) (ea1 (ev_tup1 (ea1 (ev_cb1 (ea1 (ev_var (i := 5) rfl) ea_nil) cd_absI) (ea1 (ev_var (i := 6) rfl) ea_nil)) (Nat.le_of_ble_eq_true rfl)) ea_nil)) (Nat.le_of_ble_eq_true rfl))
      ea_nil)))) (Nat.le_of_ble_eq_true rfl)) (show D.list _ = .list (([rz (A * C) (B * G), (0 - A, B), (0 - C, G), (if C < 0 then -C else C, G)] : List (Int × Int)).map (prD T)) from rfl)) (by rw [show ((([(A, B), (C, G), rz (A * G + C * B) (B * G), rz (A * G - C * B) (B * G)] ++ [rz (A * C) (B * G), (0 - A, B), (0 - C, G), (if C < 0 then -C else C, G)]) : List (Int × Int)).map (prD T)) = (([(A, B), (C, G), rz (A * G + C * B) (B * G), rz (A * G - C * B) (B * G)] : List (Int × Int)).map (prD T)) ++ (([rz (A * C) (B * G), (0 - A, B), (0 - C, G), (if C < 0 then -C else C, G)] : List (Int × Int)).map (prD T)) from List.map_append]; exact od_catL (by simp))) ?_
    refine run_asg1 (d := .list ((([(A, B), (C, G), rz (A * G + C * B) (B * G), rz (A * G - C * B) (B * G)] ++ [rz (A * C) (B * G), (0 - A, B), (0 - C, G), (if C < 0 then -C else C, G)] ++ [rz (A + n * B) B, rz (A + n * B) B, rz (A - n * B) B]) : List (Int × Int)).map (prD T))) (ev_op1 (ev_var rfl) (ev_eq (ev_lst1 (ea1 (ev_tup1 (ea1 (ev_eq (ev_opO T (ev_var (i := 7) rfl) (ev_var (i := 9) rfl) (num_i T n) oAn) (by unfold redD; rw [Int.mul_one, Int.mul_one]; rfl)) (ea1 (ev_plain T (ev_op1 (ev_var (i := 3) rfl) (ev_op1 (ev_var (i := 9) rfl) (ev_var (i := 4) rfl) (od_mulI (.inl ⟨by omega, by omega⟩))) od_addI) (ev_var (i := 4) rfl) (by omega) (by unfold Sz; omega) (by unfold Sz; omega)) ea_nil)) (Nat.le_of_ble_eq_true rfl))
      (ea1 (ev_tup1 (ea1 (ev_eq (ev_opR T (ev_var (i := 9) rfl) (ev_var (i := 7) rfl) oAn) (by unfold redD; rw [Int.mul_one, Int.mul_one]; rfl)) (ea1 (ev_plain T (ev_op1 (ev_var (i := 3) rfl) (ev_op1 (ev_var (i := 9) rfl) (ev_var (i := 4) rfl) (od_mulI (.inl ⟨by omega, by omega⟩))) od_addI) (ev_var (i := 4) rfl) (by omega) (by unfold Sz; omega) (by unfold Sz; omega)) ea_nil)) (Nat.le_of_ble_eq_true rfl))
      (ea1 (ev_tup1 (ea1 (ev_eq (ev_opO T (ev_var (i := 7) rfl) (ev_var (i := 9) rfl) (num_i T n) oAn) (by unfold redD; rw [Int.mul_one, Int.mul_one]; rfl)) (ea1 (ev_plain T (ev_op1 (ev_var (i := 3) rfl) (ev_op1 (ev_var (i := 9) rfl) (ev_var (i := 4) rfl) (od_mulI (.inl ⟨by omega, by omega⟩))) od_subI) (ev_var (i := 4) rfl) (by omega) (by unfold Sz; omega) (by unfold Sz; omega)) ea_nil)) (Nat.le_of_ble_eq_true rfl))
      ea_nil))) (Nat.le_of_ble_eq_true rfl)) (show D.list _ = .list (([rz (A + n * B) B, rz (A + n * B) B, rz (A - n * B) B] : List (Int × Int)).map (prD T)) from rfl)) (by rw [show ((([(A, B), (C, G), rz (A * G + C * B) (B * G), rz (A * G - C * B) (B * G)] ++ [rz (A * C) (B * G), (0 - A, B), (0 - C, G), (if C < 0 then -C else C, G)] ++ [rz (A + n * B) B, rz (A + n * B) B, rz (A - n * B) B]) : List (Int × Int)).map (prD T)) = ((([(A, B), (C, G), rz (A * G + C * B) (B * G), rz (A * G - C * B) (B * G)] ++ [rz (A * C) (B * G), (0 - A, B), (0 - C, G), (if C < 0 then -C else C, G)]) : List (Int × Int)).map (prD T)) ++ (([rz (A + n * B) B, rz (A + n * B) B, rz (A - n * B) B] : List (Int × Int)).map (prD T)) from List.map_append]; exact od_catL (by simp))) ?_
    refine run_w (runw_asg (evw_catR (R2 := (· = .list (([rz (n * B - A) B, rz (n * A) B, rz (n * A) B, (n, 1)] : List (Int × Int)).map (prD T)))) (ev_var rfl) (ev_eq (ev_lst1 (ea1 (ev_tup1 (ea1 (ev_eq (ev_opR T (ev_var (i := 9) rfl) (ev_var (i := 7) rfl) oAn) (by unfold redD; rw [Int.mul_one, Int.mul_one]; rfl)) (ea1 (ev_plain T (ev_op1 (ev_op1 (ev_var (i := 9) rfl) (ev_var (i := 4) rfl) (od_mulI (.inl ⟨by omega, by omega⟩))) (ev_var (i := 3) rfl) od_subI) (ev_var (i := 4) rfl) (by omega) (by unfold Sz; omega) (by unfold Sz; omega)) ea_nil)) (Nat.le_of_ble_eq_true rfl))
      (ea1 (ev_tup1 (ea1 (ev_eq (ev_opR T (ev_var (i := 9) rfl) (ev_var (i := 7) rfl) oAn) (by unfold redD; rw [Int.mul_one, Int.mul_comm A n]; rfl)) (ea1 (ev_plain T (ev_op1 (ev_var (i := 9) rfl) (ev_var (i := 3) rfl) (od_mulI (.inl ⟨by omega, by omega⟩))) (ev_var (i := 4) rfl) (by omega) (by unfold Sz; omega) (by unfold Sz; omega)) ea_nil)) (Nat.le_of_ble_eq_true rfl))
      (ea1 (ev_tup1 (ea1 (ev_eq (ev_opO T (ev_var (i := 7) rfl) (ev_var (i := 9) rfl) (num_i T n) oAn) (by unfold redD; rw [Int.mul_one, Int.mul_comm A n]; rfl)) (ea1 (ev_plain T (ev_op1 (ev_var (i := 9) rfl) (ev_var (i := 3) rfl) (od_mulI (.inl ⟨by omega, by omega⟩))) (ev_var (i := 4) rfl) (by omega) (by unfold Sz; omega) (by unfold Sz; omega)) ea_nil)) (Nat.le_of_ble_eq_true rfl))
      (ea1 (ev_tup1 (ea1 (ev_rat1 T (ev_var (i := 9) rfl)) (ea1 (ev_tup1 (ea1 (ev_var (i := 9) rfl) (ea1 ev_cint ea_nil)) (Nat.le_of_ble_eq_true rfl)) ea_nil)) (Nat.le_of_ble_eq_true rfl))
      ea_nil)))) (Nat.le_of_ble_eq_true rfl)) rfl) fun d e => ⟨_, e, by simp⟩) fun o' d ⟨p, ys, ey, eo, ed⟩ => ?_)
    injection ey with ey
    subst ey eo ed
    rw [← List.map_append]
    show RunW K M [(p, .lst ((zs A B C G n).map (prD T)))] [none, some (.raw (.ref b)), none, some (.int A), some (.int B), some (.int C), some (.int G), some (ratO T A B), some (ratO T C G), some (.int n), some (.raw (.ref p)), none, none, none, none, none, none, none, none] _ _
    refine runw_seq (runw_weak (E := { nx := fun o' ds' => ∃ zz, o' = [(p, .lst (zz.map (prD T)))] ∧ ds' = [none, some (.raw (.ref b)), none, some (.int A), some (.int B), some (.int C), some (.int G), some (ratO T A B), some (ratO T C G), some (.int n), some (.raw (.ref p)), none, none, none, none, none, none, none, none] ∧ zz.length ≤ 20 ∧ ∀ z ∈ zz, Okz z, rt := fun _ _ => False }) (runw_if1 (et_B (ev_op1 (ev_var (i := 5) rfl) ev_cint od_neI)) (fun e => ?_) fun e => runw_next ⟨_, rfl, rfl, Nat.le_of_ble_eq_true rfl, zs_ok h5⟩) (fun o' ds' ⟨zz, eo, ed, hz, hok⟩ => ?_) (fun _ _ h => h.elim) (fun _ _ h => h.elim) (fun _ _ h => h.elim))
    · have c0 : C ≠ 0 := by simpa using e
      have bc0 : B * C ≠ 0 := Int.mul_ne_zero (by omega) c0
      refine runw_expr (evw_append (d := prD T (rz (A * G) (B * C))) (ev_var rfl) (ev_tup1 (ea1 (ev_overX T (ev_var (i := 7) rfl) (ev_var (i := 8) rfl) (num_r T C G) oAC (R := (· = redD T (A * G) (B * C))) (fun _ => rfl) fun h => absurd h c0) (ea1 (ev_plain T (ev_op1 (ev_var (i := 3) rfl) (ev_var (i := 6) rfl) (od_mulI (.inl ⟨by omega, by omega⟩))) (ev_op1 (ev_var (i := 4) rfl) (ev_var (i := 5) rfl) (od_mulI (.inl ⟨by omega, by omega⟩))) bc0 (by unfold Sz; omega) (by unfold Sz; omega)) ea_nil)) (Nat.le_of_ble_eq_true rfl)) (by rw [List.length_map]; exact Nat.lt_of_le_of_lt (show (zs A B C G n).length ≤ 20 from Nat.le_of_ble_eq_true rfl) (by decide))) fun o' d ⟨eo, _⟩ => ?_
      refine ⟨zs A B C G n ++ [rz (A * G) (B * C)], by rw [eo, List.map_append]; rfl, rfl, by rw [List.length_append]; exact Nat.le_of_ble_eq_true rfl, fun z hz => ?_⟩
      rcases List.mem_append.mp hz with hz | hz
      · exact zs_ok h5 z hz
      · rw [List.mem_singleton.mp hz]
        exact okz_r bc0 (by unfold Sz; omega) (by unfold Sz; omega)
    subst eo ed
    refine runw_freeze (i := 10) (d := .list (zz.map (prD T))) rfl rfl ?_
    refine runw_of_run (EB [none, some (.raw (.ref b)), none, none, none, none, none, none, none, none, none, none, none, none, none, none, none, none, none]) ?_
    refine run_seq (run_ifF (et_B (ev_op1 (ev_eq (ev_lcF (cs := zz) (inj := prD T) (f := prD T) (t := fun _ => false) (ei_any (ev_var (i := 10) rfl) rfl) (by omega) fun z hz => eg_name ⟨et_not (et_test (ev_so T (ev_op1 (ev_var rfl) ev_cint (od_ix (by rfl))) (ev_op1 (ev_var rfl) ev_cint (od_ix (by rfl))) (hok z hz).1 (hok z hz).2.1 (hok z hz).2.2)), fun h => by cases h⟩) (show D.list _ = .list [] by rw [List.filter_eq_nil_iff.mpr (fun _ _ h => by cases h)]; rfl)) (ev_lst1 ea_nil (Nat.zero_le _)) (od_neD (n := 2) rfl rfl))) (by rfl) (run_next ?_))
    refine run_forget (b := [none, some (.raw (.ref b)), none, some (.int A), some (.int B), some (.int C), some (.int G), some (ratO T A B), some (ratO T C G), some (.int n), none, none, none, none, none, none, none, none, none]) (by walk_at "fg") ?_
    clear hok hz
    -- what is told
    have s31 : ∀ {i : Int}, i.natAbs < 2 ^ 31 → Sz i := fun h => Nat.lt_trans h (by decide)
    have rr := red_self h5.ab
    refine run_asg1 (d := .list [.int (A.fdiv B), .int (-((-A).fdiv B)), .bl (decide (A = C) && decide (B = G)), .bl (!(decide (A = C) && decide (B = G))), .bl (decide (B = 1) && decide (A = n)), .bl (A != 0), .bl (decide (A = A) && decide (B = B)), .bl false]) (ev_lst1 (ea1 (ev_meth1 T (ev_var (i := 7) rfl) T.me_Ratio_floor (by decide) h5.ab (s31 ha) (s31 hb) fun r z => z A B rfl)
      (ea1 (ev_meth1 T (ev_var (i := 7) rfl) T.me_Ratio_ceiling (by decide) h5.ab (s31 ha) (s31 hb) fun r z => z A B rfl)
      (ea1 (ev_eqO T (ev_var (i := 7) rfl) (ev_var (i := 8) rfl))
      (ea1 (ev_neO T (ev_var (i := 7) rfl) (ev_var (i := 8) rfl))
      (ea1 (ev_eqOI T (ev_var (i := 7) rfl) (ev_var (i := 9) rfl))
      (ea1 (ev_cb1 (ea1 (ev_var (i := 7) rfl) ea_nil) (cd_boolO T.sp_Ratio___bool__.1 (fun _ _ => ⟨A, B, rfl, h5.ab, s31 ha, s31 hb⟩) fun r z => z A B rfl))
      (ea1 (ev_eqO T (ev_eq (ev_rat T (ev_var (i := 3) rfl) (ev_var (i := 4) rfl) (by omega) (s31 hb)) (by rw [rr.1, rr.2])) (ev_var (i := 7) rfl))
      (ea1 (ev_eqOS T (ev_var (i := 7) rfl) (ev_cb1 (ea1 (ev_var (i := 7) rfl) ea_nil) (cd_strO (fun _ _ => ⟨A, B, rfl, h5.ab, s31 ha, s31 hb⟩) (fun r z => z A B rfl) fun y z => z.elim)))
      ea_nil)))))))) (Nat.le_of_ble_eq_true rfl)) ?_
    refine run_seq (run_ifF (et_not (et_test (ev_likeT (n := 4) (ev_var rfl) (ev_lst1 (ea1 (ev_op1 (ev_var (i := 3) rfl) (ev_var (i := 4) rfl) (od_fdivZ (div_ok h5.ab (s31 hb) _)))
      (ea1 (ev_op1 ev_cint (ev_op1 (ev_op1 ev_cint (ev_var (i := 3) rfl) od_subI) (ev_var (i := 4) rfl) (od_fdivZ (div_ok h5.ab (s31 hb) _))) od_subI)
      (ea1 (ev_op1 (ev_tup1 (ea1 (ev_var (i := 3) rfl) (ea1 (ev_var (i := 4) rfl) ea_nil)) (Nat.le_of_ble_eq_true rfl)) (ev_tup1 (ea1 (ev_var (i := 5) rfl) (ea1 (ev_var (i := 6) rfl) ea_nil)) (Nat.le_of_ble_eq_true rfl)) (od_eqD (n := 2) rfl rfl))
      (ea1 (ev_op1 (ev_tup1 (ea1 (ev_var (i := 3) rfl) (ea1 (ev_var (i := 4) rfl) ea_nil)) (Nat.le_of_ble_eq_true rfl)) (ev_tup1 (ea1 (ev_var (i := 5) rfl) (ea1 (ev_var (i := 6) rfl) ea_nil)) (Nat.le_of_ble_eq_true rfl)) (od_neD (n := 2) rfl rfl))
      (ea1 (ev_op1 (ev_tup1 (ea1 (ev_var (i := 3) rfl) (ea1 (ev_var (i := 4) rfl) ea_nil)) (Nat.le_of_ble_eq_true rfl)) (ev_tup1 (ea1 (ev_var (i := 9) rfl) (ea1 ev_cint ea_nil)) (Nat.le_of_ble_eq_true rfl)) (od_eqD (n := 2) rfl rfl))
      (ea1 (ev_op1 (ev_var (i := 3) rfl) ev_cint od_neI)
      (ea1 ev_cbl
      (ea1 ev_cbl
      ea_nil)))))))) (Nat.le_of_ble_eq_true rfl)) (by
      rw [eqv_pair, eqv_pair, Int.zero_sub, Int.zero_sub, Bool.and_comm (decide (A = n)), decide_eq_true (rfl : A = A), decide_eq_true (rfl : B = B)]; rfl) rfl))) (by rfl) (run_next ?_))
    refine run_forget (b := [none, some (.raw (.ref b)), none, some (.int A), some (.int B), some (.int C), some (.int G), some (ratO T A B), some (ratO T C G), some (.int n), none, none, none, none, none, none, none, none, none]) (by walk_at "fg") ?_
    refine run_asg1 (d := .list [.int (cmp (A * G) (C * B)), .int (cmp A (n * B))]) (ev_lst1 (ea1 (ev_op1 (ev_cb1 (ea1 (ev_op1 (ev_op1 (ev_var (i := 3) rfl) (ev_var (i := 6) rfl) (od_mulI (.inl ⟨by omega, by omega⟩))) (ev_op1 (ev_var (i := 5) rfl) (ev_var (i := 4) rfl) (od_mulI (.inl ⟨by omega, by omega⟩))) od_gtI) ea_nil) cd_intB) (ev_cb1 (ea1 (ev_op1 (ev_op1 (ev_var (i := 3) rfl) (ev_var (i := 6) rfl) (od_mulI (.inl ⟨by omega, by omega⟩))) (ev_op1 (ev_var (i := 5) rfl) (ev_var (i := 4) rfl) (od_mulI (.inl ⟨by omega, by omega⟩))) od_ltI) ea_nil) cd_intB) od_subI)
      (ea1 (ev_op1 (ev_cb1 (ea1 (ev_op1 (ev_var (i := 3) rfl) (ev_op1 (ev_var (i := 9) rfl) (ev_var (i := 4) rfl) (od_mulI (.inl ⟨by omega, by omega⟩))) od_gtI) ea_nil) cd_intB) (ev_cb1 (ea1 (ev_op1 (ev_var (i := 3) rfl) (ev_op1 (ev_var (i := 9) rfl) (ev_var (i := 4) rfl) (od_mulI (.inl ⟨by omega, by omega⟩))) od_ltI) ea_nil) cd_intB) od_subI)
      ea_nil)) (Nat.le_of_ble_eq_true rfl)) ?_
    refine run_seq (run_ifF (et_not (et_test (ev_likeT (n := 4) (ev_lst1 (ea1 (ev_cmp T (ev_var (i := 7) rfl) (ev_var (i := 8) rfl) (num_r T C G) oAC)
      (ea1 (ev_cmp T (ev_var (i := 7) rfl) (ev_var (i := 9) rfl) (num_i T n) oAn)
      (ea1 (ev_cmp T (ev_var (i := 8) rfl) (ev_var (i := 7) rfl) (num_r T A B) oCA)
      ea_nil))) (Nat.le_of_ble_eq_true rfl)) (ev_op1 (ev_var rfl) (ev_lst1 (ea1 (ev_op1 ev_cint (ev_op1 (ev_var rfl) ev_cint (od_ix (by rfl))) od_subI) ea_nil) (Nat.le_of_ble_eq_true rfl)) (od_catL (by simp))) (by rw [Int.mul_one, cmp_swap (A * G) (C * B)]; rfl) rfl))) (by rfl) (run_next ?_))
    refine run_seq (run_ifF (et_orF (et_B (ev_op1 (ev_cmpK T (ev_var (i := 7) rfl) (ev_var (i := 8) rfl) (num_r T C G) oAC) (ev_op1 (ev_var rfl) ev_cint (od_ix (by rfl))) od_neI)) (by simp) (?_ : EvT K M _ _ (· = false))) rfl (run_next ?_))
    · by_cases c0 : C = 0
      · exact et_andF (et_B (ev_op1 (ev_var (i := 5) rfl) ev_cint od_neI)) (by simp [c0])
      · exact et_andT (et_B (ev_op1 (ev_var (i := 5) rfl) ev_cint od_neI)) (by simp [c0]) (et_B (ev_eq (ev_neO T (ev_overK T (ev_var (i := 7) rfl) (ev_var (i := 8) rfl) (num_r T C G) oAC c0) (ev_overX T (ev_var (i := 7) rfl) (ev_var (i := 8) rfl) (num_r T C G) oAC (R := (· = redD T (A * G) (B * C))) (fun _ => rfl) fun h => absurd h c0)) (by simp)))
    refine run_forget (b := [none, some (.raw (.ref b)), none, some (.int A), some (.int B), some (.int C), some (.int G), some (ratO T A B), some (ratO T C G), some (.int n), none, none, none, none, none, none, none, none, none]) (by walk_at "fg") ?_
    refine run_asg1 (d := .list [.int (if C = 0 then 0 else (A * G).fdiv (B * C)), .int (if n = 0 then 0 else A.fdiv (B * n))]) (ev_lst1 (ea1 ?_ (ea1 ?_ ea_nil)) (Nat.le_of_ble_eq_true rfl)) ?_
    · by_cases c0 : C = 0
      · exact ev_eq (ev_ifF (et_B (ev_op1 (ev_var (i := 5) rfl) ev_cint od_neI)) (by simp [c0]) ev_cint) (by rw [if_pos c0])
      · exact ev_eq (ev_ifT (et_B (ev_op1 (ev_var (i := 5) rfl) ev_cint od_neI)) (by simp [c0]) (ev_fdivO T (ev_var (i := 7) rfl) (ev_var (i := 8) rfl) (num_r T C G) oAC c0)) (by rw [if_neg c0])
    · by_cases n0 : n = 0
      · exact ev_eq (ev_ifF (et_B (ev_op1 (ev_var (i := 9) rfl) ev_cint od_neI)) (by simp [n0]) ev_cint) (by rw [if_pos n0])
      · exact ev_eq (ev_ifT (et_B (ev_op1 (ev_var (i := 9) rfl) ev_cint od_neI)) (by simp [n0]) (ev_fdivO T (ev_var (i := 7) rfl) (ev_var (i := 9) rfl) (num_i T n) oAn n0)) (by rw [if_neg n0, Int.mul_one])
    refine run_seq (run_ifF (et_not (et_test (ev_likeT (n := 4) (d' := .list [.int (if C = 0 then 0 else (A * G).fdiv (B * C)), .int (if n = 0 then 0 else A.fdiv (B * n))]) (ev_var rfl) (ev_lst1 (ea1 ?_ (ea1 ?_ ea_nil)) (Nat.le_of_ble_eq_true rfl)) rfl rfl))) (by rfl) (run_next ?_))
    · by_cases c0 : C = 0
      · exact ev_eq (ev_ifF (et_B (ev_op1 (ev_var (i := 5) rfl) ev_cint od_neI)) (by simp [c0]) ev_cint) (by rw [if_pos c0])
      · have bc0 : B * (if C < 0 then -C else C) ≠ 0 := Int.mul_ne_zero (by omega) (by split <;> omega)
        have bl : (B * (if C < 0 then -C else C)).natAbs < 2 ^ 62 := by
          rw [Int.natAbs_mul, show (if C < 0 then -C else C).natAbs = C.natAbs by split <;> omega, ← Int.natAbs_mul]; exact m7
        have sgl : (if 0 < C then (1 : Int) else -1).natAbs < 2 ^ 62 := by split <;> decide
        refine ev_eq (ev_ifT (et_B (ev_op1 (ev_var (i := 5) rfl) ev_cint od_neI)) (by simp [c0]) (ev_op1 (ev_op1 (ev_op1 (ev_var (i := 3) rfl) (ev_var (i := 6) rfl) (od_mulI (.inl ⟨by omega, by omega⟩))) (?_ : Ev K M _ _ (· = D.int (if 0 < C then 1 else -1))) (od_mulI (i := A * G) (j := if 0 < C then 1 else -1) (.inl ⟨by omega, by omega⟩))) (ev_op1 (ev_var (i := 4) rfl) (ev_cb1 (ea1 (ev_var (i := 5) rfl) ea_nil) cd_absI) (od_mulI (i := B) (j := if C < 0 then -C else C) (.inl ⟨by omega, by omega⟩))) (od_fdivZ ⟨bc0, log2_ok9 bl (by decide)⟩))) (by rw [if_neg c0, fdiv_sg c0])
        by_cases cp : 0 < C
        · exact ev_eq (ev_ifT (et_B (ev_op1 (ev_var (i := 5) rfl) ev_cint od_gtI)) (decide_eq_true cp) ev_cint) (by rw [if_pos cp])
        · exact ev_eq (ev_ifF (et_B (ev_op1 (ev_var (i := 5) rfl) ev_cint od_gtI)) (decide_eq_false cp) (ev_un1 ev_cint ud_neg)) (by rw [if_neg cp])
    · by_cases n0 : n = 0
      · exact ev_eq (ev_ifF (et_B (ev_op1 (ev_var (i := 9) rfl) ev_cint od_neI)) (by simp [n0]) ev_cint) (by rw [if_pos n0])
      · exact ev_eq (ev_ifT (et_B (ev_op1 (ev_var (i := 9) rfl) ev_cint od_neI)) (by simp [n0]) (ev_op1 (ev_var (i := 3) rfl) (ev_op1 (ev_var (i := 4) rfl) (ev_var (i := 9) rfl) (od_mulI (.inl ⟨by omega, by omega⟩))) (od_fdivZ ⟨Int.mul_ne_zero (by omega) n0, log2_ok9 m8 (by decide)⟩))) (by rw [if_neg n0])
    refine run_forget (b := [none, some (.raw (.ref b)), none, some (.int A), some (.int B), some (.int C), some (.int G), some (ratO T A B), some (ratO T C G), some (.int n), none, none, none, none, none, none, none, none, none]) (by walk_at "fg") ?_
    -- what raises
    refine run_asg (ev_lst (ea_cons (ev_lam hT) (ea_cons (ev_lam hT) (ea_cons (ev_lam hT) ea_nil))) ?_) (fun d hd => ?_)
    · rintro as ⟨a1, r1, e1, _, a2, r2, e2, _, a3, r3, e3, _, e5⟩
      subst e5 e3 e2 e1
      exact Nat.le_of_ble_eq_true rfl
    obtain ⟨as, ed, a1, r1, e1, ⟨L1, el1, i1⟩, a2, r2, e2, ⟨L2, el2, i2⟩, a3, r3, e3, ⟨L3, el3, i3⟩, e5⟩ := hd
    subst el1 el2 el3 e5 e3 e2 e1 ed
    refine run_asg (ev_catL (xs := [.fob L1, .fob L2, .fob L3]) (ev_var rfl) (ev_lst (ea_cons (ev_lam hT) (ea_cons (ev_lam hT) ea_nil)) ?_) ?_) (fun d hd => ?_)
    · rintro as ⟨a1, r1, e1, _, a2, r2, e2, _, e5⟩
      subst e5 e2 e1
      exact Nat.le_of_ble_eq_true rfl
    · rintro as ⟨a1, r1, e1, _, a2, r2, e2, _, e5⟩
      subst e5 e2 e1
      exact Nat.le_of_ble_eq_true rfl
    obtain ⟨as, ed, a1, r1, e1, ⟨L4, el4, i4⟩, a2, r2, e2, ⟨L5, el5, i5⟩, e5⟩ := hd
    subst el4 el5 e5 e2 e1
    replace ed : d = .list ([L1, L2, L3, L4, L5].map D.fob) := ed
    subst ed
    refine run_ifF (et_B (ev_op1 (ev_eq (ev_lcTF (cs := [L1, L2, L3, L4, L5]) (inj := D.fob) (f := D.fob) (t := fun _ => false) (fun y hy => ?_) (ei_any (ev_var (i := 14) rfl) rfl) (Nat.le_of_ble_eq_true rfl) fun obs M1 ms tl L hL => eg_name ⟨et_not (et_B (b := true) (ev_callO (γ := ()) (pre := fun _ => preZr P w K mg base) (post := fun _ => postYes) (RA := (· = [.fob L])) tl (ea1 (ev_var rfl) ea_nil) fun as e => ⟨fun M' _ => ⟨L, e, ?_⟩, fun d z => z⟩)), fun h => by cases h⟩) (show D.list _ = .list [] by rw [List.filter_eq_nil_iff.mpr (fun _ _ h => by cases h)]; rfl)) (ev_lst1 ea_nil (Nat.zero_le _)) (od_neD (n := 2) rfl rfl))) (by rfl) (run_next (by walk_at "fg"))
    · simp only [List.mem_cons, List.not_mem_nil, or_false] at hy
      rcases hy with rfl | rfl | rfl <;> exact ⟨_, rfl⟩
    simp only [List.mem_cons, List.not_mem_nil, or_false] at hL
    rcases hL with rfl | rfl | rfl | rfl | rfl
    · exact lam_told i1 [("_law_a", 3), ("_law_d", 6), ("_law_one", 7)] none (by decide +kernel) (by decide +kernel) (fun _ _ _ _ _ _ _ _ => rfl) rfl (fun n e => nomatch e) (fun dt doc pm c ct X A outer s H E f eX hr tk => by
        subst eX
        exact ⟨_, pe_make T.mk_Ratio G_Ratioinit (hr.mono (by decide)) (by rfl) T.m_Ratio B_Ratioinit .nil (passT tk) (pa_cons (pv 0) (pa_cons pe_int pa_nil)), fun l0 _ => ev_ratX T (ev_var rfl) ev_cint (by unfold Sz; decide) (fun h => absurd rfl h) fun _ => ⟨rfl, exk_fn rfl⟩⟩)
    · exact lam_told i2 [("_law_a", 3), ("_law_d", 6), ("_law_one", 7)] (some "_law_x") (by decide +kernel) (by decide +kernel) (fun _ _ _ _ _ _ _ _ _ => ⟨_, rfl, fun _ => rfl⟩) rfl (fun n e => by cases e; rfl) (fun dt doc pm c ct X A outer s H E f eX hr tk => by
        subst eX
        exact ⟨_, pe_op (q_binO (opO_fdiv T) G_Ratiofloordiv (hr.mono (by decide)) B_Ratiofloordiv (passT tk)) (pv 2) pe_int, fun l0 _ => ev_fdivX T (ev_var rfl) ev_cint (num_i T 0) oA0 ⟨rfl, exk_fn rfl⟩⟩)
    · exact lam_told i3 [("_law_a", 3), ("_law_d", 6), ("_law_one", 7)] (some "_law_y") (by decide +kernel) (by decide +kernel) (fun _ _ _ _ _ _ _ _ _ => ⟨_, rfl, fun _ => rfl⟩) rfl (fun n e => by cases e; rfl) (fun dt doc pm c ct X A outer s H E f eX hr tk => by
        subst eX
        exact ⟨_, pe_meG (K := K) (pv 2) G_Ratioover (hr.mono (by decide)) B_Ratioover .nil (passT tk) (pa_cons (pe_make T.mk_Ratio G_Ratioinit (hr.mono (by decide)) (by rfl) T.m_Ratio B2_Ratioinit (.cons R2_Ratioinit .nil) passF (pa_cons pe_int pa_nil)) pa_nil), fun l0 _ => ev_overX T (ev_var rfl) (ev_rat1 T ev_cint) (num_r T 0 1) oA0 (fun h => absurd rfl h) fun _ => ⟨rfl, exk_fn rfl⟩⟩)
    · exact lam_told i4 [("_law_a", 3), ("_law_d", 6), ("_law_one", 7)] none (by decide +kernel) (by decide +kernel) (fun _ _ _ _ _ _ _ _ => rfl) rfl (fun n e => nomatch e) (fun dt doc pm c ct X A outer s H E f eX hr tk => by
        subst eX
        exact ⟨_, pe_meG (K := K) (pv 2) G_Ratioover (hr.mono (by decide)) B_Ratioover .nil (passT tk) (pa_cons pe_int pa_nil), fun l0 _ => ev_overX T (ev_var rfl) ev_cint (num_i T 0) oA0 (fun h => absurd rfl h) fun _ => ⟨rfl, exk_fn rfl⟩⟩)
    · have q0 := lowest 0 (b := G) (by omega)
      have q1 := bot_le 0 (b := G) (by omega)
      have oZ : Opd A B 0 (rB 0 G) := ⟨pb, q0.pos, ha, hb, by unfold Sm; decide, Nat.lt_of_le_of_lt q1 hg⟩
      exact lam_told i5 [("_law_a", 3), ("_law_d", 6), ("_law_one", 7)] (some "_law_x") (by decide +kernel) (by decide +kernel) (fun _ _ _ _ _ _ _ _ _ => ⟨_, rfl, fun _ => rfl⟩) rfl (fun n e => by cases e; rfl) (fun dt doc pm c ct X A outer s H E f eX hr tk => by
        subst eX
        exact ⟨_, pe_op (q_binO (opO_fdiv T) G_Ratiofloordiv (hr.mono (by decide)) B_Ratiofloordiv (passT tk)) (pv 2) (pe_make T.mk_Ratio G_Ratioinit (hr.mono (by decide)) (by rfl) T.m_Ratio B_Ratioinit .nil passF (pa_cons pe_int (pa_cons (pv 1) pa_nil))), fun l0 _ => ev_fdivX T (ev_var rfl) (ev_eq (ev_rat T ev_cint (ev_var rfl) (by omega) (s31 hg)) (by rw [rT_zero])) (num_r T 0 _) oZ ⟨rfl, exk_fn rfl⟩⟩)
  refine run_asg1 (d := .list wrongs) (ev_eq (by walk_at "ev") (by rfl)) ?_
  refine run_asg1 (d := .list (wrongs.map fun _ => .tup [.str "InvalidText", .int 1])) (ev_lcM (cs := wrongs) (inj := id) (f := fun _ => .tup [.str "InvalidText", .int 1]) (ei_any (ev_var (i := 15) rfl) (by rw [List.map_id]; rfl)) (Nat.le_of_ble_eq_true rfl) fun d hd => eg_name (ev_all fun cl => ev_callTG (γ := .tup [.str "InvalidText", .int 1]) (post := postTry) (RA := fun as => ∃ L, as = [.fob L] ∧ IsLm _ _ _ _ _ _ L) (fun y hy => ?_) ((ea_cons (ev_lam hT) ea_nil).weak fun as ⟨x, r, e1, ⟨L, eL, iL⟩, e2⟩ => ⟨L, by rw [e1, eL, e2], iL⟩) fun as ⟨L, eas, iL⟩ => ⟨fun M' obs _ => ⟨L, eas, .inl ⟨.eInvalidText (.int 1), ?_, rfl⟩⟩, fun d z => z⟩)) ?_
  · rw [List.mem_singleton.mp hy]
    exact ⟨_, rfl⟩
  · obtain ⟨w1, w2⟩ := wrongs_ok d hd
    exact lam_told iL [("_law_text_z", 18)] none (by decide +kernel) (by decide +kernel) (fun _ _ _ _ _ _ _ _ => rfl) rfl (fun n e => nomatch e) (fun dt doc pm c ct X A outer s H E f eX hr tk => by
      subst eX
      exact ⟨_, ClX.pe_cmeth (pe_cls rfl T.m_Ratio) T.cr_Ratio T.cm_Ratioread (FnOk.raw G_Ratioread B_Ratioread .nil) (hr.mono (by decide)) (passT tk) (pa_cons (pv 0) pa_nil), fun l0 _ => ev_cmeth (RA := (· = [d])) ev_craw (ea1 (ev_var rfl) ea_nil) fun as e => by
        subst e
        refine ⟨fun _ _ => ⟨d, rfl, w2, fun p q h => by rw [w1] at h; cases h⟩, fun r z => ?_, fun x z => ⟨rfl, exk_fn (z _ _ rfl).2⟩⟩
        obtain ⟨p, q, h, _⟩ := z _ _ rfl
        rw [w1] at h
        cases h⟩)
  obtain ⟨r1, r2, r3, r4⟩ := red7
  have s7 : ("-7/2" : Str).length ≤ 100 := by decide
  refine run_ret1 (ev_andT (ev_likeT (n := 4) (ev_var rfl) (ev_op1 (ev_lst1 (ea1 (ev_tup1 (ea1 ev_cstr (ea1 ev_cint ea_nil)) (Nat.le_of_ble_eq_true rfl)) ea_nil) (Nat.le_of_ble_eq_true rfl)) (ev_cb1 (ea1 (ev_var rfl) ea_nil) (cd_len rfl)) (od_rep (by decide) (by decide) (Nat.le_of_ble_eq_true rfl))) (by rfl) (by rfl)) rfl (ev_andT (ev_eqO T (ev_read T ev_cstr s7 seven_ok (by decide) (by unfold Sz; decide)) (ev_rat T ev_cint (ev_un1 ev_cint ud_neg) (by decide) (by unfold Sz; decide))) (by rw [r1, r2, r3, r4]; rfl) (ev_eqO T (ev_readK T ev_cstr s7 seven_ok (by decide) (by unfold Sz; decide)) (ev_rat T ev_cint (ev_un1 ev_cint ud_neg) (by decide) (by unfold Sz; decide))))) (by rw [r1, r2, r3, r4]; rfl)
end
end L43
namespace L43
open PySem L2 Rg RZ PyProof.Rows
theorem code_of {K : PySem.W.Frag} {x qual : Str} {params : Arguments} {body : List Stmt} {scope : Scope} {dvs : List V} {kws : List (Str × V)} {fd : FuncData} {p : He.Defn} (F : FunD K x qual params body scope dvs kws (He.fAd K p) fd) : fd.code = .ref (He.codeOf K p) := by
  obtain ⟨oc, od, dV, kV, doc, pm, an, cdv, ct, osl, e, l, hc, _, _⟩ := F.ex
  obtain ⟨c, ec⟩ := He.codeIn_ref hc
  have e2 : fd.code = .ref c := by rw [e]; exact ec
  rw [e2, He.codeOf_eq l e2]
theorem facts {P : Program} {w : World} {K : PySem.W.Frag} {h : Heap} {mg : Str → Option Value} {f : Addr} (X : K.In h) (G : h.Ns mainGlobals mg) (hfa : mg ("law" : Str) = some (.ref f)) (c : SaysV fa fn tf gs cs ex w h K) :
    ∃ (fd : FuncData) (T : Tx K mg), ((T.cd_law, T.tb_law) = He.cT K ("law", none) ∧ (∀ (s : Shared) (v : Value), BindsTo s fd ⟨[v], []⟩ [("_law_script", v)])) ∧ ∀ base : Heap, K.In base → base.Ns mainGlobals mg → (∀ p ∈ tf.map (He.cT K), LamX.TabB base mg p.1 p.2) → FnOk P w K mg base CX0 12 f fd ["_law_script"] (spLaw T) := by
  have cd := c.z.x.t.d
  obtain ⟨⟨fd_Ratioread, F_Ratioread⟩, P_Ratioread⟩ := c.met 0 (q := ⟨"Ratio", "read", d_Ratioread⟩) rfl
  obtain ⟨fd_isinteger, F_isinteger⟩ := cd.def_ 0 (d := d_isinteger) rfl
  obtain ⟨fd_greatestdivisor, F_greatestdivisor⟩ := cd.def_ 1 (d := d_greatestdivisor) rfl
  obtain ⟨fd_digitsin, F_digitsin⟩ := cd.def_ 2 (d := d_digitsin) rfl
  obtain ⟨fd_partsin, F_partsin⟩ := cd.def_ 3 (d := d_partsin) rfl
  obtain ⟨fd_pairof, F_pairof⟩ := cd.def_ 4 (d := d_pairof) rfl
  obtain ⟨fd_Lbag, F_Lbag⟩ := cd.def_ 5 (d := d_Lbag) rfl
  obtain ⟨fd_Lpull, F_Lpull⟩ := cd.def_ 6 (d := d_Lpull) rfl
  obtain ⟨fd_Lof, F_Lof⟩ := cd.def_ 7 (d := d_Lof) rfl
  obtain ⟨fd_Llike, F_Llike⟩ := cd.def_ 8 (d := d_Llike) rfl
  obtain ⟨fd_Lfield, F_Lfield⟩ := cd.def_ 9 (d := d_Lfield) rfl
  obtain ⟨fd_Ltry, F_Ltry⟩ := cd.def_ 10 (d := d_Ltry) rfl
  obtain ⟨fd_Lplain, F_Lplain⟩ := cd.def_ 11 (d := d_Lplain) rfl
  obtain ⟨fd_Lnumber, F_Lnumber⟩ := cd.def_ 12 (d := d_Lnumber) rfl
  obtain ⟨fd_Lso, F_Lso⟩ := cd.def_ 13 (d := d_Lso) rfl
  obtain ⟨fd_Lzero, F_Lzero⟩ := cd.def_ 14 (d := d_Lzero) rfl
  obtain ⟨fd_law, F_law⟩ := cd.def_ 15 (d := d_law) rfl
  obtain ⟨fd_Ratioinit, F_Ratioinit⟩ := cd.def_ 16 (d := d_Ratioinit) rfl
  obtain ⟨fd_Ratioceiling, F_Ratioceiling⟩ := cd.def_ 17 (d := d_Ratioceiling) rfl
  obtain ⟨fd_Ratiofloor, F_Ratiofloor⟩ := cd.def_ 18 (d := d_Ratiofloor) rfl
  obtain ⟨fd_Ratiocompare, F_Ratiocompare⟩ := cd.def_ 19 (d := d_Ratiocompare) rfl
  obtain ⟨fd_Ratioover, F_Ratioover⟩ := cd.def_ 20 (d := d_Ratioover) rfl
  obtain ⟨fd_Rationeg, F_Rationeg⟩ := cd.def_ 21 (d := d_Rationeg) rfl
  obtain ⟨fd_Ratioabs, F_Ratioabs⟩ := cd.def_ 22 (d := d_Ratioabs) rfl
  obtain ⟨fd_Ratiobool, F_Ratiobool⟩ := cd.def_ 23 (d := d_Ratiobool) rfl
  obtain ⟨fd_Ratioeq, F_Ratioeq⟩ := cd.def_ 24 (d := d_Ratioeq) rfl
  obtain ⟨fd_Ratiostr, F_Ratiostr⟩ := cd.def_ 25 (d := d_Ratiostr) rfl
  obtain ⟨fd_Ratiorepr, F_Ratiorepr⟩ := cd.def_ 26 (d := d_Ratiorepr) rfl
  obtain ⟨fd_Ratioadd, F_Ratioadd⟩ := cd.def_ 27 (d := d_Ratioadd) rfl
  obtain ⟨fd_Ratioradd, F_Ratioradd⟩ := cd.def_ 28 (d := d_Ratioradd) rfl
  obtain ⟨fd_Ratiosub, F_Ratiosub⟩ := cd.def_ 29 (d := d_Ratiosub) rfl
  obtain ⟨fd_Ratiorsub, F_Ratiorsub⟩ := cd.def_ 30 (d := d_Ratiorsub) rfl
  obtain ⟨fd_Ratiomul, F_Ratiomul⟩ := cd.def_ 31 (d := d_Ratiomul) rfl
  obtain ⟨fd_Ratiormul, F_Ratiormul⟩ := cd.def_ 32 (d := d_Ratiormul) rfl
  obtain ⟨fd_Ratiofloordiv, F_Ratiofloordiv⟩ := cd.def_ 33 (d := d_Ratiofloordiv) rfl
  obtain ⟨fd_InvalidTextinit, F_InvalidTextinit⟩ := cd.def_ 34 (d := d_InvalidTextinit) rfl
  obtain ⟨fd_NothingLeftinit, F_NothingLeftinit⟩ := cd.def_ 35 (d := d_NothingLeftinit) rfl
  have e := hfa.symm.trans (He.glo_ok X G (cd.fact 15 (f := .glo "law") rfl))
  cases e
  obtain ⟨ee, er⟩ := He.ba (show ex K = true from c.ex)
  obtain ⟨ej, er⟩ := He.ba er
  have E_InvalidText : ErF K "InvalidText" ["code", "line"] := erB_ok ee (b := XB.value) (List.mem_of_getElem? (i := 0) (by rfl))
  have E_NothingLeft : ErF K "NothingLeft" ["code"] := erB_ok ee (b := XB.index) (List.mem_of_getElem? (i := 1) (by rfl))
  obtain ⟨v_DIGITS, u_DIGITS, n_DIGITS, r_DIGITS, g_DIGITS⟩ := ck_at er 0 (c := .gl "DIGITS" (.str "0123456789")) rfl
  let T : Tx K mg := {
    f_is_integer := He.fAd K ("is_integer", none)
    fd_is_integer := fd_isinteger
    F_is_integer := He5.fun_of (st := s_isinteger) F_isinteger
    m_is_integer := He.glo_ok X G (cd.fact 0 (f := .glo "is_integer") rfl)
    f_greatest_divisor := He.fAd K ("greatest_divisor", none)
    fd_greatest_divisor := fd_greatestdivisor
    F_greatest_divisor := He5.fun_of (st := s_greatestdivisor) F_greatestdivisor
    m_greatest_divisor := He.glo_ok X G (cd.fact 1 (f := .glo "greatest_divisor") rfl)
    f_digits_in := He.fAd K ("digits_in", none)
    fd_digits_in := fd_digitsin
    F_digits_in := He5.fun_of (st := s_digitsin) F_digitsin
    m_digits_in := He.glo_ok X G (cd.fact 2 (f := .glo "digits_in") rfl)
    f_parts_in := He.fAd K ("parts_in", none)
    fd_parts_in := fd_partsin
    F_parts_in := He5.fun_of (st := s_partsin) F_partsin
    m_parts_in := He.glo_ok X G (cd.fact 3 (f := .glo "parts_in") rfl)
    f_pair_of := He.fAd K ("pair_of", none)
    fd_pair_of := fd_pairof
    F_pair_of := He5.fun_of (st := s_pairof) F_pairof
    m_pair_of := He.glo_ok X G (cd.fact 4 (f := .glo "pair_of") rfl)
    f__law_bag := He.fAd K ("_law_bag", none)
    fd__law_bag := fd_Lbag
    F__law_bag := He5.fun_of (st := s_Lbag) F_Lbag
    m__law_bag := He.glo_ok X G (cd.fact 5 (f := .glo "_law_bag") rfl)
    f__law_pull := He.fAd K ("_law_pull", none)
    fd__law_pull := fd_Lpull
    F__law_pull := He5.fun_of (st := s_Lpull) F_Lpull
    m__law_pull := He.glo_ok X G (cd.fact 6 (f := .glo "_law_pull") rfl)
    f__law_of := He.fAd K ("_law_of", none)
    fd__law_of := fd_Lof
    F__law_of := He5.fun_of (st := s_Lof) F_Lof
    m__law_of := He.glo_ok X G (cd.fact 7 (f := .glo "_law_of") rfl)
    f__law_like := He.fAd K ("_law_like", none)
    fd__law_like := fd_Llike
    F__law_like := He5.fun_of (st := s_Llike) F_Llike
    m__law_like := He.glo_ok X G (cd.fact 8 (f := .glo "_law_like") rfl)
    f__law_field := He.fAd K ("_law_field", none)
    fd__law_field := fd_Lfield
    F__law_field := He5.fun_of (st := s_Lfield) F_Lfield
    m__law_field := He.glo_ok X G (cd.fact 9 (f := .glo "_law_field") rfl)
    f__law_try := He.fAd K ("_law_try", none)
    fd__law_try := fd_Ltry
    F__law_try := He5.fun_of (st := s_Ltry) F_Ltry
    m__law_try := He.glo_ok X G (cd.fact 10 (f := .glo "_law_try") rfl)
    f__law_plain := He.fAd K ("_law_plain", none)
    fd__law_plain := fd_Lplain
    F__law_plain := He5.fun_of (st := s_Lplain) F_Lplain
    m__law_plain := He.glo_ok X G (cd.fact 11 (f := .glo "_law_plain") rfl)
    f__law_number := He.fAd K ("_law_number", none)
    fd__law_number := fd_Lnumber
    F__law_number := He5.fun_of (st := s_Lnumber) F_Lnumber
    m__law_number := He.glo_ok X G (cd.fact 12 (f := .glo "_law_number") rfl)
    f__law_so := He.fAd K ("_law_so", none)
    fd__law_so := fd_Lso
    F__law_so := He5.fun_of (st := s_Lso) F_Lso
    m__law_so := He.glo_ok X G (cd.fact 13 (f := .glo "_law_so") rfl)
    f__law_zero := He.fAd K ("_law_zero", none)
    fd__law_zero := fd_Lzero
    F__law_zero := He5.fun_of (st := s_Lzero) F_Lzero
    m__law_zero := He.glo_ok X G (cd.fact 14 (f := .glo "_law_zero") rfl)
    f_law := He.fAd K ("law", none)
    fd_law := fd_law
    F_law := He5.fun_of (st := s_law) F_law
    m_law := He.glo_ok X G (cd.fact 15 (f := .glo "law") rfl)
    b_isinstance := He.free_ok X G (cd.fact 21 (f := .free "isinstance") rfl)
    b_len := He.free_ok X G (cd.fact 22 (f := .free "len") rfl)
    b_all := He.free_ok X G (cd.fact 23 (f := .free "all") rfl)
    b_abs := He.free_ok X G (cd.fact 24 (f := .free "abs") rfl)
    b_int := He.free_ok X G (cd.fact 25 (f := .free "int") rfl)
    b_str := He.free_ok X G (cd.fact 26 (f := .free "str") rfl)
    b_list := He.free_ok X G (cd.fact 27 (f := .free "list") rfl)
    b_tuple := He.free_ok X G (cd.fact 28 (f := .free "tuple") rfl)
    b_bool := He.free_ok X G (cd.fact 29 (f := .free "bool") rfl)
    b_range := He.free_ok X G (cd.fact 30 (f := .free "range") rfl)
    b_zip := He.free_ok X G (cd.fact 31 (f := .free "zip") rfl)
    b_repr := He.free_ok X G (cd.fact 32 (f := .free "repr") rfl)
    b_ZeroDivisionError := He.free_ok X G (cd.fact 33 (f := .free "ZeroDivisionError") rfl)
    c_DayError := He.ga K "DayError"
    m_DayError := He.glo_ok X G (cd.fact 16 (f := .glo "DayError") rfl)
    c_Missing := He.ga K "Missing"
    m_Missing := He.glo_ok X G (cd.fact 17 (f := .glo "Missing") rfl)
    c_Ratio := He.ga K "Ratio"
    m_Ratio := He.glo_ok X G (cd.fact 18 (f := .glo "Ratio") rfl)
    c_InvalidText := He.ga K "InvalidText"
    m_InvalidText := He.glo_ok X G (cd.fact 19 (f := .glo "InvalidText") rfl)
    c_NothingLeft := He.ga K "NothingLeft"
    m_NothingLeft := He.glo_ok X G (cd.fact 20 (f := .glo "NothingLeft") rfl)
    f_Ratioinit := He.fAd K ("Ratio", some "__init__")
    fd_Ratioinit := fd_Ratioinit
    FD_Ratioinit := F_Ratioinit
    f_Ratioceiling := He.fAd K ("Ratio", some "ceiling")
    fd_Ratioceiling := fd_Ratioceiling
    F_Ratioceiling := He5.fun_of (st := s_Ratioceiling) F_Ratioceiling
    f_Ratiofloor := He.fAd K ("Ratio", some "floor")
    fd_Ratiofloor := fd_Ratiofloor
    F_Ratiofloor := He5.fun_of (st := s_Ratiofloor) F_Ratiofloor
    f_Ratiocompare := He.fAd K ("Ratio", some "compare")
    fd_Ratiocompare := fd_Ratiocompare
    F_Ratiocompare := He5.fun_of (st := s_Ratiocompare) F_Ratiocompare
    f_Ratioover := He.fAd K ("Ratio", some "over")
    fd_Ratioover := fd_Ratioover
    F_Ratioover := He5.fun_of (st := s_Ratioover) F_Ratioover
    f_Rationeg := He.fAd K ("Ratio", some "__neg__")
    fd_Rationeg := fd_Rationeg
    F_Rationeg := He5.fun_of (st := s_Rationeg) F_Rationeg
    f_Ratioabs := He.fAd K ("Ratio", some "__abs__")
    fd_Ratioabs := fd_Ratioabs
    F_Ratioabs := He5.fun_of (st := s_Ratioabs) F_Ratioabs
    f_Ratiobool := He.fAd K ("Ratio", some "__bool__")
    fd_Ratiobool := fd_Ratiobool
    F_Ratiobool := He5.fun_of (st := s_Ratiobool) F_Ratiobool
    f_Ratioeq := He.fAd K ("Ratio", some "__eq__")
    fd_Ratioeq := fd_Ratioeq
    F_Ratioeq := He5.fun_of (st := s_Ratioeq) F_Ratioeq
    f_Ratiostr := He.fAd K ("Ratio", some "__str__")
    fd_Ratiostr := fd_Ratiostr
    F_Ratiostr := He5.fun_of (st := s_Ratiostr) F_Ratiostr
    f_Ratiorepr := He.fAd K ("Ratio", some "__repr__")
    fd_Ratiorepr := fd_Ratiorepr
    F_Ratiorepr := He5.fun_of (st := s_Ratiorepr) F_Ratiorepr
    f_Ratioadd := He.fAd K ("Ratio", some "__add__")
    fd_Ratioadd := fd_Ratioadd
    F_Ratioadd := He5.fun_of (st := s_Ratioadd) F_Ratioadd
    f_Ratioradd := He.fAd K ("Ratio", some "__radd__")
    fd_Ratioradd := fd_Ratioradd
    F_Ratioradd := He5.fun_of (st := s_Ratioradd) F_Ratioradd
    f_Ratiosub := He.fAd K ("Ratio", some "__sub__")
    fd_Ratiosub := fd_Ratiosub
    F_Ratiosub := He5.fun_of (st := s_Ratiosub) F_Ratiosub
    f_Ratiorsub := He.fAd K ("Ratio", some "__rsub__")
    fd_Ratiorsub := fd_Ratiorsub
    F_Ratiorsub := He5.fun_of (st := s_Ratiorsub) F_Ratiorsub
    f_Ratiomul := He.fAd K ("Ratio", some "__mul__")
    fd_Ratiomul := fd_Ratiomul
    F_Ratiomul := He5.fun_of (st := s_Ratiomul) F_Ratiomul
    f_Ratiormul := He.fAd K ("Ratio", some "__rmul__")
    fd_Ratiormul := fd_Ratiormul
    F_Ratiormul := He5.fun_of (st := s_Ratiormul) F_Ratiormul
    f_Ratiofloordiv := He.fAd K ("Ratio", some "__floordiv__")
    fd_Ratiofloordiv := fd_Ratiofloordiv
    F_Ratiofloordiv := He5.fun_of (st := s_Ratiofloordiv) F_Ratiofloordiv
    f_Ratioread := CmD.ad K ⟨"Ratio", "read", d_Ratioread⟩
    fd_Ratioread := fd_Ratioread
    F_Ratioread := He5.fun_of (st := s_Ratioread) F_Ratioread
    p_Ratioread := CmD.p K ⟨"Ratio", "read", d_Ratioread⟩
    cm_Ratioread := P_Ratioread
    cr_Ratio := cj_at ej 0 (c := .cread "Ratio") rfl
    s1_Ratio := cj_at ej 1 (c := .self1 "Ratio") rfl
    sf_int_Ratio := cj_at ej 2 (c := .subF (.ty "int") (.own "Ratio")) rfl
    sf_Ratio_int := cj_at ej 3 (c := .subF (.own "Ratio") (.ty "int")) rfl
    tf_int_add := cj_at ej 4 (c := .tfind "int" "__add__" "int.__add__") rfl
    tf_int_radd := cj_at ej 5 (c := .tfind "int" "__radd__" "int.__radd__") rfl
    tf_int_sub := cj_at ej 6 (c := .tfind "int" "__sub__" "int.__sub__") rfl
    tf_int_rsub := cj_at ej 7 (c := .tfind "int" "__rsub__" "int.__rsub__") rfl
    tf_int_mul := cj_at ej 8 (c := .tfind "int" "__mul__" "int.__mul__") rfl
    tf_int_rmul := cj_at ej 9 (c := .tfind "int" "__rmul__" "int.__rmul__") rfl
    tf_int_floordiv := cj_at ej 10 (c := .tfind "int" "__floordiv__" "int.__floordiv__") rfl
    tf_int_rfloordiv := cj_at ej 11 (c := .tfind "int" "__rfloordiv__" "int.__rfloordiv__") rfl
    x_InvalidText := E_InvalidText.x
    fi_InvalidText := He.fAd K ("InvalidText", some "__init__")
    fdi_InvalidText := fd_InvalidTextinit
    Fi_InvalidText := He5.fun_of (st := s_InvalidTextinit) F_InvalidTextinit
    i_InvalidText := E_InvalidText.i
    t_InvalidText := E_InvalidText.t
    no_InvalidText := E_InvalidText.no
    x_NothingLeft := E_NothingLeft.x
    fi_NothingLeft := He.fAd K ("NothingLeft", some "__init__")
    fdi_NothingLeft := fd_NothingLeftinit
    Fi_NothingLeft := He5.fun_of (st := s_NothingLeftinit) F_NothingLeftinit
    i_NothingLeft := E_NothingLeft.i
    t_NothingLeft := E_NothingLeft.t
    no_NothingLeft := E_NothingLeft.no
    v_DIGITS := v_DIGITS
    u_DIGITS := u_DIGITS
    c_DIGITS := PySem.W.mg_of X G n_DIGITS
    r_DIGITS := r_DIGITS
    g_DIGITS := g_DIGITS
    oc_Ratio := ck_at er 1 (c := .cls "Ratio") rfl
    mk_Ratio := ck_at er 2 (c := .mk "Ratio" "Ratio") rfl
    fi_Ratio___ne__ := ck_at er 3 (c := .find "Ratio" "__ne__" "object.__ne__") rfl
    no_Ratio_top := ck_at er 4 (c := .no "Ratio" "top") rfl
    no_Ratio_bottom := ck_at er 5 (c := .no "Ratio" "bottom") rfl
    no_Ratio___rfloordiv__ := ck_at er 6 (c := .no "Ratio" "__rfloordiv__") rfl
    sp_Ratio___add__ := ck_at er 7 (c := .spec "Ratio" "__add__" "Ratio") rfl
    sp_Ratio___radd__ := ck_at er 8 (c := .spec "Ratio" "__radd__" "Ratio") rfl
    sp_Ratio___sub__ := ck_at er 9 (c := .spec "Ratio" "__sub__" "Ratio") rfl
    sp_Ratio___rsub__ := ck_at er 10 (c := .spec "Ratio" "__rsub__" "Ratio") rfl
    sp_Ratio___mul__ := ck_at er 11 (c := .spec "Ratio" "__mul__" "Ratio") rfl
    sp_Ratio___rmul__ := ck_at er 12 (c := .spec "Ratio" "__rmul__" "Ratio") rfl
    sp_Ratio___floordiv__ := ck_at er 13 (c := .spec "Ratio" "__floordiv__" "Ratio") rfl
    sp_Ratio___neg__ := ck_at er 14 (c := .spec "Ratio" "__neg__" "Ratio") rfl
    sp_Ratio___abs__ := ck_at er 15 (c := .spec "Ratio" "__abs__" "Ratio") rfl
    sp_Ratio___bool__ := ck_at er 16 (c := .spec "Ratio" "__bool__" "Ratio") rfl
    sp_Ratio___eq__ := ck_at er 17 (c := .spec "Ratio" "__eq__" "Ratio") rfl
    sp_Ratio___str__ := ck_at er 18 (c := .spec "Ratio" "__str__" "Ratio") rfl
    sp_Ratio___repr__ := ck_at er 19 (c := .spec "Ratio" "__repr__" "Ratio") rfl
    me_Ratio_ceiling := ck_at er 20 (c := .meth "Ratio" "ceiling" "Ratio") rfl
    me_Ratio_floor := ck_at er 21 (c := .meth "Ratio" "floor" "Ratio") rfl
    me_Ratio_compare := ck_at er 22 (c := .meth "Ratio" "compare" "Ratio") rfl
    me_Ratio_over := ck_at er 23 (c := .meth "Ratio" "over" "Ratio") rfl
    ki_Ratio_Ratio := ck_at er 24 (c := .kit (.own "Ratio") (.own "Ratio") true) rfl
    nf_Ratio_Ratio := ck_at er 25 (c := .nf "Ratio" (.own "Ratio")) rfl
    nf_Ratio_str := ck_at er 26 (c := .nf "Ratio" (.ty "str")) rfl
    ki_str_Ratio := ck_at er 27 (c := .kit (.ty "str") (.own "Ratio") false) rfl
    nf_Ratio_int := ck_at er 28 (c := .nf "Ratio" (.ty "int")) rfl
    ki_int_Ratio := ck_at er 29 (c := .kit (.ty "int") (.own "Ratio") false) rfl
    ex_InvalidText_DayError := ck_at er 30 (c := .exm "InvalidText" (.own "DayError") true) rfl
    ex_InvalidText_Missing := ck_at er 31 (c := .exm "InvalidText" (.own "Missing") false) rfl
    ex_InvalidText_NothingLeft := ck_at er 32 (c := .exm "InvalidText" (.own "NothingLeft") false) rfl
    cd_law := (He.cT K ("law", none)).1
    tb_law := (He.cT K ("law", none)).2
    hc_law := code_of (p := ("law", none)) F_law
  }
  have b := FunD.bindsA (ps := ["_law_script"]) F_law fun _ _ _ _ _ _ us hl => match us, hl with | [_], _ => rfl
  exact ⟨fd_law, T, ⟨rfl, fun s v => b s [v] rfl⟩, fun base _ _ TB => ok_law T (TB (T.cd_law, T.tb_law) (List.mem_map.mpr ⟨("law", none), by simp [tf], rfl⟩))⟩
end L43
open PySem PySem.W PySem.Calls PyProof.Rows
theorem PySem.Challenge.cw_ringlessday_k43_ratios_reckoned_holds : PySem.Challenge.rw_ringlessday_k43_ratios_reckoned.Holds := by
  w_on; o_law
  refine HandSHeadRun.head_any (r := OpenLaw.row PySem.Challenge.rw_ringlessday_k43_ratios_reckoned) (q := view (OpenLaw.row PySem.Challenge.rw_ringlessday_k43_ratios_reckoned).prog [24]) (H := L43.hk) (ob := L43.ob) (M := 20000) (loose := L43.loose) (d := HandSHeadRun.topDef (OpenLaw.row PySem.Challenge.rw_ringlessday_k43_ratios_reckoned).prog 24) (kwd := []) L43.ob_eq
    (by kernel_rfl) (fun s => by kernel_rfl) L43.run (by kernel_rfl) (by kernel_rfl) (by kernel_rfl) (by rfl) (by first | assumption | decide +kernel) (by decide +kernel) ⟨rfl, rfl, rfl, rfl, rfl, by decide +kernel⟩ ?hw ?hc
  case hw => w_witness2
  case hc =>
    refine LamX.walk_ofTsE (l := PySem.Challenge.rw_ringlessday_k43_ratios_reckoned) (n := 63) (k := 12) (x := "_law_script") (CX := fun _ => L2.CX0) rfl (by decide) (by kernel_rfl) ⟨rfl, by decide, by decide⟩ ?F (fun _ _ _ _ _ z => z)
    intro w mg fa h Y G hmg0
    obtain ⟨K, KX, c⟩ := Y
    have hmg : mg ("law" : PySem.Str) = some (.ref fa) := by
      have e : (HandSHeadRun.topDef (OpenLaw.row PySem.Challenge.rw_ringlessday_k43_ratios_reckoned).prog 24).name = ("law" : PySem.Str) := by kernel_rfl
      rw [← e]
      exact hmg0
    obtain ⟨fd, T, ⟨et0, hb⟩, hF⟩ := L43.facts (P := (PySem.Challenge.rw_ringlessday_k43_ratios_reckoned).prog) (w := w) KX G hmg c
    refine ⟨K, KX, fd, L43.tf.map (He.cT K), L43.spLaw T, fun p hp => ?_, fun p hp => ?_, fun p hp => ?_, hb, fun H a ns hl _ hT hS => ⟨a, ns, rfl, hS, hl, (by have z := hT (He.cT K ("law", none)) (List.mem_map.mpr ⟨("law", none), by simp [L43.tf], rfl⟩); rw [← et0] at z; exact z), fun _ => rfl⟩, hF⟩
    · obtain ⟨d, hd, rfl⟩ := List.mem_map.mp hp
      exact c.z.x.empty d hd
    · obtain ⟨d, hd, rfl⟩ := List.mem_map.mp hp
      exact c.z.x.out d hd
    · obtain ⟨d, hd, rfl⟩ := List.mem_map.mp hp
      exact PySem.W.codeHd_of_K KX (c.z.x.hd d hd)
