import PyProof.Rows.All
import Wide.All
import OpenK.AllK
import Wide.FinOn
import HandS.Head0
import HandS.Head1
import HandS.Head2
import HandS.HeadEnd
import HandS.HeadHook1
import HandS.HeadHook2
import HandS.HeadHook3
import HandS.HeadHook4
import HandS.HeadNt
import KE.KExcInit
import OpenK.KCls
import HandS.ForMost
import HandS.IsInst
import HandS.Zip
import HandS.Defaults
import HandS.Style
import HandS.ForExc
import HandS.ExcInit
import HandS.ExcOwn
import HandS.Lambda
import KE.KDflt
import HandS.Walk
import HandS.TupAny
import HandS.ExcIs
import HandS.ExcField
import KE.KExcIs
import HandS.TryMany
import HandS.HotCalls
import KE.KTryMore
import HandS.ExcInitHot
import HandS.ClsMeth
import HandS.Property
import HandS.MakeKw
import HandS.MakeKwOnly
import HandS.FStr
import HandS.More
import KE.KOpsOwn
import PyProof.InstEq
import HandS.Comp
import KE.SortData
import HandS.SetBool
import HandS.SetTxt0
import HandS.SetKeys
import HandS.Strs
import HandS.HeadWalk
import PySem.Challenge.RW_ringlessday_k02_sections_told
set_option Elab.async false
set_option linter.all false
set_option maxRecDepth 100000
set_option maxHeartbeats 4000000
namespace Rg
open PySem L2
/-! ### an own class of errors, by one look -/
inductive XB where
  | value | lookup | index
def XB.mro : XB → List Value
  | .value => [.type "ValueError", .type "Exception", .type "BaseException", .type "object"]
  | .lookup => [.type "LookupError", .type "Exception", .type "BaseException", .type "object"]
  | .index => [.type "IndexError", .type "LookupError", .type "Exception", .type "BaseException", .type "object"]
def XB.new : XB → String
  | .value => "ValueError.__new__"
  | .lookup => "LookupError.__new__"
  | .index => "IndexError.__new__"
def xgB (K : PySem.W.Frag) (C : Addr) (b : XB) : Bool := PySem.W.excInitIn K C b.mro b.new && (PySem.W.excOver K C b.mro && (PySem.W.hasDictIn K C && (He.eqO (PySem.W.findIn K (.ref C) "__setattr__") (some (some (.builtin "object.__setattr__"))) && (decide (PySem.W.subIn K (.ref C) (.type "BaseException") = some true) &&
  (decide (PySem.W.typeIn K (.ref C) = some (.type "type")) && (PySem.W.keepIn K (.ref C) && (He.eqO (PySem.W.findIn K (.ref C) "__getattribute__") (some (some (.builtin "BaseException.__getattribute__"))) && (He.eqO (PySem.W.findIn K (.ref C) "__getattr__") (some none) &&
  (He.eqO (PySem.W.findIn K (.ref C) "__class__") (some (some (.builtin "object.__class__"))) && (He.eqO (PySem.W.specialIn K (.builtin "object.__class__") "__get__") (some (some (.builtin "getset_descriptor.__get__"))) && (decide (PySem.W.takesIn K (.builtin "object.__class__") = some true) && decide (PySem.W.mroIn K C (.type "object") = some true))))))))))))
/-- the errors of a program: their base, their fields -/
def erB (K : PySem.W.Frag) : List (Str × XB × List Str) → Bool
  | [] => true
  | (e, b, fs) :: r => xgB K (He.ga K e) b && (He.eqO (PySem.W.findIn K (.ref (He.ga K e)) "__init__") (some (some (.ref (He.ma K (He.ga K e) "__init__")))) && (decide (PySem.W.typeIn K (.ref (He.ma K (He.ga K e) "__init__")) = some (.type "function")) && ((fs.all fun f => He.eqO (PySem.W.findIn K (.ref (He.ga K e)) f) (some none)) && erB K r)))
end Rg
namespace Rg
open PySem L2
/-! ### looks at own classes, in one list -/
/-- a written value -/
inductive Lit where
  | non | bl (b : Bool) | int (i : Int) | str (x : Str) | tup (ds : List Lit)
mutual
def litB (K : PySem.W.Frag) : Lit → Value → Bool
  | .non, v => (match v with | .none => true | _ => false)
  | .bl b, v => (match v with | .bool c => decide (c = b) | _ => false)
  | .int i, v => (match v with | .int j _ => decide (j = i) | _ => false)
  | .str x, v => (match v with | .str y _ => decide (y = x) | _ => false)
  | .tup ds, v => (match v with
    | .ref a => (match K.lookup a with
      | some ⟨.type c, _, .seq its _, _⟩ => decide (c = "tuple") && (decide (its.size ≤ 1000) && litsB K ds its.toList)
      | _ => false)
    | _ => false)
def litsB (K : PySem.W.Frag) : List Lit → List Value → Bool
  | [], vs => vs.isEmpty
  | d :: ds, vs => (match vs with
    | v :: r => litB K d v && litsB K ds r
    | [] => false)
end
/-- a class: an own one, a built-in type -/
inductive Cn where
  | own (x : Str) | ty (n : String)
def Cn.val (K : PySem.W.Frag) : Cn → Value
  | .own x => .ref (He.ga K x)
  | .ty n => .type n
inductive Ck where
  | cls (C : Str)
  | mk (C D : Str)
  | meth (C m D : Str)
  | spec (C m D : Str)
  | no (C f : Str)
  | find (C m : Str) (id : String)
  | con (C f : Str) (d : Lit)
  | cval (C f : Str) (d : Lit)
  | kit (t c : Cn) (b : Bool)
  | nf (C : Str) (t : Cn)
  | sub (C' C : Str)
  | exm (t : Str) (c : Cn) (b : Bool)
  | gl (x : Str) (d : Lit)
def optB (o : Option (Option Value)) (p : Value → Bool) : Bool := match o with
  | some (some v) => p v
  | _ => false
def Ck.ok (K : PySem.W.Frag) : Ck → Bool
  | .cls C => (He.Fa.cls C).ok K && (He.eqO (PySem.W.findIn K (.ref (He.ga K C)) "__class__") (some (some (.builtin "object.__class__"))) && (He.eqO (PySem.W.specialIn K (.builtin "object.__class__") "__get__") (some (some (.builtin "getset_descriptor.__get__"))) && (decide (PySem.W.takesIn K (.builtin "object.__class__") = some true) && decide (PySem.W.mroIn K (He.ga K C) (.type "object") = some true))))
  | .mk C D => PySem.W.makesIn K (He.ga K C) && (He.eqO (PySem.W.findIn K (.ref (He.ga K C)) "__init__") (some (some (.ref (He.ma K (He.ga K D) "__init__")))) && (PySem.W.isFn K (.ref (He.ma K (He.ga K D) "__init__")) && PySem.W.keepIn K (.ref (He.ga K C))))
  | .meth C m D => He.eqO (PySem.W.findIn K (.ref (He.ga K C)) m) (some (some (.ref (He.ma K (He.ga K D) m)))) && (PySem.W.isFn K (.ref (He.ma K (He.ga K D) m)) && PySem.W.keepIn K (.ref (He.ma K (He.ga K D) m)))
  | .spec C m D => He.eqO (PySem.W.findIn K (.ref (He.ga K C)) m) (some (some (.ref (He.ma K (He.ga K D) m)))) && PySem.W.isFn K (.ref (He.ma K (He.ga K D) m))
  | .no C f => He.eqO (PySem.W.findIn K (.ref (He.ga K C)) f) (some none)
  | .find C m id => He.eqO (PySem.W.findIn K (.ref (He.ga K C)) m) (some (some (.builtin id)))
  | .con C f d => optB (PySem.W.findIn K (.ref (He.ga K C)) f) (fun u => litB K d u && He.eqO (PySem.W.specialIn K u "__get__") (some none)) && !PySem.W.copiedNames.contains f
  | .cval C f d => (match PySem.W.findCls K (.ref (He.ga K C)) (.type "type") f with
    | some (.val u) => litB K d u
    | _ => false) && (PySem.W.readsIn K (He.ga K C) (.type "type") && He.eqO (PySem.W.specialIn K (.ref (He.ga K C)) "__getattribute__") (some (some (.builtin "type.__getattribute__"))))
  | .kit t c b => decide (PySem.W.kitOne K (t.val K) (c.val K) = some b)
  | .nf C t => PySem.W.notFirst K (He.ga K C) (t.val K)
  | .sub C' C => decide (PySem.W.subIn K (.ref (He.ga K C')) (.ref (He.ga K C)) = some true) && !decide (He.ga K C = He.ga K C')
  | .exm t c b => decide (PySem.W.exmOne K (.ref (He.ga K t)) (c.val K) = some b)
  | .gl x d => optB (PySem.W.nsIn K mainGlobals x) (litB K d)
def cksB (K : PySem.W.Frag) (l : List Ck) : Bool := l.all fun c => c.ok K
/-! ### the Hook: with the interpreter's own statics -/
def asY (g : Addr → Option Obj) (n : Nat) : List Addr := He.asD g n ++ [cStatics]
def obsY (n : Nat) (fa : List He.Fa) (fn : List He.DefD) (tf : List He.Defn) (ex : PySem.W.Frag → Bool) (g : Addr → Option Obj) : He.AlX := (He.obsT fa fn [] (He.frT g (asY g n)), ex (He.frT g (asY g n)) && He.tabsB g tf (He.frT g (asY g n)))
theorem saysY_of {n : Nat} {fa : List He.Fa} {fn : List He.DefD} {tf : List He.Defn} {ex : PySem.W.Frag → Bool} {w : World} {h : Heap} (e : obsY n fa fn tf ex h.get? = He.valX fn [] w) : He.SaysX fa fn [] tf ex w h (He.frT h.get? (asY h.get? n)) := by
  have a1 : He.obsT fa fn [] (He.frT h.get? (asY h.get? n)) = He.valT fn [] w := congrArg (fun z : He.AlX => z.1) e
  obtain ⟨a2, a3⟩ := He.ba (show (ex (He.frT h.get? (asY h.get? n)) && He.tabsB h.get? tf (He.frT h.get? (asY h.get? n))) = true from congrArg (fun z : He.AlX => z.2) e)
  have one : ∀ p ∈ tf, PySem.W.codeHdIn (He.frT h.get? (asY h.get? n)) (He.cT (He.frT h.get? (asY h.get? n)) p).1 (He.cT (He.frT h.get? (asY h.get? n)) p).2 = true ∧ ∃ u, h.get? (He.cT (He.frT h.get? (asY h.get? n)) p).2 = some u ∧ He.emptyTab u = true := fun p hp => by
    obtain ⟨b1, b2⟩ := He.ba (List.all_eq_true.mp a3 p hp)
    cases q : h.get? (He.cT (He.frT h.get? (asY h.get? n)) p).2 with
    | none => rw [q] at b2; cases b2
    | some u => rw [q] at b2; exact ⟨b1, u, rfl, b2⟩
  refine ⟨a1, a2, fun p hp => (one p hp).1, fun p hp => ?_, fun p hp => ?_⟩
  · obtain ⟨_, u, q, z⟩ := one p hp
    exact He.frT_none q z
  · obtain ⟨_, u, q, z⟩ := one p hp
    rw [q, He.emptyTab_eq z]
def hookY (n : Nat) (fa : List He.Fa) (fn : List He.DefD) (tf : List He.Defn) (ex : PySem.W.Frag → Bool) : PySem.W.Hook where
  α := He.AlX
  obs := fun s => obsY n fa fn tf ex s.heap.get?
  val := fun w => He.valX fn [] w
  says := fun w h => ∃ K : PySem.W.Frag, K.In h ∧ He.SaysX fa fn [] tf ex w h K
  of := fun _ _ e => ⟨_, He.frT_in, saysY_of e⟩
  keeps := fun _ _ _ ⟨K, hK, c⟩ k => ⟨K, PySem.W.Frag.In.keeps hK k, ⟨c.t, c.more, c.hd, c.out, fun p hp => k _ _ (c.empty p hp)⟩⟩
theorem obsY_eq {n : Nat} {fa : List He.Fa} {fn : List He.DefD} {tf : List He.Defn} {ex : PySem.W.Frag → Bool} {g : Addr → Option Obj} {s : Shared} (h : ∀ a, g a = s.heap.get? a) : obsY n fa fn tf ex g = (hookY n fa fn tf ex).obs s := by
  have e : g = s.heap.get? := funext h
  rw [e] <;> rfl
end Rg
namespace K2
open PySem L2 Rg PyProof.Rows
def topS (i : Nat) : Stmt := PySem.Challenge.pw_ringlessday_k02_sections_told.main.body.getD i (.Pass ⟨0, 0, 0, 0⟩)
def inClass (s : Stmt) (i : Nat) : Stmt := match s with
  | .ClassDef _ _ _ b _ _ _ _ _ _ _ => b.getD i (.Pass ⟨0, 0, 0, 0⟩)
  | _ => .Pass ⟨0, 0, 0, 0⟩
abbrev s_isname : Stmt := topS 9
abbrev s_isnumber : Stmt := topS 10
abbrev s_Lbag : Stmt := topS 17
abbrev s_Ldraw : Stmt := topS 18
abbrev s_Lof : Stmt := topS 19
abbrev s_Lsame : Stmt := topS 20
abbrev s_Lfields : Stmt := topS 21
abbrev s_Ltry : Stmt := topS 22
abbrev s_Ltries : Stmt := topS 23
abbrev s_Lwords : Stmt := topS 24
abbrev s_Lodd : Stmt := topS 25
abbrev s_Lsides : Stmt := topS 26
abbrev s_Lways : Stmt := topS 27
abbrev s_Lsection : Stmt := topS 28
abbrev s_Lrefusedso : Stmt := topS 29
abbrev s_Lbaseso : Stmt := topS 30
abbrev s_law : Stmt := topS 31
abbrev s_Sectioninit : Stmt := inClass (topS 12) 3
abbrev s_Sectionsides : Stmt := inClass (topS 12) 4
abbrev s_Sectionends : Stmt := inClass (topS 12) 5
abbrev s_Sectionways : Stmt := inClass (topS 12) 6
abbrev s_Sectiontext : Stmt := inClass (topS 12) 7
abbrev s_Sectioneq : Stmt := inClass (topS 12) 8
abbrev s_Sectionrepr : Stmt := inClass (topS 12) 9
abbrev s_InvalidNameinit : Stmt := inClass (topS 2) 0
abbrev s_InvalidNumberinit : Stmt := inClass (topS 3) 0
abbrev s_NothingLeftinit : Stmt := inClass (topS 5) 0
def d_isname : He.DefD := ⟨("is_name", none), "is_name", "is_name", defArgs s_isname, defBody s_isname, defScope s_isname, [], []⟩
def d_isnumber : He.DefD := ⟨("is_number", none), "is_number", "is_number", defArgs s_isnumber, defBody s_isnumber, defScope s_isnumber, [], []⟩
def d_Lbag : He.DefD := ⟨("_law_bag", none), "_law_bag", "_law_bag", defArgs s_Lbag, defBody s_Lbag, defScope s_Lbag, [], []⟩
def d_Ldraw : He.DefD := ⟨("_law_draw", none), "_law_draw", "_law_draw", defArgs s_Ldraw, defBody s_Ldraw, defScope s_Ldraw, [], []⟩
def d_Lof : He.DefD := ⟨("_law_of", none), "_law_of", "_law_of", defArgs s_Lof, defBody s_Lof, defScope s_Lof, [], []⟩
def d_Lsame : He.DefD := ⟨("_law_same", none), "_law_same", "_law_same", defArgs s_Lsame, defBody s_Lsame, defScope s_Lsame, [], []⟩
def d_Lfields : He.DefD := ⟨("_law_fields", none), "_law_fields", "_law_fields", defArgs s_Lfields, defBody s_Lfields, defScope s_Lfields, [], []⟩
def d_Ltry : He.DefD := ⟨("_law_try", none), "_law_try", "_law_try", defArgs s_Ltry, defBody s_Ltry, defScope s_Ltry, [], []⟩
def d_Ltries : He.DefD := ⟨("_law_tries", none), "_law_tries", "_law_tries", defArgs s_Ltries, defBody s_Ltries, defScope s_Ltries, [], []⟩
def d_Lwords : He.DefD := ⟨("_law_words", none), "_law_words", "_law_words", defArgs s_Lwords, defBody s_Lwords, defScope s_Lwords, [], []⟩
def d_Lodd : He.DefD := ⟨("_law_odd", none), "_law_odd", "_law_odd", defArgs s_Lodd, defBody s_Lodd, defScope s_Lodd, [], []⟩
def d_Lsides : He.DefD := ⟨("_law_sides", none), "_law_sides", "_law_sides", defArgs s_Lsides, defBody s_Lsides, defScope s_Lsides, [], []⟩
def d_Lways : He.DefD := ⟨("_law_ways", none), "_law_ways", "_law_ways", defArgs s_Lways, defBody s_Lways, defScope s_Lways, [], []⟩
def d_Lsection : He.DefD := ⟨("_law_section", none), "_law_section", "_law_section", defArgs s_Lsection, defBody s_Lsection, defScope s_Lsection, [], []⟩
def d_Lrefusedso : He.DefD := ⟨("_law_refused_so", none), "_law_refused_so", "_law_refused_so", defArgs s_Lrefusedso, defBody s_Lrefusedso, defScope s_Lrefusedso, [], []⟩
def d_Lbaseso : He.DefD := ⟨("_law_base_so", none), "_law_base_so", "_law_base_so", defArgs s_Lbaseso, defBody s_Lbaseso, defScope s_Lbaseso, [], []⟩
def d_law : He.DefD := ⟨("law", none), "law", "law", defArgs s_law, defBody s_law, defScope s_law, [], []⟩
def d_Sectioninit : He.DefD := ⟨("Section", some "__init__"), "__init__", "Section.__init__", defArgs s_Sectioninit, defBody s_Sectioninit, defScope s_Sectioninit, [], []⟩
def d_Sectionsides : He.DefD := ⟨("Section", some "sides"), "sides", "Section.sides", defArgs s_Sectionsides, defBody s_Sectionsides, defScope s_Sectionsides, [], []⟩
def d_Sectionends : He.DefD := ⟨("Section", some "ends"), "ends", "Section.ends", defArgs s_Sectionends, defBody s_Sectionends, defScope s_Sectionends, [], []⟩
def d_Sectionways : He.DefD := ⟨("Section", some "ways"), "ways", "Section.ways", defArgs s_Sectionways, defBody s_Sectionways, defScope s_Sectionways, [], []⟩
def d_Sectiontext : He.DefD := ⟨("Section", some "text"), "text", "Section.text", defArgs s_Sectiontext, defBody s_Sectiontext, defScope s_Sectiontext, [], []⟩
def d_Sectioneq : He.DefD := ⟨("Section", some "__eq__"), "__eq__", "Section.__eq__", defArgs s_Sectioneq, defBody s_Sectioneq, defScope s_Sectioneq, [], []⟩
def d_Sectionrepr : He.DefD := ⟨("Section", some "__repr__"), "__repr__", "Section.__repr__", defArgs s_Sectionrepr, defBody s_Sectionrepr, defScope s_Sectionrepr, [], []⟩
def d_InvalidNameinit : He.DefD := ⟨("InvalidName", some "__init__"), "__init__", "InvalidName.__init__", defArgs s_InvalidNameinit, defBody s_InvalidNameinit, defScope s_InvalidNameinit, [], []⟩
def d_InvalidNumberinit : He.DefD := ⟨("InvalidNumber", some "__init__"), "__init__", "InvalidNumber.__init__", defArgs s_InvalidNumberinit, defBody s_InvalidNumberinit, defScope s_InvalidNumberinit, [], []⟩
def d_NothingLeftinit : He.DefD := ⟨("NothingLeft", some "__init__"), "__init__", "NothingLeft.__init__", defArgs s_NothingLeftinit, defBody s_NothingLeftinit, defScope s_NothingLeftinit, [], []⟩
def fn : List He.DefD := ([d_isname, d_isnumber, d_Lbag, d_Ldraw, d_Lof, d_Lsame, d_Lfields, d_Ltry, d_Ltries, d_Lwords, d_Lodd, d_Lsides, d_Lways, d_Lsection, d_Lrefusedso, d_Lbaseso, d_law, d_Sectioninit, d_Sectionsides, d_Sectionends, d_Sectionways, d_Sectiontext, d_Sectioneq, d_Sectionrepr, d_InvalidNameinit, d_InvalidNumberinit, d_NothingLeftinit] : List He.DefD)
def fa : List He.Fa := ([.glo "is_name", .glo "is_number", .glo "_law_bag", .glo "_law_draw", .glo "_law_of", .glo "_law_same", .glo "_law_fields", .glo "_law_try", .glo "_law_tries", .glo "_law_words", .glo "_law_odd", .glo "_law_sides", .glo "_law_ways", .glo "_law_section", .glo "_law_refused_so", .glo "_law_base_so", .glo "law", .glo "DayError", .glo "Missing", .glo "Section", .glo "Plain", .glo "Point", .glo "Crossing", .glo "InvalidName", .glo "InvalidNumber", .glo "NothingLeft", .free "isinstance", .free "len", .free "all", .free "any"] : List He.Fa) ++ ([.free "abs", .free "int", .free "str", .free "list", .free "tuple", .free "bool", .free "range", .free "zip", .free "sorted", .free "repr"] : List He.Fa)
def erl : List (Str × XB × List Str) := ([("InvalidName", XB.value, ["code", "value"]), ("InvalidNumber", XB.value, ["code", "value"]), ("NothingLeft", XB.index, ["code"])] : List (Str × XB × List Str))
def cks : List Ck := ([.gl "LETTERS" (.str "abcdefghijklmnopqrstuvwxyz"), .gl "LONGEST" (.int (6)), .cls "Section", .mk "Section" "Section", .no "Section" "name", .no "Section" "length", .con "Section" "KIND" (.str "none"), .con "Section" "MOST" (.int (50)), .con "Section" "ROADS" (.tup []), .cval "Section" "KIND" (.str "none"), .find "Section" "__ne__" "object.__ne__", .meth "Section" "sides" "Section", .meth "Section" "ends" "Section", .meth "Section" "ways" "Section", .meth "Section" "text" "Section", .spec "Section" "__eq__" "Section", .spec "Section" "__repr__" "Section", .kit (.own "Section") (.own "Section") true, .nf "Section" (.ty "str"), .nf "Section" (.ty "NoneType"), .nf "Section" (.ty "tuple"), .nf "Section" (.own "Section"), .cls "Plain", .mk "Plain" "Section", .no "Plain" "name", .no "Plain" "length", .con "Plain" "KIND" (.str "plain"), .con "Plain" "MOST" (.int (50)), .con "Plain" "ROADS" (.tup [.tup [.str "a", .str "b", .str ""]]), .cval "Plain" "KIND" (.str "plain")] : List Ck) ++ ([.find "Plain" "__ne__" "object.__ne__", .meth "Plain" "sides" "Section", .meth "Plain" "ends" "Section", .meth "Plain" "ways" "Section", .meth "Plain" "text" "Section", .spec "Plain" "__eq__" "Section", .spec "Plain" "__repr__" "Section", .kit (.own "Plain") (.own "Section") true, .nf "Plain" (.ty "str"), .nf "Plain" (.ty "NoneType"), .nf "Plain" (.ty "tuple"), .nf "Plain" (.own "Section"), .nf "Plain" (.own "Plain"), .nf "Plain" (.own "Point"), .nf "Plain" (.own "Crossing"), .cls "Point", .mk "Point" "Section", .no "Point" "name", .no "Point" "length", .con "Point" "KIND" (.str "point"), .con "Point" "MOST" (.int (50)), .con "Point" "ROADS" (.tup [.tup [.str "left", .str "stem", .str "left"], .tup [.str "right", .str "stem", .str "right"]]), .cval "Point" "KIND" (.str "point"), .find "Point" "__ne__" "object.__ne__", .meth "Point" "sides" "Section", .meth "Point" "ends" "Section", .meth "Point" "ways" "Section", .meth "Point" "text" "Section", .spec "Point" "__eq__" "Section", .spec "Point" "__repr__" "Section"] : List Ck) ++ ([.kit (.own "Point") (.own "Section") true, .nf "Point" (.ty "str"), .nf "Point" (.ty "NoneType"), .nf "Point" (.ty "tuple"), .nf "Point" (.own "Section"), .nf "Point" (.own "Plain"), .nf "Point" (.own "Point"), .nf "Point" (.own "Crossing"), .cls "Crossing", .mk "Crossing" "Section", .no "Crossing" "name", .no "Crossing" "length", .con "Crossing" "KIND" (.str "crossing"), .con "Crossing" "MOST" (.int (50)), .con "Crossing" "ROADS" (.tup [.tup [.str "a", .str "b", .str ""], .tup [.str "c", .str "d", .str ""]]), .cval "Crossing" "KIND" (.str "crossing"), .find "Crossing" "__ne__" "object.__ne__", .meth "Crossing" "sides" "Section", .meth "Crossing" "ends" "Section", .meth "Crossing" "ways" "Section", .meth "Crossing" "text" "Section", .spec "Crossing" "__eq__" "Section", .spec "Crossing" "__repr__" "Section", .kit (.own "Crossing") (.own "Section") true, .nf "Crossing" (.ty "str"), .nf "Crossing" (.ty "NoneType"), .nf "Crossing" (.ty "tuple"), .nf "Crossing" (.own "Section"), .nf "Crossing" (.own "Plain"), .nf "Crossing" (.own "Point")] : List Ck) ++ ([.nf "Crossing" (.own "Crossing"), .kit (.ty "str") (.own "Section") false, .kit (.ty "NoneType") (.own "Section") false, .kit (.ty "tuple") (.own "Section") false, .cval "Section" "MOST" (.int (50)), .sub "Plain" "Section", .sub "Point" "Section", .sub "Crossing" "Section", .exm "InvalidName" (.own "DayError") true, .exm "InvalidName" (.own "Missing") false, .exm "InvalidName" (.own "NothingLeft") false, .exm "InvalidNumber" (.own "DayError") true, .exm "InvalidNumber" (.own "Missing") false, .exm "InvalidNumber" (.own "NothingLeft") false] : List Ck)
def tf : List He.Defn := [("_law_refused_so", none)]
def ex (K : PySem.W.Frag) : Bool := erB K erl && cksB K cks
def loose : List Str := (["DayError", "InvalidName", "InvalidNumber", "Missing", "NothingLeft", "LETTERS", "LONGEST", "is_name", "is_number", "Section", "Plain", "Point", "Crossing", "_law_bag", "_law_draw", "_law_of", "_law_same", "_law_fields", "_law_try", "_law_tries", "_law_words", "_law_odd", "_law_sides", "_law_ways", "_law_section", "_law_refused_so", "_law_base_so"] : List Str)
abbrev R : PySem.W.OpenRow := PySem.W.OpenLaw.row PySem.Challenge.rw_ringlessday_k02_sections_told
abbrev hk : PySem.W.Hook := hookY 5 fa fn tf ex
def ob (s : PySem.W.SharedT) : He.AlX := obsY 5 fa fn tf ex (HandSHeadRun.getT s)
theorem ob_eq (s : PySem.W.SharedT) : ob s = hk.obs s.abs := obsY_eq (HandSHeadRun.getT_eq s)
theorem run (w : World) : HandSHeadRun.RunEq R (PySem.W.view R.prog [31]) hk ob 20000 loose w := by
  intro os
  kernel_rfl
end K2
namespace Rg
open PySem L2
/-! ### data -/
/-- a lambda that was made: its code object at c, its cells clos, its defaults' tuple (of one 0) at dt -/
structure Lm where
  qual : Str
  params : Arguments
  body : Expr
  scope : Scope
  clos : List (Str × Addr)
  dt : Option Addr
  doc : Value
  pm : Value
  c : Addr
  ct : Value
def Lm.dV (L : Lm) : Value := match L.dt with
  | none => .none
  | some d => .ref d
abbrev Lm.fd (L : Lm) : FuncData := PySem.W.kdv_fn "<lambda>" L.qual L.params (.expr L.body) L.scope L.clos L.dV L.doc L.pm (.ref L.c) L.ct
abbrev Lm.obj (L : Lm) : Obj := { cls := .type "function", data := .func L.fd }
/-- a thing that is known to the object -/
def ExO (a : Addr) (ob : Obj) : HO := .ext fun h => h.get? a = some ob
/-- what a value is worth, without the heap; exc: an error of an own class with its fields; cau: such a one, caught; seq: a list that is only read (the script); raw: a value by itself (an object that changes, a class, a def) -/
inductive D where
  | non
  | bl (b : Bool)
  | int (i : Int)
  | str (x : Str)
  | list (ds : List D)
  | tup (ds : List D)
  | obj (C : Addr) (ns : List Str) (ds : List D)
  | exc (C : Addr) (ns : List Str) (ds : List D)
  | cau (a dd C : Addr) (ns : List Str) (ds : List D)
  | seq (ds : List D)
  | raw (v : V)
  | fob (L : Lm)
  | dict (ks : List Key) (ds : List D)
  | ldict (ks : List Key) (ds : List D)
mutual
inductive Rp (K : PySem.W.Frag) (G : Hp) : V → D → Prop
  | non : Rp K G .non .non
  | bl (b : Bool) : Rp K G (.bl b) (.bl b)
  | int (i : Int) : Rp K G (.int i) (.int i)
  | str (x : Str) : Rp K G (.str x) (.str x)
  | lst {a : Addr} {xs : List V} {ds : List D} : G a = some (.lst xs) → RpAll K G xs ds → Rp K G (.ref a) (.list ds)
  | tup {a : Addr} {xs : List V} {ds : List D} : SqT K G a xs → RpAll K G xs ds → Rp K G (.ref a) (.tup ds)
  | obj {a C dx : Addr} {fs : List (Str × V)} {ds : List D} : G a = some (.ins C dx fs) → RpAll K G (fs.map (·.2)) ds → Rp K G (.ref a) (.obj C (fs.map (·.1)) ds)
  | exc {a C dx : Addr} {fs : List (Str × V)} {ds : List D} : G a = some (exo a C (some dx)) → G dx = some (exd dx fs) → RpAll K G (fs.map (·.2)) ds → Rp K G (.ref a) (.exc C (fs.map (·.1)) ds)
  | cau {a C dd : Addr} {fs : List (Str × V)} {ds : List D} : G dd = some (.xd fs) → RpAll K G (fs.map (·.2)) ds → Rp K G (.ref a) (.cau a dd C (fs.map (·.1)) ds)
  | seq {a : Addr} {xs : List V} {ds : List D} : SqL K G a xs → RpAll K G xs ds → Rp K G (.ref a) (.seq ds)
  | raw (v : V) : Rp K G v (.raw v)
  | dict {a : Addr} {us : List (Key × V)} {ds : List D} : G a = some (.dK us) → RpAll K G (us.map (·.2)) ds → Rp K G (.ref a) (.dict (us.map (·.1)) ds)
  | ldict {a : Addr} {ob : Obj} {us : List (Key × V)} {ds : List D} : G a = some (.frz ob (.dK us)) → RpAll K G (us.map (·.2)) ds → Rp K G (.ref a) (.ldict (us.map (·.1)) ds)
  | fob {a : Addr} {L : Lm} : G a = some (ExO a L.obj) → G L.c = some (LamX.CodeO L.c L.qual) → (∀ d, L.dt = some d → G d = some (.tup [.int 0])) → Rp K G (.ref a) (.fob L)
inductive RpAll (K : PySem.W.Frag) (G : Hp) : List V → List D → Prop
  | nil : RpAll K G [] []
  | cons {v : V} {vs : List V} {d : D} {ds : List D} : Rp K G v d → RpAll K G vs ds → RpAll K G (v :: vs) (d :: ds)
end
theorem sq {K : PySem.W.Frag} {H : Hp} {a : Addr} {xs : List V} (h : H a = some (.lst xs)) : SqL K H a xs := .inl (.inl h)
theorem same_t {K : PySem.W.Frag} {H H' : Hp} {a : Addr} {xs : List V} (e : Same H H') (h : SqT K H a xs) : SqT K H' a xs := by
  rcases h with (h | ⟨o, h⟩) | h
  · exact .inl (.inl (e _ _ h))
  · exact .inl (.inr ⟨o, e _ _ h⟩)
  · exact .inr h
mutual
theorem Rp.mono {K : PySem.W.Frag} {G G' : Hp} (s : Same G G') : ∀ {v : V} {d : D}, Rp K G v d → Rp K G' v d
  | _, _, .non => .non
  | _, _, .bl b => .bl b
  | _, _, .int i => .int i
  | _, _, .str x => .str x
  | _, _, .lst h r => .lst (s _ _ h) (RpAll.mono s r)
  | _, _, .tup h r => .tup (same_t s h) (RpAll.mono s r)
  | _, _, .obj h r => .obj (s _ _ h) (RpAll.mono s r)
  | _, _, .exc h h2 r => .exc (s _ _ h) (s _ _ h2) (RpAll.mono s r)
  | _, _, .cau h r => .cau (s _ _ h) (RpAll.mono s r)
  | _, _, .seq h r => .seq (s.seq h) (RpAll.mono s r)
  | _, _, .raw v => .raw v
  | _, _, .dict h r => .dict (s _ _ h) (RpAll.mono s r)
  | _, _, .ldict h r => .ldict (s _ _ h) (RpAll.mono s r)
  | _, _, .fob h1 h2 h3 => .fob (s _ _ h1) (s _ _ h2) (fun d e => s _ _ (h3 d e))
theorem RpAll.mono {K : PySem.W.Frag} {G G' : Hp} (s : Same G G') : ∀ {vs : List V} {ds : List D}, RpAll K G vs ds → RpAll K G' vs ds
  | _, _, .nil => .nil
  | _, _, .cons h r => .cons (Rp.mono s h) (RpAll.mono s r)
end
section
variable {K : PySem.W.Frag} {G : Hp}
theorem RpAll.length : ∀ {vs : List V} {ds : List D}, RpAll K G vs ds → vs.length = ds.length
  | _, _, .nil => rfl
  | _, _, .cons _ r => by rw [List.length_cons, List.length_cons, RpAll.length r]
theorem RpAll.get : ∀ {vs : List V} {ds : List D} {i : Nat} {d : D}, RpAll K G vs ds → ds[i]? = some d → ∃ v, vs[i]? = some v ∧ Rp K G v d
  | _, _, _, _, .nil, e => by simp at e
  | _, _, 0, _, .cons (v := v) h _, e => by
    have e2 := Option.some.inj (show some _ = some _ from e)
    exact ⟨v, rfl, e2 ▸ h⟩
  | _, _, i + 1, _, .cons _ r, e => RpAll.get (i := i) r e
theorem RpAll.getV : ∀ {vs : List V} {ds : List D} {i : Nat} {v : V}, RpAll K G vs ds → vs[i]? = some v → ∃ d, ds[i]? = some d ∧ Rp K G v d
  | _, _, _, _, .nil, e => by simp at e
  | _, _, 0, _, .cons (d := d) h _, e => by
    have e2 := Option.some.inj (show some _ = some _ from e)
    exact ⟨d, rfl, e2 ▸ h⟩
  | _, _, i + 1, _, .cons _ r, e => RpAll.getV (i := i) r e
theorem RpAll.append : ∀ {vs ws : List V} {ds es : List D}, RpAll K G vs ds → RpAll K G ws es → RpAll K G (vs ++ ws) (ds ++ es)
  | _, _, _, _, .nil, s => s
  | _, _, _, _, .cons h r, s => .cons h (RpAll.append r s)
theorem RpAll.take : ∀ (n : Nat) {vs : List V} {ds : List D}, RpAll K G vs ds → RpAll K G (vs.take n) (ds.take n)
  | 0, _, _, _ => .nil
  | _ + 1, _, _, .nil => .nil
  | n + 1, _, _, .cons h r => .cons h (RpAll.take n r)
theorem RpAll.drop : ∀ (n : Nat) {vs : List V} {ds : List D}, RpAll K G vs ds → RpAll K G (vs.drop n) (ds.drop n)
  | 0, _, _, r => r
  | _ + 1, _, _, .nil => .nil
  | n + 1, _, _, .cons _ r => RpAll.drop n r
theorem RpAll.ints : ∀ (ns : List Int), RpAll K G (ns.map V.int) (ns.map D.int)
  | [] => .nil
  | n :: r => .cons (.int n) (RpAll.ints r)
theorem Rp.int_inv {v : V} {i : Int} (h : Rp K G v (.int i)) : v = .int i := by cases h; rfl
theorem Rp.bl_inv {v : V} {b : Bool} (h : Rp K G v (.bl b)) : v = .bl b := by cases h; rfl
theorem Rp.str_inv {v : V} {x : Str} (h : Rp K G v (.str x)) : v = .str x := by cases h; rfl
theorem Rp.non_inv {v : V} (h : Rp K G v .non) : v = .non := by cases h; rfl
theorem Rp.raw_inv {v u : V} (h : Rp K G v (.raw u)) : v = u := by cases h; rfl
theorem Rp.list_inv {v : V} {ds : List D} (h : Rp K G v (.list ds)) : ∃ a xs, v = .ref a ∧ SqL K G a xs ∧ RpAll K G xs ds := by
  cases h with
  | lst h r => exact ⟨_, _, rfl, sq h, r⟩
theorem Rp.list_ex {v : V} {ds : List D} (h : Rp K G v (.list ds)) : ∃ a xs, v = .ref a ∧ G a = some (.lst xs) ∧ RpAll K G xs ds := by
  cases h with
  | lst h r => exact ⟨_, _, rfl, h, r⟩
theorem Rp.tup_inv {v : V} {ds : List D} (h : Rp K G v (.tup ds)) : ∃ a xs, v = .ref a ∧ SqT K G a xs ∧ RpAll K G xs ds := by
  cases h with
  | tup h r => exact ⟨_, _, rfl, h, r⟩
theorem RpAll.int_inv : ∀ {ns : List Int} {vs : List V}, RpAll K G vs (ns.map D.int) → vs = ns.map V.int
  | [], _, .nil => rfl
  | n :: r, _, .cons h t => by rw [h.int_inv, RpAll.int_inv t]; rfl
theorem RpAll.bl_inv : ∀ {ns : List Bool} {vs : List V}, RpAll K G vs (ns.map D.bl) → vs = ns.map V.bl
  | [], _, .nil => rfl
  | n :: r, _, .cons h t => by rw [h.bl_inv, RpAll.bl_inv t]; rfl
theorem RpAll.str_inv : ∀ {ns : List Str} {vs : List V}, RpAll K G vs (ns.map D.str) → vs = ns.map V.str
  | [], _, .nil => rfl
  | n :: r, _, .cons h t => by rw [h.str_inv, RpAll.str_inv t]; rfl
end
/-! ### the two heaps: G what stands for ever, H what is; M what changes, by what is true of it -/
abbrev Ml := List (Addr × (Hp → HO → Prop))
structure Wd0 (M : Ml) (G H : Hp) : Prop where
  sub : Same G H
  mt : ∀ p ∈ M, G p.1 = none ∧ ∃ o, H p.1 = some o ∧ p.2 G o
  mono : ∀ p ∈ M, ∀ G1 G2 o, Same G1 G2 → p.2 G1 o → p.2 G2 o
  nd : (M.map (·.1)).Nodup
theorem same_new {H : Hp} {p : Addr} {o : HO} (h : H p = none) : Same H (upd H p o) := fun b x e => by
  rw [upd_ne (ne_of_none e h)]
  exact e
section
variable {M : Ml} {G H : Hp} {p : Addr} {o : HO}
theorem Wd0.free (w : Wd0 M G H) (h : H p = none) : G p = none := w.sub.free h
/-- a new thing that stands for ever -/
theorem Wd0.new (w : Wd0 M G H) (h : H p = none) : Wd0 M (upd G p o) (upd H p o) where
  sub := fun a u e => by
    by_cases q : a = p
    · subst q; rw [upd_same] at e ⊢; exact e
    · rw [upd_ne q] at e ⊢; exact w.sub a u e
  mt := fun m hm => by
    obtain ⟨g, u, hu, f⟩ := w.mt m hm
    have ne : m.1 ≠ p := ne_of_none hu h
    refine ⟨by rw [upd_ne ne]; exact g, u, by rw [upd_ne ne]; exact hu, w.mono m hm _ _ _ (same_new (w.free h)) f⟩
  mono := w.mono
  nd := w.nd
/-- a new thing that changes -/
theorem Wd0.newM (w : Wd0 M G H) (h : H p = none) {φ : Hp → HO → Prop} (f : φ G o) (mo : ∀ G1 G2 o, Same G1 G2 → φ G1 o → φ G2 o) : Wd0 ((p, φ) :: M) G (upd H p o) where
  sub := fun a u e => by
    rw [upd_ne (ne_of_none (w.sub _ _ e) h)]
    exact w.sub a u e
  mt := fun m hm => by
    rcases List.mem_cons.mp hm with rfl | hm
    · exact ⟨w.free h, o, upd_same, f⟩
    · obtain ⟨g, u, hu, f⟩ := w.mt m hm
      exact ⟨g, u, by rw [upd_ne (ne_of_none hu h)]; exact hu, f⟩
  mono := fun m hm => by
    rcases List.mem_cons.mp hm with rfl | hm
    · exact mo
    · exact w.mono m hm
  nd := by
    rw [List.map_cons, List.nodup_cons]
    refine ⟨fun hm => ?_, w.nd⟩
    obtain ⟨q, hq, e⟩ := List.mem_map.mp hm
    obtain ⟨_, u, hu, _⟩ := w.mt q hq
    exact ne_of_none hu h e
theorem mem_eq : ∀ {M : Ml} {p q : Addr × (Hp → HO → Prop)}, (M.map (·.1)).Nodup → p ∈ M → q ∈ M → p.1 = q.1 → p = q
  | [], _, _, _, h, _, _ => by simp at h
  | m :: r, p, q, nd, hp, hq, e => by
    rw [List.map_cons, List.nodup_cons] at nd
    rcases List.mem_cons.mp hp with h1 | h1
    · rcases List.mem_cons.mp hq with h2 | h2
      · rw [h1, h2]
      · exact absurd (List.mem_map.mpr ⟨q, h2, by rw [← e, h1]⟩) nd.1
    · rcases List.mem_cons.mp hq with h2 | h2
      · exact absurd (List.mem_map.mpr ⟨p, h1, by rw [e, h2]⟩) nd.1
      · exact mem_eq nd.2 h1 h2 e
/-- a thing that changes is changed -/
theorem Wd0.write (w : Wd0 M G H) {φ : Hp → HO → Prop} (hp : (p, φ) ∈ M) (f : φ G o) : Wd0 M G (upd H p o) where
  sub := fun a u e => by
    have ne : a ≠ p := fun z => by
      have := (w.mt _ hp).1
      rw [z] at e; rw [e] at this; cases this
    rw [upd_ne ne]; exact w.sub a u e
  mt := fun m hm => by
    obtain ⟨g, u, hu, f'⟩ := w.mt m hm
    by_cases q : m.1 = p
    · have e := mem_eq w.nd hm hp q
      subst e
      exact ⟨g, o, upd_same, f⟩
    · exact ⟨g, u, by rw [upd_ne q]; exact hu, f'⟩
  mono := w.mono
  nd := w.nd
/-- what is told of it is told anew -/
theorem Wd0.turn {φ ψ : Hp → HO → Prop} (w : Wd0 ((p, φ) :: M) G H) (e : H p = some o) (f : ψ G o) (mo : ∀ G1 G2 o, Same G1 G2 → ψ G1 o → ψ G2 o) : Wd0 ((p, ψ) :: M) G H where
  sub := w.sub
  mt := fun m hm => by
    rcases List.mem_cons.mp hm with rfl | hm
    · exact ⟨(w.mt _ List.mem_cons_self).1, o, e, f⟩
    · exact w.mt m (List.mem_cons_of_mem _ hm)
  mono := fun m hm => by
    rcases List.mem_cons.mp hm with rfl | hm
    · exact mo
    · exact w.mono m (List.mem_cons_of_mem _ hm)
  nd := w.nd
/-- it stands for ever from now on -/
theorem Wd0.freeze {φ : Hp → HO → Prop} (w : Wd0 ((p, φ) :: M) G H) (e : H p = some o) : Wd0 M (upd G p o) H where
  sub := fun a u h => by
    by_cases q : a = p
    · subst q; rw [upd_same] at h; rw [e]; exact h
    · rw [upd_ne q] at h; exact w.sub a u h
  mt := fun m hm => by
    have g0 : G p = none := (w.mt _ List.mem_cons_self).1
    have ne : m.1 ≠ p := fun z => by
      have nd := w.nd
      rw [List.map_cons, List.nodup_cons] at nd
      exact nd.1 (List.mem_map.mpr ⟨m, hm, z⟩)
    obtain ⟨g, u, hu, f⟩ := w.mt m (List.mem_cons_of_mem _ hm)
    exact ⟨by rw [upd_ne ne]; exact g, u, hu, w.mono m (List.mem_cons_of_mem _ hm) _ _ _ (same_new g0) f⟩
  mono := fun m hm => w.mono m (List.mem_cons_of_mem _ hm)
  nd := (List.nodup_cons.mp w.nd).2
theorem Wd0.tail {m : Addr × (Hp → HO → Prop)} (w : Wd0 (m :: M) G H) : Wd0 M G H := ⟨w.sub, fun q hq => w.mt q (List.mem_cons_of_mem _ hq), fun q hq => w.mono q (List.mem_cons_of_mem _ hq), (List.nodup_cons.mp w.nd).2⟩
theorem Wd0.less {M1 : Ml} (w : Wd0 M G H) (s : M1.Sublist M) : Wd0 M1 G H := ⟨w.sub, fun q hq => w.mt q (s.mem hq), fun q hq => w.mono q (s.mem hq), w.nd.sublist (s.map _)⟩
end
/-- M: l what changes; b what the one knows of it who takes an exception; ex the exceptions that he takes, W his wish -/
structure Mt where
  l : Ml
  b : Ml := []
  sub : b.Sublist l := by exact List.nil_sublist _
  ex : Ml → Hp → L2.St → Value → Option Addr → Prop := fun _ _ _ _ _ => False
  W : WX := fun _ _ _ _ => False
instance : Membership (Addr × (Hp → HO → Prop)) Mt := ⟨fun M p => p ∈ M.l⟩
abbrev Mt.cons (M : Mt) (p : Addr × (Hp → HO → Prop)) : Mt := { M with l := p :: M.l, sub := M.sub.cons p }
structure Wd (M : Mt) (G H : Hp) : Prop extends Wd0 M.l G H where
  xk : ∀ l' cls d σ' G' H', M.ex l' G' σ' cls d → Same G G' → Wd0 (l' ++ M.b) G' H' → M.W cls d σ' H'
section
variable {M : Mt} {G H : Hp} {p : Addr} {o : HO}
theorem Wd.free (w : Wd M G H) (h : H p = none) : G p = none := w.sub.free h
theorem Wd.to (w : Wd M G H) {G' H' : Hp} (s : Same G G') (w' : Wd0 M.l G' H') : Wd M G' H' := ⟨w', fun l' cls d σ G2 H2 x s2 => w.xk l' cls d σ G2 H2 x (s.trans s2)⟩
theorem Wd.new (w : Wd M G H) (h : H p = none) : Wd M (upd G p o) (upd H p o) := w.to (same_new (w.free h)) (w.toWd0.new h)
theorem Wd.newM (w : Wd M G H) (h : H p = none) {φ : Hp → HO → Prop} (f : φ G o) (mo : ∀ G1 G2 o, Same G1 G2 → φ G1 o → φ G2 o) : Wd (M.cons (p, φ)) G (upd H p o) := ⟨w.toWd0.newM h f mo, w.xk⟩
theorem Wd.write (w : Wd M G H) {φ : Hp → HO → Prop} (hp : (p, φ) ∈ M) (f : φ G o) : Wd M G (upd H p o) := ⟨w.toWd0.write hp f, w.xk⟩
theorem Wd.turn {φ ψ : Hp → HO → Prop} (w : Wd (M.cons (p, φ)) G H) (e : H p = some o) (f : ψ G o) (mo : ∀ G1 G2 o, Same G1 G2 → ψ G1 o → ψ G2 o) : Wd (M.cons (p, ψ)) G H := ⟨w.toWd0.turn e f mo, w.xk⟩
theorem Wd.freeze {φ : Hp → HO → Prop} (w : Wd (M.cons (p, φ)) G H) (e : H p = some o) : Wd M (upd G p o) H := by
  have g0 : G p = none := (w.mt _ List.mem_cons_self).1
  exact ⟨w.toWd0.freeze e, fun l' cls d σ G2 H2 x s2 => w.xk l' cls d σ G2 H2 x ((same_new g0).trans s2)⟩
theorem Wd.tail {m : Addr × (Hp → HO → Prop)} (w : Wd (M.cons m) G H) : Wd M G H := ⟨w.toWd0.tail, w.xk⟩
/-- an exception is taken -/
theorem Wd.take (w : Wd M G H) {cls : Value} {d : Option Addr} {σ : L2.St} (x : M.ex [] G σ cls d) : M.W cls d σ H := w.xk [] cls d σ G H x (Same.refl G) (w.toWd0.less M.sub)
end
structure MSub (M M' : Mt) : Prop where
  l : ∀ p ∈ M, p ∈ M'
  ex : M'.ex = M.ex
  W : M'.W = M.W
theorem MSub.refl (M : Mt) : MSub M M := ⟨fun _ h => h, rfl, rfl⟩
theorem MSub.trans {M M1 M2 : Mt} (a : MSub M M1) (b : MSub M1 M2) : MSub M M2 := ⟨fun p h => b.l p (a.l p h), b.ex.trans a.ex, b.W.trans a.W⟩
theorem MSub.cons {M M' : Mt} {p : Addr × (Hp → HO → Prop)} (a : MSub M M') : MSub M (M'.cons p) := ⟨fun q h => List.mem_cons_of_mem _ (a.l q h), a.ex, a.W⟩
theorem MSub.cons2 {M M' : Mt} {p : Addr × (Hp → HO → Prop)} (a : MSub M M') : MSub (M.cons p) (M'.cons p) := ⟨fun q h => (List.mem_cons.mp h).elim (fun e => e ▸ List.mem_cons_self) fun h => List.mem_cons_of_mem _ (a.l q h), a.ex, a.W⟩
/-! ### slots -/
abbrev DS := List (Option D)
structure Sg (K : PySem.W.Frag) (G : Hp) (σ : L2.St) (ds : DS) : Prop where
  len : σ.length = ds.length
  at_ : ∀ (i : Nat) (d : D), ds[i]? = some (some d) → ∃ v, σ[i]? = some (some v) ∧ Rp K G v d
section
variable {K : PySem.W.Frag} {G G' : Hp} {σ : L2.St} {ds : DS}
theorem Sg.mono (s : Same G G') (h : Sg K G σ ds) : Sg K G' σ ds := ⟨h.len, fun i d e => let ⟨v, a, b⟩ := h.at_ i d e; ⟨v, a, b.mono s⟩⟩
theorem Sg.set {v : V} {d : D} (h : Sg K G σ ds) (i : Nat) (r : Rp K G v d) : Sg K G (σ.set i (some v)) (ds.set i (some d)) := by
  refine ⟨by rw [List.length_set, List.length_set, h.len], fun j e q => ?_⟩
  rw [List.getElem?_set] at q ⊢
  by_cases hij : i = j
  · subst hij
    rw [if_pos rfl] at q ⊢
    by_cases hl : i < ds.length
    · rw [if_pos hl] at q
      rw [if_pos (by rw [h.len]; exact hl)]
      cases q
      exact ⟨v, rfl, r⟩
    · rw [if_neg hl] at q; cases q
  · rw [if_neg hij] at q ⊢
    exact h.at_ j e q
theorem Sg.drop {i : Nat} {x : Option V} (h : Sg K G σ ds) : Sg K G (σ.set i x) (ds.set i none) := by
  refine ⟨by rw [List.length_set, List.length_set, h.len], fun j e q => ?_⟩
  rw [List.getElem?_set] at q ⊢
  by_cases hij : i = j
  · subst hij
    rw [if_pos rfl] at q
    split at q <;> cases q
  · rw [if_neg hij] at q ⊢
    exact h.at_ j e q
theorem Sg.start {N : List Str} {vs : List V} {as : List D} (h : RpAll K G vs as) : Sg K G (start N vs) (as.map some ++ List.replicate (N.length - as.length) none) := by
  have hl := h.length
  refine ⟨by unfold L2.start; simp [hl], fun i d e => ?_⟩
  unfold L2.start
  by_cases hi : i < as.length
  · rw [List.getElem?_append_left (by simpa using hi), List.getElem?_map] at e
    cases q : as[i]? with
    | none => rw [q] at e; cases e
    | some d' =>
      rw [q] at e; cases e
      obtain ⟨v, e1, r⟩ := h.get q
      exact ⟨v, by rw [List.getElem?_append_left (by rw [List.length_map, hl]; exact hi), List.getElem?_map, e1]; rfl, r⟩
  · rw [List.getElem?_append_right (by simpa using hi)] at e
    rw [List.getElem?_replicate] at e
    split at e <;> cases e
end
/-! ### exceptions, told of the data -/
inductive XRp (K : PySem.W.Frag) (G : Hp) : Value → Option Addr → D → Prop
  | own {C dd : Addr} {fs : List (Str × V)} {ds : List D} : G dd = some (.xd fs) → RpAll K G (fs.map (·.2)) ds → XRp K G (.ref C) (some dd) (.exc C (fs.map (·.1)) ds)
  | blt (n : String) (d : Option Addr) : XRp K G (.type n) d (.raw (.ty n))
theorem XRp.mono {K : PySem.W.Frag} {G G' : Hp} (s : Same G G') {c : Value} {d : Option Addr} {x : D} (h : XRp K G c d x) : XRp K G' c d x := by
  cases h with
  | own h r => exact .own (s _ _ h) (r.mono s)
  | blt n d => exact .blt n d
def exD (K : PySem.W.Frag) (Rx : D → DS → Prop) : Ml → Hp → L2.St → Value → Option Addr → Prop := fun l' G σ c d => l' = [] ∧ ∃ x ds, Rx x ds ∧ XRp K G c d x ∧ Sg K G σ ds
/-- M takes the exception x from the slots ds -/
def Exk (K : PySem.W.Frag) (M : Mt) (x : D) (ds : DS) : Prop := ∀ G σ c d, XRp K G c d x → Sg K G σ ds → M.ex [] G σ c d
theorem exk_D {K : PySem.W.Frag} {M : Mt} {Rx : D → DS → Prop} {x : D} {ds : DS} (e : M.ex = exD K Rx) (h : Rx x ds) : Exk K M x ds := fun G σ c d hx s => by
  rw [e]
  exact ⟨rfl, x, ds, h, hx, s⟩
/-- M within a try -/
abbrev Mt.tr (M : Mt) (K : PySem.W.Frag) (W : WX) (Rx : D → DS → Prop) : Mt := { l := M.l, b := M.l, sub := List.Sublist.refl _, ex := exD K Rx, W := W }
/-! ### what an expression, a test, an argument list may give -/
section
variable (K : PySem.W.Frag) (M : Mt) (ds : DS)
def Ev (te : TE) (R : D → Prop) : Prop := ∀ (M' : Mt) (σ : L2.St) (G H : Hp) (Q : VK), MSub M M' → Sg K G σ ds → Wd M' G H →
  (∀ v d G' H', Same G G' → Wd M' G' H' → Rp K G' v d → R d → Q v H') → te σ H Q
def EvT (tt : TT) (R : Bool → Prop) : Prop := ∀ (M' : Mt) (σ : L2.St) (G H : Hp) (Q : Bool → Hp → Prop), MSub M M' → Sg K G σ ds → Wd M' G H →
  (∀ b G' H', Same G G' → Wd M' G' H' → R b → Q b H') → tt σ H Q
def EvA (ta : TA) (R : List D → Prop) : Prop := ∀ (M' : Mt) (σ : L2.St) (G H : Hp) (Q : List V → Hp → Prop), MSub M M' → Sg K G σ ds → Wd M' G H →
  (∀ vs es G' H', Same G G' → Wd M' G' H' → RpAll K G' vs es → R es → Q vs H') → ta σ H Q
/-- the ends of a statement, told of the data -/
structure AE where
  nx : DS → Prop
  rt : D → Prop
  bk : DS → Prop := fun _ => False
  ct : DS → Prop := fun _ => False
structure EndsOk (M' : Mt) (G : Hp) (E : AE) (Z : Ends) : Prop where
  nx : ∀ ds' σ' G' H', E.nx ds' → Same G G' → Sg K G' σ' ds' → Wd M' G' H' → Z.nx σ' H'
  rt : ∀ v d G' H', E.rt d → Same G G' → Rp K G' v d → Wd M' G' H' → Z.rt v H'
  bk : ∀ ds' σ' G' H', E.bk ds' → Same G G' → Sg K G' σ' ds' → Wd M' G' H' → Z.bk σ' H'
  ct : ∀ ds' σ' G' H', E.ct ds' → Same G G' → Sg K G' σ' ds' → Wd M' G' H' → Z.ct σ' H'
def Run (ts : TS) (E : AE) : Prop := ∀ (M' : Mt) (σ : L2.St) (G H : Hp) (Z : Ends), MSub M M' → Sg K G σ ds → Wd M' G H → EndsOk K M' G E Z → ts Z σ H
end
theorem EndsOk.mono {K : PySem.W.Frag} {M' : Mt} {G G' : Hp} {E : AE} {Z : Ends} (s : Same G G') (h : EndsOk K M' G E Z) : EndsOk K M' G' E Z :=
  ⟨fun ds σ G1 H1 a b => h.nx ds σ G1 H1 a (s.trans b), fun v d G1 H1 a b => h.rt v d G1 H1 a (s.trans b), fun ds σ G1 H1 a b => h.bk ds σ G1 H1 a (s.trans b), fun ds σ G1 H1 a b => h.ct ds σ G1 H1 a (s.trans b)⟩
section
variable {K : PySem.W.Frag} {M M1 : Mt} {ds : DS} {te ta tb tc : TE} {t u : TT} {R R' : D → Prop} {RT RT' : Bool → Prop}
theorem Ev.weak (h : Ev K M ds te R) (f : ∀ d, R d → R' d) : Ev K M ds te R' := fun M' σ G H Q m s w q => h M' σ G H Q m s w fun v d G' H' a b c r => q v d G' H' a b c (f d r)
theorem Ev.more (h : Ev K M ds te R) (m : MSub M M1) : Ev K M1 ds te R := fun M' σ G H Q m' => h M' σ G H Q (m.trans m')
theorem EvT.weak (h : EvT K M ds t RT) (f : ∀ d, RT d → RT' d) : EvT K M ds t RT' := fun M' σ G H Q m s w q => h M' σ G H Q m s w fun b G' H' a w' r => q b G' H' a w' (f b r)
theorem EvA.weak {ta : TA} {R R' : List D → Prop} (h : EvA K M ds ta R) (f : ∀ d, R d → R' d) : EvA K M ds ta R' := fun M' σ G H Q m s w q => h M' σ G H Q m s w fun v d G' H' a b c r => q v d G' H' a b c (f d r)
theorem Run.more {ts : TS} {E : AE} (h : Run K M ds ts E) (m : MSub M M1) : Run K M1 ds ts E := fun M' σ G H Z m' => h M' σ G H Z (m.trans m')
/-- one after another -/
theorem ev_var {i : Nat} {d : D} (h : ds[i]? = some (some d)) : Ev K M ds (tVar i) (· = d) := fun M' σ G H Q _ s w q =>
  let ⟨v, e, r⟩ := s.at_ i d h
  ⟨v, e, q v d G H (Same.refl G) w r rfl⟩
theorem ev_c {v : V} {d : D} (h : ∀ G, Rp K G v d) : Ev K M ds (tC v) (· = d) := fun M' σ G H Q _ s w q => q v d G H (Same.refl G) w (h G) rfl
theorem ev_cint {i : Int} : Ev K M ds (tC (.int i)) (· = .int i) := ev_c fun _ => .int i
theorem ev_cbl {b : Bool} : Ev K M ds (tC (.bl b)) (· = .bl b) := ev_c fun _ => .bl b
theorem ev_cnon : Ev K M ds (tC .non) (· = .non) := ev_c fun _ => .non
theorem ev_cstr {x : Str} : Ev K M ds (tC (.str x)) (· = .str x) := ev_c fun _ => .str x
theorem ev_craw {v : V} : Ev K M ds (tC v) (· = .raw v) := ev_c fun _ => .raw v
/-- an operation on values: what it asks and gives -/
def OpD (K : PySem.W.Frag) (M : Mt) (r : R2) (a b : D) (R : D → Prop) : Prop := ∀ (M' : Mt) (G H : Hp) (x y : V) (Q : VK), MSub M M' → Rp K G x a → Rp K G y b → Wd M' G H →
  (∀ v d G' H', Same G G' → Wd M' G' H' → Rp K G' v d → R d → Q v H') → r x y H Q
def UnD (K : PySem.W.Frag) (M : Mt) (r : V → Hp → VK → Prop) (a : D) (R : D → Prop) : Prop := ∀ (M' : Mt) (G H : Hp) (x : V) (Q : VK), MSub M M' → Rp K G x a → Wd M' G H →
  (∀ v d G' H', Same G G' → Wd M' G' H' → Rp K G' v d → R d → Q v H') → r x H Q
def CallD (K : PySem.W.Frag) (M : Mt) (r : List V → Hp → VK → Prop) (as : List D) (R : D → Prop) : Prop := ∀ (M' : Mt) (G H : Hp) (xs : List V) (Q : VK), MSub M M' → RpAll K G xs as → Wd M' G H →
  (∀ v d G' H', Same G G' → Wd M' G' H' → Rp K G' v d → R d → Q v H') → r xs H Q
theorem ev_op {r : R2} {Ra Rb : D → Prop} (ha : Ev K M ds ta Ra) (hb : Ev K M ds tb Rb) (hr : ∀ a b, Ra a → Rb b → OpD K M r a b R) : Ev K M ds (tOp r ta tb) R := fun M' σ G H Q m s w q =>
  ha M' σ G H _ m s w fun v a G1 H1 s1 w1 r1 q1 => hb M' σ G1 H1 _ m (s.mono s1) w1 fun u b G2 H2 s2 w2 r2 q2 =>
    hr a b q1 q2 M' G2 H2 v u Q m (r1.mono s2) r2 w2 fun z d G3 H3 s3 w3 r3 q3 => q z d G3 H3 ((s1.trans s2).trans s3) w3 r3 q3
theorem ev_un {r : V → Hp → VK → Prop} {Ra : D → Prop} (ha : Ev K M ds ta Ra) (hr : ∀ a, Ra a → UnD K M r a R) : Ev K M ds (tUn r ta) R := fun M' σ G H Q m s w q =>
  ha M' σ G H _ m s w fun v a G1 H1 s1 w1 r1 q1 => hr a q1 M' G1 H1 v Q m r1 w1 fun z d G3 H3 s3 w3 r3 q3 => q z d G3 H3 (s1.trans s3) w3 r3 q3
theorem ev_cb {r : List V → Hp → VK → Prop} {ta : TA} {Ra : List D → Prop} (ha : EvA K M ds ta Ra) (hr : ∀ as, Ra as → CallD K M r as R) : Ev K M ds (tCB r ta) R := fun M' σ G H Q m s w q =>
  ha M' σ G H _ m s w fun v a G1 H1 s1 w1 r1 q1 => hr a q1 M' G1 H1 v Q m r1 w1 fun z d G3 H3 s3 w3 r3 q3 => q z d G3 H3 (s1.trans s3) w3 r3 q3
theorem ea_nil : EvA K M ds tNil (· = []) := fun M' σ G H Q _ s w q => q [] [] G H (Same.refl G) w .nil rfl
theorem ea_cons {Ra : D → Prop} {ta : TE} {tr : TA} {Rr : List D → Prop} (ha : Ev K M ds ta Ra) (hr : EvA K M ds tr Rr) : EvA K M ds (tCons ta tr) (fun as => ∃ a r, as = a :: r ∧ Ra a ∧ Rr r) := fun M' σ G H Q m s w q =>
  ha M' σ G H _ m s w fun v a G1 H1 s1 w1 r1 q1 => hr M' σ G1 H1 _ m (s.mono s1) w1 fun us bs G2 H2 s2 w2 r2 q2 =>
    q (v :: us) (a :: bs) G2 H2 (s1.trans s2) w2 (.cons (r1.mono s2) r2) ⟨a, bs, rfl, q1, q2⟩
/-- the same where all is known -/
theorem ea1 {a : D} {as : List D} {ta : TE} {tr : TA} (ha : Ev K M ds ta (· = a)) (hr : EvA K M ds tr (· = as)) : EvA K M ds (tCons ta tr) (· = a :: as) :=
  (ea_cons ha hr).weak fun _ ⟨_, _, e, e1, e2⟩ => by rw [e, e1, e2]
theorem ev_tup {ta : TA} {Ra : List D → Prop} (ha : EvA K M ds ta Ra) (hl : ∀ as, Ra as → as.length ≤ 100000) : Ev K M ds (tTup ta) (fun d => ∃ as, d = .tup as ∧ Ra as) := fun M' σ G H Q m s w q =>
  ha M' σ G H _ m s w fun vs as G1 H1 s1 w1 r1 q1 => ⟨by rw [r1.length]; exact Nat.le_trans (hl as q1) (by decide), fun p hp =>
    q (.ref p) (.tup as) (upd G1 p (.tup vs)) (upd H1 p (.tup vs)) (s1.trans (same_new (w1.free hp))) (w1.new hp) (.tup (.inl (.inl upd_same)) (r1.mono (same_new (w1.free hp)))) ⟨as, rfl, q1⟩⟩
theorem ev_lst {ta : TA} {Ra : List D → Prop} (ha : EvA K M ds ta Ra) (hl : ∀ as, Ra as → as.length ≤ 100000) : Ev K M ds (tLst ta) (fun d => ∃ as, d = .list as ∧ Ra as) := fun M' σ G H Q m s w q =>
  ha M' σ G H _ m s w fun vs as G1 H1 s1 w1 r1 q1 => ⟨by rw [r1.length]; exact Nat.le_trans (hl as q1) (by decide), fun p hp =>
    q (.ref p) (.list as) (upd G1 p (.lst vs)) (upd H1 p (.lst vs)) (s1.trans (same_new (w1.free hp))) (w1.new hp) (.lst upd_same (r1.mono (same_new (w1.free hp)))) ⟨as, rfl, q1⟩⟩
theorem ev_tup1 {ta : TA} {as : List D} (ha : EvA K M ds ta (· = as)) (hl : as.length ≤ 100000) : Ev K M ds (tTup ta) (· = .tup as) :=
  (ev_tup ha fun _ e => by rw [e]; exact hl).weak fun _ ⟨_, e, e1⟩ => by rw [e, e1]
theorem ev_lst1 {ta : TA} {as : List D} (ha : EvA K M ds ta (· = as)) (hl : as.length ≤ 100000) : Ev K M ds (tLst ta) (· = .list as) :=
  (ev_lst ha fun _ e => by rw [e]; exact hl).weak fun _ ⟨_, e, e1⟩ => by rw [e, e1]
/-! known values -/
theorem ev_op1 {r : R2} {a b : D} (ha : Ev K M ds ta (· = a)) (hb : Ev K M ds tb (· = b)) (hr : OpD K M r a b R) : Ev K M ds (tOp r ta tb) R := ev_op ha hb fun _ _ e1 e2 => by rw [e1, e2]; exact hr
theorem ev_un1 {r : V → Hp → VK → Prop} {a : D} (ha : Ev K M ds ta (· = a)) (hr : UnD K M r a R) : Ev K M ds (tUn r ta) R := ev_un ha fun _ e => by rw [e]; exact hr
theorem ev_cb1 {r : List V → Hp → VK → Prop} {ta : TA} {as : List D} (ha : EvA K M ds ta (· = as)) (hr : CallD K M r as R) : Ev K M ds (tCB r ta) R := ev_cb ha fun _ e => by rw [e]; exact hr
theorem od_int {g : Int → Int → V} {h : Int → Int → D} {i j : Int} (hg : ∀ G, Rp K G (g i j) (h i j)) : OpD K M (rI0 g) (.int i) (.int j) (· = h i j) := fun M' G H x y Q _ rx ry w q =>
  ⟨i, j, rx.int_inv, ry.int_inv, q _ _ G H (Same.refl G) w (hg G) rfl⟩
theorem od_intC {C : Int → Int → Prop} {g : Int → Int → V} {h : Int → Int → D} {i j : Int} (hc : C i j) (hg : ∀ G, Rp K G (g i j) (h i j)) : OpD K M (rI C g) (.int i) (.int j) (· = h i j) := fun M' G H x y Q _ rx ry w q =>
  ⟨i, j, rx.int_inv, ry.int_inv, hc, q _ _ G H (Same.refl G) w (hg G) rfl⟩
theorem od_add {i j : Int} : OpD K M rAdd (.int i) (.int j) (· = .int (i + j)) := fun M' G H x y Q _ rx ry w q => ⟨i, j, rx.int_inv, ry.int_inv, q _ _ G H (Same.refl G) w (.int _) rfl⟩
theorem od_sub {i j : Int} : OpD K M rSub (.int i) (.int j) (· = .int (i - j)) := fun M' G H x y Q _ rx ry w q => ⟨i, j, rx.int_inv, ry.int_inv, q _ _ G H (Same.refl G) w (.int _) rfl⟩
end
end Rg
namespace Rg
open PySem L2 RZ
section
variable {K : PySem.W.Frag} {M M1 : Mt} {ds : DS} {te ta tb tc : TE} {t u : TT} {R R' : D → Prop} {RT RT' : Bool → Prop}
/-! ### tests -/
theorem et_B {b : Bool} (h : Ev K M ds te (· = .bl b)) : EvT K M ds (tB te) (· = b) := fun M' σ G H Q m s w q =>
  h M' σ G H _ m s w fun v d G1 H1 s1 w1 r1 e => by
    subst e
    exact ⟨b, r1.bl_inv, q b G1 H1 s1 w1 rfl⟩
theorem et_BR (h : Ev K M ds te (fun d => ∃ b, d = .bl b ∧ RT b)) : EvT K M ds (tB te) RT := fun M' σ G H Q m s w q =>
  h M' σ G H _ m s w fun v d G1 H1 s1 w1 r1 ⟨b, e, hb⟩ => by
    subst e
    exact ⟨b, r1.bl_inv, q b G1 H1 s1 w1 hb⟩
theorem et_test {b : Bool} (h : Ev K M ds te (· = .bl b)) : EvT K M ds (tTest te) (· = b) := et_B h
theorem et_testR (h : Ev K M ds te (fun d => ∃ b, d = .bl b ∧ RT b)) : EvT K M ds (tTest te) RT := et_BR h
theorem et_and {a b : Bool} (h1 : EvT K M ds t (· = a)) (h2 : a = true → EvT K M ds u (· = b)) : EvT K M ds (tAnd t u) (· = (a && b)) := fun M' σ G H Q m s w q =>
  h1 M' σ G H _ m s w fun c G1 H1 s1 w1 e => by
    subst e
    cases c with
    | true => exact h2 rfl M' σ G1 H1 Q m (s.mono s1) w1 fun b' G2 H2 s2 w2 e2 => q b' G2 H2 (s1.trans s2) w2 e2
    | false => exact q false G1 H1 s1 w1 rfl
theorem et_or {a b : Bool} (h1 : EvT K M ds t (· = a)) (h2 : a = false → EvT K M ds u (· = b)) : EvT K M ds (tOr t u) (· = (a || b)) := fun M' σ G H Q m s w q =>
  h1 M' σ G H _ m s w fun c G1 H1 s1 w1 e => by
    subst e
    cases c with
    | false => exact h2 rfl M' σ G1 H1 Q m (s.mono s1) w1 fun b' G2 H2 s2 w2 e2 => q b' G2 H2 (s1.trans s2) w2 e2
    | true => exact q true G1 H1 s1 w1 rfl
theorem et_andR {Ra : Bool → Prop} (h1 : EvT K M ds t Ra) (h2 : Ra true → EvT K M ds u RT) (h3 : Ra false → RT false) : EvT K M ds (tAnd t u) RT := fun M' σ G H Q m s w q =>
  h1 M' σ G H _ m s w fun c G1 H1 s1 w1 e => by
    cases c with
    | true => exact h2 e M' σ G1 H1 Q m (s.mono s1) w1 fun b' G2 H2 s2 w2 e2 => q b' G2 H2 (s1.trans s2) w2 e2
    | false => exact q false G1 H1 s1 w1 (h3 e)
theorem et_orR {Ra : Bool → Prop} (h1 : EvT K M ds t Ra) (h2 : Ra false → EvT K M ds u RT) (h3 : Ra true → RT true) : EvT K M ds (tOr t u) RT := fun M' σ G H Q m s w q =>
  h1 M' σ G H _ m s w fun c G1 H1 s1 w1 e => by
    cases c with
    | false => exact h2 e M' σ G1 H1 Q m (s.mono s1) w1 fun b' G2 H2 s2 w2 e2 => q b' G2 H2 (s1.trans s2) w2 e2
    | true => exact q true G1 H1 s1 w1 (h3 e)
theorem et_not {a : Bool} (h : EvT K M ds t (· = a)) : EvT K M ds (tNot t) (· = !a) := fun M' σ G H Q m s w q =>
  h M' σ G H _ m s w fun c G1 H1 s1 w1 e => q _ G1 H1 s1 w1 (by rw [e])
theorem et_notR {Ra : Bool → Prop} (h : EvT K M ds t Ra) (f : ∀ b, Ra b → RT (!b)) : EvT K M ds (tNot t) RT := fun M' σ G H Q m s w q =>
  h M' σ G H _ m s w fun c G1 H1 s1 w1 e => q _ G1 H1 s1 w1 (f c e)
theorem et_yes : EvT K M ds tYes (· = true) := fun M' σ G H Q m s w q => q true G H (Same.refl G) w rfl
/-- truth of any value -/
def truD : D → Option Bool
  | .non => some false
  | .bl b => some b
  | .int i => some (i != 0)
  | .str x => some (x.length != 0)
  | .list xs => some (!xs.isEmpty)
  | .tup xs => some (!xs.isEmpty)
  | _ => none
theorem ev_ifE {c : Bool} {a b : D} (ht : EvT K M ds t (· = c)) (h1 : c = true → Ev K M ds ta (· = a)) (h2 : c = false → Ev K M ds tb (· = b)) : Ev K M ds (tIf t ta tb) (· = if c then a else b) := fun M' σ G H Q m s w q =>
  ht M' σ G H _ m s w fun c' G1 H1 s1 w1 e => by
    subst e
    cases c' with
    | true => exact h1 rfl M' σ G1 H1 Q m (s.mono s1) w1 fun v d G2 H2 s2 w2 r2 e2 => q v d G2 H2 (s1.trans s2) w2 r2 e2
    | false => exact h2 rfl M' σ G1 H1 Q m (s.mono s1) w1 fun v d G2 H2 s2 w2 r2 e2 => q v d G2 H2 (s1.trans s2) w2 r2 e2
theorem ev_ifR {Ra : Bool → Prop} (ht : EvT K M ds t Ra) (h1 : Ra true → Ev K M ds ta R) (h2 : Ra false → Ev K M ds tb R) : Ev K M ds (tIf t ta tb) R := fun M' σ G H Q m s w q =>
  ht M' σ G H _ m s w fun c' G1 H1 s1 w1 e => by
    cases c' with
    | true => exact h1 e M' σ G1 H1 Q m (s.mono s1) w1 fun v d G2 H2 s2 w2 r2 e2 => q v d G2 H2 (s1.trans s2) w2 r2 e2
    | false => exact h2 e M' σ G1 H1 Q m (s.mono s1) w1 fun v d G2 H2 s2 w2 r2 e2 => q v d G2 H2 (s1.trans s2) w2 r2 e2
theorem ev_andV {a : Bool} (ha : Ev K M ds ta (· = .bl a)) (hb : a = true → Ev K M ds tb R) (hf : a = false → R (.bl false)) : Ev K M ds (tAndV ta tb) R := fun M' σ G H Q m s w q =>
  ha M' σ G H _ m s w fun v d G1 H1 s1 w1 r1 e => by
    subst e
    refine ⟨a, r1.bl_inv, ?_⟩
    cases a with
    | true => exact hb rfl M' σ G1 H1 Q m (s.mono s1) w1 fun v d G2 H2 s2 w2 r2 e2 => q v d G2 H2 (s1.trans s2) w2 r2 e2
    | false => exact q _ _ G1 H1 s1 w1 (.bl false) (hf rfl)
theorem ev_orV {a : Bool} (ha : Ev K M ds ta (· = .bl a)) (hb : a = false → Ev K M ds tb R) (hf : a = true → R (.bl true)) : Ev K M ds (tOrV ta tb) R := fun M' σ G H Q m s w q =>
  ha M' σ G H _ m s w fun v d G1 H1 s1 w1 r1 e => by
    subst e
    refine ⟨a, r1.bl_inv, ?_⟩
    cases a with
    | false => exact hb rfl M' σ G1 H1 Q m (s.mono s1) w1 fun v d G2 H2 s2 w2 r2 e2 => q v d G2 H2 (s1.trans s2) w2 r2 e2
    | true => exact q _ _ G1 H1 s1 w1 (.bl true) (hf rfl)
theorem ev_andB {a b : Bool} (ha : Ev K M ds ta (· = .bl a)) (hb : a = true → Ev K M ds tb (· = .bl b)) : Ev K M ds (tAndV ta tb) (· = .bl (a && b)) :=
  ev_andV ha (fun e => by subst e; exact hb rfl) fun e => by subst e; rfl
theorem ev_orB {a b : Bool} (ha : Ev K M ds ta (· = .bl a)) (hb : a = false → Ev K M ds tb (· = .bl b)) : Ev K M ds (tOrV ta tb) (· = .bl (a || b)) :=
  ev_orV ha (fun e => by subst e; exact hb rfl) fun e => by subst e; rfl
theorem ev_notV {a : Bool} (ha : Ev K M ds ta (· = .bl a)) : Ev K M ds (tNotV ta) (· = .bl (!a)) := fun M' σ G H Q m s w q =>
  ha M' σ G H _ m s w fun v d G1 H1 s1 w1 r1 e => by
    subst e
    exact ⟨a, r1.bl_inv, q _ _ G1 H1 s1 w1 (.bl _) rfl⟩
theorem ev_isN {d : D} (ha : Ev K M ds ta (· = d)) (b : Bool) (hb : ∀ G v, Rp K G v d → decide (v = .non) = b) : Ev K M ds (tIsN ta) (· = .bl b) := fun M' σ G H Q m s w q =>
  ha M' σ G H _ m s w fun v d' G1 H1 s1 w1 r1 e => by
    subst e
    rw [hb G1 v r1]
    exact q _ _ G1 H1 s1 w1 (.bl _) rfl
/-- a < b < c -/
theorem ev_chain {r r' : R2} {x y z : D} {k : Bool} (ha : Ev K M ds ta (· = x)) (hb : Ev K M ds tb (· = y)) (hr : OpD K M r x y (· = .bl k)) (hc : k = true → Ev K M ds tc (· = z)) (hr' : k = true → OpD K M r' y z R) (hf : k = false → R (.bl false)) :
    Ev K M ds (tChain r r' ta tb tc) R := fun M' σ G H Q m s w q =>
  ha M' σ G H _ m s w fun v d G1 H1 s1 w1 r1 e1 => hb M' σ G1 H1 _ m (s.mono s1) w1 fun v2 d2 G2 H2 s2 w2 r2 e2 => by
    subst e1; subst e2
    refine hr M' G2 H2 v v2 _ m (r1.mono s2) r2 w2 fun v3 d3 G3 H3 s3 w3 r3 e3 => ?_
    subst e3
    refine ⟨k, r3.bl_inv, ?_⟩
    have s13 := (s1.trans s2).trans s3
    cases k with
    | true =>
      rw [if_pos rfl]
      refine hc rfl M' σ G3 H3 _ m (s.mono s13) w3 fun v4 d4 G4 H4 s4 w4 r4 e4 => ?_
      subst e4
      exact hr' rfl M' G4 H4 v2 v4 Q m (r2.mono (s3.trans s4)) r4 w4 fun v5 d5 G5 H5 s5 w5 r5 e5 => q v5 d5 G5 H5 ((s13.trans s4).trans s5) w5 r5 e5
    | false =>
      rw [if_neg Bool.false_ne_true]
      exact q _ _ G3 H3 s13 w3 (.bl false) (hf rfl)
/-! ### statements -/
variable {E : AE} {a b : TS}
theorem run_next (h : E.nx ds) : Run K M ds tNext E := fun M' σ G H Z m s w z => z.nx ds σ G H h (Same.refl G) s w
theorem run_brk (h : E.bk ds) : Run K M ds tBreak E := fun M' σ G H Z m s w z => z.bk ds σ G H h (Same.refl G) s w
theorem run_cnt (h : E.ct ds) : Run K M ds tCont E := fun M' σ G H Z m s w z => z.ct ds σ G H h (Same.refl G) s w
theorem run_seq (h : Run K M ds a { E with nx := fun ds' => Run K M ds' b E }) : Run K M ds (tSeq a b) E := fun M' σ G H Z m s w z =>
  h M' σ G H { Z with nx := b Z } m s w ⟨fun ds' σ' G' H' r g s' w' => r M' σ' G' H' Z m s' w' (z.mono g), z.rt, z.bk, z.ct⟩
theorem run_weak {E' : AE} (h : Run K M ds a E) (h1 : ∀ d, E.nx d → E'.nx d) (h2 : ∀ d, E.rt d → E'.rt d) (h3 : ∀ d, E.bk d → E'.bk d) (h4 : ∀ d, E.ct d → E'.ct d) : Run K M ds a E' := fun M' σ G H Z m s w z =>
  h M' σ G H Z m s w ⟨fun ds' σ' G' H' r => z.nx ds' σ' G' H' (h1 _ r), fun v d G' H' r => z.rt v d G' H' (h2 _ r), fun ds' σ' G' H' r => z.bk ds' σ' G' H' (h3 _ r), fun ds' σ' G' H' r => z.ct ds' σ' G' H' (h4 _ r)⟩
theorem run_ret (h : Ev K M ds te E.rt) : Run K M ds (tRet te) E := fun M' σ G H Z m s w z =>
  h M' σ G H _ m s w fun v d G1 H1 s1 w1 r1 e => z.rt v d G1 H1 e s1 r1 w1
theorem run_retN (h : E.rt .non) : Run K M ds tRetN E := fun M' σ G H Z m s w z => z.rt .non .non G H h (Same.refl G) .non w
theorem run_expr (h : Ev K M ds te R) (hn : ∀ d, R d → E.nx ds) : Run K M ds (tDrop te) E := fun M' σ G H Z m s w z =>
  h M' σ G H _ m s w fun v d G1 H1 s1 w1 r1 e => z.nx ds σ G1 H1 (hn d e) s1 (s.mono s1) w1
theorem run_asgN {i : Nat} (h : Ev K M ds te R) (hn : ∀ d, R d → E.nx (ds.set i (some d))) : Run K M ds (tAsg te (gName i)) E := fun M' σ G H Z m s w z =>
  h M' σ G H _ m s w fun v d G1 H1 s1 w1 r1 e => z.nx _ _ G1 H1 (hn d e) s1 ((s.mono s1).set i r1) w1
theorem run_if {tc : TT} (h : EvT K M ds tc RT) (h1 : RT true → Run K M ds a E) (h2 : RT false → Run K M ds b E) : Run K M ds (tIfS tc a b) E := fun M' σ G H Z m s w z =>
  h M' σ G H _ m s w fun c G1 H1 s1 w1 e => by
    cases c with
    | true => exact h1 e M' σ G1 H1 Z m (s.mono s1) w1 (z.mono s1)
    | false => exact h2 e M' σ G1 H1 Z m (s.mono s1) w1 (z.mono s1)
theorem run_never (h : False) : Run K M ds tNever E := h.elim
/-- the same in a row with what follows -/
theorem run_asg {i : Nat} (h : Ev K M ds te R) (hn : ∀ d, R d → Run K M (ds.set i (some d)) b E) : Run K M ds (tSeq (tAsg te (gName i)) b) E := run_seq (run_asgN h hn)
theorem run_asg1 {i : Nat} {d : D} (h : Ev K M ds te (· = d)) (hn : Run K M (ds.set i (some d)) b E) : Run K M ds (tSeq (tAsg te (gName i)) b) E := run_asg h fun _ e => by rw [e]; exact hn
theorem run_par {i j : Nat} {ta : TA} {RA : List D → Prop} (h : EvA K M ds ta RA) (hn : ∀ l, RA l → ∃ x y, l = [x, y] ∧ E.nx ((ds.set i (some x)).set j (some y))) : Run K M ds (tPar i j ta) E := fun M' σ G H Z m s w z =>
  h M' σ G H _ m s w fun vs es G1 H1 s1 w1 r1 e => by
    obtain ⟨x, y, rfl, hx⟩ := hn es e
    cases r1 with
    | cons p r =>
      cases r with
      | cons q r =>
        cases r
        exact ⟨_, _, rfl, z.nx _ _ G1 H1 hx s1 (((s.mono s1).set i p).set j q) w1⟩
/-! ### targets -/
/-- vs: the block's own slots in a comprehension, none in a for -/
def EvG (K : PySem.W.Frag) (M : Mt) (vs : Option (List Nat)) (g : TG) (d : D) (ds : DS) (N : DS → Prop) : Prop := ∀ (M' : Mt) (σ : L2.St) (G H : Hp) (v : V) (Q : L2.St → Hp → Prop), MSub M M' → Sg K G σ ds → Wd M' G H → Rp K G v d →
  (∀ ds' σ' G' H', N ds' → Same G G' → Sg K G' σ' ds' → Wd M' G' H' → (∀ l, vs = some l → ∀ ρ : L2.St, wipe σ l = wipe ρ l → wipe σ' l = wipe ρ l) → Q σ' H') → g v σ H Q
theorem wipe_none : ∀ {vs : List Nat} {σ : L2.St} {i : Nat}, i ∈ vs → (wipe σ vs)[i]? = some none ∨ (wipe σ vs)[i]? = none
  | v :: r, σ, i, h => by
    show ((wipe σ r).set v none)[i]? = some none ∨ ((wipe σ r).set v none)[i]? = none
    rw [List.getElem?_set]
    by_cases e : v = i
    · rw [if_pos e]
      split
      · exact .inl rfl
      · exact .inr rfl
    · rw [if_neg e]
      rcases List.mem_cons.mp h with q | q
      · exact absurd q.symm e
      · exact wipe_none q
theorem wipe_out : ∀ {vs : List Nat} {σ : L2.St} {i : Nat}, i ∉ vs → (wipe σ vs)[i]? = σ[i]?
  | [], _, _, _ => rfl
  | v :: r, σ, i, h => by
    show ((wipe σ r).set v none)[i]? = _
    have ne : ¬ v = i := fun e => h (by rw [e]; exact List.mem_cons_self)
    rw [List.getElem?_set, if_neg ne, wipe_out fun q => h (List.mem_cons_of_mem _ q)]
theorem wipe_wipe (σ : L2.St) (vs : List Nat) : wipe (wipe σ vs) vs = wipe σ vs := by
  apply List.ext_getElem?
  intro i
  by_cases h : i ∈ vs
  · have l1 : (wipe (wipe σ vs) vs).length = σ.length := by rw [wipe_length, wipe_length]
    have l2 : (wipe σ vs).length = σ.length := wipe_length σ vs
    rcases wipe_none (σ := wipe σ vs) h with a | a <;> rcases wipe_none (σ := σ) h with b | b
    · rw [a, b]
    · have := List.getElem?_eq_none_iff.mp b
      have := (List.getElem?_eq_some_iff.mp a).1
      omega
    · have := List.getElem?_eq_none_iff.mp a
      have := (List.getElem?_eq_some_iff.mp b).1
      omega
    · rw [a, b]
  · rw [wipe_out h]
theorem wipe_set_in : ∀ {vs : List Nat} {σ : L2.St} {i : Nat} {x : Option V}, i ∈ vs → wipe (σ.set i x) vs = wipe σ vs
  | v :: r, σ, i, x, h => by
    show ((wipe (σ.set i x) r).set v none) = (wipe σ r).set v none
    by_cases hr : i ∈ r
    · rw [wipe_set_in hr]
    · have e : i = v := by
        rcases List.mem_cons.mp h with e | e
        · exact e
        · exact absurd e hr
      subst e
      have key : ∀ (r : List Nat) (σ : L2.St), (wipe (σ.set i x) r).set i none = (wipe σ r).set i none := by
        intro r
        induction r with
        | nil => intro σ; rw [wipe, wipe, List.set_set]
        | cons k r ih =>
          intro σ
          show ((wipe (σ.set i x) r).set k none).set i none = ((wipe σ r).set k none).set i none
          by_cases hk : k = i
          · subst hk
            rw [List.set_set, List.set_set]
            exact ih σ
          · rw [List.set_comm _ _ hk, List.set_comm _ _ hk, ih σ]
      exact key r σ
def ownIn (vs : Option (List Nat)) (i : Nat) : Bool := match vs with
  | none => true
  | some l => l.contains i
theorem eg_name {vs : Option (List Nat)} {i : Nat} {d : D} {N : DS → Prop} (h : N (ds.set i (some d))) (hi : ownIn vs i = true := by rfl) : EvG K M vs (gName i) d ds N := fun M' σ G H v Q m s w r q =>
  q _ _ G H h (Same.refl G) (s.set i r) w fun l e ρ e2 => by
    subst e
    rw [wipe_set_in (List.contains_iff_mem.mp hi)]; exact e2
def EvGs (K : PySem.W.Frag) (M : Mt) (vs : Option (List Nat)) (g : TGs) (es : List D) (ds : DS) (N : DS → Prop) : Prop := ∀ (M' : Mt) (σ : L2.St) (G H : Hp) (xs : List V) (Q : L2.St → Hp → Prop), MSub M M' → Sg K G σ ds → Wd M' G H → RpAll K G xs es →
  (∀ ds' σ' G' H', N ds' → Same G G' → Sg K G' σ' ds' → Wd M' G' H' → (∀ l, vs = some l → ∀ ρ : L2.St, wipe σ l = wipe ρ l → wipe σ' l = wipe ρ l) → Q σ' H') → g xs σ H Q
theorem Rp.tupAt {H : Hp} {G : Hp} {v : V} {es : List D} (h : Rp K G v (.tup es)) (s : Same G H) : ∃ a xs, v = .ref a ∧ SqT K H a xs ∧ RpAll K G xs es := by
  obtain ⟨a, xs, e, h1, h2⟩ := h.tup_inv
  exact ⟨a, xs, e, same_t s h1, h2⟩
theorem eg_tup {vs : Option (List Nat)} {n : Nat} {g : TGs} {es : List D} {N : DS → Prop} (h : EvGs K M vs g es ds N) (hn : es.length = n := by rfl) : EvG K M vs (gTup K n g) (.tup es) ds N := fun M' σ G H v Q m s w r q => by
  obtain ⟨a, xs, e, h1, h2⟩ := r.tupAt w.sub
  exact ⟨a, xs, e, h1, by rw [h2.length, hn], h M' σ G H xs Q m s w h2 q⟩
theorem egs_nil {vs : Option (List Nat)} {N : DS → Prop} (h : N ds) : EvGs K M vs gNil [] ds N := fun M' σ G H xs Q m s w r q => by
  cases r
  exact ⟨rfl, q ds σ G H h (Same.refl G) s w fun _ _ _ e => e⟩
theorem egs_cons {vs : Option (List Nat)} {i : Nat} {g : TGs} {d : D} {es : List D} {N : DS → Prop} (h : EvGs K M vs g es (ds.set i (some d)) N) (hi : ownIn vs i = true := by rfl) : EvGs K M vs (gCons (gName i) g) (d :: es) ds N := fun M' σ G H xs Q m s w r q => by
  cases r with
  | cons p r =>
    refine ⟨_, _, rfl, ?_⟩
    refine h M' _ G H _ Q m (s.set i p) w r fun ds' σ' G' H' a b c d' f => q ds' σ' G' H' a b c d' fun l e ρ e2 => f l e ρ ?_
    subst e
    rw [wipe_set_in (List.contains_iff_mem.mp hi)]; exact e2
/-! ### what is walked -/
structure WalkD (K : PySem.W.Frag) (G : Hp) (J : It) (es : List D) : Prop where
  goes : ∀ i H G' M', i < es.length → Same G G' → Wd M' G' H → J.go i H
  stops : ∀ H G' M', Same G G' → Wd M' G' H → J.stop es.length H
  yields : ∀ i H x H' G' M', i < es.length → Same G G' → Wd M' G' H → J.yld i H x H' → ∃ G2 d, Same G' G2 ∧ Wd M' G2 H' ∧ es[i]? = some d ∧ Rp K G2 x d
def EvI (K : PySem.W.Frag) (M : Mt) (ds : DS) (wi : TI) (R : List D → Prop) : Prop := ∀ (M' : Mt) (σ : L2.St) (G H : Hp) (Z : It → Hp → Prop), MSub M M' → Sg K G σ ds → Wd M' G H →
  (∀ J es G' H', Same G G' → Wd M' G' H' → R es → WalkD K G' J es → Z J H') → wi σ H Z
theorem wd_list {G : Hp} {a : Addr} {xs : List V} {es : List D} (h : SqL K G a xs) (r : RpAll K G xs es) : WalkD K G (Itl K a) es := by
  have hl := r.length
  refine ⟨fun i H G' M' hi s w => ⟨xs, xs[i]'(by omega), w.sub.seq (s.seq h), by simp [show i < xs.length by omega]⟩, fun H G' M' s w => ⟨xs, w.sub.seq (s.seq h), by omega⟩, fun i H x H' G' M' hi s w y => ?_⟩
  obtain ⟨rfl, y⟩ := y
  obtain ⟨d, e, rd⟩ := (r.mono s).getV (y xs (w.sub.seq (s.seq h)))
  exact ⟨G', d, Same.refl _, w, e, rd⟩
theorem wd_tup {G : Hp} {a : Addr} {xs : List V} {es : List D} (h : SqT K G a xs) (r : RpAll K G xs es) : WalkD K G (Itt K a) es := by
  have hl := r.length
  refine ⟨fun i H G' M' hi s w => ⟨xs, xs[i]'(by omega), same_t w.sub (same_t s h), by simp [show i < xs.length by omega]⟩, fun H G' M' s w => ⟨xs, same_t w.sub (same_t s h), by omega⟩, fun i H x H' G' M' hi s w y => ?_⟩
  obtain ⟨rfl, y⟩ := y
  obtain ⟨d, e, rd⟩ := (r.mono s).getV (y xs (same_t w.sub (same_t s h)))
  exact ⟨G', d, Same.refl _, w, e, rd⟩
def rangeD (lo : Int) (n : Nat) : List D := (List.range n).map fun (i : Nat) => D.int (lo + i)
theorem wd_range {G : Hp} {lo : Int} {n : Nat} : WalkD K G (Itr lo n) (rangeD lo n) := by
  have hl : (rangeD lo n).length = n := by simp [rangeD]
  refine ⟨fun i H G' M' hi s w => by rw [hl] at hi; exact hi, fun H G' M' s w => by rw [hl]; exact Nat.le_refl _, fun i H x H' G' M' hi s w y => ?_⟩
  obtain ⟨rfl, rfl⟩ := y
  rw [hl] at hi
  exact ⟨G', .int (lo + i), Same.refl _, w, by simp [rangeD, hi], .int _⟩
/-- the signs of a text -/
def signsD (x : Str) : List D := x.cps.toList.map fun c => D.str ⟨#[c]⟩
theorem wd_str {G : Hp} {x : Str} : WalkD K G (Its x) (signsD x) := by
  have hl : (signsD x).length = x.cps.size := by simp [signsD]
  refine ⟨fun i H G' M' hi s w => by rw [hl] at hi; exact hi, fun H G' M' s w => by rw [hl]; exact Nat.le_refl _, fun i H v H' G' M' hi s w y => ?_⟩
  obtain ⟨rfl, c, hc, rfl⟩ := y
  refine ⟨G', .str ⟨#[c]⟩, Same.refl _, w, ?_, .str _⟩
  unfold signsD
  rw [List.getElem?_map, Array.getElem?_toList, hc]
  rfl
/-- the items of what is walked -/
def itemsD : D → Option (List D)
  | .list xs => some xs
  | .tup xs => some xs
  | .str x => some (signsD x)
  | .seq xs => some xs
  | _ => none
def iAny (K : PySem.W.Frag) (te : TE) : TI := fun σ H Z => te σ H fun v H1 => (∃ a, v = .ref a ∧ (∃ xs, SqL K H1 a xs) ∧ Z (Itl K a) H1) ∨ (∃ a, v = .ref a ∧ (∃ xs, SqT K H1 a xs) ∧ Z (Itt K a) H1) ∨ ∃ x, v = .str x ∧ Z (Its x) H1
theorem pi_any {X : Cx} {tg e : Expr} {te : TE} (he : PE X e te) : PI X tg e (iAny X.K te) := by
  refine ⟨fun pins s σ H Z J h => ?_⟩
  refine thn (he.run pins s σ H _ J h) fun v s2 ⟨x, H2, J2, rx, qx⟩ => ?_
  rcases qx with ⟨a, rfl, ⟨xs, hx⟩, q⟩ | ⟨a, rfl, ⟨xs, hx⟩, q⟩ | ⟨z, rfl, q⟩
  · cases rx
    obtain ⟨us, _, pl, _⟩ := J2.list hx
    exact wpAny_pyIter_list pl.isList (pi_one (tk := s2.toks) J2 _ (turn_list a _) ⟨_, Heap.get?_push_size _ rfl, rfl, rfl⟩ q)
  · cases rx
    obtain ⟨us, _, pl, _⟩ := J2.tuple hx
    exact wpAny_pyIter_tuple (show s2.heap.IsTuple a us.toArray from pl) (pi_one (tk := s2.toks) J2 _ (turn_tuple a _) ⟨_, Heap.get?_push_size _ rfl, rfl, rfl⟩ q)
  · obtain ⟨tz, rfl⟩ := rx
    cases hw : z.cps.all (· < 128)
    · exact wpAny_pyIter_wide hw (pi_one (tk := s2.toks) J2 _ (turn_str _ z tz "str_iterator" (.inr rfl)) ⟨_, Heap.get?_push_size _ rfl, rfl, rfl⟩ q)
    · exact wpAny_pyIter_ascii hw (pi_one (tk := s2.toks) J2 _ (turn_str _ z tz "str_ascii_iterator" (.inl rfl)) ⟨_, Heap.get?_push_size _ rfl, rfl, rfl⟩ q)
theorem ei_any {d : D} {es : List D} (h : Ev K M ds te (· = d)) (hi : itemsD d = some es) : EvI K M ds (iAny K te) (· = es) := fun M' σ G H Z m s w q =>
  h M' σ G H _ m s w fun v d' G1 H1 s1 w1 r1 e => by
    subst e
    cases r1 with
    | lst hx r => cases hi; exact .inl ⟨_, rfl, ⟨_, w1.sub.seq (sq hx)⟩, q _ _ G1 H1 s1 w1 rfl (wd_list (sq hx) r)⟩
    | tup hx r => cases hi; exact .inr (.inl ⟨_, rfl, ⟨_, same_t w1.sub hx⟩, q _ _ G1 H1 s1 w1 rfl (wd_tup hx r)⟩)
    | str x => cases hi; exact .inr (.inr ⟨_, rfl, q _ _ G1 H1 s1 w1 rfl wd_str⟩)
    | seq hx r => cases hi; exact .inl ⟨_, rfl, ⟨_, w1.sub.seq hx⟩, q _ _ G1 H1 s1 w1 rfl (wd_list hx r)⟩
    | _ => cases hi
theorem ei_anyR (h : Ev K M ds te R) {RI : List D → Prop} (hi : ∀ d, R d → ∃ es, itemsD d = some es ∧ RI es) : EvI K M ds (iAny K te) RI := fun M' σ G H Z m s w q =>
  h M' σ G H _ m s w fun v d' G1 H1 s1 w1 r1 e => by
    obtain ⟨es, hi, hes⟩ := hi d' e
    cases r1 with
    | lst hx r => cases hi; exact .inl ⟨_, rfl, ⟨_, w1.sub.seq (sq hx)⟩, q _ _ G1 H1 s1 w1 hes (wd_list (sq hx) r)⟩
    | tup hx r => cases hi; exact .inr (.inl ⟨_, rfl, ⟨_, same_t w1.sub hx⟩, q _ _ G1 H1 s1 w1 hes (wd_tup hx r)⟩)
    | str x => cases hi; exact .inr (.inr ⟨_, rfl, q _ _ G1 H1 s1 w1 hes wd_str⟩)
    | seq hx r => cases hi; exact .inl ⟨_, rfl, ⟨_, w1.sub.seq hx⟩, q _ _ G1 H1 s1 w1 hes (wd_list hx r)⟩
    | _ => cases hi
theorem ei_range1 {ta : TA} {RA : List D → Prop} (h : EvA K M ds ta RA) (hb : ∀ l, RA l → ∃ j : Int, l = [.int j] ∧ -(2 ^ 62) ≤ j ∧ j < 2 ^ 62) : EvI K M ds (iRng1 ta) (fun es => ∃ j : Int, RA [.int j] ∧ es = rangeD 0 j.toNat) := fun M' σ G H Z m s w q =>
  h M' σ G H _ m s w fun vs l G1 H1 s1 w1 r1 e => by
    obtain ⟨j, rfl, h1, h2⟩ := hb l e
    cases r1 with
    | cons p r =>
      cases r
      exact ⟨j, by rw [p.int_inv], h1, h2, q _ _ G1 H1 s1 w1 ⟨j, e, rfl⟩ wd_range⟩
theorem ei_range2 {ta : TA} {RA : List D → Prop} (h : EvA K M ds ta RA) (hb : ∀ l, RA l → ∃ i j : Int, l = [.int i, .int j] ∧ (-(2 ^ 62) ≤ i ∧ i < 2 ^ 62 ∧ -(2 ^ 62) ≤ j ∧ j < 2 ^ 62)) :
    EvI K M ds (iRng2 ta) (fun es => ∃ i j : Int, RA [.int i, .int j] ∧ es = rangeD i (j - i).toNat) := fun M' σ G H Z m s w q =>
  h M' σ G H _ m s w fun vs l G1 H1 s1 w1 r1 e => by
    obtain ⟨i, j, rfl, hb⟩ := hb l e
    cases r1 with
    | cons p r =>
      cases r with
      | cons p2 r =>
        cases r
        exact ⟨i, j, by rw [p.int_inv, p2.int_inv], hb, q _ _ G1 H1 s1 w1 ⟨i, j, e, rfl⟩ wd_range⟩
/-- zip of two lists or two tuples -/
def zipD (xs ys : List D) : List D := (xs.zip ys).map fun p => D.tup [p.1, p.2]
theorem zipD_get {xs ys : List D} {i : Nat} {x y : D} (hx : xs[i]? = some x) (hy : ys[i]? = some y) : (zipD xs ys)[i]? = some (.tup [x, y]) := by
  have hz : (xs.zip ys)[i]? = some (x, y) := List.getElem?_zip_eq_some.mpr ⟨hx, hy⟩
  unfold zipD
  rw [List.getElem?_map, hz]
  rfl
theorem wd_zipL {G : Hp} {a b : Addr} {xs ys : List V} {es fs : List D} (h : SqL K G a xs) (r : RpAll K G xs es) (h' : SqL K G b ys) (r' : RpAll K G ys fs) : WalkD K G (Itz K a b) (zipD es fs) := by
  have hl := r.length
  have hl' := r'.length
  have hz : (zipD es fs).length = min es.length fs.length := by simp [zipD]
  refine ⟨fun i H G' M' hi s w => ?_, fun H G' M' s w => ⟨xs, ys, w.sub.seq (s.seq h), w.sub.seq (s.seq h'), by omega⟩, fun i H x H' G' M' hi s w y => ?_⟩
  · exact ⟨xs, ys, xs[i]'(by omega), ys[i]'(by omega), w.sub.seq (s.seq h), w.sub.seq (s.seq h'), by simp [show i < xs.length by omega], by simp [show i < ys.length by omega]⟩
  · obtain ⟨T, v1, v2, rfl, nT, rfl, f1, f2⟩ := y
    obtain ⟨d1, e1, p1⟩ := (r.mono s).getV (f1 xs (w.sub.seq (s.seq h)))
    obtain ⟨d2, e2, p2⟩ := (r'.mono s).getV (f2 ys (w.sub.seq (s.seq h')))
    have sn := same_new (o := HO.tup [v1, v2]) (w.free nT)
    exact ⟨upd G' T (.tup [v1, v2]), .tup [d1, d2], sn, w.new nT, zipD_get e1 e2, .tup (.inl (.inl upd_same)) (.cons (p1.mono sn) (.cons (p2.mono sn) .nil))⟩
theorem wd_zipT {G : Hp} {a b : Addr} {xs ys : List V} {es fs : List D} (h : SqT K G a xs) (r : RpAll K G xs es) (h' : SqT K G b ys) (r' : RpAll K G ys fs) : WalkD K G (ItzT K a b) (zipD es fs) := by
  have hl := r.length
  have hl' := r'.length
  have hz : (zipD es fs).length = min es.length fs.length := by simp [zipD]
  refine ⟨fun i H G' M' hi s w => ?_, fun H G' M' s w => ⟨xs, ys, same_t w.sub (same_t s h), same_t w.sub (same_t s h'), by omega⟩, fun i H x H' G' M' hi s w y => ?_⟩
  · exact ⟨xs, ys, xs[i]'(by omega), ys[i]'(by omega), same_t w.sub (same_t s h), same_t w.sub (same_t s h'), by simp [show i < xs.length by omega], by simp [show i < ys.length by omega]⟩
  · obtain ⟨T, v1, v2, rfl, nT, rfl, f1, f2⟩ := y
    obtain ⟨d1, e1, p1⟩ := (r.mono s).getV (f1 xs (same_t w.sub (same_t s h)))
    obtain ⟨d2, e2, p2⟩ := (r'.mono s).getV (f2 ys (same_t w.sub (same_t s h')))
    have sn := same_new (o := HO.tup [v1, v2]) (w.free nT)
    exact ⟨upd G' T (.tup [v1, v2]), .tup [d1, d2], sn, w.new nT, zipD_get e1 e2, .tup (.inl (.inl upd_same)) (.cons (p1.mono sn) (.cons (p2.mono sn) .nil))⟩
theorem ei_zip {ta : TA} {x y : D} {es fs : List D} (h : EvA K M ds ta (· = [x, y])) (hxy : (x = .list es ∧ y = .list fs) ∨ (x = .tup es ∧ y = .tup fs)) : EvI K M ds (iZipA K ta) (· = zipD es fs) := fun M' σ G H Z m s w q =>
  h M' σ G H _ m s w fun vs l G1 H1 s1 w1 r1 e => by
    subst e
    cases r1 with
    | cons p r =>
      cases r with
      | cons p2 r =>
        cases r
        rcases hxy with ⟨rfl, rfl⟩ | ⟨rfl, rfl⟩
        · obtain ⟨a, xs, rfl, ha, ra⟩ := p.list_inv
          obtain ⟨b, ys, rfl, hb, rb⟩ := p2.list_inv
          exact ⟨a, b, xs, ys, rfl, .inl ⟨w1.sub.seq ha, w1.sub.seq hb, q _ _ G1 H1 s1 w1 rfl (wd_zipL ha ra hb rb)⟩⟩
        · obtain ⟨a, xs, rfl, ha, ra⟩ := p.tup_inv
          obtain ⟨b, ys, rfl, hb, rb⟩ := p2.tup_inv
          exact ⟨a, b, xs, ys, rfl, .inr ⟨same_t w1.sub ha, same_t w1.sub hb, q _ _ G1 H1 s1 w1 rfl (wd_zipT ha ra hb rb)⟩⟩
/-! ### for -/
theorem run_for {wi : TI} {g : TG} {tb : TS} {RI : List D → Prop} (hI : EvI K M ds wi RI) (h : ∀ es, RI es → ∃ Pv : Nat → DS → Prop, Pv 0 ds ∧
      (∀ i d ds', es[i]? = some d → Pv i ds' → EvG K M none g d ds' (fun ds2 => Run K M ds2 tb { nx := Pv (i + 1), ct := Pv (i + 1), bk := E.nx, rt := E.rt })) ∧ ∀ ds', Pv es.length ds' → E.nx ds') : Run K M ds (tFor wi g tb) E := fun M' σ G H Z m s w z =>
  hI M' σ G H _ m s w fun J es G1 H1 s1 w1 hes W => by
    obtain ⟨Pv, h0, hs, hd⟩ := h es hes
    refine for_it (n := es.length) (G := fun H => ∃ G2, Same G1 G2 ∧ Wd M' G2 H) (Y := fun i H x H' => J.yld i H x H') ⟨fun i H hi ⟨G2, s2, w2⟩ => W.goes i H G2 M' hi s2 w2, fun H ⟨G2, s2, w2⟩ => W.stops H G2 M' s2 w2, fun i H x H' _ _ y => y⟩
      (fun i σ' H' => ∃ ds' G2, Pv i ds' ∧ Same G1 G2 ∧ Sg K G2 σ' ds' ∧ Wd M' G2 H') ⟨ds, G1, h0, Same.refl _, s.mono s1, w1⟩ (fun i σ' H' _ ⟨_, G2, _, s2, _, w2⟩ => ⟨G2, s2, w2⟩) (fun i x σ' H2 H3 hi ⟨ds', G2, hp, s2, sg, w2⟩ y => ?_)
      (fun σ' H' ⟨ds', G2, hp, s2, sg, w2⟩ => z.nx ds' σ' G2 H' (hd ds' hp) (s1.trans s2) sg w2)
    obtain ⟨G3, d, s3, w3, hd', rd⟩ := W.yields i H2 x H3 G2 M' hi s2 w2 y
    refine hs i d ds' hd' hp M' σ' G3 H3 x _ m (sg.mono s3) w3 rd fun ds2 σ2 G4 H4 hr s4 sg4 w4 _ => ?_
    have s14 := (s2.trans s3).trans s4
    exact hr M' σ2 G4 H4 _ m sg4 w4 ⟨fun ds5 σ5 G5 H5 r5 s5 sg5 w5 => ⟨ds5, G5, r5, s14.trans s5, sg5, w5⟩, fun v d G5 H5 r5 s5 rp5 w5 => z.rt v d G5 H5 r5 (s1.trans (s14.trans s5)) rp5 w5,
      fun ds5 σ5 G5 H5 r5 s5 sg5 w5 => z.nx ds5 σ5 G5 H5 r5 (s1.trans (s14.trans s5)) sg5 w5, fun ds5 σ5 G5 H5 r5 s5 sg5 w5 => ⟨ds5, G5, r5, s14.trans s5, sg5, w5⟩⟩
/-! ### comprehensions -/
def wipeD (ds : DS) : List Nat → DS
  | [] => ds
  | v :: vs => (wipeD ds vs).set v none
theorem Sg.wipe {G : Hp} {σ : L2.St} (s : Sg K G σ ds) : ∀ vs : List Nat, Sg K G (wipe σ vs) (wipeD ds vs)
  | [] => s
  | v :: vs => (Sg.wipe s vs).drop
theorem Wd.put {G H : Hp} {p : Addr} {o : HO} {φ ψ : Hp → HO → Prop} (w : Wd (M.cons (p, φ)) G H) (f : ψ G o) (mo : ∀ G1 G2 o, Same G1 G2 → ψ G1 o → ψ G2 o) : Wd (M.cons (p, ψ)) G (upd H p o) := by
  have nd := w.nd
  rw [List.map_cons, List.nodup_cons] at nd
  refine ⟨⟨fun a u e => ?_, fun m hm => ?_, fun m hm => ?_, w.nd⟩, w.xk⟩
  · have ne : a ≠ p := fun z => by
      have := (w.mt _ List.mem_cons_self).1
      rw [z] at e; rw [e] at this; cases this
    rw [upd_ne ne]; exact w.sub a u e
  · rcases List.mem_cons.mp hm with rfl | hm
    · exact ⟨(w.mt _ List.mem_cons_self).1, o, upd_same, f⟩
    · have ne : m.1 ≠ p := fun z => nd.1 (List.mem_map.mpr ⟨m, hm, z⟩)
      obtain ⟨g, u, hu, f'⟩ := w.mt m (List.mem_cons_of_mem _ hm)
      exact ⟨g, u, by rw [upd_ne ne]; exact hu, f'⟩
  · rcases List.mem_cons.mp hm with rfl | hm
    · exact mo
    · exact w.mono m (List.mem_cons_of_mem _ hm)
def isL (xs : List V) : Hp → HO → Prop := fun _ o => o = .lst xs
theorem ev_lc {wi : TI} {g : TG} {tt : TT} {vs : List Nat} {RI : List D → Prop} (hI : EvI K M ds wi RI) (h : ∀ es, RI es → es.length ≤ 100000 ∧ ∃ Pv : Nat → List D → Prop, Pv 0 [] ∧
      (∀ i d acc, es[i]? = some d → acc.length ≤ i → Pv i acc → EvG K M (some vs) g d (wipeD ds vs) (fun ds2 => ∃ RT : Bool → Prop, EvT K M ds2 tt RT ∧ (RT true → Ev K M ds2 te (fun y => Pv (i + 1) (acc ++ [y]))) ∧ (RT false → Pv (i + 1) acc))) ∧
      ∀ acc, acc.length ≤ es.length → Pv es.length acc → R (.list acc)) : Ev K M ds (tLc wi g tt te vs) R := fun M' σ G H Q m s w q =>
  hI M' σ G H _ m s w fun J es G1 H1 s1 w1 hes W D hD => by
    obtain ⟨hl, Pv, h0, hs, hd⟩ := h es hes
    have mo : ∀ xs : List V, ∀ (G1 G2 : Hp) (o : HO), Same G1 G2 → isL xs G1 o → isL xs G2 o := fun _ _ _ _ _ e => e
    refine lc_it (n := es.length) (G := fun H => ∃ G2 M2, Same G1 G2 ∧ Wd M2 G2 H) (Y := fun i H x H' => J.yld i H x H') ⟨fun i H hi ⟨G2, M2, s2, w2⟩ => W.goes i H G2 M2 hi s2 w2, fun H ⟨G2, M2, s2, w2⟩ => W.stops H G2 M2 s2 w2, fun i H x H' _ _ y => y⟩
      (fun i H' => ∃ G2 xs acc, Same G1 G2 ∧ Wd (M'.cons (D, isL xs)) G2 H' ∧ RpAll K G2 xs acc ∧ Pv i acc ∧ acc.length ≤ i) ⟨G1, [], [], Same.refl _, w1.newM hD rfl (mo []), .nil, h0, Nat.le_refl _⟩
      (fun i H' _ ⟨G2, xs, acc, s2, w2, _⟩ => ⟨G2, _, s2, w2⟩) (fun i x H2 H3 hi ⟨G2, xs, acc, s2, w2, ra, hp, hla⟩ y => ?_) (fun H' ⟨G2, xs, acc, s2, w2, ra, hp, hla⟩ => ?_)
    · obtain ⟨G3, d, s3, w3, hd', rd⟩ := W.yields i H2 x H3 G2 _ hi s2 w2 y
      refine hs i d acc hd' hla hp _ (wipe σ vs) G3 H3 x _ (MSub.cons m) ((s.mono ((s1.trans s2).trans s3)).wipe vs) w3 rd fun ds2 σ2 G4 H4 ⟨RT, hT, hE, hN⟩ s4 sg4 w4 hw => ?_
      refine ⟨?_, ?_⟩
      · have e := hw vs rfl (wipe σ vs) rfl
        have e2 : wipe (wipe σ vs) vs = wipe σ vs := wipe_wipe σ vs
        rw [e, e2]
      · refine hT _ σ2 G4 H4 _ (MSub.cons m) sg4 w4 fun b G5 H5 s5 w5 hb => ?_
        cases b with
        | true =>
          rw [if_pos rfl]
          refine hE hb _ σ2 G5 H5 _ (MSub.cons m) (sg4.mono s5) w5 fun v d6 G6 H6 s6 w6 r6 p6 => ?_
          obtain ⟨_, o, ho, eo⟩ := w6.mt _ List.mem_cons_self
          have eo : o = .lst xs := eo
          subst eo
          have s26 := ((s3.trans s4).trans s5).trans s6
          refine ⟨xs, ho, ?_, G6, xs ++ [v], acc ++ [d6], s2.trans s26, w6.put rfl (mo _), (ra.mono s26).append (.cons r6 .nil), p6, ?_⟩
          · have := ra.length
            exact Nat.lt_of_le_of_lt (show xs.length ≤ 100000 by omega) (by decide)
          · simp only [List.length_append, List.length_singleton]; omega
        | false =>
          rw [if_neg Bool.false_ne_true]
          exact ⟨G5, xs, acc, s2.trans ((s3.trans s4).trans s5), w5, ra.mono ((s3.trans s4).trans s5), hN hb, Nat.le_succ_of_le hla⟩
    · obtain ⟨g0, o, ho, eo⟩ := w2.mt _ List.mem_cons_self
      have eo : o = .lst xs := eo
      subst eo
      have sn := same_new (o := HO.lst xs) g0
      exact q (.ref D) (.list acc) (upd G2 D (.lst xs)) H' ((s1.trans s2).trans sn) (w2.freeze ho) (.lst upd_same (ra.mono sn)) (hd acc hla hp)
end
end Rg
namespace Rg
open PySem L2 RZ PyProof.Rows
/-! ### a def's promise, told of the data -/
/-- pre: what it asks of what changes and of the arguments; post: what it gives; px: what it may raise -/
def spX (K : PySem.W.Frag) (pre : Ml → List D → Prop) (post px : List D → D → Prop) : Sp := fun vs H Q E => ∃ M G as, Wd0 M G H ∧ RpAll K G vs as ∧ pre M as ∧ (∀ v d G' H', Same G G' → Wd0 M G' H' → Rp K G' v d → post as d → Q v H') ∧
  ∀ c dx x G' H', Same G G' → Wd0 M G' H' → XRp K G' c dx x → px as x → E c dx H'
abbrev spF (K : PySem.W.Frag) (pre : Ml → List D → Prop) (post : List D → D → Prop) : Sp := spX K pre post fun _ _ => False
/-- M in the body of a def that may raise px -/
abbrev mfn (K : PySem.W.Frag) (M : Ml) (E : XK) (px : D → Prop) : Mt := { l := M, b := M, sub := List.Sublist.refl _, ex := fun l' G _ c d => l' = [] ∧ ∃ x, px x ∧ XRp K G c d x, W := fun c d _ H => E c d H }
theorem exk_fn {K : PySem.W.Frag} {M : Ml} {E : XK} {px : D → Prop} {x : D} {ds : DS} (h : px x) : Exk K (mfn K M E px) x ds := fun _ _ _ _ hx _ => ⟨rfl, x, h, hx⟩
section
variable {P : Program} {w : World} {K : PySem.W.Frag} {mg : Str → Option Value} {base : Heap} {pre : Ml → List D → Prop} {post px : List D → D → Prop}
theorem spX_run {N : List Str} {t : TS} {vs : List V} {H : Hp} {Q : VK} {E : XK} (hrun : ∀ M as, pre M as → Run K (mfn K M E (px as)) (as.map some ++ List.replicate (N.length - as.length) none) t { nx := fun _ => post as .non, rt := post as }) (h : spX K pre post px vs H Q E) :
    t { nx := fun _ H' => Q .non H', rt := Q } (start N vs) H := by
  obtain ⟨M, G, as, wd, r, hp, q, qx⟩ := h
  exact hrun M as hp _ _ G H _ (MSub.refl _) (Sg.start r) ⟨wd, fun l' c d σ' G' H' ⟨el, x, px, hx⟩ s' w' => qx c d x G' H' s' (by subst el; exact w') hx px⟩ ⟨fun ds' σ' G' H' e s' _ w' => q _ _ G' H' s' w'.toWd0 .non e, fun v d G' H' e s' r' w' => q v d G' H' s' w'.toWd0 r' e, fun _ _ _ _ e => e.elim, fun _ _ _ _ e => e.elim⟩
theorem spX_len {vs : List V} {H : Hp} {Q : VK} {E : XK} {n : Nat} (hl : ∀ M as, pre M as → as.length = n) (h : spX K pre post px vs H Q E) : vs.length = n := by
  obtain ⟨M, G, as, _, r, hp, _⟩ := h
  rw [r.length]
  exact hl M as hp
theorem fn_run {x qual : Str} {st : Stmt} {f : Addr} {fd : FuncData} {N ps : List Str} {k : Nat} (F : Fun K x qual st f fd) (S : FnScope N ps (defScope st)) (hl : ∀ M as, pre M as → as.length = ps.length)
    (body : ∀ (cdv : Value) (A : Around) (outer : List Env) (s : Shared) (H : Hp) (E : XK), Room k (A.deeper (envOfC qual (defScope st) s.heap.objs.size f cdv)) →
      ∃ t, PSs (cxOf CX0 P w K mg base N qual (defScope st) f cdv A outer s H E).nox (defBody st) t ∧
        ∀ (M : Mt) as, pre M.l as → Run K M (as.map some ++ List.replicate (N.length - as.length) none) t { nx := fun _ => post as .non, rt := post as }) : FnOk P w K mg base CX0 (k + 1) f fd ps (spF K pre post) := by
  refine F.ok S (fun vs H Q E h => spX_len hl h) (fun cdv A outer s H vs Q E hr h => ?_)
  obtain ⟨t, ht, hrun⟩ := body cdv A outer s H E hr
  exact ⟨t, ht, spX_run (fun M as hp => hrun _ as hp) h⟩
/-- a def that may raise -/
theorem fn_runX {x qual : Str} {st : Stmt} {f : Addr} {fd : FuncData} {N ps : List Str} {k : Nat} (F : Fun K x qual st f fd) (S : FnScope N ps (defScope st)) (hl : ∀ M as, pre M as → as.length = ps.length)
    (body : ∀ (X : Cx) (cdv : Value) (A : Around) (outer : List Env) (s : Shared) (H : Hp) (E : XK), X = cxOf (L2.CX P w) P w K mg base N qual (defScope st) f cdv A outer s H E → Room k (A.deeper (envOfC qual (defScope st) s.heap.objs.size f cdv)) → Takes X (fun c d _ H => E c d H) →
      ∃ t, PSs (cxOf (L2.CX P w) P w K mg base N qual (defScope st) f cdv A outer s H E) (defBody st) t ∧
        ∀ (M : Ml) as, pre M as → Run K (mfn K M E (px as)) (as.map some ++ List.replicate (N.length - as.length) none) t { nx := fun _ => post as .non, rt := post as }) : FnOk P w K mg base (L2.CX P w) (k + 1) f fd ps (spX K pre post px) := by
  refine F.okX S (fun vs H Q E h => spX_len hl h) (fun cdv A outer s H vs Q E hr h => ?_)
  obtain ⟨t, ht, hrun⟩ := body _ cdv A outer s H E rfl hr (takes_of (X := cxOf (L2.CX P w) P w K mg base N qual (defScope st) f cdv A outer s H E) rfl rfl rfl rfl)
  exact ⟨t, ht, spX_run hrun h⟩
end
section
variable {K : PySem.W.Frag} {M M1 : Mt} {ds : DS} {te ta tb tc : TE} {t u : TT} {R R' : D → Prop} {RT RT' : Bool → Prop} {pre : Ml → List D → Prop} {post px : List D → D → Prop}
theorem ev_callD {ta : TA} {RA : List D → Prop} {dvs : List V} {dd : List D} {E : XK} (ha : EvA K M ds ta RA) (hd : ∀ G, RpAll K G dvs dd) (h : ∀ as, RA as → (∀ M', MSub M M' → pre M'.l (as ++ dd)) ∧ ∀ d, post (as ++ dd) d → R d) :
    Ev K M ds (tCall (spF K pre post) dvs E ta) R := fun M' σ G H Q m s w q =>
  ha M' σ G H _ m s w fun vs as G1 H1 s1 w1 r1 e => ⟨M'.l, G1, as ++ dd, w1.toWd0, r1.append (hd G1), (h as e).1 M' m, fun v d G2 H2 s2 w2 r2 p2 => q v d G2 H2 (s1.trans s2) (w1.to s2 w2) r2 ((h as e).2 d p2), fun _ _ _ _ _ _ _ _ z => z.elim⟩
theorem ev_call {ta : TA} {RA : List D → Prop} {E : XK} (ha : EvA K M ds ta RA) (h : ∀ as, RA as → (∀ M', MSub M M' → pre M'.l as) ∧ ∀ d, post as d → R d) :
    Ev K M ds (tCall (spF K pre post) [] E ta) R := ev_callD ha (fun _ => .nil) fun as e => by rw [List.append_nil]; exact h as e
theorem ev_call1 {ta : TA} {as : List D} {E : XK} (ha : EvA K M ds ta (· = as)) (h : ∀ M', MSub M M' → pre M'.l as) : Ev K M ds (tCall (spF K pre post) [] E ta) (post as) :=
  ev_call ha fun _ e => by rw [e]; exact ⟨h, fun _ q => q⟩
theorem ev_callK {ta tk : TA} {RA RK : List D → Prop} {E : XK} {gV : List V → List V → List V} {gD : List D → List D → List D} (ha : EvA K M ds ta RA) (hk : EvA K M ds tk RK)
    (hg : ∀ G vs zs as ks, RA as → RK ks → RpAll K G vs as → RpAll K G zs ks → RpAll K G (gV vs zs) (gD as ks)) (h : ∀ as ks, RA as → RK ks → (∀ M', MSub M M' → pre M'.l (gD as ks)) ∧ ∀ d, post (gD as ks) d → R d) :
    Ev K M ds (tCallK (spF K pre post) gV E ta tk) R := fun M' σ G H Q m s w q =>
  ha M' σ G H _ m s w fun vs as G1 H1 s1 w1 r1 e => hk M' σ G1 H1 _ m (s.mono s1) w1 fun zs ks G2 H2 s2 w2 r2 e2 =>
    ⟨M'.l, G2, gD as ks, w2.toWd0, hg G2 vs zs as ks e e2 (r1.mono s2) r2, (h as ks e e2).1 M' m, fun v d G3 H3 s3 w3 r3 p3 => q v d G3 H3 ((s1.trans s2).trans s3) (w2.to s3 w3) r3 ((h as ks e e2).2 d p3), fun _ _ _ _ _ _ _ _ z => z.elim⟩
/-- an exception is let on -/
theorem Wd.toW {M' : Mt} {W : WX} {G G1 H1 : Hp} {H : Hp} {σ : L2.St} {c : Value} {dx : Option Addr} {x : D} (w : Wd M' G H) (m : MSub M M') (hW : M.W = W) (s1 : Same G G1) (w1 : Wd0 M'.l G1 H1) (sg : Sg K G1 σ ds) (hx : XRp K G1 c dx x) (k : Exk K M x ds) : W c dx σ H1 := by
  have z := (w.to s1 w1).take (cls := c) (d := dx) (σ := σ) (by rw [m.ex]; exact k G1 σ c dx hx sg)
  rw [m.W, hW] at z
  exact z
/-- a call that may raise -/
theorem ev_callX {ta : TA} {RA : List D → Prop} {W : WX} (hW : M.W = W) (ha : EvA K M ds ta RA) (h : ∀ as, RA as → (∀ M', MSub M M' → pre M'.l as) ∧ (∀ d, post as d → R d) ∧ ∀ x, px as x → Exk K M x ds) :
    Ev K M ds (tCallS (spX K pre post px) (WE W) ta) R := fun M' σ G H Q m s w q =>
  ha M' σ G H _ m s w fun vs as G1 H1 s1 w1 r1 e => ⟨M'.l, G1, as, w1.toWd0, r1, (h as e).1 M' m, fun v d G2 H2 s2 w2 r2 p2 => q v d G2 H2 (s1.trans s2) (w1.to s2 w2) r2 ((h as e).2.1 d p2),
    fun c dx x G2 H2 s2 w2 hx p => w1.toW m hW s2 w2 (s.mono (s1.trans s2)) hx ((h as e).2.2 x p)⟩
/-! ### kinds -/
def tyD : D → Option String
  | .non => some "NoneType"
  | .bl _ => some "bool"
  | .int _ => some "int"
  | .str _ => some "str"
  | .list _ => some "list"
  | .tup _ => some "tuple"
  | .dict _ _ => some "dict"
  | _ => none
theorem ty_of {G H : Hp} {v : V} {d : D} {n : String} (h : Rp K G v d) (s : Same G H) (e : tyD d = some n) : TyX K H v (.type n) := by
  cases h with
  | non => cases e; exact .base .non
  | bl b => cases e; exact .base (.bl b)
  | int i => cases e; exact .base (.int i)
  | str x => cases e; exact .base (.str x)
  | lst h r =>
    cases e
    exact .base (.lst (s _ _ h))
  | tup h r =>
    cases e
    rcases h with (h | ⟨o, h⟩) | ⟨o, its, k, h1, h2, _⟩
    · exact .base (.tup (s _ _ h))
    · exact .fTuple (s _ _ h)
    · exact .kTuple h1 h2
  | obj _ _ => cases e
  | exc _ _ _ => cases e
  | cau _ _ => cases e
  | seq _ _ => cases e
  | raw _ => cases e
  | fob _ _ _ => cases e
  | ldict _ _ => cases e
  | dict h r =>
    cases e
    exact .base (.dK (s _ _ h))
def isD (d : D) (n : String) : Option Bool := (tyD d).bind fun a => kitB a n
theorem isD_inv {d : D} {n : String} {b : Bool} (h : isD d n = some b) : ∃ a, tyD d = some a ∧ kitB a n = some b := by
  unfold isD at h
  cases e : tyD d with
  | none => rw [e] at h; cases h
  | some a => rw [e] at h; exact ⟨a, rfl, h⟩
theorem cd_isi {d : D} {n : String} {b : Bool} (h : isD d n = some b) : CallD K M (rIsi K) [d, .raw (.ty n)] (· = .bl b) := fun M' G H xs Q m r w q => by
  obtain ⟨a, e1, e2⟩ := isD_inv h
  cases r with
  | cons p r =>
    cases r with
    | cons p2 r =>
      cases r
      cases p2
      exact ⟨_, _, .type a, .type n, b, rfl, .ty n, ty_of p w.sub e1, kit_ty e2, q _ _ G H (Same.refl G) w (.bl b) rfl⟩
theorem ev_isiT2 {d : D} {n1 n2 : String} {b1 b2 : Bool} {tcs : TA} (ha : Ev K M ds ta (· = d)) (hc : EvA K M ds tcs (· = [.raw (.ty n1), .raw (.ty n2)])) (h1 : isD d n1 = some b1) (h2 : isD d n2 = some b2) :
    Ev K M ds (tCB (rIsiT K) (tCons ta (tCons (tTup tcs) tNil))) (· = .bl (b1 || b2)) := fun M' σ G H Q m s w q => by
  obtain ⟨a1, e1, e1'⟩ := isD_inv h1
  obtain ⟨a2, e2, e2'⟩ := isD_inv h2
  have ea : a1 = a2 := Option.some.inj (e1.symm.trans e2)
  subst ea
  refine ha M' σ G H _ m s w fun v d' G1 H1 s1 w1 r1 e => ?_
  subst e
  refine hc M' σ G1 H1 _ m (s.mono s1) w1 fun vs es G2 H2 s2 w2 r2 e3 => ?_
  subst e3
  cases r2 with
  | cons p r =>
    cases r with
    | cons p2 r =>
      cases r
      cases p; cases p2
      refine ⟨show 2 ≤ sizeLine by decide, fun tp hp => ?_⟩
      have sn := same_new (o := HO.tup [V.ty n1, V.ty n2]) (w2.free hp)
      have wn := w2.new (o := HO.tup [V.ty n1, V.ty n2]) hp
      refine ⟨v, tp, [.ty n1, .ty n2], .type a1, [.type n1, .type n2], b1 || b2, rfl, upd_same, .cons (.ty n1) (.cons (.ty n2) .nil), ty_of ((r1.mono s2).mono sn) wn.sub e1, ?_, q _ _ _ _ ((s1.trans s2).trans sn) wn (.bl _) rfl⟩
      refine kitAny_cons (kit_ty e1') (fun hb => kitAny_cons (kit_ty e2') (fun hb2 => ?_) fun hb2 => ?_) fun hb => ?_
      · rw [hb, hb2]; rfl
      · rw [hb, hb2]; rfl
      · rw [hb]; rfl
/-! ### sizes, items, slices -/
def lenD : D → Option Nat
  | .seq xs => some xs.length
  | .str x => if x.length ≤ 100000 then some x.length else none
  | .list xs => some xs.length
  | .tup xs => some xs.length
  | _ => none
theorem cd_len {d : D} {n : Nat} (h : lenD d = some n) : CallD K M (fun xs H Q => ∃ x n, xs = [x] ∧ LenV K x H n ∧ Q (.int (n : Nat)) H) [d] (· = .int n) := fun M' G H xs Q m r w q => by
  cases r with
  | cons p r =>
    cases r
    refine ⟨_, n, rfl, ?_, q _ _ G H (Same.refl G) w (.int _) rfl⟩
    cases p with
    | str x =>
      replace h : (if x.length ≤ 100000 then some x.length else none) = some n := h
      split at h
      · rename_i hx
        exact ⟨Nat.le_trans hx (by decide), (Option.some.inj h).symm⟩
      · cases h
    | lst hx r => exact .inl ⟨_, w.sub.seq (sq hx), by rw [r.length]; exact (Option.some.inj h).symm⟩
    | tup hx r => exact .inr ⟨_, same_t w.sub hx, by rw [r.length]; exact (Option.some.inj h).symm⟩
    | seq hx r => exact .inl ⟨_, w.sub.seq hx, by rw [r.length]; exact (Option.some.inj h).symm⟩
    | _ => cases h
/-- the item at i -/
def itemD : D → Int → Option D
  | .list xs, i => atI xs i
  | .tup xs, i => atI xs i
  | .str x, i => if x.length ≤ 100000 then (atI x.cps.toList i).map fun c => D.str ⟨#[c]⟩ else none
  | _, _ => none
theorem RpAll.atI {G : Hp} {xs : List V} {es : List D} {i : Int} {d : D} (r : RpAll K G xs es) (h : L2.atI es i = some d) : ∃ v, L2.atI xs i = some v ∧ Rp K G v d := by
  unfold L2.atI at h ⊢
  rw [r.length]
  cases e : ixN es.length i with
  | none => rw [e] at h; cases h
  | some j =>
    rw [e] at h
    obtain ⟨v, e1, r1⟩ := r.get (show es[j]? = some d from h)
    exact ⟨v, e1, r1⟩
theorem od_ix {d e : D} {i : Int} (h : itemD d i = some e) : OpD K M (rIx K) d (.int i) (· = e) := fun M' G H x y Q m rx ry w q => by
  obtain rfl := ry.int_inv
  cases rx with
  | lst hx r =>
    obtain ⟨v, e1, r1⟩ := r.atI h
    exact .inl ⟨_, _, i, v, rfl, rfl, w.sub.seq (sq hx), e1, q v e G H (Same.refl G) w r1 rfl⟩
  | tup hx r =>
    obtain ⟨v, e1, r1⟩ := r.atI h
    exact .inr (.inl ⟨_, _, i, v, rfl, rfl, same_t w.sub hx, e1, q v e G H (Same.refl G) w r1 rfl⟩)
  | str x =>
    replace h : (if x.length ≤ 100000 then (L2.atI x.cps.toList i).map fun c => D.str ⟨#[c]⟩ else none) = some e := h
    split at h
    · rename_i hx
      cases ec : L2.atI x.cps.toList i with
      | none => rw [ec] at h; cases h
      | some c =>
        rw [ec] at h
        cases h
        exact .inr (.inr ⟨x, i, c, rfl, rfl, Nat.le_trans hx (by decide), ec, q _ _ G H (Same.refl G) w (.str _) rfl⟩)
    · cases h
  | _ => cases h
def EvO (K : PySem.W.Frag) (M : Mt) (ds : DS) (to : TO) (o : Option Int) : Prop := ∀ (M' : Mt) (σ : L2.St) (G H : Hp) (Q : Option Int → Hp → Prop), MSub M M' → Sg K G σ ds → Wd M' G H → (∀ G' H', Same G G' → Wd M' G' H' → Q o H') → to σ H Q
theorem eo_none : EvO K M ds tNoPart none := fun M' σ G H Q m s w q => q G H (Same.refl G) w
theorem eo_some {i : Int} (h : Ev K M ds te (· = .int i)) : EvO K M ds (tPart te) (some i) := fun M' σ G H Q m s w q =>
  h M' σ G H _ m s w fun v d G1 H1 s1 w1 r1 e => by
    subst e
    exact ⟨i, r1.int_inv, q G1 H1 s1 w1⟩
def cutD (xs : List D) (lo hi : Option Int) : List D := (xs.drop (HT.sIx xs.length 0 lo)).take (HT.sIx xs.length xs.length hi - HT.sIx xs.length 0 lo)
theorem RpAll.cut {G : Hp} {xs : List V} {es : List D} (r : RpAll K G xs es) (lo hi : Option Int) : RpAll K G (cutV xs lo hi) (cutD es lo hi) := by
  unfold cutV cutD
  rw [r.length]
  exact (r.drop _).take _
/-- slices of texts and lists -/
def rSlU (K : PySem.W.Frag) : V → Option Int → Option Int → Hp → VK → Prop := fun x lo hi H Q => rSlS x lo hi H Q ∨ (rSlL K x lo hi H Q ∨ rSlA K x lo hi H Q)
theorem sl_any {X : Cx} : SlR X (rSlU X.K) := sl_str.or (sl_list.or sl_tupA)
theorem ev_slS {tl th : TO} {x : Str} {lo hi : Option Int} (h : Ev K M ds te (· = .str x)) (hl : EvO K M ds tl lo) (hh : EvO K M ds th hi) (hx : x.length ≤ 100000) : Ev K M ds (tSl (rSlU K) te tl th) (· = .str (cutS x lo hi)) := fun M' σ G H Q m s w q =>
  h M' σ G H _ m s w fun v d G1 H1 s1 w1 r1 e => hl M' σ G1 H1 _ m (s.mono s1) w1 fun G2 H2 s2 w2 => hh M' σ G2 H2 _ m (s.mono (s1.trans s2)) w2 fun G3 H3 s3 w3 => by
    subst e
    exact .inl ⟨x, r1.str_inv, Nat.le_trans hx (by decide), q _ _ G3 H3 ((s1.trans s2).trans s3) w3 (.str _) rfl⟩
theorem ev_slQ {tl th : TO} {xs : List D} {lo hi : Option Int} (h : Ev K M ds te (· = .seq xs)) (hl : EvO K M ds tl lo) (hh : EvO K M ds th hi) : Ev K M ds (tSl (rSlU K) te tl th) (· = .list (cutD xs lo hi)) := fun M' σ G H Q m s w q =>
  h M' σ G H _ m s w fun v d G1 H1 s1 w1 r1 e => hl M' σ G1 H1 _ m (s.mono s1) w1 fun G2 H2 s2 w2 => hh M' σ G2 H2 _ m (s.mono (s1.trans s2)) w2 fun G3 H3 s3 w3 => by
    subst e
    cases r1 with
    | @seq a us _ hx r =>
      refine .inr (.inl ⟨_, _, rfl, w3.sub.seq ((s2.trans s3).seq hx), fun p hp => ?_⟩)
      have sn := same_new (o := HO.lst (cutV us lo hi)) (w3.free hp)
      exact q (.ref p) _ _ _ (((s1.trans s2).trans s3).trans sn) (w3.new hp) (.lst upd_same ((r.cut lo hi).mono ((s2.trans s3).trans sn))) rfl
theorem ev_slL {tl th : TO} {xs : List D} {lo hi : Option Int} (h : Ev K M ds te (· = .list xs)) (hl : EvO K M ds tl lo) (hh : EvO K M ds th hi) : Ev K M ds (tSl (rSlU K) te tl th) (· = .list (cutD xs lo hi)) := fun M' σ G H Q m s w q =>
  h M' σ G H _ m s w fun v d G1 H1 s1 w1 r1 e => hl M' σ G1 H1 _ m (s.mono s1) w1 fun G2 H2 s2 w2 => hh M' σ G2 H2 _ m (s.mono (s1.trans s2)) w2 fun G3 H3 s3 w3 => by
    subst e
    obtain ⟨a, us, rfl, hx, r⟩ := r1.list_inv
    refine .inr (.inl ⟨a, us, rfl, w3.sub.seq ((s2.trans s3).seq hx), fun p hp => ?_⟩)
    have sn := same_new (o := HO.lst (cutV us lo hi)) (w3.free hp)
    exact q (.ref p) _ _ _ (((s1.trans s2).trans s3).trans sn) (w3.new hp) (.lst upd_same ((r.cut lo hi).mono ((s2.trans s3).trans sn))) rfl
theorem ev_slT {tl th : TO} {xs : List D} {lo hi : Option Int} (h : Ev K M ds te (· = .tup xs)) (hl : EvO K M ds tl lo) (hh : EvO K M ds th hi) : Ev K M ds (tSl (rSlU K) te tl th) (· = .tup (cutD xs lo hi)) := fun M' σ G H Q m s w q =>
  h M' σ G H _ m s w fun v d G1 H1 s1 w1 r1 e => hl M' σ G1 H1 _ m (s.mono s1) w1 fun G2 H2 s2 w2 => hh M' σ G2 H2 _ m (s.mono (s1.trans s2)) w2 fun G3 H3 s3 w3 => by
    subst e
    obtain ⟨a, us, rfl, hx, r⟩ := r1.tup_inv
    have hx3 := same_t (s2.trans s3) hx
    refine .inr (.inr ⟨a, us, rfl, same_t w3.sub hx3, fun hw => ?_, fun hw p hp => ?_⟩)
    · have e2 : cutD xs lo hi = xs := by
        unfold cutD
        rw [← r.length, hw.1, hw.2, List.drop_zero, Nat.sub_zero]
        exact List.take_of_length_le (by rw [r.length]; exact Nat.le_refl _)
      exact q (.ref a) _ G3 H3 ((s1.trans s2).trans s3) w3 (.tup hx3 (r.mono (s2.trans s3))) (by rw [e2])
    · have sn := same_new (o := HO.tup (cutV us lo hi)) (w3.free hp)
      exact q (.ref p) _ _ _ (((s1.trans s2).trans s3).trans sn) (w3.new hp) (.tup (.inl (.inl upd_same)) ((r.cut lo hi).mono ((s2.trans s3).trans sn))) rfl
/-! ### operators of several kinds -/
def rOr (r r' : R2) : R2 := fun x y H Q => r x y H Q ∨ r' x y H Q
theorem op_or {X : Cx} {f : Value → Value → Sem Value} {r r' : R2} (h : OpR X f r) (h' : OpR X f r') : OpR X f (rOr r r') := fun pins s σ H x y v u Q I rx ry q =>
  q.elim (fun q => h pins s σ H x y v u Q I rx ry q) fun q => h' pins s σ H x y v u Q I rx ry q
theorem od_l {r r' : R2} {a b : D} (h : OpD K M r a b R) : OpD K M (rOr r r') a b R := fun M' G H x y Q m rx ry w q => .inl (h M' G H x y Q m rx ry w q)
theorem od_r {r r' : R2} {a b : D} (h : OpD K M r' a b R) : OpD K M (rOr r r') a b R := fun M' G H x y Q m rx ry w q => .inr (h M' G H x y Q m rx ry w q)
abbrev rAddS : R2 := fun x y H Q => ∃ i j, x = .str i ∧ y = .str j ∧ i.length + j.length ≤ sizeLine ∧ Q (.str (i ++ j)) H
/-- + of two lists, wherever they stand -/
def rAddU (K : PySem.W.Frag) : R2 := rOr (rI0 fun i j => .int (i + j)) (rOr rAddS rCat)
theorem op_addU {X : Cx} : OpR X (binaryOp .Add) (rAddU X.K) := op_or op_add (op_or op_add_str op_cat)
theorem od_addI {i j : Int} : OpD K M (rAddU K) (.int i) (.int j) (· = .int (i + j)) := od_l (od_int (h := fun i j => .int (i + j)) fun _ => .int _)
theorem od_addS {x y : Str} (h : x.length + y.length ≤ 100000) : OpD K M (rAddU K) (.str x) (.str y) (· = .str (x ++ y)) := od_r (od_l fun M' G H v u Q m rx ry w q => ⟨x, y, rx.str_inv, ry.str_inv, Nat.le_trans h (by decide), q _ _ G H (Same.refl G) w (.str _) rfl⟩)
theorem od_eqI {i j : Int} : OpD K M rEq (.int i) (.int j) (· = .bl (decide (i = j))) := fun M' G H x y Q m rx ry w q => by
  cases rx; cases ry
  refine ⟨rfl, q _ _ G H (Same.refl G) w ?_ rfl⟩
  rw [show decide (V.int i = V.int j) = decide (i = j) by simp]
  exact .bl _
theorem od_eqS {i j : Str} : OpD K M rEq (.str i) (.str j) (· = .bl (decide (i = j))) := fun M' G H x y Q m rx ry w q => by
  cases rx; cases ry
  refine ⟨rfl, q _ _ G H (Same.refl G) w ?_ rfl⟩
  rw [show decide (V.str i = V.str j) = decide (i = j) by simp]
  exact .bl _
theorem od_eqB {i j : Bool} : OpD K M rEq (.bl i) (.bl j) (· = .bl (decide (i = j))) := fun M' G H x y Q m rx ry w q => by
  cases rx; cases ry
  refine ⟨rfl, q _ _ G H (Same.refl G) w ?_ rfl⟩
  rw [show decide (V.bl i = V.bl j) = decide (i = j) by simp]
  exact .bl _
theorem od_neI {i j : Int} : OpD K M rNe (.int i) (.int j) (· = .bl (!decide (i = j))) := fun M' G H x y Q m rx ry w q => by
  cases rx; cases ry
  refine ⟨rfl, q _ _ G H (Same.refl G) w ?_ rfl⟩
  rw [show decide (V.int i = V.int j) = decide (i = j) by simp]
  exact .bl _
theorem od_neB {i j : Bool} : OpD K M rNe (.bl i) (.bl j) (· = .bl (!decide (i = j))) := fun M' G H x y Q m rx ry w q => by
  cases rx; cases ry
  refine ⟨rfl, q _ _ G H (Same.refl G) w ?_ rfl⟩
  rw [show decide (V.bl i = V.bl j) = decide (i = j) by simp]
  exact .bl _
theorem od_inSign {c : Nat} {z : Str} : OpD K M (fun x y H Q => ∃ (c : Nat) (z : Str), x = .str ⟨#[c]⟩ ∧ y = .str z ∧ Q (.bl (decide (c ∈ z.cps.toList))) H) (.str ⟨#[c]⟩) (.str z) (· = .bl (decide (c ∈ z.cps.toList))) := fun M' G H x y Q m rx ry w q =>
  ⟨c, z, rx.str_inv, ry.str_inv, q _ _ G H (Same.refl G) w (.bl _) rfl⟩
/-- flat things -/
def flatD : D → Option V
  | .non => some .non
  | .bl b => some (.bl b)
  | .int i => some (.int i)
  | .str x => some (.str x)
  | _ => none
theorem flat_inv {G : Hp} {v x : V} {d : D} (r : Rp K G v d) (h : flatD d = some x) : v = x ∧ flatV v = true := by
  cases r <;> cases h <;> exact ⟨rfl, rfl⟩
theorem flats_inv {G : Hp} : ∀ {vs xs : List V} {es : List D}, RpAll K G vs es → es.map flatD = xs.map some → vs = xs ∧ vs.all flatV = true
  | _, [], _, .nil, _ => ⟨rfl, rfl⟩
  | _, x :: xs, _, .cons h r, e => by
    simp only [List.map_cons, List.cons.injEq] at e
    obtain ⟨rfl, f⟩ := flat_inv h e.1
    obtain ⟨rfl, g⟩ := flats_inv r e.2
    exact ⟨rfl, by rw [List.all_cons, f, g]; rfl⟩
  | _, _ :: _, _, .nil, e => by simp at e
theorem od_inSeq {d : D} {es : List D} {x : V} {xs : List V} {n : Bool} {c : D} (hc : c = .list es ∨ c = .tup es) (h : flatD d = some x) (hs : es.map flatD = xs.map some) : OpD K M (rIn K n) d c (· = .bl (if n then !inV x xs else inV x xs)) := fun M' G H v u Q m rx ry w q => by
  obtain ⟨rfl, f⟩ := flat_inv rx h
  rcases hc with rfl | rfl
  · obtain ⟨a, us, rfl, hx, r⟩ := ry.list_inv
    obtain ⟨rfl, g⟩ := flats_inv r hs
    exact ⟨a, _, rfl, .inl (w.sub.seq hx), f, g, q _ _ G H (Same.refl G) w (.bl _) rfl⟩
  · obtain ⟨a, us, rfl, hx, r⟩ := ry.tup_inv
    obtain ⟨rfl, g⟩ := flats_inv r hs
    exact ⟨a, _, rfl, .inr (same_t w.sub hx), f, g, q _ _ G H (Same.refl G) w (.bl _) rfl⟩
theorem od_isN {d : D} {b : Bool} (hb : ∀ G v, Rp K G v d → decide (v = .non) = b) : OpD K M (fun x y H Q => y = .non ∧ Q (.bl (decide (x = .non))) H) d .non (· = .bl b) := fun M' G H x y Q m rx ry w q =>
  ⟨ry.non_inv, by rw [hb G x rx]; exact q _ _ G H (Same.refl G) w (.bl _) rfl⟩
def noneD : D → Option Bool
  | .non => some true
  | .raw _ => none
  | .seq _ => none
  | _ => some false
theorem od_none {d : D} {b : Bool} (h : noneD d = some b) : OpD K M (fun x y H Q => y = .non ∧ Q (.bl (decide (x = .non))) H) d .non (· = .bl b) := od_isN fun G v r => by
  cases r <;> cases h <;> simp
/-! ### calls of built-ins -/
theorem cd_all {bs : List Bool} : CallD K M (rAll K) [.list (bs.map D.bl)] (· = .bl (bs.all id)) := fun M' G H xs Q m r w q => by
  cases r with
  | cons p r =>
    cases r
    obtain ⟨a, us, rfl, hx, r⟩ := p.list_inv
    have e := r.bl_inv
    subst e
    exact ⟨a, bs, rfl, w.sub.seq hx, q _ _ G H (Same.refl G) w (.bl _) rfl⟩
theorem cd_any {bs : List Bool} : CallD K M (rAny K) [.list (bs.map D.bl)] (· = .bl (bs.any id)) := fun M' G H xs Q m r w q => by
  cases r with
  | cons p r =>
    cases r
    obtain ⟨a, us, rfl, hx, r⟩ := p.list_inv
    have e := r.bl_inv
    subst e
    exact ⟨a, bs, rfl, w.sub.seq hx, q _ _ G H (Same.refl G) w (.bl _) rfl⟩
theorem cd_intI {i : Int} : CallD K M (fun xs H Q => (∃ i, xs = [.int i] ∧ Q (.int i) H) ∨ ∃ k, xs = [.bl k] ∧ Q (.int (if k = true then 1 else 0)) H) [.int i] (· = .int i) := fun M' G H xs Q m r w q => by
  cases r with
  | cons p r =>
    cases r
    exact .inl ⟨i, by rw [p.int_inv], q _ _ G H (Same.refl G) w (.int _) rfl⟩
theorem cd_listof {xs : List D} : CallD K M (fun xs H Q => ∃ p ys, xs = [.ref p] ∧ (SqL K H p ys ∨ SqT K H p ys) ∧ ∀ l, H l = none → Q (.ref l) (upd H l (.lst ys))) [.list xs] (· = .list xs) := fun M' G H vs Q m r w q => by
  cases r with
  | cons p r =>
    cases r
    obtain ⟨a, us, rfl, hx, r⟩ := p.list_inv
    refine ⟨a, us, rfl, .inl (w.sub.seq hx), fun l hl => ?_⟩
    have sn := same_new (o := HO.lst us) (w.free hl)
    exact q (.ref l) _ _ _ sn (w.new hl) (.lst upd_same (r.mono sn)) rfl
theorem cd_str {i : Int} (h : i.natAbs.log2 < 1920) : CallD K M (fun xs H Q => ∃ i : Int, xs = [.int i] ∧ i.natAbs.log2 < 1920 ∧ Q (.str (Str.ofString (toString i))) H) [.int i] (· = .str (Str.ofString (toString i))) := fun M' G H xs Q m r w q => by
  cases r with
  | cons p r =>
    cases r
    exact ⟨i, by rw [p.int_inv], h, q _ _ G H (Same.refl G) w (.str _) rfl⟩
theorem ev_join {x : Str} {xs : List Str} {R1 : D → Prop} (ha : Ev K M ds ta (· = .str x)) (hb : Ev K M ds tb (fun d => ∃ xs : List Str, d = .list (xs.map D.str) ∧ (xs.map (·.length)).sum + xs.length * x.length ≤ 100000 ∧ R (.str (Txt.join x xs)))) :
    Ev K M ds (tM1 (fun x xs H Q => ∃ a p, ∃ ys : List Str, x = .str a ∧ xs = [.ref p] ∧ (SqL K H p (ys.map V.str) ∨ SqT K H p (ys.map V.str)) ∧ (ys.map (·.length)).sum + ys.length * a.length ≤ 16777216 ∧ Q (.str (Txt.join a ys)) H) ta tb) R := fun M' σ G H Q m s w q =>
  ha M' σ G H _ m s w fun v d G1 H1 s1 w1 r1 e => by
    subst e
    refine ⟨⟨x, r1.str_inv⟩, hb M' σ G1 H1 _ m (s.mono s1) w1 fun v2 d2 G2 H2 s2 w2 r2 ⟨ys, e2, hl, hR⟩ => ?_⟩
    subst e2
    obtain ⟨a, us, rfl, hx, r⟩ := r2.list_inv
    have e3 := r.str_inv
    subst e3
    exact ⟨x, a, ys, r1.str_inv, rfl, .inl (w2.sub.seq hx), Nat.le_trans hl (by decide), q _ _ G2 H2 (s1.trans s2) w2 (.str _) hR⟩
end
/-! ### calls by keywords alone -/
section
variable {X : Cx} {CX : CXT} {k : Nat} {f : Addr} {fd : FuncData} {ps ks : List Str} {sp : Sp} {E : XK} {x : Str} {p pos : Pos} {kws : List Keyword} {tk : TA} {g : List Value → List Value → List Value} {gV : List V → List V → List V}
theorem pe_callKs (F : FnOk X.prog X.w X.K X.mg X.base CX k f fd ps sp) (hr : Room k X.A) (hg : Gl X x) (hm : X.mg x = some (.ref f)) (hk : PySem.W.keepIn X.K (.ref f) = true) (hb : KBinds X.K fd ps ks g gV) (hx : Passes CX X E)
    (hkw : PK X kws tk) (hall : (backToKw pos (keywordEach kws X.env)).all (·.1.isSome) = true := by rfl) (hks : (backToKw pos (keywordEach kws X.env)).filterMap (·.1) = ks := by rfl) (hdb : (x == ("__debug__" : Str)) = false := by decide)
    (hpl : ((backTo pos (starEach [] X.env)).any (·.1) || (backToKw pos (keywordEach kws X.env)).any (·.1.isNone)) = false := by rfl) : PE X (.Call (.Name x p) [] kws pos) (tCallK sp gV E tNil tk) := by
  refine ⟨fun pins s σ H Q J h => ?_⟩
  refine wpAny_Call_Name_kw (ld_glob J hg hm ?_ hdb)
  refine PySem.W.callWith_KW0 (h₀ := X.base) J.ok.mod.kin hk hall ?_ hpl
  refine thn (hkw.run pos pins s σ H _ J h) fun ws s2 ⟨zs, H2, J2, rz, q2⟩ => ⟨J2.kIn, ?_⟩
  rw [hks]
  exact run_fnk (us := []) (vs := []) F hr hb hx J2 .nil rz q2
end
/-- one keyword, one parameter -/
def kg1 {α : Type} : List α → List α → List α
  | [], [a] => [a]
  | _, _ => []
def kg2 {α : Type} : List α → List α → List α
  | [], [a, b] => [a, b]
  | _, _ => []
def kg2r {α : Type} : List α → List α → List α
  | [], [a, b] => [b, a]
  | _, _ => []
def kg3r {α : Type} : List α → List α → List α
  | [], [a, b, c] => [c, b, a]
  | _, _ => []
section
variable {K : PySem.W.Frag} {x qual : Str} {st : Stmt} {f : Addr} {fd : FuncData}
theorem kb1 {p : Str} (F : Fun K x qual st f fd) (h : ∀ (kV doc pm : Value) (an : Option Addr) (cdv ct : Value) (a : Value), bindArgs (PySem.W.fnOf x qual (defArgs st) (defBody st) (defScope st) .none kV doc pm an cdv ct) ⟨[], [(p, a)]⟩ = pure [(p, a)]) : KBinds K fd [p] [p] kg1 kg1 := by
  obtain ⟨oc, od, kV, doc, pm, an, cdv, ct, osl, rfl, lk, hcd⟩ := F.ex
  refine ⟨fun s us ws _ hl => ?_, fun r r' => ?_⟩
  · match us, ws, hl with
    | [], [a], _ => exact .of_eq (h kV doc pm an cdv ct a)
  · match r, r' with
    | .nil, .cons q .nil => exact .cons q .nil
    | .nil, .nil => exact .nil
    | .nil, .cons _ (.cons _ _) => exact .nil
    | .cons _ _, _ => exact .nil
theorem kb3r {p1 p2 p3 : Str} (F : Fun K x qual st f fd) (h : ∀ (kV doc pm : Value) (an : Option Addr) (cdv ct : Value) (a b c : Value), bindArgs (PySem.W.fnOf x qual (defArgs st) (defBody st) (defScope st) .none kV doc pm an cdv ct) ⟨[], [(p3, a), (p2, b), (p1, c)]⟩ = pure [(p1, c), (p2, b), (p3, a)]) : KBinds K fd [p1, p2, p3] [p3, p2, p1] kg3r kg3r := by
  obtain ⟨oc, od, kV, doc, pm, an, cdv, ct, osl, rfl, lk, hcd⟩ := F.ex
  refine ⟨fun s us ws _ hl => ?_, fun r r' => ?_⟩
  · match us, ws, hl with
    | [], [a, b, c], _ => exact .of_eq (h kV doc pm an cdv ct a b c)
  · match r, r' with
    | .nil, .cons q (.cons q2 (.cons q3 .nil)) => exact .cons q3 (.cons q2 (.cons q .nil))
    | .nil, .nil => exact .nil
    | .nil, .cons _ .nil => exact .nil
    | .nil, .cons _ (.cons _ .nil) => exact .nil
    | .nil, .cons _ (.cons _ (.cons _ (.cons _ _))) => exact .nil
    | .cons _ _, _ => exact .nil
end
/-! ### built-ins by name, in short -/
theorem bt_isinstance : bootBuiltins "isinstance" = some (.builtin "isinstance") := by decide +kernel
theorem bt_len : bootBuiltins "len" = some (.builtin "len") := by decide +kernel
theorem bt_all : bootBuiltins "all" = some (.builtin "all") := by decide +kernel
theorem bt_any : bootBuiltins "any" = some (.builtin "any") := by decide +kernel
theorem bt_abs : bootBuiltins "abs" = some (.builtin "abs") := by decide +kernel
theorem bt_int : bootBuiltins "int" = some (.type "int") := by decide +kernel
theorem bt_str : bootBuiltins "str" = some (.type "str") := by decide +kernel
theorem bt_list : bootBuiltins "list" = some (.type "list") := by decide +kernel
theorem bt_tuple : bootBuiltins "tuple" = some (.type "tuple") := by decide +kernel
theorem bt_bool : bootBuiltins "bool" = some (.type "bool") := by decide +kernel
section
variable {X : Cx} {pos p : Pos} {e : Expr} {te : TE}
theorem pe_ty {x : Str} {n : String} (hv : bootBuiltins x = some (.type n)) (hm : X.mg x = none) (hg : Gl X x := by rfl) (hn : x ≠ "__name__" := by decide) (hd : (x == ("__debug__" : Str)) = false := by decide) : PE X (.Name x pos) (tC (.ty n)) := pe_bltn hg hm hv rfl hn hd
end
/-- in: of a list or tuple of flat things, of one sign in a text -/
abbrev rInSign : R2 := fun x y H Q => ∃ (c : Nat) (z : Str), x = .str ⟨#[c]⟩ ∧ y = .str z ∧ Q (.bl (decide (c ∈ z.cps.toList))) H
def rInU (K : PySem.W.Frag) : R2 := rOr (rIn K false) rInSign
theorem op_inU {X : Cx} : OpR X (compareOp .In) (rInU X.K) := op_or op_in_seq op_in_sign
section
variable {K : PySem.W.Frag} {M : Mt}
theorem od_inS {c : Nat} {z : Str} : OpD K M (rInU K) (.str ⟨#[c]⟩) (.str z) (· = .bl (decide (c ∈ z.cps.toList))) := od_r od_inSign
theorem od_inQ {d : D} {es : List D} {x : V} {xs : List V} {c : D} (hc : c = .list es ∨ c = .tup es) (h : flatD d = some x) (hs : es.map flatD = xs.map some) : OpD K M (rInU K) d c (· = .bl (inV x xs)) := od_l (od_inSeq (n := false) hc h hs)
theorem od_catL {xs ys : List D} (h : xs.length + ys.length ≤ 100000) : OpD K M (rAddU K) (.list xs) (.list ys) (· = .list (xs ++ ys)) := od_r (od_r fun M' G H v u Q m rx ry w q => by
  obtain ⟨a, us, rfl, ha, ra⟩ := rx.list_ex
  obtain ⟨b, ws, rfl, hb, rb⟩ := ry.list_ex
  refine ⟨a, b, us, ws, rfl, rfl, w.sub _ _ ha, w.sub _ _ hb, by rw [ra.length, rb.length]; exact Nat.le_trans h (by decide), fun p hp => ?_⟩
  have sn := same_new (o := HO.lst (us ++ ws)) (w.free hp)
  exact q (.ref p) _ _ _ sn (w.new hp) (.lst upd_same ((ra.append rb).mono sn)) rfl)
end
/-! ### the same rules with the written part by its own name (within a comprehension's block) -/
section
variable {X : Cx} {K : PySem.W.Frag}
theorem q_len (h : X.K = K := by rfl) : CallR X (.builtin "len") (fun xs H Q => ∃ x n, xs = [x] ∧ LenV K x H n ∧ Q (.int (n : Nat)) H) := h ▸ call_len
theorem q_isi (h : X.K = K := by rfl) : CallR X (.builtin "isinstance") (rIsi K) := h ▸ call_isi
theorem q_isiT (h : X.K = K := by rfl) : CallR X (.builtin "isinstance") (rIsiT K) := h ▸ call_isiT
theorem q_all (hc : X.calm = true := by rfl) (h : X.K = K := by rfl) : CallR X (.builtin "all") (rAll K) := h ▸ cr_all hc
theorem q_any (hc : X.calm = true := by rfl) (h : X.K = K := by rfl) : CallR X (.builtin "any") (rAny K) := h ▸ cr_any hc
theorem q_ix (h : X.K = K := by rfl) : IxR X (rIx K) := h ▸ ix_seq
theorem q_sl (h : X.K = K := by rfl) : SlR X (rSlU K) := h ▸ sl_any
theorem q_add (h : X.K = K := by rfl) : OpR X (binaryOp .Add) (rAddU K) := h ▸ op_addU
theorem q_in (h : X.K = K := by rfl) : OpR X (compareOp .In) (rInU K) := h ▸ op_inU
theorem q_notIn (h : X.K = K := by rfl) : OpR X (compareOp .NotIn) (rIn K true) := h ▸ op_notIn_seq
theorem q_listof (h : X.K = K := by rfl) : CallR X (.type "list") (fun xs H Q => ∃ p ys, xs = [.ref p] ∧ (SqL K H p ys ∨ SqT K H p ys) ∧ ∀ l, H l = none → Q (.ref l) (upd H l (.lst ys))) := h ▸ call_list_of
theorem q_itany {tg e : Expr} {te : TE} (he : PE X e te) (h : X.K = K := by rfl) : PI X tg e (iAny K te) := h ▸ pi_any he
theorem q_zip {e e2 : Expr} {ta : TA} {p pos tpos : Pos} {elts : List Expr} {kk : Nat} (hm : X.mg "zip" = none) (ha : PA X [e, e2] ta) (h : X.K = K := by rfl) (hg : Gl X "zip" := by rfl)
    (hs : starEach [e, e2] X.env = (false, eval e X.env) :: starEach [e2] X.env := by rfl) (hpl : (backTo pos (starEach [e2] X.env)).any (·.1) = false := by rfl) :
    PI X (.Tuple elts kk tpos) (.Call (.Name "zip" p) [e, e2] [] pos) (iZipA K ta) := h ▸ pi_zipA hg hm ha hs hpl
theorem q_join {o e : Expr} {to te : TE} {apos pos : Pos} (ho : PE X o to) (he : PE X e te) (h : X.K = K := by rfl) (hs : starEach [e] X.env = [(false, eval e X.env)] := by rfl) (hb : attributeBase o "join" X.env (eval o X.env) = eval o X.env := by rfl)
    (hl : (apos.endLine == pos.line) = true := by rfl) : PE X (.Call (.Attribute o "join" apos) [e] [] pos)
      (tM1 (fun x xs H Q => ∃ a p, ∃ ys : List Str, x = .str a ∧ xs = [.ref p] ∧ (SqL K H p (ys.map V.str) ∨ SqT K H p (ys.map V.str)) ∧ (ys.map (·.length)).sum + ys.length * a.length ≤ 16777216 ∧ Q (.str (Txt.join a ys)) H) to te) := h ▸ pe_join ho he hs hb hl
theorem q_tup {es : List Expr} {k : Nat} {t : TGs} {n : Nat} {pos : Pos} (hc : X.calm = true) (h : PGs X es t) (hK : X.K = K := by rfl) (hn : (assignEach es X.env).length = n := by rfl) (hst : (assignEach es X.env).findIdx? (·.1) = none := by rfl) : PG X (.Tuple es k pos) (gTup K n t) := hK ▸ pg_tup hc h hn hst
end
end Rg
namespace Rg
open PySem L2 RZ PyProof.Rows
section
variable {K : PySem.W.Frag} {M M1 : Mt} {ds : DS} {te ta tb tc : TE} {t u : TT} {R R' : D → Prop} {RT RT' : Bool → Prop}
theorem et_orT {a : Bool} (h : EvT K M ds t (· = a)) (ha : a = true) : EvT K M ds (tOr t u) (· = true) := by subst ha; exact (et_or (b := true) h fun e => nomatch e)
theorem et_orF {a b : Bool} (h : EvT K M ds t (· = a)) (ha : a = false) (h2 : EvT K M ds u (· = b)) : EvT K M ds (tOr t u) (· = b) := by subst ha; exact et_or h fun _ => h2
theorem et_andF {a : Bool} (h : EvT K M ds t (· = a)) (ha : a = false) : EvT K M ds (tAnd t u) (· = false) := by subst ha; exact (et_and (b := false) h fun e => nomatch e)
theorem et_andT {a b : Bool} (h : EvT K M ds t (· = a)) (ha : a = true) (h2 : EvT K M ds u (· = b)) : EvT K M ds (tAnd t u) (· = b) := by subst ha; exact et_and h fun _ => h2
theorem ev_orT {a : Bool} (h : Ev K M ds ta (· = .bl a)) (ha : a = true) : Ev K M ds (tOrV ta tb) (· = .bl true) := by subst ha; exact ev_orV h (fun e => nomatch e) fun _ => rfl
theorem ev_orF {a : Bool} {d : D} (h : Ev K M ds ta (· = .bl a)) (ha : a = false) (h2 : Ev K M ds tb (· = d)) : Ev K M ds (tOrV ta tb) (· = d) := by subst ha; exact ev_orV h (fun _ => h2) fun e => nomatch e
theorem ev_andF {a : Bool} (h : Ev K M ds ta (· = .bl a)) (ha : a = false) : Ev K M ds (tAndV ta tb) (· = .bl false) := by subst ha; exact ev_andV h (fun e => nomatch e) fun _ => rfl
theorem ev_andT {a : Bool} {d : D} (h : Ev K M ds ta (· = .bl a)) (ha : a = true) (h2 : Ev K M ds tb (· = d)) : Ev K M ds (tAndV ta tb) (· = d) := by subst ha; exact ev_andV h (fun _ => h2) fun e => nomatch e
theorem ev_ifT {a : Bool} {d : D} (h : EvT K M ds t (· = a)) (ha : a = true) (h1 : Ev K M ds ta (· = d)) : Ev K M ds (tIf t ta tb) (· = d) := by subst ha; exact ev_ifR h (fun _ => h1) fun e => nomatch e
theorem ev_ifF {a : Bool} {d : D} (h : EvT K M ds t (· = a)) (ha : a = false) (h1 : Ev K M ds tb (· = d)) : Ev K M ds (tIf t ta tb) (· = d) := by subst ha; exact ev_ifR h (fun e => nomatch e) fun _ => h1
theorem ev_chainB {r r' : R2} {x y z : D} {k k' : Bool} (ha : Ev K M ds ta (· = x)) (hb : Ev K M ds tb (· = y)) (hr : OpD K M r x y (· = .bl k)) (hc : Ev K M ds tc (· = z)) (hr' : OpD K M r' y z (· = .bl k')) :
    Ev K M ds (tChain r r' ta tb tc) (· = .bl (k && k')) := ev_chain ha hb hr (fun _ => hc) (fun e => by subst e; exact hr') fun e => by subst e; rfl
theorem od_leI {i j : Int} : OpD K M (rI0 fun i j => V.bl (decide (i ≤ j))) (.int i) (.int j) (· = .bl (decide (i ≤ j))) := od_int (h := fun i j => .bl (decide (i ≤ j))) fun _ => .bl _
theorem od_ltI {i j : Int} : OpD K M (rI0 fun i j => V.bl (decide (i < j))) (.int i) (.int j) (· = .bl (decide (i < j))) := od_int (h := fun i j => .bl (decide (i < j))) fun _ => .bl _
theorem od_gtI {i j : Int} : OpD K M (rI0 fun i j => V.bl (decide (j < i))) (.int i) (.int j) (· = .bl (decide (j < i))) := od_int (h := fun i j => .bl (decide (j < i))) fun _ => .bl _
theorem od_geI {i j : Int} : OpD K M (rI0 fun i j => V.bl (decide (j ≤ i))) (.int i) (.int j) (· = .bl (decide (j ≤ i))) := od_int (h := fun i j => .bl (decide (j ≤ i))) fun _ => .bl _
theorem od_subI {i j : Int} : OpD K M (rI0 fun i j => V.int (i - j)) (.int i) (.int j) (· = .int (i - j)) := od_int (h := fun i j => .int (i - j)) fun _ => .int _
theorem od_mulI {i j : Int} (h : CMul i j) : OpD K M (rI CMul fun i j => V.int (i * j)) (.int i) (.int j) (· = .int (i * j)) := od_intC (h := fun i j => .int (i * j)) h fun _ => .int _
theorem od_modI {i j : Int} (h : j ≠ 0) : OpD K M (rI (fun _ j => j ≠ 0) fun i j => V.int (i.fmod j)) (.int i) (.int j) (· = .int (i.fmod j)) := od_intC (h := fun i j => .int (i.fmod j)) h fun _ => .int _
theorem od_divI {i j : Int} (h : CDivN i j) : OpD K M (rI CDivN fun i j => V.int (i.fdiv j)) (.int i) (.int j) (· = .int (i.fdiv j)) := od_intC (h := fun i j => .int (i.fdiv j)) h fun _ => .int _
theorem od_powI {i j : Int} (h : CPow i j) : OpD K M (rI CPow fun i j => V.int (i ^ j.toNat)) (.int i) (.int j) (· = .int (i ^ j.toNat)) := od_intC (h := fun i j => .int (i ^ j.toNat)) h fun _ => .int _
theorem ud_neg {i : Int} : UnD K M (rU fun i => .int (-i)) (.int i) (· = .int (-i)) := fun M' G H x Q m rx w q => ⟨i, rx.int_inv, q _ _ G H (Same.refl G) w (.int _) rfl⟩
/-- a comprehension without a test, all known -/
theorem ev_lc1 {wi : TI} {g : TG} {vs : List Nat} {es : List D} {f : D → D} (hI : EvI K M ds wi (· = es)) (hl : es.length ≤ 100000) (h : ∀ (i : Nat) d, es[i]? = some d → EvG K M (some vs) g d (wipeD ds vs) (fun ds2 => Ev K M ds2 te (· = f d))) :
    Ev K M ds (tLc wi g tYes te vs) (· = .list (es.map f)) := by
  refine ev_lc hI fun es' e => ?_
  subst e
  refine ⟨hl, fun i acc => acc = (es'.take i).map f, rfl, fun i d acc hd _ ha => ?_, fun acc _ ha => ?_⟩
  · intro M' σ G H v Q m s w r q
    refine h i d hd M' σ G H v Q m s w r fun ds' σ' G' H' hE => q ds' σ' G' H' ⟨(· = true), et_yes, fun _ => hE.weak fun y ey => ?_, fun e => nomatch e⟩
    show acc ++ [y] = List.map f (List.take (i + 1) es')
    rw [ey, show acc = _ from ha, List.take_add_one, hd, List.map_append]
    rfl
  · rw [show acc = _ from ha, List.take_length]
/-- the same, each item told by a word -/
theorem ev_lcR {wi : TI} {g : TG} {vs : List Nat} {RI : List D → Prop} {Pi : List D → Nat → D → Prop} (hI : EvI K M ds wi RI) (hl : ∀ es, RI es → es.length ≤ 100000)
    (h : ∀ es (i : Nat) d, RI es → es[i]? = some d → EvG K M (some vs) g d (wipeD ds vs) (fun ds2 => Ev K M ds2 te (Pi es i))) :
    Ev K M ds (tLc wi g tYes te vs) (fun d => ∃ es acc, RI es ∧ d = .list acc ∧ acc.length = es.length ∧ ∀ (i : Nat) y, acc[i]? = some y → Pi es i y) := by
  refine ev_lc hI fun es e => ⟨hl es e, fun i acc => acc.length = i ∧ ∀ (j : Nat) y, acc[j]? = some y → Pi es j y, ⟨rfl, fun j y hy => by simp at hy⟩, fun i d acc hd _ ⟨ha, hb⟩ => ?_, fun acc _ ⟨ha, hb⟩ => ⟨es, acc, e, rfl, ha, hb⟩⟩
  intro M' σ G H v Q m s w r q
  refine h es i d e hd M' σ G H v Q m s w r fun ds' σ' G' H' hE => q ds' σ' G' H' ⟨(· = true), et_yes, fun _ => hE.weak fun y ey => ⟨by simp [ha], fun j z hz => ?_⟩, fun e => nomatch e⟩
  by_cases hj : j < acc.length
  · rw [List.getElem?_append_left hj] at hz
    exact hb j z hz
  · have ej : j = acc.length := by
      have := (List.getElem?_eq_some_iff.mp hz).1
      simp at this
      omega
    subst ej
    rw [List.getElem?_append_right (Nat.le_refl _)] at hz
    simp at hz
    subst hz
    rw [ha]
    exact ey
def isStrD : D → Option Bool
  | .non => some false
  | .bl _ => some false
  | .int _ => some false
  | .str _ => some true
  | .list _ => some false
  | .tup _ => some false
  | .dict _ _ => some false
  | _ => none
theorem isStr_of {d : D} {b : Bool} (h : isStrD d = some b) : isD d "str" = some b := by
  cases d with
  | non => cases h; exact (show kitB "NoneType" "str" = some false by decide +kernel)
  | bl _ => cases h; exact (show kitB "bool" "str" = some false by decide +kernel)
  | int _ => cases h; exact (show kitB "int" "str" = some false by decide +kernel)
  | str _ => cases h; exact (show kitB "str" "str" = some true by decide +kernel)
  | list _ => cases h; exact (show kitB "list" "str" = some false by decide +kernel)
  | tup _ => cases h; exact (show kitB "tuple" "str" = some false by decide +kernel)
  | dict _ _ => cases h; exact (show kitB "dict" "str" = some false by decide +kernel)
  | _ => cases h
theorem cd_isStr {d : D} {b : Bool} (h : isStrD d = some b) : CallD K M (rIsi K) [d, .raw (.ty "str")] (· = .bl b) := cd_isi (isStr_of h)
def isIntD : D → Option Bool
  | .non => some false
  | .bl _ => some true
  | .int _ => some true
  | .str _ => some false
  | .list _ => some false
  | .tup _ => some false
  | .dict _ _ => some false
  | _ => none
theorem isInt_of {d : D} {b : Bool} (h : isIntD d = some b) : isD d "int" = some b := by
  cases d with
  | non => cases h; exact (show kitB "NoneType" "int" = some false by decide +kernel)
  | bl _ => cases h; exact (show kitB "bool" "int" = some true by decide +kernel)
  | int _ => cases h; exact (show kitB "int" "int" = some true by decide +kernel)
  | str _ => cases h; exact (show kitB "str" "int" = some false by decide +kernel)
  | list _ => cases h; exact (show kitB "list" "int" = some false by decide +kernel)
  | tup _ => cases h; exact (show kitB "tuple" "int" = some false by decide +kernel)
  | dict _ _ => cases h; exact (show kitB "dict" "int" = some false by decide +kernel)
  | _ => cases h
theorem cd_isInt {d : D} {b : Bool} (h : isIntD d = some b) : CallD K M (rIsi K) [d, .raw (.ty "int")] (· = .bl b) := cd_isi (isInt_of h)
def isBoolD : D → Option Bool
  | .non => some false
  | .bl _ => some true
  | .int _ => some false
  | .str _ => some false
  | .list _ => some false
  | .tup _ => some false
  | .dict _ _ => some false
  | _ => none
theorem isBool_of {d : D} {b : Bool} (h : isBoolD d = some b) : isD d "bool" = some b := by
  cases d with
  | non => cases h; exact (show kitB "NoneType" "bool" = some false by decide +kernel)
  | bl _ => cases h; exact (show kitB "bool" "bool" = some true by decide +kernel)
  | int _ => cases h; exact (show kitB "int" "bool" = some false by decide +kernel)
  | str _ => cases h; exact (show kitB "str" "bool" = some false by decide +kernel)
  | list _ => cases h; exact (show kitB "list" "bool" = some false by decide +kernel)
  | tup _ => cases h; exact (show kitB "tuple" "bool" = some false by decide +kernel)
  | dict _ _ => cases h; exact (show kitB "dict" "bool" = some false by decide +kernel)
  | _ => cases h
theorem cd_isBool {d : D} {b : Bool} (h : isBoolD d = some b) : CallD K M (rIsi K) [d, .raw (.ty "bool")] (· = .bl b) := cd_isi (isBool_of h)
def isListD : D → Option Bool
  | .non => some false
  | .bl _ => some false
  | .int _ => some false
  | .str _ => some false
  | .list _ => some true
  | .tup _ => some false
  | .dict _ _ => some false
  | _ => none
theorem isList_of {d : D} {b : Bool} (h : isListD d = some b) : isD d "list" = some b := by
  cases d with
  | non => cases h; exact (show kitB "NoneType" "list" = some false by decide +kernel)
  | bl _ => cases h; exact (show kitB "bool" "list" = some false by decide +kernel)
  | int _ => cases h; exact (show kitB "int" "list" = some false by decide +kernel)
  | str _ => cases h; exact (show kitB "str" "list" = some false by decide +kernel)
  | list _ => cases h; exact (show kitB "list" "list" = some true by decide +kernel)
  | tup _ => cases h; exact (show kitB "tuple" "list" = some false by decide +kernel)
  | dict _ _ => cases h; exact (show kitB "dict" "list" = some false by decide +kernel)
  | _ => cases h
theorem cd_isList {d : D} {b : Bool} (h : isListD d = some b) : CallD K M (rIsi K) [d, .raw (.ty "list")] (· = .bl b) := cd_isi (isList_of h)
def isTupleD : D → Option Bool
  | .non => some false
  | .bl _ => some false
  | .int _ => some false
  | .str _ => some false
  | .list _ => some false
  | .tup _ => some true
  | .dict _ _ => some false
  | _ => none
theorem isTuple_of {d : D} {b : Bool} (h : isTupleD d = some b) : isD d "tuple" = some b := by
  cases d with
  | non => cases h; exact (show kitB "NoneType" "tuple" = some false by decide +kernel)
  | bl _ => cases h; exact (show kitB "bool" "tuple" = some false by decide +kernel)
  | int _ => cases h; exact (show kitB "int" "tuple" = some false by decide +kernel)
  | str _ => cases h; exact (show kitB "str" "tuple" = some false by decide +kernel)
  | list _ => cases h; exact (show kitB "list" "tuple" = some false by decide +kernel)
  | tup _ => cases h; exact (show kitB "tuple" "tuple" = some true by decide +kernel)
  | dict _ _ => cases h; exact (show kitB "dict" "tuple" = some false by decide +kernel)
  | _ => cases h
theorem cd_isTuple {d : D} {b : Bool} (h : isTupleD d = some b) : CallD K M (rIsi K) [d, .raw (.ty "tuple")] (· = .bl b) := cd_isi (isTuple_of h)
theorem ev_isSeq {d : D} {b1 b2 : Bool} {tcs : TA} (ha : Ev K M ds ta (· = d)) (hc : EvA K M ds tcs (· = [.raw (.ty "list"), .raw (.ty "tuple")])) (h1 : isListD d = some b1) (h2 : isTupleD d = some b2) :
    Ev K M ds (tCB (rIsiT K) (tCons ta (tCons (tTup tcs) tNil))) (· = .bl (b1 || b2)) := ev_isiT2 ha hc (isList_of h1) (isTuple_of h2)
theorem run_if1 {tc : TT} {a b : TS} {E : AE} {c : Bool} (h : EvT K M ds tc (· = c)) (h1 : c = true → Run K M ds a E) (h2 : c = false → Run K M ds b E) : Run K M ds (tIfS tc a b) E := run_if h (fun e => h1 e.symm) fun e => h2 e.symm
theorem run_ifT {tc : TT} {a b : TS} {E : AE} {c : Bool} (h : EvT K M ds tc (· = c)) (hc : c = true) (h1 : Run K M ds a E) : Run K M ds (tIfS tc a b) E := by subst hc; exact run_if1 h (fun _ => h1) fun e => nomatch e
theorem run_ifF {tc : TT} {a b : TS} {E : AE} {c : Bool} (h : EvT K M ds tc (· = c)) (hc : c = false) (h1 : Run K M ds b E) : Run K M ds (tIfS tc a b) E := by subst hc; exact run_if1 h (fun e => nomatch e) fun _ => h1
theorem run_ret1 {E : AE} {d : D} (h : Ev K M ds te (· = d)) (hr : E.rt d) : Run K M ds (tRet te) E := run_ret (h.weak fun _ e => by rw [e]; exact hr)
theorem ev_lcM {α : Type} {wi : TI} {g : TG} {vs : List Nat} {cs : List α} {inj f : α → D} (hI : EvI K M ds wi (· = cs.map inj)) (hl : cs.length ≤ 100000) (h : ∀ c, c ∈ cs → EvG K M (some vs) g (inj c) (wipeD ds vs) (fun ds2 => Ev K M ds2 te (· = f c))) :
    Ev K M ds (tLc wi g tYes te vs) (· = .list (cs.map f)) := by
  refine ev_lc hI fun es' e => ?_
  subst e
  refine ⟨by rw [List.length_map]; exact hl, fun i acc => acc = (cs.take i).map f, rfl, fun i d acc hd _ ha => ?_, fun acc _ ha => ?_⟩
  · rw [List.getElem?_map] at hd
    cases hc : cs[i]? with
    | none => rw [hc] at hd; cases hd
    | some c =>
      rw [hc] at hd
      have ed : inj c = d := Option.some.inj hd
      subst ed
      intro M' σ G H v Q m s w r q
      refine h c (List.mem_of_getElem? hc) M' σ G H v Q m s w r fun ds' σ' G' H' hE => q ds' σ' G' H' ⟨(· = true), et_yes, fun _ => hE.weak fun y ey => ?_, fun e => nomatch e⟩
      show acc ++ [y] = List.map f (List.take (i + 1) cs)
      rw [ey, show acc = _ from ha, List.take_add_one, hc, List.map_append]
      rfl
  · rw [show acc = _ from ha, List.length_map, List.take_length]
theorem ev_intP {φ : Int → Prop} (h : ∃ k, Ev K M ds te (· = .int k) ∧ φ k) : Ev K M ds te (fun d => ∃ k, φ k ∧ d = .int k) := let ⟨k, h1, h2⟩ := h; h1.weak fun _ e => ⟨k, h2, e⟩
end
end Rg
namespace Rg
open PySem L2 RZ PyProof.Rows
abbrev rLenR (K : PySem.W.Frag) : List V → Hp → VK → Prop := fun xs H Q => ∃ x n, xs = [x] ∧ LenV K x H n ∧ Q (.int (n : Nat)) H
abbrev rIntR : List V → Hp → VK → Prop := fun xs H Q => (∃ i, xs = [.int i] ∧ Q (.int i) H) ∨ ∃ k, xs = [.bl k] ∧ Q (.int (if k = true then 1 else 0)) H
abbrev rAbsR : List V → Hp → VK → Prop := fun xs H Q => ∃ i : Int, xs = [.int i] ∧ Q (.int (if i < 0 then -i else i)) H
/-! ### expressions that lay nothing, over the heap as it stands -/
def Px (te : TE) (σ : L2.St) (H : Hp) (v : V) : Prop := ∀ Q : VK, Q v H → te σ H Q
def PxA (ta : TA) (σ : L2.St) (H : Hp) (vs : List V) : Prop := ∀ Q : List V → Hp → Prop, Q vs H → ta σ H Q
def PxT (t : TT) (σ : L2.St) (H : Hp) (b : Bool) : Prop := ∀ Q : Bool → Hp → Prop, Q b H → t σ H Q
section
variable {K : PySem.W.Frag} {σ : L2.St} {H : Hp} {ta tb te : TE} {t u : TT} {x y z v : V}
theorem px_var {i : Nat} (h : σ[i]? = some (some v)) : Px (tVar i) σ H v := fun Q q => ⟨v, h, q⟩
theorem px_c : Px (tC v) σ H v := fun Q q => q
theorem px_op {r : R2} (ha : Px ta σ H x) (hb : Px tb σ H y) (hr : ∀ Q : VK, Q z H → r x y H Q) : Px (tOp r ta tb) σ H z := fun Q q => ha _ (hb _ (hr Q q))
theorem px_nil : PxA tNil σ H [] := fun Q q => q
theorem px_cons {vs : List V} {tr : TA} (ha : Px ta σ H v) (hr : PxA tr σ H vs) : PxA (tCons ta tr) σ H (v :: vs) := fun Q q => ha _ (hr _ q)
theorem px_cb {r : List V → Hp → VK → Prop} {vs : List V} {ta : TA} (ha : PxA ta σ H vs) (hr : ∀ Q : VK, Q z H → r vs H Q) : Px (tCB r ta) σ H z := fun Q q => ha _ (hr Q q)
theorem px_addI {i j : Int} : ∀ Q : VK, Q (.int (i + j)) H → rAddU K (.int i) (.int j) H Q := fun Q q => .inl ⟨i, j, rfl, rfl, q⟩
theorem px_I0 {g : Int → Int → V} {i j : Int} : ∀ Q : VK, Q (g i j) H → rI0 g (.int i) (.int j) H Q := fun Q q => ⟨i, j, rfl, rfl, q⟩
theorem px_IC {C : Int → Int → Prop} {g : Int → Int → V} {i j : Int} (h : C i j) : ∀ Q : VK, Q (g i j) H → rI C g (.int i) (.int j) H Q := fun Q q => ⟨i, j, rfl, rfl, h, q⟩
theorem px_eqI {i j : Int} : ∀ Q : VK, Q (.bl (decide (i = j))) H → rEq (.int i) (.int j) H Q := fun Q q => ⟨rfl, by rw [show decide (V.int i = V.int j) = decide (i = j) by simp]; exact q⟩
theorem px_ix {p : Addr} {xs : List V} {i : Int} (h : H p = some (.lst xs)) (e : atI xs i = some v) : ∀ Q : VK, Q v H → rIx K (.ref p) (.int i) H Q := fun Q q => .inl ⟨p, xs, i, v, rfl, rfl, sq h, e, q⟩
theorem px_len {p : Addr} {xs : List V} (h : H p = some (.lst xs)) : ∀ Q : VK, Q (.int (xs.length : Nat)) H → rLenR K [.ref p] H Q := fun Q q => ⟨_, xs.length, rfl, .inl ⟨xs, sq h, rfl⟩, q⟩
theorem px_intI {i : Int} : ∀ Q : VK, Q (.int i) H → rIntR [.int i] H Q := fun Q q => .inl ⟨i, rfl, q⟩
theorem px_abs {i : Int} : ∀ Q : VK, Q (.int (if i < 0 then -i else i)) H → rAbsR [.int i] H Q := fun Q q => ⟨i, rfl, q⟩
theorem px_test {b : Bool} (h : Px te σ H (.bl b)) : PxT (tTest te) σ H b := fun Q q => h _ ⟨b, rfl, q⟩
theorem px_B {b : Bool} (h : Px te σ H (.bl b)) : PxT (tB te) σ H b := fun Q q => h _ ⟨b, rfl, q⟩
theorem px_and {a b : Bool} (h1 : PxT t σ H a) (h2 : PxT u σ H b) : PxT (tAnd t u) σ H (a && b) := fun Q q => h1 _ (by
  cases a with
  | true => exact h2 Q q
  | false => exact q)
/-- statements -/
theorem st_set {Z : Ends} {i : Nat} {b : TS} (h : Px te σ H v) (hn : b Z (σ.set i (some v)) H) : tSeq (tAsg te (gName i)) b Z σ H := h _ hn
theorem st_putN {Z : Ends} {p : Addr} {k : Int} {j : Nat} {xs : List V} (h : Px te σ H v) (ho : Px ta σ H (.ref p)) (hi : Px tb σ H (.int k)) (hp : H p = some (.lst xs)) (hj : ixN xs.length k = some j) (hn : Z.nx σ (upd H p (.lst (xs.set j v)))) :
    tAsg te (gSub ta tb rSetL) Z σ H := h _ (ho _ (hi _ ⟨p, xs, k, j, rfl, rfl, hp, hj, hn⟩))
theorem st_put {Z : Ends} {p : Addr} {k : Int} {j : Nat} {xs : List V} {b : TS} (h : Px te σ H v) (ho : Px ta σ H (.ref p)) (hi : Px tb σ H (.int k)) (hp : H p = some (.lst xs)) (hj : ixN xs.length k = some j) (hn : b Z σ (upd H p (.lst (xs.set j v)))) :
    tSeq (tAsg te (gSub ta tb rSetL)) b Z σ H := st_putN h ho hi hp hj hn
theorem upd_self {H : Hp} {p : Addr} {o : HO} (h : H p = some o) : upd H p o = H := by
  funext a
  unfold upd
  split
  · rename_i e; rw [e, h]
  · rfl
theorem at_upd {t : TS} {Z : Ends} {p : Addr} {o : HO} (h : H p = some o) (q : t Z σ (upd H p o)) : t Z σ H := by rw [upd_self h] at q; exact q
theorem st_bag {Z : Ends} {p : Addr} {k : Int} {j : Nat} {xs ys : List V} {b : TS} (h : Px te σ (upd H p (.lst xs)) v) (ho : Px ta σ (upd H p (.lst xs)) (.ref p)) (hi : Px tb σ (upd H p (.lst xs)) (.int k)) (hj : ixN xs.length k = some j) (hy : xs.set j v = ys)
    (hn : b Z σ (upd H p (.lst ys))) : tSeq (tAsg te (gSub ta tb rSetL)) b Z σ (upd H p (.lst xs)) := st_put h ho hi upd_same hj (by rw [upd_upd, hy]; exact hn)
theorem st_bagN {Z : Ends} {p : Addr} {k : Int} {j : Nat} {xs ys : List V} (h : Px te σ (upd H p (.lst xs)) v) (ho : Px ta σ (upd H p (.lst xs)) (.ref p)) (hi : Px tb σ (upd H p (.lst xs)) (.int k)) (hj : ixN xs.length k = some j) (hy : xs.set j v = ys)
    (hn : Z.nx σ (upd H p (.lst ys))) : tAsg te (gSub ta tb rSetL) Z σ (upd H p (.lst xs)) := st_putN h ho hi upd_same hj (by rw [upd_upd, hy]; exact hn)
theorem st_ret {Z : Ends} (h : Px te σ H v) (hr : Z.rt v H) : tRet te Z σ H := h _ hr
theorem st_setE {Z : Ends} {i : Nat} {b : TS} {φ : Int → Prop} (h : ∃ k, Px te σ H (.int k) ∧ φ k) (hn : ∀ k, φ k → b Z (σ.set i (some (.int k))) H) : tSeq (tAsg te (gName i)) b Z σ H := let ⟨k, h1, h2⟩ := h; st_set h1 (hn k h2)
theorem st_bagE {Z : Ends} {p : Addr} {k : Int} {j : Nat} {xs : List V} {b : TS} {φ : Int → Prop} {f : Int → List V} (h : ∃ k, Px te σ (upd H p (.lst xs)) (.int k) ∧ φ k) (ho : Px ta σ (upd H p (.lst xs)) (.ref p)) (hi : Px tb σ (upd H p (.lst xs)) (.int k))
    (hj : ixN xs.length k = some j) (hy : ∀ k, xs.set j (.int k) = f k) (hn : ∀ k, φ k → b Z σ (upd H p (.lst (f k)))) : tSeq (tAsg te (gSub ta tb rSetL)) b Z σ (upd H p (.lst xs)) := let ⟨k, h1, h2⟩ := h; st_bag h1 ho hi hj (hy k) (hn k h2)
theorem st_bagNE {Z : Ends} {p : Addr} {k : Int} {j : Nat} {xs : List V} {φ : Int → Prop} {f : Int → List V} (h : ∃ k, Px te σ (upd H p (.lst xs)) (.int k) ∧ φ k) (ho : Px ta σ (upd H p (.lst xs)) (.ref p)) (hi : Px tb σ (upd H p (.lst xs)) (.int k))
    (hj : ixN xs.length k = some j) (hy : ∀ k, xs.set j (.int k) = f k) (hn : ∀ k, φ k → Z.nx σ (upd H p (.lst (f k)))) : tAsg te (gSub ta tb rSetL) Z σ (upd H p (.lst xs)) := let ⟨k, h1, h2⟩ := h; st_bagN h1 ho hi hj (hy k) (hn k h2)
theorem st_retE {Z : Ends} {φ : Int → Prop} (h : ∃ k, Px te σ H (.int k) ∧ φ k) (hr : ∀ k, φ k → Z.rt (.int k) H) : tRet te Z σ H := let ⟨k, h1, h2⟩ := h; st_ret h1 (hr k h2)
theorem st_next {Z : Ends} (h : Z.nx σ H) : tNext Z σ H := h
theorem st_if {Z : Ends} {a b : TS} {c : Bool} (h : PxT t σ H c) (h1 : c = true → a Z σ H) (h2 : c = false → b Z σ H) : tIfS t a b Z σ H := h _ (by
  cases c with
  | true => exact h1 rfl
  | false => exact h2 rfl)
end
theorem run_at {K : PySem.W.Frag} {M : Mt} {G H : Hp} {σ : L2.St} {ds : DS} {t : TS} {E : AE} {Z : Ends} (h : Run K M ds t E) (s : Sg K G σ ds) (w : Wd M G H) (z : EndsOk K M G E Z) : t Z σ H := h M σ G H Z (MSub.refl M) s w z
theorem fmod_bd {i k : Int} (h : 0 < k) : 0 ≤ i.fmod k ∧ i.fmod k < k := ⟨Int.fmod_nonneg_of_pos i h, Int.fmod_lt_of_pos i h⟩
theorem fmod_lt {i k : Int} {m : Int} (h : 0 < k) (hm : k ≤ m) : 0 ≤ i.fmod k ∧ i.fmod k < m := ⟨(fmod_bd h).1, Int.lt_of_lt_of_le (fmod_bd h).2 hm⟩
theorem fdiv_nn {i k : Int} (hi : 0 ≤ i) (h : 0 < k) : 0 ≤ i.fdiv k := Int.fdiv_nonneg hi (Int.le_of_lt h)
/-! ### the bag of the law's draws -/
structure Bg (K : PySem.W.Frag) (G : Hp) (c : Addr) (ns : List Int) (i r m n : Int) : Prop where
  cells : G c = some (.lst (ns.map V.int))
  len : ns.length ≤ 63
  i0 : 0 ≤ i
  r0 : 0 ≤ r
  m0 : 0 ≤ m
  m1 : m < 2147483648
abbrev bagL (c : Addr) (i r m n : Int) : HO := .lst [.ref c, .int i, .int r, .int m, .int n]
def IsBag (K : PySem.W.Frag) (G : Hp) (o : HO) : Prop := ∃ c ns i r m n, o = bagL c i r m n ∧ Bg K G c ns i r m n
theorem Bg.mono {K : PySem.W.Frag} {G G' : Hp} {c : Addr} {ns : List Int} {i r m n : Int} (s : Same G G') (h : Bg K G c ns i r m n) : Bg K G' c ns i r m n := ⟨s _ _ h.cells, h.len, h.i0, h.r0, h.m0, h.m1⟩
theorem IsBag.mono {K : PySem.W.Frag} : ∀ G1 G2 o, Same G1 G2 → IsBag K G1 o → IsBag K G2 o := fun _ _ _ s ⟨c, ns, i, r, m, n, e, h⟩ => ⟨c, ns, i, r, m, n, e, h.mono s⟩
def preDraw (K : PySem.W.Frag) (M : Ml) (as : List D) : Prop := ∃ b m, as = [.raw (.ref b), .int m] ∧ (b, IsBag K) ∈ M ∧ 0 < m ∧ m < 1073741824
def postDraw (as : List D) (d : D) : Prop := ∃ i : Int, d = .int i ∧ 0 ≤ i ∧ ∀ b m, as = [.raw (.ref b), .int m] → i < m
/-- what the walk of a draw must show -/
theorem draw_of {K : PySem.W.Frag} {vs : List V} {H : Hp} {Q : VK} {E : XK} (h : spF K (preDraw K) postDraw vs H Q E) : ∃ (b : Addr) (m : Int) (c : Addr) (ns : List Int) (i r mx n : Int), vs = [.ref b, .int m] ∧ 0 < m ∧ m < 1073741824 ∧ H b = some (bagL c i r mx n) ∧ H c = some (.lst (ns.map V.int)) ∧ c ≠ b ∧
    ns.length ≤ 63 ∧ 0 ≤ i ∧ 0 ≤ r ∧ 0 ≤ mx ∧ mx < 2147483648 ∧
    ∀ (d i' r' mx' n' : Int), 0 ≤ d → d < m → 0 ≤ i' → 0 ≤ r' → 0 ≤ mx' → mx' < 2147483648 → Q (.int d) (upd H b (bagL c i' r' mx' n')) := by
  obtain ⟨M, G, as, wd, ra, ⟨b, m, rfl, hb, h0, h1⟩, q, _⟩ := h
  obtain ⟨gb, o, ho, c, ns, i, r, mx, n, rfl, B⟩ := wd.mt _ hb
  cases ra with
  | cons p ra =>
    cases ra with
    | cons p2 ra =>
      cases ra
      have e1 := p.raw_inv
      have e2 := p2.int_inv
      subst e1; subst e2
      have gb' : G b = none := gb
      refine ⟨b, m, c, ns, i, r, mx, n, rfl, h0, h1, ho, wd.sub _ _ B.cells, fun e => ?_, B.len, B.i0, B.r0, B.m0, B.m1, fun d i' r' mx' n' hd0 hd1 a1 a2 a3 a4 => ?_⟩
      · have := B.cells
        rw [e, gb'] at this
        cases this
      · exact q (.int d) (.int d) G _ (Same.refl G) (wd.write hb ⟨c, ns, i', r', mx', n', rfl, B.cells, B.len, a1, a2, a3, a4⟩) (.int d) ⟨d, rfl, hd0, fun b' m' e => by cases e; exact hd1⟩
end Rg
namespace Rg
open PySem L2 RZ PyProof.Rows
theorem atI_in {α : Type} {xs : List α} {i : Int} (h0 : 0 ≤ i) (h1 : i < (xs.length : Int)) : ∃ x, L2.atI xs i = some x ∧ xs[i.toNat]? = some x ∧ x ∈ xs := by
  have hl : i.toNat < xs.length := by omega
  refine ⟨xs[i.toNat], ?_, List.getElem?_eq_getElem hl, List.getElem_mem hl⟩
  unfold L2.atI ixN
  rw [if_pos h0, if_pos h1]
  exact List.getElem?_eq_getElem hl
theorem item_in {d : D} {es : List D} {i : Int} (h : itemsD d = some es) (hl : lenD d = some es.length) (hq : ∀ xs, d ≠ .seq xs) (h0 : 0 ≤ i) (h1 : i < (es.length : Int)) : ∃ e, itemD d i = some e ∧ es[i.toNat]? = some e ∧ e ∈ es := by
  cases d with
  | list xs => cases h; exact atI_in h0 h1
  | tup xs => cases h; exact atI_in h0 h1
  | seq xs => exact absurd rfl (hq xs)
  | str x =>
    cases h
    replace hl : (if x.length ≤ 100000 then some x.length else none) = some (signsD x).length := hl
    split at hl
    · rename_i hx
      have e1 : (signsD x).length = x.cps.toList.length := by unfold signsD; rw [List.length_map]
      obtain ⟨c, h3, h4, h5⟩ := atI_in (xs := x.cps.toList) h0 (by rw [← e1]; exact h1)
      refine ⟨.str ⟨#[c]⟩, ?_, ?_, ?_⟩
      · show (if x.length ≤ 100000 then (L2.atI x.cps.toList i).map fun c => D.str ⟨#[c]⟩ else none) = _
        rw [if_pos hx, h3]; rfl
      · unfold signsD; rw [List.getElem?_map, h4]; rfl
      · unfold signsD; exact List.mem_map.mpr ⟨c, h5, rfl⟩
    · cases hl
  | _ => cases h
def preOf (K : PySem.W.Frag) (M : Ml) (as : List D) : Prop := ∃ b d es, as = [.raw (.ref b), d] ∧ (b, IsBag K) ∈ M ∧ itemsD d = some es ∧ lenD d = some es.length ∧ (∀ xs, d ≠ .seq xs) ∧ 0 < es.length ∧ es.length ≤ 100000
def postOf (as : List D) (r : D) : Prop := ∀ b d es, as = [.raw (.ref b), d] → itemsD d = some es → r ∈ es
section
variable {K : PySem.W.Frag} {M : Mt} {ds : DS} {ta tb : TE} {b : Addr} {E : XK}
theorem ev_draw {m : Int} (ha : Ev K M ds ta (· = .raw (.ref b))) (hb : Ev K M ds tb (· = .int m)) (hm : (b, IsBag K) ∈ M) (h0 : 0 < m) (h1 : m < 1073741824) :
    Ev K M ds (tCall (spF K (preDraw K) postDraw) [] E (tCons ta (tCons tb tNil))) (fun d => ∃ i : Int, (0 ≤ i ∧ i < m) ∧ d = .int i) :=
  (ev_call1 (ea1 ha (ea1 hb ea_nil)) fun M' ms => ⟨b, m, rfl, ms.l _ hm, h0, h1⟩).weak fun d ⟨i, e, i0, i1⟩ => ⟨i, ⟨i0, i1 b m rfl⟩, e⟩
theorem run_of_body {E2 : AE} {d : D} {es : List D} (hm : (b, IsBag K) ∈ M) (h : itemsD d = some es) (hl : lenD d = some es.length) (hq : ∀ xs, d ≠ .seq xs) (h0 : 0 < es.length) (h1 : es.length ≤ 100000) (hr : ∀ e ∈ es, E2.rt e) :
    Run K M [some (.raw (.ref b)), some d] (tRet (tOp (rIx K) (tVar 1) (tCall (spF K (preDraw K) postDraw) [] E (tCons (tVar 0) (tCons (tCB (rLenR K) (tCons (tVar 1) tNil)) tNil))))) E2 := by
  refine run_ret (ev_op (ev_var rfl) (ev_draw (m := (es.length : Int)) (ev_var rfl) (ev_cb1 (ea1 (ev_var rfl) ea_nil) (cd_len hl)) hm (by omega) (by omega)) fun a c ea ⟨i, ⟨i0, i1⟩, ec⟩ => ?_)
  rw [ea, ec]
  obtain ⟨e, e1, _, e2⟩ := item_in h hl hq i0 i1
  intro M' G H x y Q m rx ry w q
  exact od_ix (M := M) e1 M' G H x y Q m rx ry w fun v d G' H' s' w' r' ed => q v d G' H' s' w' r' (by rw [ed]; exact hr e e2)
theorem ev_of {d : D} {es : List D} (ha : Ev K M ds ta (· = .raw (.ref b))) (hb : Ev K M ds tb (· = d)) (hm : (b, IsBag K) ∈ M) (h : itemsD d = some es) (hl : lenD d = some es.length) (h0 : 0 < es.length := by exact Nat.le_of_ble_eq_true rfl) (h1 : es.length ≤ 100000 := by exact Nat.le_of_ble_eq_true rfl) (hq : ∀ xs, d ≠ .seq xs := by intro _ h; cases h) :
    Ev K M ds (tCall (spF K (preOf K) postOf) [] E (tCons ta (tCons tb tNil))) (· ∈ es) :=
  (ev_call1 (ea1 ha (ea1 hb ea_nil)) fun M' ms => ⟨b, d, es, rfl, ms.l _ hm, h, hl, hq, h0, h1⟩).weak fun r q => q b d es rfl h
theorem ev_kw1 {tk : TA} {d : D} {pre : Ml → List D → Prop} {post : List D → D → Prop} (hk : EvA K M ds tk (· = [d])) (hp : ∀ M', MSub M M' → pre M'.l [d]) : Ev K M ds (tCallK (spF K pre post) kg1 E tNil tk) (post [d]) :=
  ev_callK (gD := kg1) ea_nil hk (fun G vs zs as ks e1 e2 r1 r2 => by
    subst e1; subst e2
    cases r1
    cases r2 with
    | cons p r => cases r; exact .cons p .nil) fun as ks e1 e2 => by subst e1; subst e2; exact ⟨hp, fun _ q => q⟩
theorem ev_kw3r {tk : TA} {a b c : D} {pre : Ml → List D → Prop} {post : List D → D → Prop} (hk : EvA K M ds tk (· = [a, b, c])) (hp : ∀ M', MSub M M' → pre M'.l [c, b, a]) : Ev K M ds (tCallK (spF K pre post) kg3r E tNil tk) (post [c, b, a]) :=
  ev_callK (gD := kg3r) ea_nil hk (fun G vs zs as ks e1 e2 r1 r2 => by
    subst e1; subst e2
    cases r1
    cases r2 with
    | cons p r =>
      cases r with
      | cons p2 r =>
        cases r with
        | cons p3 r => cases r; exact .cons p3 (.cons p2 (.cons p .nil))) fun as ks e1 e2 => by subst e1; subst e2; exact ⟨hp, fun _ q => q⟩
theorem ev_eq {te : TE} {d d' : D} (h : Ev K M ds te (· = d)) (e : d = d') : Ev K M ds te (· = d') := e ▸ h
end
end Rg
namespace Rg
open PySem L2 RZ PyProof.Rows
section
variable {K : PySem.W.Frag} {M : Mt} {G : Hp} {σ : L2.St} {ds : DS} {v : V} {d : D}
/-! ### slots one by one; slots forgotten -/
theorem sg_nil : Sg K G [] [] := ⟨rfl, fun i d e => by simp at e⟩
theorem sg_some (r : Rp K G v d) (s : Sg K G σ ds) : Sg K G (some v :: σ) (some d :: ds) := ⟨by simp [s.len], fun i d' e => by
  match i, e with
  | 0, e => cases e; exact ⟨v, rfl, r⟩
  | i + 1, e => exact s.at_ i d' e⟩
theorem sg_none {x : Option V} (s : Sg K G σ ds) : Sg K G (x :: σ) (none :: ds) := ⟨by simp [s.len], fun i d' e => by
  match i, e with
  | 0, e => cases e
  | i + 1, e => exact s.at_ i d' e⟩
inductive Fg : DS → DS → Prop where
  | nil : Fg [] []
  | keep {x : Option D} {a b : DS} : Fg a b → Fg (x :: a) (x :: b)
  | drop {x : Option D} {a b : DS} : Fg a b → Fg (x :: a) (none :: b)
theorem Fg.refl : ∀ a : DS, Fg a a
  | [] => .nil
  | _ :: r => .keep (Fg.refl r)
theorem Fg.get : ∀ {a b : DS}, Fg a b → ∀ (i : Nat) (d : D), b[i]? = some (some d) → a[i]? = some (some d)
  | _, _, .nil, i, d, e => e
  | _, _, .keep h, 0, d, e => e
  | _, _, .keep h, i + 1, d, e => Fg.get h i d e
  | _, _, .drop h, 0, d, e => by cases e
  | _, _, .drop h, i + 1, d, e => Fg.get h i d e
theorem Fg.length : ∀ {a b : DS}, Fg a b → a.length = b.length
  | _, _, .nil => rfl
  | _, _, .keep h => by rw [List.length_cons, List.length_cons, h.length]
  | _, _, .drop h => by rw [List.length_cons, List.length_cons, h.length]
theorem Sg.forget {b : DS} (s : Sg K G σ ds) (f : Fg ds b) : Sg K G σ b := ⟨by rw [s.len, f.length], fun i d e => s.at_ i d (f.get i d e)⟩
theorem run_forget {b : DS} {t : TS} {E : AE} (f : Fg ds b) (h : Run K M b t E) : Run K M ds t E := fun M' σ G H Z m s w z => h M' σ G H Z m (s.forget f) w z
/-- a for whose turns begin alike: what they store is forgotten -/
theorem run_forF {wi : TI} {g : TG} {tb : TS} {RI : List D → Prop} {E : AE} (b0 : DS) (hI : EvI K M ds wi RI) (h0 : Fg ds b0)
    (hs : ∀ es (i : Nat) d, RI es → es[i]? = some d → EvG K M none g d b0 (fun ds2 => Run K M ds2 tb { nx := fun ds' => Fg ds' b0, ct := fun ds' => Fg ds' b0, bk := E.nx, rt := E.rt })) (hd : E.nx b0) : Run K M ds (tFor wi g tb) E := fun M' σ G H Z m s w z =>
  hI M' σ G H _ m s w fun J es G1 H1 s1 w1 hes W => by
    refine for_it (n := es.length) (G := fun H => ∃ G2, Same G1 G2 ∧ Wd M' G2 H) (Y := fun i H x H' => J.yld i H x H') ⟨fun i H hi ⟨G2, s2, w2⟩ => W.goes i H G2 M' hi s2 w2, fun H ⟨G2, s2, w2⟩ => W.stops H G2 M' s2 w2, fun i H x H' _ _ y => y⟩
      (fun i σ' H' => ∃ G2, Same G1 G2 ∧ Sg K G2 σ' b0 ∧ Wd M' G2 H') ⟨G1, Same.refl _, (s.mono s1).forget h0, w1⟩ (fun i σ' H' _ ⟨G2, s2, _, w2⟩ => ⟨G2, s2, w2⟩) (fun i x σ' H2 H3 hi ⟨G2, s2, sg, w2⟩ y => ?_)
      (fun σ' H' ⟨G2, s2, sg, w2⟩ => z.nx b0 σ' G2 H' hd (s1.trans s2) sg w2)
    obtain ⟨G3, d, s3, w3, hd', rd⟩ := W.yields i H2 x H3 G2 M' hi s2 w2 y
    refine hs es i d hes hd' M' σ' G3 H3 x _ m (sg.mono s3) w3 rd fun ds2 σ2 G4 H4 hr s4 sg4 w4 _ => ?_
    have s14 := (s2.trans s3).trans s4
    exact hr M' σ2 G4 H4 _ m sg4 w4 ⟨fun ds5 σ5 G5 H5 r5 s5 sg5 w5 => ⟨G5, s14.trans s5, sg5.forget r5, w5⟩, fun v d G5 H5 r5 s5 rp5 w5 => z.rt v d G5 H5 r5 (s1.trans (s14.trans s5)) rp5 w5,
      fun ds5 σ5 G5 H5 r5 s5 sg5 w5 => z.nx ds5 σ5 G5 H5 r5 (s1.trans (s14.trans s5)) sg5 w5, fun ds5 σ5 G5 H5 r5 s5 sg5 w5 => ⟨G5, s14.trans s5, sg5.forget r5, w5⟩⟩
theorem ei_range {ta : TA} {n : Int} (h : EvA K M ds ta (· = [.int n])) (hn : -(2 ^ 62) ≤ n ∧ n < 2 ^ 62) : EvI K M ds (iRng1 ta) (· = rangeD 0 n.toNat) := fun M' σ G H Z m s w q =>
  ei_range1 h (fun l e => ⟨n, e, hn.1, hn.2⟩) M' σ G H Z m s w fun J es G' H' a b ⟨j, ej, e2⟩ => q J es G' H' a b (by cases ej; exact e2)
variable {ta tb : TE} {b : Addr} {E : XK} {R : D → Prop}
/-- a draw out of a list that was drawn itself -/
theorem ev_ofR {Rb : D → Prop} (ha : Ev K M ds ta (· = .raw (.ref b))) (hb : Ev K M ds tb Rb) (hm : (b, IsBag K) ∈ M) (h : ∀ d, Rb d → ∃ es, itemsD d = some es ∧ lenD d = some es.length ∧ (∀ xs, d ≠ .seq xs) ∧ 0 < es.length ∧ es.length ≤ 100000 ∧ ∀ e ∈ es, R e) :
    Ev K M ds (tCall (spF K (preOf K) postOf) [] E (tCons ta (tCons tb tNil))) R :=
  ev_call (ea_cons ha (ea_cons hb ea_nil)) fun as ⟨a, r, e, e1, c, r2, e2, hc, e3⟩ => by
    subst e3; subst e2; subst e1; subst e
    obtain ⟨es, h1, h2, h3, h4, h5, h6⟩ := h c hc
    exact ⟨fun M' ms => ⟨b, c, es, rfl, ms.l _ hm, h1, h2, h3, h4, h5⟩, fun r q => h6 r (q b c es rfl h1)⟩
end
section
variable {K : PySem.W.Frag} {M : Mt} {ds : DS} {ta tb : TE}
theorem od_weak {r : R2} {a b : D} {R R' : D → Prop} (h : OpD K M r a b R) (f : ∀ d, R d → R' d) : OpD K M r a b R' := fun M' G H x y Q m rx ry w q => h M' G H x y Q m rx ry w fun v d G' H' s' w' r' e => q v d G' H' s' w' r' (f d e)
theorem EvI.weak {wi : TI} {R R' : List D → Prop} (h : EvI K M ds wi R) (f : ∀ es, R es → R' es) : EvI K M ds wi R' := fun M' σ G H Z m s w q => h M' σ G H Z m s w fun J es G' H' s' w' e W => q J es G' H' s' w' (f es e) W
/-- whole numbers that are drawn -/
abbrev anyInt : D → Prop := fun d => ∃ i : Int, d = .int i
theorem ev_subAny (ha : Ev K M ds ta anyInt) (hb : Ev K M ds tb anyInt) : Ev K M ds (tOp (rI0 fun i j => V.int (i - j)) ta tb) anyInt := ev_op ha hb fun a b ⟨i, e1⟩ ⟨j, e2⟩ => by rw [e1, e2]; exact od_weak od_subI fun d e => ⟨_, e⟩
theorem ev_addAny (ha : Ev K M ds ta anyInt) (hb : Ev K M ds tb anyInt) : Ev K M ds (tOp (rAddU K) ta tb) anyInt := ev_op ha hb fun a b ⟨i, e1⟩ ⟨j, e2⟩ => by rw [e1, e2]; exact od_weak od_addI fun d e => ⟨_, e⟩
theorem ev_any {te : TE} {R : D → Prop} (h : Ev K M ds te R) (f : ∀ d, R d → anyInt d) : Ev K M ds te anyInt := h.weak f
end
/-! ### texts of signs -/
theorem foldl_ones : ∀ (cs : List Nat) (acc : Array Nat), ((cs.map fun c => (⟨#[c]⟩ : Str)).foldl (fun acc p => acc ++ (Str.ofString "").cps ++ p.cps) acc) = acc ++ cs.toArray
  | [], acc => by simp
  | c :: r, acc => by
    rw [List.map_cons, List.foldl_cons, foldl_ones r]
    have e : (Str.ofString "").cps = #[] := by decide +kernel
    rw [e]
    simp
theorem join0 (cs : List Nat) : Txt.join (Str.ofString "") (cs.map fun c => (⟨#[c]⟩ : Str)) = ⟨cs.toArray⟩ := by
  show Builtin.Str.glued (Str.ofString "") _ = _
  cases cs with
  | nil => rfl
  | cons c r =>
    show (⟨((r.map fun c => (⟨#[c]⟩ : Str)).foldl (fun acc p => acc ++ (Str.ofString "").cps ++ p.cps) #[c])⟩ : Str) = _
    rw [foldl_ones]
    simp
theorem sum_ones (cs : List Nat) : ((cs.map fun c => (⟨#[c]⟩ : Str)).map (·.length)).sum = cs.length := by
  induction cs with
  | nil => rfl
  | cons c r ih =>
    rw [List.map_cons, List.map_cons, List.sum_cons, ih]
    show 1 + r.length = r.length + 1
    omega
/-- signs that were drawn -/
theorem signs_all {x : Str} : ∀ {acc : List D}, (∀ (i : Nat) y, acc[i]? = some y → y ∈ signsD x) → ∃ cs : List Nat, acc = (cs.map fun c => (⟨#[c]⟩ : Str)).map D.str ∧ ∀ c ∈ cs, c ∈ x.cps.toList
  | [], _ => ⟨[], rfl, fun _ h => by cases h⟩
  | y :: r, h => by
    obtain ⟨cs, e, hc⟩ := signs_all (acc := r) fun i z hz => h (i + 1) z hz
    obtain ⟨c, hc1, rfl⟩ := List.mem_map.mp (h 0 y rfl)
    refine ⟨c :: cs, by rw [e]; rfl, fun d hd => ?_⟩
    rcases List.mem_cons.mp hd with rfl | hd
    · exact hc1
    · exact hc d hd
theorem cutS_len (z : Str) (lo hi : Option Int) : (cutS z lo hi).length ≤ z.length := by
  show (((z.cps.toList.drop _).take _).toArray).size ≤ z.cps.size
  simp
  omega
end Rg
namespace Rg
open PySem L2 RZ PyProof.Rows PySem.Builtin PySem.Builtin.ObjectAttr
/-- an own class of errors over a built-in one, with an __init__ of its own -/
structure Xc (K : PySem.W.Frag) (C : Addr) : Prop where
  base : ∃ (B newId initId : String) (bmB : List Value), ExcBaseFacts B newId initId bmB ∧ StoreFacts B bmB "object.__setattr__" "object" ∧ PySem.W.excInitIn K C bmB newId = true ∧ PySem.W.excOver K C bmB = true
  dct : PySem.W.hasDictIn K C = true
  sa : PySem.W.findIn K (.ref C) "__setattr__" = some (some (.builtin "object.__setattr__"))
  exC : PySem.W.subIn K (.ref C) (.type "BaseException") = some true
  tyC : PySem.W.typeIn K (.ref C) = some (.type "type")
  kC : PySem.W.keepIn K (.ref C) = true
section
variable {prog : Program} {w : World} {A : Around} {R : Result → Shared → Prop} {hp : Heap} {g : Array GenState} {d : Drawn} {t : Nat} {os : OsState}
variable {K : PySem.W.Frag} {x C dx : Addr} {f : Str} {tk : Tok} {v : Value} {fv : Array Value} {m0 : Str → Option Value} {nl : List Str}
theorem xdict (T : Xc K C) : ∃ cd : ClassData, PySem.W.clsIn K C = some cd ∧ cd.hasDict = true := by
  have h := T.dct
  unfold PySem.W.hasDictIn at h
  cases e : PySem.W.clsIn K C with
  | none => rw [e] at h; cases h
  | some cd => rw [e] at h; exact ⟨cd, rfl, h⟩
/-- the first field: the object gets its dict -/
theorem xstore_new (T : Xc K C) (X : K.In hp) (hx : hp.get? x = some { cls := .ref C, data := .fields fv }) (ha : PySem.W.findIn K (.ref C) f = some none)
    (hq : ∀ h' tk' dx, (∀ b o, b ≠ x → hp.get? b = some o → h'.get? b = some o) → hp.objs.size ≤ dx → dx ≠ x → h'.get? x = some { cls := .ref C, dict := some dx, data := .fields fv } → h'.Ns1 dx (fun y => if y = f then some v else none) → R (.ok (.ret .none)) ⟨h', g, d, tk', os⟩) :
    codeAny (model prog w) A (.call (.builtin "object.__setattr__") ⟨[.ref x, .str f tk, v], []⟩) R ⟨hp, g, d, t, os⟩ := by
  obtain ⟨B, newId, initId, bmB, FB, SF, _, hov⟩ := T.base
  obtain ⟨cd, hcd, hh⟩ := xdict T
  have I : PySem.W.InstAt hp x { cls := .ref C, data := .fields fv } C none := ⟨hx, rfl, rfl, trivial⟩
  have apart : x ≠ hp.objs.size := Nat.ne_of_lt (Heap.lt_size hx)
  refine PySem.W.osa_openX (s := ⟨hp, g, d, t, os⟩) SF X I hov (r := none) (by unfold PySem.W.takerIn; rw [ha]; rfl) fun b => ?_
  have lk : PySem.W.Looks (model prog w) hp (classData C) cd := PySem.W.looks_clsIn X hcd
  obtain ⟨c1, c2, c3, c4, c5, c6, c7, c8, c9, c10, c11⟩ := cd
  dsimp only at hh ⊢
  subst hh
  unfold storeInOwnDict ownDictForStores
  repeat (first | (with_reducible refine PySem.HandSPX.store_in_new ?_ ?_) | (with_reducible refine lk.at ?_) | (with_reducible refine wpAny_loadPart_at hx ?_) | wp_step)
  · refine ⟨_, #[], _, (Heap.get?_update_ne _ _ _ _ apart.symm).trans (Heap.get?_push_at rfl rfl), rfl, fun z hz => ?_, fun _ => rfl⟩
    simp at hz
  · intro h2 tk2 ns sb
    have up : (hp.push { cls := .type "dict", data := .dict #[] }).get? x = some { cls := .ref C, data := .fields fv } := Heap.get?_push_of_some _ hx
    refine hq h2 tk2 hp.objs.size (fun c o hc ho => ?_) (Nat.le_refl _) apart.symm ?_ ns
    · have e1 := sb.2 c (Nat.ne_of_lt (Heap.lt_size ho))
      exact e1.trans ((Heap.get?_update_ne _ _ _ _ hc).trans (Heap.get?_push_of_some _ ho))
    · have e1 := sb.2 x apart
      exact e1.trans (Heap.get?_update_self _ up rfl)
/-- a further field -/
theorem xstore_old (T : Xc K C) (X : K.In hp) (hx : hp.get? x = some { cls := .ref C, dict := some dx, data := .fields fv }) (hn : hp.Ns1 dx m0) (hw : Within m0 nl) (hz : nl.length ≤ 1000) (ha : PySem.W.findIn K (.ref C) f = some none)
    (hq : ∀ h' tk', (∀ b o, b ≠ dx → hp.get? b = some o → h'.get? b = some o) → h'.Ns1 dx (fun y => if y = f then some v else m0 y) → R (.ok (.ret .none)) ⟨h', g, d, tk', os⟩) :
    codeAny (model prog w) A (.call (.builtin "object.__setattr__") ⟨[.ref x, .str f tk, v], []⟩) R ⟨hp, g, d, t, os⟩ := by
  obtain ⟨B, newId, initId, bmB, FB, SF, _, hov⟩ := T.base
  obtain ⟨cd, hcd, hh⟩ := xdict T
  obtain ⟨oD, _, _, hoD, _, _⟩ := hn.count hw
  have I : PySem.W.InstAt hp x { cls := .ref C, dict := some dx, data := .fields fv } C (some oD) := ⟨hx, rfl, rfl, hoD⟩
  refine PySem.W.osa_openX (s := ⟨hp, g, d, t, os⟩) SF X I hov (r := none) (by unfold PySem.W.takerIn; rw [ha]; rfl) fun b => ?_
  have lk : PySem.W.Looks (model prog w) hp (classData C) cd := PySem.W.looks_clsIn X hcd
  obtain ⟨c1, c2, c3, c4, c5, c6, c7, c8, c9, c10, c11⟩ := cd
  dsimp only at hh ⊢
  subst hh
  unfold storeInOwnDict ownDictForStores
  repeat (first | (with_reducible refine PySem.OEX.store_in_old hn hw hz ?_) | (with_reducible refine lk.at ?_) | (with_reducible refine wpAny_loadPart_at hx ?_) | wp_step)
  intro h2 tk2 ns sb
  exact hq h2 tk2 (fun c o hc ho => (sb.2 c hc).trans ho) ns
end
section
variable {X : Cx} {pins : List (Addr × Obj)} {σ : L2.St} {H : Hp} {s : Shared} {a C dx : Addr} {f : Str} {y : V} {u : Value} {fs : List (Str × V)} {Q : Unit → Shared → Prop} {E : Value → Shared → Prop} {A : Around}
/-- self.f = y on an error that is being made, over the layer's state -/
theorem xset_new (T : Xc X.K C) (J : Inv X pins σ H s) (e : H a = some (exo a C none)) (hno : PySem.W.findIn X.K (.ref C) f = some none) (ry : RelV y u)
    (h : ∀ dx s', H dx = none → dx ≠ a → Inv X pins σ (upd (upd H dx (exd dx [(f, y)])) a (exo a C (some dx))) s' → Q () s') : wpAny (model X.prog X.w) A (setAttr (.ref a) f u) Q E s := by
  obtain ⟨t1, ho⟩ := exo_at J.hok e
  obtain ⟨hp, g, d, t, os⟩ := s
  refine PySem.W.set_plain J.kIn (od := none) ⟨ho, rfl, rfl, trivial⟩ T.sa ?_
  refine xstore_new T J.kIn ho hno fun h2 tk2 dx k dn dne hx hn => ?_
  have fresh : H dx = none := J.hok.fresh dn
  have ltd : ∀ {b : Addr} {o : Obj}, hp.get? b = some o → b ≠ dx := fun {b o} q => Nat.ne_of_lt (Nat.lt_of_lt_of_le (Heap.lt_size q) dn)
  have nea : ∀ {b : Addr}, H b = none → b ≠ a := fun {b} n z => by
    subst z
    rw [n] at e
    cases e
  have at2 : ∀ b u, H b = some u → u ≠ exo a C none → upd (upd H dx (exd dx [(f, y)])) a (exo a C (some dx)) b = some u := fun b u q ne => by
    have b1 : b ≠ a := fun z => by
      subst z
      rw [e] at q
      exact ne (Option.some.inj q).symm
    rw [upd_ne b1, upd_ne (ne_of_none q fresh)]
    exact q
  refine h dx _ fresh dne (J.un (t' := tk2) ⟨fun b o q n _ _ => k b o (nea n) q, fun b o q n _ _ => ⟨o.slots, k b o (nea n) q⟩, fun b o q n _ => ?_, fun b o q _ => ?_, fun b xs q => at2 b _ q fun z => exo_tup z.symm, fun b o v q => at2 b _ q fun z => exo_frz z.symm, fun b ps q => ⟨#[], ?_⟩⟩ fun b o q => ?_)
  · rw [upd_ne (nea n), upd_ne (ltd q)]
    exact n
  · by_cases hb : b = a
    · subst hb; exact ⟨_, hx⟩
    · exact ⟨o, k b o hb q⟩
  · rw [at2 b _ q fun z => exo_tbl z.symm]
    simp
  · by_cases hb : b = a
    · subst hb
      rw [upd_same] at q
      cases q
      exact exo_ok hx
    · rw [upd_ne hb] at q
      by_cases hd : b = dx
      · subst hd
        rw [upd_same] at q
        cases q
        exact exd_ok hn (relO_put (fs := []) ry fun _ => True.intro)
      · rw [upd_ne hd] at q
        refine (J.hok b o q).stay (fun c v hc z => k c v (fun w' => ?_) z) (fun c hc => at2 c _ hc fun z => exo_own z.symm) fun c xs hc => at2 c _ hc fun z => exo_tup z.symm
        subst w'
        rcases hc with hc | hc
        · exact hb hc.symm
        · rw [e] at hc
          exact exo_own (Option.some.inj hc)
theorem xset_old (T : Xc X.K C) (J : Inv X pins σ H s) (e : H a = some (exo a C (some dx))) (ed : H dx = some (exd dx fs)) (hl : fs.length ≤ 900) (hno : PySem.W.findIn X.K (.ref C) f = some none) (ry : RelV y u)
    (h : ∀ s', Inv X pins σ (upd H dx (exd dx ((f, y) :: fs))) s' → Q () s') : wpAny (model X.prog X.w) A (setAttr (.ref a) f u) Q E s := by
  obtain ⟨t1, ho⟩ := exo_at J.hok e
  obtain ⟨mA, ns, rel⟩ := exd_at J.hok ed
  have wi := within_of rel
  obtain ⟨hp, g, d, t, os⟩ := s
  obtain ⟨oD, _, _, hoD, _, _⟩ := ns.count wi
  refine PySem.W.set_plain J.kIn (od := some oD) ⟨ho, rfl, rfl, hoD⟩ T.sa ?_
  refine xstore_old T J.kIn ho ns wi (by rw [List.length_map]; omega) hno fun h2 tk2 k hn => ?_
  refine h _ (J.write (t' := tk2) (x := dx) (e := dx) (o := exd dx ((f, y) :: fs)) (by rw [ed]; exact True.intro) (.inl rfl) k ?_ (exd_ok hn (relO_put ry rel)))
  obtain ⟨o, _, _, e2, _⟩ := hn
  exact ⟨o, e2⟩
end
end Rg
namespace Rg
open PySem L2 RZ PyProof.Rows
/-- self.f = e, self an error that is being made -/
def tXst (K : PySem.W.Frag) (f : Str) (to te : TE) : TS := fun Z σ H => te σ H fun y H1 => to σ H1 fun x H2 => ∃ a C : Addr, x = .ref a ∧ Xc K C ∧ PySem.W.findIn K (.ref C) f = some none ∧
  ((H2 a = some (exo a C none) ∧ ∀ dx, H2 dx = none → dx ≠ a → Z.nx σ (upd (upd H2 dx (exd dx [(f, y)])) a (exo a C (some dx)))) ∨
    ∃ (dx : Addr) (fs : List (Str × V)), H2 a = some (exo a C (some dx)) ∧ H2 dx = some (exd dx fs) ∧ fs.length ≤ 900 ∧ Z.nx σ (upd H2 dx (exd dx ((f, y) :: fs))))
/-- C(e, ..) of an own error as a value -/
def tXmk (C : Addr) (sp : Sp) (dvs : List V) (ta : TA) : TE := fun σ H Q => ta σ H fun vs H1 => vs.length ≤ 1000 ∧ ∀ a, H1 a = none → sp (.ref a :: (vs ++ dvs)) (upd H1 a (exo a C none)) (fun v H2 => v = .non ∧ Q (.ref a) H2) (fun _ _ _ => False)
section
variable {X : Cx} {o e : Expr} {es : List Expr} {to te : TE} {ta : TA} {f : Str} {p p' pos : Pos}
theorem ps_xset (ho : PE X o to) (he : PE X e te) (hs : swapsWith e (some (.Attribute o f p')) pos.line X.env = pure false := by rfl) : PS X (.Assign [.Attribute o f p'] e pos) (tXst X.K f to te) :=
  ⟨fun pins s σ H Z J h => plainObj_wpAny_Assign_Attribute (thn (he.run pins s σ H _ J h) fun v s1 ⟨y, H1, J1, r1, q1⟩ => thn (ho.run pins s1 σ H1 _ J1 q1) fun u s2 ⟨x, H2, J2, r2, a, C, ex, T, hno, q⟩ => by
    subst ex
    obtain rfl : u = Value.ref a := r2
    rcases q with ⟨ea, q⟩ | ⟨dx, fs, ea, ed, hl, q⟩
    · exact xset_new T J2 ea hno r1 fun dx s3 n ne J3 => ⟨σ, _, J3, q dx n ne⟩
    · exact xset_old T J2 ea ed hl hno r1 fun s3 J3 => ⟨σ, _, J3, q⟩) hs⟩
theorem pe_xmk {CX : CXT} {x : Str} {C fI : Addr} {k : Nat} {fd : FuncData} {ps : List Str} {sp : Sp} {ds : List Value} {dvs : List V} (T : Xc X.K C) (iC : PySem.W.findIn X.K (.ref C) "__init__" = some (some (.ref fI))) (tI : PySem.W.typeIn X.K (.ref fI) = some (.type "function"))
    (FI : FnOk X.prog X.w X.K X.mg X.base CX k fI fd ps sp) (hr : Room (k + 1) X.A) (hb : Binds X.K fd ps ds) (hd : Vals dvs ds) (hx : Passes CX X (fun _ _ _ => False)) (hg : Gl X x) (hm : X.mg x = some (.ref C)) (ha : PA X (e :: es) ta)
    (hdb : (x == ("__debug__" : Str)) = false := by decide) (he : starEach (e :: es) X.env = (false, eval e X.env) :: starEach es X.env := by rfl) (hpl : (backTo pos (starEach es X.env)).any (·.1) = false := by rfl) :
    PE X (.Call (.Name x p) (e :: es) [] pos) (tXmk C sp dvs ta) := by
  refine ⟨fun pins s σ H Q J h => ?_⟩
  obtain ⟨B, newId, initId, bmB, FB, SF, hin, hov⟩ := T.base
  refine wpAny_Call_Name_kw (ld_glob J hg hm ?_ hdb)
  refine PySem.W.callWith_K (h₀ := X.base) J.ok.mod.kin T.kC (thn (ha.run pos pins s σ H _ J h) fun us s1 ⟨vs, H1, J1, r1, hz, q1⟩ => ⟨J1.kIn, ?_⟩) he hpl
  obtain ⟨hp, g, dr, tk, os⟩ := s1
  obtain ⟨nm, N, q, bs, bm, hdct, sn, sub, ab, col, dd, k0, k1, k2, k3, k5, hC, hT⟩ := PySem.W.excInit_of J1.kIn hin
  show wpAny _ _ (call (.ref C) us) _ _ _
  have up : hp.objs.size ≤ hp.objs.size + 1 := Nat.le_succ _
  have fr : H1 (hp.objs.size + 1) = none := J1.hok.fresh up
  have got : ((hp.push (PySem.W.kdv_tup us)).push (PySem.HandSPX.excO C hp.objs.size)).get? (hp.objs.size + 1) = some (PySem.HandSPX.excO C hp.objs.size) := by heap_get
  have J2 := J1.laid (t' := tk) (a := hp.objs.size + 1) (o := exo (hp.objs.size + 1) C none) (h' := (hp.push (PySem.W.kdv_tup us)).push (PySem.HandSPX.excO C hp.objs.size)) (fun b o z => Heap.get?_push_of_some _ (Heap.get?_push_of_some _ z)) up (exo_ok got)
  have want := q1 (hp.objs.size + 1) fr
  have rel : Vals (V.ref (hp.objs.size + 1) :: (vs ++ dvs)) (Value.ref (hp.objs.size + 1) :: (us ++ ds)) := .cons rfl (r1.append hd)
  have len : (Value.ref (hp.objs.size + 1) :: us ++ ds).length = ps.length := (rel.length.symm).trans (FI.len _ _ _ _ want)
  have small : us.length ≤ sizeLine := Nat.le_trans (show us.length ≤ 1000 by rw [← r1.length]; exact hz) (by decide)
  refine wpAny_call (PySem.HandSPX.call_own FB hT hC (PySem.W.looks_findIn J1.kIn iC) (fun self => PySem.W.bind_fn J1.kIn self tI) small
    (codeAny_mono (FI.run _ X.stack _ _ ⟨Value.ref (hp.objs.size + 1) :: us, []⟩ (Value.ref (hp.objs.size + 1) :: (us ++ ds)) _ _ (fun _ _ _ => False) (hr.make C us []) (J2.env0.make C us []) (hb _ (Value.ref (hp.objs.size + 1) :: us) J2.kIn len) rel want) fun r s2 got2 => ?_))
  cases r with
  | error er => exact hx pins σ _ _ er s2 J2 got2
  | ok fl =>
    cases fl with
    | ret u =>
      obtain ⟨v, H', J3, rv, ev, q3⟩ := J2.after got2
      subst ev
      exact ⟨rv, V.ref (hp.objs.size + 1), H', J3, rfl, q3⟩
    | next => exact False.elim got2
    | brk => exact False.elim got2
    | cont => exact False.elim got2
end
end Rg
namespace PySem
namespace XKw
open PySem.HandSPX
/-! the making of an own error by keywords -/
section
variable {M : Model} {prog : Program} {w : World} {A : Around} {E : Value → Shared → Prop} {R : Result → Shared → Prop} {h : Heap} {g : Array GenState} {d : Drawn} {t : Nat} {os : OsState}
variable {nm q : Str} {C N : Addr} {bs bm bmB : List Value} {hdct : Bool} {sn : List Str} {sub : List Value} {ab : Bool} {col : Option Bool} {dd : Option Addr} {k0 k1 k2 k3 k5 : Option Value} {B newId initId : String} {rest : List Value} {kw : List (Str × Value)}
theorem passes_new (FB : ExcBaseFacts B newId initId bmB) (tl : ∀ Y : String, bm.contains (.type Y) = bmB.contains (.type Y)) {Q : Unit → Shared → Prop} (at_ : h.get? C = some (excClassObj nm q C N bs bm hdct sn sub ab col dd k0 k1 k2 k3 k5 newId)) (hq : Q () ⟨h, g, d, t, os⟩) :
    wpAny M A (checkBuiltinCall newId ⟨.ref C :: rest, kw⟩) Q E ⟨h, g, d, t, os⟩ := by
  have inB : (Value.ref C :: bm).contains (.type B) = true := by rw [List.contains_cons, tl B, FB.hasB]; exact Bool.or_true _
  have nst := FB.noStar
  simp only [checkBuiltinCall, FB.newRow, FB.newKind, FB.newSplit]
  repeat (first | refine wpAny_staticBase_exc at_ ?_ | refine wpAny_madeBy_exc at_ ?_ | refine wpAny_loadPart_at at_ ?_ | (refine wpAny_isSubtype_exc at_ ?_; rw [inB]) | simp only [bne_self_eq_false, Bool.false_eq_true, if_false] | wp_step)
  exact hq
theorem lays_new (FB : ExcBaseFacts B newId initId bmB) (tl : ∀ Y : String, bm.contains (.type Y) = bmB.contains (.type Y)) (at_ : h.get? C = some (excClassObj nm q C N bs bm hdct sn sub ab col dd k0 k1 k2 k3 k5 newId)) (few : rest.length ≤ sizeLine)
    (hq : R (.ok (.ret (.ref (h.objs.size + 1)))) ⟨(h.push { cls := .type "tuple", data := .seq rest.toArray }).push { cls := .ref C, data := .fields #[.ref h.objs.size, .none, .none, .none, .bool false, .none] }, g, d, t, os⟩) :
    codeAny (model prog w) A (.builtin newId ⟨.ref C :: rest, kw⟩) R ⟨h, g, d, t, os⟩ := by
  have ends := FB.ends
  have inN : (Value.ref C :: bm).contains (.type "NameError") = false := by rw [List.contains_cons, tl, FB.noName]; rfl
  have inA : (Value.ref C :: bm).contains (.type "AttributeError") = false := by rw [List.contains_cons, tl, FB.noAttr]; rfl
  have inB : (Value.ref C :: bm).contains (.type B) = true := by rw [List.contains_cons, tl B, FB.hasB]; exact Bool.or_true _
  refine codeAny_builtinAt FB.entry ?_
  unfold Builtin.«BaseException.__new__»
  refine wpAt_bind ?_
  show wpAt _ _ _ (stack >>= _) _ _ _
  refine wpAt_bind (wpAt_stack fun p0 b0 => wpAt_of_wpAny ?_)
  wp_walk
  refine wpAt_of_wpAny ?_
  rw [FB.owner]
  repeat (first | with_reducible refine wpAny_madeHere_exc FB.canon at_ ?_ | with_reducible refine wpAny_loadPart_at at_ ?_ | (with_reducible refine wpAny_isSubtype_exc at_ ?_; first | rw [inB] | rw [inA] | rw [inN]) | wp_step)
  show R _ _
  rw [Heap.size_push]
  exact hq
theorem looks_call {Q : Unit → Shared → Prop} (at_ : h.get? C = some (excClassObj nm q C N bs bm hdct sn sub ab col dd k0 k1 k2 k3 k5 newId)) (hq : Q () ⟨h, g, d, t, os⟩) : wpAny M A (checkBuiltinCall "type.__call__" ⟨.ref C :: rest, kw⟩) Q E ⟨h, g, d, t, os⟩ := by
  have ts := tc_sub
  have ty : (⟨h, g, d, t, os⟩ : Shared).TypeIs (.ref C) "type" := ⟨_, at_, rfl⟩
  simp only [checkBuiltinCall, tc_split, tc_kind]
  repeat (any_goals (first | assumption | (with_reducible refine wpAny_loadPart_at at_ ?_) | (with_reducible refine wpAny_onRaise ?_) | (with_reducible refine wpAny_map ?_) | wp_step))
theorem makes_kw (FB : ExcBaseFacts B newId initId bmB) (tl : ∀ Y : String, bm.contains (.type Y) = bmB.contains (.type Y)) {fI : Addr} {Q : Fin → Shared → Prop} (at_ : h.get? C = some (excClassObj nm q C N bs bm hdct sn sub ab col dd k0 k1 k2 k3 k5 newId))
    (hi : W.Looks (model prog w) h (typeLookup (.ref C) "__init__") (some (.ref fI))) (hb : ∀ self, W.Looks (model prog w) h (bindSpecial (.ref fI) self) (.ref fI, [self])) (few : rest.length ≤ sizeLine)
    (hq : codeAny (model prog w) A (.call (.ref fI) ⟨.ref (h.objs.size + 1) :: rest, kw⟩) (fun r s' => match r with | .ok (.ret v) => v = .none ∧ Q (.done (.ret (.ref (h.objs.size + 1)))) s' | .ok _ => False | .error e => E e s') ⟨(h.push (W.kdv_tup rest)).push (excO C h.objs.size), g, d, t, os⟩) :
    wpAny (model prog w) A (Builtin.«type.__call__» ⟨.ref C :: rest, kw⟩) Q E ⟨h, g, d, t, os⟩ := by
  repeat (first | (with_reducible refine wpAny_madeBy_exc at_ ?_) | (with_reducible refine wpAny_loadPart_at at_ ?_) | wp_step)
  refine codeAny_call_builtin_code (Code.quiet_builtin _ FB.quiet) (passes_new FB tl at_ (lays_new FB tl at_ few ?_))
  show wpAny _ _ _ _ _ _
  have st : ∀ b o, h.get? b = some o → ((h.push (W.kdv_tup rest)).push (excO C h.objs.size)).get? b = some o := fun b o z => Heap.get?_push_of_some _ (Heap.get?_push_of_some _ z)
  have got : ((h.push (W.kdv_tup rest)).push (excO C h.objs.size)).get? (h.objs.size + 1) = some (excO C h.objs.size) := by heap_get
  have at2 := st _ _ at_
  have inC : (Value.ref C :: bm).contains (.ref C) = true := by simp
  have i2 := hi.keeps st
  have b2 := (hb (.ref (h.objs.size + 1))).keeps st
  unfold isInstance
  repeat (first | (with_reducible refine wpAny_loadPart_at got ?_) | (with_reducible refine wpAny_isSubtype_exc at2 ?_; rw [inC]) | wp_step)
  show wpAny _ _ (typeLookup (.ref C) _) _ _ _
  refine i2.at (wpAny_holding (wpAny_bind (b2.at (wpAny_bind (wpAny_call (codeAny_mono hq fun r s2 z => ?_))))))
  cases r with
  | error er => exact z
  | ok fl =>
    cases fl with
    | ret v =>
      obtain ⟨ev, z⟩ := z
      subst ev
      first
      | exact wpAny_pure (wpAny_pure z)
      | (wp_walk; exact z)
    | next => exact z.elim
    | brk => exact z.elim
    | cont => exact z.elim
theorem call_kw (FB : ExcBaseFacts B newId initId bmB) (tl : ∀ Y : String, bm.contains (.type Y) = bmB.contains (.type Y)) {fI : Addr} (at_ : h.get? C = some (excClassObj nm q C N bs bm hdct sn sub ab col dd k0 k1 k2 k3 k5 newId))
    (hi : W.Looks (model prog w) h (typeLookup (.ref C) "__init__") (some (.ref fI))) (hb : ∀ self, W.Looks (model prog w) h (bindSpecial (.ref fI) self) (.ref fI, [self])) (few : rest.length ≤ sizeLine)
    (hq : codeAny (model prog w) (A.under (.builtin "type.__call__" ⟨.ref C :: rest, kw⟩)) (.call (.ref fI) ⟨.ref (h.objs.size + 1) :: rest, kw⟩) (W.InitBack (h.objs.size + 1) R) ⟨(h.push (W.kdv_tup rest)).push (excO C h.objs.size), g, d, t, os⟩) :
    codeAny (model prog w) A (.call (.ref C) ⟨rest, kw⟩) R ⟨h, g, d, t, os⟩ := by
  have t1 := tc_lookup
  have t2 := tc_bind (.ref C)
  have ty : (⟨h, g, d, t, os⟩ : Shared).TypeIs (.ref C) "type" := ⟨_, at_, rfl⟩
  refine codeAny_of_tree ?_
  show wpAny _ _ (callAny (.ref C) _) _ _ _
  repeat (any_goals (first | assumption | (with_reducible refine wpAny_loadPart_at at_ ?_) | wp_step))
  refine ⟨rfl, codeAny_call_builtin_at (Code.quiet_builtin _ (by decide +kernel)) entry_typeCall (looks_call at_ (makes_kw FB tl at_ hi hb few (codeAny_mono hq fun r s2 z => ?_)))⟩
  rcases r with e | (v | _ | _ | _) <;> exact z
end
end XKw
end PySem
namespace Rg
open PySem L2 RZ PyProof.Rows
/-- what else such a class must say, for its errors to be asked -/
structure Xg (K : PySem.W.Frag) (C : Addr) : Prop extends Xc K C where
  ga : PySem.W.findIn K (.ref C) "__getattribute__" = some (some (.builtin "BaseException.__getattribute__"))
  gg : PySem.W.findIn K (.ref C) "__getattr__" = some none
  cl : PySem.W.findIn K (.ref C) "__class__" = some (some (.builtin "object.__class__"))
  gs : PySem.W.specialIn K (.builtin "object.__class__") "__get__" = some (some (.builtin "getset_descriptor.__get__"))
  tk : PySem.W.takesIn K (.builtin "object.__class__") = some true
  ob : PySem.W.mroIn K C (.type "object") = some true
/-- C(k = v, ..) of an own error, the keywords from behind; C() -/
def tXmkK (C : Addr) (n : Nat) (sp : Sp) (tk : TA) : TE := fun σ H Q => tk σ H fun zs H1 => zs.length = n ∧ ∀ a, H1 a = none → sp (.ref a :: zs.reverse) (upd H1 a (exo a C none)) (fun v H2 => v = .non ∧ Q (.ref a) H2) (fun _ _ _ => False)
/-- e.f of an own error -/
def tXget (K : PySem.W.Frag) (f : Str) (te : TE) : TE := fun σ H Q => te σ H fun x H1 => ∃ (a C dx : Addr) (fs : List (Str × V)) (v : V), x = .ref a ∧ H1 a = some (exo a C (some dx)) ∧ H1 dx = some (exd dx fs) ∧ Xg K C ∧ PySem.W.findIn K (.ref C) f = some none ∧ fs.lookup f = some v ∧ Q v H1
/-- isinstance(e, c) of an own error -/
def rIsX (K : PySem.W.Frag) : List V → Hp → VK → Prop := fun xs H Q => ∃ (a C dx : Addr) (c : V) (cv : Value) (b : Bool), xs = [.ref a, c] ∧ H a = some (exo a C (some dx)) ∧ (∃ fs, H dx = some (exd dx fs)) ∧ Xg K C ∧ ClsV c cv ∧ PySem.W.kitOne K (.ref C) cv = some b ∧ Q (.bl b) H
def rOrC (r r' : List V → Hp → VK → Prop) : List V → Hp → VK → Prop := fun xs H Q => r xs H Q ∨ r' xs H Q
section
variable {X : Cx} {e : Expr} {te : TE} {f : Str} {p pos : Pos} {a C dx : Addr} {fs : List (Str × V)} {H : Hp} {s : Shared} {σ : L2.St} {pins : List (Addr × Obj)}
theorem xinst (J : Inv X pins σ H s) (ea : H a = some (exo a C (some dx))) (ed : H dx = some (exd dx fs)) : ∃ (ox od : Obj) (mA : Str → Option Value), PySem.W.InstAt s.heap a ox C (some od) ∧ (∀ g, RelO (fs.lookup g) (mA g)) ∧ ∀ g, PySem.W.lookIn g od = some (mA g) := by
  obtain ⟨t1, ho⟩ := exo_at J.hok ea
  obtain ⟨mA, ns, rel⟩ := exd_at J.hok ed
  obtain ⟨od, hod, hl⟩ := lookIn_ns ns
  exact ⟨_, od, mA, ⟨ho, rfl, rfl, hod⟩, rel, fun g => hl g⟩
theorem pe_xget (he : PE X e te) (hb : attributeBase e f X.env (eval e X.env) = eval e X.env := by rfl) : PE X (.Attribute e f pos) (tXget X.K f te) := by
  refine ⟨fun pins s σ H Q J h => attr_of hb (thn (he.run pins s σ H _ J h) fun u s1 ⟨x, H1, J1, rx, a, C, dx, fs, v, ex, ea, ed, T, hno, l, q⟩ => ?_)⟩
  subst ex
  obtain rfl : u = Value.ref a := rx
  obtain ⟨ox, od, mA, I, rel, hl⟩ := xinst J1 ea ed
  obtain ⟨u2, hu, ru⟩ := RelO.some_of (v := v) (o := mA f) (by rw [← l]; exact rel f)
  exact PySem.HandSPX.exc_get J1.kIn I T.ga T.gg T.exC (PySem.W.findObj_own T.dct hno rfl (by rw [hl, hu])) (handed_of ru) ⟨v, H1, J1.tok _, ru, q⟩
theorem call_isX : CallR X (.builtin "isinstance") (rIsX X.K) := by
  intro pins s σ H xs us Q J r h
  obtain ⟨a, C, dx, c, cv, b, rfl, ea, ⟨fs, ed⟩, T, hc, hk, q⟩ := h
  obtain ⟨u1, u2, rfl, r1, r2⟩ := vals2 r
  obtain rfl : u1 = Value.ref a := r1
  have e2 := hc.eq r2
  subst e2
  obtain ⟨ox, od, mA, I, _, _⟩ := xinst J ea ed
  obtain ⟨cd, hcd, _⟩ := xdict T.toXc
  exact PySem.W.kia_one (PySem.W.kitx_exc (by rw [hcd]; rfl) T.ga T.gg T.exC T.cl T.gs T.tk T.ob) J.kIn I hk (fun z => nomatch z) fun t2 => ⟨.bl b, H, J.tok t2, rfl, q⟩
theorem call_or {g : Value} {r r' : List V → Hp → VK → Prop} (h : CallR X g r) (h' : CallR X g r') : CallR X g (rOrC r r') := fun pins s σ H xs us Q J rv q => q.elim (fun q => h pins s σ H xs us Q J rv q) fun q => h' pins s σ H xs us Q J rv q
theorem q_isiU {K : PySem.W.Frag} (h : X.K = K := by rfl) : CallR X (.builtin "isinstance") (rOrC (rIsi K) (rIsX K)) := h ▸ call_or call_isi call_isX
theorem q_xget {K : PySem.W.Frag} (he : PE X e te) (h : X.K = K := by rfl) (hb : attributeBase e f X.env (eval e X.env) = eval e X.env := by rfl) : PE X (.Attribute e f pos) (tXget K f te) := h ▸ pe_xget he hb
theorem pe_xmkK {CX : CXT} {x : Str} {C fI : Addr} {k : Nat} {fd : FuncData} {ps ks : List Str} {sp : Sp} {kws : List Keyword} {tk : TA} (T : Xc X.K C) (iC : PySem.W.findIn X.K (.ref C) "__init__" = some (some (.ref fI))) (tI : PySem.W.typeIn X.K (.ref fI) = some (.type "function"))
    (FI : FnOk X.prog X.w X.K X.mg X.base CX k fI fd ps sp) (hr : Room (k + 1) X.A) (hb : ∀ (s : Shared) (v : Value) (ws : List Value), ws.length = ks.length → BindsTo s fd ⟨[v], ks.zip ws⟩ (ps.zip (v :: ws.reverse))) (hx : Passes CX X (fun _ _ _ => False)) (hg : Gl X x) (hm : X.mg x = some (.ref C)) (hkw : PK X kws tk)
    (hall : (backToKw pos (keywordEach kws X.env)).all (·.1.isSome) = true := by rfl) (hks : (backToKw pos (keywordEach kws X.env)).filterMap (·.1) = ks := by rfl) (hdb : (x == ("__debug__" : Str)) = false := by decide)
    (hpl : ((backTo pos (starEach [] X.env)).any (·.1) || (backToKw pos (keywordEach kws X.env)).any (·.1.isNone)) = false := by rfl) : PE X (.Call (.Name x p) [] kws pos) (tXmkK C ks.length sp tk) := by
  refine ⟨fun pins s σ H Q J h => ?_⟩
  obtain ⟨B, newId, initId, bmB, FB, SF, hin, hov⟩ := T.base
  refine wpAny_Call_Name_kw (ld_glob J hg hm ?_ hdb)
  refine PySem.W.callWith_KW0 (h₀ := X.base) J.ok.mod.kin T.kC hall ?_ hpl
  refine thn (hkw.run pos pins s σ H _ J h) fun ws s1 ⟨zs, H1, J1, rz, lz, q1⟩ => ⟨J1.kIn, ?_⟩
  rw [hks]
  obtain ⟨hp, g, dr, tk, os⟩ := s1
  obtain ⟨nm, N, q, bs, bm, hdct, sn, sub, ab, col, dd, k0, k1, k2, k3, k5, hC, hT⟩ := PySem.W.excInit_of J1.kIn hin
  have up : hp.objs.size ≤ hp.objs.size + 1 := Nat.le_succ _
  have fr : H1 (hp.objs.size + 1) = none := J1.hok.fresh up
  have got : ((hp.push (PySem.W.kdv_tup [])).push (PySem.HandSPX.excO C hp.objs.size)).get? (hp.objs.size + 1) = some (PySem.HandSPX.excO C hp.objs.size) := by heap_get
  have J2 := J1.laid (t' := tk) (a := hp.objs.size + 1) (o := exo (hp.objs.size + 1) C none) (h' := (hp.push (PySem.W.kdv_tup [])).push (PySem.HandSPX.excO C hp.objs.size)) (fun b o z => Heap.get?_push_of_some _ (Heap.get?_push_of_some _ z)) up (exo_ok got)
  have want := q1 (hp.objs.size + 1) fr
  have rev : ∀ {zs : List V} {ws : List Value}, Vals zs ws → Vals zs.reverse ws.reverse := by
    intro zs ws r
    induction r with
    | nil => exact .nil
    | cons r0 _ ih => rw [List.reverse_cons, List.reverse_cons]; exact ih.append (.cons r0 .nil)
  have rel : Vals (V.ref (hp.objs.size + 1) :: zs.reverse) (Value.ref (hp.objs.size + 1) :: ws.reverse) := .cons rfl (rev rz)
  refine wpAny_call (PySem.XKw.call_kw (rest := []) FB hT hC (PySem.W.looks_findIn J1.kIn iC) (fun self => PySem.W.bind_fn J1.kIn self tI) (Nat.zero_le _)
    (codeAny_mono (FI.run _ X.stack _ _ ⟨[Value.ref (hp.objs.size + 1)], ks.zip ws⟩ (Value.ref (hp.objs.size + 1) :: ws.reverse) _ _ (fun _ _ _ => False) (hr.make C [] (ks.zip ws)) (J2.env0.make C [] (ks.zip ws)) (hb _ _ ws (by rw [← rz.length]; exact lz)) rel want) fun r s2 got2 => ?_))
  cases r with
  | error er => exact hx pins σ _ _ er s2 J2 got2
  | ok fl =>
    cases fl with
    | ret u =>
      obtain ⟨v, H', J3, rv, ev, q3⟩ := J2.after got2
      subst ev
      exact ⟨rv, V.ref (hp.objs.size + 1), H', J3, rfl, q3⟩
    | next => exact False.elim got2
    | brk => exact False.elim got2
    | cont => exact False.elim got2
end
end Rg
namespace Rg
open PySem L2 RZ PyProof.Rows
/-! ### clauses of a try: each by a test, with or without a name -/
theorem fly_on {h h' B : Heap} {fr : List Env} {a : Addr} {Z : Obj → Prop} (k : ∀ b o, h.get? b = some o → h'.get? b = some o) (x : HandSPX.FlyingZ B fr a Z h) : HandSPX.FlyingZ B fr a Z h' := by
  obtain ⟨x1, x2, x3, oe, vs, T, oT, ts, y1, y2, y3, y4, y5, y6, y7, y8⟩ := x
  exact ⟨fun b o e => k b o (x1 b o e), x2, Heap.FunFrames.of_keeps (fun b o e _ => ⟨o, k b o e, rfl⟩) x3, oe, vs, T, oT, ts, k _ _ y1, y2, y3, y4, y5, y6, k _ _ y7, y8⟩
/-- m tells whether an exception of a class is taken by the clause with the expression t -/
def HTest (X : Cx) (t : Expr) (m : Value → Option Bool) : Prop := ∀ (a : Addr) (oe : Obj) (pn : List (Addr × Obj)) (s : Shared) (σ : L2.St) (H : Hp) (b : Bool) (Q : Value → Shared → Prop) (E : Value → Shared → Prop),
  Inv (X.suite a ((a, oe) :: pn)) [] σ H s → m oe.cls = some b →
  (∀ h' u, (∀ c o, s.heap.get? c = some o → h'.get? c = some o) → PySem.W.Looks (model X.prog X.w) h' (excMatches (.ref a) u) b → Q u { s with heap := h' }) →
  wpAny (model X.prog X.w) (X.A.mark (some (.ref a))) (eval t X.env) Q E s
structure Hd where
  m : Value → Option Bool
  i : Option Nat
  ts : Addr × Obj → TS
def hdE (i : Option Nat) (Z : Ends) : Ends := match i with
  | none => Z
  | some i => { nx := fun σ' H' => Z.nx (σ'.set i none) H', rt := Z.rt, bk := fun σ' H' => Z.bk (σ'.set i none) H', ct := fun σ' H' => Z.ct (σ'.set i none) H' }
def hdS (i : Option Nat) (a : Addr) (σ : L2.St) : L2.St := match i with
  | none => σ
  | some i => σ.set i (some (.ref a))
/-- what the clauses wish of an exception of the body -/
def wHs (W0 : WX) (Z : Ends) : List Hd → WX
  | [] => W0
  | h :: r => fun cls d σ H => ∃ b, h.m cls = some b ∧ (b = true → ∀ p : Addr × Obj, Zc cls d p.2 → H p.1 = none → h.ts p (hdE h.i Z) (hdS h.i p.1 σ) H) ∧ (b = false → wHs W0 Z r cls d σ H)
def tTry (tb : WX → TS) (W0 : WX) (l : List Hd) : TS := fun Z σ H => tb (wHs W0 Z l) Z σ H
inductive HdOk (X : Cx) : List ExceptHandler → List Hd → Prop
  | nil : HdOk X [] []
  | only {t : Expr} {m : Value → Option Bool} {ts : Addr × Obj → TS} {st : Stmt} {sts : List Stmt} {q : Pos} {hs : List ExceptHandler} {l : List Hd} (ht : HTest X t m)
      (hb : ∀ (p : Addr × Obj) (pn : List (Addr × Obj)), (∃ vs, p.2.data = .fields vs) → PSs (X.suite p.1 (p :: pn)) (st :: sts) (ts p)) (r : HdOk X hs l) : HdOk X (.ExceptHandler (some t) none (st :: sts) q :: hs) (⟨m, none, ts⟩ :: l)
  | name {t : Expr} {m : Value → Option Bool} {ts : Addr × Obj → TS} {st : Stmt} {sts : List Stmt} {q : Pos} {hs : List ExceptHandler} {l : List Hd} {n : Str} {i : Nat} (ht : HTest X t m) (hi : X.N[i]? = some n) (hn : X.env.kindOf n = some .local)
      (hb : ∀ (p : Addr × Obj) (pn : List (Addr × Obj)), (∃ vs, p.2.data = .fields vs) → PSs (X.suite p.1 (p :: pn)) (st :: sts) (ts p)) (r : HdOk X hs l) : HdOk X (.ExceptHandler (some t) (some n) (st :: sts) q :: hs) (⟨m, some i, ts⟩ :: l)
section
variable {X : Cx} {body : List Stmt} {h₀ : ExceptHandler} {hds : List ExceptHandler} {l : List Hd} {pos : Pos} {tb : WX → TS} {W0 : WX}
theorem ps_tryH (stk : X.stack = X.env :: X.outer) (frm : X.env.frame = some X.env.locals) (nd : X.N.Nodup) (tk : Takes X W0)
    (hb : ∀ (W : WX) (pn : List (Addr × Obj)) (xe : Value → Shared → Prop), Takes (X.tr pn xe) W → PassesOwn (model X.prog X.w) X.A X.env xe → PSs (X.tr pn xe) body (tb W))
    (hh : HdOk X (h₀ :: hds) l) : PS X (.Try body (h₀ :: hds) [] [] pos) (tTry tb W0 l) := by
  refine ⟨fun pins s σ H Z J h0 => ?_⟩
  have h : tb (wHs W0 Z l) Z σ H := h0
  have okX := J.ok
  have frs' : X.A.frames = some (X.env :: X.outer) := by rw [okX.frames, stk]
  refine wpAny_Try_except ?_
  refine wpAny_mono ((hb (wHs W0 Z l) (X.pn ++ pins) (fun e s₁ => wpAny (model X.prog X.w) X.A (noteFrame e X.env) (fun _ s₂ => wpAny (model X.prog X.w) X.A (setFlight e none) (fun _ s₃ =>
    wpAny (model X.prog X.w) X.A (handleBy e X.env (h₀ :: hds)) (SP X pins Z) X.xe s₃) X.xe s₂) X.xe s₁) (fun u s' xx => ?_) PassesOwn.looking).run [] s σ H Z (J.toTry _) h) (fun f s1 got => ?_) (fun e s1 z => z)
  · obtain ⟨a, B, sI, pins', σ', H', cls, d, rfl, J', nb, up, sky, na, eos, ag, wish⟩ := xx
    have JI : Inv X pins σ' H' sI := J'.ofTry okX
    have sky2 : Sky B (X.env :: X.outer) a (Zc cls d) X.env.locals s'.heap := by rw [← stk]; exact sky
    show wpAny (model X.prog X.w) X.A (noteFrame (.ref a) X.env) _ _ _
    refine Sky.land Zc.steady frs' frm sky2 fun h3 fl3 up3 => ?_
    have onward : ∀ {hs' : List ExceptHandler} {l' : List Hd}, HdOk X hs' l' → ∀ (h4 : Heap), HandSPX.FlyingZ B (X.env :: X.outer) a (Zc cls d) h4 → sI.heap.UpToSlots h4 → wHs W0 Z l' cls d σ' H' →
        wpAny (model X.prog X.w) X.A (handleBy (.ref a) X.env hs') (SP X pins Z) X.xe { s' with heap := h4 } := by
      intro hs' l' hk
      -- what a clause has, whatever its name
      have have4 : ∀ (h4 : Heap), HandSPX.FlyingZ B (X.env :: X.outer) a (Zc cls d) h4 → sI.heap.UpToSlots h4 → ∃ oe : Obj, Zc cls d oe ∧ (∃ vs, oe.data = .fields vs) ∧ Inv (X.suite a ((a, oe) :: (X.pn ++ pins))) [] σ' H' { s' with heap := h4 } := fun h4 fl4 up4 => by
        have J4 : Inv X pins σ' H' { s' with heap := h4 } := JI.landed nb fl4.1 up4 eos ag
        obtain ⟨oe, vs, e1, z1, d1⟩ := fl4.there
        have off : a ∉ frs (X.env :: X.outer) := fun hm => by
          obtain ⟨_, o', e', hnf⟩ := fl4.2.2.1.mem hm
          have z := e1.symm.trans e'
          cases z
          exact hnf _ d1
        have offL : a ≠ X.env.locals := fun z => off (List.mem_filterMap.mpr ⟨X.env, List.mem_cons_self, by rw [frm, z]⟩)
        have offF : a ∉ X.fs := fun hm => by
          obtain ⟨e, he, q⟩ := List.mem_filterMap.mp hm
          exact off (List.mem_filterMap.mpr ⟨e, List.mem_cons_of_mem _ he, q⟩)
        exact ⟨oe, z1, ⟨vs, d1⟩, J4.suite e1 d1 na offL offF⟩
      induction hk with
      | nil =>
        intro h4 fl4 up4 w4
        refine wpAny_handleBy_nil ?_
        obtain ⟨k1, k2, k3, oe, vs, T, oT, ts', e1, z1, d1, v1, rest⟩ := id fl4
        unfold PySem.passOn
        refine wpAny_bind (wpAny_field e1 d1 v1 ?_)
        rw [if_neg (show ¬ ((Value.ref T == Value.none) = true) by simp)]
        have out : wpAny (model X.prog X.w) X.A (setFlight (.ref a) X.env.frame) (fun _ s5 => wpAny (model X.prog X.w) X.A (throw (.ref a) : Sem Flow) (SP X pins Z) X.xe s5) X.xe { s' with heap := h4 } := by
          rw [frm]
          refine HandSPX.setFlight_upZ fl4 fun h5 hh5 up5 => wpAny_throw (tk _ _ ?_)
          exact ⟨a, B, sI, pins, σ', H', cls, d, rfl, JI, nb, up4.trans up5, .inr (.inr (by rw [stk]; exact hh5)), na, eos, ag, w4⟩
        first
          | exact wpAny_bind (wpAny_pure (wpAny_bind out))
          | exact wpAny_bind out
      | @only t m ts st sts q hs2 l2 ht hb2 r ih =>
        intro h4 fl4 up4 ⟨b, hb1, yes, no⟩
        refine wpAny_handleBy_cons (codeAny_handlers_test ?_) (by intro z; cases z)
        obtain ⟨oe, z1, d1, S4⟩ := have4 h4 fl4 up4
        refine ht a oe _ _ σ' H' b _ _ S4 (by rw [z1.1]; exact hb1) fun h5 u k5 lk => lk.here ?_
        have fl5 := fly_on k5 fl4
        have up5 := up4.trans (Heap.UpToSlots.of_keeps k5)
        cases b with
        | true =>
          refine codeAny_handlers_suite (HandSPX.lands_againZ fl5 fun h6 fl6 up6 => ?_)
          obtain ⟨oe6, z6, d6, S6⟩ := have4 h6 fl6 (up5.trans up6)
          refine wpAny_mono ((hb2 (a, oe6) (X.pn ++ pins) d6).run [] _ _ H' _ S6 (yes rfl (a, oe6) z6 na)) (fun f s7 got => ?_) (fun _ _ z => False.elim z)
          cases f with
          | next =>
            obtain ⟨σ7, H7, S7, q7⟩ := got
            exact ⟨_, _, S7.unsuite okX, q7⟩
          | brk =>
            obtain ⟨σ7, H7, S7, q7⟩ := got
            exact ⟨_, _, S7.unsuite okX, q7⟩
          | cont =>
            obtain ⟨σ7, H7, S7, q7⟩ := got
            exact ⟨_, _, S7.unsuite okX, q7⟩
          | ret u =>
            obtain ⟨v7, σ7, H7, S7, r7, q7⟩ := got
            exact ⟨_, _, _, S7.unsuite okX, r7, q7⟩
        | false =>
          show wpAny _ X.A (handleBy (.ref a) X.env hs2) _ _ _
          exact ih h5 fl5 up5 (no rfl)
      | @name t m ts st sts q hs2 l2 n i ht hi hn hb2 r ih =>
        intro h4 fl4 up4 ⟨b, hb1, yes, no⟩
        refine wpAny_handleBy_cons (codeAny_handlers_test ?_) (by intro z; cases z)
        obtain ⟨oe, z1, d1, S4⟩ := have4 h4 fl4 up4
        refine ht a oe _ _ σ' H' b _ _ S4 (by rw [z1.1]; exact hb1) fun h5 u k5 lk => lk.here ?_
        have fl5 := fly_on k5 fl4
        have up5 := up4.trans (Heap.UpToSlots.of_keeps k5)
        cases b with
        | true =>
          refine codeAny_handlers_suite_as (HandSPX.lands_againZ fl5 fun h6 fl6 up6 => ?_)
          obtain ⟨oe6, z6, d6, S6⟩ := have4 h6 fl6 (up5.trans up6)
          refine store_ok (X := X.suite a ((a, oe6) :: (X.pn ++ pins))) (v := .ref a) S6 nd hi (.inl hn) rfl (fun s7 S7 => ?_) (.inr hn)
          refine wpAny_mono ((hb2 (a, oe6) (X.pn ++ pins) d6).run [] s7 _ H' _ S7 (yes rfl (a, oe6) z6 na)) (fun f s8 got => ?_) (fun _ _ z => False.elim z)
          have leave : ∀ {σ8 : L2.St} {H8 : Hp} {Q : Shared → Prop}, Inv (X.suite a ((a, oe6) :: (X.pn ++ pins))) [] σ8 H8 s8 → (∀ s9, Inv X pins (σ8.set i none) H8 s9 → Q s9) →
              wpAny (model X.prog X.w) X.A (do bindName X.env n .none; unbindBehindTheSuite X.env n q) (fun _ s9 => Q s9) X.xe s8 := fun {σ8 H8 Q} S8 hq => gone_ok (S8.unsuite okX) nd hi hn hq
          cases f with
          | next =>
            obtain ⟨σ8, H8, S8, q8⟩ := got
            exact leave S8 fun s9 J9 => ⟨_, _, J9, q8⟩
          | brk =>
            obtain ⟨σ8, H8, S8, q8⟩ := got
            exact leave S8 fun s9 J9 => ⟨_, _, J9, q8⟩
          | cont =>
            obtain ⟨σ8, H8, S8, q8⟩ := got
            exact leave S8 fun s9 J9 => ⟨_, _, J9, q8⟩
          | ret u =>
            obtain ⟨v8, σ8, H8, S8, r8, q8⟩ := got
            exact leave S8 fun s9 J9 => ⟨_, _, _, J9, r8, q8⟩
        | false =>
          show wpAny _ X.A (handleBy (.ref a) X.env hs2) _ _ _
          exact ih h5 fl5 up5 (no rfl)
    exact onward hh h3 fl3 (up.trans up3) wish
  · cases f with
    | next =>
      obtain ⟨σ', H', J', q⟩ := got
      exact wpAny_execs_nil ⟨σ', H', J'.ofTry okX, q⟩
    | brk =>
      obtain ⟨σ', H', J', q⟩ := got
      exact ⟨σ', H', J'.ofTry okX, q⟩
    | cont =>
      obtain ⟨σ', H', J', q⟩ := got
      exact ⟨σ', H', J'.ofTry okX, q⟩
    | ret u =>
      obtain ⟨v, σ', H', J', r, q⟩ := got
      exact ⟨v, σ', H', J'.ofTry okX, r, q⟩
theorem name_at {X : Cx} {x : Str} {c : Value} {np : Pos} {a : Addr} {oe : Obj} {pn : List (Addr × Obj)} {s : Shared} {σ : L2.St} {H : Hp} {Q E : Value → Shared → Prop} (hc : Names X x c) (J : Inv (X.suite a ((a, oe) :: pn)) [] σ H s) (q : Q c s) :
    wpAny (model X.prog X.w) (X.A.mark (some (.ref a))) (eval (.Name x np) X.env) Q E s := by
  obtain ⟨hg, hdbg, hm | ⟨hm, hv, hnn⟩⟩ := hc
  · exact ld_glob (X := X.suite a ((a, oe) :: pn)) J hg hm q hdbg
  · exact ld_blt (X := X.suite a ((a, oe) :: pn)) J hg hm hv q hnn hdbg
theorem looks_ty {X : Cx} {a : Addr} {oe : Obj} {pn : List (Addr × Obj)} {s : Shared} {σ : L2.St} {H : Hp} (J : Inv (X.suite a ((a, oe) :: pn)) [] σ H s) : PySem.W.Looks (model X.prog X.w) s.heap (typeOf (.ref a)) oe.cls :=
  fun A Q E s2 k q => wpAny_typeOf_ref (k _ _ (J.pin (a, oe) (List.mem_append_left _ List.mem_cons_self)).1) q
theorem ht_name {X : Cx} {x : Str} {c : Value} {np : Pos} (hc : Names X x c) : HTest X (.Name x np) (fun cls => PySem.W.exmOne X.K cls c) := fun a oe pn s σ H b Q E J hm q =>
  name_at hc J (q s.heap c (fun _ _ e => e) (PySem.W.exm_one J.kIn (looks_ty J) hm))
theorem ht_tup3 {X : Cx} {x1 x2 x3 : Str} {c1 c2 c3 : Value} {p1 p2 p3 pos : Pos} {ctx : Nat} (h1 : Names X x1 c1) (h2 : Names X x2 c2) (h3 : Names X x3 c3) : HTest X (.Tuple [.Name x1 p1, .Name x2 p2, .Name x3 p3] ctx pos) (fun cls => PySem.W.exmAny X.K cls [c1, c2, c3]) := fun a oe pn s σ H b Q E J hm q => by
  have k : ∀ c o, s.heap.get? c = some o → (s.heap.push { cls := .type "tuple", data := .seq [c1, c2, c3].toArray }).get? c = some o := fun c o e => Heap.get?_push_of_some _ e
  refine wpAny_Tuple_spliced (wpAny_items_cons (name_at h1 J (wpAny_items_cons (name_at h2 J (wpAny_items_cons (name_at h3 J (wpAny_items_nil ⟨show 3 ≤ sizeLine by decide, q _ _ k ?_⟩)))))))
  exact PySem.W.exm_tup3 (J.kIn.keeps k) ((looks_ty J).keeps k) (Heap.get?_push_size _ rfl) hm
end
end Rg
namespace Rg
open PySem L2 RZ PyProof.Rows
/-! ### raise C(..) of an own class -/
/-- C(k = v, ..), the keywords from behind, to be raised; C() -/
def tRmk (C : Addr) (n : Nat) (sp : Sp) (tk : TA) : L2.St → Hp → XK → Prop := fun σ H Q => tk σ H fun zs H1 => zs.length = n ∧ ∀ a, H1 a = none → sp (.ref a :: zs.reverse) (upd H1 a (exo a C none))
  (fun v H2 => v = .non ∧ ∃ (d : Addr) (fs : List (Str × V)), H2 a = some (exo a C (some d)) ∧ H2 d = some (exd d fs) ∧ H1 d = none ∧ Q (.ref C) (some d) (upd (del H2 a) d (.xd fs))) (fun _ _ _ => False)
section
variable {X : Cx} {e : Expr} {es : List Expr} {ta tk : TA} {p pos : Pos} {CX : CXT} {x : Str} {C fI : Addr} {k : Nat} {fd : FuncData} {ps ks : List Str} {sp : Sp} {kws : List Keyword}
theorem pmk_x {ds : List Value} {dvs : List V} (T : Xc X.K C) (iC : PySem.W.findIn X.K (.ref C) "__init__" = some (some (.ref fI))) (tI : PySem.W.typeIn X.K (.ref fI) = some (.type "function"))
    (FI : FnOk X.prog X.w X.K X.mg X.base CX k fI fd ps sp) (hr : Room (k + 1) X.A) (hb : Binds X.K fd ps ds) (hd : Vals dvs ds) (hx : Passes CX X (fun _ _ _ => False)) (hg : Gl X x) (hm : X.mg x = some (.ref C)) (ha : PA X (e :: es) ta)
    (hdb : (x == ("__debug__" : Str)) = false := by decide) (he : starEach (e :: es) X.env = (false, eval e X.env) :: starEach es X.env := by rfl) (hpl : (backTo pos (starEach es X.env)).any (·.1) = false := by rfl) :
    PMk X (.Call (.Name x p) (e :: es) [] pos) (tMkO C sp dvs ta) := by
  intro pins s σ H Q J h
  obtain ⟨B, newId, initId, bmB, FB, SF, hin, hov⟩ := T.base
  refine wpAny_Call_Name_kw (ld_glob J hg hm ?_ hdb)
  refine PySem.W.callWith_K (h₀ := X.base) J.ok.mod.kin T.kC (thn (ha.run pos pins s σ H _ J h) fun us s1 ⟨vs, H1, J1, r1, hz, q1⟩ => ⟨J1.kIn, ?_⟩) he hpl
  obtain ⟨hp, g, dr, tk, os⟩ := s1
  obtain ⟨nm, N, q, bs, bm, hdct, sn, sub, ab, col, dd, k0, k1, k2, k3, k5, hC, hT⟩ := PySem.W.excInit_of J1.kIn hin
  show wpAny _ _ (call (.ref C) us) _ _ _
  have up : hp.objs.size ≤ hp.objs.size + 1 := Nat.le_succ _
  have kk : ∀ b o, hp.get? b = some o → ((hp.push (PySem.W.kdv_tup us)).push (PySem.HandSPX.excO C hp.objs.size)).get? b = some o := fun b o z => Heap.get?_push_of_some _ (Heap.get?_push_of_some _ z)
  have fr : H1 (hp.objs.size + 1) = none := J1.hok.fresh up
  have got : ((hp.push (PySem.W.kdv_tup us)).push (PySem.HandSPX.excO C hp.objs.size)).get? (hp.objs.size + 1) = some (PySem.HandSPX.excO C hp.objs.size) := by heap_get
  have J2 := J1.laid (t' := tk) (a := hp.objs.size + 1) (o := exo (hp.objs.size + 1) C none) (h' := (hp.push (PySem.W.kdv_tup us)).push (PySem.HandSPX.excO C hp.objs.size)) kk up (exo_ok got)
  have want := q1 (hp.objs.size + 1) fr
  have rel : Vals (V.ref (hp.objs.size + 1) :: (vs ++ dvs)) (Value.ref (hp.objs.size + 1) :: (us ++ ds)) := .cons rfl (r1.append hd)
  have len : (Value.ref (hp.objs.size + 1) :: us ++ ds).length = ps.length := (rel.length.symm).trans (FI.len _ _ _ _ want)
  have small : us.length ≤ sizeLine := Nat.le_trans (show us.length ≤ 1000 by rw [← r1.length]; exact hz) (by decide)
  refine wpAny_call (PySem.HandSPX.call_own FB hT hC (PySem.W.looks_findIn J1.kIn iC) (fun self => PySem.W.bind_fn J1.kIn self tI) small
    (codeAny_mono (FI.run _ X.stack _ _ ⟨Value.ref (hp.objs.size + 1) :: us, []⟩ (Value.ref (hp.objs.size + 1) :: (us ++ ds)) _ _ (fun _ _ _ => False) (hr.make C us []) (J2.env0.make C us []) (hb _ (Value.ref (hp.objs.size + 1) :: us) J2.kIn len) rel want) fun r s2 got2 => ?_))
  cases r with
  | error er => exact hx pins σ _ _ er s2 J2 got2
  | ok fl =>
    cases fl with
    | ret u =>
      obtain ⟨v, H2, eo2, ba2, un2, ok2, rv, ev, dx, fs, ea, ed, hd1, q2⟩ := got2
      subst ev
      obtain ⟨h2, g2, d2, t2, os'⟩ := s2
      exact ⟨rv, mk_end (raises_own T.exC T.tyC) J1 up kk un2 ok2 eo2 ba2 ea ed hd1 q2⟩
    | next => exact False.elim got2
    | brk => exact False.elim got2
    | cont => exact False.elim got2
theorem pmk_xK (T : Xc X.K C) (iC : PySem.W.findIn X.K (.ref C) "__init__" = some (some (.ref fI))) (tI : PySem.W.typeIn X.K (.ref fI) = some (.type "function"))
    (FI : FnOk X.prog X.w X.K X.mg X.base CX k fI fd ps sp) (hr : Room (k + 1) X.A) (hb : ∀ (s : Shared) (v : Value) (ws : List Value), ws.length = ks.length → BindsTo s fd ⟨[v], ks.zip ws⟩ (ps.zip (v :: ws.reverse))) (hx : Passes CX X (fun _ _ _ => False)) (hg : Gl X x) (hm : X.mg x = some (.ref C)) (hkw : PK X kws tk)
    (hall : (backToKw pos (keywordEach kws X.env)).all (·.1.isSome) = true := by rfl) (hks : (backToKw pos (keywordEach kws X.env)).filterMap (·.1) = ks := by rfl) (hdb : (x == ("__debug__" : Str)) = false := by decide)
    (hpl : ((backTo pos (starEach [] X.env)).any (·.1) || (backToKw pos (keywordEach kws X.env)).any (·.1.isNone)) = false := by rfl) : PMk X (.Call (.Name x p) [] kws pos) (tRmk C ks.length sp tk) := by
  intro pins s σ H Q J h
  obtain ⟨B, newId, initId, bmB, FB, SF, hin, hov⟩ := T.base
  refine wpAny_Call_Name_kw (ld_glob J hg hm ?_ hdb)
  refine PySem.W.callWith_KW0 (h₀ := X.base) J.ok.mod.kin T.kC hall ?_ hpl
  refine thn (hkw.run pos pins s σ H _ J h) fun ws s1 ⟨zs, H1, J1, rz, lz, q1⟩ => ⟨J1.kIn, ?_⟩
  rw [hks]
  obtain ⟨hp, g, dr, tk, os⟩ := s1
  obtain ⟨nm, N, q, bs, bm, hdct, sn, sub, ab, col, dd, k0, k1, k2, k3, k5, hC, hT⟩ := PySem.W.excInit_of J1.kIn hin
  have up : hp.objs.size ≤ hp.objs.size + 1 := Nat.le_succ _
  have kk : ∀ b o, hp.get? b = some o → ((hp.push (PySem.W.kdv_tup [])).push (PySem.HandSPX.excO C hp.objs.size)).get? b = some o := fun b o z => Heap.get?_push_of_some _ (Heap.get?_push_of_some _ z)
  have fr : H1 (hp.objs.size + 1) = none := J1.hok.fresh up
  have got : ((hp.push (PySem.W.kdv_tup [])).push (PySem.HandSPX.excO C hp.objs.size)).get? (hp.objs.size + 1) = some (PySem.HandSPX.excO C hp.objs.size) := by heap_get
  have J2 := J1.laid (t' := tk) (a := hp.objs.size + 1) (o := exo (hp.objs.size + 1) C none) (h' := (hp.push (PySem.W.kdv_tup [])).push (PySem.HandSPX.excO C hp.objs.size)) kk up (exo_ok got)
  have want := q1 (hp.objs.size + 1) fr
  have rev : ∀ {zs : List V} {ws : List Value}, Vals zs ws → Vals zs.reverse ws.reverse := by
    intro zs ws r
    induction r with
    | nil => exact .nil
    | cons r0 _ ih => rw [List.reverse_cons, List.reverse_cons]; exact ih.append (.cons r0 .nil)
  have rel : Vals (V.ref (hp.objs.size + 1) :: zs.reverse) (Value.ref (hp.objs.size + 1) :: ws.reverse) := .cons rfl (rev rz)
  refine wpAny_call (PySem.XKw.call_kw (rest := []) FB hT hC (PySem.W.looks_findIn J1.kIn iC) (fun self => PySem.W.bind_fn J1.kIn self tI) (Nat.zero_le _)
    (codeAny_mono (FI.run _ X.stack _ _ ⟨[Value.ref (hp.objs.size + 1)], ks.zip ws⟩ (Value.ref (hp.objs.size + 1) :: ws.reverse) _ _ (fun _ _ _ => False) (hr.make C [] (ks.zip ws)) (J2.env0.make C [] (ks.zip ws)) (hb _ _ ws (by rw [← rz.length]; exact lz)) rel want) fun r s2 got2 => ?_))
  cases r with
  | error er => exact hx pins σ _ _ er s2 J2 got2
  | ok fl =>
    cases fl with
    | ret u =>
      obtain ⟨v, H2, eo2, ba2, un2, ok2, rv, ev, dx, fs, ea, ed, hd1, q2⟩ := got2
      subst ev
      obtain ⟨h2, g2, d2, t2, os'⟩ := s2
      exact ⟨rv, mk_end (raises_own T.exC T.tyC) J1 up kk un2 ok2 eo2 ba2 ea ed hd1 q2⟩
    | next => exact False.elim got2
    | brk => exact False.elim got2
    | cont => exact False.elim got2
end
/-! ### a caught error, its fields; a def that is called while it is handled -/
/-- e.f of the pinned error p -/
def tXq (K : PySem.W.Frag) (p : Addr × Obj) (f : Str) (te : TE) : TE := fun σ H Q => te σ H fun x H1 => ∃ (C dd : Addr) (fs : List (Str × V)) (v : V), x = .ref p.1 ∧ Zc (.ref C) (some dd) p.2 ∧ Xg K C ∧ PySem.W.findIn K (.ref C) f = some none ∧ H1 dd = some (.xd fs) ∧ fs.lookup f = some v ∧ Q v H1
theorem pe_xq {X : Cx} {q : Addr × Obj} {e : Expr} {te : TE} {pos : Pos} {f : Str} (hq : q ∈ X.pn) (hf : ∃ vs, q.2.data = .fields vs) (he : PE X e te) (hb : attributeBase e f X.env (eval e X.env) = eval e X.env := by rfl) : PE X (.Attribute e f pos) (tXq X.K q f te) := by
  refine ⟨fun pins s σ H Q J h => attr_of hb (thn (he.run pins s σ H _ J h) fun u s1 ⟨x, H1, J1, rx, C, dd, fs, v, ex, hz, T, hno, ed, l, hQ⟩ => ?_)⟩
  subst ex
  obtain rfl : u = Value.ref q.1 := rx
  obtain ⟨at_, _⟩ := J1.pin q (List.mem_append_left _ hq)
  obtain ⟨vs, dv⟩ := hf
  obtain ⟨mA, ns, rel⟩ := (show ObjOk X.prog X.w H1 s1.heap dd (.xd fs) from J1.hok dd _ ed)
  obtain ⟨od, hod, hl⟩ := lookIn_ns ns
  obtain ⟨u2, hu, ru⟩ := RelO.some_of (v := v) (o := mA f) (by rw [← l]; exact rel f)
  have I : PySem.W.InstAt s1.heap q.1 q.2 C (some od) := ⟨at_, hz.1, by unfold PySem.W.notCls; rw [dv] <;> rfl, by rw [hz.2]; exact hod⟩
  exact PySem.HandSPX.exc_get J1.kIn I T.ga T.gg T.exC (PySem.W.findObj_own T.dct hno rfl (by rw [hl, hu])) (handed_of ru) ⟨v, H1, J1.tok _, ru, hQ⟩
structure FnQ (P : Program) (w : World) (K : PySem.W.Frag) (mg : Str → Option Value) (base : Heap) (k : Nat) (f : Addr) (fd : FuncData) (ps : List Str) (sp : Addr × Obj → Sp) : Prop where
  len : ∀ p vs H Q E, sp p vs H Q E → vs.length = ps.length
  run : ∀ (A : Around) (outer : List Env) (s : Shared) (H : Hp) (args : Args) (us : List Value) (vs : List V) (Q : VK) (E : XK) (p : Addr × Obj), L2H.RoomH k A → L2H.PinOk outer H s p → (∃ vs, p.2.data = .fields vs) → Env0 P w K mg base A outer s H → BindsTo s fd args (ps.zip us) → Vals vs us → sp p vs H Q E →
    codeAny (model P w) A (.call (.ref f) args) (CR CX0 outer P w H s Q E) s
section
variable {P : Program} {w : World} {K : PySem.W.Frag} {mg : Str → Option Value} {base : Heap}
theorem fn_quiet {x qual : Str} {st : Stmt} {f : Addr} {fd : FuncData} {N ps : List Str} {k : Nat} {sp : Addr × Obj → Sp} (F : Fun K x qual st f fd) (S : FnScope N ps (defScope st)) (len : ∀ p vs H Q E, sp p vs H Q E → vs.length = ps.length)
    (hbody : ∀ (cdv : Value) (A : Around) (outer : List Env) (s : Shared) (H : Hp) (vs : List V) (Q : VK) (E : XK) (p : Addr × Obj), (∃ vs, p.2.data = .fields vs) → L2H.RoomH k (A.deeper (envOfC qual (defScope st) s.heap.objs.size f cdv)) → sp p vs H Q E →
      ∃ t, PSs (L2H.cxH CX0 P w K mg base N qual (defScope st) f cdv A outer s H E p).nox (defBody st) t ∧ t { nx := fun _ H' => Q .non H', rt := Q } (start N vs) H) : FnQ P w K mg base (k + 1) f fd ps sp := by
  obtain ⟨oc, od, kV, doc, pm, an, cdv, ct, osl, rfl, lk, hcd⟩ := F.ex
  refine ⟨len, fun A outer s H args us vs Q E p room pin hf e0 bnd r want => ?_⟩
  have inK : K.In s.heap := e0.mod.kin.keeps fun b o e => (e0.bs b o e).1
  have noL : s.heap.NoLimit := e0.mod.nolimit.keeps fun b o e => (e0.bs b o e).1
  have kinds : ∀ y ∈ ps.zip us, (defScope st).names.lookup y.1 = some .local ∨ ((defScope st).names.lookup y.1 = some .cell ∧ ((cellsFrom (s.heap.objs.size + 1) (defScope st).names []).lookup y.1).isSome = true) := fun ⟨n, v⟩ hy => by
    rcases S.par n (List.of_mem_zip hy).1 with q | q
    · exact Or.inl q
    · exact Or.inr ⟨q, PySem.W.cellsFrom_some _ _ _ (Or.inl q)⟩
  refine codeAny_call_function room.depth (inK _ _ lk) rfl S.co S.gen rfl (PySem.W.codeRec_of inK hcd) (bnd _ _ _ _ ?_)
  refine wpAny_newFunctionEnv_cells S.kind kinds fun env he s1 x => ?_
  subst he
  refine ⟨noL.keeps x.toInCall.keep, codeAny_func ?_⟩
  obtain ⟨t, ht0, hq⟩ := hbody cdv A outer s H vs Q E p hf (room.deeper _) want
  have ht := ht0.nox
  have J : Inv (L2H.cxH CX0 P w K mg base N qual (defScope st) f cdv A outer s H E p) [] (start N vs) H s1 := L2H.inv_startH S pin e0 (len p _ _ _ _ want) r x
  refine wpAny_mono (ht.run [] s1 (start N vs) H _ J hq) (fun fl s2 got => ?_) fun _ _ z => z
  have last : ∀ {σ2 : L2.St} {H2 : Hp} {v : V} {u : Value}, Inv (L2H.cxH CX0 P w K mg base N qual (defScope st) f cdv A outer s H E p) [] σ2 H2 s2 → RelV v u → Q v H2 → CE outer P w H s Q u s2 := fun {σ2 H2 v u} J2 rv q => ⟨v, H2, J2.os, J2.bare, J2.base, J2.hok, rv, q⟩
  cases fl with
  | ret u =>
    obtain ⟨v, σ2, H2, J2, rv, q⟩ := got
    exact last J2 rv q
  | next =>
    obtain ⟨σ2, H2, J2, q⟩ := got
    exact last (v := V.non) (u := Value.none) J2 rfl q
  | brk => exact (got.choose_spec.choose_spec.2).elim
  | cont => exact (got.choose_spec.choose_spec.2).elim
end
section
variable {X : Cx} {k : Nat} {f : Addr} {fd : FuncData} {ps : List Str} {sp : Addr × Obj → Sp} {x : Str} {q pos : Pos} {e : Expr} {es : List Expr} {t : TA} {p : Addr × Obj}
theorem pe_callQ (F : FnQ X.prog X.w X.K X.mg X.base k f fd ps sp) (hr : L2H.RoomH k X.A) (hp : p ∈ X.pn) (hf : ∃ vs, p.2.data = .fields vs) (hg : Gl X x) (hm : X.mg x = some (.ref f)) (hk : PySem.W.keepIn X.K (.ref f) = true) (hb : Binds X.K fd ps [])
    (ha : PA X (e :: es) t) (hdb : (x == ("__debug__" : Str)) = false := by decide) (he : starEach (e :: es) X.env = (false, eval e X.env) :: starEach es X.env := by rfl) (hpl : (backTo pos (starEach es X.env)).any (·.1) = false := by rfl) :
    PE X (.Call (.Name x q) (e :: es) [] pos) (tCall (sp p) [] E0 t) := by
  refine ⟨fun pins s σ H Q J h => wpAny_Call_Name_kw (ld_glob J hg hm ?_ hdb)⟩
  refine PySem.W.callWith_K (h₀ := X.base) J.ok.mod.kin hk (thn (ha.run pos pins s σ H _ J h) fun us s1 ⟨vs, H1, J1, r, want⟩ => ⟨J1.kIn, ?_⟩) he hpl
  have want : sp p (vs ++ []) H1 Q E0 := want
  rw [List.append_nil] at want
  have hl : us.length = ps.length := by rw [← r.length]; exact F.len _ _ _ _ _ want
  have b := hb s1 us J1.kIn (by rw [List.append_nil]; exact hl)
  rw [List.append_nil] at b
  have P1 := J1.pin p (List.mem_append_left _ hp)
  have pin : L2H.PinOk X.stack H1 s1 p := ⟨P1.1, P1.2.1, fun z => (List.mem_cons.mp (J1.stkSub p.1 z)).elim P1.2.2.1 P1.2.2.2.1, P1.2.2.2.2⟩
  refine wpAny_call (codeAny_mono (F.run X.A X.stack s1 H1 ⟨us, []⟩ us vs Q E0 p hr pin hf J1.env0 b r want) fun r s2 got => ?_)
  cases r with
  | error e => exact False.elim got
  | ok fl =>
    cases fl with
    | ret u => exact J1.after got
    | next => exact False.elim got
    | brk => exact False.elim got
    | cont => exact False.elim got
end
end Rg
namespace Rg
open PySem L2 RZ PyProof.Rows
/-! ### own errors, told of the data -/
/-- what the __init__ of an own error does: the code, then each parameter as a field -/
def spInit (C : Addr) (ps : List Str) (code : Str) : Sp := fun vs H Q _ => ∃ (a : Addr) (ws : List V), vs = .ref a :: ws ∧ ws.length = ps.length ∧ H a = some (exo a C none) ∧
  ∀ dx, H dx = none → dx ≠ a → Q .non (upd (upd H dx (exd dx ((ps.zip ws).reverse ++ [(("code" : Str), V.str code)]))) a (exo a C (some dx)))
def excN (ps : List Str) : List Str := ps.reverse ++ [("code" : Str)]
def excV (code : Str) (ds : List D) : List D := ds.reverse ++ [.str code]
abbrev excD (C : Addr) (ps : List Str) (code : Str) (ds : List D) : D := .exc C (excN ps) (excV code ds)
section
variable {K : PySem.W.Frag} {M : Mt} {ds : DS} {te : TE} {ta : TA} {R : D → Prop} {E : AE} {C : Addr} {ps : List Str} {code : Str} {as : List D}
theorem RpAll.rev {G : Hp} : ∀ {vs : List V} {es : List D}, RpAll K G vs es → RpAll K G vs.reverse es.reverse
  | _, _, .nil => .nil
  | _, _, .cons h r => by rw [List.reverse_cons, List.reverse_cons]; exact (RpAll.rev r).append (.cons h .nil)
theorem fsN {ws : List V} (h : ws.length = ps.length) : ((ps.zip ws).reverse ++ [(("code" : Str), V.str code)]).map (·.1) = excN ps := by
  unfold excN
  rw [List.map_append, List.map_reverse, List.map_fst_zip (by omega)]
  rfl
theorem fsV {ws : List V} (h : ws.length = ps.length) : ((ps.zip ws).reverse ++ [(("code" : Str), V.str code)]).map (·.2) = ws.reverse ++ [.str code] := by
  rw [List.map_append, List.map_reverse, List.map_snd_zip (by omega)]
  rfl
theorem rp_exc {G : Hp} {a dx : Addr} {ws : List V} (e1 : G a = some (exo a C (some dx))) (e2 : G dx = some (exd dx ((ps.zip ws).reverse ++ [(("code" : Str), V.str code)]))) (h : ws.length = ps.length) (r : RpAll K G ws as) : Rp K G (.ref a) (excD C ps code as) := by
  have z := Rp.exc (K := K) (ds := excV code as) e1 e2 (by rw [fsV h]; exact r.rev.append (.cons (.str code) .nil))
  rw [fsN h] at z
  exact z
theorem xrp_exc {G : Hp} {dx : Addr} {ws : List V} (e2 : G dx = some (.xd ((ps.zip ws).reverse ++ [(("code" : Str), V.str code)]))) (h : ws.length = ps.length) (r : RpAll K G ws as) : XRp K G (.ref C) (some dx) (excD C ps code as) := by
  have z := XRp.own (K := K) (C := C) (ds := excV code as) e2 (by rw [fsV h]; exact r.rev.append (.cons (.str code) .nil))
  rw [fsN h] at z
  exact z
theorem upd_over {H : Hp} {a dx : Addr} {o o' e : HO} (h : dx ≠ a) : upd (upd (upd H a o) dx e) a o' = upd (upd H dx e) a o' := by
  funext b
  by_cases h1 : b = a
  · subst h1; rw [upd_same, upd_same]
  · rw [upd_ne h1, upd_ne h1]
    by_cases h2 : b = dx
    · subst h2; rw [upd_same, upd_same]
    · rw [upd_ne h2, upd_ne h2, upd_ne h1]
/-- the making itself -/
theorem mk_exc {M' : Mt} {G H : Hp} {vs : List V} {Q : VK} {a : Addr} (w : Wd M' G H) (r : RpAll K G vs as) (hl : as.length = ps.length) (ha : H a = none)
    (q : ∀ v d G' H', Same G G' → Wd M' G' H' → Rp K G' v d → d = excD C ps code as → Q v H') : spInit C ps code (.ref a :: vs) (upd H a (exo a C none)) (fun v H2 => v = .non ∧ Q (.ref a) H2) (fun _ _ _ => False) := by
  have hv : vs.length = ps.length := r.length.trans hl
  refine ⟨a, vs, rfl, hv, upd_same, fun dx hdx ne => ⟨rfl, ?_⟩⟩
  rw [upd_ne ne] at hdx
  rw [upd_over ne]
  have w1 := w.new (o := exd dx ((ps.zip vs).reverse ++ [(("code" : Str), V.str code)])) hdx
  have ha1 : upd H dx (exd dx ((ps.zip vs).reverse ++ [(("code" : Str), V.str code)])) a = none := by rw [upd_ne (Ne.symm ne)]; exact ha
  have w2 := w1.new (o := exo a C (some dx)) ha1
  have s1 := same_new (o := exd dx ((ps.zip vs).reverse ++ [(("code" : Str), V.str code)])) (w.free hdx)
  have s2 := same_new (o := exo a C (some dx)) (w1.free ha1)
  exact q _ _ _ _ (s1.trans s2) w2 (rp_exc (ws := vs) upd_same (by rw [upd_ne ne, upd_same]) hv (r.mono (s1.trans s2))) rfl
theorem ev_xmk (ha : EvA K M ds ta (· = as)) (hl : as.length = ps.length) (h1 : ps.length ≤ 1000) : Ev K M ds (tXmk C (spInit C ps code) [] ta) (· = excD C ps code as) := fun M' σ G H Q m s w q =>
  ha M' σ G H _ m s w fun vs es G1 H1 s1 w1 r1 e => by
    subst e
    refine ⟨by rw [r1.length, hl]; exact h1, fun a ha => ?_⟩
    rw [List.append_nil]
    exact mk_exc w1 r1 hl ha fun v d G2 H2 s2 w2 r2 e2 => q v d G2 H2 (s1.trans s2) w2 r2 e2
theorem ev_xmkK {n : Nat} (ha : EvA K M ds ta (· = as)) (hn : as.length = n) (hl : n = ps.length) : Ev K M ds (tXmkK C n (spInit C ps code) ta) (· = excD C ps code as.reverse) := fun M' σ G H Q m s w q =>
  ha M' σ G H _ m s w fun vs es G1 H1 s1 w1 r1 e => by
    subst e
    refine ⟨by rw [r1.length, hn], fun a ha => ?_⟩
    exact mk_exc w1 r1.rev (by rw [List.length_reverse, hn, hl]) ha fun v d G2 H2 s2 w2 r2 e2 => q v d G2 H2 (s1.trans s2) w2 r2 e2
/-- a field of an error -/
def fldD : List Str → List D → Str → Option D
  | n :: ns, d :: ds, f => if f = n then some d else fldD ns ds f
  | _, _, _ => none
theorem fld_of {G : Hp} : ∀ {fs : List (Str × V)} {es : List D} {f : Str} {d : D}, RpAll K G (fs.map (·.2)) es → fldD (fs.map (·.1)) es f = some d → ∃ v, fs.lookup f = some v ∧ Rp K G v d
  | [], es, f, d, r, h => by cases h
  | (n, v) :: fs, [], f, d, r, h => by cases r
  | (n, v) :: fs, e :: es, f, d, r, h => by
    cases r with
    | cons r1 r2 =>
      rw [List.lookup_cons]
      have h2 : (if f = n then some e else fldD (fs.map (·.1)) es f) = some d := h
      by_cases q : f = n
      · rw [if_pos q] at h2
        cases h2
        have z : (f == n) = true := by simp [q]
        rw [z]
        exact ⟨v, rfl, r1⟩
      · rw [if_neg q] at h2
        have z : (f == n) = false := by simp [q]
        rw [z]
        exact fld_of r2 h2
theorem ev_xget {f : Str} {ns : List Str} {es : List D} {d : D} (he : Ev K M ds te (· = .exc C ns es)) (T : Xg K C) (hno : PySem.W.findIn K (.ref C) f = some none) (h : fldD ns es f = some d) : Ev K M ds (tXget K f te) (· = d) := fun M' σ G H Q m s w q =>
  he M' σ G H _ m s w fun v d1 G1 H1 s1 w1 r1 e => by
    subst e
    cases r1 with
    | exc h1 h2 r =>
      obtain ⟨u, hu, ru⟩ := fld_of r h
      exact ⟨_, C, _, _, u, rfl, w1.sub _ _ h1, w1.sub _ _ h2, T, hno, hu, q u d G1 H1 s1 w1 ru rfl⟩
theorem ev_xq {f : Str} {p : Addr × Obj} {dd : Addr} {ns : List Str} {es : List D} {d : D} (he : Ev K M ds te (· = .cau p.1 dd C ns es)) (hz : Zc (.ref C) (some dd) p.2) (T : Xg K C) (hno : PySem.W.findIn K (.ref C) f = some none) (h : fldD ns es f = some d) : Ev K M ds (tXq K p f te) (· = d) := fun M' σ G H Q m s w q =>
  he M' σ G H _ m s w fun v d1 G1 H1 s1 w1 r1 e => by
    subst e
    cases r1 with
    | cau h1 r =>
      obtain ⟨u, hu, ru⟩ := fld_of r h
      exact ⟨C, dd, _, u, rfl, hz, T, hno, w1.sub _ _ h1, hu, q u d G1 H1 s1 w1 ru rfl⟩
/-- isinstance of an error -/
theorem cd_isX {c : V} {cv : Value} {ns : List Str} {es : List D} {b : Bool} (T : Xg K C) (hc : ClsV c cv) (hk : PySem.W.kitOne K (.ref C) cv = some b) : CallD K M (rOrC (rIsi K) (rIsX K)) [.exc C ns es, .raw c] (· = .bl b) := fun M' G H xs Q m r w q => by
  cases r with
  | cons r1 r =>
    cases r with
    | cons r2 r =>
      cases r
      have e2 := r2.raw_inv
      subst e2
      cases r1 with
      | exc h1 h2 rr => exact .inr ⟨_, C, _, _, cv, b, rfl, w.sub _ _ h1, ⟨_, w.sub _ _ h2⟩, T, hc, hk, q _ _ G H (Same.refl G) w (.bl b) rfl⟩
theorem cd_isiU {as : List D} (h : CallD K M (rIsi K) as R) : CallD K M (rOrC (rIsi K) (rIsX K)) as R := fun M' G H xs Q m r w q => .inl (h M' G H xs Q m r w q)
/-! ### raise -/
def tRz (W : WX) (t : L2.St → Hp → XK → Prop) : TS := fun _ σ H => t σ H fun cls d H' => W cls d σ H'
theorem ps_rz {X : Cx} {W : WX} {e : Expr} {t : L2.St → Hp → XK → Prop} {pos : Pos} (hc : X.calm = true) (tk : Takes X W) (he : PMk X e t) : PS X (.Raise (some e) none pos) (tRz W t) := ps_raise hc tk he
theorem upd_del {H : Hp} {a dx : Addr} {o e x : HO} (h : dx ≠ a) (ha : H a = none) : upd (del (upd (upd H dx e) a o) a) dx x = upd H dx x := by
  funext b
  by_cases h2 : b = dx
  · subst h2; rw [upd_same, upd_same]
  · rw [upd_ne h2, upd_ne h2]
    by_cases h1 : b = a
    · subst h1; rw [del_same, ha]
    · rw [del_ne h1, upd_ne h1, upd_ne h2]
theorem raise_exc {M' : Mt} {G H : Hp} {vs : List V} {Q : XK} {a : Addr} (w : Wd M' G H) (r : RpAll K G vs as) (hl : as.length = ps.length) (ha : H a = none)
    (q : ∀ c d G' H', Same G G' → Wd0 M'.l G' H' → XRp K G' c d (excD C ps code as) → Q c d H') : spInit C ps code (.ref a :: vs) (upd H a (exo a C none))
      (fun v H2 => v = .non ∧ ∃ (d : Addr) (fs : List (Str × V)), H2 a = some (exo a C (some d)) ∧ H2 d = some (exd d fs) ∧ H d = none ∧ Q (.ref C) (some d) (upd (del H2 a) d (.xd fs))) (fun _ _ _ => False) := by
  have hv : vs.length = ps.length := r.length.trans hl
  refine ⟨a, vs, rfl, hv, upd_same, fun dx hdx ne => ⟨rfl, dx, (ps.zip vs).reverse ++ [(("code" : Str), V.str code)], upd_same, ?_, ?_, ?_⟩⟩
  · rw [upd_ne ne, upd_same]
  · rw [upd_ne ne] at hdx; exact hdx
  · rw [upd_ne ne] at hdx
    rw [upd_over ne, upd_del ne ha]
    have s1 := same_new (o := HO.xd ((ps.zip vs).reverse ++ [(("code" : Str), V.str code)])) (w.free hdx)
    exact q _ _ _ _ s1 (w.toWd0.new hdx) (xrp_exc (ws := vs) upd_same hv (r.mono s1))
theorem run_raise {W : WX} (hW : M.W = W) (ha : EvA K M ds ta (· = as)) (hl : as.length = ps.length) (hx : Exk K M (excD C ps code as) ds) (h1 : ps.length ≤ 1000 := by decide) : Run K M ds (tRz W (tMkO C (spInit C ps code) [] ta)) E := fun M' σ G H Z m s w z =>
  ha M' σ G H _ m s w fun vs es G1 H1 s1 w1 r1 e => by
    subst e
    refine ⟨by rw [r1.length, hl]; exact h1, fun a ha => ?_⟩
    rw [List.append_nil]
    exact raise_exc w1 r1 hl ha fun c d G2 H2 s2 w2 x2 => w1.toW m hW s2 w2 (s.mono (s1.trans s2)) x2 hx
theorem run_raiseK {W : WX} {n : Nat} (hW : M.W = W) (ha : EvA K M ds ta (· = as)) (hn : as.length = n) (hl : n = ps.length) (hx : Exk K M (excD C ps code as.reverse) ds) : Run K M ds (tRz W (tRmk C n (spInit C ps code) ta)) E := fun M' σ G H Z m s w z =>
  ha M' σ G H _ m s w fun vs es G1 H1 s1 w1 r1 e => by
    subst e
    refine ⟨by rw [r1.length, hn], fun a ha => ?_⟩
    exact raise_exc w1 r1.rev (by rw [List.length_reverse, hn, hl]) ha fun c d G2 H2 s2 w2 x2 => w1.toW m hW s2 w2 (s.mono (s1.trans s2)) x2 hx
/-! ### try -/
def clsX : D → Option Value
  | .exc C _ _ => some (.ref C)
  | .raw (.ty n) => some (.type n)
  | _ => none
def hdD (i : Option Nat) (d : D) (ds : DS) : DS := match i with
  | none => ds
  | some i => ds.set i (some d)
def hdA (i : Option Nat) (E : AE) : AE := match i with
  | none => E
  | some i => { nx := fun d => E.nx (d.set i none), rt := E.rt, bk := fun d => E.bk (d.set i none), ct := fun d => E.ct (d.set i none) }
def yesR (K : PySem.W.Frag) (M : Mt) (E : AE) (ds : DS) (h : Hd) : D → Prop
  | .exc C ns es => ∀ (p : Addr × Obj) (dd : Addr), Zc (.ref C) (some dd) p.2 → Run K M (hdD h.i (.cau p.1 dd C ns es) ds) (h.ts p) (hdA h.i E)
  | .raw (.ty n) => ∀ (p : Addr × Obj) (d : Option Addr), Zc (.type n) d p.2 → Run K M (hdD h.i (.raw (.ref p.1)) ds) (h.ts p) (hdA h.i E)
  | _ => False
/-- what the clauses do with the exception x from the slots ds -/
def Hok (K : PySem.W.Frag) (M : Mt) (W0 : WX) (E : AE) (x : D) (ds : DS) : List Hd → Prop
  | [] => M.W = W0 ∧ Exk K M x ds
  | h :: r => ∃ b, (clsX x).bind h.m = some b ∧ (b = true → yesR K M E ds h x) ∧ (b = false → Hok K M W0 E x ds r)
theorem hdS_sg {G : Hp} {σ : L2.St} {i : Option Nat} {a : Addr} {d : D} (s : Sg K G σ ds) (r : Rp K G (.ref a) d) : Sg K G (hdS i a σ) (hdD i d ds) := by
  cases i with
  | none => exact s
  | some i => exact s.set i r
theorem hdE_ok {M' : Mt} {G : Hp} {Z : Ends} {i : Option Nat} (z : EndsOk K M' G E Z) : EndsOk K M' G (hdA i E) (hdE i Z) := by
  cases i with
  | none => exact z
  | some i => exact ⟨fun ds' σ' G' H' e g s' w' => z.nx _ _ G' H' e g s'.drop w', z.rt, fun ds' σ' G' H' e g s' w' => z.bk _ _ G' H' e g s'.drop w', fun ds' σ' G' H' e g s' w' => z.ct _ _ G' H' e g s'.drop w'⟩
theorem hok_w {M' : Mt} {G H : Hp} {Z : Ends} {σ : L2.St} {W0 : WX} {c : Value} {d : Option Addr} {x : D} (m : MSub M M') (s : Sg K G σ ds) (w : Wd M' G H) (z : EndsOk K M' G E Z) (hx : XRp K G c d x) : ∀ {l : List Hd}, Hok K M W0 E x ds l → wHs W0 Z l c d σ H
  | [], h => w.toW m h.1 (Same.refl G) w.toWd0 s hx h.2
  | h :: r, ⟨b, e, yes, no⟩ => by
    refine ⟨b, ?_, fun eb p zp np => ?_, fun eb => hok_w m s w z hx (no eb)⟩
    · cases hx with
      | own _ _ => exact e
      | blt n d => exact e
    · have y := yes eb
      cases hx with
      | @own C dd fs es h1 r1 => exact y p dd zp M' _ G H _ m (hdS_sg s (.cau h1 r1)) w (hdE_ok z)
      | blt n d => exact y p d zp M' _ G H _ m (hdS_sg s (.raw _)) w (hdE_ok z)
theorem run_try {tb : WX → TS} {l : List Hd} {W0 : WX} (Rx : D → DS → Prop) (hb : ∀ W, Run K (M.tr K W Rx) ds (tb W) E) (hh : ∀ x ds', Rx x ds' → Hok K M W0 E x ds' l) : Run K M ds (tTry tb W0 l) E := fun M' σ G H Z m s w z =>
  hb _ (M'.tr K (wHs W0 Z l) Rx) σ G H Z ⟨m.l, rfl, rfl⟩ s ⟨w.toWd0, fun l' c d σ' G' H' ⟨el, x, ds', rx, hx, sg⟩ s' w' => hok_w m sg (w.to s' (by subst el; exact w')) (z.mono s') hx (hh x ds' rx)⟩
    ⟨fun ds' σ' G' H' e g s' w' => z.nx ds' σ' G' H' e g s' (w.to g w'.toWd0), fun v d G' H' e g r w' => z.rt v d G' H' e g r (w.to g w'.toWd0), fun ds' σ' G' H' e g s' w' => z.bk ds' σ' G' H' e g s' (w.to g w'.toWd0), fun ds' σ' G' H' e g s' w' => z.ct ds' σ' G' H' e g s' (w.to g w'.toWd0)⟩
/-! ### a def that is called while an error is handled -/
def spQ (K : PySem.W.Frag) (pre : Addr × Obj → List D → Prop) (post : List D → D → Prop) (p : Addr × Obj) : Sp := fun vs H Q _ => ∃ M G as, Wd0 M G H ∧ RpAll K G vs as ∧ pre p as ∧ ∀ v d G' H', Same G G' → Wd0 M G' H' → Rp K G' v d → post as d → Q v H'
theorem ev_callQ {RA : List D → Prop} {pre : Addr × Obj → List D → Prop} {post : List D → D → Prop} {p : Addr × Obj} {Ex : XK} (ha : EvA K M ds ta RA) (h : ∀ as, RA as → pre p as ∧ ∀ d, post as d → R d) : Ev K M ds (tCall (spQ K pre post p) [] Ex ta) R := fun M' σ G H Q m s w q =>
  ha M' σ G H _ m s w fun vs as G1 H1 s1 w1 r1 e => ⟨M'.l, G1, as, w1.toWd0, by rw [List.append_nil]; exact r1, (h as e).1, fun v d G2 H2 s2 w2 r2 p2 => q v d G2 H2 (s1.trans s2) (w1.to s2 w2) r2 ((h as e).2 d p2)⟩
end
section
variable {P : Program} {w : World} {K : PySem.W.Frag} {mg : Str → Option Value} {base : Heap} {pre : Addr × Obj → List D → Prop} {post : List D → D → Prop}
theorem fn_quietD {x qual : Str} {st : Stmt} {f : Addr} {fd : FuncData} {N ps : List Str} {k : Nat} (F : Fun K x qual st f fd) (S : FnScope N ps (defScope st)) (hl : ∀ p as, pre p as → as.length = ps.length)
    (body : ∀ (cdv : Value) (A : Around) (outer : List Env) (s : Shared) (H : Hp) (E : XK) (p : Addr × Obj), (∃ vs, p.2.data = .fields vs) → L2H.RoomH k (A.deeper (envOfC qual (defScope st) s.heap.objs.size f cdv)) →
      ∃ t, PSs (L2H.cxH CX0 P w K mg base N qual (defScope st) f cdv A outer s H E p).nox (defBody st) t ∧
        ∀ (M : Mt) as, pre p as → Run K M (as.map some ++ List.replicate (N.length - as.length) none) t { nx := fun _ => post as .non, rt := post as }) : FnQ P w K mg base (k + 1) f fd ps (spQ K pre post) := by
  refine fn_quiet F S (fun p vs H Q E h => ?_) (fun cdv A outer s H vs Q E p hf hr h => ?_)
  · obtain ⟨M, G, as, _, r, hp, _⟩ := h
    rw [r.length]
    exact hl p as hp
  · obtain ⟨t, ht, hrun⟩ := body cdv A outer s H E p hf hr
    obtain ⟨M, G, as, wd, r, hp, q⟩ := h
    refine ⟨t, ht, hrun { l := M } as hp _ _ G H _ (MSub.refl _) (Sg.start r) ⟨wd, fun _ _ _ _ _ _ z => z.elim⟩ ⟨fun ds' σ' G' H' e s' _ w' => q _ _ G' H' s' w'.toWd0 .non e, fun v d G' H' e s' r' w' => q v d G' H' s' w'.toWd0 r' e, fun _ _ _ _ e => e.elim, fun _ _ _ _ e => e.elim⟩⟩
end
end Rg
namespace Rg
open PySem L2 RZ PyProof.Rows
/-! ### == of data of any depth -/
mutual
def pyT : D → PyData
  | .bl b => .bool b
  | .int i => .int i
  | .str x => .str x
  | .list xs => .list (pyTs xs)
  | .tup xs => .tuple (pyTs xs)
  | _ => .none
def pyTs : List D → List PyData
  | [] => []
  | d :: ds => pyT d :: pyTs ds
end
/-- plain data of at most this depth -/
def flD : Nat → D → Bool
  | 0, _ => false
  | _ + 1, .non => true
  | _ + 1, .bl _ => true
  | _ + 1, .int _ => true
  | _ + 1, .str x => x.cps.all (· < 0x110000)
  | n + 1, .list xs => xs.all (flD n)
  | n + 1, .tup xs => xs.all (flD n)
  | _ + 1, _ => false
mutual
theorem dp_of {K : PySem.W.Frag} {G H : Hp} (s : Same G H) : ∀ {n : Nat} {d : D} {v : V}, flD n d = true → Rp K G v d → Dp K H v (pyT d)
  | 0, _, _, h, _ => by cases h
  | _ + 1, _, _, _, .non => .non
  | _ + 1, _, _, _, .bl b => .bl b
  | _ + 1, _, _, _, .int i => .int i
  | _ + 1, _, _, _, .str x => .str x
  | n + 1, _, _, h, .lst e r => .lst (s.seq (sq e)) (dps_of s (n := n) h r)
  | n + 1, _, _, h, .tup e r => .tup (same_t s e) (dps_of s (n := n) h r)
  | _ + 1, _, _, h, .obj _ _ => by cases h
  | _ + 1, _, _, h, .exc _ _ _ => by cases h
  | _ + 1, _, _, h, .cau _ _ => by cases h
  | _ + 1, _, _, h, .seq _ _ => by cases h
  | _ + 1, _, _, h, .raw _ => by cases h
  | _ + 1, _, _, h, .fob _ _ _ => by cases h
  | _ + 1, _, _, h, .dict _ _ => by cases h
  | _ + 1, _, _, h, .ldict _ _ => by cases h
theorem dps_of {K : PySem.W.Frag} {G H : Hp} (s : Same G H) : ∀ {n : Nat} {ds : List D} {vs : List V}, ds.all (flD n) = true → RpAll K G vs ds → DpAll K H vs (pyTs ds)
  | _, _, _, _, .nil => .nil
  | n, _, _, h, .cons r1 r2 => by
    have h2 := Bool.and_eq_true_iff.mp (show (flD n _ && List.all _ (flD n)) = true from h)
    exact .cons (dp_of s h2.1 r1) (dps_of s h2.2 r2)
end
mutual
theorem lay_of : ∀ (n : Nat) (d : D), flD n d = true → (pyT d).canLay0 = true ∧ (pyT d).depth ≤ n
  | 0, _, h => by cases h
  | n + 1, .non, _ => ⟨rfl, by simp [pyT, PyData.depth]⟩
  | n + 1, .bl b, _ => ⟨rfl, by simp [pyT, PyData.depth]⟩
  | n + 1, .int b, _ => ⟨rfl, by simp [pyT, PyData.depth]⟩
  | n + 1, .str x, h => ⟨h, by simp [pyT, PyData.depth]⟩
  | n + 1, .list xs, h => by
    obtain ⟨a, b⟩ := lays_of n xs h
    exact ⟨a, by simp only [pyT, PyData.depth]; omega⟩
  | n + 1, .tup xs, h => by
    obtain ⟨a, b⟩ := lays_of n xs h
    exact ⟨a, by simp only [pyT, PyData.depth]; omega⟩
  | n + 1, .obj _ _ _, h => by cases h
  | n + 1, .exc _ _ _, h => by cases h
  | n + 1, .cau _ _ _ _ _, h => by cases h
  | n + 1, .seq _, h => by cases h
  | n + 1, .raw _, h => by cases h
  | n + 1, .fob _, h => by cases h
  | n + 1, .dict _ _, h => by cases h
  | n + 1, .ldict _ _, h => by cases h
theorem lays_of : ∀ (n : Nat) (ds : List D), ds.all (flD n) = true → PyData.canLayAll0 (pyTs ds) = true ∧ PyData.depthAll (pyTs ds) ≤ n
  | n, [], _ => ⟨rfl, by simp [pyTs, PyData.depthAll]⟩
  | n, d :: ds, h => by
    have h2 := Bool.and_eq_true_iff.mp (show (flD n d && List.all ds (flD n)) = true from h)
    obtain ⟨a, b⟩ := lay_of n d h2.1
    obtain ⟨a2, b2⟩ := lays_of n ds h2.2
    refine ⟨?_, ?_⟩
    · show ((pyT d).canLay0 && PyData.canLayAll0 (pyTs ds)) = true
      rw [a, a2]; rfl
    · simp only [pyTs, PyData.depthAll]; omega
end
def eqvD (a b : D) : Bool := PyData.eqv (pyT a) (pyT b)
section
variable {K : PySem.W.Frag} {M : Mt} {ds : DS} {te : TE}
theorem shaped_of {n : Nat} {d : D} (h : flD n d = true) (hn : n ≤ 64) : SeqAt.shaped (pyT d) = true := by
  obtain ⟨a, b⟩ := lay_of n d h
  show ((pyT d).canLay0 && decide ((pyT d).depth ≤ 64)) = true
  rw [a, decide_eq_true (Nat.le_trans b hn)]
  rfl
theorem od_eqD {n : Nat} {a b : D} (ha : flD n a = true) (hb : flD n b = true) (hn : n ≤ 64 := by decide) : OpD K M (rEqD K) a b (· = .bl (eqvD a b)) := fun M' G H x y Q m rx ry w q =>
  ⟨pyT a, pyT b, dp_of w.sub ha rx, dp_of w.sub hb ry, shaped_of ha hn, shaped_of hb hn, q _ _ G H (Same.refl G) w (.bl _) rfl⟩
theorem od_neD {n : Nat} {a b : D} (ha : flD n a = true) (hb : flD n b = true) (hn : n ≤ 64 := by decide) : OpD K M (rNeD K) a b (· = .bl (!eqvD a b)) := fun M' G H x y Q m rx ry w q =>
  ⟨pyT a, pyT b, dp_of w.sub ha rx, dp_of w.sub hb ry, shaped_of ha hn, shaped_of hb hn, q _ _ G H (Same.refl G) w (.bl _) rfl⟩
theorem room_u {k : Nat} {A : Around} (hr : Room k A) : A.units + 64 < cLine := by have := hr.un; omega
theorem q_eqD {X : Cx} {K : PySem.W.Frag} (hu : X.A.units + 64 < cLine) (h : X.K = K := by rfl) : OpR X (compareOp .Eq) (rEqD K) := h ▸ op_eqD hu
theorem q_neD {X : Cx} {K : PySem.W.Frag} (hu : X.A.units + 64 < cLine) (h : X.K = K := by rfl) : OpR X (compareOp .NotEq) (rNeD K) := h ▸ op_neD hu
mutual
theorem eqv_refl : ∀ (n : Nat) (d : D), flD n d = true → eqvD d d = true
  | 0, _, h => by cases h
  | n + 1, .non, _ => rfl
  | n + 1, .bl b, _ => by simp [eqvD, pyT, PyData.eqv]
  | n + 1, .int b, _ => by simp [eqvD, pyT, PyData.eqv]
  | n + 1, .str x, h => by simp [eqvD, pyT, PyData.eqv]
  | n + 1, .list xs, h => by
    have := eqvs_refl n xs h
    simpa [eqvD, pyT, PyData.eqv] using this
  | n + 1, .tup xs, h => by
    have := eqvs_refl n xs h
    simpa [eqvD, pyT, PyData.eqv] using this
  | n + 1, .obj _ _ _, h => by cases h
  | n + 1, .exc _ _ _, h => by cases h
  | n + 1, .cau _ _ _ _ _, h => by cases h
  | n + 1, .seq _, h => by cases h
  | n + 1, .raw _, h => by cases h
  | n + 1, .fob _, h => by cases h
  | n + 1, .dict _ _, h => by cases h
  | n + 1, .ldict _ _, h => by cases h
theorem eqvs_refl : ∀ (n : Nat) (ds : List D), ds.all (flD n) = true → PyData.eqvAll (pyTs ds) (pyTs ds) = true
  | n, [], _ => rfl
  | n, d :: ds, h => by
    have h2 := Bool.and_eq_true_iff.mp (show (flD n d && List.all ds (flD n)) = true from h)
    have a := eqv_refl n d h2.1
    have b := eqvs_refl n ds h2.2
    show (PyData.eqv (pyT d) (pyT d) && PyData.eqvAll (pyTs ds) (pyTs ds)) = true
    rw [show PyData.eqv (pyT d) (pyT d) = true from a, b]
    rfl
end
/-! ### lists repeated -/
abbrev rMulU : R2 := rOr (rI CMul fun i j => .int (i * j)) rRep
theorem op_mulU {X : Cx} : OpR X (binaryOp .Mult) rMulU := op_or op_mul op_rep
theorem od_mulU {i j : Int} (h : CMul i j) : OpD K M rMulU (.int i) (.int j) (· = .int (i * j)) := od_l (od_intC (h := fun i j => .int (i * j)) h fun _ => .int _)
theorem RpAll.rep {G : Hp} {vs : List V} {es : List D} (r : RpAll K G vs es) : ∀ n : Nat, RpAll K G (List.replicate n vs).flatten (List.replicate n es).flatten
  | 0 => .nil
  | n + 1 => by
    rw [List.replicate_succ, List.replicate_succ, List.flatten_cons, List.flatten_cons]
    exact r.append (RpAll.rep r n)
theorem od_rep {xs : List D} {k : Int} (h0 : -(2 ^ 63) ≤ k) (h1 : k < 2 ^ 63) (hz : xs.length * k.toNat ≤ 100000) : OpD K M rMulU (.list xs) (.int k) (· = .list (List.replicate k.toNat xs).flatten) := od_r fun M' G H x y Q m rx ry w q => by
  obtain ⟨a, us, rfl, e, r⟩ := rx.list_ex
  refine ⟨a, k, us, rfl, ry.int_inv, w.sub _ _ e, h0, h1, by rw [r.length]; exact Nat.le_trans hz (by decide), fun p hp => ?_⟩
  have sn := same_new (o := HO.lst (List.replicate k.toNat us).flatten) (w.free hp)
  exact q (.ref p) _ _ _ sn (w.new hp) (.lst upd_same ((r.mono sn).rep k.toNat)) rfl
end
theorem xgB_ok {K : PySem.W.Frag} {C : Addr} {b : XB} (h : xgB K C b = true) : Xg K C := by
  obtain ⟨h1, h⟩ := He.ba h
  obtain ⟨h2, h⟩ := He.ba h
  obtain ⟨h3, h⟩ := He.ba h
  obtain ⟨h4, h⟩ := He.ba h
  obtain ⟨h5, h⟩ := He.ba h
  obtain ⟨h6, h⟩ := He.ba h
  obtain ⟨h7, h⟩ := He.ba h
  obtain ⟨h8, h⟩ := He.ba h
  obtain ⟨h9, h⟩ := He.ba h
  obtain ⟨h10, h⟩ := He.ba h
  obtain ⟨h11, h⟩ := He.ba h
  obtain ⟨h12, h13⟩ := He.ba h
  refine { base := ?_, dct := h3, sa := He.eqO_ok h4, exC := of_decide_eq_true h5, tyC := of_decide_eq_true h6, kC := h7, ga := He.eqO_ok h8, gg := He.eqO_ok h9, cl := He.eqO_ok h10, gs := He.eqO_ok h11, tk := of_decide_eq_true h12, ob := of_decide_eq_true h13 }
  cases b with
  | value => exact ⟨_, _, _, _, PySem.F.excBase_ValueError, PySem.F.store_ValueError, h1, h2⟩
  | lookup => exact ⟨_, _, _, _, PySem.F.excBase_LookupError, PySem.F.store_LookupError, h1, h2⟩
  | index => exact ⟨_, _, _, _, PySem.F.excBase_IndexError, PySem.F.store_IndexError, h1, h2⟩
structure ErF (K : PySem.W.Frag) (e : Str) (fs : List Str) : Prop where
  x : Xg K (He.ga K e)
  i : PySem.W.findIn K (.ref (He.ga K e)) "__init__" = some (some (.ref (He.ma K (He.ga K e) "__init__")))
  t : PySem.W.typeIn K (.ref (He.ma K (He.ga K e) "__init__")) = some (.type "function")
  no : ∀ f ∈ fs, PySem.W.findIn K (.ref (He.ga K e)) f = some none
theorem erB_ok {K : PySem.W.Frag} : ∀ {l : List (Str × XB × List Str)}, erB K l = true → ∀ {e : Str} {b : XB} {fs : List Str}, (e, b, fs) ∈ l → ErF K e fs
  | [], _, _, _, _, h => by cases h
  | (e0, b0, fs0) :: r, h, e, b, fs, hm => by
    obtain ⟨h1, h⟩ := He.ba h
    obtain ⟨h2, h⟩ := He.ba h
    obtain ⟨h3, h⟩ := He.ba h
    obtain ⟨h4, h5⟩ := He.ba h
    rcases List.mem_cons.mp hm with z | z
    · cases z
      exact ⟨xgB_ok h1, He.eqO_ok h2, of_decide_eq_true h3, fun f hf => He.eqO_ok (List.all_eq_true.mp h4 f hf)⟩
    · exact erB_ok h5 z
end Rg
namespace Rg
open PySem L2 RZ PyProof.Rows
theorem q_xq {X : Cx} {K : PySem.W.Frag} {q : Addr × Obj} {e : Expr} {te : TE} {pos : Pos} {f : Str} (hq : q ∈ X.pn) (hf : ∃ vs, q.2.data = .fields vs) (he : PE X e te) (h : X.K = K := by rfl) (hb : attributeBase e f X.env (eval e X.env) = eval e X.env := by rfl) : PE X (.Attribute e f pos) (tXq K q f te) := h ▸ pe_xq hq hf he hb
theorem pe_cls {X : Cx} {x : Str} {c : Addr} {p : Pos} (hg : Gl X x) (hm : X.mg x = some (.ref c)) (hdb : (x == ("__debug__" : Str)) = false := by decide) : PE X (.Name x p) (tC (.ref c)) := pe_glob hg hm (show RelV (.ref c) (.ref c) from rfl) hdb
abbrev m0 : Mt := { l := [] }
/-! ### targets of any form; a promise for each of many readings -/
section
variable {K : PySem.W.Frag} {M : Mt} {ds : DS} {te : TE} {R : D → Prop} {E : AE}
theorem run_asgG {g : TG} (h : Ev K M ds te R) (hg : ∀ d, R d → EvG K M none g d ds E.nx) : Run K M ds (tAsg te g) E := fun M' σ G H Z m s w z =>
  h M' σ G H _ m s w fun v d G1 H1 s1 w1 r1 e => hg d e M' σ G1 H1 v _ m (s.mono s1) w1 r1 fun ds2 σ2 G2 H2 n2 s2 sg2 w2 _ => z.nx ds2 σ2 G2 H2 n2 (s1.trans s2) sg2 w2
def spAny {ι : Type} (sp : ι → Sp) : Sp := fun vs H Q E => ∃ i, sp i vs H Q E
theorem fn_any {P : Program} {w : World} {mg : Str → Option Value} {base : Heap} {CX : CXT} {k : Nat} {f : Addr} {fd : FuncData} {ps : List Str} {ι : Type} {sp : ι → Sp} (h : ∀ i, FnOk P w K mg base CX k f fd ps (sp i)) : FnOk P w K mg base CX k f fd ps (spAny sp) :=
  ⟨fun vs H Q E ⟨i, q⟩ => (h i).len vs H Q E q, fun A outer s H args us vs Q E hr he hb hv ⟨i, q⟩ => (h i).run A outer s H args us vs Q E hr he hb hv q⟩
theorem ev_callI {ι : Type} {pre : ι → Ml → List D → Prop} {post : ι → List D → D → Prop} (i : ι) {ta : TA} {RA : List D → Prop} {E : XK} (ha : EvA K M ds ta RA) (h : ∀ as, RA as → (∀ M', MSub M M' → pre i M'.l as) ∧ ∀ d, post i as d → R d) :
    Ev K M ds (tCall (spAny fun i => spF K (pre i) (post i)) [] E ta) R := fun M' σ G H Q m s w q =>
  ha M' σ G H _ m s w fun vs as G1 H1 s1 w1 r1 e => ⟨i, M'.l, G1, as, w1.toWd0, by rw [List.append_nil]; exact r1, (h as e).1 M' m, fun v d G2 H2 s2 w2 r2 p2 => q v d G2 H2 (s1.trans s2) (w1.to s2 w2) r2 ((h as e).2 d p2), fun _ _ _ _ _ _ _ _ z => z.elim⟩
theorem ev_callI1 {ι : Type} {pre : ι → Ml → List D → Prop} {post : ι → List D → D → Prop} (i : ι) {ta : TA} {as : List D} {d : D} {E : XK} (ha : EvA K M ds ta (· = as)) (hp : ∀ M', MSub M M' → pre i M'.l as) (hd : ∀ r, post i as r → r = d) :
    Ev K M ds (tCall (spAny fun i => spF K (pre i) (post i)) [] E ta) (· = d) := ev_callI i ha fun _ e => by rw [e]; exact ⟨hp, hd⟩
end
/-! ### the __init__ of an own error with 0 .. 3 parameters -/
section
variable {K : PySem.W.Frag} {H : Hp} {a C : Addr} {code f1 f2 f3 : Str} {Q : VK}
theorem upd_upd {H : Hp} {p : Addr} {x y : HO} : upd (upd H p x) p y = upd H p y := by
  funext b
  by_cases h : b = p
  · subst h; rw [upd_same, upd_same]
  · rw [upd_ne h, upd_ne h, upd_ne h]
theorem upd_comm {H : Hp} {p q : Addr} {x y : HO} (h : p ≠ q) : upd (upd H p x) q y = upd (upd H q y) p x := by
  funext b
  by_cases h1 : b = p
  · subst h1; rw [upd_ne h, upd_same, upd_same]
  · rw [upd_ne h1]
    by_cases h2 : b = q
    · subst h2; rw [upd_same, upd_same]
    · rw [upd_ne h2, upd_ne h2, upd_ne h1]
/-- one field more -/
theorem st_fld {Z : Ends} {σ : L2.St} {dx : Addr} {f : Str} {j : Nat} {y : V} {fs : List (Str × V)} (T : Xc K C) (hn : PySem.W.findIn K (.ref C) f = some none) (h0 : σ[0]? = some (some (.ref a))) (hj : σ[j]? = some (some y)) (hd : dx ≠ a) (hl : fs.length ≤ 900)
    (q : Z.nx σ (upd (upd H dx (exd dx ((f, y) :: fs))) a (exo a C (some dx)))) : tXst K f (tVar 0) (tVar j) Z σ (upd (upd H dx (exd dx fs)) a (exo a C (some dx))) :=
  ⟨y, hj, .ref a, h0, a, C, rfl, T, hn, .inr ⟨dx, fs, upd_same, by rw [upd_ne hd, upd_same], hl, by
    have e : upd (upd (upd H dx (exd dx fs)) a (exo a C (some dx))) dx (exd dx ((f, y) :: fs)) = upd (upd H dx (exd dx ((f, y) :: fs))) a (exo a C (some dx)) := by
      rw [upd_comm (Ne.symm hd), upd_upd]
    rw [e]; exact q⟩⟩
theorem st_code {Z : Ends} {σ : L2.St} (T : Xc K C) (hn : PySem.W.findIn K (.ref C) "code" = some none) (h0 : σ[0]? = some (some (.ref a))) (ha : H a = some (exo a C none))
    (q : ∀ dx, H dx = none → dx ≠ a → Z.nx σ (upd (upd H dx (exd dx [(("code" : Str), V.str code)])) a (exo a C (some dx)))) : tXst K "code" (tVar 0) (tC (.str code)) Z σ H :=
  ⟨.ref a, h0, a, C, rfl, T, hn, .inl ⟨ha, q⟩⟩
theorem init0 (T : Xc K C) (ha : H a = some (exo a C none)) (q : ∀ dx, H dx = none → dx ≠ a → Q .non (upd (upd H dx (exd dx [(("code" : Str), V.str code)])) a (exo a C (some dx)))) (n0 : PySem.W.findIn K (.ref C) "code" = some none) :
    tXst K "code" (tVar 0) (tC (.str code)) { nx := fun _ H' => Q .non H', rt := Q } [some (.ref a)] H := st_code T n0 rfl ha q
theorem init1 {w1 : V} (T : Xc K C) (ha : H a = some (exo a C none)) (q : ∀ dx, H dx = none → dx ≠ a → Q .non (upd (upd H dx (exd dx [(f1, w1), (("code" : Str), V.str code)])) a (exo a C (some dx)))) (n0 : PySem.W.findIn K (.ref C) "code" = some none) (n1 : PySem.W.findIn K (.ref C) f1 = some none) :
    tSeq (tXst K "code" (tVar 0) (tC (.str code))) (tXst K f1 (tVar 0) (tVar 1)) { nx := fun _ H' => Q .non H', rt := Q } [some (.ref a), some w1] H :=
  st_code T n0 rfl ha fun dx h1 h2 => st_fld T n1 rfl rfl h2 (by simp) (q dx h1 h2)
theorem init2 {w1 w2 : V} (T : Xc K C) (ha : H a = some (exo a C none)) (q : ∀ dx, H dx = none → dx ≠ a → Q .non (upd (upd H dx (exd dx [(f2, w2), (f1, w1), (("code" : Str), V.str code)])) a (exo a C (some dx)))) (n0 : PySem.W.findIn K (.ref C) "code" = some none) (n1 : PySem.W.findIn K (.ref C) f1 = some none) (n2 : PySem.W.findIn K (.ref C) f2 = some none) :
    tSeq (tXst K "code" (tVar 0) (tC (.str code))) (tSeq (tXst K f1 (tVar 0) (tVar 1)) (tXst K f2 (tVar 0) (tVar 2))) { nx := fun _ H' => Q .non H', rt := Q } [some (.ref a), some w1, some w2] H :=
  st_code T n0 rfl ha fun dx h1 h2 => st_fld T n1 rfl rfl h2 (by simp) (st_fld T n2 rfl rfl h2 (by simp) (q dx h1 h2))
theorem init3 {w1 w2 w3 : V} (T : Xc K C) (ha : H a = some (exo a C none)) (q : ∀ dx, H dx = none → dx ≠ a → Q .non (upd (upd H dx (exd dx [(f3, w3), (f2, w2), (f1, w1), (("code" : Str), V.str code)])) a (exo a C (some dx)))) (n0 : PySem.W.findIn K (.ref C) "code" = some none) (n1 : PySem.W.findIn K (.ref C) f1 = some none) (n2 : PySem.W.findIn K (.ref C) f2 = some none) (n3 : PySem.W.findIn K (.ref C) f3 = some none) :
    tSeq (tXst K "code" (tVar 0) (tC (.str code))) (tSeq (tXst K f1 (tVar 0) (tVar 1)) (tSeq (tXst K f2 (tVar 0) (tVar 2)) (tXst K f3 (tVar 0) (tVar 3)))) { nx := fun _ H' => Q .non H', rt := Q } [some (.ref a), some w1, some w2, some w3] H :=
  st_code T n0 rfl ha fun dx h1 h2 => st_fld T n1 rfl rfl h2 (by simp) (st_fld T n2 rfl rfl h2 (by simp) (st_fld T n3 rfl rfl h2 (by simp) (q dx h1 h2)))
end
end Rg
namespace Rg
open PySem PySem.Spec L2 RZ PyProof.Rows
/-! ### cells told to a callee: tracked while it runs -/
def trkX (h : Heap) (cs : List Addr) (H : Hp) : Hp := fun b => if b ∈ cs then (h.get? b).map (ExO b) else H b
def unX (cs : List Addr) (H : Hp) : Hp := fun b => if b ∈ cs then none else H b
section
variable {P : Program} {w : World} {K : PySem.W.Frag} {mg : Str → Option Value} {base : Heap} {A : Around} {outer : List Env} {s s' : Shared} {H H' : Hp} {cs : List Addr} {h h' : Heap}
theorem trkX_in {c : Addr} {o : Obj} (hc : c ∈ cs) (e : h.get? c = some o) : trkX h cs H c = some (ExO c o) := by
  unfold trkX
  rw [if_pos hc, e]
  rfl
theorem trkX_out {b : Addr} (hb : b ∉ cs) : trkX h cs H b = H b := if_neg hb
theorem unX_in {b : Addr} (hb : b ∈ cs) : unX cs H b = none := if_pos hb
theorem unX_out {b : Addr} (hb : b ∉ cs) : unX cs H b = H b := if_neg hb
theorem exO_ok {a : Addr} {o : Obj} (e : h.get? a = some o) : ObjOk P w H h a (ExO a o) := ⟨e, ⟨o, e⟩, fun _ _ e1 st => st _ e1⟩
theorem exO_at {a : Addr} {o : Obj} (k : ObjOk P w H h a (ExO a o)) : h.get? a = some o := k.1
theorem exO_inj {a : Addr} {o o' : Obj} (e : ExO a o = ExO a o') (h0 : ∃ h : Heap, h.get? a = some o) : o = o' := by
  obtain ⟨h, q⟩ := h0
  unfold ExO at e
  have e1 : (fun h : Heap => h.get? a = some o) = fun h => h.get? a = some o' := by
    injection e
  have e2 := congrFun e1 h
  have e3 : h.get? a = some o' := e2 ▸ q
  exact Option.some.inj (q.symm.trans e3)
theorem hok_trk (x : HOk P w H h) (hn : ∀ c ∈ cs, H c = none) (ht : ∀ c ∈ cs, ∃ o, h.get? c = some o) : HOk P w (trkX h cs H) h := fun a o e => by
  by_cases ha : a ∈ cs
  · obtain ⟨ob, eo⟩ := ht a ha
    rw [trkX_in ha eo] at e
    cases e
    exact exO_ok eo
  · rw [trkX_out ha] at e
    refine (x a o e).stay (fun _ _ _ q => q) (fun b q => ?_) fun b xs q => ?_
    · rw [trkX_out fun z => by rw [hn b z] at q; cases q]
      exact q
    · rw [trkX_out fun z => by rw [hn b z] at q; cases q]
      exact q
/-- without the tracked cells -/
theorem hok_un (x : HOk P w H h) (hx : ∀ c ∈ cs, ∃ o, H c = some (ExO c o)) : HOk P w (unX cs H) h := fun a o e => by
  by_cases ha : a ∈ cs
  · rw [unX_in ha] at e
    cases e
  · rw [unX_out ha] at e
    refine (x a o e).stay (fun _ _ _ q => q) (fun b q => ?_) fun b xs q => ?_
    · rw [unX_out fun z => by obtain ⟨o', eo⟩ := hx b z; rw [eo] at q; cases q]
      exact q
    · rw [unX_out fun z => by obtain ⟨o', eo⟩ := hx b z; rw [eo] at q; cases q]
      exact q
theorem Env0.trk (e : Env0 P w K mg base A outer s H) (hn : ∀ c ∈ cs, H c = none) (ht : ∀ c ∈ cs, ∃ o, s.heap.get? c = some o) (hb : ∀ c ∈ cs, base.get? c = none) (hf : ∀ c ∈ cs, c ∉ frs outer) : Env0 P w K mg base A outer s (trkX s.heap cs H) :=
  ⟨e.frames, e.mod, fun b o q => ⟨(e.bs b o q).1, by rw [trkX_out fun z => by rw [hb b z] at q; cases q]; exact (e.bs b o q).2⟩, e.bsz, e.funs, fun b q => by rw [trkX_out fun z => hf b z q]; exact e.frf b q, hok_trk e.hok hn ht, e.bare⟩
theorem Env0.un (e : Env0 P w K mg base A outer s H) (hx : ∀ c ∈ cs, ∃ o, H c = some (ExO c o)) : Env0 P w K mg base A outer s (unX cs H) :=
  ⟨e.frames, e.mod, fun b o q => ⟨(e.bs b o q).1, by
    by_cases z : b ∈ cs
    · exact unX_in z
    · rw [unX_out z]; exact (e.bs b o q).2⟩, e.bsz, e.funs, fun b q => by
    by_cases z : b ∈ cs
    · exact unX_in z
    · rw [unX_out z]; exact e.frf b q, hok_un e.hok hx, e.bare⟩
/-- behind the callee: the cells are as they were -/
theorem un_trk {fs : List Addr} (u : Un fs [] (trkX h cs H) H' h h') (k : HOk P w H' h') (hn : ∀ c ∈ cs, H c = none) (ht : ∀ c ∈ cs, ∃ o, h.get? c = some o) (hf : ∀ c ∈ cs, c ∉ fs) (hs : ∀ c ∈ cs, H' c = trkX h cs H c) : Un fs [] H (unX cs H') h h' where
  keep := fun b o e n hb hx => by
    by_cases z : b ∈ cs
    · have q := hs b z
      rw [trkX_in z e] at q
      exact exO_at (k b _ q)
    · exact u.keep b o e (by rw [trkX_out z]; exact n) hb hx
  slot := fun b o e n hb hx => u.slot b o e (by rw [trkX_out fun z => hf b z hb]; exact n) hb hx
  free := fun b o e n hx => by
    by_cases z : b ∈ cs
    · exact unX_in z
    · rw [unX_out z]; exact u.free b o e (by rw [trkX_out z]; exact n) hx
  there := u.there
  tups := fun b xs e => by
    have z : b ∉ cs := fun z => by rw [hn b z] at e; cases e
    rw [unX_out z]; exact u.tups b xs (by rw [trkX_out z]; exact e)
  frzs := fun b o x e => by
    have z : b ∉ cs := fun z => by rw [hn b z] at e; cases e
    rw [unX_out z]; exact u.frzs b o x (by rw [trkX_out z]; exact e)
  tbls := fun b ps e => by
    have z : b ∉ cs := fun z => by rw [hn b z] at e; cases e
    rw [unX_out z]; exact u.tbls b ps (by rw [trkX_out z]; exact e)
/-- a closure's run, from its cells untracked back to tracked -/
def reX (cs : List Addr) (H0 H : Hp) : Hp := fun b => if b ∈ cs then H0 b else H b
theorem reX_in {H0 : Hp} {b : Addr} (hb : b ∈ cs) : reX cs H0 H b = H0 b := if_pos hb
theorem reX_out {H0 : Hp} {b : Addr} (hb : b ∉ cs) : reX cs H0 H b = H b := if_neg hb
theorem hok_re {H0 : Hp} (x0 : HOk P w H0 h) (x : HOk P w H h') (hx : ∀ c ∈ cs, ∃ o, H0 c = some (ExO c o)) (hn : ∀ c ∈ cs, H c = none) (hk : ∀ c ∈ cs, ∀ o, h.get? c = some o → h'.get? c = some o) : HOk P w (reX cs H0 H) h' := fun a o e => by
  by_cases ha : a ∈ cs
  · rw [reX_in ha] at e
    obtain ⟨ob, eo⟩ := hx a ha
    rw [eo] at e
    cases e
    exact exO_ok (hk a ha ob (exO_at (x0 a _ eo)))
  · rw [reX_out ha] at e
    refine (x a o e).stay (fun _ _ _ q => q) (fun b q => ?_) fun b xs q => ?_
    · rw [reX_out fun z => by rw [hn b z] at q; cases q]
      exact q
    · rw [reX_out fun z => by rw [hn b z] at q; cases q]
      exact q
theorem un_re {fs : List Addr} (u : Un fs [] (unX cs H) H' h h') (x0 : HOk P w H h) (hx : ∀ c ∈ cs, ∃ o, H c = some (ExO c o)) (hf : ∀ c ∈ cs, c ∉ fs) : Un fs [] H (reX cs H H') h h' := by
  have old : ∀ {b : Addr} {u : HO}, H b = some u → (∀ o, u ≠ ExO b o) → b ∉ cs := fun {b u} e ne z => by
    obtain ⟨o, eo⟩ := hx b z
    rw [eo] at e
    exact ne o (Option.some.inj e).symm
  refine ⟨fun b o e n hb hx' => ?_, fun b o e n hb hx' => ?_, fun b o e n hx' => ?_, u.there, fun b xs e => ?_, fun b o y e => ?_, fun b ps e => ?_⟩
  · have z : b ∉ cs := fun z => by obtain ⟨o', eo⟩ := hx b z; rw [eo] at n; cases n
    exact u.keep b o e (by rw [unX_out z]; exact n) hb hx'
  · have z : b ∉ cs := fun z => by obtain ⟨o', eo⟩ := hx b z; rw [eo] at n; cases n
    exact u.slot b o e (by rw [unX_out z]; exact n) hb hx'
  · have z : b ∉ cs := fun z => by obtain ⟨o', eo⟩ := hx b z; rw [eo] at n; cases n
    rw [reX_out z]; exact u.free b o e (by rw [unX_out z]; exact n) hx'
  · have z := old e fun o q => by cases q
    rw [reX_out z]; exact u.tups b xs (by rw [unX_out z]; exact e)
  · have z := old e fun o q => by cases q
    rw [reX_out z]; exact u.frzs b o y (by rw [unX_out z]; exact e)
  · have z := old e fun o q => by cases q
    rw [reX_out z]; exact u.tbls b ps (by rw [unX_out z]; exact e)
/-- where the cells were tracked, they stand unchanged behind what left them untracked -/
theorem cells_keep {fs : List Addr} (u : Un fs [] (unX cs H) H' h h') (hf : ∀ c ∈ cs, c ∉ fs) : ∀ c ∈ cs, ∀ o, h.get? c = some o → h'.get? c = some o := fun c hc o e => u.keep c o e (unX_in hc) (hf c hc) (by simp)
theorem ce_re {Q : VK} {u : Value} (x0 : HOk P w H s.heap) (hx : ∀ c ∈ cs, ∃ o, H c = some (ExO c o)) (hf : ∀ c ∈ cs, c ∉ frs outer) (h : CE outer P w (unX cs H) s (fun v H' => (∀ c ∈ cs, H' c = none) → Q v (reX cs H H')) u s') : CE outer P w H s Q u s' := by
  obtain ⟨v, H', os, bare, un, hok, r, q⟩ := h
  have hn : ∀ c ∈ cs, H' c = none := fun c hc => by
    obtain ⟨o, eo⟩ := hx c hc
    exact un.free c o (exO_at (x0 c _ eo)) (unX_in hc) (by simp)
  exact ⟨v, reX cs H H', os, bare, un_re un x0 hx hf, hok_re x0 hok hx hn (cells_keep un hf), r, q hn⟩
theorem cx_re {E : XK} {u : Value} (x0 : HOk P w H s.heap) (hx : ∀ c ∈ cs, ∃ o, H c = some (ExO c o)) (hf : ∀ c ∈ cs, c ∉ frs outer) (h : L2.CX P w outer (unX cs H) s (fun cls d H' => (∀ c ∈ cs, H' c = none) → E cls d (reX cs H H')) u s') : L2.CX P w outer H s E u s' := by
  obtain ⟨a, B, H', cls, d, e, fl, hok, ub, ha, os, bare, q⟩ := h
  have at_ : ∀ c ∈ cs, ∃ o, s.heap.get? c = some o := fun c hc => by
    obtain ⟨o, eo⟩ := hx c hc
    exact ⟨o, exO_at (x0 c _ eo)⟩
  have kp : ∀ c ∈ cs, ∀ o, s.heap.get? c = some o → B.get? c = some o := fun c hc o eo => ub.keep c o eo (unX_in hc) (hf c hc)
  have hn : ∀ c ∈ cs, H' c = none := fun c hc => by
    obtain ⟨o, eo⟩ := at_ c hc
    exact ub.free c o eo (unX_in hc)
  have na : a ∉ cs := fun z => by
    obtain ⟨o, eo⟩ := at_ a z
    have := kp a z o eo
    rw [fl.2.1] at this
    cases this
  have old : ∀ {b : Addr} {u : HO}, H b = some u → (∀ o, u ≠ ExO b o) → b ∉ cs := fun {b u} e ne z => by
    obtain ⟨o, eo⟩ := hx b z
    rw [eo] at e
    exact ne o (Option.some.inj e).symm
  refine ⟨a, B, reX cs H H', cls, d, e, fl, hok_re x0 hok hx hn kp, ⟨fun b o e n hb => ?_, ub.slot, fun b o e n => ?_, ub.there, fun b xs e => ?_, fun b o y e => ?_, fun b ps e => ?_⟩, by rw [reX_out na]; exact ha, os, bare, q hn⟩
  · have z : b ∉ cs := fun z => by obtain ⟨o', eo⟩ := hx b z; rw [eo] at n; cases n
    exact ub.keep b o e (by rw [unX_out z]; exact n) hb
  · have z : b ∉ cs := fun z => by obtain ⟨o', eo⟩ := hx b z; rw [eo] at n; cases n
    rw [reX_out z]; exact ub.free b o e (by rw [unX_out z]; exact n)
  · have z := old e fun o q => by cases q
    rw [reX_out z]; exact ub.tups b xs (by rw [unX_out z]; exact e)
  · have z := old e fun o q => by cases q
    rw [reX_out z]; exact ub.frzs b o y (by rw [unX_out z]; exact e)
  · have z := old e fun o q => by cases q
    rw [reX_out z]; exact ub.tbls b ps (by rw [unX_out z]; exact e)
end
end Rg
namespace Rg
open PySem PySem.Spec L2 RZ PyProof.Rows
/-! ### a call whose callee may call closures of this def: the cells ys are told -/
def cA (cl : List (Str × Addr)) (y : Str) : Addr := (cl.lookup y).getD 0
def csOf (cl : List (Str × Addr)) (ys : List (Str × Nat)) : List Addr := ys.map fun y => cA cl y.1
def tCallT (cl : List (Str × Addr)) (ys : List (Str × Nat)) (sp : Sp) (t : TA) : TE := fun σ H Q => t σ H fun vs H1 =>
  (∀ y ∈ ys, ∃ v, σ[y.2]? = some (some v)) ∧ ∀ (H2 : Hp) (obs : Addr → Obj), (∀ c ∈ csOf cl ys, H1 c = none) → (csOf cl ys).Nodup → (∀ b, b ∉ csOf cl ys → H2 b = H1 b) →
    (∀ y ∈ ys, ∃ u v, H2 (cA cl y.1) = some (ExO (cA cl y.1) (obs (cA cl y.1))) ∧ (obs (cA cl y.1)).data = .cell (some u) ∧ RelV v u ∧ σ[y.2]? = some (some v)) → sp vs H2 (fun v H' => (∀ c ∈ csOf cl ys, H' c = H2 c) ∧ Q v (unX (csOf cl ys) H')) E0
theorem nodup_map {α β : Type} {f : α → β} : ∀ {l : List α}, l.Nodup → (∀ x ∈ l, ∀ y ∈ l, f x = f y → x = y) → (l.map f).Nodup
  | [], _, _ => List.nodup_nil
  | a :: l, h, k => by
    rw [List.map_cons, List.nodup_cons]
    have h' := List.nodup_cons.mp h
    refine ⟨fun hm => ?_, nodup_map h'.2 fun x hx y hy e => k x (List.mem_cons_of_mem _ hx) y (List.mem_cons_of_mem _ hy) e⟩
    obtain ⟨b, hb, e⟩ := List.mem_map.mp hm
    have := k b (List.mem_cons_of_mem _ hb) a List.mem_cons_self e
    exact h'.1 (this ▸ hb)
theorem pe_callT {X : Cx} {k : Nat} {f : Addr} {fd : FuncData} {ps : List Str} {sp : Sp} {x : Str} {p pos : Pos} {e : Expr} {es : List Expr} {t : TA} {ys : List (Str × Nat)} (F : FnOk X.prog X.w X.K X.mg X.base CX0 k f fd ps sp) (hr : Room k X.A) (hg : Gl X x) (hm : X.mg x = some (.ref f)) (hk : PySem.W.keepIn X.K (.ref f) = true)
    (hb : Binds X.K fd ps []) (hys : ∀ y ∈ ys, X.N[y.2]? = some y.1 ∧ X.env.scope.names.lookup y.1 = some .cell ∧ X.fn y.1 = true) (nd : (ys.map (·.1)).Nodup) (ha : PA X (e :: es) t) (hdb : (x == ("__debug__" : Str)) = false := by decide)
    (he : starEach (e :: es) X.env = (false, eval e X.env) :: starEach es X.env := by rfl) (hpl : (backTo pos (starEach es X.env)).any (·.1) = false := by rfl) :
    PE X (.Call (.Name x p) (e :: es) [] pos) (tCallT X.env.cells ys sp t) := by
  refine ⟨fun pins s σ H Q I h => ?_⟩
  refine wpAny_Call_Name_kw (ld_glob I hg hm ?_ hdb)
  refine PySem.W.callWith_K (h₀ := X.base) I.ok.mod.kin hk (thn (ha.run pos pins s σ H _ I h) fun us s1 ⟨vs, H1, I1, r, q⟩ => ⟨I1.kIn, ?_⟩) he hpl
  obtain ⟨hσ, q⟩ := q
  have fact : ∀ y ∈ ys, ∃ (u : Value) (v : V) (o : Obj), X.env.cells.lookup y.1 = some (cA X.env.cells y.1) ∧ s1.heap.get? (cA X.env.cells y.1) = some o ∧ o.data = .cell (some u) ∧ RelV v u ∧ σ[y.2]? = some (some v) := fun y hy => by
    obtain ⟨h1, h2, h3⟩ := hys y hy
    obtain ⟨v, hv⟩ := hσ y hy
    obtain ⟨m, hn, hl⟩ := I1.loc
    obtain ⟨u, ru, lk⟩ := hl y.2 y.1 v h1 hv (.inr (.inl h2))
    rcases lk with ⟨z, _⟩ | ⟨_, c, e1, o, e2, e3⟩
    · have z : X.env.scope.names.lookup y.1 = some .local := z
      rw [h2] at z; cases z
    · have ec : cA X.env.cells y.1 = c := by unfold cA; rw [e1]; rfl
      rw [ec]
      exact ⟨u, v, o, e1, e2, e3, ru, hv⟩
  have inC : ∀ c ∈ csOf X.env.cells ys, ∃ y ∈ ys, cA X.env.cells y.1 = c := fun c hc => by
    obtain ⟨y, hy, e⟩ := List.mem_map.mp hc
    exact ⟨y, hy, e⟩
  have hn : ∀ c ∈ csOf X.env.cells ys, H1 c = none := fun c hc => by
    obtain ⟨y, hy, e⟩ := inC c hc
    obtain ⟨u, v, o, e1, _⟩ := fact y hy
    rw [← e]; exact I1.freeC _ _ e1
  have ht : ∀ c ∈ csOf X.env.cells ys, ∃ o, s1.heap.get? c = some o := fun c hc => by
    obtain ⟨y, hy, e⟩ := inC c hc
    obtain ⟨u, v, o, _, e2, _⟩ := fact y hy
    rw [← e]; exact ⟨o, e2⟩
  have hsz : ∀ c ∈ csOf X.env.cells ys, X.s_0.heap.objs.size ≤ c := fun c hc => by
    obtain ⟨y, hy, e⟩ := inC c hc
    obtain ⟨u, v, o, e1, _⟩ := fact y hy
    rw [← e]; exact I1.ok.cab _ _ (hys y hy).2.2 e1
  have hbs : ∀ c ∈ csOf X.env.cells ys, X.base.get? c = none := fun c hc => Heap.get?_none_of_le (Nat.le_trans I1.ok.bsz (hsz c hc))
  have hfr : ∀ c ∈ csOf X.env.cells ys, c ∉ frs X.stack := fun c hc z => by
    rcases List.mem_cons.mp (I1.stkSub c z) with q | q
    · obtain ⟨y, hy, e⟩ := inC c hc
      obtain ⟨u, v, o, e1, _⟩ := fact y hy
      exact I1.cne _ _ e1 (e.trans q)
    · obtain ⟨_, o, ho, _⟩ := I1.ok.funs.mem q
      exact absurd (Nat.lt_of_lt_of_le (Heap.lt_size ho) (hsz c hc)) (Nat.lt_irrefl _)
  have ndc : (csOf X.env.cells ys).Nodup := by
    have e : csOf X.env.cells ys = (ys.map (·.1)).map (cA X.env.cells) := by unfold csOf; rw [List.map_map]; rfl
    rw [e]
    refine nodup_map nd fun a ha b hb eab => ?_
    obtain ⟨y, hy, rfl⟩ := List.mem_map.mp ha
    obtain ⟨z, hz, rfl⟩ := List.mem_map.mp hb
    obtain ⟨_, _, _, e1, _⟩ := fact y hy
    obtain ⟨_, _, _, e2, _⟩ := fact z hz
    exact I1.ok.inj _ _ _ e1 (eab ▸ e2)
  have hsp := q (trkX s1.heap (csOf X.env.cells ys) H1) (fun c => (s1.heap.get? c).getD { cls := .none, data := .plain }) hn ndc (fun b hb => trkX_out hb) fun y hy => by
    obtain ⟨u, v, o, e1, e2, e3, e4, e5⟩ := fact y hy
    refine ⟨u, v, ?_, ?_, e4, e5⟩
    · have hc : cA X.env.cells y.1 ∈ csOf X.env.cells ys := List.mem_map.mpr ⟨y, hy, rfl⟩
      rw [trkX_in hc e2, e2]
      rfl
    · rw [e2]
      exact e3
  have hl : (us ++ []).length = ps.length := by rw [List.append_nil, ← r.length]; exact F.len _ _ _ _ hsp
  have bt := hb s1 us I1.kIn hl
  rw [List.append_nil] at bt
  refine wpAny_call (codeAny_mono (F.run X.A X.stack s1 (trkX s1.heap (csOf X.env.cells ys) H1) ⟨us, []⟩ us vs _ _ hr (Env0.trk I1.env0 hn ht hbs hfr) bt r hsp) fun r s' hq => ?_)
  cases r with
  | error e => exact (show False from hq).elim
  | ok fl =>
    cases fl with
    | next => exact False.elim hq
    | brk => exact False.elim hq
    | cont => exact False.elim hq
    | ret u =>
      obtain ⟨v, H', os, bare, un, hok, rv, hs, qv⟩ := hq
      refine I1.after ⟨v, unX (csOf X.env.cells ys) H', os, bare, un_trk un hok hn ht hfr hs, hok_un hok (fun c hc => ?_), rv, qv⟩
      obtain ⟨o, eo⟩ := ht c hc
      exact ⟨o, by rw [hs c hc, trkX_in hc eo]⟩
/-! told of the data -/
def CellP (K : PySem.W.Frag) (c : Addr) (ob : Obj) (d : D) : Hp → HO → Prop := fun G o => o = ExO c ob ∧ ∃ u v, ob.data = .cell (some u) ∧ RelV v u ∧ Rp K G v d
theorem CellP.mono {K : PySem.W.Frag} {c : Addr} {ob : Obj} {d : D} : ∀ G1 G2 o, Same G1 G2 → CellP K c ob d G1 o → CellP K c ob d G2 o := fun _ _ _ s ⟨e, u, v, a, b, r⟩ => ⟨e, u, v, a, b, r.mono s⟩
def dAt (ds : DS) (i : Nat) : D := ((ds[i]?).getD none).getD .non
def cellsM (K : PySem.W.Frag) (cl : List (Str × Addr)) (ys : List (Str × Nat)) (ds : DS) (obs : Addr → Obj) : Ml := ys.map fun y => (cA cl y.1, CellP K (cA cl y.1) (obs (cA cl y.1)) (dAt ds y.2))
section
variable {K : PySem.W.Frag} {M : Mt} {ds : DS} {R : D → Prop} {pre : Ml → List D → Prop} {post : List D → D → Prop}
theorem ev_callT {cl : List (Str × Addr)} {ys : List (Str × Nat)} {ta : TA} {RA : List D → Prop} (hy : ∀ y ∈ ys, ∃ d, ds[y.2]? = some (some d)) (ha : EvA K M ds ta RA)
    (h : ∀ as, RA as → (∀ M' obs, MSub M M' → pre (cellsM K cl ys ds obs ++ M'.l) as) ∧ ∀ d, post as d → R d) : Ev K M ds (tCallT cl ys (spF K pre post) ta) R := fun M' σ G H Q m s w q =>
  ha M' σ G H _ m s w fun vs as G1 H1 s1 w1 r1 e1 => by
    have sg := s.mono s1
    refine ⟨fun y hy' => ?_, fun H2 obs hn nd hout hin => ?_⟩
    · obtain ⟨d, hd⟩ := hy y hy'
      obtain ⟨v, e, _⟩ := sg.at_ _ _ hd
      exact ⟨v, e⟩
    have inC : ∀ {c : Addr}, c ∈ csOf cl ys → ∃ y ∈ ys, cA cl y.1 = c := fun {c} hc => by
      obtain ⟨y, hy, e⟩ := List.mem_map.mp hc
      exact ⟨y, hy, e⟩
    have mC : ∀ {p : Addr × (Hp → HO → Prop)}, p ∈ cellsM K cl ys ds obs → ∃ y ∈ ys, p = (cA cl y.1, CellP K (cA cl y.1) (obs (cA cl y.1)) (dAt ds y.2)) := fun {p} hp => by
      obtain ⟨y, hy, e⟩ := List.mem_map.mp hp
      exact ⟨y, hy, e.symm⟩
    have outM : ∀ p ∈ M'.l, p.1 ∉ csOf cl ys := fun p hp z => by
      obtain ⟨_, o, e, _⟩ := w1.mt p hp
      rw [hn _ z] at e; cases e
    have W2 : Wd0 (cellsM K cl ys ds obs ++ M'.l) G1 H2 := by
      refine ⟨fun b u e => ?_, fun p hp => ?_, fun p hp => ?_, ?_⟩
      · have e' := w1.sub b u e
        rw [hout b fun z => by rw [hn b z] at e'; cases e']
        exact e'
      · rcases List.mem_append.mp hp with hp | hp
        · obtain ⟨y, hy', rfl⟩ := mC hp
          obtain ⟨u, v, a1, a2, a3, a4⟩ := hin y hy'
          obtain ⟨d, hd⟩ := hy y hy'
          obtain ⟨v', e', r'⟩ := sg.at_ _ _ hd
          rw [a4] at e'
          cases e'
          refine ⟨w1.free (hn _ (List.mem_map.mpr ⟨y, hy', rfl⟩)), _, a1, rfl, u, v, a2, a3, ?_⟩
          have ed : dAt ds y.2 = d := by unfold dAt; rw [hd]; rfl
          rw [ed]; exact r'
        · obtain ⟨g, o, e, f⟩ := w1.mt p hp
          exact ⟨g, o, by rw [hout _ (outM p hp)]; exact e, f⟩
      · rcases List.mem_append.mp hp with hp | hp
        · obtain ⟨y, hy', rfl⟩ := mC hp
          exact CellP.mono
        · exact w1.mono p hp
      · rw [List.map_append]
        refine List.nodup_append.mpr ⟨?_, w1.nd, fun a ha b hb e => ?_⟩
        · have e : (cellsM K cl ys ds obs).map (·.1) = csOf cl ys := by unfold cellsM csOf; rw [List.map_map]; rfl
          rw [e]; exact nd
        · obtain ⟨p, hp, rfl⟩ := List.mem_map.mp ha
          obtain ⟨p2, hp2, rfl⟩ := List.mem_map.mp hb
          obtain ⟨y, hy', rfl⟩ := mC hp
          exact outM p2 hp2 (e ▸ List.mem_map.mpr ⟨y, hy', rfl⟩)
    refine ⟨_, G1, as, W2, r1, (h as e1).1 M' obs m, fun v d G2 H3 s2 w2 r2 p2 => ⟨fun c hc => ?_, ?_⟩, fun _ _ _ _ _ _ _ _ z => z.elim⟩
    · obtain ⟨y, hy', rfl⟩ := inC hc
      obtain ⟨_, o, e, eo, _⟩ := w2.mt (cA cl y.1, CellP K (cA cl y.1) (obs (cA cl y.1)) (dAt ds y.2)) (List.mem_append_left _ (List.mem_map.mpr ⟨y, hy', rfl⟩))
      obtain ⟨u, v, a1, _⟩ := hin y hy'
      rw [a1]
      rw [eo] at e
      exact e
    · have gn : ∀ c ∈ csOf cl ys, G2 c = none := fun c hc => by
        obtain ⟨y, hy', rfl⟩ := inC hc
        exact (w2.mt (cA cl y.1, CellP K (cA cl y.1) (obs (cA cl y.1)) (dAt ds y.2)) (List.mem_append_left _ (List.mem_map.mpr ⟨y, hy', rfl⟩))).1
      have W3 : Wd0 M'.l G2 (unX (csOf cl ys) H3) := by
        refine ⟨fun b u e => ?_, fun p hp => ?_, w1.mono, w1.nd⟩
        · rw [unX_out fun z => by rw [gn b z] at e; cases e]
          exact w2.sub b u e
        · obtain ⟨g, o, e, f⟩ := w2.mt p (List.mem_append_right _ hp)
          exact ⟨g, o, by rw [unX_out (outM p hp)]; exact e, f⟩
      exact q v d G2 _ (s1.trans s2) (w1.to s2 W3) r2 ((h as e1).2 d p2)
end
end Rg
namespace Rg
open PySem PySem.Spec L2 RZ PyProof.Rows
/-! ### a closure's run: its cells are told by the heap -/
abbrev lEnv (L : Lm) (loc f : Addr) : Env := PySem.W.envX L.qual L.scope loc f (.ref L.c) L.clos
def lcx (P : Program) (w : World) (K : PySem.W.Frag) (mg : Str → Option Value) (base : Heap) (N : List Str) (L : Lm) (A : Around) (outer : List Env) (s : Shared) (H : Hp) (E : XK) (f : Addr) : Cx where
  prog := P
  w := w
  K := K
  mg := mg
  base := base
  A := A.deeper (lEnv L s.heap.objs.size f)
  N := N
  s_0 := s
  H_0 := H
  env := lEnv L s.heap.objs.size f
  outer := outer
  stack := lEnv L s.heap.objs.size f :: outer
  ex := []
  fn := fun _ => false
  calm := true
  pn := []
  xe := fun e s' => wpAny (model P w) (A.deeper (lEnv L s.heap.objs.size f)) (leaving (lEnv L s.heap.objs.size f) e) (fun _ s'' => L2.CX P w outer H s E e s'') (fun e' s'' => L2.CX P w outer H s E e' s'') s'
/-- a lambda's names: free ones, globals, and a parameter that the maker does not have -/
structure LamS3 (N : List Str) (scope : Scope) : Prop where
  kind : scope.kind = .function
  co : scope.isCoroutine = false
  gen : scope.isGenerator = false
  own : ∀ y ∈ scope.names, y.2 ≠ .cell
  loc : ∀ y ∈ scope.names, y.2 = .local → y.1 ∉ N
def lamS3B (N : List Str) (scope : Scope) : Bool :=
  decide (scope.kind = .function) && !scope.isCoroutine && !scope.isGenerator && scope.names.all fun y => !decide (y.2 = .cell) && (!decide (y.2 = .local) || !decide (y.1 ∈ N))
theorem lamS3_by {N : List Str} {scope : Scope} (h : lamS3B N scope = true) : LamS3 N scope := by
  unfold lamS3B at h
  simp only [Bool.and_eq_true, Bool.or_eq_true, Bool.not_eq_true', decide_eq_true_eq, decide_eq_false_iff_not, List.all_eq_true] at h
  obtain ⟨⟨⟨h1, h2⟩, h3⟩, h4⟩ := h
  refine ⟨h1, h2, h3, fun y hy => (h4 y hy).1, fun y hy e => ?_⟩
  rcases (h4 y hy).2 with z | z
  · exact absurd e z
  · exact z
/-- the cells of a closure, each with its name -/
structure CloOk (scope : Scope) (clos : List (Str × Addr)) : Prop where
  inj : ∀ x y c, clos.lookup x = some c → clos.lookup y = some c → x = y
  has : ∀ y ∈ scope.names, y.2 = .free → ∃ c, clos.lookup y.1 = some c
  look : ∀ p ∈ clos, clos.lookup p.1 = some p.2
section
variable {P : Program} {w : World} {K : PySem.W.Frag} {mg : Str → Option Value} {base : Heap} {A : Around} {outer : List Env} {s : Shared} {H : Hp} {N : List Str} {L : Lm} {f : Addr} {E : XK} {σ : L2.St}
theorem lam_start3 {h₁ : Heap} {tk : Nat} {m : Str → Option Value} (S : LamS3 N L.scope) (C : CloOk L.scope L.clos) (e0 : Env0 P w K mg base A outer s H) (hd : A.handled = none) (hlen : σ.length = N.length)
    (hc : ∀ y c, L.clos.lookup y = some c → H c = none ∧ ∃ v, s.heap.IsCell c v) (hσ : ∀ (i : Nat) y v, N[i]? = some y → σ[i]? = some (some v) → ∀ c, L.clos.lookup y = some c → ∃ u, RelV v u ∧ s.heap.IsCell c (some u))
    (hns : h₁.Ns s.heap.objs.size m) (kp : ∀ b o, s.heap.get? b = some o → h₁.get? b = some o) :
    Inv (lcx P w K mg base N L A outer s H E f) [] σ H { s with heap := h₁, toks := tk } := by
  have noA : ∀ b : Addr, b ∉ (lcx P w K mg base N L A outer s H E f).ex := fun b z => absurd (show b ∈ ([] : List Addr) from z) (by simp)
  have look : ∀ {y}, L.scope.names.lookup y = some .free → ∃ c, L.clos.lookup y = some c := fun {y} hl => C.has (y, .free) (PySem.mem_of_lookup hl) rfl
  refine ⟨⟨e0.mod, S.kind, rfl, rfl, Nat.le_refl _, C.inj, fun y hy => ?_, fun y c z _ => ?_, fun _ => hd, Around.frames_deeper e0.frames, .inr ⟨rfl, rfl⟩, fun b z => absurd z (noA b), e0.bs, e0.bsz, fun b _ _ => noA b,
      fun b z => absurd z (noA b), e0.funs, e0.frf⟩,
    rfl, e0.bare, Un.kept kp, ⟨_, hns, fun i y v e1 e2 e3 => ?_⟩, fun y c e => ?_, e0.hok.fresh (Nat.le_refl _), fun y c e => (hc y c e).1, fun q hq => absurd (show q ∈ ([] : List (Addr × Obj)) ++ [] from hq) (by simp), e0.hok.kept kp, hlen⟩
  · have hy : L.scope.names.lookup y = some .cell ∨ L.scope.names.lookup y = some .free := hy
    rcases hy with hy | hy
    · exact absurd rfl (S.own _ (PySem.mem_of_lookup hy))
    · exact look hy
  · have z : false = true := z
    cases z
  · have e3 : Vis L.scope y := e3
    rcases e3 with k | k | k
    · exact absurd (List.mem_of_getElem? e1) (S.loc _ (PySem.mem_of_lookup k) rfl)
    · exact absurd rfl (S.own _ (PySem.mem_of_lookup k))
    · obtain ⟨c2, h2⟩ := look k
      obtain ⟨u, ru, o, ho, hd'⟩ := hσ i y v e1 e2 c2 h2
      exact ⟨u, ru, .inr ⟨.inr k, c2, h2, o, kp _ _ ho, hd'⟩⟩
  · obtain ⟨_, v, o, ho, hd'⟩ := hc y c e
    exact ⟨v, o, kp _ _ ho, hd'⟩
/-- how a lambda's parameters are bound in a call without arguments -/
def BindL (params : Arguments) : Option Str → Prop
  | none => ∀ (q : Str) (body : Expr) (scope : Scope) (cl : List (Str × Addr)) (doc pm cv ct : Value), bindArgs (PySem.W.kdv_fn "<lambda>" q params (.expr body) scope cl .none doc pm cv ct) ⟨[], []⟩ = pure []
  | some n => ∀ (q : Str) (body : Expr) (scope : Scope) (cl : List (Str × Addr)) (d : Addr) (doc pm cv ct : Value), ∃ k : Option (Array Value) → Sem (List (Str × Value)), bindArgs (PySem.W.kdv_fn "<lambda>" q params (.expr body) scope cl (.ref d) doc pm cv ct) ⟨[], []⟩ = seqItems? (.ref d) >>= k ∧ ∀ u : Value, k (some #[u]) = pure [(n, u)]
structure BindOk (L : Lm) (nm : Option Str) : Prop where
  b : BindL L.params nm
  d : L.dt.isSome = nm.isSome
  n : ∀ n, nm = some n → L.scope.names.lookup n = some .local
theorem binds_lam {nm : Option Str} (B : BindOk L nm) (hk : HOk P w H s.heap) (hd : ∀ d, L.dt = some d → H d = some (.tup [.int 0])) : ∃ binds, BindsTo s L.fd ⟨[], []⟩ binds ∧ ∀ y ∈ binds, L.scope.names.lookup y.1 = some .local := by
  obtain ⟨b, d, n⟩ := B
  cases nm with
  | none =>
    cases e : L.dt with
    | some z => rw [e] at d; cases d
    | none =>
      refine ⟨[], .of_eq ?_, fun y hy => absurd hy (by simp)⟩
      have := b L.qual L.body L.scope L.clos L.doc L.pm (.ref L.c) L.ct
      unfold Lm.fd Lm.dV
      rw [e]
      exact this
  | some nm =>
    cases e : L.dt with
    | none => rw [e] at d; cases d
    | some z =>
      obtain ⟨_, its, r, o, ho, hc, k0, hd'⟩ := hk z _ (hd z e)
      obtain ⟨k, h1, h2⟩ := b L.qual L.body L.scope L.clos z L.doc L.pm (.ref L.c) L.ct
      cases r with
      | cons r1 r2 =>
        cases r2
        rename_i u
        refine ⟨[(nm, u)], BindsTo.of_defaults (T := z) (items := #[u]) (k := k) ?_ ho hd' ?_ (h2 u), fun y hy => ?_⟩
        · unfold Lm.fd Lm.dV
          rw [e]
        · unfold Lm.fd Lm.dV
          rw [e]
          exact h1
        · rw [List.mem_singleton.mp hy]
          exact n nm rfl
theorem lam_run {k : Nat} {Q : VK} {tb : TE} {nm : Option Str} (hr : Room (k + 1) A) (e0 : Env0 P w K mg base A outer s H) (hf : H f = some (ExO f L.obj)) (hcd : H L.c = some (LamX.CodeO L.c L.qual)) (hdt : ∀ d, L.dt = some d → H d = some (.tup [.int 0])) (S : LamS3 N L.scope) (C : CloOk L.scope L.clos) (B : BindOk L nm)
    (hlen : σ.length = N.length) (hc : ∀ y c, L.clos.lookup y = some c → ∃ o u, H c = some (ExO c o) ∧ o.data = .cell (some u)) (hσ : ∀ (i : Nat) y v, N[i]? = some y → σ[i]? = some (some v) → ∀ c, L.clos.lookup y = some c → ∃ o u, RelV v u ∧ H c = some (ExO c o) ∧ o.data = .cell (some u))
    (hbody : Room k (A.deeper (lEnv L s.heap.objs.size f)) → PE (lcx P w K mg base N L A outer s (unX (L.clos.map (·.2)) H) (fun cls d H' => (∀ c ∈ L.clos.map (·.2), H' c = none) → E cls d (reX (L.clos.map (·.2)) H H')) f) L.body tb)
    (ht : tb σ (unX (L.clos.map (·.2)) H) fun v H' => (∀ c ∈ L.clos.map (·.2), H' c = none) → Q v (reX (L.clos.map (·.2)) H H')) :
    codeAny (model P w) A (.call (.ref f) ⟨[], []⟩) (CR (L2.CX P w) outer P w H s Q E) s := by
  have of1 : s.heap.get? f = some L.obj := exO_at (e0.hok f _ hf)
  obtain ⟨⟨oc, vs, t, hoc, hdc, hvc⟩, _, _⟩ := e0.hok L.c _ hcd
  have lim : s.heap.NoLimit := e0.mod.nolimit.keeps fun b o e => (e0.bs b o e).1
  have inC : ∀ c ∈ L.clos.map (·.2), ∃ y, L.clos.lookup y = some c := fun c h => by
    obtain ⟨p, hp, e⟩ := List.mem_map.mp h
    exact ⟨p.1, e ▸ C.look p hp⟩
  have hx : ∀ c ∈ L.clos.map (·.2), ∃ o, H c = some (ExO c o) := fun c h => by
    obtain ⟨y, e⟩ := inC c h
    obtain ⟨o, _, e1, _⟩ := hc y c e
    exact ⟨o, e1⟩
  have hfr : ∀ c ∈ L.clos.map (·.2), c ∉ frs outer := fun c h z => by
    obtain ⟨o, e⟩ := hx c h
    rw [e0.frf c z] at e; cases e
  have mem : ∀ {y c}, L.clos.lookup y = some c → c ∈ L.clos.map (·.2) := fun {y c} e => List.mem_map.mpr ⟨(y, c), PySem.mem_of_lookup e, rfl⟩
  obtain ⟨binds, hb, hbl⟩ := binds_lam (s := s) B e0.hok hdt
  refine PySem.W.kla_callFunE hr.depth of1 rfl S.co S.gen rfl ⟨L.c, oc, vs, t, rfl, hoc, hdc, hvc⟩ (hb _ _ _ _ ?_)
  refine wpAny_newFunctionEnv S.own hbl (fun h₁ hns hsb => ⟨lim.fresh _ hsb, ?_⟩) S.kind
  show codeAny _ _ (.expr L.body (lEnv L s.heap.objs.size f)) _ _
  have kp : ∀ b o, s.heap.get? b = some o → h₁.get? b = some o := fun b o e => hsb.extBut b o (Nat.ne_of_lt (Heap.lt_size e)) (Heap.get?_push_of_some _ e)
  have J := lam_start3 (E := fun cls d H' => (∀ c ∈ L.clos.map (·.2), H' c = none) → E cls d (reX (L.clos.map (·.2)) H H')) (f := f) (tk := s.toks + binds.length) S C (Env0.un e0 hx) hr.hd hlen (fun y c e => by
    obtain ⟨o, u, e1, e2⟩ := hc y c e
    exact ⟨unX_in (mem e), some u, o, exO_at (e0.hok c _ e1), e2⟩) (fun i y v e1 e2 c e => by
    obtain ⟨o, u, ru, e3, e4⟩ := hσ i y v e1 e2 c e
    exact ⟨u, ru, o, exO_at (e0.hok c _ e3), e4⟩) hns kp
  refine PySem.W.kla_codeExpr (wpAny_mono ((hbody (hr.deeper _)).run [] _ _ _ _ J ht) (fun v s' hq => ?_) fun e s' hq => ?_)
  · obtain ⟨w', H', J', rv, q⟩ := hq
    exact ce_re e0.hok hx hfr ⟨w', H', J'.os, J'.bare, J'.base, J'.hok, rv, q⟩
  · exact wpAny_mono (show wpAny _ _ _ _ _ _ from hq) (fun _ s'' z => cx_re e0.hok hx hfr z) fun e' s'' z => cx_re e0.hok hx hfr z
end
end Rg
namespace Rg
open PySem PySem.Spec L2 RZ PyProof.Rows
/-! ### what a closure promises, told of the data -/
def LamD (P : Program) (w : World) (K : PySem.W.Frag) (mg : Str → Option Value) (base : Heap) (k : Nat) (l : Ml) (L : Lm) (post px : D → Prop) : Prop :=
  ∀ (l' : Ml), (∀ p ∈ l, p ∈ l') → ∀ (A : Around) (outer : List Env) (s : Shared) (H : Hp) (f : Addr) (G : Hp) (Q : VK) (E : XK), Room k A → Env0 P w K mg base A outer s H → Wd0 l' G H → Rp K G (.ref f) (.fob L) →
    (∀ v d G' H', Same G G' → Wd0 l' G' H' → Rp K G' v d → post d → Q v H') → (∀ c dx x G' H', Same G G' → Wd0 l' G' H' → XRp K G' c dx x → px x → E c dx H') →
    codeAny (model P w) A (.call (.ref f) ⟨[], []⟩) (CR (L2.CX P w) outer P w H s Q E) s
/-- x(), x a local that holds a closure -/
def tAct (P : Program) (w : World) (K : PySem.W.Frag) (mg : Str → Option Value) (base : Heap) (k : Nat) (W : WX) (i : Nat) : TE := fun σ H Q => ∃ (f : Addr) (L : Lm), σ[i]? = some (some (.ref f)) ∧ H f = some (ExO f L.obj) ∧
  ∀ (A : Around) (outer : List Env) (s : Shared), Room k A → Env0 P w K mg base A outer s H → codeAny (model P w) A (.call (.ref f) ⟨[], []⟩) (CR (L2.CX P w) outer P w H s Q fun c d H' => W c d σ H') s
theorem pe_act3 {X : Cx} {k i : Nat} {W : WX} {a : Str} {p1 p2 : Pos} (tk : Takes X W) (hr : Room k X.A) (hN : X.N[i]? = some a) (hv : Vis X.env.scope a) (hd : (a == ("__debug__" : Str)) = false := by decide) (hcd : (a == ("__classdict__" : Str)) = false := by decide) :
    PE X (.Call (.Name a p1) [] [] p2) (tAct X.prog X.w X.K X.mg X.base k W i) := by
  refine ⟨fun pins s σ H Q I h => ?_⟩
  obtain ⟨f, L, hs, hf, hc⟩ := h
  refine wpAny_Call_Name_kw (thn ((pe_var (pos := p1) (i := i) hN hv hd hcd).run pins s σ H (fun v H1 => v = .ref f ∧ H1 = H) I ⟨.ref f, hs, rfl, rfl⟩) fun u s1 ⟨v, H1, I1, r1, q1⟩ => ?_)
  obtain ⟨ev, eH⟩ := q1
  subst ev
  rw [eH] at I1
  obtain rfl : u = Value.ref f := r1
  have of1 : s1.heap.get? f = some L.obj := exO_at (I1.hok f _ hf)
  refine PySem.W.callWith_F0 ⟨_, _, _, _, of1⟩ ?_
  refine wpAny_call (codeAny_mono (hc X.A X.stack s1 hr I1.env0) fun r s' hq => ?_)
  cases r with
  | error e => exact tk e s' (XE.of_call I1 (fun cls d H' h => h) hq)
  | ok fl =>
    cases fl with
    | ret u => exact I1.after hq
    | next => exact False.elim hq
    | brk => exact False.elim hq
    | cont => exact False.elim hq
section
variable {P : Program} {w : World} {K : PySem.W.Frag} {mg : Str → Option Value} {base : Heap} {M : Mt} {ds : DS} {R : D → Prop}
theorem ev_act {k i : Nat} {W : WX} {L : Lm} {post px : D → Prop} (hW : M.W = W) (h : ds[i]? = some (some (.fob L))) (hL : LamD P w K mg base k M.l L post px) (hR : ∀ d, post d → R d) (hx : ∀ x, px x → Exk K M x ds) :
    Ev K M ds (tAct P w K mg base k W i) R := fun M' σ G H Q m s w' q => by
  obtain ⟨v, e, r⟩ := s.at_ i _ h
  cases r with
  | fob h1 h2 h3 =>
    rename_i f
    refine ⟨f, L, e, w'.sub _ _ h1, fun A outer s' hr e0 => hL M'.l m.l A outer s' H f G Q _ hr e0 w'.toWd0 (.fob h1 h2 h3) (fun v d G' H' s1 w1 r1 p => q v d G' H' s1 (w'.to s1 w1) r1 (hR d p)) fun c dx x G' H' s1 w1 hx' p => ?_⟩
    exact w'.toW m hW s1 w1 (s.mono s1) hx' (hx x p)
/-! ### how a closure keeps its promise -/
theorem list_choose : ∀ (ds : DS) (Pv : Nat → D → V → Prop), (∀ (i : Nat) d, ds[i]? = some (some d) → ∃ v, Pv i d v) → ∃ σ : L2.St, σ.length = ds.length ∧ (∀ (i : Nat) d, ds[i]? = some (some d) → ∃ v, σ[i]? = some (some v) ∧ Pv i d v) ∧ ∀ (i : Nat) v, σ[i]? = some (some v) → ∃ d, ds[i]? = some (some d) ∧ Pv i d v
  | [], _, _ => ⟨[], rfl, fun i d e => by simp at e, fun i v e => by simp at e⟩
  | o :: ds, Pv, h => by
    obtain ⟨σ, hl, h1, h2⟩ := list_choose ds (fun i => Pv (i + 1)) fun i d e => h (i + 1) d e
    cases o with
    | none =>
      refine ⟨none :: σ, by simp [hl], fun i d e => ?_, fun i v e => ?_⟩
      · cases i with
        | zero => cases e
        | succ i => exact h1 i d e
      · cases i with
        | zero => cases e
        | succ i => exact h2 i v e
    | some d0 =>
      obtain ⟨v0, p0⟩ := h 0 d0 rfl
      refine ⟨some v0 :: σ, by simp [hl], fun i d e => ?_, fun i v e => ?_⟩
      · cases i with
        | zero => cases e; exact ⟨v0, rfl, p0⟩
        | succ i => exact h1 i d e
      · cases i with
        | zero => cases e; exact ⟨d0, rfl, p0⟩
        | succ i => exact h2 i v e
theorem re_wd0 {l l0 : Ml} {cs : List Addr} {G G' H H' : Hp} (W : Wd0 l G H) (W' : Wd0 l0 G' H') (sm : Same G G') (hn : ∀ c ∈ cs, H' c = none) (h0 : ∀ p ∈ l, p.1 ∉ cs → p ∈ l0) : Wd0 l G' (reX cs H H') := by
  refine ⟨fun b u e => ?_, fun p hp => ?_, W.mono, W.nd⟩
  · have e' := W'.sub b u e
    rw [reX_out fun z => by rw [hn b z] at e'; cases e']
    exact e'
  · by_cases z : p.1 ∈ cs
    · obtain ⟨g, o, e, f⟩ := W.mt p hp
      exact ⟨W'.free (hn _ z), o, by rw [reX_in z]; exact e, W.mono p hp _ _ _ sm f⟩
    · obtain ⟨g, o, e, f⟩ := W'.mt p (h0 p hp z)
      exact ⟨g, o, by rw [reX_out z]; exact e, f⟩
theorem lamD_of {k : Nat} {l : Ml} {N : List Str} {L : Lm} {nm : Option Str} {dsc : DS} {post px : D → Prop} (S : LamS3 N L.scope) (C : CloOk L.scope L.clos) (B : BindOk L nm) (hN : dsc.length = N.length)
    (hcl : ∀ y c, L.clos.lookup y = some c → ∃ ob d, (c, CellP K c ob d) ∈ l) (hcap : ∀ (i : Nat) d, dsc[i]? = some (some d) → ∃ y c ob, N[i]? = some y ∧ L.clos.lookup y = some c ∧ (c, CellP K c ob d) ∈ l)
    (body : ∀ (X : Cx) (A : Around) (outer : List Env) (s : Shared) (H : Hp) (E : XK) (f : Addr), X = lcx P w K mg base N L A outer s H E f → Room k X.A → Takes X (fun c d _ H => E c d H) →
      ∃ t, PE X L.body t ∧ ∀ l0 : Ml, (∀ p ∈ l, p.1 ∉ L.clos.map (·.2) → p ∈ l0) → Ev K (mfn K l0 E px) dsc t post) : LamD P w K mg base (k + 1) l L post px := by
  intro l' hl A outer s H f G Q E hr e0 W R hq hx
  cases R with
  | fob h1 h2 h3 =>
    obtain ⟨σ, hlen, hs1, hs2⟩ := list_choose dsc (fun i d v => Rp K G v d ∧ ∃ y c ob u, N[i]? = some y ∧ L.clos.lookup y = some c ∧ H c = some (ExO c ob) ∧ ob.data = .cell (some u) ∧ RelV v u) fun i d e => by
      obtain ⟨y, c, ob, e1, e2, hm⟩ := hcap i d e
      obtain ⟨_, o, e3, e4, u, v, e5, e6, r⟩ := W.mt _ (hl _ hm)
      exact ⟨v, r, y, c, ob, u, e1, e2, by rw [← e4]; exact e3, e5, e6⟩
    have inC : ∀ c ∈ L.clos.map (·.2), ∃ y, L.clos.lookup y = some c := fun c h => by
      obtain ⟨p, hp, e⟩ := List.mem_map.mp h
      exact ⟨p.1, e ▸ C.look p hp⟩
    have hc : ∀ y c, L.clos.lookup y = some c → ∃ o u, H c = some (ExO c o) ∧ o.data = .cell (some u) := fun y c e => by
      obtain ⟨ob, d, hm⟩ := hcl y c e
      obtain ⟨_, o, e3, e4, u, v, e5, _⟩ := W.mt _ (hl _ hm)
      exact ⟨ob, u, by rw [← e4]; exact e3, e5⟩
    have gnone : ∀ c ∈ L.clos.map (·.2), G c = none := fun c h => by
      obtain ⟨y, e⟩ := inC c h
      obtain ⟨ob, d, hm⟩ := hcl y c e
      exact (W.mt _ (hl _ hm)).1
    let cs := L.clos.map (·.2)
    let l0 : Ml := l'.filter fun p => decide (p.1 ∉ cs)
    have h0 : ∀ p ∈ l', p.1 ∉ cs → p ∈ l0 := fun p hp z => List.mem_filter.mpr ⟨hp, decide_eq_true z⟩
    have W0 : Wd0 l0 G (unX cs H) := by
      refine ⟨fun b u e => ?_, fun p hp => ?_, fun p hp => W.mono p (List.mem_filter.mp hp).1, W.nd.sublist ((List.filter_sublist).map _)⟩
      · rw [unX_out fun z => by rw [gnone b z] at e; cases e]
        exact W.sub b u e
      · have hp' := List.mem_filter.mp hp
        obtain ⟨g, o, e, f⟩ := W.mt p hp'.1
        exact ⟨g, o, by rw [unX_out (of_decide_eq_true hp'.2)]; exact e, f⟩
    obtain ⟨t, ht, hev⟩ := body _ A outer s (unX cs H) (fun cls d H' => (∀ c ∈ cs, H' c = none) → E cls d (reX cs H H')) f rfl (hr.deeper _)
      (takes_of (X := lcx P w K mg base N L A outer s (unX cs H) (fun cls d H' => (∀ c ∈ cs, H' c = none) → E cls d (reX cs H H')) f) rfl rfl rfl rfl)
    refine lam_run (N := N) (σ := σ) (tb := t) hr e0 (W.sub _ _ h1) (W.sub _ _ h2) (fun d e => W.sub _ _ (h3 d e)) S C B (by rw [hlen, hN]) hc (fun i y v e1 e2 c e3 => ?_) (fun _ => ht) ?_
    · obtain ⟨d, _, _, y', c', ob, u, a1, a2, a3, a4, a5⟩ := hs2 i v e2
      rw [e1] at a1
      cases a1
      rw [e3] at a2
      cases a2
      exact ⟨ob, u, a5, a3, a4⟩
    · refine hev l0 (fun p hp z => h0 p (hl p hp) z) _ σ G (unX cs H) _ (MSub.refl _) ⟨hlen, fun i d e => ?_⟩ ⟨W0, fun l' cls d σ' G' H' ⟨el, x, hpx, hxr⟩ sm W' hn => ?_⟩ fun v d G' H' sm w' r p hn => ?_
      · obtain ⟨v, a, b, _⟩ := hs1 i d e
        exact ⟨v, a, b⟩
      · subst el
        exact hx cls d x G' _ sm (re_wd0 W W' sm hn h0) hxr hpx
      · exact hq v d G' _ sm (re_wd0 W w'.toWd0 sm hn h0) r p
end
end Rg
namespace Rg
open PySem PySem.Spec L2 RZ PyProof.Rows
/-! ### a lambda is made -/
theorem cloOk_of {cells : List (Str × Addr)} {scope : Scope} (inj : ∀ x y c, cells.lookup x = some c → cells.lookup y = some c → x = y) (has : ∀ y ∈ scope.names, y.2 = .free → ∃ c, cells.lookup y.1 = some c) : CloOk scope (cloFrom cells scope.names []) := by
  have key : ∀ {y c}, (y, c) ∈ cloFrom cells scope.names [] → cells.lookup y = some c := fun {y c} hm => by
    rcases cloFrom_mem hm with hm | ⟨h1, h2⟩
    · cases hm
    · obtain ⟨c1, hc⟩ := has _ h1 rfl
      have hc : cells.lookup y = some c1 := hc
      rw [h2, hc]
      rfl
  refine ⟨fun x y c h1 h2 => inj x y c (key (PySem.mem_of_lookup h1)) (key (PySem.mem_of_lookup h2)), fun y hy e => ?_, fun p hp => ?_⟩
  · obtain ⟨n, k⟩ := y
    have e : k = .free := e
    subst e
    exact mem_lookup (cloFrom_has (cells := cells) (acc := []) hy)
  · obtain ⟨y, c⟩ := p
    obtain ⟨c', h'⟩ := mem_lookup hp
    have e1 := key hp
    have e2 := key (PySem.mem_of_lookup h')
    rw [e1] at e2
    cases e2
    exact h'
def tMkL (cl : List (Str × Addr)) (qual : Str) (params : Arguments) (body : Expr) (scope : Scope) (P : Addr) (hasD : Bool) : TE := fun σ H Q => ∃ ps : Array Value, H P = some (.tbl ps) ∧ TriplesOk ps.toList ∧ (∀ pos' cv, codeAmong pos' ps.toList = some cv → ∃ c, cv = .ref c ∧ H c = some (LamX.CodeO c qual)) ∧
  ∀ (f : Addr) (L : Lm) (H1 H2 : Hp), L.qual = qual → L.params = params → L.body = body → L.scope = scope → L.clos = cloFrom cl scope.names [] → CloOk scope L.clos → L.dt.isSome = hasD →
    ((L.dt = none ∧ H1 = H) ∨ ∃ d, L.dt = some d ∧ H d = none ∧ H1 = upd H d (.tup [.int 0])) →
    ((H2 = H1 ∧ ∃ pos', codeAmong pos' ps.toList = some (.ref L.c)) ∨ ∃ ps' : Array Value, H1 L.c = none ∧ H2 = upd (upd H1 P (.tbl ps')) L.c (LamX.CodeO L.c qual) ∧ TriplesOk ps'.toList ∧ ∀ pos' cv, codeAmong pos' ps'.toList = some cv → codeAmong pos' ps.toList = some cv ∨ cv = .ref L.c) →
    H2 f = none → Q (.ref f) (upd H2 f (ExO f L.obj))
section
variable {X : Cx} {pins : List (Addr × Obj)} {σ : L2.St} {H : Hp} {s : Shared}
theorem tail_inv {c P : Addr} {params : Arguments} {body : Expr} {scope : Scope} {pos : Pos} {line : Nat} {ps : Array Value} {dt : Option Addr} {dV : Value} {Q : VK} (hdV : ∀ L : Lm, L.dt = dt → L.dV = dV) (I : Inv X pins σ H s) (TB : LamX.TabB X.base X.mg c P) (hcode : X.env.code = .ref c)
    (hfree : ∀ y ∈ scope.names, y.2 = .free → ∃ c, X.env.cells.lookup y.1 = some c) (hP : H P = some (.tbl ps)) (ht : TriplesOk ps.toList) (ha : ∀ pos' cv, codeAmong pos' ps.toList = some cv → ∃ c, cv = .ref c ∧ H c = some (LamX.CodeO c (X.env.qual ++ "<lambda>")))
    (h : ∀ (f : Addr) (L : Lm) (H2 : Hp), L.qual = X.env.qual ++ "<lambda>" → L.params = params → L.body = body → L.scope = scope → L.clos = cloFrom X.env.cells scope.names [] → L.dt = dt →
      ((H2 = H ∧ ∃ pos', codeAmong pos' ps.toList = some (.ref L.c)) ∨ ∃ ps' : Array Value, H L.c = none ∧ H2 = upd (upd H P (.tbl ps')) L.c (LamX.CodeO L.c (X.env.qual ++ "<lambda>")) ∧ TriplesOk ps'.toList ∧ ∀ pos' cv, codeAmong pos' ps'.toList = some cv → codeAmong pos' ps.toList = some cv ∨ cv = .ref L.c) →
      H2 f = none → Q (.ref f) (upd H2 f (ExO f L.obj))) :
    wpAny (model X.prog X.w) X.A (makeTail "<lambda>" (X.env.qual ++ "<lambda>") params (.expr body) scope X.env dV .none none pos line) (EP X pins σ Q) X.xe s := by
  have bP : s.heap.BuiltinsAt X.mg P := TB.bm.keeps I.bk
  have hP' : s.heap.get? P = some { cls := .none, data := .fields ps } := I.hok P _ hP
  cases hc : codeAmong pos ps.toList with
  | none =>
    refine PySem.W.kdv_makeTail (mg := X.mg) (c := c) (P := P) (ps := ps) (closure_ok hfree) I.ok.glob (I.mod.glob.keeps I.bk) hcode (TB.code.keeps I.bk) hP' ht hc TB.gP bP fun c' ctv doc h' tk hx hge hlt hrec htb => ?_
    obtain ⟨c2, oc, vs, t, e2, hoc, hd, hv⟩ := hrec
    cases e2
    have I1 := LamX.inv_table (t' := tk) (more := #[rawInt pos.line, rawInt pos.col, .ref c']) (h' := h') (q := X.env.qual ++ "<lambda>") I hP (fun b o hb e => hx b o hb e) htb hge ⟨oc, vs, t, hoc, hd, hv⟩
    have eL : (ps ++ #[rawInt pos.line, rawInt pos.col, .ref c']).toList = ps.toList ++ [rawInt pos.line, rawInt pos.col, .ref c'] := by simp
    let L : Lm := ⟨X.env.qual ++ "<lambda>", params, body, scope, cloFrom X.env.cells scope.names [], dt, doc, (X.mg "__name__").getD .none, c', ctv⟩
    have eo : PySem.W.kdv_obj "<lambda>" (X.env.qual ++ "<lambda>") params (.expr body) scope (cloFrom X.env.cells scope.names []) dV doc ((X.mg "__name__").getD .none) c' ctv = L.obj := by
      show _ = ({ cls := .type "function", data := .func (PySem.W.kdv_fn _ _ _ _ _ _ L.dV _ _ _ _) } : Obj)
      rw [hdV L rfl]
    rw [eo]
    have I2 := I1.laid (h' := h'.push L.obj) (a := h'.objs.size) (o := ExO h'.objs.size L.obj) (t' := tk) (fun b u e => Heap.get?_push_of_some _ e) (Nat.le_refl _) (exO_ok (Heap.get?_push_size _ rfl))
    refine ⟨.ref h'.objs.size, _, I2, rfl, h h'.objs.size L _ rfl rfl rfl rfl rfl rfl (.inr ⟨_, I.hok.fresh hge, rfl, by rw [eL]; exact PySem.TriplesOk_snoc _ _ _ _ ht, fun p' cv hcv => ?_⟩) (I1.hok.fresh (Nat.le_refl _))⟩
    rw [eL] at hcv
    exact LamX.among_app _ ht hcv
  | some cv =>
    obtain ⟨c', e, hco⟩ := ha pos cv hc
    subst e
    refine PySem.W.kdv_makeTailHit (mg := X.mg) (c := c) (P := P) (ps := ps) (closure_ok hfree) I.ok.glob (I.mod.glob.keeps I.bk) hcode (TB.code.keeps I.bk) hP' ht hc bP fun ctv doc h' tk hx hsz => ?_
    have I1 : Inv X pins σ H { s with heap := h', toks := tk } := I.kept hx
    let L : Lm := ⟨X.env.qual ++ "<lambda>", params, body, scope, cloFrom X.env.cells scope.names [], dt, doc, (X.mg "__name__").getD .none, c', ctv⟩
    have eo : ({ cls := .type "function", data := .func (PySem.W.kdv_fn "<lambda>" (X.env.qual ++ "<lambda>") params (.expr body) scope (cloFrom X.env.cells scope.names []) dV doc ((X.mg "__name__").getD .none) (.ref c') ctv) } : Obj) = L.obj := by
      show _ = ({ cls := .type "function", data := .func (PySem.W.kdv_fn _ _ _ _ _ _ L.dV _ _ _ _) } : Obj)
      rw [hdV L rfl]
    rw [eo]
    have I2 := I1.laid (h' := h'.push L.obj) (a := h'.objs.size) (o := ExO h'.objs.size L.obj) (t' := tk) (fun b u e => Heap.get?_push_of_some _ e) (Nat.le_refl _) (exO_ok (Heap.get?_push_size _ rfl))
    exact ⟨.ref h'.objs.size, _, I2, rfl, h h'.objs.size L _ rfl rfl rfl rfl rfl rfl (.inl ⟨rfl, pos, hc⟩) (I1.hok.fresh (Nat.le_refl _))⟩
/-- a lambda without parameters, or with one that has the default 0 -/
theorem pe_lam0 {c P : Addr} {params : Arguments} {body : Expr} {scope : Scope} {pos : Pos} (TB : LamX.TabB X.base X.mg c P) (hcode : X.env.code = .ref c) (hfree : X.Ok → ∀ y ∈ scope.names, y.2 = .free → ∃ c, X.env.cells.lookup y.1 = some c) (hdef : defaultsOf params X.env = ([], [])) :
    PE X (.Lambda params body scope pos) (tMkL X.env.cells (X.env.qual ++ "<lambda>") params body scope P false) := by
  refine ⟨fun pins s σ H Q I h => ?_⟩
  obtain ⟨ps, hP, ht, ha, h⟩ := h
  refine PySem.W.kla_eval hdef ?_
  rw [makeFunction_eq]
  simp only [List.zip_nil_right, List.filterMap_nil, List.isEmpty_nil, if_true, pure_bind]
  exact tail_inv (dt := none) (fun L e => by unfold Lm.dV; rw [e]) I TB hcode (hfree I.ok) hP ht ha fun f L H2 e1 e2 e3 e4 e5 e6 hc hf => h f L H H2 e1 e2 e3 e4 e5 (by rw [e5]; exact cloOk_of I.ok.inj (hfree I.ok)) (by rw [e6]; rfl) (.inl ⟨e6, rfl⟩) hc hf
theorem pe_lam1 {c P : Addr} {params : Arguments} {body : Expr} {scope : Scope} {pos dp : Pos} {j : Nat} (TB : LamX.TabB X.base X.mg c P) (hcode : X.env.code = .ref c) (hfree : X.Ok → ∀ y ∈ scope.names, y.2 = .free → ∃ c, X.env.cells.lookup y.1 = some c) (hdef : params.defaults = [.Constant (.int 0) j dp]) (hk0 : params.kw_defaults = []) :
    PE X (.Lambda params body scope pos) (tMkL X.env.cells (X.env.qual ++ "<lambda>") params body scope P true) := by
  refine ⟨fun pins s σ H Q I h => ?_⟩
  obtain ⟨ps, hP, ht, ha, h⟩ := h
  refine PySem.W.kdv_lam (by rw [hdef]; rfl) hk0 ?_
  rw [hdef]
  refine PySem.W.kdv_all1 (thn (pe_int.run pins s σ H (fun v H1 => v = .int 0 ∧ H1 = H) I ⟨rfl, rfl⟩) fun u s1 ⟨v, H1, I1, r1, q1⟩ => PySem.W.kdv_all0 ?_)
  obtain ⟨ev, eH⟩ := q1
  subst ev
  rw [eH] at I1
  rw [makeFunction_eq]
  simp only [List.zip_nil_right, List.filterMap_nil, List.isEmpty_nil, if_true, pure_bind, List.isEmpty_cons, Bool.false_eq_true, if_false]
  refine wpAny_bind (wpAny_newTextTuple ?_)
  have hf0 : H s1.heap.objs.size = none := I1.hok.fresh (Nat.le_refl _)
  have I2 := I1.laid (h' := s1.heap.push { cls := .type "tuple", data := .seq [u].toArray }) (a := s1.heap.objs.size) (o := .tup [.int 0]) (t' := s1.toks) (fun b u e => Heap.get?_push_of_some _ e) (Nat.le_refl _) ⟨by decide, [u], .cons r1 .nil, _, Heap.get?_push_size _ rfl, rfl, _, rfl⟩
  have np : P ≠ s1.heap.objs.size := ne_of_none hP hf0
  exact tail_inv (dt := some s1.heap.objs.size) (fun L e => by unfold Lm.dV; rw [e]) I2 TB hcode (hfree I.ok) (by rw [upd_ne np]; exact hP) ht (fun p' cv hcv => by
    obtain ⟨c0, e1, e2⟩ := ha p' cv hcv
    exact ⟨c0, e1, by rw [upd_ne (ne_of_none e2 hf0)]; exact e2⟩) fun f L H2 e1 e2 e3 e4 e5 e6 hc hf => h f L _ H2 e1 e2 e3 e4 e5 (by rw [e5]; exact cloOk_of I.ok.inj (hfree I.ok)) (by rw [e6]; rfl) (.inr ⟨_, e6, hf0, rfl⟩) hc hf
end
/-- the table of code objects of a def with the lambdas' name q -/
def TabP (q : Str) : Hp → HO → Prop := fun G o => ∃ ps : Array Value, o = .tbl ps ∧ TriplesOk ps.toList ∧ ∀ pos' cv, codeAmong pos' ps.toList = some cv → ∃ c, cv = .ref c ∧ G c = some (LamX.CodeO c q)
theorem TabP.mono {q : Str} : ∀ G1 G2 o, Same G1 G2 → TabP q G1 o → TabP q G2 o := fun _ _ _ s ⟨ps, e, h1, h2⟩ => ⟨ps, e, h1, fun p cv h => let ⟨c, a, b⟩ := h2 p cv h; ⟨c, a, s _ _ b⟩⟩
structure IsLm (cl : List (Str × Addr)) (qual : Str) (params : Arguments) (body : Expr) (scope : Scope) (hasD : Bool) (L : Lm) : Prop where
  e1 : L.qual = qual
  e2 : L.params = params
  e3 : L.body = body
  e4 : L.scope = scope
  e5 : L.clos = cloFrom cl scope.names []
  ok : CloOk scope L.clos
  e7 : L.dt.isSome = hasD
section
variable {K : PySem.W.Frag} {M : Mt} {ds : DS}
theorem ev_lam {cl : List (Str × Addr)} {qual : Str} {params : Arguments} {body : Expr} {scope : Scope} {P : Addr} {hasD : Bool} (hm : (P, TabP qual) ∈ M) : Ev K M ds (tMkL cl qual params body scope P hasD) (fun d => ∃ L, d = .fob L ∧ IsLm cl qual params body scope hasD L) := fun M' σ G H Q m s w q => by
  obtain ⟨gP, o, hP, ps, eo, ht, ha⟩ := w.mt _ (m.l _ hm)
  subst eo
  refine ⟨ps, hP, ht, fun p' cv h => ?_, fun f L H1 H2 e1 e2 e3 e4 e5 e6 e7 h1 h2 h3 => ?_⟩
  · obtain ⟨c, a, b⟩ := ha p' cv h
    exact ⟨c, a, w.sub _ _ b⟩
  -- the defaults
  have key1 : ∃ G1, Same G G1 ∧ Wd M' G1 H1 ∧ ∀ d, L.dt = some d → G1 d = some (.tup [.int 0]) := by
    rcases h1 with ⟨a, b⟩ | ⟨d, a, b, c⟩
    · rw [b]
      exact ⟨G, Same.refl G, w, fun d e => by rw [a] at e; cases e⟩
    · rw [c]
      refine ⟨upd G d (.tup [.int 0]), same_new (w.free b), w.new b, fun d' e => ?_⟩
      rw [a] at e
      cases e
      exact upd_same
  obtain ⟨G1, s1, w1, hd1⟩ := key1
  have key2 : ∃ G2, Same G1 G2 ∧ Wd M' G2 H2 ∧ G2 L.c = some (LamX.CodeO L.c qual) := by
    obtain ⟨gP1, o1, hP1, ps1, eo1, ht1, ha1⟩ := w1.mt _ (m.l _ hm)
    have hPs : H1 P = some (.tbl ps) := by
      rcases h1 with ⟨a, b⟩ | ⟨d, a, b, c⟩
      · rw [b]; exact hP
      · rw [c, upd_ne (ne_of_none hP b)]; exact hP
    rw [hPs] at hP1
    cases hP1
    cases eo1
    rcases h2 with ⟨a, b⟩ | ⟨ps', b, c, t', h'⟩
    · rw [a]
      obtain ⟨pos', hp⟩ := b
      obtain ⟨c0, a0, b0⟩ := ha1 pos' _ hp
      cases a0
      exact ⟨G1, Same.refl G1, w1, b0⟩
    · have np : L.c ≠ P := fun z => by rw [z, hPs] at b; cases b
      have w2 := w1.new (o := LamX.CodeO L.c qual) b
      have w3 := w2.write (o := .tbl ps') (m.l _ hm) ⟨ps', rfl, t', fun p' cv h => ?_⟩
      · refine ⟨_, same_new (w1.free b), ?_, upd_same⟩
        rw [c, Rg.upd_comm (Ne.symm np)]
        exact w3
      · rcases h' p' cv h with z | z
        · obtain ⟨c0, a0, b0⟩ := ha1 p' cv z
          exact ⟨c0, a0, by rw [upd_ne (ne_of_none b0 (w1.free b))]; exact b0⟩
        · exact ⟨L.c, z, upd_same⟩
  obtain ⟨G2, s2, w2, hc2⟩ := key2
  have sn := same_new (o := ExO f L.obj) (w2.free h3)
  exact q (.ref f) (.fob L) _ _ ((s1.trans s2).trans sn) (w2.new h3) (.fob upd_same (by rw [e1]; exact sn _ _ hc2) fun d e => sn _ _ (s2 _ _ (hd1 d e))) ⟨L, rfl, e1, e2, e3, e4, e5, e6, e7⟩
end
end Rg
namespace Rg
open PySem L2 RZ PyProof.Rows
/-! ### what is owned: things that change, each with its content -/
inductive Ob where
  | lst (ds : List D)
  | ins (C : Addr) (fs : List (Str × D))
  | dct (kvs : List (Key × D))
  | ldct (kvs : List (Key × D))
abbrev Own := List (Addr × Ob)
def obP (K : PySem.W.Frag) : Ob → Hp → HO → Prop
  | .lst ds => fun G o => ∃ vs, o = .lst vs ∧ RpAll K G vs ds
  | .ins C fs => fun G o => ∃ dx gs, o = .ins C dx gs ∧ gs.map (·.1) = fs.map (·.1) ∧ RpAll K G (gs.map (·.2)) (fs.map (·.2))
  | .dct kvs => fun G o => ∃ us : List (Key × V), o = .dK us ∧ us.map (·.1) = kvs.map (·.1) ∧ RpAll K G (us.map (·.2)) (kvs.map (·.2))
  | .ldct kvs => fun G o => ∃ (ob : Obj) (us : List (Key × V)), o = .frz ob (.dK us) ∧ us.map (·.1) = kvs.map (·.1) ∧ RpAll K G (us.map (·.2)) (kvs.map (·.2))
theorem obP.mono {K : PySem.W.Frag} {b : Ob} : ∀ G1 G2 o, Same G1 G2 → obP K b G1 o → obP K b G2 o := fun G1 G2 o s h => by
  cases b with
  | lst ds => obtain ⟨vs, e, r⟩ := h; exact ⟨vs, e, r.mono s⟩
  | ins C fs => obtain ⟨dx, gs, e, e2, r⟩ := h; exact ⟨dx, gs, e, e2, r.mono s⟩
  | dct kvs => obtain ⟨us, e, e2, r⟩ := h; exact ⟨us, e, e2, r.mono s⟩
  | ldct kvs => obtain ⟨ob, us, e, e2, r⟩ := h; exact ⟨ob, us, e, e2, r.mono s⟩
def ownM (K : PySem.W.Frag) (o : Own) : Ml := o.map fun p => (p.1, obP K p.2)
abbrev Mt.adds (M : Mt) (l : Ml) : Mt := { M with l := l ++ M.l, sub := M.sub.trans (List.sublist_append_right l M.l) }
theorem MSub.adds {M M' : Mt} {l : Ml} (a : MSub M M') : MSub M (M'.adds l) := ⟨fun q h => List.mem_append_right _ (a.l q h), a.ex, a.W⟩
theorem MSub.adds2 {M M' : Mt} {l : Ml} (a : MSub M M') : MSub (M.adds l) (M'.adds l) := ⟨fun q h => (List.mem_append.mp h).elim (fun h => List.mem_append_left _ h) fun h => List.mem_append_right _ (a.l q h), a.ex, a.W⟩
section
variable (K : PySem.W.Frag) (M : Mt) (o : Own) (ds : DS)
def EvW (te : TE) (R : Own → D → Prop) : Prop := ∀ (M' : Mt) (σ : L2.St) (G H : Hp) (Q : VK), MSub M M' → Sg K G σ ds → Wd (M'.adds (ownM K o)) G H →
  (∀ v d o' G' H', Same G G' → Wd (M'.adds (ownM K o')) G' H' → Rp K G' v d → R o' d → Q v H') → te σ H Q
def EvTW (tt : TT) (R : Own → Bool → Prop) : Prop := ∀ (M' : Mt) (σ : L2.St) (G H : Hp) (Q : Bool → Hp → Prop), MSub M M' → Sg K G σ ds → Wd (M'.adds (ownM K o)) G H →
  (∀ b o' G' H', Same G G' → Wd (M'.adds (ownM K o')) G' H' → R o' b → Q b H') → tt σ H Q
structure AW where
  nx : Own → DS → Prop
  rt : Own → D → Prop
  bk : Own → DS → Prop := fun _ _ => False
  ct : Own → DS → Prop := fun _ _ => False
structure EndsW (M' : Mt) (G : Hp) (E : AW) (Z : Ends) : Prop where
  nx : ∀ o' ds' σ' G' H', E.nx o' ds' → Same G G' → Sg K G' σ' ds' → Wd (M'.adds (ownM K o')) G' H' → Z.nx σ' H'
  rt : ∀ v o' d G' H', E.rt o' d → Same G G' → Rp K G' v d → Wd (M'.adds (ownM K o')) G' H' → Z.rt v H'
  bk : ∀ o' ds' σ' G' H', E.bk o' ds' → Same G G' → Sg K G' σ' ds' → Wd (M'.adds (ownM K o')) G' H' → Z.bk σ' H'
  ct : ∀ o' ds' σ' G' H', E.ct o' ds' → Same G G' → Sg K G' σ' ds' → Wd (M'.adds (ownM K o')) G' H' → Z.ct σ' H'
def RunW (ts : TS) (E : AW) : Prop := ∀ (M' : Mt) (σ : L2.St) (G H : Hp) (Z : Ends), MSub M M' → Sg K G σ ds → Wd (M'.adds (ownM K o)) G H → EndsW K M' G E Z → ts Z σ H
end
theorem EndsW.mono {K : PySem.W.Frag} {M' : Mt} {G G' : Hp} {E : AW} {Z : Ends} (s : Same G G') (h : EndsW K M' G E Z) : EndsW K M' G' E Z :=
  ⟨fun o ds σ G1 H1 a b => h.nx o ds σ G1 H1 a (s.trans b), fun v o d G1 H1 a b => h.rt v o d G1 H1 a (s.trans b), fun o ds σ G1 H1 a b => h.bk o ds σ G1 H1 a (s.trans b), fun o ds σ G1 H1 a b => h.ct o ds σ G1 H1 a (s.trans b)⟩
section
variable {K : PySem.W.Frag} {M : Mt} {o : Own} {ds : DS} {te ta tb : TE} {t u : TT} {R R' : Own → D → Prop} {E E' : AW} {a b : TS}
theorem EvW.weak (h : EvW K M o ds te R) (f : ∀ o' d, R o' d → R' o' d) : EvW K M o ds te R' := fun M' σ G H Q m s w q => h M' σ G H Q m s w fun v d o' G' H' a b c r => q v d o' G' H' a b c (f o' d r)
theorem evw_of {R : D → Prop} (h : Ev K (M.adds (ownM K o)) ds te R) : EvW K M o ds te (fun o' d => o' = o ∧ R d) := fun M' σ G H Q m s w q =>
  h (M'.adds (ownM K o)) σ G H Q m.adds2 s w fun v d G' H' s' w' r' e => q v d o G' H' s' w' r' ⟨rfl, e⟩
theorem evw_ev {R : D → Prop} (h : Ev K M ds te R) : EvW K M o ds te (fun o' d => o' = o ∧ R d) := fun M' σ G H Q m s w q =>
  h (M'.adds (ownM K o)) σ G H Q m.adds s w fun v d G' H' s' w' r' e => q v d o G' H' s' w' r' ⟨rfl, e⟩
/-- nothing owned before and behind -/
theorem ev_w {R : D → Prop} (h : EvW K M [] ds te (fun o' d => o' = [] ∧ R d)) : Ev K M ds te R := fun M' σ G H Q m s w q =>
  h M' σ G H Q m s w fun v d o' G' H' s' w' r' ⟨e, e2⟩ => by subst e; exact q v d G' H' s' w' r' e2
theorem etw_of {R : Bool → Prop} (h : EvT K (M.adds (ownM K o)) ds t R) : EvTW K M o ds t (fun o' d => o' = o ∧ R d) := fun M' σ G H Q m s w q =>
  h (M'.adds (ownM K o)) σ G H Q m.adds2 s w fun b G' H' s' w' e => q b o G' H' s' w' ⟨rfl, e⟩
theorem etw_B {RT : Own → Bool → Prop} (h : EvW K M o ds te (fun o' d => ∃ b, d = .bl b ∧ RT o' b)) : EvTW K M o ds (tB te) RT := fun M' σ G H Q m s w q =>
  h M' σ G H _ m s w fun v d o' G1 H1 s1 w1 r1 ⟨b, e, hb⟩ => by
    subst e
    exact ⟨b, r1.bl_inv, q b o' G1 H1 s1 w1 hb⟩
/-! ### statements -/
theorem runw_lift {E : AE} {rt : Own → D → Prop} {nx bk ct : Own → DS → Prop} (h : Run K (M.adds (ownM K o)) ds a E) (h1 : ∀ d, E.nx d → nx o d) (h2 : ∀ d, E.rt d → rt o d) (h3 : ∀ d, E.bk d → bk o d) (h4 : ∀ d, E.ct d → ct o d) : RunW K M o ds a ⟨nx, rt, bk, ct⟩ := fun M' σ G H Z m s w z =>
  h (M'.adds (ownM K o)) σ G H Z m.adds2 s w ⟨fun ds' σ' G' H' e g s' w' => z.nx o ds' σ' G' H' (h1 _ e) g s' w', fun v d G' H' e g r' w' => z.rt v o d G' H' (h2 _ e) g r' w', fun ds' σ' G' H' e g s' w' => z.bk o ds' σ' G' H' (h3 _ e) g s' w', fun ds' σ' G' H' e g s' w' => z.ct o ds' σ' G' H' (h4 _ e) g s' w'⟩
/-- a run with nothing owned is a run -/
theorem run_w {E : AE} (h : RunW K M [] ds a ⟨fun o d => o = [] ∧ E.nx d, fun o d => o = [] ∧ E.rt d, fun o d => o = [] ∧ E.bk d, fun o d => o = [] ∧ E.ct d⟩) : Run K M ds a E := fun M' σ G H Z m s w z =>
  h M' σ G H Z m s w ⟨fun o' ds' σ' G' H' ⟨e, e2⟩ g s' w' => by subst e; exact z.nx ds' σ' G' H' e2 g s' w', fun v o' d G' H' ⟨e, e2⟩ g r' w' => by subst e; exact z.rt v d G' H' e2 g r' w', fun o' ds' σ' G' H' ⟨e, e2⟩ g s' w' => by subst e; exact z.bk ds' σ' G' H' e2 g s' w', fun o' ds' σ' G' H' ⟨e, e2⟩ g s' w' => by subst e; exact z.ct ds' σ' G' H' e2 g s' w'⟩
theorem runw_weak (h : RunW K M o ds a E) (h1 : ∀ o d, E.nx o d → E'.nx o d) (h2 : ∀ o d, E.rt o d → E'.rt o d) (h3 : ∀ o d, E.bk o d → E'.bk o d) (h4 : ∀ o d, E.ct o d → E'.ct o d) : RunW K M o ds a E' := fun M' σ G H Z m s w z =>
  h M' σ G H Z m s w ⟨fun o' ds' σ' G' H' e => z.nx o' ds' σ' G' H' (h1 _ _ e), fun v o' d G' H' e => z.rt v o' d G' H' (h2 _ _ e), fun o' ds' σ' G' H' e => z.bk o' ds' σ' G' H' (h3 _ _ e), fun o' ds' σ' G' H' e => z.ct o' ds' σ' G' H' (h4 _ _ e)⟩
theorem runw_next (h : E.nx o ds) : RunW K M o ds tNext E := fun M' σ G H Z m s w z => z.nx o ds σ G H h (Same.refl G) s w
theorem runw_brk (h : E.bk o ds) : RunW K M o ds tBreak E := fun M' σ G H Z m s w z => z.bk o ds σ G H h (Same.refl G) s w
theorem runw_cnt (h : E.ct o ds) : RunW K M o ds tCont E := fun M' σ G H Z m s w z => z.ct o ds σ G H h (Same.refl G) s w
theorem runw_seq (h : RunW K M o ds a { E with nx := fun o' ds' => RunW K M o' ds' b E }) : RunW K M o ds (tSeq a b) E := fun M' σ G H Z m s w z =>
  h M' σ G H { Z with nx := b Z } m s w ⟨fun o' ds' σ' G' H' r g s' w' => r M' σ' G' H' Z m s' w' (z.mono g), z.rt, z.bk, z.ct⟩
theorem runw_ret (h : EvW K M o ds te E.rt) : RunW K M o ds (tRet te) E := fun M' σ G H Z m s w z =>
  h M' σ G H _ m s w fun v d o' G1 H1 s1 w1 r1 e => z.rt v o' d G1 H1 e s1 r1 w1
theorem runw_retN (h : E.rt o .non) : RunW K M o ds tRetN E := fun M' σ G H Z m s w z => z.rt .non o .non G H h (Same.refl G) .non w
theorem runw_expr (h : EvW K M o ds te R) (hn : ∀ o' d, R o' d → E.nx o' ds) : RunW K M o ds (tDrop te) E := fun M' σ G H Z m s w z =>
  h M' σ G H _ m s w fun v d o' G1 H1 s1 w1 r1 e => z.nx o' ds σ G1 H1 (hn o' d e) s1 (s.mono s1) w1
theorem runw_asgN {i : Nat} (h : EvW K M o ds te R) (hn : ∀ o' d, R o' d → E.nx o' (ds.set i (some d))) : RunW K M o ds (tAsg te (gName i)) E := fun M' σ G H Z m s w z =>
  h M' σ G H _ m s w fun v d o' G1 H1 s1 w1 r1 e => z.nx o' _ _ G1 H1 (hn o' d e) s1 ((s.mono s1).set i r1) w1
theorem runw_asg {i : Nat} (h : EvW K M o ds te R) (hn : ∀ o' d, R o' d → RunW K M o' (ds.set i (some d)) b E) : RunW K M o ds (tSeq (tAsg te (gName i)) b) E := runw_seq (runw_asgN h hn)
theorem runw_asgG {g : TG} {R : D → Prop} (h : EvW K M o ds te (fun o' d => o' = o ∧ R d)) (hg : ∀ d, R d → EvG K (M.adds (ownM K o)) none g d ds (E.nx o)) : RunW K M o ds (tAsg te g) E := fun M' σ G H Z m s w z =>
  h M' σ G H _ m s w fun v d o' G1 H1 s1 w1 r1 ⟨eo, e⟩ => by
    subst eo
    exact hg d e (M'.adds (ownM K o')) σ G1 H1 v _ m.adds2 (s.mono s1) w1 r1 fun ds2 σ2 G2 H2 n2 s2 sg2 w2 _ => z.nx o' ds2 σ2 G2 H2 n2 (s1.trans s2) sg2 w2
theorem runw_if {tc : TT} {RT : Own → Bool → Prop} (h : EvTW K M o ds tc RT) (h1 : ∀ o', RT o' true → RunW K M o' ds a E) (h2 : ∀ o', RT o' false → RunW K M o' ds b E) : RunW K M o ds (tIfS tc a b) E := fun M' σ G H Z m s w z =>
  h M' σ G H _ m s w fun c o' G1 H1 s1 w1 e => by
    cases c with
    | true => exact h1 o' e M' σ G1 H1 Z m (s.mono s1) w1 (z.mono s1)
    | false => exact h2 o' e M' σ G1 H1 Z m (s.mono s1) w1 (z.mono s1)
theorem runw_if1 {tc : TT} {c : Bool} (h : EvT K (M.adds (ownM K o)) ds tc (· = c)) (h1 : c = true → RunW K M o ds a E) (h2 : c = false → RunW K M o ds b E) : RunW K M o ds (tIfS tc a b) E :=
  runw_if (etw_of h) (fun o' ⟨e, e2⟩ => by subst e; exact h1 e2.symm) fun o' ⟨e, e2⟩ => by subst e; exact h2 e2.symm
theorem runw_ifT {tc : TT} {c : Bool} (h : EvT K (M.adds (ownM K o)) ds tc (· = c)) (hc : c = true) (h1 : RunW K M o ds a E) : RunW K M o ds (tIfS tc a b) E := by subst hc; exact runw_if1 h (fun _ => h1) fun e => nomatch e
theorem runw_ifF {tc : TT} {c : Bool} (h : EvT K (M.adds (ownM K o)) ds tc (· = c)) (hc : c = false) (h1 : RunW K M o ds b E) : RunW K M o ds (tIfS tc a b) E := by subst hc; exact runw_if1 h (fun e => nomatch e) fun _ => h1
theorem runw_forget {ds' : DS} (f : Fg ds ds') (h : RunW K M o ds' a E) : RunW K M o ds a E := fun M' σ G H Z m s w z => h M' σ G H Z m (s.forget f) w z
theorem runw_for {wi : TI} {g : TG} {tb : TS} {RI : List D → Prop} (hI : EvI K (M.adds (ownM K o)) ds wi RI) (h : ∀ es, RI es → ∃ Pv : Nat → Own → DS → Prop, Pv 0 o ds ∧
      (∀ i d o' ds', es[i]? = some d → Pv i o' ds' → EvG K (M.adds (ownM K o')) none g d ds' (fun ds2 => RunW K M o' ds2 tb { nx := Pv (i + 1), ct := Pv (i + 1), bk := E.nx, rt := E.rt })) ∧ ∀ o' ds', Pv es.length o' ds' → E.nx o' ds') : RunW K M o ds (tFor wi g tb) E := fun M' σ G H Z m s w z =>
  hI (M'.adds (ownM K o)) σ G H _ m.adds2 s w fun J es G1 H1 s1 w1 hes W => by
    obtain ⟨Pv, h0, hs, hd⟩ := h es hes
    refine for_it (n := es.length) (G := fun H => ∃ M2 G2, Same G1 G2 ∧ Wd M2 G2 H) (Y := fun i H x H' => J.yld i H x H') ⟨fun i H hi ⟨M2, G2, s2, w2⟩ => W.goes i H G2 M2 hi s2 w2, fun H ⟨M2, G2, s2, w2⟩ => W.stops H G2 M2 s2 w2, fun i H x H' _ _ y => y⟩
      (fun i σ' H' => ∃ o' ds' G2, Pv i o' ds' ∧ Same G1 G2 ∧ Sg K G2 σ' ds' ∧ Wd (M'.adds (ownM K o')) G2 H') ⟨o, ds, G1, h0, Same.refl _, s.mono s1, w1⟩ (fun i σ' H' _ ⟨o', _, G2, _, s2, _, w2⟩ => ⟨_, G2, s2, w2⟩) (fun i x σ' H2 H3 hi ⟨o', ds', G2, hp, s2, sg, w2⟩ y => ?_)
      (fun σ' H' ⟨o', ds', G2, hp, s2, sg, w2⟩ => z.nx o' ds' σ' G2 H' (hd o' ds' hp) (s1.trans s2) sg w2)
    obtain ⟨G3, d, s3, w3, hd', rd⟩ := W.yields i H2 x H3 G2 _ hi s2 w2 y
    refine hs i d o' ds' hd' hp (M'.adds (ownM K o')) σ' G3 H3 x _ m.adds2 (sg.mono s3) w3 rd fun ds2 σ2 G4 H4 hr s4 sg4 w4 _ => ?_
    have s14 := (s2.trans s3).trans s4
    exact hr M' σ2 G4 H4 _ m sg4 w4 ⟨fun o5 ds5 σ5 G5 H5 r5 s5 sg5 w5 => ⟨o5, ds5, G5, r5, s14.trans s5, sg5, w5⟩, fun v o5 d G5 H5 r5 s5 rp5 w5 => z.rt v o5 d G5 H5 r5 (s1.trans (s14.trans s5)) rp5 w5,
      fun o5 ds5 σ5 G5 H5 r5 s5 sg5 w5 => z.nx o5 ds5 σ5 G5 H5 r5 (s1.trans (s14.trans s5)) sg5 w5, fun o5 ds5 σ5 G5 H5 r5 s5 sg5 w5 => ⟨o5, ds5, G5, r5, s14.trans s5, sg5, w5⟩⟩
theorem runw_while {c : TT} {tb : TS} (Pv : Nat → Own → DS → Prop) (h0 : ∃ n, Pv n o ds) (hs : ∀ n o' ds', Pv n o' ds' → ∃ RT : Own → Bool → Prop, EvTW K M o' ds' c RT ∧ (∀ o2, RT o2 false → E.nx o2 ds') ∧
      ∀ o2, RT o2 true → RunW K M o2 ds' tb { nx := fun o3 ds3 => ∃ k < n, Pv k o3 ds3, ct := fun o3 ds3 => ∃ k < n, Pv k o3 ds3, bk := E.nx, rt := E.rt }) : RunW K M o ds (tWhile c tb) E := fun M' σ G H Z m s w z => by
  obtain ⟨n0, p0⟩ := h0
  refine ⟨fun k σ' H' => ∃ o' ds' G2, Pv k o' ds' ∧ Same G G2 ∧ Sg K G2 σ' ds' ∧ Wd (M'.adds (ownM K o')) G2 H', ⟨n0, o, ds, G, p0, Same.refl _, s, w⟩, ?_⟩
  rintro k σ1 H1 ⟨o1, ds1, G1, p1, s1, sg1, w1⟩
  obtain ⟨RT, hT, hF, hB⟩ := hs k o1 ds1 p1
  refine hT M' σ1 G1 H1 _ m sg1 w1 fun b o2 G2 H2 s2 w2 e => ?_
  cases b with
  | false =>
    rw [if_neg Bool.false_ne_true]
    exact z.nx o2 ds1 σ1 G2 H2 (hF o2 e) (s1.trans s2) (sg1.mono s2) w2
  | true =>
    rw [if_pos rfl]
    refine ⟨fun σ' H' => ∃ k' < k, ∃ o' ds' G2, Pv k' o' ds' ∧ Same G G2 ∧ Sg K G2 σ' ds' ∧ Wd (M'.adds (ownM K o')) G2 H', fun σ' H' ⟨k', hk, h⟩ => ⟨k', hk, h⟩, ?_⟩
    have s12 := s1.trans s2
    exact hB o2 e M' σ1 G2 H2 _ m (sg1.mono s2) w2 ⟨fun o5 ds5 σ5 G5 H5 ⟨k', hk, r5⟩ s5 sg5 w5 => ⟨k', hk, o5, ds5, G5, r5, s12.trans s5, sg5, w5⟩, fun v o5 d G5 H5 r5 s5 rp5 w5 => z.rt v o5 d G5 H5 r5 (s12.trans s5) rp5 w5,
      fun o5 ds5 σ5 G5 H5 r5 s5 sg5 w5 => z.nx o5 ds5 σ5 G5 H5 r5 (s12.trans s5) sg5 w5, fun o5 ds5 σ5 G5 H5 ⟨k', hk, r5⟩ s5 sg5 w5 => ⟨k', hk, o5, ds5, G5, r5, s12.trans s5, sg5, w5⟩⟩
/-! ### what is owned is arranged anew, frozen -/
theorem Wd.perm {M' : Mt} {l l' : Ml} {G H : Hp} (w : Wd (M'.adds l) G H) (p : l.Perm l') : Wd (M'.adds l') G H :=
  ⟨⟨w.sub, fun q hq => w.mt q ((p.append_right _).mem_iff.mpr hq), fun q hq => w.mono q ((p.append_right _).mem_iff.mpr hq), (((p.append_right M'.l).map (·.1)).nodup_iff).mp w.nd⟩, w.xk⟩
theorem runw_perm {o' : Own} (p : o.Perm o') (h : RunW K M o' ds a E) : RunW K M o ds a E := fun M' σ G H Z m s w z => h M' σ G H Z m s (w.perm (p.map _)) z
theorem evw_perm {o' : Own} (p : o.Perm o') (h : EvW K M o' ds te R) : EvW K M o ds te R := fun M' σ G H Q m s w q => h M' σ G H Q m s (w.perm (p.map _)) q
theorem Wd.freezeW {M' : Mt} {p : Addr} {b : Ob} {G H : Hp} (w : Wd (M'.adds (ownM K ((p, b) :: o))) G H) : ∃ u, H p = some u ∧ obP K b G u ∧ G p = none ∧ Wd (M'.adds (ownM K o)) (upd G p u) H := by
  obtain ⟨g, u, hu, f⟩ := w.mt (p, obP K b) List.mem_cons_self
  exact ⟨u, hu, f, g, w.toWd0.freeze hu, fun l' cls d σ G2 H2 x s2 => w.xk l' cls d σ G2 H2 x ((same_new g).trans s2)⟩
/-- what a frozen thing is worth -/
def obD : Ob → Option D
  | .lst ds => some (.list ds)
  | .ins C fs => some (.obj C (fs.map (·.1)) (fs.map (·.2)))
  | .dct kvs => some (.dict (kvs.map (·.1)) (kvs.map (·.2)))
  | .ldct kvs => some (.ldict (kvs.map (·.1)) (kvs.map (·.2)))
theorem rp_frozen {p : Addr} {b : Ob} {d : D} {u : HO} {G : Hp} (f : obP K b G u) (g : G p = none) (h : obD b = some d) : Rp K (upd G p u) (.ref p) d := by
  have sn := same_new (o := u) g
  cases b with
  | lst ds =>
    cases h
    obtain ⟨vs, rfl, r⟩ := f
    exact .lst upd_same (r.mono sn)
  | ins C fs =>
    cases h
    obtain ⟨dx, gs, rfl, e, r⟩ := f
    have z := Rp.obj (K := K) (G := upd G p (.ins C dx gs)) (a := p) (fs := gs) (ds := fs.map (·.2)) upd_same (r.mono sn)
    rw [e] at z
    exact z
  | dct kvs =>
    cases h
    obtain ⟨us, rfl, e, r⟩ := f
    have z := Rp.dict (K := K) (G := upd G p (.dK us)) (a := p) (us := us) (ds := kvs.map (·.2)) upd_same (r.mono sn)
    rw [e] at z
    exact z
  | ldct kvs =>
    cases h
    obtain ⟨ob, us, rfl, e, r⟩ := f
    have z := Rp.ldict (K := K) (G := upd G p (.frz ob (.dK us))) (a := p) (ob := ob) (us := us) (ds := kvs.map (·.2)) upd_same (r.mono sn)
    rw [e] at z
    exact z
theorem runw_freeze {p : Addr} {b : Ob} {d : D} {i : Nat} (hi : ds[i]? = some (some (.raw (.ref p)))) (hb : obD b = some d) (h : RunW K M o (ds.set i (some d)) a E) : RunW K M ((p, b) :: o) ds a E := fun M' σ G H Z m s w z => by
  obtain ⟨u, hu, f, g, w2⟩ := w.freezeW
  have sn := same_new (o := u) g
  obtain ⟨v, e, r⟩ := s.at_ i _ hi
  have ev := r.raw_inv
  subst ev
  have s2 : Sg K (upd G p u) σ (ds.set i (some d)) := by
    have := (s.mono sn).set i (v := .ref p) (rp_frozen f g hb)
    have e2 : σ.set i (some (.ref p)) = σ := by
      apply List.ext_getElem?
      intro j
      rw [List.getElem?_set]
      by_cases hj : i = j
      · subst hj
        rw [if_pos rfl, e]
        split
        · rfl
        · rename_i hl
          have := (List.getElem?_eq_some_iff.mp e).1
          omega
      · rw [if_neg hj]
    rw [e2] at this
    exact this
  exact h M' σ (upd G p u) H Z m s2 w2 (z.mono sn)
theorem evw_freeze (h : EvW K M o ds te (fun o' d => ∃ p b o2 e, o' = (p, b) :: o2 ∧ d = .raw (.ref p) ∧ obD b = some e ∧ R o2 e)) : EvW K M o ds te R := fun M' σ G H Q m s w q =>
  h M' σ G H Q m s w fun v d o' G1 H1 s1 w1 r1 ⟨p, b, o2, e, e1, e2, hb, hR⟩ => by
    subst e1; subst e2
    have ev := r1.raw_inv
    subst ev
    obtain ⟨u, hu, f, g, w2⟩ := w1.freezeW
    exact q (.ref p) e o2 (upd G1 p u) H1 (s1.trans (same_new g)) w2 (rp_frozen f g hb) hR
/-! ### new things -/
theorem Wd.newW {M' : Mt} {p : Addr} {b : Ob} {u : HO} {G H : Hp} (w : Wd (M'.adds (ownM K o)) G H) (h : H p = none) (f : obP K b G u) : Wd (M'.adds (ownM K ((p, b) :: o))) G (upd H p u) := by
  have z := w.newM h f obP.mono
  exact ⟨z.toWd0, w.xk⟩
theorem evw_lst {ta : TA} {as : List D} (ha : EvA K (M.adds (ownM K o)) ds ta (· = as)) (hl : as.length ≤ 100000) : EvW K M o ds (tLst ta) (fun o' d => ∃ p, o' = (p, .lst as) :: o ∧ d = .raw (.ref p)) := fun M' σ G H Q m s w q =>
  ha (M'.adds (ownM K o)) σ G H _ m.adds2 s w fun vs es G1 H1 s1 w1 r1 e => by
    subst e
    exact ⟨by rw [r1.length]; exact Nat.le_trans hl (by decide), fun p hp => q (.ref p) (.raw (.ref p)) ((p, .lst es) :: o) G1 _ s1 (w1.newW hp ⟨vs, rfl, r1⟩) (.raw _) ⟨p, rfl, rfl⟩⟩
/-! ### lists that change -/
theorem Wd.putW {M' : Mt} {p : Addr} {b c : Ob} {u : HO} {G H : Hp} (w : Wd (M'.adds (ownM K ((p, b) :: o))) G H) (f : obP K c G u) : Wd (M'.adds (ownM K ((p, c) :: o))) G (upd H p u) := by
  have w0 : Wd ((M'.adds (ownM K o)).cons (p, obP K b)) G H := ⟨w.toWd0, w.xk⟩
  have z := w0.put f obP.mono
  exact ⟨z.toWd0, w.xk⟩
theorem Wd.atW {M' : Mt} {p : Addr} {b : Ob} {G H : Hp} (w : Wd (M'.adds (ownM K ((p, b) :: o))) G H) : ∃ u, H p = some u ∧ obP K b G u := by
  obtain ⟨g, u, hu, f⟩ := w.mt (p, obP K b) List.mem_cons_self
  exact ⟨u, hu, f⟩
theorem evw_append {to : TE} {tx : TE} {p : Addr} {xs : List D} {d : D} (ho : Ev K (M.adds (ownM K ((p, .lst xs) :: o))) ds to (· = .raw (.ref p))) (he : Ev K (M.adds (ownM K ((p, .lst xs) :: o))) ds tx (· = d)) (hl : xs.length < 100000) :
    EvW K M ((p, .lst xs) :: o) ds (tBM K "list" rAppend to (tCons tx tNil)) (fun o' r => o' = (p, .lst (xs ++ [d])) :: o ∧ r = .non) := fun M' σ G H Q m s w q =>
  ho (M'.adds _) σ G H _ m.adds2 s w fun v1 d1 G1 H1 s1 w1 r1 e1 => by
    subst e1
    have ev := r1.raw_inv
    subst ev
    obtain ⟨u, hu, vs0, eu, r0⟩ := w1.atW
    subst eu
    refine ⟨.inl ⟨rfl, vs0, sq hu⟩, he (M'.adds _) σ G1 H1 _ m.adds2 (s.mono s1) w1 fun v2 d2 G2 H2 s2 w2 r2 e2 => ?_⟩
    subst e2
    obtain ⟨u2, hu2, vs, eu2, r3⟩ := w2.atW
    subst eu2
    refine ⟨p, vs, v2, rfl, rfl, hu2, by rw [r3.length]; exact Nat.lt_of_lt_of_le hl (by decide), ?_⟩
    exact q .non .non _ G2 _ (s1.trans s2) (w2.putW (c := .lst _) ⟨_, rfl, r3.append (.cons r2 .nil)⟩) .non ⟨rfl, rfl⟩
theorem evw_clear {to : TE} {p : Addr} {xs : List D} (ho : Ev K (M.adds (ownM K ((p, .lst xs) :: o))) ds to (· = .raw (.ref p))) :
    EvW K M ((p, .lst xs) :: o) ds (tBM0 K "list" rClear to) (fun o' r => o' = (p, .lst []) :: o ∧ r = .non) := fun M' σ G H Q m s w q =>
  ho (M'.adds _) σ G H _ m.adds2 s w fun v1 d1 G1 H1 s1 w1 r1 e1 => by
    subst e1
    have ev := r1.raw_inv
    subst ev
    obtain ⟨u, hu, vs0, eu, r0⟩ := w1.atW
    subst eu
    exact ⟨.inl ⟨rfl, vs0, sq hu⟩, p, vs0, rfl, rfl, hu, q .non .non _ G1 _ s1 (w1.putW (c := .lst []) ⟨_, rfl, .nil⟩) .non ⟨rfl, rfl⟩⟩
/-- what is owned and never asked again -/
theorem evw_drop (h : EvW K M o ds te R) (f : ∀ o' d, R o' d → ∃ o2, R' o2 d ∧ o2.Sublist o') : EvW K M o ds te R' := fun M' σ G H Q m s w q =>
  h M' σ G H Q m s w fun v d o' G1 H1 s1 w1 r1 e => by
    obtain ⟨o2, e2, sb⟩ := f o' d e
    refine q v d o2 G1 H1 s1 ⟨w1.toWd0.less (List.Sublist.append (sb.map _) (List.Sublist.refl _)), w1.xk⟩ r1 e2
theorem runw_drop {o2 : Own} (sb : o2.Sublist o) (h : RunW K M o2 ds a E) : RunW K M o ds a E := fun M' σ G H Z m s w z =>
  h M' σ G H Z m s ⟨w.toWd0.less (List.Sublist.append (sb.map _) (List.Sublist.refl _)), w.xk⟩ z
end
end Rg
namespace Rg
open PySem PySem.Spec L2 RZ PyProof.Rows
/-! ### own classes: methods by what is true of the class -/
def tMeG (K : PySem.W.Frag) (f : Addr) (m : Str) (sp : Sp) (dvs : List V) (E : XK) (ta : TE) (t : TA) : TE := fun σ H Q => ta σ H fun x H1 => ∃ a C dx fs, x = .ref a ∧ H1 a = some (.ins C dx fs) ∧ Cls K C ∧ Meth K C m f ∧ fs.lookup m = none ∧
  t σ H1 fun vs H2 => sp (x :: (vs ++ dvs)) H2 Q E
def tMeGK (K : PySem.W.Frag) (f : Addr) (m : Str) (sp : Sp) (gV : List V → List V → List V) (E : XK) (ta : TE) (tk : TA) : TE := fun σ H Q => ta σ H fun x H1 => ∃ a C dx fs, x = .ref a ∧ H1 a = some (.ins C dx fs) ∧ Cls K C ∧ Meth K C m f ∧ fs.lookup m = none ∧
  tk σ H1 fun zs H2 => sp (gV [x] zs) H2 Q E
section
variable {X : Cx} {CX : CXT} {k : Nat} {f C : Addr} {fd : FuncData} {ps ks : List Str} {sp : Sp} {dvs : List V} {ds : List Value} {E : XK} {x m : Str} {p pos apos : Pos} {e o : Expr} {es : List Expr} {kws : List Keyword} {ta : TE} {t tk : TA} {K : PySem.W.Frag}
theorem pe_meG {pl : Sem Bool} (he : PE X o ta) (F : FnOk X.prog X.w X.K X.mg X.base CX k f fd ps sp) (hr : Room k X.A) (hb : Binds X.K fd ps ds) (hd : Vals dvs ds) (hx : Passes CX X E) (ha : PA X (e :: es) t) (hK : X.K = K := by rfl)
    (hst : starEach (e :: es) X.env = (false, eval e X.env) :: starEach es X.env := by rfl) (hpl : (backTo pos (starEach es X.env)).any (·.1) = false := by rfl)
    (ht : eval (.Call (.Attribute o m apos) (e :: es) [] pos) X.env = (do
      let ov ← eval o X.env
      standAt apos.atName
      let (f, first) ← holding [ov] (getMethod ov m pl)
      callWith pos f first (backTo pos (starEach (e :: es) X.env)) (backToKw pos (keywordEach [] X.env))) := by rfl) :
    PE X (.Call (.Attribute o m apos) (e :: es) [] pos) (tMeG K f m sp dvs E ta t) := by
  subst hK
  refine ⟨fun pins s σ H Q I h => ?_⟩
  refine PySem.W.methodCall_KW (pl := pl) (thn (he.run pins s σ H _ I h) fun u s1 ⟨x, H1, I1, rx, a, C, dx, fs, ex, ea, c, hm, l, q⟩ => ?_) ht
  subst ex
  obtain rfl : u = Value.ref a := rx
  refine getmeth_ok I1 ea c hm l ?_
  refine PySem.W.callWith_K (first := [.ref a]) (h₀ := X.base) I.ok.mod.kin hm.kp (thn (ha.run pos pins s1 σ H1 _ I1 q) fun us s2 ⟨vs, H2, I2, r, q2⟩ => ⟨I2.kIn, ?_⟩) hst hpl
  exact run_fn (us := .ref a :: us) (vs := .ref a :: vs) F hr hb hd hx I2 (.cons rfl r) q2
theorem pe_meG0 {pl : Sem Bool} (he : PE X o ta) (F : FnOk X.prog X.w X.K X.mg X.base CX k f fd ps sp) (hr : Room k X.A) (hb : Binds X.K fd ps ds) (hd : Vals dvs ds) (hx : Passes CX X E) (hK : X.K = K := by rfl)
    (ht : eval (.Call (.Attribute o m apos) [] [] pos) X.env = (do
      let ov ← eval o X.env
      standAt apos.atName
      let (f, first) ← holding [ov] (getMethod ov m pl)
      callWith pos f first (backTo pos (starEach [] X.env)) (backToKw pos (keywordEach [] X.env))) := by rfl) :
    PE X (.Call (.Attribute o m apos) [] [] pos) (tMeG K f m sp dvs E ta tNil) := by
  subst hK
  refine ⟨fun pins s σ H Q I h => ?_⟩
  refine PySem.W.methodCall_KW (pl := pl) (thn (he.run pins s σ H _ I h) fun u s1 ⟨x, H1, I1, rx, a, C, dx, fs, ex, ea, c, hm, l, q⟩ => ?_) ht
  subst ex
  obtain rfl : u = Value.ref a := rx
  refine getmeth_ok I1 ea c hm l ?_
  exact PySem.W.callWith_K0 (first := [.ref a]) I1.kIn hm.kp (run_fn (us := [.ref a]) (vs := [.ref a]) F hr hb hd hx I1 (.cons rfl .nil) q)
/-- o.m(k = v, ..) -/
theorem pe_meGK {pl : Sem Bool} {g : List Value → List Value → List Value} {gV : List V → List V → List V} (he : PE X o ta) (F : FnOk X.prog X.w X.K X.mg X.base CX k f fd ps sp) (hr : Room k X.A) (hb : KBinds X.K fd ps ks g gV) (hx : Passes CX X E) (hkw : PK X kws tk) (hK : X.K = K := by rfl)
    (hall : (backToKw pos (keywordEach kws X.env)).all (·.1.isSome) = true := by rfl) (hks : (backToKw pos (keywordEach kws X.env)).filterMap (·.1) = ks := by rfl)
    (hpl : ((backTo pos (starEach [] X.env)).any (·.1) || (backToKw pos (keywordEach kws X.env)).any (·.1.isNone)) = false := by rfl)
    (ht : eval (.Call (.Attribute o m apos) [] kws pos) X.env = (do
      let ov ← eval o X.env
      standAt apos.atName
      let (f, first) ← holding [ov] (getMethod ov m pl)
      callWith pos f first (backTo pos (starEach [] X.env)) (backToKw pos (keywordEach kws X.env))) := by rfl) :
    PE X (.Call (.Attribute o m apos) [] kws pos) (tMeGK K f m sp gV E ta tk) := by
  subst hK
  refine ⟨fun pins s σ H Q I h => ?_⟩
  refine PySem.W.methodCall_KW (pl := pl) (thn (he.run pins s σ H _ I h) fun u s1 ⟨x, H1, I1, rx, a, C, dx, fs, ex, ea, c, hm, l, q⟩ => ?_) ht
  subst ex
  obtain rfl : u = Value.ref a := rx
  refine getmeth_ok I1 ea c hm l ?_
  refine PySem.W.callWith_KW0 (first := [.ref a]) (h₀ := X.base) I1.ok.mod.kin hm.kp hall (thn (hkw.run pos pins s1 σ H1 _ I1 q) fun ws s2 ⟨zs, H2, I2, rz, q2⟩ => ⟨I2.kIn, ?_⟩) hpl
  rw [hks]
  exact run_fnk (us := [.ref a]) (vs := [.ref a]) F hr hb hx I2 (.cons rfl .nil) rz q2
theorem q_fld {f : Str} (he : PE X e ta) (hK : X.K = K := by rfl) (hb : attributeBase e f X.env (eval e X.env) = eval e X.env := by rfl) : PE X (.Attribute e f pos) (tFld K ta f) := hK ▸ pe_fld he hb
theorem q_con {f : Str} (he : PE X e ta) (hK : X.K = K := by rfl) (hb : attributeBase e f X.env (eval e X.env) = eval e X.env := by rfl) : PE X (.Attribute e f pos) (tCon K ta f) := hK ▸ pe_con he hb
theorem q_cval {f : Str} (he : PE X e ta) (hK : X.K = K := by rfl) (hb : attributeBase e f X.env (eval e X.env) = eval e X.env := by rfl) : PE X (.Attribute e f pos) (ClX.tCVal K ta f) := hK ▸ ClX.pe_cval he hb
end
/-! ### an exception that cannot be -/
theorem passF {X : Cx} : Passes (L2.CX X.prog X.w) X E0 := fun _ _ _ _ _ _ _ h => by
  obtain ⟨a, B, H', cls, d, _, _, _, _, _, _, _, q⟩ := h
  exact q.elim
theorem passT {X : Cx} {E : XK} (tk : Takes X (fun c d _ H => E c d H)) : Passes (L2.CX X.prog X.w) X E := fun pins σ H s e s' I h => tk e s' (XE.of_call I (fun cls d H' h => h) h)
end Rg
namespace PySem.W
open PySem PySem.Spec PySem.Calls PyProof.Rows
section
variable {prog : Program} {w : World} {A A₀ : Around} {E : Value → Shared → Prop} {s : Shared} {K : Frag} {x y C C' L f : Addr} {h₀ : Heap} {m : Str → Option Value} {ox oy : Obj} {od odd : Option Obj} {name : Str} {b tb : Value}
theorem ifBound_B {M : Model} {args : List Value} {id : String} {Q : Option Value → Shared → Prop} (X : K.In s.heap) (I : InstAt s.heap x ox C od) (hs : findIn K (.ref C) name = some (some (.builtin id))) (hb : ∀ self, bindSpecial (.builtin id) self = pure (.builtin id, [self]))
    (h : wpAny M A (call (.builtin id) (.ref x :: args)) (fun v => Q (some v)) E s) : wpAny M A (callSpecialIfBound? (.ref x) name args) Q E s := by
  simp only [callSpecialIfBound?, bindSpecialIfBound?]
  refine wpAny_holding (wpAny_bind (wpAny_bind (wpAny_bind (I.type.here ((looks_findIn X hs).here ?_)))))
  refine wpAny_bind (wpAny_askSetting (wpAny_ite ?_))
  have fin : wpAny M A (call (.builtin id) ([.ref x] ++ args) >>= fun v => pure (some v)) Q E s := wpAny_bind (wpAny_mono h (fun v s' h' => wpAny_pure h') fun _ _ h' => h')
  split
  · exact wpAny_bind ((Looks.of_pure (hb _)).here (wpAny_pure (by exact fin)))
  · exact wpAny_tryCatch (wpAny_bind ((Looks.of_pure (hb _)).here (wpAny_pure (by exact fin))))
/-- x == y, y of a class below x's: y's def is asked first -/
theorem cmp_R {Q : Value → Shared → Prop} (hu : A.units < cLine) (F : Fr h₀ L s.heap m) (X₀ : K.In h₀) (I : InstAt s.heap x ox C od) (I' : InstAt s.heap y oy C' odd) (hn : (Value.ref C != Value.ref C') = true) (hsub : subIn K (.ref C') (.ref C) = some true)
    (hs : findIn K (.ref C') "__eq__" = some (some (.ref f))) (hf : isFn K (.ref f) = true)
    (h : wpAny (model prog w) A (call (.ref f) [.ref y, .ref x]) (CmpBack Q) E s) : wpAny (model prog w) A (richCompare .Eq (.ref x) (.ref y)) Q E s := by
  have X := X₀.keeps F.keep
  have one : wpAny (model prog w) A (tryCompare (.ref y) "__eq__" (.ref x)) (fun r s' => ∃ v, r = some v ∧ Q v s') E s := by
    unfold tryCompare
    refine wpAny_bind (ifBound_K X I' hs hf (wpAny_mono h (fun v s' hv => ?_) fun _ _ e => e))
    cases v <;> first | exact hv.elim | exact wpAny_pure ⟨_, rfl, hv⟩
  unfold richCompare
  simp only [oneThing_ref]
  refine wpAny_holding (wpAny_bind (wpAny_cRoomFor hu ?_))
  refine wpAny_bind (I.type.here (wpAny_bind (I'.type.here ?_)))
  rw [if_pos hn]
  refine wpAny_bind ((looks_subIn X hsub).here ?_)
  simp only [if_true]
  refine wpAny_bind (m := tryCompare (.ref y) "__eq__" (.ref x)) (wpAny_mono one (fun r s' z => ?_) fun _ _ e => e)
  obtain ⟨v, rfl, hq⟩ := z
  first
    | exact wpAny_bind (wpAny_rule (wpAny_pure hq))
    | exact wpAny_pure hq
theorem ne_bind (self : Value) : bindSpecial (.builtin "object.__ne__") self = pure (.builtin "object.__ne__", [self]) := PySem.F.cmp_object.ne.bind self
theorem ne_K {Q : Value → Shared → Prop} (hu : A.units + 1 < cLine) (F : Fr h₀ L s.heap m) (X₀ : K.In h₀) (I : InstAt s.heap x ox C od) (hb : Looks (model prog w) s.heap (typeOf b) tb) (hn : notFirst K C tb = true)
    (hne : findIn K (.ref C) "__ne__" = some (some (.builtin "object.__ne__"))) (ho : mroIn K C (.type "object") = some true) (hs : findIn K (.ref C) "__eq__" = some (some (.ref f))) (hf : isFn K (.ref f) = true)
    (h : wpAny (model prog w) A.in1 (call (.ref f) [.ref x, b]) (BoolBack fun r s' => Q (.bool (!r)) s') E s) : wpAny (model prog w) A (richCompare .NotEq (.ref x) b) Q E s := by
  have X := X₀.keeps F.keep
  have one : wpAny (model prog w) A (tryCompare (.ref x) "__ne__" b) (fun r s' => ∃ v, r = some v ∧ Q v s') E s := by
    unfold tryCompare
    refine wpAny_bind (ifBound_B X I hne ne_bind (wpAny_call (codeAny_call_builtin PySem.F.cmp_object.ne.plain PySem.F.cmpEntry_ne (@check_slot (model prog w) _ _ s "object.__ne__" "object" "__ne__" (.ref x) [b] [] _ PySem.F.cmpKind_ne PySem.F.cmpSplit_ne (I.type.andThen (looks_mroIn X ho)) (PySem.F.cmpArgs_ne _ _) ?_))))
    unfold Builtin.«object.__ne__»
    have hu1 : A.in1.units < cLine := hu
    repeat (first | with_reducible refine wpAny_cRoomFor hu1 ?_ | (with_reducible refine ifBound_K X I hs hf (wpAny_mono h ?mono fun _ _ e => e)) | wp_step)
    intro v s' hv
    cases v <;> first | exact hv.elim | skip
    rename_i c
    cases c
    · repeat wp_step
      exact ⟨_, rfl, hv⟩
    · repeat wp_step
      exact ⟨_, rfl, hv⟩
  unfold richCompare
  simp only [oneThing_ref]
  refine wpAny_holding (wpAny_bind (wpAny_cRoomFor (by omega) ?_))
  refine wpAny_bind (I.type.here (wpAny_bind (hb.here ?_)))
  split
  · rename_i q
    have e : subIn K tb (.ref C) = some false := by
      rcases Bool.or_eq_true_iff.mp hn with e | e
      · rw [beq_iff_eq.mp e] at q; simp at q
      · exact beq_iff_eq.mp e
    refine wpAny_bind ((looks_subIn X e).here ?_)
    simp only [Bool.false_eq_true, if_false]
    refine wpAny_bind (m := tryCompare (.ref x) "__ne__" b) (wpAny_mono one (fun r s' z => ?_) fun _ _ e => e)
    obtain ⟨v, rfl, hq⟩ := z
    exact wpAny_pure hq
  · refine wpAny_bind (wpAny_pure ?_)
    simp only [Bool.false_eq_true, if_false]
    refine wpAny_bind (m := tryCompare (.ref x) "__ne__" b) (wpAny_mono one (fun r s' z => ?_) fun _ _ e => e)
    obtain ⟨v, rfl, hq⟩ := z
    exact wpAny_pure hq
end
end PySem.W
namespace Rg
open PySem PySem.Spec L2 RZ PyProof.Rows
/-! ### own ==, !=, repr -/
section
variable {X : Cx} {CX : CXT} {k : Nat} {f C : Addr} {fd : FuncData} {ps : List Str} {sp : Sp} {E : XK} {pins : List (Addr × Obj)} {σ : L2.St} {H : Hp} {s : Shared} {Q : VK} {us : List Value} {vs : List V} {K : PySem.W.Frag}
theorem ty_looks {x : V} {u t : Value} (I : Inv X pins σ H s) (rx : RelV x u) (ty : TyX X.K H x t) : PySem.W.Looks (model X.prog X.w) s.heap (typeOf u) t := by
  obtain ⟨P, Z, p, _⟩ := kit_of I rx ty
  exact Z.ty _ _ I.kIn p
theorem ins_at {a C dx : Addr} {fs : List (Str × V)} (I : Inv X pins σ H s) (e : H a = some (.ins C dx fs)) : ∃ ox od, PySem.W.InstAt s.heap a ox C (some od) := by
  obtain ⟨mA, O, _⟩ := ins_get I.hok e
  obtain ⟨od, J, _⟩ := O.look
  exact ⟨_, od, J⟩
theorem run_fnA {A : Around} (F : FnOk X.prog X.w X.K X.mg X.base CX k f fd ps sp) (hr : Room k A) (e0 : Env0 X.prog X.w X.K X.mg X.base A X.stack s H) (hb : Binds X.K fd ps []) (hx : Passes CX X E) (I : Inv X pins σ H s) (r : Vals vs us) (h : sp vs H Q E) :
    wpAny (model X.prog X.w) A (call (.ref f) us) (EP X pins σ Q) X.xe s := by
  have hl : us.length = ps.length := by rw [← r.length]; exact F.len _ _ _ _ h
  have b := hb s us I.kIn (by rw [List.append_nil]; exact hl)
  rw [List.append_nil] at b
  refine wpAny_call (codeAny_mono (F.run A X.stack s H ⟨us, []⟩ us vs Q E hr e0 b r h) fun r s' hq => ?_)
  cases r with
  | error e => exact hx pins σ H s e s' I hq
  | ok fl =>
    cases fl with
    | ret u => exact I.after hq
    | next => exact False.elim hq
    | brk => exact False.elim hq
    | cont => exact False.elim hq
theorem cmpback {P : Value → Shared → Prop} {z : V} {v : Value} {s' : Shared} (r : RelV z v) (h : P v s') : PySem.W.CmpBack P v s' := by
  cases z with
  | non => cases (show v = Value.none from r); exact h
  | bl b => cases (show v = Value.bool b from r); exact h
  | int i => obtain ⟨t, e⟩ := (show ∃ t, v = Value.int i t from r); cases e; exact h
  | str i => obtain ⟨t, e⟩ := (show ∃ t, v = Value.str i t from r); cases e; exact h
  | byt i => obtain ⟨t, e⟩ := (show ∃ t, v = Value.bytes i t from r); cases e; exact h
  | flt i => obtain ⟨t, e⟩ := (show ∃ t, v = Value.float i t from r); cases e; exact h
  | ref i => cases (show v = Value.ref i from r); exact h
  | ty n => cases (show v = Value.type n from r); exact h
def rEqO (K : PySem.W.Frag) (f : Addr) (sp : Sp) (E : XK) : R2 := fun x y H Q => ∃ a C dx fs, x = .ref a ∧ H a = some (.ins C dx fs) ∧
  ((∃ tb, PySem.W.findIn K (.ref C) "__eq__" = some (some (.ref f)) ∧ TyX K H y tb ∧ PySem.W.notFirst K C tb = true ∧ sp [x, y] H Q E) ∨
   ∃ b C' dy gs, y = .ref b ∧ H b = some (.ins C' dy gs) ∧ C ≠ C' ∧ PySem.W.subIn K (.ref C') (.ref C) = some true ∧ PySem.W.findIn K (.ref C') "__eq__" = some (some (.ref f)) ∧ sp [y, x] H Q E)
theorem q_eqO (hf : PySem.W.isFn X.K (.ref f) = true) (F : FnOk X.prog X.w X.K X.mg X.base CX k f fd ps sp) (hr : Room k X.A) (hb : Binds X.K fd ps []) (hx : Passes CX X E) (hK : X.K = K := by rfl) : OpR X (compareOp .Eq) (rEqO K f sp E) := by
  subst hK
  intro pins s σ H x y v u Q I rx ry h
  obtain ⟨a, C, dx, fs, rfl, ea, h⟩ := h
  cases (show v = Value.ref a from rx)
  obtain ⟨ox, od, J⟩ := ins_at I ea
  obtain ⟨m, hF⟩ := I.fr
  have hu : X.A.units < cLine := by have := hr.un; omega
  show wpAny (model X.prog X.w) X.A (richCompare .Eq (.ref a) u) _ _ s
  rcases h with ⟨tb, hs, ty, hn, q⟩ | ⟨b, C', dy, gs, rfl, eb, hne, hsub, hs, q⟩
  · refine PySem.W.cmp_K (op := .Eq) (tb := tb) hu hF I.ok.mod.kin J (ty_looks I ry ty) hn hs hf ?_
    exact wpAny_mono (run_fnA (us := [.ref a, u]) (vs := [.ref a, y]) F hr I.env0 hb hx I (.cons rfl (.cons ry .nil)) q) (fun w s' z => let ⟨z', H', I', rz, qz⟩ := z; cmpback rz ⟨z', H', I', rz, qz⟩) fun _ _ x => x
  · cases (show u = Value.ref b from ry)
    obtain ⟨oy, odd, J'⟩ := ins_at I eb
    refine PySem.W.cmp_R hu hF I.ok.mod.kin J J' (by simp [hne]) hsub hs hf ?_
    exact wpAny_mono (run_fnA (us := [.ref b, .ref a]) (vs := [.ref b, .ref a]) F hr I.env0 hb hx I (.cons rfl (.cons rfl .nil)) q) (fun w s' z => let ⟨z', H', I', rz, qz⟩ := z; cmpback rz ⟨z', H', I', rz, qz⟩) fun _ _ x => x
def rNeO (K : PySem.W.Frag) (f : Addr) (sp : Sp) (E : XK) : R2 := fun x y H Q => ∃ a C dx fs tb, x = .ref a ∧ H a = some (.ins C dx fs) ∧ PySem.W.findIn K (.ref C) "__ne__" = some (some (.builtin "object.__ne__")) ∧ PySem.W.mroIn K C (.type "object") = some true ∧
  PySem.W.findIn K (.ref C) "__eq__" = some (some (.ref f)) ∧ TyX K H y tb ∧ PySem.W.notFirst K C tb = true ∧ sp [x, y] H (fun z H' => ∃ b, z = .bl b ∧ Q (.bl (!b)) H') E
theorem q_neO (hf : PySem.W.isFn X.K (.ref f) = true) (F : FnOk X.prog X.w X.K X.mg X.base CX k f fd ps sp) (hr : Room (k + 1) X.A) (hb : Binds X.K fd ps []) (hx : Passes CX X E) (hK : X.K = K := by rfl) : OpR X (compareOp .NotEq) (rNeO K f sp E) := by
  subst hK
  intro pins s σ H x y v u Q I rx ry h
  obtain ⟨a, C, dx, fs, tb, rfl, ea, hne, ho, hs, ty, hn, q⟩ := h
  cases (show v = Value.ref a from rx)
  obtain ⟨ox, od, J⟩ := ins_at I ea
  obtain ⟨m, hF⟩ := I.fr
  show wpAny (model X.prog X.w) X.A (richCompare .NotEq (.ref a) u) _ _ s
  refine PySem.W.ne_K (by have := hr.un; omega) hF I.ok.mod.kin J (ty_looks I ry ty) hn hne ho hs hf ?_
  refine wpAny_mono (run_fnA (us := [.ref a, u]) (vs := [.ref a, y]) F hr.in1 I.env0.in1 hb hx I (.cons rfl (.cons ry .nil)) q) (fun w s' z => ?_) fun _ _ x => x
  obtain ⟨z', H', I', rz, b, eb, qz⟩ := z
  subst eb
  cases (show w = Value.bool b from rz)
  exact ⟨.bl (!b), H', I', rfl, qz⟩
def rReprO (K : PySem.W.Frag) (f : Addr) (sp : Sp) (E : XK) : List V → Hp → VK → Prop := fun xs H Q => ∃ a C dx fs, xs = [.ref a] ∧ H a = some (.ins C dx fs) ∧ PySem.W.findIn K (.ref C) "__repr__" = some (some (.ref f)) ∧ sp [.ref a] H (fun z H' => ∃ y, z = .str y ∧ Q z H') E
theorem q_reprO (hf : PySem.W.isFn X.K (.ref f) = true) (F : FnOk X.prog X.w X.K X.mg X.base CX k f fd ps sp) (hr : Room (k + 1) X.A) (hb : Binds X.K fd ps []) (hx : Passes CX X E) (hK : X.K = K := by rfl) : CallR X (.builtin "repr") (rReprO K f sp E) := by
  subst hK
  intro pins s σ H xs us Q I r h
  obtain ⟨a, C, dx, fs, rfl, ea, hs, q⟩ := h
  obtain ⟨u, rfl, ru⟩ := r.one
  cases (show u = Value.ref a from ru)
  obtain ⟨ox, od, J⟩ := ins_at I ea
  obtain ⟨m, hF⟩ := I.fr
  refine PySem.W.repr_K (by have := hr.in1.un; omega) hF I.ok.mod.kin J hs hf ?_
  refine wpAny_mono (run_fnA (us := [.ref a]) (vs := [.ref a]) F hr.in1 I.env0.in1 hb hx I (.cons rfl .nil) q) (fun w s' z => ?_) fun _ _ x => x
  obtain ⟨z', H', I', rz, y, eb, qz⟩ := z
  subst eb
  obtain ⟨t, e⟩ := (show ∃ t, w = Value.str y t from rz)
  cases e
  exact ⟨.str y, H', I', ⟨t, rfl⟩, qz⟩
end
end Rg
namespace Rg
open PySem PySem.Spec L2 RZ PyProof.Rows
/-! ### a walk within a block -/
section
variable {X : Cx} {scope : Scope} {fp : List Addr} {it : Addr} {tg : Expr} {J : It} {tn : Nat → Heap → Prop} {ce : Env} {sB : Shared} {HB : Hp} {ρ : L2.St} {i : Nat} {H : Hp} {s : Shared}
/-- where it stands -/
structure Lp (Y : Cx) (fp : List Addr) (tn : Nat → Heap → Prop) (ρ : L2.St) (i : Nat) (H : Hp) (s : Shared) : Prop where
  run : Inv Y [] ρ H s
  pos : tn i s.heap
  clr : ∀ b ∈ fp, H b = none
/-- what it walks with is nobody else's -/
theorem Lp.own (l : Lp (X.blk sB HB scope ce fp) fp tn ρ i H s) : ∀ b ∈ fp, FpOk (X.blk sB HB scope ce fp) [] H b := by
  intro b hb
  have k := l.run.ok
  exact ⟨l.clr b hb, (k.exf b hb).1, k.exfs b hb, Or.inl hb, (k.exf b hb).2, fun p hp => absurd (show p ∈ ([] : List (Addr × Obj)) from hp) List.not_mem_nil⟩
/-- behind the last item the def goes on -/
theorem blk_leave {pins : List (Addr × Obj)} {σ : L2.St} (h : Inv X pins σ HB sB) (f : ∀ b ∈ fp, FpOk X pins HB b) (l : Inv (X.blk sB HB scope ce fp) [] ρ H s) : Inv X pins σ H s :=
  h.call' (ch := fp) l.os l.base l.hok l.bare fun b hb => let ⟨_, a, _, c, d, e⟩ := f b hb; ⟨c, a, d, e⟩
end
end Rg
namespace Rg
open PySem PySem.Spec L2 RZ PyProof.Rows
/-! ### sorted of a list of data, any length -/
def leT (p q : V × PyData) : Bool := !PySem.W.dataLt q.2 p.2
def rSortDt (K : PySem.W.Frag) : List V → Hp → VK → Prop := fun vs H Q => ∃ (a : Addr) (xs : List V) (ds : List PyData), vs = [.ref a] ∧ SqL K H a xs ∧ DpAll K H xs ds ∧ PySem.W.AllAlike ds ∧ PySem.W.Sortable ds ∧ (∀ d ∈ ds, d.depth ≤ 64) ∧
  ∀ p, H p = none → Q (.ref p) (upd H p (.lst (((xs.zip ds).mergeSort leT).map (·.1))))
section
variable {X : Cx} {K : PySem.W.Frag}
theorem dps_len {H : Hp} : ∀ {xs : List V} {ds : List PyData}, DpAll K H xs ds → xs.length = ds.length
  | _, _, .nil => rfl
  | _, _, .cons _ r => by rw [List.length_cons, List.length_cons, dps_len r]
theorem each_of {pins : List (Addr × Obj)} {σ : L2.St} {H : Hp} {s : Shared} (I : Inv X pins σ H s) : ∀ {xs : List V} {ds : List PyData} {us : List Value}, DpAll X.K H xs ds → Vals xs us →
    PySem.W.EachIs (fun v (b : V × PyData) => RelV b.1 v) us (xs.zip ds) ∧ PySem.W.EachIs (fun v (b : V × PyData) => ∃ as, Reads s.heap v b.2 as) us (xs.zip ds)
  | _, _, _, .nil, .nil => ⟨.nil, .nil⟩
  | _, _, _, .cons h r, .cons rv rt => by
    obtain ⟨e1, e2⟩ := each_of I r rt
    exact ⟨.cons rv e1, .cons (Dp.reads I _ _ _ h rv) e2⟩
theorem vals_each : ∀ {us : List Value} {bs : List (V × PyData)}, PySem.W.EachIs (fun v (b : V × PyData) => RelV b.1 v) us bs → Vals (bs.map (·.1)) us
  | _, _, .nil => .nil
  | _, _, .cons h r => .cons h (vals_each r)
theorem q_sortDt (hu : X.A.units + 70 < cLine) (hK : X.K = K := by rfl) : CallR X (.builtin "sorted") (rSortDt K) := by
  subst hK
  intro pins s σ H vs us Q I r h
  obtain ⟨a, xs, ds, rfl, hs, hd, hal, hk, hdp, q⟩ := h
  obtain ⟨its, rv, hl, hLL⟩ := I.list hs
  rw [Vals.ref1 r]
  have hlen0 := rv.length
  obtain ⟨e1, e2⟩ := each_of I hd rv
  have hz : (xs.zip ds).length = xs.length := by rw [List.length_zip, dps_len hd, Nat.min_self]
  have hmap : (xs.zip ds).map (·.2) = ds := List.map_snd_zip (Nat.le_of_eq (dps_len hd).symm)
  have hsz : xs.length ≤ sizeLine := hLL
  refine PySem.W.sorted_data (bs := xs.zip ds) (enc := (·.2)) (R := fun v (b : V × PyData) => RelV b.1 v) hl.isList e1 e2 (by rw [hmap]; exact hal) (by rw [hmap]; exact hk) (by rw [hz]; exact hsz) (fun b hb => ?_) fun out hlo ho => ?_
  · have := hdp b.2 (by rw [← hmap]; exact List.mem_map.mpr ⟨b, hb, rfl⟩)
    omega
  · obtain ⟨ep, he'⟩ := PyProof.Rows.sortedAll_at s.heap its (List.toArray out)
    have ev : Vals (((xs.zip ds).mergeSort leT).map (·.1)) out := vals_each ho
    refine ⟨.ref _, upd H (s.heap.objs.size + 1) (.lst (((xs.zip ds).mergeSort leT).map (·.1))), I.laid (t' := s.toks) (fun _ _ => PyProof.Rows.sortedAll_old) (Nat.le_succ _) ⟨by rw [ev.length, hlo, hz]; exact hsz, out, ep, ev, ?_⟩, rfl, q _ (I.hok.fresh (Nat.le_succ _))⟩
    exact he'
end
/-! told of the data -/
def leD (a b : D) : Bool := !PySem.W.dataLt (pyT b) (pyT a)
def sortD (ds : List D) : List D := ds.mergeSort leD
theorem pyTs_map : ∀ ds : List D, pyTs ds = ds.map pyT
  | [] => rfl
  | d :: r => by show pyT d :: pyTs r = _; rw [pyTs_map r]; rfl
theorem rpAll_of {K : PySem.W.Frag} {G : Hp} : ∀ {l : List (V × D)}, (∀ p ∈ l, Rp K G p.1 p.2) → RpAll K G (l.map (·.1)) (l.map (·.2))
  | [], _ => .nil
  | p :: r, h => .cons (h p List.mem_cons_self) (rpAll_of fun q hq => h q (List.mem_cons_of_mem _ hq))
theorem rpAll_zip {K : PySem.W.Frag} {G : Hp} : ∀ {vs : List V} {ds : List D}, RpAll K G vs ds → ∀ p ∈ vs.zip ds, Rp K G p.1 p.2
  | _, _, .nil, p, h => by cases h
  | _, _, .cons h r, p, hp => by
    rcases List.mem_cons.mp hp with e | e
    · rw [e]; exact h
    · exact rpAll_zip r p e
/-- data that can be sorted together -/
def srtD (n : Nat) (ds : List D) : Prop := ds.all (flD n) = true ∧ PySem.W.AllAlike (ds.map pyT) ∧ PySem.W.Sortable (ds.map pyT)
section
variable {K : PySem.W.Frag} {M : Mt}
theorem cd_sortD {n : Nat} {ds : List D} (h : srtD n ds) (hn : n ≤ 64 := by decide) : CallD K M (rSortDt K) [.list ds] (· = .list (sortD ds)) := fun M' G H xs Q m r w q => by
  cases r with
  | cons p r =>
    cases r
    obtain ⟨a, us, rfl, hx, ru⟩ := p.list_inv
    have dp := dps_of w.sub h.1 ru
    rw [pyTs_map] at dp
    refine ⟨a, us, ds.map pyT, rfl, w.sub.seq hx, dp, h.2.1, h.2.2, fun d hd => ?_, fun p hp => ?_⟩
    · obtain ⟨e, he, rfl⟩ := List.mem_map.mp hd
      exact Nat.le_trans (lay_of n e (List.all_eq_true.mp h.1 e he)).2 hn
    · have sn := same_new (o := HO.lst (((us.zip (ds.map pyT)).mergeSort leT).map (·.1))) (w.free hp)
      refine q (.ref p) _ _ _ sn (w.new hp) (.lst upd_same (RpAll.mono sn ?_)) rfl
      have e1 : us.zip (ds.map pyT) = (us.zip ds).map fun p => (p.1, pyT p.2) := by
        rw [List.zip_map_right]; rfl
      have e2 : (us.zip (ds.map pyT)).mergeSort leT = ((us.zip ds).mergeSort fun p q => leD p.2 q.2).map fun p => (p.1, pyT p.2) := by
        rw [e1, List.map_mergeSort (s := leT)]
        intro a _ b _; rfl
      have e3 : sortD ds = ((us.zip ds).mergeSort fun p q => leD p.2 q.2).map (·.2) := by
        rw [List.map_mergeSort (s := leD) (fun a _ b _ => rfl), List.map_snd_zip (Nat.le_of_eq ru.length.symm)]
        rfl
      rw [e2, e3, List.map_map]
      exact rpAll_of fun p hp => rpAll_zip ru p ((List.mergeSort_perm _ _).mem_iff.mp hp)
variable {o : Own} {ds : DS} {te : TE}
theorem evw_sortD {n : Nat} {es : List D} (he : Ev K (M.adds (ownM K o)) ds te (· = .list es)) (h : srtD n es) (hn : n ≤ 64 := by decide) : EvW K M o ds (tCB (rSortDt K) (tCons te tNil)) (fun o' d => ∃ p, o' = (p, .lst (sortD es)) :: o ∧ d = .raw (.ref p)) := fun M' σ G H Q m s w q =>
  he (M'.adds (ownM K o)) σ G H _ m.adds2 s w fun v d G1 H1 s1 w1 r1 e => by
    subst e
    obtain ⟨a, us, rfl, hx, ru⟩ := r1.list_inv
    have dp := dps_of w1.sub h.1 ru
    rw [pyTs_map] at dp
    refine ⟨a, us, es.map pyT, rfl, w1.sub.seq hx, dp, h.2.1, h.2.2, fun d hd => ?_, fun p hp => ?_⟩
    · obtain ⟨e, he, rfl⟩ := List.mem_map.mp hd
      exact Nat.le_trans (lay_of n e (List.all_eq_true.mp h.1 e he)).2 hn
    · refine q (.ref p) (.raw (.ref p)) ((p, .lst (sortD es)) :: o) G1 _ s1 (w1.newW hp ⟨_, rfl, ?_⟩) (.raw _) ⟨p, rfl, rfl⟩
      have e1 : us.zip (es.map pyT) = (us.zip es).map fun p => (p.1, pyT p.2) := by
        rw [List.zip_map_right]; rfl
      have e2 : (us.zip (es.map pyT)).mergeSort leT = ((us.zip es).mergeSort fun p q => leD p.2 q.2).map fun p => (p.1, pyT p.2) := by
        rw [e1, List.map_mergeSort (s := leT)]
        intro a _ b _; rfl
      have e3 : sortD es = ((us.zip es).mergeSort fun p q => leD p.2 q.2).map (·.2) := by
        rw [List.map_mergeSort (s := leD) (fun a _ b _ => rfl), List.map_snd_zip (Nat.le_of_eq ru.length.symm)]
        rfl
      rw [e2, e3, List.map_map]
      exact rpAll_of fun p hp => rpAll_zip ru p ((List.mergeSort_perm _ _).mem_iff.mp hp)
end
end Rg
namespace Rg
open PySem PySem.Spec L2 RZ PyProof.Rows
/-! ### a def's promise over what is owned -/
/-- pre: what changes besides, what is owned, the arguments; post, px: what is owned behind it, what it gives or raises -/
def spW (K : PySem.W.Frag) (pre : Ml → Own → List D → Prop) (post px : Own → List D → Own → D → Prop) : Sp := fun vs H Q E => ∃ M o G as, Wd0 (ownM K o ++ M) G H ∧ RpAll K G vs as ∧ pre M o as ∧
  (∀ v d o' G' H', Same G G' → Wd0 (ownM K o' ++ M) G' H' → Rp K G' v d → post o as o' d → Q v H') ∧ ∀ c dx x o' G' H', Same G G' → Wd0 (ownM K o' ++ M) G' H' → XRp K G' c dx x → px o as o' x → E c dx H'
abbrev noX : Own → List D → Own → D → Prop := fun _ _ _ _ => False
abbrev mfnW (K : PySem.W.Frag) (M : Ml) (E : XK) (px : Own → D → Prop) : Mt := { l := M, b := M, sub := List.Sublist.refl _, ex := fun l' G _ c d => ∃ o' x, l' = ownM K o' ∧ px o' x ∧ XRp K G c d x, W := fun c d _ H => E c d H }
/-- M takes the exception x from the slots ds, o2 of what is owned is handed on -/
def ExkW (K : PySem.W.Frag) (M : Mt) (o2 : Own) (x : D) (ds : DS) : Prop := ∀ G σ c d, XRp K G c d x → Sg K G σ ds → M.ex (ownM K o2) G σ c d
theorem exkw_fn {K : PySem.W.Frag} {M : Ml} {E : XK} {px : Own → D → Prop} {o2 : Own} {x : D} {ds : DS} (h : px o2 x) : ExkW K (mfnW K M E px) o2 x ds := fun _ _ _ _ hx _ => ⟨o2, x, rfl, h, hx⟩
theorem ownM_app (K : PySem.W.Frag) (a b : Own) : ownM K (a ++ b) = ownM K a ++ ownM K b := List.map_append
section
variable {P : Program} {w : World} {K : PySem.W.Frag} {mg : Str → Option Value} {base : Heap} {pre : Ml → Own → List D → Prop} {post px : Own → List D → Own → D → Prop}
theorem spW_run {N : List Str} {t : TS} {vs : List V} {H : Hp} {Q : VK} {E : XK} (hrun : ∀ M o as, pre M o as → RunW K (mfnW K M E (px o as)) o (as.map some ++ List.replicate (N.length - as.length) none) t { nx := fun o' _ => post o as o' .non, rt := post o as }) (h : spW K pre post px vs H Q E) :
    t { nx := fun _ H' => Q .non H', rt := Q } (start N vs) H := by
  obtain ⟨M, o, G, as, wd, r, hp, q, qx⟩ := h
  exact hrun M o as hp _ _ G H _ (MSub.refl _) (Sg.start r) ⟨wd, fun l' c d σ' G' H' ⟨o', x, el, hpx, hx⟩ s' w' => qx c d x o' G' H' s' (by subst el; exact w') hx hpx⟩
    ⟨fun o' ds' σ' G' H' e s' _ w' => q _ _ o' G' H' s' w'.toWd0 .non e, fun v o' d G' H' e s' r' w' => q v d o' G' H' s' w'.toWd0 r' e, fun _ _ _ _ _ e => e.elim, fun _ _ _ _ _ e => e.elim⟩
theorem spW_len {vs : List V} {H : Hp} {Q : VK} {E : XK} {n : Nat} (hl : ∀ M o as, pre M o as → as.length = n) (h : spW K pre post px vs H Q E) : vs.length = n := by
  obtain ⟨M, o, G, as, _, r, hp, _⟩ := h
  rw [r.length]
  exact hl M o as hp
theorem fn_runW {x qual : Str} {st : Stmt} {f : Addr} {fd : FuncData} {N ps : List Str} {k : Nat} (F : Fun K x qual st f fd) (S : FnScope N ps (defScope st)) (hl : ∀ M o as, pre M o as → as.length = ps.length)
    (body : ∀ (cdv : Value) (A : Around) (outer : List Env) (s : Shared) (H : Hp) (E : XK), Room k (A.deeper (envOfC qual (defScope st) s.heap.objs.size f cdv)) →
      ∃ t, PSs (cxOf CX0 P w K mg base N qual (defScope st) f cdv A outer s H E).nox (defBody st) t ∧
        ∀ (M : Mt) o as, pre M.l o as → RunW K M o (as.map some ++ List.replicate (N.length - as.length) none) t { nx := fun o' _ => post o as o' .non, rt := post o as }) : FnOk P w K mg base CX0 (k + 1) f fd ps (spW K pre post noX) := by
  refine F.ok S (fun vs H Q E h => spW_len hl h) (fun cdv A outer s H vs Q E hr h => ?_)
  obtain ⟨t, ht, hrun⟩ := body cdv A outer s H E hr
  exact ⟨t, ht, spW_run (fun M o as hp => hrun _ o as hp) h⟩
theorem fn_runWX {x qual : Str} {st : Stmt} {f : Addr} {fd : FuncData} {N ps : List Str} {k : Nat} (F : Fun K x qual st f fd) (S : FnScope N ps (defScope st)) (hl : ∀ M o as, pre M o as → as.length = ps.length)
    (body : ∀ (X : Cx) (cdv : Value) (A : Around) (outer : List Env) (s : Shared) (H : Hp) (E : XK), X = cxOf (L2.CX P w) P w K mg base N qual (defScope st) f cdv A outer s H E → Room k (A.deeper (envOfC qual (defScope st) s.heap.objs.size f cdv)) → Takes X (fun c d _ H => E c d H) →
      ∃ t, PSs (cxOf (L2.CX P w) P w K mg base N qual (defScope st) f cdv A outer s H E) (defBody st) t ∧
        ∀ (M : Ml) o as, pre M o as → RunW K (mfnW K M E (px o as)) o (as.map some ++ List.replicate (N.length - as.length) none) t { nx := fun o' _ => post o as o' .non, rt := post o as }) : FnOk P w K mg base (L2.CX P w) (k + 1) f fd ps (spW K pre post px) := by
  refine F.okX S (fun vs H Q E h => spW_len hl h) (fun cdv A outer s H vs Q E hr h => ?_)
  obtain ⟨t, ht, hrun⟩ := body _ cdv A outer s H E rfl hr (takes_of (X := cxOf (L2.CX P w) P w K mg base N qual (defScope st) f cdv A outer s H E) rfl rfl rfl rfl)
  exact ⟨t, ht, spW_run hrun h⟩
end
section
variable {K : PySem.W.Frag} {M : Mt} {o o1 o2 : Own} {ds : DS} {te to : TE} {ta : TA} {R : Own → D → Prop} {E : XK} {pre : Ml → Own → List D → Prop} {post px : Own → List D → Own → D → Prop}
/-- an exception leaves with what is owned -/
theorem Wd.toWW {M' : Mt} {W : WX} {G G1 H H1 : Hp} {σ : L2.St} {c : Value} {dx : Option Addr} {x : D} {o o' o3 : Own} (w : Wd (M'.adds (ownM K o)) G H) (m : MSub M M') (hW : M.W = W) (s1 : Same G G1) (w1 : Wd0 (ownM K o' ++ M'.l) G1 H1) (sb : o3.Sublist o') (sg : Sg K G1 σ ds) (hx : XRp K G1 c dx x) (k : ExkW K M o3 x ds) : W c dx σ H1 := by
  have z := w.xk (ownM K o3) c dx σ G1 H1 (by show M'.ex _ _ _ _ _; rw [m.ex]; exact k G1 σ c dx hx sg) s1 (w1.less (List.Sublist.append (sb.map _) M'.sub))
  have z : M'.W c dx σ H1 := z
  rw [m.W, hW] at z
  exact z
/-- a call: o1 is handed to the callee, o2 stays -/
theorem evw_call {RA : List D → Prop} (ha : EvA K (M.adds (ownM K (o1 ++ o2))) ds ta RA) (h : ∀ as, RA as → (∀ M', MSub M M' → pre (ownM K o2 ++ M'.l) o1 as) ∧ (∀ o' d, post o1 as o' d → R (o' ++ o2) d) ∧ ∀ o' x, ¬ px o1 as o' x) :
    EvW K M (o1 ++ o2) ds (tCall (spW K pre post px) [] E ta) R := fun M' σ G H Q m s w q =>
  ha (M'.adds (ownM K (o1 ++ o2))) σ G H _ m.adds2 s w fun vs as G1 H1 s1 w1 r1 e => by
    have e0 : ∀ o', ownM K (o' ++ o2) ++ M'.l = ownM K o' ++ (ownM K o2 ++ M'.l) := fun o' => by rw [ownM_app, List.append_assoc]
    refine ⟨ownM K o2 ++ M'.l, o1, G1, as, by rw [← e0]; exact w1.toWd0, by rw [List.append_nil]; exact r1, (h as e).1 M' m, fun v d o' G2 H2 s2 w2 r2 p2 => ?_, fun _ _ x o' _ _ _ _ _ z => ((h as e).2.2 o' x z).elim⟩
    refine q v d (o' ++ o2) G2 H2 (s1.trans s2) ⟨by show Wd0 (ownM K (o' ++ o2) ++ M'.l) G2 H2; rw [e0]; exact w2, fun l' cls d σ G3 H3 x s3 => w1.xk l' cls d σ G3 H3 x (s2.trans s3)⟩ r2 ((h as e).2.1 o' d p2)
/-- a new instance: the making itself -/
theorem make_go {C x dx : Addr} {M' : Mt} {σ : L2.St} {G H1 : Hp} {Q : VK} {R : D → Prop} {as : List D} {vs : List V} (m : MSub M M') (sg : Sg K G σ ds) (w1 : Wd M' G H1) (r1 : RpAll K G vs (.raw (.ref x) :: as)) (hx : H1 x = none) (hdx : H1 dx = none) (hne : dx ≠ x)
    (hpre : pre M'.l [(x, .ins C [])] (.raw (.ref x) :: as)) (hpost : ∀ o' d, post [(x, .ins C [])] (.raw (.ref x) :: as) o' d → d = .non ∧ ∃ fs, o' = [(x, .ins C fs)] ∧ R (.obj C (fs.map (·.1)) (fs.map (·.2))))
    (hpx : ∀ o' y, px [(x, .ins C [])] (.raw (.ref x) :: as) o' y → M.W = (fun c d _ H => E c d H) ∧ Exk K M y ds)
    (q : ∀ v d G' H', Same G G' → Wd M' G' H' → Rp K G' v d → R d → Q v H') : spW K pre post px vs (upd (upd H1 dx (.own x)) x (.ins C dx [])) (fun v H2 => v = .non ∧ Q (.ref x) H2) E := by
  have w2 : Wd M' G (upd H1 dx (.own x)) := ⟨⟨fun a u e => by rw [upd_ne (ne_of_none (w1.sub _ _ e) hdx)]; exact w1.sub a u e, fun p hp => by
    obtain ⟨g, u, hu, f⟩ := w1.mt p hp
    exact ⟨g, u, by rw [upd_ne (ne_of_none hu hdx)]; exact hu, f⟩, w1.mono, w1.nd⟩, w1.xk⟩
  have hx2 : upd H1 dx (.own x) x = none := by rw [upd_ne (Ne.symm hne)]; exact hx
  have w3 : Wd0 (ownM K [(x, .ins C [])] ++ M'.l) G (upd (upd H1 dx (.own x)) x (.ins C dx [])) := w2.toWd0.newM hx2 (φ := obP K (.ins C [])) ⟨dx, [], rfl, rfl, .nil⟩ obP.mono
  refine ⟨M'.l, [(x, .ins C [])], G, .raw (.ref x) :: as, w3, r1, hpre, fun v d o' G2 H2 s2 w4 r2 p2 => ?_, fun c d y o' G2 H2 s2 w4 hy z => ?_⟩
  · obtain ⟨ed, fs, eo, hR⟩ := hpost o' d p2
    subst ed; subst eo
    have w5 : Wd (M'.adds (ownM K [(x, .ins C fs)])) G2 H2 := ⟨w4, fun l' cls d σ G3 H3 y s3 => w1.xk l' cls d σ G3 H3 y (s2.trans s3)⟩
    obtain ⟨u, hu, f, g, w6⟩ := w5.freezeW (o := [])
    exact ⟨r2.non_inv, q (.ref x) _ (upd G2 x u) H2 (s2.trans (same_new g)) w6 (rp_frozen f g rfl) hR⟩
  · obtain ⟨hW, k⟩ := hpx o' y z
    exact w1.toW (σ := σ) m hW s2 (w4.less (List.sublist_append_right _ _)) (sg.mono s2) hy k
theorem ev_make {C : Addr} {RA : List D → Prop} {R : D → Prop} (ha : EvA K M ds ta RA)
    (h : ∀ p as, RA as → (∀ M', MSub M M' → pre M'.l [(p, .ins C [])] (.raw (.ref p) :: as)) ∧ (∀ o' d, post [(p, .ins C [])] (.raw (.ref p) :: as) o' d → d = .non ∧ ∃ fs, o' = [(p, .ins C fs)] ∧ R (.obj C (fs.map (·.1)) (fs.map (·.2)))) ∧
      ∀ o' y, px [(p, .ins C [])] (.raw (.ref p) :: as) o' y → M.W = (fun c d _ H => E c d H) ∧ Exk K M y ds) :
    Ev K M ds (tMake C (spW K pre post px) [] E ta) R := fun M' σ G H Q m s w q =>
  ha M' σ G H _ m s w fun vs as G1 H1 s1 w1 r1 e x dx hx hdx hne => by
    obtain ⟨h1, h2, h3⟩ := h x as e
    exact make_go m (s.mono s1) w1 (by rw [List.append_nil]; exact .cons (.raw _) r1) hx hdx hne (h1 M' m) h2 h3 fun v d G' H' a b c r => q v d G' H' (s1.trans a) b c r
/-- by keywords alone -/
theorem ev_makeK {C : Addr} {n : Nat} {RA : List D → Prop} {R : D → Prop} {gV : List V → List V → List V} {gD : D → List D → List D} (ha : EvA K M ds ta RA) (hn : ∀ as, RA as → as.length = n)
    (hg : ∀ G p vs as, RA as → RpAll K G vs as → RpAll K G (gV [.ref p] vs) (.raw (.ref p) :: gD (.raw (.ref p)) as))
    (h : ∀ p as, RA as → (∀ M', MSub M M' → pre M'.l [(p, .ins C [])] (.raw (.ref p) :: gD (.raw (.ref p)) as)) ∧ (∀ o' d, post [(p, .ins C [])] (.raw (.ref p) :: gD (.raw (.ref p)) as) o' d → d = .non ∧ ∃ fs, o' = [(p, .ins C fs)] ∧ R (.obj C (fs.map (·.1)) (fs.map (·.2)))) ∧
      ∀ o' y, px [(p, .ins C [])] (.raw (.ref p) :: gD (.raw (.ref p)) as) o' y → M.W = (fun c d _ H => E c d H) ∧ Exk K M y ds) :
    Ev K M ds (tMakeK C 0 n (spW K pre post px) gV E tNil ta) R := fun M' σ G H Q m s w q =>
  ha M' σ G H _ m s w fun vs as G1 H1 s1 w1 r1 e => by
    refine ⟨rfl, by rw [r1.length, hn as e], fun x dx hx hdx hne => ?_⟩
    obtain ⟨h1, h2, h3⟩ := h x as e
    exact make_go m (s.mono s1) w1 (hg G1 x vs as e r1) hx hdx hne (h1 M' m) h2 h3 fun v d G' H' a b c r => q v d G' H' (s1.trans a) b c r
end
/-! ### fields, constants, methods -/
section
variable {K : PySem.W.Frag} {M : Mt} {o : Own} {ds : DS} {te tv : TE} {ta : TA} {R : D → Prop} {E : XK} {C : Addr} {ns : List Str} {es : List D} {f : Str} {d : D}
theorem ev_fld (he : Ev K M ds te (· = .obj C ns es)) (c : Cls K C) (hno : NoAttr K C f) (h : fldD ns es f = some d) : Ev K M ds (tFld K te f) (· = d) := fun M' σ G H Q m s w q =>
  he M' σ G H _ m s w fun v d1 G1 H1 s1 w1 r1 e => by
    subst e
    cases r1 with
    | obj h1 r =>
      obtain ⟨u, hu, ru⟩ := fld_of r h
      exact ⟨_, C, _, _, u, rfl, w1.sub _ _ h1, c, hno, hu, q u d G1 H1 s1 w1 ru rfl⟩
theorem look_none {fs : List (Str × V)} (h : fs.map (·.1) = ns) (hn : f ∉ ns) : fs.lookup f = none := by
  rw [List.lookup_eq_none_iff]
  intro p hp
  have : p.1 ∈ ns := by rw [← h]; exact List.mem_map.mpr ⟨p, hp, rfl⟩
  simp only [beq_eq_false_iff_ne, ne_eq, bne_iff_ne]
  intro e
  exact hn (e ▸ this)
theorem ev_con {v : V} {u : Value} (he : Ev K M ds te (· = .obj C ns es)) (c : Cls K C) (k : Con K C f v u) (hn : f ∉ ns) (hd : ∀ G, Rp K G v d) : Ev K M ds (tCon K te f) (· = d) := fun M' σ G H Q m s w q =>
  he M' σ G H _ m s w fun v1 d1 G1 H1 s1 w1 r1 e => by
    cases r1 with
    | obj h1 r =>
      injection e with e1 e2 e3
      subst e1
      exact ⟨_, _, _, _, v, u, rfl, w1.sub _ _ h1, c, k, look_none e2 hn, q v d G1 H1 s1 w1 (hd G1) rfl⟩
    | _ => cases e
theorem ev_cval {mc : Value} {v : V} {u : Value} (he : Ev K M ds te (· = .raw (.ref C))) (r : ClX.CRead K C mc) (k : ClX.CVal K C mc f v u) (hd : ∀ G, Rp K G v d) : Ev K M ds (ClX.tCVal K te f) (· = d) := fun M' σ G H Q m s w q =>
  he M' σ G H _ m s w fun v1 d1 G1 H1 s1 w1 r1 e => by
    subst e
    exact ⟨C, mc, v, u, r1.raw_inv, r, k, q v d G1 H1 s1 w1 (hd G1) rfl⟩
variable {g : Addr} {mn : Str} {pre : Ml → List D → Prop} {post : List D → D → Prop}
theorem obj_at {G : Hp} {v : V} (r : Rp K G v (.obj C ns es)) : ∃ a dx fs, v = .ref a ∧ G a = some (.ins C dx fs) ∧ fs.map (·.1) = ns := by
  generalize e : D.obj C ns es = z at r
  cases r with
  | obj h1 r =>
    injection e with e1 e2 e3
    subst e1
    exact ⟨_, _, _, rfl, h1, e2.symm⟩
  | _ => cases e
theorem ev_meG {RA : List D → Prop} (he : Ev K M ds te (· = .obj C ns es)) (c : Cls K C) (hm : Meth K C mn g) (hn : mn ∉ ns) (ha : EvA K M ds ta RA) (h : ∀ as, RA as → (∀ M', MSub M M' → pre M'.l (.obj C ns es :: as)) ∧ ∀ d, post (.obj C ns es :: as) d → R d) :
    Ev K M ds (tMeG K g mn (spF K pre post) [] E te ta) R := fun M' σ G H Q m s w q =>
  he M' σ G H _ m s w fun v d1 G1 H1 s1 w1 r1 e => by
    subst e
    obtain ⟨a, dx, fs, rfl, h1, h2⟩ := obj_at r1
    refine ⟨a, C, dx, fs, rfl, w1.sub _ _ h1, c, hm, look_none h2 hn, ha M' σ G1 H1 _ m (s.mono s1) w1 fun vs as G2 H2 s2 w2 r2 e2 => ?_⟩
    exact ⟨M'.l, G2, .obj C ns es :: as, w2.toWd0, by rw [List.append_nil]; exact .cons (r1.mono s2) r2, (h as e2).1 M' m, fun v d G3 H3 s3 w3 r3 p3 => q v d G3 H3 ((s1.trans s2).trans s3) (w2.to s3 w3) r3 ((h as e2).2 d p3), fun _ _ _ _ _ _ _ _ z => z.elim⟩
/-- one keyword -/
theorem ev_meGK {RA : List D → Prop} {gV : List V → List V → List V} {gD : D → List D → List D} (he : Ev K M ds te (· = .obj C ns es)) (c : Cls K C) (hm : Meth K C mn g) (hn : mn ∉ ns) (ha : EvA K M ds ta RA) (hg : ∀ G v d vs as, RA as → Rp K G v d → RpAll K G vs as → RpAll K G (gV [v] vs) (gD d as))
    (h : ∀ as, RA as → (∀ M', MSub M M' → pre M'.l (gD (.obj C ns es) as)) ∧ ∀ d, post (gD (.obj C ns es) as) d → R d) :
    Ev K M ds (tMeGK K g mn (spF K pre post) gV E te ta) R := fun M' σ G H Q m s w q =>
  he M' σ G H _ m s w fun v d1 G1 H1 s1 w1 r1 e => by
    subst e
    obtain ⟨a, dx, fs, rfl, h1, h2⟩ := obj_at r1
    refine ⟨a, C, dx, fs, rfl, w1.sub _ _ h1, c, hm, look_none h2 hn, ha M' σ G1 H1 _ m (s.mono s1) w1 fun vs as G2 H2 s2 w2 r2 e2 => ?_⟩
    exact ⟨M'.l, G2, gD (.obj C ns es) as, w2.toWd0, hg G2 _ _ vs as e2 (r1.mono s2) r2, (h as e2).1 M' m, fun v d G3 H3 s3 w3 r3 p3 => q v d G3 H3 ((s1.trans s2).trans s3) (w2.to s3 w3) r3 ((h as e2).2 d p3), fun _ _ _ _ _ _ _ _ z => z.elim⟩
/-- a method that hands back what is owned -/
theorem evw_meG {R : Own → D → Prop} {RA : List D → Prop} {pre : Ml → Own → List D → Prop} {post px : Own → List D → Own → D → Prop} (he : Ev K (M.adds (ownM K o)) ds te (· = .obj C ns es)) (c : Cls K C) (hm : Meth K C mn g) (hn : mn ∉ ns) (ha : EvA K (M.adds (ownM K o)) ds ta RA)
    (h : ∀ as, RA as → (∀ M', MSub M M' → pre (ownM K o ++ M'.l) [] (.obj C ns es :: as)) ∧ (∀ o' d, post [] (.obj C ns es :: as) o' d → R (o' ++ o) d) ∧ ∀ o' x, ¬ px [] (.obj C ns es :: as) o' x) :
    EvW K M o ds (tMeG K g mn (spW K pre post px) [] E te ta) R := fun M' σ G H Q m s w q =>
  he (M'.adds (ownM K o)) σ G H _ m.adds2 s w fun v d1 G1 H1 s1 w1 r1 e => by
    subst e
    obtain ⟨a, dx, fs, rfl, h1, h2⟩ := obj_at r1
    refine ⟨a, C, dx, fs, rfl, w1.sub _ _ h1, c, hm, look_none h2 hn, ha (M'.adds (ownM K o)) σ G1 H1 _ m.adds2 (s.mono s1) w1 fun vs as G2 H2 s2 w2 r2 e2 => ?_⟩
    have e0 : ∀ o', ownM K (o' ++ o) ++ M'.l = ownM K o' ++ (ownM K o ++ M'.l) := fun o' => by rw [ownM_app, List.append_assoc]
    refine ⟨ownM K o ++ M'.l, [], G2, .obj C ns es :: as, w2.toWd0, by rw [List.append_nil]; exact .cons (r1.mono s2) r2, (h as e2).1 M' m, fun v d o' G3 H3 s3 w3 r3 p3 => ?_, fun _ _ x o' _ _ _ _ _ z => ((h as e2).2.2 o' x z).elim⟩
    exact q v d (o' ++ o) G3 H3 ((s1.trans s2).trans s3) ⟨by show Wd0 (ownM K (o' ++ o) ++ M'.l) G3 H3; rw [e0]; exact w3, fun l' cls d σ G4 H4 x s4 => w2.xk l' cls d σ G4 H4 x (s3.trans s4)⟩ r3 ((h as e2).2.1 o' d p3)
/-- self.f = e on what is owned -/
def putD (f : Str) (d : D) : List (Str × D) → List (Str × D)
  | [] => [(f, d)]
  | (g, x) :: r => if g = f then (g, d) :: r else (g, x) :: putD f d r
theorem put_rel {G : Hp} {y : V} {d : D} (r : Rp K G y d) : ∀ {gs : List (Str × V)} {fs : List (Str × D)}, gs.map (·.1) = fs.map (·.1) → RpAll K G (gs.map (·.2)) (fs.map (·.2)) → (putF f y gs).map (·.1) = (putD f d fs).map (·.1) ∧ RpAll K G ((putF f y gs).map (·.2)) ((putD f d fs).map (·.2))
  | [], [], _, _ => ⟨rfl, .cons r .nil⟩
  | (g, x) :: gs, (g', x') :: fs, e, h => by
    rw [List.map_cons, List.map_cons] at e
    injection e with e1 e2
    have e1 : g = g' := e1
    subst e1
    cases h with
    | cons h1 h2 =>
      obtain ⟨a, b⟩ := put_rel r e2 h2
      by_cases q : g = f
      · simp only [putF, putD, if_pos q, List.map_cons]
        exact ⟨by rw [e2], .cons r h2⟩
      · simp only [putF, putD, if_neg q, List.map_cons]
        exact ⟨by rw [a], .cons h1 b⟩
  | [], _ :: _, e, _ => by cases e
  | _ :: _, [], e, _ => by cases e
theorem put_len (f : Str) (d : D) : ∀ fs : List (Str × D), (putD f d fs).length ≤ fs.length + 1
  | [] => Nat.le_refl _
  | (g, x) :: r => by
    unfold putD
    split
    · exact Nat.le_succ _
    · have := put_len f d r
      simp only [List.length_cons]; omega
theorem runw_fld {to : TE} {p : Addr} {fs : List (Str × D)} {E : AW} (hv : Ev K (M.adds (ownM K ((p, .ins C fs) :: o))) ds tv (· = d)) (ho : Ev K (M.adds (ownM K ((p, .ins C fs) :: o))) ds to (· = .raw (.ref p))) (c : Cls K C) (hno : NoAttr K C f) (hl : fs.length < 900)
    (hn : E.nx ((p, .ins C (putD f d fs)) :: o) ds) : RunW K M ((p, .ins C fs) :: o) ds (sFld K to tv f) E := fun M' σ G H Z m s w z =>
  hv (M'.adds _) σ G H _ m.adds2 s w fun v1 d1 G1 H1 s1 w1 r1 e1 => ho (M'.adds _) σ G1 H1 _ m.adds2 (s.mono s1) w1 fun v2 d2 G2 H2 s2 w2 r2 e2 => by
    subst e1; subst e2
    have ev := r2.raw_inv
    subst ev
    obtain ⟨u, hu, dx, gs, eu, e3, r3⟩ := w2.atW
    subst eu
    have lg : gs.length = fs.length := by
      have := congrArg List.length e3
      simpa using this
    obtain ⟨a, b⟩ := put_rel (f := f) (r1.mono s2) e3 r3
    exact ⟨p, C, dx, gs, rfl, hu, c, hno, by omega, z.nx _ ds σ G2 _ hn (s1.trans s2) (s.mono (s1.trans s2)) (w2.putW (c := .ins C _) ⟨dx, _, rfl, a, b⟩)⟩
/-- o.f of what is owned -/
theorem ev_ofld {p : Addr} {fs : List (Str × D)} (hm : (p, obP K (.ins C fs)) ∈ M) (he : Ev K M ds te (· = .raw (.ref p))) (c : Cls K C) (hno : NoAttr K C f) (h : fldD (fs.map (·.1)) (fs.map (·.2)) f = some d) : Ev K M ds (tFld K te f) (· = d) := fun M' σ G H Q m s w q =>
  he M' σ G H _ m s w fun v d1 G1 H1 s1 w1 r1 e => by
    subst e
    have ev := r1.raw_inv
    subst ev
    obtain ⟨_, u, hu, dx, gs, eu, e3, r3⟩ := w1.mt _ (m.l _ hm)
    subst eu
    obtain ⟨y, hy, ry⟩ := fld_of r3 (by rw [e3]; exact h)
    exact ⟨p, C, dx, gs, y, rfl, hu, c, hno, hy, q y d G1 H1 s1 w1 ry rfl⟩
theorem runw_raise {W : WX} {E : AW} {ps : List Str} {code : Str} {as : List D} {o2 : Own} {B : Addr} (hW : M.W = W) (ha : EvA K (M.adds (ownM K o)) ds ta (· = as)) (hl : as.length = ps.length) (sb : o2.Sublist o) (hx : ExkW K M o2 (excD B ps code as) ds) (h1 : ps.length ≤ 1000 := by decide) :
    RunW K M o ds (tRz W (tMkO B (spInit B ps code) [] ta)) E := fun M' σ G H Z m s w z =>
  ha (M'.adds (ownM K o)) σ G H _ m.adds2 s w fun vs es G1 H1 s1 w1 r1 e => by
    subst e
    refine ⟨by rw [r1.length, hl]; exact h1, fun a ha => ?_⟩
    rw [List.append_nil]
    exact raise_exc w1 r1 hl ha fun c d G2 H2 s2 w2 x2 => w1.toWW (o' := o) m hW s2 w2 sb (s.mono (s1.trans s2)) x2 hx
end
/-! ### kinds of own things -/
structure OCls (K : PySem.W.Frag) (C : Addr) : Prop extends Cls K C where
  ca : PySem.W.findIn K (.ref C) "__class__" = some (some (.builtin "object.__class__"))
  cn : PySem.W.specialIn K (.builtin "object.__class__") "__get__" = some (some (.builtin "getset_descriptor.__get__"))
  ct : PySem.W.takesIn K (.builtin "object.__class__") = some true
  cm : PySem.W.mroIn K C (.type "object") = some true
inductive TyD (K : PySem.W.Frag) : D → Value → Prop
  | plain {d : D} {n : String} (h : tyD d = some n) : TyD K d (.type n)
  | own {C : Addr} {ns : List Str} {es : List D} (h : OCls K C) : TyD K (.obj C ns es) (.ref C)
theorem tyx_of {K : PySem.W.Frag} {G H : Hp} {v : V} {d : D} {t : Value} (r : Rp K G v d) (s : Same G H) (h : TyD K d t) : TyX K H v t := by
  cases h with
  | plain h => exact ty_of r s h
  | own h =>
    obtain ⟨a, dx, fs, rfl, h1, h2⟩ := obj_at r
    exact .base (.ins (s _ _ h1) h.toCls h.ca h.cn h.ct h.cm)
section
variable {K : PySem.W.Frag} {M : Mt} {ds : DS} {te : TE} {R : D → Prop} {E : XK} {C C' g : Addr} {ns ns' : List Str} {es es' : List D} {d : D} {pre : Ml → List D → Prop} {post : List D → D → Prop}
theorem cd_isO {t u : Value} {c : V} {b : Bool} (h : TyD K d t) (hc : ClsV c u) (hk : PySem.W.kitOne K t u = some b) : CallD K M (rOrC (rIsi K) (rIsX K)) [d, .raw c] (· = .bl b) := fun M' G H xs Q m r w q => by
  cases r with
  | cons p r =>
    cases r with
    | cons p2 r =>
      cases r
      have e2 := p2.raw_inv
      subst e2
      exact .inl ⟨_, _, t, u, b, rfl, hc, tyx_of p w.sub h, hk, q _ _ G H (Same.refl G) w (.bl b) rfl⟩
theorem od_eqO {t : Value} (hs : PySem.W.findIn K (.ref C) "__eq__" = some (some (.ref g))) (ht : TyD K d t) (hn : PySem.W.notFirst K C t = true) (h : ∀ M', MSub M M' → pre M'.l [.obj C ns es, d]) (hR : ∀ r, post [.obj C ns es, d] r → R r) : OpD K M (rEqO K g (spF K pre post) E) (.obj C ns es) d R := fun M' G H x y Q m rx ry w q => by
  obtain ⟨a, dx, fs, rfl, h1, h2⟩ := obj_at rx
  refine ⟨a, C, dx, fs, rfl, w.sub _ _ h1, .inl ⟨t, hs, tyx_of ry w.sub ht, hn, M'.l, G, _, w.toWd0, .cons rx (.cons ry .nil), h M' m, fun v d G' H' s' w' r' p => q v d G' H' s' (w.to s' w') r' (hR d p), fun _ _ _ _ _ _ _ _ z => z.elim⟩⟩
theorem od_eqOR (hne : C ≠ C') (hsub : PySem.W.subIn K (.ref C') (.ref C) = some true) (hs : PySem.W.findIn K (.ref C') "__eq__" = some (some (.ref g))) (h : ∀ M', MSub M M' → pre M'.l [.obj C' ns' es', .obj C ns es]) (hR : ∀ r, post [.obj C' ns' es', .obj C ns es] r → R r) : OpD K M (rEqO K g (spF K pre post) E) (.obj C ns es) (.obj C' ns' es') R := fun M' G H x y Q m rx ry w q => by
  obtain ⟨a, dx, fs, rfl, h1, h2⟩ := obj_at rx
  obtain ⟨b, dy, gs, rfl, h3, h4⟩ := obj_at ry
  exact ⟨a, C, dx, fs, rfl, w.sub _ _ h1, .inr ⟨b, C', dy, gs, rfl, w.sub _ _ h3, hne, hsub, hs, M'.l, G, _, w.toWd0, .cons ry (.cons rx .nil), h M' m, fun v d G' H' s' w' r' p => q v d G' H' s' (w.to s' w') r' (hR d p), fun _ _ _ _ _ _ _ _ z => z.elim⟩⟩
theorem od_neO {t : Value} {b : Bool} (hne : PySem.W.findIn K (.ref C) "__ne__" = some (some (.builtin "object.__ne__"))) (ho : PySem.W.mroIn K C (.type "object") = some true) (hs : PySem.W.findIn K (.ref C) "__eq__" = some (some (.ref g))) (ht : TyD K d t) (hn : PySem.W.notFirst K C t = true) (h : ∀ M', MSub M M' → pre M'.l [.obj C ns es, d])
    (hR : ∀ r, post [.obj C ns es, d] r → r = .bl b) : OpD K M (rNeO K g (spF K pre post) E) (.obj C ns es) d (· = .bl (!b)) := fun M' G H x y Q m rx ry w q => by
  obtain ⟨a, dx, fs, rfl, h1, h2⟩ := obj_at rx
  refine ⟨a, C, dx, fs, t, rfl, w.sub _ _ h1, hne, ho, hs, tyx_of ry w.sub ht, hn, M'.l, G, _, w.toWd0, .cons rx (.cons ry .nil), h M' m, fun v d G' H' s' w' r' p => ?_, fun _ _ _ _ _ _ _ _ z => z.elim⟩
  have e := hR d p
  subst e
  exact ⟨b, r'.bl_inv, q _ _ G' H' s' (w.to s' w') (.bl _) rfl⟩
theorem cd_reprO {x : Str} (hs : PySem.W.findIn K (.ref C) "__repr__" = some (some (.ref g))) (h : ∀ M', MSub M M' → pre M'.l [.obj C ns es]) (hR : ∀ r, post [.obj C ns es] r → r = .str x) : CallD K M (rReprO K g (spF K pre post) E) [.obj C ns es] (· = .str x) := fun M' G H xs Q m r w q => by
  cases r with
  | cons p r =>
    cases r
    obtain ⟨a, dx, fs, rfl, h1, h2⟩ := obj_at p
    refine ⟨a, C, dx, fs, rfl, w.sub _ _ h1, hs, M'.l, G, _, w.toWd0, .cons p .nil, h M' m, fun v d G' H' s' w' r' pp => ?_, fun _ _ _ _ _ _ _ _ z => z.elim⟩
    have e := hR d pp
    subst e
    exact ⟨x, r'.str_inv, q _ _ G' H' s' (w.to s' w') r' rfl⟩
/-! ### f-strings -/
theorem ev_fmtS {x : Str} (h : Ev K M ds te (· = .str x)) (hl : x.length ≤ 100000) : Ev K M ds (tFmt te) (· = .str x) := fun M' σ G H Q m s w q =>
  h M' σ G H _ m s w fun v d1 G1 H1 s1 w1 r1 e => by
    subst e
    exact .inl ⟨x, r1.str_inv, Nat.le_trans hl (by decide), q _ _ G1 H1 s1 w1 (.str _) rfl⟩
theorem ev_fmtI {i : Int} (h : Ev K M ds te (· = .int i)) (hl : i.natAbs.log2 < 1920) : Ev K M ds (tFmt te) (· = .str (Str.ofString (toString i))) := fun M' σ G H Q m s w q =>
  h M' σ G H _ m s w fun v d1 G1 H1 s1 w1 r1 e => by
    subst e
    exact .inr ⟨i, r1.int_inv, hl, q _ _ G1 H1 s1 w1 (.str _) rfl⟩
inductive EvJ (K : PySem.W.Frag) (M : Mt) (ds : DS) : List TE → List Str → Prop
  | nil : EvJ K M ds [] []
  | cons {t : TE} {ts : List TE} {x : Str} {xs : List Str} (h : Ev K M ds t (· = .str x)) (r : EvJ K M ds ts xs) : EvJ K M ds (t :: ts) (x :: xs)
def catS : Str → List Str → Str
  | acc, [] => acc
  | acc, x :: xs => catS (acc ++ x) xs
theorem evj_go {ts : List TE} {xs : List Str} (h : EvJ K M ds ts xs) : ∀ (acc : Str) (M' : Mt) (σ : L2.St) (G H : Hp) (Q : Str → Hp → Prop), MSub M M' → Sg K G σ ds → Wd M' G H → acc.length + (xs.map (·.length)).sum ≤ 100000 → (∀ G' H', Same G G' → Wd M' G' H' → Q (catS acc xs) H') → tJs ts acc σ H Q := by
  induction h with
  | nil => intro acc M' σ G H Q m s w hl q; exact q G H (Same.refl G) w
  | @cons t ts x xs h r ih =>
    intro acc M' σ G H Q m s w hl q
    refine h M' σ G H _ m s w fun v d1 G1 H1 s1 w1 r1 e => ?_
    subst e
    rw [List.map_cons, List.sum_cons] at hl
    have hle : (acc ++ x).length = acc.length + x.length := PySem.Str.length_append acc x
    refine ⟨x, r1.str_inv, ?_, ih (acc ++ x) M' σ G1 H1 Q m (s.mono s1) w1 (by rw [hle]; omega) fun G2 H2 s2 w2 => q G2 H2 (s1.trans s2) w2⟩
    rw [hle]
    exact Nat.le_trans (show acc.length + x.length ≤ 100000 by omega) (by decide)
theorem ev_joined {ts : List TE} {xs : List Str} (h : EvJ K M ds ts xs) (hl : (xs.map (·.length)).sum ≤ 100000) : Ev K M ds (fun σ H Q => tJs ts Str.empty σ H fun out H1 => Q (.str out) H1) (· = .str (catS Str.empty xs)) := fun M' σ G H Q m s w q =>
  evj_go h Str.empty M' σ G H _ m s w (by rw [show Str.empty.length = 0 from rfl]; omega) fun G1 H1 s1 w1 => q _ _ G1 H1 s1 w1 (.str _) rfl
end
end Rg
namespace Rg
open PySem PySem.Spec L2 RZ PyProof.Rows
/-! ### texts in order are one list -/
theorem rising_pw : ∀ (l : List Str) (p : Str), risingS p l = true → (p :: l).Pairwise fun a b => a.cps.toList ≤ b.cps.toList
  | [], p, _ => List.pairwise_singleton _ _
  | x :: r, p, h => by
    have h2 : (!ltCps x.cps.toList p.cps.toList && risingS x r) = true := h
    rw [Bool.and_eq_true, Bool.not_eq_true', ltCps_eq, decide_eq_false_iff_not] at h2
    have ih := rising_pw r x h2.2
    have h3 : p.cps.toList ≤ x.cps.toList := List.not_lt.mp h2.1
    refine List.pairwise_cons.mpr ⟨fun y hy => ?_, ih⟩
    rcases List.mem_cons.mp hy with e | e
    · rw [e]; exact h3
    · exact List.le_trans h3 ((List.pairwise_cons.mp ih).1 y e)
theorem sorted_pw : ∀ {l : List Str}, sortedS l = true → l.Pairwise fun a b => a.cps.toList ≤ b.cps.toList
  | [], _ => List.Pairwise.nil
  | x :: r, h => rising_pw r x h
theorem str_ext {x y : Str} (h : x.cps.toList = y.cps.toList) : x = y := by
  cases x; cases y
  congr 1
  exact Array.toList_inj.mp h
theorem sorted_one {ys zs : List Str} (hy : sortedS ys = true) (hz : sortedS zs = true) (ny : ys.Nodup) (nz : zs.Nodup) (h : ∀ k, k ∈ ys ↔ k ∈ zs) : ys = zs := by
  have hp : ys.Perm zs := (List.perm_ext_iff_of_nodup ny nz).mpr h
  exact hp.eq_of_pairwise (fun a b _ _ h1 h2 => str_ext (List.le_antisymm h1 h2)) (sorted_pw hy) (sorted_pw hz)
theorem take_flat {α β : Type} (es : List α) (f : α → List β) {i : Nat} {d : α} (h : es[i]? = some d) : (es.take (i + 1)).flatMap f = (es.take i).flatMap f ++ f d := by
  rw [List.take_add_one, h, List.flatMap_append]
  simp
theorem take_one {α : Type} (l : List α) {j : Nat} {x : α} (h : l[j]? = some x) : l.take (j + 1) = l.take j ++ [x] := by
  rw [List.take_add_one, h]; rfl
section
variable {K : PySem.W.Frag} {M : Mt} {o : Own} {ds : DS} {te : TE}
/-- what is handed back as owned is frozen at once -/
theorem ev_own {ds' : List D} (h : EvW K M [] ds te (fun o' d => ∃ p, o' = [(p, .lst ds')] ∧ d = .raw (.ref p))) : Ev K M ds te (· = .list ds') :=
  ev_w (evw_freeze (h.weak fun o' d ⟨p, e1, e2⟩ => ⟨p, .lst ds', [], .list ds', e1, e2, rfl, rfl, rfl⟩))
end
end Rg
namespace Rg
open PySem PySem.Spec L2 RZ PyProof.Rows
/-! ### a set of texts: which, and that its table can be walked -/
def putIn (k : Str) (ls : List Str) : List Str := if k ∈ ls then ls else k :: ls
def Walkable (w : World) (t : SetTable) : Prop := L2.Ris t.place.toList ∧ (w.params.followText "set-order" = true ∨ t.led = true)
/-- b: it can be walked -/
def TxInB (b : Bool) (P : Program) (w : World) (a : Addr) (ls : List Str) (h : Heap) : Prop := ∃ c : Froz.SD, h.get? a = some (Froz.sObj "set" c) ∧ Froz.TxOk P w c ls ∧ ls.Nodup ∧ (b = true → Walkable w c.2.2)
abbrev TxIn := TxInB true
def TxSetB (b : Bool) (P : Program) (w : World) (a : Addr) (ls : List Str) : HO := .ext (TxInB b P w a ls)
abbrev TxSet := TxSetB true
theorem walkable_off {w : World} {t : SetTable} (h : Walkable w t) : Walkable w (if t.plain = true then { t with plain := false } else t) := by
  by_cases e : t.plain = true
  · rw [if_pos e]; exact h
  · rw [if_neg e]; exact h
theorem walkable_add {w : World} (h : Int) (v : Value) {c : Froz.SD} (r : Walkable w c.2.2) : Walkable w (Froz.addTx h v c).2.2 := by
  have z : Walkable w (layNew c.2.2 c.1 h v).2.1 := ⟨L2.layNew_ris _ _ _ _ r.1, by rw [L2.layNew_led]; exact r.2⟩
  have z2 := walkable_off z
  unfold Froz.addTx Froz.tailTx
  generalize (if (layNew c.2.2 c.1 h v).2.1.plain = true then { (layNew c.2.2 c.1 h v).2.1 with plain := false } else (layNew c.2.2 c.1 h v).2.1) = t at z2
  by_cases e : (!(layNew c.2.2 c.1 h v).2.2.1 && t.tooFull) = true
  · rw [if_pos e]; exact ⟨L2.relayAll_ris _ _ _, by rw [L2.relayAll_led]; exact z2.2⟩
  · rw [if_neg e]; exact z2
section
variable {P : Program} {w : World} {A : Around} {E : Value → Shared → Prop} {s : Shared} {a : Addr} {ls : List Str} {k : Str} {u : Tok}
theorem mem_putIn {x : Str} : x ∈ putIn k ls ↔ x = k ∨ x ∈ ls := by
  unfold putIn
  by_cases e : k ∈ ls
  · rw [if_pos e]; exact ⟨.inr, fun z => z.elim (fun z => z ▸ e) id⟩
  · rw [if_neg e]; exact List.mem_cons
theorem nodup_putIn (h : ls.Nodup) : (putIn k ls).Nodup := by
  unfold putIn
  by_cases e : k ∈ ls
  · rw [if_pos e]; exact h
  · rw [if_neg e]; exact List.nodup_cons.mpr ⟨e, h⟩
theorem len_putIn : (putIn k ls).length ≤ ls.length + 1 := by
  unfold putIn
  split
  · exact Nat.le_succ _
  · exact Nat.le_refl _
/-- a text that is there already -/
theorem tx_again {c : Froz.SD} {Q : Bool → Shared → Prop} (ho : s.heap.get? a = some (Froz.sObj "set" c)) (F : Froz.TxOk P w c ls) (hk : k ∈ ls) (hb : ls.length < scanBound) (h : Q false s) :
    wpAny (model P w) A (setAddHashed a (.str k u) (hashStr w k)) Q E s := by
  have few : c.1.size < scanBound := by rw [F.sz]; exact hb
  unfold setAddHashed setAddHashedIn
  refine wpAny_holding (wpAny_bind (wpAny_setState_of (es := c.1) (ep := c.2.1) (t := c.2.2) ho rfl F.fit ?_))
  show wpAny _ _ (ite (byScan (.str k u) c.1 = true) _ _) _ _ _
  rw [if_pos (byScan_of (knd := strKind P w) rfl few F.el)]
  unfold setAddByScan
  refine wpAny_bind (wpAny_bind (wpAny_rule (wpAny_bind (wpAny_setScan_of (knd := strKind P w) (k := k) (Froz.is_str k u) ho rfl F.fit F.el ?_))))
  obtain ⟨e, he, hke⟩ := (F.mem k).mp hk
  cases hf : List.findIdx? (fun e => (strKind P w).is k e.2) c.1.toList with
  | none => exact absurd hke (by rw [List.findIdx?_eq_none_iff.mp hf e he]; exact Bool.false_ne_true)
  | some j => exact wpAny_pure (wpAny_pure h)
/-- any text put in -/
theorem tx_setAdd {wb : Bool} {Q : Bool → Shared → Prop} (R : TxInB wb P w a ls s.heap) (hb : ls.length + 1 < scanBound)
    (h : ∀ b h', TxInB wb P w a (putIn k ls) h' → (∀ b o, b ≠ a → s.heap.get? b = some o → h'.get? b = some o) → Q b { s with heap := h', toks := s.toks + 1 }) : wpAny (model P w) A (setAdd a (.str k u)) Q E s := by
  obtain ⟨c, ho, F, nd, wk⟩ := R
  unfold setAdd
  refine wpAny_holding (wpAny_bind ((strKind P w).pyHash (k := k) (Froz.is_str k u) ?_))
  by_cases e : k ∈ ls
  · have z := h false s.heap (by unfold putIn; rw [if_pos e]; exact ⟨c, ho, F, nd, wk⟩) fun _ _ _ z => z
    exact tx_again (s := { s with toks := s.toks + 1 }) ho F e (by omega) z
  · have hat : (s.heap.update a fun _ => Froz.sObj "set" (Froz.addTx (hashStr w k) (.str k u) c)).get? a = some (Froz.sObj "set" (Froz.addTx (hashStr w k) (.str k u) c)) := Froz.get_upd _ ho rfl
    refine Froz.add_x (s := { s with toks := s.toks + 1 }) ho F e hb (h true _ ?_ fun b o hne z => PySem.Heap.get?_update_of_ne _ (Ne.symm hne) z)
    unfold putIn; rw [if_neg e]
    exact ⟨_, hat, Froz.add_ok u F, List.nodup_cons.mpr ⟨e, nd⟩, fun z => walkable_add _ _ (wk z)⟩
theorem tx_put {Q : Value → Shared → Prop} (R : TxIn P w a ls s.heap) (hb : ls.length + 1 < scanBound)
    (h : ∀ h', TxIn P w a (putIn k ls) h' → (∀ b o, b ≠ a → s.heap.get? b = some o → h'.get? b = some o) → Q .none { s with heap := h', toks := s.toks + 1 }) :
    wpAny (model P w) A (call (.builtin "set.add") [.ref a, .str k u]) Q E s := by
  have ty : s.TypeIs (.ref a) "set" := by
    obtain ⟨c, ho, _⟩ := R
    exact ⟨_, ho, rfl⟩
  refine wpAny_call_entry PySem.F.slot_set_add ty PySem.F.entry_set_add ?_ (PySem.F.args_set_add_2 _ _)
  show wpAny _ _ (setAdd a (.str k u) >>= fun _ => ret Value.none) _ _ _
  exact wpAny_bind (tx_setAdd R hb fun b h' r kp => wpAny_pure ⟨_, rfl, h h' r kp⟩)
/-- a set just made -/
theorem tx_fresh {h : Heap} {led : Bool} (hl : led = !w.params.followText "set-order") :
    TxIn P w h.objs.size [] (h.push { cls := .type "set", dict := none, data := .set #[] 0 (.fresh 0 0 led) }) := by
  refine ⟨(#[], 0, .fresh 0 0 led), Heap.get?_push_size _ rfl, Froz.TxOk.nil (by rfl), List.nodup_nil, fun _ => ⟨List.Pairwise.nil, ?_⟩⟩
  subst hl
  cases w.params.followText "set-order"
  · exact .inr rfl
  · exact .inl rfl
end
section
variable {X : Cx} {pins : List (Addr × Obj)} {σ : L2.St} {H : Hp} {s : Shared} {a : Addr} {ls : List Str}
theorem txset_ok {wb : Bool} {h : Heap} (R : TxInB wb X.prog X.w a ls h) : ObjOk X.prog X.w H h a (TxSetB wb X.prog X.w a ls) := by
  refine ⟨R, ?_, fun h1 h2 p k => ?_⟩
  · obtain ⟨c, ho, _⟩ := R
    exact ⟨_, ho⟩
  · obtain ⟨c, ho, r⟩ := p
    exact ⟨c, k _ ho, r⟩
theorem txset_at {wb : Bool} (I : Inv X pins σ H s) (e : H a = some (TxSetB wb X.prog X.w a ls)) : TxInB wb X.prog X.w a ls s.heap := (I.hok a _ e).1
theorem txset_add {k : Str} {v : Value} {E : Value → Shared → Prop} {Q : Value → Shared → Prop} (I : Inv X pins σ H s) (e : H a = some (TxSet X.prog X.w a ls)) (hb : ls.length + 1 < scanBound) (r : RelV (.str k) v)
    (h : ∀ s', Inv X pins σ (upd H a (TxSet X.prog X.w a (putIn k ls))) s' → Q .none s') : wpAny (model X.prog X.w) X.A (call (.builtin "set.add") [.ref a, v]) Q E s := by
  obtain ⟨u, rfl⟩ := r
  refine tx_put (txset_at I e) hb fun h' R kp => h _ (I.write (e := a) (t' := s.toks + 1) (by rw [e]; trivial) (.inl rfl) kp ?_ (txset_ok R))
  obtain ⟨c, ho, _⟩ := R
  exact ⟨_, ho⟩
end
/-! ### a clause's turn, told by its body -/
def turnBy (t i : Expr) (ifs : List Expr) (it : Value) (env : Env) (B : Sem Unit) (c : Code) : Sem Fin := do
  standAt i.pos
  match ← pyNext it with
  | none => pure (.done .next)
  | some v =>
    letOwnedTupleGo t it v
    assign t env v
    let mut ok := true
    for c in ifs do
      if ok then ok ← isTrue c env (eval c env)
    if ok then B
    again c
abbrev TB := L2.St → Hp → (L2.St → Hp → Prop) → Prop
/-- a body's promise -/
structure PB (Y : Cx) (B : Sem Unit) (t : TB) : Prop where
  run : ∀ (pins : List (Addr × Obj)) (s : Shared) (σ : L2.St) (H : Hp) (Q : L2.St → Hp → Prop), Inv Y pins σ H s → t σ H Q → wpAny (model Y.prog Y.w) Y.A B (fun _ s' => ∃ σ' H', Inv Y pins σ' H' s' ∧ Q σ' H') (fun _ _ => False) s
/-- one walk of a clause: W by the turn and a measure, Fi what holds at its end -/
def Walks1 (J : It) (g : TG) (tt : TT) (tb : TB) (vs : List Nat) (σ : L2.St) (W : Nat → Nat → Hp → Prop) (Fi : Hp → Prop) : Prop := ∀ i m H, W i m H →
  (J.stop i H ∧ Fi H) ∨ (J.go i H ∧ ∃ Nx : Hp → Prop, (∀ H', Nx H' → ∃ m', m' < m ∧ W (i + 1) m' H') ∧ ∀ x H', J.yld i H x H' → g x (wipe σ vs) H' fun σ2 H2 => wipe σ2 vs = wipe σ vs ∧ tt σ2 H2 fun b H3 =>
    if b = true then tb σ2 H3 fun σ3 H4 => wipe σ3 vs = wipe σ vs ∧ Nx H4 else Nx H3)
theorem wipe_some' {σ : L2.St} {vs : List Nat} {i : Nat} {v : V} (h : (wipe σ vs)[i]? = some (some v)) : σ[i]? = some (some v) := (wipe_some h).1
/-- THE WALK of any clause of any comprehension within a block -/
theorem clause_walk {Y : Cx} {pins : List (Addr × Obj)} {fp : List Addr} {it : Addr} {tg iter : Expr} {ifs : List Expr} {J : It} {tn : Nat → Heap → Prop} {g : TG} {tt : TT} {tb : TB} {vs : List Nat} {σ : L2.St} {W : Nat → Nat → Hp → Prop} {Fi : Hp → Prop} {B : Sem Unit}
    {e : Expr} {d : Nat} {acc : Value} {R : Result → Shared → Prop} (hc : Y.calm = true) (hx : ∀ v s, ¬ Y.xe v s) (hq : (Code.compLoop e d (.ref it) acc Y.env).quiet = true) (hd : ∀ (M : Model), True)
    (hT : compTurn e d (.ref it) acc Y.env = turnBy tg iter ifs (.ref it) Y.env B (.compLoop e d (.ref it) acc Y.env))
    (hden : (model Y.prog Y.w).den (.compLoop e d (.ref it) acc Y.env) = (compTurn e d (.ref it) acc Y.env).onRaise (fun x => do noteFrame x Y.env; theTreesLotGoes x))
    (hund : Y.A.under (.compLoop e d (.ref it) acc Y.env) = Y.A)
    (T : Turn Y.prog Y.w Y.K tg J fp it tn) (pg : PG Y tg g) (pt : PTs Y ifs tt) (pb : PB Y B tb) (walk : Walks1 J g tt tb vs σ W Fi)
    (done : ∀ s' H', Inv Y pins (wipe σ vs) H' s' → (∀ b ∈ fp, FpOk Y pins H' b) → Fi H' → R (.ok .next) s') :
    ∀ (i m : Nat) (H : Hp) (s : Shared), Inv Y pins (wipe σ vs) H s → (∀ b ∈ fp, FpOk Y pins H b) → tn i s.heap → W i m H → codeAny (model Y.prog Y.w) Y.A (.compLoop e d (.ref it) acc Y.env) R s := by
  intro i m H s I f p w
  refine codeAny_loop hq (fun m s => ∃ i H, Inv Y pins (wipe σ vs) H s ∧ (∀ b ∈ fp, FpOk Y pins H b) ∧ tn i s.heap ∧ W i m H) (fun m s ⟨i, H, I, f, p, w⟩ => ?_) m ⟨i, H, I, f, p, w⟩
  rw [hden, hund, hT]
  refine wpAny_noted ?_
  have none' : ∀ (G : Value → Shared → Prop) (v : Value) (s : Shared), False → G v s := fun _ _ _ z => z.elim
  refine wpAny_bind (wpAny_standAt (wpAny_bind ?_))
  cases walk i m H w with
  | inl z =>
    refine wpAny_mono (T.done Y rfl rfl rfl hc i pins s _ H (fun _ _ => False) I f p z.1) (fun r s1 hr => ?_) (none' _)
    obtain ⟨rfl, I1⟩ := hr
    exact wpAny_pure (done _ _ I1 f z.2)
  | inr z =>
    obtain ⟨go, Nx, next, step⟩ := z
    refine wpAny_mono (T.item Y rfl rfl rfl hc i pins s _ H (fun _ _ => False) I f p go) (fun r s1 hr => ?_) (none' _)
    obtain ⟨v, rfl, hv⟩ := hr
    refine wpAny_bind (wpAny_mono hv (fun _ s2 h2 => ?_) (none' _))
    obtain ⟨x, H2, I2, rx, yx, p2, n2⟩ := h2
    have f2 : ∀ b ∈ fp, FpOk Y pins H2 b := fun b hb => ⟨n2 b hb, (f b hb).2⟩
    have ob := T.obj _ _ p2
    -- what is behind a turn
    have on : ∀ {σ' : L2.St} {s' : Shared} {H' : Hp}, Inv Y (pins ++ pinsAt fp s2.heap) σ' H' s' → wipe σ' vs = wipe σ vs → Nx H' → ∃ m', m' < m ∧ ∃ i H, Inv Y pins (wipe σ vs) H s' ∧ (∀ b ∈ fp, FpOk Y pins H b) ∧ tn i s'.heap ∧ W i m' H := by
      intro σ' s' H' I' ew nx
      obtain ⟨m', hm, w'⟩ := next H' nx
      have kept : ∀ b ∈ fp, ∀ o, s2.heap.get? b = some o → s'.heap.get? b = some o ∧ H' b = none := fun b hb o eo => by
        have z := I'.pin (b, o) (List.mem_append_right _ (List.mem_append_right _ (mem_pinsAt hb eo)))
        exact ⟨z.1, z.2.1⟩
      refine ⟨m', hm, i + 1, H', ?_, fun b hb => ?_, T.keep _ _ _ p2 fun b hb o eo => (kept b hb o eo).1, w'⟩
      · rw [← ew]
        exact I'.unpinned.weak (wipe_length _ _) fun _ _ z => wipe_some' z
      · obtain ⟨o, eo, _⟩ := ob b hb
        exact ⟨(kept b hb o eo).2, (f b hb).2⟩
    refine wpAny_bind (wpAny_mono (pg.run _ s2 _ H2 x v _ (I2.pinned f2 ob) rx (step x H2 yx)) (fun _ s3 h3 => ?_) (fun v s z => (hx v s z).elim))
    obtain ⟨σ2, H3, I3, ew, ht⟩ := h3
    refine wpAny_bind (wpAny_mono (pt.run _ s3 σ2 H3 _ I3 ht) (fun b s4 h4 => ?_) (fun v s z => (hx v s z).elim))
    obtain ⟨H4, I4, h4⟩ := h4
    cases b with
    | false => exact wpAny_pure ⟨rfl, on I4 ew h4⟩
    | true =>
      refine wpAny_bind (wpAny_mono (pb.run _ s4 σ2 H4 _ I4 h4) (fun _ s5 h5 => ?_) (none' _))
      obtain ⟨σ3, H5, I5, ew5, nx⟩ := h5
      exact wpAny_pure ⟨rfl, on I5 ew5 nx⟩
/-! ### the bodies -/
def tbAdd (P : Program) (w : World) (D : Addr) (te : TE) : TB := fun σ H Q => te σ H fun y H1 => ∃ k ls, y = .str k ∧ H1 D = some (TxSet P w D ls) ∧ ls.length + 1 < scanBound ∧ Q σ (upd H1 D (TxSet P w D (putIn k ls)))
def tbIn (wi : TI) (g : TG) (tt : TT) (tb : TB) (vs : List Nat) : TB := fun σ H Q => wi σ H fun J H1 => ∃ W : Nat → Nat → Hp → Prop, (∃ m, W 0 m H1) ∧ Walks1 J g tt tb vs σ W fun H2 => Q (wipe σ vs) H2
def emitB (elt : Expr) (acc : Value) (env : Env) : Sem Unit := do
  let v ← eval elt env
  standAt elt.pos
  let _ ← call (.builtin "set.add") [acc, v]
def nextB (e iter : Expr) (acc : Value) (env : Env) : Sem Unit := do
  let x ← eval iter env
  standAt iter.pos
  let x ← foldedSetIterable iter env x
  let _ ← runOwn (.compStart e 1 (← holding [x] (pyIter x)) acc env) env
theorem pb_emit {Y : Cx} {elt : Expr} {te : TE} {D : Addr} (hx : ∀ v s, ¬ Y.xe v s) (pe : PE Y elt te) : PB Y (emitB elt (.ref D) Y.env) (tbAdd Y.prog Y.w D te) := by
  refine ⟨fun pins s σ H Q I h => ?_⟩
  unfold emitB
  refine wpAny_bind (wpAny_mono (pe.run pins s σ H _ I h) (fun v s1 h1 => ?_) fun v s z => (hx v s z).elim)
  obtain ⟨y, H1, I1, ry, k, ls, rfl, e, hb, q⟩ := h1
  exact wpAny_bind (wpAny_standAt (wpAny_bind (txset_add I1 e hb ry fun s' I' => wpAny_pure ⟨σ, _, I', q⟩)))
/-- where a clause's walk begins: its iterator, asked for itself once more or not -/
theorem start_set {P : Program} {w : World} {A : Around} {R : Result → Shared → Prop} {s : Shared} {elt : Expr} {g0 g1 : Comprehension} {scope : Scope} {pos : Pos} {it acc : Value} {env : Env} (ha : g1.is_async = 0)
    (h0 : codeAny (model P w) A (.compLoop (.SetComp elt [g0, g1] scope pos) 1 it acc env) R s)
    (h : wpAny (model P w) A (pyIter it) (fun it' s' => codeAny (model P w) A (.compLoop (.SetComp elt [g0, g1] scope pos) 1 it' acc env) R s') (notedBy (model P w) A env fun x s' => R (.error x) s') s) :
    codeAny (model P w) A (.compStart (.SetComp elt [g0, g1] scope pos) 1 it acc env) R s := by
  obtain ⟨t1, i1, fs1, a1⟩ := g1
  cases ha
  refine codeAny_of_tree ?_
  show wpAny _ _ ((compStart (.SetComp elt [g0, ⟨t1, i1, fs1, 0⟩] scope pos) 1 it acc env).onRaise (fun x => do noteFrame x env; standAt theWindowsPlace)) _ _ s
  refine wpAny_notedAt ?_
  have loops : ∀ (i : Value) (s' : Shared) (E : Value → Shared → Prop), codeAny (model P w) A (.compLoop (.SetComp elt [g0, ⟨t1, i1, fs1, 0⟩] scope pos) 1 i acc env) R s' →
      wpAny (model P w) A (again (.compLoop (.SetComp elt [g0, ⟨t1, i1, fs1, 0⟩] scope pos) 1 i acc env)) (fun fin s' => match fin with | .done f => R (.ok f) s' | .again c' => c'.quiet = true ∧ codeAny (model P w) A c' R s') E s' := fun i s' E z => wpAny_pure ⟨rfl, z⟩
  unfold compStart
  show wpAny _ _ (ask >>= _) _ _ s
  refine wpAny_bind (wpAny_askSetting (wpAny_ite ?_))
  split
  · exact loops it s _ h0
  · exact wpAny_bind (wpAny_rule (wpAny_bind (wpAny_standAt (wpAny_bind (wpAny_mono h (fun i s' z => loops i s' _ z) fun _ _ z => z)))))
theorem pb_next {Y : Cx} {elt tg iter tg1 iter1 : Expr} {ifs ifs1 : List Expr} {scope : Scope} {pos : Pos} {wi1 : TI} {g1 : TG} {tt1 : TT} {te : TE} {vs1 : List Nat} {D : Addr} (hc : Y.calm = true) (hx : ∀ v s, ¬ Y.xe v s)
    (pi : PI Y tg1 iter1 wi1) (pg : PG Y tg1 g1) (pt : PTs Y ifs1 tt1) (pe : PE Y elt te) (hf : ∀ x, foldedSetIterable iter1 Y.env x = pure x) :
    PB Y (nextB (.SetComp elt [⟨tg, iter, ifs, 0⟩, ⟨tg1, iter1, ifs1, 0⟩] scope pos) iter1 (.ref D) Y.env) (tbIn wi1 g1 tt1 (tbAdd Y.prog Y.w D te) vs1) := by
  refine ⟨fun pins s σ H Q I h => ?_⟩
  unfold nextB
  have noE : ∀ v s, Y.xe v s → False := fun v s z => hx v s z
  refine wpAny_bind (wpAny_mono (pi.run pins s σ H _ I h) (fun v s1 h1 => ?_) noE)
  refine wpAny_bind (wpAny_standAt (wpAny_bind (wpAny_of_eq (hf v) ?_)))
  refine wpAny_bind (wpAny_holding (wpAny_mono h1 (fun itv s2 h2 => ?_) noE))
  obtain ⟨it, fp, tn, J, H2, rfl, I2, T, p, f, W, ⟨m, w0⟩, wk⟩ := h2
  have loop := clause_walk (e := .SetComp elt [⟨tg, iter, ifs, 0⟩, ⟨tg1, iter1, ifs1, 0⟩] scope pos) (d := 1) (acc := .ref D) (iter := iter1) (R := fun r s' => match r with
      | .ok f => ∃ σ' H', Inv Y pins σ' H' s' ∧ Q σ' H'
      | .error e => cameBackBy (model Y.prog Y.w) Y.A Y.env (fun _ _ => False) e s')
    hc hx rfl (fun _ => trivial) rfl rfl rfl T pg pt (pb_emit hx pe) wk (fun s' H' I' _ q => ⟨_, _, I', q⟩) 0 m H2 s2 (I2.weak (wipe_length _ _) fun _ _ z => wipe_some' z) f p w0
  refine wpAny_bind (wpAny_runOwn (codeAny_mono (start_set rfl loop (T.self Y.A 0 _ _ _ p loop)) fun r s' hr => ?_) (by intro h; cases h))
  cases r with
  | ok f => exact wpAny_pure hr
  | error e => exact hr
/-! ### the comprehension -/
def tSx (P : Program) (w : World) (wi : TI) (g : TG) (tt : TT) (tb : Addr → TB) (vs : List Nat) : TE := fun σ H Q => wi σ H fun J H1 => ∀ D, H1 D = none → ∃ W : Nat → Nat → Hp → Prop, (∃ m, W 0 m (upd H1 D (TxSet P w D []))) ∧
  Walks1 J g tt (tb D) vs σ W fun H2 => Q (.ref D) H2
section
variable {X : Cx} {elt tg iter tg1 iter1 : Expr} {ifs ifs1 : List Expr} {scope : Scope} {own : List (PySem.Str × Nat)} {pos : Pos} {wi wi1 : TI} {g g1 : TG} {tt tt1 : TT} {te : TE} {vs1 : List Nat}
theorem pe_sxB {rest : List Comprehension} {tb : Addr → TB} {B : Addr → Env → Sem Unit} (hc : X.calm = true) (hN : X.N.Nodup) (hi : PI X tg iter wi) (ok : BlkOk X.N X.env.scope scope own)
    (hT : ∀ it D env, compTurn (.SetComp elt (⟨tg, iter, ifs, 0⟩ :: rest) scope pos) 0 it (.ref D) env = turnBy tg iter ifs it env (B D env) (.compLoop (.SetComp elt (⟨tg, iter, ifs, 0⟩ :: rest) scope pos) 0 it (.ref D) env))
    (hg : ∀ (s : Shared) (H : Hp) (C : Addr) (cl : List (PySem.Str × Addr)) (fps : List Addr), PG (X.blk s H scope (compEnvC scope cl C X.env) fps) tg g)
    (ht : ∀ (s : Shared) (H : Hp) (C : Addr) (cl : List (PySem.Str × Addr)) (fps : List Addr), PTs (X.blk s H scope (compEnvC scope cl C X.env) fps) ifs tt)
    (hb : ∀ (s : Shared) (H : Hp) (C : Addr) (cl : List (PySem.Str × Addr)) (fps : List Addr) (D : Addr), PB (X.blk s H scope (compEnvC scope cl C X.env) fps) (B D (compEnvC scope cl C X.env)) (tb D)) (hfo : ∀ x, foldedSetIterable iter X.env x = pure x) :
    PE X (.SetComp elt (⟨tg, iter, ifs, 0⟩ :: rest) scope pos) (tSx X.prog X.w wi g tt tb (own.map (·.2))) := by
  refine ⟨fun pins s σ H Q I h => ?_⟩
  rw [PpSet.eval_SetComp]
  have outside : ∀ y ∈ scope.names, y.2 = .free → ∃ c, X.env.cells.lookup y.1 = some c := fun y hy e => I.ok.has _ (ok.free y hy e)
  refine wpAny_comprehension_free (use := none) rfl hfo (closure_ok outside) ok.kind (fun y hy e => by rw [ok.uniq y hy, e]) (thn (hi.run pins s σ H _ I h) fun xv s1 h1 => thn h1 fun iv s2 h2 => ?_)
  obtain ⟨it, fp, tn, J, H2, rfl, I2, T, p2, f2, q⟩ := h2
  refine PpSet.newSet_ok (newEnv_comp ?_)
  have below : ∀ b ∈ fp, b < s2.heap.objs.size := fun b hb => let ⟨o, eo, _⟩ := T.obj _ _ p2 b hb; Heap.lt_size eo
  have I3 : Inv X pins σ (upd H2 s2.heap.objs.size (TxSet X.prog X.w s2.heap.objs.size [])) { s2 with heap := s2.heap.push { cls := .type "set", dict := none, data := .set #[] 0 (.fresh 0 0 (!X.w.params.followText "set-order")) } } :=
    I2.laid (t' := s2.toks) (fun b o eo => Heap.get?_push_of_some _ eo) (Nat.le_refl _) (txset_ok (tx_fresh rfl))
  have f3 : ∀ b ∈ fp, FpOk X pins (upd H2 s2.heap.objs.size (TxSet X.prog X.w s2.heap.objs.size [])) b := fun b hb => ⟨by rw [upd_ne (Nat.ne_of_lt (below b hb))]; exact (f2 b hb).1, (f2 b hb).2⟩
  obtain ⟨W, ⟨m0, w0⟩, walk⟩ := q s2.heap.objs.size (I2.hok.fresh (Nat.le_refl _))
  generalize hs3 : ({ s2 with heap := s2.heap.push { cls := .type "set", dict := none, data := .set #[] 0 (.fresh 0 0 (!X.w.params.followText "set-order")) } } : Shared) = s3 at I3 ⊢
  have grown : ∀ b o, s2.heap.get? b = some o → s3.heap.get? b = some o := fun b o eo => by rw [← hs3]; exact Heap.get?_push_of_some _ eo
  have more : s2.heap.objs.size < s3.heap.objs.size := by rw [← hs3]; exact (Heap.size_push ..) ▸ Nat.lt_succ_self _
  have start := block_start I3 ok hN fun b hb => ⟨f3 b hb, Nat.lt_trans (below b hb) more⟩
  have kept : ∀ b o, s3.heap.get? b = some o → (pushCells (s3.heap.push { cls := .type "dict", data := .dict #[] }) scope.names).get? b = some o := fun b o eo => pushCells_keeps _ _ _ _ (Heap.get?_push_of_some _ eo)
  have p4 : tn 0 (pushCells (s3.heap.push { cls := .type "dict", data := .dict #[] }) scope.names) := T.keep _ _ _ p2 fun b _ o eo => kept b o (grown b o eo)
  have own4 := Lp.own (tn := tn) (i := 0) ⟨start, p4, fun b hb => (f3 b hb).1⟩
  have all := clause_walk (Y := X.blk s3 (upd H2 s2.heap.objs.size (TxSet X.prog X.w s2.heap.objs.size [])) scope (compEnvC scope (cellsFrom (s3.heap.objs.size + 1) scope.names (cloFrom X.env.cells scope.names [])) s3.heap.objs.size X.env) fp) (e := .SetComp elt (⟨tg, iter, ifs, 0⟩ :: rest) scope pos) (d := 0) (acc := .ref s2.heap.objs.size) (iter := iter)
    (R := compPost (model X.prog X.w) X.A X.xe none (fun v s' => ∃ x H', Inv X pins σ H' s' ∧ RelV x v ∧ Q x H') (.ref s2.heap.objs.size) s3.heap.objs.size)
    hc (fun _ _ z => z) rfl (fun _ => trivial) (hT _ _ _) rfl rfl T (hg s3 _ s3.heap.objs.size _ fp) (ht s3 _ s3.heap.objs.size _ fp) (hb s3 _ s3.heap.objs.size _ fp _) walk (fun s' H' I' _ fin => by
      have gone : H' s3.heap.objs.size = none := I'.free
      obtain ⟨m, hn, _⟩ := I'.loc
      obtain ⟨a, b, _, c, d, k⟩ := I3.fpOk (Nat.le_refl _) gone
      exact ⟨m, hn, fun h' sb => ⟨.ref s2.heap.objs.size, H', (blk_leave I3 f3 I').turned (t' := s'.toks) (fun x o hx eo => (sb.2 x hx).trans eo) a b c d k, rfl, fin⟩⟩) 0 m0 _ _ start own4 p4 w0
  exact PpSet.codeAny_compStart_set all (T.self X.A 0 _ _ _ p4 all)
/-- {elt for tg in iter if ..} of texts -/
theorem pe_sx1 (hc : X.calm = true) (hN : X.N.Nodup) (hi : PI X tg iter wi) (ok : BlkOk X.N X.env.scope scope own)
    (hg : ∀ (s : Shared) (H : Hp) (C : Addr) (cl : List (PySem.Str × Addr)) (fps : List Addr), PG (X.blk s H scope (compEnvC scope cl C X.env) fps) tg g)
    (ht : ∀ (s : Shared) (H : Hp) (C : Addr) (cl : List (PySem.Str × Addr)) (fps : List Addr), PTs (X.blk s H scope (compEnvC scope cl C X.env) fps) ifs tt)
    (he : ∀ (s : Shared) (H : Hp) (C : Addr) (cl : List (PySem.Str × Addr)) (fps : List Addr), PE (X.blk s H scope (compEnvC scope cl C X.env) fps) elt te) (hfo : ∀ x, foldedSetIterable iter X.env x = pure x := by intro _; rfl) :
    PE X (.SetComp elt [⟨tg, iter, ifs, 0⟩] scope pos) (tSx X.prog X.w wi g tt (fun D => tbAdd X.prog X.w D te) (own.map (·.2))) :=
  pe_sxB (B := fun D env => emitB elt (.ref D) env) hc hN hi ok (fun _ _ _ => rfl) hg ht (fun s H C cl fps D => pb_emit (fun _ _ z => z) (he s H C cl fps)) hfo
/-- {elt for tg in iter if .. for tg1 in iter1 if ..} of texts -/
theorem pe_sx2 (hc : X.calm = true) (hN : X.N.Nodup) (hi : PI X tg iter wi) (ok : BlkOk X.N X.env.scope scope own)
    (hg : ∀ (s : Shared) (H : Hp) (C : Addr) (cl : List (PySem.Str × Addr)) (fps : List Addr), PG (X.blk s H scope (compEnvC scope cl C X.env) fps) tg g)
    (ht : ∀ (s : Shared) (H : Hp) (C : Addr) (cl : List (PySem.Str × Addr)) (fps : List Addr), PTs (X.blk s H scope (compEnvC scope cl C X.env) fps) ifs tt)
    (hi1 : ∀ (s : Shared) (H : Hp) (C : Addr) (cl : List (PySem.Str × Addr)) (fps : List Addr), PI (X.blk s H scope (compEnvC scope cl C X.env) fps) tg1 iter1 wi1)
    (hg1 : ∀ (s : Shared) (H : Hp) (C : Addr) (cl : List (PySem.Str × Addr)) (fps : List Addr), PG (X.blk s H scope (compEnvC scope cl C X.env) fps) tg1 g1)
    (ht1 : ∀ (s : Shared) (H : Hp) (C : Addr) (cl : List (PySem.Str × Addr)) (fps : List Addr), PTs (X.blk s H scope (compEnvC scope cl C X.env) fps) ifs1 tt1)
    (he : ∀ (s : Shared) (H : Hp) (C : Addr) (cl : List (PySem.Str × Addr)) (fps : List Addr), PE (X.blk s H scope (compEnvC scope cl C X.env) fps) elt te)
    (hfo : ∀ x, foldedSetIterable iter X.env x = pure x := by intro _; rfl) (hfo1 : ∀ env x, foldedSetIterable iter1 env x = pure x := by intro _ _; rfl) :
    PE X (.SetComp elt [⟨tg, iter, ifs, 0⟩, ⟨tg1, iter1, ifs1, 0⟩] scope pos) (tSx X.prog X.w wi g tt (fun D => tbIn wi1 g1 tt1 (tbAdd X.prog X.w D te) vs1) (own.map (·.2))) :=
  pe_sxB (B := fun D env => nextB (.SetComp elt [⟨tg, iter, ifs, 0⟩, ⟨tg1, iter1, ifs1, 0⟩] scope pos) iter1 (.ref D) env) hc hN hi ok (fun it D env => by unfold turnBy nextB; simp only [bind_assoc, pure_bind]; rfl) hg ht
    (fun s H C cl fps D => pb_next hc (fun _ _ z => z) (hi1 s H C cl fps) (hg1 s H C cl fps) (ht1 s H C cl fps) (he s H C cl fps) (hfo1 _)) hfo
end
end Rg
namespace Rg
open PySem PySem.Spec L2 RZ PyProof.Rows
theorem perm_sub {α : Type} [DecidableEq α] : ∀ {l m : List α}, l.Nodup → (∀ x ∈ l, x ∈ m) → m.length ≤ l.length → m.Perm l
  | [], m, _, _, h => by
    have e : m = [] := List.eq_nil_of_length_eq_zero (Nat.le_zero.mp h)
    rw [e]
  | x :: l, m, nd, sub, h => by
    obtain ⟨nx, nl⟩ := List.nodup_cons.mp nd
    have p := List.perm_cons_erase (sub x List.mem_cons_self)
    have le := p.length_eq
    refine p.trans (List.Perm.cons x (perm_sub nl (fun y hy => ?_) ?_))
    · rcases List.mem_cons.mp (p.mem_iff.mp (sub y (List.mem_cons_of_mem _ hy))) with e | e
      · exact absurd hy (e ▸ nx)
      · exact e
    · simp only [List.length_cons] at le h
      omega
/-! ### what a builtin makes of a set of texts: len, sorted -/
section
variable {X : Cx}
def rLenSx (P : Program) (w : World) : List V → Hp → VK → Prop := fun xs H Q => ∃ b a ls, xs = [V.ref a] ∧ H a = some (TxSetB b P w a ls) ∧ ls.length < 64 ∧ Q (.int ls.length) H
theorem cr_lenSx : CallR X (.builtin "len") (rLenSx X.prog X.w) := by
  intro pins s σ H vs us Q I r h
  obtain ⟨b, a, ls, rfl, e, few, q⟩ := h
  rw [Vals.ref1 r]
  obtain ⟨c, ho, F, _⟩ := txset_at I e
  refine call_len_set (es := c.1) (ep := c.2.1) (t := c.2.2) ho ⟨rfl, rfl, rfl⟩ rfl F.fit (by rw [F.sz]; omega) ⟨.int ls.length, H, I.tok _, ⟨_, by rw [F.sz]⟩, q⟩
/-- the texts of a set in order -/
def rSortSx (P : Program) (w : World) : List V → Hp → VK → Prop := fun xs H Q => ∃ a ls, xs = [V.ref a] ∧ H a = some (TxSet P w a ls) ∧ ls.length < 64 ∧
  ∀ (ys : List Str) (p : Addr), sortedS ys = true → ys.Perm ls → H p = none → Q (.ref p) (upd H p (.lst (ys.map V.str)))
theorem texts_of {P : Program} {w : World} {es : List (Int × Value)} (h : ElemsOf (strKind P w) es) : ∀ e ∈ es, ∃ k u, e.2 = Value.str k u := fun e he => by
  obtain ⟨⟨k, hk, _⟩, _⟩ := h e he
  obtain ⟨u, z⟩ := Value.isStrOf_shape (x := k) (v := e.2) hk
  exact ⟨k, u, z⟩
/-- a list of texts as values -/
theorem strs_of : ∀ {vs : List Value}, (∀ v ∈ vs, ∃ k u, v = Value.str k u) → ∃ ks, StrsAre vs ks
  | [], _ => ⟨[], .nil⟩
  | v :: vs, h => by
    obtain ⟨k, u, rfl⟩ := h v List.mem_cons_self
    obtain ⟨ks, z⟩ := strs_of fun x hx => h x (List.mem_cons_of_mem _ hx)
    exact ⟨k :: ks, .cons k u z⟩
theorem strs_mem {k : Str} : ∀ {vs : List Value} {ks : List Str}, StrsAre vs ks → (k ∈ ks ↔ ∃ u, Value.str k u ∈ vs)
  | _, _, .nil => ⟨fun z => absurd z List.not_mem_nil, fun ⟨_, z⟩ => absurd z List.not_mem_nil⟩
  | _, _, .cons x u t => by
    rw [List.mem_cons, strs_mem t]
    constructor
    · rintro (rfl | ⟨v, z⟩)
      · exact ⟨u, List.mem_cons_self⟩
      · exact ⟨v, List.mem_cons_of_mem _ z⟩
    · rintro ⟨v, z⟩
      rcases List.mem_cons.mp z with e | z
      · cases e; exact .inl rfl
      · exact .inr ⟨v, z⟩
theorem cr_sortSx (hc : X.calm = true) : CallR X (.builtin "sorted") (rSortSx X.prog X.w) := by
  intro pins s σ H vs us Q I r h
  obtain ⟨a, ls, rfl, e, few, q⟩ := h
  rw [Vals.ref1 r]
  obtain ⟨c, ho, F, nd, wk⟩ := txset_at I e
  have big : ls.length < scanBound := Nat.lt_trans few (by decide)
  refine Calls.call_function_entry PyProof.Rows.kind_sorted PyProof.Rows.plain_sorted PyProof.Rows.entry_sorted (PyProof.Rows.args_sorted1 _) ?_
  unfold Builtin.«sorted»
  refine wpAny_bind (m := checkCount "sorted" 1 1 _) (wpAny_pure ?_)
  refine wpAny_bind (L2.collect_set (A := X.A.in1) (I.ok.hd hc) ⟨_, ho, rfl, rfl⟩ F.fit (by rw [F.sz]; exact big) (wk rfl).1 (wk rfl).2 fun s1 out old more gg oo perm => ?_)
  -- the values that come out, as texts
  obtain ⟨ks, hks⟩ := strs_of (vs := out) fun v hv => by
    obtain ⟨x, hx, rfl⟩ := List.mem_map.mp (perm.mem_iff.mp hv)
    exact texts_of F.el x hx
  have lk : ks.length = out.length := (StrsAre.len_eq hks).symm
  have lo : out.length = ls.length := by rw [perm.length_eq, List.length_map, Array.length_toList, F.sz]
  have same : ∀ k, k ∈ ks ↔ k ∈ ls := fun k => by
    rw [strs_mem hks, F.mem k]
    constructor
    · rintro ⟨u, hu⟩
      obtain ⟨x, hx, ex⟩ := List.mem_map.mp (perm.mem_iff.mp hu)
      exact ⟨x, hx, by rw [ex]; exact Froz.is_str k u⟩
    · rintro ⟨x, hx, ek⟩
      obtain ⟨u, ex⟩ := Value.isStrOf_shape (x := k) (v := x.2) ek
      exact ⟨u, perm.mem_iff.mpr (List.mem_map.mpr ⟨x, hx, ex⟩)⟩
  have pk : ks.Perm ls := perm_sub nd (fun k hk => (same k).mpr hk) (by rw [lk, lo]; exact Nat.le_refl _)
  refine wpAny_bind (wpAny_newList ?_ (by rw [lo, sizeLine_eq]; omega))
  have hL : (s1.heap.push (seqObj "list" out.toArray 0)).get? s1.heap.objs.size = some (seqObj "list" out.toArray 0) := Heap.get?_push_size _ rfl
  refine wpAny_bind (wpAny_holding (wpAny_call_entry PyProof.Rows.slot_list_sort ⟨_, hL, rfl⟩ PyProof.Rows.entry_list_sort
    (list_sort_treeK strKind_oneLt (s := { s1 with heap := s1.heap.push (seqObj "list" out.toArray 0) }) hL hks.keysOf (fun _ _ _ ev => keyKind_strs (by rw [← ev]; exact hks)) (by rw [lo]; exact few) fun st pst ord => ⟨_, rfl, ?_⟩) (PyProof.Rows.args_list_sort _)))
  obtain ⟨ys, y1, y2, y3⟩ := sorted_out_str hks pst ord
  obtain ⟨n, hn⟩ := PyProof.Rows.sortedHeap_at (vs := out) (out := (arrOf st).map (·.2)) hL
  have free : H s1.heap.objs.size = none := I.hok.fresh more
  have ly : ys.length = ls.length := (y2.trans pk).length_eq
  have kept : ∀ b o, s.heap.get? b = some o → (PyProof.Rows.sortedHeap (s1.heap.push (seqObj "list" out.toArray 0)) s1.heap.objs.size out ((arrOf st).map (·.2))).get? b = some o := fun b o z => by
    have z1 := old b o z
    have lt := Heap.lt_size z1
    rw [PyProof.Rows.sortedHeap_old (Nat.ne_of_lt lt) (by rw [size_push']; exact Nat.lt_succ_of_lt lt)]
    exact Heap.get?_push_of_some _ z1
  have done : Inv X pins σ (upd H s1.heap.objs.size (.lst (ys.map V.str))) { s with heap := PyProof.Rows.sortedHeap (s1.heap.push (seqObj "list" out.toArray 0)) s1.heap.objs.size out ((arrOf st).map (·.2)), gens := s1.gens, drawn := s1.drawn, toks := s1.toks } :=
    I.call (ch := []) (Un.laid kept more free) (I.hok.laid kept more ⟨by rw [List.length_map, ly, sizeLine_eq]; omega, ((arrOf st).map (·.2)).toList, n, vals_of_strs y1, by rw [Array.toArray_toList]; exact hn⟩) (by rw [gg]; exact I.bare) (fun _ z => nomatch z)
  have es : ∀ h', ({ s1 with heap := h' } : Shared) = { s with heap := h', gens := s1.gens, drawn := s1.drawn, toks := s1.toks } := fun h' => by
    cases s1; cases s
    have z : _ = _ := oo
    subst z
    rfl
  exact wpAny_pure ⟨_, rfl, .ref s1.heap.objs.size, _, by rw [es]; exact done, rfl, q ys _ y3 (y2.trans pk) free⟩
end
end Rg
namespace Rg
open PySem PySem.Spec L2 RZ PyProof.Rows
/-! ### set(a list of texts) -/
def fillTx (ks : List Str) : List Str := ks.foldl (fun ls k => putIn k ls) []
theorem fillTx_app (ks : List Str) (k : Str) : fillTx (ks ++ [k]) = putIn k (fillTx ks) := by unfold fillTx; rw [List.foldl_append]; rfl
theorem fillTx_len (ks : List Str) : (fillTx ks).length ≤ ks.length := by
  suffices h : ∀ (ks ls : List Str), (ks.foldl (fun ls k => putIn k ls) ls).length ≤ ls.length + ks.length by
    have := h ks []; simpa [fillTx] using this
  intro ks
  induction ks with
  | nil => intro ls; exact Nat.le_refl _
  | cons k r ih =>
    intro ls
    have h1 := ih (putIn k ls)
    have h2 := len_putIn (k := k) (ls := ls)
    show (r.foldl _ (putIn k ls)).length ≤ ls.length + (r.length + 1)
    omega
theorem fillTx_mem (ks : List Str) (x : Str) : x ∈ fillTx ks ↔ x ∈ ks := by
  suffices h : ∀ (ks ls : List Str), x ∈ ks.foldl (fun ls k => putIn k ls) ls ↔ x ∈ ls ∨ x ∈ ks by
    have := h ks []; simpa [fillTx] using this
  intro ks
  induction ks with
  | nil => intro ls; simp
  | cons k r ih =>
    intro ls
    rw [List.foldl_cons, ih, mem_putIn, List.mem_cons]
    constructor
    · rintro ((h | h) | h)
      · exact .inr (.inl h)
      · exact .inl h
      · exact .inr (.inr h)
    · rintro (h | h | h)
      · exact .inl (.inr h)
      · exact .inl (.inl h)
      · exact .inr h
theorem fillTx_nodup (ks : List Str) : (fillTx ks).Nodup := by
  suffices h : ∀ (ks ls : List Str), ls.Nodup → (ks.foldl (fun ls k => putIn k ls) ls).Nodup from h ks [] List.nodup_nil
  intro ks
  induction ks with
  | nil => intro ls h; exact h
  | cons k r ih => intro ls h; exact ih _ (nodup_putIn h)
/-- as many as there were: none twice -/
theorem fillTx_same (ks : List Str) : (fillTx ks).length = ks.length ↔ ks.Nodup := by
  constructor
  · intro e
    exact (perm_sub (fillTx_nodup ks) (fun x h => (fillTx_mem ks x).mp h) (Nat.le_of_eq e.symm)).nodup_iff.mpr (fillTx_nodup ks)
  · intro nd
    exact Nat.le_antisymm (fillTx_len ks) (by
      have z := perm_sub (m := fillTx ks) nd (fun x h => (fillTx_mem ks x).mpr h) (fillTx_len ks)
      exact Nat.le_of_eq z.length_eq.symm)
section
variable {P : Program} {w : World} {A : Around} {E : Value → Shared → Prop} {s : Shared}
theorem TxInB.kept {wb : Bool} {h h' : Heap} {a : Addr} {ls : List Str} (R : TxInB wb P w a ls h) (k : ∀ o, h.get? a = some o → h'.get? a = some o) : TxInB wb P w a ls h' := by
  obtain ⟨c, ho, r⟩ := R
  exact ⟨c, k _ ho, r⟩
/-- the filling, from the item i on -/
theorem fill_from {it S : Addr} {fp wr : List Addr} {G : Array GenState → Array GenState → Prop} {n : Nat} {Pv : Nat → Value → Prop} {St : Nat → Shared → Prop} {ks : List Str} {R : Result → Shared → Prop} (W : WalksS P w A.in1 it fp wr G n Pv St) (hS : S ∉ fp) (hn : ks.length = n) (few : n < 64)
    (hv : ∀ i v, Pv i v → ∃ u, v = .str (ks.getD i Str.empty) u) : ∀ (j i : Nat) (s : Shared), i + j = n → St i s → TxInB false P w S (fillTx (ks.take i)) s.heap →
    (∀ s', Moved (S :: wr) G s s' → TxInB false P w S (fillTx ks) s'.heap → R (.ok (.ret .none)) s') → codeAny (model P w) A (.builtin "set.update.loop" ⟨[.ref S, .ref it], []⟩) R s := by
  have apart : S ∉ wr := fun z => hS (W.sub _ z)
  have wider : ∀ b ∈ wr, b ∈ S :: wr := fun b z => List.mem_cons_of_mem _ z
  intro j
  induction j with
  | zero =>
    intro i s e st tx done
    obtain rfl : i = n := e
    refine codeAny_builtin PyProof.Rows.F.entry_set_update_loop ?_
    rw [Around.under_plainId PyProof.Rows.F.plain_set_update_loop _]
    show wpAny _ A.in1 (pyNext (.ref it) >>= _) _ _ s
    refine wpAny_bind (W.done s _ _ st fun s' mv => wpAny_pure (done s' (mv.mono wider) ?_))
    rw [← hn, List.take_length] at tx
    exact tx.kept fun o z => mv.heap S o apart z
  | succ j ih =>
    intro i s e st tx done
    have lt : i < n := by omega
    have hk : ks[i]? = some (ks.getD i Str.empty) := by rw [List.getD_eq_getElem?_getD, List.getElem?_eq_getElem (by omega)]; rfl
    refine codeAny_builtin PyProof.Rows.F.entry_set_update_loop ?_
    rw [Around.under_plainId PyProof.Rows.F.plain_set_update_loop _]
    show wpAny _ A.in1 (pyNext (.ref it) >>= _) _ _ s
    refine wpAny_bind (W.item i s _ _ lt st fun v s1 hp st1 mv => ?_)
    obtain ⟨u, rfl⟩ := hv i v hp
    have tx1 : TxInB false P w S (fillTx (ks.take i)) s1.heap := tx.kept fun o z => mv.heap S o apart z
    have room : (fillTx (ks.take i)).length + 1 < scanBound := by
      have h1 := fillTx_len (ks.take i)
      have h2 := List.length_take_le i ks
      exact Nat.lt_of_le_of_lt (show _ ≤ 65 by omega) (by decide)
    show wpAny _ A.in1 (holding [Value.str (ks.getD i Str.empty) u] (setAdd S (.str (ks.getD i Str.empty) u)) >>= _) _ _ s1
    refine wpAny_bind (wpAny_holding (tx_setAdd tx1 room fun b h' tx2 kp => wpAny_pure ⟨plainId_quiet PyProof.Rows.F.plain_set_update_loop _, ?_⟩))
    refine ih (i + 1) _ (by omega) (W.frame _ s1 _ _ st1 (Nat.le_succ _) fun b hb o z => kp b o (fun q => hS (q ▸ hb)) z) ?_ fun s' mv' tx' => done s' (Moved.trans W.gtrans ((mv.mono wider).then_heap (Nat.le_succ _) fun b o hb z => kp b o (fun q => hb (q ▸ List.mem_cons_self)) z) mv') tx'
    rw [List.take_succ, hk]
    show TxInB false P w S (fillTx (ks.take i ++ [ks.getD i Str.empty])) h'
    rw [fillTx_app]
    exact tx2
/-- what set.__init__ makes of a list of texts, the set at S just made -/
theorem init_texts {S l : Addr} {led : Bool} {items : Array Value} {ks : List Str} {Q : Shared → Prop} (hh : A.handled = none) (hl : s.heap.IsList l items) (hi : StrsAre items.toList ks) (few : ks.length < 64)
    (hS : s.heap.get? S = some { cls := .type "set", dict := none, data := .set #[] 0 (.fresh 0 0 led) })
    (h : ∀ h' tk, TxInB false P w S (fillTx ks) h' → (∀ b o, b ≠ S → s.heap.get? b = some o → h'.get? b = some o) → Q { s with heap := h', toks := tk }) :
    wpAny (model P w) A.in1 (Builtin.«set.__init__» ⟨[.ref S, .ref l], []⟩) (fun fin s' => match fin with | .done (.ret r) => r = .none ∧ Q s' | _ => False) E s := by
  have tx : TxInB false P w S [] s.heap := ⟨(#[], 0, .fresh 0 0 led), hS, Froz.TxOk.nil (by rfl), List.nodup_nil, fun z => by cases z⟩
  have hT : s.TypeIs (.ref S) "set" := ⟨_, hS, rfl⟩
  have lt : s.TypeIs (.ref l) "list" := hl.typeIs
  have ne : S ≠ l := fun e => by
    obtain ⟨o, e1, e2, _⟩ := hl
    rw [← e, hS] at e1
    cases e1
    exact absurd (show Value.type "set" = Value.type "list" from e2) (by decide)
  have tail : wpAny (model P w) A.in1 (pyIter (.ref l)) (fun it s1 => wpAny (model P w) A.in1 (runValue (.builtin "set.update.loop" ⟨[.ref S, it], []⟩)) (fun _ s' => Q s') E s1) E s := by
    refine wpAny_pyIter_list hl (wpAny_runValue ?_)
    have fresh : ∀ b o, s.heap.get? b = some o → b ≠ s.heap.objs.size := fun b o z => Nat.ne_of_lt (Heap.lt_size z)
    have lne : l ≠ s.heap.objs.size := by
      obtain ⟨o, e1, _⟩ := hl
      exact fresh l o e1
    refine fill_from (W := (Walks.list (by simp [hh]) _ l lne items).toS) (ks := ks) ?_ (by rw [← StrsAre.len_eq hi, Array.length_toList]) (by rw [← Array.length_toList, StrsAre.len_eq hi]; exact few)
      (fun i v hv => SS.strs_at hi i v (by rw [Array.getElem?_toList]; exact hv)) items.size 0 _ (Nat.zero_add _) ⟨⟨_, Heap.get?_push_size _ rfl, rfl, rfl⟩, hl.push _⟩ (tx.kept fun o z => Heap.get?_push_of_some _ z) fun s' mv tx' => ?_
    · simp only [List.mem_cons, List.not_mem_nil, or_false, not_or]
      exact ⟨fresh S _ hS, ne⟩
    · have es : s' = { s with heap := s'.heap, toks := s'.toks } := by
        have e1 := mv.gens
        have e2 := mv.drawn
        have e3 := mv.os
        cases s'; cases s
        simp only at e1 e2 e3
        subst e1; subst e2; subst e3; rfl
      rw [es]
      refine h _ _ tx' fun b o hb z => mv.heap b o ?_ (Heap.get?_push_of_some _ z)
      simp only [List.mem_cons, List.not_mem_nil, or_false, not_or]
      exact ⟨hb, fresh b o z⟩
  obtain ⟨lo, le, lc, ln, ld⟩ := hl
  have b1 := PySem.F.sub_list_set
  have b2 := PySem.F.sub_list_frozenset
  have b3 : (Value.type "list" == Value.type "dict") = false := by decide
  unfold Builtin.«set.__init__» noKeywords Builtin.Frozenset.updateFrom
  generalize pyIter = PI at tail ⊢
  wp_walk
  exact wpAny_mono tail (fun it s1 z => wpAny_bind (wpAny_mono z (fun _ s2 q => wpAny_pure (wpAny_pure ⟨rfl, q⟩)) fun _ _ z => z)) fun _ _ z => z
/-- set(xs) -/
theorem call_set_texts {l : Addr} {items : Array Value} {ks : List Str} {Q : Value → Shared → Prop} (hh : A.handled = none) (hl : s.heap.IsList l items) (hi : StrsAre items.toList ks) (few : ks.length < 64)
    (h : ∀ h' tk, TxInB false P w s.heap.objs.size (fillTx ks) h' → (∀ b o, s.heap.get? b = some o → h'.get? b = some o) → Q (.ref s.heap.objs.size) { s with heap := h', toks := tk }) :
    wpAny (model P w) A (call (.type "set") [.ref l]) Q E s := by
  have f1 := PySem.F.called_set.mro
  have f2 := PySem.F.called_set.made
  have f3 := PySem.F.called_set.sub
  have f4 := PySem.F.called_set.notType
  have f5 := PySem.F.called_set.canCreate
  have f6 := PySem.F.typeCall_set_1 (.ref l)
  have f7 := PySem.F.called_set.init.lookup
  have f8 := PySem.F.called_set.init.bind (.ref s.heap.objs.size)
  obtain ⟨m1, m2, f1⟩ := f1
  refine wpAny_call (codeAny_of_tree (show wpAny _ _ (callAny (.type "set") _) _ _ _ from wpAny_pure ⟨Code.quiet_builtin _ (by decide +kernel), codeAny_builtin PySem.F.entry_type_call ?_⟩))
  rw [Around.under_plain (weight_type_call_type "set" [.ref l] []) rfl]
  repeat (any_goals (first | assumption | wp_step))
  refine codeAny_mono (code_set_new_1 (.ref l) (E := E) (Q₁ := fun v s1 => ∃ led : Bool, v = .ref s.heap.objs.size ∧ s1 = { s with heap := s.heap.push { cls := .type "set", dict := none, data := .set #[] 0 (.fresh 0 0 led) } }) fun led => ⟨led, rfl, rfl⟩) fun r s1 hr => ?_
  match r, hr with
  | .ok (.ret v), hr =>
    obtain ⟨led, rfl, rfl⟩ := hr
    have new : (s.heap.push { cls := .type "set", dict := none, data := .set #[] 0 (.fresh 0 0 led) }).get? s.heap.objs.size = some { cls := .type "set", dict := none, data := .set #[] 0 (.fresh 0 0 led) } := Heap.get?_push_size _ rfl
    have f9 : Shared.TypeIs { s with heap := s.heap.push { cls := .type "set", dict := none, data := .set #[] 0 (.fresh 0 0 led) } } (.ref s.heap.objs.size) "set" := ⟨_, new, rfl⟩
    repeat (any_goals (first | assumption | wp_step))
    refine codeAny_mono (codeAny_call_builtin (R := fun r s2 => match r with | .ok (.ret r) => r = .none ∧ Q (.ref s.heap.objs.size) s2 | .ok _ => False | .error e => E e s2) PySem.F.called_set.init.plain PySem.F.entry_set_init (check_set_init_1 f9 ?_)) fun r2 s2 h2 => ?_
    · refine wpAny_mono (init_texts (Q := fun s2 => Q (.ref s.heap.objs.size) s2) (E := E) (by simp [hh]) (hl.push _) hi few new fun h' tk tx kp => h h' tk tx fun b o z => kp b o (Nat.ne_of_lt (Heap.lt_size z)) (Heap.get?_push_of_some _ z)) (fun fin s2 z => ?_) fun _ _ z => z
      cases fin with
      | again c => exact False.elim z
      | done f =>
        cases f with
        | ret r => exact z
        | next => exact False.elim z
        | brk => exact False.elim z
        | cont => exact False.elim z
    · match r2, h2 with
      | .ok (.ret r), h2 =>
        obtain ⟨rfl, q⟩ := h2
        repeat (any_goals (first | assumption | wp_step))
      | .error e, h2 => exact h2
  | .error e, hr => exact hr
end
section
variable {X : Cx}
def rSetTx (K : PySem.W.Frag) (P : Program) (w : World) : List V → Hp → VK → Prop := fun xs H Q => ∃ l ks, xs = [V.ref l] ∧ SqL K H l (ks.map V.str) ∧ ks.length < 64 ∧ ∀ a, H a = none → Q (.ref a) (upd H a (TxSetB false P w a (fillTx ks)))
theorem cr_setTx (hc : X.calm = true) : CallR X (.type "set") (rSetTx X.K X.prog X.w) := by
  intro pins s σ H vs us Q I r h
  obtain ⟨l, ks, rfl, hl, few, q⟩ := h
  rw [Vals.ref1 r]
  obtain ⟨its, rv, pl, _⟩ := I.list hl
  refine call_set_texts (I.ok.hd hc) pl.isList (by simpa using strsAre_of rv) few fun h' tk tx kp => ?_
  exact ⟨.ref s.heap.objs.size, _, I.laid (t' := tk) kp (Nat.le_refl _) (txset_ok tx), rfl, q _ (I.hok.fresh (Nat.le_refl _))⟩
end
end Rg
namespace Rg
open PySem PySem.Spec L2 RZ PyProof.Rows
/-! ### sets of texts, told of the data -/
def isTx (P : Program) (w : World) (D : Addr) (ls : List Str) : Hp → HO → Prop := fun _ o => o = TxSet P w D ls
theorem isTx.mono {P : Program} {w : World} {D : Addr} {ls : List Str} : ∀ G1 G2 o, Same G1 G2 → isTx P w D ls G1 o → isTx P w D ls G2 o := fun _ _ _ _ h => h
section
variable {P : Program} {w : World} {K : PySem.W.Frag} {M : Mt} {o : Own} {ds : DS} {te ta : TE}
theorem wipe_wider {σ : L2.St} {vs vs1 : List Nat} (h : ∀ v ∈ vs1, v ∈ vs) : wipe (wipe σ vs1) vs = wipe σ vs := by
  apply List.ext_getElem?
  intro i
  have l1 : (wipe (wipe σ vs1) vs).length = (wipe σ vs).length := by rw [wipe_length, wipe_length, wipe_length]
  by_cases k : i ∈ vs
  · rcases wipe_none (σ := wipe σ vs1) k with a | a <;> rcases wipe_none (σ := σ) k with b | b
    · rw [a, b]
    · have z := List.getElem?_eq_none_iff.mp b
      rw [← l1] at z
      rw [List.getElem?_eq_none_iff.mpr z] at a
      cases a
    · have z := List.getElem?_eq_none_iff.mp a
      rw [l1] at z
      rw [List.getElem?_eq_none_iff.mpr z] at b
      cases b
    · rw [a, b]
  · rw [wipe_out k, wipe_out k, wipe_out fun z => k (h i z)]
theorem small_room {ls : List Str} {n : Nat} (h : ls.length ≤ n) (hn : n < 64) : ls.length + 1 < scanBound := Nat.lt_of_le_of_lt (show _ ≤ 65 by omega) (by decide)
/-- len({elt for .. in ..}) -/
theorem ev_lenSx {wi : TI} {g : TG} {tt : TT} {vs : List Nat} {es : List D} {f : D → Str} (hI : EvI K M ds wi (· = es))
    (h : ∀ d ∈ es, EvG K M (some vs) g d (wipeD ds vs) (fun ds2 => EvT K M ds2 tt (· = true) ∧ Ev K M ds2 te (· = .str (f d)))) (few : es.length < 64) :
    Ev K M ds (tCB (rLenSx P w) (tCons (tSx P w wi g tt (fun D => tbAdd P w D te) vs) tNil)) (· = .int (fillTx (es.map f)).length) := fun M' σ G H Q m s w' q => by
  show tSx P w wi g tt (fun D => tbAdd P w D te) vs σ H fun v H1 => rLenSx P w [v] H1 Q
  refine hI M' σ G H _ m s w' fun J es' G1 H1 s1 w1 ees W D hD => ?_
  subst ees
  refine ⟨fun i mm H' => mm = es'.length - i ∧ i ≤ es'.length ∧ ∃ G2, Same G1 G2 ∧ Wd (M'.cons (D, isTx P w D (fillTx ((es'.take i).map f)))) G2 H', ⟨es'.length, by simp, Nat.zero_le _, G1, Same.refl _, w1.newM hD rfl isTx.mono⟩, ?_⟩
  rintro i mm H2 ⟨rfl, hi, G2, s2, w2⟩
  by_cases hlt : i < es'.length
  · refine .inr ⟨W.goes i H2 G2 _ hlt s2 w2, fun H' => ∃ G3, Same G1 G3 ∧ Wd (M'.cons (D, isTx P w D (fillTx ((es'.take (i + 1)).map f)))) G3 H', fun H' ⟨G3, s3, w3⟩ => ⟨es'.length - (i + 1), by omega, rfl, hlt, G3, s3, w3⟩, fun x H3 y => ?_⟩
    obtain ⟨G3, d, s3, w3, hd, rd⟩ := W.yields i H2 x H3 G2 _ hlt s2 w2 y
    refine h d (List.mem_of_getElem? hd) _ (wipe σ vs) G3 H3 x _ (MSub.cons m) ((s.mono ((s1.trans s2).trans s3)).wipe vs) w3 rd fun ds2 σ2 G4 H4 ⟨hT, hE⟩ s4 sg4 w4 hw => ?_
    have ew : wipe σ2 vs = wipe σ vs := by
      have e := hw vs rfl (wipe σ vs) rfl
      rw [e, wipe_wipe σ vs]
    refine ⟨ew, hT _ σ2 G4 H4 _ (MSub.cons m) sg4 w4 fun b G5 H5 s5 w5 hb => ?_⟩
    subst hb
    rw [if_pos rfl]
    refine hE _ σ2 G5 H5 _ (MSub.cons m) (sg4.mono s5) w5 fun v d6 G6 H6 s6 w6 r6 e6 => ?_
    subst e6
    obtain ⟨_, u, hu, eu⟩ := w6.mt _ List.mem_cons_self
    have eu : u = TxSet P w D (fillTx ((es'.take i).map f)) := eu
    subst eu
    have lt : (fillTx ((es'.take i).map f)).length ≤ es'.length := Nat.le_trans (fillTx_len _) (by rw [List.length_map]; exact List.length_take_le' _ _)
    refine ⟨f d, _, r6.str_inv, hu, small_room lt few, ew, G6, ((((s2.trans s3).trans s4).trans s5).trans s6), w6.put ?_ isTx.mono⟩
    show TxSet P w D _ = TxSet P w D _
    rw [take_one _ hd, List.map_append, List.map_singleton, fillTx_app]
  · have ei : i = es'.length := by omega
    subst ei
    obtain ⟨g0, u, hu, eu⟩ := w2.mt _ List.mem_cons_self
    have eu : u = TxSet P w D (fillTx ((es'.take es'.length).map f)) := eu
    subst eu
    rw [List.take_length] at hu
    refine .inl ⟨W.stops H2 G2 _ s2 w2, true, D, _, rfl, hu, Nat.lt_of_le_of_lt (fillTx_len _) (by rw [List.length_map]; exact few), ?_⟩
    exact q (.int _) (.int _) G2 H2 (s1.trans s2) w2.tail (.int _) rfl
/-- len(set(xs)) -/
theorem ev_lenSetTx {ks : List Str} (ha : Ev K M ds ta (· = .list (ks.map D.str))) (few : ks.length < 64) :
    Ev K M ds (tCB (rLenSx P w) (tCons (tCB (rSetTx K P w) (tCons ta tNil)) tNil)) (· = .int (fillTx ks).length) := fun M' σ G H Q m s w' q => by
  show ta σ H fun v H1 => rSetTx K P w [v] H1 fun v2 H2 => rLenSx P w [v2] H2 Q
  refine ha M' σ G H _ m s w' fun v d G1 H1 s1 w1 r1 e1 => ?_
  subst e1
  obtain ⟨p, xs, rfl, hq, rx⟩ := r1.list_inv
  have ex : xs = ks.map V.str := rx.str_inv
  subst ex
  refine ⟨p, ks, rfl, w1.sub.seq hq, few, fun a fa => ?_⟩
  have w2 := w1.newM (φ := fun _ o => o = TxSetB false P w a (fillTx ks)) fa rfl fun _ _ _ _ z => z
  exact ⟨false, a, _, rfl, upd_same, Nat.lt_of_le_of_lt (fillTx_len _) few, q (.int _) (.int _) G1 _ s1 w2.tail (.int _) rfl⟩
/-- sorted({elt for .. for ..}) -/
theorem evw_sortSx {wi wi1 : TI} {g g1 : TG} {tt tt1 : TT} {vs vs1 : List Nat} {es : List D} {f : D → List Str} {zs : List Str} (hI : EvI K (M.adds (ownM K o)) ds wi (· = es))
    (h : ∀ d ∈ es, EvG K (M.adds (ownM K o)) (some vs) g d (wipeD ds vs) (fun ds2 => ∃ fs : List D, EvT K (M.adds (ownM K o)) ds2 tt (· = true) ∧ EvI K (M.adds (ownM K o)) ds2 wi1 (· = fs) ∧ fs.length = (f d).length ∧
      ∀ (j : Nat) e x, fs[j]? = some e → (f d)[j]? = some x → EvG K (M.adds (ownM K o)) (some vs1) g1 e (wipeD ds2 vs1) (fun ds3 => EvT K (M.adds (ownM K o)) ds3 tt1 (· = true) ∧ Ev K (M.adds (ownM K o)) ds3 te (· = .str x))))
    (hv : ∀ v ∈ vs1, v ∈ vs) (h64 : (es.flatMap f).length < 64) (hz : sortedS zs = true) (nz : zs.Nodup) (hm : ∀ k, k ∈ zs ↔ k ∈ es.flatMap f) :
    EvW K M o ds (tCB (rSortSx P w) (tCons (tSx P w wi g tt (fun D => tbIn wi1 g1 tt1 (tbAdd P w D te) vs1) vs) tNil)) (fun o' d => ∃ p, o' = (p, .lst (zs.map D.str)) :: o ∧ d = .raw (.ref p)) := fun M0 σ G H Q m0 s w' q => by
  have m := m0.adds2 (l := ownM K o)
  generalize eM : M0.adds (ownM K o) = M' at m w'
  show tSx P w wi g tt (fun D => tbIn wi1 g1 tt1 (tbAdd P w D te) vs1) vs σ H fun v H1 => rSortSx P w [v] H1 Q
  refine hI M' σ G H _ m s w' fun J es' G1 H1 s1 w1 ees W D hD => ?_
  subst ees
  -- the outer walk: the texts of the first i items are in
  refine ⟨fun i mm H' => mm = es'.length - i ∧ i ≤ es'.length ∧ ∃ G2, Same G1 G2 ∧ Wd (M'.cons (D, isTx P w D (fillTx ((es'.take i).flatMap f)))) G2 H', ⟨es'.length, by simp, Nat.zero_le _, G1, Same.refl _, w1.newM hD rfl isTx.mono⟩, ?_⟩
  rintro i mm H2 ⟨rfl, hi, G2, s2, w2⟩
  by_cases hlt : i < es'.length
  · refine .inr ⟨W.goes i H2 G2 _ hlt s2 w2, fun H' => ∃ G3, Same G1 G3 ∧ Wd (M'.cons (D, isTx P w D (fillTx ((es'.take (i + 1)).flatMap f)))) G3 H', fun H' ⟨G3, s3, w3⟩ => ⟨es'.length - (i + 1), by omega, rfl, hlt, G3, s3, w3⟩, fun x H3 y => ?_⟩
    obtain ⟨G3, d, s3, w3, hd, rd⟩ := W.yields i H2 x H3 G2 _ hlt s2 w2 y
    refine h d (List.mem_of_getElem? hd) _ (wipe σ vs) G3 H3 x _ (MSub.cons m) ((s.mono ((s1.trans s2).trans s3)).wipe vs) w3 rd fun ds2 σ2 G4 H4 ⟨fs, hT, hI1, hl, hin⟩ s4 sg4 w4 hw => ?_
    have ew : wipe σ2 vs = wipe σ vs := by
      have e := hw vs rfl (wipe σ vs) rfl
      rw [e, wipe_wipe σ vs]
    refine ⟨ew, hT _ σ2 G4 H4 _ (MSub.cons m) sg4 w4 fun b G5 H5 s5 w5 hb => ?_⟩
    subst hb
    rw [if_pos rfl]
    refine hI1 _ σ2 G5 H5 _ (MSub.cons m) (sg4.mono s5) w5 fun J1 fs' G6 H6 s6 w6 ef W1 => ?_
    subst ef
    have s16 : Same G1 G6 := (((s2.trans s3).trans s4).trans s5).trans s6
    -- the inner walk: those of the first j ends are in, too
    refine ⟨fun j k H' => k = fs'.length - j ∧ j ≤ fs'.length ∧ ∃ G7, Same G6 G7 ∧ Wd (M'.cons (D, isTx P w D (fillTx ((es'.take i).flatMap f ++ (f d).take j)))) G7 H', ⟨fs'.length, by simp, Nat.zero_le _, G6, Same.refl _, by simpa using w6⟩, ?_⟩
    rintro j k H7 ⟨rfl, hj, G7, s7, w7⟩
    by_cases hjl : j < fs'.length
    · refine .inr ⟨W1.goes j H7 G7 _ hjl s7 w7, fun H' => ∃ G8, Same G6 G8 ∧ Wd (M'.cons (D, isTx P w D (fillTx ((es'.take i).flatMap f ++ (f d).take (j + 1))))) G8 H', fun H' ⟨G8, s8, w8⟩ => ⟨fs'.length - (j + 1), by omega, rfl, hjl, G8, s8, w8⟩, fun x1 H8 y1 => ?_⟩
      obtain ⟨G8, e, s8, w8, he, re⟩ := W1.yields j H7 x1 H8 G7 _ hjl s7 w7 y1
      have hfx : (f d)[j]? = some ((f d)[j]'(by omega)) := List.getElem?_eq_getElem (by omega)
      refine hin j e _ he hfx _ (wipe σ2 vs1) G8 H8 x1 _ (MSub.cons m) ((sg4.mono (((s5.trans s6).trans s7).trans s8)).wipe vs1) w8 re fun ds3 σ3 G9 H9 ⟨hT1, hE⟩ s9 sg9 w9 hw1 => ?_
      have ew1 : wipe σ3 vs1 = wipe σ2 vs1 := by
        have e := hw1 vs1 rfl (wipe σ2 vs1) rfl
        rw [e, wipe_wipe σ2 vs1]
      refine ⟨ew1, hT1 _ σ3 G9 H9 _ (MSub.cons m) sg9 w9 fun b G10 H10 s10 w10 hb => ?_⟩
      subst hb
      rw [if_pos rfl]
      refine hE _ σ3 G10 H10 _ (MSub.cons m) (sg9.mono s10) w10 fun v d6 G11 H11 s11 w11 r11 ed => ?_
      subst ed
      obtain ⟨_, u, hu, eu⟩ := w11.mt _ List.mem_cons_self
      have eu : u = TxSet P w D (fillTx ((es'.take i).flatMap f ++ (f d).take j)) := eu
      subst eu
      have fit : (fillTx ((es'.take i).flatMap f ++ (f d).take j)).length ≤ (es'.flatMap f).length := by
        have e1 : es'.flatMap f = (es'.take (i + 1)).flatMap f ++ (es'.drop (i + 1)).flatMap f := by rw [← List.flatMap_append, List.take_append_drop]
        refine Nat.le_trans (fillTx_len _) ?_
        rw [e1, take_flat es' f hd]
        simp only [List.length_append, List.length_take]
        omega
      refine ⟨_, _, r11.str_inv, hu, small_room fit h64, ew1, G11, (((s7.trans s8).trans s9).trans s10).trans s11, w11.put ?_ isTx.mono⟩
      show TxSet P w D _ = TxSet P w D _
      rw [take_one _ hfx, ← List.append_assoc, fillTx_app]
    · have ej : j = fs'.length := by omega
      subst ej
      refine .inl ⟨W1.stops H7 G7 _ s7 w7, ?_, G7, s16.trans s7, ?_⟩
      · rw [wipe_wider hv, ew]
      · rw [take_flat es' f hd]
        rw [hl, List.take_length] at w7
        exact w7
  · have ei : i = es'.length := by omega
    subst ei
    obtain ⟨g0, u, hu, eu⟩ := w2.mt _ List.mem_cons_self
    have eu : u = TxSet P w D (fillTx ((es'.take es'.length).flatMap f)) := eu
    subst eu
    rw [List.take_length] at hu
    refine .inl ⟨W.stops H2 G2 _ s2 w2, D, _, rfl, hu, Nat.lt_of_le_of_lt (fillTx_len _) h64, fun ys p y1 y2 hp => ?_⟩
    have e : ys = zs := sorted_one y1 hz (y2.nodup_iff.mpr (fillTx_nodup _)) nz fun k => by rw [y2.mem_iff, fillTx_mem, hm k]
    subst e
    have w3 : Wd M' G2 H2 := w2.tail
    subst eM
    have stx : ∀ (l : List Str) (G : Hp), RpAll K G (l.map V.str) (l.map Rg.D.str) := fun l G => by
      induction l with
      | nil => exact .nil
      | cons x r ih => exact .cons (.str x) ih
    exact q (.ref p) (.raw (.ref p)) ((p, .lst (ys.map Rg.D.str)) :: o) G2 _ (s1.trans s2) (w3.newW hp ⟨_, rfl, stx ys _⟩) (.raw _) ⟨p, rfl, rfl⟩
end
end Rg
namespace Rg
open PySem PySem.Spec L2 RZ PyProof.Rows
/-! ### dicts that are read only -/
def kD : Key → D
  | .inl i => .int i
  | .inr x => .str x
theorem rp_kD {K : PySem.W.Frag} {G : Hp} {v : V} {k : Key} (r : Rp K G v (kD k)) : v = kV k := by
  cases k with
  | inl i => exact r.int_inv
  | inr x => exact r.str_inv
def getK : List Key → List D → Key → Option D
  | k :: ks, d :: ds, j => if k = j then some d else getK ks ds j
  | _, _, _ => none
theorem val_of {K : PySem.W.Frag} {G : Hp} : ∀ {us : List (Key × V)} {es : List D} {k : Key} {d : D}, RpAll K G (us.map (·.2)) es → getK (us.map (·.1)) es k = some d → ∃ v, valV us k = some v ∧ Rp K G v d
  | [], es, k, d, r, h => by cases h
  | (n, v) :: us, [], k, d, r, h => by cases r
  | (n, v) :: us, e :: es, k, d, r, h => by
    cases r with
    | cons r1 r2 =>
      have h2 : (if n = k then some e else getK (us.map (·.1)) es k) = some d := h
      by_cases q : n = k
      · rw [if_pos q] at h2
        cases h2
        exact ⟨v, valV_pos q, r1⟩
      · rw [if_neg q] at h2
        obtain ⟨u, a, b⟩ := val_of r2 h2
        exact ⟨u, by rw [valV_neg q]; exact a, b⟩
section
variable {K : PySem.W.Frag} {M : Mt} {ds : DS} {td ty : TE}
theorem ev_dget {ks : List Key} {es : List D} {k : Key} {d : D} (hd : Ev K M ds td (· = .dict ks es)) (hk : Ev K M ds ty (· = kD k)) (h : getK ks es k = some d) : Ev K M ds (tDGet td ty) (· = d) := fun M' σ G H Q m s w q =>
  hd M' σ G H _ m s w fun v d1 G1 H1 s1 w1 r1 e1 => hk M' σ G1 H1 _ m (s.mono s1) w1 fun v2 d2 G2 H2 s2 w2 r2 e2 => by
    subst e1; subst e2
    generalize ez : D.dict ks es = z at r1
    cases r1 with
    | @dict a us es' h1 r =>
      injection ez with e3 e4
      subst e3; subst e4
      obtain ⟨u, hu, ru⟩ := val_of r h
      refine ⟨a, u, rfl, .inl ⟨us, k, .inl (w2.sub _ _ (s2 _ _ h1)), rp_kD r2, hu.symm⟩, q u d G2 H2 (s1.trans s2) w2 (ru.mono s2) rfl⟩
    | _ => cases ez
inductive EvPr (K : PySem.W.Frag) (M : Mt) (ds : DS) : List (TE × TE) → List Key → List D → Prop
  | nil : EvPr K M ds [] [] []
  | cons {tk tv : TE} {r : List (TE × TE)} {k : Key} {d : D} {ks : List Key} {es : List D} (hk : Ev K M ds tk (· = kD k)) (hv : Ev K M ds tv (· = d)) (hr : EvPr K M ds r ks es) : EvPr K M ds ((tk, tv) :: r) (k :: ks) (d :: es)
theorem evpr_go {trs : List (TE × TE)} {ks : List Key} {es : List D} (h : EvPr K M ds trs ks es) : ∀ (M' : Mt) (σ : L2.St) (G H : Hp) (Q : List (V × V) → Hp → Prop), MSub M M' → Sg K G σ ds → Wd M' G H →
    (∀ (us : List (Key × V)) G' H', Same G G' → Wd M' G' H' → us.map (·.1) = ks → RpAll K G' (us.map (·.2)) es → Q (us.map fun kv => (kV kv.1, kv.2)) H') → tPairs trs σ H Q := by
  induction h with
  | nil => intro M' σ G H Q m s w q; exact q [] G H (Same.refl G) w rfl .nil
  | @cons tk tv r k d ks es hk hv hr ih =>
    intro M' σ G H Q m s w q
    refine hk M' σ G H _ m s w fun v1 d1 G1 H1 s1 w1 r1 e1 => hv M' σ G1 H1 _ m (s.mono s1) w1 fun v2 d2 G2 H2 s2 w2 r2 e2 => ?_
    subst e1; subst e2
    refine ih M' σ G2 H2 _ m (s.mono (s1.trans s2)) w2 fun us G3 H3 s3 w3 e3 r3 => ?_
    have z := q ((k, v2) :: us) G3 H3 ((s1.trans s2).trans s3) w3 (by rw [List.map_cons, e3]) (.cons (r2.mono s3) r3)
    rw [rp_kD r1]
    exact z
theorem merge_nd : ∀ (us acc : List (Key × V)), ((acc ++ us).map (·.1)).Nodup → mergeK acc us = acc ++ us
  | [], acc, _ => by rw [List.append_nil]; rfl
  | p :: us, acc, h => by
    have hn : valV acc p.1 = none := by
      unfold valV
      rw [Option.map_eq_none_iff, List.find?_eq_none]
      intro q hq e
      rw [decide_eq_true_eq] at e
      rw [List.map_append, List.nodup_append] at h
      exact h.2.2 q.1 (List.mem_map.mpr ⟨q, hq, rfl⟩) p.1 (by simp) e
    show mergeK (putK acc p.1 p.2) us = _
    rw [putK_new _ hn, merge_nd us (acc ++ [(p.1, p.2)]) (by simpa using h)]
    simp
theorem ev_disp {trs : List (TE × TE)} {ks : List Key} {es : List D} (h : EvPr K M ds trs ks es) (hl : ks.length ≤ 15) (hn : ks.Nodup) : Ev K M ds (tDisp trs) (· = .dict ks es) := fun M' σ G H Q m s w q p hp => by
  have w1 := w.newM (φ := fun _ o => o = HO.dK []) hp (o := .dK []) rfl (fun _ _ _ _ e => e)
  refine evpr_go h (M'.cons (p, fun _ o => o = HO.dK [])) σ G _ _ (MSub.cons m) s w1 fun us G1 H1 s1 w2 e1 r1 => ?_
  obtain ⟨g, u, hu, eu⟩ := w2.mt _ List.mem_cons_self
  have eu : u = .dK [] := eu
  subst eu
  have hlu : us.length = ks.length := by rw [← e1, List.length_map]
  refine ⟨hu, us, rfl, by omega, ?_⟩
  rw [merge_nd us [] (by rw [List.nil_append, e1]; exact hn), List.nil_append]
  have w3 := w2.put (ψ := fun _ o => o = HO.dK us) (o := .dK us) rfl (fun _ _ _ _ e => e)
  have w4 := w3.freeze upd_same
  have sn := same_new (o := HO.dK us) g
  have z := Rp.dict (K := K) (G := upd G1 p (.dK us)) (a := p) (us := us) (ds := es) upd_same (r1.mono sn)
  rw [e1] at z
  exact q (.ref p) _ (upd G1 p (.dK us)) _ (s1.trans sn) w4 z rfl
end
end Rg
namespace Rg
open PySem PySem.Spec L2 RZ PyProof.Rows
/-! ### comprehensions with a test; comprehensions whose list is owned -/
section
variable {K : PySem.W.Frag} {M : Mt} {o : Own} {ds : DS} {te : TE}
theorem take_filt {α : Type} (cs : List α) (t : α → Bool) (f : α → D) {i : Nat} {c : α} (h : cs[i]? = some c) : ((cs.take (i + 1)).filter t).map f = ((cs.take i).filter t).map f ++ (if t c then [f c] else []) := by
  rw [List.take_add_one, h]
  simp only [Option.toList_some, List.filter_append, List.map_append]
  congr 1
  cases hc : t c <;> simp [hc]
theorem ev_lcF {α : Type} {wi : TI} {g : TG} {tt : TT} {vs : List Nat} {cs : List α} {inj f : α → D} {t : α → Bool} (hI : EvI K M ds wi (· = cs.map inj)) (hl : cs.length ≤ 100000)
    (h : ∀ c, c ∈ cs → EvG K M (some vs) g (inj c) (wipeD ds vs) (fun ds2 => EvT K M ds2 tt (· = t c) ∧ (t c = true → Ev K M ds2 te (· = f c)))) :
    Ev K M ds (tLc wi g tt te vs) (· = .list ((cs.filter t).map f)) := by
  refine ev_lc hI fun es' e => ?_
  subst e
  refine ⟨by rw [List.length_map]; exact hl, fun i acc => acc = ((cs.take i).filter t).map f, rfl, fun i d acc hd _ ha => ?_, fun acc _ ha => ?_⟩
  · rw [List.getElem?_map] at hd
    cases hc : cs[i]? with
    | none => rw [hc] at hd; cases hd
    | some c =>
      rw [hc] at hd
      have ed : inj c = d := Option.some.inj hd
      subst ed
      intro M' σ G H v Q m s w r q
      refine h c (List.mem_of_getElem? hc) M' σ G H v Q m s w r fun ds' σ' G' H' ⟨hT, hE⟩ => q ds' σ' G' H' ⟨(· = t c), hT, fun ht => (hE ht.symm).weak fun y ey => ?_, fun ht => ?_⟩
      · show acc ++ [y] = _
        rw [ey, show acc = _ from ha, take_filt cs t f hc, ← ht]; rfl
      · show acc = _
        rw [show acc = _ from ha, take_filt cs t f hc, ← ht]; simp
  · rw [show acc = _ from ha, List.length_map, List.take_length]
/-- the list is owned -/
theorem evw_lc {wi : TI} {g : TG} {tt : TT} {vs : List Nat} {RI : List D → Prop} {R : Own → D → Prop} (hI : EvI K (M.adds (ownM K o)) ds wi RI) (h : ∀ es, RI es → es.length ≤ 100000 ∧ ∃ Pv : Nat → List D → Prop, Pv 0 [] ∧
      (∀ i d acc, es[i]? = some d → acc.length ≤ i → Pv i acc → EvG K (M.adds (ownM K o)) (some vs) g d (wipeD ds vs) (fun ds2 => ∃ RT : Bool → Prop, EvT K (M.adds (ownM K o)) ds2 tt RT ∧ (RT true → Ev K (M.adds (ownM K o)) ds2 te (fun y => Pv (i + 1) (acc ++ [y]))) ∧ (RT false → Pv (i + 1) acc))) ∧
      ∀ p acc, acc.length ≤ es.length → Pv es.length acc → R ((p, .lst acc) :: o) (.raw (.ref p))) : EvW K M o ds (tLc wi g tt te vs) R := fun M0 σ G H Q m0 s w q => by
  have m := m0.adds2 (l := ownM K o)
  refine hI (M0.adds (ownM K o)) σ G H _ m s w fun J es G1 H1 s1 w1 hes W D hD => ?_
  obtain ⟨hl, Pv, h0, hs, hd⟩ := h es hes
  have mo : ∀ xs : List V, ∀ (G1 G2 : Hp) (o : HO), Same G1 G2 → isL xs G1 o → isL xs G2 o := fun _ _ _ _ _ e => e
  refine lc_it (n := es.length) (G := fun H => ∃ G2 M2, Same G1 G2 ∧ Wd M2 G2 H) (Y := fun i H x H' => J.yld i H x H') ⟨fun i H hi ⟨G2, M2, s2, w2⟩ => W.goes i H G2 M2 hi s2 w2, fun H ⟨G2, M2, s2, w2⟩ => W.stops H G2 M2 s2 w2, fun i H x H' _ _ y => y⟩
    (fun i H' => ∃ G2 xs acc, Same G1 G2 ∧ Wd ((M0.adds (ownM K o)).cons (D, isL xs)) G2 H' ∧ RpAll K G2 xs acc ∧ Pv i acc ∧ acc.length ≤ i) ⟨G1, [], [], Same.refl _, w1.newM hD rfl (mo []), .nil, h0, Nat.le_refl _⟩
    (fun i H' _ ⟨G2, xs, acc, s2, w2, _⟩ => ⟨G2, _, s2, w2⟩) (fun i x H2 H3 hi ⟨G2, xs, acc, s2, w2, ra, hp, hla⟩ y => ?_) (fun H' ⟨G2, xs, acc, s2, w2, ra, hp, hla⟩ => ?_)
  · obtain ⟨G3, d, s3, w3, hd', rd⟩ := W.yields i H2 x H3 G2 _ hi s2 w2 y
    refine hs i d acc hd' hla hp _ (wipe σ vs) G3 H3 x _ (MSub.cons m) ((s.mono ((s1.trans s2).trans s3)).wipe vs) w3 rd fun ds2 σ2 G4 H4 ⟨RT, hT, hE, hN⟩ s4 sg4 w4 hw => ?_
    refine ⟨?_, ?_⟩
    · have e := hw vs rfl (wipe σ vs) rfl
      rw [e, wipe_wipe σ vs]
    · refine hT _ σ2 G4 H4 _ (MSub.cons m) sg4 w4 fun b G5 H5 s5 w5 hb => ?_
      cases b with
      | true =>
        rw [if_pos rfl]
        refine hE hb _ σ2 G5 H5 _ (MSub.cons m) (sg4.mono s5) w5 fun v d6 G6 H6 s6 w6 r6 p6 => ?_
        obtain ⟨_, ob, ho, eo⟩ := w6.mt _ List.mem_cons_self
        have eo : ob = .lst xs := eo
        subst eo
        have s26 := ((s3.trans s4).trans s5).trans s6
        refine ⟨xs, ho, ?_, G6, xs ++ [v], acc ++ [d6], s2.trans s26, w6.put rfl (mo _), (ra.mono s26).append (.cons r6 .nil), p6, ?_⟩
        · have := ra.length
          exact Nat.lt_of_le_of_lt (show xs.length ≤ 100000 by omega) (by decide)
        · simp only [List.length_append, List.length_singleton]; omega
      | false =>
        rw [if_neg Bool.false_ne_true]
        exact ⟨G5, xs, acc, s2.trans ((s3.trans s4).trans s5), w5, ra.mono ((s3.trans s4).trans s5), hN hb, Nat.le_succ_of_le hla⟩
  · obtain ⟨g0, ob, ho, eo⟩ := w2.mt _ List.mem_cons_self
    have eo : ob = .lst xs := eo
    subst eo
    have w3 := w2.turn (ψ := obP K (.lst acc)) ho ⟨xs, rfl, ra⟩ obP.mono
    exact q (.ref D) (.raw (.ref D)) ((D, .lst acc) :: o) G2 H' (s1.trans s2) ⟨w3.toWd0, w3.xk⟩ (.raw _) (hd D acc hla hp)
theorem evw_lcF {α : Type} {wi : TI} {g : TG} {tt : TT} {vs : List Nat} {cs : List α} {inj f : α → D} {t : α → Bool} (hI : EvI K (M.adds (ownM K o)) ds wi (· = cs.map inj)) (hl : cs.length ≤ 100000)
    (h : ∀ c, c ∈ cs → EvG K (M.adds (ownM K o)) (some vs) g (inj c) (wipeD ds vs) (fun ds2 => EvT K (M.adds (ownM K o)) ds2 tt (· = t c) ∧ (t c = true → Ev K (M.adds (ownM K o)) ds2 te (· = f c)))) :
    EvW K M o ds (tLc wi g tt te vs) (fun o' d => ∃ p, o' = (p, .lst ((cs.filter t).map f)) :: o ∧ d = .raw (.ref p)) := by
  refine evw_lc hI fun es' e => ?_
  subst e
  refine ⟨by rw [List.length_map]; exact hl, fun i acc => acc = ((cs.take i).filter t).map f, rfl, fun i d acc hd _ ha => ?_, fun p acc _ ha => ⟨p, ?_, rfl⟩⟩
  · rw [List.getElem?_map] at hd
    cases hc : cs[i]? with
    | none => rw [hc] at hd; cases hd
    | some c =>
      rw [hc] at hd
      have ed : inj c = d := Option.some.inj hd
      subst ed
      intro M' σ G H v Q m s w r q
      refine h c (List.mem_of_getElem? hc) M' σ G H v Q m s w r fun ds' σ' G' H' ⟨hT, hE⟩ => q ds' σ' G' H' ⟨(· = t c), hT, fun ht => (hE ht.symm).weak fun y ey => ?_, fun ht => ?_⟩
      · show acc ++ [y] = _
        rw [ey, show acc = _ from ha, take_filt cs t f hc, ← ht]; rfl
      · show acc = _
        rw [show acc = _ from ha, take_filt cs t f hc, ← ht]; simp
  · rw [show acc = _ from ha, List.length_map, List.take_length]
/-- xs += ys -/
theorem runw_aug {i : Nat} {p : Addr} {xs ys : List D} {E : AW} (hi : ds[i]? = some (some (.raw (.ref p)))) (he : Ev K (M.adds (ownM K ((p, .lst xs) :: o))) ds te (· = .list ys)) (hl : xs.length + ys.length ≤ 100000) (hn : E.nx ((p, .lst (xs ++ ys)) :: o) (ds.set i (some (.raw (.ref p))))) :
    RunW K M ((p, .lst xs) :: o) ds (tAug i te rExt2) E := fun M' σ G H Z m s w z => by
  obtain ⟨v, e, r⟩ := s.at_ i _ hi
  have ev := r.raw_inv
  subst ev
  refine ⟨.ref p, e, he (M'.adds _) σ G H _ m.adds2 s w fun v2 d2 G2 H2 s2 w2 r2 e2 => ?_⟩
  subst e2
  obtain ⟨b, us, rfl, hb, rb⟩ := r2.list_ex
  obtain ⟨u, hu, vs, eu, r3⟩ := w2.atW
  subst eu
  refine ⟨p, b, vs, us, rfl, rfl, hu, w2.sub _ _ hb, by rw [r3.length, rb.length]; exact Nat.le_trans hl (by decide), ?_⟩
  exact z.nx _ _ _ G2 _ hn s2 ((s.mono s2).set i (.raw _)) (w2.putW (c := .lst _) ⟨_, rfl, r3.append rb⟩)
/-- o.m(..).append(x), .clear(): what comes back is changed and never asked again -/
theorem evw_append2 {to tx : TE} {d : D} {R : Own → D → Prop} (ho : EvW K M o ds to (fun o' r => ∃ p xs, o' = (p, .lst xs) :: o ∧ r = .raw (.ref p) ∧ xs.length < 100000)) (he : Ev K M ds tx (· = d)) (h : ∀ p xs, R ((p, .lst (xs ++ [d])) :: o) .non) :
    EvW K M o ds (tBM K "list" rAppend to (tCons tx tNil)) R := fun M' σ G H Q m s w q =>
  ho M' σ G H _ m s w fun v1 d1 o1 G1 H1 s1 w1 r1 ⟨p, xs, e1, e2, hl⟩ => by
    subst e1; subst e2
    have ev := r1.raw_inv
    subst ev
    obtain ⟨u, hu, vs0, eu, r0⟩ := w1.atW
    subst eu
    refine ⟨.inl ⟨rfl, vs0, sq hu⟩, he (M'.adds _) σ G1 H1 _ m.adds (s.mono s1) w1 fun v2 d2 G2 H2 s2 w2 r2 e2 => ?_⟩
    subst e2
    obtain ⟨u2, hu2, vs, eu2, r3⟩ := w2.atW
    subst eu2
    refine ⟨p, vs, v2, rfl, rfl, hu2, by rw [r3.length]; exact Nat.lt_of_lt_of_le hl (by decide), ?_⟩
    exact q .non .non _ G2 _ (s1.trans s2) (w2.putW (c := .lst _) ⟨_, rfl, r3.append (.cons r2 .nil)⟩) .non (h p xs)
theorem evw_clear2 {to : TE} {R : Own → D → Prop} (ho : EvW K M o ds to (fun o' r => ∃ p xs, o' = (p, .lst xs) :: o ∧ r = .raw (.ref p))) (h : ∀ p, R ((p, .lst []) :: o) .non) :
    EvW K M o ds (tBM0 K "list" rClear to) R := fun M' σ G H Q m s w q =>
  ho M' σ G H _ m s w fun v1 d1 o1 G1 H1 s1 w1 r1 ⟨p, xs, e1, e2⟩ => by
    subst e1; subst e2
    have ev := r1.raw_inv
    subst ev
    obtain ⟨u, hu, vs0, eu, r0⟩ := w1.atW
    subst eu
    exact ⟨.inl ⟨rfl, vs0, sq hu⟩, p, vs0, rfl, rfl, hu, q .non .non _ G1 _ s1 (w1.putW (c := .lst []) ⟨_, rfl, .nil⟩) .non (h p)⟩
/-- an expression whose owned things are dropped -/
theorem run_exprW {E : AE} {R : Own → D → Prop} (h : EvW K M [] ds te R) (hn : E.nx ds) : Run K M ds (tDrop te) E := fun M' σ G H Z m s w z =>
  h M' σ G H _ m s w fun v d o' G1 H1 s1 w1 r1 e => z.nx ds σ G1 H1 hn s1 (s.mono s1) ⟨w1.toWd0.less (List.sublist_append_right _ _), w1.xk⟩
end
/-! ### a def whose code object is known -/
theorem fun_okC {P : Program} {w : World} {K : PySem.W.Frag} {mg : Str → Option Value} {base : Heap} {x qual : Str} {st : Stmt} {f c : Addr} {fd : FuncData} {N ps : List Str} {k : Nat} {sp : Sp} (F : Fun K x qual st f fd) (S : FnScope N ps (defScope st)) (len : ∀ vs H Q E, sp vs H Q E → vs.length = ps.length) (hc : fd.code = .ref c)
    (hbody : ∀ (A : Around) (outer : List Env) (s : Shared) (H : Hp) (vs : List V) (Q : VK) (E : XK), Room k (A.deeper (envOfC qual (defScope st) s.heap.objs.size f (.ref c))) → sp vs H Q E →
      ∃ t, PSs (cxOf CX0 P w K mg base N qual (defScope st) f (.ref c) A outer s H E).nox (defBody st) t ∧ t { nx := fun _ H' => Q .non H', rt := Q } (start N vs) H) : FnOk P w K mg base CX0 (k + 1) f fd ps sp := by
  obtain ⟨oc, od, kV, doc, pm, an, cdv, ct, osl, rfl, lk, hcd⟩ := F.ex
  have e : cdv = .ref c := hc
  subst e
  refine fn_of lk hcd S len fun A outer s H vs Q E hr hsp => ?_
  obtain ⟨t, h, q⟩ := hbody A outer s H vs Q E hr hsp
  exact ⟨t, h.nox, q⟩
end Rg
namespace Rg
open PySem PySem.Spec L2 RZ PyProof.Rows
mutual
def Lit.d : Lit → D
  | .non => .non
  | .bl b => .bl b
  | .int i => .int i
  | .str x => .str x
  | .tup ds => .tup (litsD ds)
def litsD : List Lit → List D
  | [] => []
  | d :: r => d.d :: litsD r
end
section
variable {K : PySem.W.Frag}
mutual
theorem lit_ok : ∀ (d : Lit) (u : Value), litB K d u = true → ∃ v, RelV v u ∧ ∀ G, Rp K G v d.d
  | .non, u, h => by
    cases u <;> first | exact ⟨.non, rfl, fun _ => .non⟩ | cases h
  | .bl b, u, h => by
    cases u <;> first | (exact ⟨.bl b, congrArg Value.bool (of_decide_eq_true h), fun _ => .bl b⟩) | cases h
  | .int i, u, h => by
    cases u <;> first | (exact ⟨.int i, ⟨_, by rw [show _ = i from of_decide_eq_true h]⟩, fun _ => .int i⟩) | cases h
  | .str x, u, h => by
    cases u <;> first | (exact ⟨.str x, ⟨_, by rw [show _ = x from of_decide_eq_true h]⟩, fun _ => .str x⟩) | cases h
  | .tup ds, u, h => by
    cases u with
    | ref a =>
      have h2 : (match K.lookup a with
        | some ⟨.type c, _, .seq its _, _⟩ => decide (c = "tuple") && (decide (its.size ≤ 1000) && litsB K ds its.toList)
        | _ => false) = true := h
      cases e : K.lookup a with
      | none => rw [e] at h2; cases h2
      | some o =>
        rw [e] at h2
        obtain ⟨oc, od, dt, osl⟩ := o
        cases oc with
        | type c =>
          cases dt with
          | seq its n =>
            obtain ⟨h3, h4⟩ := Bool.and_eq_true_iff.mp h2
            obtain ⟨h5, h6⟩ := Bool.and_eq_true_iff.mp h4
            obtain ⟨vs, r, hG⟩ := lits_ok ds its.toList h6
            have hc : c = "tuple" := of_decide_eq_true h3
            subst hc
            exact ⟨.ref a, rfl, fun G => .tup (.inr ⟨_, its, n, e, rfl, rfl, Nat.le_trans (of_decide_eq_true h5) (by decide), r⟩) (hG G)⟩
          | _ => cases h2
        | _ => cases dt <;> cases h2
    | _ => cases h
theorem lits_ok : ∀ (ds : List Lit) (us : List Value), litsB K ds us = true → ∃ vs, Vals vs us ∧ ∀ G, RpAll K G vs (litsD ds)
  | [], us, h => by
    cases us with
    | nil => exact ⟨[], .nil, fun _ => .nil⟩
    | cons _ _ => cases h
  | d :: ds, us, h => by
    cases us with
    | nil => cases h
    | cons u us =>
      obtain ⟨h1, h2⟩ := Bool.and_eq_true_iff.mp h
      obtain ⟨v, r, g⟩ := lit_ok d u h1
      obtain ⟨vs, rs, gs⟩ := lits_ok ds us h2
      exact ⟨v :: vs, .cons r rs, fun G => .cons (g G) (gs G)⟩
end
structure ConD (K : PySem.W.Frag) (C : Addr) (f : Str) (d : D) : Prop where
  ex : ∃ v u, Con K C f v u ∧ ∀ G, Rp K G v d
structure CvalD (K : PySem.W.Frag) (C : Addr) (f : Str) (d : D) : Prop where
  ex : ∃ v u, ClX.CRead K C (.type "type") ∧ ClX.CVal K C (.type "type") f v u ∧ ∀ G, Rp K G v d
/-- what a look tells -/
def Ck.tells (K : PySem.W.Frag) : Ck → Prop
  | .cls C => OCls K (He.ga K C)
  | .mk C D => Mk K (He.ga K C) (He.ma K (He.ga K D) "__init__")
  | .meth C m D => Meth K (He.ga K C) m (He.ma K (He.ga K D) m)
  | .spec C m D => PySem.W.findIn K (.ref (He.ga K C)) m = some (some (.ref (He.ma K (He.ga K D) m))) ∧ PySem.W.isFn K (.ref (He.ma K (He.ga K D) m)) = true
  | .no C f => NoAttr K (He.ga K C) f
  | .find C m id => PySem.W.findIn K (.ref (He.ga K C)) m = some (some (.builtin id))
  | .con C f d => ConD K (He.ga K C) f d.d
  | .cval C f d => CvalD K (He.ga K C) f d.d
  | .kit t c b => PySem.W.kitOne K (t.val K) (c.val K) = some b
  | .nf C t => PySem.W.notFirst K (He.ga K C) (t.val K) = true
  | .sub C' C => PySem.W.subIn K (.ref (He.ga K C')) (.ref (He.ga K C)) = some true ∧ He.ga K C ≠ He.ga K C'
  | .exm t c b => PySem.W.exmOne K (.ref (He.ga K t)) (c.val K) = some b
  | .gl x d => ∃ v u, PySem.W.nsIn K mainGlobals x = some (some u) ∧ RelV v u ∧ ∀ G, Rp K G v d.d
theorem optB_ok {o : Option (Option Value)} {p : Value → Bool} (h : optB o p = true) : ∃ v, o = some (some v) ∧ p v = true := by
  cases o with
  | none => cases h
  | some o =>
    cases o with
    | none => cases h
    | some v => exact ⟨v, rfl, h⟩
theorem Ck.sound : ∀ {c : Ck}, c.ok K = true → c.tells K
  | .cls C, h => by
    obtain ⟨h1, h⟩ := He.ba h
    obtain ⟨h2, h⟩ := He.ba h
    obtain ⟨h3, h⟩ := He.ba h
    obtain ⟨h4, h5⟩ := He.ba h
    obtain ⟨g1, h1⟩ := He.ba h1
    obtain ⟨g2, h1⟩ := He.ba h1
    obtain ⟨g3, g4⟩ := He.ba h1
    exact ⟨⟨g1, g2, g3, He.eqO_ok g4⟩, He.eqO_ok h2, He.eqO_ok h3, of_decide_eq_true h4, of_decide_eq_true h5⟩
  | .mk C D, h => by
    obtain ⟨h1, h⟩ := He.ba h
    obtain ⟨h2, h⟩ := He.ba h
    obtain ⟨h3, h4⟩ := He.ba h
    exact ⟨h1, He.eqO_ok h2, h3, h4⟩
  | .meth C m D, h => by
    obtain ⟨h1, h⟩ := He.ba h
    obtain ⟨h2, h3⟩ := He.ba h
    exact ⟨He.eqO_ok h1, h2, h3⟩
  | .spec C m D, h => by
    obtain ⟨h1, h2⟩ := He.ba h
    exact ⟨He.eqO_ok h1, h2⟩
  | .no C f, h => He.eqO_ok h
  | .find C m id, h => He.eqO_ok h
  | .con C f d, h => by
    obtain ⟨h1, h2⟩ := He.ba h
    obtain ⟨u, e, h3⟩ := optB_ok h1
    obtain ⟨h4, h5⟩ := He.ba h3
    obtain ⟨v, r, g⟩ := lit_ok d u h4
    have h2 : PySem.W.copiedNames.contains f = false := by simpa using h2
    exact ⟨v, u, ⟨e, r, He.eqO_ok h5, h2⟩, g⟩
  | .cval C f d, h => by
    obtain ⟨h1, h2⟩ := He.ba h
    obtain ⟨h3, h4⟩ := He.ba h2
    cases e : PySem.W.findCls K (.ref (He.ga K C)) (.type "type") f with
    | none => rw [e] at h1; cases h1
    | some r =>
      rw [e] at h1
      cases r with
      | val u =>
        obtain ⟨v, r, g⟩ := lit_ok d u h1
        exact ⟨v, u, ⟨h3, He.eqO_ok h4⟩, ⟨e, r⟩, g⟩
      | _ => cases h1
  | .kit t c b, h => by
    have z : decide (PySem.W.kitOne K (t.val K) (c.val K) = some b) = true := h
    have y : PySem.W.kitOne K (t.val K) (c.val K) = some b := of_decide_eq_true z
    exact y
  | .nf C t, h => h
  | .sub C' C, h => by
    obtain ⟨h1, h2⟩ := He.ba h
    exact ⟨of_decide_eq_true h1, by simpa using h2⟩
  | .exm t c b, h => by
    have z : decide (PySem.W.exmOne K (.ref (He.ga K t)) (c.val K) = some b) = true := h
    have y : PySem.W.exmOne K (.ref (He.ga K t)) (c.val K) = some b := of_decide_eq_true z
    exact y
  | .gl x d, h => by
    obtain ⟨u, e, h3⟩ := optB_ok h
    obtain ⟨v, r, g⟩ := lit_ok d u h3
    exact ⟨v, u, e, r, g⟩
theorem ck_at {l : List Ck} (h : cksB K l = true) (i : Nat) {c : Ck} (e : l[i]? = some c) : c.tells K := Ck.sound (List.all_eq_true.mp h c (List.mem_of_getElem? e))
variable {M : Mt} {ds : DS} {te : TE} {C : Addr} {ns : List Str} {es : List D} {f : Str} {d : D}
theorem ev_conD (he : Ev K M ds te (· = .obj C ns es)) (c : Cls K C) (k : ConD K C f d) (hn : f ∉ ns) : Ev K M ds (tCon K te f) (· = d) := by
  obtain ⟨v, u, k, g⟩ := k.ex
  exact ev_con he c k hn g
theorem ev_cvalD (he : Ev K M ds te (· = .raw (.ref C))) (k : CvalD K C f d) : Ev K M ds (ClX.tCVal K te f) (· = d) := by
  obtain ⟨v, u, r, k, g⟩ := k.ex
  exact ev_cval he r k g
end
end Rg
namespace K2
open PySem L2 Rg RZ PyProof.Rows
abbrev n_isname : List Str := ["value", "letter"]
theorem sc_isname : FnScope n_isname ["value"] (defScope s_isname) := ⟨rfl, rfl, rfl, by decide +kernel, rfl, by decide +kernel, by decide +kernel⟩
abbrev n_isnumber : List Str := ["value", "least", "most"]
theorem sc_isnumber : FnScope n_isnumber ["value", "least", "most"] (defScope s_isnumber) := ⟨rfl, rfl, rfl, by decide +kernel, rfl, by decide +kernel, by decide +kernel⟩
abbrev n_Lbag : List Str := ["_law_script", "_law_mixed", "_law_cell"]
theorem sc_Lbag : FnScope n_Lbag ["_law_script"] (defScope s_Lbag) := ⟨rfl, rfl, rfl, by decide +kernel, rfl, by decide +kernel, by decide +kernel⟩
abbrev n_Ldraw : List Str := ["_law_bag_here", "_law_many", "_law_cell", "_law_digit", "_law_seed"]
theorem sc_Ldraw : FnScope n_Ldraw ["_law_bag_here", "_law_many"] (defScope s_Ldraw) := ⟨rfl, rfl, rfl, by decide +kernel, rfl, by decide +kernel, by decide +kernel⟩
abbrev n_Lof : List Str := ["_law_bag_here", "_law_some"]
theorem sc_Lof : FnScope n_Lof ["_law_bag_here", "_law_some"] (defScope s_Lof) := ⟨rfl, rfl, rfl, by decide +kernel, rfl, by decide +kernel, by decide +kernel⟩
abbrev n_Lsame : List Str := ["_law_found", "_law_due", "_law_low", "_law_high"]
theorem sc_Lsame : FnScope n_Lsame ["_law_found", "_law_due"] (defScope s_Lsame) := ⟨rfl, rfl, rfl, by decide +kernel, rfl, by decide +kernel, by decide +kernel⟩
abbrev n_Lfields : List Str := ["_law_e"]
theorem sc_Lfields : FnScope n_Lfields ["_law_e"] (defScope s_Lfields) := ⟨rfl, rfl, rfl, by decide +kernel, rfl, by decide +kernel, by decide +kernel⟩
abbrev n_Ltry : List Str := ["_law_ask", "_law_e"]
theorem sc_Ltry : FnScope n_Ltry ["_law_ask"] (defScope s_Ltry) := ⟨rfl, rfl, rfl, by decide +kernel, rfl, by decide +kernel, by decide +kernel⟩
abbrev n_Ltries : List Str := ["_law_asks", "_law_ask"]
theorem sc_Ltries : FnScope n_Ltries ["_law_asks"] (defScope s_Ltries) := ⟨rfl, rfl, rfl, by decide +kernel, rfl, by decide +kernel, by decide +kernel⟩
abbrev n_Lwords : List Str := ["_law_bag_here", "_law_many", "_law_letters", "_law_stem", "_law_k", "_law_at_z", "_law_first", "_law_gap"]
theorem sc_Lwords : FnScope n_Lwords ["_law_bag_here", "_law_many"] (defScope s_Lwords) := ⟨rfl, rfl, rfl, by decide +kernel, rfl, by decide +kernel, by decide +kernel⟩
abbrev n_Lodd : List Str := ["_law_bag_here"]
theorem sc_Lodd : FnScope n_Lodd ["_law_bag_here"] (defScope s_Lodd) := ⟨rfl, rfl, rfl, by decide +kernel, rfl, by decide +kernel, by decide +kernel⟩
abbrev n_Lsides : List Str := ["_law_kind", "_law_table"]
theorem sc_Lsides : FnScope n_Lsides ["_law_kind"] (defScope s_Lsides) := ⟨rfl, rfl, rfl, by decide +kernel, rfl, by decide +kernel, by decide +kernel⟩
abbrev n_Lways : List Str := ["_law_kind", "_law_gate", "_law_table"]
theorem sc_Lways : FnScope n_Lways ["_law_kind", "_law_gate"] (defScope s_Lways) := ⟨rfl, rfl, rfl, by decide +kernel, rfl, by decide +kernel, by decide +kernel⟩
abbrev n_Lsection : List Str := ["_law_kind", "_law_word", "_law_size"]
theorem sc_Lsection : FnScope n_Lsection ["_law_kind", "_law_word", "_law_size"] (defScope s_Lsection) := ⟨rfl, rfl, rfl, by decide +kernel, rfl, by decide +kernel, by decide +kernel⟩
abbrev n_Lrefusedso : List Str := ["_law_bag_here", "_law_word", "_law_odd_here", "_law_bad", "_law_asks"]
theorem sc_Lrefusedso : FnScope n_Lrefusedso ["_law_bag_here", "_law_word"] (defScope s_Lrefusedso) := ⟨rfl, rfl, rfl, by decide +kernel, rfl, by decide +kernel, by decide +kernel⟩
abbrev n_Lbaseso : List Str := ["_law_word", "_law_size", "_law_base", "_law_told", "_law_same_here"]
theorem sc_Lbaseso : FnScope n_Lbaseso ["_law_word", "_law_size"] (defScope s_Lbaseso) := ⟨rfl, rfl, rfl, by decide +kernel, rfl, by decide +kernel, by decide +kernel⟩
abbrev n_law : List Str := ["_law_script", "_law_bag_here", "_law_turn", "_law_words_here", "_law_kind", "_law_size", "_law_gates", "_law_made", "_law_shown", "_law_again", "_law_told", "_law_due", "_law_foreign", "_law_odd_here", "_law_far", "_law_some", "_law_same_here", "_law_gate", "_law_other_z", "_law_row"]
theorem sc_law : FnScope n_law ["_law_script"] (defScope s_law) := ⟨rfl, rfl, rfl, by decide +kernel, rfl, by decide +kernel, by decide +kernel⟩
abbrev n_Sectioninit : List Str := ["self", "name", "length"]
theorem sc_Sectioninit : FnScope n_Sectioninit ["self", "name", "length"] (defScope s_Sectioninit) := ⟨rfl, rfl, rfl, by decide +kernel, rfl, by decide +kernel, by decide +kernel⟩
abbrev n_Sectionsides : List Str := ["self", "one", "other", "_", "side"]
theorem sc_Sectionsides : FnScope n_Sectionsides ["self"] (defScope s_Sectionsides) := ⟨rfl, rfl, rfl, by decide +kernel, rfl, by decide +kernel, by decide +kernel⟩
abbrev n_Sectionends : List Str := ["self", "side"]
theorem sc_Sectionends : FnScope n_Sectionends ["self"] (defScope s_Sectionends) := ⟨rfl, rfl, rfl, by decide +kernel, rfl, by decide +kernel, by decide +kernel⟩
abbrev n_Sectionways : List Str := ["self", "side", "found", "one", "other", "position"]
theorem sc_Sectionways : FnScope n_Sectionways ["self", "side"] (defScope s_Sectionways) := ⟨rfl, rfl, rfl, by decide +kernel, rfl, by decide +kernel, by decide +kernel⟩
abbrev n_Sectiontext : List Str := ["self"]
theorem sc_Sectiontext : FnScope n_Sectiontext ["self"] (defScope s_Sectiontext) := ⟨rfl, rfl, rfl, by decide +kernel, rfl, by decide +kernel, by decide +kernel⟩
abbrev n_Sectioneq : List Str := ["self", "other"]
theorem sc_Sectioneq : FnScope n_Sectioneq ["self", "other"] (defScope s_Sectioneq) := ⟨rfl, rfl, rfl, by decide +kernel, rfl, by decide +kernel, by decide +kernel⟩
abbrev n_Sectionrepr : List Str := ["self"]
theorem sc_Sectionrepr : FnScope n_Sectionrepr ["self"] (defScope s_Sectionrepr) := ⟨rfl, rfl, rfl, by decide +kernel, rfl, by decide +kernel, by decide +kernel⟩
abbrev n_InvalidNameinit : List Str := ["self", "value"]
theorem sc_InvalidNameinit : FnScope n_InvalidNameinit ["self", "value"] (defScope s_InvalidNameinit) := ⟨rfl, rfl, rfl, by decide +kernel, rfl, by decide +kernel, by decide +kernel⟩
abbrev n_InvalidNumberinit : List Str := ["self", "value"]
theorem sc_InvalidNumberinit : FnScope n_InvalidNumberinit ["self", "value"] (defScope s_InvalidNumberinit) := ⟨rfl, rfl, rfl, by decide +kernel, rfl, by decide +kernel, by decide +kernel⟩
abbrev n_NothingLeftinit : List Str := ["self"]
theorem sc_NothingLeftinit : FnScope n_NothingLeftinit ["self"] (defScope s_NothingLeftinit) := ⟨rfl, rfl, rfl, by decide +kernel, rfl, by decide +kernel, by decide +kernel⟩
structure Tx (K : PySem.W.Frag) (mg : Str → Option Value) where
  f_is_name : Addr
  fd_is_name : FuncData
  F_is_name : Fun K "is_name" "is_name" s_isname f_is_name fd_is_name
  m_is_name : mg "is_name" = some (.ref f_is_name)
  f_is_number : Addr
  fd_is_number : FuncData
  F_is_number : Fun K "is_number" "is_number" s_isnumber f_is_number fd_is_number
  m_is_number : mg "is_number" = some (.ref f_is_number)
  f__law_bag : Addr
  fd__law_bag : FuncData
  F__law_bag : Fun K "_law_bag" "_law_bag" s_Lbag f__law_bag fd__law_bag
  m__law_bag : mg "_law_bag" = some (.ref f__law_bag)
  f__law_draw : Addr
  fd__law_draw : FuncData
  F__law_draw : Fun K "_law_draw" "_law_draw" s_Ldraw f__law_draw fd__law_draw
  m__law_draw : mg "_law_draw" = some (.ref f__law_draw)
  f__law_of : Addr
  fd__law_of : FuncData
  F__law_of : Fun K "_law_of" "_law_of" s_Lof f__law_of fd__law_of
  m__law_of : mg "_law_of" = some (.ref f__law_of)
  f__law_same : Addr
  fd__law_same : FuncData
  F__law_same : Fun K "_law_same" "_law_same" s_Lsame f__law_same fd__law_same
  m__law_same : mg "_law_same" = some (.ref f__law_same)
  f__law_fields : Addr
  fd__law_fields : FuncData
  F__law_fields : Fun K "_law_fields" "_law_fields" s_Lfields f__law_fields fd__law_fields
  m__law_fields : mg "_law_fields" = some (.ref f__law_fields)
  f__law_try : Addr
  fd__law_try : FuncData
  F__law_try : Fun K "_law_try" "_law_try" s_Ltry f__law_try fd__law_try
  m__law_try : mg "_law_try" = some (.ref f__law_try)
  f__law_tries : Addr
  fd__law_tries : FuncData
  F__law_tries : Fun K "_law_tries" "_law_tries" s_Ltries f__law_tries fd__law_tries
  m__law_tries : mg "_law_tries" = some (.ref f__law_tries)
  f__law_words : Addr
  fd__law_words : FuncData
  F__law_words : Fun K "_law_words" "_law_words" s_Lwords f__law_words fd__law_words
  m__law_words : mg "_law_words" = some (.ref f__law_words)
  f__law_odd : Addr
  fd__law_odd : FuncData
  F__law_odd : Fun K "_law_odd" "_law_odd" s_Lodd f__law_odd fd__law_odd
  m__law_odd : mg "_law_odd" = some (.ref f__law_odd)
  f__law_sides : Addr
  fd__law_sides : FuncData
  F__law_sides : Fun K "_law_sides" "_law_sides" s_Lsides f__law_sides fd__law_sides
  m__law_sides : mg "_law_sides" = some (.ref f__law_sides)
  f__law_ways : Addr
  fd__law_ways : FuncData
  F__law_ways : Fun K "_law_ways" "_law_ways" s_Lways f__law_ways fd__law_ways
  m__law_ways : mg "_law_ways" = some (.ref f__law_ways)
  f__law_section : Addr
  fd__law_section : FuncData
  F__law_section : Fun K "_law_section" "_law_section" s_Lsection f__law_section fd__law_section
  m__law_section : mg "_law_section" = some (.ref f__law_section)
  f__law_refused_so : Addr
  fd__law_refused_so : FuncData
  F__law_refused_so : Fun K "_law_refused_so" "_law_refused_so" s_Lrefusedso f__law_refused_so fd__law_refused_so
  m__law_refused_so : mg "_law_refused_so" = some (.ref f__law_refused_so)
  f__law_base_so : Addr
  fd__law_base_so : FuncData
  F__law_base_so : Fun K "_law_base_so" "_law_base_so" s_Lbaseso f__law_base_so fd__law_base_so
  m__law_base_so : mg "_law_base_so" = some (.ref f__law_base_so)
  f_law : Addr
  fd_law : FuncData
  F_law : Fun K "law" "law" s_law f_law fd_law
  m_law : mg "law" = some (.ref f_law)
  b_isinstance : mg "isinstance" = none
  b_len : mg "len" = none
  b_all : mg "all" = none
  b_any : mg "any" = none
  b_abs : mg "abs" = none
  b_int : mg "int" = none
  b_str : mg "str" = none
  b_list : mg "list" = none
  b_tuple : mg "tuple" = none
  b_bool : mg "bool" = none
  b_range : mg "range" = none
  b_zip : mg "zip" = none
  b_sorted : mg "sorted" = none
  b_repr : mg "repr" = none
  c_DayError : Addr
  m_DayError : mg "DayError" = some (.ref c_DayError)
  c_Missing : Addr
  m_Missing : mg "Missing" = some (.ref c_Missing)
  c_Section : Addr
  m_Section : mg "Section" = some (.ref c_Section)
  c_Plain : Addr
  m_Plain : mg "Plain" = some (.ref c_Plain)
  c_Point : Addr
  m_Point : mg "Point" = some (.ref c_Point)
  c_Crossing : Addr
  m_Crossing : mg "Crossing" = some (.ref c_Crossing)
  c_InvalidName : Addr
  m_InvalidName : mg "InvalidName" = some (.ref c_InvalidName)
  c_InvalidNumber : Addr
  m_InvalidNumber : mg "InvalidNumber" = some (.ref c_InvalidNumber)
  c_NothingLeft : Addr
  m_NothingLeft : mg "NothingLeft" = some (.ref c_NothingLeft)
  f_Sectioninit : Addr
  fd_Sectioninit : FuncData
  F_Sectioninit : Fun K "__init__" "Section.__init__" s_Sectioninit f_Sectioninit fd_Sectioninit
  f_Sectionsides : Addr
  fd_Sectionsides : FuncData
  F_Sectionsides : Fun K "sides" "Section.sides" s_Sectionsides f_Sectionsides fd_Sectionsides
  f_Sectionends : Addr
  fd_Sectionends : FuncData
  F_Sectionends : Fun K "ends" "Section.ends" s_Sectionends f_Sectionends fd_Sectionends
  f_Sectionways : Addr
  fd_Sectionways : FuncData
  F_Sectionways : Fun K "ways" "Section.ways" s_Sectionways f_Sectionways fd_Sectionways
  f_Sectiontext : Addr
  fd_Sectiontext : FuncData
  F_Sectiontext : Fun K "text" "Section.text" s_Sectiontext f_Sectiontext fd_Sectiontext
  f_Sectioneq : Addr
  fd_Sectioneq : FuncData
  F_Sectioneq : Fun K "__eq__" "Section.__eq__" s_Sectioneq f_Sectioneq fd_Sectioneq
  f_Sectionrepr : Addr
  fd_Sectionrepr : FuncData
  F_Sectionrepr : Fun K "__repr__" "Section.__repr__" s_Sectionrepr f_Sectionrepr fd_Sectionrepr
  x_InvalidName : Xg K c_InvalidName
  fi_InvalidName : Addr
  fdi_InvalidName : FuncData
  Fi_InvalidName : Fun K "__init__" "InvalidName.__init__" s_InvalidNameinit fi_InvalidName fdi_InvalidName
  i_InvalidName : PySem.W.findIn K (.ref c_InvalidName) "__init__" = some (some (.ref fi_InvalidName))
  t_InvalidName : PySem.W.typeIn K (.ref fi_InvalidName) = some (.type "function")
  no_InvalidName : ∀ f ∈ (["code", "value"] : List Str), PySem.W.findIn K (.ref c_InvalidName) f = some none
  x_InvalidNumber : Xg K c_InvalidNumber
  fi_InvalidNumber : Addr
  fdi_InvalidNumber : FuncData
  Fi_InvalidNumber : Fun K "__init__" "InvalidNumber.__init__" s_InvalidNumberinit fi_InvalidNumber fdi_InvalidNumber
  i_InvalidNumber : PySem.W.findIn K (.ref c_InvalidNumber) "__init__" = some (some (.ref fi_InvalidNumber))
  t_InvalidNumber : PySem.W.typeIn K (.ref fi_InvalidNumber) = some (.type "function")
  no_InvalidNumber : ∀ f ∈ (["code", "value"] : List Str), PySem.W.findIn K (.ref c_InvalidNumber) f = some none
  x_NothingLeft : Xg K c_NothingLeft
  fi_NothingLeft : Addr
  fdi_NothingLeft : FuncData
  Fi_NothingLeft : Fun K "__init__" "NothingLeft.__init__" s_NothingLeftinit fi_NothingLeft fdi_NothingLeft
  i_NothingLeft : PySem.W.findIn K (.ref c_NothingLeft) "__init__" = some (some (.ref fi_NothingLeft))
  t_NothingLeft : PySem.W.typeIn K (.ref fi_NothingLeft) = some (.type "function")
  no_NothingLeft : ∀ f ∈ (["code"] : List Str), PySem.W.findIn K (.ref c_NothingLeft) f = some none
  v_LETTERS : V
  u_LETTERS : Value
  c_LETTERS : mg "LETTERS" = some u_LETTERS
  r_LETTERS : RelV v_LETTERS u_LETTERS
  g_LETTERS : ∀ G, Rp K G v_LETTERS (.str "abcdefghijklmnopqrstuvwxyz")
  v_LONGEST : V
  u_LONGEST : Value
  c_LONGEST : mg "LONGEST" = some u_LONGEST
  r_LONGEST : RelV v_LONGEST u_LONGEST
  g_LONGEST : ∀ G, Rp K G v_LONGEST (.int (6))
  oc_Section : OCls K c_Section
  mk_Section : Mk K c_Section f_Sectioninit
  no_Section_name : NoAttr K c_Section "name"
  no_Section_length : NoAttr K c_Section "length"
  co_Section_KIND : ConD K c_Section "KIND" (.str "none")
  co_Section_MOST : ConD K c_Section "MOST" (.int (50))
  co_Section_ROADS : ConD K c_Section "ROADS" (.tup [])
  cv_Section_KIND : CvalD K c_Section "KIND" (.str "none")
  fi_Section___ne__ : PySem.W.findIn K (.ref c_Section) "__ne__" = some (some (.builtin "object.__ne__"))
  me_Section_sides : Meth K c_Section "sides" f_Sectionsides
  me_Section_ends : Meth K c_Section "ends" f_Sectionends
  me_Section_ways : Meth K c_Section "ways" f_Sectionways
  me_Section_text : Meth K c_Section "text" f_Sectiontext
  sp_Section___eq__ : PySem.W.findIn K (.ref c_Section) "__eq__" = some (some (.ref f_Sectioneq)) ∧ PySem.W.isFn K (.ref f_Sectioneq) = true
  sp_Section___repr__ : PySem.W.findIn K (.ref c_Section) "__repr__" = some (some (.ref f_Sectionrepr)) ∧ PySem.W.isFn K (.ref f_Sectionrepr) = true
  ki_Section_Section : PySem.W.kitOne K (.ref c_Section) (.ref c_Section) = some true
  nf_Section_str : PySem.W.notFirst K c_Section (.type "str") = true
  nf_Section_NoneType : PySem.W.notFirst K c_Section (.type "NoneType") = true
  nf_Section_tuple : PySem.W.notFirst K c_Section (.type "tuple") = true
  nf_Section_Section : PySem.W.notFirst K c_Section (.ref c_Section) = true
  oc_Plain : OCls K c_Plain
  mk_Plain : Mk K c_Plain f_Sectioninit
  no_Plain_name : NoAttr K c_Plain "name"
  no_Plain_length : NoAttr K c_Plain "length"
  co_Plain_KIND : ConD K c_Plain "KIND" (.str "plain")
  co_Plain_MOST : ConD K c_Plain "MOST" (.int (50))
  co_Plain_ROADS : ConD K c_Plain "ROADS" (.tup [.tup [.str "a", .str "b", .str ""]])
  cv_Plain_KIND : CvalD K c_Plain "KIND" (.str "plain")
  fi_Plain___ne__ : PySem.W.findIn K (.ref c_Plain) "__ne__" = some (some (.builtin "object.__ne__"))
  me_Plain_sides : Meth K c_Plain "sides" f_Sectionsides
  me_Plain_ends : Meth K c_Plain "ends" f_Sectionends
  me_Plain_ways : Meth K c_Plain "ways" f_Sectionways
  me_Plain_text : Meth K c_Plain "text" f_Sectiontext
  sp_Plain___eq__ : PySem.W.findIn K (.ref c_Plain) "__eq__" = some (some (.ref f_Sectioneq)) ∧ PySem.W.isFn K (.ref f_Sectioneq) = true
  sp_Plain___repr__ : PySem.W.findIn K (.ref c_Plain) "__repr__" = some (some (.ref f_Sectionrepr)) ∧ PySem.W.isFn K (.ref f_Sectionrepr) = true
  ki_Plain_Section : PySem.W.kitOne K (.ref c_Plain) (.ref c_Section) = some true
  nf_Plain_str : PySem.W.notFirst K c_Plain (.type "str") = true
  nf_Plain_NoneType : PySem.W.notFirst K c_Plain (.type "NoneType") = true
  nf_Plain_tuple : PySem.W.notFirst K c_Plain (.type "tuple") = true
  nf_Plain_Section : PySem.W.notFirst K c_Plain (.ref c_Section) = true
  nf_Plain_Plain : PySem.W.notFirst K c_Plain (.ref c_Plain) = true
  nf_Plain_Point : PySem.W.notFirst K c_Plain (.ref c_Point) = true
  nf_Plain_Crossing : PySem.W.notFirst K c_Plain (.ref c_Crossing) = true
  oc_Point : OCls K c_Point
  mk_Point : Mk K c_Point f_Sectioninit
  no_Point_name : NoAttr K c_Point "name"
  no_Point_length : NoAttr K c_Point "length"
  co_Point_KIND : ConD K c_Point "KIND" (.str "point")
  co_Point_MOST : ConD K c_Point "MOST" (.int (50))
  co_Point_ROADS : ConD K c_Point "ROADS" (.tup [.tup [.str "left", .str "stem", .str "left"], .tup [.str "right", .str "stem", .str "right"]])
  cv_Point_KIND : CvalD K c_Point "KIND" (.str "point")
  fi_Point___ne__ : PySem.W.findIn K (.ref c_Point) "__ne__" = some (some (.builtin "object.__ne__"))
  me_Point_sides : Meth K c_Point "sides" f_Sectionsides
  me_Point_ends : Meth K c_Point "ends" f_Sectionends
  me_Point_ways : Meth K c_Point "ways" f_Sectionways
  me_Point_text : Meth K c_Point "text" f_Sectiontext
  sp_Point___eq__ : PySem.W.findIn K (.ref c_Point) "__eq__" = some (some (.ref f_Sectioneq)) ∧ PySem.W.isFn K (.ref f_Sectioneq) = true
  sp_Point___repr__ : PySem.W.findIn K (.ref c_Point) "__repr__" = some (some (.ref f_Sectionrepr)) ∧ PySem.W.isFn K (.ref f_Sectionrepr) = true
  ki_Point_Section : PySem.W.kitOne K (.ref c_Point) (.ref c_Section) = some true
  nf_Point_str : PySem.W.notFirst K c_Point (.type "str") = true
  nf_Point_NoneType : PySem.W.notFirst K c_Point (.type "NoneType") = true
  nf_Point_tuple : PySem.W.notFirst K c_Point (.type "tuple") = true
  nf_Point_Section : PySem.W.notFirst K c_Point (.ref c_Section) = true
  nf_Point_Plain : PySem.W.notFirst K c_Point (.ref c_Plain) = true
  nf_Point_Point : PySem.W.notFirst K c_Point (.ref c_Point) = true
  nf_Point_Crossing : PySem.W.notFirst K c_Point (.ref c_Crossing) = true
  oc_Crossing : OCls K c_Crossing
  mk_Crossing : Mk K c_Crossing f_Sectioninit
  no_Crossing_name : NoAttr K c_Crossing "name"
  no_Crossing_length : NoAttr K c_Crossing "length"
  co_Crossing_KIND : ConD K c_Crossing "KIND" (.str "crossing")
  co_Crossing_MOST : ConD K c_Crossing "MOST" (.int (50))
  co_Crossing_ROADS : ConD K c_Crossing "ROADS" (.tup [.tup [.str "a", .str "b", .str ""], .tup [.str "c", .str "d", .str ""]])
  cv_Crossing_KIND : CvalD K c_Crossing "KIND" (.str "crossing")
  fi_Crossing___ne__ : PySem.W.findIn K (.ref c_Crossing) "__ne__" = some (some (.builtin "object.__ne__"))
  me_Crossing_sides : Meth K c_Crossing "sides" f_Sectionsides
  me_Crossing_ends : Meth K c_Crossing "ends" f_Sectionends
  me_Crossing_ways : Meth K c_Crossing "ways" f_Sectionways
  me_Crossing_text : Meth K c_Crossing "text" f_Sectiontext
  sp_Crossing___eq__ : PySem.W.findIn K (.ref c_Crossing) "__eq__" = some (some (.ref f_Sectioneq)) ∧ PySem.W.isFn K (.ref f_Sectioneq) = true
  sp_Crossing___repr__ : PySem.W.findIn K (.ref c_Crossing) "__repr__" = some (some (.ref f_Sectionrepr)) ∧ PySem.W.isFn K (.ref f_Sectionrepr) = true
  ki_Crossing_Section : PySem.W.kitOne K (.ref c_Crossing) (.ref c_Section) = some true
  nf_Crossing_str : PySem.W.notFirst K c_Crossing (.type "str") = true
  nf_Crossing_NoneType : PySem.W.notFirst K c_Crossing (.type "NoneType") = true
  nf_Crossing_tuple : PySem.W.notFirst K c_Crossing (.type "tuple") = true
  nf_Crossing_Section : PySem.W.notFirst K c_Crossing (.ref c_Section) = true
  nf_Crossing_Plain : PySem.W.notFirst K c_Crossing (.ref c_Plain) = true
  nf_Crossing_Point : PySem.W.notFirst K c_Crossing (.ref c_Point) = true
  nf_Crossing_Crossing : PySem.W.notFirst K c_Crossing (.ref c_Crossing) = true
  ki_str_Section : PySem.W.kitOne K (.type "str") (.ref c_Section) = some false
  ki_NoneType_Section : PySem.W.kitOne K (.type "NoneType") (.ref c_Section) = some false
  ki_tuple_Section : PySem.W.kitOne K (.type "tuple") (.ref c_Section) = some false
  cv_Section_MOST : CvalD K c_Section "MOST" (.int (50))
  su_Plain_Section : PySem.W.subIn K (.ref c_Plain) (.ref c_Section) = some true ∧ c_Section ≠ c_Plain
  su_Point_Section : PySem.W.subIn K (.ref c_Point) (.ref c_Section) = some true ∧ c_Section ≠ c_Point
  su_Crossing_Section : PySem.W.subIn K (.ref c_Crossing) (.ref c_Section) = some true ∧ c_Section ≠ c_Crossing
  ex_InvalidName_DayError : PySem.W.exmOne K (.ref c_InvalidName) (.ref c_DayError) = some true
  ex_InvalidName_Missing : PySem.W.exmOne K (.ref c_InvalidName) (.ref c_Missing) = some false
  ex_InvalidName_NothingLeft : PySem.W.exmOne K (.ref c_InvalidName) (.ref c_NothingLeft) = some false
  ex_InvalidNumber_DayError : PySem.W.exmOne K (.ref c_InvalidNumber) (.ref c_DayError) = some true
  ex_InvalidNumber_Missing : PySem.W.exmOne K (.ref c_InvalidNumber) (.ref c_Missing) = some false
  ex_InvalidNumber_NothingLeft : PySem.W.exmOne K (.ref c_InvalidNumber) (.ref c_NothingLeft) = some false
  cd_Lrefusedso : Addr
  tb_Lrefusedso : Addr
  hc_Lrefusedso : fd__law_refused_so.code = .ref cd_Lrefusedso
end K2
namespace K2
open PySem L2 Rg RZ PyProof.Rows
section
variable {P : Program} {w : World} {K : PySem.W.Frag} {mg : Str → Option Value} {base : Heap}
theorem G_init_InvalidName (T : Tx K mg) : FnOk P w K mg base CX0 1 T.fi_InvalidName T.fdi_InvalidName ["self", "value"] (spInit T.c_InvalidName ["value"] "InvalidName") := by
  refine T.Fi_InvalidName.ok sc_InvalidNameinit (fun vs H Q E h => ?_) (fun cdv A outer s H vs Q E hr h => ⟨_, (pss_cons (ps_xset (pv 0) pe_str) (pss_one (ps_xset (pv 0) (pv 1)))), ?_⟩)
  · obtain ⟨a, ws, rfl, hl, _⟩ := h
    rw [List.length_cons, hl]; rfl
  · obtain ⟨a, ws, rfl, hl, ha, q⟩ := h
    match ws, hl, q with
    | [w0], _, q =>
      exact init1 T.x_InvalidName.toXc ha (fun dx h1 h2 => q dx h1 h2) (T.no_InvalidName "code" (by decide)) (T.no_InvalidName "value" (by decide))
theorem B_init_InvalidName (T : Tx K mg) : Binds K T.fdi_InvalidName ["self", "value"] [] := T.Fi_InvalidName.binds fun _ _ _ _ _ _ us hl => match us, hl with | [_, _], _ => rfl
theorem G_init_InvalidNumber (T : Tx K mg) : FnOk P w K mg base CX0 1 T.fi_InvalidNumber T.fdi_InvalidNumber ["self", "value"] (spInit T.c_InvalidNumber ["value"] "InvalidNumber") := by
  refine T.Fi_InvalidNumber.ok sc_InvalidNumberinit (fun vs H Q E h => ?_) (fun cdv A outer s H vs Q E hr h => ⟨_, (pss_cons (ps_xset (pv 0) pe_str) (pss_one (ps_xset (pv 0) (pv 1)))), ?_⟩)
  · obtain ⟨a, ws, rfl, hl, _⟩ := h
    rw [List.length_cons, hl]; rfl
  · obtain ⟨a, ws, rfl, hl, ha, q⟩ := h
    match ws, hl, q with
    | [w0], _, q =>
      exact init1 T.x_InvalidNumber.toXc ha (fun dx h1 h2 => q dx h1 h2) (T.no_InvalidNumber "code" (by decide)) (T.no_InvalidNumber "value" (by decide))
theorem B_init_InvalidNumber (T : Tx K mg) : Binds K T.fdi_InvalidNumber ["self", "value"] [] := T.Fi_InvalidNumber.binds fun _ _ _ _ _ _ us hl => match us, hl with | [_, _], _ => rfl
theorem G_init_NothingLeft (T : Tx K mg) : FnOk P w K mg base CX0 1 T.fi_NothingLeft T.fdi_NothingLeft ["self"] (spInit T.c_NothingLeft [] "NothingLeft") := by
  refine T.Fi_NothingLeft.ok sc_NothingLeftinit (fun vs H Q E h => ?_) (fun cdv A outer s H vs Q E hr h => ⟨_, (pss_one (ps_xset (pv 0) pe_str)), ?_⟩)
  · obtain ⟨a, ws, rfl, hl, _⟩ := h
    rw [List.length_cons, hl]; rfl
  · obtain ⟨a, ws, rfl, hl, ha, q⟩ := h
    match ws, hl, q with
    | [], _, q =>
      exact init0 T.x_NothingLeft.toXc ha (fun dx h1 h2 => q dx h1 h2) (T.no_NothingLeft "code" (by decide))
theorem B_init_NothingLeft (T : Tx K mg) : Binds K T.fdi_NothingLeft ["self"] [] := T.Fi_NothingLeft.binds fun _ _ _ _ _ _ us hl => match us, hl with | [_], _ => rfl
theorem Bd_isname (T : Tx K mg) : Binds K T.fd_is_name ["value"] [] := T.F_is_name.binds fun _ _ _ _ _ _ us hl => match us, hl with | [_], _ => rfl
theorem Bd_isnumber (T : Tx K mg) : Binds K T.fd_is_number ["value", "least", "most"] [] := T.F_is_number.binds fun _ _ _ _ _ _ us hl => match us, hl with | [_, _, _], _ => rfl
theorem Bd_Lbag (T : Tx K mg) : Binds K T.fd__law_bag ["_law_script"] [] := T.F__law_bag.binds fun _ _ _ _ _ _ us hl => match us, hl with | [_], _ => rfl
theorem Bd_Ldraw (T : Tx K mg) : Binds K T.fd__law_draw ["_law_bag_here", "_law_many"] [] := T.F__law_draw.binds fun _ _ _ _ _ _ us hl => match us, hl with | [_, _], _ => rfl
theorem Bd_Lof (T : Tx K mg) : Binds K T.fd__law_of ["_law_bag_here", "_law_some"] [] := T.F__law_of.binds fun _ _ _ _ _ _ us hl => match us, hl with | [_, _], _ => rfl
theorem Bd_Lsame (T : Tx K mg) : Binds K T.fd__law_same ["_law_found", "_law_due"] [] := T.F__law_same.binds fun _ _ _ _ _ _ us hl => match us, hl with | [_, _], _ => rfl
theorem Bd_Lfields (T : Tx K mg) : Binds K T.fd__law_fields ["_law_e"] [] := T.F__law_fields.binds fun _ _ _ _ _ _ us hl => match us, hl with | [_], _ => rfl
theorem Bd_Ltry (T : Tx K mg) : Binds K T.fd__law_try ["_law_ask"] [] := T.F__law_try.binds fun _ _ _ _ _ _ us hl => match us, hl with | [_], _ => rfl
theorem Bd_Ltries (T : Tx K mg) : Binds K T.fd__law_tries ["_law_asks"] [] := T.F__law_tries.binds fun _ _ _ _ _ _ us hl => match us, hl with | [_], _ => rfl
theorem Bd_Lwords (T : Tx K mg) : Binds K T.fd__law_words ["_law_bag_here", "_law_many"] [] := T.F__law_words.binds fun _ _ _ _ _ _ us hl => match us, hl with | [_, _], _ => rfl
theorem Bd_Lodd (T : Tx K mg) : Binds K T.fd__law_odd ["_law_bag_here"] [] := T.F__law_odd.binds fun _ _ _ _ _ _ us hl => match us, hl with | [_], _ => rfl
theorem Bd_Lsides (T : Tx K mg) : Binds K T.fd__law_sides ["_law_kind"] [] := T.F__law_sides.binds fun _ _ _ _ _ _ us hl => match us, hl with | [_], _ => rfl
theorem Bd_Lways (T : Tx K mg) : Binds K T.fd__law_ways ["_law_kind", "_law_gate"] [] := T.F__law_ways.binds fun _ _ _ _ _ _ us hl => match us, hl with | [_, _], _ => rfl
theorem Bd_Lsection (T : Tx K mg) : Binds K T.fd__law_section ["_law_kind", "_law_word", "_law_size"] [] := T.F__law_section.binds fun _ _ _ _ _ _ us hl => match us, hl with | [_, _, _], _ => rfl
theorem Bd_Lrefusedso (T : Tx K mg) : Binds K T.fd__law_refused_so ["_law_bag_here", "_law_word"] [] := T.F__law_refused_so.binds fun _ _ _ _ _ _ us hl => match us, hl with | [_, _], _ => rfl
theorem Bd_Lbaseso (T : Tx K mg) : Binds K T.fd__law_base_so ["_law_word", "_law_size"] [] := T.F__law_base_so.binds fun _ _ _ _ _ _ us hl => match us, hl with | [_, _], _ => rfl
theorem Bd_law (T : Tx K mg) : Binds K T.fd_law ["_law_script"] [] := T.F_law.binds fun _ _ _ _ _ _ us hl => match us, hl with | [_], _ => rfl
theorem Bd_Sectioninit (T : Tx K mg) : Binds K T.fd_Sectioninit ["self", "name", "length"] [] := T.F_Sectioninit.binds fun _ _ _ _ _ _ us hl => match us, hl with | [_, _, _], _ => rfl
theorem Bd_Sectionsides (T : Tx K mg) : Binds K T.fd_Sectionsides ["self"] [] := T.F_Sectionsides.binds fun _ _ _ _ _ _ us hl => match us, hl with | [_], _ => rfl
theorem Bd_Sectionends (T : Tx K mg) : Binds K T.fd_Sectionends ["self"] [] := T.F_Sectionends.binds fun _ _ _ _ _ _ us hl => match us, hl with | [_], _ => rfl
theorem Bd_Sectionways (T : Tx K mg) : Binds K T.fd_Sectionways ["self", "side"] [] := T.F_Sectionways.binds fun _ _ _ _ _ _ us hl => match us, hl with | [_, _], _ => rfl
theorem Bd_Sectiontext (T : Tx K mg) : Binds K T.fd_Sectiontext ["self"] [] := T.F_Sectiontext.binds fun _ _ _ _ _ _ us hl => match us, hl with | [_], _ => rfl
theorem Bd_Sectioneq (T : Tx K mg) : Binds K T.fd_Sectioneq ["self", "other"] [] := T.F_Sectioneq.binds fun _ _ _ _ _ _ us hl => match us, hl with | [_, _], _ => rfl
theorem Bd_Sectionrepr (T : Tx K mg) : Binds K T.fd_Sectionrepr ["self"] [] := T.F_Sectionrepr.binds fun _ _ _ _ _ _ us hl => match us, hl with | [_], _ => rfl
end
end K2
namespace K2
open PySem L2 Rg RZ PyProof.Rows
local macro_rules | `(tactic| walk_at "ev") => `(tactic| first
  | with_reducible assumption
  | ((with_reducible apply ev_var); exact rfl)
  | with_reducible exact ev_cint
  | with_reducible exact ev_cbl
  | with_reducible exact ev_cnon
  | with_reducible exact ev_cstr
  | ((with_reducible apply ev_c); with_reducible assumption)
  | with_reducible exact ev_craw
  | ((with_reducible apply ev_tup1); walk_at "ea"; exact Nat.le_of_ble_eq_true rfl)
  | ((with_reducible apply ev_lst1); walk_at "ea"; exact Nat.le_of_ble_eq_true rfl)
  | ((with_reducible apply ev_op1); walk_at "ev"; walk_at "ev"; walk_at "od")
  | ((with_reducible apply ev_un1); walk_at "ev"; exact ud_neg)
  | ((with_reducible apply ev_isSeq); walk_at "ev"; walk_at "ea"; exact rfl; exact rfl)
  | ((with_reducible apply ev_cb1); walk_at "ea"; walk_at "cd")
  | ((with_reducible apply ev_chainB); walk_at "ev"; walk_at "ev"; walk_at "od"; walk_at "ev"; walk_at "od")
  | ((with_reducible apply ev_andF); walk_at "ev"; exact rfl)
  | ((with_reducible apply ev_andT); walk_at "ev"; exact rfl; walk_at "ev")
  | ((with_reducible apply ev_andB); walk_at "ev"; intro _; walk_at "ev")
  | ((with_reducible apply ev_orT); walk_at "ev"; exact rfl)
  | ((with_reducible apply ev_orF); walk_at "ev"; exact rfl; walk_at "ev")
  | ((with_reducible apply ev_orB); walk_at "ev"; intro _; walk_at "ev")
  | ((with_reducible apply ev_notV); walk_at "ev"))
local macro_rules | `(tactic| walk_at "et") => `(tactic| first
  | ((with_reducible apply et_B); walk_at "ev")
  | ((with_reducible apply et_test); walk_at "ev")
  | ((with_reducible apply et_not); walk_at "et")
  | ((with_reducible apply et_orT); walk_at "et"; exact rfl)
  | ((with_reducible apply et_orF); walk_at "et"; exact rfl; walk_at "et")
  | ((with_reducible apply et_or); walk_at "et"; intro _; walk_at "et")
  | ((with_reducible apply et_andF); walk_at "et"; exact rfl)
  | ((with_reducible apply et_andT); walk_at "et"; exact rfl; walk_at "et")
  | ((with_reducible apply et_and); walk_at "et"; intro _; walk_at "et"))
local macro_rules | `(tactic| walk_at "ea") => `(tactic| first
  | with_reducible exact ea_nil
  | ((with_reducible apply ea1); walk_at "ev"; walk_at "ea"))
local macro_rules | `(tactic| walk_at "od") => `(tactic| first
  | with_reducible exact od_addI
  | with_reducible exact od_subI
  | ((with_reducible apply od_addS); (try simp only [PySem.Str.length_append]); omega)
  | ((with_reducible apply od_catL); exact Nat.le_of_ble_eq_true rfl)
  | ((with_reducible apply od_modI); first | decide | omega)
  | ((with_reducible apply od_mulI); first | (exact Or.inr ⟨by decide, by decide⟩) | (exact Or.inl ⟨by decide, by decide⟩) | (exact Or.inl ⟨by omega, by omega⟩) | (exact Or.inr ⟨by omega, by omega⟩))
  | ((with_reducible apply od_divI); first | (exact ⟨by decide, by decide⟩) | (exact ⟨by omega, by omega⟩))
  | ((with_reducible apply od_powI); exact ⟨by decide, by decide, by decide⟩)
  | with_reducible exact od_leI
  | with_reducible exact od_ltI
  | with_reducible exact od_gtI
  | with_reducible exact od_geI
  | with_reducible exact od_eqI
  | with_reducible exact od_eqB
  | with_reducible exact od_neB
  | with_reducible exact od_neI
  | with_reducible exact od_eqS
  | with_reducible exact od_inS
  | ((with_reducible apply od_none); exact rfl)
  | ((with_reducible apply od_ix); exact rfl))
local macro_rules | `(tactic| walk_at "cd") => `(tactic| first
  | ((with_reducible apply cd_isStr); exact rfl)
  | ((with_reducible apply cd_isInt); exact rfl)
  | ((with_reducible apply cd_isBool); exact rfl)
  | ((with_reducible apply cd_isList); exact rfl)
  | ((with_reducible apply cd_isTuple); exact rfl)
  | ((with_reducible apply cd_isi); assumption)
  | ((with_reducible apply cd_len); assumption)
  | ((with_reducible apply cd_len); exact rfl)
  | with_reducible exact cd_intI
  | with_reducible exact cd_listof
  | ((with_reducible apply cd_str); assumption)
  | with_reducible exact cd_all)
local macro_rules | `(tactic| walk_at "px") => `(tactic| first
  | ((with_reducible apply px_var); exact rfl)
  | with_reducible exact px_c
  | ((with_reducible apply px_op); walk_at "px"; walk_at "px"; walk_at "pr")
  | ((with_reducible apply px_cb); walk_at "pa"; walk_at "pr")
  | ((with_reducible apply px_test); walk_at "px")
  | ((with_reducible apply px_B); walk_at "px")
  | ((with_reducible apply px_and); walk_at "px"; walk_at "px"))
local macro_rules | `(tactic| walk_at "pa") => `(tactic| first
  | with_reducible exact px_nil
  | ((with_reducible apply px_cons); walk_at "px"; walk_at "pa"))
local macro_rules | `(tactic| walk_at "pr") => `(tactic| first
  | exact px_addI
  | (apply px_ix; assumption; exact rfl)
  | (apply px_ix; assumption; assumption)
  | exact px_eqI
  | exact fun Q q => ⟨_, _, rfl, rfl, q⟩
  | exact fun Q q => ⟨_, _, rfl, rfl, (Or.inr ⟨by decide, by decide⟩), q⟩
  | exact fun Q q => ⟨_, _, rfl, rfl, (Or.inl ⟨by omega, by omega⟩), q⟩
  | exact fun Q q => ⟨_, _, rfl, rfl, (Or.inr ⟨by omega, by omega⟩), q⟩
  | exact fun Q q => ⟨_, _, rfl, rfl, ⟨by decide, by decide⟩, q⟩
  | exact fun Q q => ⟨_, _, rfl, rfl, ⟨by omega, by omega⟩, q⟩
  | exact fun Q q => ⟨_, _, rfl, rfl, ⟨by decide, by decide, by decide⟩, q⟩
  | exact fun Q q => ⟨_, _, rfl, rfl, (by decide), q⟩
  | exact fun Q q => ⟨_, _, rfl, rfl, (by omega), q⟩
  | (apply px_len; assumption)
  | exact px_intI
  | exact px_abs)
local macro_rules | `(tactic| walk_at "fg") => `(tactic| repeat first | exact Fg.nil | apply Fg.keep | apply Fg.drop)
/-- the letters of a name -/
abbrev lets : Str := "abcdefghijklmnopqrstuvwxyz"
def isNameS (x : Str) : Bool := decide (1 ≤ (x.length : Int)) && decide ((x.length : Int) ≤ 6) && x.cps.toList.all fun c => decide (c ∈ lets.cps.toList)
def isNameD : D → Bool
  | .str x => isNameS x
  | _ => false
/-- a value that may be judged -/
def okD : D → Bool
  | .str x => decide (x.length ≤ 100000)
  | .obj _ _ _ => false
  | .exc _ _ _ => false
  | .raw _ => false
  | .seq _ => false
  | .cau _ _ _ _ _ => false
  | .fob _ => false
  | .dict _ _ => false
  | .ldict _ _ => false
  | _ => true
section
variable {P : Program} {w : World} {K : PySem.W.Frag} {mg : Str → Option Value} {base : Heap}
def preName (_ : Ml) (as : List D) : Prop := ∃ d, as = [d] ∧ okD d = true
def postName (as : List D) (r : D) : Prop := ∀ d, as = [d] → r = .bl (isNameD d)
theorem ok_isname (T : Tx K mg) : FnOk P w K mg base CX0 1 T.f_is_name T.fd_is_name ["value"] (spF K preName postName) := by
  refine fn_run T.F_is_name sc_isname (fun M as ⟨d, e, _⟩ => by rw [e]; rfl) (fun cdv A outer s H E hr => ⟨_, (pss_cons (ps_if (PW.pt (pw_or (pt_not (pt_val (pe_callB (q_isi (K := K)) (by rfl) T.b_isinstance bt_isinstance (pa_cons (pv 0) (pa_cons (pe_ty bt_str T.b_str) pa_nil))))) (pw_or1 (pt_not (pt_chain op_le op_le pe_int (pe_callB (q_len (K := K)) (by rfl) T.b_len bt_len (pa_cons (pv 0) pa_nil)) (pe_glob rfl T.c_LONGEST T.r_LONGEST)))))) (pss_one (ps_ret pe_bl)) pss_nil)
  (pss_one (ps_ret (pe_callB (q_all (K := K)) (by rfl) T.b_all bt_all (pa_cons (pe_lc (own := [("letter", 1)]) (g := (gName 1)) (tt := tYes) (by rfl) sc_isname.nd (q_itany (K := K) (pv 0)) (blkOk_by (own := [("letter", 1)]) (N := n_isname) (sc := defScope s_isname) (by decide +kernel)) (fun _ _ _ _ _ => (pg_name (i := 1) sc_isname.nd rfl (Or.inl rfl))) (fun _ _ _ _ _ => pts_nil) (fun _ _ _ _ _ => (pe_cmpR (q_in (K := K)) (pv 1) (pe_glob rfl T.c_LETTERS T.r_LETTERS) (by rfl)))) pa_nil))))), fun M as ⟨d, e, hd⟩ => ?_⟩)
  subst e
  show Rg.Run K M [some d, none] _ _
  have gL := T.g_LETTERS
  have gN := T.g_LONGEST
  have key : ∀ b : Bool, b = isNameD d → postName [d] (.bl b) := fun b hb d' e => by cases e; rw [hb]
  cases d with
  | str x =>
    have hx : x.length ≤ 100000 := of_decide_eq_true hd
    have hl : lenD (.str x) = some x.length := if_pos hx
    refine run_seq ?_
    apply run_if1
    · walk_at "et"
    · intro e
      refine run_ret1 ev_cbl (key _ ?_)
      simp only [isNameD, isNameS]
      simp only [Bool.not_eq_true'] at e
      rw [e]; rfl
    · intro e
      refine run_next ?_
      have e2 : (decide (1 ≤ (x.length : Int)) && decide ((x.length : Int) ≤ 6)) = true := by simpa using e
      apply run_ret1
      · apply ev_cb1
        · apply ea1
          · refine ev_lcM (f := fun c => .bl (decide (c ∈ lets.cps.toList))) (ei_any (ev_var rfl) rfl) hx fun c _ => ?_
            exact eg_name (by walk_at "ev")
          · exact ea_nil
        · rw [show (x.cps.toList.map fun c => D.bl (decide (c ∈ lets.cps.toList))) = (x.cps.toList.map fun c => decide (c ∈ lets.cps.toList)).map D.bl by rw [List.map_map]; rfl]
          exact cd_all
      · refine key _ ?_
        simp only [isNameD, isNameS, e2, Bool.true_and, List.all_map]
        rfl
  | obj _ _ _ => cases hd
  | exc _ _ _ => cases hd
  | raw _ => cases hd
  | seq _ => cases hd
  | cau _ _ _ _ _ => cases hd
  | fob _ => cases hd
  | dict _ _ => cases hd
  | ldict _ _ => cases hd
  | _ =>
    refine run_seq ?_
    apply run_ifT
    · walk_at "et"
    · rfl
    · exact run_ret1 ev_cbl (key _ rfl)
/-! ### is_number -/
def isNumD : D → Int → Int → Bool
  | .int i, lo, hi => decide (lo ≤ i) && decide (i ≤ hi)
  | _, _, _ => false
def preNum (_ : Ml) (as : List D) : Prop := ∃ d lo hi, as = [d, .int lo, .int hi] ∧ okD d = true
def postNum (as : List D) (r : D) : Prop := ∀ d lo hi, as = [d, .int lo, .int hi] → r = .bl (isNumD d lo hi)
theorem ok_isnumber (T : Tx K mg) : FnOk P w K mg base CX0 1 T.f_is_number T.fd_is_number ["value", "least", "most"] (spF K preNum postNum) := by
  refine fn_run T.F_is_number sc_isnumber (fun M as ⟨d, lo, hi, e, _⟩ => by rw [e]; rfl) (fun cdv A outer s H E hr => ⟨_, (pss_cons (ps_if (PW.pt (pw_or (pt_val (pe_callB (q_isi (K := K)) (by rfl) T.b_isinstance bt_isinstance (pa_cons (pv 0) (pa_cons (pe_ty bt_bool T.b_bool) pa_nil)))) (pw_or1 (pt_not (pt_val (pe_callB (q_isi (K := K)) (by rfl) T.b_isinstance bt_isinstance (pa_cons (pv 0) (pa_cons (pe_ty bt_int T.b_int) pa_nil)))))))) (pss_one (ps_ret pe_bl)) pss_nil)
  (pss_one (ps_ret (pe_chain op_le op_le (pv 1) (pv 0) (pv 2))))), fun M as ⟨d, lo, hi, e, hd⟩ => ?_⟩)
  subst e
  show Rg.Run K M [some d, some (.int lo), some (.int hi)] _ _
  have key : ∀ b : Bool, b = isNumD d lo hi → postNum [d, .int lo, .int hi] (.bl b) := fun b hb d' lo' hi' e => by cases e; rw [hb]
  cases d with
  | int i =>
    refine run_seq ?_
    apply run_ifF
    · walk_at "et"
    · rfl
    · refine run_next ?_
      apply run_ret1
      · walk_at "ev"
      · exact key _ rfl
  | obj _ _ _ => cases hd
  | exc _ _ _ => cases hd
  | raw _ => cases hd
  | seq _ => cases hd
  | cau _ _ _ _ _ => cases hd
  | fob _ => cases hd
  | dict _ _ => cases hd
  | ldict _ _ => cases hd
  | _ =>
    refine run_seq ?_
    apply run_ifT
    · walk_at "et"
    · rfl
    · exact run_ret1 ev_cbl (key _ rfl)
theorem ev_name {M : Mt} {ds : DS} {ta : TE} {d : D} {E : XK} (h : Ev K M ds ta (· = d)) (hd : okD d = true) : Ev K M ds (tCall (spF K preName postName) [] E (tCons ta tNil)) (· = .bl (isNameD d)) :=
  (ev_call1 (ea1 h ea_nil) fun _ _ => ⟨d, rfl, hd⟩).weak fun r q => q d rfl
theorem ev_num {M : Mt} {ds : DS} {ta tb tc : TE} {d : D} {lo hi : Int} {E : XK} (h : Ev K M ds ta (· = d)) (hb : Ev K M ds tb (· = .int lo)) (hc : Ev K M ds tc (· = .int hi)) (hd : okD d = true) : Ev K M ds (tCall (spF K preNum postNum) [] E (tCons ta (tCons tb (tCons tc tNil)))) (· = .bl (isNumD d lo hi)) :=
  (ev_call1 (ea1 h (ea1 hb (ea1 hc ea_nil))) fun _ _ => ⟨d, lo, hi, rfl, hd⟩).weak fun r q => q d lo hi rfl
end
end K2
namespace K2
open PySem L2 Rg RZ PyProof.Rows
local macro_rules | `(tactic| walk_at "ev") => `(tactic| first
  | with_reducible assumption
  | ((with_reducible apply ev_var); exact rfl)
  | with_reducible exact ev_cint
  | with_reducible exact ev_cbl
  | with_reducible exact ev_cnon
  | with_reducible exact ev_cstr
  | ((with_reducible apply ev_c); with_reducible assumption)
  | with_reducible exact ev_craw
  | ((with_reducible apply ev_tup1); walk_at "ea"; exact Nat.le_of_ble_eq_true rfl)
  | ((with_reducible apply ev_lst1); walk_at "ea"; exact Nat.le_of_ble_eq_true rfl)
  | ((with_reducible apply ev_op1); walk_at "ev"; walk_at "ev"; walk_at "od")
  | ((with_reducible apply ev_un1); walk_at "ev"; exact ud_neg)
  | ((with_reducible apply ev_isSeq); walk_at "ev"; walk_at "ea"; exact rfl; exact rfl)
  | ((with_reducible apply ev_cb1); walk_at "ea"; walk_at "cd")
  | ((with_reducible apply ev_chainB); walk_at "ev"; walk_at "ev"; walk_at "od"; walk_at "ev"; walk_at "od")
  | ((with_reducible apply ev_andF); walk_at "ev"; exact rfl)
  | ((with_reducible apply ev_andT); walk_at "ev"; exact rfl; walk_at "ev")
  | ((with_reducible apply ev_andB); walk_at "ev"; intro _; walk_at "ev")
  | ((with_reducible apply ev_orT); walk_at "ev"; exact rfl)
  | ((with_reducible apply ev_orF); walk_at "ev"; exact rfl; walk_at "ev")
  | ((with_reducible apply ev_orB); walk_at "ev"; intro _; walk_at "ev")
  | ((with_reducible apply ev_notV); walk_at "ev"))
local macro_rules | `(tactic| walk_at "et") => `(tactic| first
  | ((with_reducible apply et_B); walk_at "ev")
  | ((with_reducible apply et_test); walk_at "ev")
  | ((with_reducible apply et_not); walk_at "et")
  | ((with_reducible apply et_orT); walk_at "et"; exact rfl)
  | ((with_reducible apply et_orF); walk_at "et"; exact rfl; walk_at "et")
  | ((with_reducible apply et_or); walk_at "et"; intro _; walk_at "et")
  | ((with_reducible apply et_andF); walk_at "et"; exact rfl)
  | ((with_reducible apply et_andT); walk_at "et"; exact rfl; walk_at "et")
  | ((with_reducible apply et_and); walk_at "et"; intro _; walk_at "et"))
local macro_rules | `(tactic| walk_at "ea") => `(tactic| first
  | with_reducible exact ea_nil
  | ((with_reducible apply ea1); walk_at "ev"; walk_at "ea"))
local macro_rules | `(tactic| walk_at "od") => `(tactic| first
  | with_reducible exact od_addI
  | with_reducible exact od_subI
  | ((with_reducible apply od_addS); (try simp only [PySem.Str.length_append]); omega)
  | ((with_reducible apply od_catL); exact Nat.le_of_ble_eq_true rfl)
  | ((with_reducible apply od_modI); first | decide | omega)
  | ((with_reducible apply od_mulI); first | (exact Or.inr ⟨by decide, by decide⟩) | (exact Or.inl ⟨by decide, by decide⟩) | (exact Or.inl ⟨by omega, by omega⟩) | (exact Or.inr ⟨by omega, by omega⟩))
  | ((with_reducible apply od_divI); first | (exact ⟨by decide, by decide⟩) | (exact ⟨by omega, by omega⟩))
  | ((with_reducible apply od_powI); exact ⟨by decide, by decide, by decide⟩)
  | with_reducible exact od_leI
  | with_reducible exact od_ltI
  | with_reducible exact od_gtI
  | with_reducible exact od_geI
  | with_reducible exact od_eqI
  | with_reducible exact od_eqB
  | with_reducible exact od_neB
  | with_reducible exact od_neI
  | with_reducible exact od_eqS
  | with_reducible exact od_inS
  | ((with_reducible apply od_none); exact rfl)
  | ((with_reducible apply od_ix); exact rfl))
local macro_rules | `(tactic| walk_at "cd") => `(tactic| first
  | ((with_reducible apply cd_isStr); exact rfl)
  | ((with_reducible apply cd_isInt); exact rfl)
  | ((with_reducible apply cd_isBool); exact rfl)
  | ((with_reducible apply cd_isList); exact rfl)
  | ((with_reducible apply cd_isTuple); exact rfl)
  | ((with_reducible apply cd_isi); assumption)
  | ((with_reducible apply cd_len); assumption)
  | ((with_reducible apply cd_len); exact rfl)
  | with_reducible exact cd_intI
  | with_reducible exact cd_listof
  | ((with_reducible apply cd_str); assumption)
  | with_reducible exact cd_all)
local macro_rules | `(tactic| walk_at "px") => `(tactic| first
  | ((with_reducible apply px_var); exact rfl)
  | with_reducible exact px_c
  | ((with_reducible apply px_op); walk_at "px"; walk_at "px"; walk_at "pr")
  | ((with_reducible apply px_cb); walk_at "pa"; walk_at "pr")
  | ((with_reducible apply px_test); walk_at "px")
  | ((with_reducible apply px_B); walk_at "px")
  | ((with_reducible apply px_and); walk_at "px"; walk_at "px"))
local macro_rules | `(tactic| walk_at "pa") => `(tactic| first
  | with_reducible exact px_nil
  | ((with_reducible apply px_cons); walk_at "px"; walk_at "pa"))
local macro_rules | `(tactic| walk_at "pr") => `(tactic| first
  | exact px_addI
  | (apply px_ix; assumption; exact rfl)
  | (apply px_ix; assumption; assumption)
  | exact px_eqI
  | exact fun Q q => ⟨_, _, rfl, rfl, q⟩
  | exact fun Q q => ⟨_, _, rfl, rfl, (Or.inr ⟨by decide, by decide⟩), q⟩
  | exact fun Q q => ⟨_, _, rfl, rfl, (Or.inl ⟨by omega, by omega⟩), q⟩
  | exact fun Q q => ⟨_, _, rfl, rfl, (Or.inr ⟨by omega, by omega⟩), q⟩
  | exact fun Q q => ⟨_, _, rfl, rfl, ⟨by decide, by decide⟩, q⟩
  | exact fun Q q => ⟨_, _, rfl, rfl, ⟨by omega, by omega⟩, q⟩
  | exact fun Q q => ⟨_, _, rfl, rfl, ⟨by decide, by decide, by decide⟩, q⟩
  | exact fun Q q => ⟨_, _, rfl, rfl, (by decide), q⟩
  | exact fun Q q => ⟨_, _, rfl, rfl, (by omega), q⟩
  | (apply px_len; assumption)
  | exact px_intI
  | exact px_abs)
local macro_rules | `(tactic| walk_at "fg") => `(tactic| repeat first | exact Fg.nil | apply Fg.keep | apply Fg.drop)
/-! ### _law_same -/
def okN : Nat → D → Bool
  | 0, _ => false
  | _ + 1, .obj _ _ _ => false
  | _ + 1, .exc _ _ _ => false
  | _ + 1, .cau _ _ _ _ _ => false
  | _ + 1, .raw _ => false
  | _ + 1, .seq _ => false
  | _ + 1, .fob _ => false
  | _ + 1, .dict _ _ => false
  | _ + 1, .ldict _ _ => false
  | n + 1, .list xs => decide (xs.length ≤ 100000) && xs.all (okN n)
  | n + 1, .tup xs => decide (xs.length ≤ 100000) && xs.all (okN n)
  | _ + 1, _ => true
def allZ (f : D → D → Bool) (xs ys : List D) : Bool := (xs.zip ys).all fun p => f p.1 p.2
def sameN : Nat → D → D → Bool
  | 0, _, _ => false
  | _ + 1, .non, .non => true
  | _ + 1, .bl a, .bl b => decide (a = b)
  | _ + 1, .int a, .int b => decide (a = b)
  | _ + 1, .str a, .str b => decide (a = b)
  | n + 1, .list xs, .list ys => decide ((xs.length : Int) = ys.length) && allZ (sameN n) xs ys
  | n + 1, .tup xs, .tup ys => decide ((xs.length : Int) = ys.length) && allZ (sameN n) xs ys
  | _ + 1, _, _ => false
theorem allZ_refl {f : D → D → Bool} : ∀ {xs : List D}, (∀ x ∈ xs, f x x = true) → allZ f xs xs = true
  | [], _ => rfl
  | x :: r, h => by
    show (f x x && allZ f r r) = true
    rw [h x List.mem_cons_self, allZ_refl fun y hy => h y (List.mem_cons_of_mem _ hy)]
    rfl
theorem sameN_refl : ∀ (n : Nat) (d : D), okN n d = true → sameN n d d = true
  | 0, _, h => by cases h
  | n + 1, d, h => by
    cases d with
    | list xs =>
      have h2 : xs.all (okN n) = true := by simp only [okN, Bool.and_eq_true] at h; exact h.2
      simp only [sameN, decide_true, Bool.true_and]
      exact allZ_refl fun x hx => sameN_refl n x (List.all_eq_true.mp h2 x hx)
    | tup xs =>
      have h2 : xs.all (okN n) = true := by simp only [okN, Bool.and_eq_true] at h; exact h.2
      simp only [sameN, decide_true, Bool.true_and]
      exact allZ_refl fun x hx => sameN_refl n x (List.all_eq_true.mp h2 x hx)
    | obj _ _ _ => cases h
    | exc _ _ _ => cases h
    | cau _ _ _ _ _ => cases h
    | raw _ => cases h
    | seq _ => cases h
    | fob _ => cases h
    | dict _ _ => cases h
    | ldict _ _ => cases h
    | non => rfl
    | _ => simp [sameN]
section
variable {P : Program} {w : World} {K : PySem.W.Frag} {mg : Str → Option Value} {base : Heap}
def preSame (n : Nat) (_ : Ml) (as : List D) : Prop := ∃ a b, as = [a, b] ∧ okN n a = true ∧ okN n b = true
def postSame (n : Nat) (as : List D) (r : D) : Prop := ∀ a b, as = [a, b] → r = .bl (sameN n a b)
theorem fn_never {f : Addr} {fd : FuncData} {ps : List Str} {k : Nat} {pre : Ml → List D → Prop} {post : List D → D → Prop} (h : ∀ M as, ¬ pre M as) : FnOk P w K mg base CX0 k f fd ps (spF K pre post) :=
  ⟨fun vs H Q E ⟨M, _, as, _, _, hp, _⟩ => (h M as hp).elim, fun A outer s H args us vs Q E _ _ _ _ ⟨M, _, as, _, _, hp, _⟩ => (h M as hp).elim⟩
theorem ok_same (T : Tx K mg) : ∀ n, FnOk P w K mg base CX0 n T.f__law_same T.fd__law_same ["_law_found", "_law_due"] (spF K (preSame n) (postSame n))
  | 0 => fn_never fun M as ⟨a, b, _, h, _⟩ => by cases h
  | n + 1 => by
    have G_Lsame := ok_same T n
    have B_Lsame : Binds K T.fd__law_same ["_law_found", "_law_due"] [] := T.F__law_same.binds fun _ _ _ _ _ _ us hl => match us, hl with | [_, _], _ => rfl
    refine fn_run T.F__law_same sc_Lsame (fun M as ⟨a, b, e, _⟩ => by rw [e]; rfl) (fun cdv A outer s H E hr => ⟨_, (pss_cons (ps_if (PW.pt (pw_or (pt_cmpR op_isN (pv 1) pe_non (nomark _)) (pw_or1 (pt_cmpR op_isN (pv 0) pe_non (nomark _))))) (pss_one (ps_ret (pe_and (pe_cmpR op_isN (pv 1) pe_non (nomark _)) (pe_one (pe_cmpR op_isN (pv 0) pe_non (nomark _)))))) pss_nil)
  (pss_cons (ps_if (pt_val (pe_callB (q_isiT (K := K)) (by rfl) T.b_isinstance bt_isinstance (pa_cons (pv 1) (pa_cons (pe_tup (pa_cons (pe_ty bt_list T.b_list) (pa_cons (pe_ty bt_tuple T.b_tuple) pa_nil))) pa_nil)))) (pss_cons (ps_if (PW.pt (pw_or (pt_cmpR op_ne (pe_callB (q_isi (K := K)) (by rfl) T.b_isinstance bt_isinstance (pa_cons (pv 0) (pa_cons (pe_ty bt_list T.b_list) pa_nil))) (pe_callB (q_isi (K := K)) (by rfl) T.b_isinstance bt_isinstance (pa_cons (pv 1) (pa_cons (pe_ty bt_list T.b_list) pa_nil))) (nomark _)) (pw_or1 (pt_cmpR op_ne (pe_callB (q_isi (K := K)) (by rfl) T.b_isinstance bt_isinstance (pa_cons (pv 0) (pa_cons (pe_ty bt_tuple T.b_tuple) pa_nil))) (pe_callB (q_isi (K := K)) (by rfl) T.b_isinstance bt_isinstance (pa_cons (pv 1) (pa_cons (pe_ty bt_tuple T.b_tuple) pa_nil))) (nomark _))))) (pss_one (ps_ret pe_bl)) pss_nil)
    (pss_one (ps_ret (pe_and (pe_cmpR op_eq (pe_callB (q_len (K := K)) (by rfl) T.b_len bt_len (pa_cons (pv 0) pa_nil)) (pe_callB (q_len (K := K)) (by rfl) T.b_len bt_len (pa_cons (pv 1) pa_nil)) (nomark _)) (pe_one (pe_callB (q_all (K := K)) (by rfl) T.b_all bt_all (pa_cons (pe_lc (own := [("_law_low", 2), ("_law_high", 3)]) (g := (gTup K 2 (gCons (gName 2) (gCons (gName 3) gNil)))) (tt := tYes) (by rfl) sc_Lsame.nd (q_zip (K := K) T.b_zip (pa_cons (pv 0) (pa_cons (pv 1) pa_nil))) (blkOk_by (own := [("_law_low", 2), ("_law_high", 3)]) (N := n_Lsame) (sc := defScope s_Lsame) (by decide +kernel)) (fun _ _ _ _ _ => (q_tup (K := K) (n := 2) rfl (pgs_cons (pg_name (i := 2) sc_Lsame.nd rfl (Or.inl rfl)) (pgs_cons (pg_name (i := 3) sc_Lsame.nd rfl (Or.inl rfl)) pgs_nil)))) (fun _ _ _ _ _ => pts_nil) (fun _ _ _ _ _ => (pe_call G_Lsame hr (by rfl) T.m__law_same T.F__law_same.kp B_Lsame .nil pass0 (pa_cons (pv 2) (pa_cons (pv 3) pa_nil))))) pa_nil))))))) pss_nil)
  (pss_cons (ps_if (PW.pt (pw_or (pt_cmpR op_ne (pe_callB (q_isi (K := K)) (by rfl) T.b_isinstance bt_isinstance (pa_cons (pv 0) (pa_cons (pe_ty bt_bool T.b_bool) pa_nil))) (pe_callB (q_isi (K := K)) (by rfl) T.b_isinstance bt_isinstance (pa_cons (pv 1) (pa_cons (pe_ty bt_bool T.b_bool) pa_nil))) (nomark _)) (pw_or1 (pt_cmpR op_ne (pe_callB (q_isi (K := K)) (by rfl) T.b_isinstance bt_isinstance (pa_cons (pv 0) (pa_cons (pe_ty bt_int T.b_int) pa_nil))) (pe_callB (q_isi (K := K)) (by rfl) T.b_isinstance bt_isinstance (pa_cons (pv 1) (pa_cons (pe_ty bt_int T.b_int) pa_nil))) (nomark _))))) (pss_one (ps_ret pe_bl)) pss_nil)
  (pss_one (ps_ret (pe_and (pe_cmpR op_eq (pe_callB (q_isi (K := K)) (by rfl) T.b_isinstance bt_isinstance (pa_cons (pv 0) (pa_cons (pe_ty bt_str T.b_str) pa_nil))) (pe_callB (q_isi (K := K)) (by rfl) T.b_isinstance bt_isinstance (pa_cons (pv 1) (pa_cons (pe_ty bt_str T.b_str) pa_nil))) (nomark _)) (pe_one (pe_cmpR op_eq (pv 0) (pv 1) (nomark _))))))))), fun M as ⟨a, b, e, ha, hb⟩ => ?_⟩)
    subst e
    show Rg.Run K M [some a, some b, none, none] _ _
    have key : ∀ c : Bool, c = sameN (n + 1) a b → postSame (n + 1) [a, b] (.bl c) := fun c hc a' b' e => by cases e; rw [hc]
    have seq : ∀ xs ys : List D, ((a = .list xs ∧ b = .list ys) ∨ (a = .tup xs ∧ b = .tup ys)) → Ev K M [some a, some b, none, none]
        (tAndV (tOp rEq (tCB (fun xs H Q => ∃ x n, xs = [x] ∧ LenV K x H n ∧ Q (V.int (n : Nat)) H) (tCons (tVar 0) tNil)) (tCB (fun xs H Q => ∃ x n, xs = [x] ∧ LenV K x H n ∧ Q (V.int (n : Nat)) H) (tCons (tVar 1) tNil)))
          (tCB (rAll K) (tCons (tLc (iZipA K (tCons (tVar 0) (tCons (tVar 1) tNil))) (gTup K 2 (gCons (gName 2) (gCons (gName 3) gNil))) tYes (tCall (spF K (preSame n) (postSame n)) [] E0 (tCons (tVar 2) (tCons (tVar 3) tNil))) [2, 3]) tNil)))
        (· = .bl (decide ((xs.length : Int) = ys.length) && allZ (sameN n) xs ys)) := fun xs ys hxy => by
      have hx : okN (n + 1) (.list xs) = true := by rcases hxy with ⟨rfl, _⟩ | ⟨rfl, _⟩ <;> exact ha
      have hy : okN (n + 1) (.list ys) = true := by rcases hxy with ⟨_, rfl⟩ | ⟨_, rfl⟩ <;> exact hb
      simp only [okN, Bool.and_eq_true, decide_eq_true_eq] at hx hy
      refine ev_andB ?_ fun _ => ?_
      · rcases hxy with ⟨rfl, rfl⟩ | ⟨rfl, rfl⟩ <;> walk_at "ev"
      · have hz : zipD xs ys = (xs.zip ys).map fun p => D.tup [p.1, p.2] := rfl
        apply ev_cb1
        · apply ea1
          · refine ev_lcM (cs := xs.zip ys) (inj := fun p => D.tup [p.1, p.2]) (f := fun p => .bl (sameN n p.1 p.2)) (ei_zip (ea1 (ev_var rfl) (ea1 (ev_var rfl) ea_nil)) hxy) (by rw [List.length_zip]; omega) fun c hc => ?_
            refine eg_tup (egs_cons (egs_cons (egs_nil ?_)))
            refine (ev_call1 (ea1 (ev_var rfl) (ea1 (ev_var rfl) ea_nil)) fun _ _ => ⟨c.1, c.2, rfl, ?_, ?_⟩).weak fun r q => q c.1 c.2 rfl
            · exact List.all_eq_true.mp hx.2 _ (List.of_mem_zip hc).1
            · exact List.all_eq_true.mp hy.2 _ (List.of_mem_zip hc).2
          · exact ea_nil
        · rw [show ((xs.zip ys).map fun p => D.bl (sameN n p.1 p.2)) = ((xs.zip ys).map fun p => sameN n p.1 p.2).map D.bl by rw [List.map_map]; rfl,
            show allZ (sameN n) xs ys = ((xs.zip ys).map fun p => sameN n p.1 p.2).all id by rw [List.all_map]; rfl]
          exact cd_all
    cases b with
    | obj _ _ _ => cases hb
    | exc _ _ _ => cases hb
    | cau _ _ _ _ _ => cases hb
    | raw _ => cases hb
    | seq _ => cases hb
    | fob _ => cases hb
    | dict _ _ => cases hb
    | ldict _ _ => cases hb
    | non =>
      cases a with
      | obj _ _ _ => cases ha
      | exc _ _ _ => cases ha
      | cau _ _ _ _ _ => cases ha
      | raw _ => cases ha
      | seq _ => cases ha
      | fob _ => cases ha
      | dict _ _ => cases ha
      | ldict _ _ => cases ha
      | _ =>
        refine run_seq ?_
        apply run_ifT
        · walk_at "et"
        · rfl
        · apply run_ret1
          · walk_at "ev"
          · exact key _ rfl
    | list ys =>
      cases a with
      | obj _ _ _ => cases ha
      | exc _ _ _ => cases ha
      | cau _ _ _ _ _ => cases ha
      | raw _ => cases ha
      | seq _ => cases ha
      | fob _ => cases ha
      | dict _ _ => cases ha
      | ldict _ _ => cases ha
      | non =>
        refine run_seq ?_
        apply run_ifT
        · walk_at "et"
        · rfl
        · apply run_ret1
          · walk_at "ev"
          · exact key _ rfl
      | list xs =>
        refine run_seq ?_
        apply run_ifF
        · walk_at "et"
        · rfl
        refine run_next (run_seq ?_)
        apply run_ifT
        · walk_at "et"
        · rfl
        refine run_seq ?_
        apply run_ifF
        · walk_at "et"
        · rfl
        exact run_next (run_ret1 (seq xs ys (.inl ⟨rfl, rfl⟩)) (key _ rfl))
      | _ =>
        refine run_seq ?_
        apply run_ifF
        · walk_at "et"
        · rfl
        refine run_next (run_seq ?_)
        apply run_ifT
        · walk_at "et"
        · rfl
        refine run_seq ?_
        apply run_ifT
        · walk_at "et"
        · rfl
        exact run_ret1 ev_cbl (key _ rfl)
    | tup ys =>
      cases a with
      | obj _ _ _ => cases ha
      | exc _ _ _ => cases ha
      | cau _ _ _ _ _ => cases ha
      | raw _ => cases ha
      | seq _ => cases ha
      | fob _ => cases ha
      | dict _ _ => cases ha
      | ldict _ _ => cases ha
      | non =>
        refine run_seq ?_
        apply run_ifT
        · walk_at "et"
        · rfl
        · apply run_ret1
          · walk_at "ev"
          · exact key _ rfl
      | tup xs =>
        refine run_seq ?_
        apply run_ifF
        · walk_at "et"
        · rfl
        refine run_next (run_seq ?_)
        apply run_ifT
        · walk_at "et"
        · rfl
        refine run_seq ?_
        apply run_ifF
        · walk_at "et"
        · rfl
        exact run_next (run_ret1 (seq xs ys (.inr ⟨rfl, rfl⟩)) (key _ rfl))
      | _ =>
        refine run_seq ?_
        apply run_ifF
        · walk_at "et"
        · rfl
        refine run_next (run_seq ?_)
        apply run_ifT
        · walk_at "et"
        · rfl
        refine run_seq ?_
        apply run_ifT
        · walk_at "et"
        · rfl
        exact run_ret1 ev_cbl (key _ rfl)
    | _ =>
      cases a with
      | obj _ _ _ => cases ha
      | exc _ _ _ => cases ha
      | cau _ _ _ _ _ => cases ha
      | raw _ => cases ha
      | seq _ => cases ha
      | fob _ => cases ha
      | dict _ _ => cases ha
      | ldict _ _ => cases ha
      | non =>
        refine run_seq ?_
        apply run_ifT
        · walk_at "et"
        · rfl
        · apply run_ret1
          · walk_at "ev"
          · exact key _ rfl
      | _ =>
        refine run_seq ?_
        apply run_ifF
        · walk_at "et"
        · rfl
        refine run_next (run_seq ?_)
        apply run_ifF
        · walk_at "et"
        · rfl
        refine run_next (run_seq ?_)
        first
        | (apply run_ifT
           · walk_at "et"
           · rfl
           exact run_ret1 ev_cbl (key _ rfl))
        | (apply run_ifF
           · walk_at "et"
           · rfl
           refine run_next ?_
           apply run_ret1
           · walk_at "ev"
           · exact key _ rfl)
end
end K2
namespace K2
open PySem L2 Rg RZ PyProof.Rows
local macro_rules | `(tactic| walk_at "ev") => `(tactic| first
  | with_reducible assumption
  | ((with_reducible apply ev_var); exact rfl)
  | with_reducible exact ev_cint
  | with_reducible exact ev_cbl
  | with_reducible exact ev_cnon
  | with_reducible exact ev_cstr
  | ((with_reducible apply ev_c); with_reducible assumption)
  | with_reducible exact ev_craw
  | ((with_reducible apply ev_tup1); walk_at "ea"; exact Nat.le_of_ble_eq_true rfl)
  | ((with_reducible apply ev_lst1); walk_at "ea"; exact Nat.le_of_ble_eq_true rfl)
  | ((with_reducible apply ev_op1); walk_at "ev"; walk_at "ev"; walk_at "od")
  | ((with_reducible apply ev_un1); walk_at "ev"; exact ud_neg)
  | ((with_reducible apply ev_isSeq); walk_at "ev"; walk_at "ea"; exact rfl; exact rfl)
  | ((with_reducible apply ev_cb1); walk_at "ea"; walk_at "cd")
  | ((with_reducible apply ev_chainB); walk_at "ev"; walk_at "ev"; walk_at "od"; walk_at "ev"; walk_at "od")
  | ((with_reducible apply ev_andF); walk_at "ev"; exact rfl)
  | ((with_reducible apply ev_andT); walk_at "ev"; exact rfl; walk_at "ev")
  | ((with_reducible apply ev_andB); walk_at "ev"; intro _; walk_at "ev")
  | ((with_reducible apply ev_orT); walk_at "ev"; exact rfl)
  | ((with_reducible apply ev_orF); walk_at "ev"; exact rfl; walk_at "ev")
  | ((with_reducible apply ev_orB); walk_at "ev"; intro _; walk_at "ev")
  | ((with_reducible apply ev_notV); walk_at "ev"))
local macro_rules | `(tactic| walk_at "et") => `(tactic| first
  | ((with_reducible apply et_B); walk_at "ev")
  | ((with_reducible apply et_test); walk_at "ev")
  | ((with_reducible apply et_not); walk_at "et")
  | ((with_reducible apply et_orT); walk_at "et"; exact rfl)
  | ((with_reducible apply et_orF); walk_at "et"; exact rfl; walk_at "et")
  | ((with_reducible apply et_or); walk_at "et"; intro _; walk_at "et")
  | ((with_reducible apply et_andF); walk_at "et"; exact rfl)
  | ((with_reducible apply et_andT); walk_at "et"; exact rfl; walk_at "et")
  | ((with_reducible apply et_and); walk_at "et"; intro _; walk_at "et"))
local macro_rules | `(tactic| walk_at "ea") => `(tactic| first
  | with_reducible exact ea_nil
  | ((with_reducible apply ea1); walk_at "ev"; walk_at "ea"))
local macro_rules | `(tactic| walk_at "od") => `(tactic| first
  | with_reducible exact od_addI
  | with_reducible exact od_subI
  | ((with_reducible apply od_addS); (try simp only [PySem.Str.length_append]); omega)
  | ((with_reducible apply od_catL); exact Nat.le_of_ble_eq_true rfl)
  | ((with_reducible apply od_modI); first | decide | omega)
  | ((with_reducible apply od_mulI); first | (exact Or.inr ⟨by decide, by decide⟩) | (exact Or.inl ⟨by decide, by decide⟩) | (exact Or.inl ⟨by omega, by omega⟩) | (exact Or.inr ⟨by omega, by omega⟩))
  | ((with_reducible apply od_divI); first | (exact ⟨by decide, by decide⟩) | (exact ⟨by omega, by omega⟩))
  | ((with_reducible apply od_powI); exact ⟨by decide, by decide, by decide⟩)
  | with_reducible exact od_leI
  | with_reducible exact od_ltI
  | with_reducible exact od_gtI
  | with_reducible exact od_geI
  | with_reducible exact od_eqI
  | with_reducible exact od_eqB
  | with_reducible exact od_neB
  | with_reducible exact od_neI
  | with_reducible exact od_eqS
  | with_reducible exact od_inS
  | ((with_reducible apply od_none); exact rfl)
  | ((with_reducible apply od_ix); exact rfl))
local macro_rules | `(tactic| walk_at "cd") => `(tactic| first
  | ((with_reducible apply cd_isStr); exact rfl)
  | ((with_reducible apply cd_isInt); exact rfl)
  | ((with_reducible apply cd_isBool); exact rfl)
  | ((with_reducible apply cd_isList); exact rfl)
  | ((with_reducible apply cd_isTuple); exact rfl)
  | ((with_reducible apply cd_isi); assumption)
  | ((with_reducible apply cd_len); assumption)
  | ((with_reducible apply cd_len); exact rfl)
  | with_reducible exact cd_intI
  | with_reducible exact cd_listof
  | ((with_reducible apply cd_str); assumption)
  | with_reducible exact cd_all)
local macro_rules | `(tactic| walk_at "px") => `(tactic| first
  | ((with_reducible apply px_var); exact rfl)
  | with_reducible exact px_c
  | ((with_reducible apply px_op); walk_at "px"; walk_at "px"; walk_at "pr")
  | ((with_reducible apply px_cb); walk_at "pa"; walk_at "pr")
  | ((with_reducible apply px_test); walk_at "px")
  | ((with_reducible apply px_B); walk_at "px")
  | ((with_reducible apply px_and); walk_at "px"; walk_at "px"))
local macro_rules | `(tactic| walk_at "pa") => `(tactic| first
  | with_reducible exact px_nil
  | ((with_reducible apply px_cons); walk_at "px"; walk_at "pa"))
local macro_rules | `(tactic| walk_at "pr") => `(tactic| first
  | exact px_addI
  | (apply px_ix; assumption; exact rfl)
  | (apply px_ix; assumption; assumption)
  | exact px_eqI
  | exact fun Q q => ⟨_, _, rfl, rfl, q⟩
  | exact fun Q q => ⟨_, _, rfl, rfl, (Or.inr ⟨by decide, by decide⟩), q⟩
  | exact fun Q q => ⟨_, _, rfl, rfl, (Or.inl ⟨by omega, by omega⟩), q⟩
  | exact fun Q q => ⟨_, _, rfl, rfl, (Or.inr ⟨by omega, by omega⟩), q⟩
  | exact fun Q q => ⟨_, _, rfl, rfl, ⟨by decide, by decide⟩, q⟩
  | exact fun Q q => ⟨_, _, rfl, rfl, ⟨by omega, by omega⟩, q⟩
  | exact fun Q q => ⟨_, _, rfl, rfl, ⟨by decide, by decide, by decide⟩, q⟩
  | exact fun Q q => ⟨_, _, rfl, rfl, (by decide), q⟩
  | exact fun Q q => ⟨_, _, rfl, rfl, (by omega), q⟩
  | (apply px_len; assumption)
  | exact px_intI
  | exact px_abs)
local macro_rules | `(tactic| walk_at "fg") => `(tactic| repeat first | exact Fg.nil | apply Fg.keep | apply Fg.drop)
section
variable {P : Program} {w : World} {K : PySem.W.Frag} {mg : Str → Option Value} {base : Heap}
theorem ok_draw (T : Tx K mg) : FnOk P w K mg base CX0 1 T.f__law_draw T.fd__law_draw ["_law_bag_here", "_law_many"] (spF K (preDraw K) postDraw) := by
  refine T.F__law_draw.ok sc_Ldraw (fun vs H Q E h => ?_) (fun cdv A outer s H vs Q E hr h => ?_)
  · obtain ⟨b, m, c, ns, i, r, mx, n, rfl, _⟩ := draw_of h
    rfl
  · obtain ⟨b, m, c, ns, i, r, mx, n, rfl, h0, h1, hb, hc, ne, hl, i0, r0, m0, m1, q⟩ := draw_of h
    refine ⟨_, (pss_cons (ps_asg (pe_op (q_add (K := K)) (pe_ix (q_ix (K := K)) (pv 0) pe_int (fun _ _ => rfl)) pe_int) (pg_sub (pv 0) pe_int set_list))
  (pss_cons (ps_if (PW.pt (pw_and (pt_cmpR op_eq (pe_ix (q_ix (K := K)) (pv 0) pe_int (fun _ _ => rfl)) pe_int (nomark _)) (pw_and1 (pt_cmpR op_lt (pe_ix (q_ix (K := K)) (pv 0) pe_int (fun _ _ => rfl)) (pe_callB (q_len (K := K)) (by rfl) T.b_len bt_len (pa_cons (pe_ix (q_ix (K := K)) (pv 0) pe_int (fun _ _ => rfl)) pa_nil)) (nomark _))))) (pss_cons (ps_set (i := 2) sc_Ldraw.nd rfl (Or.inl rfl) (pe_callB call_abs (by rfl) T.b_abs bt_abs (pa_cons (pe_ix (q_ix (K := K)) (pe_ix (q_ix (K := K)) (pv 0) pe_int (fun _ _ => rfl)) (pe_ix (q_ix (K := K)) (pv 0) pe_int (fun _ _ => rfl)) (fun _ _ => rfl)) pa_nil)))
    (pss_cons (ps_asg (pe_op (q_add (K := K)) (pe_ix (q_ix (K := K)) (pv 0) pe_int (fun _ _ => rfl)) pe_int) (pg_sub (pv 0) pe_int set_list))
    (pss_one (ps_if (pt_cmpR op_ge (pv 2) (pe_op op_pow pe_int pe_int) (nomark _)) (pss_one (ps_asg (pv 2) (pg_sub (pv 0) pe_int set_list))) (pss_one (ps_asg (pe_op op_modN (pe_callTy call_int1 (by rfl) T.b_int bt_int (pa_cons (pe_op (q_add (K := K)) (pe_op (q_add (K := K)) (pe_op op_mul (pe_ix (q_ix (K := K)) (pv 0) pe_int (fun _ _ => rfl)) pe_int) (pe_op op_mul (pe_op op_modN (pe_callTy call_int1 (by rfl) T.b_int bt_int (pa_cons (pv 2) pa_nil)) pe_int) pe_int)) pe_int) pa_nil)) pe_int) (pg_sub (pv 0) pe_int set_list))))))) pss_nil)
  (pss_cons (ps_if (pt_cmpR op_gt (pe_ix (q_ix (K := K)) (pv 0) pe_int (fun _ _ => rfl)) pe_int (nomark _)) (pss_cons (ps_set (i := 3) sc_Ldraw.nd rfl (Or.inl rfl) (pe_op op_modN (pe_callTy call_int1 (by rfl) T.b_int bt_int (pa_cons (pe_ix (q_ix (K := K)) (pv 0) pe_int (fun _ _ => rfl)) pa_nil)) (pv 1)))
    (pss_cons (ps_asg (pe_op op_fdivN (pe_ix (q_ix (K := K)) (pv 0) pe_int (fun _ _ => rfl)) (pv 1)) (pg_sub (pv 0) pe_int set_list))
    (pss_one (ps_ret (pv 3))))) pss_nil)
  (pss_cons (ps_set (i := 4) sc_Ldraw.nd rfl (Or.inl rfl) (pe_op op_modN (pe_callTy call_int1 (by rfl) T.b_int bt_int (pa_cons (pe_op (q_add (K := K)) (pe_op op_mul (pe_ix (q_ix (K := K)) (pv 0) pe_int (fun _ _ => rfl)) (pe_ix (q_ix (K := K)) (pv 0) pe_int (fun _ _ => rfl))) (pe_op op_mul (pe_ix (q_ix (K := K)) (pv 0) pe_int (fun _ _ => rfl)) pe_int)) pa_nil)) pe_int))
  (pss_cons (ps_asg (pe_op op_modN (pe_callTy call_int1 (by rfl) T.b_int bt_int (pa_cons (pe_op (q_add (K := K)) (pe_op (q_add (K := K)) (pe_op op_mul (pv 4) pe_int) (pe_op op_mul (pe_ix (q_ix (K := K)) (pv 0) pe_int (fun _ _ => rfl)) pe_int)) pe_int) pa_nil)) pe_int) (pg_sub (pv 0) pe_int set_list))
  (pss_one (ps_ret (pe_op op_modN (pe_callTy call_int1 (by rfl) T.b_int bt_int (pa_cons (pe_op (q_add (K := K)) (pe_op op_fdivN (pe_ix (q_ix (K := K)) (pv 0) pe_int (fun _ _ => rfl)) pe_int) (pe_op op_mul (pe_op op_modN (pe_callTy call_int1 (by rfl) T.b_int bt_int (pa_cons (pe_ix (q_ix (K := K)) (pv 0) pe_int (fun _ _ => rfl)) pa_nil)) pe_int) pe_int)) pa_nil)) (pv 1))))))))), ?_⟩
    rw [show L2.start n_Ldraw [V.ref b, V.int m] = [some (.ref b), some (.int m), none, none, none] from rfl]
    refine at_upd hb ?_
    have hb0 : upd H b (bagL c i r mx n) b = some (bagL c i r mx n) := upd_same
    refine st_bag (ys := [.ref c, .int i, .int r, .int mx, .int (n + 1)]) (v := .int (n + 1)) (k := 4) (j := 4) (by walk_at "px") (by walk_at "px") (by walk_at "px") rfl rfl ?_
    show tSeq ?fst ?rest ?Z _ _
    have tail : ∀ (x2 : Option V) (i r mx n : Int), 0 ≤ i → 0 ≤ r → 0 ≤ mx → mx < 2147483648 → ?rest ?Z [some (.ref b), some (.int m), x2, none, none] (upd H b (bagL c i r mx n)) := by
      intro x2 i r mx n i0 r0 m0 m1
      have hb1 : upd H b (bagL c i r mx n) b = some (bagL c i r mx n) := upd_same
      refine st_if (c := decide (0 < r)) (by walk_at "px") (fun e => ?_) (fun e => ?_)
      · have hr : 0 < r := of_decide_eq_true e
        refine st_set (v := .int (r.fmod m)) (by walk_at "px") ?_
        refine st_bag (ys := [.ref c, .int i, .int (r.fdiv m), .int mx, .int n]) (v := .int (r.fdiv m)) (k := 2) (j := 2) (by walk_at "px") (by walk_at "px") (by walk_at "px") rfl rfl ?_
        refine st_ret (v := .int (r.fmod m)) (by walk_at "px") ?_
        exact q _ i _ mx n (fmod_bd h0).1 (fmod_bd h0).2 i0 (fdiv_nn r0 h0) m0 m1
      · refine st_next ?_
        dsimp only
        refine st_setE (φ := fun _ => True) ⟨_, by walk_at "px", trivial⟩ fun sd _ => ?_
        refine st_bagE (k := 3) (j := 3) (φ := fun k => 0 ≤ k ∧ k < 2147483648) (f := fun k => [.ref c, .int i, .int r, .int k, .int n]) ⟨_, by walk_at "px", fmod_lt (by decide) (by decide)⟩ (by walk_at "px") (by walk_at "px") rfl (fun _ => rfl) fun mx2 hm => ?_
        have hm0 := hm.1
        have hm1 := hm.2
        have hb2 : upd H b (bagL c i r mx2 n) b = some (bagL c i r mx2 n) := upd_same
        refine st_retE (φ := fun k => 0 ≤ k ∧ k < m) ⟨_, by walk_at "px", fmod_lt h0 (Int.le_refl m)⟩ fun d hd => ?_
        exact q d i r mx2 n hd.1 hd.2 i0 r0 hm.1 hm.2
    have hb1 : upd H b (bagL c i r mx (n + 1)) b = some (bagL c i r mx (n + 1)) := upd_same
    have hc1 : upd H b (bagL c i r mx (n + 1)) c = some (HO.lst (List.map V.int ns)) := by rw [upd_ne ne]; exact hc
    refine st_if (c := decide (r = 0) && decide (i < (ns.length : Int))) ?_ (fun e => ?_) (fun e => ?_)
    · rw [show (ns.length : Int) = ((ns.map V.int).length : Nat) by rw [List.length_map]]
      walk_at "px"
    · have e2 : r = 0 ∧ i < (ns.length : Int) := by simpa using e
      have hi : (ns.map V.int)[i.toNat]? = some (.int (ns.getD i.toNat 0)) := by
        rw [List.getElem?_map, List.getElem?_eq_getElem (show i.toNat < ns.length by omega), List.getD_eq_getElem?_getD, List.getElem?_eq_getElem (show i.toNat < ns.length by omega)]
        rfl
      have ha : atI (ns.map V.int) i = some (.int (ns.getD i.toNat 0)) := by
        unfold atI ixN
        rw [List.length_map, if_pos i0, if_pos e2.2]
        exact hi
      generalize ns.getD i.toNat 0 = cell at ha
      refine st_setE (φ := fun k => 0 ≤ k) ⟨_, by walk_at "px", ?_⟩ fun ac hac => ?_
      · split <;> omega
      refine st_bag (ys := [.ref c, .int (i + 1), .int r, .int mx, .int (n + 1)]) (v := .int (i + 1)) (k := 1) (j := 1) (by walk_at "px") (by walk_at "px") (by walk_at "px") rfl rfl ?_
      have hb2 : upd H b (bagL c (i + 1) r mx (n + 1)) b = some (bagL c (i + 1) r mx (n + 1)) := upd_same
      refine st_if (c := decide ((10 : Int) ^ (18 : Int).toNat ≤ ac)) (by walk_at "px") (fun e => ?_) (fun e => ?_)
      · refine st_bagN (ys := [.ref c, .int (i + 1), .int ac, .int mx, .int (n + 1)]) (v := .int ac) (k := 2) (j := 2) (by walk_at "px") (by walk_at "px") (by walk_at "px") rfl rfl ?_
        exact tail _ (i + 1) ac mx (n + 1) (by omega) hac m0 m1
      · refine st_bagNE (k := 3) (j := 3) (φ := fun k => 0 ≤ k ∧ k < 2147483648) (f := fun k => [.ref c, .int (i + 1), .int r, .int k, .int (n + 1)]) ⟨_, by walk_at "px", fmod_lt (by decide) (by decide)⟩ (by walk_at "px") (by walk_at "px") rfl (fun _ => rfl) fun mx2 hm => ?_
        exact tail _ (i + 1) r mx2 (n + 1) (by omega) r0 hm.1 hm.2
    · exact tail none i r mx (n + 1) i0 r0 m0 m1
end
end K2
namespace K2
open PySem L2 Rg RZ PyProof.Rows
local macro_rules | `(tactic| walk_at "ev") => `(tactic| first
  | with_reducible assumption
  | ((with_reducible apply ev_var); exact rfl)
  | with_reducible exact ev_cint
  | with_reducible exact ev_cbl
  | with_reducible exact ev_cnon
  | with_reducible exact ev_cstr
  | ((with_reducible apply ev_c); with_reducible assumption)
  | with_reducible exact ev_craw
  | ((with_reducible apply ev_tup1); walk_at "ea"; exact Nat.le_of_ble_eq_true rfl)
  | ((with_reducible apply ev_lst1); walk_at "ea"; exact Nat.le_of_ble_eq_true rfl)
  | ((with_reducible apply ev_op1); walk_at "ev"; walk_at "ev"; walk_at "od")
  | ((with_reducible apply ev_un1); walk_at "ev"; exact ud_neg)
  | ((with_reducible apply ev_isSeq); walk_at "ev"; walk_at "ea"; exact rfl; exact rfl)
  | ((with_reducible apply ev_cb1); walk_at "ea"; walk_at "cd")
  | ((with_reducible apply ev_chainB); walk_at "ev"; walk_at "ev"; walk_at "od"; walk_at "ev"; walk_at "od")
  | ((with_reducible apply ev_andF); walk_at "ev"; exact rfl)
  | ((with_reducible apply ev_andT); walk_at "ev"; exact rfl; walk_at "ev")
  | ((with_reducible apply ev_andB); walk_at "ev"; intro _; walk_at "ev")
  | ((with_reducible apply ev_orT); walk_at "ev"; exact rfl)
  | ((with_reducible apply ev_orF); walk_at "ev"; exact rfl; walk_at "ev")
  | ((with_reducible apply ev_orB); walk_at "ev"; intro _; walk_at "ev")
  | ((with_reducible apply ev_notV); walk_at "ev"))
local macro_rules | `(tactic| walk_at "et") => `(tactic| first
  | ((with_reducible apply et_B); walk_at "ev")
  | ((with_reducible apply et_test); walk_at "ev")
  | ((with_reducible apply et_not); walk_at "et")
  | ((with_reducible apply et_orT); walk_at "et"; exact rfl)
  | ((with_reducible apply et_orF); walk_at "et"; exact rfl; walk_at "et")
  | ((with_reducible apply et_or); walk_at "et"; intro _; walk_at "et")
  | ((with_reducible apply et_andF); walk_at "et"; exact rfl)
  | ((with_reducible apply et_andT); walk_at "et"; exact rfl; walk_at "et")
  | ((with_reducible apply et_and); walk_at "et"; intro _; walk_at "et"))
local macro_rules | `(tactic| walk_at "ea") => `(tactic| first
  | with_reducible exact ea_nil
  | ((with_reducible apply ea1); walk_at "ev"; walk_at "ea"))
local macro_rules | `(tactic| walk_at "od") => `(tactic| first
  | with_reducible exact od_addI
  | with_reducible exact od_subI
  | ((with_reducible apply od_addS); (try simp only [PySem.Str.length_append]); omega)
  | ((with_reducible apply od_catL); exact Nat.le_of_ble_eq_true rfl)
  | ((with_reducible apply od_modI); first | decide | omega)
  | ((with_reducible apply od_mulI); first | (exact Or.inr ⟨by decide, by decide⟩) | (exact Or.inl ⟨by decide, by decide⟩) | (exact Or.inl ⟨by omega, by omega⟩) | (exact Or.inr ⟨by omega, by omega⟩))
  | ((with_reducible apply od_divI); first | (exact ⟨by decide, by decide⟩) | (exact ⟨by omega, by omega⟩))
  | ((with_reducible apply od_powI); exact ⟨by decide, by decide, by decide⟩)
  | with_reducible exact od_leI
  | with_reducible exact od_ltI
  | with_reducible exact od_gtI
  | with_reducible exact od_geI
  | with_reducible exact od_eqI
  | with_reducible exact od_eqB
  | with_reducible exact od_neB
  | with_reducible exact od_neI
  | with_reducible exact od_eqS
  | with_reducible exact od_inS
  | ((with_reducible apply od_none); exact rfl)
  | ((with_reducible apply od_ix); exact rfl))
local macro_rules | `(tactic| walk_at "cd") => `(tactic| first
  | ((with_reducible apply cd_isStr); exact rfl)
  | ((with_reducible apply cd_isInt); exact rfl)
  | ((with_reducible apply cd_isBool); exact rfl)
  | ((with_reducible apply cd_isList); exact rfl)
  | ((with_reducible apply cd_isTuple); exact rfl)
  | ((with_reducible apply cd_isi); assumption)
  | ((with_reducible apply cd_len); assumption)
  | ((with_reducible apply cd_len); exact rfl)
  | with_reducible exact cd_intI
  | with_reducible exact cd_listof
  | ((with_reducible apply cd_str); assumption)
  | with_reducible exact cd_all)
local macro_rules | `(tactic| walk_at "px") => `(tactic| first
  | ((with_reducible apply px_var); exact rfl)
  | with_reducible exact px_c
  | ((with_reducible apply px_op); walk_at "px"; walk_at "px"; walk_at "pr")
  | ((with_reducible apply px_cb); walk_at "pa"; walk_at "pr")
  | ((with_reducible apply px_test); walk_at "px")
  | ((with_reducible apply px_B); walk_at "px")
  | ((with_reducible apply px_and); walk_at "px"; walk_at "px"))
local macro_rules | `(tactic| walk_at "pa") => `(tactic| first
  | with_reducible exact px_nil
  | ((with_reducible apply px_cons); walk_at "px"; walk_at "pa"))
local macro_rules | `(tactic| walk_at "pr") => `(tactic| first
  | exact px_addI
  | (apply px_ix; assumption; exact rfl)
  | (apply px_ix; assumption; assumption)
  | exact px_eqI
  | exact fun Q q => ⟨_, _, rfl, rfl, q⟩
  | exact fun Q q => ⟨_, _, rfl, rfl, (Or.inr ⟨by decide, by decide⟩), q⟩
  | exact fun Q q => ⟨_, _, rfl, rfl, (Or.inl ⟨by omega, by omega⟩), q⟩
  | exact fun Q q => ⟨_, _, rfl, rfl, (Or.inr ⟨by omega, by omega⟩), q⟩
  | exact fun Q q => ⟨_, _, rfl, rfl, ⟨by decide, by decide⟩, q⟩
  | exact fun Q q => ⟨_, _, rfl, rfl, ⟨by omega, by omega⟩, q⟩
  | exact fun Q q => ⟨_, _, rfl, rfl, ⟨by decide, by decide, by decide⟩, q⟩
  | exact fun Q q => ⟨_, _, rfl, rfl, (by decide), q⟩
  | exact fun Q q => ⟨_, _, rfl, rfl, (by omega), q⟩
  | (apply px_len; assumption)
  | exact px_intI
  | exact px_abs)
local macro_rules | `(tactic| walk_at "fg") => `(tactic| repeat first | exact Fg.nil | apply Fg.keep | apply Fg.drop)
def isT0 : Hp → HO → Prop := fun _ o => o = .tbl #[]
abbrev tabL (l : List Addr) : Ml := l.map fun t => (t, isT0)
def spBag (K : PySem.W.Frag) : Sp := fun vs H Q _ => ∃ (a : Addr) (ns : List Int) (l : List Addr), vs = [.ref a] ∧ SqL K H a (ns.map V.int) ∧ ns.length ≤ 63 ∧ l.Nodup ∧ (∀ t ∈ l, H t = some (.tbl #[])) ∧ ∀ b G' H', Wd0 ((b, IsBag K) :: tabL l) G' H' → Q (.ref b) H'
theorem tab_mem {l : List Addr} {m : Addr × (Hp → HO → Prop)} (h : m ∈ tabL l) : ∃ t ∈ l, m = (t, isT0) := by
  obtain ⟨t, ht, e⟩ := List.mem_map.mp h
  exact ⟨t, ht, e.symm⟩
theorem tab_nd {l : List Addr} (h : l.Nodup) : ((tabL l).map (·.1)).Nodup := by
  rw [List.map_map]
  have e : ((fun x : Addr × (Hp → HO → Prop) => x.1) ∘ fun t => (t, isT0)) = id := rfl
  rw [e, List.map_id]
  exact h
/-- what stands for ever may change again, where nothing else is told -/
theorem thaw {G H : Hp} {p : Addr} {o : HO} {φ : Hp → HO → Prop} {l : List Addr} (w : Wd0 (tabL l) G H) (e : G p = some o) (f : φ (fun a => if a = p then none else G a) o) (mo : ∀ G1 G2 o, Same G1 G2 → φ G1 o → φ G2 o) : Wd0 ((p, φ) :: tabL l) (fun a => if a = p then none else G a) H := by
  refine ⟨fun a u h => ?_, fun m hm => ?_, fun m hm => ?_, ?_⟩
  · replace h : (if a = p then none else G a) = some u := h
    split at h
    · cases h
    · exact w.sub a u h
  · rcases List.mem_cons.mp hm with rfl | hm
    · exact ⟨if_pos rfl, o, w.sub _ _ e, f⟩
    · obtain ⟨g, u, hu, f⟩ := w.mt m hm
      obtain ⟨t, ht, rfl⟩ := tab_mem hm
      refine ⟨?_, u, hu, f⟩
      show (if t = p then none else G t) = none
      split
      · rfl
      · exact g
  · rcases List.mem_cons.mp hm with rfl | hm
    · exact mo
    · exact w.mono m hm
  · rw [List.map_cons, List.nodup_cons]
    refine ⟨fun h => ?_, w.nd⟩
    obtain ⟨m, hm, em⟩ := List.mem_map.mp h
    have g := (w.mt m hm).1
    have em : m.1 = p := em
    rw [em, e] at g
    cases g
theorem RpAll.ints_of {K : PySem.W.Frag} {G : Hp} {vs : List V} : ∀ {ds : List D} {ns : List Int}, RpAll K G vs ds → ds = ns.map D.int → vs = ns.map V.int := fun r e => by subst e; exact r.int_inv
theorem cutD_ints (ns : List Int) (h : ns.length ≤ 63) : Rg.cutD (ns.map D.int) none (some 63) = ns.map D.int := by
  unfold Rg.cutD
  rw [HT.sIx_none, List.drop_zero, List.length_map]
  apply List.take_of_length_le
  rw [List.length_map]
  have : HT.sIx ns.length ns.length (some 63) = min 63 ns.length := HT.sIx_nat ns.length ns.length 63
  omega
section
variable {P : Program} {w : World} {K : PySem.W.Frag} {mg : Str → Option Value} {base : Heap}
theorem ok_bag (T : Tx K mg) : FnOk P w K mg base CX0 1 T.f__law_bag T.fd__law_bag ["_law_script"] (spBag K) := by
  refine T.F__law_bag.ok sc_Lbag (fun vs H Q E h => ?_) (fun cdv A outer s H vs Q E hr h => ?_)
  · obtain ⟨a, ns, l, rfl, _⟩ := h
    rfl
  · obtain ⟨a, ns, l, rfl, hS, hl, hnd, htb, q⟩ := h
    refine ⟨_, (pss_cons (ps_set (i := 1) sc_Lbag.nd rfl (Or.inl rfl) pe_int)
  (pss_cons (ps_for PassesOwn.never rfl (q_itany (K := K) (pe_slice (q_sl (K := K)) (pv 0) po_none (po_some pe_int))) (pg_name (i := 2) sc_Lbag.nd rfl (Or.inl rfl))
    (pss_one (ps_set (i := 1) sc_Lbag.nd rfl (Or.inl rfl) (pe_op op_modN (pe_callTy call_int1 (by rfl) T.b_int bt_int (pa_cons (pe_op (q_add (K := K)) (pe_op (q_add (K := K)) (pe_op op_mul (pv 1) pe_int) (pe_op op_mul (pe_op op_modN (pe_callTy call_int1 (by rfl) T.b_int bt_int (pa_cons (pv 2) pa_nil)) pe_int) pe_int)) pe_int) pa_nil)) pe_int))))
  (pss_one (ps_ret (pe_lst (pa_cons (pe_callTy (q_listof (K := K)) (by rfl) T.b_list bt_list (pa_cons (pe_slice (q_sl (K := K)) (pv 0) po_none (po_some pe_int)) pa_nil)) (pa_cons pe_int (pa_cons pe_int (pa_cons (pv 1) (pa_cons pe_int pa_nil)))))))))), ?_⟩
    rw [show L2.start n_Lbag [V.ref a] = [some (.ref a), none, none] from rfl]
    let G0 : Hp := fun x => if x ∈ l then none else H x
    have out : ∀ {x u}, H x = some u → (∀ z, u ≠ .tbl z) → G0 x = some u := fun {x u} h n => by
      show (if x ∈ l then none else H x) = some u
      rw [if_neg fun hx => by rw [htb x hx] at h; exact n _ (Option.some.inj h).symm]
      exact h
    have hS0 : SqL K G0 a (ns.map V.int) := by
      rcases hS with (h | ⟨o, h⟩) | h
      · exact .inl (.inl (out h fun z e => by cases e))
      · exact .inl (.inr ⟨o, out h fun z e => by cases e⟩)
      · exact .inr h
    have sg : Sg K G0 [some (.ref a), none, none] [some (.seq (ns.map D.int)), none, none] := ⟨rfl, fun i d e => by
      match i, e with
      | 0, e => cases e; exact ⟨.ref a, rfl, .seq hS0 (RpAll.ints ns)⟩
      | 1, e => cases e
      | 2, e => cases e⟩
    let mm : Mt := { l := tabL l }
    have wd : Wd mm G0 H := ⟨⟨fun x u h => by
        replace h : (if x ∈ l then none else H x) = some u := h
        split at h
        · cases h
        · exact h, fun p hp => by
        obtain ⟨t, ht, rfl⟩ := tab_mem hp
        exact ⟨if_pos ht, _, htb t ht, rfl⟩, fun p hp => by
        obtain ⟨t, ht, rfl⟩ := tab_mem hp
        exact fun _ _ _ _ h => h, tab_nd hnd⟩, fun _ _ _ _ _ _ z => z.elim⟩
    refine run_at (K := K) (E := { nx := fun _ => False, rt := fun d => ∃ m : Int, 0 ≤ m ∧ m < 2147483648 ∧ d = .list [.list (ns.map D.int), .int 0, .int 0, .int m, .int 0] }) ?_ sg wd ⟨fun _ _ _ _ e => e.elim, fun v d G' H' ⟨m, m0, m1, e⟩ s' r' w' => ?_, fun _ _ _ _ e => e.elim, fun _ _ _ _ e => e.elim⟩
    · have hcut : ∀ ds : DS, ds[0]? = some (some (.seq (ns.map D.int))) → Ev K mm ds (tSl (rSlU K) (tVar 0) tNoPart (tPart (tC (V.int 63)))) (· = .list (ns.map D.int)) := fun ds h => by
        have e2 := ev_slQ (K := K) (M := mm) (ev_var h) eo_none (eo_some (i := 63) ev_cint)
        rw [cutD_ints ns hl] at e2
        exact e2
      refine run_asg1 ev_cint ?_
      refine run_seq (run_for (ei_any (hcut _ rfl) rfl) fun es he => ?_)
      subst he
      refine ⟨fun _ ds => ∃ (m : Int) (x : Option D), 0 ≤ m ∧ m < 2147483648 ∧ ds = [some (.seq (ns.map D.int)), some (.int m), x], ⟨_, none, by decide, by decide, rfl⟩, fun i d ds' hd ⟨m, x, m0, m1, e⟩ => ?_, fun ds' ⟨m, x, m0, m1, e⟩ => ?_⟩
      · subst e
        rw [List.getElem?_map] at hd
        cases hn : ns[i]? with
        | none => rw [hn] at hd; cases hd
        | some n =>
          rw [hn] at hd
          cases hd
          refine eg_name ?_
          refine run_asgN (ev_intP (φ := fun k => 0 ≤ k ∧ k < 2147483648) ⟨_, by walk_at "ev", fmod_lt (by decide) (by decide)⟩) fun d ⟨m', hm, e⟩ => ⟨m', some (.int n), hm.1, hm.2, by rw [e]; rfl⟩
      · subst e
        have hc := hcut [some (.seq (ns.map D.int)), some (.int m), x] rfl
        apply run_ret1
        · walk_at "ev"
        · exact ⟨m, m0, m1, rfl⟩
    · subst e
      obtain ⟨b, us, rfl, hb, ru⟩ := r'.list_ex
      cases ru with
      | cons p1 ru =>
        cases ru with
        | cons p2 ru =>
          cases ru with
          | cons p3 ru =>
            cases ru with
            | cons p4 ru =>
              cases ru with
              | cons p5 ru =>
                cases ru
                cases p2; cases p3; cases p4; cases p5
                obtain ⟨c, ws, rfl, hc, rc⟩ := p1.list_ex
                have ew := rc.int_inv
                subst ew
                refine q b _ H' (thaw w'.toWd0 hb ⟨c, ns, 0, 0, m, 0, rfl, ?_, hl, Int.le_refl 0, Int.le_refl 0, m0, m1⟩ IsBag.mono)
                have ne : c ≠ b := fun e => by
                  rw [e, hb] at hc
                  cases ns <;> cases hc
                exact (if_neg ne).trans hc
theorem B_draw (T : Tx K mg) : Binds K T.fd__law_draw ["_law_bag_here", "_law_many"] [] := T.F__law_draw.binds fun _ _ _ _ _ _ us hl => match us, hl with | [_, _], _ => rfl
theorem ok_of (T : Tx K mg) : FnOk P w K mg base CX0 2 T.f__law_of T.fd__law_of ["_law_bag_here", "_law_some"] (spF K (preOf K) postOf) := by
  have G_Ldraw := ok_draw (P := P) (w := w) (base := base) T
  have B_Ldraw := B_draw T
  refine fn_run T.F__law_of sc_Lof (fun M as ⟨_, _, _, e, _⟩ => by rw [e]; rfl) (fun cdv A outer s H E hr => ⟨_, (pss_one (ps_ret (pe_ix (q_ix (K := K)) (pv 1) (pe_call G_Ldraw (hr.mono (by decide)) (by rfl) T.m__law_draw T.F__law_draw.kp B_Ldraw .nil pass0 (pa_cons (pv 0) (pa_cons (pe_callB (q_len (K := K)) (by rfl) T.b_len bt_len (pa_cons (pv 1) pa_nil)) pa_nil))) (fun _ _ => rfl)))), fun M as ⟨b, d, es, e, hm, h, hl, hq, h0, h1⟩ => ?_⟩)
  subst e
  exact run_of_body hm h hl hq h0 h1 fun e he b' d' es' e1 e2 => by
    cases e1
    rw [h] at e2
    cases e2
    exact he
end
end K2
namespace Rg
open PySem PySem.Spec L2 RZ PyProof.Rows
theorem room_u1 {k : Nat} {A : Around} (hr : Room k A) : A.units + 1 < cLine := by have := hr.un; omega
theorem room_u70 {k : Nat} {A : Around} (hr : Room k A) : A.units + 70 < cLine := by have := hr.un; omega
theorem bt_sorted : bootBuiltins "sorted" = some (.builtin "sorted") := by decide +kernel
theorem bt_repr : bootBuiltins "repr" = some (.builtin "repr") := by decide +kernel
theorem lam_free {X : Cx} {scope : Scope} (h : X.Ok) (hd : (scope.names.all fun y => !decide (y.2 = .free) || decide (X.env.scope.names.lookup y.1 = some .cell)) = true) {y : Str × NameKind} (hy : y ∈ scope.names) (e : y.2 = .free) : ∃ c, X.env.cells.lookup y.1 = some c := by
  have z := List.all_eq_true.mp hd y hy
  rw [e] at z
  simp at z
  exact h.has _ (.inl z)
end Rg
namespace K2
open PySem L2 Rg RZ PyProof.Rows
local macro_rules | `(tactic| walk_at "ev") => `(tactic| first
  | with_reducible assumption
  | ((with_reducible apply ev_var); exact rfl)
  | with_reducible exact ev_cint
  | with_reducible exact ev_cbl
  | with_reducible exact ev_cnon
  | with_reducible exact ev_cstr
  | ((with_reducible apply ev_c); with_reducible assumption)
  | with_reducible exact ev_craw
  | ((with_reducible apply ev_tup1); walk_at "ea"; exact Nat.le_of_ble_eq_true rfl)
  | ((with_reducible apply ev_lst1); walk_at "ea"; exact Nat.le_of_ble_eq_true rfl)
  | ((with_reducible apply ev_op1); walk_at "ev"; walk_at "ev"; walk_at "od")
  | ((with_reducible apply ev_un1); walk_at "ev"; exact ud_neg)
  | ((with_reducible apply ev_isSeq); walk_at "ev"; walk_at "ea"; exact rfl; exact rfl)
  | ((with_reducible apply ev_cb1); walk_at "ea"; walk_at "cd")
  | ((with_reducible apply ev_chainB); walk_at "ev"; walk_at "ev"; walk_at "od"; walk_at "ev"; walk_at "od")
  | ((with_reducible apply ev_andF); walk_at "ev"; exact rfl)
  | ((with_reducible apply ev_andT); walk_at "ev"; exact rfl; walk_at "ev")
  | ((with_reducible apply ev_andB); walk_at "ev"; intro _; walk_at "ev")
  | ((with_reducible apply ev_orT); walk_at "ev"; exact rfl)
  | ((with_reducible apply ev_orF); walk_at "ev"; exact rfl; walk_at "ev")
  | ((with_reducible apply ev_orB); walk_at "ev"; intro _; walk_at "ev")
  | ((with_reducible apply ev_notV); walk_at "ev"))
local macro_rules | `(tactic| walk_at "et") => `(tactic| first
  | ((with_reducible apply et_B); walk_at "ev")
  | ((with_reducible apply et_test); walk_at "ev")
  | ((with_reducible apply et_not); walk_at "et")
  | ((with_reducible apply et_orT); walk_at "et"; exact rfl)
  | ((with_reducible apply et_orF); walk_at "et"; exact rfl; walk_at "et")
  | ((with_reducible apply et_or); walk_at "et"; intro _; walk_at "et")
  | ((with_reducible apply et_andF); walk_at "et"; exact rfl)
  | ((with_reducible apply et_andT); walk_at "et"; exact rfl; walk_at "et")
  | ((with_reducible apply et_and); walk_at "et"; intro _; walk_at "et"))
local macro_rules | `(tactic| walk_at "ea") => `(tactic| first
  | with_reducible exact ea_nil
  | ((with_reducible apply ea1); walk_at "ev"; walk_at "ea"))
local macro_rules | `(tactic| walk_at "od") => `(tactic| first
  | with_reducible exact od_addI
  | with_reducible exact od_subI
  | ((with_reducible apply od_addS); (try simp only [PySem.Str.length_append]); omega)
  | ((with_reducible apply od_catL); exact Nat.le_of_ble_eq_true rfl)
  | ((with_reducible apply od_modI); first | decide | omega)
  | ((with_reducible apply od_mulI); first | (exact Or.inr ⟨by decide, by decide⟩) | (exact Or.inl ⟨by decide, by decide⟩) | (exact Or.inl ⟨by omega, by omega⟩) | (exact Or.inr ⟨by omega, by omega⟩))
  | ((with_reducible apply od_divI); first | (exact ⟨by decide, by decide⟩) | (exact ⟨by omega, by omega⟩))
  | ((with_reducible apply od_powI); exact ⟨by decide, by decide, by decide⟩)
  | with_reducible exact od_leI
  | with_reducible exact od_ltI
  | with_reducible exact od_gtI
  | with_reducible exact od_geI
  | with_reducible exact od_eqI
  | with_reducible exact od_eqB
  | with_reducible exact od_neB
  | with_reducible exact od_neI
  | with_reducible exact od_eqS
  | with_reducible exact od_inS
  | ((with_reducible apply od_none); exact rfl)
  | ((with_reducible apply od_ix); exact rfl))
local macro_rules | `(tactic| walk_at "cd") => `(tactic| first
  | ((with_reducible apply cd_isStr); exact rfl)
  | ((with_reducible apply cd_isInt); exact rfl)
  | ((with_reducible apply cd_isBool); exact rfl)
  | ((with_reducible apply cd_isList); exact rfl)
  | ((with_reducible apply cd_isTuple); exact rfl)
  | ((with_reducible apply cd_isi); assumption)
  | ((with_reducible apply cd_len); assumption)
  | ((with_reducible apply cd_len); exact rfl)
  | with_reducible exact cd_intI
  | with_reducible exact cd_listof
  | ((with_reducible apply cd_str); assumption)
  | with_reducible exact cd_all)
local macro_rules | `(tactic| walk_at "px") => `(tactic| first
  | ((with_reducible apply px_var); exact rfl)
  | with_reducible exact px_c
  | ((with_reducible apply px_op); walk_at "px"; walk_at "px"; walk_at "pr")
  | ((with_reducible apply px_cb); walk_at "pa"; walk_at "pr")
  | ((with_reducible apply px_test); walk_at "px")
  | ((with_reducible apply px_B); walk_at "px")
  | ((with_reducible apply px_and); walk_at "px"; walk_at "px"))
local macro_rules | `(tactic| walk_at "pa") => `(tactic| first
  | with_reducible exact px_nil
  | ((with_reducible apply px_cons); walk_at "px"; walk_at "pa"))
local macro_rules | `(tactic| walk_at "pr") => `(tactic| first
  | exact px_addI
  | (apply px_ix; assumption; exact rfl)
  | (apply px_ix; assumption; assumption)
  | exact px_eqI
  | exact fun Q q => ⟨_, _, rfl, rfl, q⟩
  | exact fun Q q => ⟨_, _, rfl, rfl, (Or.inr ⟨by decide, by decide⟩), q⟩
  | exact fun Q q => ⟨_, _, rfl, rfl, (Or.inl ⟨by omega, by omega⟩), q⟩
  | exact fun Q q => ⟨_, _, rfl, rfl, (Or.inr ⟨by omega, by omega⟩), q⟩
  | exact fun Q q => ⟨_, _, rfl, rfl, ⟨by decide, by decide⟩, q⟩
  | exact fun Q q => ⟨_, _, rfl, rfl, ⟨by omega, by omega⟩, q⟩
  | exact fun Q q => ⟨_, _, rfl, rfl, ⟨by decide, by decide, by decide⟩, q⟩
  | exact fun Q q => ⟨_, _, rfl, rfl, (by decide), q⟩
  | exact fun Q q => ⟨_, _, rfl, rfl, (by omega), q⟩
  | (apply px_len; assumption)
  | exact px_intI
  | exact px_abs)
local macro_rules | `(tactic| walk_at "fg") => `(tactic| repeat first | exact Fg.nil | apply Fg.keep | apply Fg.drop)
/-! ### the kinds of sections -/
inductive Kd where
  | sec | pla | poi | cro
  deriving DecidableEq
def Kd.nm : Kd → Str
  | .sec => "none"
  | .pla => "plain"
  | .poi => "point"
  | .cro => "crossing"
def Kd.roads : Kd → List (Str × Str × Str)
  | .sec => []
  | .pla => [("a", "b", "")]
  | .poi => [("left", "stem", "left"), ("right", "stem", "right")]
  | .cro => [("a", "b", ""), ("c", "d", "")]
def Kd.sides : Kd → List Str
  | .sec => []
  | .pla => ["a", "b"]
  | .poi => ["left", "right", "stem"]
  | .cro => ["a", "b", "c", "d"]
abbrev roadD (r : Str × Str × Str) : D := .tup [.str r.1, .str r.2.1, .str r.2.2]
section
variable {P : Program} {w : World} {K : PySem.W.Frag} {mg : Str → Option Value} {base : Heap}
def cA (T : Tx K mg) : Kd → Addr
  | .sec => T.c_Section
  | .pla => T.c_Plain
  | .poi => T.c_Point
  | .cro => T.c_Crossing
abbrev fN : List Str := ["name", "length"]
abbrev objK (T : Tx K mg) (κ : Kd) (x : Str) (n : Int) : D := .obj (cA T κ) fN [.str x, .int n]
theorem ocK (T : Tx K mg) : ∀ κ, OCls K (cA T κ)
  | .sec => T.oc_Section
  | .pla => T.oc_Plain
  | .poi => T.oc_Point
  | .cro => T.oc_Crossing
theorem noN (T : Tx K mg) : ∀ κ, NoAttr K (cA T κ) "name"
  | .sec => T.no_Section_name
  | .pla => T.no_Plain_name
  | .poi => T.no_Point_name
  | .cro => T.no_Crossing_name
theorem noL (T : Tx K mg) : ∀ κ, NoAttr K (cA T κ) "length"
  | .sec => T.no_Section_length
  | .pla => T.no_Plain_length
  | .poi => T.no_Point_length
  | .cro => T.no_Crossing_length
theorem conK (T : Tx K mg) : ∀ κ : Kd, ConD K (cA T κ) "KIND" (.str κ.nm)
  | .sec => T.co_Section_KIND
  | .pla => T.co_Plain_KIND
  | .poi => T.co_Point_KIND
  | .cro => T.co_Crossing_KIND
theorem conM (T : Tx K mg) : ∀ κ : Kd, ConD K (cA T κ) "MOST" (.int 50)
  | .sec => T.co_Section_MOST
  | .pla => T.co_Plain_MOST
  | .poi => T.co_Point_MOST
  | .cro => T.co_Crossing_MOST
theorem conR (T : Tx K mg) : ∀ κ : Kd, ConD K (cA T κ) "ROADS" (.tup (κ.roads.map roadD))
  | .sec => T.co_Section_ROADS
  | .pla => T.co_Plain_ROADS
  | .poi => T.co_Point_ROADS
  | .cro => T.co_Crossing_ROADS
theorem meSides (T : Tx K mg) : ∀ κ, Meth K (cA T κ) "sides" T.f_Sectionsides
  | .sec => T.me_Section_sides
  | .pla => T.me_Plain_sides
  | .poi => T.me_Point_sides
  | .cro => T.me_Crossing_sides
theorem meEnds (T : Tx K mg) : ∀ κ, Meth K (cA T κ) "ends" T.f_Sectionends
  | .sec => T.me_Section_ends
  | .pla => T.me_Plain_ends
  | .poi => T.me_Point_ends
  | .cro => T.me_Crossing_ends
theorem meWays (T : Tx K mg) : ∀ κ, Meth K (cA T κ) "ways" T.f_Sectionways
  | .sec => T.me_Section_ways
  | .pla => T.me_Plain_ways
  | .poi => T.me_Point_ways
  | .cro => T.me_Crossing_ways
theorem meText (T : Tx K mg) : ∀ κ, Meth K (cA T κ) "text" T.f_Sectiontext
  | .sec => T.me_Section_text
  | .pla => T.me_Plain_text
  | .poi => T.me_Point_text
  | .cro => T.me_Crossing_text
theorem spEq (T : Tx K mg) : ∀ κ, PySem.W.findIn K (.ref (cA T κ)) "__eq__" = some (some (.ref T.f_Sectioneq))
  | .sec => T.sp_Section___eq__.1
  | .pla => T.sp_Plain___eq__.1
  | .poi => T.sp_Point___eq__.1
  | .cro => T.sp_Crossing___eq__.1
theorem spRepr (T : Tx K mg) : ∀ κ, PySem.W.findIn K (.ref (cA T κ)) "__repr__" = some (some (.ref T.f_Sectionrepr))
  | .sec => T.sp_Section___repr__.1
  | .pla => T.sp_Plain___repr__.1
  | .poi => T.sp_Point___repr__.1
  | .cro => T.sp_Crossing___repr__.1
theorem fiNe (T : Tx K mg) : ∀ κ, PySem.W.findIn K (.ref (cA T κ)) "__ne__" = some (some (.builtin "object.__ne__"))
  | .sec => T.fi_Section___ne__
  | .pla => T.fi_Plain___ne__
  | .poi => T.fi_Point___ne__
  | .cro => T.fi_Crossing___ne__
theorem kiK (T : Tx K mg) : ∀ κ, PySem.W.kitOne K (.ref (cA T κ)) (.ref T.c_Section) = some true
  | .sec => T.ki_Section_Section
  | .pla => T.ki_Plain_Section
  | .poi => T.ki_Point_Section
  | .cro => T.ki_Crossing_Section
theorem mkK (T : Tx K mg) : ∀ κ, Mk K (cA T κ) T.f_Sectioninit
  | .sec => T.mk_Section
  | .pla => T.mk_Plain
  | .poi => T.mk_Point
  | .cro => T.mk_Crossing
/-! ### __init__ -/
def preInit (T : Tx K mg) (_ : Ml) (o : Own) (as : List D) : Prop := ∃ p κ d1 d2, o = [(p, .ins (cA T κ) [])] ∧ as = [.raw (.ref p), d1, d2] ∧ okD d1 = true ∧ okD d2 = true
def postInit (o : Own) (as : List D) (o' : Own) (r : D) : Prop := ∀ p C d1 d2, o = [(p, .ins C [])] → as = [.raw (.ref p), d1, d2] → isNameD d1 = true ∧ isNumD d2 1 50 = true ∧ r = .non ∧ o' = [(p, .ins C [("name", d1), ("length", d2)])]
def pxInit (T : Tx K mg) (_ : Own) (as : List D) (_ : Own) (x : D) : Prop := ∀ p d1 d2, as = [.raw (.ref p), d1, d2] →
  (isNameD d1 = false ∧ x = excD T.c_InvalidName ["value"] "InvalidName" [d1]) ∨ (isNameD d1 = true ∧ isNumD d2 1 50 = false ∧ x = excD T.c_InvalidNumber ["value"] "InvalidNumber" [d2])
theorem ok_init (T : Tx K mg) : FnOk P w K mg base (L2.CX P w) 3 T.f_Sectioninit T.fd_Sectioninit ["self", "name", "length"] (spW K (preInit T) postInit (pxInit T)) := by
  have G_isname := ok_isname (P := P) (w := w) (base := base) T
  have G_isnumber := ok_isnumber (P := P) (w := w) (base := base) T
  have B_isname := Bd_isname T
  have B_isnumber := Bd_isnumber T
  refine fn_runWX T.F_Sectioninit sc_Sectioninit (fun M o as ⟨_, _, _, _, _, e, _⟩ => by rw [e]; rfl) (fun X cdv A outer s H E eX hr tk => ?_)
  subst eX
  refine ⟨_, (pss_cons (ps_if (pt_not (pt_val (pe_call G_isname (hr.mono (by decide)) (by rfl) T.m_is_name T.F_is_name.kp B_isname .nil pass0 (pa_cons (pv 1) pa_nil)))) (pss_one (ps_rz rfl tk (pmk_x T.x_InvalidName.toXc T.i_InvalidName T.t_InvalidName (G_init_InvalidName T) (hr.mono (by decide)) (B_init_InvalidName T) .nil pass0 (by rfl) T.m_InvalidName (pa_cons (pv 1) pa_nil)))) pss_nil)
  (pss_cons (ps_if (pt_not (pt_val (pe_call G_isnumber (hr.mono (by decide)) (by rfl) T.m_is_number T.F_is_number.kp B_isnumber .nil pass0 (pa_cons (pv 2) (pa_cons pe_int (pa_cons (q_cval (K := K) (pe_cls rfl T.m_Section)) pa_nil)))))) (pss_one (ps_rz rfl tk (pmk_x T.x_InvalidNumber.toXc T.i_InvalidNumber T.t_InvalidNumber (G_init_InvalidNumber T) (hr.mono (by decide)) (B_init_InvalidNumber T) .nil pass0 (by rfl) T.m_InvalidNumber (pa_cons (pv 2) pa_nil)))) pss_nil)
  (pss_cons (ps_fld (pv 0) (pv 1) rfl)
  (pss_one (ps_fld (pv 0) (pv 2) rfl))))), fun M o as ⟨p, κ, d1, d2, eo, e, h1, h2⟩ => ?_⟩
  subst e; subst eo
  show RunW K _ [(p, .ins (cA T κ) [])] [some (.raw (.ref p)), some d1, some d2] _ _
  refine runw_seq (runw_if1 (et_not (et_test (ev_name (ev_var rfl) h1))) (fun e => ?_) fun e => runw_next ?_)
  · refine runw_raise (o2 := []) rfl (ea1 (ev_var rfl) ea_nil) rfl (List.nil_sublist _) (exkw_fn fun p' a b e' => ?_)
    cases e'
    exact .inl ⟨by simpa using e, rfl⟩
  have e1 : isNameD d1 = true := by simpa using e
  refine runw_seq (runw_if1 (et_not (et_test (ev_num (ev_var rfl) ev_cint (ev_cvalD (d := .int 50) ev_craw T.cv_Section_MOST) h2))) (fun e => ?_) fun e => runw_next ?_)
  · refine runw_raise (o2 := []) rfl (ea1 (ev_var rfl) ea_nil) rfl (List.nil_sublist _) (exkw_fn fun p' a b e' => ?_)
    cases e'
    exact .inr ⟨e1, by simpa using e, rfl⟩
  have e2 : isNumD d2 1 50 = true := by simpa using e
  refine runw_seq (runw_fld (ev_var rfl) (ev_var rfl) (ocK T κ).toCls (noN T κ) (by decide) ?_)
  refine runw_fld (ev_var rfl) (ev_var rfl) (ocK T κ).toCls (noL T κ) (by simp [putD]) ?_
  intro p' C a b eo' e'
  cases e'
  cases eo'
  exact ⟨e1, e2, rfl, rfl⟩
end
end K2
namespace K2
open PySem L2 Rg RZ PyProof.Rows
local macro_rules | `(tactic| walk_at "ev") => `(tactic| first
  | with_reducible assumption
  | ((with_reducible apply ev_var); exact rfl)
  | with_reducible exact ev_cint
  | with_reducible exact ev_cbl
  | with_reducible exact ev_cnon
  | with_reducible exact ev_cstr
  | ((with_reducible apply ev_c); with_reducible assumption)
  | with_reducible exact ev_craw
  | ((with_reducible apply ev_tup1); walk_at "ea"; exact Nat.le_of_ble_eq_true rfl)
  | ((with_reducible apply ev_lst1); walk_at "ea"; exact Nat.le_of_ble_eq_true rfl)
  | ((with_reducible apply ev_op1); walk_at "ev"; walk_at "ev"; walk_at "od")
  | ((with_reducible apply ev_un1); walk_at "ev"; exact ud_neg)
  | ((with_reducible apply ev_isSeq); walk_at "ev"; walk_at "ea"; exact rfl; exact rfl)
  | ((with_reducible apply ev_cb1); walk_at "ea"; walk_at "cd")
  | ((with_reducible apply ev_chainB); walk_at "ev"; walk_at "ev"; walk_at "od"; walk_at "ev"; walk_at "od")
  | ((with_reducible apply ev_andF); walk_at "ev"; exact rfl)
  | ((with_reducible apply ev_andT); walk_at "ev"; exact rfl; walk_at "ev")
  | ((with_reducible apply ev_andB); walk_at "ev"; intro _; walk_at "ev")
  | ((with_reducible apply ev_orT); walk_at "ev"; exact rfl)
  | ((with_reducible apply ev_orF); walk_at "ev"; exact rfl; walk_at "ev")
  | ((with_reducible apply ev_orB); walk_at "ev"; intro _; walk_at "ev")
  | ((with_reducible apply ev_notV); walk_at "ev"))
local macro_rules | `(tactic| walk_at "et") => `(tactic| first
  | ((with_reducible apply et_B); walk_at "ev")
  | ((with_reducible apply et_test); walk_at "ev")
  | ((with_reducible apply et_not); walk_at "et")
  | ((with_reducible apply et_orT); walk_at "et"; exact rfl)
  | ((with_reducible apply et_orF); walk_at "et"; exact rfl; walk_at "et")
  | ((with_reducible apply et_or); walk_at "et"; intro _; walk_at "et")
  | ((with_reducible apply et_andF); walk_at "et"; exact rfl)
  | ((with_reducible apply et_andT); walk_at "et"; exact rfl; walk_at "et")
  | ((with_reducible apply et_and); walk_at "et"; intro _; walk_at "et"))
local macro_rules | `(tactic| walk_at "ea") => `(tactic| first
  | with_reducible exact ea_nil
  | ((with_reducible apply ea1); walk_at "ev"; walk_at "ea"))
local macro_rules | `(tactic| walk_at "od") => `(tactic| first
  | with_reducible exact od_addI
  | with_reducible exact od_subI
  | ((with_reducible apply od_addS); (try simp only [PySem.Str.length_append]); omega)
  | ((with_reducible apply od_catL); exact Nat.le_of_ble_eq_true rfl)
  | ((with_reducible apply od_modI); first | decide | omega)
  | ((with_reducible apply od_mulI); first | (exact Or.inr ⟨by decide, by decide⟩) | (exact Or.inl ⟨by decide, by decide⟩) | (exact Or.inl ⟨by omega, by omega⟩) | (exact Or.inr ⟨by omega, by omega⟩))
  | ((with_reducible apply od_divI); first | (exact ⟨by decide, by decide⟩) | (exact ⟨by omega, by omega⟩))
  | ((with_reducible apply od_powI); exact ⟨by decide, by decide, by decide⟩)
  | with_reducible exact od_leI
  | with_reducible exact od_ltI
  | with_reducible exact od_gtI
  | with_reducible exact od_geI
  | with_reducible exact od_eqI
  | with_reducible exact od_eqB
  | with_reducible exact od_neB
  | with_reducible exact od_neI
  | with_reducible exact od_eqS
  | with_reducible exact od_inS
  | ((with_reducible apply od_none); exact rfl)
  | ((with_reducible apply od_ix); exact rfl))
local macro_rules | `(tactic| walk_at "cd") => `(tactic| first
  | ((with_reducible apply cd_isStr); exact rfl)
  | ((with_reducible apply cd_isInt); exact rfl)
  | ((with_reducible apply cd_isBool); exact rfl)
  | ((with_reducible apply cd_isList); exact rfl)
  | ((with_reducible apply cd_isTuple); exact rfl)
  | ((with_reducible apply cd_isi); assumption)
  | ((with_reducible apply cd_len); assumption)
  | ((with_reducible apply cd_len); exact rfl)
  | with_reducible exact cd_intI
  | with_reducible exact cd_listof
  | ((with_reducible apply cd_str); assumption)
  | with_reducible exact cd_all)
local macro_rules | `(tactic| walk_at "px") => `(tactic| first
  | ((with_reducible apply px_var); exact rfl)
  | with_reducible exact px_c
  | ((with_reducible apply px_op); walk_at "px"; walk_at "px"; walk_at "pr")
  | ((with_reducible apply px_cb); walk_at "pa"; walk_at "pr")
  | ((with_reducible apply px_test); walk_at "px")
  | ((with_reducible apply px_B); walk_at "px")
  | ((with_reducible apply px_and); walk_at "px"; walk_at "px"))
local macro_rules | `(tactic| walk_at "pa") => `(tactic| first
  | with_reducible exact px_nil
  | ((with_reducible apply px_cons); walk_at "px"; walk_at "pa"))
local macro_rules | `(tactic| walk_at "pr") => `(tactic| first
  | exact px_addI
  | (apply px_ix; assumption; exact rfl)
  | (apply px_ix; assumption; assumption)
  | exact px_eqI
  | exact fun Q q => ⟨_, _, rfl, rfl, q⟩
  | exact fun Q q => ⟨_, _, rfl, rfl, (Or.inr ⟨by decide, by decide⟩), q⟩
  | exact fun Q q => ⟨_, _, rfl, rfl, (Or.inl ⟨by omega, by omega⟩), q⟩
  | exact fun Q q => ⟨_, _, rfl, rfl, (Or.inr ⟨by omega, by omega⟩), q⟩
  | exact fun Q q => ⟨_, _, rfl, rfl, ⟨by decide, by decide⟩, q⟩
  | exact fun Q q => ⟨_, _, rfl, rfl, ⟨by omega, by omega⟩, q⟩
  | exact fun Q q => ⟨_, _, rfl, rfl, ⟨by decide, by decide, by decide⟩, q⟩
  | exact fun Q q => ⟨_, _, rfl, rfl, (by decide), q⟩
  | exact fun Q q => ⟨_, _, rfl, rfl, (by omega), q⟩
  | (apply px_len; assumption)
  | exact px_intI
  | exact px_abs)
local macro_rules | `(tactic| walk_at "fg") => `(tactic| repeat first | exact Fg.nil | apply Fg.keep | apply Fg.drop)
section
variable {P : Program} {w : World} {K : PySem.W.Frag} {mg : Str → Option Value} {base : Heap}
theorem cA_inj (T : Tx K mg) {κ κ' : Kd} (h : cA T κ = cA T κ') : κ = κ' := by
  obtain ⟨v, u, c, r⟩ := (conK T κ).ex
  obtain ⟨v', u', c', r'⟩ := (conK T κ').ex
  have e := c.at_
  have e' := c'.at_
  rw [h, e'] at e
  injection e with e; injection e with e
  have ev := (r (fun _ => none)).str_inv
  have ev' := (r' (fun _ => none)).str_inv
  have q := c.rel
  have q' := c'.rel
  subst e ev ev'
  obtain ⟨t, q⟩ := q
  obtain ⟨t', q'⟩ := q'
  have hn : κ.nm = κ'.nm := by
    rw [q'] at q
    injection q with q _
    exact q.symm
  revert hn
  cases κ <;> cases κ' <;> decide
theorem objK_inj (T : Tx K mg) {κ κ' : Kd} {x x' : Str} {n n' : Int} (h : objK T κ x n = objK T κ' x' n') : κ = κ' ∧ x = x' ∧ n = n' := by
  injection h with h1 h2 h3
  injection h3 with h3 h4
  injection h4 with h4 _
  injection h3 with h3
  injection h4 with h4
  exact ⟨cA_inj T h1, h3, h4⟩
/-! ### sides -/
def preSides (T : Tx K mg) (_ : Ml) (o : Own) (as : List D) : Prop := o = [] ∧ ∃ κ x n, as = [objK T κ x n]
def postSides (T : Tx K mg) (_ : Own) (as : List D) (o' : Own) (r : D) : Prop := ∀ κ x n, as = [objK T κ x n] → ∃ p, o' = [(p, .lst (κ.sides.map D.str))] ∧ r = .raw (.ref p)
theorem sides_m (κ : Kd) : ∀ k, k ∈ κ.sides ↔ k ∈ (κ.roads.map roadD).flatMap fun d => match d with | .tup [.str a, .str b, _] => [a, b] | _ => [] := by
  intro k
  cases κ <;> simp [Kd.sides, Kd.roads]
  constructor <;> (intro h; rcases h with h | h | h <;> simp [h])
theorem ok_sides (T : Tx K mg) : FnOk P w K mg base CX0 2 T.f_Sectionsides T.fd_Sectionsides ["self"] (spW K (preSides T) (postSides T) noX) := by
  refine fn_runW T.F_Sectionsides sc_Sectionsides (fun M o as ⟨_, _, _, _, e⟩ => by rw [e]; rfl) (fun cdv A outer s H E hr => ⟨_, (pss_one (ps_ret (pe_callB (cr_sortSx rfl) (by rfl) T.b_sorted bt_sorted (pa_cons (pe_sx2 (own := [("one", 1), ("other", 2), ("_", 3), ("side", 4)]) (vs1 := [4]) (g := (gTup K 3 (gCons (gName 1) (gCons (gName 2) (gCons (gName 3) gNil))))) (tt := tYes) (g1 := (gName 4)) (tt1 := tYes) (by rfl) sc_Sectionsides.nd (q_itany (K := K) (q_con (K := K) (pv 0))) (blkOk_by (own := [("one", 1), ("other", 2), ("_", 3), ("side", 4)]) (N := n_Sectionsides) (sc := defScope s_Sectionsides) (by decide +kernel)) (fun _ _ _ _ _ => (q_tup (K := K) (n := 3) rfl (pgs_cons (pg_name (i := 1) sc_Sectionsides.nd rfl (Or.inl rfl)) (pgs_cons (pg_name (i := 2) sc_Sectionsides.nd rfl (Or.inl rfl)) (pgs_cons (pg_name (i := 3) sc_Sectionsides.nd rfl (Or.inl rfl)) pgs_nil))))) (fun _ _ _ _ _ => pts_nil) (fun _ _ _ _ _ => (q_itany (K := K) (pe_tup (pa_cons (pv 1) (pa_cons (pv 2) pa_nil))))) (fun _ _ _ _ _ => (pg_name (i := 4) sc_Sectionsides.nd rfl (Or.inl rfl))) (fun _ _ _ _ _ => pts_nil) (fun _ _ _ _ _ => (pv 4))) pa_nil)))), fun M o as ⟨eo, κ, x, n, e⟩ => ?_⟩)
  subst e; subst eo
  show RunW K M [] [some (objK T κ x n), none, none, none, none] _ _
  refine runw_ret ((evw_sortSx (es := κ.roads.map roadD) (f := fun d => match d with | .tup [.str a, .str b, _] => [a, b] | _ => []) (zs := κ.sides) (ei_any (ev_conD (ev_var rfl) (ocK T κ).toCls (conR T κ) (by decide)) rfl) (fun d hd => ?_) (by decide) ?_ ?_ ?_ (sides_m κ)).weak fun o' d ⟨p, e1, e2⟩ κ' x' n' e => ?_)
  · obtain ⟨r, _, e⟩ := List.mem_map.mp hd
    subst e
    refine eg_tup (egs_cons (egs_cons (egs_cons (egs_nil ?_))))
    refine ⟨[.str r.1, .str r.2.1], et_yes, ei_any (ev_tup1 (ea1 (ev_var rfl) (ea1 (ev_var rfl) ea_nil)) (Nat.le_of_ble_eq_true rfl)) rfl, rfl, fun j e' x' h1 h2 => ?_⟩
    refine eg_name ⟨et_yes, ?_⟩
    have hx : e' = .str x' := by
      match j, h1, h2 with
      | 0, h1, h2 => cases h1; cases h2; rfl
      | 1, h1, h2 => cases h1; cases h2; rfl
    subst hx
    exact ev_var rfl
  · cases κ <;> decide
  · cases κ <;> decide
  · cases κ <;> decide
  · injection e with e
    obtain ⟨rfl, rfl, rfl⟩ := objK_inj T e
    exact ⟨p, e1, e2⟩
theorem evw_sides (T : Tx K mg) {M : Mt} {o : Own} {ds : DS} {te : TE} {κ : Kd} {x : Str} {n : Int} {E : XK} (he : Ev K (M.adds (ownM K o)) ds te (· = objK T κ x n)) :
    EvW K M o ds (tMeG K T.f_Sectionsides "sides" (spW K (preSides T) (postSides T) noX) [] E te tNil) (fun o' d => ∃ p, o' = (p, .lst (κ.sides.map D.str)) :: o ∧ d = .raw (.ref p)) :=
  evw_meG he (ocK T κ).toCls (meSides T κ) (by decide) ea_nil fun as e => by
    subst e
    refine ⟨fun M' _ => ⟨rfl, κ, x, n, rfl⟩, fun o' d h => ?_, fun _ _ h => h⟩
    obtain ⟨p, e1, e2⟩ := h κ x n rfl
    exact ⟨p, by rw [e1]; rfl, e2⟩
theorem ev_sides (T : Tx K mg) {M : Mt} {ds : DS} {te : TE} {κ : Kd} {x : Str} {n : Int} {E : XK} (he : Ev K M ds te (· = objK T κ x n)) :
    Ev K M ds (tMeG K T.f_Sectionsides "sides" (spW K (preSides T) (postSides T) noX) [] E te tNil) (· = .list (κ.sides.map D.str)) := ev_own (evw_sides T he)
/-! ### ends -/
def endsD (κ : Kd) (x : Str) : List D := κ.sides.map fun s => .tup [.str x, .str s]
def postEnds (T : Tx K mg) (_ : Own) (as : List D) (o' : Own) (r : D) : Prop := ∀ κ x n, as = [objK T κ x n] → ∃ p, o' = [(p, .lst (endsD κ x))] ∧ r = .raw (.ref p)
theorem ok_ends (T : Tx K mg) : FnOk P w K mg base CX0 3 T.f_Sectionends T.fd_Sectionends ["self"] (spW K (preSides T) (postEnds T) noX) := by
  have G_Sectionsides := ok_sides (P := P) (w := w) (base := base) T
  have B_Sectionsides := Bd_Sectionsides T
  refine fn_runW T.F_Sectionends sc_Sectionends (fun M o as ⟨_, _, _, _, e⟩ => by rw [e]; rfl) (fun cdv A outer s H E hr => ⟨_, (pss_one (ps_ret (pe_lc (own := [("side", 1)]) (g := (gName 1)) (tt := tYes) (by rfl) sc_Sectionends.nd (q_itany (K := K) (pe_meG0 (K := K) (pv 0) G_Sectionsides (hr.mono (by decide)) B_Sectionsides .nil pass0)) (blkOk_by (own := [("side", 1)]) (N := n_Sectionends) (sc := defScope s_Sectionends) (by decide +kernel)) (fun _ _ _ _ _ => (pg_name (i := 1) sc_Sectionends.nd rfl (Or.inl rfl))) (fun _ _ _ _ _ => pts_nil) (fun _ _ _ _ _ => (pe_tup (pa_cons (q_fld (K := K) (pv 0)) (pa_cons (pv 1) pa_nil))))))), fun M o as ⟨eo, κ, x, n, e⟩ => ?_⟩)
  subst e; subst eo
  show RunW K M [] [some (objK T κ x n), none] _ _
  refine runw_ret ((evw_lcF (cs := κ.sides) (inj := D.str) (f := fun s => .tup [.str x, .str s]) (t := fun _ => true) (ei_any (ev_sides T (ev_var rfl)) rfl) (by cases κ <;> decide) (fun c _ => eg_name ⟨et_yes, fun _ => ev_tup1 (ea1 (ev_fld (ev_var rfl) (ocK T κ).toCls (noN T κ) rfl) (ea1 (ev_var rfl) ea_nil)) (Nat.le_of_ble_eq_true rfl)⟩)).weak fun o' d ⟨p, e1, e2⟩ κ' x' n' e => ?_)
  injection e with e
  obtain ⟨rfl, rfl, rfl⟩ := objK_inj T e
  refine ⟨p, ?_, e2⟩
  rw [e1, List.filter_eq_self.mpr (fun _ _ => rfl)]
  rfl
theorem evw_ends (T : Tx K mg) {M : Mt} {o : Own} {ds : DS} {te : TE} {κ : Kd} {x : Str} {n : Int} {E : XK} (he : Ev K (M.adds (ownM K o)) ds te (· = objK T κ x n)) :
    EvW K M o ds (tMeG K T.f_Sectionends "ends" (spW K (preSides T) (postEnds T) noX) [] E te tNil) (fun o' d => ∃ p, o' = (p, .lst (endsD κ x)) :: o ∧ d = .raw (.ref p)) :=
  evw_meG he (ocK T κ).toCls (meEnds T κ) (by decide) ea_nil fun as e => by
    subst e
    refine ⟨fun M' _ => ⟨rfl, κ, x, n, rfl⟩, fun o' d h => ?_, fun _ _ h => h⟩
    obtain ⟨p, e1, e2⟩ := h κ x n rfl
    exact ⟨p, by rw [e1]; rfl, e2⟩
theorem ev_ends (T : Tx K mg) {M : Mt} {ds : DS} {te : TE} {κ : Kd} {x : Str} {n : Int} {E : XK} (he : Ev K M ds te (· = objK T κ x n)) :
    Ev K M ds (tMeG K T.f_Sectionends "ends" (spW K (preSides T) (postEnds T) noX) [] E te tNil) (· = .list (endsD κ x)) := ev_own (evw_ends T he)
/-! ### ways -/
abbrev prD (p : Str × Str) : D := .tup [.str p.1, .str p.2]
def fPairs (κ : Kd) (d : D) : List (Str × Str) := ((κ.roads.filter fun r => eqvD (.str r.1) d).map fun r => (r.2.1, r.2.2)) ++ (κ.roads.filter fun r => eqvD (.str r.2.1) d).map fun r => (r.1, r.2.2)
def Kd.ways : Kd → Str → List (Str × Str)
  | .sec, _ => []
  | .pla, s => if s = "a" then [("b", "")] else if s = "b" then [("a", "")] else []
  | .poi, s => if s = "stem" then [("left", "left"), ("right", "right")] else if s = "left" then [("stem", "left")] else if s = "right" then [("stem", "right")] else []
  | .cro, s => if s = "a" then [("b", "")] else if s = "b" then [("a", "")] else if s = "c" then [("d", "")] else if s = "d" then [("c", "")] else []
def waysP (κ : Kd) : D → List (Str × Str)
  | .str s => κ.ways s
  | _ => []
theorem bq {α : Type} [BEq α] [LawfulBEq α] [DecidableEq α] (a b : α) : (a == b) = decide (a = b) := by
  by_cases h : a = b
  · subst h; simp
  · simp [h]
theorem eqv_str (a b : Str) : eqvD (.str a) (.str b) = decide (a = b) := by
  show (a == b) = _
  exact bq a b
theorem eqv_no (a : Str) {d : D} (h : ∀ s, d ≠ .str s) : eqvD (.str a) d = false := by
  cases d with
  | str s => exact (h s rfl).elim
  | _ => rfl
theorem fPairs_no (κ : Kd) {d : D} (h : ∀ s, d ≠ .str s) : fPairs κ d = [] := by
  have e : ∀ a : Str, eqvD (.str a) d = false := fun a => eqv_no a h
  simp only [fPairs, e]
  cases κ <;> rfl
theorem fPairs_eq (κ : Kd) (d : D) : fPairs κ d = waysP κ d := by
  cases d with
  | str s =>
    simp only [fPairs, eqv_str, waysP]
    cases κ with
    | sec => rfl
    | pla =>
      simp only [Kd.roads, Kd.ways]
      by_cases h1 : s = "a"
      · subst h1; rfl
      by_cases h2 : s = "b"
      · subst h2; rfl
      rw [if_neg h1, if_neg h2]
      simp [Ne.symm h1, Ne.symm h2]
    | poi =>
      simp only [Kd.roads, Kd.ways]
      by_cases h1 : s = "stem"
      · subst h1; rfl
      by_cases h2 : s = "left"
      · subst h2; rfl
      by_cases h3 : s = "right"
      · subst h3; rfl
      rw [if_neg h1, if_neg h2, if_neg h3]
      simp [Ne.symm h1, Ne.symm h2, Ne.symm h3]
    | cro =>
      simp only [Kd.roads, Kd.ways]
      by_cases h1 : s = "a"
      · subst h1; rfl
      by_cases h2 : s = "b"
      · subst h2; rfl
      by_cases h3 : s = "c"
      · subst h3; rfl
      by_cases h4 : s = "d"
      · subst h4; rfl
      rw [if_neg h1, if_neg h2, if_neg h3, if_neg h4]
      simp [Ne.symm h1, Ne.symm h2, Ne.symm h3, Ne.symm h4]
  | _ =>
    exact fPairs_no κ (fun s h => by cases h)
theorem sort_ways (κ : Kd) (d : D) : sortD ((waysP κ d).map prD) = (waysP κ d).map prD := by
  have h : ∀ l : List (Str × Str), l = [] ∨ (∃ a, l = [a]) ∨ l = [(("left" : Str), ("left" : Str)), (("right" : Str), ("right" : Str))] → sortD (l.map prD) = l.map prD := fun l hl => by
    rcases hl with rfl | ⟨a, rfl⟩ | rfl
    · exact List.mergeSort_nil
    · exact List.mergeSort_singleton _
    · refine List.mergeSort_of_pairwise ?_
      refine List.pairwise_cons.mpr ⟨fun y hy => ?_, List.pairwise_singleton _ _⟩
      have ey : y = prD ("right", "right") := by simpa using hy
      subst ey
      decide +kernel
  apply h
  cases d with
  | str s =>
    simp only [waysP]
    cases κ <;> simp only [Kd.ways] <;> (repeat' split) <;> simp
  | _ => exact .inl rfl
theorem srt_ways {l : List (Str × Str)} (h : ∀ p ∈ l, flD 2 (prD p) = true) : srtD 2 (l.map prD) := by
  refine ⟨?_, ?_, ?_⟩
  · rw [List.all_map]
    exact List.all_eq_true.mpr h
  · rw [List.map_map]
    exact PySem.W.AllAlike.of fun b b' => rfl
  · rw [List.map_map]
    exact PySem.W.Sortable.tuples fun b => ⟨_, _, rfl⟩
theorem fl_ways (κ : Kd) (d : D) : ∀ p ∈ waysP κ d, flD 2 (prD p) = true := by
  cases d with
  | str s =>
    simp only [waysP]
    cases κ <;> simp only [Kd.ways] <;> (repeat' split) <;> decide +kernel
  | _ => intro p h; cases h
theorem len_ways (κ : Kd) (d : D) : (waysP κ d).length ≤ 2 := by
  cases d with
  | str s =>
    simp only [waysP]
    cases κ <;> simp only [Kd.ways] <;> (repeat' split) <;> decide
  | _ => exact Nat.zero_le _
def preWays (T : Tx K mg) (_ : Ml) (o : Own) (as : List D) : Prop := o = [] ∧ ∃ κ x n d, as = [objK T κ x n, d] ∧ flD 4 d = true
def postWays (T : Tx K mg) (_ : Own) (as : List D) (o' : Own) (r : D) : Prop := ∀ κ x n d, as = [objK T κ x n, d] → ∃ p, o' = [(p, .lst ((waysP κ d).map prD))] ∧ r = .raw (.ref p)
theorem fl_roads (κ : Kd) : ∀ r ∈ κ.roads, flD 4 (.str r.1) = true ∧ flD 4 (.str r.2.1) = true := by cases κ <;> decide +kernel
theorem ok_ways (T : Tx K mg) : FnOk P w K mg base CX0 2 T.f_Sectionways T.fd_Sectionways ["self", "side"] (spW K (preWays T) (postWays T) noX) := by
  refine fn_runW T.F_Sectionways sc_Sectionways (fun M o as ⟨_, _, _, _, _, e, _⟩ => by rw [e]; rfl) (fun cdv A outer s H E hr => ⟨_, (pss_cons (ps_setLc (i := 2) (own := [("one", 3), ("other", 4), ("position", 5)]) (g := (gTup K 3 (gCons (gName 3) (gCons (gName 4) (gCons (gName 5) gNil))))) (by rfl) sc_Sectionways.nd rfl rfl (sw_true rfl rfl rfl (by decide +kernel)) (q_itany (K := K) (q_con (K := K) (pv 0))) (blkOk_by (own := [("one", 3), ("other", 4), ("position", 5)]) (N := n_Sectionways) (sc := defScope s_Sectionways) (by decide +kernel)) (fun _ _ _ _ _ => (q_tup (K := K) (n := 3) rfl (pgs_cons (pg_name (i := 3) sc_Sectionways.nd rfl (Or.inl rfl)) (pgs_cons (pg_name (i := 4) sc_Sectionways.nd rfl (Or.inl rfl)) (pgs_cons (pg_name (i := 5) sc_Sectionways.nd rfl (Or.inl rfl)) pgs_nil))))) (fun _ _ _ _ _ => pts_one (pt_cmpR (q_eqD (K := K) (room_u hr)) (pv 3) (pv 1) (nomark _))) (fun _ _ _ _ _ => (pe_tup (pa_cons (pv 4) (pa_cons (pv 5) pa_nil)))))
  (pss_cons (ps_aug (i := 2) sc_Sectionways.nd rfl (Or.inl rfl) (pe_lc (own := [("one", 3), ("other", 4), ("position", 5)]) (g := (gTup K 3 (gCons (gName 3) (gCons (gName 4) (gCons (gName 5) gNil))))) (by rfl) sc_Sectionways.nd (q_itany (K := K) (q_con (K := K) (pv 0))) (blkOk_by (own := [("one", 3), ("other", 4), ("position", 5)]) (N := n_Sectionways) (sc := defScope s_Sectionways) (by decide +kernel)) (fun _ _ _ _ _ => (q_tup (K := K) (n := 3) rfl (pgs_cons (pg_name (i := 3) sc_Sectionways.nd rfl (Or.inl rfl)) (pgs_cons (pg_name (i := 4) sc_Sectionways.nd rfl (Or.inl rfl)) (pgs_cons (pg_name (i := 5) sc_Sectionways.nd rfl (Or.inl rfl)) pgs_nil))))) (fun _ _ _ _ _ => pts_one (pt_cmpR (q_eqD (K := K) (room_u hr)) (pv 4) (pv 1) (nomark _))) (fun _ _ _ _ _ => (pe_tup (pa_cons (pv 3) (pa_cons (pv 5) pa_nil))))) iop_ext)
  (pss_one (ps_ret (pe_callB (q_sortDt (K := K) (room_u70 hr)) (by rfl) T.b_sorted bt_sorted (pa_cons (pv 2) pa_nil)))))), fun M o as ⟨eo, κ, x, n, d, e, hd⟩ => ?_⟩)
  subst e; subst eo
  show RunW K M [] [some (objK T κ x n), some d, none, none, none, none] _ _
  refine runw_asg (evw_lcF (cs := κ.roads) (inj := roadD) (f := fun r => prD (r.2.1, r.2.2)) (t := fun r => eqvD (.str r.1) d) (ei_any (ev_conD (ev_var rfl) (ocK T κ).toCls (conR T κ) (by decide)) rfl) (by cases κ <;> decide) (fun r hr' => ?_)) fun o' d' ⟨p, e1, e2⟩ => ?_
  · exact eg_tup (egs_cons (egs_cons (egs_cons (egs_nil ⟨et_B (ev_op1 (ev_var rfl) (ev_var rfl) (od_eqD (fl_roads κ r hr').1 hd)), fun _ => ev_tup1 (ea1 (ev_var rfl) (ea1 (ev_var rfl) ea_nil)) (Nat.le_of_ble_eq_true rfl)⟩))))
  subst e1; subst e2
  refine runw_seq (runw_aug rfl (ev_lcF (cs := κ.roads) (inj := roadD) (f := fun r => prD (r.1, r.2.2)) (t := fun r => eqvD (.str r.2.1) d) (ei_any (ev_conD (ev_var rfl) (ocK T κ).toCls (conR T κ) (by decide)) rfl) (by cases κ <;> decide) (fun r hr' => ?_)) ?_ ?_)
  · exact eg_tup (egs_cons (egs_cons (egs_cons (egs_nil ⟨et_B (ev_op1 (ev_var rfl) (ev_var rfl) (od_eqD (fl_roads κ r hr').2 hd)), fun _ => ev_tup1 (ea1 (ev_var rfl) (ea1 (ev_var rfl) ea_nil)) (Nat.le_of_ble_eq_true rfl)⟩))))
  · have h1 := List.length_filter_le (fun r : Str × Str × Str => eqvD (.str r.1) d) κ.roads
    have h2 := List.length_filter_le (fun r : Str × Str × Str => eqvD (.str r.2.1) d) κ.roads
    have h3 : κ.roads.length ≤ 2 := by cases κ <;> decide
    simp only [List.length_map]
    omega
  have ef : ((κ.roads.filter fun r => eqvD (.str r.1) d).map fun r => prD (r.2.1, r.2.2)) ++ ((κ.roads.filter fun r => eqvD (.str r.2.1) d).map fun r => prD (r.1, r.2.2)) = (waysP κ d).map prD := by
    rw [← fPairs_eq κ d, fPairs, List.map_append, List.map_map, List.map_map]
    rfl
  rw [ef]
  refine runw_freeze (i := 2) rfl rfl ?_
  refine runw_ret ((evw_sortD (ev_var rfl) (srt_ways (fl_ways κ d))).weak fun o' d' ⟨p', e1, e2⟩ κ' x' n' d2 e => ?_)
  injection e with e e3
  injection e3 with e3
  subst e3
  obtain ⟨rfl, rfl, rfl⟩ := objK_inj T e
  rw [sort_ways] at e1
  exact ⟨p', e1, e2⟩
theorem evw_ways (T : Tx K mg) {M : Mt} {o : Own} {ds : DS} {te tx : TE} {κ : Kd} {x : Str} {n : Int} {d : D} {E : XK} (he : Ev K (M.adds (ownM K o)) ds te (· = objK T κ x n)) (hx : Ev K (M.adds (ownM K o)) ds tx (· = d)) (hd : flD 4 d = true) :
    EvW K M o ds (tMeG K T.f_Sectionways "ways" (spW K (preWays T) (postWays T) noX) [] E te (tCons tx tNil)) (fun o' r => ∃ p, o' = (p, .lst ((waysP κ d).map prD)) :: o ∧ r = .raw (.ref p)) :=
  evw_meG he (ocK T κ).toCls (meWays T κ) (by decide) (ea1 hx ea_nil) fun as e => by
    subst e
    refine ⟨fun M' _ => ⟨rfl, κ, x, n, d, rfl, hd⟩, fun o' d' h => ?_, fun _ _ h => h⟩
    obtain ⟨p, e1, e2⟩ := h κ x n d rfl
    exact ⟨p, by rw [e1]; rfl, e2⟩
theorem ev_ways (T : Tx K mg) {M : Mt} {ds : DS} {te tx : TE} {κ : Kd} {x : Str} {n : Int} {d : D} {E : XK} (he : Ev K M ds te (· = objK T κ x n)) (hx : Ev K M ds tx (· = d)) (hd : flD 4 d = true) :
    Ev K M ds (tMeG K T.f_Sectionways "ways" (spW K (preWays T) (postWays T) noX) [] E te (tCons tx tNil)) (· = .list ((waysP κ d).map prD)) := ev_own (evw_ways T he hx hd)
/-! ### text and repr -/
def textS (κ : Kd) (x : Str) (n : Int) : Str := κ.nm ++ " " ++ x ++ " " ++ Str.ofString (toString n)
def smallK (x : Str) (n : Int) : Prop := x.length ≤ 6 ∧ 0 ≤ n ∧ n ≤ 50
def preText (T : Tx K mg) (_ : Ml) (as : List D) : Prop := ∃ κ x n, as = [objK T κ x n] ∧ smallK x n
def postText (T : Tx K mg) (as : List D) (r : D) : Prop := ∀ κ x n, as = [objK T κ x n] → r = .str (textS κ x n)
def postRepr (T : Tx K mg) (as : List D) (r : D) : Prop := ∀ κ x n, as = [objK T κ x n] → r = .str ("Section(" ++ textS κ x n ++ ")")
theorem cat_nil (x : Str) : Str.empty ++ x = x := by
  cases x; show Str.mk _ = _; congr 1; exact Array.empty_append
theorem num_len {n : Int} (h0 : 0 ≤ n) (h1 : n ≤ 50) : (Str.ofString (toString n)).length ≤ 2 := by
  have h : ∀ k : Fin 51, (Str.ofString (toString (k.val : Int))).length ≤ 2 := by decide +kernel
  obtain ⟨k, rfl⟩ := Int.eq_ofNat_of_zero_le h0
  exact h ⟨k, by omega⟩
theorem log_small {n : Int} (h0 : 0 ≤ n) (h1 : n ≤ 50) : n.natAbs.log2 < 1920 := by
  have h : ∀ k : Fin 51, ((k.val : Int)).natAbs.log2 < 1920 := by decide +kernel
  obtain ⟨k, rfl⟩ := Int.eq_ofNat_of_zero_le h0
  exact h ⟨k, by omega⟩
theorem nm_len (κ : Kd) : κ.nm.length ≤ 8 := by cases κ <;> decide
theorem ok_text (T : Tx K mg) : FnOk P w K mg base CX0 1 T.f_Sectiontext T.fd_Sectiontext ["self"] (spF K (preText T) (postText T)) := by
  refine fn_run T.F_Sectiontext sc_Sectiontext (fun M as ⟨_, _, _, e, _⟩ => by rw [e]; rfl) (fun cdv A outer s H E hr => ⟨_, (pss_one (ps_ret (pe_joined (.cons (pe_fmt (q_con (K := K) (pv 0))) (.cons pe_str (.cons (pe_fmt (q_fld (K := K) (pv 0))) (.cons pe_str (.cons (pe_fmt (q_fld (K := K) (pv 0))) .nil)))))))), fun M as ⟨κ, x, n, e, hx, n0, n1⟩ => ?_⟩)
  subst e
  show Run K M [some (objK T κ x n)] _ _
  have l1 := nm_len κ
  have l2 := num_len n0 n1
  refine run_ret1 (ev_joined (.cons (ev_fmtS (ev_conD (ev_var rfl) (ocK T κ).toCls (conK T κ) (by decide)) (by omega)) (.cons ev_cstr (.cons (ev_fmtS (ev_fld (ev_var rfl) (ocK T κ).toCls (noN T κ) rfl) (by omega)) (.cons ev_cstr (.cons (ev_fmtI (ev_fld (ev_var rfl) (ocK T κ).toCls (noL T κ) rfl) (log_small n0 n1)) .nil))))) ?_) fun κ' x' n' e => ?_
  · simp only [List.map_cons, List.map_nil, List.sum_cons, List.sum_nil]
    have l3 : (" " : Str).length = 1 := by decide
    omega
  · injection e with e
    obtain ⟨rfl, rfl, rfl⟩ := objK_inj T e
    simp only [catS, cat_nil]
    rfl
theorem ok_repr (T : Tx K mg) : FnOk P w K mg base CX0 2 T.f_Sectionrepr T.fd_Sectionrepr ["self"] (spF K (preText T) (postRepr T)) := by
  have G_Sectiontext := ok_text (P := P) (w := w) (base := base) T
  have B_Sectiontext := Bd_Sectiontext T
  refine fn_run T.F_Sectionrepr sc_Sectionrepr (fun M as ⟨_, _, _, e, _⟩ => by rw [e]; rfl) (fun cdv A outer s H E hr => ⟨_, (pss_one (ps_ret (pe_joined (.cons pe_str (.cons (pe_fmt (pe_meG0 (K := K) (pv 0) G_Sectiontext (hr.mono (by decide)) B_Sectiontext .nil pass0)) (.cons pe_str .nil)))))), fun M as ⟨κ, x, n, e, hx⟩ => ?_⟩)
  subst e
  show Run K M [some (objK T κ x n)] _ _
  have l1 := nm_len κ
  have l2 := num_len hx.2.1 hx.2.2
  have l6 := hx.1
  have l3 : (" " : Str).length = 1 := by decide
  have l4 : (textS κ x n).length ≤ 100 := by
    simp only [textS, PySem.Str.length_append]
    omega
  have l5 : ("Section(" : Str).length = 8 := by decide
  have l7 : (")" : Str).length = 1 := by decide
  refine run_ret1 (ev_joined (.cons ev_cstr (.cons (ev_fmtS (x := textS κ x n) (ev_meG (ev_var rfl) (ocK T κ).toCls (meText T κ) (by decide) ea_nil fun as e => ⟨fun _ _ => ⟨κ, x, n, by rw [e], hx⟩, fun d h => h κ x n (by rw [e])⟩) (by omega)) (.cons ev_cstr .nil))) ?_) fun κ' x' n' e => ?_
  · simp only [List.map_cons, List.map_nil, List.sum_cons, List.sum_nil]
    omega
  · injection e with e
    obtain ⟨rfl, rfl, rfl⟩ := objK_inj T e
    simp only [catS, cat_nil]
/-! ### == -/
def plainO (d : D) : Prop := tyD d = some "str" ∨ tyD d = some "NoneType" ∨ tyD d = some "tuple"
def eqK (κ : Kd) (x : Str) (n : Int) (κ' : Kd) (x' : Str) (n' : Int) : Bool := decide (κ = κ') && (decide (x = x') && decide (n = n'))
def preEq (T : Tx K mg) (_ : Ml) (as : List D) : Prop := ∃ κ x n d, as = [objK T κ x n, d] ∧ flD 1 (.str x) = true ∧ ((∃ κ' x' n', d = objK T κ' x' n' ∧ flD 1 (.str x') = true) ∨ plainO d)
def postEq (T : Tx K mg) (as : List D) (r : D) : Prop := (∀ κ x n κ' x' n', as = [objK T κ x n, objK T κ' x' n'] → r = .bl (eqK κ x n κ' x' n')) ∧ ∀ κ x n d, as = [objK T κ x n, d] → plainO d → r = .bl false
theorem nm_eq (κ κ' : Kd) : decide (κ.nm = κ'.nm) = decide (κ = κ') := by cases κ <;> cases κ' <;> decide
theorem fl_nm (κ : Kd) : flD 2 (.str κ.nm) = true := by cases κ <;> decide +kernel
theorem ok_eq (T : Tx K mg) : FnOk P w K mg base CX0 1 T.f_Sectioneq T.fd_Sectioneq ["self", "other"] (spF K (preEq T) (postEq T)) := by
  refine fn_run T.F_Sectioneq sc_Sectioneq (fun M as ⟨_, _, _, _, e, _⟩ => by rw [e]; rfl) (fun cdv A outer s H E hr => ⟨_, (pss_cons (ps_if (pt_not (pt_val (pe_callB (q_isiU (K := K)) (by rfl) T.b_isinstance bt_isinstance (pa_cons (pv 1) (pa_cons (pe_cls rfl T.m_Section) pa_nil))))) (pss_one (ps_ret pe_bl)) pss_nil)
  (pss_one (ps_ret (pe_cmpR (q_eqD (K := K) (room_u hr)) (pe_tup (pa_cons (q_con (K := K) (pv 0)) (pa_cons (q_fld (K := K) (pv 0)) (pa_cons (q_fld (K := K) (pv 0)) pa_nil)))) (pe_tup (pa_cons (q_con (K := K) (pv 1)) (pa_cons (q_fld (K := K) (pv 1)) (pa_cons (q_fld (K := K) (pv 1)) pa_nil)))) (nomark _))))), fun M as ⟨κ, x, n, d, e, hx, hd⟩ => ?_⟩)
  subst e
  show Run K M [some (objK T κ x n), some d] _ _
  rcases hd with ⟨κ', x', n', rfl, hx'⟩ | hd
  · refine run_seq (run_ifF (et_not (et_test (ev_cb1 (ea1 (ev_var rfl) (ea1 ev_craw ea_nil)) (cd_isO (.own (ocK T κ')) (.own _) (kiK T κ'))))) rfl (run_next ?_))
    have up : ∀ y : Str, flD 1 (.str y) = true → flD 2 (.str y) = true := fun y h => h
    refine run_ret1 (ev_op1 (ev_tup1 (ea1 (ev_conD (ev_var rfl) (ocK T κ).toCls (conK T κ) (by decide)) (ea1 (ev_fld (ev_var rfl) (ocK T κ).toCls (noN T κ) rfl) (ea1 (ev_fld (ev_var rfl) (ocK T κ).toCls (noL T κ) rfl) ea_nil))) (Nat.le_of_ble_eq_true rfl))
      (ev_tup1 (ea1 (ev_conD (ev_var rfl) (ocK T κ').toCls (conK T κ') (by decide)) (ea1 (ev_fld (ev_var rfl) (ocK T κ').toCls (noN T κ') rfl) (ea1 (ev_fld (ev_var rfl) (ocK T κ').toCls (noL T κ') rfl) ea_nil))) (Nat.le_of_ble_eq_true rfl))
      (od_eqD (n := 3) ?_ ?_)) ⟨fun κ1 x1 n1 κ2 x2 n2 e => ?_, fun κ1 x1 n1 d e hp => ?_⟩
    · show (flD 2 (.str κ.nm) && (flD 2 (.str x) && (true && true))) = true
      rw [fl_nm, up x hx]; rfl
    · show (flD 2 (.str κ'.nm) && (flD 2 (.str x') && (true && true))) = true
      rw [fl_nm, up x' hx']; rfl
    · injection e with e e3
      injection e3 with e3
      obtain ⟨rfl, rfl, rfl⟩ := objK_inj T e
      obtain ⟨rfl, rfl, rfl⟩ := objK_inj T e3
      show D.bl ((κ.nm == κ'.nm) && ((x == x') && ((n == n') && true))) = _
      rw [eqK, bq κ.nm, nm_eq, bq x, bq n, Bool.and_true]
    · injection e with e e3
      injection e3 with e3
      subst e3
      rcases hp with h | h | h <;> cases h
  · have hk : ∃ t, TyD K d t ∧ PySem.W.kitOne K t (.ref T.c_Section) = some false := by
      rcases hd with h | h | h
      · exact ⟨_, .plain h, T.ki_str_Section⟩
      · exact ⟨_, .plain h, T.ki_NoneType_Section⟩
      · exact ⟨_, .plain h, T.ki_tuple_Section⟩
    obtain ⟨t, h1, h2⟩ := hk
    refine run_seq (run_ifT (et_not (et_test (ev_cb1 (ea1 (ev_var rfl) (ea1 ev_craw ea_nil)) (cd_isO h1 (.own _) h2)))) rfl (run_ret1 ev_cbl ⟨fun κ1 x1 n1 κ2 x2 n2 e => ?_, fun _ _ _ _ _ _ => rfl⟩))
    injection e with e e3
    injection e3 with e3
    subst e3
    rcases hd with h | h | h <;> cases h
/-- a == b -/
theorem nfK (T : Tx K mg) : ∀ κ κ', (κ = .sec → κ' = .sec) → PySem.W.notFirst K (cA T κ) (.ref (cA T κ')) = true
  | .sec, .sec, _ => T.nf_Section_Section
  | .sec, .pla, h => nomatch h rfl
  | .sec, .poi, h => nomatch h rfl
  | .sec, .cro, h => nomatch h rfl
  | .pla, .sec, _ => T.nf_Plain_Section
  | .pla, .pla, _ => T.nf_Plain_Plain
  | .pla, .poi, _ => T.nf_Plain_Point
  | .pla, .cro, _ => T.nf_Plain_Crossing
  | .poi, .sec, _ => T.nf_Point_Section
  | .poi, .pla, _ => T.nf_Point_Plain
  | .poi, .poi, _ => T.nf_Point_Point
  | .poi, .cro, _ => T.nf_Point_Crossing
  | .cro, .sec, _ => T.nf_Crossing_Section
  | .cro, .pla, _ => T.nf_Crossing_Plain
  | .cro, .poi, _ => T.nf_Crossing_Point
  | .cro, .cro, _ => T.nf_Crossing_Crossing
theorem nfP (T : Tx K mg) {d : D} (h : plainO d) : ∀ κ, ∃ t, TyD K d t ∧ PySem.W.notFirst K (cA T κ) t = true := fun κ => by
  rcases h with h | h | h
  · exact ⟨_, .plain h, match κ with | .sec => T.nf_Section_str | .pla => T.nf_Plain_str | .poi => T.nf_Point_str | .cro => T.nf_Crossing_str⟩
  · exact ⟨_, .plain h, match κ with | .sec => T.nf_Section_NoneType | .pla => T.nf_Plain_NoneType | .poi => T.nf_Point_NoneType | .cro => T.nf_Crossing_NoneType⟩
  · exact ⟨_, .plain h, match κ with | .sec => T.nf_Section_tuple | .pla => T.nf_Plain_tuple | .poi => T.nf_Point_tuple | .cro => T.nf_Crossing_tuple⟩
theorem suK (T : Tx K mg) : ∀ κ', κ' ≠ .sec → PySem.W.subIn K (.ref (cA T κ')) (.ref (cA T .sec)) = some true ∧ cA T .sec ≠ cA T κ'
  | .sec, h => (h rfl).elim
  | .pla, _ => T.su_Plain_Section
  | .poi, _ => T.su_Point_Section
  | .cro, _ => T.su_Crossing_Section
theorem eqK_comm (κ : Kd) (x : Str) (n : Int) (κ' : Kd) (x' : Str) (n' : Int) : eqK κ' x' n' κ x n = eqK κ x n κ' x' n' := by
  simp only [eqK, eq_comm]
theorem od_eqK (T : Tx K mg) {M : Mt} {κ κ' : Kd} {x x' : Str} {n n' : Int} {E : XK} (h : flD 1 (.str x) = true) (h' : flD 1 (.str x') = true) : OpD K M (rEqO K T.f_Sectioneq (spF K (preEq T) (postEq T)) E) (objK T κ x n) (objK T κ' x' n') (· = .bl (eqK κ x n κ' x' n')) := by
  by_cases hc : κ = .sec → κ' = .sec
  · exact od_eqO (spEq T κ) (.own (ocK T κ')) (nfK T κ κ' hc) (fun _ _ => ⟨κ, x, n, _, rfl, h, .inl ⟨κ', x', n', rfl, h'⟩⟩) fun r q => q.1 κ x n κ' x' n' rfl
  · have e : κ = .sec := Classical.byContradiction fun hn => hc fun e => (hn e).elim
    subst e
    have e' : κ' ≠ .sec := fun e => hc fun _ => e
    obtain ⟨s1, s2⟩ := suK T κ' e'
    exact od_eqOR s2 s1 (spEq T κ') (fun _ _ => ⟨κ', x', n', _, rfl, h', .inl ⟨.sec, x, n, rfl, h⟩⟩) fun r q => by rw [q.1 κ' x' n' .sec x n rfl, eqK_comm]
theorem od_eqP (T : Tx K mg) {M : Mt} {κ : Kd} {x : Str} {n : Int} {d : D} {E : XK} (h : flD 1 (.str x) = true) (hd : plainO d) : OpD K M (rEqO K T.f_Sectioneq (spF K (preEq T) (postEq T)) E) (objK T κ x n) d (· = .bl false) := by
  obtain ⟨t, h1, h2⟩ := nfP T hd κ
  exact od_eqO (spEq T κ) h1 h2 (fun _ _ => ⟨κ, x, n, _, rfl, h, .inr hd⟩) fun r q => q.2 κ x n d rfl hd
theorem od_neK (T : Tx K mg) {M : Mt} {κ κ' : Kd} {x x' : Str} {n n' : Int} {E : XK} (hc : κ = .sec → κ' = .sec) (h : flD 1 (.str x) = true) (h' : flD 1 (.str x') = true) : OpD K M (rNeO K T.f_Sectioneq (spF K (preEq T) (postEq T)) E) (objK T κ x n) (objK T κ' x' n') (· = .bl (!eqK κ x n κ' x' n')) :=
  od_neO (fiNe T κ) (ocK T κ).cm (spEq T κ) (.own (ocK T κ')) (nfK T κ κ' hc) (fun _ _ => ⟨κ, x, n, _, rfl, h, .inl ⟨κ', x', n', rfl, h'⟩⟩) fun r q => q.1 κ x n κ' x' n' rfl
theorem cd_repr (T : Tx K mg) {M : Mt} {κ : Kd} {x : Str} {n : Int} {E : XK} (h : smallK x n) : CallD K M (rReprO K T.f_Sectionrepr (spF K (preText T) (postRepr T)) E) [objK T κ x n] (· = .str ("Section(" ++ textS κ x n ++ ")")) :=
  cd_reprO (spRepr T κ) (fun _ _ => ⟨κ, x, n, rfl, h⟩) fun r q => q κ x n rfl
theorem ev_text (T : Tx K mg) {M : Mt} {ds : DS} {te : TE} {κ : Kd} {x : Str} {n : Int} {E : XK} (he : Ev K M ds te (· = objK T κ x n)) (h : smallK x n) :
    Ev K M ds (tMeG K T.f_Sectiontext "text" (spF K (preText T) (postText T)) [] E te tNil) (· = .str (textS κ x n)) :=
  ev_meG he (ocK T κ).toCls (meText T κ) (by decide) ea_nil fun as e => ⟨fun _ _ => ⟨κ, x, n, by rw [e], h⟩, fun d q => q κ x n (by rw [e])⟩
end
end K2
namespace Rg
open PySem PySem.Spec L2 RZ PyProof.Rows
theorem q_act {P : Program} {w : World} {K : PySem.W.Frag} {mg : Str → Option Value} {base : Heap} {X : Cx} {k i : Nat} {W : WX} {a : Str} {p1 p2 : Pos} (tk : Takes X W) (hr : Room k X.A) (hN : X.N[i]? = some a) (hv : Vis X.env.scope a) (h1 : X.prog = P := by rfl) (h2 : X.w = w := by rfl) (h3 : X.K = K := by rfl) (h4 : X.mg = mg := by rfl) (h5 : X.base = base := by rfl) (hd : (a == ("__debug__" : Str)) = false := by decide) (hcd : (a == ("__classdict__" : Str)) = false := by decide) :
    PE X (.Call (.Name a p1) [] [] p2) (tAct P w K mg base k W i) := by
  subst h1 h2 h3 h4 h5
  exact pe_act3 tk hr hN hv hd hcd
/-! ### promises with something that is only thought of -/
def spG {Γ : Type} (K : PySem.W.Frag) (pre : Γ → Ml → List D → Prop) (post : Γ → List D → D → Prop) : Sp := fun vs H Q E => ∃ γ, spF K (pre γ) (post γ) vs H Q E
section
variable {P : Program} {w : World} {K : PySem.W.Frag} {mg : Str → Option Value} {base : Heap} {Γ : Type} {pre : Γ → Ml → List D → Prop} {post : Γ → List D → D → Prop}
theorem fn_runG {x qual : Str} {st : Stmt} {f : Addr} {fd : FuncData} {N ps : List Str} {k : Nat} (F : Fun K x qual st f fd) (S : FnScope N ps (defScope st)) (hl : ∀ γ M as, pre γ M as → as.length = ps.length)
    (body : ∀ (cdv : Value) (A : Around) (outer : List Env) (s : Shared) (H : Hp) (E : XK), Room k (A.deeper (envOfC qual (defScope st) s.heap.objs.size f cdv)) →
      ∃ t, PSs (cxOf CX0 P w K mg base N qual (defScope st) f cdv A outer s H E).nox (defBody st) t ∧
        ∀ γ (M : Mt) as, pre γ M.l as → Run K M (as.map some ++ List.replicate (N.length - as.length) none) t { nx := fun _ => post γ as .non, rt := post γ as }) : FnOk P w K mg base CX0 (k + 1) f fd ps (spG K pre post) := by
  refine F.ok S (fun vs H Q E h => h.elim fun γ h => spX_len (hl γ) h) (fun cdv A outer s H vs Q E hr h => ?_)
  obtain ⟨t, ht, hrun⟩ := body cdv A outer s H E hr
  obtain ⟨γ, h⟩ := h
  exact ⟨t, ht, spX_run (fun M as hp => hrun γ _ as hp) h⟩
end
section
variable {K : PySem.W.Frag} {M : Mt} {ds : DS} {R : D → Prop}
theorem ev_callG {Γ : Type} {pre : Γ → Ml → List D → Prop} {post : Γ → List D → D → Prop} {ta : TA} {as : List D} {E : XK} (γ : Γ) (ha : EvA K M ds ta (· = as)) (h : ∀ M', MSub M M' → pre γ M'.l as) : Ev K M ds (tCall (spG K pre post) [] E ta) (post γ as) := fun M' σ G H Q m s w q =>
  ha M' σ G H _ m s w fun vs as' G1 H1 s1 w1 r1 e => by
    subst e
    exact ⟨γ, M'.l, G1, as', w1.toWd0, by rw [List.append_nil]; exact r1, h M' m, fun v d G2 H2 s2 w2 r2 p2 => q v d G2 H2 (s1.trans s2) (w1.to s2 w2) r2 p2, fun _ _ _ _ _ _ _ _ z => z.elim⟩
theorem ev_callTG {Γ : Type} {γ : Γ} {pre : Γ → Ml → List D → Prop} {post : Γ → List D → D → Prop} {cl : List (Str × Addr)} {ys : List (Str × Nat)} {ta : TA} {RA : List D → Prop} (hy : ∀ y ∈ ys, ∃ d, ds[y.2]? = some (some d)) (ha : EvA K M ds ta RA)
    (h : ∀ as, RA as → (∀ M' obs, MSub M M' → pre γ (cellsM K cl ys ds obs ++ M'.l) as) ∧ ∀ d, post γ as d → R d) : Ev K M ds (tCallT cl ys (spG K pre post) ta) R := fun M' σ G H Q m s w q =>
  ha M' σ G H _ m s w fun vs as G1 H1 s1 w1 r1 e1 => by
    have sg := s.mono s1
    refine ⟨fun y hy' => ?_, fun H2 obs hn nd hout hin => ?_⟩
    · obtain ⟨d, hd⟩ := hy y hy'
      obtain ⟨v, e, _⟩ := sg.at_ _ _ hd
      exact ⟨v, e⟩
    have inC : ∀ {c : Addr}, c ∈ csOf cl ys → ∃ y ∈ ys, cA cl y.1 = c := fun {c} hc => by
      obtain ⟨y, hy, e⟩ := List.mem_map.mp hc
      exact ⟨y, hy, e⟩
    have mC : ∀ {p : Addr × (Hp → HO → Prop)}, p ∈ cellsM K cl ys ds obs → ∃ y ∈ ys, p = (cA cl y.1, CellP K (cA cl y.1) (obs (cA cl y.1)) (dAt ds y.2)) := fun {p} hp => by
      obtain ⟨y, hy, e⟩ := List.mem_map.mp hp
      exact ⟨y, hy, e.symm⟩
    have outM : ∀ p ∈ M'.l, p.1 ∉ csOf cl ys := fun p hp z => by
      obtain ⟨_, o, e, _⟩ := w1.mt p hp
      rw [hn _ z] at e; cases e
    have W2 : Wd0 (cellsM K cl ys ds obs ++ M'.l) G1 H2 := by
      refine ⟨fun b u e => ?_, fun p hp => ?_, fun p hp => ?_, ?_⟩
      · have e' := w1.sub b u e
        rw [hout b fun z => by rw [hn b z] at e'; cases e']
        exact e'
      · rcases List.mem_append.mp hp with hp | hp
        · obtain ⟨y, hy', rfl⟩ := mC hp
          obtain ⟨u, v, a1, a2, a3, a4⟩ := hin y hy'
          obtain ⟨d, hd⟩ := hy y hy'
          obtain ⟨v', e', r'⟩ := sg.at_ _ _ hd
          rw [a4] at e'
          cases e'
          refine ⟨w1.free (hn _ (List.mem_map.mpr ⟨y, hy', rfl⟩)), _, a1, rfl, u, v, a2, a3, ?_⟩
          have ed : dAt ds y.2 = d := by unfold dAt; rw [hd]; rfl
          rw [ed]; exact r'
        · obtain ⟨g, o, e, f⟩ := w1.mt p hp
          exact ⟨g, o, by rw [hout _ (outM p hp)]; exact e, f⟩
      · rcases List.mem_append.mp hp with hp | hp
        · obtain ⟨y, hy', rfl⟩ := mC hp
          exact CellP.mono
        · exact w1.mono p hp
      · rw [List.map_append]
        refine List.nodup_append.mpr ⟨?_, w1.nd, fun a ha b hb e => ?_⟩
        · have e : (cellsM K cl ys ds obs).map (·.1) = csOf cl ys := by unfold cellsM csOf; rw [List.map_map]; rfl
          rw [e]; exact nd
        · obtain ⟨p, hp, rfl⟩ := List.mem_map.mp ha
          obtain ⟨p2, hp2, rfl⟩ := List.mem_map.mp hb
          obtain ⟨y, hy', rfl⟩ := mC hp
          exact outM p2 hp2 (e ▸ List.mem_map.mpr ⟨y, hy', rfl⟩)
    refine ⟨γ, _, G1, as, W2, r1, (h as e1).1 M' obs m, fun v d G2 H3 s2 w2 r2 p2 => ⟨fun c hc => ?_, ?_⟩, fun _ _ _ _ _ _ _ _ z => z.elim⟩
    · obtain ⟨y, hy', rfl⟩ := inC hc
      obtain ⟨_, o, e, eo, _⟩ := w2.mt (cA cl y.1, CellP K (cA cl y.1) (obs (cA cl y.1)) (dAt ds y.2)) (List.mem_append_left _ (List.mem_map.mpr ⟨y, hy', rfl⟩))
      obtain ⟨u, v, a1, _⟩ := hin y hy'
      rw [a1]
      rw [eo] at e
      exact e
    · have gn : ∀ c ∈ csOf cl ys, G2 c = none := fun c hc => by
        obtain ⟨y, hy', rfl⟩ := inC hc
        exact (w2.mt (cA cl y.1, CellP K (cA cl y.1) (obs (cA cl y.1)) (dAt ds y.2)) (List.mem_append_left _ (List.mem_map.mpr ⟨y, hy', rfl⟩))).1
      have W3 : Wd0 M'.l G2 (unX (csOf cl ys) H3) := by
        refine ⟨fun b u e => ?_, fun p hp => ?_, w1.mono, w1.nd⟩
        · rw [unX_out fun z => by rw [gn b z] at e; cases e]
          exact w2.sub b u e
        · obtain ⟨g, o, e, f⟩ := w2.mt p (List.mem_append_right _ hp)
          exact ⟨g, o, by rw [unX_out (outM p hp)]; exact e, f⟩
      exact q v d G2 _ (s1.trans s2) (w1.to s2 W3) r2 ((h as e1).2 d p2)
end
end Rg
namespace K2
open PySem L2 Rg RZ PyProof.Rows
local macro_rules | `(tactic| walk_at "ev") => `(tactic| first
  | with_reducible assumption
  | ((with_reducible apply ev_var); exact rfl)
  | with_reducible exact ev_cint
  | with_reducible exact ev_cbl
  | with_reducible exact ev_cnon
  | with_reducible exact ev_cstr
  | ((with_reducible apply ev_c); with_reducible assumption)
  | with_reducible exact ev_craw
  | ((with_reducible apply ev_tup1); walk_at "ea"; exact Nat.le_of_ble_eq_true rfl)
  | ((with_reducible apply ev_lst1); walk_at "ea"; exact Nat.le_of_ble_eq_true rfl)
  | ((with_reducible apply ev_op1); walk_at "ev"; walk_at "ev"; walk_at "od")
  | ((with_reducible apply ev_un1); walk_at "ev"; exact ud_neg)
  | ((with_reducible apply ev_isSeq); walk_at "ev"; walk_at "ea"; exact rfl; exact rfl)
  | ((with_reducible apply ev_cb1); walk_at "ea"; walk_at "cd")
  | ((with_reducible apply ev_chainB); walk_at "ev"; walk_at "ev"; walk_at "od"; walk_at "ev"; walk_at "od")
  | ((with_reducible apply ev_andF); walk_at "ev"; exact rfl)
  | ((with_reducible apply ev_andT); walk_at "ev"; exact rfl; walk_at "ev")
  | ((with_reducible apply ev_andB); walk_at "ev"; intro _; walk_at "ev")
  | ((with_reducible apply ev_orT); walk_at "ev"; exact rfl)
  | ((with_reducible apply ev_orF); walk_at "ev"; exact rfl; walk_at "ev")
  | ((with_reducible apply ev_orB); walk_at "ev"; intro _; walk_at "ev")
  | ((with_reducible apply ev_notV); walk_at "ev"))
local macro_rules | `(tactic| walk_at "et") => `(tactic| first
  | ((with_reducible apply et_B); walk_at "ev")
  | ((with_reducible apply et_test); walk_at "ev")
  | ((with_reducible apply et_not); walk_at "et")
  | ((with_reducible apply et_orT); walk_at "et"; exact rfl)
  | ((with_reducible apply et_orF); walk_at "et"; exact rfl; walk_at "et")
  | ((with_reducible apply et_or); walk_at "et"; intro _; walk_at "et")
  | ((with_reducible apply et_andF); walk_at "et"; exact rfl)
  | ((with_reducible apply et_andT); walk_at "et"; exact rfl; walk_at "et")
  | ((with_reducible apply et_and); walk_at "et"; intro _; walk_at "et"))
local macro_rules | `(tactic| walk_at "ea") => `(tactic| first
  | with_reducible exact ea_nil
  | ((with_reducible apply ea1); walk_at "ev"; walk_at "ea"))
local macro_rules | `(tactic| walk_at "od") => `(tactic| first
  | with_reducible exact od_addI
  | with_reducible exact od_subI
  | ((with_reducible apply od_addS); (try simp only [PySem.Str.length_append]); omega)
  | ((with_reducible apply od_catL); exact Nat.le_of_ble_eq_true rfl)
  | ((with_reducible apply od_modI); first | decide | omega)
  | ((with_reducible apply od_mulI); first | (exact Or.inr ⟨by decide, by decide⟩) | (exact Or.inl ⟨by decide, by decide⟩) | (exact Or.inl ⟨by omega, by omega⟩) | (exact Or.inr ⟨by omega, by omega⟩))
  | ((with_reducible apply od_divI); first | (exact ⟨by decide, by decide⟩) | (exact ⟨by omega, by omega⟩))
  | ((with_reducible apply od_powI); exact ⟨by decide, by decide, by decide⟩)
  | with_reducible exact od_leI
  | with_reducible exact od_ltI
  | with_reducible exact od_gtI
  | with_reducible exact od_geI
  | with_reducible exact od_eqI
  | with_reducible exact od_eqB
  | with_reducible exact od_neB
  | with_reducible exact od_neI
  | with_reducible exact od_eqS
  | with_reducible exact od_inS
  | ((with_reducible apply od_none); exact rfl)
  | ((with_reducible apply od_ix); exact rfl))
local macro_rules | `(tactic| walk_at "cd") => `(tactic| first
  | ((with_reducible apply cd_isStr); exact rfl)
  | ((with_reducible apply cd_isInt); exact rfl)
  | ((with_reducible apply cd_isBool); exact rfl)
  | ((with_reducible apply cd_isList); exact rfl)
  | ((with_reducible apply cd_isTuple); exact rfl)
  | ((with_reducible apply cd_isi); assumption)
  | ((with_reducible apply cd_len); assumption)
  | ((with_reducible apply cd_len); exact rfl)
  | with_reducible exact cd_intI
  | with_reducible exact cd_listof
  | ((with_reducible apply cd_str); assumption)
  | with_reducible exact cd_all)
local macro_rules | `(tactic| walk_at "px") => `(tactic| first
  | ((with_reducible apply px_var); exact rfl)
  | with_reducible exact px_c
  | ((with_reducible apply px_op); walk_at "px"; walk_at "px"; walk_at "pr")
  | ((with_reducible apply px_cb); walk_at "pa"; walk_at "pr")
  | ((with_reducible apply px_test); walk_at "px")
  | ((with_reducible apply px_B); walk_at "px")
  | ((with_reducible apply px_and); walk_at "px"; walk_at "px"))
local macro_rules | `(tactic| walk_at "pa") => `(tactic| first
  | with_reducible exact px_nil
  | ((with_reducible apply px_cons); walk_at "px"; walk_at "pa"))
local macro_rules | `(tactic| walk_at "pr") => `(tactic| first
  | exact px_addI
  | (apply px_ix; assumption; exact rfl)
  | (apply px_ix; assumption; assumption)
  | exact px_eqI
  | exact fun Q q => ⟨_, _, rfl, rfl, q⟩
  | exact fun Q q => ⟨_, _, rfl, rfl, (Or.inr ⟨by decide, by decide⟩), q⟩
  | exact fun Q q => ⟨_, _, rfl, rfl, (Or.inl ⟨by omega, by omega⟩), q⟩
  | exact fun Q q => ⟨_, _, rfl, rfl, (Or.inr ⟨by omega, by omega⟩), q⟩
  | exact fun Q q => ⟨_, _, rfl, rfl, ⟨by decide, by decide⟩, q⟩
  | exact fun Q q => ⟨_, _, rfl, rfl, ⟨by omega, by omega⟩, q⟩
  | exact fun Q q => ⟨_, _, rfl, rfl, ⟨by decide, by decide, by decide⟩, q⟩
  | exact fun Q q => ⟨_, _, rfl, rfl, (by decide), q⟩
  | exact fun Q q => ⟨_, _, rfl, rfl, (by omega), q⟩
  | (apply px_len; assumption)
  | exact px_intI
  | exact px_abs)
local macro_rules | `(tactic| walk_at "fg") => `(tactic| repeat first | exact Fg.nil | apply Fg.keep | apply Fg.drop)
section
variable {P : Program} {w : World} {K : PySem.W.Frag} {mg : Str → Option Value} {base : Heap}
/-! ### the two refusals -/
def cE (T : Tx K mg) : Bool → Addr
  | true => T.c_InvalidName
  | false => T.c_InvalidNumber
def nE : Bool → Str
  | true => "InvalidName"
  | false => "InvalidNumber"
abbrev xE (T : Tx K mg) (b : Bool) (d : D) : D := excD (cE T b) ["value"] (nE b) [d]
theorem xgE (T : Tx K mg) : ∀ b, Xg K (cE T b)
  | true => T.x_InvalidName
  | false => T.x_InvalidNumber
theorem noE (T : Tx K mg) : ∀ b, ∀ f ∈ (["code", "value"] : List Str), PySem.W.findIn K (.ref (cE T b)) f = some none
  | true => T.no_InvalidName
  | false => T.no_InvalidNumber
theorem anyE (T : Tx K mg) : ∀ b, PySem.W.exmAny K (.ref (cE T b)) [.ref T.c_DayError, .ref T.c_Missing, .ref T.c_NothingLeft] = some true
  | true => by
    unfold PySem.W.exmAny PySem.W.exmAny PySem.W.exmAny PySem.W.exmAny
    show (match PySem.W.exmOne K (.ref T.c_InvalidName) _, _ with | some b, some d => some (b || d) | _, _ => none) = _
    rw [T.ex_InvalidName_DayError, show PySem.W.exmOne K (.ref (cE T true)) (.ref T.c_Missing) = some false from T.ex_InvalidName_Missing, show PySem.W.exmOne K (.ref (cE T true)) (.ref T.c_NothingLeft) = some false from T.ex_InvalidName_NothingLeft]
    rfl
  | false => by
    unfold PySem.W.exmAny PySem.W.exmAny PySem.W.exmAny PySem.W.exmAny
    show (match PySem.W.exmOne K (.ref T.c_InvalidNumber) _, _ with | some b, some d => some (b || d) | _, _ => none) = _
    rw [T.ex_InvalidNumber_DayError, show PySem.W.exmOne K (.ref (cE T false)) (.ref T.c_Missing) = some false from T.ex_InvalidNumber_Missing, show PySem.W.exmOne K (.ref (cE T false)) (.ref T.c_NothingLeft) = some false from T.ex_InvalidNumber_NothingLeft]
    rfl
/-! ### _law_fields -/
def preFl (T : Tx K mg) (p : Addr × Obj) (as : List D) : Prop := ∃ b dd d, Zc (.ref (cE T b)) (some dd) p.2 ∧ as = [.cau p.1 dd (cE T b) (excN ["value"]) (excV (nE b) [d])]
def postFl (as : List D) (r : D) : Prop := ∀ a dd C ns c d, as = [.cau a dd C ns [d, c]] → r = .tup [d]
theorem ok_fields (T : Tx K mg) : FnQ P w K mg base 1 T.f__law_fields T.fd__law_fields ["_law_e"] (spQ K (preFl T) postFl) := by
  refine fn_quietD T.F__law_fields sc_Lfields (fun p as ⟨_, _, _, _, e⟩ => by rw [e]; rfl) (fun cdv A outer s H E p hf hr => ⟨_, (pss_cons (ps_if (pt_cmpR (q_in (K := K)) (q_xq (K := K) List.mem_cons_self hf (pv 0)) (pe_lst (pa_cons pe_str (pa_cons pe_str (pa_cons pe_str (pa_cons pe_str (pa_cons pe_str pa_nil)))))) (by rfl)) (pss_one (ps_ret (pe_tup (pa_cons (q_xq (K := K) List.mem_cons_self hf (pv 0)) pa_nil)))) pss_nil)
  (pss_cons (ps_if (pt_cmpR (q_in (K := K)) (q_xq (K := K) List.mem_cons_self hf (pv 0)) (pe_lst (pa_cons pe_str (pa_cons pe_str (pa_cons pe_str pa_nil)))) (by rfl)) (pss_one (ps_ret (pe_tup (pa_cons (q_xq (K := K) List.mem_cons_self hf (pv 0)) pa_nil)))) pss_nil)
  (pss_cons (ps_if (pt_cmpR (q_in (K := K)) (q_xq (K := K) List.mem_cons_self hf (pv 0)) (pe_lst (pa_cons pe_str (pa_cons pe_str (pa_cons pe_str pa_nil)))) (by rfl)) (pss_one (ps_ret (pe_tup (pa_cons (q_xq (K := K) List.mem_cons_self hf (pv 0)) pa_nil)))) pss_nil)
  (pss_cons (ps_if (pt_cmpR op_eq (q_xq (K := K) List.mem_cons_self hf (pv 0)) pe_str (nomark _)) (pss_one (ps_ret (pe_tup (pa_cons (q_xq (K := K) List.mem_cons_self hf (pv 0)) (pa_cons (q_xq (K := K) List.mem_cons_self hf (pv 0)) pa_nil))))) pss_nil)
  (pss_cons (ps_if (pt_cmpR op_eq (q_xq (K := K) List.mem_cons_self hf (pv 0)) pe_str (nomark _)) (pss_one (ps_ret (pe_tup (pa_cons (q_xq (K := K) List.mem_cons_self hf (pv 0)) pa_nil)))) pss_nil)
  (pss_one (ps_ret (pe_ifExp (pt_cmpR op_eq (q_xq (K := K) List.mem_cons_self hf (pv 0)) pe_str (nomark _)) (pe_tup (pa_cons (q_xq (K := K) List.mem_cons_self hf (pv 0)) pa_nil)) (pe_tup pa_nil))))))))), fun M as ⟨b, dd, d, hz, e⟩ => ?_⟩)
  subst e
  show Run K M [some (.cau p.1 dd (cE T b) (excN ["value"]) (excV (nE b) [d]))] _ _
  refine run_seq (run_ifT (et_B (ev_op1 (ev_xq (ev_var rfl) hz (xgE T b) (noE T b _ (by decide)) (by rfl)) (ev_lst1 (ea1 ev_cstr (ea1 ev_cstr (ea1 ev_cstr (ea1 ev_cstr (ea1 ev_cstr ea_nil))))) (Nat.le_of_ble_eq_true rfl)) (od_inQ (.inl rfl) rfl (xs := [.str "InvalidName", .str "InvalidNumber", .str "InvalidSection", .str "InvalidTimes", .str "InvalidStep"]) rfl))) (by cases b <;> decide +kernel) ?_)
  refine run_ret1 (ev_tup1 (ea1 (ev_xq (ev_var rfl) hz (xgE T b) (noE T b _ (by decide)) (by rfl)) ea_nil) (Nat.le_of_ble_eq_true rfl)) fun a dd C ns c d e => ?_
  cases e
  rfl
/-! ### _law_try -/
/-- what an asking does: it hands back d, or it is refused -/
def Ask (T : Tx K mg) (P : Program) (w : World) (base : Heap) (M : Ml) (L : Lm) (r : D) : Prop :=
  (∃ b d, LamD P w K mg base 5 M L (fun _ => False) (· = xE T b d) ∧ r = .tup [.str (nE b), .tup [d]]) ∨ ∃ d, LamD P w K mg base 5 M L (· = d) (fun _ => False) ∧ r = .tup [.str "", d]
theorem lam_more {k : Nat} {l l' : Ml} {L : Lm} {post px : D → Prop} (h : LamD P w K mg base k l L post px) (s : ∀ p ∈ l, p ∈ l') : LamD P w K mg base k l' L post px := fun l2 hl => h l2 fun p hp => hl p (s p hp)
theorem Ask.more (T : Tx K mg) {l l' : Ml} {L : Lm} {r : D} (h : Ask T P w base l L r) (s : ∀ p ∈ l, p ∈ l') : Ask T P w base l' L r := by
  rcases h with ⟨b, d, h, e⟩ | ⟨d, h, e⟩
  · exact .inl ⟨b, d, lam_more h s, e⟩
  · exact .inr ⟨d, lam_more h s, e⟩
def preTry (T : Tx K mg) (P : Program) (w : World) (base : Heap) (r : D) (M : Ml) (as : List D) : Prop := ∃ L, as = [.fob L] ∧ Ask T P w base M L r
def postTry (r : D) (_ : List D) (r' : D) : Prop := r' = r
theorem ok_try (T : Tx K mg) : FnOk P w K mg base CX0 6 T.f__law_try T.fd__law_try ["_law_ask"] (spG K (preTry T P w base) postTry) := by
  have GQ_Lfields := ok_fields (P := P) (w := w) (base := base) T
  have B_Lfields := Bd_Lfields T
  refine fn_runG T.F__law_try sc_Ltry (fun r M as ⟨_, e, _⟩ => by rw [e]; rfl) (fun cdv A outer s H E hr => ⟨_, (pss_one (ps_tryH rfl rfl sc_Ltry.nd takes0 (fun W pn xe tk _ => (pss_one (ps_ret (pe_tup (pa_cons pe_str (pa_cons (q_act (P := P) (w := w) (K := K) (mg := mg) (base := base) (i := 0) (a := "_law_ask") tk (show Room 5 _ from hr.mono (by decide)) rfl (Or.inl rfl)) pa_nil)))))) (HdOk.name (i := 1) (ht_tup3 ⟨by rfl, by decide, .inl T.m_DayError⟩ ⟨by rfl, by decide, .inl T.m_Missing⟩ ⟨by rfl, by decide, .inl T.m_NothingLeft⟩) rfl rfl (fun p _ hf => (pss_one (ps_ret (pe_tup (pa_cons (q_xq (K := K) List.mem_cons_self hf (pv 1)) (pa_cons (pe_callQ GQ_Lfields (L2H.roomH_mark (hr.mono (by decide)) _) List.mem_cons_self hf (by rfl) T.m__law_fields T.F__law_fields.kp B_Lfields (pa_cons (pv 1) pa_nil)) pa_nil)))))) HdOk.nil))), fun r M as ⟨L, e, hA⟩ => ?_⟩)
  subst e
  show Run K M [some (.fob L), none] _ _
  rcases hA with ⟨b, d, hL, er⟩ | ⟨d, hL, er⟩
  · refine run_try (fun x' ds' => x' = xE T b d ∧ ds' = [some (.fob L), none]) (fun W => ?_) (fun x' ds' ⟨e1, e2⟩ => ?_)
    · refine run_ret ((ev_tup (ea_cons ev_cstr (ea_cons (ev_act (M := M.tr K W fun x' ds' => x' = xE T b d ∧ ds' = [some (.fob L), none]) (R := fun _ => False) rfl rfl hL (fun d h => h) (fun x e => exk_D rfl ⟨e, rfl⟩)) ea_nil)) fun as ⟨_, _, _, _, _, _, _, h, _⟩ => h.elim).weak fun d ⟨_, _, _, _, _, _, _, _, _, h, _⟩ => h.elim)
    · subst e1 e2
      refine ⟨true, anyE T b, fun _ p dd hz => ?_, (fun e => nomatch e)⟩
      refine run_ret1 (ev_tup1 (ea1 (ev_xq (ev_var rfl) hz (xgE T b) (noE T b _ (by decide)) (by rfl)) (ea1 ((ev_callQ (RA := (· = [D.cau p.1 dd (cE T b) (excN ["value"]) (excV (nE b) [d])])) (ea1 (ev_var rfl) ea_nil) fun as e => ⟨⟨b, dd, d, hz, e⟩, fun d' q => q _ _ _ _ _ _ e⟩)) ea_nil)) (Nat.le_of_ble_eq_true rfl)) er.symm
  · refine run_try (fun x' ds' => False) (fun W => ?_) (fun x' ds' h => h.elim)
    exact run_ret1 (ev_tup1 (ea1 ev_cstr (ea1 (ev_act (M := M.tr K W fun x' ds' => False) rfl rfl hL (fun d h => h) (fun x h => h.elim)) ea_nil)) (Nat.le_of_ble_eq_true rfl)) er.symm
/-! ### _law_tries -/
def preTries (T : Tx K mg) (P : Program) (w : World) (base : Heap) (rs : List D) (M : Ml) (as : List D) : Prop := ∃ Ls : List Lm, as = [.list (Ls.map D.fob)] ∧ Ls.length = rs.length ∧ rs.length ≤ 1000 ∧ ∀ (i : Nat) L r, Ls[i]? = some L → rs[i]? = some r → Ask T P w base M L r
def postTries (rs : List D) (_ : List D) (r' : D) : Prop := r' = .list rs
theorem ok_tries (T : Tx K mg) : FnOk P w K mg base CX0 7 T.f__law_tries T.fd__law_tries ["_law_asks"] (spG K (preTries T P w base) postTries) := by
  have G_Ltry := ok_try (P := P) (w := w) (base := base) T
  have B_Ltry := Bd_Ltry T
  refine fn_runG T.F__law_tries sc_Ltries (fun r M as ⟨_, e, _⟩ => by rw [e]; rfl) (fun cdv A outer s H E hr => ⟨_, (pss_one (ps_ret (pe_lc (own := [("_law_ask", 1)]) (g := (gName 1)) (tt := tYes) (by rfl) sc_Ltries.nd (q_itany (K := K) (pv 0)) (blkOk_by (own := [("_law_ask", 1)]) (N := n_Ltries) (sc := defScope s_Ltries) (by decide +kernel)) (fun _ _ _ _ _ => (pg_name (i := 1) sc_Ltries.nd rfl (Or.inl rfl))) (fun _ _ _ _ _ => pts_nil) (fun _ _ _ _ _ => (pe_call G_Ltry (hr.mono (by decide)) (by rfl) T.m__law_try T.F__law_try.kp B_Ltry .nil pass0 (pa_cons (pv 1) pa_nil)))))), fun rs M as ⟨Ls, e, hl, hl2, hA⟩ => ?_⟩)
  subst e
  show Run K M [some (.list (Ls.map D.fob)), none] _ _
  refine run_ret1 ((ev_lcM (cs := Ls.zip rs) (inj := fun p => .fob p.1) (f := fun p => p.2) (ei_any (ev_var rfl) (by show some _ = some _; congr 1; rw [show (fun p : Lm × D => D.fob p.1) = D.fob ∘ (fun p : Lm × D => p.1) from rfl, ← List.map_map]; congr 1; exact (List.map_fst_zip (by omega)).symm)) (by rw [List.length_zip]; omega) fun c hc => eg_name ?_)) ?_
  · obtain ⟨i, hi, e⟩ := List.mem_iff_getElem.mp hc
    rw [List.getElem_zip] at e
    have h1 : Ls[i]? = some c.1 := by rw [← e]; exact List.getElem?_eq_getElem _
    have h2 : rs[i]? = some c.2 := by rw [← e]; exact List.getElem?_eq_getElem _
    exact (ev_callG (post := postTry) c.2 (ea1 (ev_var rfl) ea_nil) fun M' m => ⟨c.1, rfl, (hA i c.1 c.2 h1 h2).more T m.l⟩).weak fun d e => e
  · show D.list _ = _
    congr 1
    exact List.map_snd_zip (by omega)
end
end K2
namespace K2
open PySem L2 Rg RZ PyProof.Rows
local macro_rules | `(tactic| walk_at "ev") => `(tactic| first
  | with_reducible assumption
  | ((with_reducible apply ev_var); exact rfl)
  | with_reducible exact ev_cint
  | with_reducible exact ev_cbl
  | with_reducible exact ev_cnon
  | with_reducible exact ev_cstr
  | ((with_reducible apply ev_c); with_reducible assumption)
  | with_reducible exact ev_craw
  | ((with_reducible apply ev_tup1); walk_at "ea"; exact Nat.le_of_ble_eq_true rfl)
  | ((with_reducible apply ev_lst1); walk_at "ea"; exact Nat.le_of_ble_eq_true rfl)
  | ((with_reducible apply ev_op1); walk_at "ev"; walk_at "ev"; walk_at "od")
  | ((with_reducible apply ev_un1); walk_at "ev"; exact ud_neg)
  | ((with_reducible apply ev_isSeq); walk_at "ev"; walk_at "ea"; exact rfl; exact rfl)
  | ((with_reducible apply ev_cb1); walk_at "ea"; walk_at "cd")
  | ((with_reducible apply ev_chainB); walk_at "ev"; walk_at "ev"; walk_at "od"; walk_at "ev"; walk_at "od")
  | ((with_reducible apply ev_andF); walk_at "ev"; exact rfl)
  | ((with_reducible apply ev_andT); walk_at "ev"; exact rfl; walk_at "ev")
  | ((with_reducible apply ev_andB); walk_at "ev"; intro _; walk_at "ev")
  | ((with_reducible apply ev_orT); walk_at "ev"; exact rfl)
  | ((with_reducible apply ev_orF); walk_at "ev"; exact rfl; walk_at "ev")
  | ((with_reducible apply ev_orB); walk_at "ev"; intro _; walk_at "ev")
  | ((with_reducible apply ev_notV); walk_at "ev"))
local macro_rules | `(tactic| walk_at "et") => `(tactic| first
  | ((with_reducible apply et_B); walk_at "ev")
  | ((with_reducible apply et_test); walk_at "ev")
  | ((with_reducible apply et_not); walk_at "et")
  | ((with_reducible apply et_orT); walk_at "et"; exact rfl)
  | ((with_reducible apply et_orF); walk_at "et"; exact rfl; walk_at "et")
  | ((with_reducible apply et_or); walk_at "et"; intro _; walk_at "et")
  | ((with_reducible apply et_andF); walk_at "et"; exact rfl)
  | ((with_reducible apply et_andT); walk_at "et"; exact rfl; walk_at "et")
  | ((with_reducible apply et_and); walk_at "et"; intro _; walk_at "et"))
local macro_rules | `(tactic| walk_at "ea") => `(tactic| first
  | with_reducible exact ea_nil
  | ((with_reducible apply ea1); walk_at "ev"; walk_at "ea"))
local macro_rules | `(tactic| walk_at "od") => `(tactic| first
  | with_reducible exact od_addI
  | with_reducible exact od_subI
  | ((with_reducible apply od_addS); (try simp only [PySem.Str.length_append]); omega)
  | ((with_reducible apply od_catL); exact Nat.le_of_ble_eq_true rfl)
  | ((with_reducible apply od_modI); first | decide | omega)
  | ((with_reducible apply od_mulI); first | (exact Or.inr ⟨by decide, by decide⟩) | (exact Or.inl ⟨by decide, by decide⟩) | (exact Or.inl ⟨by omega, by omega⟩) | (exact Or.inr ⟨by omega, by omega⟩))
  | ((with_reducible apply od_divI); first | (exact ⟨by decide, by decide⟩) | (exact ⟨by omega, by omega⟩))
  | ((with_reducible apply od_powI); exact ⟨by decide, by decide, by decide⟩)
  | with_reducible exact od_leI
  | with_reducible exact od_ltI
  | with_reducible exact od_gtI
  | with_reducible exact od_geI
  | with_reducible exact od_eqI
  | with_reducible exact od_eqB
  | with_reducible exact od_neB
  | with_reducible exact od_neI
  | with_reducible exact od_eqS
  | with_reducible exact od_inS
  | ((with_reducible apply od_none); exact rfl)
  | ((with_reducible apply od_ix); exact rfl))
local macro_rules | `(tactic| walk_at "cd") => `(tactic| first
  | ((with_reducible apply cd_isStr); exact rfl)
  | ((with_reducible apply cd_isInt); exact rfl)
  | ((with_reducible apply cd_isBool); exact rfl)
  | ((with_reducible apply cd_isList); exact rfl)
  | ((with_reducible apply cd_isTuple); exact rfl)
  | ((with_reducible apply cd_isi); assumption)
  | ((with_reducible apply cd_len); assumption)
  | ((with_reducible apply cd_len); exact rfl)
  | with_reducible exact cd_intI
  | with_reducible exact cd_listof
  | ((with_reducible apply cd_str); assumption)
  | with_reducible exact cd_all)
local macro_rules | `(tactic| walk_at "px") => `(tactic| first
  | ((with_reducible apply px_var); exact rfl)
  | with_reducible exact px_c
  | ((with_reducible apply px_op); walk_at "px"; walk_at "px"; walk_at "pr")
  | ((with_reducible apply px_cb); walk_at "pa"; walk_at "pr")
  | ((with_reducible apply px_test); walk_at "px")
  | ((with_reducible apply px_B); walk_at "px")
  | ((with_reducible apply px_and); walk_at "px"; walk_at "px"))
local macro_rules | `(tactic| walk_at "pa") => `(tactic| first
  | with_reducible exact px_nil
  | ((with_reducible apply px_cons); walk_at "px"; walk_at "pa"))
local macro_rules | `(tactic| walk_at "pr") => `(tactic| first
  | exact px_addI
  | (apply px_ix; assumption; exact rfl)
  | (apply px_ix; assumption; assumption)
  | exact px_eqI
  | exact fun Q q => ⟨_, _, rfl, rfl, q⟩
  | exact fun Q q => ⟨_, _, rfl, rfl, (Or.inr ⟨by decide, by decide⟩), q⟩
  | exact fun Q q => ⟨_, _, rfl, rfl, (Or.inl ⟨by omega, by omega⟩), q⟩
  | exact fun Q q => ⟨_, _, rfl, rfl, (Or.inr ⟨by omega, by omega⟩), q⟩
  | exact fun Q q => ⟨_, _, rfl, rfl, ⟨by decide, by decide⟩, q⟩
  | exact fun Q q => ⟨_, _, rfl, rfl, ⟨by omega, by omega⟩, q⟩
  | exact fun Q q => ⟨_, _, rfl, rfl, ⟨by decide, by decide, by decide⟩, q⟩
  | exact fun Q q => ⟨_, _, rfl, rfl, (by decide), q⟩
  | exact fun Q q => ⟨_, _, rfl, rfl, (by omega), q⟩
  | (apply px_len; assumption)
  | exact px_intI
  | exact px_abs)
local macro_rules | `(tactic| walk_at "fg") => `(tactic| repeat first | exact Fg.nil | apply Fg.keep | apply Fg.drop)
/-! ### _law_words: words that differ -/
def lettersOk (x : Str) : Prop := ∀ c ∈ x.cps.toList, c ∈ lets.cps.toList
structure Word (x : Str) : Prop where
  ok : lettersOk x
  lo : 1 ≤ x.length
  hi : x.length ≤ 4
theorem str_len (x : Str) : x.length = x.cps.toList.length := rfl
theorem cps_app (x y : Str) : (x ++ y).cps.toList = x.cps.toList ++ y.cps.toList := Array.toList_append
theorem Word.name {x : Str} (h : Word x) : isNameS x = true := by
  have h1 := h.lo
  have h2 := h.hi
  simp only [isNameS, Bool.and_eq_true, decide_eq_true_eq, List.all_eq_true]
  exact ⟨⟨by omega, by omega⟩, fun c hc => h.ok c hc⟩
theorem lets_small : ∀ c ∈ lets.cps.toList, c < 0x110000 := by decide +kernel
def letC (j : Nat) : Nat := lets.cps.toList.getD j 0
theorem let_at : ∀ j : Fin 26, L2.atI lets.cps.toList (j.val : Int) = some (letC j.val) := by decide +kernel
theorem let_in : ∀ j : Fin 26, letC j.val ∈ lets.cps.toList := by decide +kernel
theorem let_inj : ∀ i j : Fin 26, letC i.val = letC j.val → i = j := by decide +kernel
theorem item_let {j : Nat} (h : j < 26) : itemD (.str lets) (j : Int) = some (.str ⟨#[letC j]⟩) := by
  show (if lets.length ≤ 100000 then (L2.atI lets.cps.toList (j : Int)).map (fun c => D.str ⟨#[c]⟩) else none) = _
  rw [if_pos (by decide +kernel), let_at ⟨j, h⟩]
  rfl
abbrev wordS (st : Str) (z : Int) (j : Nat) : Str := cutS st none (some z) ++ ⟨#[letC j]⟩ ++ cutS st (some z) none
theorem word_cps (st : Str) (z : Nat) (h : z ≤ st.length) (j : Nat) : (wordS st z j).cps.toList = st.cps.toList.take z ++ [letC j] ++ st.cps.toList.drop z := by
  have e1 : (cutS st none (some (z : Int))).cps.toList = st.cps.toList.take z := by
    show (((st.cps.toList.drop (HT.sIx st.length 0 none)).take (HT.sIx st.length st.length (some (z : Int)) - HT.sIx st.length 0 none)).toArray).toList = _
    rw [HT.sIx_none, HT.sIx_nat, Nat.min_eq_left h]
    simp
  have e2 : (cutS st (some (z : Int)) none).cps.toList = st.cps.toList.drop z := by
    show (((st.cps.toList.drop (HT.sIx st.length 0 (some (z : Int)))).take (HT.sIx st.length st.length none - HT.sIx st.length 0 (some (z : Int)))).toArray).toList = _
    rw [HT.sIx_none, HT.sIx_nat, Nat.min_eq_left h]
    show (st.cps.toList.drop z).take (st.length - z) = _
    apply List.take_of_length_le
    rw [List.length_drop]
    exact Nat.le_refl _
  rw [cps_app, cps_app, e1, e2]
theorem word_ok {st : Str} {z : Nat} {j : Nat} (h : z ≤ st.length) (hs : lettersOk st) (hl : st.length ≤ 3) (hj : j < 26) : Word (wordS st z j) := by
  have e := word_cps st z h j
  have l : (wordS st z j).length = st.length + 1 := by
    rw [str_len, e]
    simp only [List.length_append, List.length_take, List.length_drop, List.length_singleton]
    rw [str_len] at h ⊢
    omega
  refine ⟨fun c hc => ?_, by omega, by omega⟩
  rw [e, List.mem_append, List.mem_append] at hc
  rcases hc with (hc | hc) | hc
  · exact hs c (List.mem_of_mem_take hc)
  · rw [List.mem_singleton.mp hc]; exact let_in ⟨j, hj⟩
  · exact hs c (List.mem_of_mem_drop hc)
theorem word_inj {st : Str} {z : Nat} {i j : Nat} (h : z ≤ st.length) (hi : i < 26) (hj : j < 26) (e : wordS st z i = wordS st z j) : i = j := by
  have e2 := congrArg (fun x : Str => x.cps.toList) e
  simp only [word_cps st z h] at e2
  rw [List.append_assoc, List.append_assoc] at e2
  have e3 := List.append_cancel_left e2
  injection e3 with e3 _
  have := let_inj ⟨i, hi⟩ ⟨j, hj⟩ e3
  exact congrArg Fin.val this
section
variable {P : Program} {w : World} {K : PySem.W.Frag} {mg : Str → Option Value} {base : Heap}
def preWords (K : PySem.W.Frag) (M : Ml) (as : List D) : Prop := ∃ b, ∃ m : Nat, as = [.raw (.ref b), .int m] ∧ (b, IsBag K) ∈ M ∧ m ≤ 26
def postWords (as : List D) (r : D) : Prop := ∃ ws : List Str, r = .list (ws.map D.str) ∧ (∀ b, ∀ m : Nat, as = [.raw (.ref b), .int m] → ws.length = m) ∧ ws.Nodup ∧ ∀ x ∈ ws, Word x
theorem gap_inj {f g : Int} {i j : Nat} (hg : D.int g ∈ [D.int 1, D.int 3, D.int 5, D.int 7, D.int 9, D.int 11, D.int 15]) (hi : i < 26) (hj : j < 26) (e : (f + g * i) % 26 = (f + g * j) % 26) : i = j := by
  have hg2 : g = 1 ∨ g = 3 ∨ g = 5 ∨ g = 7 ∨ g = 9 ∨ g = 11 ∨ g = 15 := by simpa using hg
  rcases hg2 with rfl | rfl | rfl | rfl | rfl | rfl | rfl <;> omega
theorem ok_words (T : Tx K mg) : FnOk P w K mg base CX0 3 T.f__law_words T.fd__law_words ["_law_bag_here", "_law_many"] (spF K (preWords K) postWords) := by
  have G_Ldraw := ok_draw (P := P) (w := w) (base := base) T
  have B_Ldraw := B_draw T
  have G_Lof := ok_of (P := P) (w := w) (base := base) T
  have B_Lof := Bd_Lof T
  refine fn_run T.F__law_words sc_Lwords (fun M as ⟨_, _, e, _⟩ => by rw [e]; rfl) (fun cdv A outer s H E hr => ⟨_, (pss_cons (ps_asg (pe_tup (pa_cons pe_str (pa_cons pe_str pa_nil))) (q_tup (K := K) (n := 2) rfl (pgs_cons (pg_name (i := 2) sc_Lwords.nd rfl (Or.inr rfl)) (pgs_cons (pg_name (i := 3) sc_Lwords.nd rfl (Or.inr rfl)) pgs_nil))))
  (pss_cons (ps_for PassesOwn.never rfl (pi_range1 rfl T.b_range (pa_cons (pe_call G_Ldraw (hr.mono (by decide)) (by rfl) T.m__law_draw T.F__law_draw.kp B_Ldraw .nil pass0 (pa_cons (pv 0) (pa_cons pe_int pa_nil))) pa_nil)) (pg_name (i := 4) sc_Lwords.nd rfl (Or.inl rfl))
    (pss_one (ps_set (i := 3) sc_Lwords.nd rfl (Or.inr rfl) (pe_op (q_add (K := K)) (pv 3) (pe_call G_Lof (hr.mono (by decide)) (by rfl) T.m__law_of T.F__law_of.kp B_Lof .nil pass0 (pa_cons (pv 0) (pa_cons (pv 2) pa_nil)))))))
  (pss_cons (ps_asg (pe_tup (pa_cons (pe_call G_Ldraw (hr.mono (by decide)) (by rfl) T.m__law_draw T.F__law_draw.kp B_Ldraw .nil pass0 (pa_cons (pv 0) (pa_cons (pe_op (q_add (K := K)) (pe_callB (q_len (K := K)) (by rfl) T.b_len bt_len (pa_cons (pv 3) pa_nil)) pe_int) pa_nil))) (pa_cons (pe_call G_Ldraw (hr.mono (by decide)) (by rfl) T.m__law_draw T.F__law_draw.kp B_Ldraw .nil pass0 (pa_cons (pv 0) (pa_cons pe_int pa_nil))) (pa_cons (pe_call G_Lof (hr.mono (by decide)) (by rfl) T.m__law_of T.F__law_of.kp B_Lof .nil pass0 (pa_cons (pv 0) (pa_cons (pe_lst (pa_cons pe_int (pa_cons pe_int (pa_cons pe_int (pa_cons pe_int (pa_cons pe_int (pa_cons pe_int (pa_cons pe_int pa_nil)))))))) pa_nil))) pa_nil)))) (q_tup (K := K) (n := 3) rfl (pgs_cons (pg_name (i := 5) sc_Lwords.nd rfl (Or.inr rfl)) (pgs_cons (pg_name (i := 6) sc_Lwords.nd rfl (Or.inr rfl)) (pgs_cons (pg_name (i := 7) sc_Lwords.nd rfl (Or.inr rfl)) pgs_nil)))))
  (pss_one (ps_ret (pe_lc (own := [("_law_k", 4)]) (g := (gName 4)) (tt := tYes) (by rfl) sc_Lwords.nd (pi_range1 rfl T.b_range (pa_cons (pv 1) pa_nil)) (blkOk_by (own := [("_law_k", 4)]) (N := n_Lwords) (sc := defScope s_Lwords) (by decide +kernel)) (fun _ _ _ _ _ => (pg_name (i := 4) sc_Lwords.nd rfl (Or.inl rfl))) (fun _ _ _ _ _ => pts_nil) (fun _ _ _ _ _ => (pe_op (q_add (K := K)) (pe_op (q_add (K := K)) (pe_slice (q_sl (K := K)) (pv 3) po_none (po_some (pv 5))) (pe_ix (q_ix (K := K)) (pv 2) (pe_op op_modN (pe_callTy call_int1 (by rfl) T.b_int bt_int (pa_cons (pe_op (q_add (K := K)) (pv 6) (pe_op op_mul (pv 7) (pv 4))) pa_nil)) pe_int) (fun _ _ => rfl))) (pe_slice (q_sl (K := K)) (pv 3) (po_some (pv 5)) po_none))))))))), fun M as ⟨b, m, e, hm, hl⟩ => ?_⟩)
  subst e
  show Run K M [some (.raw (.ref b)), some (.int m), none, none, none, none, none, none] _ _
  refine run_seq (run_asgG (ev_tup1 (ea1 ev_cstr (ea1 ev_cstr ea_nil)) (Nat.le_of_ble_eq_true rfl)) fun d e => ?_)
  subst e
  refine eg_tup (egs_cons (egs_cons (egs_nil ?_)))
  refine run_seq (run_for (ei_range1 (ea_cons (ev_draw (ev_var rfl) ev_cint hm (by decide) (by decide)) ea_nil) fun l ⟨a, r, e, ⟨i, hi, ea⟩, er⟩ => ⟨i, by rw [e, ea, er], by omega, by omega⟩) fun es ⟨j, ⟨a, r, e, ⟨i, hi, ea⟩, er⟩, ees⟩ => ?_)
  have ej : j = i := by
    subst ea; subst er
    injection e with e _
    injection e
  subst ej
  subst ees
  have hlen : (rangeD 0 j.toNat).length = j.toNat := by simp [rangeD]
  refine ⟨fun i ds => ∃ (st : Str) (x : Option D), ds = [some (.raw (.ref b)), some (.int m), some (.str lets), some (.str st), x, none, none, none] ∧ st.length = i ∧ lettersOk st ∧ i ≤ j.toNat, ⟨"", none, rfl, rfl, fun c h => (by have h : c ∈ ([] : List Nat) := h; cases h), Nat.zero_le _⟩, fun i d ds' hd ⟨st, x, e, hs, ho, _⟩ => ?_, fun ds' ⟨st, x, e, hs, ho, _⟩ => ?_⟩
  · subst e
    have hi2 : i < j.toNat := by
      have := (List.getElem?_eq_some_iff.mp hd).1
      rw [hlen] at this
      exact this
    refine eg_name (run_asgN (ev_op (R := fun d' => ∃ c, c ∈ lets.cps.toList ∧ d' = .str (st ++ ⟨#[c]⟩)) (ev_var rfl) (ev_of (es := lets.cps.toList.map fun c => .str ⟨#[c]⟩) (ev_var rfl) (ev_var rfl) hm rfl (by rfl)) fun a b' ea hb => ?_) fun d' ⟨c, hc, ed⟩ => ?_)
    · subst ea
      obtain ⟨c, hc, rfl⟩ := List.mem_map.mp hb
      have hh : (⟨#[c]⟩ : Str).length = 1 := rfl
      exact fun M' G H x y Q m rx ry w q => od_addS (by omega) M' G H x y Q m rx ry w fun v d G' H' s' w' r' e => q v d G' H' s' w' r' ⟨c, hc, e⟩
    · subst ed
      refine ⟨st ++ ⟨#[c]⟩, some d, rfl, ?_, fun c' h => ?_, hi2⟩
      · rw [PySem.Str.length_append]
        have : (⟨#[c]⟩ : Str).length = 1 := rfl
        omega
      · rw [cps_app, List.mem_append] at h
        rcases h with h | h
        · exact ho c' h
        · have : c' = c := by simpa using h
          rw [this]; exact hc
  · subst e
    rw [hlen] at hs
    have hs3 : st.length ≤ 3 := by omega
    have hl2 : lenD (.str st) = some st.length := if_pos (by omega)
    refine run_seq (run_asgG (ev_tup (ea_cons (ev_draw (m := (st.length : Int) + 1) (ev_var rfl) (by walk_at "ev") hm (by omega) (by omega)) (ea_cons (ev_draw (ev_var rfl) ev_cint hm (by decide) (by decide)) (ea_cons (ev_of (es := [.int 1, .int 3, .int 5, .int 7, .int 9, .int 11, .int 15]) (ev_var rfl) (by walk_at "ev") hm rfl rfl) ea_nil))) ?_) fun d ⟨as, ed, a1, r1, e1, ⟨z, hz, ez⟩, a2, r2, e2, ⟨f, hf, ef⟩, a3, r3, e3, hg, e4⟩ => ?_)
    · intro as ⟨a1, r1, e1, _, a2, r2, e2, _, a3, r3, e3, _, e4⟩
      subst e4 e3 e2 e1
      exact Nat.le_of_ble_eq_true rfl
    subst e4 e3 e2 e1 ed ez ef
    obtain ⟨g, eg⟩ : ∃ g, a3 = .int g := by
      simp only [List.mem_cons, List.not_mem_nil, or_false] at hg
      rcases hg with h | h | h | h | h | h | h <;> exact ⟨_, h⟩
    subst eg
    have hg0 : 1 ≤ g ∧ g ≤ 15 := by
      have : g = 1 ∨ g = 3 ∨ g = 5 ∨ g = 7 ∨ g = 9 ∨ g = 11 ∨ g = 15 := by simpa using hg
      omega
    obtain ⟨zn, rfl⟩ := Int.eq_ofNat_of_zero_le hz.1
    have hzn : zn ≤ st.length := by omega
    refine eg_tup (egs_cons (egs_cons (egs_cons (egs_nil ?_))))
    have key : ∀ k : Nat, k < m → ∃ q : Nat, q < 26 ∧ (f + g * k).fmod 26 = (q : Int) ∧ ((f + g * k) % 26 = q) := fun k hk => by
      have h1 : (f + g * k).fmod 26 = (f + g * k) % 26 := Int.fmod_eq_emod_of_nonneg _ (by decide)
      refine ⟨((f + g * k) % 26).toNat, by omega, ?_, ?_⟩
      · rw [h1]; omega
      · omega
    let qf : Nat → Nat := fun k => ((f + g * k) % 26).toNat
    have hq : ∀ k, qf k < 26 := fun k => by show ((f + g * k) % 26).toNat < 26; omega
    have hqe : ∀ k : Nat, (f + g * k).fmod 26 = (qf k : Int) := fun k => by
      have h1 : (f + g * k).fmod 26 = (f + g * k) % 26 := Int.fmod_eq_emod_of_nonneg _ (by decide)
      rw [h1]
      show _ = ((((f + g * k) % 26).toNat : Nat) : Int)
      omega
    refine run_ret1 (ev_lcM (cs := List.range m) (inj := fun (k : Nat) => .int (0 + k)) (f := fun k => .str (wordS st zn (qf k))) (ei_range (n := (m : Int)) (ea1 (ev_var rfl) ea_nil) ⟨by omega, by omega⟩) (by rw [List.length_range]; omega) fun k hk => ?_) ?_
    · have hk2 := List.mem_range.mp hk
      have c1 : (cutS st none (some (zn : Int))).length ≤ 3 := by
        rw [str_len]
        show (((st.cps.toList.drop _).take _).toArray).toList.length ≤ 3
        simp only [List.length_take, List.length_drop]
        rw [str_len] at hs3
        omega
      have c2 : (cutS st (some (zn : Int)) none).length ≤ 3 := by
        rw [str_len]
        show (((st.cps.toList.drop _).take _).toArray).toList.length ≤ 3
        simp only [List.length_take, List.length_drop]
        rw [str_len] at hs3
        omega
      have c3 : (⟨#[letC (qf k)]⟩ : Str).length = 1 := rfl
      have z0 : (0 : Int) + (k : Int) = k := by omega
      rw [z0]
      refine eg_name (ev_op1 (ev_op1 (ev_slS (ev_var rfl) eo_none (eo_some (ev_var rfl)) (by omega)) (ev_op1 (ev_var rfl) (ev_eq (d := .int ((f + g * (k : Int)).fmod 26)) (by walk_at "ev") (by first | rfl | (congr 1))) (od_ix (e := .str ⟨#[letC (qf k)]⟩) ?_)) (od_addS ?_)) (ev_slS (ev_var rfl) (eo_some (ev_var rfl)) eo_none (by omega)) (od_addS ?_))
      · rw [hqe k]; exact item_let (hq k)
      · omega
      · rw [PySem.Str.length_append]; omega
    · refine ⟨(List.range m).map fun k => wordS st zn (qf k), ?_, fun b' m' e => ?_, ?_, fun x hx => ?_⟩
      · rw [List.map_map]; rfl
      · rw [List.length_map, List.length_range]
        injection e with _ e
        injection e with e
        injection e with e
        omega
      · refine nodup_map List.nodup_range fun i hi j hj e => ?_
        have e2 := word_inj hzn (hq i) (hq j) e
        refine gap_inj (f := f) (g := g) hg (by have := List.mem_range.mp hi; omega) (by have := List.mem_range.mp hj; omega) ?_
        have e3 : ((f + g * i) % 26).toNat = ((f + g * j) % 26).toNat := e2
        omega
      · obtain ⟨k, hk, rfl⟩ := List.mem_map.mp hx
        exact word_ok hzn ho hs3 (hq k)
theorem ev_words {M : Mt} {ds : DS} {ta tb : TE} {b : Addr} {m : Nat} {E : XK} (ha : Ev K M ds ta (· = .raw (.ref b))) (hb : Ev K M ds tb (· = .int m)) (hm : (b, IsBag K) ∈ M) (hl : m ≤ 26) :
    Ev K M ds (tCall (spF K (preWords K) postWords) [] E (tCons ta (tCons tb tNil))) (fun d => ∃ ws : List Str, d = .list (ws.map D.str) ∧ ws.length = m ∧ ws.Nodup ∧ ∀ x ∈ ws, Word x) :=
  (ev_call1 (ea1 ha (ea1 hb ea_nil)) fun M' ms => ⟨b, m, rfl, ms.l _ hm, hl⟩).weak fun d ⟨ws, e, h1, h2, h3⟩ => ⟨ws, e, h1 b m rfl, h2, h3⟩
end
end K2
namespace Rg
open PySem PySem.Spec L2 RZ PyProof.Rows
/-! ### keywords behind self -/
def kgs1 {α : Type} : List α → List α → List α
  | [s], [a] => [s, a]
  | _, _ => []
def kgs2r {α : Type} : List α → List α → List α
  | [s], [a, b] => [s, b, a]
  | _, _ => []
section
variable {K : PySem.W.Frag} {x qual : Str} {st : Stmt} {f : Addr} {fd : FuncData}
theorem kgs1_rel {vs : List V} {us : List Value} {zs : List V} {ws : List Value} (r : Vals vs us) (r' : Vals zs ws) : Vals (kgs1 vs zs) (kgs1 us ws) := by
  match r, r' with
  | .cons p .nil, .cons q .nil => exact .cons p (.cons q .nil)
  | .cons p .nil, .nil => exact .nil
  | .cons p .nil, .cons _ (.cons _ _) => exact .nil
  | .nil, _ => exact .nil
  | .cons _ (.cons _ _), _ => exact .nil
theorem kgs2r_rel {vs : List V} {us : List Value} {zs : List V} {ws : List Value} (r : Vals vs us) (r' : Vals zs ws) : Vals (kgs2r vs zs) (kgs2r us ws) := by
  match r, r' with
  | .cons p .nil, .cons q (.cons q2 .nil) => exact .cons p (.cons q2 (.cons q .nil))
  | .cons p .nil, .nil => exact .nil
  | .cons p .nil, .cons _ .nil => exact .nil
  | .cons p .nil, .cons _ (.cons _ (.cons _ _)) => exact .nil
  | .nil, _ => exact .nil
  | .cons _ (.cons _ _), _ => exact .nil
theorem kbs1 {p0 p : Str} (F : Fun K x qual st f fd) (h : ∀ (kV doc pm : Value) (an : Option Addr) (cdv ct : Value) (s a : Value), bindArgs (PySem.W.fnOf x qual (defArgs st) (defBody st) (defScope st) .none kV doc pm an cdv ct) ⟨[s], [(p, a)]⟩ = pure [(p0, s), (p, a)]) : KBinds K fd [p0, p] [p] kgs1 kgs1 := by
  obtain ⟨oc, od, kV, doc, pm, an, cdv, ct, osl, rfl, lk, hcd⟩ := F.ex
  refine ⟨fun s us ws hu hl => ?_, kgs1_rel⟩
  match us, ws, hu, hl with
  | [s], [a], _, _ => exact .of_eq (h kV doc pm an cdv ct s a)
theorem kbn2r {p0 p1 p2 : Str} (F : Fun K x qual st f fd) (h : ∀ (kV doc pm : Value) (an : Option Addr) (cdv ct : Value) (s a b : Value), bindArgs (PySem.W.fnOf x qual (defArgs st) (defBody st) (defScope st) .none kV doc pm an cdv ct) ⟨[s], [(p2, a), (p1, b)]⟩ = pure [(p0, s), (p1, b), (p2, a)]) : KBn K fd [p0, p1, p2] 1 [p2, p1] kgs2r kgs2r := by
  obtain ⟨oc, od, kV, doc, pm, an, cdv, ct, osl, rfl, lk, hcd⟩ := F.ex
  refine ⟨fun s us ws _ hu hl => ?_, kgs2r_rel⟩
  match us, ws, hu, hl with
  | [s], [a, b], _, _ => exact .of_eq (h kV doc pm an cdv ct s a b)
end
section
variable {K : PySem.W.Frag} {M : Mt} {o : Own} {ds : DS} {te : TE} {ta : TA} {E : XK} {C g : Addr} {mn : Str} {ns : List Str} {es : List D}
theorem evw_meGK {R : Own → D → Prop} {RA : List D → Prop} {pre : Ml → Own → List D → Prop} {post px : Own → List D → Own → D → Prop} {gV : List V → List V → List V} {gD : D → List D → List D} (he : Ev K (M.adds (ownM K o)) ds te (· = .obj C ns es)) (c : Cls K C) (hm : Meth K C mn g) (hn : mn ∉ ns) (ha : EvA K (M.adds (ownM K o)) ds ta RA)
    (hg : ∀ G v d vs as, RA as → Rp K G v d → RpAll K G vs as → RpAll K G (gV [v] vs) (gD d as))
    (h : ∀ as, RA as → (∀ M', MSub M M' → pre (ownM K o ++ M'.l) [] (gD (.obj C ns es) as)) ∧ (∀ o' d, post [] (gD (.obj C ns es) as) o' d → R (o' ++ o) d) ∧ ∀ o' x, ¬ px [] (gD (.obj C ns es) as) o' x) :
    EvW K M o ds (tMeGK K g mn (spW K pre post px) gV E te ta) R := fun M' σ G H Q m s w q =>
  he (M'.adds (ownM K o)) σ G H _ m.adds2 s w fun v d1 G1 H1 s1 w1 r1 e => by
    subst e
    obtain ⟨a, dx, fs, rfl, h1, h2⟩ := obj_at r1
    refine ⟨a, C, dx, fs, rfl, w1.sub _ _ h1, c, hm, look_none h2 hn, ha (M'.adds (ownM K o)) σ G1 H1 _ m.adds2 (s.mono s1) w1 fun vs as G2 H2 s2 w2 r2 e2 => ?_⟩
    have e0 : ∀ o', ownM K (o' ++ o) ++ M'.l = ownM K o' ++ (ownM K o ++ M'.l) := fun o' => by rw [ownM_app, List.append_assoc]
    refine ⟨ownM K o ++ M'.l, [], G2, gD (.obj C ns es) as, w2.toWd0, hg G2 _ _ vs as e2 (r1.mono s2) r2, (h as e2).1 M' m, fun v d o' G3 H3 s3 w3 r3 p3 => ?_, fun _ _ x o' _ _ _ _ _ z => ((h as e2).2.2 o' x z).elim⟩
    exact q v d (o' ++ o) G3 H3 ((s1.trans s2).trans s3) ⟨by show Wd0 (ownM K (o' ++ o) ++ M'.l) G3 H3; rw [e0]; exact w3, fun l' cls d σ G4 H4 x s4 => w2.xk l' cls d σ G4 H4 x (s3.trans s4)⟩ r3 ((h as e2).2.1 o' d p3)
theorem kgs1_rp {G : Hp} {v : V} {d d1 : D} {vs : List V} (r : Rp K G v d) (rs : RpAll K G vs [d1]) : RpAll K G (kgs1 [v] vs) [d, d1] := by
  cases rs with
  | cons p rs =>
    cases rs
    exact .cons r (.cons p .nil)
theorem kgs2r_rp {G : Hp} {p : Addr} {vs : List V} {d1 d2 : D} (rs : RpAll K G vs [d1, d2]) : RpAll K G (kgs2r [.ref p] vs) [.raw (.ref p), d2, d1] := by
  cases rs with
  | cons q rs =>
    cases rs with
    | cons q2 rs =>
      cases rs
      exact .cons (.raw _) (.cons q2 (.cons q .nil))
end
section
variable {K : PySem.W.Frag} {M : Mt} {o : Own} {ds : DS}
theorem od_neS {a b : Str} : OpD K M rNe (.str a) (.str b) (· = .bl (!decide (a = b))) := fun M' G H x y Q m rx ry w q => by
  cases rx; cases ry
  refine ⟨rfl, q _ _ G H (Same.refl G) w ?_ rfl⟩
  rw [show decide (V.str a = V.str b) = decide (a = b) by simp]
  exact .bl _
theorem evw_lstR {ta : TA} {RA : List D → Prop} (ha : EvA K (M.adds (ownM K o)) ds ta RA) (hl : ∀ as, RA as → as.length ≤ 100000) : EvW K M o ds (tLst ta) (fun o' d => ∃ p as, RA as ∧ o' = (p, .lst as) :: o ∧ d = .raw (.ref p)) := fun M' σ G H Q m s w q =>
  ha (M'.adds (ownM K o)) σ G H _ m.adds2 s w fun vs es G1 H1 s1 w1 r1 e =>
    ⟨by rw [r1.length]; exact Nat.le_trans (hl es e) (by decide), fun p hp => q (.ref p) (.raw (.ref p)) ((p, .lst es) :: o) G1 _ s1 (w1.newW hp ⟨vs, rfl, r1⟩) (.raw _) ⟨p, es, e, rfl, rfl⟩⟩
theorem evw_appendR {to : TE} {tx : TE} {p : Addr} {xs : List D} {R : D → Prop} (ho : Ev K (M.adds (ownM K ((p, .lst xs) :: o))) ds to (· = .raw (.ref p))) (he : Ev K (M.adds (ownM K ((p, .lst xs) :: o))) ds tx R) (hl : xs.length < 100000) :
    EvW K M ((p, .lst xs) :: o) ds (tBM K "list" rAppend to (tCons tx tNil)) (fun o' r => ∃ d, R d ∧ o' = (p, .lst (xs ++ [d])) :: o ∧ r = .non) := fun M' σ G H Q m s w q =>
  ho (M'.adds _) σ G H _ m.adds2 s w fun v1 d1 G1 H1 s1 w1 r1 e1 => by
    subst e1
    have ev := r1.raw_inv
    subst ev
    obtain ⟨u, hu, vs0, eu, r0⟩ := w1.atW
    subst eu
    refine ⟨.inl ⟨rfl, vs0, sq hu⟩, he (M'.adds _) σ G1 H1 _ m.adds2 (s.mono s1) w1 fun v2 d2 G2 H2 s2 w2 r2 e2 => ?_⟩
    obtain ⟨u2, hu2, vs, eu2, r3⟩ := w2.atW
    subst eu2
    refine ⟨p, vs, v2, rfl, rfl, hu2, by rw [r3.length]; exact Nat.lt_of_lt_of_le hl (by decide), ?_⟩
    exact q .non .non _ G2 _ (s1.trans s2) (w2.putW (c := .lst _) ⟨_, rfl, r3.append (.cons r2 .nil)⟩) .non ⟨d2, e2, rfl, rfl⟩
end
/-! ### a def that makes lambdas -/
theorem tells_by {X : Cx} {N : List Str} {sc : Scope} {ys : List (Str × Nat)} (hN : X.N = N) (hs : X.env.scope = sc) (hf : ∀ y : Str, decide (sc.names.lookup y = some .cell) = true → X.fn y = true) (h : (ys.all fun y => decide (N[y.2]? = some y.1) && decide (sc.names.lookup y.1 = some .cell)) = true) : ∀ y ∈ ys, X.N[y.2]? = some y.1 ∧ X.env.scope.names.lookup y.1 = some .cell ∧ X.fn y.1 = true := fun y hy => by
  have h2 := Bool.and_eq_true_iff.mp (List.all_eq_true.mp h y hy)
  rw [hN, hs]
  exact ⟨of_decide_eq_true h2.1, of_decide_eq_true h2.2, hf y.1 h2.2⟩
theorem lam_freeS {X : Cx} {scope sc : Scope} (h : X.Ok) (hs : X.env.scope = sc) (hd : (scope.names.all fun y => !decide (y.2 = .free) || decide (sc.names.lookup y.1 = some .cell)) = true) {y : Str × NameKind} (hy : y ∈ scope.names) (e : y.2 = .free) : ∃ c, X.env.cells.lookup y.1 = some c := lam_free h (by rw [hs]; exact hd) hy e
section
variable {P : Program} {w : World} {K : PySem.W.Frag} {mg : Str → Option Value} {base : Heap} {pre : Ml → List D → Prop} {post : List D → D → Prop}
theorem fn_runC {x qual : Str} {st : Stmt} {f c : Addr} {fd : FuncData} {N ps : List Str} {k : Nat} (F : Fun K x qual st f fd) (S : FnScope N ps (defScope st)) (hl : ∀ M as, pre M as → as.length = ps.length) (hc : fd.code = .ref c)
    (body : ∀ (A : Around) (outer : List Env) (s : Shared) (H : Hp) (E : XK), Room k (A.deeper (envOfC qual (defScope st) s.heap.objs.size f (.ref c))) →
      ∃ t, PSs (cxOf CX0 P w K mg base N qual (defScope st) f (.ref c) A outer s H E).nox (defBody st) t ∧
        ∀ (M : Mt) as, pre M.l as → Run K M (as.map some ++ List.replicate (N.length - as.length) none) t { nx := fun _ => post as .non, rt := post as }) : FnOk P w K mg base CX0 (k + 1) f fd ps (spF K pre post) := by
  refine fun_okC F S (fun vs H Q E h => spX_len hl h) hc (fun A outer s H vs Q E hr h => ?_)
  obtain ⟨t, ht, hrun⟩ := body A outer s H E hr
  exact ⟨t, ht, spX_run (fun M as hp => hrun _ as hp) h⟩
def dscOf (scope : Scope) (ys : List (Str × Nat)) (ds : DS) : DS := ys.map fun y => if (y.1, NameKind.free) ∈ scope.names then some (dAt ds y.2) else none
theorem clo_look {cl : List (Str × Addr)} {scope : Scope} {y : Str} {c : Addr} (h : (cloFrom cl scope.names []).lookup y = some c) : (y, NameKind.free) ∈ scope.names ∧ c = cA cl y := by
  rcases cloFrom_mem (PySem.mem_of_lookup h) with h | h
  · cases h
  · exact h
theorem clo_has {cl : List (Str × Addr)} {scope : Scope} {y : Str} (h : (y, NameKind.free) ∈ scope.names) : (cloFrom cl scope.names []).lookup y = some (cA cl y) := by
  obtain ⟨c, e⟩ := mem_lookup (cloFrom_has (cells := cl) (acc := []) h)
  rw [e, (clo_look e).2]
/-- what a lambda does, told of the data of the cells -/
theorem lam_told {k : Nat} {cl : List (Str × Addr)} {qual : Str} {params : Arguments} {body : Expr} {scope : Scope} {hasD : Bool} {L : Lm} (h : IsLm cl qual params body scope hasD L) (ys : List (Str × Nat)) (nm : Option Str) {ds : DS} {obs : Addr → Obj} {l' : Ml} {post px : D → Prop}
    (hS : lamS3B (ys.map (·.1)) scope = true) (hfree : (scope.names.all fun y => !decide (y.2 = .free) || decide (y.1 ∈ ys.map (·.1))) = true) (hB : BindL params nm) (hD : hasD = nm.isSome) (hn : ∀ n, nm = some n → scope.names.lookup n = some .local)
    (go : ∀ (dt : Option Addr) (doc pm : Value) (c : Addr) (ct : Value) (X : Cx) (A : Around) (outer : List Env) (s : Shared) (H : Hp) (E : XK) (f : Addr), X = lcx P w K mg base (ys.map (·.1)) ⟨qual, params, body, scope, cloFrom cl scope.names [], dt, doc, pm, c, ct⟩ A outer s H E f → Room k X.A → Takes X (fun c d _ H => E c d H) →
      ∃ t, PE X body t ∧ ∀ l0 : Ml, (∀ p ∈ cellsM K cl ys ds obs ++ l', p.1 ∉ (cloFrom cl scope.names []).map (·.2) → p ∈ l0) → Ev K (mfn K l0 E px) (dscOf scope ys ds) t post) :
    LamD P w K mg base (k + 1) (cellsM K cl ys ds obs ++ l') L post px := by
  obtain ⟨q, pa, bo, sc, clos, dt, doc, pm, c, ct⟩ := L
  obtain ⟨e1, e2, e3, e4, e5, ok, e7⟩ := h
  dsimp only at e1 e2 e3 e4 e5 ok e7
  subst e1 e2 e3 e4 e5
  have inM : ∀ y ∈ ys, (cA cl y.1, CellP K (cA cl y.1) (obs (cA cl y.1)) (dAt ds y.2)) ∈ cellsM K cl ys ds obs ++ l' := fun y hy => List.mem_append_left _ (List.mem_map.mpr ⟨y, hy, rfl⟩)
  refine lamD_of (N := ys.map (·.1)) (nm := nm) (dsc := dscOf sc ys ds) (lamS3_by hS) ok ⟨hB, by rw [← hD]; exact e7, hn⟩ (by unfold dscOf; rw [List.length_map, List.length_map]) (fun y c' hy => ?_) (fun i d hd => ?_) (fun X A outer s H E f eX hr tk => ?_)
  · obtain ⟨h1, h2⟩ := clo_look hy
    have h3 := List.all_eq_true.mp hfree _ h1
    simp only [decide_true, Bool.not_true, Bool.false_or, decide_eq_true_eq] at h3
    obtain ⟨z, hz, ez⟩ := List.mem_map.mp h3
    have ez : z.1 = y := ez
    subst ez
    rw [h2]
    exact ⟨_, _, inM z hz⟩
  · unfold dscOf at hd
    rw [List.getElem?_map] at hd
    cases hy : ys[i]? with
    | none => rw [hy] at hd; cases hd
    | some y =>
      rw [hy] at hd
      have hd : (if (y.1, NameKind.free) ∈ sc.names then some (dAt ds y.2) else none) = some d := Option.some.inj hd
      split at hd
      · rename_i hm
        have ed : dAt ds y.2 = d := Option.some.inj hd
        subst ed
        exact ⟨y.1, _, _, by rw [List.getElem?_map, hy]; rfl, clo_has hm, inM y (List.mem_of_getElem? hy)⟩
      · cases hd
  · exact go dt doc pm c ct X A outer s H E f eX hr tk
end
end Rg
namespace K2
open PySem L2 Rg RZ PyProof.Rows
local macro_rules | `(tactic| walk_at "ev") => `(tactic| first
  | with_reducible assumption
  | ((with_reducible apply ev_var); exact rfl)
  | with_reducible exact ev_cint
  | with_reducible exact ev_cbl
  | with_reducible exact ev_cnon
  | with_reducible exact ev_cstr
  | ((with_reducible apply ev_c); with_reducible assumption)
  | with_reducible exact ev_craw
  | ((with_reducible apply ev_tup1); walk_at "ea"; exact Nat.le_of_ble_eq_true rfl)
  | ((with_reducible apply ev_lst1); walk_at "ea"; exact Nat.le_of_ble_eq_true rfl)
  | ((with_reducible apply ev_op1); walk_at "ev"; walk_at "ev"; walk_at "od")
  | ((with_reducible apply ev_un1); walk_at "ev"; exact ud_neg)
  | ((with_reducible apply ev_isSeq); walk_at "ev"; walk_at "ea"; exact rfl; exact rfl)
  | ((with_reducible apply ev_cb1); walk_at "ea"; walk_at "cd")
  | ((with_reducible apply ev_chainB); walk_at "ev"; walk_at "ev"; walk_at "od"; walk_at "ev"; walk_at "od")
  | ((with_reducible apply ev_andF); walk_at "ev"; exact rfl)
  | ((with_reducible apply ev_andT); walk_at "ev"; exact rfl; walk_at "ev")
  | ((with_reducible apply ev_andB); walk_at "ev"; intro _; walk_at "ev")
  | ((with_reducible apply ev_orT); walk_at "ev"; exact rfl)
  | ((with_reducible apply ev_orF); walk_at "ev"; exact rfl; walk_at "ev")
  | ((with_reducible apply ev_orB); walk_at "ev"; intro _; walk_at "ev")
  | ((with_reducible apply ev_notV); walk_at "ev"))
local macro_rules | `(tactic| walk_at "et") => `(tactic| first
  | ((with_reducible apply et_B); walk_at "ev")
  | ((with_reducible apply et_test); walk_at "ev")
  | ((with_reducible apply et_not); walk_at "et")
  | ((with_reducible apply et_orT); walk_at "et"; exact rfl)
  | ((with_reducible apply et_orF); walk_at "et"; exact rfl; walk_at "et")
  | ((with_reducible apply et_or); walk_at "et"; intro _; walk_at "et")
  | ((with_reducible apply et_andF); walk_at "et"; exact rfl)
  | ((with_reducible apply et_andT); walk_at "et"; exact rfl; walk_at "et")
  | ((with_reducible apply et_and); walk_at "et"; intro _; walk_at "et"))
local macro_rules | `(tactic| walk_at "ea") => `(tactic| first
  | with_reducible exact ea_nil
  | ((with_reducible apply ea1); walk_at "ev"; walk_at "ea"))
local macro_rules | `(tactic| walk_at "od") => `(tactic| first
  | with_reducible exact od_addI
  | with_reducible exact od_subI
  | ((with_reducible apply od_addS); (try simp only [PySem.Str.length_append]); omega)
  | ((with_reducible apply od_catL); exact Nat.le_of_ble_eq_true rfl)
  | ((with_reducible apply od_modI); first | decide | omega)
  | ((with_reducible apply od_mulI); first | (exact Or.inr ⟨by decide, by decide⟩) | (exact Or.inl ⟨by decide, by decide⟩) | (exact Or.inl ⟨by omega, by omega⟩) | (exact Or.inr ⟨by omega, by omega⟩))
  | ((with_reducible apply od_divI); first | (exact ⟨by decide, by decide⟩) | (exact ⟨by omega, by omega⟩))
  | ((with_reducible apply od_powI); exact ⟨by decide, by decide, by decide⟩)
  | with_reducible exact od_leI
  | with_reducible exact od_ltI
  | with_reducible exact od_gtI
  | with_reducible exact od_geI
  | with_reducible exact od_eqI
  | with_reducible exact od_eqB
  | with_reducible exact od_neB
  | with_reducible exact od_neI
  | with_reducible exact od_eqS
  | with_reducible exact od_inS
  | ((with_reducible apply od_none); exact rfl)
  | ((with_reducible apply od_ix); exact rfl))
local macro_rules | `(tactic| walk_at "cd") => `(tactic| first
  | ((with_reducible apply cd_isStr); exact rfl)
  | ((with_reducible apply cd_isInt); exact rfl)
  | ((with_reducible apply cd_isBool); exact rfl)
  | ((with_reducible apply cd_isList); exact rfl)
  | ((with_reducible apply cd_isTuple); exact rfl)
  | ((with_reducible apply cd_isi); assumption)
  | ((with_reducible apply cd_len); assumption)
  | ((with_reducible apply cd_len); exact rfl)
  | with_reducible exact cd_intI
  | with_reducible exact cd_listof
  | ((with_reducible apply cd_str); assumption)
  | with_reducible exact cd_all)
local macro_rules | `(tactic| walk_at "px") => `(tactic| first
  | ((with_reducible apply px_var); exact rfl)
  | with_reducible exact px_c
  | ((with_reducible apply px_op); walk_at "px"; walk_at "px"; walk_at "pr")
  | ((with_reducible apply px_cb); walk_at "pa"; walk_at "pr")
  | ((with_reducible apply px_test); walk_at "px")
  | ((with_reducible apply px_B); walk_at "px")
  | ((with_reducible apply px_and); walk_at "px"; walk_at "px"))
local macro_rules | `(tactic| walk_at "pa") => `(tactic| first
  | with_reducible exact px_nil
  | ((with_reducible apply px_cons); walk_at "px"; walk_at "pa"))
local macro_rules | `(tactic| walk_at "pr") => `(tactic| first
  | exact px_addI
  | (apply px_ix; assumption; exact rfl)
  | (apply px_ix; assumption; assumption)
  | exact px_eqI
  | exact fun Q q => ⟨_, _, rfl, rfl, q⟩
  | exact fun Q q => ⟨_, _, rfl, rfl, (Or.inr ⟨by decide, by decide⟩), q⟩
  | exact fun Q q => ⟨_, _, rfl, rfl, (Or.inl ⟨by omega, by omega⟩), q⟩
  | exact fun Q q => ⟨_, _, rfl, rfl, (Or.inr ⟨by omega, by omega⟩), q⟩
  | exact fun Q q => ⟨_, _, rfl, rfl, ⟨by decide, by decide⟩, q⟩
  | exact fun Q q => ⟨_, _, rfl, rfl, ⟨by omega, by omega⟩, q⟩
  | exact fun Q q => ⟨_, _, rfl, rfl, ⟨by decide, by decide, by decide⟩, q⟩
  | exact fun Q q => ⟨_, _, rfl, rfl, (by decide), q⟩
  | exact fun Q q => ⟨_, _, rfl, rfl, (by omega), q⟩
  | (apply px_len; assumption)
  | exact px_intI
  | exact px_abs)
local macro_rules | `(tactic| walk_at "fg") => `(tactic| repeat first | exact Fg.nil | apply Fg.keep | apply Fg.drop)
section
variable {P : Program} {w : World} {K : PySem.W.Frag} {mg : Str → Option Value} {base : Heap}
/-! ### making sections -/
theorem ev_mkK (T : Tx K mg) {M : Mt} {ds : DS} {κ : Kd} {x : Str} {n : Int} {ta tb : TE} {E : XK} (ha : Ev K M ds ta (· = .str x)) (hb : Ev K M ds tb (· = .int n)) (hx : isNameS x = true) (hn : 1 ≤ n ∧ n ≤ 50) :
    Ev K M ds (tMake (cA T κ) (spW K (preInit T) postInit (pxInit T)) [] E (tCons ta (tCons tb tNil))) (· = objK T κ x n) := by
  have l : x.length ≤ 100000 := by
    simp only [isNameS, Bool.and_eq_true, decide_eq_true_eq] at hx
    omega
  have h2 : isNumD (.int n) 1 50 = true := by
    simp only [isNumD, Bool.and_eq_true, decide_eq_true_eq]; exact hn
  refine ev_make (ea1 ha (ea1 hb ea_nil)) fun p as e => ?_
  subst e
  refine ⟨fun M' _ => ⟨p, κ, .str x, .int n, rfl, rfl, decide_eq_true l, rfl⟩, fun o' d h => ?_, fun o' y h => ?_⟩
  · obtain ⟨_, _, e1, e2⟩ := h p _ _ _ rfl rfl
    exact ⟨e1, _, e2, rfl⟩
  · rcases h p _ _ rfl with ⟨h, _⟩ | ⟨_, h, _⟩
    · have h : isNameS x = false := h
      rw [hx] at h; cases h
    · rw [h2] at h; cases h
/-- a making that is refused -/
theorem ev_mkX (T : Tx K mg) {M : Mt} {ds : DS} {κ : Kd} {d1 d2 : D} {ta tb : TE} {E : XK} {px : D → Prop} (hW : M.W = (fun c d _ H => E c d H)) (ha : Ev K M ds ta (· = d1)) (hb : Ev K M ds tb (· = d2)) (h1 : okD d1 = true) (h2 : okD d2 = true)
    (hx : (isNameD d1 = false ∧ Exk K M (xE T true d1) ds) ∨ (isNameD d1 = true ∧ isNumD d2 1 50 = false ∧ Exk K M (xE T false d2) ds)) :
    Ev K M ds (tMake (cA T κ) (spW K (preInit T) postInit (pxInit T)) [] E (tCons ta (tCons tb tNil))) (fun _ => False) := by
  refine ev_make (ea1 ha (ea1 hb ea_nil)) fun p as e => ?_
  subst e
  refine ⟨fun M' _ => ⟨p, κ, d1, d2, rfl, rfl, h1, h2⟩, fun o' d h => ?_, fun o' y h => ⟨hW, ?_⟩⟩
  · obtain ⟨e1, e2, _⟩ := h p _ _ _ rfl rfl
    rcases hx with ⟨h, _⟩ | ⟨_, h, _⟩
    · rw [e1] at h; cases h
    · rw [e2] at h; cases h
  · rcases h p _ _ rfl with ⟨h, e⟩ | ⟨h, h', e⟩
    · rcases hx with ⟨_, k⟩ | ⟨k, _⟩
      · rw [e]; exact k
      · rw [h] at k; cases k
    · rcases hx with ⟨k, _⟩ | ⟨_, _, k⟩
      · rw [h] at k; cases k
      · rw [e]; exact k
/-- by keywords: length first -/
theorem ev_mkKK (T : Tx K mg) {M : Mt} {ds : DS} {κ : Kd} {x : Str} {n : Int} {ta tb : TE} {E : XK} (hb : Ev K M ds tb (· = .int n)) (ha : Ev K M ds ta (· = .str x)) (hx : isNameS x = true) (hn : 1 ≤ n ∧ n ≤ 50) :
    Ev K M ds (tMakeK (cA T κ) 0 2 (spW K (preInit T) postInit (pxInit T)) kgs2r E tNil (tCons tb (tCons ta tNil))) (· = objK T κ x n) := by
  have l : x.length ≤ 100000 := by
    simp only [isNameS, Bool.and_eq_true, decide_eq_true_eq] at hx
    omega
  have h2 : isNumD (.int n) 1 50 = true := by
    simp only [isNumD, Bool.and_eq_true, decide_eq_true_eq]; exact hn
  refine ev_makeK (gD := fun _ as => as.reverse) (ea1 hb (ea1 ha ea_nil)) (fun as e => by rw [e]; rfl) (fun G p vs as e r => by subst e; exact kgs2r_rp r) fun p as e => ?_
  subst e
  refine ⟨fun M' _ => ⟨p, κ, .str x, .int n, rfl, rfl, decide_eq_true l, rfl⟩, fun o' d h => ?_, fun o' y h => ?_⟩
  · obtain ⟨_, _, e1, e2⟩ := h p _ _ _ rfl rfl
    exact ⟨e1, _, e2, rfl⟩
  · rcases h p _ _ rfl with ⟨h, _⟩ | ⟨_, h, _⟩
    · have h : isNameS x = false := h
      rw [hx] at h; cases h
    · rw [h2] at h; cases h
theorem ev_mkXK (T : Tx K mg) {M : Mt} {ds : DS} {κ : Kd} {d1 d2 : D} {ta tb : TE} {E : XK} (hW : M.W = (fun c d _ H => E c d H)) (hb : Ev K M ds tb (· = d2)) (ha : Ev K M ds ta (· = d1)) (h1 : okD d1 = true) (h2 : okD d2 = true)
    (hx : isNameD d1 = true ∧ isNumD d2 1 50 = false ∧ Exk K M (xE T false d2) ds) :
    Ev K M ds (tMakeK (cA T κ) 0 2 (spW K (preInit T) postInit (pxInit T)) kgs2r E tNil (tCons tb (tCons ta tNil))) (fun _ => False) := by
  refine ev_makeK (gD := fun _ as => as.reverse) (ea1 hb (ea1 ha ea_nil)) (fun as e => by rw [e]; rfl) (fun G p vs as e r => by subst e; exact kgs2r_rp r) fun p as e => ?_
  subst e
  refine ⟨fun M' _ => ⟨p, κ, d1, d2, rfl, rfl, h1, h2⟩, fun o' d h => ?_, fun o' y h => ⟨hW, ?_⟩⟩
  · obtain ⟨e1, e2, _⟩ := h p _ _ _ rfl rfl
    have := hx.2.1
    rw [e2] at this; cases this
  · rcases h p _ _ rfl with ⟨h, e⟩ | ⟨h, h', e⟩
    · have := hx.1
      rw [h] at this; cases this
    · rw [e]; exact hx.2.2
/-! ### _law_odd -/
def oddL : List D := [.non, .str "", .int 3, .bl true, .str "A", .str "abcdefg", .str "a b", .str "a1", .tup [.str "a"], .list [.str "a"], .int (-1), .str "zo\n", .tup [.tup [.str "a", .tup [.str "b"]]], .str "a.a"]
def preOdd (K : PySem.W.Frag) (M : Ml) (as : List D) : Prop := ∃ b, as = [.raw (.ref b)] ∧ (b, IsBag K) ∈ M
def postOdd (_ : List D) (r : D) : Prop := r ∈ oddL
theorem ok_odd (T : Tx K mg) : FnOk P w K mg base CX0 3 T.f__law_odd T.fd__law_odd ["_law_bag_here"] (spF K (preOdd K) postOdd) := by
  have G_Lof := ok_of (P := P) (w := w) (base := base) T
  have B_Lof := Bd_Lof T
  refine fn_run T.F__law_odd sc_Lodd (fun M as ⟨_, e, _⟩ => by rw [e]; rfl) (fun cdv A outer s H E hr => ⟨_, (pss_one (ps_ret (pe_call G_Lof (hr.mono (by decide)) (by rfl) T.m__law_of T.F__law_of.kp B_Lof .nil pass0 (pa_cons (pv 0) (pa_cons (pe_lst (pa_cons pe_non (pa_cons pe_str (pa_cons pe_int (pa_cons pe_bl (pa_cons pe_str (pa_cons pe_str (pa_cons pe_str (pa_cons pe_str (pa_cons (pe_tup (pa_cons pe_str pa_nil)) (pa_cons (pe_lst (pa_cons pe_str pa_nil)) (pa_cons (pe_un un_neg pe_int) (pa_cons pe_str (pa_cons (pe_tup (pa_cons (pe_tup (pa_cons pe_str (pa_cons (pe_tup (pa_cons pe_str pa_nil)) pa_nil))) pa_nil)) (pa_cons pe_str pa_nil))))))))))))))) pa_nil))))), fun M as ⟨b, e, hm⟩ => ?_⟩)
  subst e
  show Run K M [some (.raw (.ref b))] _ _
  exact run_ret (ev_of (es := oddL) (ev_var rfl) (ev_eq (by walk_at "ev") (by exact rfl)) hm rfl rfl)
/-! ### _law_sides, _law_ways, _law_section -/
def preKd (_ : Ml) (as : List D) : Prop := ∃ κ : Kd, κ ≠ .sec ∧ as = [.str κ.nm]
theorem nm_inj {κ κ' : Kd} (h : κ.nm = κ'.nm) : κ = κ' := by
  revert h
  cases κ <;> cases κ' <;> decide
def postKd (as : List D) (r : D) : Prop := ∀ κ : Kd, as = [.str κ.nm] → r = .list (κ.sides.map D.str)
theorem ok_lsides (T : Tx K mg) : FnOk P w K mg base CX0 1 T.f__law_sides T.fd__law_sides ["_law_kind"] (spF K preKd postKd) := by
  refine fn_run T.F__law_sides sc_Lsides (fun M as ⟨_, _, e⟩ => by rw [e]; rfl) (fun cdv A outer s H E hr => ⟨_, (pss_cons (ps_set (i := 1) sc_Lsides.nd rfl (Or.inl rfl) (pe_disp (pps_cons pe_str (pe_lst (pa_cons pe_str (pa_cons pe_str pa_nil))) (pps_cons pe_str (pe_lst (pa_cons pe_str (pa_cons pe_str (pa_cons pe_str pa_nil)))) (pps_cons pe_str (pe_lst (pa_cons pe_str (pa_cons pe_str (pa_cons pe_str (pa_cons pe_str pa_nil))))) pps_nil))) rfl rfl (by intro h; cases h) (by decide)))
  (pss_one (ps_ret (pe_dget (room_u1 hr) (pv 1) (pv 0) (fun _ _ => rfl))))), fun M as ⟨κ, hκ, e⟩ => ?_⟩)
  subst e
  show Run K M [some (.str κ.nm), none] _ _
  refine run_asg1 (ev_disp (.cons (k := .inr "plain") ev_cstr (d := .list [.str "a", .str "b"]) (by walk_at "ev") (.cons (k := .inr "point") ev_cstr (d := .list [.str "left", .str "right", .str "stem"]) (by walk_at "ev") (.cons (k := .inr "crossing") ev_cstr (d := .list [.str "a", .str "b", .str "c", .str "d"]) (by walk_at "ev") .nil))) (by decide) (by decide)) ?_
  refine run_ret1 (d := .list (κ.sides.map D.str)) (ev_dget (k := .inr κ.nm) (ev_var rfl) (ev_var rfl) ?_) fun κ' e => ?_
  · cases κ with
    | sec => exact (hκ rfl).elim
    | pla => rfl
    | poi => rfl
    | cro => rfl
  · injection e with e
    injection e with e
    rw [nm_inj e]
def preWy (_ : Ml) (as : List D) : Prop := ∃ κ : Kd, ∃ s ∈ κ.sides, as = [.str κ.nm, .str s]
def postWy (as : List D) (r : D) : Prop := ∀ (κ : Kd) s, as = [.str κ.nm, .str s] → r = .list ((κ.ways s).map prD)
theorem ok_lways (T : Tx K mg) : FnOk P w K mg base CX0 1 T.f__law_ways T.fd__law_ways ["_law_kind", "_law_gate"] (spF K preWy postWy) := by
  refine fn_run T.F__law_ways sc_Lways (fun M as ⟨_, _, _, e⟩ => by rw [e]; rfl) (fun cdv A outer s H E hr => ⟨_, (pss_cons (ps_if (pt_cmpR op_eq (pv 0) pe_str (nomark _)) (pss_one (ps_ret (pe_ifExp (pt_cmpR op_eq (pv 1) pe_str (nomark _)) (pe_lst (pa_cons (pe_tup (pa_cons pe_str (pa_cons pe_str pa_nil))) (pa_cons (pe_tup (pa_cons pe_str (pa_cons pe_str pa_nil))) pa_nil))) (pe_lst (pa_cons (pe_tup (pa_cons pe_str (pa_cons (pv 1) pa_nil))) pa_nil))))) pss_nil)
  (pss_cons (ps_set (i := 2) sc_Lways.nd rfl (Or.inl rfl) (pe_disp (pps_cons pe_str pe_str (pps_cons pe_str pe_str (pps_cons pe_str pe_str (pps_cons pe_str pe_str pps_nil)))) rfl rfl (by intro h; cases h) (by decide)))
  (pss_one (ps_ret (pe_lst (pa_cons (pe_tup (pa_cons (pe_dget (room_u1 hr) (pv 2) (pv 1) (fun _ _ => rfl)) (pa_cons pe_str pa_nil))) pa_nil)))))), fun M as ⟨κ, g, hg, e⟩ => ?_⟩)
  subst e
  show Run K M [some (.str κ.nm), some (.str g), none] _ _
  have key : ∀ r, r = .list ((κ.ways g).map prD) → postWy [.str κ.nm, .str g] r := fun r h κ' s' e => by
    injection e with e1 e
    injection e with e2 _
    injection e1 with e1
    injection e2 with e2
    rw [h, nm_inj e1, e2]
  have tbl : ∀ ds : DS, Ev K M ds (tDisp [(tC (V.str "a"), tC (V.str "b")), (tC (V.str "b"), tC (V.str "a")), (tC (V.str "c"), tC (V.str "d")), (tC (V.str "d"), tC (V.str "c"))]) (· = .dict [.inr "a", .inr "b", .inr "c", .inr "d"] [.str "b", .str "a", .str "d", .str "c"]) := fun ds =>
    ev_disp (.cons (k := .inr "a") ev_cstr ev_cstr (.cons (k := .inr "b") ev_cstr ev_cstr (.cons (k := .inr "c") ev_cstr ev_cstr (.cons (k := .inr "d") ev_cstr ev_cstr .nil)))) (by decide) (by decide)
  cases κ with
  | sec => cases hg
  | poi =>
    refine run_seq (run_ifT (et_B (ev_op1 (ev_var rfl) ev_cstr od_eqS)) (by decide) ?_)
    have hg3 : g = "left" ∨ g = "right" ∨ g = "stem" := by simpa [Kd.sides] using hg
    rcases hg3 with rfl | rfl | rfl
    · exact run_ret1 (d := .list [.tup [.str "stem", .str "left"]]) (ev_ifF (et_B (ev_op1 (ev_var rfl) ev_cstr od_eqS)) (by decide) (by walk_at "ev")) (key _ rfl)
    · exact run_ret1 (d := .list [.tup [.str "stem", .str "right"]]) (ev_ifF (et_B (ev_op1 (ev_var rfl) ev_cstr od_eqS)) (by decide) (by walk_at "ev")) (key _ rfl)
    · exact run_ret1 (d := .list [.tup [.str "left", .str "left"], .tup [.str "right", .str "right"]]) (ev_ifT (et_B (ev_op1 (ev_var rfl) ev_cstr od_eqS)) (by decide) (by walk_at "ev")) (key _ rfl)
  | pla =>
    refine run_seq (run_ifF (et_B (ev_op1 (ev_var rfl) ev_cstr od_eqS)) (by decide) (run_next ?_))
    refine run_asg1 (tbl _) ?_
    have hg3 : g = "a" ∨ g = "b" := by simpa [Kd.sides] using hg
    rcases hg3 with rfl | rfl
    · exact run_ret1 (ev_lst1 (ea1 (ev_tup1 (ea1 (ev_dget (k := .inr "a") (ev_var rfl) (ev_var rfl) rfl) (ea1 ev_cstr ea_nil)) (Nat.le_of_ble_eq_true rfl)) ea_nil) (Nat.le_of_ble_eq_true rfl)) (key _ rfl)
    · exact run_ret1 (ev_lst1 (ea1 (ev_tup1 (ea1 (ev_dget (k := .inr "b") (ev_var rfl) (ev_var rfl) rfl) (ea1 ev_cstr ea_nil)) (Nat.le_of_ble_eq_true rfl)) ea_nil) (Nat.le_of_ble_eq_true rfl)) (key _ rfl)
  | cro =>
    refine run_seq (run_ifF (et_B (ev_op1 (ev_var rfl) ev_cstr od_eqS)) (by decide) (run_next ?_))
    refine run_asg1 (tbl _) ?_
    have hg3 : g = "a" ∨ g = "b" ∨ g = "c" ∨ g = "d" := by simpa [Kd.sides] using hg
    rcases hg3 with rfl | rfl | rfl | rfl
    · exact run_ret1 (ev_lst1 (ea1 (ev_tup1 (ea1 (ev_dget (k := .inr "a") (ev_var rfl) (ev_var rfl) rfl) (ea1 ev_cstr ea_nil)) (Nat.le_of_ble_eq_true rfl)) ea_nil) (Nat.le_of_ble_eq_true rfl)) (key _ rfl)
    · exact run_ret1 (ev_lst1 (ea1 (ev_tup1 (ea1 (ev_dget (k := .inr "b") (ev_var rfl) (ev_var rfl) rfl) (ea1 ev_cstr ea_nil)) (Nat.le_of_ble_eq_true rfl)) ea_nil) (Nat.le_of_ble_eq_true rfl)) (key _ rfl)
    · exact run_ret1 (ev_lst1 (ea1 (ev_tup1 (ea1 (ev_dget (k := .inr "c") (ev_var rfl) (ev_var rfl) rfl) (ea1 ev_cstr ea_nil)) (Nat.le_of_ble_eq_true rfl)) ea_nil) (Nat.le_of_ble_eq_true rfl)) (key _ rfl)
    · exact run_ret1 (ev_lst1 (ea1 (ev_tup1 (ea1 (ev_dget (k := .inr "d") (ev_var rfl) (ev_var rfl) rfl) (ea1 ev_cstr ea_nil)) (Nat.le_of_ble_eq_true rfl)) ea_nil) (Nat.le_of_ble_eq_true rfl)) (key _ rfl)
def preSec (_ : Ml) (as : List D) : Prop := ∃ (κ : Kd) (x : Str) (n : Int), κ ≠ .sec ∧ isNameS x = true ∧ (1 ≤ n ∧ n ≤ 50) ∧ as = [.str κ.nm, .str x, .int n]
def postSec (T : Tx K mg) (as : List D) (r : D) : Prop := ∀ (κ : Kd) x n, as = [.str κ.nm, .str x, .int n] → r = objK T κ x n
theorem ok_section (T : Tx K mg) : FnOk P w K mg base CX0 5 T.f__law_section T.fd__law_section ["_law_kind", "_law_word", "_law_size"] (spF K preSec (postSec T)) := by
  have G_Sectioninit := ok_init (P := P) (w := w) (base := base) T
  have B_Sectioninit := Bd_Sectioninit T
  refine fn_run T.F__law_section sc_Lsection (fun M as ⟨_, _, _, _, _, _, e⟩ => by rw [e]; rfl) (fun cdv A outer s H E hr => ⟨_, (pss_cons (ps_if (pt_cmpR op_eq (pv 0) pe_str (nomark _)) (pss_one (ps_ret (pe_make T.mk_Plain G_Sectioninit (hr.mono (by decide)) (by rfl) T.m_Plain B_Sectioninit .nil passF (pa_cons (pv 1) (pa_cons (pv 2) pa_nil))))) pss_nil)
  (pss_one (ps_ret (pe_ifExp (pt_cmpR op_eq (pv 0) pe_str (nomark _)) (pe_make T.mk_Point G_Sectioninit (hr.mono (by decide)) (by rfl) T.m_Point B_Sectioninit .nil passF (pa_cons (pv 1) (pa_cons (pv 2) pa_nil))) (pe_make T.mk_Crossing G_Sectioninit (hr.mono (by decide)) (by rfl) T.m_Crossing B_Sectioninit .nil passF (pa_cons (pv 1) (pa_cons (pv 2) pa_nil))))))), fun M as ⟨κ, x, n, hκ, hx, hn, e⟩ => ?_⟩)
  subst e
  show Run K M [some (.str κ.nm), some (.str x), some (.int n)] _ _
  have key : ∀ r, r = objK T κ x n → postSec T [.str κ.nm, .str x, .int n] r := fun r h κ' x' n' e => by
    injection e with e1 e
    injection e with e2 e
    injection e with e3 _
    injection e1 with e1
    injection e2 with e2
    injection e3 with e3
    rw [h, nm_inj e1, e2, e3]
  cases κ with
  | sec => exact (hκ rfl).elim
  | pla =>
    refine run_seq (run_ifT (et_B (ev_op1 (ev_var rfl) ev_cstr od_eqS)) (by decide) ?_)
    exact run_ret1 (ev_mkK T (κ := .pla) (ev_var rfl) (ev_var rfl) hx hn) (key _ rfl)
  | poi =>
    refine run_seq (run_ifF (et_B (ev_op1 (ev_var rfl) ev_cstr od_eqS)) (by decide) (run_next ?_))
    exact run_ret1 (ev_ifT (et_B (ev_op1 (ev_var rfl) ev_cstr od_eqS)) (by decide) (ev_mkK T (κ := .poi) (ev_var rfl) (ev_var rfl) hx hn)) (key _ rfl)
  | cro =>
    refine run_seq (run_ifF (et_B (ev_op1 (ev_var rfl) ev_cstr od_eqS)) (by decide) (run_next ?_))
    exact run_ret1 (ev_ifF (et_B (ev_op1 (ev_var rfl) ev_cstr od_eqS)) (by decide) (ev_mkK T (κ := .cro) (ev_var rfl) (ev_var rfl) hx hn)) (key _ rfl)
theorem KB_ways (T : Tx K mg) : KBinds K T.fd_Sectionways ["self", "side"] ["side"] kgs1 kgs1 := kbs1 T.F_Sectionways fun _ _ _ _ _ _ _ _ => rfl
theorem KN_init (T : Tx K mg) : KBn K T.fd_Sectioninit ["self", "name", "length"] 1 ["length", "name"] kgs2r kgs2r := kbn2r T.F_Sectioninit fun _ _ _ _ _ _ _ _ _ => rfl
end
end K2
namespace K2
open PySem L2 Rg RZ PyProof.Rows
local macro_rules | `(tactic| walk_at "ev") => `(tactic| first
  | with_reducible assumption
  | ((with_reducible apply ev_var); exact rfl)
  | with_reducible exact ev_cint
  | with_reducible exact ev_cbl
  | with_reducible exact ev_cnon
  | with_reducible exact ev_cstr
  | ((with_reducible apply ev_c); with_reducible assumption)
  | with_reducible exact ev_craw
  | ((with_reducible apply ev_tup1); walk_at "ea"; exact Nat.le_of_ble_eq_true rfl)
  | ((with_reducible apply ev_lst1); walk_at "ea"; exact Nat.le_of_ble_eq_true rfl)
  | ((with_reducible apply ev_op1); walk_at "ev"; walk_at "ev"; walk_at "od")
  | ((with_reducible apply ev_un1); walk_at "ev"; exact ud_neg)
  | ((with_reducible apply ev_isSeq); walk_at "ev"; walk_at "ea"; exact rfl; exact rfl)
  | ((with_reducible apply ev_cb1); walk_at "ea"; walk_at "cd")
  | ((with_reducible apply ev_chainB); walk_at "ev"; walk_at "ev"; walk_at "od"; walk_at "ev"; walk_at "od")
  | ((with_reducible apply ev_andF); walk_at "ev"; exact rfl)
  | ((with_reducible apply ev_andT); walk_at "ev"; exact rfl; walk_at "ev")
  | ((with_reducible apply ev_andB); walk_at "ev"; intro _; walk_at "ev")
  | ((with_reducible apply ev_orT); walk_at "ev"; exact rfl)
  | ((with_reducible apply ev_orF); walk_at "ev"; exact rfl; walk_at "ev")
  | ((with_reducible apply ev_orB); walk_at "ev"; intro _; walk_at "ev")
  | ((with_reducible apply ev_notV); walk_at "ev"))
local macro_rules | `(tactic| walk_at "et") => `(tactic| first
  | ((with_reducible apply et_B); walk_at "ev")
  | ((with_reducible apply et_test); walk_at "ev")
  | ((with_reducible apply et_not); walk_at "et")
  | ((with_reducible apply et_orT); walk_at "et"; exact rfl)
  | ((with_reducible apply et_orF); walk_at "et"; exact rfl; walk_at "et")
  | ((with_reducible apply et_or); walk_at "et"; intro _; walk_at "et")
  | ((with_reducible apply et_andF); walk_at "et"; exact rfl)
  | ((with_reducible apply et_andT); walk_at "et"; exact rfl; walk_at "et")
  | ((with_reducible apply et_and); walk_at "et"; intro _; walk_at "et"))
local macro_rules | `(tactic| walk_at "ea") => `(tactic| first
  | with_reducible exact ea_nil
  | ((with_reducible apply ea1); walk_at "ev"; walk_at "ea"))
local macro_rules | `(tactic| walk_at "od") => `(tactic| first
  | with_reducible exact od_addI
  | with_reducible exact od_subI
  | ((with_reducible apply od_addS); (try simp only [PySem.Str.length_append]); omega)
  | ((with_reducible apply od_catL); exact Nat.le_of_ble_eq_true rfl)
  | ((with_reducible apply od_modI); first | decide | omega)
  | ((with_reducible apply od_mulI); first | (exact Or.inr ⟨by decide, by decide⟩) | (exact Or.inl ⟨by decide, by decide⟩) | (exact Or.inl ⟨by omega, by omega⟩) | (exact Or.inr ⟨by omega, by omega⟩))
  | ((with_reducible apply od_divI); first | (exact ⟨by decide, by decide⟩) | (exact ⟨by omega, by omega⟩))
  | ((with_reducible apply od_powI); exact ⟨by decide, by decide, by decide⟩)
  | with_reducible exact od_leI
  | with_reducible exact od_ltI
  | with_reducible exact od_gtI
  | with_reducible exact od_geI
  | with_reducible exact od_eqI
  | with_reducible exact od_eqB
  | with_reducible exact od_neB
  | with_reducible exact od_neI
  | with_reducible exact od_eqS
  | with_reducible exact od_inS
  | ((with_reducible apply od_none); exact rfl)
  | ((with_reducible apply od_ix); exact rfl))
local macro_rules | `(tactic| walk_at "cd") => `(tactic| first
  | ((with_reducible apply cd_isStr); exact rfl)
  | ((with_reducible apply cd_isInt); exact rfl)
  | ((with_reducible apply cd_isBool); exact rfl)
  | ((with_reducible apply cd_isList); exact rfl)
  | ((with_reducible apply cd_isTuple); exact rfl)
  | ((with_reducible apply cd_isi); assumption)
  | ((with_reducible apply cd_len); assumption)
  | ((with_reducible apply cd_len); exact rfl)
  | with_reducible exact cd_intI
  | with_reducible exact cd_listof
  | ((with_reducible apply cd_str); assumption)
  | with_reducible exact cd_all)
local macro_rules | `(tactic| walk_at "px") => `(tactic| first
  | ((with_reducible apply px_var); exact rfl)
  | with_reducible exact px_c
  | ((with_reducible apply px_op); walk_at "px"; walk_at "px"; walk_at "pr")
  | ((with_reducible apply px_cb); walk_at "pa"; walk_at "pr")
  | ((with_reducible apply px_test); walk_at "px")
  | ((with_reducible apply px_B); walk_at "px")
  | ((with_reducible apply px_and); walk_at "px"; walk_at "px"))
local macro_rules | `(tactic| walk_at "pa") => `(tactic| first
  | with_reducible exact px_nil
  | ((with_reducible apply px_cons); walk_at "px"; walk_at "pa"))
local macro_rules | `(tactic| walk_at "pr") => `(tactic| first
  | exact px_addI
  | (apply px_ix; assumption; exact rfl)
  | (apply px_ix; assumption; assumption)
  | exact px_eqI
  | exact fun Q q => ⟨_, _, rfl, rfl, q⟩
  | exact fun Q q => ⟨_, _, rfl, rfl, (Or.inr ⟨by decide, by decide⟩), q⟩
  | exact fun Q q => ⟨_, _, rfl, rfl, (Or.inl ⟨by omega, by omega⟩), q⟩
  | exact fun Q q => ⟨_, _, rfl, rfl, (Or.inr ⟨by omega, by omega⟩), q⟩
  | exact fun Q q => ⟨_, _, rfl, rfl, ⟨by decide, by decide⟩, q⟩
  | exact fun Q q => ⟨_, _, rfl, rfl, ⟨by omega, by omega⟩, q⟩
  | exact fun Q q => ⟨_, _, rfl, rfl, ⟨by decide, by decide, by decide⟩, q⟩
  | exact fun Q q => ⟨_, _, rfl, rfl, (by decide), q⟩
  | exact fun Q q => ⟨_, _, rfl, rfl, (by omega), q⟩
  | (apply px_len; assumption)
  | exact px_intI
  | exact px_abs)
local macro_rules | `(tactic| walk_at "fg") => `(tactic| repeat first | exact Fg.nil | apply Fg.keep | apply Fg.drop)
section
variable {P : Program} {w : World} {K : PySem.W.Frag} {mg : Str → Option Value} {base : Heap}
theorem ev_same {M : Mt} {ds : DS} {ta tb : TE} {E : XK} {d : D} {n : Nat} (ha : Ev K M ds ta (· = d)) (hb : Ev K M ds tb (· = d)) (hd : okN n d = true) : Ev K M ds (tCall (spF K (preSame n) (postSame n)) [] E (tCons ta (tCons tb tNil))) (· = .bl true) :=
  (ev_call1 (ea1 ha (ea1 hb ea_nil)) fun _ _ => ⟨d, d, rfl, hd, hd⟩).weak fun r q => by rw [q d d rfl, sameN_refl n d hd]
theorem Word.fl {x : Str} (h : Word x) (n : Nat) : flD (n + 1) (.str x) = true := by
  show x.cps.all (· < 0x110000) = true
  rw [← Array.all_toList, List.all_eq_true]
  intro c hc
  exact decide_eq_true (lets_small c (h.ok c hc))
theorem eqK_t (κ : Kd) (x : Str) (n : Int) : eqK κ x n κ x n = true := by simp [eqK]
theorem eqK_n {κ κ' : Kd} {x x' : Str} {n n' : Int} (h : n ≠ n') : eqK κ x n κ' x' n' = false := by simp [eqK, h]
theorem eqK_k {κ κ' : Kd} {x x' : Str} {n n' : Int} (h : κ ≠ κ') : eqK κ x n κ' x' n' = false := by simp [eqK, h]
theorem eqK_x {κ κ' : Kd} {x x' : Str} {n n' : Int} (h : x ≠ x') : eqK κ x n κ' x' n' = false := by simp [eqK, h]
/-! ### _law_base_so -/
def preBase (_ : Ml) (as : List D) : Prop := ∃ x n, Word x ∧ (1 ≤ n ∧ n ≤ 50) ∧ as = [.str x, .int n]
def postTrue (_ : List D) (r : D) : Prop := r = .bl true
theorem ok_baseso (T : Tx K mg) : FnOk P w K mg base CX0 6 T.f__law_base_so T.fd__law_base_so ["_law_word", "_law_size"] (spF K preBase postTrue) := by
  have G_Sectioninit := ok_init (P := P) (w := w) (base := base) T
  have B_Sectioninit := Bd_Sectioninit T
  have KN_Sectioninit := KN_init T
  have G_Sectionsides := ok_sides (P := P) (w := w) (base := base) T
  have B_Sectionsides := Bd_Sectionsides T
  have G_Sectionends := ok_ends (P := P) (w := w) (base := base) T
  have B_Sectionends := Bd_Sectionends T
  have G_Sectionways := ok_ways (P := P) (w := w) (base := base) T
  have B_Sectionways := Bd_Sectionways T
  have G_Sectioneq := ok_eq (P := P) (w := w) (base := base) T
  have B_Sectioneq := Bd_Sectioneq T
  have G_Lsame := ok_same (P := P) (w := w) (base := base) T 5
  have B_Lsame := Bd_Lsame T
  refine fn_run T.F__law_base_so sc_Lbaseso (fun M as ⟨_, _, _, _, e⟩ => by rw [e]; rfl) (fun cdv A outer s H E hr => ⟨_, (pss_cons (ps_set (i := 2) sc_Lbaseso.nd rfl (Or.inl rfl) (pe_make T.mk_Section G_Sectioninit (hr.mono (by decide)) (by rfl) T.m_Section B_Sectioninit .nil passF (pa_cons (pv 0) (pa_cons (pv 1) pa_nil))))
  (pss_cons (ps_set (i := 3) sc_Lbaseso.nd rfl (Or.inl rfl) (pe_lst (pa_cons (q_fld (K := K) (pv 2)) (pa_cons (q_fld (K := K) (pv 2)) (pa_cons (q_con (K := K) (pv 2)) (pa_cons (pe_meG0 (K := K) (pv 2) G_Sectionsides (hr.mono (by decide)) B_Sectionsides .nil pass0) (pa_cons (pe_meG0 (K := K) (pv 2) G_Sectionends (hr.mono (by decide)) B_Sectionends .nil pass0) (pa_cons (pe_meG (K := K) (pv 2) G_Sectionways (hr.mono (by decide)) B_Sectionways .nil pass0 (pa_cons pe_str pa_nil)) (pa_cons (pe_meG (K := K) (pv 2) G_Sectionways (hr.mono (by decide)) B_Sectionways .nil pass0 (pa_cons pe_str pa_nil)) pa_nil)))))))))
  (pss_cons (ps_if (pt_not (pt_val (pe_call G_Lsame (hr.mono (by decide)) (by rfl) T.m__law_same T.F__law_same.kp B_Lsame .nil pass0 (pa_cons (pv 3) (pa_cons (pe_lst (pa_cons (pv 0) (pa_cons (pv 1) (pa_cons pe_str (pa_cons (pe_lst pa_nil) (pa_cons (pe_lst pa_nil) (pa_cons (pe_lst pa_nil) (pa_cons (pe_lst pa_nil) pa_nil)))))))) pa_nil))))) (pss_one (ps_ret pe_bl)) pss_nil)
  (pss_cons (ps_set (i := 4) sc_Lbaseso.nd rfl (Or.inl rfl) (pe_lst (pa_cons (pe_cmpR (q_eqO (K := K) T.sp_Section___eq__.2 G_Sectioneq (hr.mono (by decide)) B_Sectioneq pass0) (pv 2) (pe_makeK0 T.mk_Section G_Sectioninit (hr.mono (by decide)) (by rfl) T.m_Section KN_Sectioninit passF (pk_cons (pv 1) (pk_cons (pv 0) pk_nil))) (nomark _)) (pa_cons (pe_cmpR (q_eqO (K := K) T.sp_Section___eq__.2 G_Sectioneq (hr.mono (by decide)) B_Sectioneq pass0) (pv 2) (pe_make T.mk_Section G_Sectioninit (hr.mono (by decide)) (by rfl) T.m_Section B_Sectioninit .nil passF (pa_cons (pv 0) (pa_cons (pe_op op_sub pe_int (pv 1)) pa_nil))) (nomark _)) (pa_cons (pe_cmpR (q_eqO (K := K) T.sp_Section___eq__.2 G_Sectioneq (hr.mono (by decide)) B_Sectioneq pass0) (pv 2) (pe_make T.mk_Plain G_Sectioninit (hr.mono (by decide)) (by rfl) T.m_Plain B_Sectioninit .nil passF (pa_cons (pv 0) (pa_cons (pv 1) pa_nil))) (nomark _)) pa_nil)))))
  (pss_one (ps_ret (pe_and (pe_cmpR (q_eqD (K := K) (room_u hr)) (pv 4) (pe_lst (pa_cons pe_bl (pa_cons pe_bl (pa_cons pe_bl pa_nil)))) (nomark _)) (pe_one (pe_cmpR (q_neO (K := K) T.sp_Section___eq__.2 G_Sectioneq (hr.mono (by decide)) B_Sectioneq pass0) (pe_make T.mk_Plain G_Sectioninit (hr.mono (by decide)) (by rfl) T.m_Plain B_Sectioninit .nil passF (pa_cons (pv 0) (pa_cons (pv 1) pa_nil))) (pv 2) (nomark _)))))))))), fun M as ⟨x, n, hx, hn, e⟩ => ?_⟩)
  subst e
  show Run K M [some (.str x), some (.int n), none, none, none] _ _
  refine run_asg1 (d := objK T .sec x n) (ev_mkK T (κ := .sec) (ev_var rfl) (ev_var rfl) hx.name hn) ?_
  refine run_asg1 (d := .list [.str x, .int n, .str "none", .list [], .list [], .list [], .list []]) ?_ ?_
  · have c := (ocK T .sec).toCls
    exact ev_lst1 (ea1 (ev_fld (ev_var rfl) c (noN T .sec) rfl) (ea1 (ev_fld (ev_var rfl) c (noL T .sec) rfl) (ea1 (ev_conD (ev_var rfl) c (conK T .sec) (by decide)) (ea1 (ev_sides T (κ := .sec) (ev_var rfl)) (ea1 (ev_ends T (κ := .sec) (ev_var rfl)) (ea1 (ev_ways T (κ := .sec) (ev_var rfl) ev_cstr (by decide +kernel)) (ea1 (ev_ways T (κ := .sec) (ev_var rfl) ev_cstr (by decide +kernel)) ea_nil))))))) (Nat.le_of_ble_eq_true rfl)
  refine run_seq (run_ifF (et_not (et_test (ev_same (ev_var rfl) (by walk_at "ev") rfl))) rfl (run_next ?_))
  refine run_asg1 (d := .list [.bl true, .bl false, .bl false]) ?_ ?_
  · refine ev_lst1 (ea1 (ev_eq (ev_op1 (ev_var rfl) (ev_mkKK T (κ := .sec) (ev_var rfl) (ev_var rfl) hx.name hn) (od_eqK T (κ := .sec) (κ' := .sec) (hx.fl 0) (hx.fl 0))) (by rw [eqK_t])) (ea1 (ev_eq (ev_op1 (ev_var rfl) (ev_mkK T (κ := .sec) (ev_var rfl) (ev_op1 ev_cint (ev_var rfl) od_subI) hx.name ⟨by omega, by omega⟩) (od_eqK T (κ := .sec) (κ' := .sec) (hx.fl 0) (hx.fl 0))) (by rw [eqK_n (by omega)]))
      (ea1 (ev_eq (ev_op1 (ev_var rfl) (ev_mkK T (κ := .pla) (ev_var rfl) (ev_var rfl) hx.name hn) (od_eqK T (κ := .sec) (κ' := .pla) (hx.fl 0) (hx.fl 0))) (by rw [eqK_k (by decide)])) ea_nil))) (Nat.le_of_ble_eq_true rfl)
  refine run_ret1 (d := .bl true) (ev_andT (a := true) (ev_eq (ev_op1 (ev_var rfl) (by walk_at "ev") (od_eqD (n := 3) (by decide +kernel) (by decide +kernel))) (congrArg D.bl (by decide +kernel))) rfl (ev_eq (ev_op1 (ev_mkK T (κ := .pla) (ev_var rfl) (ev_var rfl) hx.name hn) (ev_var rfl) (od_neK T (κ := .pla) (κ' := .sec) (fun e => nomatch e) (hx.fl 0) (hx.fl 0))) (by rw [eqK_k (by decide)]; rfl))) rfl
end
end K2
namespace K2
open PySem L2 Rg RZ PyProof.Rows
local macro_rules | `(tactic| walk_at "ev") => `(tactic| first
  | with_reducible assumption
  | ((with_reducible apply ev_var); exact rfl)
  | with_reducible exact ev_cint
  | with_reducible exact ev_cbl
  | with_reducible exact ev_cnon
  | with_reducible exact ev_cstr
  | ((with_reducible apply ev_c); with_reducible assumption)
  | with_reducible exact ev_craw
  | ((with_reducible apply ev_tup1); walk_at "ea"; exact Nat.le_of_ble_eq_true rfl)
  | ((with_reducible apply ev_lst1); walk_at "ea"; exact Nat.le_of_ble_eq_true rfl)
  | ((with_reducible apply ev_op1); walk_at "ev"; walk_at "ev"; walk_at "od")
  | ((with_reducible apply ev_un1); walk_at "ev"; exact ud_neg)
  | ((with_reducible apply ev_isSeq); walk_at "ev"; walk_at "ea"; exact rfl; exact rfl)
  | ((with_reducible apply ev_cb1); walk_at "ea"; walk_at "cd")
  | ((with_reducible apply ev_chainB); walk_at "ev"; walk_at "ev"; walk_at "od"; walk_at "ev"; walk_at "od")
  | ((with_reducible apply ev_andF); walk_at "ev"; exact rfl)
  | ((with_reducible apply ev_andT); walk_at "ev"; exact rfl; walk_at "ev")
  | ((with_reducible apply ev_andB); walk_at "ev"; intro _; walk_at "ev")
  | ((with_reducible apply ev_orT); walk_at "ev"; exact rfl)
  | ((with_reducible apply ev_orF); walk_at "ev"; exact rfl; walk_at "ev")
  | ((with_reducible apply ev_orB); walk_at "ev"; intro _; walk_at "ev")
  | ((with_reducible apply ev_notV); walk_at "ev"))
local macro_rules | `(tactic| walk_at "et") => `(tactic| first
  | ((with_reducible apply et_B); walk_at "ev")
  | ((with_reducible apply et_test); walk_at "ev")
  | ((with_reducible apply et_not); walk_at "et")
  | ((with_reducible apply et_orT); walk_at "et"; exact rfl)
  | ((with_reducible apply et_orF); walk_at "et"; exact rfl; walk_at "et")
  | ((with_reducible apply et_or); walk_at "et"; intro _; walk_at "et")
  | ((with_reducible apply et_andF); walk_at "et"; exact rfl)
  | ((with_reducible apply et_andT); walk_at "et"; exact rfl; walk_at "et")
  | ((with_reducible apply et_and); walk_at "et"; intro _; walk_at "et"))
local macro_rules | `(tactic| walk_at "ea") => `(tactic| first
  | with_reducible exact ea_nil
  | ((with_reducible apply ea1); walk_at "ev"; walk_at "ea"))
local macro_rules | `(tactic| walk_at "od") => `(tactic| first
  | with_reducible exact od_addI
  | with_reducible exact od_subI
  | ((with_reducible apply od_addS); (try simp only [PySem.Str.length_append]); omega)
  | ((with_reducible apply od_catL); exact Nat.le_of_ble_eq_true rfl)
  | ((with_reducible apply od_modI); first | decide | omega)
  | ((with_reducible apply od_mulI); first | (exact Or.inr ⟨by decide, by decide⟩) | (exact Or.inl ⟨by decide, by decide⟩) | (exact Or.inl ⟨by omega, by omega⟩) | (exact Or.inr ⟨by omega, by omega⟩))
  | ((with_reducible apply od_divI); first | (exact ⟨by decide, by decide⟩) | (exact ⟨by omega, by omega⟩))
  | ((with_reducible apply od_powI); exact ⟨by decide, by decide, by decide⟩)
  | with_reducible exact od_leI
  | with_reducible exact od_ltI
  | with_reducible exact od_gtI
  | with_reducible exact od_geI
  | with_reducible exact od_eqI
  | with_reducible exact od_eqB
  | with_reducible exact od_neB
  | with_reducible exact od_neI
  | with_reducible exact od_eqS
  | with_reducible exact od_inS
  | ((with_reducible apply od_none); exact rfl)
  | ((with_reducible apply od_ix); exact rfl))
local macro_rules | `(tactic| walk_at "cd") => `(tactic| first
  | ((with_reducible apply cd_isStr); exact rfl)
  | ((with_reducible apply cd_isInt); exact rfl)
  | ((with_reducible apply cd_isBool); exact rfl)
  | ((with_reducible apply cd_isList); exact rfl)
  | ((with_reducible apply cd_isTuple); exact rfl)
  | ((with_reducible apply cd_isi); assumption)
  | ((with_reducible apply cd_len); assumption)
  | ((with_reducible apply cd_len); exact rfl)
  | with_reducible exact cd_intI
  | with_reducible exact cd_listof
  | ((with_reducible apply cd_str); assumption)
  | with_reducible exact cd_all)
local macro_rules | `(tactic| walk_at "px") => `(tactic| first
  | ((with_reducible apply px_var); exact rfl)
  | with_reducible exact px_c
  | ((with_reducible apply px_op); walk_at "px"; walk_at "px"; walk_at "pr")
  | ((with_reducible apply px_cb); walk_at "pa"; walk_at "pr")
  | ((with_reducible apply px_test); walk_at "px")
  | ((with_reducible apply px_B); walk_at "px")
  | ((with_reducible apply px_and); walk_at "px"; walk_at "px"))
local macro_rules | `(tactic| walk_at "pa") => `(tactic| first
  | with_reducible exact px_nil
  | ((with_reducible apply px_cons); walk_at "px"; walk_at "pa"))
local macro_rules | `(tactic| walk_at "pr") => `(tactic| first
  | exact px_addI
  | (apply px_ix; assumption; exact rfl)
  | (apply px_ix; assumption; assumption)
  | exact px_eqI
  | exact fun Q q => ⟨_, _, rfl, rfl, q⟩
  | exact fun Q q => ⟨_, _, rfl, rfl, (Or.inr ⟨by decide, by decide⟩), q⟩
  | exact fun Q q => ⟨_, _, rfl, rfl, (Or.inl ⟨by omega, by omega⟩), q⟩
  | exact fun Q q => ⟨_, _, rfl, rfl, (Or.inr ⟨by omega, by omega⟩), q⟩
  | exact fun Q q => ⟨_, _, rfl, rfl, ⟨by decide, by decide⟩, q⟩
  | exact fun Q q => ⟨_, _, rfl, rfl, ⟨by omega, by omega⟩, q⟩
  | exact fun Q q => ⟨_, _, rfl, rfl, ⟨by decide, by decide, by decide⟩, q⟩
  | exact fun Q q => ⟨_, _, rfl, rfl, (by decide), q⟩
  | exact fun Q q => ⟨_, _, rfl, rfl, (by omega), q⟩
  | (apply px_len; assumption)
  | exact px_intI
  | exact px_abs)
local macro_rules | `(tactic| walk_at "fg") => `(tactic| repeat first | exact Fg.nil | apply Fg.keep | apply Fg.drop)
section
variable {P : Program} {w : World} {K : PySem.W.Frag} {mg : Str → Option Value} {base : Heap}
def badL : List D := [.int 0, .int 51, .int (-1), .non, .bl true, .bl false, .str "5", .list [.int 5], .tup [.int 5], .int (10 ^ 9)]
theorem odd_ok : ∀ d ∈ oddL, okD d = true ∧ isNameD d = false ∧ okN 4 d = true := by
  intro d h
  simp only [oddL, List.mem_cons, List.not_mem_nil, or_false] at h
  rcases h with h | h | h | h | h | h | h | h | h | h | h | h | h | h <;> subst h <;> decide +kernel
theorem bad_ok : ∀ d ∈ badL, okD d = true ∧ isNumD d 1 50 = false ∧ okN 4 d = true := by
  intro d h
  simp only [badL, List.mem_cons, List.not_mem_nil, or_false] at h
  rcases h with h | h | h | h | h | h | h | h | h | h <;> subst h <;> decide +kernel
abbrev lamQ : Str := (Str.ofString "_law_refused_so" ++ Str.ofString ".<locals>.") ++ Str.ofString "<lambda>"
def preRf (T : Tx K mg) (M : Ml) (as : List D) : Prop := ∃ b x, as = [.raw (.ref b), .str x] ∧ (b, IsBag K) ∈ M ∧ (T.tb_Lrefusedso, TabP lamQ) ∈ M ∧ Word x
abbrev ysR : List (Str × Nat) := [("_law_odd_here", 2), ("_law_bad", 3), ("_law_word", 1)]
theorem mem_adds {M : Mt} {q : Addr × (Hp → HO → Prop)} {l : Ml} (h : q ∈ M.l) : q ∈ (M.adds l).l := List.mem_append_right _ h
theorem ok_refused (T : Tx K mg) (TB : LamX.TabB base mg T.cd_Lrefusedso T.tb_Lrefusedso) : FnOk P w K mg base CX0 8 T.f__law_refused_so T.fd__law_refused_so ["_law_bag_here", "_law_word"] (spF K (preRf T) postTrue) := by
  have G_Sectioninit := ok_init (P := P) (w := w) (base := base) T
  have B_Sectioninit := Bd_Sectioninit T
  have KN_Sectioninit := KN_init T
  have G_Lodd := ok_odd (P := P) (w := w) (base := base) T
  have B_Lodd := Bd_Lodd T
  have G_Lof := ok_of (P := P) (w := w) (base := base) T
  have B_Lof := Bd_Lof T
  have G_Ltries := ok_tries (P := P) (w := w) (base := base) T
  have B_Ltries := Bd_Ltries T
  have G_Lsame := ok_same (P := P) (w := w) (base := base) T 7
  have B_Lsame := Bd_Lsame T
  refine fn_runC T.F__law_refused_so sc_Lrefusedso (fun M as ⟨_, _, e, _⟩ => by rw [e]; rfl) T.hc_Lrefusedso (fun A outer s H E hr => ⟨_, (pss_cons (ps_set (i := 2) sc_Lrefusedso.nd rfl (Or.inr rfl) (pe_call G_Lodd (hr.mono (by decide)) (by rfl) T.m__law_odd T.F__law_odd.kp B_Lodd .nil pass0 (pa_cons (pv 0) pa_nil)))
  (pss_cons (ps_set (i := 3) sc_Lrefusedso.nd rfl (Or.inr rfl) (pe_call G_Lof (hr.mono (by decide)) (by rfl) T.m__law_of T.F__law_of.kp B_Lof .nil pass0 (pa_cons (pv 0) (pa_cons (pe_lst (pa_cons pe_int (pa_cons pe_int (pa_cons (pe_un un_neg pe_int) (pa_cons pe_non (pa_cons pe_bl (pa_cons pe_bl (pa_cons pe_str (pa_cons (pe_lst (pa_cons pe_int pa_nil)) (pa_cons (pe_tup (pa_cons pe_int pa_nil)) (pa_cons (pe_op op_pow pe_int pe_int) pa_nil))))))))))) pa_nil))))
  (pss_cons (ps_set (i := 4) sc_Lrefusedso.nd rfl (Or.inl rfl) (pe_lst (pa_cons (pe_lam0 TB rfl (by intro h y hy e; exact lam_freeS (sc := defScope s_Lrefusedso) h rfl (by decide +kernel) hy e) rfl) (pa_cons (pe_lam1 TB rfl (by intro h y hy e; exact lam_freeS (sc := defScope s_Lrefusedso) h rfl (by decide +kernel) hy e) rfl rfl) (pa_cons (pe_lam1 TB rfl (by intro h y hy e; exact lam_freeS (sc := defScope s_Lrefusedso) h rfl (by decide +kernel) hy e) rfl rfl) (pa_cons (pe_lam1 TB rfl (by intro h y hy e; exact lam_freeS (sc := defScope s_Lrefusedso) h rfl (by decide +kernel) hy e) rfl rfl) pa_nil))))))
  (pss_cons (ps_if (pt_not (pt_val (pe_call G_Lsame (hr.mono (by decide)) (by rfl) T.m__law_same T.F__law_same.kp B_Lsame .nil pass0 (pa_cons (pe_callT (ys := [("_law_odd_here", 2), ("_law_bad", 3), ("_law_word", 1)]) G_Ltries (hr.mono (by decide)) (by rfl) T.m__law_tries T.F__law_tries.kp B_Ltries (tells_by (N := n_Lrefusedso) (sc := defScope s_Lrefusedso) rfl rfl (fun _ _ => rfl) (by decide +kernel)) (by decide) (pa_cons (pv 4) pa_nil)) (pa_cons (pe_op op_mulU (pe_lst (pa_cons (pe_tup (pa_cons pe_str (pa_cons (pe_tup (pa_cons (pv 2) pa_nil)) pa_nil))) pa_nil)) pe_int) pa_nil))))) (pss_one (ps_ret pe_bl)) pss_nil)
  (pss_cons (ps_set (i := 4) sc_Lrefusedso.nd rfl (Or.inl rfl) (pe_lst (pa_cons (pe_lam0 TB rfl (by intro h y hy e; exact lam_freeS (sc := defScope s_Lrefusedso) h rfl (by decide +kernel) hy e) rfl) (pa_cons (pe_lam1 TB rfl (by intro h y hy e; exact lam_freeS (sc := defScope s_Lrefusedso) h rfl (by decide +kernel) hy e) rfl rfl) (pa_cons (pe_lam1 TB rfl (by intro h y hy e; exact lam_freeS (sc := defScope s_Lrefusedso) h rfl (by decide +kernel) hy e) rfl rfl) pa_nil)))))
  (pss_cons (ps_expr (pe_bm PySem.F.plainAttrs_list PySem.F.slot_list_append PySem.F.type_list_append mt_append (pv 4) (pa_cons (pe_lam1 TB rfl (by intro h y hy e; exact lam_freeS (sc := defScope s_Lrefusedso) h rfl (by decide +kernel) hy e) rfl rfl) pa_nil)))
  (pss_one (ps_ret (pe_call G_Lsame (hr.mono (by decide)) (by rfl) T.m__law_same T.F__law_same.kp B_Lsame .nil pass0 (pa_cons (pe_callT (ys := [("_law_odd_here", 2), ("_law_bad", 3), ("_law_word", 1)]) G_Ltries (hr.mono (by decide)) (by rfl) T.m__law_tries T.F__law_tries.kp B_Ltries (tells_by (N := n_Lrefusedso) (sc := defScope s_Lrefusedso) rfl rfl (fun _ _ => rfl) (by decide +kernel)) (by decide) (pa_cons (pv 4) pa_nil)) (pa_cons (pe_op op_mulU (pe_lst (pa_cons (pe_tup (pa_cons pe_str (pa_cons (pe_tup (pa_cons (pv 3) pa_nil)) pa_nil))) pa_nil)) pe_int) pa_nil))))))))))), fun M as ⟨b, x, e, hm, ht, hx⟩ => ?_⟩)
  subst e
  show Run K M [some (.raw (.ref b)), some (.str x), none, none, none] _ _
  refine run_asg (R := (· ∈ oddL)) ((ev_call1 (ea1 (ev_var rfl) ea_nil) fun M' ms => ⟨b, rfl, ms.l _ hm⟩).weak fun d q => q) fun d1 h1 => ?_
  obtain ⟨o1, o2, o3⟩ := odd_ok d1 h1
  refine run_asg (ev_of (es := badL) (ev_var rfl) (ev_eq (by walk_at "ev") (by exact rfl)) hm rfl rfl) fun d2 h2 => ?_
  obtain ⟨b1, b2, b3⟩ := bad_ok d2 h2
  show Run K M [some (.raw (.ref b)), some (.str x), some d1, some d2, none] _ _
  have okx : okD (.str x) = true := decide_eq_true (Nat.le_trans hx.hi (by decide))
  refine run_asg (ev_lst (ea_cons (ev_lam ht) (ea_cons (ev_lam ht) (ea_cons (ev_lam ht) (ea_cons (ev_lam ht) ea_nil)))) ?_) fun d ⟨as, ed, a1, r1, e1, ⟨L1, el1, i1⟩, a2, r2, e2, ⟨L2, el2, i2⟩, a3, r3, e3, ⟨L3, el3, i3⟩, a4, r4, e4, ⟨L4, el4, i4⟩, e5⟩ => ?_
  · rintro as ⟨a1, r1, e1, _, a2, r2, e2, _, a3, r3, e3, _, a4, r4, e4, _, e5⟩
    subst e5 e4 e3 e2 e1
    exact Nat.le_of_ble_eq_true rfl
  subst e5 e4 e3 e2 e1 ed el1 el2 el3 el4
  have A1 : ∀ (M' : Mt) (obs : Addr → Obj), Ask T P w base (cellsM K _ ysR [some (.raw (.ref b)), some (.str x), some d1, some d2, some (.list [.fob L1, .fob L2, .fob L3, .fob L4])] obs ++ M'.l) L1 (.tup [.str (nE true), .tup [d1]]) := fun M' obs => .inl ⟨true, d1, lam_told i1 ysR none (by decide +kernel) (by decide +kernel) (fun _ _ _ _ _ _ _ _ => rfl) rfl (fun n e => nomatch e) (fun dt doc pm c ct X A outer s H E f eX hr tk => by
      subst eX
      exact ⟨_, pe_make T.mk_Plain G_Sectioninit (hr.mono (by decide)) (by rfl) T.m_Plain B_Sectioninit .nil (passT tk) (pa_cons (pv 0) (pa_cons (pv 1) pa_nil)), fun l0 _ => ev_mkX T (κ := .pla) (d1 := d1) (px := fun _ => True) rfl (ev_var rfl) (ev_var rfl) o1 b1 (.inl ⟨o2, exk_fn rfl⟩)⟩), rfl⟩
  have A2 : ∀ (M' : Mt) (obs : Addr → Obj), Ask T P w base (cellsM K _ ysR [some (.raw (.ref b)), some (.str x), some d1, some d2, some (.list [.fob L1, .fob L2, .fob L3, .fob L4])] obs ++ M'.l) L2 (.tup [.str (nE true), .tup [d1]]) := fun M' obs => .inl ⟨true, d1, lam_told i2 ysR (some "_law_a") (by decide +kernel) (by decide +kernel) (fun _ _ _ _ _ _ _ _ _ => ⟨_, rfl, fun _ => rfl⟩) rfl (fun n e => by cases e; rfl) (fun dt doc pm c ct X A outer s H E f eX hr tk => by
      subst eX
      exact ⟨_, pe_make T.mk_Point G_Sectioninit (hr.mono (by decide)) (by rfl) T.m_Point B_Sectioninit .nil (passT tk) (pa_cons (pv 0) (pa_cons pe_int pa_nil)), fun l0 _ => ev_mkX T (κ := .poi) (d1 := d1) (px := fun _ => True) rfl (ev_var rfl) ev_cint o1 rfl (.inl ⟨o2, exk_fn rfl⟩)⟩), rfl⟩
  have A3 : ∀ (M' : Mt) (obs : Addr → Obj), Ask T P w base (cellsM K _ ysR [some (.raw (.ref b)), some (.str x), some d1, some d2, some (.list [.fob L1, .fob L2, .fob L3, .fob L4])] obs ++ M'.l) L3 (.tup [.str (nE true), .tup [d1]]) := fun M' obs => .inl ⟨true, d1, lam_told i3 ysR (some "_law_b") (by decide +kernel) (by decide +kernel) (fun _ _ _ _ _ _ _ _ _ => ⟨_, rfl, fun _ => rfl⟩) rfl (fun n e => by cases e; rfl) (fun dt doc pm c ct X A outer s H E f eX hr tk => by
      subst eX
      exact ⟨_, pe_make T.mk_Crossing G_Sectioninit (hr.mono (by decide)) (by rfl) T.m_Crossing B_Sectioninit .nil (passT tk) (pa_cons (pv 0) (pa_cons (pv 1) pa_nil)), fun l0 _ => ev_mkX T (κ := .cro) (d1 := d1) (px := fun _ => True) rfl (ev_var rfl) (ev_var rfl) o1 b1 (.inl ⟨o2, exk_fn rfl⟩)⟩), rfl⟩
  have A4 : ∀ (M' : Mt) (obs : Addr → Obj), Ask T P w base (cellsM K _ ysR [some (.raw (.ref b)), some (.str x), some d1, some d2, some (.list [.fob L1, .fob L2, .fob L3, .fob L4])] obs ++ M'.l) L4 (.tup [.str (nE true), .tup [d1]]) := fun M' obs => .inl ⟨true, d1, lam_told i4 ysR (some "_law_c") (by decide +kernel) (by decide +kernel) (fun _ _ _ _ _ _ _ _ _ => ⟨_, rfl, fun _ => rfl⟩) rfl (fun n e => by cases e; rfl) (fun dt doc pm c ct X A outer s H E f eX hr tk => by
      subst eX
      exact ⟨_, pe_make T.mk_Section G_Sectioninit (hr.mono (by decide)) (by rfl) T.m_Section B_Sectioninit .nil (passT tk) (pa_cons (pv 0) (pa_cons (pv 1) pa_nil)), fun l0 _ => ev_mkX T (κ := .sec) (d1 := d1) (px := fun _ => True) rfl (ev_var rfl) (ev_var rfl) o1 b1 (.inl ⟨o2, exk_fn rfl⟩)⟩), rfl⟩
  have tr1 : ∀ M' : Mt, MSub M M' → ∀ obs : Addr → Obj, preTries T P w base (List.replicate 4 (.tup [.str (nE true), .tup [d1]])) (cellsM K _ ysR [some (.raw (.ref b)), some (.str x), some d1, some d2, some (.list [.fob L1, .fob L2, .fob L3, .fob L4])] obs ++ M'.l) [.list [.fob L1, .fob L2, .fob L3, .fob L4]] := fun M' _ obs => ⟨[L1, L2, L3, L4], rfl, rfl, Nat.le_of_ble_eq_true rfl, fun i L r hL hr => by
    match i, hL, hr with
    | 0, hL, hr => cases hL; cases hr; exact A1 M' obs
    | 1, hL, hr => cases hL; cases hr; exact A2 M' obs
    | 2, hL, hr => cases hL; cases hr; exact A3 M' obs
    | 3, hL, hr => cases hL; cases hr; exact A4 M' obs⟩
  have ok1 : okN 7 (.list (List.replicate 4 (.tup [.str (nE true), .tup [d1]]))) = true := by
    show (true && ((true && (true && ((true && (okN 4 d1 && true)) && true))) && ((true && (true && ((true && (okN 4 d1 && true)) && true))) && ((true && (true && ((true && (okN 4 d1 && true)) && true))) && ((true && (true && ((true && (okN 4 d1 && true)) && true))) && true))))) = true
    rw [o3]; rfl
  refine run_seq (run_ifF (et_not (et_test (ev_same (n := 7) (d := .list (List.replicate 4 (.tup [.str (nE true), .tup [d1]]))) ((ev_callTG (post := postTries) (γ := List.replicate 4 (.tup [.str (nE true), .tup [d1]])) (RA := (· = [.list [.fob L1, .fob L2, .fob L3, .fob L4]])) (fun y hy => ?_) (ea1 (ev_var rfl) ea_nil) fun as e => by subst e; exact ⟨fun M' obs ms => tr1 M' ms obs, fun d q => q⟩)) (ev_eq (ev_op1 (by walk_at "ev") ev_cint (od_rep (by decide) (by decide) (Nat.le_of_ble_eq_true rfl))) (by rfl)) ok1))) rfl (run_next ?_))
  · simp only [ysR, List.mem_cons, List.not_mem_nil, or_false] at hy
    rcases hy with rfl | rfl | rfl <;> exact ⟨_, rfl⟩
  clear tr1 A1 A2 A3 A4 i1 i2 i3 i4 ok1
  refine (run_forget (b := [some (.raw (.ref b)), some (.str x), some d1, some d2, none]) (by walk_at "fg") (run_w ?_))
  refine runw_asg (evw_lstR (ea_cons (ev_lam (mem_adds ht)) (ea_cons (ev_lam (mem_adds ht)) (ea_cons (ev_lam (mem_adds ht)) ea_nil))) ?_) fun o' d ⟨p, as, ⟨a1, r1, e1, ⟨L1, el1, i1⟩, a2, r2, e2, ⟨L2, el2, i2⟩, a3, r3, e3, ⟨L3, el3, i3⟩, e5⟩, eo, ed⟩ => ?_
  · rintro as ⟨a1, r1, e1, _, a2, r2, e2, _, a3, r3, e3, _, e5⟩
    subst e5 e3 e2 e1
    exact Nat.le_of_ble_eq_true rfl
  subst e5 e3 e2 e1 ed el1 el2 el3 eo
  refine runw_seq (runw_expr (evw_appendR (ev_var rfl) (ev_lam (mem_adds ht)) (Nat.le_of_ble_eq_true rfl)) fun o' d ⟨d4, ⟨L4, el4, i4⟩, eo, ed⟩ => ?_)
  subst eo el4
  refine runw_freeze (i := 4) rfl rfl ?_
  have A5 : ∀ (M' : Mt) (obs : Addr → Obj), Ask T P w base (cellsM K _ ysR [some (.raw (.ref b)), some (.str x), some d1, some d2, some (.list [.fob L1, .fob L2, .fob L3, .fob L4])] obs ++ M'.l) L1 (.tup [.str (nE false), .tup [d2]]) := fun M' obs => .inl ⟨false, d2, lam_told i1 ysR none (by decide +kernel) (by decide +kernel) (fun _ _ _ _ _ _ _ _ => rfl) rfl (fun n e => nomatch e) (fun dt doc pm c ct X A outer s H E f eX hr tk => by
      subst eX
      exact ⟨_, pe_make T.mk_Plain G_Sectioninit (hr.mono (by decide)) (by rfl) T.m_Plain B_Sectioninit .nil (passT tk) (pa_cons (pv 2) (pa_cons (pv 1) pa_nil)), fun l0 _ => ev_mkX T (κ := .pla) (d1 := .str x) (d2 := d2) (px := fun _ => True) rfl (ev_var rfl) (ev_var rfl) okx b1 (.inr ⟨hx.name, b2, exk_fn rfl⟩)⟩), rfl⟩
  have A6 : ∀ (M' : Mt) (obs : Addr → Obj), Ask T P w base (cellsM K _ ysR [some (.raw (.ref b)), some (.str x), some d1, some d2, some (.list [.fob L1, .fob L2, .fob L3, .fob L4])] obs ++ M'.l) L2 (.tup [.str (nE false), .tup [d2]]) := fun M' obs => .inl ⟨false, d2, lam_told i2 ysR (some "_law_a") (by decide +kernel) (by decide +kernel) (fun _ _ _ _ _ _ _ _ _ => ⟨_, rfl, fun _ => rfl⟩) rfl (fun n e => by cases e; rfl) (fun dt doc pm c ct X A outer s H E f eX hr tk => by
      subst eX
      exact ⟨_, pe_makeK0 T.mk_Point G_Sectioninit (hr.mono (by decide)) (by rfl) T.m_Point KN_Sectioninit (passT tk) (pk_cons (pv 1) (pk_cons (pv 2) pk_nil)), fun l0 _ => ev_mkXK T (κ := .poi) (d1 := .str x) (d2 := d2) rfl (ev_var rfl) (ev_var rfl) okx b1 ⟨hx.name, b2, exk_fn rfl⟩⟩), rfl⟩
  have A7 : ∀ (M' : Mt) (obs : Addr → Obj), Ask T P w base (cellsM K _ ysR [some (.raw (.ref b)), some (.str x), some d1, some d2, some (.list [.fob L1, .fob L2, .fob L3, .fob L4])] obs ++ M'.l) L3 (.tup [.str (nE false), .tup [d2]]) := fun M' obs => .inl ⟨false, d2, lam_told i3 ysR (some "_law_b") (by decide +kernel) (by decide +kernel) (fun _ _ _ _ _ _ _ _ _ => ⟨_, rfl, fun _ => rfl⟩) rfl (fun n e => by cases e; rfl) (fun dt doc pm c ct X A outer s H E f eX hr tk => by
      subst eX
      exact ⟨_, pe_make T.mk_Crossing G_Sectioninit (hr.mono (by decide)) (by rfl) T.m_Crossing B_Sectioninit .nil (passT tk) (pa_cons (pv 2) (pa_cons (pv 1) pa_nil)), fun l0 _ => ev_mkX T (κ := .cro) (d1 := .str x) (d2 := d2) (px := fun _ => True) rfl (ev_var rfl) (ev_var rfl) okx b1 (.inr ⟨hx.name, b2, exk_fn rfl⟩)⟩), rfl⟩
  have A8 : ∀ (M' : Mt) (obs : Addr → Obj), Ask T P w base (cellsM K _ ysR [some (.raw (.ref b)), some (.str x), some d1, some d2, some (.list [.fob L1, .fob L2, .fob L3, .fob L4])] obs ++ M'.l) L4 (.tup [.str (nE false), .tup [d2]]) := fun M' obs => .inl ⟨false, d2, lam_told i4 ysR (some "_law_c") (by decide +kernel) (by decide +kernel) (fun _ _ _ _ _ _ _ _ _ => ⟨_, rfl, fun _ => rfl⟩) rfl (fun n e => by cases e; rfl) (fun dt doc pm c ct X A outer s H E f eX hr tk => by
      subst eX
      exact ⟨_, pe_make T.mk_Section G_Sectioninit (hr.mono (by decide)) (by rfl) T.m_Section B_Sectioninit .nil (passT tk) (pa_cons (pv 2) (pa_cons (pv 1) pa_nil)), fun l0 _ => ev_mkX T (κ := .sec) (d1 := .str x) (d2 := d2) (px := fun _ => True) rfl (ev_var rfl) (ev_var rfl) okx b1 (.inr ⟨hx.name, b2, exk_fn rfl⟩)⟩), rfl⟩
  have tr2 : ∀ M' : Mt, ∀ obs : Addr → Obj, preTries T P w base (List.replicate 4 (.tup [.str (nE false), .tup [d2]])) (cellsM K _ ysR [some (.raw (.ref b)), some (.str x), some d1, some d2, some (.list [.fob L1, .fob L2, .fob L3, .fob L4])] obs ++ M'.l) [.list [.fob L1, .fob L2, .fob L3, .fob L4]] := fun M' obs => ⟨[L1, L2, L3, L4], rfl, rfl, Nat.le_of_ble_eq_true rfl, fun i L r hL hr => by
    match i, hL, hr with
    | 0, hL, hr => cases hL; cases hr; exact A5 M' obs
    | 1, hL, hr => cases hL; cases hr; exact A6 M' obs
    | 2, hL, hr => cases hL; cases hr; exact A7 M' obs
    | 3, hL, hr => cases hL; cases hr; exact A8 M' obs⟩
  have ok1 : okN 7 (.list (List.replicate 4 (.tup [.str (nE false), .tup [d2]]))) = true := by
    show (true && ((true && (true && ((true && (okN 4 d2 && true)) && true))) && ((true && (true && ((true && (okN 4 d2 && true)) && true))) && ((true && (true && ((true && (okN 4 d2 && true)) && true))) && ((true && (true && ((true && (okN 4 d2 && true)) && true))) && true))))) = true
    rw [b3]; rfl
  refine runw_ret ((evw_ev (ev_same (n := 7) (d := .list (List.replicate 4 (.tup [.str (nE false), .tup [d2]]))) ((ev_callTG (post := postTries) (γ := List.replicate 4 (.tup [.str (nE false), .tup [d2]])) (RA := (· = [.list [.fob L1, .fob L2, .fob L3, .fob L4]])) (fun y hy => ?_) (ea1 (ev_var rfl) ea_nil) fun as e => by subst e; exact ⟨fun M' obs ms => tr2 M' obs, fun d q => q⟩)) (ev_eq (ev_op1 (by walk_at "ev") ev_cint (od_rep (by decide) (by decide) (Nat.le_of_ble_eq_true rfl))) (by rfl)) ok1)).weak fun o' d h => h)
  simp only [ysR, List.mem_cons, List.not_mem_nil, or_false] at hy
  rcases hy with rfl | rfl | rfl <;> exact ⟨_, rfl⟩
end
end K2
namespace K2
open PySem L2 Rg RZ PyProof.Rows
local macro_rules | `(tactic| walk_at "ev") => `(tactic| first
  | with_reducible assumption
  | ((with_reducible apply ev_var); exact rfl)
  | with_reducible exact ev_cint
  | with_reducible exact ev_cbl
  | with_reducible exact ev_cnon
  | with_reducible exact ev_cstr
  | ((with_reducible apply ev_c); with_reducible assumption)
  | with_reducible exact ev_craw
  | ((with_reducible apply ev_tup1); walk_at "ea"; exact Nat.le_of_ble_eq_true rfl)
  | ((with_reducible apply ev_lst1); walk_at "ea"; exact Nat.le_of_ble_eq_true rfl)
  | ((with_reducible apply ev_op1); walk_at "ev"; walk_at "ev"; walk_at "od")
  | ((with_reducible apply ev_un1); walk_at "ev"; exact ud_neg)
  | ((with_reducible apply ev_isSeq); walk_at "ev"; walk_at "ea"; exact rfl; exact rfl)
  | ((with_reducible apply ev_cb1); walk_at "ea"; walk_at "cd")
  | ((with_reducible apply ev_chainB); walk_at "ev"; walk_at "ev"; walk_at "od"; walk_at "ev"; walk_at "od")
  | ((with_reducible apply ev_andF); walk_at "ev"; exact rfl)
  | ((with_reducible apply ev_andT); walk_at "ev"; exact rfl; walk_at "ev")
  | ((with_reducible apply ev_andB); walk_at "ev"; intro _; walk_at "ev")
  | ((with_reducible apply ev_orT); walk_at "ev"; exact rfl)
  | ((with_reducible apply ev_orF); walk_at "ev"; exact rfl; walk_at "ev")
  | ((with_reducible apply ev_orB); walk_at "ev"; intro _; walk_at "ev")
  | ((with_reducible apply ev_notV); walk_at "ev"))
local macro_rules | `(tactic| walk_at "et") => `(tactic| first
  | ((with_reducible apply et_B); walk_at "ev")
  | ((with_reducible apply et_test); walk_at "ev")
  | ((with_reducible apply et_not); walk_at "et")
  | ((with_reducible apply et_orT); walk_at "et"; exact rfl)
  | ((with_reducible apply et_orF); walk_at "et"; exact rfl; walk_at "et")
  | ((with_reducible apply et_or); walk_at "et"; intro _; walk_at "et")
  | ((with_reducible apply et_andF); walk_at "et"; exact rfl)
  | ((with_reducible apply et_andT); walk_at "et"; exact rfl; walk_at "et")
  | ((with_reducible apply et_and); walk_at "et"; intro _; walk_at "et"))
local macro_rules | `(tactic| walk_at "ea") => `(tactic| first
  | with_reducible exact ea_nil
  | ((with_reducible apply ea1); walk_at "ev"; walk_at "ea"))
local macro_rules | `(tactic| walk_at "od") => `(tactic| first
  | with_reducible exact od_addI
  | with_reducible exact od_subI
  | ((with_reducible apply od_addS); (try simp only [PySem.Str.length_append]); omega)
  | ((with_reducible apply od_catL); exact Nat.le_of_ble_eq_true rfl)
  | ((with_reducible apply od_modI); first | decide | omega)
  | ((with_reducible apply od_mulI); first | (exact Or.inr ⟨by decide, by decide⟩) | (exact Or.inl ⟨by decide, by decide⟩) | (exact Or.inl ⟨by omega, by omega⟩) | (exact Or.inr ⟨by omega, by omega⟩))
  | ((with_reducible apply od_divI); first | (exact ⟨by decide, by decide⟩) | (exact ⟨by omega, by omega⟩))
  | ((with_reducible apply od_powI); exact ⟨by decide, by decide, by decide⟩)
  | with_reducible exact od_leI
  | with_reducible exact od_ltI
  | with_reducible exact od_gtI
  | with_reducible exact od_geI
  | with_reducible exact od_eqI
  | with_reducible exact od_eqB
  | with_reducible exact od_neB
  | with_reducible exact od_neI
  | with_reducible exact od_eqS
  | with_reducible exact od_inS
  | ((with_reducible apply od_none); exact rfl)
  | ((with_reducible apply od_ix); exact rfl))
local macro_rules | `(tactic| walk_at "cd") => `(tactic| first
  | ((with_reducible apply cd_isStr); exact rfl)
  | ((with_reducible apply cd_isInt); exact rfl)
  | ((with_reducible apply cd_isBool); exact rfl)
  | ((with_reducible apply cd_isList); exact rfl)
  | ((with_reducible apply cd_isTuple); exact rfl)
  | ((with_reducible apply cd_isi); assumption)
  | ((with_reducible apply cd_len); assumption)
  | ((with_reducible apply cd_len); exact rfl)
  | with_reducible exact cd_intI
  | with_reducible exact cd_listof
  | ((with_reducible apply cd_str); assumption)
  | with_reducible exact cd_all)
local macro_rules | `(tactic| walk_at "px") => `(tactic| first
  | ((with_reducible apply px_var); exact rfl)
  | with_reducible exact px_c
  | ((with_reducible apply px_op); walk_at "px"; walk_at "px"; walk_at "pr")
  | ((with_reducible apply px_cb); walk_at "pa"; walk_at "pr")
  | ((with_reducible apply px_test); walk_at "px")
  | ((with_reducible apply px_B); walk_at "px")
  | ((with_reducible apply px_and); walk_at "px"; walk_at "px"))
local macro_rules | `(tactic| walk_at "pa") => `(tactic| first
  | with_reducible exact px_nil
  | ((with_reducible apply px_cons); walk_at "px"; walk_at "pa"))
local macro_rules | `(tactic| walk_at "pr") => `(tactic| first
  | exact px_addI
  | (apply px_ix; assumption; exact rfl)
  | (apply px_ix; assumption; assumption)
  | exact px_eqI
  | exact fun Q q => ⟨_, _, rfl, rfl, q⟩
  | exact fun Q q => ⟨_, _, rfl, rfl, (Or.inr ⟨by decide, by decide⟩), q⟩
  | exact fun Q q => ⟨_, _, rfl, rfl, (Or.inl ⟨by omega, by omega⟩), q⟩
  | exact fun Q q => ⟨_, _, rfl, rfl, (Or.inr ⟨by omega, by omega⟩), q⟩
  | exact fun Q q => ⟨_, _, rfl, rfl, ⟨by decide, by decide⟩, q⟩
  | exact fun Q q => ⟨_, _, rfl, rfl, ⟨by omega, by omega⟩, q⟩
  | exact fun Q q => ⟨_, _, rfl, rfl, ⟨by decide, by decide, by decide⟩, q⟩
  | exact fun Q q => ⟨_, _, rfl, rfl, (by decide), q⟩
  | exact fun Q q => ⟨_, _, rfl, rfl, (by omega), q⟩
  | (apply px_len; assumption)
  | exact px_intI
  | exact px_abs)
local macro_rules | `(tactic| walk_at "fg") => `(tactic| repeat first | exact Fg.nil | apply Fg.keep | apply Fg.drop)
/-! ### the law -/
def kinds3 : List Kd := [.pla, .poi, .cro]
def all7 : List Str := ["a", "b", "c", "d", "left", "right", "stem"]
def away (κ : Kd) (s : Str) : Bool := !inV (.str s) (κ.sides.map V.str)
theorem away_no (κ : Kd) (hκ : κ ≠ .sec) : ∀ s ∈ all7, away κ s = true → κ.ways s = [] := by
  cases κ with
  | sec => exact (hκ rfl).elim
  | pla => decide +kernel
  | poi => decide +kernel
  | cro => decide +kernel
def farK (κ : Kd) : List Kd := kinds3.filter fun k => !decide (k.nm = κ.nm)
theorem far_two (κ : Kd) (hκ : κ ≠ .sec) : ∃ κ1 κ2, farK κ = [κ1, κ2] ∧ κ1 ≠ κ ∧ κ2 ≠ κ ∧ κ1 ≠ .sec ∧ κ2 ≠ .sec := by
  cases κ with
  | sec => exact (hκ rfl).elim
  | pla => exact ⟨.poi, .cro, by decide +kernel, by decide, by decide, by decide, by decide⟩
  | poi => exact ⟨.pla, .cro, by decide +kernel, by decide, by decide, by decide, by decide⟩
  | cro => exact ⟨.pla, .poi, by decide +kernel, by decide, by decide, by decide, by decide⟩
theorem side0 (κ : Kd) (hκ : κ ≠ .sec) : ∃ s : Str, itemD (.list (κ.sides.map D.str)) 0 = some (.str s) ∧ flD 1 (.str s) = true := by
  cases κ with
  | sec => exact (hκ rfl).elim
  | pla => exact ⟨_, rfl, by decide +kernel⟩
  | poi => exact ⟨_, rfl, by decide +kernel⟩
  | cro => exact ⟨_, rfl, by decide +kernel⟩
theorem all7_fl : ∀ s ∈ all7, flD 4 (.str s) = true := by decide +kernel
theorem ways_up (κ : Kd) (s : Str) (h : s ∉ all7) : waysP κ (.str s) = [] := by
  simp only [all7, List.mem_cons, List.not_mem_nil, or_false, not_or] at h
  obtain ⟨h1, h2, h3, h4, h5, h6, h7⟩ := h
  show κ.ways s = []
  cases κ <;> simp [Kd.ways, h1, h2, h3, h4, h5, h6, h7]
theorem side_fl (κ : Kd) : ∀ s ∈ κ.sides, flD 4 (.str s) = true := by cases κ <;> decide +kernel
section
variable {P : Program} {w : World} {K : PySem.W.Frag} {mg : Str → Option Value} {base : Heap}
def spLaw (T : Tx K mg) : Sp := fun vs H Q _ => ∃ (a : Addr) (ns : List Int), vs = [.ref a] ∧ SqL K H a (ns.map V.int) ∧ ns.length ≤ 63 ∧ H T.tb_Lrefusedso = some (.tbl #[]) ∧ ∀ H', Q (.bl true) H'
theorem ev_lsides {M : Mt} {ds : DS} {ta : TE} {κ : Kd} {E : XK} (h : Ev K M ds ta (· = .str κ.nm)) (hκ : κ ≠ .sec) : Ev K M ds (tCall (spF K preKd postKd) [] E (tCons ta tNil)) (· = .list (κ.sides.map D.str)) :=
  (ev_call1 (ea1 h ea_nil) fun _ _ => ⟨κ, hκ, rfl⟩).weak fun r q => q κ rfl
theorem ev_lways {M : Mt} {ds : DS} {ta tb : TE} {κ : Kd} {s : Str} {E : XK} (h : Ev K M ds ta (· = .str κ.nm)) (hb : Ev K M ds tb (· = .str s)) (hs : s ∈ κ.sides) : Ev K M ds (tCall (spF K preWy postWy) [] E (tCons ta (tCons tb tNil))) (· = .list ((κ.ways s).map prD)) :=
  (ev_call1 (ea1 h (ea1 hb ea_nil)) fun _ _ => ⟨κ, s, hs, rfl⟩).weak fun r q => q κ s rfl
theorem ev_sec (T : Tx K mg) {M : Mt} {ds : DS} {ta tb tc : TE} {κ : Kd} {x : Str} {n : Int} {E : XK} (h : Ev K M ds ta (· = .str κ.nm)) (hb : Ev K M ds tb (· = .str x)) (hc : Ev K M ds tc (· = .int n)) (hκ : κ ≠ .sec) (hx : isNameS x = true) (hn : 1 ≤ n ∧ n ≤ 50) :
    Ev K M ds (tCall (spF K preSec (postSec T)) [] E (tCons ta (tCons tb (tCons tc tNil)))) (· = objK T κ x n) :=
  (ev_call1 (ea1 h (ea1 hb (ea1 hc ea_nil))) fun _ _ => ⟨κ, x, n, hκ, hx, hn, rfl⟩).weak fun r q => q κ x n rfl
theorem ev_refused (T : Tx K mg) {M : Mt} {ds : DS} {ta tb : TE} {b : Addr} {x : Str} {E : XK} (h : Ev K M ds ta (· = .raw (.ref b))) (hb : Ev K M ds tb (· = .str x)) (hm : (b, IsBag K) ∈ M) (ht : (T.tb_Lrefusedso, TabP lamQ) ∈ M) (hx : Word x) :
    Ev K M ds (tCall (spF K (preRf T) postTrue) [] E (tCons ta (tCons tb tNil))) (· = .bl true) :=
  (ev_call1 (ea1 h (ea1 hb ea_nil)) fun _ ms => ⟨b, x, rfl, ms.l _ hm, ms.l _ ht, hx⟩).weak fun r q => q
theorem ev_base {M : Mt} {ds : DS} {ta tb : TE} {x : Str} {n : Int} {E : XK} (h : Ev K M ds ta (· = .str x)) (hb : Ev K M ds tb (· = .int n)) (hx : Word x) (hn : 1 ≤ n ∧ n ≤ 50) :
    Ev K M ds (tCall (spF K preBase postTrue) [] E (tCons ta (tCons tb tNil))) (· = .bl true) :=
  (ev_call1 (ea1 h (ea1 hb ea_nil)) fun _ _ => ⟨x, n, hx, hn, rfl⟩).weak fun r q => q
theorem ev_size {M : Mt} {ds : DS} {ta : TE} {b : Addr} {E E' : XK} (h : Ev K M ds ta (· = .raw (.ref b))) (hm : (b, IsBag K) ∈ M) :
    Ev K M ds (tCall (spF K (preOf K) postOf) [] E (tCons ta (tCons (tLst (tCons (tC (V.int 1)) (tCons (tC (V.int 50)) (tCons (tOp (rAddU K) (tC (V.int 1)) (tCall (spF K (preDraw K) postDraw) [] E' (tCons ta (tCons (tC (V.int 50)) tNil)))) tNil)))) tNil))) (fun d => ∃ n : Int, (1 ≤ n ∧ n ≤ 50) ∧ d = .int n) := by
  have h1 : Ev K M ds (tOp (rAddU K) (tC (V.int 1)) (tCall (spF K (preDraw K) postDraw) [] E' (tCons ta (tCons (tC (V.int 50)) tNil)))) (fun d => ∃ i : Int, (0 ≤ i ∧ i < 50) ∧ d = .int (1 + i)) := by
    refine ev_op (Ra := (· = .int 1)) (Rb := fun d => ∃ i : Int, (0 ≤ i ∧ i < 50) ∧ d = .int i) ev_cint (ev_draw h ev_cint hm (by decide) (by decide)) fun a b ea eb => ?_
    obtain ⟨i, hi, eb⟩ := eb
    subst ea eb
    exact fun M' G H x y Q m rx ry w q => od_addI M' G H x y Q m rx ry w fun v d G' H' s' w' r' e => q v d G' H' s' w' r' ⟨i, hi, e⟩
  have h2 : Ev K M ds (tLst (tCons (tC (V.int 1)) (tCons (tC (V.int 50)) (tCons (tOp (rAddU K) (tC (V.int 1)) (tCall (spF K (preDraw K) postDraw) [] E' (tCons ta (tCons (tC (V.int 50)) tNil)))) tNil)))) (fun d => ∃ i : Int, (0 ≤ i ∧ i < 50) ∧ d = .list [.int 1, .int 50, .int (1 + i)]) := by
    refine (ev_lst (ea_cons (Ra := (· = .int 1)) ev_cint (ea_cons (Ra := (· = .int 50)) ev_cint (ea_cons h1 ea_nil))) fun as hh => ?_).weak fun d hh => ?_
    · obtain ⟨a1, r1, e1, _, a2, r2, e2, _, a3, r3, e3, _, e4⟩ := hh
      subst e4 e3 e2 e1
      exact Nat.le_of_ble_eq_true rfl
    · obtain ⟨as, ed, a1, r1, e1, h1, a2, r2, e2, h2, a3, r3, e3, ⟨i, hi, h3⟩, e4⟩ := hh
      subst h1 h2 h3 e4 e3 e2 e1
      exact ⟨i, hi, ed⟩
  refine ev_ofR h h2 hm fun d hd => ?_
  obtain ⟨i, hi, rfl⟩ := hd
  refine ⟨_, rfl, rfl, (by intro _ h; cases h), Nat.le_of_ble_eq_true rfl, Nat.le_of_ble_eq_true rfl, fun e he => ?_⟩
  simp only [List.mem_cons, List.not_mem_nil, or_false] at he
  rcases he with h | h | h
  · exact ⟨1, by decide, h⟩
  · exact ⟨50, by decide, h⟩
  · exact ⟨1 + i, by omega, h⟩
theorem ev_waysK (T : Tx K mg) {M : Mt} {ds : DS} {te tx : TE} {κ : Kd} {x : Str} {n : Int} {d : D} {E : XK} (he : Ev K M ds te (· = objK T κ x n)) (hx : Ev K M ds tx (· = d)) (hd : flD 4 d = true) :
    Ev K M ds (tMeGK K T.f_Sectionways "ways" (spW K (preWays T) (postWays T) noX) kgs1 E te (tCons tx tNil)) (· = .list ((waysP κ d).map prD)) :=
  ev_own (evw_meGK (gD := fun d as => d :: as) he (ocK T κ).toCls (meWays T κ) (by decide) (ea1 hx ea_nil) (fun G v d' vs as e r rs => by subst e; exact kgs1_rp r rs) fun as e => by
    subst e
    refine ⟨fun M' _ => ⟨rfl, κ, x, n, d, rfl, hd⟩, fun o' d' h => ?_, fun _ _ h => h⟩
    obtain ⟨p, e1, e2⟩ := h κ x n d rfl
    exact ⟨p, by rw [e1]; rfl, e2⟩)
theorem ok_law (T : Tx K mg) (TB : LamX.TabB base mg T.cd_Lrefusedso T.tb_Lrefusedso) : FnOk P w K mg base CX0 9 T.f_law T.fd_law ["_law_script"] (spLaw T) := by
  have G_Sectioninit := ok_init (P := P) (w := w) (base := base) T
  have B_Sectioninit := Bd_Sectioninit T
  have G_Sectionsides := ok_sides (P := P) (w := w) (base := base) T
  have B_Sectionsides := Bd_Sectionsides T
  have G_Sectionends := ok_ends (P := P) (w := w) (base := base) T
  have B_Sectionends := Bd_Sectionends T
  have G_Sectionways := ok_ways (P := P) (w := w) (base := base) T
  have B_Sectionways := Bd_Sectionways T
  have KB_Sectionways := KB_ways T
  have G_Sectiontext := ok_text (P := P) (w := w) (base := base) T
  have B_Sectiontext := Bd_Sectiontext T
  have G_Sectionrepr := ok_repr (P := P) (w := w) (base := base) T
  have B_Sectionrepr := Bd_Sectionrepr T
  have G_Sectioneq := ok_eq (P := P) (w := w) (base := base) T
  have B_Sectioneq := Bd_Sectioneq T
  have G_Lsame := ok_same (P := P) (w := w) (base := base) T 5
  have B_Lsame := Bd_Lsame T
  have G_Lbag := ok_bag (P := P) (w := w) (base := base) T
  have B_Lbag := Bd_Lbag T
  have G_Ldraw := ok_draw (P := P) (w := w) (base := base) T
  have B_Ldraw := Bd_Ldraw T
  have G_Lof := ok_of (P := P) (w := w) (base := base) T
  have B_Lof := Bd_Lof T
  have G_Lwords := ok_words (P := P) (w := w) (base := base) T
  have B_Lwords := Bd_Lwords T
  have G_Lsides := ok_lsides (P := P) (w := w) (base := base) T
  have B_Lsides := Bd_Lsides T
  have G_Lways := ok_lways (P := P) (w := w) (base := base) T
  have B_Lways := Bd_Lways T
  have G_Lsection := ok_section (P := P) (w := w) (base := base) T
  have B_Lsection := Bd_Lsection T
  have G_Lrefusedso := ok_refused (P := P) (w := w) (base := base) T TB
  have B_Lrefusedso := Bd_Lrefusedso T
  have G_Lbaseso := ok_baseso (P := P) (w := w) (base := base) T
  have B_Lbaseso := Bd_Lbaseso T
  refine T.F_law.ok sc_law (fun vs H Q E h => ?_) (fun cdv A outer s H vs Q E hr h => ?_)
  · obtain ⟨a, ns, rfl, _⟩ := h
    rfl
  obtain ⟨a, ns, rfl, hS, hl, htb, q⟩ := h
  refine ⟨_, (pss_cons (ps_set (i := 1) sc_law.nd rfl (Or.inl rfl) (pe_call G_Lbag (hr.mono (by decide)) (by rfl) T.m__law_bag T.F__law_bag.kp B_Lbag .nil pass0 (pa_cons (pv 0) pa_nil)))
  (pss_cons (ps_for PassesOwn.never rfl (pi_range1 rfl T.b_range (pa_cons pe_int pa_nil)) (pg_name (i := 2) sc_law.nd rfl (Or.inl rfl))
    (pss_cons (ps_asg (pe_tup (pa_cons (pe_call G_Lwords (hr.mono (by decide)) (by rfl) T.m__law_words T.F__law_words.kp B_Lwords .nil pass0 (pa_cons (pv 1) (pa_cons pe_int pa_nil))) (pa_cons (pe_call G_Lof (hr.mono (by decide)) (by rfl) T.m__law_of T.F__law_of.kp B_Lof .nil pass0 (pa_cons (pv 1) (pa_cons (pe_lst (pa_cons pe_str (pa_cons pe_str (pa_cons pe_str pa_nil)))) pa_nil))) pa_nil))) (q_tup (K := K) (n := 2) rfl (pgs_cons (pg_name (i := 3) sc_law.nd rfl (Or.inr rfl)) (pgs_cons (pg_name (i := 4) sc_law.nd rfl (Or.inr rfl)) pgs_nil))))
    (pss_cons (ps_asg (pe_tup (pa_cons (pe_call G_Lof (hr.mono (by decide)) (by rfl) T.m__law_of T.F__law_of.kp B_Lof .nil pass0 (pa_cons (pv 1) (pa_cons (pe_lst (pa_cons pe_int (pa_cons pe_int (pa_cons (pe_op (q_add (K := K)) pe_int (pe_call G_Ldraw (hr.mono (by decide)) (by rfl) T.m__law_draw T.F__law_draw.kp B_Ldraw .nil pass0 (pa_cons (pv 1) (pa_cons pe_int pa_nil)))) pa_nil)))) pa_nil))) (pa_cons (pe_call G_Lsides (hr.mono (by decide)) (by rfl) T.m__law_sides T.F__law_sides.kp B_Lsides .nil pass0 (pa_cons (pv 4) pa_nil)) pa_nil))) (q_tup (K := K) (n := 2) rfl (pgs_cons (pg_name (i := 5) sc_law.nd rfl (Or.inl rfl)) (pgs_cons (pg_name (i := 6) sc_law.nd rfl (Or.inr rfl)) pgs_nil))))
    (pss_cons (ps_asg (pe_tup (pa_cons (pe_call G_Lsection (hr.mono (by decide)) (by rfl) T.m__law_section T.F__law_section.kp B_Lsection .nil pass0 (pa_cons (pv 4) (pa_cons (pe_ix (q_ix (K := K)) (pv 3) pe_int (fun _ _ => rfl)) (pa_cons (pv 5) pa_nil)))) (pa_cons (pe_op (q_add (K := K)) (pe_op (q_add (K := K)) (pe_op (q_add (K := K)) (pe_op (q_add (K := K)) (pv 4) pe_str) (pe_ix (q_ix (K := K)) (pv 3) pe_int (fun _ _ => rfl))) pe_str) (pe_callTy call_str_int (by rfl) T.b_str bt_str (pa_cons (pv 5) pa_nil))) pa_nil))) (q_tup (K := K) (n := 2) rfl (pgs_cons (pg_name (i := 7) sc_law.nd rfl (Or.inr rfl)) (pgs_cons (pg_name (i := 8) sc_law.nd rfl (Or.inl rfl)) pgs_nil))))
    (pss_cons (ps_for PassesOwn.never rfl (pi_range1 rfl T.b_range (pa_cons pe_int pa_nil)) (pg_name (i := 9) sc_law.nd rfl (Or.inl rfl))
      (pss_cons (ps_set (i := 10) sc_law.nd rfl (Or.inl rfl) (pe_lst (pa_cons (q_fld (K := K) (pv 7)) (pa_cons (q_fld (K := K) (pv 7)) (pa_cons (q_con (K := K) (pv 7)) (pa_cons (q_con (K := K) (pv 7)) (pa_cons (pe_meG0 (K := K) (pv 7) G_Sectionsides (hr.mono (by decide)) B_Sectionsides .nil pass0) (pa_cons (pe_meG0 (K := K) (pv 7) G_Sectionends (hr.mono (by decide)) B_Sectionends .nil pass0) (pa_cons (pe_meG0 (K := K) (pv 7) G_Sectiontext (hr.mono (by decide)) B_Sectiontext .nil pass0) (pa_cons (pe_callB (q_reprO (K := K) T.sp_Section___repr__.2 G_Sectionrepr (hr.mono (by decide)) B_Sectionrepr pass0) (by rfl) T.b_repr bt_repr (pa_cons (pv 7) pa_nil)) pa_nil))))))))))
      (pss_cons (ps_set (i := 11) sc_law.nd rfl (Or.inl rfl) (pe_lst (pa_cons (pe_ix (q_ix (K := K)) (pv 3) pe_int (fun _ _ => rfl)) (pa_cons (pv 5) (pa_cons (pv 4) (pa_cons pe_int (pa_cons (pv 6) (pa_cons (pe_lc (own := [("_law_gate", 17)]) (g := (gName 17)) (tt := tYes) (by rfl) sc_law.nd (q_itany (K := K) (pv 6)) (blkOk_by (own := [("_law_gate", 17)]) (N := n_law) (sc := defScope s_law) (by decide +kernel)) (fun _ _ _ _ _ => (pg_name (i := 17) sc_law.nd rfl (Or.inl rfl))) (fun _ _ _ _ _ => pts_nil) (fun _ _ _ _ _ => (pe_tup (pa_cons (pe_ix (q_ix (K := K)) (pv 3) pe_int (fun _ _ => rfl)) (pa_cons (pv 17) pa_nil))))) (pa_cons (pv 8) (pa_cons (pe_op (q_add (K := K)) (pe_op (q_add (K := K)) pe_str (pv 8)) pe_str) pa_nil))))))))))
      (pss_cons (ps_if (PW.pt (pw_or (pt_not (pt_val (pe_call G_Lsame (hr.mono (by decide)) (by rfl) T.m__law_same T.F__law_same.kp B_Lsame .nil pass0 (pa_cons (pv 10) (pa_cons (pv 11) pa_nil))))) (pw_or1 (pt_not (pt_val (pe_callB (q_isiU (K := K)) (by rfl) T.b_isinstance bt_isinstance (pa_cons (pv 7) (pa_cons (pe_cls rfl T.m_Section) pa_nil)))))))) (pss_one (ps_ret pe_bl)) pss_nil)
      (pss_cons (ps_if (pt_not (pt_val (pe_call G_Lsame (hr.mono (by decide)) (by rfl) T.m__law_same T.F__law_same.kp B_Lsame .nil pass0 (pa_cons (pe_lc (own := [("_law_gate", 17)]) (g := (gName 17)) (tt := tYes) (by rfl) sc_law.nd (q_itany (K := K) (pv 6)) (blkOk_by (own := [("_law_gate", 17)]) (N := n_law) (sc := defScope s_law) (by decide +kernel)) (fun _ _ _ _ _ => (pg_name (i := 17) sc_law.nd rfl (Or.inl rfl))) (fun _ _ _ _ _ => pts_nil) (fun _ _ _ _ _ => (pe_meG (K := K) (pv 7) G_Sectionways (hr.mono (by decide)) B_Sectionways .nil pass0 (pa_cons (pv 17) pa_nil)))) (pa_cons (pe_lc (own := [("_law_gate", 17)]) (g := (gName 17)) (tt := tYes) (by rfl) sc_law.nd (q_itany (K := K) (pv 6)) (blkOk_by (own := [("_law_gate", 17)]) (N := n_law) (sc := defScope s_law) (by decide +kernel)) (fun _ _ _ _ _ => (pg_name (i := 17) sc_law.nd rfl (Or.inl rfl))) (fun _ _ _ _ _ => pts_nil) (fun _ _ _ _ _ => (pe_call G_Lways (hr.mono (by decide)) (by rfl) T.m__law_ways T.F__law_ways.kp B_Lways .nil pass0 (pa_cons (pv 4) (pa_cons (pv 17) pa_nil))))) pa_nil))))) (pss_one (ps_ret pe_bl)) pss_nil)
      (pss_cons (ps_expr (pe_bm PySem.F.plainAttrs_list PySem.F.slot_list_append PySem.F.type_list_append mt_append (pe_meG0 (K := K) (pv 7) G_Sectionsides (hr.mono (by decide)) B_Sectionsides .nil pass0) (pa_cons pe_str pa_nil)))
      (pss_cons (ps_expr (pe_bm0 PySem.F.plainAttrs_list PySem.F.slot_list_clear PySem.F.type_list_clear mt_clear (pe_meG0 (K := K) (pv 7) G_Sectionends (hr.mono (by decide)) B_Sectionends .nil pass0)))
      (pss_one (ps_expr (pe_bm PySem.F.plainAttrs_list PySem.F.slot_list_append PySem.F.type_list_append mt_append (pe_meG (K := K) (pv 7) G_Sectionways (hr.mono (by decide)) B_Sectionways .nil pass0 (pa_cons (pe_ix (q_ix (K := K)) (pv 6) pe_int (fun _ _ => rfl)) pa_nil)) (pa_cons pe_non pa_nil)))))))))))
    (pss_cons (ps_setLc (i := 12) (own := [("_law_gate", 17)]) (g := (gName 17)) (by rfl) sc_law.nd rfl rfl (sw_true rfl rfl rfl (by decide +kernel)) (q_itany (K := K) (pe_lst (pa_cons pe_str (pa_cons pe_str (pa_cons pe_str (pa_cons pe_str (pa_cons pe_str (pa_cons pe_str (pa_cons pe_str pa_nil))))))))) (blkOk_by (own := [("_law_gate", 17)]) (N := n_law) (sc := defScope s_law) (by decide +kernel)) (fun _ _ _ _ _ => (pg_name (i := 17) sc_law.nd rfl (Or.inl rfl))) (fun _ _ _ _ _ => pts_one (pt_cmpR (q_notIn (K := K)) (pv 17) (pv 6) (by rfl))) (fun _ _ _ _ _ => (pv 17)))
    (pss_cons (ps_for PassesOwn.never rfl (q_itany (K := K) (pe_op (q_add (K := K)) (pv 12) (pe_lst (pa_cons pe_non (pa_cons pe_str (pa_cons pe_str (pa_cons pe_int (pa_cons pe_bl (pa_cons (pe_tup (pa_cons pe_str pa_nil)) (pa_cons (pe_lst (pa_cons pe_str pa_nil)) (pa_cons (pe_tup (pa_cons (pe_ix (q_ix (K := K)) (pv 3) pe_int (fun _ _ => rfl)) (pa_cons (pe_ix (q_ix (K := K)) (pv 6) pe_int (fun _ _ => rfl)) pa_nil))) pa_nil))))))))))) (pg_name (i := 13) sc_law.nd rfl (Or.inl rfl))
      (pss_one (ps_if (pt_not (pt_val (pe_call G_Lsame (hr.mono (by decide)) (by rfl) T.m__law_same T.F__law_same.kp B_Lsame .nil pass0 (pa_cons (pe_meGK (K := K) (pv 7) G_Sectionways (hr.mono (by decide)) KB_Sectionways pass0 (pk_cons (pv 13) pk_nil)) (pa_cons (pe_lst pa_nil) pa_nil))))) (pss_one (ps_ret pe_bl)) pss_nil)))
    (pss_cons (ps_setLc (i := 14) (own := [("_law_other_z", 18)]) (g := (gName 18)) (by rfl) sc_law.nd rfl rfl (sw_true rfl rfl rfl (by decide +kernel)) (q_itany (K := K) (pe_lst (pa_cons pe_str (pa_cons pe_str (pa_cons pe_str pa_nil))))) (blkOk_by (own := [("_law_other_z", 18)]) (N := n_law) (sc := defScope s_law) (by decide +kernel)) (fun _ _ _ _ _ => (pg_name (i := 18) sc_law.nd rfl (Or.inl rfl))) (fun _ _ _ _ _ => pts_one (pt_cmpR op_ne (pv 18) (pv 4) (nomark _))) (fun _ _ _ _ _ => (pv 18)))
    (pss_cons (ps_set (i := 15) sc_law.nd rfl (Or.inl rfl) (pe_lst (pa_cons (pe_call G_Lsection (hr.mono (by decide)) (by rfl) T.m__law_section T.F__law_section.kp B_Lsection .nil pass0 (pa_cons (pe_ix (q_ix (K := K)) (pv 14) pe_int (fun _ _ => rfl)) (pa_cons (pe_ix (q_ix (K := K)) (pv 3) pe_int (fun _ _ => rfl)) (pa_cons (pv 5) pa_nil)))) (pa_cons (pe_call G_Lsection (hr.mono (by decide)) (by rfl) T.m__law_section T.F__law_section.kp B_Lsection .nil pass0 (pa_cons (pe_ix (q_ix (K := K)) (pv 14) pe_int (fun _ _ => rfl)) (pa_cons (pe_ix (q_ix (K := K)) (pv 3) pe_int (fun _ _ => rfl)) (pa_cons (pv 5) pa_nil)))) (pa_cons (pe_call G_Lsection (hr.mono (by decide)) (by rfl) T.m__law_section T.F__law_section.kp B_Lsection .nil pass0 (pa_cons (pv 4) (pa_cons (pe_ix (q_ix (K := K)) (pv 3) pe_int (fun _ _ => rfl)) (pa_cons (pv 5) pa_nil)))) pa_nil)))))
    (pss_cons (ps_set (i := 15) sc_law.nd rfl (Or.inl rfl) (pe_op (q_add (K := K)) (pv 15) (pe_lst (pa_cons (pe_call G_Lsection (hr.mono (by decide)) (by rfl) T.m__law_section T.F__law_section.kp B_Lsection .nil pass0 (pa_cons (pv 4) (pa_cons (pe_ix (q_ix (K := K)) (pv 3) pe_int (fun _ _ => rfl)) (pa_cons (pe_op op_sub pe_int (pv 5)) pa_nil)))) (pa_cons (pe_make T.mk_Section G_Sectioninit (hr.mono (by decide)) (by rfl) T.m_Section B_Sectioninit .nil passF (pa_cons (pe_ix (q_ix (K := K)) (pv 3) pe_int (fun _ _ => rfl)) (pa_cons (pv 5) pa_nil))) pa_nil)))))
    (pss_cons (ps_set (i := 16) sc_law.nd rfl (Or.inl rfl) (pe_lst (pa_cons (pe_cmpR (q_eqO (K := K) T.sp_Section___eq__.2 G_Sectioneq (hr.mono (by decide)) B_Sectioneq pass0) (pv 7) (pe_call G_Lsection (hr.mono (by decide)) (by rfl) T.m__law_section T.F__law_section.kp B_Lsection .nil pass0 (pa_cons (pv 4) (pa_cons (pe_ix (q_ix (K := K)) (pv 3) pe_int (fun _ _ => rfl)) (pa_cons (pv 5) pa_nil)))) (nomark _)) (pa_cons (pe_cmpR (q_neO (K := K) T.sp_Section___eq__.2 G_Sectioneq (hr.mono (by decide)) B_Sectioneq pass0) (pv 7) (pe_call G_Lsection (hr.mono (by decide)) (by rfl) T.m__law_section T.F__law_section.kp B_Lsection .nil pass0 (pa_cons (pv 4) (pa_cons (pe_ix (q_ix (K := K)) (pv 3) pe_int (fun _ _ => rfl)) (pa_cons (pv 5) pa_nil)))) (nomark _)) pa_nil))))
    (pss_cons (ps_if (PW.pt (pw_or (pt_cmpR (q_neD (K := K) (room_u hr)) (pv 16) (pe_lst (pa_cons pe_bl (pa_cons pe_bl pa_nil))) (nomark _)) (pw_or1 (pt_val (pe_callB (q_any (K := K)) (by rfl) T.b_any bt_any (pa_cons (pe_lc (own := [("_law_row", 19)]) (g := (gName 19)) (tt := tYes) (by rfl) sc_law.nd (q_itany (K := K) (pv 15)) (blkOk_by (own := [("_law_row", 19)]) (N := n_law) (sc := defScope s_law) (by decide +kernel)) (fun _ _ _ _ _ => (pg_name (i := 19) sc_law.nd rfl (Or.inl rfl))) (fun _ _ _ _ _ => pts_nil) (fun _ _ _ _ _ => (pe_or (pe_cmpR (q_eqO (K := K) T.sp_Section___eq__.2 G_Sectioneq (hr.mono (by decide)) B_Sectioneq pass0) (pv 7) (pv 19) (nomark _)) (pe_one (pe_cmpR (q_eqO (K := K) T.sp_Section___eq__.2 G_Sectioneq (hr.mono (by decide)) B_Sectioneq pass0) (pv 19) (pv 7) (nomark _)))))) pa_nil)))))) (pss_one (ps_ret pe_bl)) pss_nil)
    (pss_cons (ps_if (PW.pt (pw_or (pt_cmpR (q_eqO (K := K) T.sp_Section___eq__.2 G_Sectioneq (hr.mono (by decide)) B_Sectioneq pass0) (pv 7) (pv 8) (nomark _)) (pw_or (pt_cmpR (q_eqO (K := K) T.sp_Section___eq__.2 G_Sectioneq (hr.mono (by decide)) B_Sectioneq pass0) (pv 7) pe_non (nomark _)) (pw_or1 (pt_cmpR (q_eqO (K := K) T.sp_Section___eq__.2 G_Sectioneq (hr.mono (by decide)) B_Sectioneq pass0) (pv 7) (pe_tup (pa_cons (pv 4) (pa_cons (pe_ix (q_ix (K := K)) (pv 3) pe_int (fun _ _ => rfl)) (pa_cons (pv 5) pa_nil)))) (nomark _)))))) (pss_one (ps_ret pe_bl)) pss_nil)
    (pss_one (ps_if (PW.pt (pw_or (pt_not (pt_val (pe_call G_Lrefusedso (hr.mono (by decide)) (by rfl) T.m__law_refused_so T.F__law_refused_so.kp B_Lrefusedso .nil pass0 (pa_cons (pv 1) (pa_cons (pe_ix (q_ix (K := K)) (pv 3) pe_int (fun _ _ => rfl)) pa_nil))))) (pw_or1 (pt_not (pt_val (pe_call G_Lbaseso (hr.mono (by decide)) (by rfl) T.m__law_base_so T.F__law_base_so.kp B_Lbaseso .nil pass0 (pa_cons (pe_ix (q_ix (K := K)) (pv 3) pe_int (fun _ _ => rfl)) (pa_cons (pv 5) pa_nil)))))))) (pss_one (ps_ret pe_bl)) pss_nil)))))))))))))))
  (pss_one (ps_ret (pe_cmpR (q_eqD (K := K) (room_u hr)) (pe_lst (pa_cons (q_cval (K := K) (pe_cls rfl T.m_Section)) (pa_cons (q_cval (K := K) (pe_cls rfl T.m_Plain)) (pa_cons (q_cval (K := K) (pe_cls rfl T.m_Point)) (pa_cons (q_cval (K := K) (pe_cls rfl T.m_Crossing)) (pa_cons (q_cval (K := K) (pe_cls rfl T.m_Section)) pa_nil)))))) (pe_lst (pa_cons pe_str (pa_cons pe_str (pa_cons pe_str (pa_cons pe_str (pa_cons pe_int pa_nil)))))) (nomark _)))))), ?_⟩
  refine ⟨.ref a, rfl, a, ns, [T.tb_Lrefusedso], rfl, hS, hl, (by simp), fun t ht => by rw [List.mem_singleton.mp ht]; exact htb, fun b G1 H1 w1 => ?_⟩
  let M : Mt := { l := [(b, IsBag K), (T.tb_Lrefusedso, TabP lamQ)] }
  have hm : (b, IsBag K) ∈ M.l := List.mem_cons_self
  have ht : (T.tb_Lrefusedso, TabP lamQ) ∈ M.l := List.mem_cons_of_mem _ List.mem_cons_self
  have wd : Wd M G1 H1 := ⟨⟨w1.sub, fun p hp => by
      rcases List.mem_cons.mp hp with rfl | hp
      · exact w1.mt _ List.mem_cons_self
      · obtain ⟨g, o, ho, eo⟩ := w1.mt (T.tb_Lrefusedso, isT0) (List.mem_cons_of_mem _ List.mem_cons_self)
        rw [List.mem_singleton.mp hp]
        exact ⟨g, o, ho, #[], eo, trivial, fun pos' cv h => (by have h : (none : Option Value) = some cv := h; cases h)⟩, fun p hp => by
      rcases List.mem_cons.mp hp with rfl | hp
      · exact w1.mono _ List.mem_cons_self
      · rw [List.mem_singleton.mp hp]
        exact TabP.mono, w1.nd⟩, fun _ _ _ _ _ _ z => z.elim⟩
  clear_value M
  unfold gName
  dsimp only
  refine run_at (K := K) (M := M) (G := G1) (ds := [none, some (.raw (.ref b)), none, none, none, none, none, none, none, none, none, none, none, none, none, none, none, none, none, none]) (E := { nx := fun _ => False, rt := fun d => d = .bl true }) (Z := { nx := fun _ H' => Q .non H', rt := Q }) ?_
    (sg_none (sg_some (.raw _) (sg_none (sg_none (sg_none (sg_none (sg_none (sg_none (sg_none (sg_none (sg_none (sg_none (sg_none (sg_none (sg_none (sg_none (sg_none (sg_none (sg_none (sg_none sg_nil)))))))))))))))))))) wd
    ⟨fun _ _ _ _ e => e.elim, fun v d G' H' e s' r' w' => by
      have e : d = .bl true := e
      subst e
      rw [r'.bl_inv]
      exact q H', fun _ _ _ _ e => e.elim, fun _ _ _ _ e => e.elim⟩
  refine run_seq (run_forF [none, some (.raw (.ref b)), none, none, none, none, none, none, none, none, none, none, none, none, none, none, none, none, none, none] (ei_range (n := 5) (ea1 ev_cint ea_nil) (by decide)) (Fg.refl _) (fun es i dt _ _ => ?_) ?_)
  · refine eg_name ?_
    -- the words and the kind
    refine run_seq (run_asgG (ev_tup (ea_cons (ev_words (m := 2) (ev_var rfl) ev_cint hm (by decide)) (ea_cons (ev_of (es := [.str "plain", .str "point", .str "crossing"]) (ev_var rfl) (by walk_at "ev") hm rfl rfl) ea_nil)) ?_) fun d ⟨as, ed, a1, r1, e1, ⟨ws, ew, wl, wn, wo⟩, a2, r2, e2, hk, e3⟩ => ?_)
    · rintro as ⟨a1, r1, e1, _, a2, r2, e2, _, e3⟩
      subst e3 e2 e1
      exact Nat.le_of_ble_eq_true rfl
    obtain ⟨x, y, ews⟩ : ∃ x y, ws = [x, y] := by
      match ws, wl with
      | [x, y], _ => exact ⟨x, y, rfl⟩
    obtain ⟨κ, hκ, ek⟩ : ∃ κ : Kd, κ ≠ .sec ∧ a2 = .str κ.nm := by
      simp only [List.mem_cons, List.not_mem_nil, or_false] at hk
      rcases hk with h | h | h
      · exact ⟨.pla, by decide, h⟩
      · exact ⟨.poi, by decide, h⟩
      · exact ⟨.cro, by decide, h⟩
    subst ews ek e3 e2 e1 ew ed
    have hx : Word x := wo x List.mem_cons_self
    have hy : Word y := wo y (List.mem_cons_of_mem _ List.mem_cons_self)
    have hxy : x ≠ y := fun e => by
      rw [List.nodup_cons] at wn
      exact wn.1 (by rw [e]; exact List.mem_cons_self)
    refine eg_tup (egs_cons (egs_cons (egs_nil ?_)))
    -- the size and the gates
    refine run_seq (run_asgG (ev_tup (ea_cons (ev_size (ev_var rfl) hm) (ea_cons (ev_lsides (κ := κ) (ev_var rfl) hκ) ea_nil)) ?_) fun d ⟨as, ed, a1, r1, e1, ⟨n, hn, en⟩, a2, r2, e2, eg, e3⟩ => ?_)
    · rintro as ⟨a1, r1, e1, _, a2, r2, e2, _, e3⟩
      subst e3 e2 e1
      exact Nat.le_of_ble_eq_true rfl
    subst en eg e3 e2 e1 ed
    refine eg_tup (egs_cons (egs_cons (egs_nil ?_)))
    have sm : smallK x n := ⟨Nat.le_trans hx.hi (by decide), by omega, by omega⟩
    have lx := hx.hi
    have l1 := nm_len κ
    have l2 := num_len (n := n) (by omega) (by omega)
    have l3 : (" " : Str).length = 1 := by decide
    have lt : (textS κ x n).length ≤ 100 := by
      simp only [textS, PySem.Str.length_append]
      omega
    -- made and shown
    refine run_seq (run_asgG (ev_tup1 (ea1 (ev_sec T (κ := κ) (x := x) (n := n) (ev_var rfl) (ev_op1 (ev_var rfl) ev_cint (od_ix rfl)) (ev_var rfl) hκ hx.name hn) (ea1 (a := .str (textS κ x n)) (ev_op1 (ev_op1 (ev_op1 (ev_op1 (ev_var rfl) ev_cstr (od_addS (by omega))) (ev_op1 (ev_var rfl) ev_cint (od_ix rfl)) (od_addS (by simp only [PySem.Str.length_append]; omega))) ev_cstr (od_addS (by simp only [PySem.Str.length_append]; omega))) (ev_cb1 (ea1 (ev_var rfl) ea_nil) (cd_str (log_small (by omega) (by omega)))) (od_addS (by simp only [PySem.Str.length_append]; omega))) ea_nil)) (Nat.le_of_ble_eq_true rfl)) fun d e => ?_)
    subst e
    refine eg_tup (egs_cons (egs_cons (egs_nil ?_)))
    have oc := (ocK T κ).toCls
    obtain ⟨s0, es0, fs0⟩ := side0 κ hκ
    -- the telling, twice
    refine run_seq (run_forF [none, some (.raw (.ref b)), none, some (.list [.str x, .str y]), some (.str κ.nm), some (.int n), some (.list (κ.sides.map D.str)), some (objK T κ x n), some (.str (textS κ x n)), none, none, none, none, none, none, none, none, none, none, none] (ei_range (n := 2) (ea1 ev_cint ea_nil) (by decide)) (by walk_at "fg") (fun es i dt _ _ => ?_) ?_)
    · refine eg_name ?_
      refine run_asg1 (d := .list [.str x, .int n, .str κ.nm, .int 50, .list (κ.sides.map D.str), .list (endsD κ x), .str (textS κ x n), .str ("Section(" ++ textS κ x n ++ ")")]) ?_ ?_
      · exact ev_lst1 (ea1 (ev_fld (ev_var rfl) oc (noN T κ) rfl) (ea1 (ev_fld (ev_var rfl) oc (noL T κ) rfl) (ea1 (ev_conD (ev_var rfl) oc (conK T κ) (by decide)) (ea1 (ev_conD (ev_var rfl) oc (conM T κ) (by decide)) (ea1 (ev_sides T (ev_var rfl)) (ea1 (ev_ends T (ev_var rfl)) (ea1 (ev_text T (ev_var rfl) sm) (ea1 (ev_cb1 (ea1 (ev_var rfl) ea_nil) (cd_repr T sm)) ea_nil)))))))) (Nat.le_of_ble_eq_true rfl)
      have l5 : ("Section(" : Str).length = 8 := by decide
      have l7 : (")" : Str).length = 1 := by decide
      refine run_asg1 (d := .list [.str x, .int n, .str κ.nm, .int 50, .list (κ.sides.map D.str), .list (endsD κ x), .str (textS κ x n), .str ("Section(" ++ textS κ x n ++ ")")]) ?_ ?_
      · refine ev_lst1 (ea1 (ev_op1 (ev_var rfl) ev_cint (od_ix rfl)) (ea1 (ev_var rfl) (ea1 (ev_var rfl) (ea1 ev_cint (ea1 (ev_var rfl) (ea1 (ev_lcM (cs := κ.sides) (inj := D.str) (f := fun s => .tup [.str x, .str s]) (ei_any (ev_var rfl) rfl) (by cases κ <;> decide) fun c _ => eg_name (ev_tup1 (ea1 (ev_op1 (ev_var rfl) ev_cint (od_ix rfl)) (ea1 (ev_var rfl) ea_nil)) (Nat.le_of_ble_eq_true rfl))) (ea1 (ev_var rfl) (ea1 (ev_op1 (ev_op1 ev_cstr (ev_var rfl) (od_addS (by omega))) ev_cstr (od_addS (by simp only [PySem.Str.length_append]; omega))) ea_nil)))))))) (Nat.le_of_ble_eq_true rfl)
      have ok1 : okN 5 (.list [.str x, .int n, .str κ.nm, .int 50, .list (κ.sides.map D.str), .list (endsD κ x), .str (textS κ x n), .str ("Section(" ++ textS κ x n ++ ")")]) = true := by
        cases κ <;> rfl
      refine run_seq (run_ifF (et_orF (et_not (et_test (ev_same (n := 5) (ev_var rfl) (ev_var rfl) ok1))) rfl (et_not (et_test (ev_cb1 (ea1 (ev_var rfl) (ea1 ev_craw ea_nil)) (cd_isO (.own (ocK T κ)) (.own _) (kiK T κ)))))) rfl (run_next ?_))
      refine run_seq (run_ifF (et_not (et_test (ev_same (n := 5) (d := .list (κ.sides.map fun s => .list ((κ.ways s).map prD))) (ev_lcM (cs := κ.sides) (inj := D.str) (f := fun s => .list ((κ.ways s).map prD)) (ei_any (ev_var rfl) rfl) (by cases κ <;> decide) fun c hc => eg_name (ev_ways T (d := .str c) (ev_var rfl) (ev_var rfl) (side_fl κ c hc))) (ev_lcM (cs := κ.sides) (inj := D.str) (f := fun s => .list ((κ.ways s).map prD)) (ei_any (ev_var rfl) rfl) (by cases κ <;> decide) fun c hc => eg_name (ev_lways (ev_var rfl) (ev_var rfl) hc)) (by cases κ <;> decide +kernel)))) rfl (run_next ?_))
      refine run_seq (run_exprW (R := fun _ _ => True) (evw_append2 ((evw_sides T (ev_var rfl)).weak fun o' d ⟨p, e1, e2⟩ => ⟨p, _, e1, e2, by cases κ <;> decide⟩) ev_cstr fun _ _ => trivial) ?_)
      refine run_seq (run_exprW (R := fun _ _ => True) (evw_clear2 ((evw_ends T (ev_var rfl)).weak fun o' d ⟨p, e1, e2⟩ => ⟨p, _, e1, e2⟩) fun _ => trivial) ?_)
      refine run_exprW (R := fun _ _ => True) (evw_append2 ((evw_ways T (d := .str s0) (ev_var rfl) (ev_op1 (ev_var rfl) ev_cint (od_ix es0)) fs0).weak fun o' d ⟨p, e1, e2⟩ => ⟨p, _, e1, e2, by rw [List.length_map]; exact Nat.lt_of_le_of_lt (len_ways κ _) (by decide)⟩) ev_cnon fun _ _ => trivial) ?_
      walk_at "fg"
    -- what is no gate
    refine run_asg1 (d := .list ((all7.filter (away κ)).map D.str)) ?_ ?_
    · exact ev_lcF (cs := all7) (inj := D.str) (f := D.str) (t := away κ) (ei_any (ev_eq (by walk_at "ev") (by exact rfl)) rfl) (by decide) fun c hc => eg_name ⟨et_B (ev_op1 (ev_var rfl) (ev_var rfl) (od_inSeq (n := true) (.inl rfl) rfl (by rw [List.map_map, List.map_map]; rfl))), fun _ => ev_var rfl⟩
    refine run_seq (run_forF [none, some (.raw (.ref b)), none, some (.list [.str x, .str y]), some (.str κ.nm), some (.int n), some (.list (κ.sides.map D.str)), some (objK T κ x n), some (.str (textS κ x n)), none, none, none, none, none, none, none, none, none, none, none] (RI := (· = (all7.filter (away κ)).map D.str ++ [.non, .str "", .str "up", .int 3, .bl true, .tup [.str "a"], .list [.str "a"], .tup [.str x, .str s0]])) (ei_any (ev_op1 (ev_var rfl) (ev_lst1 (ea1 ev_cnon (ea1 ev_cstr (ea1 ev_cstr (ea1 ev_cint (ea1 ev_cbl (ea1 (ev_tup1 (ea1 ev_cstr ea_nil) (Nat.le_of_ble_eq_true rfl)) (ea1 (ev_lst1 (ea1 ev_cstr ea_nil) (Nat.le_of_ble_eq_true rfl)) (ea1 (ev_tup1 (ea1 (ev_op1 (ev_var rfl) ev_cint (od_ix rfl)) (ea1 (ev_op1 (ev_var rfl) ev_cint (od_ix es0)) ea_nil)) (Nat.le_of_ble_eq_true rfl)) ea_nil)))))))) (Nat.le_of_ble_eq_true rfl)) (od_catL ?_)) rfl) (by walk_at "fg") (fun es i dd he hd => ?_) ?_)
    · have := List.length_filter_le (away κ) all7
      rw [List.length_map]
      have h7 : all7.length = 7 := rfl
      simp only [List.length_cons, List.length_nil]
      omega
    · subst he
      have hd := List.mem_of_getElem? hd
      have key : flD 4 dd = true ∧ waysP κ dd = [] := by
        rcases List.mem_append.mp hd with h | h
        · obtain ⟨s, hs, rfl⟩ := List.mem_map.mp h
          obtain ⟨h1, h2⟩ := List.mem_filter.mp hs
          exact ⟨all7_fl s h1, away_no κ hκ s h1 h2⟩
        · simp only [List.mem_cons, List.not_mem_nil, or_false] at h
          rcases h with h | h | h | h | h | h | h | h <;> subst h
          · exact ⟨rfl, rfl⟩
          · exact ⟨by decide +kernel, ways_up κ _ (by decide)⟩
          · exact ⟨by decide +kernel, ways_up κ _ (by decide)⟩
          · exact ⟨rfl, rfl⟩
          · exact ⟨rfl, rfl⟩
          · exact ⟨by decide +kernel, rfl⟩
          · exact ⟨by decide +kernel, rfl⟩
          · refine ⟨?_, rfl⟩
            show (flD 3 (.str x) && (flD 3 (.str s0) && true)) = true
            rw [hx.fl 2, show flD 3 (.str s0) = true from fs0]; rfl
      refine eg_name (run_ifF (et_not (et_test (ev_same (n := 5) (d := .list []) (ev_eq (ev_waysK T (d := dd) (ev_var rfl) (ev_var rfl) key.1) (by rw [key.2]; rfl)) (by walk_at "ev") rfl))) rfl (run_next ?_))
      walk_at "fg"
    -- the others
    obtain ⟨κ1, κ2, ef, k1, k2, k3, k4⟩ := far_two κ hκ
    refine run_asg1 (d := .list [.str κ1.nm, .str κ2.nm]) ?_ ?_
    · refine ev_eq (ev_lcF (cs := kinds3) (inj := fun k => .str k.nm) (f := fun k => .str k.nm) (t := fun k => !decide (k.nm = κ.nm)) (ei_any (ev_eq (by walk_at "ev") (by exact rfl)) rfl) (by decide) fun c hc => eg_name ⟨et_B (ev_op1 (ev_var rfl) (ev_var rfl) od_neS), fun _ => ev_var rfl⟩) ?_
      show D.list ((farK κ).map _) = _
      rw [ef]; rfl
    refine run_asg1 (d := .list [objK T κ1 x n, objK T κ2 x n, objK T κ y n]) ?_ ?_
    · exact ev_lst1 (ea1 (ev_sec T (ev_op1 (ev_var rfl) ev_cint (od_ix rfl)) (ev_op1 (ev_var rfl) ev_cint (od_ix rfl)) (ev_var rfl) k3 hx.name hn) (ea1 (ev_sec T (ev_op1 (ev_var rfl) ev_cint (od_ix rfl)) (ev_op1 (ev_var rfl) ev_cint (od_ix rfl)) (ev_var rfl) k4 hx.name hn) (ea1 (ev_sec T (ev_var rfl) (ev_op1 (ev_var rfl) ev_cint (od_ix rfl)) (ev_var rfl) hκ hy.name hn) ea_nil))) (Nat.le_of_ble_eq_true rfl)
    refine run_asg1 (d := .list ([(κ1, x, n), (κ2, x, n), (κ, y, n), (κ, x, 51 - n), (.sec, x, n)].map fun c : Kd × Str × Int => objK T c.1 c.2.1 c.2.2)) ?_ ?_
    · exact ev_op1 (ev_var rfl) (ev_lst1 (ea1 (ev_sec T (ev_var rfl) (ev_op1 (ev_var rfl) ev_cint (od_ix rfl)) (ev_op1 ev_cint (ev_var rfl) od_subI) hκ hx.name ⟨by omega, by omega⟩) (ea1 (ev_mkK T (κ := .sec) (ev_op1 (ev_var rfl) ev_cint (od_ix rfl)) (ev_var rfl) hx.name hn) ea_nil)) (Nat.le_of_ble_eq_true rfl)) (od_catL (Nat.le_of_ble_eq_true rfl))
    refine run_asg1 (d := .list [.bl true, .bl false]) ?_ ?_
    · exact ev_lst1 (ea1 (ev_eq (ev_op1 (ev_var rfl) (ev_sec T (ev_var rfl) (ev_op1 (ev_var rfl) ev_cint (od_ix rfl)) (ev_var rfl) hκ hx.name hn) (od_eqK T (hx.fl 0) (hx.fl 0))) (by rw [eqK_t])) (ea1 (ev_eq (ev_op1 (ev_var rfl) (ev_sec T (ev_var rfl) (ev_op1 (ev_var rfl) ev_cint (od_ix rfl)) (ev_var rfl) hκ hx.name hn) (od_neK T (fun e => (hκ e).elim) (hx.fl 0) (hx.fl 0))) (by rw [eqK_t]; rfl)) ea_nil)) (Nat.le_of_ble_eq_true rfl)
    have rows : ∀ c ∈ [(κ1, x, n), (κ2, x, n), (κ, y, n), (κ, x, 51 - n), (Kd.sec, x, n)], flD 1 (.str c.2.1) = true ∧ eqK κ x n c.1 c.2.1 c.2.2 = false := fun c hc => by
      simp only [List.mem_cons, List.not_mem_nil, or_false] at hc
      rcases hc with h | h | h | h | h <;> subst h
      · exact ⟨hx.fl 0, eqK_k (Ne.symm k1)⟩
      · exact ⟨hx.fl 0, eqK_k (Ne.symm k2)⟩
      · exact ⟨hy.fl 0, eqK_x hxy⟩
      · exact ⟨hx.fl 0, eqK_n (by show n ≠ 51 - n; omega)⟩
      · exact ⟨hx.fl 0, eqK_k hκ⟩
    refine run_seq (run_ifF (et_orF (et_B (ev_eq (ev_op1 (ev_var rfl) (by walk_at "ev") (od_neD (n := 3) (by decide +kernel) (by decide +kernel))) (congrArg D.bl (by decide +kernel)))) rfl (et_test (ev_cb1 (ea1 (ev_lcM (cs := [(κ1, x, n), (κ2, x, n), (κ, y, n), (κ, x, 51 - n), (Kd.sec, x, n)]) (inj := fun c => objK T c.1 c.2.1 c.2.2) (f := fun _ => .bl false) (ei_any (ev_var rfl) rfl) (Nat.le_of_ble_eq_true rfl) fun c hc => eg_name (ev_orF (a := false) (ev_eq (ev_op1 (ev_var rfl) (ev_var rfl) (od_eqK T (hx.fl 0) (rows c hc).1)) (by rw [(rows c hc).2])) rfl (ev_eq (ev_op1 (ev_var rfl) (ev_var rfl) (od_eqK T (rows c hc).1 (hx.fl 0))) (by rw [eqK_comm, (rows c hc).2])))) ea_nil) (cd_any (bs := [false, false, false, false, false]))))) rfl (run_next ?_))
    refine run_seq (run_ifF (et_orF (et_B (ev_op1 (ev_var rfl) (ev_var rfl) (od_eqP T (hx.fl 0) (.inl rfl)))) rfl (et_orF (et_B (ev_op1 (ev_var rfl) ev_cnon (od_eqP T (hx.fl 0) (.inr (.inl rfl))))) rfl (et_B (ev_op1 (ev_var rfl) (ev_tup1 (ea1 (ev_var rfl) (ea1 (ev_op1 (ev_var rfl) ev_cint (od_ix rfl)) (ea1 (ev_var rfl) ea_nil))) (Nat.le_of_ble_eq_true rfl)) (od_eqP T (hx.fl 0) (.inr (.inr rfl))))))) rfl (run_next ?_))
    refine run_ifF (et_orF (et_not (et_test (ev_refused T (ev_var rfl) (ev_op1 (ev_var rfl) ev_cint (od_ix rfl)) hm ht hx))) rfl (et_not (et_test (ev_base (ev_op1 (ev_var rfl) ev_cint (od_ix rfl)) (ev_var rfl) hy hn)))) rfl (run_next ?_)
    walk_at "fg"
  · refine run_ret1 (ev_eq (ev_op1 (ev_lst1 (ea1 (ev_cvalD ev_craw T.cv_Section_KIND) (ea1 (ev_cvalD ev_craw T.cv_Plain_KIND) (ea1 (ev_cvalD ev_craw T.cv_Point_KIND) (ea1 (ev_cvalD ev_craw T.cv_Crossing_KIND) (ea1 (ev_cvalD ev_craw T.cv_Section_MOST) ea_nil))))) (Nat.le_of_ble_eq_true rfl)) (by walk_at "ev") (od_eqD (n := 3) (by decide +kernel) (by decide +kernel))) (congrArg D.bl (by decide +kernel))) rfl
end
end K2
namespace K2
open PySem L2 Rg RZ PyProof.Rows
theorem code_of {K : PySem.W.Frag} {x qual : Str} {params : Arguments} {body : List Stmt} {scope : Scope} {dvs : List V} {kws : List (Str × V)} {fd : FuncData} {p : He.Defn} (F : FunD K x qual params body scope dvs kws (He.fAd K p) fd) : fd.code = .ref (He.codeOf K p) := by
  obtain ⟨oc, od, dV, kV, doc, pm, an, cdv, ct, osl, e, l, hc, _, _⟩ := F.ex
  obtain ⟨c, ec⟩ := He.codeIn_ref hc
  have e2 : fd.code = .ref c := by rw [e]; exact ec
  rw [e2, He.codeOf_eq l e2]
theorem facts {P : Program} {w : World} {K : PySem.W.Frag} {h : Heap} {mg : Str → Option Value} {f : Addr} (X : K.In h) (G : h.Ns mainGlobals mg) (hfa : mg ("law" : Str) = some (.ref f)) (c : He.SaysX fa fn [] tf ex w h K) :
    ∃ (fd : FuncData) (T : Tx K mg), ((T.cd_Lrefusedso, T.tb_Lrefusedso) = He.cT K ("_law_refused_so", none) ∧ (∀ (s : Shared) (v : Value), BindsTo s fd ⟨[v], []⟩ [("_law_script", v)])) ∧ ∀ base : Heap, K.In base → base.Ns mainGlobals mg → (∀ p ∈ tf.map (He.cT K), LamX.TabB base mg p.1 p.2) → FnOk P w K mg base CX0 9 f fd ["_law_script"] (spLaw T) := by
  have cd := c.t.d
  obtain ⟨fd_isname, F_isname⟩ := cd.def_ 0 (d := d_isname) rfl
  obtain ⟨fd_isnumber, F_isnumber⟩ := cd.def_ 1 (d := d_isnumber) rfl
  obtain ⟨fd_Lbag, F_Lbag⟩ := cd.def_ 2 (d := d_Lbag) rfl
  obtain ⟨fd_Ldraw, F_Ldraw⟩ := cd.def_ 3 (d := d_Ldraw) rfl
  obtain ⟨fd_Lof, F_Lof⟩ := cd.def_ 4 (d := d_Lof) rfl
  obtain ⟨fd_Lsame, F_Lsame⟩ := cd.def_ 5 (d := d_Lsame) rfl
  obtain ⟨fd_Lfields, F_Lfields⟩ := cd.def_ 6 (d := d_Lfields) rfl
  obtain ⟨fd_Ltry, F_Ltry⟩ := cd.def_ 7 (d := d_Ltry) rfl
  obtain ⟨fd_Ltries, F_Ltries⟩ := cd.def_ 8 (d := d_Ltries) rfl
  obtain ⟨fd_Lwords, F_Lwords⟩ := cd.def_ 9 (d := d_Lwords) rfl
  obtain ⟨fd_Lodd, F_Lodd⟩ := cd.def_ 10 (d := d_Lodd) rfl
  obtain ⟨fd_Lsides, F_Lsides⟩ := cd.def_ 11 (d := d_Lsides) rfl
  obtain ⟨fd_Lways, F_Lways⟩ := cd.def_ 12 (d := d_Lways) rfl
  obtain ⟨fd_Lsection, F_Lsection⟩ := cd.def_ 13 (d := d_Lsection) rfl
  obtain ⟨fd_Lrefusedso, F_Lrefusedso⟩ := cd.def_ 14 (d := d_Lrefusedso) rfl
  obtain ⟨fd_Lbaseso, F_Lbaseso⟩ := cd.def_ 15 (d := d_Lbaseso) rfl
  obtain ⟨fd_law, F_law⟩ := cd.def_ 16 (d := d_law) rfl
  obtain ⟨fd_Sectioninit, F_Sectioninit⟩ := cd.def_ 17 (d := d_Sectioninit) rfl
  obtain ⟨fd_Sectionsides, F_Sectionsides⟩ := cd.def_ 18 (d := d_Sectionsides) rfl
  obtain ⟨fd_Sectionends, F_Sectionends⟩ := cd.def_ 19 (d := d_Sectionends) rfl
  obtain ⟨fd_Sectionways, F_Sectionways⟩ := cd.def_ 20 (d := d_Sectionways) rfl
  obtain ⟨fd_Sectiontext, F_Sectiontext⟩ := cd.def_ 21 (d := d_Sectiontext) rfl
  obtain ⟨fd_Sectioneq, F_Sectioneq⟩ := cd.def_ 22 (d := d_Sectioneq) rfl
  obtain ⟨fd_Sectionrepr, F_Sectionrepr⟩ := cd.def_ 23 (d := d_Sectionrepr) rfl
  obtain ⟨fd_InvalidNameinit, F_InvalidNameinit⟩ := cd.def_ 24 (d := d_InvalidNameinit) rfl
  obtain ⟨fd_InvalidNumberinit, F_InvalidNumberinit⟩ := cd.def_ 25 (d := d_InvalidNumberinit) rfl
  obtain ⟨fd_NothingLeftinit, F_NothingLeftinit⟩ := cd.def_ 26 (d := d_NothingLeftinit) rfl
  have e := hfa.symm.trans (He.glo_ok X G (cd.fact 16 (f := .glo "law") rfl))
  cases e
  obtain ⟨ee, er⟩ := He.ba (show ex K = true from c.more)
  have E_InvalidName : ErF K "InvalidName" ["code", "value"] := erB_ok ee (b := XB.value) (List.mem_of_getElem? (i := 0) (by rfl))
  have E_InvalidNumber : ErF K "InvalidNumber" ["code", "value"] := erB_ok ee (b := XB.value) (List.mem_of_getElem? (i := 1) (by rfl))
  have E_NothingLeft : ErF K "NothingLeft" ["code"] := erB_ok ee (b := XB.index) (List.mem_of_getElem? (i := 2) (by rfl))
  obtain ⟨v_LETTERS, u_LETTERS, n_LETTERS, r_LETTERS, g_LETTERS⟩ := ck_at er 0 (c := .gl "LETTERS" (.str "abcdefghijklmnopqrstuvwxyz")) rfl
  obtain ⟨v_LONGEST, u_LONGEST, n_LONGEST, r_LONGEST, g_LONGEST⟩ := ck_at er 1 (c := .gl "LONGEST" (.int (6))) rfl
  let T : Tx K mg := {
    f_is_name := He.fAd K ("is_name", none)
    fd_is_name := fd_isname
    F_is_name := He5.fun_of (st := s_isname) F_isname
    m_is_name := He.glo_ok X G (cd.fact 0 (f := .glo "is_name") rfl)
    f_is_number := He.fAd K ("is_number", none)
    fd_is_number := fd_isnumber
    F_is_number := He5.fun_of (st := s_isnumber) F_isnumber
    m_is_number := He.glo_ok X G (cd.fact 1 (f := .glo "is_number") rfl)
    f__law_bag := He.fAd K ("_law_bag", none)
    fd__law_bag := fd_Lbag
    F__law_bag := He5.fun_of (st := s_Lbag) F_Lbag
    m__law_bag := He.glo_ok X G (cd.fact 2 (f := .glo "_law_bag") rfl)
    f__law_draw := He.fAd K ("_law_draw", none)
    fd__law_draw := fd_Ldraw
    F__law_draw := He5.fun_of (st := s_Ldraw) F_Ldraw
    m__law_draw := He.glo_ok X G (cd.fact 3 (f := .glo "_law_draw") rfl)
    f__law_of := He.fAd K ("_law_of", none)
    fd__law_of := fd_Lof
    F__law_of := He5.fun_of (st := s_Lof) F_Lof
    m__law_of := He.glo_ok X G (cd.fact 4 (f := .glo "_law_of") rfl)
    f__law_same := He.fAd K ("_law_same", none)
    fd__law_same := fd_Lsame
    F__law_same := He5.fun_of (st := s_Lsame) F_Lsame
    m__law_same := He.glo_ok X G (cd.fact 5 (f := .glo "_law_same") rfl)
    f__law_fields := He.fAd K ("_law_fields", none)
    fd__law_fields := fd_Lfields
    F__law_fields := He5.fun_of (st := s_Lfields) F_Lfields
    m__law_fields := He.glo_ok X G (cd.fact 6 (f := .glo "_law_fields") rfl)
    f__law_try := He.fAd K ("_law_try", none)
    fd__law_try := fd_Ltry
    F__law_try := He5.fun_of (st := s_Ltry) F_Ltry
    m__law_try := He.glo_ok X G (cd.fact 7 (f := .glo "_law_try") rfl)
    f__law_tries := He.fAd K ("_law_tries", none)
    fd__law_tries := fd_Ltries
    F__law_tries := He5.fun_of (st := s_Ltries) F_Ltries
    m__law_tries := He.glo_ok X G (cd.fact 8 (f := .glo "_law_tries") rfl)
    f__law_words := He.fAd K ("_law_words", none)
    fd__law_words := fd_Lwords
    F__law_words := He5.fun_of (st := s_Lwords) F_Lwords
    m__law_words := He.glo_ok X G (cd.fact 9 (f := .glo "_law_words") rfl)
    f__law_odd := He.fAd K ("_law_odd", none)
    fd__law_odd := fd_Lodd
    F__law_odd := He5.fun_of (st := s_Lodd) F_Lodd
    m__law_odd := He.glo_ok X G (cd.fact 10 (f := .glo "_law_odd") rfl)
    f__law_sides := He.fAd K ("_law_sides", none)
    fd__law_sides := fd_Lsides
    F__law_sides := He5.fun_of (st := s_Lsides) F_Lsides
    m__law_sides := He.glo_ok X G (cd.fact 11 (f := .glo "_law_sides") rfl)
    f__law_ways := He.fAd K ("_law_ways", none)
    fd__law_ways := fd_Lways
    F__law_ways := He5.fun_of (st := s_Lways) F_Lways
    m__law_ways := He.glo_ok X G (cd.fact 12 (f := .glo "_law_ways") rfl)
    f__law_section := He.fAd K ("_law_section", none)
    fd__law_section := fd_Lsection
    F__law_section := He5.fun_of (st := s_Lsection) F_Lsection
    m__law_section := He.glo_ok X G (cd.fact 13 (f := .glo "_law_section") rfl)
    f__law_refused_so := He.fAd K ("_law_refused_so", none)
    fd__law_refused_so := fd_Lrefusedso
    F__law_refused_so := He5.fun_of (st := s_Lrefusedso) F_Lrefusedso
    m__law_refused_so := He.glo_ok X G (cd.fact 14 (f := .glo "_law_refused_so") rfl)
    f__law_base_so := He.fAd K ("_law_base_so", none)
    fd__law_base_so := fd_Lbaseso
    F__law_base_so := He5.fun_of (st := s_Lbaseso) F_Lbaseso
    m__law_base_so := He.glo_ok X G (cd.fact 15 (f := .glo "_law_base_so") rfl)
    f_law := He.fAd K ("law", none)
    fd_law := fd_law
    F_law := He5.fun_of (st := s_law) F_law
    m_law := He.glo_ok X G (cd.fact 16 (f := .glo "law") rfl)
    b_isinstance := He.free_ok X G (cd.fact 26 (f := .free "isinstance") rfl)
    b_len := He.free_ok X G (cd.fact 27 (f := .free "len") rfl)
    b_all := He.free_ok X G (cd.fact 28 (f := .free "all") rfl)
    b_any := He.free_ok X G (cd.fact 29 (f := .free "any") rfl)
    b_abs := He.free_ok X G (cd.fact 30 (f := .free "abs") rfl)
    b_int := He.free_ok X G (cd.fact 31 (f := .free "int") rfl)
    b_str := He.free_ok X G (cd.fact 32 (f := .free "str") rfl)
    b_list := He.free_ok X G (cd.fact 33 (f := .free "list") rfl)
    b_tuple := He.free_ok X G (cd.fact 34 (f := .free "tuple") rfl)
    b_bool := He.free_ok X G (cd.fact 35 (f := .free "bool") rfl)
    b_range := He.free_ok X G (cd.fact 36 (f := .free "range") rfl)
    b_zip := He.free_ok X G (cd.fact 37 (f := .free "zip") rfl)
    b_sorted := He.free_ok X G (cd.fact 38 (f := .free "sorted") rfl)
    b_repr := He.free_ok X G (cd.fact 39 (f := .free "repr") rfl)
    c_DayError := He.ga K "DayError"
    m_DayError := He.glo_ok X G (cd.fact 17 (f := .glo "DayError") rfl)
    c_Missing := He.ga K "Missing"
    m_Missing := He.glo_ok X G (cd.fact 18 (f := .glo "Missing") rfl)
    c_Section := He.ga K "Section"
    m_Section := He.glo_ok X G (cd.fact 19 (f := .glo "Section") rfl)
    c_Plain := He.ga K "Plain"
    m_Plain := He.glo_ok X G (cd.fact 20 (f := .glo "Plain") rfl)
    c_Point := He.ga K "Point"
    m_Point := He.glo_ok X G (cd.fact 21 (f := .glo "Point") rfl)
    c_Crossing := He.ga K "Crossing"
    m_Crossing := He.glo_ok X G (cd.fact 22 (f := .glo "Crossing") rfl)
    c_InvalidName := He.ga K "InvalidName"
    m_InvalidName := He.glo_ok X G (cd.fact 23 (f := .glo "InvalidName") rfl)
    c_InvalidNumber := He.ga K "InvalidNumber"
    m_InvalidNumber := He.glo_ok X G (cd.fact 24 (f := .glo "InvalidNumber") rfl)
    c_NothingLeft := He.ga K "NothingLeft"
    m_NothingLeft := He.glo_ok X G (cd.fact 25 (f := .glo "NothingLeft") rfl)
    f_Sectioninit := He.fAd K ("Section", some "__init__")
    fd_Sectioninit := fd_Sectioninit
    F_Sectioninit := He5.fun_of (st := s_Sectioninit) F_Sectioninit
    f_Sectionsides := He.fAd K ("Section", some "sides")
    fd_Sectionsides := fd_Sectionsides
    F_Sectionsides := He5.fun_of (st := s_Sectionsides) F_Sectionsides
    f_Sectionends := He.fAd K ("Section", some "ends")
    fd_Sectionends := fd_Sectionends
    F_Sectionends := He5.fun_of (st := s_Sectionends) F_Sectionends
    f_Sectionways := He.fAd K ("Section", some "ways")
    fd_Sectionways := fd_Sectionways
    F_Sectionways := He5.fun_of (st := s_Sectionways) F_Sectionways
    f_Sectiontext := He.fAd K ("Section", some "text")
    fd_Sectiontext := fd_Sectiontext
    F_Sectiontext := He5.fun_of (st := s_Sectiontext) F_Sectiontext
    f_Sectioneq := He.fAd K ("Section", some "__eq__")
    fd_Sectioneq := fd_Sectioneq
    F_Sectioneq := He5.fun_of (st := s_Sectioneq) F_Sectioneq
    f_Sectionrepr := He.fAd K ("Section", some "__repr__")
    fd_Sectionrepr := fd_Sectionrepr
    F_Sectionrepr := He5.fun_of (st := s_Sectionrepr) F_Sectionrepr
    x_InvalidName := E_InvalidName.x
    fi_InvalidName := He.fAd K ("InvalidName", some "__init__")
    fdi_InvalidName := fd_InvalidNameinit
    Fi_InvalidName := He5.fun_of (st := s_InvalidNameinit) F_InvalidNameinit
    i_InvalidName := E_InvalidName.i
    t_InvalidName := E_InvalidName.t
    no_InvalidName := E_InvalidName.no
    x_InvalidNumber := E_InvalidNumber.x
    fi_InvalidNumber := He.fAd K ("InvalidNumber", some "__init__")
    fdi_InvalidNumber := fd_InvalidNumberinit
    Fi_InvalidNumber := He5.fun_of (st := s_InvalidNumberinit) F_InvalidNumberinit
    i_InvalidNumber := E_InvalidNumber.i
    t_InvalidNumber := E_InvalidNumber.t
    no_InvalidNumber := E_InvalidNumber.no
    x_NothingLeft := E_NothingLeft.x
    fi_NothingLeft := He.fAd K ("NothingLeft", some "__init__")
    fdi_NothingLeft := fd_NothingLeftinit
    Fi_NothingLeft := He5.fun_of (st := s_NothingLeftinit) F_NothingLeftinit
    i_NothingLeft := E_NothingLeft.i
    t_NothingLeft := E_NothingLeft.t
    no_NothingLeft := E_NothingLeft.no
    v_LETTERS := v_LETTERS
    u_LETTERS := u_LETTERS
    c_LETTERS := PySem.W.mg_of X G n_LETTERS
    r_LETTERS := r_LETTERS
    g_LETTERS := g_LETTERS
    v_LONGEST := v_LONGEST
    u_LONGEST := u_LONGEST
    c_LONGEST := PySem.W.mg_of X G n_LONGEST
    r_LONGEST := r_LONGEST
    g_LONGEST := g_LONGEST
    oc_Section := ck_at er 2 (c := .cls "Section") rfl
    mk_Section := ck_at er 3 (c := .mk "Section" "Section") rfl
    no_Section_name := ck_at er 4 (c := .no "Section" "name") rfl
    no_Section_length := ck_at er 5 (c := .no "Section" "length") rfl
    co_Section_KIND := ck_at er 6 (c := .con "Section" "KIND" (.str "none")) rfl
    co_Section_MOST := ck_at er 7 (c := .con "Section" "MOST" (.int (50))) rfl
    co_Section_ROADS := ck_at er 8 (c := .con "Section" "ROADS" (.tup [])) rfl
    cv_Section_KIND := ck_at er 9 (c := .cval "Section" "KIND" (.str "none")) rfl
    fi_Section___ne__ := ck_at er 10 (c := .find "Section" "__ne__" "object.__ne__") rfl
    me_Section_sides := ck_at er 11 (c := .meth "Section" "sides" "Section") rfl
    me_Section_ends := ck_at er 12 (c := .meth "Section" "ends" "Section") rfl
    me_Section_ways := ck_at er 13 (c := .meth "Section" "ways" "Section") rfl
    me_Section_text := ck_at er 14 (c := .meth "Section" "text" "Section") rfl
    sp_Section___eq__ := ck_at er 15 (c := .spec "Section" "__eq__" "Section") rfl
    sp_Section___repr__ := ck_at er 16 (c := .spec "Section" "__repr__" "Section") rfl
    ki_Section_Section := ck_at er 17 (c := .kit (.own "Section") (.own "Section") true) rfl
    nf_Section_str := ck_at er 18 (c := .nf "Section" (.ty "str")) rfl
    nf_Section_NoneType := ck_at er 19 (c := .nf "Section" (.ty "NoneType")) rfl
    nf_Section_tuple := ck_at er 20 (c := .nf "Section" (.ty "tuple")) rfl
    nf_Section_Section := ck_at er 21 (c := .nf "Section" (.own "Section")) rfl
    oc_Plain := ck_at er 22 (c := .cls "Plain") rfl
    mk_Plain := ck_at er 23 (c := .mk "Plain" "Section") rfl
    no_Plain_name := ck_at er 24 (c := .no "Plain" "name") rfl
    no_Plain_length := ck_at er 25 (c := .no "Plain" "length") rfl
    co_Plain_KIND := ck_at er 26 (c := .con "Plain" "KIND" (.str "plain")) rfl
    co_Plain_MOST := ck_at er 27 (c := .con "Plain" "MOST" (.int (50))) rfl
    co_Plain_ROADS := ck_at er 28 (c := .con "Plain" "ROADS" (.tup [.tup [.str "a", .str "b", .str ""]])) rfl
    cv_Plain_KIND := ck_at er 29 (c := .cval "Plain" "KIND" (.str "plain")) rfl
    fi_Plain___ne__ := ck_at er 30 (c := .find "Plain" "__ne__" "object.__ne__") rfl
    me_Plain_sides := ck_at er 31 (c := .meth "Plain" "sides" "Section") rfl
    me_Plain_ends := ck_at er 32 (c := .meth "Plain" "ends" "Section") rfl
    me_Plain_ways := ck_at er 33 (c := .meth "Plain" "ways" "Section") rfl
    me_Plain_text := ck_at er 34 (c := .meth "Plain" "text" "Section") rfl
    sp_Plain___eq__ := ck_at er 35 (c := .spec "Plain" "__eq__" "Section") rfl
    sp_Plain___repr__ := ck_at er 36 (c := .spec "Plain" "__repr__" "Section") rfl
    ki_Plain_Section := ck_at er 37 (c := .kit (.own "Plain") (.own "Section") true) rfl
    nf_Plain_str := ck_at er 38 (c := .nf "Plain" (.ty "str")) rfl
    nf_Plain_NoneType := ck_at er 39 (c := .nf "Plain" (.ty "NoneType")) rfl
    nf_Plain_tuple := ck_at er 40 (c := .nf "Plain" (.ty "tuple")) rfl
    nf_Plain_Section := ck_at er 41 (c := .nf "Plain" (.own "Section")) rfl
    nf_Plain_Plain := ck_at er 42 (c := .nf "Plain" (.own "Plain")) rfl
    nf_Plain_Point := ck_at er 43 (c := .nf "Plain" (.own "Point")) rfl
    nf_Plain_Crossing := ck_at er 44 (c := .nf "Plain" (.own "Crossing")) rfl
    oc_Point := ck_at er 45 (c := .cls "Point") rfl
    mk_Point := ck_at er 46 (c := .mk "Point" "Section") rfl
    no_Point_name := ck_at er 47 (c := .no "Point" "name") rfl
    no_Point_length := ck_at er 48 (c := .no "Point" "length") rfl
    co_Point_KIND := ck_at er 49 (c := .con "Point" "KIND" (.str "point")) rfl
    co_Point_MOST := ck_at er 50 (c := .con "Point" "MOST" (.int (50))) rfl
    co_Point_ROADS := ck_at er 51 (c := .con "Point" "ROADS" (.tup [.tup [.str "left", .str "stem", .str "left"], .tup [.str "right", .str "stem", .str "right"]])) rfl
    cv_Point_KIND := ck_at er 52 (c := .cval "Point" "KIND" (.str "point")) rfl
    fi_Point___ne__ := ck_at er 53 (c := .find "Point" "__ne__" "object.__ne__") rfl
    me_Point_sides := ck_at er 54 (c := .meth "Point" "sides" "Section") rfl
    me_Point_ends := ck_at er 55 (c := .meth "Point" "ends" "Section") rfl
    me_Point_ways := ck_at er 56 (c := .meth "Point" "ways" "Section") rfl
    me_Point_text := ck_at er 57 (c := .meth "Point" "text" "Section") rfl
    sp_Point___eq__ := ck_at er 58 (c := .spec "Point" "__eq__" "Section") rfl
    sp_Point___repr__ := ck_at er 59 (c := .spec "Point" "__repr__" "Section") rfl
    ki_Point_Section := ck_at er 60 (c := .kit (.own "Point") (.own "Section") true) rfl
    nf_Point_str := ck_at er 61 (c := .nf "Point" (.ty "str")) rfl
    nf_Point_NoneType := ck_at er 62 (c := .nf "Point" (.ty "NoneType")) rfl
    nf_Point_tuple := ck_at er 63 (c := .nf "Point" (.ty "tuple")) rfl
    nf_Point_Section := ck_at er 64 (c := .nf "Point" (.own "Section")) rfl
    nf_Point_Plain := ck_at er 65 (c := .nf "Point" (.own "Plain")) rfl
    nf_Point_Point := ck_at er 66 (c := .nf "Point" (.own "Point")) rfl
    nf_Point_Crossing := ck_at er 67 (c := .nf "Point" (.own "Crossing")) rfl
    oc_Crossing := ck_at er 68 (c := .cls "Crossing") rfl
    mk_Crossing := ck_at er 69 (c := .mk "Crossing" "Section") rfl
    no_Crossing_name := ck_at er 70 (c := .no "Crossing" "name") rfl
    no_Crossing_length := ck_at er 71 (c := .no "Crossing" "length") rfl
    co_Crossing_KIND := ck_at er 72 (c := .con "Crossing" "KIND" (.str "crossing")) rfl
    co_Crossing_MOST := ck_at er 73 (c := .con "Crossing" "MOST" (.int (50))) rfl
    co_Crossing_ROADS := ck_at er 74 (c := .con "Crossing" "ROADS" (.tup [.tup [.str "a", .str "b", .str ""], .tup [.str "c", .str "d", .str ""]])) rfl
    cv_Crossing_KIND := ck_at er 75 (c := .cval "Crossing" "KIND" (.str "crossing")) rfl
    fi_Crossing___ne__ := ck_at er 76 (c := .find "Crossing" "__ne__" "object.__ne__") rfl
    me_Crossing_sides := ck_at er 77 (c := .meth "Crossing" "sides" "Section") rfl
    me_Crossing_ends := ck_at er 78 (c := .meth "Crossing" "ends" "Section") rfl
    me_Crossing_ways := ck_at er 79 (c := .meth "Crossing" "ways" "Section") rfl
    me_Crossing_text := ck_at er 80 (c := .meth "Crossing" "text" "Section") rfl
    sp_Crossing___eq__ := ck_at er 81 (c := .spec "Crossing" "__eq__" "Section") rfl
    sp_Crossing___repr__ := ck_at er 82 (c := .spec "Crossing" "__repr__" "Section") rfl
    ki_Crossing_Section := ck_at er 83 (c := .kit (.own "Crossing") (.own "Section") true) rfl
    nf_Crossing_str := ck_at er 84 (c := .nf "Crossing" (.ty "str")) rfl
    nf_Crossing_NoneType := ck_at er 85 (c := .nf "Crossing" (.ty "NoneType")) rfl
    nf_Crossing_tuple := ck_at er 86 (c := .nf "Crossing" (.ty "tuple")) rfl
    nf_Crossing_Section := ck_at er 87 (c := .nf "Crossing" (.own "Section")) rfl
    nf_Crossing_Plain := ck_at er 88 (c := .nf "Crossing" (.own "Plain")) rfl
    nf_Crossing_Point := ck_at er 89 (c := .nf "Crossing" (.own "Point")) rfl
    nf_Crossing_Crossing := ck_at er 90 (c := .nf "Crossing" (.own "Crossing")) rfl
    ki_str_Section := ck_at er 91 (c := .kit (.ty "str") (.own "Section") false) rfl
    ki_NoneType_Section := ck_at er 92 (c := .kit (.ty "NoneType") (.own "Section") false) rfl
    ki_tuple_Section := ck_at er 93 (c := .kit (.ty "tuple") (.own "Section") false) rfl
    cv_Section_MOST := ck_at er 94 (c := .cval "Section" "MOST" (.int (50))) rfl
    su_Plain_Section := ck_at er 95 (c := .sub "Plain" "Section") rfl
    su_Point_Section := ck_at er 96 (c := .sub "Point" "Section") rfl
    su_Crossing_Section := ck_at er 97 (c := .sub "Crossing" "Section") rfl
    ex_InvalidName_DayError := ck_at er 98 (c := .exm "InvalidName" (.own "DayError") true) rfl
    ex_InvalidName_Missing := ck_at er 99 (c := .exm "InvalidName" (.own "Missing") false) rfl
    ex_InvalidName_NothingLeft := ck_at er 100 (c := .exm "InvalidName" (.own "NothingLeft") false) rfl
    ex_InvalidNumber_DayError := ck_at er 101 (c := .exm "InvalidNumber" (.own "DayError") true) rfl
    ex_InvalidNumber_Missing := ck_at er 102 (c := .exm "InvalidNumber" (.own "Missing") false) rfl
    ex_InvalidNumber_NothingLeft := ck_at er 103 (c := .exm "InvalidNumber" (.own "NothingLeft") false) rfl
    cd_Lrefusedso := (He.cT K ("_law_refused_so", none)).1
    tb_Lrefusedso := (He.cT K ("_law_refused_so", none)).2
    hc_Lrefusedso := code_of (p := ("_law_refused_so", none)) F_Lrefusedso
  }
  have b := FunD.bindsA (ps := ["_law_script"]) F_law fun _ _ _ _ _ _ us hl => match us, hl with | [_], _ => rfl
  exact ⟨fd_law, T, ⟨rfl, fun s v => b s [v] rfl⟩, fun base _ _ TB => ok_law T (TB (T.cd_Lrefusedso, T.tb_Lrefusedso) (List.mem_map.mpr ⟨("_law_refused_so", none), by simp [tf], rfl⟩))⟩
end K2
open PySem PySem.W PySem.Calls PyProof.Rows
theorem PySem.Challenge.cw_ringlessday_k02_sections_told_holds : PySem.Challenge.rw_ringlessday_k02_sections_told.Holds := by
  w_on; o_law
  refine HandSHeadRun.head_any (r := OpenLaw.row PySem.Challenge.rw_ringlessday_k02_sections_told) (q := view (OpenLaw.row PySem.Challenge.rw_ringlessday_k02_sections_told).prog [31]) (H := K2.hk) (ob := K2.ob) (M := 20000) (loose := K2.loose) (d := HandSHeadRun.topDef (OpenLaw.row PySem.Challenge.rw_ringlessday_k02_sections_told).prog 31) (kwd := []) K2.ob_eq
    (by kernel_rfl) (fun s => by kernel_rfl) K2.run (by kernel_rfl) (by kernel_rfl) (by kernel_rfl) (by rfl) (by first | assumption | decide +kernel) (by decide +kernel) ⟨rfl, rfl, rfl, rfl, rfl, by decide +kernel⟩ ?hw ?hc
  case hw => w_witness2
  case hc =>
    refine LamX.walk_ofTsE (l := PySem.Challenge.rw_ringlessday_k02_sections_told) (n := 63) (k := 9) (x := "_law_script") (CX := fun _ => L2.CX0) rfl (by decide) (by kernel_rfl) ⟨rfl, by decide, by decide⟩ ?F (fun _ _ _ _ _ z => z)
    intro w mg fa h Y G hmg0
    obtain ⟨K, KX, c⟩ := Y
    have hmg : mg ("law" : PySem.Str) = some (.ref fa) := by
      have e : (HandSHeadRun.topDef (OpenLaw.row PySem.Challenge.rw_ringlessday_k02_sections_told).prog 31).name = ("law" : PySem.Str) := by kernel_rfl
      rw [← e]
      exact hmg0
    obtain ⟨fd, T, ⟨et0, hb⟩, hF⟩ := K2.facts (P := (PySem.Challenge.rw_ringlessday_k02_sections_told).prog) (w := w) KX G hmg c
    refine ⟨K, KX, fd, K2.tf.map (He.cT K), K2.spLaw T, fun p hp => ?_, fun p hp => ?_, fun p hp => ?_, hb, fun H a ns hl _ hT hS => ⟨a, ns, rfl, hS, hl, (by have z := hT (He.cT K ("_law_refused_so", none)) (List.mem_map.mpr ⟨("_law_refused_so", none), by simp [K2.tf], rfl⟩); rw [← et0] at z; exact z), fun _ => rfl⟩, hF⟩
    · obtain ⟨d, hd, rfl⟩ := List.mem_map.mp hp
      exact c.empty d hd
    · obtain ⟨d, hd, rfl⟩ := List.mem_map.mp hp
      exact c.out d hd
    · obtain ⟨d, hd, rfl⟩ := List.mem_map.mp hp
      exact PySem.W.codeHd_of_K KX (c.hd d hd)
