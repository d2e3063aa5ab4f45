import PyProof.Rows.All
import HandS.ForMost
import HandS.Flow
import HandS.Wide
import HandS.Walk
import HandS.Exc
import HandS.IsInst
import HandS.HeadHook2
import HandS.Lambda
import HandS.Slots
import HandS.ExcCtx
import HandS.SuiteRaise
import PyProof.ReprRoads
import HandS.TupAny
import HandS.Style
import HandS.Conv
import HandS.Defaults
import HandS.WordsExc
import HandS.Zip
import HandS.More
import HandS.Text
import HandS.Small
import HandS.RaiseMore
import PyProof.RowDictHeap
import HandS.Dict
import HandS.ExcInit
import KE.KExcSuper
import HandS.ExcValue
import KE.KExcIs
import HandS.HeadHook1
import HandS.EndBits
import HandS.Head0
import HandS.Head1
import HandS.Head2
import HandS.Words
import HandS.Property
import OpenK.KMeth
import KE.KOpsOwn
import KE.KCallOwn
import HandS.Set
import HandS.Strs
import PyProof.Rows.SortShellAny
import HandS.Iter
import PyProof.Laws
import HandS.DictComp
import HandS.ExcInitHot
import PyProof.ReprLen
import HandS.EndTab
import HandS.FStr
import HandS.DictTup
import KE.KItemsList
import HandS.ReplaceLit
import HandS.Star
import HandS.ClsMeth
import HandS.TryOnly
import HandS.Deep
import KE.KDictPairs
import HandS.SetFor
import PyProof.WalksMore
import HandS.SortInts
import PyProof.RulesMatch
import KE.KDictSum
import HandS.NoneIn
import PySem.Challenge.RW_dialsums_k12_sets_that_get_too_great
import HandS.HeadEnd
set_option Elab.async false
set_option linter.all false
set_option maxRecDepth 100000
set_option maxHeartbeats 4000000
namespace TL
open PySem PySem.Spec PyProof.Rows L2
def cdAt (K : PySem.W.Frag) (f : Addr) : Value := match K.lookup f with
  | some ⟨_, _, .func fd, _⟩ => fd.code
  | _ => .none
def tabA (K : PySem.W.Frag) (x : Str) : Option Addr := match cdAt K (He.ga K x) with
  | .ref c => (match K.lookup c with
    | some o => (match o.data with
      | .fields vs => (match (vs[11]? : Option Value) with
        | some (Value.ref P) => some P
        | _ => none)
      | _ => none)
    | none => none)
  | _ => none
def slN (K : PySem.W.Frag) (C : Str) : List Str := match K.lookup (He.ga K C) with
  | some ⟨_, _, .cls cd, _⟩ => cd.slotNames
  | _ => []
abbrev tyL : List String := ["NoneType", "bool", "int", "str", "tuple", "list", "dict"]
abbrev tyR : List String := ["bool", "int", "str", "tuple", "list", "dict"]
end TL
namespace TLI
open PySem PySem.Spec PyProof.Rows L2
def iScope : Scope := { kind := .function, names := [("self", .local), ("value", .local), ("__class__", .free), ("super", .globalImplicit)], isGenerator := false, isCoroutine := false, more := [] }
def iArgs (q1 q2 : Pos) : Arguments := { posonlyargs := [], args := [{ arg := "self", annotation := none, pos := q1 }, { arg := "value", annotation := none, pos := q2 }], vararg := none, kwonlyargs := [], kw_defaults := [], kwarg := none, defaults := [] }
def iBody (p0 p1 p2 p3 p4 p5 p6 p7 p8 p9 : Pos) : List Stmt := [.Expr (.Call (.Attribute (.Call (.Name "super" p0) [] [] p1) "__init__" p2) [.Name "value" p3] [] p4) p5, .Assign [.Attribute (.Name "self" p6) "value" p7] (.Name "value" p8) p9]
end TLI
namespace TL
open PySem PySem.Spec PyProof.Rows L2
abbrev veB : List Value := [.type "ValueError", .type "Exception", .type "BaseException", .type "object"]
abbrev dErr : Str := "DialError"
abbrev IniV : Type := Option (Str × Str × Arguments × FuncBody × Scope × Addr × List Str × Value × Addr)
def iniObs (K : PySem.W.Frag) : IniV := match K.lookup (He.ma K (He.ga K dErr) "__init__") with
  | some ⟨_, _, .func fd, _⟩ => some (fd.name, fd.qualname, fd.params, fd.body, fd.scope, fd.globals, fd.closure.map (·.1), fd.defaults, fd.builtins)
  | _ => none
structure IniD where
  name : Str
  qual : Str
  q1 : Pos
  q2 : Pos
  p0 : Pos
  p1 : Pos
  p2 : Pos
  p3 : Pos
  p4 : Pos
  p5 : Pos
  p6 : Pos
  p7 : Pos
  p8 : Pos
  p9 : Pos
def IniD.val (i : IniD) : IniV := some (i.name, i.qual, TLI.iArgs i.q1 i.q2, .stmts (TLI.iBody i.p0 i.p1 i.p2 i.p3 i.p4 i.p5 i.p6 i.p7 i.p8 i.p9), TLI.iScope, mainGlobals, ["__class__"], .none, builtinsNs)
def fileAt (K : PySem.W.Frag) (c : Addr) : Option Str := match K.lookup c with
  | some ⟨_, _, .fields vs, _⟩ => (match vs.toList with
    | _ :: _ :: .str fl _ :: _ => some fl
    | _ => none)
  | _ => none
def cellAt (K : PySem.W.Frag) (c : Addr) : Option Value := match K.lookup c with
  | some ⟨_, _, .cell (some v), _⟩ => some v
  | _ => none
def codeB (file : Str) (K : PySem.W.Frag) (qual : Str) : Value → List (Str × Addr) → Bool
  | .ref cda, [(_, cc)] => PySem.W.codeIn K (.ref cda) qual && (decide (fileAt K cda = some file) && decide (cellAt K cc = some (.ref (He.ga K dErr))))
  | _, _ => false
def ifnB (file : Str) (K : PySem.W.Frag) : Bool := (match K.lookup (He.ma K (He.ga K dErr) "__init__") with
  | some ⟨_, _, .func fd, _⟩ => codeB file K fd.qualname fd.code fd.closure
  | _ => false) && ((PySem.W.clsIn K (He.ga K dErr)).isSome && (decide (PySem.W.nsIn K cStatics "thirdparty.any" = some none) && decide (PySem.W.typeIn K (.ref (He.ma K (He.ga K dErr) "__init__")) = some (.type "function"))))
def eqT (a b : Option (Option Value)) : Bool := decide (a = b)
def mroE (K : PySem.W.Frag) (C : Str) : List Value := if C = dErr then veB else .ref (He.ga K dErr) :: veB
def clsB (C : Str) (K : PySem.W.Frag) : Bool := match K.lookup (He.ga K C) with
  | some ⟨.type t, _, .cls cd, sl⟩ => (match sl.toList with
    | [_, _, _, _, some (.builtin n), _] => decide (t = "type") && (decide (cd.mro = .ref (He.ga K C) :: mroE K C) && (cd.hasDict && (!cd.hasDel && decide (n = "ValueError.__new__"))))
    | _ => false)
  | _ => false
def exB (C : Str) (K : PySem.W.Frag) : Bool := clsB C K && (eqT (PySem.W.findIn K (.ref (He.ga K C)) "__setattr__") (some (some (.builtin "object.__setattr__"))) && (PySem.W.keepIn K (.ref (He.ga K C)) &&
  (eqT (PySem.W.findIn K (.ref (He.ga K C)) "__init__") (some (some (.ref (He.ma K (He.ga K dErr) "__init__")))) && (eqT (PySem.W.ks_superIn K (He.ga K C) (He.ga K dErr) "__init__") (some (some (.builtin "ValueError.__init__"))) &&
  (eqT (PySem.W.findIn K (.ref (He.ga K C)) "value") (some none) && (eqT (PySem.W.findIn K (.ref (He.ga K C)) "__getattribute__") (some (some (.builtin "BaseException.__getattribute__"))) &&
  (eqT (PySem.W.findIn K (.ref (He.ga K C)) "__getattr__") (some none) && eqT (PySem.W.findIn K (.ref (He.ga K C)) "__class__") (some (some (.builtin "object.__class__")))))))))) && eqT (PySem.W.nsIn K mainGlobals C) (some (some (.ref (He.ga K C))))
def exsB (ex : List Str) (K : PySem.W.Frag) : Bool := ex.all (fun C => exB C K) && (decide (ex.map (He.ga K)).Nodup && (decide (dErr ∈ ex) && (eqT (PySem.W.specialIn K (.builtin "object.__class__") "__get__") (some (some (.builtin "getset_descriptor.__get__"))) && decide (PySem.W.takesIn K (.builtin "object.__class__") = some true))))
abbrev Fb : Type := PySem.W.Frag → Bool
abbrev AlT : Type := Bool × List He.FnW × IniV
def freeB (x : Str) (K : PySem.W.Frag) : Bool := (He.Fa.free x).ok K
def gloB (x : Str) (K : PySem.W.Frag) : Bool := (He.Fa.glo x).ok K
def sysB (K : PySem.W.Frag) : Bool := (K.lookup sysModules).isSome
def fnB (C m : Str) (K : PySem.W.Frag) : Bool := match PySem.W.findIn K (.ref (He.ga K C)) m with
  | some (some (.ref f)) => PySem.W.fnIn K f
  | _ => false
def isfB (ex own : List Str) (K : PySem.W.Frag) : Bool :=
  own.all (fun C => (He.Fa.cls C).ok K && (eqT (PySem.W.findIn K (.ref (He.ga K C)) "__class__") (some (some (.builtin "object.__class__"))) && decide (PySem.W.mroIn K (He.ga K C) (.type "object") = some true))) &&
  (own.all (fun C => tyR.all fun n => decide (PySem.W.kitOne K (.ref (He.ga K C)) (.type n) = some false)) &&
  (own.all (fun C => tyL.all fun n => decide (PySem.W.kitOne K (.type n) (.ref (He.ga K C)) = some false)) &&
  (own.all (fun C => own.all fun B => decide (PySem.W.kitOne K (.ref (He.ga K C)) (.ref (He.ga K B)) = some (decide (C = B)))) &&
  (own.all (fun C => ex.all fun B => decide (PySem.W.kitOne K (.ref (He.ga K C)) (.ref (He.ga K B)) = some false)) &&
  ex.all (fun C => own.all fun B => decide (PySem.W.kitOne K (.ref (He.ga K C)) (.ref (He.ga K B)) = some false))))))
def adG (x : Str) (K : PySem.W.Frag) : Addr := He.ga K x
def adM (C m : Str) (K : PySem.W.Frag) : Addr := He.ma K (He.ga K C) m
def adR (C f : Str) (T : String) (K : PySem.W.Frag) : Addr := match PySem.W.recIn K (adM C f K) T with
  | some (.ref g :: _) => g
  | _ => 0
def adD (ad : PySem.W.Frag → Addr) (i : Nat) (K : PySem.W.Frag) : Addr := match K.lookup (ad K) with
  | some ⟨_, _, .func fd, _⟩ => (match fd.defaults with
    | .ref T => (match K.lookup T with
      | some ⟨_, _, .seq its _, _⟩ => (match its.toList[i]? with
        | some (.ref a) => a
        | _ => 0)
      | _ => 0)
    | _ => 0)
  | _ => 0
structure DefX where
  ad : PySem.W.Frag → Addr
  name : Str
  qual : Str
  params : Arguments
  body : List Stmt
  scope : Scope
  dfl : List He.Dv := []
  kwd : List (Str × He.Dv) := []
def fnX (K : PySem.W.Frag) (a : Addr) : He.FnW := match K.lookup a with
  | some ⟨_, _, .func fd, _⟩ => some (fd.name, fd.qualname, fd.params, fd.body, fd.scope, fd.globals, fd.closure, fd.builtins)
  | _ => none
def DefX.val (d : DefX) : He.FnW := some (d.name, d.qual, d.params, .stmts d.body, d.scope, mainGlobals, [], builtinsNs)
def DefX.dvs (K : PySem.W.Frag) (d : DefX) : List V := d.dfl.map (He.Dv.v K)
def DefX.kws (K : PySem.W.Frag) (d : DefX) : List (Str × V) := d.kwd.map fun q => (q.1, q.2.v K)
def DefX.ok (K : PySem.W.Frag) (d : DefX) : Bool := PySem.W.keepIn K (.ref (d.ad K)) && (match K.lookup (d.ad K) with
  | some ⟨_, _, .func fd, _⟩ => PySem.W.codeIn K fd.code d.qual && (He.dflB K fd.defaults (d.dvs K) && He.kwdB K fd.kwdefaults (d.kws K))
  | _ => false)
def obsX (fb : List Fb) (fn : List DefX) (K : PySem.W.Frag) : AlT := ((fb.all fun f => f K) && fn.all fun d => d.ok K, fn.map fun d => fnX K (d.ad K), iniObs K)
def valX (fn : List DefX) (i : IniV) : AlT := (true, fn.map DefX.val, i)
def faB (f : He.Fa) (K : PySem.W.Frag) : Bool := f.ok K
def propB (C f : Str) (K : PySem.W.Frag) : Bool := eqT (PySem.W.findIn K (.ref (He.ga K C)) f) (some (some (.ref (adM C f K)))) && (eqT (PySem.W.specialIn K (.ref (adM C f K)) "__get__") (some (some (.builtin "property.__get__"))) && (decide (PySem.W.takesIn K (.ref (adM C f K)) = some true) &&
  (match PySem.W.recIn K (adM C f K) "property" with
  | some (.ref _ :: _) => true
  | _ => false)))
def neB (C : Str) (K : PySem.W.Frag) : Bool := eqT (PySem.W.findIn K (.ref (He.ga K C)) "__ne__") (some (some (.builtin "object.__ne__"))) && decide (PySem.W.subIn K (.ref (He.ga K C)) (.type "object") = some true)
def tup0B (ad : PySem.W.Frag → Addr) (K : PySem.W.Frag) : Bool := match K.lookup (ad K) with
  | some ⟨.type t, _, .seq its _, _⟩ => decide (t = "tuple") && decide (its.size = 0)
  | _ => false
def tab0 : Obj := { cls := .none, data := .fields #[] }
def dataF (d : Data) : Bool := match d with
  | .fields _ => true
  | _ => false
def isTab (o : Obj) : Bool := decide (o.cls = .none) && (o.dict.isNone && dataF o.data)
def noTab (K : PySem.W.Frag) : PySem.W.Frag := K.filter fun p => !isTab p.2
def dataNil (d : Data) : Bool := match d with
  | .fields vs => vs.isEmpty
  | _ => false
theorem dataNil_ok {d : Data} (h : dataNil d = true) : d = .fields #[] := by
  unfold dataNil at h
  split at h
  · rw [Array.isEmpty_iff.mp h]
  · cases h
def emptyTab (o : Option Obj) : Bool := match o with
  | some o => decide (o.cls = .none) && (o.dict.isNone && (dataNil o.data && o.slots.isEmpty))
  | none => false
theorem emptyTab_ok {o : Option Obj} (h : emptyTab o = true) : o = some tab0 := by
  unfold emptyTab at h
  split at h
  · rename_i o
    obtain ⟨c, d, dt, sl⟩ := o
    obtain ⟨h1, h⟩ := Bool.and_eq_true_iff.mp h
    obtain ⟨h2, h⟩ := Bool.and_eq_true_iff.mp h
    obtain ⟨h3, h4⟩ := Bool.and_eq_true_iff.mp h
    have e1 : c = .none := of_decide_eq_true h1
    have e2 : d = none := Option.isNone_iff_eq_none.mp h2
    have e3 : dt = .fields #[] := dataNil_ok h3
    have e4 : sl = #[] := Array.isEmpty_iff.mp h4
    subst e1 e2 e3 e4
    rfl
  · cases h
def isStrV : Value → Bool
  | .str _ _ => true
  | _ => false
def isIntV : Value → Bool
  | .int _ _ => true
  | _ => false
def isBoolV : Value → Bool
  | .bool _ => true
  | _ => false
theorem isStrV_ok : ∀ {v : Value}, isStrV v = true → ∃ a b, v = .str a b
  | .str a b, _ => ⟨a, b, rfl⟩
theorem isIntV_ok : ∀ {v : Value}, isIntV v = true → ∃ a b, v = .int a b
  | .int a b, _ => ⟨a, b, rfl⟩
theorem isBoolV_ok : ∀ {v : Value}, isBoolV v = true → ∃ a, v = .bool a
  | .bool a, _ => ⟨a, rfl⟩
def codeHB (o : Option Obj) (c P : Addr) : Bool := match o with
  | some o => (match o.data with
    | .fields vs => decide (o.cls = .type "code") && (decide ((vs[11]? : Option Value) = some (.ref P)) && (decide (vs.getD 11 .none = .ref P) && (isStrV (vs.getD 18 .none) && (isIntV (vs.getD 7 .none) && (isBoolV (vs.getD 9 .none) && (isIntV (vs.getD 10 .none) && decide (c ≠ P)))))))
    | _ => false)
  | none => false
theorem codeHB_ok {h : Heap} {c P : Addr} (e : codeHB (h.get? c) c P = true) : PySem.W.CodeHd h c P := by
  unfold codeHB at e
  split at e
  · rename_i o ho
    split at e
    · rename_i vs hd
      obtain ⟨h1, e⟩ := Bool.and_eq_true_iff.mp e
      obtain ⟨h2, e⟩ := Bool.and_eq_true_iff.mp e
      obtain ⟨h3, e⟩ := Bool.and_eq_true_iff.mp e
      obtain ⟨h4, e⟩ := Bool.and_eq_true_iff.mp e
      obtain ⟨h5, e⟩ := Bool.and_eq_true_iff.mp e
      obtain ⟨h6, e⟩ := Bool.and_eq_true_iff.mp e
      obtain ⟨h7, h8⟩ := Bool.and_eq_true_iff.mp e
      obtain ⟨a1, b1, e1⟩ := isStrV_ok h4
      obtain ⟨a2, b2, e2⟩ := isIntV_ok h5
      obtain ⟨a3, e3⟩ := isBoolV_ok h6
      obtain ⟨a4, b4, e4⟩ := isIntV_ok h7
      exact ⟨o, vs, a1, b1, a2, b2, a3, a4, b4, ho, of_decide_eq_true h1, hd, of_decide_eq_true h2, of_decide_eq_true h3, e1, e2, e3, e4, of_decide_eq_true h8⟩
    · cases e
  · cases e
def tab1 (g : Addr → Option Obj) (K : PySem.W.Frag) (x : Str) : Bool := match cdAt K (He.ga K x), tabA K x with
  | .ref c, some P => emptyTab (g P) && ((K.lookup P).isNone && codeHB (g c) c P)
  | _, _ => false
structure Tab1 (h : Heap) (K : PySem.W.Frag) (x : Str) (P : Addr) : Prop where
  tab : tabA K x = some P
  emp : h.get? P = some tab0
  out : K.lookup P = none
  code : ∃ c, cdAt K (He.ga K x) = .ref c ∧ PySem.W.CodeHd h c P
theorem tab1_ok {h : Heap} {K : PySem.W.Frag} {x : Str} (e : tab1 h.get? K x = true) : ∃ P, Tab1 h K x P := by
  unfold tab1 at e
  split at e
  · rename_i c P h1 h2
    obtain ⟨e1, e⟩ := Bool.and_eq_true_iff.mp e
    obtain ⟨e2, e3⟩ := Bool.and_eq_true_iff.mp e
    exact ⟨P, h2, emptyTab_ok e1, Option.isNone_iff_eq_none.mp e2, c, h1, codeHB_ok e3⟩
  · cases e
theorem Tab1.keeps {h h' : Heap} {K : PySem.W.Frag} {x : Str} {P : Addr} (t : Tab1 h K x P) (k : ∀ b o, h.get? b = some o → h'.get? b = some o) : Tab1 h' K x P := ⟨t.tab, k _ _ t.emp, t.out, let ⟨c, h1, h2⟩ := t.code; ⟨c, h1, h2.keeps k⟩⟩
def tabsB (ms : List Str) (g : Addr → Option Obj) (K : PySem.W.Frag) : Bool := ms.all (tab1 g K) && decide ((ms.map (tabA K)).Nodup)
structure TabF (ms : List Str) (h : Heap) (K : PySem.W.Frag) : Prop where
  one : ∀ x ∈ ms, ∃ P, Tab1 h K x P
  nd : (ms.map (tabA K)).Nodup
theorem frG_mem {g : Addr → Option Obj} {as : List Addr} {p : Addr × Obj} (h : p ∈ He.frG g as) : g p.1 = some p.2 := by
  obtain ⟨a, _, e⟩ := List.mem_filterMap.mp h
  obtain ⟨o, h1, rfl⟩ := Option.map_eq_some_iff.mp e
  exact h1
theorem lookup_mem {a : Addr} {o : Obj} : ∀ {K : PySem.W.Frag}, K.lookup a = some o → (a, o) ∈ K
  | [], h => by cases h
  | (b, u) :: r, h => by
    rw [List.lookup_cons] at h
    cases q : (a == b) with
    | true =>
      rw [q] at h
      have e : u = o := Option.some.inj h
      rw [beq_iff_eq.mp q, e]
      exact List.mem_cons_self
    | false =>
      rw [q] at h
      exact List.mem_cons_of_mem _ (lookup_mem h)
def tyLB (C : Str) (K : PySem.W.Frag) : Bool := tyL.all fun n => decide (PySem.W.subIn K (.type n) (.ref (He.ga K C)) = some false)
def slot1B (K : PySem.W.Frag) (C : Addr) (f : Str) (i : Nat) : Bool := match PySem.W.findIn K (.ref C) f with
  | some (some (.ref p)) => decide (PySem.W.specialIn K (.ref p) "__get__" = some (some (.builtin "member_descriptor.__get__"))) && (decide (PySem.W.takesIn K (.ref p) = some true) &&
      (decide (PySem.W.typeIn K (.ref p) = some (.type "member_descriptor")) && (decide (PySem.W.slotIn K p C = some i) && decide (i < 1000))))
  | _ => false
def slcB (C : Str) (K : PySem.W.Frag) : Bool := PySem.W.plainGet K (He.ga K C) Str.empty && (PySem.W.isClsIn K (He.ga K C) && (PySem.W.plainOver K (He.ga K C) && (He.eqO (PySem.W.findIn K (.ref (He.ga K C)) "__setattr__") (some (some (.builtin "object.__setattr__"))) &&
  (!PySem.W.hasDictIn K (He.ga K C) && (decide (slN K C).Nodup && (List.range (slN K C).length).all fun i => match (slN K C)[i]? with
    | some f => slot1B K (He.ga K C) f i
    | none => true)))))
def slmB (C f : Str) (K : PySem.W.Frag) : Bool := decide (f ∈ slN K C)
def selfB (C : Str) (K : PySem.W.Frag) : Bool := PySem.W.selfFirst K (He.ga K C)
def fragL (as : List Addr) (g : Addr → Option Obj) : PySem.W.Frag := He.frG g as
def addrs : Nat → List Addr → List Addr
  | 0, as => as
  | n + 1, as => addrs n (n :: as)
def obsXL (as : List Addr) (ms : List Str) (fb : List Fb) (fn : List DefX) (g : Addr → Option Obj) : AlT := (tabsB ms g (noTab (fragL as g)) && (obsX fb fn (noTab (fragL as g))).1, (obsX fb fn (noTab (fragL as g))).2)
theorem noTab_inL {h : Heap} {as : List Addr} : (noTab (fragL as h.get?)).In h := fun a o e => by
  have m : (a, o) ∈ noTab (fragL as h.get?) := lookup_mem e
  exact frG_mem (List.mem_filter.mp m).1
def hookXL (as : List Addr) (ms : List Str) (fb : List Fb) (fn : List DefX) (i : IniV) : PySem.W.Hook where
  α := AlT
  obs := fun s => obsXL as ms fb fn s.heap.get?
  val := fun _ => valX fn i
  says := fun _ h => ∃ K : PySem.W.Frag, K.In h ∧ obsX fb fn K = valX fn i ∧ TabF ms h K
  of := fun _ s e => by
    have e1 : (tabsB ms s.heap.get? (noTab (fragL as s.heap.get?)) && (obsX fb fn (noTab (fragL as s.heap.get?))).1) = true := congrArg (fun z : AlT => z.1) e
    obtain ⟨h1, h2⟩ := Bool.and_eq_true_iff.mp e1
    obtain ⟨h3, h4⟩ := Bool.and_eq_true_iff.mp h1
    have e2 : (obsXL as ms fb fn s.heap.get?).2 = (valX fn i).2 := congrArg (fun z : AlT => z.2) e
    exact ⟨_, noTab_inL, Prod.ext h2 e2, fun x hx => tab1_ok (List.all_eq_true.mp h3 x hx), of_decide_eq_true h4⟩
  keeps := fun _ _ _ ⟨K, hK, c, t⟩ k => ⟨K, PySem.W.Frag.In.keeps hK k, c, fun x hx => let ⟨P, q⟩ := t.one x hx; ⟨P, q.keeps k⟩, t.nd⟩
end TL
set_option Elab.async false
set_option linter.all false
set_option maxRecDepth 100000
set_option maxHeartbeats 0
namespace K12
open PySem PySem.Spec PyProof.Rows L2 TL
def ex0 : List PySem.Str := [(PySem.Str.ofString "DialError"), (PySem.Str.ofString "BadNumber"), (PySem.Str.ofString "BadText"), (PySem.Str.ofString "BadDial"), (PySem.Str.ofString "BadWhole"), (PySem.Str.ofString "BadShares"), (PySem.Str.ofString "BadOthers"), (PySem.Str.ofString "TooGreat")]
def ex : List PySem.Str := ex0
def ow : List PySem.Str := [(PySem.Str.ofString "Dials")]
abbrev Pg : Program := PySem.Challenge.pw_dialsums_k12_sets_that_get_too_great
def top (i : Nat) : Stmt := Pg.main.body.getD i (.Pass ⟨0, 0, 0, 0⟩)
abbrev sis_whole : Stmt := top 31
def dis_whole : DefX := ⟨(adG "is_whole"), "is_whole", "is_whole", defArgs sis_whole, defBody sis_whole, defScope sis_whole, [], []⟩
abbrev sis_integer : Stmt := top 32
def dis_integer : DefX := ⟨(adG "is_integer"), "is_integer", "is_integer", defArgs sis_integer, defBody sis_integer, defScope sis_integer, [], []⟩
abbrev sdo_ascend : Stmt := top 33
def ddo_ascend : DefX := ⟨(adG "do_ascend"), "do_ascend", "do_ascend", defArgs sdo_ascend, defBody sdo_ascend, defScope sdo_ascend, [], []⟩
abbrev sgcd : Stmt := top 14
def dgcd : DefX := ⟨(adG "gcd"), "gcd", "gcd", defArgs sgcd, defBody sgcd, defScope sgcd, [], []⟩
abbrev slcm : Stmt := top 15
def dlcm : DefX := ⟨(adG "lcm"), "lcm", "lcm", defArgs slcm, defBody slcm, defScope slcm, [], []⟩
abbrev spower : Stmt := top 13
def dpower : DefX := ⟨(adG "power"), "power", "power", defArgs spower, defBody spower, defScope spower, [], []⟩
abbrev stimes_in : Stmt := top 16
def dtimes_in : DefX := ⟨(adG "times_in"), "times_in", "times_in", defArgs stimes_in, defBody stimes_in, defScope stimes_in, [], []⟩
abbrev swithout : Stmt := top 17
def dwithout : DefX := ⟨(adG "without"), "without", "without", defArgs swithout, defBody swithout, defScope swithout, [], []⟩
abbrev sparted : Stmt := top 18
def dparted : DefX := ⟨(adG "parted"), "parted", "parted", defArgs sparted, defBody sparted, defScope sparted, [], []⟩
abbrev sroot : Stmt := top 19
def droot : DefX := ⟨(adG "root"), "root", "root", defArgs sroot, defBody sroot, defScope sroot, [], []⟩
abbrev sleast_root : Stmt := top 20
def dleast_root : DefX := ⟨(adG "least_root"), "least_root", "least_root", defArgs sleast_root, defBody sleast_root, defScope sleast_root, [], []⟩
abbrev ssplit : Stmt := top 21
def dsplit : DefX := ⟨(adG "split"), "split", "split", defArgs ssplit, defBody ssplit, defScope ssplit, [], []⟩
abbrev srefined : Stmt := top 22
def drefined : DefX := ⟨(adG "refined"), "refined", "refined", defArgs srefined, defBody srefined, defScope srefined, [], []⟩
abbrev sbases : Stmt := top 23
def dbases : DefX := ⟨(adG "bases"), "bases", "bases", defArgs sbases, defBody sbases, defScope sbases, [], []⟩
abbrev sdivisors_by : Stmt := top 25
def ddivisors_by : DefX := ⟨(adG "divisors_by"), "divisors_by", "divisors_by", defArgs sdivisors_by, defBody sdivisors_by, defScope sdivisors_by, [], []⟩
abbrev sdivisors : Stmt := top 24
def ddivisors : DefX := ⟨(adG "divisors"), "divisors", "divisors", defArgs sdivisors, defBody sdivisors, defScope sdivisors, [], []⟩
abbrev sleast_table : Stmt := top 43
def dleast_table : DefX := ⟨(adG "least_table"), "least_table", "least_table", defArgs sleast_table, defBody sleast_table, defScope sleast_table, [], []⟩
abbrev sword_of : Stmt := top 44
def dword_of : DefX := ⟨(adG "word_of"), "word_of", "word_of", defArgs sword_of, defBody sword_of, defScope sword_of, [], []⟩
abbrev sRaw___init__ : Stmt := inClass (top 45) 1
def dRaw___init__ : DefX := ⟨(adM "Raw" "__init__"), "__init__", "Raw.__init__", defArgs sRaw___init__, defBody sRaw___init__, defScope sRaw___init__, [.adr (adD (adM "Raw" "__init__") 0)], []⟩
abbrev sRaw_has : Stmt := inClass (top 45) 2
def dRaw_has : DefX := ⟨(adM "Raw" "has"), "has", "Raw.has", defArgs sRaw_has, defBody sRaw_has, defScope sRaw_has, [], []⟩
abbrev sleast_raw : Stmt := top 46
def dleast_raw : DefX := ⟨(adG "least_raw"), "least_raw", "least_raw", defArgs sleast_raw, defBody sleast_raw, defScope sleast_raw, [], []⟩
abbrev sput_together : Stmt := top 47
def dput_together : DefX := ⟨(adG "put_together"), "put_together", "put_together", defArgs sput_together, defBody sput_together, defScope sput_together, [], []⟩
abbrev sis_great : Stmt := top 48
def dis_great : DefX := ⟨(adG "is_great"), "is_great", "is_great", defArgs sis_great, defBody sis_great, defScope sis_great, [], []⟩
abbrev sare_divisors : Stmt := top 50
def dare_divisors : DefX := ⟨(adG "are_divisors"), "are_divisors", "are_divisors", defArgs sare_divisors, defBody sare_divisors, defScope sare_divisors, [], []⟩
abbrev sare_others : Stmt := top 51
def dare_others : DefX := ⟨(adG "are_others"), "are_others", "are_others", defArgs sare_others, defBody sare_others, defScope sare_others, [], []⟩
abbrev srow_text : Stmt := top 52
def drow_text : DefX := ⟨(adG "row_text"), "row_text", "row_text", defArgs srow_text, defBody srow_text, defScope srow_text, [], []⟩
abbrev ssigned_parts : Stmt := top 54
def dsigned_parts : DefX := ⟨(adG "signed_parts"), "signed_parts", "signed_parts", defArgs ssigned_parts, defBody ssigned_parts, defScope ssigned_parts, [], []⟩
abbrev smany_prime_to : Stmt := top 55
def dmany_prime_to : DefX := ⟨(adG "many_prime_to"), "many_prime_to", "many_prime_to", defArgs smany_prime_to, defBody smany_prime_to, defScope smany_prime_to, [], []⟩
abbrev sDials___init__ : Stmt := inClass (top 56) 0
def dDials___init__ : DefX := ⟨(adM "Dials" "__init__"), "__init__", "Dials.__init__", defArgs sDials___init__, defBody sDials___init__, defScope sDials___init__, [.adr (adD (adM "Dials" "__init__") 0)], []⟩
abbrev stold_raw : Stmt := top 49
def dtold_raw : DefX := ⟨(adG "told_raw"), "told_raw", "told_raw", defArgs stold_raw, defBody stold_raw, defScope stold_raw, [], []⟩
abbrev sDials_whole : Stmt := inClass (top 56) 1
def dDials_whole : DefX := ⟨(adR "Dials" "whole" "property"), "whole", "Dials.whole", defArgs sDials_whole, defBody sDials_whole, defScope sDials_whole, [], []⟩
abbrev sDials_shares : Stmt := inClass (top 56) 2
def dDials_shares : DefX := ⟨(adR "Dials" "shares" "property"), "shares", "Dials.shares", defArgs sDials_shares, defBody sDials_shares, defScope sDials_shares, [], []⟩
abbrev sDials_others : Stmt := inClass (top 56) 3
def dDials_others : DefX := ⟨(adR "Dials" "others" "property"), "others", "Dials.others", defArgs sDials_others, defBody sDials_others, defScope sDials_others, [], []⟩
abbrev sDials_text : Stmt := inClass (top 56) 4
def dDials_text : DefX := ⟨(adR "Dials" "text" "property"), "text", "Dials.text", defArgs sDials_text, defBody sDials_text, defScope sDials_text, [], []⟩
abbrev sDials___contains__ : Stmt := inClass (top 56) 8
def dDials___contains__ : DefX := ⟨(adM "Dials" "__contains__"), "__contains__", "Dials.__contains__", defArgs sDials___contains__, defBody sDials___contains__, defScope sDials___contains__, [], []⟩
abbrev snext_with : Stmt := top 58
def dnext_with : DefX := ⟨(adG "next_with"), "next_with", "next_with", defArgs snext_with, defBody snext_with, defScope snext_with, [], []⟩
abbrev sDials_after : Stmt := inClass (top 56) 10
def dDials_after : DefX := ⟨(adM "Dials" "after"), "after", "Dials.after", defArgs sDials_after, defBody sDials_after, defScope sDials_after, [], []⟩
abbrev sDials___or__ : Stmt := inClass (top 56) 12
def dDials___or__ : DefX := ⟨(adM "Dials" "__or__"), "__or__", "Dials.__or__", defArgs sDials___or__, defBody sDials___or__, defScope sDials___or__, [], []⟩
abbrev sDials___and__ : Stmt := inClass (top 56) 13
def dDials___and__ : DefX := ⟨(adM "Dials" "__and__"), "__and__", "Dials.__and__", defArgs sDials___and__, defBody sDials___and__, defScope sDials___and__, [], []⟩
abbrev sDials___sub__ : Stmt := inClass (top 56) 14
def dDials___sub__ : DefX := ⟨(adM "Dials" "__sub__"), "__sub__", "Dials.__sub__", defArgs sDials___sub__, defBody sDials___sub__, defScope sDials___sub__, [], []⟩
abbrev sDials___xor__ : Stmt := inClass (top 56) 15
def dDials___xor__ : DefX := ⟨(adM "Dials" "__xor__"), "__xor__", "Dials.__xor__", defArgs sDials___xor__, defBody sDials___xor__, defScope sDials___xor__, [], []⟩
abbrev sDials___invert__ : Stmt := inClass (top 56) 16
def dDials___invert__ : DefX := ⟨(adM "Dials" "__invert__"), "__invert__", "Dials.__invert__", defArgs sDials___invert__, defBody sDials___invert__, defScope sDials___invert__, [], []⟩
abbrev sDials___eq__ : Stmt := inClass (top 56) 17
def dDials___eq__ : DefX := ⟨(adM "Dials" "__eq__"), "__eq__", "Dials.__eq__", defArgs sDials___eq__, defBody sDials___eq__, defScope sDials___eq__, [], []⟩
abbrev sis_below : Stmt := top 57
def dis_below : DefX := ⟨(adG "is_below"), "is_below", "is_below", defArgs sis_below, defBody sis_below, defScope sis_below, [], []⟩
abbrev sDials___le__ : Stmt := inClass (top 56) 18
def dDials___le__ : DefX := ⟨(adM "Dials" "__le__"), "__le__", "Dials.__le__", defArgs sDials___le__, defBody sDials___le__, defScope sDials___le__, [], []⟩
abbrev s_law_pot : Stmt := top 61
def d_law_pot : DefX := ⟨(adG "_law_pot"), "_law_pot", "_law_pot", defArgs s_law_pot, defBody s_law_pot, defScope s_law_pot, [], []⟩
abbrev s_law_take : Stmt := top 62
def d_law_take : DefX := ⟨(adG "_law_take"), "_law_take", "_law_take", defArgs s_law_take, defBody s_law_take, defScope s_law_take, [], []⟩
abbrev s_law_of : Stmt := top 63
def d_law_of : DefX := ⟨(adG "_law_of"), "_law_of", "_law_of", defArgs s_law_of, defBody s_law_of, defScope s_law_of, [], []⟩
abbrev s_law_places : Stmt := top 64
def d_law_places : DefX := ⟨(adG "_law_places"), "_law_places", "_law_places", defArgs s_law_places, defBody s_law_places, defScope s_law_places, [], []⟩
abbrev s_law_told : Stmt := top 65
def d_law_told : DefX := ⟨(adG "_law_told"), "_law_told", "_law_told", defArgs s_law_told, defBody s_law_told, defScope s_law_told, [], []⟩
abbrev s_law_pairs : Stmt := top 66
def d_law_pairs : DefX := ⟨(adG "_law_pairs"), "_law_pairs", "_law_pairs", defArgs s_law_pairs, defBody s_law_pairs, defScope s_law_pairs, [], []⟩
abbrev s_law_is_due : Stmt := top 67
def d_law_is_due : DefX := ⟨(adG "_law_is_due"), "_law_is_due", "_law_is_due", defArgs s_law_is_due, defBody s_law_is_due, defScope s_law_is_due, [], []⟩
abbrev s_law_plain_right : Stmt := top 68
def d_law_plain_right : DefX := ⟨(adG "_law_plain_right"), "_law_plain_right", "_law_plain_right", defArgs s_law_plain_right, defBody s_law_plain_right, defScope s_law_plain_right, [], []⟩
abbrev s_law_parted_right : Stmt := top 69
def d_law_parted_right : DefX := ⟨(adG "_law_parted_right"), "_law_parted_right", "_law_parted_right", defArgs s_law_parted_right, defBody s_law_parted_right, defScope s_law_parted_right, [], []⟩
abbrev s_law_right : Stmt := top 70
def d_law_right : DefX := ⟨(adG "_law_right"), "_law_right", "_law_right", defArgs s_law_right, defBody s_law_right, defScope s_law_right, [], []⟩
abbrev slaw : Stmt := top 71
def dlaw : DefX := ⟨(adG "law"), "law", "law", defArgs slaw, defBody slaw, defScope slaw, [], []⟩
def fn : List DefX := [dis_whole, dis_integer, ddo_ascend, dgcd, dlcm, dpower, dtimes_in, dwithout, dparted, droot, dleast_root, dsplit, drefined, dbases, ddivisors_by, ddivisors, dleast_table, dword_of, dRaw___init__, dRaw_has, dleast_raw, dput_together, dis_great, dare_divisors, dare_others, drow_text, dsigned_parts, dmany_prime_to, dDials___init__, dtold_raw, dDials_whole, dDials_shares, dDials_others, dDials_text, dDials___contains__, dnext_with, dDials_after, dDials___or__, dDials___and__, dDials___sub__, dDials___xor__, dDials___invert__, dDials___eq__, dis_below, dDials___le__, d_law_pot, d_law_take, d_law_of, d_law_places, d_law_told, d_law_pairs, d_law_is_due, d_law_plain_right, d_law_parted_right, d_law_right, dlaw]
def ini : IniD := ⟨"__init__", "DialError.__init__", ⟨7, 17, 7, 21⟩, ⟨7, 23, 7, 28⟩, ⟨8, 8, 8, 13⟩, ⟨8, 8, 8, 15⟩, ⟨8, 8, 8, 24⟩, ⟨8, 25, 8, 30⟩, ⟨8, 8, 8, 31⟩, ⟨8, 8, 8, 31⟩, ⟨9, 8, 9, 12⟩, ⟨9, 8, 9, 18⟩, ⟨9, 21, 9, 26⟩, ⟨9, 8, 9, 26⟩⟩
def iniV : IniV := ini.val
def fb0 : List Fb := [sysB, freeB "len", freeB "int", freeB "abs", freeB "max", freeB "min", freeB "list", freeB "range", freeB "isinstance", freeB "str", freeB "repr", freeB "any", freeB "all", freeB "enumerate", freeB "bool", freeB "tuple", freeB "sum", freeB "set", freeB "sorted", freeB "zip", freeB "NotImplemented", freeB "super", faB (.int "LIMIT" 31623), faB (.int "GREAT" 1000000000), faB (.str "BLANK" " "), faB (.int "LEAST_DIAL" 2), faB (.str "BETWEEN" " : "), faB (.str "NONE" "-"), faB (.str "OR" "or"), faB (.str "AND" "and"), faB (.str "LESS" "less"), faB (.str "JUST" "just"), gloB "is_whole", gloB "is_integer", gloB "do_ascend", gloB "gcd"]
def fb1 : List Fb := [gloB "lcm", gloB "power", gloB "times_in", gloB "without", gloB "parted", gloB "root", gloB "least_root", gloB "split", gloB "refined", gloB "bases", gloB "divisors_by", gloB "divisors", gloB "least_table", gloB "word_of", gloB "least_raw", gloB "put_together", gloB "is_great", gloB "are_divisors", gloB "are_others", gloB "row_text", gloB "signed_parts", gloB "many_prime_to", gloB "told_raw", gloB "next_with", gloB "is_below", gloB "_law_pot", gloB "_law_take", gloB "_law_of", gloB "_law_places", gloB "_law_told", gloB "_law_pairs", gloB "_law_is_due", gloB "_law_plain_right", gloB "_law_parted_right", gloB "_law_right", gloB "law"]
def fb2 : List Fb := [gloB "Raw", slcB "Raw", faB (.mkr "Raw"), tup0B (adD (adM "Raw" "__init__") 0), faB (.meth "Raw" "has"), gloB "Dials", faB (.cls "Dials"), neB "Dials", fnB "Dials" "__eq__", tyLB "Dials", selfB "Dials", faB (.mkr "Dials"), tup0B (adD (adM "Dials" "__init__") 0), propB "Dials" "whole", propB "Dials" "shares", propB "Dials" "others", propB "Dials" "text", faB (.meth "Dials" "__contains__"), faB (.meth "Dials" "after"), faB (.meth "Dials" "__or__"), faB (.meth "Dials" "__and__"), faB (.meth "Dials" "__sub__"), faB (.meth "Dials" "__xor__"), faB (.meth "Dials" "__invert__"), faB (.meth "Dials" "__eq__"), faB (.meth "Dials" "__le__"), slmB "Raw" "own_whole", slmB "Raw" "own_primes", slmB "Raw" "own_shares", slmB "Raw" "own_others", faB (.noat "Dials" "own_raw"), exsB ex, ifnB Pg.main.file, isfB ex ow]
def fb : List Fb := fb0 ++ fb1 ++ fb2
def loose0 : List PySem.Str := [(PySem.Str.ofString "DialError"), (PySem.Str.ofString "BadNumber"), (PySem.Str.ofString "BadText"), (PySem.Str.ofString "BadDial"), (PySem.Str.ofString "BadWhole"), (PySem.Str.ofString "BadShares"), (PySem.Str.ofString "BadOthers"), (PySem.Str.ofString "TooGreat"), (PySem.Str.ofString "Raw"), (PySem.Str.ofString "Dials"), (PySem.Str.ofString "_wall"), (PySem.Str.ofString "power"), (PySem.Str.ofString "gcd"), (PySem.Str.ofString "lcm"), (PySem.Str.ofString "times_in"), (PySem.Str.ofString "without"), (PySem.Str.ofString "parted"), (PySem.Str.ofString "root"), (PySem.Str.ofString "least_root"), (PySem.Str.ofString "split"), (PySem.Str.ofString "refined"), (PySem.Str.ofString "bases"), (PySem.Str.ofString "divisors"), (PySem.Str.ofString "divisors_by"), (PySem.Str.ofString "is_whole"), (PySem.Str.ofString "is_integer"), (PySem.Str.ofString "do_ascend"), (PySem.Str.ofString "integer_in"), (PySem.Str.ofString "least_table"), (PySem.Str.ofString "word_of"), (PySem.Str.ofString "least_raw"), (PySem.Str.ofString "put_together"), (PySem.Str.ofString "is_great"), (PySem.Str.ofString "told_raw"), (PySem.Str.ofString "are_divisors"), (PySem.Str.ofString "are_others")]
def loose1 : List PySem.Str := [(PySem.Str.ofString "row_text"), (PySem.Str.ofString "row_in"), (PySem.Str.ofString "signed_parts"), (PySem.Str.ofString "many_prime_to"), (PySem.Str.ofString "is_below"), (PySem.Str.ofString "next_with"), (PySem.Str.ofString "dials_in"), (PySem.Str.ofString "_law_pot"), (PySem.Str.ofString "_law_take"), (PySem.Str.ofString "_law_of"), (PySem.Str.ofString "_law_places"), (PySem.Str.ofString "_law_told"), (PySem.Str.ofString "_law_pairs"), (PySem.Str.ofString "_law_is_due"), (PySem.Str.ofString "_law_plain_right"), (PySem.Str.ofString "_law_parted_right"), (PySem.Str.ofString "_law_right"), (PySem.Str.ofString "AND"), (PySem.Str.ofString "BETWEEN"), (PySem.Str.ofString "BLANK"), (PySem.Str.ofString "FIGURES"), (PySem.Str.ofString "GREAT"), (PySem.Str.ofString "JUST"), (PySem.Str.ofString "LEAST_DIAL"), (PySem.Str.ofString "LESS"), (PySem.Str.ofString "LIMIT"), (PySem.Str.ofString "MINUS"), (PySem.Str.ofString "NONE"), (PySem.Str.ofString "OR"), (PySem.Str.ofString "TEXT_PARTS")]
def loose : List PySem.Str := loose0 ++ loose1
abbrev R : PySem.W.OpenRow := PySem.W.OpenLaw.row PySem.Challenge.rw_dialsums_k12_sets_that_get_too_great
def ms : List Str := ["_law_plain_right", "_law_parted_right"]
abbrev hk : PySem.W.Hook := hookXL (addrs 1300 []) ms fb fn iniV
def ob (s : PySem.W.SharedT) : AlT := obsXL (addrs 1300 []) ms fb fn (HandSHeadRun.getT s)
theorem run (w : World) : HandSHeadRun.RunEq R (PySem.W.view R.prog [71]) hk ob 12000 loose w := by
  intro os
  kernel_rfl
end K12
set_option Elab.async false
set_option linter.all false
set_option maxRecDepth 100000
set_option maxHeartbeats 4000000
namespace TL
open PySem PySem.Spec PyProof.Rows L2
def hotN : List Str := ["BadRounds"]
def Hot (K : PySem.W.Frag) (c : Value) : Prop := ∃ C ∈ hotN, c = .ref (He.ga K C)
def XE (K : PySem.W.Frag) (X : Cx) (W : WX) (u : Value) (s' : Shared) : Prop := L2N.XE X W u s' ∨ L2.XE X (fun c d σ H => Hot K c ∧ W c d σ H) u s'
def Takes (K : PySem.W.Frag) (X : Cx) (W : WX) : Prop := ∀ u s', XE K X W u s' → X.xe u s'
def CX (K : PySem.W.Frag) (P : Program) (w : World) (outer : List Env) (H : Hp) (s : Shared) (E : XK) (u : Value) (s' : Shared) : Prop :=
  L2N.CX P w outer H s E u s' ∨ L2.CX P w outer H s (fun c d H' => Hot K c ∧ E c d H') u s'
section
variable {K : PySem.W.Frag} {X : Cx} {W : WX} {E : XK} {pins : List (Addr × Obj)} {σ : L2.St} {H : Hp} {s s' : Shared} {u : Value}
theorem sky_imp {Z Z' : Obj → Prop} {B h : Heap} {l : List Env} {a L : Addr} (hz : ∀ o, Z o → Z' o) (y : L2.Sky B l a Z L h) : L2.Sky B l a Z' L h := by
  rcases y with ⟨h1, h2, h3, oe, vs, e1, e2, e3, e4⟩ | fl | hh
  · exact .inl ⟨h1, h2, h3, oe, vs, e1, hz _ e2, e3, e4⟩
  · exact .inr (.inl (L2H.flyingZ_imp hz fl))
  · obtain ⟨k1, k2, k3, oe, vs, T, oT, ts, e1, e2, r⟩ := hh
    exact .inr (.inr ⟨k1, k2, k3, oe, vs, T, oT, ts, e1, hz _ e2, r⟩)
theorem xe_wide (y : L2N.XE X W u s') : L2.XE X W u s' := by
  obtain ⟨a, B, sI, pins, σ, H, cls, d, e, I, nb, up, sky, r⟩ := y
  exact ⟨a, B, sI, pins, σ, H, cls, d, e, I, nb, up, sky_imp (fun o z => z.zc) sky, r⟩
theorem Takes.of2 (t : L2.Takes X W) : Takes K X W := fun u s' y => y.elim (fun y => t u s' (xe_wide y)) fun ⟨a, B, sI, pins, σ, H, cls, d, e, I, nb, up, sky, na, os, ag, w⟩ =>
  t u s' ⟨a, B, sI, pins, σ, H, cls, d, e, I, nb, up, sky, na, os, ag, w.2⟩
theorem Takes.n (t : Takes K X W) : L2N.Takes X W := fun u s' y => t u s' (.inl y)
theorem Takes.h (t : Takes K X W) : L2.Takes X (fun c d σ H => Hot K c ∧ W c d σ H) := fun u s' y => t u s' (.inr y)
theorem XE.of_call (I : Inv X pins σ H s) (hW : ∀ cls d H', E cls d H' → W cls d σ H') (c : CX K X.prog X.w X.stack H s E u s') : XE K X W u s' :=
  c.elim (fun c => .inl (L2N.XE.of_call I hW c)) fun c => .inr (L2.XE.of_call I (fun cls d H' q => ⟨q.1, hW cls d H' q.2⟩) c)
theorem takes_of (hs : X.stack = X.env :: X.outer) (hf : X.env.frame = some X.env.locals) (hex : X.ex = []) {E₁ : Value → Shared → Prop}
    (hx : X.xe = fun e s' => wpAny (model X.prog X.w) X.A (leaving X.env e) (fun _ s'' => CX K X.prog X.w X.outer X.H_0 X.s_0 E e s'') E₁ s') : Takes K X (fun cls d _ H => E cls d H) := fun u s' y => by
  rw [hx]
  rcases y with y | y
  · exact wpAny_mono (L2N.XE.leave (W := fun cls d _ H => E cls d H) (E := E) hs hf hex (fun _ _ _ _ h => h) y) (fun _ _ h => .inl h) fun _ _ h => h
  · exact wpAny_mono (L2.XE.leave (W := fun cls d _ H => Hot K cls ∧ E cls d H) (E := fun cls d H => Hot K cls ∧ E cls d H) hs hf hex (fun _ _ _ _ h => h) y) (fun _ _ h => .inr h) fun _ _ h => h
end
end TL
set_option Elab.async false
set_option linter.all false
set_option maxRecDepth 100000
set_option maxHeartbeats 4000000
namespace TL
open PySem PySem.Spec PyProof.Rows L2
inductive D where
  | non | bl (b : Bool) | int (i : Int) | str (s : Str) | ty (n : String)
  | tup (ds : List D) | tpl (ds : List D) | lst (ds : List D) | scr (ns : List Int)
  | dct (kvs : List (Key × D)) | ins (C : Str) (fs : List (Str × D))
  | cls (C : Str) | exc (C : Str) (d : D) | hnd (i : Nat) | any
inductive O where
  | lst (ds : List D) | dct (kvs : List (Key × D)) | ins (C : Str) (fs : List (Str × D)) | tbl (q : Str) | fn (x : Str) (n : Nat)
structure G where
  bad : Addr → Prop
  hs : List Addr
abbrev Env1 := List (Option D)
def ExO (cls : Value) (dd : Option Addr) (a : Addr) : HO := .ext fun h => ∃ (oe : Obj) (vs : Array Value), h.get? a = some oe ∧ Zc cls dd oe ∧ oe.data = .fields vs
def TbO (g : G) (H : Hp) (a : Addr) (q : Str) : Prop := ∃ ps : Array Value, H a = some (.tbl ps) ∧ TriplesOk ps.toList ∧ ∀ (pos : Pos) (cv : Value), codeAmong pos ps.toList = some cv → ∃ c, cv = .ref c ∧ H c = some (LamX.CodeO c q) ∧ ¬ g.bad c
def lamQ (x : Str) : Str := (x ++ ".<locals>.") ++ "<lambda>"
structure LamD where
  pa : Arguments
  bo : Expr
  sc : Scope
def lamsE : Nat → Expr → List LamD
  | 0, _ => []
  | k + 1, e => match e with
    | .Lambda p b s _ => [⟨p, b, s⟩]
    | .Call f es _ _ => lamsE k f ++ es.flatMap (lamsE k)
    | .Tuple es _ _ => es.flatMap (lamsE k)
    | .List es _ => es.flatMap (lamsE k)
    | .BinOp a _ b _ => lamsE k a ++ lamsE k b
    | .UnaryOp _ a _ => lamsE k a
    | .BoolOp _ es _ => es.flatMap (lamsE k)
    | .Compare a _ es _ => lamsE k a ++ es.flatMap (lamsE k)
    | .Subscript a b _ => lamsE k a ++ lamsE k b
    | .Attribute a _ _ => lamsE k a
    | .Starred a _ => lamsE k a
    | .IfExp a b c _ => lamsE k a ++ lamsE k b ++ lamsE k c
    | .ListComp a gs _ _ => lamsE k a ++ gs.flatMap fun g => lamsE k g.iter ++ g.ifs.flatMap (lamsE k)
    | _ => []
def lamsS : Nat → Stmt → List LamD
  | 0, _ => []
  | k + 1, s => match s with
    | .Return (some e) _ => lamsE 20 e
    | .Assign _ e _ => lamsE 20 e
    | .Expr e _ => lamsE 20 e
    | .If t b o _ => lamsE 20 t ++ b.flatMap (lamsS k) ++ o.flatMap (lamsS k)
    | .For _ i b o _ => lamsE 20 i ++ b.flatMap (lamsS k) ++ o.flatMap (lamsS k)
    | .While t b o _ => lamsE 20 t ++ b.flatMap (lamsS k) ++ o.flatMap (lamsS k)
    | _ => []
def lamAt (K : PySem.W.Frag) (x : Str) (n : Nat) : Option LamD := match K.lookup (He.ga K x) with
  | some ⟨_, _, .func fd, _⟩ => (match fd.body with
    | .stmts b => (b.flatMap (lamsS 12))[n]?
    | _ => none)
  | _ => none
def FnO (x : Str) (L : LamD) (a c : Addr) : HO := .ext fun h => ∃ pm ctv : Value, h.get? a = some (PySem.W.kla_obj "<lambda>" (lamQ x) L.pa L.bo L.sc [] pm c ctv)
section
variable (K : PySem.W.Frag) (g : G) (H : Hp)
def TplAt (a : Addr) (xs : List V) : Prop := (∃ o : Obj, H a = some (.frz o (.tup xs)) ∧ o.dict = none ∧ ¬ g.bad a) ∨
    ∃ (o : Obj) (its : Array Value) (n : Nat), K.lookup a = some o ∧ o.cls = .type "tuple" ∧ o.dict = none ∧ o.data = .seq its n ∧ its.size ≤ sizeLine ∧ Vals xs its.toList
def TupAt (a : Addr) (xs : List V) : Prop := (Rd H a (.tup xs) ∧ ¬ g.bad a) ∨
    ∃ (o : Obj) (its : Array Value) (n : Nat), K.lookup a = some o ∧ o.cls = .type "tuple" ∧ o.data = .seq its n ∧ its.size ≤ sizeLine ∧ Vals xs its.toList
def ScrAt (a : Addr) (xs : List V) : Prop := ((∃ o, H a = some (.frz o (.lst xs))) ∧ ¬ g.bad a) ∨
    ∃ (o : Obj) (its : Array Value) (n : Nat), K.lookup a = some o ∧ o.cls = .type "list" ∧ o.dict = none ∧ o.data = .seq its n ∧ its.size ≤ sizeLine ∧ Vals xs its.toList
def SlW (ns : List Str) (ws : List (Str × V)) (vs : List (Option V)) : Prop := ∀ (i : Nat) (f : Str), ns[i]? = some f → (vs[i]?).join = ws.lookup f
def InsAt (a : Addr) (C : Str) (dx : Addr) (ws : List (Str × V)) : Prop :=
  (PySem.W.hasDictIn K (He.ga K C) = true ∧ H a = some (.ins (He.ga K C) dx ws)) ∨
  (PySem.W.hasDictIn K (He.ga K C) ≠ true ∧ ¬ g.bad dx ∧ dx ≠ a ∧ H dx = some (.xd []) ∧ ∃ vs, H a = some (SlX.SlO a (He.ga K C) dx vs) ∧ SlW (slN K C) ws vs)
mutual
def RV : D → V → Prop
  | .non, v => v = .non
  | .bl b, v => v = .bl b
  | .int i, v => v = .int i
  | .str s, v => v = .str s
  | .ty n, v => v = .ty n
  | .tup ds, v => ∃ a xs, v = .ref a ∧ TupAt K g H a xs ∧ RVs ds xs
  | .tpl ds, v => ∃ a xs, v = .ref a ∧ TplAt K g H a xs ∧ RVs ds xs
  | .lst ds, v => ∃ a xs, v = .ref a ∧ H a = some (.lst xs) ∧ ¬ g.bad a ∧ RVs ds xs
  | .scr ns, v => ∃ a, v = .ref a ∧ ScrAt K g H a (ns.map V.int)
  | .dct kvs, v => ∃ a ws, v = .ref a ∧ Rd H a (.dK ws) ∧ ¬ g.bad a ∧ RKs kvs ws
  | .ins C fs, v => ∃ a dx ws, v = .ref a ∧ InsAt K g H a C dx ws ∧ ¬ g.bad a ∧ RFs fs ws
  | .cls C, v => v = .ref (He.ga K C)
  | .exc C d, v => ∃ a dd w, v = .ref a ∧ H a = some (ExO (.ref (He.ga K C)) (some dd) a) ∧ ¬ g.bad a ∧ H dd = some (.xd [("value", w)]) ∧ ¬ g.bad dd ∧ RV d w
  | .hnd i, v => ∃ a, v = .ref a ∧ g.hs[i]? = some a
  | .any, _ => True
def RVs : List D → List V → Prop
  | [], xs => xs = []
  | d :: ds, xs => ∃ v r, xs = v :: r ∧ RV d v ∧ RVs ds r
def RKs : List (Key × D) → List (Key × V) → Prop
  | [], xs => xs = []
  | (k, d) :: ds, xs => ∃ v r, xs = (k, v) :: r ∧ RV d v ∧ RKs ds r
def RFs : List (Str × D) → List (Str × V) → Prop
  | [], xs => xs = []
  | (k, d) :: ds, xs => ∃ v r, xs = (k, v) :: r ∧ RV d v ∧ RFs ds r
end
def RO : O → Addr → Prop
  | .lst ds, a => ∃ xs, H a = some (.lst xs) ∧ RVs K g H ds xs
  | .dct kvs, a => ∃ ws, H a = some (.dK ws) ∧ RKs K g H kvs ws
  | .ins C fs, a => ∃ dx ws, InsAt K g H a C dx ws ∧ RFs K g H fs ws
  | .tbl x, a => TbO g H a (lamQ x) ∧ tabA K x = some a
  | .fn x n, a => ∃ L c, lamAt K x n = some L ∧ H a = some (FnO x L a c) ∧ H c = some (LamX.CodeO c (lamQ x)) ∧ ¬ g.bad c
def RS : List (Option D) → L2.St → Prop
  | [], σ => σ = []
  | none :: r, σ => ∃ o z, σ = o :: z ∧ RS r z
  | some d :: r, σ => ∃ v z, σ = some v :: z ∧ RV K g H d v ∧ RS r z
end
structure SR (K : PySem.W.Frag) (g : G) (S : List O) (H : Hp) : Prop where
  len : g.hs.length = S.length
  nd : g.hs.Nodup
  live : ∀ a ∈ g.hs, g.bad a
  trk : ∀ a, g.bad a → ∃ o, H a = some o
  rep : ∀ (i : Nat) (a : Addr) (o : O), g.hs[i]? = some a → S[i]? = some o → RO K g H o a
def DKo (o : HO) (ws : List (Key × V)) : Prop := o = .dK ws ∨ ∃ od, o = .frz od (.dK ws)
theorem DKo.rd {H : Hp} {a : Addr} {ws : List (Key × V)} : Rd H a (.dK ws) ↔ ∃ o, H a = some o ∧ DKo o ws :=
  ⟨fun h => h.elim (fun h => ⟨_, h, .inl rfl⟩) fun ⟨o, h⟩ => ⟨_, h, .inr ⟨o, rfl⟩⟩, fun ⟨o, h, d⟩ => d.elim (fun e => .inl (e ▸ h)) fun ⟨od, e⟩ => .inr ⟨od, e ▸ h⟩⟩
theorem DKo.one {o : HO} {ws us : List (Key × V)} (a : DKo o ws) (b : DKo o us) : ws = us := by
  rcases a with rfl | ⟨od, rfl⟩ <;> rcases b with e | ⟨od', e⟩ <;> cases e <;> rfl
def Kp (H' : Hp) (b : Addr) (o : HO) : Prop := H' b = some o ∨ ∃ ws od, o = .dK ws ∧ H' b = some (.frz od (.dK ws))
theorem Kp.some {H' : Hp} {b : Addr} {o : HO} (k : Kp H' b o) : ∃ o', H' b = some o' := k.elim (fun h => ⟨_, h⟩) fun ⟨_, _, _, h⟩ => ⟨_, h⟩
theorem Kp.eq {H' : Hp} {b : Addr} {o : HO} (k : Kp H' b o) (no : ∀ ws, o ≠ .dK ws := by intro ws e; cases e) : H' b = Option.some o := k.elim id fun ⟨ws, _, d, _⟩ => (no ws d).elim
theorem Kp.trans {H1 H2 : Hp} {b : Addr} {o : HO} (k : Kp H1 b o) (q : ∀ o1, H1 b = Option.some o1 → Kp H2 b o1) : Kp H2 b o := by
  rcases k with h | ⟨ws, od, rfl, r⟩
  · exact q o h
  · exact .inr ⟨ws, od, rfl, (q _ r).eq⟩
theorem Kp.dk {H' : Hp} {b : Addr} {o : HO} {ws : List (Key × V)} (k : Kp H' b o) (d : DKo o ws) : Rd H' b (.dK ws) := by
  rcases k with h | ⟨us, od, rfl, r⟩
  · exact DKo.rd.mpr ⟨o, h, d⟩
  · rcases d with e | ⟨_, e⟩
    · cases e
      exact .inr ⟨od, r⟩
    · cases e
structure Ext (g : G) (H : Hp) (g' : G) (H' : Hp) : Prop where
  kp0 : ∀ b o, H b = some o → b ∉ g.hs → Kp H' b o
  kb : ∀ b o, H b = some o → b ∉ g.hs → g.bad b → H' b = some o
  good : ∀ b o, H b = some o → ¬ g.bad b → ¬ g'.bad b
  sub : ∀ b, g.bad b → g'.bad b
  pre : ∃ l, g'.hs = g.hs ++ l ∧ ∀ b ∈ l, H b = none
theorem Ext.keep {g g' : G} {H H' : Hp} (e : Ext g H g' H') (b : Addr) (o : HO) (h : H b = some o) (n : b ∉ g.hs) (no : ∀ ws, o ≠ .dK ws := by intro ws e; cases e) : H' b = some o := (e.kp0 b o h n).eq no
theorem Ext.refl (g : G) (H : Hp) : Ext g H g H := ⟨fun _ _ e _ => .inl e, fun _ _ e _ _ => e, fun _ _ _ n => n, fun _ h => h, [], by simp, fun _ h => by cases h⟩
theorem Ext.trans {g g1 g2 : G} {H H1 H2 : Hp} (a : Ext g H g1 H1) (b : Ext g1 H1 g2 H2) (hl : ∀ x ∈ g.hs, ∃ o, H1 x = some o) : Ext g H g2 H2 := by
  obtain ⟨l, e1, f1⟩ := a.pre
  obtain ⟨m, e2, f2⟩ := b.pre
  have out : ∀ c o, H c = some o → c ∉ g.hs → c ∉ g1.hs := fun c o e n hm => by
    rw [e1] at hm
    rcases List.mem_append.mp hm with h | h
    · exact n h
    · rw [f1 c h] at e
      cases e
  refine ⟨fun c o e n => (a.kp0 c o e n).trans fun o1 h1 => b.kp0 c o1 h1 (out c o e n), fun c o e n hb => b.kb c o (a.kb c o e n hb) (out c o e n) (a.sub c hb), fun c o e n => ?_, fun c h => b.sub c (a.sub c h), l ++ m, by rw [e2, e1, List.append_assoc], fun c hc => ?_⟩
  · by_cases hc : c ∈ g.hs
    · obtain ⟨o', e'⟩ := hl c hc
      exact b.good c o' e' (a.good c o e n)
    · obtain ⟨o1, h1⟩ := (a.kp0 c o e hc).some
      exact b.good c o1 h1 (a.good c o e n)
  · rcases List.mem_append.mp hc with h | h
    · exact f1 c h
    · cases q : H c with
      | none => rfl
      | some o =>
        by_cases hx : c ∈ g.hs
        · obtain ⟨o', e'⟩ := hl c hx
          rw [f2 c h] at e'
          cases e'
        · obtain ⟨o1, z⟩ := (a.kp0 c o q hx).some
          rw [f2 c h] at z
          cases z
structure Wk (g : G) (H : Hp) (g' : G) (H' : Hp) : Prop where
  kp0 : ∀ b o, H b = some o → ¬ g.bad b → Kp H' b o
  good : ∀ b o, H b = some o → ¬ g.bad b → ¬ g'.bad b
  pre : ∀ (i : Nat) (a : Addr), g.hs[i]? = some a → g'.hs[i]? = some a
theorem Wk.keep {g g' : G} {H H' : Hp} (e : Wk g H g' H') {b : Addr} {o : HO} (h : H b = some o) (n : ¬ g.bad b) (no : ∀ ws, o ≠ .dK ws := by intro ws e; cases e) : H' b = some o := (e.kp0 b o h n).eq no
theorem Wk.dk {g g' : G} {H H' : Hp} (e : Wk g H g' H') {b : Addr} {ws : List (Key × V)} (h : Rd H b (.dK ws)) (n : ¬ g.bad b) : Rd H' b (.dK ws) := by
  obtain ⟨o, h1, d⟩ := DKo.rd.mp h
  exact (e.kp0 b o h1 n).dk d
theorem Wk.good1 {g g' : G} {H H' : Hp} (e : Wk g H g' H') {b : Addr} {ws : List (Key × V)} (h : Rd H b (.dK ws)) (n : ¬ g.bad b) : ¬ g'.bad b := by
  obtain ⟨o, h1, _⟩ := DKo.rd.mp h
  exact e.good b o h1 n
theorem Ext.wk {g g' : G} {H H' : Hp} (hl : ∀ a ∈ g.hs, g.bad a) (e : Ext g H g' H') : Wk g H g' H' := by
  refine ⟨fun b o q n => e.kp0 b o q fun m => n (hl _ m), e.good, fun i a h => ?_⟩
  obtain ⟨l, el, _⟩ := e.pre
  rw [el, List.getElem?_append_left (List.getElem?_eq_some_iff.mp h).1]
  exact h
section
variable {K : PySem.W.Frag} {g g' : G} {H H' : Hp}
theorem InsAt.kp {a dx : Addr} {C : Str} {ws : List (Str × V)} (h : InsAt K g H a C dx ws) (ka : ∀ o, (∀ us, o ≠ .dK us) → H a = some o → H' a = some o)
    (kd : ∀ o, (∀ us, o ≠ .dK us) → H dx = some o → o = .xd [] → ¬ g.bad dx → H' dx = some o ∧ ¬ g'.bad dx) : InsAt K g' H' a C dx ws := by
  rcases h with ⟨h1, h2⟩ | ⟨h1, h2, h3, h4, vs, h5, h6⟩
  · exact .inl ⟨h1, ka _ (by intro us e; cases e) h2⟩
  · obtain ⟨q1, q2⟩ := kd _ (by intro us e; cases e) h4 rfl h2
    exact .inr ⟨h1, q2, h3, q1, vs, ka _ (by intro us e; unfold SlX.SlO at e; cases e) h5, h6⟩
theorem InsAt.has {a dx : Addr} {C : Str} {ws : List (Str × V)} (h : InsAt K g H a C dx ws) : ∃ o, H a = some o ∧ (∀ us, o ≠ .dK us) := by
  rcases h with ⟨_, h⟩ | ⟨_, _, _, _, vs, h, _⟩
  · exact ⟨_, h, (by intro us e; cases e)⟩
  · exact ⟨_, h, (by intro us e; unfold SlX.SlO at e; cases e)⟩
theorem InsAt.wk (e : Wk g H g' H') {a dx : Addr} {C : Str} {ws : List (Str × V)} (h : InsAt K g H a C dx ws) (n : ¬ g.bad a) : InsAt K g' H' a C dx ws :=
  h.kp (fun o no q => e.keep q n no) fun o no q _ nb => ⟨e.keep q nb no, e.good _ _ q nb⟩
theorem InsAt.good (e : Wk g H g' H') {a dx : Addr} {C : Str} {ws : List (Str × V)} (h : InsAt K g H a C dx ws) (n : ¬ g.bad a) : ¬ g'.bad a := by
  obtain ⟨o, q, _⟩ := h.has
  exact e.good _ _ q n
theorem InsAt.sub (hb : ∀ b, g'.bad b → g.bad b) {a dx : Addr} {C : Str} {ws : List (Str × V)} (h : InsAt K g H a C dx ws) : InsAt K g' H a C dx ws :=
  h.kp (fun o _ q => q) fun o _ q _ nb => ⟨q, fun z => nb (hb _ z)⟩
theorem TupAt.wk (e : Wk g H g' H') {a : Addr} {xs : List V} (h : TupAt K g H a xs) : TupAt K g' H' a xs := by
  rcases h with ⟨h | ⟨o, h⟩, n⟩ | h
  · exact .inl ⟨.inl (e.keep h n), e.good _ _ h n⟩
  · exact .inl ⟨.inr ⟨o, e.keep h n⟩, e.good _ _ h n⟩
  · exact .inr h
theorem TplAt.wk (e : Wk g H g' H') {a : Addr} {xs : List V} (h : TplAt K g H a xs) : TplAt K g' H' a xs := by
  rcases h with ⟨o, h, z, n⟩ | h
  · exact .inl ⟨o, e.keep h n, z, e.good _ _ h n⟩
  · exact .inr h
theorem TplAt.tup {a : Addr} {xs : List V} (h : TplAt K g H a xs) : TupAt K g H a xs := by
  rcases h with ⟨o, h, z, n⟩ | ⟨o, its, n, h1, h2, _, h3⟩
  · exact .inl ⟨.inr ⟨o, h⟩, n⟩
  · exact .inr ⟨o, its, n, h1, h2, h3⟩
theorem ScrAt.wk (e : Wk g H g' H') {a : Addr} {xs : List V} (h : ScrAt K g H a xs) : ScrAt K g' H' a xs := by
  rcases h with ⟨⟨o, h⟩, n⟩ | h
  · exact .inl ⟨⟨o, e.keep h n⟩, e.good _ _ h n⟩
  · exact .inr h
theorem TupAt.sq {a : Addr} {xs : List V} (h : TupAt K g H a xs) : SqT K H a xs := by
  rcases h with ⟨h, _⟩ | h
  · exact .inl h
  · exact .inr h
theorem ScrAt.sq {a : Addr} {xs : List V} (h : ScrAt K g H a xs) : SqL K H a xs := by
  rcases h with ⟨⟨o, h⟩, _⟩ | h
  · exact .inl (.inr ⟨o, h⟩)
  · exact .inr h
mutual
theorem RV.wk (e : Wk g H g' H') : ∀ (d : D) (v : V), RV K g H d v → RV K g' H' d v
  | .non, _, h => by simp only [RV] at h ⊢; exact h
  | .bl _, _, h => by simp only [RV] at h ⊢; exact h
  | .int _, _, h => by simp only [RV] at h ⊢; exact h
  | .str _, _, h => by simp only [RV] at h ⊢; exact h
  | .ty _, _, h => by simp only [RV] at h ⊢; exact h
  | .tup ds, _, h => by
    simp only [RV] at h ⊢
    obtain ⟨a, xs, e1, e2, e3⟩ := h
    exact ⟨a, xs, e1, e2.wk e, RVs.wk e ds xs e3⟩
  | .tpl ds, _, h => by
    simp only [RV] at h ⊢
    obtain ⟨a, xs, e1, e2, e3⟩ := h
    exact ⟨a, xs, e1, e2.wk e, RVs.wk e ds xs e3⟩
  | .lst ds, _, h => by
    simp only [RV] at h ⊢
    obtain ⟨a, xs, e1, e2, n, e3⟩ := h
    exact ⟨a, xs, e1, e.keep e2 n, e.good _ _ e2 n, RVs.wk e ds xs e3⟩
  | .scr ns, _, h => by
    simp only [RV] at h ⊢
    obtain ⟨a, e1, e2⟩ := h
    exact ⟨a, e1, e2.wk e⟩
  | .dct kvs, _, h => by
    simp only [RV] at h ⊢
    obtain ⟨a, xs, e1, e2, n, e3⟩ := h
    exact ⟨a, xs, e1, e.dk e2 n, e.good1 e2 n, RKs.wk e kvs xs e3⟩
  | .ins C fs, _, h => by
    simp only [RV] at h ⊢
    obtain ⟨a, dx, xs, e1, e2, n, e3⟩ := h
    exact ⟨a, dx, xs, e1, e2.wk e n, e2.good e n, RFs.wk e fs xs e3⟩
  | .cls _, _, h => by simp only [RV] at h ⊢; exact h
  | .exc C d, _, h => by
    simp only [RV] at h ⊢
    obtain ⟨a, dd, w, e1, e2, n, e3, n3, r⟩ := h
    exact ⟨a, dd, w, e1, e.keep e2 n, e.good _ _ e2 n, e.keep e3 n3, e.good _ _ e3 n3, RV.wk e d w r⟩
  | .hnd i, _, h => by
    simp only [RV] at h ⊢
    obtain ⟨a, e1, e2⟩ := h
    exact ⟨a, e1, e.pre i a e2⟩
  | .any, _, _ => by simp only [RV]
theorem RVs.wk (e : Wk g H g' H') : ∀ (ds : List D) (xs : List V), RVs K g H ds xs → RVs K g' H' ds xs
  | [], _, h => by simp only [RVs] at h ⊢; exact h
  | d :: ds, _, h => by
    simp only [RVs] at h ⊢
    obtain ⟨v, r, e1, e2, e3⟩ := h
    exact ⟨v, r, e1, RV.wk e d v e2, RVs.wk e ds r e3⟩
theorem RKs.wk (e : Wk g H g' H') : ∀ (ds : List (Key × D)) (xs : List (Key × V)), RKs K g H ds xs → RKs K g' H' ds xs
  | [], _, h => by simp only [RKs] at h ⊢; exact h
  | (k, d) :: ds, _, h => by
    simp only [RKs] at h ⊢
    obtain ⟨v, r, e1, e2, e3⟩ := h
    exact ⟨v, r, e1, RV.wk e d v e2, RKs.wk e ds r e3⟩
theorem RFs.wk (e : Wk g H g' H') : ∀ (ds : List (Str × D)) (xs : List (Str × V)), RFs K g H ds xs → RFs K g' H' ds xs
  | [], _, h => by simp only [RFs] at h ⊢; exact h
  | (k, d) :: ds, _, h => by
    simp only [RFs] at h ⊢
    obtain ⟨v, r, e1, e2, e3⟩ := h
    exact ⟨v, r, e1, RV.wk e d v e2, RFs.wk e ds r e3⟩
end
theorem RS.wk (e : Wk g H g' H') : ∀ (ρ : List (Option D)) (σ : L2.St), RS K g H ρ σ → RS K g' H' ρ σ
  | [], _, h => by simp only [RS] at h ⊢; exact h
  | none :: r, _, h => by
    simp only [RS] at h ⊢
    obtain ⟨o, z, e1, e2⟩ := h
    exact ⟨o, z, e1, RS.wk e r z e2⟩
  | some d :: r, _, h => by
    simp only [RS] at h ⊢
    obtain ⟨v, z, e1, e2, e3⟩ := h
    exact ⟨v, z, e1, RV.wk e d v e2, RS.wk e r z e3⟩
theorem TupAt.mono (hl : ∀ a ∈ g.hs, g.bad a) (e : Ext g H g' H') {a : Addr} {xs : List V} (h : TupAt K g H a xs) : TupAt K g' H' a xs := h.wk (e.wk hl)
theorem ScrAt.mono (hl : ∀ a ∈ g.hs, g.bad a) (e : Ext g H g' H') {a : Addr} {xs : List V} (h : ScrAt K g H a xs) : ScrAt K g' H' a xs := h.wk (e.wk hl)
theorem RV.mono (hl : ∀ a ∈ g.hs, g.bad a) (e : Ext g H g' H') (d : D) (v : V) (h : RV K g H d v) : RV K g' H' d v := RV.wk (e.wk hl) d v h
theorem RVs.mono (hl : ∀ a ∈ g.hs, g.bad a) (e : Ext g H g' H') (d : List D) (v : List V) (h : RVs K g H d v) : RVs K g' H' d v := RVs.wk (e.wk hl) d v h
theorem RKs.mono (hl : ∀ a ∈ g.hs, g.bad a) (e : Ext g H g' H') (d : List (Key × D)) (v : List (Key × V)) (h : RKs K g H d v) : RKs K g' H' d v := RKs.wk (e.wk hl) d v h
theorem RFs.mono (hl : ∀ a ∈ g.hs, g.bad a) (e : Ext g H g' H') (d : List (Str × D)) (v : List (Str × V)) (h : RFs K g H d v) : RFs K g' H' d v := RFs.wk (e.wk hl) d v h
theorem RS.mono (hl : ∀ a ∈ g.hs, g.bad a) (e : Ext g H g' H') (d : Env1) (v : L2.St) (h : RS K g H d v) : RS K g' H' d v := RS.wk (e.wk hl) d v h
theorem RS.get : ∀ {ρ : List (Option D)} {σ : L2.St} {i : Nat} {d : D}, RS K g H ρ σ → ρ[i]? = some (some d) → ∃ v, σ[i]? = some (some v) ∧ RV K g H d v
  | [], _, _, _, _, e => by simp at e
  | none :: r, _, 0, _, _, e => by simp at e
  | some d :: r, _, 0, _, h, e => by
    simp only [RS] at h
    obtain ⟨v, z, rfl, e2, _⟩ := h
    simp at e
    subst e
    exact ⟨v, rfl, e2⟩
  | none :: r, _, i + 1, _, h, e => by
    simp only [RS] at h
    obtain ⟨o, z, rfl, e2⟩ := h
    simpa using RS.get (i := i) e2 (by simpa using e)
  | some d :: r, _, i + 1, _, h, e => by
    simp only [RS] at h
    obtain ⟨v, z, rfl, _, e2⟩ := h
    simpa using RS.get (i := i) e2 (by simpa using e)
theorem RS.set {d : D} {v : V} (hv : RV K g H d v) : ∀ {ρ : List (Option D)} {σ : L2.St} (i : Nat), RS K g H ρ σ → RS K g H (ρ.set i (some d)) (σ.set i (some v))
  | [], _, i, h => by
    simp only [RS] at h
    subst h
    simp only [List.set_nil, RS]
  | none :: r, _, 0, h => by
    simp only [RS] at h
    obtain ⟨o, z, rfl, e2⟩ := h
    simp only [List.set_cons_zero, RS]
    exact ⟨v, z, rfl, hv, e2⟩
  | some d' :: r, _, 0, h => by
    simp only [RS] at h
    obtain ⟨v', z, rfl, _, e2⟩ := h
    simp only [List.set_cons_zero, RS]
    exact ⟨v, z, rfl, hv, e2⟩
  | none :: r, _, i + 1, h => by
    simp only [RS] at h
    obtain ⟨o, z, rfl, e2⟩ := h
    simp only [List.set_cons_succ, RS]
    exact ⟨o, _, rfl, RS.set hv i e2⟩
  | some d' :: r, _, i + 1, h => by
    simp only [RS] at h
    obtain ⟨v', z, rfl, e1, e2⟩ := h
    simp only [List.set_cons_succ, RS]
    exact ⟨v', _, rfl, e1, RS.set hv i e2⟩
theorem RS.unset : ∀ {ρ : List (Option D)} {σ : L2.St} (i : Nat), RS K g H ρ σ → RS K g H (ρ.set i none) (σ.set i none)
  | [], _, i, h => by
    simp only [RS] at h
    subst h
    simp only [List.set_nil, RS]
  | none :: r, _, 0, h => by
    simp only [RS] at h
    obtain ⟨o, z, rfl, e2⟩ := h
    simp only [List.set_cons_zero, RS]
    exact ⟨none, z, rfl, e2⟩
  | some d' :: r, _, 0, h => by
    simp only [RS] at h
    obtain ⟨v', z, rfl, _, e2⟩ := h
    simp only [List.set_cons_zero, RS]
    exact ⟨none, z, rfl, e2⟩
  | none :: r, _, i + 1, h => by
    simp only [RS] at h
    obtain ⟨o, z, rfl, e2⟩ := h
    simp only [List.set_cons_succ, RS]
    exact ⟨o, _, rfl, RS.unset i e2⟩
  | some d' :: r, _, i + 1, h => by
    simp only [RS] at h
    obtain ⟨v', z, rfl, e1, e2⟩ := h
    simp only [List.set_cons_succ, RS]
    exact ⟨v', _, rfl, e1, RS.unset i e2⟩
theorem RS.length : ∀ {ρ : List (Option D)} {σ : L2.St}, RS K g H ρ σ → σ.length = ρ.length
  | [], _, h => by simp only [RS] at h; subst h; rfl
  | none :: r, _, h => by
    simp only [RS] at h
    obtain ⟨o, z, rfl, e2⟩ := h
    simp [RS.length e2]
  | some d :: r, _, h => by
    simp only [RS] at h
    obtain ⟨o, z, rfl, _, e2⟩ := h
    simp [RS.length e2]
theorem RVs.length : ∀ {ds : List D} {xs : List V}, RVs K g H ds xs → xs.length = ds.length
  | [], _, h => by simp only [RVs] at h; subst h; rfl
  | d :: ds, _, h => by
    simp only [RVs] at h
    obtain ⟨v, r, rfl, _, e3⟩ := h
    simp [RVs.length e3]
theorem RVs.get : ∀ {ds : List D} {xs : List V} {i : Nat} {d : D}, RVs K g H ds xs → ds[i]? = some d → ∃ v, xs[i]? = some v ∧ RV K g H d v
  | [], _, _, _, _, e => by simp at e
  | d :: ds, _, 0, _, h, e => by
    simp only [RVs] at h
    obtain ⟨v, r, rfl, e2, _⟩ := h
    simp at e
    subst e
    exact ⟨v, rfl, e2⟩
  | d :: ds, _, i + 1, _, h, e => by
    simp only [RVs] at h
    obtain ⟨v, r, rfl, _, e2⟩ := h
    simpa using RVs.get (i := i) e2 (by simpa using e)
theorem RVs.append : ∀ {ds es : List D} {xs ys : List V}, RVs K g H ds xs → RVs K g H es ys → RVs K g H (ds ++ es) (xs ++ ys)
  | [], _, _, _, h, q => by simp only [RVs] at h; subst h; simpa using q
  | d :: ds, _, _, _, h, q => by
    simp only [RVs] at h
    obtain ⟨v, r, rfl, e2, e3⟩ := h
    simp only [List.cons_append, RVs]
    exact ⟨v, _, rfl, e2, RVs.append e3 q⟩
theorem RVs.one {d : D} {v : V} (h : RV K g H d v) : RVs K g H [d] [v] := by
  simp only [RVs]
  exact ⟨v, [], rfl, h, rfl⟩
theorem RVs.take : ∀ {ds : List D} {xs : List V} (n : Nat), RVs K g H ds xs → RVs K g H (ds.take n) (xs.take n)
  | _, _, 0, _ => by simp only [List.take_zero, RVs]
  | [], _, n + 1, h => by simp only [RVs] at h; subst h; simp only [List.take_nil, RVs]
  | d :: ds, _, n + 1, h => by
    simp only [RVs] at h
    obtain ⟨v, r, rfl, e2, e3⟩ := h
    simp only [List.take_succ_cons, RVs]
    exact ⟨v, _, rfl, e2, RVs.take n e3⟩
theorem RVs.drop : ∀ {ds : List D} {xs : List V} (n : Nat), RVs K g H ds xs → RVs K g H (ds.drop n) (xs.drop n)
  | _, _, 0, h => by simpa using h
  | [], _, n + 1, h => by simp only [RVs] at h; subst h; simp only [List.drop_nil, RVs]
  | d :: ds, _, n + 1, h => by
    simp only [RVs] at h
    obtain ⟨v, r, rfl, e2, e3⟩ := h
    simpa using RVs.drop n e3
theorem RVs.set {d : D} {v : V} (hv : RV K g H d v) : ∀ {ds : List D} {xs : List V} (i : Nat), RVs K g H ds xs → RVs K g H (ds.set i d) (xs.set i v)
  | [], _, i, h => by simp only [RVs] at h; subst h; simp only [List.set_nil, RVs]
  | d' :: ds, _, 0, h => by
    simp only [RVs] at h
    obtain ⟨v', r, rfl, _, e3⟩ := h
    simp only [List.set_cons_zero, RVs]
    exact ⟨v, r, rfl, hv, e3⟩
  | d' :: ds, _, i + 1, h => by
    simp only [RVs] at h
    obtain ⟨v', r, rfl, e2, e3⟩ := h
    simp only [List.set_cons_succ, RVs]
    exact ⟨v', _, rfl, e2, RVs.set hv i e3⟩
theorem RVs.snoc {ds : List D} {xs : List V} {d : D} {v : V} (h : RVs K g H ds xs) (hv : RV K g H d v) : RVs K g H (ds ++ [d]) (xs ++ [v]) := h.append (RVs.one hv)
theorem RVs.reverse : ∀ {ds : List D} {xs : List V}, RVs K g H ds xs → RVs K g H ds.reverse xs.reverse
  | [], _, h => by simp only [RVs] at h; subst h; simp only [List.reverse_nil, RVs]
  | d :: ds, _, h => by
    simp only [RVs] at h
    obtain ⟨v, r, rfl, e2, e3⟩ := h
    simp only [List.reverse_cons]
    exact (RVs.reverse e3).snoc e2
end
inductive Out (α : Type) where
  | ok (a : α) (S : List O)
  | exc (C : Str) (d : D) (S : List O)
  | stuck
def Out.bind {α β : Type} (o : Out α) (k : α → List O → Out β) : Out β := match o with
  | .ok a S => k a S
  | .exc C d S => .exc C d S
  | .stuck => .stuck
def RX (K : PySem.W.Frag) (g : G) (H : Hp) (C : Str) (d : D) (c : Value) (dd : Option Addr) : Prop :=
  c = .ref (He.ga K C) ∧ ∃ D w, dd = some D ∧ H D = some (.xd [("value", w)]) ∧ ¬ g.bad D ∧ RV K g H d w
def Post {α β : Type} (K : PySem.W.Frag) (W : WX) (R : G → Hp → α → β → Prop) (g : G) (H : Hp) (σ : L2.St) (Q : β → Hp → Prop) : Out α → Prop
  | .ok a S => ∀ g' H' b, Ext g H g' H' → SR K g' S H' → R g' H' a b → Q b H'
  | .exc C d S => ∀ g' H' c dd, Ext g H g' H' → SR K g' S H' → RX K g' H' C d c dd → W c dd σ H'
  | .stuck => False
section
variable {K : PySem.W.Frag} {W : WX} {g : G} {H : Hp} {σ : L2.St} {α β γ δ : Type}
theorem SR.hl {S : List O} (s : SR K g S H) : ∀ a ∈ g.hs, ∃ o, H a = some o := fun a ha => s.trk a (s.live a ha)
theorem Ext.hl {g' : G} {H' : Hp} {S : List O} (e : Ext g H g' H') (s : SR K g' S H') : ∀ a ∈ g.hs, ∃ o, H' a = some o := fun a ha => by
  obtain ⟨l, el, _⟩ := e.pre
  exact s.hl a (by rw [el]; exact List.mem_append_left _ ha)
theorem Ext.tr {g1 g2 : G} {H1 H2 : Hp} {S : List O} (a : Ext g H g1 H1) (s : SR K g1 S H1) (b : Ext g1 H1 g2 H2) : Ext g H g2 H2 := a.trans b (a.hl s)
theorem Post.later {R : G → Hp → α → β → Prop} {Q : β → Hp → Prop} {g1 : G} {H1 : Hp} {S1 : List O} (e : Ext g H g1 H1) (s : SR K g1 S1 H1) : ∀ {o : Out α}, Post K W R g H σ Q o → Post K W R g1 H1 σ Q o
  | .ok a S, h => fun g' H' b e' s' r => h g' H' b (e.tr s e') s' r
  | .exc C d S, h => fun g' H' c dd e' s' r => h g' H' c dd (e.tr s e') s' r
  | .stuck, h => h
theorem Post.bind {R : G → Hp → α → β → Prop} {R' : G → Hp → γ → δ → Prop} {Q : δ → Hp → Prop} {Q1 : β → Hp → Prop} {o : Out α} {k : α → List O → Out γ} (hp : Post K W R' g H σ Q (o.bind k))
    (h : ∀ a S1 g1 H1 b, Ext g H g1 H1 → SR K g1 S1 H1 → R g1 H1 a b → Post K W R' g1 H1 σ Q (k a S1) → Q1 b H1) : Post K W R g H σ Q1 o := by
  cases o with
  | ok a S => exact fun g1 H1 b e s r => h a S g1 H1 b e s r (Post.later e s hp)
  | exc C d S => exact hp
  | stuck => exact hp
theorem Post.imp {R : G → Hp → α → β → Prop} {Q Q' : β → Hp → Prop} (hq : ∀ b H', Q b H' → Q' b H') : ∀ {o : Out α}, Post K W R g H σ Q o → Post K W R g H σ Q' o
  | .ok a S, h => fun g' H' b e' s' r => hq _ _ (h g' H' b e' s' r)
  | .exc C d S, h => h
  | .stuck, h => h
end
structure Sg where
  P : Program
  w : World
  K : PySem.W.Frag
  mg : Str → Option Value
  base : Heap
  N : List Str
  scope : Scope
  cl : Str → Bool
  lv : Nat
  W : WX
  qual : Str
  code : Value
  top : Bool := false
structure Fits (z : Sg) (X : Cx) : Prop where
  prog : X.prog = z.P
  w : X.w = z.w
  K : X.K = z.K
  mg : X.mg = z.mg
  base : X.base = z.base
  N : X.N = z.N
  scope : X.env.scope = z.scope
  calm : X.calm = true
  nd : z.N.Nodup
  fn : ∀ x, z.cl x = true → X.fn x = true
  room : Room z.lv X.A
  gd : X.A.guards = some []
  takes : Takes z.K X z.W
  own : PassesOwn (model X.prog X.w) X.A X.env X.xe
  qual : X.env.qual = z.qual
  code : X.env.code = z.code
  stk : z.top = true → X.stack = X.env :: X.outer ∧ X.env.frame = some X.env.locals
def Sto (z : Sg) (x : Str) : Prop := z.scope.names.lookup x = some .local ∨ (z.scope.names.lookup x = some .cell ∧ z.cl x = true)
theorem Sto.loc {z : Sg} {x : Str} (h : Sto z x) : Loc z.scope x := h.elim .inl fun h => .inr h.1
def Gz (z : Sg) (x : Str) : Prop := z.scope.names.lookup x = some .globalImplicit
section
variable {z : Sg} {X : Cx}
theorem Fits.gl (f : Fits z X) {x : Str} (h : Gz z x) : Gl X x := by
  show X.env.scope.names.lookup x = some .globalImplicit
  rw [f.scope]
  exact h
theorem Fits.vis (f : Fits z X) {x : Str} (h : Vis z.scope x) : Vis X.env.scope x := by
  rw [f.scope]
  exact h
theorem Fits.loc (f : Fits z X) {x : Str} (h : Loc z.scope x) : Loc X.env.scope x := by
  rw [f.scope]
  exact h
theorem Fits.at (f : Fits z X) {x : Str} {i : Nat} (h : z.N[i]? = some x) : X.N[i]? = some x := by
  rw [f.N]
  exact h
theorem Fits.ndX (f : Fits z X) : X.N.Nodup := by
  rw [f.N]
  exact f.nd
theorem Fits.st (f : Fits z X) {x : Str} (h : Sto z x) : X.fn x = true ∨ X.env.scope.names.lookup x = some .local := by
  rcases h with h | h
  · exact .inr (by rw [f.scope]; exact h)
  · exact .inl (f.fn x h.2)
theorem Fits.hu (f : Fits z X) : X.A.units + 64 < cLine := f.room.units
theorem Fits.mgl (f : Fits z X) {x : Str} {u : Option Value} (h : z.mg x = u) : X.mg x = u := by
  rw [f.mg]
  exact h
end
abbrev TEx := Env1 → List O → Out D
abbrev TAx := Env1 → List O → Out (List D)
abbrev TTx := Env1 → List O → Out Bool
abbrev rBool : G → Hp → Bool → Bool → Prop := fun _ _ a b => a = b
def RdE (z : Sg) (τ : TE) (t : TEx) : Prop := ∀ g S ρ σ H Q, SR z.K g S H → RS z.K g H ρ σ → Post z.K z.W (RV z.K) g H σ Q (t ρ S) → τ σ H Q
def RdA (z : Sg) (τ : TA) (t : TAx) : Prop := ∀ g S ρ σ H Q, SR z.K g S H → RS z.K g H ρ σ → Post z.K z.W (RVs z.K) g H σ Q (t ρ S) → τ σ H Q
def RdT (z : Sg) (τ : TT) (t : TTx) : Prop := ∀ g S ρ σ H Q, SR z.K g S H → RS z.K g H ρ σ → Post z.K z.W rBool g H σ Q (t ρ S) → τ σ H Q
def DE (z : Sg) (e : Expr) (t : TEx) : Prop := ∃ τ, (∀ X, Fits z X → PE X e τ) ∧ RdE z τ t
def DA (z : Sg) (es : List Expr) (t : TAx) : Prop := ∃ τ, (∀ X, Fits z X → PA X es τ) ∧ RdA z τ t
def DT (z : Sg) (e : Expr) (t : TTx) : Prop := ∃ τ, (∀ X, Fits z X → PT X e τ) ∧ RdT z τ t
def eVar (i : Nat) : TEx := fun ρ S => match ρ[i]? with
  | some (some d) => .ok d S
  | _ => .stuck
def eC (d : D) : TEx := fun _ S => .ok d S
def eUn (f : D → List O → Out D) (a : TEx) : TEx := fun ρ S => (a ρ S).bind f
def eBin (f : D → D → List O → Out D) (a b : TEx) : TEx := fun ρ S => (a ρ S).bind fun x S1 => (b ρ S1).bind fun y S2 => f x y S2
def eArgs (f : List D → List O → Out D) (a : TAx) : TEx := fun ρ S => (a ρ S).bind f
def aNil : TAx := fun _ S => .ok [] S
def aCons (a : TEx) (r : TAx) : TAx := fun ρ S => (a ρ S).bind fun x S1 => (r ρ S1).bind fun xs S2 => .ok (x :: xs) S2
def OkU (K : PySem.W.Frag) (W : WX) (r : V → Hp → VK → Prop) (f : D → List O → Out D) : Prop :=
  ∀ g S H σ Q x v, SR K g S H → RV K g H x v → Post K W (RV K) g H σ Q (f x S) → r v H Q
def OkB (K : PySem.W.Frag) (W : WX) (r : R2) (f : D → D → List O → Out D) : Prop :=
  ∀ g S H σ Q x y v u, SR K g S H → RV K g H x v → RV K g H y u → Post K W (RV K) g H σ Q (f x y S) → r v u H Q
def OkL (K : PySem.W.Frag) (W : WX) (r : List V → Hp → VK → Prop) (f : List D → List O → Out D) : Prop :=
  ∀ g S H σ Q xs vs, SR K g S H → RVs K g H xs vs → Post K W (RV K) g H σ Q (f xs S) → r vs H Q
section
variable {z : Sg}
theorem de_c {e : Expr} {d : D} {v : V} (h : ∀ X, Fits z X → PE X e (tC v)) (r : ∀ g H, RV z.K g H d v) : DE z e (eC d) :=
  ⟨_, h, fun g S ρ σ H Q s _ p => p g H v (Ext.refl g H) s (r g H)⟩
theorem de_var {i : Nat} {e : Expr} (h : ∀ X, Fits z X → PE X e (tVar i)) : DE z e (eVar i) := by
  refine ⟨_, h, fun g S ρ σ H Q s rs p => ?_⟩
  unfold eVar at p
  split at p
  · rename_i d e
    obtain ⟨v, e1, e2⟩ := rs.get e
    exact ⟨v, e1, p g H v (Ext.refl g H) s e2⟩
  · exact p.elim
theorem da_nil : DA z [] aNil := ⟨_, fun _ _ => pa_nil, fun g S ρ σ H Q s _ p => p g H [] (Ext.refl g H) s (by simp only [RVs])⟩
theorem da_cons {e : Expr} {es : List Expr} {a : TEx} {r : TAx} (ha : DE z e a) (hr : DA z es r) (hs : ∀ env, starEach (e :: es) env = (false, eval e env) :: starEach es env := by intro _; rfl) : DA z (e :: es) (aCons a r) := by
  obtain ⟨τ, h1, q1⟩ := ha
  obtain ⟨τ2, h2, q2⟩ := hr
  refine ⟨_, fun X f => pa_cons (h1 X f) (h2 X f) (hs _), fun g S ρ σ H Q s rs p => ?_⟩
  refine q1 g S ρ σ H _ s rs (p.bind fun x S1 g1 H1 v e1 s1 r1 p1 => ?_)
  refine q2 g1 S1 ρ σ H1 _ s1 (rs.mono s.live e1) (p1.bind fun xs S2 g2 H2 vs e2 s2 r2 p2 => ?_)
  refine p2 g2 H2 (v :: vs) (Ext.refl _ _) s2 ?_
  simp only [RVs]
  exact ⟨v, vs, rfl, r1.mono s1.live e2, r2⟩
theorem rd_un {r : V → Hp → VK → Prop} {f : D → List O → Out D} {ta : TEx} {τ : TE} (ok : OkU z.K z.W r f) (q1 : RdE z τ ta) : RdE z (fun σ H Q => τ σ H fun x H1 => r x H1 Q) (eUn f ta) := fun g S ρ σ H Q s rs p =>
  q1 g S ρ σ H _ s rs (p.bind fun x S1 g1 H1 v e1 s1 r1 p1 => ok g1 S1 H1 σ Q x v s1 r1 p1)
theorem rd_bin {r : R2} {f : D → D → List O → Out D} {ta tb : TEx} {τ τ2 : TE} (ok : OkB z.K z.W r f) (q1 : RdE z τ ta) (q2 : RdE z τ2 tb) : RdE z (fun σ H Q => τ σ H fun x H1 => τ2 σ H1 fun y H2 => r x y H2 Q) (eBin f ta tb) := fun g S ρ σ H Q s rs p =>
  q1 g S ρ σ H _ s rs (p.bind fun x S1 g1 H1 v e1 s1 r1 p1 => q2 g1 S1 ρ σ H1 _ s1 (rs.mono s.live e1) (p1.bind fun y S2 g2 H2 u e2 s2 r2 p2 => ok g2 S2 H2 σ Q x y v u s2 (r1.mono s1.live e2) r2 p2))
theorem de_un {e a : Expr} {r : V → Hp → VK → Prop} {f : D → List O → Out D} {ta : TEx} (mk : ∀ X, Fits z X → ∀ τ : TE, PE X a τ → PE X e (fun σ H Q => τ σ H fun x H1 => r x H1 Q)) (ok : OkU z.K z.W r f) (ha : DE z a ta) : DE z e (eUn f ta) := by
  obtain ⟨τ, h1, q1⟩ := ha
  exact ⟨_, fun X fx => mk X fx τ (h1 X fx), rd_un ok q1⟩
theorem de_bin {e a b : Expr} {r : R2} {f : D → D → List O → Out D} {ta tb : TEx} (mk : ∀ X, Fits z X → ∀ τ τ' : TE, PE X a τ → PE X b τ' → PE X e (fun σ H Q => τ σ H fun x H1 => τ' σ H1 fun y H2 => r x y H2 Q)) (ok : OkB z.K z.W r f) (ha : DE z a ta) (hb : DE z b tb) :
    DE z e (eBin f ta tb) := by
  obtain ⟨τ, h1, q1⟩ := ha
  obtain ⟨τ2, h2, q2⟩ := hb
  exact ⟨_, fun X fx => mk X fx τ τ2 (h1 X fx) (h2 X fx), rd_bin ok q1 q2⟩
theorem de_args {e : Expr} {es : List Expr} {r : List V → Hp → VK → Prop} {f : List D → List O → Out D} {ta : TAx} (mk : ∀ X, Fits z X → ∀ τ : TA, PA X es τ → PE X e (fun σ H Q => τ σ H fun xs H1 => r xs H1 Q)) (ok : OkL z.K z.W r f) (ha : DA z es ta) : DE z e (eArgs f ta) := by
  obtain ⟨τ, h1, q1⟩ := ha
  refine ⟨_, fun X fx => mk X fx τ (h1 X fx), fun g S ρ σ H Q s rs p => ?_⟩
  exact q1 g S ρ σ H _ s rs (p.bind fun x S1 g1 H1 v e1 s1 r1 p1 => ok g1 S1 H1 σ Q x v s1 r1 p1)
end
end TL
set_option Elab.async false
set_option linter.all false
set_option maxRecDepth 100000
set_option maxHeartbeats 4000000
namespace TL
open PySem PySem.Spec PyProof.Rows L2
theorem Fits.op {z : Sg} {X : Cx} {α : PySem.W.Frag → Prop} (f : Fits z X) (h : α X.K) : α z.K := f.K ▸ h
section
variable {K : PySem.W.Frag} {g : G} {S : List O} {H : Hp} {σ : L2.St} {W : WX} {p : Addr} {o : HO}
theorem SR.unbad (s : SR K g S H) (hp : H p = none) : ¬ g.bad p := fun b => by
  obtain ⟨o, e⟩ := s.trk p b
  rw [hp] at e
  cases e
theorem same_new (hp : H p = none) : ∀ b u, H b = some u → upd H p o b = some u := fun b u e => by
  rw [upd_ne (ne_of_none e hp)]
  exact e
theorem Ext.same {H' : Hp} (k : ∀ b u, H b = some u → H' b = some u) : Ext g H g H' := ⟨fun b u e _ => .inl (k b u e), fun b u e _ _ => k b u e, fun _ _ _ n => n, fun _ h => h, [], by simp, fun _ h => by cases h⟩
theorem SR.same {H' : Hp} (s : SR K g S H) (k : ∀ b u, H b = some u → H' b = some u) : SR K g S H' := by
  refine ⟨s.len, s.nd, s.live, fun a h => ?_, fun i a o h1 h2 => ?_⟩
  · obtain ⟨u, e⟩ := s.trk a h
    exact ⟨u, k a u e⟩
  · have q := s.rep i a o h1 h2
    have e : Ext g H g H' := Ext.same k
    cases o with
    | lst ds =>
      obtain ⟨xs, e1, e2⟩ := q
      exact ⟨xs, k _ _ e1, e2.mono s.live e ds xs⟩
    | dct kvs =>
      obtain ⟨xs, e1, e2⟩ := q
      exact ⟨xs, k _ _ e1, e2.mono s.live e kvs xs⟩
    | ins C fs =>
      obtain ⟨dx, xs, e1, e2⟩ := q
      exact ⟨dx, xs, e1.kp (fun o _ h => k _ _ h) (fun o _ h _ nb => ⟨k _ _ h, nb⟩), e2.mono s.live e fs xs⟩
    | tbl q' =>
      obtain ⟨⟨ps, e1, e2, e3⟩, ea⟩ := q
      exact ⟨⟨ps, k _ _ e1, e2, fun pos cv h => let ⟨c, h1, h2, h3⟩ := e3 pos cv h; ⟨c, h1, k _ _ h2, h3⟩⟩, ea⟩
    | fn x n =>
      obtain ⟨L, c, e0, e1, e2, e3⟩ := q
      exact ⟨L, c, e0, k _ _ e1, k _ _ e2, e3⟩
theorem Post.new {α β : Type} {R : G → Hp → α → β → Prop} {Q : β → Hp → Prop} {a : α} {b : β} (s : SR K g S H) (hp : H p = none) (h : Post K W R g H σ Q (.ok a S)) (r : Ext g H g (upd H p o) → R g (upd H p o) a b) : Q b (upd H p o) :=
  h g (upd H p o) b (Ext.same (same_new hp)) (s.same (same_new hp)) (r (Ext.same (same_new hp)))
theorem Post.here {α β : Type} {R : G → Hp → α → β → Prop} {Q : β → Hp → Prop} {a : α} {b : β} (s : SR K g S H) (h : Post K W R g H σ Q (.ok a S)) (r : R g H a b) : Q b H := h g H b (Ext.refl g H) s r
def G.add (g : G) (p : Addr) : G := ⟨fun b => g.bad b ∨ b = p, g.hs ++ [p]⟩
theorem Ext.add {H' : Hp} (hp : H p = none) (k : ∀ b u, H b = some u → H' b = some u) : Ext g H (g.add p) H' :=
  ⟨fun b u e _ => .inl (k b u e), fun b u e _ _ => k b u e, fun b u e n => fun h => h.elim n fun z => (by rw [z, hp] at e; cases e), fun _ h => .inl h, [p], rfl, fun b hb => by rw [List.mem_singleton.mp hb]; exact hp⟩
theorem RO.mono {g' : G} {H' : Hp} (hl : ∀ a ∈ g.hs, g.bad a) (e : Ext g H g' H') {a : Addr} (k : ∀ u, H a = some u → H' a = some u) : ∀ {o : O}, RO K g H o a → RO K g' H' o a
  | .lst ds, ⟨xs, e1, e2⟩ => ⟨xs, k _ e1, e2.mono hl e ds xs⟩
  | .dct kvs, ⟨xs, e1, e2⟩ => ⟨xs, k _ e1, e2.mono hl e kvs xs⟩
  | .ins C fs, ⟨dx, xs, e1, e2⟩ => ⟨dx, xs, e1.kp (fun o _ h => k _ h) (fun o no h _ nb => ⟨e.keep dx o h (fun m => nb (hl _ m)) no, e.good dx o h nb⟩), e2.mono hl e fs xs⟩
  | .tbl q, ⟨⟨ps, e1, e2, e3⟩, ea⟩ => ⟨⟨ps, k _ e1, e2, fun pos cv h => let ⟨c, h1, h2, h3⟩ := e3 pos cv h; ⟨c, h1, e.keep c _ h2 (fun m => h3 (hl c m)) (fun ws z => by unfold LamX.CodeO at z; cases z), e.good c _ h2 h3⟩⟩, ea⟩
  | .fn x n, ⟨L, c, e0, e1, e2, e3⟩ => ⟨L, c, e0, k _ e1, e.keep c _ e2 (fun m => e3 (hl c m)) (fun ws z => by unfold LamX.CodeO at z; cases z), e.good c _ e2 e3⟩
theorem SR.add {H' : Hp} {ob : O} (s : SR K g S H) (hp : H p = none) (k : ∀ b u, H b = some u → H' b = some u) (hr : RO K (g.add p) H' ob p) (hn : ∃ u, H' p = some u) : SR K (g.add p) (S ++ [ob]) H' := by
  have e : Ext g H (g.add p) H' := Ext.add hp k
  refine ⟨by simp [G.add, s.len], ?_, fun a ha => ?_, fun a h => ?_, fun i a o h1 h2 => ?_⟩
  · refine List.nodup_append.mpr ⟨s.nd, by simp, fun a ha b hb => ?_⟩
    rw [List.mem_singleton.mp hb]
    rintro rfl
    exact s.unbad hp (s.live _ ha)
  · rcases List.mem_append.mp ha with h | h
    · exact .inl (s.live a h)
    · exact .inr (List.mem_singleton.mp h)
  · rcases h with h | rfl
    · obtain ⟨u, q⟩ := s.trk a h
      exact ⟨u, k a u q⟩
    · exact hn
  · by_cases hi : i < S.length
    · have h1' : g.hs[i]? = some a := by
        have h1 : (g.hs ++ [p])[i]? = some a := h1
        rwa [List.getElem?_append_left (by rw [s.len]; exact hi)] at h1
      have h2' : S[i]? = some o := by rwa [List.getElem?_append_left hi] at h2
      exact (s.rep i a o h1' h2').mono s.live e fun u q => k a u q
    · have hi2 : i = S.length := by
        have := (List.getElem?_eq_some_iff.mp h2).1
        simp at this
        omega
      subst hi2
      have h1 : (g.hs ++ [p])[S.length]? = some a := h1
      rw [← s.len] at h1
      simp at h1
      simp at h2
      subst h1 h2
      exact hr
theorem Post.newH {α β : Type} {R : G → Hp → α → β → Prop} {Q : β → Hp → Prop} {a : α} {b : β} {ob : O} (s : SR K g S H) (hp : H p = none) (h : Post K W R g H σ Q (.ok a (S ++ [ob]))) (hr : Ext g H (g.add p) (upd H p o) → RO K (g.add p) (upd H p o) ob p)
    (r : Ext g H (g.add p) (upd H p o) → R (g.add p) (upd H p o) a b) : Q b (upd H p o) :=
  have e : Ext g H (g.add p) (upd H p o) := Ext.add hp (same_new hp)
  h (g.add p) (upd H p o) b e (s.add hp (same_new hp) (hr e) ⟨o, upd_same⟩) (r e)
theorem RV.newH {S : List O} (s : SR K g S H) {H' : Hp} : RV K (g.add p) H' (.hnd S.length) (.ref p) := by
  simp only [RV]
  exact ⟨p, rfl, by rw [← s.len]; simp [G.add]⟩
theorem Ext.write {i : Nat} {a : Addr} {u : HO} (hi : g.hs[i]? = some a) : Ext g H g (upd H a u) :=
  ⟨fun b v e n => .inl (by rw [upd_ne (fun z => n (by rw [z]; exact List.mem_of_getElem? hi))]; exact e), fun b v e n _ => by rw [upd_ne (fun z => n (by rw [z]; exact List.mem_of_getElem? hi))]; exact e, fun _ _ _ n => n, fun _ h => h, [], by simp, fun _ h => by cases h⟩
theorem SR.write {i : Nat} {a : Addr} {u : HO} {ob : O} (s : SR K g S H) (hi : g.hs[i]? = some a) (hr : Ext g H g (upd H a u) → RO K g (upd H a u) ob a) : SR K g (S.set i ob) (upd H a u) := by
  have e : Ext g H g (upd H a u) := Ext.write hi
  refine ⟨by simp [s.len], s.nd, s.live, fun b h => ?_, fun j b o h1 h2 => ?_⟩
  · by_cases hb : b = a
    · exact ⟨u, by rw [hb, upd_same]⟩
    · obtain ⟨v, q⟩ := s.trk b h
      exact ⟨v, by rw [upd_ne hb]; exact q⟩
  · by_cases hj : j = i
    · subst hj
      have hlt : j < S.length := by
        have := (List.getElem?_eq_some_iff.mp h2).1
        simpa using this
      rw [List.getElem?_set_self hlt] at h2
      rw [hi] at h1
      cases h1
      cases h2
      exact hr e
    · rw [List.getElem?_set_ne (Ne.symm hj)] at h2
      have hb : b ≠ a := fun z => by
        subst z
        obtain ⟨l1, q1⟩ := List.getElem?_eq_some_iff.mp h1
        obtain ⟨l2, q2⟩ := List.getElem?_eq_some_iff.mp hi
        exact hj ((List.getElem_inj s.nd).mp (q1.trans q2.symm))
      exact (s.rep j b o h1 h2).mono s.live e fun v q => by rw [upd_ne hb]; exact q
theorem Post.write {α β : Type} {R : G → Hp → α → β → Prop} {Q : β → Hp → Prop} {x : α} {b : β} {i : Nat} {a : Addr} {u : HO} {ob : O} (s : SR K g S H) (hi : g.hs[i]? = some a) (h : Post K W R g H σ Q (.ok x (S.set i ob))) (hr : Ext g H g (upd H a u) → RO K g (upd H a u) ob a)
    (r : Ext g H g (upd H a u) → R g (upd H a u) x b) : Q b (upd H a u) := h g _ b (Ext.write hi) (s.write hi hr) (r (Ext.write hi))
end
def lstOf (S : List O) : D → Option (List D)
  | .lst ds => some ds
  | .scr ns => some (ns.map D.int)
  | .hnd i => (match S[i]? with
    | some (.lst ds) => some ds
    | _ => none)
  | _ => none
def tupOf : D → Option (List D)
  | .tup ds => some ds
  | _ => none
def seqOf (S : List O) (d : D) : Option (List D) := (lstOf S d).or (tupOf d)
section
variable {K : PySem.W.Frag} {g : G} {S : List O} {H : Hp}
theorem RVs.ints : ∀ ns : List Int, RVs K g H (ns.map D.int) (ns.map V.int)
  | [] => by simp only [List.map_nil, RVs]
  | n :: ns => by
    simp only [List.map_cons, RVs]
    exact ⟨_, _, rfl, by simp only [RV], RVs.ints ns⟩
theorem lst_at (s : SR K g S H) {d : D} {ds : List D} {v : V} (h : lstOf S d = some ds) (r : RV K g H d v) : ∃ a xs, v = .ref a ∧ SqL K H a xs ∧ RVs K g H ds xs := by
  cases d with
  | lst es =>
    cases h
    simp only [RV] at r
    obtain ⟨a, xs, e, h1, _, h2⟩ := r
    exact ⟨a, xs, e, .inl (.inl h1), h2⟩
  | scr ns =>
    cases h
    simp only [RV] at r
    obtain ⟨a, e, h1⟩ := r
    exact ⟨a, _, e, h1.sq, RVs.ints ns⟩
  | hnd i =>
    simp only [lstOf] at h
    split at h
    · rename_i es q
      cases h
      simp only [RV] at r
      obtain ⟨a, e, h1⟩ := r
      obtain ⟨xs, h2, h3⟩ := s.rep i a _ h1 q
      exact ⟨a, xs, e, .inl (.inl h2), h3⟩
    · cases h
  | _ => cases h
theorem tup_at {d : D} {ds : List D} {v : V} (h : tupOf d = some ds) (r : RV K g H d v) : ∃ a xs, v = .ref a ∧ SqT K H a xs ∧ RVs K g H ds xs := by
  cases d with
  | tup es =>
    cases h
    simp only [RV] at r
    obtain ⟨a, xs, e, h1, h2⟩ := r
    exact ⟨a, xs, e, h1.sq, h2⟩
  | _ => cases h
theorem seq_at (s : SR K g S H) {d : D} {ds : List D} {v : V} (h : seqOf S d = some ds) (r : RV K g H d v) : ∃ a xs, v = .ref a ∧ (SqL K H a xs ∨ SqT K H a xs) ∧ RVs K g H ds xs := by
  unfold seqOf at h
  cases e : lstOf S d with
  | some es =>
    rw [e] at h
    cases h
    obtain ⟨a, xs, h1, h2, h3⟩ := lst_at s e r
    exact ⟨a, xs, h1, .inl h2, h3⟩
  | none =>
    rw [e] at h
    obtain ⟨a, xs, h1, h2, h3⟩ := tup_at (show tupOf d = some ds from h) r
    exact ⟨a, xs, h1, .inr h2, h3⟩
end
def mkL (own : Bool) (ds : List D) (S : List O) : Out D := if ds.length ≤ sizeLine then (if own then .ok (.hnd S.length) (S ++ [.lst ds]) else .ok (.lst ds) S) else .stuck
def mkT (ds : List D) (S : List O) : Out D := if ds.length ≤ sizeLine then .ok (.tup ds) S else .stuck
section
variable {K : PySem.W.Frag} {g : G} {S : List O} {H : Hp} {σ : L2.St} {W : WX} {Q : VK}
theorem mkL_len {own : Bool} {ds : List D} (h : Post K W (RV K) g H σ Q (mkL own ds S)) : ds.length ≤ sizeLine := by
  unfold mkL at h
  split at h
  · assumption
  · exact h.elim
theorem mkL_ok {own : Bool} {ds : List D} {xs : List V} (s : SR K g S H) (r : RVs K g H ds xs) (h : Post K W (RV K) g H σ Q (mkL own ds S)) (p : Addr) (hp : H p = none) : Q (.ref p) (upd H p (.lst xs)) := by
  unfold mkL at h
  split at h
  · split at h
    · refine Post.newH s hp h (fun e => ⟨xs, upd_same, r.mono s.live e ds xs⟩) fun e => RV.newH s
    · refine Post.new s hp h fun e => ?_
      simp only [RV]
      exact ⟨p, xs, rfl, upd_same, s.unbad hp, r.mono s.live e ds xs⟩
  · exact h.elim
theorem mkT_len {ds : List D} (h : Post K W (RV K) g H σ Q (mkT ds S)) : ds.length ≤ sizeLine := by
  unfold mkT at h
  split at h
  · assumption
  · exact h.elim
theorem mkT_ok {ds : List D} {xs : List V} (s : SR K g S H) (r : RVs K g H ds xs) (h : Post K W (RV K) g H σ Q (mkT ds S)) (p : Addr) (hp : H p = none) : Q (.ref p) (upd H p (.tup xs)) := by
  unfold mkT at h
  split at h
  · refine Post.new s hp h fun e => ?_
    simp only [RV]
    exact ⟨p, xs, rfl, .inl ⟨.inl upd_same, s.unbad hp⟩, r.mono s.live e ds xs⟩
  · exact h.elim
end
section
variable {z : Sg} {pos : Pos}
theorem de_lst (own : Bool) {es : List Expr} {a : TAx} (h : DA z es a) : DE z (.List es pos) (eArgs (mkL own) a) :=
  de_args (r := fun xs H Q => xs.length ≤ sizeLine ∧ ∀ p, H p = none → Q (.ref p) (upd H p (.lst xs))) (fun _ _ _ h => pe_lst h) (fun g S H σ Q xs vs s r p => ⟨by rw [r.length]; exact mkL_len p, fun q hq => mkL_ok s r p q hq⟩) h
theorem de_tup {es : List Expr} {a : TAx} {x1} (h : DA z es a) : DE z (.Tuple es x1 pos) (eArgs mkT a) :=
  de_args (r := fun xs H Q => xs.length ≤ sizeLine ∧ ∀ p, H p = none → Q (.ref p) (upd H p (.tup xs))) (fun _ _ _ h => pe_tup h) (fun g S H σ Q xs vs s r p => ⟨by rw [r.length]; exact mkT_len p, fun q hq => mkT_ok s r p q hq⟩) h
end
section
variable {z : Sg} {pos : Pos}
theorem de_int {i : Int} {j} : DE z (.Constant (.int i) j pos) (eC (.int i)) := de_c (fun _ _ => pe_int) fun _ _ => by simp only [RV]
theorem de_str {x : Str} {j} : DE z (.Constant (.str x) j pos) (eC (.str x)) := de_c (fun _ _ => pe_str) fun _ _ => by simp only [RV]
theorem de_bl {b : Bool} {j} : DE z (.Constant (.bool b) j pos) (eC (.bl b)) := de_c (fun _ _ => pe_bl) fun _ _ => by simp only [RV]
theorem de_non {j} : DE z (.Constant .none j pos) (eC .non) := de_c (fun _ _ => pe_non) fun _ _ => by simp only [RV]
theorem dv (i : Nat) {x : Str} (hN : z.N[i]? = some x := by rfl) (hv : Vis z.scope x := by first | exact Or.inl rfl | exact Or.inr (Or.inl rfl) | exact Or.inr (Or.inr rfl)) (hd : (x == ("__debug__" : Str)) = false := by decide)
    (hcd : (x == ("__classdict__" : Str)) = false := by decide) : DE z (.Name x pos) (eVar i) := de_var fun X f => pe_var (f.at hN) (f.vis hv) hd hcd
theorem de_gstr {x y : Str} (hm : ∃ t, z.mg x = some (.str y t)) (hg : Gz z x := by rfl) (hd : (x == ("__debug__" : Str)) = false := by decide) : DE z (.Name x pos) (eC (.str y)) := by
  obtain ⟨t, hm⟩ := hm
  exact de_c (fun X f => pe_glob (v := .str y) (f.gl hg) (f.mgl hm) ⟨t, rfl⟩ hd) fun _ _ => by simp only [RV]
theorem de_gint {x : Str} {i : Int} (hm : ∃ t, z.mg x = some (.int i t)) (hg : Gz z x := by rfl) (hd : (x == ("__debug__" : Str)) = false := by decide) : DE z (.Name x pos) (eC (.int i)) := by
  obtain ⟨t, hm⟩ := hm
  exact de_c (fun X f => pe_glob (v := .int i) (f.gl hg) (f.mgl hm) ⟨t, rfl⟩ hd) fun _ _ => by simp only [RV]
theorem de_gcls {x : Str} (hm : z.mg x = some (.ref (He.ga z.K x))) (hg : Gz z x := by rfl) (hd : (x == ("__debug__" : Str)) = false := by decide) : DE z (.Name x pos) (eC (.cls x)) :=
  de_c (fun X f => pe_glob (v := .ref _) (f.gl hg) (f.mgl hm) rfl hd) fun _ _ => by simp only [RV]
theorem de_gty {x : Str} {n : String} (hm : z.mg x = none) (hv : bootBuiltins x = some (.type n)) (hg : Gz z x := by rfl) (hn : x ≠ "__name__" := by decide) (hd : (x == ("__debug__" : Str)) = false := by decide) : DE z (.Name x pos) (eC (.ty n)) :=
  de_c (fun X f => pe_bltn (v := .ty n) (f.gl hg) (f.mgl hm) hv rfl hn hd) fun _ _ => by simp only [RV]
end
def addD : D → D → List O → Out D
  | .int i, .int j, S => .ok (.int (i + j)) S
  | .str a, .str b, S => if a.length + b.length ≤ sizeLine then .ok (.str (a ++ b)) S else .stuck
  | .tup a, .tup b, S => if a.length + b.length ≤ sizeLine then .ok (.tup (a ++ b)) S else .stuck
  | _, _, _ => .stuck
def catD (own : Bool) : D → D → List O → Out D
  | .lst a, .lst b, S => mkL own (a ++ b) S
  | .hnd i, .lst b, S => (match S[i]? with
    | some (.lst a) => mkL own (a ++ b) S
    | _ => .stuck)
  | .lst a, .hnd i, S => (match S[i]? with
    | some (.lst b) => mkL own (a ++ b) S
    | _ => .stuck)
  | _, _, _ => .stuck
def subD : D → D → List O → Out D
  | .int i, .int j, S => .ok (.int (i - j)) S
  | _, _, _ => .stuck
instance (i j : Int) : Decidable (CMulW i j) := inferInstanceAs (Decidable (_ < _))
instance (i j : Int) : Decidable (CMul i j) := inferInstanceAs (Decidable (_ ∨ _))
instance (i j : Int) : Decidable (CDivW i j) := inferInstanceAs (Decidable (_ ∧ _))
def mulD : D → D → List O → Out D
  | .int i, .int j, S => if CMul i j ∨ CMulW i j then .ok (.int (i * j)) S else .stuck
  | _, _, _ => .stuck
def divD : D → D → List O → Out D
  | .int i, .int j, S => if CDivW i j then .ok (.int (i / j)) S else .stuck
  | _, _, _ => .stuck
def modD : D → D → List O → Out D
  | .int i, .int j, S => if 0 < j then .ok (.int (i % j)) S else .stuck
  | _, _, _ => .stuck
def negD : D → List O → Out D
  | .int i, S => .ok (.int (-i)) S
  | _, _ => .stuck
section
variable {z : Sg} {pos : Pos} {a b : Expr} {ta tb : TEx}
theorem rv_int {K : PySem.W.Frag} {g : G} {H : Hp} {i : Int} {v : V} (h : RV K g H (.int i) v) : v = .int i := by simpa only [RV] using h
theorem rv_str {K : PySem.W.Frag} {g : G} {H : Hp} {i : Str} {v : V} (h : RV K g H (.str i) v) : v = .str i := by simpa only [RV] using h
theorem rv_bl {K : PySem.W.Frag} {g : G} {H : Hp} {i : Bool} {v : V} (h : RV K g H (.bl i) v) : v = .bl i := by simpa only [RV] using h
theorem rv_non {K : PySem.W.Frag} {g : G} {H : Hp} {v : V} (h : RV K g H .non v) : v = .non := by simpa only [RV] using h
theorem RVs.nil_iff {K : PySem.W.Frag} {g : G} {H : Hp} {ds : List D} {xs : List V} (r : RVs K g H ds xs) : xs = [] ↔ ds = [] := by
  rw [← List.length_eq_zero_iff, ← List.length_eq_zero_iff, r.length]
theorem de_add (ha : DE z a ta) (hb : DE z b tb) : DE z (.BinOp a .Add b pos) (eBin addD ta tb) := by
  refine de_bin (fun X fx τ τ' h1 h2 => pe_op (op_add.or (op_add_str.or (fx.K ▸ op_catA))) h1 h2) (fun g S H σ Q x y v u s rx ry p => ?_) ha hb
  unfold addD at p
  split at p
  · exact .inl ⟨_, _, rv_int rx, rv_int ry, p.here s (by simp only [RV])⟩
  · split at p
    · exact .inr (.inl ⟨_, _, rv_str rx, rv_str ry, by assumption, p.here s (by simp only [RV])⟩)
    · exact p.elim
  · split at p
    · rename_i hz
      simp only [RV] at rx ry
      obtain ⟨pa, xs, rfl, h1, r1⟩ := rx
      obtain ⟨pb, ys, rfl, h2, r2⟩ := ry
      have l1 := r1.length
      have l2 := r2.length
      refine .inr (.inr ⟨pa, pb, xs, ys, rfl, rfl, h1.sq, h2.sq, by omega, fun e => ?_, fun _ e => ?_, fun _ _ q hq => ?_⟩)
      · have ea := r1.nil_iff.mp e
        subst ea
        refine p.here s ?_
        simp only [RV, List.nil_append]
        exact ⟨pb, ys, rfl, h2, r2⟩
      · have eb := r2.nil_iff.mp e
        subst eb
        refine p.here s ?_
        simp only [RV, List.append_nil]
        exact ⟨pa, xs, rfl, h1, r1⟩
      · refine p.new s hq fun e => ?_
        simp only [RV]
        exact ⟨q, _, rfl, .inl ⟨.inl upd_same, s.unbad hq⟩, (r1.append r2).mono s.live e _ _⟩
    · exact p.elim
  · exact p.elim
theorem de_cat (own : Bool) (ha : DE z a ta) (hb : DE z b tb) : DE z (.BinOp a .Add b pos) (eBin (catD own) ta tb) := by
  refine de_bin (fun X fx τ τ' h1 h2 => pe_op op_cat h1 h2) (fun g S H σ Q x y v u s rx ry p => ?_) ha hb
  have key : ∀ (ds es : List D) (pa pb : Addr) (xs ys : List V), v = .ref pa → u = .ref pb → H pa = some (.lst xs) → H pb = some (.lst ys) → RVs z.K g H ds xs → RVs z.K g H es ys → Post z.K z.W (RV z.K) g H σ Q (mkL own (ds ++ es) S) → rCat v u H Q := by
    intro ds es pa pb xs ys e1 e2 h1 h2 r1 r2 q
    have l1 := r1.length
    have l2 := r2.length
    have l3 := mkL_len q
    rw [List.length_append] at l3
    exact ⟨pa, pb, xs, ys, e1, e2, h1, h2, by omega, fun l hl => mkL_ok s (r1.append r2) q l hl⟩
  unfold catD at p
  split at p
  · simp only [RV] at rx ry
    obtain ⟨pa, xs, e1, h1, _, r1⟩ := rx
    obtain ⟨pb, ys, e2, h2, _, r2⟩ := ry
    exact key _ _ pa pb xs ys e1 e2 h1 h2 r1 r2 p
  · simp only [RV] at rx ry
    obtain ⟨pa, e1, h1⟩ := rx
    obtain ⟨pb, ys, e2, h2, _, r2⟩ := ry
    split at p
    · rename_i q
      obtain ⟨xs, h3, r1⟩ := s.rep _ _ _ h1 q
      exact key _ _ pa pb xs ys e1 e2 h3 h2 r1 r2 p
    · exact p.elim
  · simp only [RV] at rx ry
    obtain ⟨pa, xs, e1, h1, _, r1⟩ := rx
    obtain ⟨pb, e2, h2⟩ := ry
    split at p
    · rename_i q
      obtain ⟨ys, h3, r2⟩ := s.rep _ _ _ h2 q
      exact key _ _ pa pb xs ys e1 e2 h1 h3 r1 r2 p
    · exact p.elim
  · exact p.elim
theorem de_sub (ha : DE z a ta) (hb : DE z b tb) : DE z (.BinOp a .Sub b pos) (eBin subD ta tb) := by
  refine de_bin (fun X fx τ τ' h1 h2 => pe_op op_sub h1 h2) (fun g S H σ Q x y v u s rx ry p => ?_) ha hb
  unfold subD at p
  split at p
  · exact ⟨_, _, rv_int rx, rv_int ry, p.here s (by simp only [RV])⟩
  · exact p.elim
theorem de_mul (ha : DE z a ta) (hb : DE z b tb) : DE z (.BinOp a .Mult b pos) (eBin mulD ta tb) := by
  refine de_bin (fun X fx τ τ' h1 h2 => pe_op (op_mul.or op_mulW) h1 h2) (fun g S H σ Q x y v u s rx ry p => ?_) ha hb
  unfold mulD at p
  split at p
  · split at p
    · rename_i hc
      rcases hc with hc | hc
      · exact .inl ⟨_, _, rv_int rx, rv_int ry, hc, p.here s (by simp only [RV])⟩
      · exact .inr ⟨_, _, rv_int rx, rv_int ry, hc, p.here s (by simp only [RV])⟩
    · exact p.elim
  · exact p.elim
def CPowB (i j : Int) : Prop := 0 ≤ j ∧ (Builtin.Int.intBits i : Int) * j ≤ 2 ^ 27
instance (i j : Int) : Decidable (CPowB i j) := inferInstanceAs (Decidable (_ ∧ _))
theorem op_powB {X : Cx} : OpR X (binaryOp .Pow) (rI CPowB fun i j => .int (i ^ j.toNat)) := opI fun _ _ _ _ _ _ _ hc q => pow_int hc.1 hc.2 q
def powD : D → D → List O → Out D
  | .int i, .int j, S => if CPowB i j then .ok (.int (i ^ j.toNat)) S else .stuck
  | _, _, _ => .stuck
theorem de_div (ha : DE z a ta) (hb : DE z b tb) : DE z (.BinOp a .FloorDiv b pos) (eBin divD ta tb) := by
  refine de_bin (fun X fx τ τ' h1 h2 => pe_op op_fdivW h1 h2) (fun g S H σ Q x y v u s rx ry p => ?_) ha hb
  unfold divD at p
  split at p
  · split at p
    · exact ⟨_, _, rv_int rx, rv_int ry, by assumption, p.here s (by simp only [RV])⟩
    · exact p.elim
  · exact p.elim
theorem de_mod (ha : DE z a ta) (hb : DE z b tb) : DE z (.BinOp a .Mod b pos) (eBin modD ta tb) := by
  refine de_bin (fun X fx τ τ' h1 h2 => pe_op op_mod h1 h2) (fun g S H σ Q x y v u s rx ry p => ?_) ha hb
  unfold modD at p
  split at p
  · split at p
    · exact ⟨_, _, rv_int rx, rv_int ry, by assumption, p.here s (by simp only [RV])⟩
    · exact p.elim
  · exact p.elim
theorem de_pow (ha : DE z a ta) (hb : DE z b tb) : DE z (.BinOp a .Pow b pos) (eBin powD ta tb) := by
  refine de_bin (fun X fx τ τ' h1 h2 => pe_op op_powB h1 h2) (fun g S H σ Q x y v u s rx ry p => ?_) ha hb
  unfold powD at p
  split at p
  · split at p
    · exact ⟨_, _, rv_int rx, rv_int ry, by assumption, p.here s (by simp only [RV])⟩
    · exact p.elim
  · exact p.elim
theorem de_neg (ha : DE z a ta) : DE z (.UnaryOp .USub a pos) (eUn negD ta) := by
  refine de_un (fun X fx τ h1 => pe_un un_neg h1) (fun g S H σ Q x v s rx p => ?_) ha
  unfold negD at p
  split at p
  · exact ⟨_, rv_int rx, p.here s (by simp only [RV])⟩
  · exact p.elim
end
end TL
set_option Elab.async false
set_option linter.all false
set_option maxRecDepth 100000
set_option maxHeartbeats 4000000
namespace TL
open PySem PySem.Spec PyProof.Rows L2
def Out.test (o : Out D) : Out Bool := o.bind fun d S => match d with
  | .bl b => .ok b S
  | _ => .stuck
def tBl (t : TEx) : TTx := fun ρ S => (t ρ S).test
def truD (S : List O) : D → Option Bool
  | .non => some false
  | .bl b => some b
  | .int i => some (i != 0)
  | .str y => if y.length ≤ sizeLine then some ((y.length : Int) != 0) else none
  | .tup ds => some (!ds.isEmpty)
  | .hnd i => (match S[i]? with
    | some (.lst ds) => some (!ds.isEmpty)
    | some (.dct kvs) => some (!kvs.isEmpty)
    | _ => none)
  | .lst ds => some (!ds.isEmpty)
  | .scr ns => some (!ns.isEmpty)
  | _ => none
def tTru (t : TEx) : TTx := fun ρ S => (t ρ S).bind fun d S1 => match truD S1 d with
  | some b => .ok b S1
  | none => .stuck
def tAndT (a b : TTx) : TTx := fun ρ S => (a ρ S).bind fun c S1 => if c = true then b ρ S1 else .ok false S1
def tOrT (a b : TTx) : TTx := fun ρ S => (a ρ S).bind fun c S1 => if c = true then .ok true S1 else b ρ S1
def tNotT (a : TTx) : TTx := fun ρ S => (a ρ S).bind fun c S1 => .ok (!c) S1
def eAnd (a b : TEx) : TEx := fun ρ S => (a ρ S).bind fun d S1 => match truD S1 d with
  | some true => b ρ S1
  | some false => .ok d S1
  | none => .stuck
def eOr (a b : TEx) : TEx := fun ρ S => (a ρ S).bind fun d S1 => match truD S1 d with
  | some true => .ok d S1
  | some false => b ρ S1
  | none => .stuck
def eNot (a : TEx) : TEx := fun ρ S => (a ρ S).bind fun d S1 => match truD S1 d with
  | some b => .ok (.bl (!b)) S1
  | none => .stuck
def eIf (c : TTx) (a b : TEx) : TEx := fun ρ S => (c ρ S).bind fun k S1 => if k = true then a ρ S1 else b ρ S1
section
variable {K : PySem.W.Frag} {g : G} {S : List O} {H : Hp}
theorem emp_of {α β : Type} {xs : List α} {ys : List β} (h : xs.length = ys.length) : (!xs.isEmpty) = (!ys.isEmpty) := by
  cases xs <;> cases ys <;> simp_all
theorem RKs.length : ∀ {ds : List (Key × D)} {xs : List (Key × V)}, RKs K g H ds xs → xs.length = ds.length
  | [], _, h => by simp only [RKs] at h; subst h; rfl
  | (k, d) :: ds, _, h => by
    simp only [RKs] at h
    obtain ⟨v, r, rfl, _, e3⟩ := h
    simp [RKs.length e3]
theorem truD_ok (s : SR K g S H) {d : D} {v : V} {b : Bool} (r : RV K g H d v) (h : truD S d = some b) : TruV K v H b := by
  cases d with
  | non => rw [rv_non r]; cases h; rfl
  | bl c => rw [rv_bl r]; cases h; rfl
  | int i => rw [rv_int r]; cases h; rfl
  | str y =>
    rw [rv_str r]
    simp only [truD] at h
    split at h
    · cases h
      exact ⟨by assumption, rfl⟩
    · cases h
  | tup ds =>
    cases h
    simp only [RV] at r
    obtain ⟨a, xs, rfl, h1, h2⟩ := r
    exact .inr (.inl ⟨xs, h1.sq, emp_of h2.length.symm⟩)
  | lst ds =>
    cases h
    simp only [RV] at r
    obtain ⟨a, xs, rfl, h1, _, h2⟩ := r
    exact .inl ⟨xs, .inl (.inl h1), emp_of h2.length.symm⟩
  | scr ns =>
    cases h
    simp only [RV] at r
    obtain ⟨a, rfl, h1⟩ := r
    exact .inl ⟨_, h1.sq, emp_of (by simp)⟩
  | hnd i =>
    simp only [RV] at r
    obtain ⟨a, rfl, h1⟩ := r
    simp only [truD] at h
    split at h
    · rename_i ds q
      cases h
      obtain ⟨xs, h2, h3⟩ := s.rep i a _ h1 q
      exact .inl ⟨xs, .inl (.inl h2), emp_of h3.length.symm⟩
    · rename_i kvs q
      cases h
      obtain ⟨xs, h2, h3⟩ := s.rep i a _ h1 q
      exact .inr (.inr ⟨xs, h2, emp_of h3.length.symm⟩)
    · cases h
  | _ => cases h
end
section
variable {z : Sg} {pos : Pos} {a b c : Expr} {ta tb tc : TEx}
theorem Post.test {K : PySem.W.Frag} {g : G} {H : Hp} {σ : L2.St} {Q : Bool → Hp → Prop} {o : Out D} (h : Post K W rBool g H σ Q o.test) : Post K W (RV K) g H σ (fun x H' => ∃ k, x = .bl k ∧ Q k H') o := by
  refine Post.bind (R' := rBool) (Q := Q) h fun d S1 g1 H1 v e s r p => ?_
  cases d with
  | bl k => exact ⟨k, rv_bl r, p.here s rfl⟩
  | _ => exact p.elim
theorem dt_of {e : Expr} {τ : TE} {t : TEx} (h : ∀ X, Fits z X → PT X e (tTest τ)) (q : RdE z τ t) : DT z e (tBl t) :=
  ⟨_, h, fun g S ρ σ H Q s rs p => q g S ρ σ H _ s rs p.test⟩
theorem dt_tru {e : Expr} {t : TEx} (h : DE z e t) (he : ∀ env whole, isTrue e env whole = (do let v ← whole; standAt e.pos; holding [v] (truthy v)) := by intro _ _; rfl) : DT z e (tTru t) := by
  obtain ⟨τ, h1, q1⟩ := h
  refine ⟨_, fun X f => f.K ▸ pt_truth (h1 X f) (he _), fun g S ρ σ H Q s rs p => q1 g S ρ σ H _ s rs (p.bind fun d S1 g1 H1 v e1 s1 r1 p1 => ?_)⟩
  split at p1
  · exact ⟨_, truD_ok s1 r1 (by assumption), p1.here s1 rfl⟩
  · exact p1.elim
def DW (z : Sg) (e : Expr) (t : TTx) : Prop := ∃ τ, (∀ X, Fits z X → PW X e τ) ∧ RdT z τ t
theorem DW.dt {e : Expr} {t : TTx} (h : DW z e t) : DT z e t := by
  obtain ⟨τ, h1, q1⟩ := h
  exact ⟨τ, fun X f => (h1 X f).pt, q1⟩
variable {rest : List Expr} {t u : TTx}
theorem dw_and1 (ha : DT z a t) : DW z (.BoolOp .And [a] pos) t := by
  obtain ⟨τ, h1, q1⟩ := ha
  exact ⟨τ, fun X f => pw_and1 (h1 X f), q1⟩
theorem dw_or1 (ha : DT z a t) : DW z (.BoolOp .Or [a] pos) t := by
  obtain ⟨τ, h1, q1⟩ := ha
  exact ⟨τ, fun X f => pw_or1 (h1 X f), q1⟩
theorem dw_and (ha : DT z a t) (hb : DW z (.BoolOp .And (b :: rest) pos) u) : DW z (.BoolOp .And (a :: b :: rest) pos) (tAndT t u) := by
  obtain ⟨τ, h1, q1⟩ := ha
  obtain ⟨τ2, h2, q2⟩ := hb
  refine ⟨_, fun X f => pw_and (h1 X f) (h2 X f), fun g S ρ σ H Q s rs p => q1 g S ρ σ H _ s rs (p.bind fun k S1 g1 H1 k' e1 s1 r1 p1 => ?_)⟩
  have r1 : k = k' := r1
  subst r1
  show if k = true then τ2 σ H1 Q else Q false H1
  split
  · rename_i hk
    rw [if_pos hk] at p1
    exact q2 g1 S1 ρ σ H1 Q s1 (rs.mono s.live e1) p1
  · rename_i hk
    rw [if_neg hk] at p1
    exact p1.here s1 rfl
theorem dw_or (ha : DT z a t) (hb : DW z (.BoolOp .Or (b :: rest) pos) u) : DW z (.BoolOp .Or (a :: b :: rest) pos) (tOrT t u) := by
  obtain ⟨τ, h1, q1⟩ := ha
  obtain ⟨τ2, h2, q2⟩ := hb
  refine ⟨_, fun X f => pw_or (h1 X f) (h2 X f), fun g S ρ σ H Q s rs p => q1 g S ρ σ H _ s rs (p.bind fun k S1 g1 H1 k' e1 s1 r1 p1 => ?_)⟩
  have r1 : k = k' := r1
  subst r1
  show if k = true then Q true H1 else τ2 σ H1 Q
  split
  · rename_i hk
    rw [if_pos hk] at p1
    exact p1.here s1 rfl
  · rename_i hk
    rw [if_neg hk] at p1
    exact q2 g1 S1 ρ σ H1 Q s1 (rs.mono s.live e1) p1
theorem dt_not (ha : DT z a t) : DT z (.UnaryOp .Not a pos) (tNotT t) := by
  obtain ⟨τ, h1, q1⟩ := ha
  refine ⟨_, fun X f => pt_not (h1 X f), fun g S ρ σ H Q s rs p => q1 g S ρ σ H _ s rs (p.bind fun k S1 g1 H1 k' e1 s1 r1 p1 => ?_)⟩
  have r1 : k = k' := r1
  subst r1
  exact p1.here s1 rfl
theorem de_one {op} {t : TEx} (h : DE z a t) : DE z (.BoolOp op [a] pos) t := by
  obtain ⟨τ, h1, q1⟩ := h
  exact ⟨τ, fun X f => pe_one (h1 X f), q1⟩
theorem de_and (ha : DE z a ta) (hb : DE z (.BoolOp .And (b :: rest) pos) tb) : DE z (.BoolOp .And (a :: b :: rest) pos) (eAnd ta tb) := by
  obtain ⟨τ, h1, q1⟩ := ha
  obtain ⟨τ2, h2, q2⟩ := hb
  refine ⟨_, fun X f => f.K ▸ pe_andT (h1 X f) (h2 X f), fun g S ρ σ H Q s rs p => q1 g S ρ σ H _ s rs (p.bind fun d S1 g1 H1 v e1 s1 r1 p1 => ?_)⟩
  split at p1
  · exact ⟨true, truD_ok s1 r1 (by assumption), by rw [if_pos rfl]; exact q2 g1 S1 ρ σ H1 Q s1 (rs.mono s.live e1) p1⟩
  · exact ⟨false, truD_ok s1 r1 (by assumption), by rw [if_neg Bool.false_ne_true]; exact p1.here s1 r1⟩
  · exact p1.elim
theorem de_or (ha : DE z a ta) (hb : DE z (.BoolOp .Or (b :: rest) pos) tb) : DE z (.BoolOp .Or (a :: b :: rest) pos) (eOr ta tb) := by
  obtain ⟨τ, h1, q1⟩ := ha
  obtain ⟨τ2, h2, q2⟩ := hb
  refine ⟨_, fun X f => f.K ▸ pe_orT (h1 X f) (h2 X f), fun g S ρ σ H Q s rs p => q1 g S ρ σ H _ s rs (p.bind fun d S1 g1 H1 v e1 s1 r1 p1 => ?_)⟩
  split at p1
  · exact ⟨true, truD_ok s1 r1 (by assumption), by rw [if_pos rfl]; exact p1.here s1 r1⟩
  · exact ⟨false, truD_ok s1 r1 (by assumption), by rw [if_neg Bool.false_ne_true]; exact q2 g1 S1 ρ σ H1 Q s1 (rs.mono s.live e1) p1⟩
  · exact p1.elim
theorem de_not (ha : DE z a ta) : DE z (.UnaryOp .Not a pos) (eNot ta) := by
  obtain ⟨τ, h1, q1⟩ := ha
  refine ⟨_, fun X f => f.K ▸ pe_notT (h1 X f), fun g S ρ σ H Q s rs p => q1 g S ρ σ H _ s rs (p.bind fun d S1 g1 H1 v e1 s1 r1 p1 => ?_)⟩
  split at p1
  · exact ⟨_, truD_ok s1 r1 (by assumption), p1.here s1 (by simp only [RV])⟩
  · exact p1.elim
theorem de_if (hc : DT z c t) (ha : DE z a ta) (hb : DE z b tb) : DE z (.IfExp c a b pos) (eIf t ta tb) := by
  obtain ⟨τ, h1, q1⟩ := hc
  obtain ⟨τ2, h2, q2⟩ := ha
  obtain ⟨τ3, h3, q3⟩ := hb
  refine ⟨_, fun X f => pe_ifExp (h1 X f) (h2 X f) (h3 X f), fun g S ρ σ H Q s rs p => q1 g S ρ σ H _ s rs (p.bind fun k S1 g1 H1 k' e1 s1 r1 p1 => ?_)⟩
  have r1 : k = k' := r1
  subst r1
  show if k = true then τ2 σ H1 Q else τ3 σ H1 Q
  split
  · rename_i hk
    rw [if_pos hk] at p1
    exact q2 g1 S1 ρ σ H1 Q s1 (rs.mono s.live e1) p1
  · rename_i hk
    rw [if_neg hk] at p1
    exact q3 g1 S1 ρ σ H1 Q s1 (rs.mono s.live e1) p1
end
section
variable {z : Sg} {pos : Pos} {a b c : Expr} {ta tb tc : TEx}
theorem de_cmp {op : CmpOp} {r : R2} {f : D → D → List O → Out D} (ho : ∀ X, Fits z X → OpR X (compareOp op) r) (ok : OkB z.K z.W r f) (hm : behindInMarks op b = false) (ha : DE z a ta) (hb : DE z b tb) : DE z (.Compare a [op] [b] pos) (eBin f ta tb) :=
  de_bin (fun X f τ τ' h1 h2 => pe_cmpR (ho X f) h1 h2 hm) ok ha hb
theorem dt_cmp {op : CmpOp} {r : R2} {f : D → D → List O → Out D} (ho : ∀ X, Fits z X → OpR X (compareOp op) r) (ok : OkB z.K z.W r f) (hm : behindInMarks op b = false) (ha : DE z a ta) (hb : DE z b tb) : DT z (.Compare a [op] [b] pos) (tBl (eBin f ta tb)) := by
  obtain ⟨τ, h1, q1⟩ := ha
  obtain ⟨τ2, h2, q2⟩ := hb
  exact dt_of (fun X f => pt_cmpR (ho X f) (h1 X f) (h2 X f) hm) (rd_bin ok q1 q2)
def eChain (f f' : D → D → List O → Out D) (a b c : TEx) : TEx := fun ρ S => (a ρ S).bind fun x S1 => (b ρ S1).bind fun y S2 => (f x y S2).test.bind fun k S3 => if k = true then (c ρ S3).bind fun z S4 => f' y z S4 else .ok (.bl false) S3
theorem chain_q {τ τ2 τ3 : TE} {r r' : R2} {f f' : D → D → List O → Out D} (ok : OkB z.K z.W r f) (ok' : OkB z.K z.W r' f') (q1 : RdE z τ ta) (q2 : RdE z τ2 tb) (q3 : RdE z τ3 tc) : RdE z (tChain r r' τ τ2 τ3) (eChain f f' ta tb tc) := by
  intro g S ρ σ H Q s rs p
  refine q1 g S ρ σ H _ s rs (p.bind fun x S1 g1 H1 v e1 s1 r1 p1 => ?_)
  refine q2 g1 S1 ρ σ H1 _ s1 (rs.mono s.live e1) (p1.bind fun y S2 g2 H2 u e2 s2 r2 p2 => ?_)
  refine ok g2 S2 H2 σ _ x y v u s2 (r1.mono s1.live e2) r2 ?_
  refine Post.imp (fun z H' h => h) (Post.test (Q := fun k H3 => if k = true then τ3 σ H3 fun w' H4 => r' u w' H4 Q else Q (.bl false) H3) (p2.bind fun k S3 g3 H3 k' e3 s3 r3 p3 => ?_))
  have r3 : k = k' := r3
  subst r3
  show if k = true then _ else _
  split
  · rename_i hk
    rw [if_pos hk] at p3
    exact q3 g3 S3 ρ σ H3 _ s3 ((rs.mono s.live e1).mono s1.live e2 |>.mono s2.live e3) (p3.bind fun z S4 g4 H4 w e4 s4 r4 p4 => ok' g4 S4 H4 σ Q y z u w s4 ((r2.mono s2.live e3).mono s3.live e4) r4 p4)
  · rename_i hk
    rw [if_neg hk] at p3
    exact p3.here s3 (by simp only [RV])
theorem de_chain {op op' : CmpOp} {r r' : R2} {f f' : D → D → List O → Out D} (ho : ∀ X, Fits z X → OpR X (compareOp op) r) (ho' : ∀ X, Fits z X → OpR X (compareOp op') r') (ok : OkB z.K z.W r f) (ok' : OkB z.K z.W r' f') (ha : DE z a ta) (hb : DE z b tb) (hc : DE z c tc)
    (hm : lastMarks [op, op'] [b, c] = false := by with_unfolding_all rfl) : DE z (.Compare a [op, op'] [b, c] pos) (eChain f f' ta tb tc) := by
  obtain ⟨τ, h1, q1⟩ := ha
  obtain ⟨τ2, h2, q2⟩ := hb
  obtain ⟨τ3, h3, q3⟩ := hc
  exact ⟨_, fun X f => pe_chain (ho X f) (ho' X f) (h1 X f) (h2 X f) (h3 X f) hm, chain_q ok ok' q1 q2 q3⟩
theorem dt_chain {op op' : CmpOp} {r r' : R2} {f f' : D → D → List O → Out D} (ho : ∀ X, Fits z X → OpR X (compareOp op) r) (ho' : ∀ X, Fits z X → OpR X (compareOp op') r') (ok : OkB z.K z.W r f) (ok' : OkB z.K z.W r' f') (ha : DE z a ta) (hb : DE z b tb) (hc : DE z c tc)
    (hm : lastMarks [op, op'] [b, c] = false := by with_unfolding_all rfl) : DT z (.Compare a [op, op'] [b, c] pos) (tBl (eChain f f' ta tb tc)) := by
  obtain ⟨τ, h1, q1⟩ := ha
  obtain ⟨τ2, h2, q2⟩ := hb
  obtain ⟨τ3, h3, q3⟩ := hc
  exact dt_of (fun X f => pt_chain (ho X f) (ho' X f) (h1 X f) (h2 X f) (h3 X f) hm) (chain_q ok ok' q1 q2 q3)
end
mutual
def pd : D → Option PyData
  | .non => some .none
  | .bl b => some (.bool b)
  | .int i => some (.int i)
  | .str s => some (.str s)
  | .tup ds => (pds ds).map PyData.tuple
  | .lst ds => (pds ds).map PyData.list
  | .dct kvs => (pdk kvs).map PyData.dict
  | _ => none
def pds : List D → Option (List PyData)
  | [] => some []
  | d :: ds => (pd d).bind fun x => (pds ds).map fun xs => x :: xs
def pdk : List (Key × D) → Option (List (PyData × PyData))
  | [] => some []
  | (k, d) :: ds => (pd d).bind fun x => (pdk ds).map fun xs => ((match k with
    | .inl i => PyData.int i
    | .inr s => PyData.str s), x) :: xs
end
section
variable {K : PySem.W.Frag} {g : G} {H : Hp}
mutual
theorem pd_dp : ∀ (d : D) (v : V) (x : PyData), RV K g H d v → pd d = some x → x.hasDict = false → Dp K H v x
  | .non, _, _, r, e, _ => by rw [rv_non r]; simp only [pd] at e; cases e; exact .non
  | .bl b, _, _, r, e, _ => by rw [rv_bl r]; simp only [pd] at e; cases e; exact .bl b
  | .int i, _, _, r, e, _ => by rw [rv_int r]; simp only [pd] at e; cases e; exact .int i
  | .str s, _, _, r, e, _ => by rw [rv_str r]; simp only [pd] at e; cases e; exact .str s
  | .tup ds, _, _, r, e, hd => by
    simp only [pd] at e
    cases q : pds ds with
    | none => rw [q] at e; cases e
    | some xs =>
      rw [q] at e
      cases e
      simp only [RV] at r
      obtain ⟨a, vs, rfl, h1, h2⟩ := r
      exact .tup h1.sq (pds_dp ds vs xs h2 q (by simpa only [PyData.hasDict] using hd))
  | .lst ds, _, _, r, e, hd => by
    simp only [pd] at e
    cases q : pds ds with
    | none => rw [q] at e; cases e
    | some xs =>
      rw [q] at e
      cases e
      simp only [RV] at r
      obtain ⟨a, vs, rfl, h1, _, h2⟩ := r
      exact .lst (.inl (.inl h1)) (pds_dp ds vs xs h2 q (by simpa only [PyData.hasDict] using hd))
  | .dct kvs, _, _, _, e, hd => by
    simp only [pd] at e
    cases q : pdk kvs with
    | none => rw [q] at e; cases e
    | some xs =>
      rw [q] at e
      cases e
      simp only [PyData.hasDict] at hd
      cases hd
  | .ty _, _, _, _, e, _ => by simp only [pd] at e; cases e
  | .scr _, _, _, _, e, _ => by simp only [pd] at e; cases e
  | .tpl _, _, _, _, e, _ => by simp only [pd] at e; cases e
  | .ins _ _, _, _, _, e, _ => by simp only [pd] at e; cases e
  | .cls _, _, _, _, e, _ => by simp only [pd] at e; cases e
  | .exc _ _, _, _, _, e, _ => by simp only [pd] at e; cases e
  | .hnd _, _, _, _, e, _ => by simp only [pd] at e; cases e
  | .any, _, _, _, e, _ => by simp only [pd] at e; cases e
theorem pds_dp : ∀ (ds : List D) (vs : List V) (xs : List PyData), RVs K g H ds vs → pds ds = some xs → PyData.hasDictAll xs = false → DpAll K H vs xs
  | [], _, _, r, e, _ => by simp only [pds] at e; simp only [RVs] at r; cases e; subst r; exact .nil
  | d :: ds, _, _, r, e, hd => by
    simp only [pds] at e
    simp only [RVs] at r
    obtain ⟨v, vr, rfl, r1, r2⟩ := r
    cases q : pd d with
    | none => rw [q] at e; cases e
    | some x =>
      rw [q] at e
      cases q2 : pds ds with
      | none => rw [q2] at e; cases e
      | some xs =>
        rw [q2] at e
        cases e
        have hd' : (x.hasDict || PyData.hasDictAll xs) = false := by simpa only [PyData.hasDictAll] using hd
        rw [Bool.or_eq_false_iff] at hd'
        exact .cons (pd_dp d v x r1 q hd'.1) (pds_dp ds vr xs r2 q2 hd'.2)
end
end
def eqD (x y : D) (S : List O) : Out D := match x, y with
  | .int i, .int j => .ok (.bl (decide (i = j))) S
  | .str i, .str j => .ok (.bl (decide (i = j))) S
  | .bl i, .bl j => .ok (.bl (decide (i = j))) S
  | _, _ => match pd x, pd y with
    | some p, some q => if SeqAt.shaped p = true ∧ SeqAt.shaped q = true then .ok (.bl (PyData.eqv p q)) S else .stuck
    | _, _ => .stuck
def neD (x y : D) (S : List O) : Out D := match x, y with
  | .int i, .int j => .ok (.bl (!decide (i = j))) S
  | .str i, .str j => .ok (.bl (!decide (i = j))) S
  | .bl i, .bl j => .ok (.bl (!decide (i = j))) S
  | _, _ => match pd x, pd y with
    | some p, some q => if SeqAt.shaped p = true ∧ SeqAt.shaped q = true then .ok (.bl (!PyData.eqv p q)) S else .stuck
    | _, _ => .stuck
def ltD : D → D → List O → Out D
  | .int i, .int j, S => .ok (.bl (decide (i < j))) S
  | .str i, .str j, S => .ok (.bl (decide (i.cps.toList < j.cps.toList))) S
  | _, _, _ => .stuck
def leD : D → D → List O → Out D
  | .int i, .int j, S => .ok (.bl (decide (i ≤ j))) S
  | _, _, _ => .stuck
def gtD : D → D → List O → Out D
  | .int i, .int j, S => .ok (.bl (decide (j < i))) S
  | _, _, _ => .stuck
def geD : D → D → List O → Out D
  | .int i, .int j, S => .ok (.bl (decide (j ≤ i))) S
  | _, _, _ => .stuck
def isN : D → Option Bool
  | .non => some true
  | .any => none
  | _ => some false
def isND : D → D → List O → Out D
  | x, .non, S => (match isN x with
    | some b => .ok (.bl b) S
    | none => .stuck)
  | _, _, _ => .stuck
section
variable {K : PySem.W.Frag} {W : WX}
theorem hasDict_shaped {p : PyData} (h : SeqAt.shaped p = true) : p.hasDict = false := PyData.hasDict_of_canLay p (SeqAt.canLay_of_shaped h)
abbrev rEqA (K : PySem.W.Frag) : R2 := fun x y H Q => rEq x y H Q ∨ rEqD K x y H Q
abbrev rNeA (K : PySem.W.Frag) : R2 := fun x y H Q => rNe x y H Q ∨ rNeD K x y H Q
theorem ok_eq : OkB K W (rEqA K) eqD := by
  intro g S H σ Q x y v u s rx ry p
  unfold eqD at p
  split at p
  · rw [rv_int rx, rv_int ry]
    refine .inl ⟨rfl, p.here s ?_⟩
    simp only [RV, V.int.injEq]
  · rw [rv_str rx, rv_str ry]
    refine .inl ⟨rfl, p.here s ?_⟩
    simp only [RV, V.str.injEq]
  · rw [rv_bl rx, rv_bl ry]
    refine .inl ⟨rfl, p.here s ?_⟩
    simp only [RV, V.bl.injEq]
  · split at p
    · rename_i e1 e2
      split at p
      · rename_i hh
        exact .inr ⟨_, _, pd_dp _ _ _ rx e1 (hasDict_shaped hh.1), pd_dp _ _ _ ry e2 (hasDict_shaped hh.2), hh.1, hh.2, p.here s (by simp only [RV])⟩
      · exact p.elim
    · exact p.elim
theorem ok_ne : OkB K W (rNeA K) neD := by
  intro g S H σ Q x y v u s rx ry p
  unfold neD at p
  split at p
  · rw [rv_int rx, rv_int ry]
    refine .inl ⟨rfl, p.here s ?_⟩
    simp only [RV, V.int.injEq]
  · rw [rv_str rx, rv_str ry]
    refine .inl ⟨rfl, p.here s ?_⟩
    simp only [RV, V.str.injEq]
  · rw [rv_bl rx, rv_bl ry]
    refine .inl ⟨rfl, p.here s ?_⟩
    simp only [RV, V.bl.injEq]
  · split at p
    · rename_i e1 e2
      split at p
      · rename_i hh
        exact .inr ⟨_, _, pd_dp _ _ _ rx e1 (hasDict_shaped hh.1), pd_dp _ _ _ ry e2 (hasDict_shaped hh.2), hh.1, hh.2, p.here s (by simp only [RV])⟩
      · exact p.elim
    · exact p.elim
theorem ok_lt : OkB K W (fun x y H Q => rI0 (fun i j => .bl (decide (i < j))) x y H Q ∨ ∃ i j, x = .str i ∧ y = .str j ∧ Q (.bl (decide (i.cps.toList < j.cps.toList))) H) ltD := by
  intro g S H σ Q x y v u s rx ry p
  unfold ltD at p
  split at p
  · exact .inl ⟨_, _, rv_int rx, rv_int ry, p.here s (by simp only [RV])⟩
  · exact .inr ⟨_, _, rv_str rx, rv_str ry, p.here s (by simp only [RV])⟩
  · exact p.elim
theorem ok_le : OkB K W (rI0 fun i j => .bl (decide (i ≤ j))) leD := by
  intro g S H σ Q x y v u s rx ry p
  unfold leD at p
  split at p
  · exact ⟨_, _, rv_int rx, rv_int ry, p.here s (by simp only [RV])⟩
  · exact p.elim
theorem ok_gt : OkB K W (rI0 fun i j => .bl (decide (j < i))) gtD := by
  intro g S H σ Q x y v u s rx ry p
  unfold gtD at p
  split at p
  · exact ⟨_, _, rv_int rx, rv_int ry, p.here s (by simp only [RV])⟩
  · exact p.elim
theorem ok_ge : OkB K W (rI0 fun i j => .bl (decide (j ≤ i))) geD := by
  intro g S H σ Q x y v u s rx ry p
  unfold geD at p
  split at p
  · exact ⟨_, _, rv_int rx, rv_int ry, p.here s (by simp only [RV])⟩
  · exact p.elim
theorem isN_ok {g : G} {H : Hp} {x : D} {v : V} {b : Bool} (r : RV K g H x v) (h : isN x = some b) : decide (v = .non) = b := by
  cases x with
  | non => rw [rv_non r]; cases h; rfl
  | any => cases h
  | bl _ => rw [rv_bl r]; cases h; rfl
  | int _ => rw [rv_int r]; cases h; rfl
  | str _ => rw [rv_str r]; cases h; rfl
  | ty _ => simp only [RV] at r; subst r; cases h; rfl
  | cls _ => simp only [RV] at r; subst r; cases h; rfl
  | tup _ => simp only [RV] at r; obtain ⟨_, _, rfl, _⟩ := r; cases h; rfl
  | tpl _ => simp only [RV] at r; obtain ⟨_, _, rfl, _⟩ := r; cases h; rfl
  | lst _ => simp only [RV] at r; obtain ⟨_, _, rfl, _⟩ := r; cases h; rfl
  | scr _ => simp only [RV] at r; obtain ⟨_, rfl, _⟩ := r; cases h; rfl
  | dct _ => simp only [RV] at r; obtain ⟨_, _, rfl, _⟩ := r; cases h; rfl
  | ins _ _ => simp only [RV] at r; obtain ⟨_, _, _, rfl, _⟩ := r; cases h; rfl
  | exc _ _ => simp only [RV] at r; obtain ⟨_, _, _, rfl, _⟩ := r; cases h; rfl
  | hnd _ => simp only [RV] at r; obtain ⟨_, rfl, _⟩ := r; cases h; rfl
theorem ok_isN : OkB K W (fun x y H Q => y = .non ∧ Q (.bl (decide (x = .non))) H) isND := by
  intro g S H σ Q x y v u s rx ry p
  unfold isND at p
  split at p
  · split at p
    · refine ⟨rv_non ry, p.here s ?_⟩
      simp only [RV, V.bl.injEq]
      exact isN_ok rx (by assumption)
    · exact p.elim
  · exact p.elim
end
section
variable {z : Sg} {pos : Pos} {a b : Expr} {ta tb : TEx}
theorem op_eqA (X : Cx) (f : Fits z X) : OpR X (compareOp .Eq) (rEqA z.K) := f.K ▸ op_eq.or (op_eqD f.hu)
theorem op_neA (X : Cx) (f : Fits z X) : OpR X (compareOp .NotEq) (rNeA z.K) := f.K ▸ op_ne.or (op_neD f.hu)
theorem de_eq (ha : DE z a ta) (hb : DE z b tb) : DE z (.Compare a [.Eq] [b] pos) (eBin eqD ta tb) := de_cmp op_eqA ok_eq (nomark _) ha hb
theorem dt_eq (ha : DE z a ta) (hb : DE z b tb) : DT z (.Compare a [.Eq] [b] pos) (tBl (eBin eqD ta tb)) := dt_cmp op_eqA ok_eq (nomark _) ha hb
theorem de_ne (ha : DE z a ta) (hb : DE z b tb) : DE z (.Compare a [.NotEq] [b] pos) (eBin neD ta tb) := de_cmp op_neA ok_ne (nomark _) ha hb
theorem dt_ne (ha : DE z a ta) (hb : DE z b tb) : DT z (.Compare a [.NotEq] [b] pos) (tBl (eBin neD ta tb)) := dt_cmp op_neA ok_ne (nomark _) ha hb
theorem de_lt (ha : DE z a ta) (hb : DE z b tb) : DE z (.Compare a [.Lt] [b] pos) (eBin ltD ta tb) := de_cmp (fun _ _ => op_lt.or op_lt_str) ok_lt (nomark _) ha hb
theorem dt_lt (ha : DE z a ta) (hb : DE z b tb) : DT z (.Compare a [.Lt] [b] pos) (tBl (eBin ltD ta tb)) := dt_cmp (fun _ _ => op_lt.or op_lt_str) ok_lt (nomark _) ha hb
theorem dt_le (ha : DE z a ta) (hb : DE z b tb) : DT z (.Compare a [.LtE] [b] pos) (tBl (eBin leD ta tb)) := dt_cmp (fun _ _ => op_le) ok_le (nomark _) ha hb
theorem de_gt (ha : DE z a ta) (hb : DE z b tb) : DE z (.Compare a [.Gt] [b] pos) (eBin gtD ta tb) := de_cmp (fun _ _ => op_gt) ok_gt (nomark _) ha hb
theorem dt_gt (ha : DE z a ta) (hb : DE z b tb) : DT z (.Compare a [.Gt] [b] pos) (tBl (eBin gtD ta tb)) := dt_cmp (fun _ _ => op_gt) ok_gt (nomark _) ha hb
theorem de_ge (ha : DE z a ta) (hb : DE z b tb) : DE z (.Compare a [.GtE] [b] pos) (eBin geD ta tb) := de_cmp (fun _ _ => op_ge) ok_ge (nomark _) ha hb
theorem de_isN (ha : DE z a ta) (hb : DE z b tb) : DE z (.Compare a [.Is] [b] pos) (eBin isND ta tb) := de_cmp (fun _ _ => op_isN) ok_isN (nomark _) ha hb
end
end TL
set_option Elab.async false
set_option linter.all false
set_option maxRecDepth 100000
set_option maxHeartbeats 4000000
namespace TL
open PySem PySem.Spec PyProof.Rows L2
inductive OutS where
  | nx (ρ : Env1) (S : List O)
  | rt (d : D) (S : List O)
  | bk (ρ : Env1) (S : List O)
  | ct (ρ : Env1) (S : List O)
  | exc (C : Str) (d : D) (ρ : Env1) (S : List O)
  | stuck
abbrev TSx := Env1 → List O → OutS
def PostS (K : PySem.W.Frag) (W : WX) (g : G) (H : Hp) (T : Ends) : OutS → Prop
  | .nx ρ S => ∀ g' H' σ', Ext g H g' H' → SR K g' S H' → RS K g' H' ρ σ' → T.nx σ' H'
  | .rt d S => ∀ g' H' v, Ext g H g' H' → SR K g' S H' → RV K g' H' d v → T.rt v H'
  | .bk ρ S => ∀ g' H' σ', Ext g H g' H' → SR K g' S H' → RS K g' H' ρ σ' → T.bk σ' H'
  | .ct ρ S => ∀ g' H' σ', Ext g H g' H' → SR K g' S H' → RS K g' H' ρ σ' → T.ct σ' H'
  | .exc C d ρ S => ∀ g' H' σ' c dd, Ext g H g' H' → SR K g' S H' → RS K g' H' ρ σ' → RX K g' H' C d c dd → W c dd σ' H'
  | .stuck => False
def RdS (z : Sg) (τ : TS) (t : TSx) : Prop := ∀ g S ρ σ H T, SR z.K g S H → RS z.K g H ρ σ → PostS z.K z.W g H T (t ρ S) → τ T σ H
def DS (z : Sg) (st : Stmt) (t : TSx) : Prop := ∃ τ, (∀ X, Fits z X → PS X st τ) ∧ RdS z τ t
def DSs (z : Sg) (st : List Stmt) (t : TSx) : Prop := ∃ τ, (∀ X, Fits z X → PSs X st τ) ∧ RdS z τ t
def Out.stm {α : Type} (o : Out α) (ρ : Env1) (k : α → List O → OutS) : OutS := match o with
  | .ok a S => k a S
  | .exc C d S => .exc C d ρ S
  | .stuck => .stuck
section
variable {K : PySem.W.Frag} {W : WX} {g : G} {H : Hp} {T : Ends}
theorem PostS.later {g1 : G} {H1 : Hp} {S1 : List O} (e : Ext g H g1 H1) (s : SR K g1 S1 H1) : ∀ {o : OutS}, PostS K W g H T o → PostS K W g1 H1 T o
  | .nx ρ S, h => fun g' H' σ' e' s' r => h g' H' σ' (e.tr s e') s' r
  | .rt d S, h => fun g' H' σ' e' s' r => h g' H' σ' (e.tr s e') s' r
  | .bk ρ S, h => fun g' H' σ' e' s' r => h g' H' σ' (e.tr s e') s' r
  | .ct ρ S, h => fun g' H' σ' e' s' r => h g' H' σ' (e.tr s e') s' r
  | .exc C d ρ S, h => fun g' H' σ' c dd e' s' r x => h g' H' σ' c dd (e.tr s e') s' r x
  | .stuck, h => h
theorem PostS.stm {α β : Type} {R : G → Hp → α → β → Prop} {Q1 : β → Hp → Prop} {o : Out α} {ρ : Env1} {σ : L2.St} {S : List O} {k : α → List O → OutS} (hp : PostS K W g H T (o.stm ρ k)) (s : SR K g S H) (rs : RS K g H ρ σ)
    (h : ∀ a S1 g1 H1 b, Ext g H g1 H1 → SR K g1 S1 H1 → RS K g1 H1 ρ σ → R g1 H1 a b → PostS K W g1 H1 T (k a S1) → Q1 b H1) : Post K W R g H σ Q1 o := by
  cases o with
  | ok a S => exact fun g1 H1 b e s1 r => h a S g1 H1 b e s1 (rs.mono s.live e) r (PostS.later e s1 hp)
  | exc C d S => exact fun g1 H1 c dd e s1 r => hp g1 H1 σ c dd e s1 (rs.mono s.live e) r
  | stuck => exact hp
theorem PostS.here {ρ : Env1} {σ : L2.St} {S : List O} (h : PostS K W g H T (.nx ρ S)) (s : SR K g S H) (rs : RS K g H ρ σ) : T.nx σ H := h g H σ (Ext.refl g H) s rs
end
def sNext : TSx := fun ρ S => .nx ρ S
def OutS.seq (o : OutS) (u : TSx) : OutS := match o with
  | .nx ρ S => u ρ S
  | o => o
def sSeq (t u : TSx) : TSx := fun ρ S => (t ρ S).seq u
def sSet (i : Nat) (t : TEx) : TSx := fun ρ S => (t ρ S).stm ρ fun d S1 => .nx (ρ.set i (some d)) S1
def sExpr (t : TEx) : TSx := fun ρ S => (t ρ S).stm ρ fun _ S1 => .nx ρ S1
def sRet (t : TEx) : TSx := fun ρ S => (t ρ S).stm ρ fun d S1 => .rt d S1
def sIf (c : TTx) (t u : TSx) : TSx := fun ρ S => (c ρ S).stm ρ fun k S1 => if k = true then t ρ S1 else u ρ S1
def sNever : TSx := fun _ _ => .stuck
section
variable {z : Sg} {st : Stmt} {rest : List Stmt} {t u : TSx} {e c : Expr} {te : TEx} {tc : TTx} {pos : Pos}
theorem PostS.seq {K : PySem.W.Frag} {W : WX} {g : G} {H : Hp} {T : Ends} {o : OutS} {N : L2.St → Hp → Prop} (h : PostS K W g H T (o.seq u)) (hn : ∀ ρ S g1 H1 σ, Ext g H g1 H1 → SR K g1 S H1 → RS K g1 H1 ρ σ → PostS K W g1 H1 T (u ρ S) → N σ H1) : PostS K W g H { T with nx := N } o := by
  cases o with
  | nx ρ S => exact fun g1 H1 σ e s r => hn ρ S g1 H1 σ e s r (PostS.later e s h)
  | rt d S => exact h
  | bk ρ S => exact h
  | ct ρ S => exact h
  | exc C d ρ S => exact h
  | stuck => exact h
theorem dss_nil : DSs z [] sNext := ⟨_, fun _ _ => pss_nil, fun g S ρ σ H T s rs p => p.here s rs⟩
theorem dss_cons (h1 : DS z st t) (h2 : DSs z rest u) : DSs z (st :: rest) (sSeq t u) := by
  obtain ⟨τ, h1, q1⟩ := h1
  obtain ⟨τ2, h2, q2⟩ := h2
  refine ⟨_, fun X f => pss_cons (h1 X f) (h2 X f), fun g S ρ σ H T s rs p => ?_⟩
  exact q1 g S ρ σ H _ s rs (p.seq fun ρ1 S1 g1 H1 σ1 e1 s1 r1 p1 => q2 g1 S1 ρ1 σ1 H1 T s1 r1 p1)
theorem dss_one (h1 : DS z st t) : DSs z [st] t := by
  obtain ⟨τ, h1, q1⟩ := h1
  exact ⟨τ, fun X f => pss_one (h1 X f), q1⟩
theorem ds_never : DS z st sNever := ⟨_, fun _ _ => ps_never, fun g S ρ σ H T s rs p => p.elim⟩
theorem ds_set {i : Nat} {x : Str} {pos' : Pos} (he : DE z e te) (hi : z.N[i]? = some x := by rfl) (hx : Sto z x := by first | exact Or.inl rfl | exact Or.inr ⟨rfl, rfl⟩) (hs : ∀ env, swapsWith e (some (.Name x pos')) pos.line env = pure false := by intro _; rfl) : DS z (.Assign [.Name x pos'] e pos) (sSet i te) := by
  obtain ⟨τ, h1, q1⟩ := he
  refine ⟨_, fun X f => ps_set f.ndX (f.at hi) (f.loc hx.loc) (h1 X f) (hs _) (f.st hx), fun g S ρ σ H T s rs p => ?_⟩
  refine q1 g S ρ σ H _ s rs (p.stm s rs fun d S1 g1 H1 v e1 s1 rs1 r1 p1 => ?_)
  exact p1.here s1 (RS.set r1 i rs1)
theorem ds_expr (he : DE z e te) (hs : ∀ env, swapsWith e none pos.line env = pure false := by intro _; rfl) : DS z (.Expr e pos) (sExpr te) := by
  obtain ⟨τ, h1, q1⟩ := he
  refine ⟨_, fun X f => ps_expr (h1 X f) (hs _), fun g S ρ σ H T s rs p => ?_⟩
  exact q1 g S ρ σ H _ s rs (p.stm s rs fun d S1 g1 H1 v e1 s1 rs1 r1 p1 => p1.here s1 rs1)
theorem ds_ret (he : DE z e te) : DS z (.Return (some e) pos) (sRet te) := by
  obtain ⟨τ, h1, q1⟩ := he
  refine ⟨_, fun X f => ps_ret (h1 X f), fun g S ρ σ H T s rs p => ?_⟩
  exact q1 g S ρ σ H _ s rs (p.stm s rs fun d S1 g1 H1 v e1 s1 rs1 r1 p1 => p1 g1 H1 v (Ext.refl _ _) s1 r1)
theorem ds_if {a b : List Stmt} (hc : DT z c tc) (ha : DSs z a t) (hb : DSs z b u) : DS z (.If c a b pos) (sIf tc t u) := by
  obtain ⟨τ, h1, q1⟩ := hc
  obtain ⟨τ2, h2, q2⟩ := ha
  obtain ⟨τ3, h3, q3⟩ := hb
  refine ⟨_, fun X f => ps_if (h1 X f) (h2 X f) (h3 X f), fun g S ρ σ H T s rs p => ?_⟩
  refine q1 g S ρ σ H _ s rs (p.stm s rs fun k S1 g1 H1 k' e1 s1 rs1 r1 p1 => ?_)
  have r1 : k = k' := r1
  subst r1
  show if k = true then τ2 T σ H1 else τ3 T σ H1
  split
  · rename_i hk
    rw [if_pos hk] at p1
    exact q2 g1 S1 ρ σ H1 T s1 rs1 p1
  · rename_i hk
    rw [if_neg hk] at p1
    exact q3 g1 S1 ρ σ H1 T s1 rs1 p1
def sPar (i j : Nat) (t : TAx) : TSx := fun ρ S => (t ρ S).stm ρ fun ds S1 => match ds with
  | [x, y] => .nx ((ρ.set i (some x)).set j (some y)) S1
  | _ => .stuck
theorem ds_par {i j : Nat} {x y : Str} {a b : Expr} {ta : TAx} {px py pt : Pos} {kt k2 pt2} (ha : DA z [a, b] ta) (hij : i ≠ j := by decide) (hi : z.N[i]? = some x := by rfl) (hj : z.N[j]? = some y := by rfl)
    (hx : z.scope.names.lookup x = some .local := by rfl) (hy : z.scope.names.lookup y = some .local := by rfl)
    (hw : ∀ env, env.scope = z.scope → swappedStores [.Tuple [.Name x px, .Name y py] kt pt] (.Tuple [a, b] k2 pt2) env = pure (some [x, y]) := by intro env h; cases env; cases h; rfl)
    (hs : ∀ env, swapsWithSole [.Tuple [.Name x px, .Name y py] kt pt] (.Tuple [a, b] k2 pt2) pos.line env = pure false := by intro _; rfl) :
    DS z (.Assign [.Tuple [.Name x px, .Name y py] kt pt] (.Tuple [a, b] k2 pt2) pos) (sPar i j ta) := by
  obtain ⟨τ, h1, q1⟩ := ha
  refine ⟨_, fun X f => ps_par f.calm f.ndX (f.at hi) (f.at hj) hij (by rw [f.scope]; exact hx) (by rw [f.scope]; exact hy) (h1 X f) (hw _ f.scope) (hs _), fun g S ρ σ H T s rs p => ?_⟩
  refine q1 g S ρ σ H _ s rs (p.stm s rs fun ds S1 g1 H1 vs e1 s1 rs1 r1 p1 => ?_)
  split at p1
  · simp only [RVs] at r1
    obtain ⟨v, r, rfl, rv, w, r', rfl, rw', rfl⟩ := r1
    exact ⟨v, w, rfl, p1.here s1 (RS.set rw' j (RS.set rv i rs1))⟩
  · exact p1.elim
def sPar3 (i j l : Nat) (t : TAx) : TSx := fun ρ S => (t ρ S).stm ρ fun ds S1 => match ds with
  | [x, y, w] => .nx (((ρ.set i (some x)).set j (some y)).set l (some w)) S1
  | _ => .stuck
end
abbrev TGx := D → Env1 → List O → OutS
def Off (ws : List Nat) (σ σ' : L2.St) : Prop := σ'.length = σ.length ∧ ∀ j, j ∉ ws → σ'[j]? = σ[j]?
theorem Off.refl (ws : List Nat) (σ : L2.St) : Off ws σ σ := ⟨rfl, fun _ _ => rfl⟩
theorem Off.trans {ws us : List Nat} {σ σ1 σ2 : L2.St} (a : Off ws σ σ1) (b : Off us σ1 σ2) : Off (ws ++ us) σ σ2 :=
  ⟨b.1.trans a.1, fun j hj => (b.2 j fun h => hj (List.mem_append_right _ h)).trans (a.2 j fun h => hj (List.mem_append_left _ h))⟩
def PostG (K : PySem.W.Frag) (W : WX) (g : G) (H : Hp) (σ : L2.St) (ws : List Nat) (N : L2.St → Hp → Prop) : OutS → Prop
  | .nx ρ S => ∀ g' H' σ', Ext g H g' H' → SR K g' S H' → RS K g' H' ρ σ' → Off ws σ σ' → N σ' H'
  | .exc C d ρ S => ∀ g' H' σ' c dd, Ext g H g' H' → SR K g' S H' → RS K g' H' ρ σ' → RX K g' H' C d c dd → W c dd σ' H'
  | _ => False
def DG (z : Sg) (tg : Expr) (ws : List Nat) (t : TGx) : Prop :=
  ∃ τ, (∀ X, Fits z X → PG X tg τ) ∧ ∀ g S ρ σ H d v N, SR z.K g S H → RS z.K g H ρ σ → RV z.K g H d v → PostG z.K z.W g H σ ws N (t d ρ S) → τ v σ H N
abbrev TGsx := List D → Env1 → List O → OutS
def DGs (z : Sg) (tgs : List Expr) (ws : List Nat) (t : TGsx) : Prop :=
  ∃ τ, (∀ X, Fits z X → PGs X tgs τ) ∧ ∀ g S ρ σ H ds vs N, SR z.K g S H → RS z.K g H ρ σ → RVs z.K g H ds vs → PostG z.K z.W g H σ ws N (t ds ρ S) → τ vs σ H N
def OutS.only (o : OutS) : OutS := match o with
  | .nx ρ S => .nx ρ S
  | .exc C d ρ S => .exc C d ρ S
  | _ => .stuck
theorem PostG.later {K : PySem.W.Frag} {W : WX} {g g1 : G} {H H1 : Hp} {S1 : List O} {σ σ1 : L2.St} {ws us : List Nat} {N : L2.St → Hp → Prop} (e : Ext g H g1 H1) (s : SR K g1 S1 H1) (hoff : Off us σ σ1) (hw : ∀ j ∈ us, j ∈ ws) : ∀ {o : OutS}, PostG K W g H σ ws N o → PostG K W g1 H1 σ1 ws N o
  | .nx ρ S, h => fun g' H' σ' e' s' r o' => h g' H' σ' (e.tr s e') s' r ⟨o'.1.trans hoff.1, fun j hj => (o'.2 j hj).trans (hoff.2 j fun z => hj (hw j z))⟩
  | .exc C d ρ S, h => fun g' H' σ' c dd e' s' r x => h g' H' σ' c dd (e.tr s e') s' r x
  | .rt _ _, h => h
  | .bk _ _, h => h
  | .ct _ _, h => h
  | .stuck, h => h
theorem PostS.only {K : PySem.W.Frag} {W : WX} {g : G} {H : Hp} {T : Ends} {σ : L2.St} {ws : List Nat} {o : OutS} {u : TSx} {N : L2.St → Hp → Prop} (h : PostS K W g H T (o.only.seq u))
    (hn : ∀ ρ S g1 H1 σ1, Ext g H g1 H1 → SR K g1 S H1 → RS K g1 H1 ρ σ1 → Off ws σ σ1 → PostS K W g1 H1 T (u ρ S) → N σ1 H1) : PostG K W g H σ ws N o := by
  cases o with
  | nx ρ S => exact fun g1 H1 σ1 e s r off => hn ρ S g1 H1 σ1 e s r off (PostS.later e s h)
  | exc C d ρ S => exact h
  | _ => exact h
def gNm (i : Nat) : TGx := fun d ρ S => .nx (ρ.set i (some d)) S
section
variable {z : Sg} {pos : Pos}
theorem dg_name {i : Nat} {x : Str} (hi : z.N[i]? = some x := by rfl) (hx : Sto z x := by first | exact Or.inl rfl | exact Or.inr ⟨rfl, rfl⟩) : DG z (.Name x pos) [i] (gNm i) :=
  ⟨_, fun X f => pg_name f.ndX (f.at hi) (f.loc hx.loc) (f.st hx), fun g S ρ σ H d v N s rs r p => p g H _ (Ext.refl _ _) s (RS.set r i rs) ⟨by simp, fun j hj => by
    have hj : j ≠ i := by simpa using hj
    rw [List.getElem?_set_ne (Ne.symm hj)]⟩⟩
def gsNil : TGsx := fun ds ρ S => match ds with
  | [] => .nx ρ S
  | _ => .stuck
def gsCons (t : TGx) (u : TGsx) : TGsx := fun ds ρ S => match ds with
  | d :: r => (t d ρ S).only.seq (u r)
  | [] => .stuck
theorem dgs_nil : DGs z [] [] gsNil := by
  refine ⟨_, fun _ _ => pgs_nil, fun g S ρ σ H ds vs N s rs r p => ?_⟩
  unfold gsNil at p
  split at p
  · simp only [RVs] at r
    exact ⟨r, p g H σ (Ext.refl _ _) s rs (Off.refl _ _)⟩
  · exact p.elim
theorem PostG.seq {K : PySem.W.Frag} {W : WX} {g : G} {H : Hp} {σ : L2.St} {ws us : List Nat} {o : OutS} {u : TSx} {N N1 : L2.St → Hp → Prop} (h : PostG K W g H σ (ws ++ us) N (o.only.seq u))
    (hn : ∀ ρ S g1 H1 σ1, Ext g H g1 H1 → SR K g1 S H1 → RS K g1 H1 ρ σ1 → PostG K W g1 H1 σ1 us N (u ρ S) → N1 σ1 H1) : PostG K W g H σ ws N1 o := by
  cases o with
  | nx ρ S =>
    refine fun g1 H1 σ1 e s r off => hn ρ S g1 H1 σ1 e s r ?_
    have h : PostG K W g H σ (ws ++ us) N (u ρ S) := h
    cases hu : u ρ S with
    | nx ρ2 S2 =>
      rw [hu] at h
      exact fun g' H' σ' e' s' r' o' => h g' H' σ' (e.tr s e') s' r' (off.trans o')
    | exc C d ρ2 S2 =>
      rw [hu] at h
      exact fun g' H' σ' c dd e' s' r' x => h g' H' σ' c dd (e.tr s e') s' r' x
    | _ =>
      rw [hu] at h
      exact h
  | exc C d ρ S => exact h
  | _ => exact h
theorem dgs_cons {e : Expr} {es : List Expr} {ws us : List Nat} {t : TGx} {u : TGsx} (h1 : DG z e ws t) (h2 : DGs z es us u) (hs : ∀ env, (assignEach (e :: es) env).map (·.2) = assign e env :: (assignEach es env).map (·.2) := by intro _; rfl) : DGs z (e :: es) (ws ++ us) (gsCons t u) := by
  obtain ⟨τ, h1, q1⟩ := h1
  obtain ⟨τ2, h2, q2⟩ := h2
  refine ⟨_, fun X f => pgs_cons (h1 X f) (h2 X f) (hs _), fun g S ρ σ H ds vs N s rs r p => ?_⟩
  unfold gsCons at p
  split at p
  · rename_i d ds'
    simp only [RVs] at r
    obtain ⟨v, vr, rfl, r1, r2⟩ := r
    exact ⟨v, vr, rfl, q1 g S ρ σ H d v _ s rs r1 (p.seq fun ρ1 S1 g1 H1 σ1 e1 s1 rs1 p1 => q2 g1 S1 ρ1 σ1 H1 ds' vr N s1 rs1 (r2.mono s.live e1) p1)⟩
  · exact p.elim
def gTp (n : Nat) (t : TGsx) : TGx := fun d ρ S => match tupOf d with
  | some ds => if ds.length = n then t ds ρ S else .stuck
  | none => .stuck
theorem dg_tup {es : List Expr} {k n : Nat} {ws : List Nat} {t : TGsx} (h : DGs z es ws t) (hn : ∀ env, (assignEach es env).length = n := by intro _; rfl) (hst : ∀ env, (assignEach es env).findIdx? (·.1) = none := by intro _; rfl) : DG z (.Tuple es k pos) ws (gTp n t) := by
  obtain ⟨τ, h1, q1⟩ := h
  refine ⟨_, fun X f => f.K ▸ pg_tup f.calm (h1 X f) (hn _) (hst _), fun g S ρ σ H d v N s rs r p => ?_⟩
  unfold gTp at p
  split at p
  · rename_i ds e
    split at p
    · rename_i hl
      obtain ⟨a, xs, rfl, hq, hr⟩ := tup_at e r
      exact ⟨a, xs, rfl, hq, by rw [hr.length]; exact hl, q1 g S ρ σ H ds xs N s rs hr p⟩
    · exact p.elim
  · exact p.elim
def sAsg (t : TEx) (u : TGx) : TSx := fun ρ S => (t ρ S).stm ρ fun d S1 => (u d ρ S1).only
theorem ds_asg {tg e : Expr} {te : TEx} {u : TGx} {ws : List Nat} (he : DE z e te) (hg : DG z tg ws u) (hs : ∀ env, swapsWithSole [tg] e pos.line env = pure false := by intro _; rfl) (hw : ∀ env, env.scope = z.scope → swappedStores [tg] e env = pure none := by intro env h; first | rfl | (cases env; cases h; rfl))
    (h1 : ∀ env, (assignEach [tg] env).map (·.2) = [assign tg env] := by intro _; rfl) : DS z (.Assign [tg] e pos) (sAsg te u) := by
  obtain ⟨τ, h1', q1⟩ := he
  obtain ⟨τ2, h2, q2⟩ := hg
  refine ⟨_, fun X f => ps_asg (h1' X f) (h2 X f) (hs _) (hw _ f.scope) (h1 _), fun g S ρ σ H T s rs p => ?_⟩
  refine q1 g S ρ σ H _ s rs (p.stm s rs fun d S1 g1 H1 v e1 s1 rs1 r1 p1 => ?_)
  refine q2 g1 S1 ρ σ H1 d v T.nx s1 rs1 r1 ?_
  cases hu : u d ρ S1 with
  | nx ρ2 S2 =>
    rw [hu] at p1
    exact fun g' H' σ' e' s' r' _ => p1 g' H' σ' e' s' r'
  | exc C d ρ2 S2 =>
    rw [hu] at p1
    exact p1
  | _ =>
    rw [hu] at p1
    exact p1
end
mutual
def D.sub (f : Nat → D) : D → D
  | .hnd i => f i
  | .tup ds => .tup (D.subs f ds)
  | .tpl ds => .tpl (D.subs f ds)
  | .lst ds => .lst (D.subs f ds)
  | .dct kvs => .dct (D.subk f kvs)
  | .ins C fs => .ins C (D.subf f fs)
  | .exc C d => .exc C (D.sub f d)
  | d => d
def D.subs (f : Nat → D) : List D → List D
  | [] => []
  | d :: ds => D.sub f d :: D.subs f ds
def D.subk (f : Nat → D) : List (Key × D) → List (Key × D)
  | [] => []
  | (k, d) :: ds => (k, D.sub f d) :: D.subk f ds
def D.subf (f : Nat → D) : List (Str × D) → List (Str × D)
  | [] => []
  | (k, d) :: ds => (k, D.sub f d) :: D.subf f ds
end
def hfz (n : Nat) (S : List O) : Nat → Nat → D
  | 0, i => if i < n then .hnd i else .any
  | k + 1, i => if i < n then .hnd i else match S[i]? with
    | some (.lst ds) => .lst (D.subs (hfz n S k) ds)
    | some (.dct kvs) => .dct (D.subk (hfz n S k) kvs)
    | some (.ins C fs) => .ins C (D.subf (hfz n S k) fs)
    | _ => .any
def ofz (f : Nat → D) : O → O
  | .lst ds => .lst (D.subs f ds)
  | .dct kvs => .dct (D.subk f kvs)
  | .ins C fs => .ins C (D.subf f fs)
  | .tbl q => .tbl q
  | .fn x n => .fn x n
abbrev fzd : Nat := 6
def dfz (n : Nat) (S : List O) (d : D) : D := if S.length ≤ n then d else D.sub (hfz n S fzd) d
def sfz (n : Nat) (S : List O) : List O := if S.length ≤ n then S else (S.take n).map (ofz (hfz n S fzd))
def rfz (n : Nat) (S : List O) (ρ : Env1) : Env1 := if S.length ≤ n then ρ else ρ.map fun o => o.map (D.sub (hfz n S fzd))
section
variable {K : PySem.W.Frag} {g g0 : G} {S : List O} {H H0 : Hp} {n : Nat}
def G.cut (g0 : G) : G := g0
mutual
theorem RV.sub {f : Nat → D} (hb : ∀ b, g0.bad b → g.bad b) (hf : ∀ i a, g.hs[i]? = some a → RV K g0 H (f i) (.ref a)) : ∀ (d : D) (v : V), RV K g H d v → RV K g0 H (D.sub f d) v
  | .non, _, h => by simp only [D.sub, RV] at h ⊢; exact h
  | .bl _, _, h => by simp only [D.sub, RV] at h ⊢; exact h
  | .int _, _, h => by simp only [D.sub, RV] at h ⊢; exact h
  | .str _, _, h => by simp only [D.sub, RV] at h ⊢; exact h
  | .ty _, _, h => by simp only [D.sub, RV] at h ⊢; exact h
  | .tup ds, _, h => by
    simp only [D.sub, RV] at h ⊢
    obtain ⟨a, xs, e1, e2, e3⟩ := h
    refine ⟨a, xs, e1, ?_, RVs.sub hb hf ds xs e3⟩
    rcases e2 with ⟨q, nb⟩ | q
    · exact .inl ⟨q, fun z => nb (hb _ z)⟩
    · exact .inr q
  | .tpl ds, _, h => by
    simp only [D.sub, RV] at h ⊢
    obtain ⟨a, xs, e1, e2, e3⟩ := h
    refine ⟨a, xs, e1, ?_, RVs.sub hb hf ds xs e3⟩
    rcases e2 with ⟨o, q, z, nb⟩ | q
    · exact .inl ⟨o, q, z, fun z => nb (hb _ z)⟩
    · exact .inr q
  | .lst ds, _, h => by
    simp only [D.sub, RV] at h ⊢
    obtain ⟨a, xs, e1, e2, n, e3⟩ := h
    exact ⟨a, xs, e1, e2, fun z => n (hb _ z), RVs.sub hb hf ds xs e3⟩
  | .scr ns, _, h => by
    simp only [D.sub, RV] at h ⊢
    obtain ⟨a, e1, e2⟩ := h
    refine ⟨a, e1, ?_⟩
    rcases e2 with ⟨q, nb⟩ | q
    · exact .inl ⟨q, fun z => nb (hb _ z)⟩
    · exact .inr q
  | .dct kvs, _, h => by
    simp only [D.sub, RV] at h ⊢
    obtain ⟨a, xs, e1, e2, n, e3⟩ := h
    exact ⟨a, xs, e1, e2, fun z => n (hb _ z), RKs.sub hb hf kvs xs e3⟩
  | .ins C fs, _, h => by
    simp only [D.sub, RV] at h ⊢
    obtain ⟨a, dx, xs, e1, e2, n, e3⟩ := h
    exact ⟨a, dx, xs, e1, e2.sub hb, fun z => n (hb _ z), RFs.sub hb hf fs xs e3⟩
  | .cls _, _, h => by simp only [D.sub, RV] at h ⊢; exact h
  | .exc C d, _, h => by
    simp only [D.sub, RV] at h ⊢
    obtain ⟨a, dd, w, e1, e2, n, e3, n3, r⟩ := h
    exact ⟨a, dd, w, e1, e2, fun z => n (hb _ z), e3, fun z => n3 (hb _ z), RV.sub hb hf d w r⟩
  | .hnd i, _, h => by
    simp only [RV] at h
    obtain ⟨a, rfl, e2⟩ := h
    simp only [D.sub]
    exact hf i a e2
  | .any, _, _ => by simp only [D.sub, RV]
theorem RVs.sub {f : Nat → D} (hb : ∀ b, g0.bad b → g.bad b) (hf : ∀ i a, g.hs[i]? = some a → RV K g0 H (f i) (.ref a)) : ∀ (ds : List D) (xs : List V), RVs K g H ds xs → RVs K g0 H (D.subs f ds) xs
  | [], _, h => by simp only [D.subs, RVs] at h ⊢; exact h
  | d :: ds, _, h => by
    simp only [D.subs, RVs] at h ⊢
    obtain ⟨v, r, e1, e2, e3⟩ := h
    exact ⟨v, r, e1, RV.sub hb hf d v e2, RVs.sub hb hf ds r e3⟩
theorem RKs.sub {f : Nat → D} (hb : ∀ b, g0.bad b → g.bad b) (hf : ∀ i a, g.hs[i]? = some a → RV K g0 H (f i) (.ref a)) : ∀ (ds : List (Key × D)) (xs : List (Key × V)), RKs K g H ds xs → RKs K g0 H (D.subk f ds) xs
  | [], _, h => by simp only [D.subk, RKs] at h ⊢; exact h
  | (k, d) :: ds, _, h => by
    simp only [D.subk, RKs] at h ⊢
    obtain ⟨v, r, e1, e2, e3⟩ := h
    exact ⟨v, r, e1, RV.sub hb hf d v e2, RKs.sub hb hf ds r e3⟩
theorem RFs.sub {f : Nat → D} (hb : ∀ b, g0.bad b → g.bad b) (hf : ∀ i a, g.hs[i]? = some a → RV K g0 H (f i) (.ref a)) : ∀ (ds : List (Str × D)) (xs : List (Str × V)), RFs K g H ds xs → RFs K g0 H (D.subf f ds) xs
  | [], _, h => by simp only [D.subf, RFs] at h ⊢; exact h
  | (k, d) :: ds, _, h => by
    simp only [D.subf, RFs] at h ⊢
    obtain ⟨v, r, e1, e2, e3⟩ := h
    exact ⟨v, r, e1, RV.sub hb hf d v e2, RFs.sub hb hf ds r e3⟩
end
theorem RS.sub {f : Nat → D} (hb : ∀ b, g0.bad b → g.bad b) (hf : ∀ i a, g.hs[i]? = some a → RV K g0 H (f i) (.ref a)) : ∀ (ρ : Env1) (σ : L2.St), RS K g H ρ σ → RS K g0 H (ρ.map fun o => o.map (D.sub f)) σ
  | [], _, h => by simp only [List.map_nil, RS] at h ⊢; exact h
  | none :: r, _, h => by
    simp only [List.map_cons, Option.map_none, RS] at h ⊢
    obtain ⟨o, z, e1, e2⟩ := h
    exact ⟨o, z, e1, RS.sub hb hf r z e2⟩
  | some d :: r, _, h => by
    simp only [List.map_cons, Option.map_some, RS] at h ⊢
    obtain ⟨v, z, e1, e2, e3⟩ := h
    exact ⟨v, z, e1, RV.sub hb hf d v e2, RS.sub hb hf r z e3⟩
theorem RO.sub {f : Nat → D} (hb : ∀ b, g0.bad b → g.bad b) (hf : ∀ i a, g.hs[i]? = some a → RV K g0 H (f i) (.ref a)) {a : Addr} : ∀ {o : O}, RO K g H o a → RO K g0 H (ofz f o) a
  | .lst ds, ⟨xs, e1, e2⟩ => ⟨xs, e1, e2.sub hb hf ds xs⟩
  | .dct kvs, ⟨xs, e1, e2⟩ => ⟨xs, e1, e2.sub hb hf kvs xs⟩
  | .ins C fs, ⟨dx, xs, e1, e2⟩ => ⟨dx, xs, e1.sub hb, e2.sub hb hf fs xs⟩
  | .tbl q, ⟨⟨ps, e1, e2, e3⟩, ea⟩ => ⟨⟨ps, e1, e2, fun pos cv h => let ⟨c, h1, h2, h3⟩ := e3 pos cv h; ⟨c, h1, h2, fun z => h3 (hb c z)⟩⟩, ea⟩
  | .fn x n, ⟨L, c, e0, e1, e2, e3⟩ => ⟨L, c, e0, e1, e2, fun z => e3 (hb c z)⟩
structure Cut (K : PySem.W.Frag) (g0 : G) (H0 : Hp) (S0 : List O) (g : G) (H : Hp) (S : List O) : Prop where
  e : Ext g0 H0 g H
  s0 : SR K g0 S0 H0
  s : SR K g S H
theorem Cut.hf (c : Cut K g0 H0 S g H S') : ∀ k i a, g.hs[i]? = some a → RV K g0 H (hfz S.length S' k i) (.ref a) := by
  obtain ⟨l, el, fl⟩ := c.e.pre
  have low : ∀ i a, i < S.length → g.hs[i]? = some a → RV K g0 H (.hnd i) (.ref a) := fun i a hi h => by
    simp only [RV]
    refine ⟨a, rfl, ?_⟩
    rw [el, List.getElem?_append_left (by rw [c.s0.len]; exact hi)] at h
    exact h
  have nb : ∀ i a, ¬ i < S.length → g.hs[i]? = some a → ¬ g0.bad a := fun i a hi h z => by
    have m : a ∈ l := by
      rw [el, List.getElem?_append_right (by rw [c.s0.len]; omega)] at h
      exact List.mem_of_getElem? h
    obtain ⟨o, q⟩ := c.s0.trk a z
    rw [fl a m] at q
    cases q
  intro k
  induction k with
  | zero =>
    intro i a h
    unfold hfz
    split
    · exact low i a (by assumption) h
    · simp only [RV]
  | succ k ih =>
    intro i a h
    unfold hfz
    split
    · exact low i a (by assumption) h
    · rename_i hi
      split
      · rename_i ds q
        obtain ⟨xs, h1, h2⟩ := c.s.rep i a _ h q
        simp only [RV]
        exact ⟨a, xs, rfl, h1, nb i a hi h, RVs.sub c.e.sub ih ds xs h2⟩
      · rename_i kvs q
        obtain ⟨xs, h1, h2⟩ := c.s.rep i a _ h q
        simp only [RV]
        exact ⟨a, xs, rfl, .inl h1, nb i a hi h, RKs.sub c.e.sub ih kvs xs h2⟩
      · rename_i C fs q
        obtain ⟨dx, xs, h1, h2⟩ := c.s.rep i a _ h q
        simp only [RV]
        exact ⟨a, dx, xs, rfl, h1.sub c.e.sub, nb i a hi h, RFs.sub c.e.sub ih fs xs h2⟩
      · simp only [RV]
variable {S' : List O}
theorem Cut.le (c : Cut K g0 H0 S g H S') : S.length ≤ S'.length := by
  obtain ⟨l, el, _⟩ := c.e.pre
  rw [← c.s0.len, ← c.s.len, el, List.length_append]
  omega
theorem Cut.hs_eq (c : Cut K g0 H0 S g H S') (h : S'.length ≤ S.length) : g.hs = g0.hs := by
  obtain ⟨l, el, _⟩ := c.e.pre
  have q : l.length = 0 := by
    have h1 := c.s0.len
    have h2 := c.s.len
    rw [el, List.length_append] at h2
    omega
  rw [el, List.length_eq_zero_iff.mp q, List.append_nil]
mutual
theorem RV.anti (hb : ∀ b, g0.bad b → g.bad b) (hh : ∀ (i : Nat) (a : Addr), g.hs[i]? = some a → g0.hs[i]? = some a) : ∀ (d : D) (v : V), RV K g H d v → RV K g0 H d v
  | .non, _, h => by simp only [RV] at h ⊢; exact h
  | .bl _, _, h => by simp only [RV] at h ⊢; exact h
  | .int _, _, h => by simp only [RV] at h ⊢; exact h
  | .str _, _, h => by simp only [RV] at h ⊢; exact h
  | .ty _, _, h => by simp only [RV] at h ⊢; exact h
  | .tup ds, _, h => by
    simp only [RV] at h ⊢
    obtain ⟨a, xs, e1, e2, e3⟩ := h
    refine ⟨a, xs, e1, ?_, RVs.anti hb hh ds xs e3⟩
    rcases e2 with ⟨q, nb⟩ | q
    · exact .inl ⟨q, fun z => nb (hb _ z)⟩
    · exact .inr q
  | .tpl ds, _, h => by
    simp only [RV] at h ⊢
    obtain ⟨a, xs, e1, e2, e3⟩ := h
    refine ⟨a, xs, e1, ?_, RVs.anti hb hh ds xs e3⟩
    rcases e2 with ⟨o, q, z, nb⟩ | q
    · exact .inl ⟨o, q, z, fun z => nb (hb _ z)⟩
    · exact .inr q
  | .lst ds, _, h => by
    simp only [RV] at h ⊢
    obtain ⟨a, xs, e1, e2, n, e3⟩ := h
    exact ⟨a, xs, e1, e2, fun z => n (hb _ z), RVs.anti hb hh ds xs e3⟩
  | .scr ns, _, h => by
    simp only [RV] at h ⊢
    obtain ⟨a, e1, e2⟩ := h
    refine ⟨a, e1, ?_⟩
    rcases e2 with ⟨q, nb⟩ | q
    · exact .inl ⟨q, fun z => nb (hb _ z)⟩
    · exact .inr q
  | .dct kvs, _, h => by
    simp only [RV] at h ⊢
    obtain ⟨a, xs, e1, e2, n, e3⟩ := h
    exact ⟨a, xs, e1, e2, fun z => n (hb _ z), RKs.anti hb hh kvs xs e3⟩
  | .ins C fs, _, h => by
    simp only [RV] at h ⊢
    obtain ⟨a, dx, xs, e1, e2, n, e3⟩ := h
    exact ⟨a, dx, xs, e1, e2.sub hb, fun z => n (hb _ z), RFs.anti hb hh fs xs e3⟩
  | .cls _, _, h => by simp only [RV] at h ⊢; exact h
  | .exc C d, _, h => by
    simp only [RV] at h ⊢
    obtain ⟨a, dd, w, e1, e2, n, e3, n3, r⟩ := h
    exact ⟨a, dd, w, e1, e2, fun z => n (hb _ z), e3, fun z => n3 (hb _ z), RV.anti hb hh d w r⟩
  | .hnd i, _, h => by
    simp only [RV] at h ⊢
    obtain ⟨a, e1, e2⟩ := h
    exact ⟨a, e1, hh i a e2⟩
  | .any, _, _ => by simp only [RV]
theorem RVs.anti (hb : ∀ b, g0.bad b → g.bad b) (hh : ∀ (i : Nat) (a : Addr), g.hs[i]? = some a → g0.hs[i]? = some a) : ∀ (ds : List D) (xs : List V), RVs K g H ds xs → RVs K g0 H ds xs
  | [], _, h => by simp only [RVs] at h ⊢; exact h
  | d :: ds, _, h => by
    simp only [RVs] at h ⊢
    obtain ⟨v, r, e1, e2, e3⟩ := h
    exact ⟨v, r, e1, RV.anti hb hh d v e2, RVs.anti hb hh ds r e3⟩
theorem RKs.anti (hb : ∀ b, g0.bad b → g.bad b) (hh : ∀ (i : Nat) (a : Addr), g.hs[i]? = some a → g0.hs[i]? = some a) : ∀ (ds : List (Key × D)) (xs : List (Key × V)), RKs K g H ds xs → RKs K g0 H ds xs
  | [], _, h => by simp only [RKs] at h ⊢; exact h
  | (k, d) :: ds, _, h => by
    simp only [RKs] at h ⊢
    obtain ⟨v, r, e1, e2, e3⟩ := h
    exact ⟨v, r, e1, RV.anti hb hh d v e2, RKs.anti hb hh ds r e3⟩
theorem RFs.anti (hb : ∀ b, g0.bad b → g.bad b) (hh : ∀ (i : Nat) (a : Addr), g.hs[i]? = some a → g0.hs[i]? = some a) : ∀ (ds : List (Str × D)) (xs : List (Str × V)), RFs K g H ds xs → RFs K g0 H ds xs
  | [], _, h => by simp only [RFs] at h ⊢; exact h
  | (k, d) :: ds, _, h => by
    simp only [RFs] at h ⊢
    obtain ⟨v, r, e1, e2, e3⟩ := h
    exact ⟨v, r, e1, RV.anti hb hh d v e2, RFs.anti hb hh ds r e3⟩
end
theorem RS.anti (hb : ∀ b, g0.bad b → g.bad b) (hh : ∀ (i : Nat) (a : Addr), g.hs[i]? = some a → g0.hs[i]? = some a) : ∀ (ρ : Env1) (σ : L2.St), RS K g H ρ σ → RS K g0 H ρ σ
  | [], _, h => by simp only [RS] at h ⊢; exact h
  | none :: r, _, h => by
    simp only [RS] at h ⊢
    obtain ⟨o, z, e1, e2⟩ := h
    exact ⟨o, z, e1, RS.anti hb hh r z e2⟩
  | some d :: r, _, h => by
    simp only [RS] at h ⊢
    obtain ⟨v, z, e1, e2, e3⟩ := h
    exact ⟨v, z, e1, RV.anti hb hh d v e2, RS.anti hb hh r z e3⟩
theorem RO.anti (hb : ∀ b, g0.bad b → g.bad b) (hh : ∀ (i : Nat) (a : Addr), g.hs[i]? = some a → g0.hs[i]? = some a) {a : Addr} : ∀ {o : O}, RO K g H o a → RO K g0 H o a
  | .lst ds, ⟨xs, e1, e2⟩ => ⟨xs, e1, e2.anti hb hh ds xs⟩
  | .dct kvs, ⟨xs, e1, e2⟩ => ⟨xs, e1, e2.anti hb hh kvs xs⟩
  | .ins C fs, ⟨dx, xs, e1, e2⟩ => ⟨dx, xs, e1.sub hb, e2.anti hb hh fs xs⟩
  | .tbl q, ⟨⟨ps, e1, e2, e3⟩, ea⟩ => ⟨⟨ps, e1, e2, fun pos cv h => let ⟨c, h1, h2, h3⟩ := e3 pos cv h; ⟨c, h1, h2, fun z => h3 (hb c z)⟩⟩, ea⟩
  | .fn x n, ⟨L, c, e0, e1, e2, e3⟩ => ⟨L, c, e0, e1, e2, fun z => e3 (hb c z)⟩
theorem Cut.ext (c : Cut K g0 H0 S g H S') : Ext g0 H0 g0 H := ⟨c.e.kp0, c.e.kb, fun _ _ _ n => n, fun _ h => h, [], by simp, fun _ h => by cases h⟩
theorem Cut.sr (c : Cut K g0 H0 S g H S') : SR K g0 (sfz S.length S') H := by
  obtain ⟨l, el, fl⟩ := id c.e.pre
  have trk : ∀ a, g0.bad a → ∃ o, H a = some o := fun a h => c.s.trk a (c.e.sub a h)
  unfold sfz
  split
  · rename_i hz
    have hh := c.hs_eq hz
    exact ⟨by rw [← hh, c.s.len], c.s0.nd, c.s0.live, trk, fun i a o h1 h2 => (c.s.rep i a o (by rw [hh]; exact h1) h2).anti c.e.sub fun _ _ q => by rw [← hh]; exact q⟩
  · refine ⟨?_, c.s0.nd, c.s0.live, trk, fun i a o h1 h2 => ?_⟩
    · rw [List.length_map, List.length_take, c.s0.len, Nat.min_eq_left c.le]
    · rw [List.getElem?_map] at h2
      have hi : i < S.length := by
        rw [← c.s0.len]
        exact (List.getElem?_eq_some_iff.mp h1).1
      rw [List.getElem?_take_of_lt hi] at h2
      cases q : S'[i]? with
      | none => rw [q] at h2; cases h2
      | some ob =>
        rw [q] at h2
        cases h2
        have h1' : g.hs[i]? = some a := by
          rw [el, List.getElem?_append_left (by rw [c.s0.len]; exact hi)]
          exact h1
        exact (c.s.rep i a ob h1' q).sub c.e.sub (c.hf fzd)
theorem Cut.rv (c : Cut K g0 H0 S g H S') {d : D} {v : V} (r : RV K g H d v) : RV K g0 H (dfz S.length S' d) v := by
  unfold dfz
  split
  · exact RV.anti c.e.sub (fun _ _ q => by rw [← c.hs_eq (by assumption)]; exact q) d v r
  · exact RV.sub c.e.sub (c.hf fzd) d v r
theorem Cut.rs (c : Cut K g0 H0 S g H S') {ρ : Env1} {σ : L2.St} (r : RS K g H ρ σ) : RS K g0 H (rfz S.length S' ρ) σ := by
  unfold rfz
  split
  · exact RS.anti c.e.sub (fun _ _ q => by rw [← c.hs_eq (by assumption)]; exact q) ρ σ r
  · exact RS.sub c.e.sub (c.hf fzd) ρ σ r
theorem Cut.rx (c : Cut K g0 H0 S g H S') {C : Str} {d : D} {cv : Value} {dd : Option Addr} (r : RX K g H C d cv dd) : RX K g0 H C (dfz S.length S' d) cv dd := by
  obtain ⟨e, Dd, w, e1, e2, n, r⟩ := r
  exact ⟨e, Dd, w, e1, e2, fun z => n (c.e.sub _ z), c.rv r⟩
end
def Out.cut (n : Nat) : Out D → Out D
  | .ok d S => .ok (dfz n S d) (sfz n S)
  | .exc C d S => .exc C (dfz n S d) (sfz n S)
  | .stuck => .stuck
def OutS.cut (n : Nat) : OutS → OutS
  | .nx ρ S => .nx (rfz n S ρ) (sfz n S)
  | .rt d S => .rt (dfz n S d) (sfz n S)
  | .bk ρ S => .bk (rfz n S ρ) (sfz n S)
  | .ct ρ S => .ct (rfz n S ρ) (sfz n S)
  | .exc C d ρ S => .exc C (dfz n S d) (rfz n S ρ) (sfz n S)
  | .stuck => .stuck
section
variable {K : PySem.W.Frag} {W : WX} {g : G} {H : Hp} {S : List O} {σ : L2.St}
theorem Post.cut {Q : VK} (s : SR K g S H) : ∀ {o : Out D}, Post K W (RV K) g H σ Q (o.cut S.length) → Post K W (RV K) g H σ Q o
  | .ok d S', h => fun g' H' v e s' r => have c : Cut K g H S g' H' S' := ⟨e, s, s'⟩; h g H' v c.ext c.sr (c.rv r)
  | .exc C d S', h => fun g' H' v dd e s' r => have c : Cut K g H S g' H' S' := ⟨e, s, s'⟩; h g H' v dd c.ext c.sr (c.rx r)
  | .stuck, h => h
theorem PostS.cut {T : Ends} (s : SR K g S H) : ∀ {o : OutS}, PostS K W g H T (o.cut S.length) → PostS K W g H T o
  | .nx ρ S', h => fun g' H' v e s' r => have c : Cut K g H S g' H' S' := ⟨e, s, s'⟩; h g H' v c.ext c.sr (c.rs r)
  | .rt d S', h => fun g' H' v e s' r => have c : Cut K g H S g' H' S' := ⟨e, s, s'⟩; h g H' v c.ext c.sr (c.rv r)
  | .bk ρ S', h => fun g' H' v e s' r => have c : Cut K g H S g' H' S' := ⟨e, s, s'⟩; h g H' v c.ext c.sr (c.rs r)
  | .ct ρ S', h => fun g' H' v e s' r => have c : Cut K g H S g' H' S' := ⟨e, s, s'⟩; h g H' v c.ext c.sr (c.rs r)
  | .exc C d ρ S', h => fun g' H' v cc dd e s' r x => have c : Cut K g H S g' H' S' := ⟨e, s, s'⟩; h g H' v cc dd c.ext c.sr (c.rs r) (c.rx x)
  | .stuck, h => h
end
def eCut (t : TEx) : TEx := fun ρ S => (t ρ S).cut S.length
def sCut (t : TSx) : TSx := fun ρ S => (t ρ S).cut S.length
theorem de_cut {z : Sg} {e : Expr} {t : TEx} (h : DE z e t) : DE z e (eCut t) := by
  obtain ⟨τ, h1, q1⟩ := h
  exact ⟨τ, h1, fun g S ρ σ H Q s rs p => q1 g S ρ σ H Q s rs (Post.cut s p)⟩
theorem dss_cut {z : Sg} {e : List Stmt} {t : TSx} (h : DSs z e t) : DSs z e (sCut t) := by
  obtain ⟨τ, h1, q1⟩ := h
  exact ⟨τ, h1, fun g S ρ σ H Q s rs p => q1 g S ρ σ H Q s rs (PostS.cut s p)⟩
end TL
set_option Elab.async false
set_option linter.all false
set_option maxRecDepth 100000
set_option maxHeartbeats 4000000
namespace TL
open PySem PySem.Spec PyProof.Rows L2
def ItR (K : PySem.W.Frag) (g : G) (H : Hp) (ds : List D) (J : It) : Prop :=
  ∃ Gd Y, Walk J ds.length Gd Y ∧ (∀ g' H', Ext g H g' H' → Gd H') ∧
    ∀ i H1 x H2 g1 S1, i < ds.length → Ext g H g1 H1 → SR K g1 S1 H1 → Y i H1 x H2 → (∀ b u, H1 b = some u → H2 b = some u) ∧ ∃ d, ds[i]? = some d ∧ RV K g1 H2 d x
abbrev TIx := Env1 → List O → Out (List D)
def DI (z : Sg) (tg iter : Expr) (t : TIx) : Prop :=
  ∃ wi, (∀ X, Fits z X → PI X tg iter wi) ∧ ∀ g S ρ σ H R, SR z.K g S H → RS z.K g H ρ σ → Post z.K z.W (ItR z.K) g H σ R (t ρ S) → wi σ H R
def iLst (t : TEx) : TIx := fun ρ S => (t ρ S).bind fun d S1 => match d with
  | .lst ds => .ok ds S1
  | .scr ns => .ok (ns.map D.int) S1
  | _ => .stuck
def iTp (t : TEx) : TIx := fun ρ S => (t ρ S).bind fun d S1 => match d with
  | .tup ds => .ok ds S1
  | _ => .stuck
def signs (x : Str) : List D := x.cps.toList.map fun c => D.str ⟨#[c]⟩
def iStx (t : TEx) : TIx := fun ρ S => (t ρ S).bind fun d S1 => match d with
  | .str x => .ok (signs x) S1
  | _ => .stuck
def rng (a b : Int) : List D := (List.range (b - a).toNat).map fun i => D.int (a + (i : Nat))
def iRg1 (t : TAx) : TIx := fun ρ S => (t ρ S).bind fun ds S1 => match ds with
  | [.int j] => if -(2 ^ 62) ≤ j ∧ j < 2 ^ 62 then .ok (rng 0 j) S1 else .stuck
  | _ => .stuck
def iRg2 (t : TAx) : TIx := fun ρ S => (t ρ S).bind fun ds S1 => match ds with
  | [.int i, .int j] => if -(2 ^ 62) ≤ i ∧ i < 2 ^ 62 ∧ -(2 ^ 62) ≤ j ∧ j < 2 ^ 62 then .ok (rng i j) S1 else .stuck
  | _ => .stuck
def enumD (ds : List D) : List D := ds.zipIdx.map fun p => D.tup [.int (p.2 : Nat), p.1]
def iEn (t : TAx) : TIx := fun ρ S => (t ρ S).bind fun ds S1 => match ds with
  | [.lst ds] => .ok (enumD ds) S1
  | _ => .stuck
def zipD (as bs : List D) : List D := (as.zip bs).map fun p => D.tup [p.1, p.2]
def iZp (t : TAx) : TIx := fun ρ S => (t ρ S).bind fun ds S1 => match ds with
  | [.lst as, .lst bs] => .ok (zipD as bs) S1
  | [.tup as, .tup bs] => .ok (zipD as bs) S1
  | _ => .stuck
section
variable {z : Sg} {tg e : Expr} {t : TEx} {ta : TAx} {p pos : Pos}
theorem itr_at {K : PySem.W.Frag} {g : G} {H : Hp} {ds : List D} {xs : List V} {J : It} {Gd : Hp → Prop} (w : Walk J ds.length Gd (YAt xs)) (hG : ∀ g' H', Ext g H g' H' → Gd H') (hl : ∀ a ∈ g.hs, g.bad a) (r : RVs K g H ds xs) : ItR K g H ds J := by
  refine ⟨Gd, _, w, hG, fun i H1 x H2 g1 S1 hi e l1 y => ?_⟩
  obtain ⟨rfl, hx⟩ := y
  refine ⟨fun _ _ q => q, ds[i], List.getElem?_eq_getElem hi, ?_⟩
  obtain ⟨v, e1, e2⟩ := (r.mono hl e).get (List.getElem?_eq_getElem hi)
  rw [hx] at e1
  cases e1
  exact e2
theorem di_lst (h : DE z e t) : DI z tg e (iLst t) := by
  obtain ⟨τ, h1, q1⟩ := h
  refine ⟨_, fun X f => f.K ▸ pi_list (h1 X f), fun g S ρ σ H R s rs p => ?_⟩
  refine q1 g S ρ σ H _ s rs (p.bind fun d S1 g1 H1 v e1 s1 r1 p1 => ?_)
  split at p1
  · rename_i ds
    simp only [RV] at r1
    obtain ⟨a, xs, rfl, ha, hb, hr⟩ := r1
    have hG : ∀ g' H', Ext g1 H1 g' H' → SqL z.K H' a xs := fun g' H' e => .inl (.inl (e.keep _ _ ha fun m => hb (s1.live _ m)))
    refine ⟨a, rfl, ⟨xs, hG g1 H1 (Ext.refl _ _)⟩, p1.here s1 (itr_at (xs := xs) ?_ hG s1.live hr)⟩
    rw [← hr.length]
    exact walk_list
  · rename_i ns
    simp only [RV] at r1
    obtain ⟨a, rfl, ha⟩ := r1
    have hG : ∀ g' H', Ext g1 H1 g' H' → SqL z.K H' a (ns.map V.int) := fun g' H' e => (ha.mono s1.live e).sq
    refine ⟨a, rfl, ⟨_, hG g1 H1 (Ext.refl _ _)⟩, p1.here s1 (itr_at (xs := ns.map V.int) ?_ hG s1.live (RVs.ints ns))⟩
    rw [List.length_map, ← List.length_map (f := V.int)]
    exact walk_list
  · exact p1.elim
theorem di_tup (h : DE z e t) : DI z tg e (iTp t) := by
  obtain ⟨τ, h1, q1⟩ := h
  refine ⟨_, fun X f => f.K ▸ pi_tup (h1 X f), fun g S ρ σ H R s rs p => ?_⟩
  refine q1 g S ρ σ H _ s rs (p.bind fun d S1 g1 H1 v e1 s1 r1 p1 => ?_)
  split at p1
  · rename_i ds
    simp only [RV] at r1
    obtain ⟨a, xs, rfl, ha, hr⟩ := r1
    have hG : ∀ g' H', Ext g1 H1 g' H' → SqT z.K H' a xs := fun g' H' e => (ha.mono s1.live e).sq
    refine ⟨a, rfl, ⟨xs, hG g1 H1 (Ext.refl _ _)⟩, p1.here s1 (itr_at (xs := xs) ?_ hG s1.live hr)⟩
    rw [← hr.length]
    exact walk_tup
  · exact p1.elim
theorem di_str (h : DE z e t) : DI z tg e (iStx t) := by
  obtain ⟨τ, h1, q1⟩ := h
  refine ⟨_, fun X f => pi_str (h1 X f), fun g S ρ σ H R s rs p => ?_⟩
  refine q1 g S ρ σ H _ s rs (p.bind fun d S1 g1 H1 v e1 s1 r1 p1 => ?_)
  split at p1
  · rename_i x
    rw [rv_str r1]
    refine ⟨x, rfl, p1.here s1 ⟨fun _ => True, fun i H v H' => H' = H ∧ ∃ c, x.cps[i]? = some c ∧ v = .str ⟨#[c]⟩, ?_, fun _ _ _ => trivial, fun i H1 v H2 g2 S2 hi e2 _ y => ?_⟩⟩
    · rw [show (signs x).length = x.cps.size by simp [signs]]
      exact walk_str
    · obtain ⟨rfl, c, hc, rfl⟩ := y
      refine ⟨fun _ _ q => q, .str ⟨#[c]⟩, ?_, by simp only [RV]⟩
      rw [signs, List.getElem?_map, Array.getElem?_toList, hc]
      rfl
  · exact p1.elim
theorem rng_walk {K : PySem.W.Frag} {g : G} {H : Hp} (i j : Int) : ItR K g H (rng i j) (Itr i (j - i).toNat) := by
  refine ⟨fun _ => True, YFn fun k => .int (i + k), ?_, fun _ _ _ => trivial, fun k H1 v H2 g2 S2 hk e2 _ y => ?_⟩
  · rw [show (rng i j).length = (j - i).toNat by simp [rng]]
    exact walk_range
  · obtain ⟨rfl, rfl⟩ := y
    refine ⟨fun _ _ q => q, .int (i + k), ?_, by simp only [RV]⟩
    have hk : k < (j - i).toNat := by simpa [rng] using hk
    rw [rng, List.getElem?_map, List.getElem?_range hk]
    rfl
theorem di_rng1 {a : Expr} (h : DA z [a] ta) (hm : z.mg "range" = none) (hg : Gz z "range" := by rfl) (hs : ∀ env, starEach [a] env = [(false, eval a env)] := by intro _; rfl) : DI z tg (.Call (.Name "range" p) [a] [] pos) (iRg1 ta) := by
  obtain ⟨τ, h1, q1⟩ := h
  refine ⟨_, fun X f => pi_range1 (f.gl hg) (f.mgl hm) (h1 X f) (hs _), fun g S ρ σ H R s rs p => ?_⟩
  refine q1 g S ρ σ H _ s rs (p.bind fun d S1 g1 H1 v e1 s1 r1 p1 => ?_)
  split at p1
  · rename_i j
    simp only [RVs, RV] at r1
    obtain ⟨v', r, rfl, rfl, rfl⟩ := r1
    split at p1
    · rename_i hj
      refine ⟨j, rfl, hj.1, hj.2, p1.here s1 ?_⟩
      have q := rng_walk (K := z.K) (g := g1) (H := H1) 0 j
      rwa [show (j - 0).toNat = j.toNat by simp] at q
    · exact p1.elim
  · exact p1.elim
theorem itr_pair {K : PySem.W.Frag} {g : G} {H : Hp} {ds : List D} {J : It} {Gd : Hp → Prop} {fx fy : Nat → Option V} {n : Nat} (w : Walk J n Gd (YPair fx fy)) (hn : ds.length = n) (hG : ∀ g' H', Ext g H g' H' → Gd H')
    (hd : ∀ i x y g1 H1, fx i = some x → fy i = some y → Ext g H g1 H1 → ∃ a b, ds[i]? = some (.tup [a, b]) ∧ RV K g1 H1 a x ∧ RV K g1 H1 b y) : ItR K g H ds J := by
  subst hn
  refine ⟨Gd, _, w, hG, fun i H1 x H2 g1 S1 hi e l1 y => ?_⟩
  obtain ⟨T, x', y', rfl, hT, rfl, h1, h2⟩ := y
  obtain ⟨a, b, e1, ra, rb⟩ := hd i x' y' g1 H1 h1 h2 e
  have hsm : ∀ c u, H1 c = some u → upd H1 T (.tup [x', y']) c = some u := same_new hT
  have e2 : Ext g1 H1 g1 (upd H1 T (.tup [x', y'])) := Ext.same hsm
  refine ⟨hsm, _, e1, ?_⟩
  simp only [RV]
  refine ⟨T, _, rfl, .inl ⟨.inl upd_same, l1.unbad hT⟩, ?_⟩
  simp only [RVs]
  exact ⟨x', _, rfl, ra.mono l1.live e2, y', _, rfl, rb.mono l1.live e2, rfl⟩
end
end TL
set_option Elab.async false
set_option linter.all false
set_option maxRecDepth 100000
set_option maxHeartbeats 4000000
namespace TL
open PySem PySem.Spec PyProof.Rows L2
section
variable {z : Sg} {tg e : Expr} {t : TEx} {ta : TAx} {p pos : Pos}
theorem di_enum {elts : List Expr} {kk : Nat} {tpos : Pos} (h : DA z [e] ta) (hm : z.mg "enumerate" = none) (hg : Gz z "enumerate" := by rfl) (hs : ∀ env, starEach [e] env = [(false, eval e env)] := by intro _; rfl) : DI z (.Tuple elts kk tpos) (.Call (.Name "enumerate" p) [e] [] pos) (iEn ta) := by
  obtain ⟨τ, h1, q1⟩ := h
  refine ⟨_, fun X f => f.K ▸ pi_enum (f.gl hg) (f.mgl hm) (h1 X f) (hs _), fun g S ρ σ H R s rs p => ?_⟩
  refine q1 g S ρ σ H _ s rs (p.bind fun d S1 g1 H1 v e1 s1 r1 p1 => ?_)
  split at p1
  · rename_i ds
    simp only [RVs, RV] at r1
    obtain ⟨v', r, rfl, ⟨a, xs, rfl, ha, hb, hr⟩, rfl⟩ := r1
    have hl := hr.length
    refine ⟨a, xs, rfl, .inl (.inl ha), p1.here s1 (itr_pair walk_enum (by simp [enumD, hl]) (fun g' H' e => .inl (.inl (e.keep _ _ ha fun m => hb (s1.live _ m)))) fun i x y g2 H2 h1 h2 e2 => ?_)⟩
    cases h1
    have hi : i < ds.length := by
      rw [← hl]
      exact (List.getElem?_eq_some_iff.mp h2).1
    obtain ⟨w, e3, e4⟩ := (hr.mono s1.live e2).get (List.getElem?_eq_getElem hi)
    rw [h2] at e3
    cases e3
    refine ⟨.int (i : Nat), ds[i], ?_, by simp only [RV], e4⟩
    simp [enumD, hi]
  · exact p1.elim
theorem walk_zipT {K : PySem.W.Frag} {a b : Addr} {xs ys : List V} {n : Nat} (hn : n = min xs.length ys.length) : Walk (RZ.ItzT K a b) n (fun H => SqT K H a xs ∧ SqT K H b ys) (YPair (fun i => xs[i]?) (fun i => ys[i]?)) := by
  subst hn
  refine ⟨fun i _ hi q => ?_, fun _ q => ⟨xs, ys, q.1, q.2, by omega⟩, fun i H v H' _ q y => ?_⟩
  · have h1 : i < xs.length := by omega
    have h2 : i < ys.length := by omega
    exact ⟨xs, ys, xs[i], ys[i], q.1, q.2, by simp [h1], by simp [h2]⟩
  · obtain ⟨T, x, z, h1, h2, h3, h4, h5⟩ := y
    exact ⟨T, x, z, h1, h2, h3, h4 xs q.1, h5 ys q.2⟩
theorem di_zip {elts : List Expr} {kk : Nat} {tpos : Pos} {e2 : Expr} (h : DA z [e, e2] ta) (hm : z.mg "zip" = none) (hg : Gz z "zip" := by rfl) (hs : ∀ env, starEach [e, e2] env = (false, eval e env) :: starEach [e2] env := by intro _; rfl) (hpl : ∀ env, (backTo pos (starEach [e2] env)).any (·.1) = false := by intro _; rfl) :
    DI z (.Tuple elts kk tpos) (.Call (.Name "zip" p) [e, e2] [] pos) (iZp ta) := by
  obtain ⟨τ, h1, q1⟩ := h
  refine ⟨_, fun X f => f.K ▸ RZ.pi_zipA (f.gl hg) (f.mgl hm) (h1 X f) (hs _) (hpl _), fun g S ρ σ H R s rs p => ?_⟩
  refine q1 g S ρ σ H _ s rs (p.bind fun d S1 g1 H1 v e1 s1 r1 p1 => ?_)
  split at p1
  · rename_i as bs
    simp only [RVs, RV] at r1
    obtain ⟨v', r, rfl, ⟨a, xs, rfl, ha, hb, hr⟩, v2, r2, rfl, ⟨b, ys, rfl, hb1, hb2, hr2⟩, rfl⟩ := r1
    have hl := hr.length
    have hl2 := hr2.length
    have hG1 : ∀ g' H', Ext g1 H1 g' H' → H' a = some (.lst xs) := fun g' H' e => e.keep _ _ ha fun m => hb (s1.live _ m)
    have hG2 : ∀ g' H', Ext g1 H1 g' H' → H' b = some (.lst ys) := fun g' H' e => e.keep _ _ hb1 fun m => hb2 (s1.live _ m)
    refine ⟨a, b, xs, ys, rfl, .inl ⟨.inl (.inl ha), .inl (.inl hb1), p1.here s1 (itr_pair (walk_zip rfl) (by simp [zipD, hl, hl2]) (fun g' H' e => ⟨.inl (.inl (hG1 g' H' e)), .inl (.inl (hG2 g' H' e))⟩) fun i x y g2 H2 h1 h2 e2 => ?_)⟩⟩
    have hi : i < as.length := by
      rw [← hl]
      exact (List.getElem?_eq_some_iff.mp h1).1
    have hj : i < bs.length := by
      rw [← hl2]
      exact (List.getElem?_eq_some_iff.mp h2).1
    obtain ⟨w, e3, e4⟩ := (hr.mono s1.live e2).get (List.getElem?_eq_getElem hi)
    rw [h1] at e3
    cases e3
    obtain ⟨w2, e5, e6⟩ := (hr2.mono s1.live e2).get (List.getElem?_eq_getElem hj)
    rw [h2] at e5
    cases e5
    refine ⟨as[i], bs[i], ?_, e4, e6⟩
    rw [zipD, List.getElem?_map, show (as.zip bs)[i]? = some (as[i], bs[i]) from List.getElem?_zip_eq_some.mpr ⟨List.getElem?_eq_getElem hi, List.getElem?_eq_getElem hj⟩]
    rfl
  · rename_i as bs
    simp only [RVs, RV] at r1
    obtain ⟨v', r, rfl, ⟨a, xs, rfl, ha, hr⟩, v2, r2, rfl, ⟨b, ys, rfl, hb1, hr2⟩, rfl⟩ := r1
    have hl := hr.length
    have hl2 := hr2.length
    have hG1 : ∀ g' H', Ext g1 H1 g' H' → SqT z.K H' a xs := fun g' H' e => (ha.mono s1.live e).sq
    have hG2 : ∀ g' H', Ext g1 H1 g' H' → SqT z.K H' b ys := fun g' H' e => (hb1.mono s1.live e).sq
    refine ⟨a, b, xs, ys, rfl, .inr ⟨ha.sq, hb1.sq, p1.here s1 (itr_pair (walk_zipT rfl) (by simp [zipD, hl, hl2]) (fun g' H' e => ⟨hG1 g' H' e, hG2 g' H' e⟩) fun i x y g2 H2 h1 h2 e2 => ?_)⟩⟩
    have hi : i < as.length := by
      rw [← hl]
      exact (List.getElem?_eq_some_iff.mp h1).1
    have hj : i < bs.length := by
      rw [← hl2]
      exact (List.getElem?_eq_some_iff.mp h2).1
    obtain ⟨w, e3, e4⟩ := (hr.mono s1.live e2).get (List.getElem?_eq_getElem hi)
    rw [h1] at e3
    cases e3
    obtain ⟨w2, e5, e6⟩ := (hr2.mono s1.live e2).get (List.getElem?_eq_getElem hj)
    rw [h2] at e5
    cases e5
    refine ⟨as[i], bs[i], ?_, e4, e6⟩
    rw [zipD, List.getElem?_map, show (as.zip bs)[i]? = some (as[i], bs[i]) from List.getElem?_zip_eq_some.mpr ⟨List.getElem?_eq_getElem hi, List.getElem?_eq_getElem hj⟩]
    rfl
  · exact p1.elim
end
def OutS.turn (o : OutS) (k : TSx) : OutS := match o with
  | .nx ρ S => k ρ S
  | .ct ρ S => k ρ S
  | .bk ρ S => .nx ρ S
  | o => o
def forL (tg : TGx) (tb : TSx) : List D → Env1 → List O → OutS
  | [], ρ, S => .nx ρ S
  | d :: ds, ρ, S => (tg d ρ S).only.seq fun ρ1 S1 => (tb ρ1 S1).turn (forL tg tb ds)
def sFor (ti : TIx) (tg : TGx) (tb : TSx) : TSx := fun ρ S => (ti ρ S).stm ρ fun ds S1 => forL tg tb ds ρ S1
theorem PostS.turn {K : PySem.W.Frag} {W : WX} {g : G} {H : Hp} {T : Ends} {o : OutS} {u : TSx} {N : L2.St → Hp → Prop} (h : PostS K W g H T (o.turn u)) (hn : ∀ ρ S g1 H1 σ, Ext g H g1 H1 → SR K g1 S H1 → RS K g1 H1 ρ σ → PostS K W g1 H1 T (u ρ S) → N σ H1) :
    PostS K W g H { T with nx := N, ct := N, bk := T.nx } o := by
  cases o with
  | nx ρ S => exact fun g1 H1 σ e s r => hn ρ S g1 H1 σ e s r (PostS.later e s h)
  | ct ρ S => exact fun g1 H1 σ e s r => hn ρ S g1 H1 σ e s r (PostS.later e s h)
  | rt d S => exact h
  | bk ρ S => exact h
  | exc C d ρ S => exact h
  | stuck => exact h
section
variable {z : Sg} {pos : Pos}
theorem ds_for {tg iter : Expr} {body : List Stmt} {ws : List Nat} {ti : TIx} {t : TGx} {tb : TSx} (hi : DI z tg iter ti) (hg : DG z tg ws t) (hb : DSs z body tb) (hs : ∀ env x, foldedSetIterable iter env x = pure x := by intro _ _; rfl) : DS z (.For tg iter body [] pos) (sFor ti t tb) := by
  obtain ⟨wi, h1, q1⟩ := hi
  obtain ⟨τg, h2, q2⟩ := hg
  obtain ⟨τb, h3, q3⟩ := hb
  refine ⟨_, fun X f => ps_for f.own f.calm (h1 X f) (h2 X f) (h3 X f) (hs _), fun g S ρ σ H T s rs p => ?_⟩
  refine q1 g S ρ σ H _ s rs (p.stm s rs fun ds S1 g1 H1 J e1 s1 rs1 r1 p1 => ?_)
  obtain ⟨Gd, Y, w, hG, hY⟩ := r1
  refine for_it w (fun i σ' H' => ∃ g' S' ρ', Ext g1 H1 g' H' ∧ SR z.K g' S' H' ∧ RS z.K g' H' ρ' σ' ∧ PostS z.K z.W g' H' T (forL t tb (ds.drop i) ρ' S')) ⟨g1, S1, ρ, Ext.refl _ _, s1, rs1, p1⟩ (fun i σ' H' _ h => ?_) (fun i x σ' H' H2 hi h y => ?_) fun σ' H' h => ?_
  · obtain ⟨g', S', ρ', e', s', rs', p'⟩ := h
    exact hG g' H' e'
  · obtain ⟨g', S', ρ', e', s', rs', p'⟩ := h
    obtain ⟨hk, d, hd, rd⟩ := hY i H' x H2 g' S' hi e' s' y
    have e2 : Ext g' H' g' H2 := Ext.same hk
    have s2 : SR z.K g' S' H2 := s'.same hk
    have eq : ds.drop i = d :: ds.drop (i + 1) := by
      obtain ⟨hl, hv⟩ := List.getElem?_eq_some_iff.mp hd
      rw [List.drop_eq_getElem_cons hl, hv]
    rw [eq] at p'
    have p2 : PostS z.K z.W g' H2 T (forL t tb (d :: ds.drop (i + 1)) ρ' S') := PostS.later e2 s2 p'
    refine q2 g' S' ρ' σ' H2 d x _ s2 (rs'.mono s'.live e2) rd (PostS.only p2 fun ρ3 S3 g3 H3 σ3 e3 s3 r3 _ p3 => ?_)
    refine q3 g3 S3 ρ3 σ3 H3 _ s3 r3 (p3.turn fun ρ4 S4 g4 H4 σ4 e4 s4 r4 p4 => ?_)
    exact ⟨g4, S4, ρ4, (((e'.tr s' e2).tr s2 e3).tr s3 e4), s4, r4, p4⟩
  · obtain ⟨g', S', ρ', e', s', rs', p'⟩ := h
    rw [List.drop_length] at p'
    exact p'.here s' rs'
def whileL (c : TTx) (tb : TSx) : Nat → Env1 → List O → OutS
  | 0, _, _ => .stuck
  | n + 1, ρ, S => (c ρ S).stm ρ fun k S1 => if k = true then (tb ρ S1).turn (whileL c tb n) else .nx ρ S1
def sWhile (n : Env1 → List O → Nat) (c : TTx) (tb : TSx) : TSx := fun ρ S => whileL c tb (n ρ S) ρ S
theorem ds_while (n : Env1 → List O → Nat) {c : Expr} {body : List Stmt} {tc : TTx} {tb : TSx} (hc : DT z c tc) (hb : DSs z body tb) : DS z (.While c body [] pos) (sWhile n tc tb) := by
  obtain ⟨τc, h1, q1⟩ := hc
  obtain ⟨τb, h2, q2⟩ := hb
  refine ⟨_, fun X f => ps_while f.own (h1 X f) (h2 X f), fun g S ρ σ H T s rs p => ?_⟩
  refine ⟨fun m σ' H' => ∃ g' S' ρ', SR z.K g' S' H' ∧ RS z.K g' H' ρ' σ' ∧ PostS z.K z.W g' H' T (whileL tc tb m ρ' S'), ⟨_, g, S, ρ, s, rs, p⟩, fun m σ' H' h => ?_⟩
  obtain ⟨g', S', ρ', s', rs', p'⟩ := h
  cases m with
  | zero => exact p'.elim
  | succ m =>
    refine q1 g' S' ρ' σ' H' _ s' rs' (PostS.stm p' s' rs' fun k S1 g1 H1 k' e1 s1 rs1 r1 p1 => ?_)
    have r1 : k = k' := r1
    subst r1
    show if k = true then _ else _
    split
    · rename_i hk
      rw [if_pos hk] at p1
      refine ⟨fun σ2 H2 => ∃ g2 S2 ρ2, SR z.K g2 S2 H2 ∧ RS z.K g2 H2 ρ2 σ2 ∧ PostS z.K z.W g2 H2 T (whileL tc tb m ρ2 S2), fun σ2 H2 h2 => ⟨m, Nat.lt_succ_self _, h2⟩, ?_⟩
      exact q2 g1 S1 ρ' σ' H1 _ s1 rs1 (p1.turn fun ρ4 S4 g4 H4 σ4 e4 s4 r4 p4 => ⟨g4, S4, ρ4, s4, r4, p4⟩)
    · rename_i hk
      rw [if_neg hk] at p1
      exact p1.here s1 rs1
end
def wipeD (ρ : Env1) : List Nat → Env1
  | [] => ρ
  | v :: vs => (wipeD ρ vs).set v none
theorem RS.wipe {K : PySem.W.Frag} {g : G} {H : Hp} {ρ : Env1} {σ : L2.St} (r : RS K g H ρ σ) : ∀ vs : List Nat, RS K g H (wipeD ρ vs) (L2.wipe σ vs)
  | [] => r
  | v :: vs => RS.unset v (RS.wipe r vs)
theorem wipe_at (σ : L2.St) : ∀ (vs : List Nat) (j : Nat), (L2.wipe σ vs)[j]? = if j ∈ vs ∧ j < σ.length then some none else σ[j]?
  | [], j => by simp [L2.wipe]
  | v :: vs, j => by
    have ih := wipe_at σ vs j
    have hl := L2.wipe_length σ vs
    show ((L2.wipe σ vs).set v none)[j]? = _
    by_cases hj : v = j
    · subst hj
      by_cases hl2 : v < σ.length
      · rw [List.getElem?_set_self (by rw [hl]; exact hl2), if_pos ⟨List.mem_cons_self, hl2⟩]
      · rw [List.getElem?_eq_none (by simp [hl]; omega), if_neg (fun h => hl2 h.2), List.getElem?_eq_none (by omega)]
    · rw [List.getElem?_set_ne hj, ih]
      by_cases h1 : j ∈ vs ∧ j < σ.length
      · rw [if_pos h1, if_pos ⟨List.mem_cons_of_mem _ h1.1, h1.2⟩]
      · rw [if_neg h1, if_neg]
        rintro ⟨h2, h3⟩
        rcases List.mem_cons.mp h2 with h2 | h2
        · exact hj h2.symm
        · exact h1 ⟨h2, h3⟩
theorem wipe_off {vs ws : List Nat} {σ σ' : L2.St} (h : Off ws (L2.wipe σ vs) σ') (hw : ∀ j ∈ ws, j ∈ vs) : L2.wipe σ' vs = L2.wipe σ vs := by
  have hl : σ'.length = σ.length := by rw [h.1, L2.wipe_length]
  refine List.ext_getElem? fun j => ?_
  rw [wipe_at, wipe_at, hl]
  by_cases h1 : j ∈ vs ∧ j < σ.length
  · rw [if_pos h1, if_pos h1]
  · rw [if_neg h1, if_neg h1]
    by_cases h2 : j ∈ ws
    · have h3 : ¬ j < σ.length := fun h4 => h1 ⟨hw j h2, h4⟩
      rw [List.getElem?_eq_none (by omega), List.getElem?_eq_none (by omega)]
    · rw [h.2 j h2, wipe_at, if_neg h1]
def Out.nox {α : Type} : Out α → Out α
  | .ok a S => .ok a S
  | _ => .stuck
def OutS.nox (o : OutS) : Out Env1 := match o with
  | .nx ρ S => .ok ρ S
  | _ => .stuck
theorem Post.bindN {K : PySem.W.Frag} {W W2 : WX} {g gA : G} {H HA : Hp} {σ σ2 : L2.St} {α β γ δ : Type} {R : G → Hp → α → β → Prop} {R' : G → Hp → γ → δ → Prop} {Q : δ → Hp → Prop} {Q1 : β → Hp → Prop} {o : Out α} {k : α → List O → Out γ} (hp : Post K W R' gA HA σ Q (o.nox.bind k))
    (h : ∀ a S1 g1 H1 b, Ext g H g1 H1 → SR K g1 S1 H1 → R g1 H1 a b → Post K W R' gA HA σ Q (k a S1) → Q1 b H1) : Post K W2 R g H σ2 Q1 o := by
  cases o with
  | ok a S => exact fun g1 H1 b e s r => h a S g1 H1 b e s r hp
  | exc C d S => exact hp.elim
  | stuck => exact hp
theorem PostG.nox {K : PySem.W.Frag} {W W2 : WX} {g gA : G} {H HA : Hp} {σ σ2 : L2.St} {ws : List Nat} {γ δ : Type} {R' : G → Hp → γ → δ → Prop} {Q : δ → Hp → Prop} {o : OutS} {k : Env1 → List O → Out γ} {N : L2.St → Hp → Prop} (hp : Post K W R' gA HA σ Q (o.nox.bind k))
    (h : ∀ ρ S1 g1 H1 σ1, Ext g H g1 H1 → SR K g1 S1 H1 → RS K g1 H1 ρ σ1 → Off ws σ2 σ1 → Post K W R' gA HA σ Q (k ρ S1) → N σ1 H1) : PostG K W2 g H σ2 ws N o := by
  cases o with
  | nx ρ S => exact fun g1 H1 σ1 e s r off => h ρ S g1 H1 σ1 e s r off hp
  | _ => exact hp.elim
theorem Out.bind_assoc {α β γ : Type} (o : Out α) (k : α → List O → Out β) (k2 : β → List O → Out γ) : (o.bind k).bind k2 = o.bind fun a S => (k a S).bind k2 := by
  cases o <;> rfl
def compL (vs : List Nat) (tg : TGx) (tt : TTx) (te : TEx) : List D → List D → Env1 → List O → Out (List D)
  | [], acc, _, S => .ok acc S
  | d :: ds, acc, ρ, S => (tg d (wipeD ρ vs) S).nox.bind fun ρ1 S1 => (tt ρ1 S1).nox.bind fun k S2 => if k = true then (te ρ1 S2).nox.bind fun y S3 => compL vs tg tt te ds (acc ++ [y]) ρ S3 else compL vs tg tt te ds acc ρ S2
def eLc (own : Bool) (vs : List Nat) (ti : TIx) (tg : TGx) (tt : TTx) (te : TEx) : TEx := fun ρ S => (ti ρ S).bind fun ds S1 => if ds.length ≤ sizeLine then (compL vs tg tt te ds [] ρ S1).bind (mkL own) else .stuck
def Sg.blk (z : Sg) (scope : Scope) : Sg := { z with scope := relS scope z.scope, cl := fun x => scope.names.lookup x == some .cell, W := fun _ _ _ _ => False, top := false }
theorem Fits.blk {z : Sg} {X : Cx} (f : Fits z X) (scope : Scope) (s : Shared) (H : Hp) (C : Addr) (cl : List (Str × Addr)) (fp : List Addr) : Fits (z.blk scope) (X.blk s H scope (compEnvC scope cl C X.env) fp) :=
  ⟨f.prog, f.w, f.K, f.mg, f.base, f.N, (by show relabel scope X.env = relS scope z.scope; rw [← f.scope]; rfl), f.calm, f.nd, fun x h => h, f.room, f.gd, .of2 takes0, PassesOwn.never, f.qual, f.code, fun h => nomatch h⟩
def DTs (z : Sg) (ifs : List Expr) (t : TTx) : Prop := ∃ τ, (∀ X, Fits z X → PTs X ifs τ) ∧ RdT z τ t
def tYesD : TTx := fun _ S => .ok true S
theorem dts_nil {z : Sg} : DTs z [] tYesD := ⟨_, fun _ _ => pts_nil, fun g S ρ σ H Q s rs p => p.here s rfl⟩
theorem dts_one {z : Sg} {c : Expr} {t : TTx} (h : DT z c t) : DTs z [c] t := by
  obtain ⟨τ, h1, q1⟩ := h
  exact ⟨τ, fun X f => pts_one (h1 X f), q1⟩
def G.off (g : G) (p : Addr) : G := ⟨fun b => g.bad b ∧ b ≠ p, g.hs⟩
def G.on (g : G) (p : Addr) : G := ⟨fun b => g.bad b ∨ b = p, g.hs⟩
section
variable {K : PySem.W.Frag} {g g1 : G} {S : List O} {H H1 : Hp} {p : Addr} {u : HO}
theorem Ext.on (hp : H p = none) : Ext g H (g.on p) (upd H p u) :=
  ⟨fun b v e _ => .inl (same_new hp b v e), fun b v e _ _ => same_new hp b v e, fun b v e n => fun h => h.elim n fun q => (by rw [q, hp] at e; cases e), fun _ h => .inl h, [], (List.append_nil _).symm, fun _ h => by cases h⟩
theorem SR.on (s : SR K g S H) (hp : H p = none) : SR K (g.on p) S (upd H p u) := by
  refine ⟨s.len, s.nd, fun a h => .inl (s.live a h), fun a h => ?_, fun i a o h1 h2 => (s.rep i a o h1 h2).mono s.live (Ext.on hp) fun v q => same_new hp _ _ q⟩
  rcases h with h | rfl
  · obtain ⟨v, q⟩ := s.trk a h
    exact ⟨v, same_new hp _ _ q⟩
  · exact ⟨u, upd_same⟩
theorem Wk.wr (hb : g.bad p) : Wk g H g (upd H p u) := ⟨fun b v e n => .inl (by rw [upd_ne (fun q => n (by rw [q]; exact hb))]; exact e), fun _ _ _ n => n, fun _ _ h => h⟩
theorem SR.wr (s : SR K g S H) (hb : g.bad p) (hn : p ∉ g.hs) : SR K g S (upd H p u) := by
  refine ⟨s.len, s.nd, s.live, fun a h => ?_, fun i a o h1 h2 => ?_⟩
  · by_cases ha : a = p
    · exact ⟨u, by rw [ha, upd_same]⟩
    · obtain ⟨v, q⟩ := s.trk a h
      exact ⟨v, by rw [upd_ne ha]; exact q⟩
  · have ha : a ≠ p := fun q => hn (by rw [← q]; exact List.mem_of_getElem? h1)
    have q := s.rep i a o h1 h2
    cases o with
    | lst ds =>
      obtain ⟨xs, e1, e2⟩ := q
      exact ⟨xs, by rw [upd_ne ha]; exact e1, e2.wk (Wk.wr hb) ds xs⟩
    | dct kvs =>
      obtain ⟨xs, e1, e2⟩ := q
      exact ⟨xs, by rw [upd_ne ha]; exact e1, e2.wk (Wk.wr hb) kvs xs⟩
    | ins C fs =>
      obtain ⟨dx, xs, e1, e2⟩ := q
      exact ⟨dx, xs, e1.kp (fun o _ q => by rw [upd_ne ha]; exact q) (fun o _ q _ nb => ⟨by rw [upd_ne (fun z : dx = p => nb (by rw [z]; exact hb))]; exact q, nb⟩), e2.wk (Wk.wr hb) fs xs⟩
    | tbl q' =>
      obtain ⟨⟨ps, e1, e2, e3⟩, ea⟩ := q
      exact ⟨⟨ps, by rw [upd_ne ha]; exact e1, e2, fun pos cv h => let ⟨c, y1, y2, y3⟩ := e3 pos cv h; ⟨c, y1, by rw [upd_ne (fun z : c = p => y3 (by rw [z]; exact hb))]; exact y2, y3⟩⟩, ea⟩
    | fn x n =>
      obtain ⟨L, c, e0, e1, e2, e3⟩ := q
      exact ⟨L, c, e0, by rw [upd_ne ha]; exact e1, by rw [upd_ne (fun z : c = p => e3 (by rw [z]; exact hb))]; exact e2, e3⟩
end
structure LcAt (K : PySem.W.Frag) (g0 : G) (H0 : Hp) (Dp : Addr) (g : G) (H : Hp) (S : List O) (acc : List D) : Prop where
  keep : ∀ b o, H0 b = some o → b ∉ g0.hs → Kp H b o
  kb : ∀ b o, H0 b = some o → b ∉ g0.hs → g0.bad b → H b = some o
  good : ∀ b o, H0 b = some o → ¬ g0.bad b → ¬ g.bad b
  sub : ∀ b, g0.bad b → g.bad b
  pre : ∃ l, g.hs = g0.hs ++ l ∧ ∀ b ∈ l, H0 b = none ∧ b ≠ Dp
  s : SR K g S H
  at_ : ∃ xs, H Dp = some (.lst xs) ∧ RVs K g H acc xs
  bd : g.bad Dp
section
variable {K : PySem.W.Frag} {g0 g g1 : G} {H0 H H1 : Hp} {Dp : Addr} {S S1 : List O} {acc : List D}
theorem LcAt.ext (l : LcAt K g0 H0 Dp g H S acc) : Ext g0 H0 g H := by
  obtain ⟨m, e, f⟩ := l.pre
  exact ⟨l.keep, l.kb, l.good, l.sub, m, e, fun b hb => (f b hb).1⟩
theorem LcAt.nh (l : LcAt K g0 H0 Dp g H S acc) (hd : Dp ∉ g0.hs) : Dp ∉ g.hs := by
  obtain ⟨m, e, f⟩ := l.pre
  rw [e]
  intro h
  rcases List.mem_append.mp h with h | h
  · exact hd h
  · exact (f _ h).2 rfl
theorem LcAt.later (l : LcAt K g0 H0 Dp g H S acc) (s0 : SR K g0 S1 H0) (hd : Dp ∉ g0.hs) {S2 : List O} (e : Ext g H g1 H1) (s1 : SR K g1 S2 H1) : LcAt K g0 H0 Dp g1 H1 S2 acc := by
  obtain ⟨m, em, fm⟩ := l.pre
  obtain ⟨m2, em2, fm2⟩ := e.pre
  have nh := l.nh hd
  obtain ⟨xs, h1, h2⟩ := l.at_
  have st : ∀ b o, H0 b = some o → b ∉ g0.hs → b ∉ g.hs := fun b o q n h => by
    rw [em] at h
    rcases List.mem_append.mp h with h | h
    · exact n h
    · rw [(fm b h).1] at q
      cases q
  refine ⟨fun b o q n => (l.keep b o q n).trans fun o1 h1 => e.kp0 b o1 h1 (st b o q n), fun b o q n hb => e.kb b o (l.kb b o q n hb) (st b o q n) (l.sub b hb), fun b o q n => ?_, fun b h => e.sub b (l.sub b h), ⟨m ++ m2, by rw [em2, em, List.append_assoc], fun b hb => ?_⟩, s1, ⟨xs, e.keep _ _ h1 nh, h2.mono l.s.live e _ _⟩, e.sub _ l.bd⟩
  · have n0 : b ∉ g0.hs := fun h => n (s0.live b h)
    obtain ⟨o1, h1⟩ := (l.keep b o q n0).some
    exact e.good b o1 h1 (l.good b o q n)
  · rcases List.mem_append.mp hb with h | h
    · exact fm b h
    · refine ⟨?_, fun q => ?_⟩
      · cases q : H0 b with
        | none => rfl
        | some o =>
          by_cases hx : b ∈ g0.hs
          · obtain ⟨o', e'⟩ := l.s.hl b (by rw [em]; exact List.mem_append_left _ hx)
            rw [fm2 b h] at e'
            cases e'
          · obtain ⟨o1, z⟩ := (l.keep b o q hx).some
            rw [fm2 b h] at z
            cases z
      · rw [q] at h
        rw [fm2 _ h] at h1
        cases h1
theorem LcAt.push (l : LcAt K g0 H0 Dp g H S acc) (hn : H0 Dp = none) (hd : Dp ∉ g0.hs) {y : D} {v : V} {xs : List V} (h1 : H Dp = some (.lst xs)) (ry : RV K g H y v) : LcAt K g0 H0 Dp g (upd H Dp (.lst (xs ++ [v]))) S (acc ++ [y]) := by
  obtain ⟨xs', h1', h2⟩ := l.at_
  rw [h1] at h1'
  cases h1'
  have w : Wk g H g (upd H Dp (.lst (xs ++ [v]))) := Wk.wr l.bd
  refine ⟨fun b o q n => by unfold Kp; rw [upd_ne (ne_of_none q hn)]; exact l.keep b o q n, fun b o q n hb => by rw [upd_ne (ne_of_none q hn)]; exact l.kb b o q n hb, l.good, l.sub, l.pre, l.s.wr l.bd (l.nh hd), ⟨_, upd_same, ?_⟩, l.bd⟩
  exact (h2.wk w _ _).snoc (ry.wk w _ _)
theorem LcAt.fin {W : WX} {σ : L2.St} {Q : VK} {own : Bool} (l : LcAt K g0 H0 Dp g H S acc) (s0 : SR K g0 S1 H0) (hn : H0 Dp = none) (hd : Dp ∉ g0.hs) (p : Post K W (RV K) g0 H0 σ Q (mkL own acc S)) : Q (.ref Dp) H := by
  obtain ⟨m, em, fm⟩ := l.pre
  obtain ⟨xs, h1, h2⟩ := l.at_
  have nh := l.nh hd
  unfold mkL at p
  split at p
  · split at p
    · refine p ⟨g.bad, g.hs ++ [Dp]⟩ H _ ⟨l.keep, l.kb, l.good, l.sub, m ++ [Dp], by rw [em, List.append_assoc], fun b hb => ?_⟩ ?_ ?_
      · rcases List.mem_append.mp hb with h | h
        · exact (fm b h).1
        · rw [List.mem_singleton.mp h]
          exact hn
      · have wk : ∀ (i : Nat) (a : Addr), g.hs[i]? = some a → (g.hs ++ [Dp])[i]? = some a := fun i a h => by
          rw [List.getElem?_append_left (List.getElem?_eq_some_iff.mp h).1]
          exact h
        refine ⟨by simp [l.s.len], ?_, fun a ha => ?_, l.s.trk, fun i a o e1 e2 => ?_⟩
        · refine List.nodup_append.mpr ⟨l.s.nd, by simp, fun a ha b hb => ?_⟩
          rw [List.mem_singleton.mp hb]
          rintro rfl
          exact nh ha
        · rcases List.mem_append.mp ha with h | h
          · exact l.s.live a h
          · rw [List.mem_singleton.mp h]
            exact l.bd
        · by_cases hi : i < S.length
          · have e1' : g.hs[i]? = some a := by
              have e1 : (g.hs ++ [Dp])[i]? = some a := e1
              rwa [List.getElem?_append_left (by rw [l.s.len]; exact hi)] at e1
            have e2' : S[i]? = some o := by rwa [List.getElem?_append_left hi] at e2
            exact RO.anti (g := g) (g0 := ⟨g.bad, g.hs ++ [Dp]⟩) (fun _ h => h) wk (l.s.rep i a o e1' e2')
          · have hi2 : i = S.length := by
              have := (List.getElem?_eq_some_iff.mp e2).1
              simp at this
              omega
            subst hi2
            have e1 : (g.hs ++ [Dp])[S.length]? = some a := e1
            rw [← l.s.len] at e1
            simp at e1
            simp at e2
            subst e1 e2
            exact ⟨xs, h1, RVs.anti (g := g) (g0 := ⟨g.bad, g.hs ++ [Dp]⟩) (fun _ h => h) wk _ _ h2⟩
      · simp only [RV]
        exact ⟨Dp, rfl, by rw [← l.s.len]; simp⟩
    · have hb : ∀ b, (G.off g Dp).bad b → g.bad b := fun b h => h.1
      have hh : ∀ (i : Nat) (a : Addr), g.hs[i]? = some a → (G.off g Dp).hs[i]? = some a := fun _ _ h => h
      refine p (g.off Dp) H _ ⟨l.keep, l.kb, fun b o q n h => l.good b o q n h.1, fun b h => ⟨l.sub b h, fun q => ?_⟩, m, em, fun b hb => (fm b hb).1⟩ ?_ ?_
      · obtain ⟨o, z⟩ := s0.trk b h
        rw [q, hn] at z
        cases z
      · exact ⟨l.s.len, l.s.nd, fun a ha => ⟨l.s.live a ha, fun q => nh (by rw [← q]; exact ha)⟩, fun a h => l.s.trk a h.1, fun i a o e1 e2 => RO.anti hb hh (l.s.rep i a o e1 e2)⟩
      · simp only [RV]
        exact ⟨Dp, xs, rfl, h1, fun h => h.2 rfl, RVs.anti hb hh _ _ h2⟩
  · exact p.elim
end
section
variable {z : Sg} {pos : Pos}
theorem de_lc (own : Bool) (ow : List (Str × Nat)) {elt tg iter : Expr} {ifs : List Expr} {scope : Scope} {ws : List Nat} {ti : TIx} {t : TGx} {tt : TTx} {te : TEx} (hi : DI z tg iter ti) (hg : DG (z.blk scope) tg ws t) (ht : DTs (z.blk scope) ifs tt) (he : DE (z.blk scope) elt te)
    (ok : blkC z.N z.scope scope ow = true := by decide +kernel) (hw : ∀ j ∈ ws, j ∈ ow.map (·.2) := by decide) (hs : ∀ env x, foldedSetIterable iter env x = pure x := by intro _ _; rfl) :
    DE z (.ListComp elt [⟨tg, iter, ifs, 0⟩] scope pos) (eLc own (ow.map (·.2)) ti t tt te) := by
  obtain ⟨wi, h1, q1⟩ := hi
  obtain ⟨τg, h2, q2⟩ := hg
  obtain ⟨τt, h3, q3⟩ := ht
  obtain ⟨τe, h4, q4⟩ := he
  refine ⟨tLc wi τg τt τe (ow.map (·.2)), fun X f => pe_lc f.calm f.ndX (h1 X f) (by rw [f.N, f.scope]; exact blkOk_by ok) (fun s H C cl fp => h2 _ (f.blk scope s H C cl fp)) (fun s H C cl fp => h3 _ (f.blk scope s H C cl fp)) (fun s H C cl fp => h4 _ (f.blk scope s H C cl fp)) (hs _), fun g S ρ σ H Q s rs p => ?_⟩
  refine q1 g S ρ σ H _ s rs (p.bind fun ds S1 g1 H1 J e1 s1 r1 p1 => ?_)
  split at p1
  · rename_i hlen
    obtain ⟨Gd, Y, w, hG, hY⟩ := r1
    intro Dp hn
    have hd : Dp ∉ g1.hs := fun h => s1.unbad hn (s1.live _ h)
    have rs1 := rs.mono s.live e1
    have l0 : LcAt z.K g1 H1 Dp (g1.on Dp) (upd H1 Dp (.lst [])) S1 [] :=
      ⟨fun b o q _ => .inl (same_new hn b o q), fun b o q _ _ => same_new hn b o q, (Ext.on (u := .lst []) hn).good, fun _ h => .inl h, ⟨[], by simp [G.on], fun _ h => by cases h⟩, s1.on hn, ⟨[], upd_same, by simp only [RVs]⟩, .inr rfl⟩
    have bnd : ∀ {i : Nat} {acc : List D}, acc.length ≤ i → i < ds.length → acc.length < sizeLine := fun h1 h2 => by omega
    refine lc_it w (fun i H' => ∃ g' S' acc, LcAt z.K g1 H1 Dp g' H' S' acc ∧ RS z.K g' H' ρ σ ∧ acc.length ≤ i ∧ Post z.K z.W (RV z.K) g1 H1 σ Q ((compL (ow.map (·.2)) t tt te (ds.drop i) acc ρ S').bind (mkL own)))
      ⟨_, S1, [], l0, rs1.mono s1.live (Ext.on hn), Nat.le_refl _, p1⟩ (fun i H' _ h => ?_) (fun i x H' H2 hi h y => ?_) fun H' h => ?_
    · obtain ⟨g', S', acc, l, _⟩ := h
      exact hG g' H' l.ext
    · obtain ⟨g', S', acc, l, rs', hacc, p'⟩ := h
      obtain ⟨hk, d, hdx, rd⟩ := hY i H' x H2 g' S' hi l.ext l.s y
      have e2 : Ext g' H' g' H2 := Ext.same hk
      have l2 := l.later s1 hd e2 (l.s.same hk)
      have rs2 := rs'.mono l.s.live e2
      have eq : ds.drop i = d :: ds.drop (i + 1) := by
        obtain ⟨hl, hv⟩ := List.getElem?_eq_some_iff.mp hdx
        rw [List.drop_eq_getElem_cons hl, hv]
      rw [eq] at p'
      unfold compL at p'
      rw [Out.bind_assoc] at p'
      refine q2 g' S' _ _ H2 d x _ l2.s (rs2.wipe _) rd (PostG.nox p' fun ρ3 S3 g3 H3 σ3 e3 s3 r3 off p3 => ?_)
      refine ⟨wipe_off off hw, ?_⟩
      have l3 := l2.later s1 hd e3 s3
      have rs3 := rs2.mono l2.s.live e3
      rw [Out.bind_assoc] at p3
      refine q3 g3 S3 ρ3 σ3 H3 _ s3 r3 (Post.bindN p3 fun k S4 g4 H4 k' e4 s4 r4 p4 => ?_)
      have r4 : k = k' := r4
      subst r4
      have l4 := l3.later s1 hd e4 s4
      have rs4 := rs3.mono l3.s.live e4
      show if k = true then _ else _
      split
      · rename_i hkt
        rw [if_pos hkt, Out.bind_assoc] at p4
        refine q4 g4 S4 ρ3 σ3 H4 _ s4 (r3.mono s3.live e4) (Post.bindN p4 fun yv S5 g5 H5 v e5 s5 r5 p5 => ?_)
        have l5 := l4.later s1 hd e5 s5
        obtain ⟨xs, hx1, hx2⟩ := l5.at_
        refine ⟨xs, hx1, by rw [hx2.length]; exact bnd hacc hi, g5, S5, acc ++ [yv], l5.push hn hd hx1 r5, ?_, by simp; omega, p5⟩
        exact (rs4.mono l4.s.live e5).wk (Wk.wr l5.bd) _ _
      · rename_i hkf
        rw [if_neg hkf] at p4
        exact ⟨g4, S4, acc, l4, rs4, by omega, p4⟩
    · obtain ⟨g', S', acc, l, _, _, p'⟩ := h
      rw [List.drop_length] at p'
      exact l.fin s1 hn hd p'
  · exact p1.elim
end
end TL
set_option Elab.async false
set_option linter.all false
set_option maxRecDepth 100000
set_option maxHeartbeats 4000000
namespace TL
open PySem PySem.Spec PyProof.Rows L2
abbrev TF := List D → List O → Out D
abbrev wX (E : XK) : WX := fun c dd _ H => E c dd H
structure TFn (P : Program) (w : World) (K : PySem.W.Frag) (mg : Str → Option Value) (base : Heap) (k : Nat) (f : Addr) (fd : FuncData) (ps : List Str) (F : TF) : Prop where
  run : ∀ (A : Around) (outer : List Env) (s : Shared) (H : Hp) (args : Args) (us : List Value) (vs : List V) (Q : VK) (E : XK) (g : G) (S : List O) (ds : List D), Room k A → A.guards = some [] → Env0 P w K mg base A outer s H → BindsTo s fd args (ps.zip us) → Vals vs us →
    vs.length = ps.length → SR K g S H → RVs K g H ds vs → Post K (wX E) (RV K) g H [] Q (F ds S) → codeAny (model P w) A (.call (.ref f) args) (CR (CX K P w) outer P w H s Q E) s
def OutS.fin (o : OutS) : Out D := match o with
  | .nx _ S => .ok .non S
  | .rt d S => .ok d S
  | .exc C d _ S => .exc C d S
  | _ => .stuck
def startD (N : List Str) (ds : List D) : Env1 := ds.map some ++ List.replicate (N.length - ds.length) none
def bodyF (n : Nat) (N : List Str) (t : TSx) : TF := fun ds S => if ds.length = n then (t (startD N ds) S).fin else .stuck
section
variable {K : PySem.W.Frag} {W : WX} {g : G} {H : Hp}
theorem RS.none : ∀ n : Nat, RS K g H (List.replicate n Option.none) (List.replicate n Option.none)
  | 0 => by simp only [List.replicate_zero, RS]
  | n + 1 => by
    simp only [List.replicate_succ, RS]
    exact ⟨_, _, rfl, RS.none n⟩
theorem RS.start : ∀ {ds : List D} {vs : List V} {r : Env1} {q : L2.St}, RVs K g H ds vs → RS K g H r q → RS K g H (ds.map some ++ r) (vs.map some ++ q)
  | [], _, _, _, h, k => by simp only [RVs] at h; subst h; exact k
  | d :: ds, _, _, _, h, k => by
    simp only [RVs] at h
    obtain ⟨v, r, rfl, e2, e3⟩ := h
    simp only [List.map_cons, List.cons_append, RS]
    exact ⟨v, _, rfl, e2, RS.start e3 k⟩
theorem startD_ok {N : List Str} {ds : List D} {vs : List V} (r : RVs K g H ds vs) : RS K g H (startD N ds) (L2.start N vs) := by
  unfold startD L2.start
  rw [r.length]
  exact RS.start r (RS.none _)
theorem PostS.fin {E : XK} {Q : VK} : ∀ {o : OutS}, Post K (wX E) (RV K) g H [] Q o.fin → PostS K (wX E) g H { nx := fun _ H' => Q .non H', rt := Q } o
  | .nx ρ S, h => fun g' H' σ' e s r => h g' H' .non e s (by simp only [RV])
  | .rt d S, h => fun g' H' v e s r => h g' H' v e s r
  | .exc C d ρ S, h => fun g' H' σ' c dd e s r x => h g' H' c dd e s x
  | .bk _ _, h => h.elim
  | .ct _ _, h => h.elim
  | .stuck, h => h.elim
end
section
variable {P : Program} {w : World} {K : PySem.W.Frag} {mg : Str → Option Value} {base : Heap} {x qual : Str} {params : Arguments} {body : List Stmt} {scope : Scope} {dvs : List V} {kws : List (Str × V)} {f : Addr} {fd : FuncData} {N ps : List Str} {k : Nat}
def Sg.of (P : Program) (w : World) (K : PySem.W.Frag) (mg : Str → Option Value) (base : Heap) (N : List Str) (scope : Scope) (k : Nat) (E : XK) (qual : Str) (code : Value) : Sg := ⟨P, w, K, mg, base, N, scope, fun _ => true, k, wX E, qual ++ ".<locals>.", code, true⟩
theorem fits_of {qual : Str} {cdv : Value} {A : Around} {outer : List Env} {s : Shared} {H : Hp} {E : XK} (S : FnScope N ps scope) (hr : Room k (A.deeper (envOfC qual scope s.heap.objs.size f cdv))) (hg : A.guards = some []) :
    Fits (Sg.of P w K mg base N scope k E qual cdv) (cxOf (CX K P w) P w K mg base N qual scope f cdv A outer s H E) :=
  ⟨rfl, rfl, rfl, rfl, rfl, rfl, rfl, rfl, S.nd, fun _ _ => rfl, hr, hg, takes_of rfl rfl rfl rfl, passes_of rfl, rfl, rfl, fun _ => ⟨rfl, rfl⟩⟩
theorem tfn_of {t : TSx} (F : FunD K x qual params body scope dvs kws f fd) (S : FnScope N ps scope) (hb : ∀ E, DSs (Sg.of P w K mg base N scope k E qual (cdAt K f)) body t) : TFn P w K mg base (k + 1) f fd ps (bodyF ps.length N t) := by
  obtain ⟨oc, od, dV, kV, doc, pm, an, cdv, ct, osl, rfl, lk, hcd, _, _⟩ := F.ex
  have ecd : cdAt K f = cdv := by
    unfold cdAt
    rw [lk]
  rw [ecd] at hb
  refine ⟨fun A outer s H args us vs Q E g St ds hr hgd e0 hbd rv hlen hs rvs hp => ?_⟩
  have KX : K.In s.heap := e0.mod.kin.keeps fun b o q => (e0.bs b o q).1
  have lim : s.heap.NoLimit := e0.mod.nolimit.keeps fun b o q => (e0.bs b o q).1
  have hkd : ∀ y ∈ ps.zip us, scope.names.lookup y.1 = some .local ∨ (scope.names.lookup y.1 = some .cell ∧ ((cellsFrom (s.heap.objs.size + 1) scope.names []).lookup y.1).isSome = true) := fun y hy => by
    rcases S.par y.1 (List.of_mem_zip (a := y.1) (b := y.2) hy).1 with q | q
    · exact .inl q
    · exact .inr ⟨q, PySem.W.cellsFrom_some _ _ _ (.inl q)⟩
  refine codeAny_call_function hr.depth (KX _ _ lk) rfl S.co S.gen rfl (PySem.W.codeRec_of KX hcd) (hbd _ _ _ _ ?_)
  refine wpAny_newFunctionEnv_cells S.kind hkd fun env he s1 hx => ?_
  subst he
  refine ⟨lim.keeps hx.toInCall.keep, codeAny_func ?_⟩
  obtain ⟨τ, ht, hq⟩ := hb E
  have I : Inv (cxOf (CX K P w) P w K mg base N qual scope f cdv A outer s H E) [] (L2.start N vs) H s1 := inv_start S hr.hd e0 hlen rv hx
  have hp' : PostS K (wX E) g H { nx := fun _ H' => Q .non H', rt := Q } (t (startD N ds) St) := by
    unfold bodyF at hp
    rw [if_pos (by rw [← rvs.length]; exact hlen)] at hp
    exact PostS.fin hp
  have rd := hq g St (startD N ds) (L2.start N vs) H { nx := fun _ H' => Q .non H', rt := Q } hs (startD_ok rvs) hp'
  refine wpAny_mono ((ht _ (fits_of S (hr.deeper _) hgd)).run [] s1 _ H _ I rd) (fun fl s' hfl => ?_) fun e s' he => he
  have fin : ∀ {σ' : L2.St} {H' : Hp} {v : V} {u : Value}, Inv (cxOf (CX K P w) P w K mg base N qual scope f cdv A outer s H E) [] σ' H' s' → RelV v u → Q v H' → CE outer P w H s Q u s' := fun {σ' H' v u} J r q => ⟨v, H', J.os, J.bare, J.base, J.hok, r, q⟩
  cases fl with
  | ret u =>
    obtain ⟨v, σ', H', J, r, q⟩ := hfl
    exact fin J r q
  | next =>
    obtain ⟨σ', H', J, q⟩ := hfl
    exact fin (v := V.non) (u := Value.none) J rfl q
  | brk =>
    obtain ⟨_, _, _, q⟩ := hfl
    exact q.elim
  | cont =>
    obtain ⟨_, _, _, q⟩ := hfl
    exact q.elim
theorem TFn.mono {j : Nat} {F : TF} (h : TFn P w K mg base j f fd ps F) (hj : j ≤ k) : TFn P w K mg base k f fd ps F := ⟨fun A outer s H args us vs Q E g S ds hr => h.run A outer s H args us vs Q E g S ds (hr.mono hj)⟩
theorem TFn.imp {F F' : TF} (h : TFn P w K mg base k f fd ps F) (q : ∀ ds S, F' ds S = .stuck ∨ F' ds S = F ds S) : TFn P w K mg base k f fd ps F' := ⟨fun A outer s H args us vs Q E g S ds hr hg e0 hb r hl hs hd hp => by
  rcases q ds S with e | e
  · rw [e] at hp
    exact hp.elim
  · rw [e] at hp
    exact h.run A outer s H args us vs Q E g S ds hr hg e0 hb r hl hs hd hp⟩
theorem TFn.cut {F : TF} (h : TFn P w K mg base k f fd ps F) : TFn P w K mg base k f fd ps (fun ds S => (F ds S).cut S.length) := ⟨fun A outer s H args us vs Q E g S ds hr hg e0 hb r hl hs hd hp => h.run A outer s H args us vs Q E g S ds hr hg e0 hb r hl hs hd (Post.cut hs hp)⟩
end
theorem Post.wx {K : PySem.W.Frag} {W : WX} {g : G} {H : Hp} {σ : L2.St} {Q : VK} : ∀ {o : Out D}, Post K W (RV K) g H σ Q o → Post K (wX fun c dd H' => W c dd σ H') (RV K) g H [] Q o
  | .ok _ _, h => h
  | .exc _ _ _, h => h
  | .stuck, h => h
def tCallD (K : PySem.W.Frag) (W : WX) (ps : List Str) (F : TF) (σ : L2.St) (vs : List V) (H : Hp) (Q : VK) : Prop :=
  vs.length = ps.length ∧ ∃ g S ds, SR K g S H ∧ RVs K g H ds vs ∧ Post K W (RV K) g H σ Q (F ds S)
section
variable {z : Sg} {X : Cx} {k : Nat} {f : Addr} {fd : FuncData} {ps : List Str} {F : TF} {ds : List Value} {dvs : List V} {dfl : List D}
theorem run_tfn {pins : List (Addr × Obj)} {σ : L2.St} {H : Hp} {s : Shared} {Q : VK} {us : List Value} {vs : List V} (Fn : TFn z.P z.w z.K z.mg z.base k f fd ps F) (fx : Fits z X) (hk : k ≤ z.lv) (hb : Binds z.K fd ps ds) (hd : Vals dvs ds) (I : Inv X pins σ H s) (r : Vals vs us)
    (q : tCallD z.K z.W ps F σ (vs ++ dvs) H Q) : wpAny (model X.prog X.w) X.A (call (.ref f) us) (EP X pins σ Q) X.xe s := by
  obtain ⟨hl, g, S, es, hs, rv, hp⟩ := q
  have r2 : Vals (vs ++ dvs) (us ++ ds) := r.append hd
  have e0 := I.env0
  have KX := I.kIn
  have fin : ∀ (rr : Result) (s' : Shared), CR (CX z.K X.prog X.w) X.stack X.prog X.w H s Q (fun c dd H' => z.W c dd σ H') rr s' → (match rr with | .ok (.ret u) => EP X pins σ Q u s' | .ok _ => False | .error e => X.xe e s') := by
    intro rr s' hq
    cases rr with
    | error e => exact fx.takes e s' (XE.of_call I (fun _ _ _ q => q) hq)
    | ok fl =>
      cases fl with
      | ret u => exact I.after hq
      | _ => exact hq
  rw [fx.prog, fx.w, fx.K, fx.mg, fx.base] at e0
  rw [fx.K] at KX
  rw [fx.prog, fx.w] at fin ⊢
  refine wpAny_call (codeAny_mono (Fn.run X.A X.stack s H ⟨us, []⟩ (us ++ ds) (vs ++ dvs) Q _ g S es (fx.room.mono hk) fx.gd e0 (hb s us KX (by rw [← r2.length]; exact hl)) r2 hl hs rv hp.wx) fun rr s' hq => ?_)
  have z := fin rr s' hq
  cases rr with
  | error e => exact z
  | ok fl =>
    cases fl with
    | ret u => exact z
    | _ => exact z.elim
theorem de_call {x : Str} {e : Expr} {es : List Expr} {p pos : Pos} {ta : TAx} (Fn : TFn z.P z.w z.K z.mg z.base k f fd ps F) (hk : k ≤ z.lv) (hm : z.mg x = some (.ref f)) (kp : PySem.W.keepIn z.K (.ref f) = true) (hb : Binds z.K fd ps ds) (hd : Vals dvs ds) (hdf : ∀ g H, RVs z.K g H dfl dvs)
    (ha : DA z (e :: es) ta) (hg : Gz z x := by rfl) (hdb : (x == ("__debug__" : Str)) = false := by decide) (he : ∀ env, starEach (e :: es) env = (false, eval e env) :: starEach es env := by intro _; rfl) (hpl : ∀ env, (backTo pos (starEach es env)).any (·.1) = false := by intro _; rfl) :
    DE z (.Call (.Name x p) (e :: es) [] pos) (eArgs (fun vs S => if (vs ++ dfl).length = ps.length then F (vs ++ dfl) S else .stuck) ta) := by
  obtain ⟨τ, h1, q1⟩ := ha
  refine ⟨fun σ H Q => τ σ H fun vs H1 => tCallD z.K z.W ps F σ (vs ++ dvs) H1 Q, fun X fx => ⟨fun pins s σ H Q I h => ?_⟩, fun g S ρ σ H Q s rs p => ?_⟩
  · refine wpAny_Call_Name_kw (ld_glob I (fx.gl hg) (fx.mgl hm) ?_ hdb)
    have kp' : PySem.W.keepIn X.K (.ref f) = true := by rw [fx.K]; exact kp
    exact PySem.W.callWith_K (h₀ := X.base) I.ok.mod.kin kp' (thn ((h1 X fx).run pos pins s σ H _ I h) fun us s1 ⟨vs, H1, I1, r, q⟩ => ⟨I1.kIn, run_tfn Fn fx hk hb hd I1 r q⟩) (he _) (hpl _)
  · refine q1 g S ρ σ H _ s rs (p.bind fun xs S1 g1 H1 vs e1 s1 r1 p1 => ?_)
    split at p1
    · rename_i hl
      refine ⟨?_, g1, S1, xs ++ dfl, s1, r1.append (hdf g1 H1), p1⟩
      rw [← hl, (r1.append (hdf g1 H1)).length]
    · exact p1.elim
theorem de_call0 {x : Str} {p pos : Pos} (Fn : TFn z.P z.w z.K z.mg z.base k f fd ps F) (hk : k ≤ z.lv) (hm : z.mg x = some (.ref f)) (kp : PySem.W.keepIn z.K (.ref f) = true) (hb : Binds z.K fd ps ds) (hd : Vals dvs ds) (hdf : ∀ g H, RVs z.K g H dfl dvs)
    (hg : Gz z x := by rfl) (hdb : (x == ("__debug__" : Str)) = false := by decide) : DE z (.Call (.Name x p) [] [] pos) (fun _ S => if dfl.length = ps.length then F dfl S else .stuck) := by
  refine ⟨fun σ H Q => tCallD z.K z.W ps F σ dvs H Q, fun X fx => ⟨fun pins s σ H Q I h => ?_⟩, fun g S ρ σ H Q s rs p => ?_⟩
  · refine wpAny_Call_Name_kw (ld_glob I (fx.gl hg) (fx.mgl hm) ?_ hdb)
    have kp' : PySem.W.keepIn X.K (.ref f) = true := by rw [fx.K]; exact kp
    exact PySem.W.callWith_K0 I.kIn kp' (run_tfn (us := []) (vs := []) Fn fx hk hb hd I .nil h)
  · split at p
    · rename_i hl
      refine ⟨?_, g, S, dfl, s, hdf g H, p⟩
      rw [← hl, (hdf g H).length]
    · exact p.elim
end
end TL
set_option Elab.async false
set_option linter.all false
set_option maxRecDepth 100000
set_option maxHeartbeats 4000000
namespace TL
open PySem PySem.Spec PyProof.Rows L2
section
variable {z : Sg} {e a b : Expr} {es : List Expr} {ta : TAx} {t tb : TEx} {p pos : Pos}
theorem de_callB {id : String} {x : Str} {r : List V → Hp → VK → Prop} {f : List D → List O → Out D} (hc : ∀ X, Fits z X → CallR X (.builtin id) r) (ok : OkL z.K z.W r f) (hv : bootBuiltins x = some (.builtin id)) (hm : z.mg x = none) (ha : DA z (e :: es) ta)
    (hg : Gz z x := by rfl) (hn : x ≠ "__name__" := by decide) (hd : (x == ("__debug__" : Str)) = false := by decide) (hs : ∀ env, starEach (e :: es) env = (false, eval e env) :: starEach es env := by intro _; rfl) (hp : ∀ env, (backTo pos (starEach es env)).any (·.1) = false := by intro _; rfl) :
    DE z (.Call (.Name x p) (e :: es) [] pos) (eArgs f ta) :=
  de_args (fun X fx τ h => pe_callB (hc X fx) (fx.gl hg) (fx.mgl hm) hv h hn hd (hs _) (hp _)) ok ha
theorem de_callTy {T : String} {x : Str} {r : List V → Hp → VK → Prop} {f : List D → List O → Out D} (hc : ∀ X, Fits z X → CallR X (.type T) r) (ok : OkL z.K z.W r f) (hv : bootBuiltins x = some (.type T)) (hm : z.mg x = none) (ha : DA z (e :: es) ta)
    (hg : Gz z x := by rfl) (hn : x ≠ "__name__" := by decide) (hd : (x == ("__debug__" : Str)) = false := by decide) (hs : ∀ env, starEach (e :: es) env = (false, eval e env) :: starEach es env := by intro _; rfl) (hp : ∀ env, (backTo pos (starEach es env)).any (·.1) = false := by intro _; rfl) :
    DE z (.Call (.Name x p) (e :: es) [] pos) (eArgs f ta) :=
  de_args (fun X fx τ h => pe_callTy (hc X fx) (fx.gl hg) (fx.mgl hm) hv h hn hd (hs _) (hp _)) ok ha
end
def lenD (ds : List D) (S : List O) : Out D := match ds with
  | [.str y] => if y.length ≤ sizeLine then .ok (.int y.length) S else .stuck
  | [.hnd i] => (match S[i]? with
    | some (.dct kvs) => .ok (.int kvs.length) S
    | some (.lst xs) => .ok (.int xs.length) S
    | _ => .stuck)
  | [d] => (match seqOf S d with
    | some xs => .ok (.int xs.length) S
    | none => .stuck)
  | _ => .stuck
def intD (ds : List D) (S : List O) : Out D := match ds with
  | [.int i] => .ok (.int i) S
  | [.bl b] => .ok (.int (if b then 1 else 0)) S
  | _ => .stuck
def absD (ds : List D) (S : List O) : Out D := match ds with
  | [.int i] => .ok (.int (if i < 0 then -i else i)) S
  | _ => .stuck
def max2D (ds : List D) (S : List O) : Out D := match ds with
  | [.int i, .int j] => .ok (.int (if j > i then j else i)) S
  | _ => .stuck
def min2D (ds : List D) (S : List O) : Out D := match ds with
  | [.int i, .int j] => .ok (.int (if j < i then j else i)) S
  | _ => .stuck
section
variable {K : PySem.W.Frag} {W : WX} {g : G} {H : Hp}
theorem rvs1 {d : D} {vs : List V} (h : RVs K g H [d] vs) : ∃ v, vs = [v] ∧ RV K g H d v := by
  simp only [RVs] at h
  obtain ⟨v, r, rfl, h1, rfl⟩ := h
  exact ⟨v, rfl, h1⟩
theorem rvs2 {d e : D} {vs : List V} (h : RVs K g H [d, e] vs) : ∃ v u, vs = [v, u] ∧ RV K g H d v ∧ RV K g H e u := by
  simp only [RVs] at h
  obtain ⟨v, r, rfl, h1, u, r2, rfl, h2, rfl⟩ := h
  exact ⟨v, u, rfl, h1, h2⟩
abbrev rLenA (K : PySem.W.Frag) : List V → Hp → VK → Prop := fun xs H Q => (∃ x n, xs = [x] ∧ LenV K x H n ∧ Q (.int n) H) ∨ ∃ (a : Addr) (kvs : List (Key × V)), xs = [.ref a] ∧ kvs = kvs ∧ H a = some (.dK kvs) ∧ Q (.int kvs.length) H
theorem ok_len : OkL K W (rLenA K) lenD := by
  intro g S H σ Q xs vs s r p
  unfold lenD at p
  split at p
  · split at p
    · obtain ⟨v, rfl, rr⟩ := rvs1 r
      exact .inl ⟨v, _, rfl, by rw [rv_str rr]; exact ⟨by assumption, rfl⟩, p.here s (by simp only [RV])⟩
    · exact p.elim
  · rename_i i
    obtain ⟨v, rfl, rr⟩ := rvs1 r
    simp only [RV] at rr
    obtain ⟨a, rfl, h0⟩ := rr
    split at p
    · rename_i kvs q
      obtain ⟨ws, h1, h2⟩ := s.rep i a _ h0 q
      exact .inr ⟨a, ws, rfl, rfl, h1, p.here s (by simp only [RV, h2.length])⟩
    · rename_i xs q
      obtain ⟨ws, h1, h2⟩ := s.rep i a _ h0 q
      exact .inl ⟨_, ws.length, rfl, .inl ⟨ws, .inl (.inl h1), rfl⟩, p.here s (by simp only [RV, h2.length])⟩
    · exact p.elim
  · split at p
    · rename_i ds q
      obtain ⟨v, rfl, rr⟩ := rvs1 r
      obtain ⟨a, ws, rfl, h1, h2⟩ := seq_at s q rr
      refine .inl ⟨_, ws.length, rfl, ?_, p.here s (by simp only [RV, h2.length])⟩
      rcases h1 with h1 | h1
      · exact .inl ⟨ws, h1, rfl⟩
      · exact .inr ⟨ws, h1, rfl⟩
    · exact p.elim
  · exact p.elim
theorem ok_int : OkL K W (fun xs H Q => (∃ i, xs = [.int i] ∧ Q (.int i) H) ∨ ∃ k, xs = [.bl k] ∧ Q (.int (if k then 1 else 0)) H) intD := by
  intro g S H σ Q xs vs s r p
  unfold intD at p
  split at p
  · obtain ⟨v, rfl, rr⟩ := rvs1 r
    exact .inl ⟨_, by rw [rv_int rr], p.here s (by simp only [RV])⟩
  · obtain ⟨v, rfl, rr⟩ := rvs1 r
    exact .inr ⟨_, by rw [rv_bl rr], p.here s (by simp only [RV])⟩
  · exact p.elim
theorem ok_abs : OkL K W (fun xs H Q => ∃ i, xs = [.int i] ∧ Q (.int (if i < 0 then -i else i)) H) absD := by
  intro g S H σ Q xs vs s r p
  unfold absD at p
  split at p
  · obtain ⟨v, rfl, rr⟩ := rvs1 r
    exact ⟨_, by rw [rv_int rr], p.here s (by simp only [RV])⟩
  · exact p.elim
theorem ok_max2 : OkL K W (fun xs H Q => ∃ i j, xs = [.int i, .int j] ∧ Q (.int (if j > i then j else i)) H) max2D := by
  intro g S H σ Q xs vs s r p
  unfold max2D at p
  split at p
  · obtain ⟨v, u, rfl, r1, r2⟩ := rvs2 r
    exact ⟨_, _, by rw [rv_int r1, rv_int r2], p.here s (by simp only [RV])⟩
  · exact p.elim
theorem ok_min2 : OkL K W (fun xs H Q => ∃ i j, xs = [.int i, .int j] ∧ Q (.int (if j < i then j else i)) H) min2D := by
  intro g S H σ Q xs vs s r p
  unfold min2D at p
  split at p
  · obtain ⟨v, u, rfl, r1, r2⟩ := rvs2 r
    exact ⟨_, _, by rw [rv_int r1, rv_int r2], p.here s (by simp only [RV])⟩
  · exact p.elim
end
section
variable {z : Sg} {e : Expr} {es : List Expr} {ta : TAx} {t : TEx} {p pos : Pos}
theorem de_len {e : Expr} (hm : z.mg "len" = none) (ha : DA z [e] ta) (hg : Gz z "len" := by rfl) (hs : ∀ env, starEach [e] env = (false, eval e env) :: starEach [] env := by intro _; rfl) : DE z (.Call (.Name "len" p) [e] [] pos) (eArgs lenD ta) :=
  de_callB (fun X f => f.K ▸ call_len.or (fun pins s σ H xs us Q I r h => by
    obtain ⟨a, kvs, e1, _, e2, q⟩ := h
    exact call_lenD pins s σ H xs us Q I r ⟨a, kvs, e1, e2, q⟩)) ok_len boot_len hm ha hg (by decide) (by decide) hs
theorem de_intc {e : Expr} (hm : z.mg "int" = none) (ha : DA z [e] ta) (hg : Gz z "int" := by rfl) (hs : ∀ env, starEach [e] env = (false, eval e env) :: starEach [] env := by intro _; rfl) : DE z (.Call (.Name "int" p) [e] [] pos) (eArgs intD ta) :=
  de_callTy (fun X f => call_int1) ok_int (by decide +kernel) hm ha hg (by decide) (by decide) hs
theorem de_abs {e : Expr} (hm : z.mg "abs" = none) (ha : DA z [e] ta) (hg : Gz z "abs" := by rfl) (hs : ∀ env, starEach [e] env = (false, eval e env) :: starEach [] env := by intro _; rfl) : DE z (.Call (.Name "abs" p) [e] [] pos) (eArgs absD ta) :=
  de_callB (fun X f => call_abs) ok_abs (by decide +kernel) hm ha hg (by decide) (by decide) hs
theorem de_max2 {a b : Expr} (hm : z.mg "max" = none) (ha : DA z [a, b] ta) (hg : Gz z "max" := by rfl) (hs : ∀ env, starEach [a, b] env = (false, eval a env) :: starEach [b] env := by intro _; rfl) (hp : ∀ env, (backTo pos (starEach [b] env)).any (·.1) = false := by intro _; rfl) : DE z (.Call (.Name "max" p) [a, b] [] pos) (eArgs max2D ta) :=
  de_callB (fun X f => call_max2 f.calm) ok_max2 (by decide +kernel) hm ha hg (by decide) (by decide) hs hp
theorem de_min2 {a b : Expr} (hm : z.mg "min" = none) (ha : DA z [a, b] ta) (hg : Gz z "min" := by rfl) (hs : ∀ env, starEach [a, b] env = (false, eval a env) :: starEach [b] env := by intro _; rfl) (hp : ∀ env, (backTo pos (starEach [b] env)).any (·.1) = false := by intro _; rfl) : DE z (.Call (.Name "min" p) [a, b] [] pos) (eArgs min2D ta) :=
  de_callB (fun X f => call_min2 f.calm) ok_min2 (by decide +kernel) hm ha hg (by decide) (by decide) hs hp
end
def tyD (S : List O) : D → Option String
  | .non => some "NoneType"
  | .bl _ => some "bool"
  | .int _ => some "int"
  | .str _ => some "str"
  | .tup _ => some "tuple"
  | .lst _ => some "list"
  | .scr _ => some "list"
  | .dct _ => some "dict"
  | .hnd i => (match S[i]? with
    | some (.lst _) => some "list"
    | some (.dct _) => some "dict"
    | _ => none)
  | _ => none
def isTy (a n : String) : Option Bool := if a ∈ tyL ∧ n ∈ tyR then some (decide (a = n) || (decide (a = "bool") && decide (n = "int"))) else none
theorem isTy_all : ∀ a ∈ tyL, ∀ n ∈ tyR, kitB a n = some (decide (a = n) || (decide (a = "bool") && decide (n = "int"))) := by decide +kernel
theorem isTy_ok {K : PySem.W.Frag} {a n : String} {b : Bool} (h : isTy a n = some b) : PySem.W.kitOne K (.type a) (.type n) = some b := by
  unfold isTy at h
  split at h
  · rename_i q
    cases h
    exact kit_ty (isTy_all a q.1 n q.2)
  · cases h
theorem tyD_ok {K : PySem.W.Frag} {g : G} {S : List O} {H : Hp} (s : SR K g S H) {d : D} {v : V} {a : String} (r : RV K g H d v) (h : tyD S d = some a) : TyX K H v (.type a) := by
  cases d with
  | non => rw [rv_non r]; cases h; exact .base .non
  | bl c => rw [rv_bl r]; cases h; exact .base (.bl c)
  | int i => rw [rv_int r]; cases h; exact .base (.int i)
  | str y => rw [rv_str r]; cases h; exact .base (.str y)
  | tup ds =>
    cases h
    simp only [RV] at r
    obtain ⟨p, xs, rfl, h1, _⟩ := r
    rcases h1 with ⟨h1 | ⟨o, h1⟩, _⟩ | ⟨o, its, n, h1, h2, _⟩
    · exact .base (.tup h1)
    · exact .fTuple h1
    · exact .kTuple h1 h2
  | lst ds =>
    cases h
    simp only [RV] at r
    obtain ⟨p, xs, rfl, h1, _⟩ := r
    exact .base (.lst h1)
  | scr ns =>
    cases h
    simp only [RV] at r
    obtain ⟨p, rfl, h1⟩ := r
    rcases h1 with ⟨⟨o, h1⟩, _⟩ | ⟨o, its, n, h1, h2, _⟩
    · exact .base (.frz h1)
    · exact .kList h1 h2
  | dct kvs =>
    cases h
    simp only [RV] at r
    obtain ⟨p, ws, rfl, h1, _⟩ := r
    rcases h1 with h1 | ⟨o, h1⟩
    · exact .base (.dK h1)
    · exact .fDict h1
  | hnd i =>
    simp only [RV] at r
    obtain ⟨p, rfl, h1⟩ := r
    simp only [tyD] at h
    split at h
    · rename_i ds q
      cases h
      obtain ⟨xs, h2, _⟩ := s.rep i p _ h1 q
      exact .base (.lst h2)
    · rename_i kvs q
      cases h
      obtain ⟨ws, h2, _⟩ := s.rep i p _ h1 q
      exact .base (.dK h2)
    · cases h
  | _ => cases h
section
variable {z : Sg} {a b : Expr} {ta : TAx} {p pos : Pos}
end
def blsOf : List D → Option (List Bool)
  | [] => some []
  | .bl b :: r => (blsOf r).map (b :: ·)
  | _ => none
def intsOf : List D → Option (List Int)
  | [] => some []
  | .int i :: r => (intsOf r).map (i :: ·)
  | _ => none
def strsOf : List D → Option (List Str)
  | [] => some []
  | .str i :: r => (strsOf r).map (i :: ·)
  | _ => none
section
variable {K : PySem.W.Frag} {g : G} {H : Hp}
theorem bls_vals : ∀ {ds : List D} {bs : List Bool} {xs : List V}, blsOf ds = some bs → RVs K g H ds xs → xs = bs.map V.bl
  | [], _, _, e, r => by simp only [blsOf] at e; simp only [RVs] at r; cases e; subst r; rfl
  | .bl b :: ds, _, _, e, r => by
    simp only [blsOf] at e
    simp only [RVs, RV] at r
    obtain ⟨v, q, rfl, rfl, r2⟩ := r
    cases h : blsOf ds with
    | none => rw [h] at e; cases e
    | some bs =>
      rw [h] at e
      cases e
      rw [bls_vals h r2]
      rfl
  | .non :: _, _, _, e, _ => by simp only [blsOf] at e; cases e
  | .int _ :: _, _, _, e, _ => by simp only [blsOf] at e; cases e
  | .str _ :: _, _, _, e, _ => by simp only [blsOf] at e; cases e
  | .ty _ :: _, _, _, e, _ => by simp only [blsOf] at e; cases e
  | .tup _ :: _, _, _, e, _ => by simp only [blsOf] at e; cases e
  | .lst _ :: _, _, _, e, _ => by simp only [blsOf] at e; cases e
  | .scr _ :: _, _, _, e, _ => by simp only [blsOf] at e; cases e
  | .tpl _ :: _, _, _, e, _ => by simp only [blsOf] at e; cases e
  | .dct _ :: _, _, _, e, _ => by simp only [blsOf] at e; cases e
  | .ins _ _ :: _, _, _, e, _ => by simp only [blsOf] at e; cases e
  | .cls _ :: _, _, _, e, _ => by simp only [blsOf] at e; cases e
  | .exc _ _ :: _, _, _, e, _ => by simp only [blsOf] at e; cases e
  | .hnd _ :: _, _, _, e, _ => by simp only [blsOf] at e; cases e
  | .any :: _, _, _, e, _ => by simp only [blsOf] at e; cases e
theorem ints_vals : ∀ {ds : List D} {bs : List Int} {xs : List V}, intsOf ds = some bs → RVs K g H ds xs → xs = bs.map V.int
  | [], _, _, e, r => by simp only [intsOf] at e; simp only [RVs] at r; cases e; subst r; rfl
  | .int b :: ds, _, _, e, r => by
    simp only [intsOf] at e
    simp only [RVs, RV] at r
    obtain ⟨v, q, rfl, rfl, r2⟩ := r
    cases h : intsOf ds with
    | none => rw [h] at e; cases e
    | some bs =>
      rw [h] at e
      cases e
      rw [ints_vals h r2]
      rfl
  | .non :: _, _, _, e, _ => by simp only [intsOf] at e; cases e
  | .bl _ :: _, _, _, e, _ => by simp only [intsOf] at e; cases e
  | .str _ :: _, _, _, e, _ => by simp only [intsOf] at e; cases e
  | .ty _ :: _, _, _, e, _ => by simp only [intsOf] at e; cases e
  | .tup _ :: _, _, _, e, _ => by simp only [intsOf] at e; cases e
  | .lst _ :: _, _, _, e, _ => by simp only [intsOf] at e; cases e
  | .scr _ :: _, _, _, e, _ => by simp only [intsOf] at e; cases e
  | .tpl _ :: _, _, _, e, _ => by simp only [intsOf] at e; cases e
  | .dct _ :: _, _, _, e, _ => by simp only [intsOf] at e; cases e
  | .ins _ _ :: _, _, _, e, _ => by simp only [intsOf] at e; cases e
  | .cls _ :: _, _, _, e, _ => by simp only [intsOf] at e; cases e
  | .exc _ _ :: _, _, _, e, _ => by simp only [intsOf] at e; cases e
  | .hnd _ :: _, _, _, e, _ => by simp only [intsOf] at e; cases e
  | .any :: _, _, _, e, _ => by simp only [intsOf] at e; cases e
theorem strs_vals : ∀ {ds : List D} {bs : List Str} {xs : List V}, strsOf ds = some bs → RVs K g H ds xs → xs = bs.map V.str
  | [], _, _, e, r => by simp only [strsOf] at e; simp only [RVs] at r; cases e; subst r; rfl
  | .str b :: ds, _, _, e, r => by
    simp only [strsOf] at e
    simp only [RVs, RV] at r
    obtain ⟨v, q, rfl, rfl, r2⟩ := r
    cases h : strsOf ds with
    | none => rw [h] at e; cases e
    | some bs =>
      rw [h] at e
      cases e
      rw [strs_vals h r2]
      rfl
  | .non :: _, _, _, e, _ => by simp only [strsOf] at e; cases e
  | .bl _ :: _, _, _, e, _ => by simp only [strsOf] at e; cases e
  | .int _ :: _, _, _, e, _ => by simp only [strsOf] at e; cases e
  | .ty _ :: _, _, _, e, _ => by simp only [strsOf] at e; cases e
  | .tup _ :: _, _, _, e, _ => by simp only [strsOf] at e; cases e
  | .lst _ :: _, _, _, e, _ => by simp only [strsOf] at e; cases e
  | .scr _ :: _, _, _, e, _ => by simp only [strsOf] at e; cases e
  | .tpl _ :: _, _, _, e, _ => by simp only [strsOf] at e; cases e
  | .dct _ :: _, _, _, e, _ => by simp only [strsOf] at e; cases e
  | .ins _ _ :: _, _, _, e, _ => by simp only [strsOf] at e; cases e
  | .cls _ :: _, _, _, e, _ => by simp only [strsOf] at e; cases e
  | .exc _ _ :: _, _, _, e, _ => by simp only [strsOf] at e; cases e
  | .hnd _ :: _, _, _, e, _ => by simp only [strsOf] at e; cases e
  | .any :: _, _, _, e, _ => by simp only [strsOf] at e; cases e
end
theorem blsOf_map (bs : List Bool) : blsOf (bs.map D.bl) = some bs := by
  induction bs with
  | nil => rfl
  | cons b r ih => simp only [List.map_cons, blsOf, ih]; rfl
def allD (ds : List D) (S : List O) : Out D := match ds with
  | [d] => (match (lstOf S d).bind blsOf with
    | some bs => .ok (.bl (bs.all id)) S
    | none => .stuck)
  | _ => .stuck
def anyD (ds : List D) (S : List O) : Out D := match ds with
  | [d] => (match (lstOf S d).bind blsOf with
    | some bs => .ok (.bl (bs.any id)) S
    | none => .stuck)
  | _ => .stuck
def sumD (ds : List D) (S : List O) : Out D := match ds with
  | [d] => (match (lstOf S d).bind intsOf with
    | some bs => .ok (.int bs.sum) S
    | none => .stuck)
  | _ => .stuck
def listD (own : Bool) (ds : List D) (S : List O) : Out D := match ds with
  | [d] => (match seqOf S d with
    | some xs => mkL own xs S
    | none => .stuck)
  | _ => .stuck
def tupleD (ds : List D) (S : List O) : Out D := match ds with
  | [.tup xs] => .ok (.tup xs) S
  | [d] => (match lstOf S d with
    | some xs => mkT xs S
    | none => .stuck)
  | _ => .stuck
section
variable {K : PySem.W.Frag} {W : WX}
theorem ok_all : OkL K W (rAll K) allD := by
  intro g S H σ Q xs vs s r p
  unfold allD at p
  split at p
  · split at p
    · rename_i d bs q
      obtain ⟨v, rfl, rr⟩ := rvs1 r
      obtain ⟨ds, h1, h2⟩ := Option.bind_eq_some_iff.mp q
      obtain ⟨a, ws, rfl, h3, h4⟩ := lst_at s h1 rr
      rw [bls_vals h2 h4] at h3
      exact ⟨a, bs, rfl, h3, p.here s (by simp only [RV])⟩
    · exact p.elim
  · exact p.elim
theorem ok_any : OkL K W (rAny K) anyD := by
  intro g S H σ Q xs vs s r p
  unfold anyD at p
  split at p
  · split at p
    · rename_i d bs q
      obtain ⟨v, rfl, rr⟩ := rvs1 r
      obtain ⟨ds, h1, h2⟩ := Option.bind_eq_some_iff.mp q
      obtain ⟨a, ws, rfl, h3, h4⟩ := lst_at s h1 rr
      rw [bls_vals h2 h4] at h3
      exact ⟨a, bs, rfl, h3, p.here s (by simp only [RV])⟩
    · exact p.elim
  · exact p.elim
theorem ok_sum : OkL K W (rSum K) sumD := by
  intro g S H σ Q xs vs s r p
  unfold sumD at p
  split at p
  · split at p
    · rename_i d bs q
      obtain ⟨v, rfl, rr⟩ := rvs1 r
      obtain ⟨ds, h1, h2⟩ := Option.bind_eq_some_iff.mp q
      obtain ⟨a, ws, rfl, h3, h4⟩ := lst_at s h1 rr
      rw [ints_vals h2 h4] at h3
      exact ⟨a, bs, rfl, h3, p.here s (by simp only [RV])⟩
    · exact p.elim
  · exact p.elim
theorem ok_list (own : Bool) : OkL K W (fun xs H Q => ∃ p ys, xs = [.ref p] ∧ (SqL K H p ys ∨ SqT K H p ys) ∧ ∀ l, H l = none → Q (.ref l) (upd H l (.lst ys))) (listD own) := by
  intro g S H σ Q xs vs s r p
  unfold listD at p
  split at p
  · split at p
    · rename_i d ds q
      obtain ⟨v, rfl, rr⟩ := rvs1 r
      obtain ⟨a, ws, rfl, h3, h4⟩ := seq_at s q rr
      exact ⟨a, ws, rfl, h3, fun l hl => mkL_ok s h4 p l hl⟩
    · exact p.elim
  · exact p.elim
theorem ok_tuple : OkL K W (fun xs H Q => ∃ p ys, xs = [.ref p] ∧ ((SqL K H p ys ∧ ∀ l, H l = none → Q (.ref l) (upd H l (.tup ys))) ∨ (SqT K H p ys ∧ Q (.ref p) H))) tupleD := by
  intro g S H σ Q xs vs s r p
  unfold tupleD at p
  split at p
  · obtain ⟨v, rfl, rr⟩ := rvs1 r
    obtain ⟨a, ws, rfl, h3, h4⟩ := tup_at rfl rr
    exact ⟨a, ws, rfl, .inr ⟨h3, p.here s rr⟩⟩
  · split at p
    · rename_i d _ ds q
      obtain ⟨v, rfl, rr⟩ := rvs1 r
      obtain ⟨a, ws, rfl, h3, h4⟩ := lst_at s q rr
      exact ⟨a, ws, rfl, .inl ⟨h3, fun l hl => mkT_ok s h4 p l hl⟩⟩
    · exact p.elim
  · exact p.elim
end
section
variable {z : Sg} {e : Expr} {ta : TAx} {p pos : Pos}
theorem de_all (hm : z.mg "all" = none) (ha : DA z [e] ta) (hg : Gz z "all" := by rfl) (hs : ∀ env, starEach [e] env = (false, eval e env) :: starEach [] env := by intro _; rfl) : DE z (.Call (.Name "all" p) [e] [] pos) (eArgs allD ta) :=
  de_callB (fun X f => f.K ▸ cr_all f.calm) ok_all (by decide +kernel) hm ha hg (by decide) (by decide) hs
theorem de_any (hm : z.mg "any" = none) (ha : DA z [e] ta) (hg : Gz z "any" := by rfl) (hs : ∀ env, starEach [e] env = (false, eval e env) :: starEach [] env := by intro _; rfl) : DE z (.Call (.Name "any" p) [e] [] pos) (eArgs anyD ta) :=
  de_callB (fun X f => f.K ▸ cr_any f.calm) ok_any (by decide +kernel) hm ha hg (by decide) (by decide) hs
theorem de_sumc (hm : z.mg "sum" = none) (ha : DA z [e] ta) (hg : Gz z "sum" := by rfl) (hs : ∀ env, starEach [e] env = (false, eval e env) :: starEach [] env := by intro _; rfl) : DE z (.Call (.Name "sum" p) [e] [] pos) (eArgs sumD ta) :=
  de_callB (fun X f => f.K ▸ cr_sum f.calm) ok_sum (by decide +kernel) hm ha hg (by decide) (by decide) hs
theorem de_list (own : Bool) (hm : z.mg "list" = none) (ha : DA z [e] ta) (hg : Gz z "list" := by rfl) (hs : ∀ env, starEach [e] env = (false, eval e env) :: starEach [] env := by intro _; rfl) : DE z (.Call (.Name "list" p) [e] [] pos) (eArgs (listD own) ta) :=
  de_callTy (fun X f => f.K ▸ call_list_of) (ok_list own) (by decide +kernel) hm ha hg (by decide) (by decide) hs
theorem de_tuple (hm : z.mg "tuple" = none) (ha : DA z [e] ta) (hg : Gz z "tuple" := by rfl) (hs : ∀ env, starEach [e] env = (false, eval e env) :: starEach [] env := by intro _; rfl) : DE z (.Call (.Name "tuple" p) [e] [] pos) (eArgs tupleD ta) :=
  de_callTy (fun X f => f.K ▸ call_tuple_of) ok_tuple (by decide +kernel) hm ha hg (by decide) (by decide) hs
instance (i j : Int) : Decidable (RgOk i j) := inferInstanceAs (Decidable (_ ∧ _))
def lsRgD (own : Bool) (ds : List D) (S : List O) : Out D := match ds with
  | [.int j] => if RgOk 0 j then mkL own (rng 0 j) S else .stuck
  | [.int i, .int j] => if RgOk i j then mkL own (rng i j) S else .stuck
  | _ => .stuck
def eListRg (own : Bool) (t : TAx) : TEx := fun ρ S => (t ρ S).bind (lsRgD own)
theorem rng_vals {K : PySem.W.Frag} {g : G} {H : Hp} (i j : Int) : RVs K g H (rng i j) (rgV i j) := by
  unfold rng rgV
  generalize (j - i).toNat = n
  have key : ∀ l : List Nat, RVs K g H (l.map fun k => D.int (i + (k : Nat))) (l.map fun k => V.int (i + (k : Nat))) := by
    intro l
    induction l with
    | nil => simp only [List.map_nil, RVs]
    | cons k l ih =>
      simp only [List.map_cons, RVs]
      exact ⟨_, _, rfl, by simp only [RV], ih⟩
  exact key _
theorem de_listRg1 (own : Bool) {a : Expr} {t : TEx} {p2 pos2 : Pos} (hm : z.mg "list" = none) (hm2 : z.mg "range" = none) (ha : DE z a t) (hg : Gz z "list" := by rfl) (hg2 : Gz z "range" := by rfl) (hs : ∀ env, starEach [a] env = (false, eval a env) :: starEach [] env := by intro _; rfl)
    (hs2 : ∀ env, starEach [.Call (.Name "range" p2) [a] [] pos2] env = (false, eval (.Call (.Name "range" p2) [a] [] pos2) env) :: starEach [] env := by intro _; rfl) :
    DE z (.Call (.Name "list" p) [.Call (.Name "range" p2) [a] [] pos2] [] pos) (eListRg own (aCons t aNil)) := by
  obtain ⟨τ, h1, q1⟩ := ha
  refine ⟨_, fun X f => pe_listRg f.calm (f.gl hg) (f.mgl hm) (prg_1 (f.gl hg2) (f.mgl hm2) (h1 X f) (hs _)) (hs2 _), fun g S ρ σ H Q s rs p => ?_⟩
  unfold eListRg aCons aNil at p
  rw [Out.bind_assoc] at p
  refine q1 g S ρ σ H _ s rs (p.bind fun d S1 g1 H1 v e1 s1 r1 p1 => ?_)
  cases d with
  | int j =>
    have p1 : Post z.K z.W (RV z.K) g1 H1 σ Q (if RgOk 0 j then mkL own (rng 0 j) S1 else .stuck) := p1
    split at p1
    · exact ⟨j, rv_int r1, by assumption, fun l hl => mkL_ok s1 (rng_vals 0 j) p1 l hl⟩
    · exact p1.elim
  | _ => exact p1.elim
end
end TL
set_option Elab.async false
set_option linter.all false
set_option maxRecDepth 100000
set_option maxHeartbeats 4000000
namespace TL
open PySem PySem.Spec PyProof.Rows L2
section
variable {K : PySem.W.Frag} {g : G} {H : Hp}
theorem RVs.at {ds : List D} {xs : List V} {i : Int} {d : D} (r : RVs K g H ds xs) (h : atI ds i = some d) : ∃ v, atI xs i = some v ∧ RV K g H d v := by
  have hl := r.length
  unfold atI at h ⊢
  rw [hl]
  cases e : ixN ds.length i with
  | none => rw [e] at h; cases h
  | some j =>
    rw [e] at h
    exact r.get h
theorem RVs.cut {ds : List D} {xs : List V} (r : RVs K g H ds xs) (lo hi : Option Int) : RVs K g H ((ds.drop (HT.sIx ds.length 0 lo)).take (HT.sIx ds.length ds.length hi - HT.sIx ds.length 0 lo)) (cutV xs lo hi) := by
  unfold cutV
  rw [← r.length]
  exact (r.drop _).take _
end
def ixD (x i : D) (S : List O) : Out D := match x, i with
  | .str y, .int k => if y.length ≤ sizeLine then (match atI y.cps.toList k with
    | some c => .ok (.str ⟨#[c]⟩) S
    | none => .stuck) else .stuck
  | d, .int k => (match seqOf S d with
    | some ds => (match atI ds k with
      | some e => .ok e S
      | none => .stuck)
    | none => .stuck)
  | _, _ => .stuck
theorem ok_ix {K : PySem.W.Frag} {W : WX} : OkB K W (rIx K) ixD := by
  intro g S H σ Q x y v u s rx ry p
  unfold ixD at p
  split at p
  · split at p
    · split at p
      · rename_i k hz _ c q
        exact .inr (.inr ⟨_, _, c, rv_str rx, rv_int ry, hz, q, p.here s (by simp only [RV])⟩)
      · exact p.elim
    · exact p.elim
  · split at p
    · rename_i ds q
      split at p
      · rename_i e q2
        obtain ⟨a, xs, rfl, h1, h2⟩ := seq_at s q rx
        obtain ⟨w, h3, h4⟩ := h2.at q2
        rcases h1 with h1 | h1
        · exact .inl ⟨a, xs, _, w, rfl, rv_int ry, h1, h3, p.here s h4⟩
        · exact .inr (.inl ⟨a, xs, _, w, rfl, rv_int ry, h1, h3, p.here s h4⟩)
      · exact p.elim
    · exact p.elim
  · exact p.elim
section
variable {z : Sg} {a b : Expr} {ta tb : TEx} {pos : Pos}
theorem de_ix (ha : DE z a ta) (hb : DE z b tb) (hs : PlainIx b := by intro _ _; rfl) : DE z (.Subscript a b pos) (eBin ixD ta tb) :=
  de_bin (fun X fx τ τ' h1 h2 => fx.K ▸ pe_ix ix_seq h1 h2 hs) ok_ix ha hb
end
abbrev TOx := Env1 → List O → Out (Option Int)
def DO (z : Sg) (e : Option Expr) (t : TOx) : Prop :=
  ∃ τ, (∀ X, Fits z X → PO X e τ) ∧ ∀ g S ρ σ H (Q : Option Int → Hp → Prop), SR z.K g S H → RS z.K g H ρ σ → Post z.K z.W (fun _ _ (a b : Option Int) => a = b) g H σ Q (t ρ S) → τ σ H Q
def oNil : TOx := fun _ S => .ok none S
def oSome (t : TEx) : TOx := fun ρ S => (t ρ S).bind fun d S1 => match d with
  | .int i => .ok (some i) S1
  | _ => .stuck
section
variable {z : Sg} {e : Expr} {t : TEx}
theorem do_nil : DO z none oNil := ⟨_, fun _ _ => po_none, fun g S ρ σ H Q s _ p => p g H none (Ext.refl g H) s rfl⟩
theorem do_some (h : DE z e t) : DO z (some e) (oSome t) := by
  obtain ⟨τ, h1, q1⟩ := h
  refine ⟨_, fun X f => po_some (h1 X f), fun g S ρ σ H Q s rs p => ?_⟩
  refine q1 g S ρ σ H _ s rs (p.bind fun d S1 g1 H1 v e1 s1 r1 p1 => ?_)
  cases d with
  | int i => exact ⟨i, rv_int r1, p1 g1 H1 _ (Ext.refl _ _) s1 rfl⟩
  | _ => exact p1.elim
end
def cutD (ds : List D) (lo hi : Option Int) : List D := (ds.drop (HT.sIx ds.length 0 lo)).take (HT.sIx ds.length ds.length hi - HT.sIx ds.length 0 lo)
def slD (own : Bool) (x : D) (lo hi : Option Int) (S : List O) : Out D := match x with
  | .str y => if y.length ≤ sizeLine then .ok (.str (cutS y lo hi)) S else .stuck
  | .tup ds => .ok (.tup (cutD ds lo hi)) S
  | d => (match lstOf S d with
    | some ds => mkL own (cutD ds lo hi) S
    | none => .stuck)
abbrev rSl (K : PySem.W.Frag) : V → Option Int → Option Int → Hp → VK → Prop := fun x lo hi H Q => rSlA K x lo hi H Q ∨ rSlL K x lo hi H Q ∨ rSlS x lo hi H Q
theorem cutD_whole {ds : List D} {lo hi : Option Int} (h : HT.sIx ds.length 0 lo = 0 ∧ HT.sIx ds.length ds.length hi = ds.length) : cutD ds lo hi = ds := by
  unfold cutD
  rw [h.1, h.2]
  simp
theorem ok_sl (own : Bool) {K : PySem.W.Frag} {W : WX} {g : G} {S : List O} {H : Hp} {σ : L2.St} {Q : VK} {x : D} {v : V} {lo hi : Option Int} (s : SR K g S H) (r : RV K g H x v) (p : Post K W (RV K) g H σ Q (slD own x lo hi S)) : rSl K v lo hi H Q := by
  unfold slD at p
  split at p
  · split at p
    · exact .inr (.inr ⟨_, rv_str r, by assumption, p.here s (by simp only [RV])⟩)
    · exact p.elim
  · rename_i ds
    have r' := r
    simp only [RV] at r
    obtain ⟨a, xs, rfl, h1, h2⟩ := r
    refine .inl ⟨a, xs, rfl, h1.sq, fun w => ?_, fun _ q hq => ?_⟩
    · rw [h2.length] at w
      rw [cutD_whole w] at p
      exact p.here s r'
    · refine p.new s hq fun e => ?_
      simp only [RV]
      exact ⟨q, _, rfl, .inl ⟨.inl upd_same, s.unbad hq⟩, (h2.cut lo hi).mono s.live e _ _⟩
  · split at p
    · rename_i ds q
      obtain ⟨a, xs, rfl, h1, h2⟩ := lst_at s q r
      exact .inr (.inl ⟨a, xs, rfl, h1, fun l hl => mkL_ok s (h2.cut lo hi) p l hl⟩)
    · exact p.elim
def eSl (own : Bool) (t : TEx) (a b : TOx) : TEx := fun ρ S => (t ρ S).bind fun x S1 => (a ρ S1).bind fun lo S2 => (b ρ S2).bind fun hi S3 => slD own x lo hi S3
section
variable {z : Sg} {e : Expr} {lo hi : Option Expr} {t : TEx} {a b : TOx} {pos p2 : Pos}
theorem de_sl (own : Bool) (he : DE z e t) (hl : DO z lo a) (hh : DO z hi b) : DE z (.Subscript e (.Slice lo hi none p2) pos) (eSl own t a b) := by
  obtain ⟨τ, h1, q1⟩ := he
  obtain ⟨τ2, h2, q2⟩ := hl
  obtain ⟨τ3, h3, q3⟩ := hh
  refine ⟨_, fun X f => pe_slice (sl_tupA.or (sl_list.or sl_str)) (h1 X f) (h2 X f) (h3 X f) |> (f.K ▸ ·), fun g S ρ σ H Q s rs p => ?_⟩
  refine q1 g S ρ σ H _ s rs (p.bind fun x S1 g1 H1 v e1 s1 r1 p1 => ?_)
  refine q2 g1 S1 ρ σ H1 _ s1 (rs.mono s.live e1) (p1.bind fun i S2 g2 H2 i' e2 s2 r2 p2 => ?_)
  cases r2
  refine q3 g2 S2 ρ σ H2 _ s2 ((rs.mono s.live e1).mono s1.live e2) (p2.bind fun j S3 g3 H3 j' e3 s3 r3 p3 => ?_)
  cases r3
  exact ok_sl own s3 ((r1.mono s1.live e2).mono s2.live e3) p3
end
def putLD (ds : List D) (k : Int) (v : D) : Option (List D) := match ixN ds.length k with
  | some j => some (ds.set j v)
  | none => none
def setD (x i v : D) (S : List O) : Option (List O) := match x, i with
  | .hnd n, .int k => (match S[n]? with
    | some (.lst ds) => (match putLD ds k v with
      | some es => some (S.set n (.lst es))
      | none => none)
    | _ => none)
  | _, _ => none
def gSb (a b : TEx) : TGx := fun v ρ S => (a ρ S).stm ρ fun x S1 => (b ρ S1).stm ρ fun i S2 => match setD x i v S2 with
  | some S3 => .nx ρ S3
  | none => .stuck
section
variable {z : Sg} {a b : Expr} {ta tb : TEx} {pos : Pos}
theorem PostG.stm {K : PySem.W.Frag} {W : WX} {g : G} {H : Hp} {σ : L2.St} {ws : List Nat} {N : L2.St → Hp → Prop} {α β : Type} {R : G → Hp → α → β → Prop} {Q1 : β → Hp → Prop} {o : Out α} {ρ : Env1} {S : List O} {k : α → List O → OutS} (hp : PostG K W g H σ ws N (o.stm ρ k)) (s : SR K g S H) (rs : RS K g H ρ σ)
    (h : ∀ a S1 g1 H1 b, Ext g H g1 H1 → SR K g1 S1 H1 → RS K g1 H1 ρ σ → R g1 H1 a b → PostG K W g1 H1 σ ws N (k a S1) → Q1 b H1) : Post K W R g H σ Q1 o := by
  cases o with
  | ok a S => exact fun g1 H1 b e s1 r => h a S g1 H1 b e s1 (rs.mono s.live e) r (PostG.later (us := []) e s1 (Off.refl _ _) (by simp) hp)
  | exc C d S => exact fun g1 H1 c dd e s1 r => hp g1 H1 σ c dd e s1 (rs.mono s.live e) r
  | stuck => exact hp
theorem dg_sub (ha : DE z a ta) (hb : DE z b tb) (hx : ∀ env v, assign (.Subscript a b pos) env v = (do
      let ov ← holding [v] (eval a env)
      let iv ← holding [v, ov] (eval b env)
      standAt pos
      holding [v, ov, iv] (setItem ov iv v)
      release [v, ov, iv] []) := by intro _ _; rfl) : DG z (.Subscript a b pos) [] (gSb ta tb) := by
  obtain ⟨τ, h1, q1⟩ := ha
  obtain ⟨τ2, h2, q2⟩ := hb
  refine ⟨_, fun X f => pg_sub (h1 X f) (h2 X f) set_list (hx _), fun g S ρ σ H d v N s rs r p => ?_⟩
  refine q1 g S ρ σ H _ s rs (p.stm s rs fun x S1 g1 H1 w e1 s1 rs1 r1 p1 => ?_)
  refine q2 g1 S1 ρ σ H1 _ s1 rs1 (p1.stm s1 rs1 fun i S2 g2 H2 u e2 s2 rs2 r2 p2 => ?_)
  have rx := r1.mono s1.live e2
  have rv := (r.mono s.live e1).mono s1.live e2
  split at p2
  · rename_i S3 q
    unfold setD at q
    split at q
    · rename_i n k
      split at q
      · rename_i ds q3
        split at q
        · rename_i es q4
          cases q
          unfold putLD at q4
          split at q4
          · rename_i j q5
            cases q4
            simp only [RV] at rx
            obtain ⟨a, rfl, h3⟩ := rx
            obtain ⟨xs, h4, h5⟩ := s2.rep n a _ h3 q3
            refine ⟨a, xs, k, j, rfl, rv_int r2, h4, by rw [h5.length]; exact q5, ?_⟩
            have e3 : Ext g2 H2 g2 (upd H2 a (.lst (xs.set j v))) := Ext.write h3
            refine p2 g2 _ σ e3 (s2.write h3 fun e => ⟨_, upd_same, (h5.set rv j).mono s2.live e _ _⟩) (rs2.mono s2.live e3) (Off.refl _ _)
          · cases q4
        · cases q
      · cases q
    · cases q
  · exact p2.elim
end
def strD (ds : List D) (S : List O) : Out D := match ds with
  | [.int i] => if i.natAbs.log2 < 1920 then .ok (.str (toString i)) S else .stuck
  | [.str y] => .ok (.str y) S
  | _ => .stuck
def joinD (x u : D) (S : List O) : Out D := match x with
  | .str y => (match (seqOf S u).bind strsOf with
    | some ys => if (ys.map (·.length)).sum + ys.length * y.length ≤ 16777216 then .ok (.str (Txt.join y ys)) S else .stuck
    | none => .stuck)
  | _ => .stuck
section
variable {z : Sg} {a b e : Expr} {ta tb : TEx} {apos pos p : Pos} {t : TAx}
def strGd (x : D) (o : Out D) : Out D := match x with
  | .str _ => o
  | _ => .stuck
def eBinS (f : D → D → List O → Out D) (a b : TEx) : TEx := fun ρ S => (a ρ S).bind fun x S1 => strGd x ((b ρ S1).bind fun y S2 => f x y S2)
theorem de_m1 {e : Expr} {r : V → List V → Hp → VK → Prop} {f : D → D → List O → Out D} (mk : ∀ X, Fits z X → ∀ τ τ' : TE, PE X a τ → PE X b τ' → PE X e (tM1 r τ τ')) (ok : OkB z.K z.W (fun x y H Q => r x [y] H Q) f) (ha : DE z a ta) (hb : DE z b tb) : DE z e (eBinS f ta tb) := by
  obtain ⟨τ, h1, q1⟩ := ha
  obtain ⟨τ2, h2, q2⟩ := hb
  refine ⟨_, fun X fx => mk X fx τ τ2 (h1 X fx) (h2 X fx), fun g S ρ σ H Q s rs p => ?_⟩
  refine q1 g S ρ σ H _ s rs (p.bind fun x S1 g1 H1 v e1 s1 r1 p1 => ?_)
  cases x with
  | str y => exact ⟨⟨_, rv_str r1⟩, q2 g1 S1 ρ σ H1 _ s1 (rs.mono s.live e1) (p1.bind fun u S2 g2 H2 w e2 s2 r2 p2 => ok g2 S2 H2 σ Q _ _ _ _ s2 (r1.mono s1.live e2) r2 p2)⟩
  | _ => exact p1.elim
theorem de_join (ha : DE z a ta) (hb : DE z b tb) (hs : ∀ env, starEach [b] env = [(false, eval b env)] := by intro _; rfl) (hbs : ∀ env, attributeBase a "join" env (eval a env) = eval a env := by intro _; rfl) (hl : (apos.endLine == pos.line) = true := by rfl) : DE z (.Call (.Attribute a "join" apos) [b] [] pos) (eBinS joinD ta tb) := by
  refine de_m1 (fun X f τ τ' h1 h2 => f.K ▸ pe_join h1 h2 (hs _) (hbs _) hl) (fun g S H σ Q x y v u s rx ry p => ?_) ha hb
  unfold joinD at p
  split at p
  · split at p
    · rename_i ys q
      split at p
      · rename_i hc
        obtain ⟨ds, q1, q2⟩ := Option.bind_eq_some_iff.mp q
        obtain ⟨l, xs, rfl, h1, h2⟩ := seq_at s q1 ry
        rw [strs_vals q2 h2] at h1
        exact ⟨_, l, ys, rv_str rx, rfl, h1, hc, p.here s (by simp only [RV])⟩
      · exact p.elim
    · exact p.elim
  · exact p.elim
theorem de_strc {e : Expr} {t : TAx} (hm : z.mg "str" = none) (ha : DA z [e] t) (hg : Gz z "str" := by rfl) (hs : ∀ env, starEach [e] env = (false, eval e env) :: starEach [] env := by intro _; rfl) : DE z (.Call (.Name "str" p) [e] [] pos) (eArgs strD t) := by
  refine de_callTy (fun X f => call_str_int.or SkE.call_str_str) (fun g S H σ Q xs vs s r p => ?_) (by decide +kernel) hm ha hg (by decide) (by decide) hs
  unfold strD at p
  split at p
  · split at p
    · obtain ⟨v, rfl, rr⟩ := rvs1 r
      exact .inl ⟨_, by rw [rv_int rr], by assumption, p.here s (by simp only [RV])⟩
    · exact p.elim
  · obtain ⟨v, rfl, rr⟩ := rvs1 r
    exact .inr ⟨_, by rw [rv_str rr], p.here s (by simp only [RV])⟩
  · exact p.elim
end
end TL
set_option Elab.async false
set_option linter.all false
set_option maxRecDepth 100000
set_option maxHeartbeats 4000000
namespace TL
open PySem PySem.Spec PyProof.Rows L2
def encK : Key → PyData
  | .inl i => .int i
  | .inr s => .str s
section
variable {X : Cx} {pins : List (Addr × Obj)} {σ : L2.St} {H : Hp} {s : Shared} {g : G}
theorem not_sys {os : Obj} (hk : X.K.lookup sysModules = some os) (I : Inv X pins σ H s) {a : Addr} {o : HO} (h : H a = some o) : a ≠ sysModules := fun e => by
  subst e
  have := (I.bs _ _ (I.ok.mod.kin _ _ hk)).2
  rw [h] at this
  cases this
mutual
theorem rv_reads {os : Obj} (hk : X.K.lookup sysModules = some os) (I : Inv X pins σ H s) : ∀ (d : D) (v : V) (u : Value) (x : PyData), RV X.K g H d v → RelV v u → pd d = some x → ∃ as, Reads s.heap u x as ∧ sysModules ∉ as
  | .non, _, _, _, r, ru, e => by
    rw [rv_non r] at ru
    simp only [pd] at e
    cases e
    cases ru
    exact ⟨[], Reads.none, by simp⟩
  | .bl b, _, _, _, r, ru, e => by
    rw [rv_bl r] at ru
    simp only [pd] at e
    cases e
    cases ru
    exact ⟨[], Reads.bool b, by simp⟩
  | .int i, _, _, _, r, ru, e => by
    rw [rv_int r] at ru
    simp only [pd] at e
    cases e
    obtain ⟨t, rfl⟩ := ru
    exact ⟨[], Reads.int i t, by simp⟩
  | .str y, _, _, _, r, ru, e => by
    rw [rv_str r] at ru
    simp only [pd] at e
    cases e
    obtain ⟨t, rfl⟩ := ru
    exact ⟨[], Reads.str y t, by simp⟩
  | .tup ds, _, _, _, r, ru, e => by
    simp only [pd] at e
    cases q : pds ds with
    | none => rw [q] at e; cases e
    | some xs =>
      rw [q] at e
      cases e
      simp only [RV] at r
      obtain ⟨a, vs, rfl, h1, h2⟩ := r
      cases ru
      obtain ⟨its, rv, ⟨o, ho, hc, n, hd⟩, _⟩ := I.tuple h1.sq
      obtain ⟨as, h3, h4⟩ := rvs_reads hk I ds vs its xs h2 rv q
      exact ⟨as, Reads.tuple ho hc hd h3, h4⟩
  | .lst ds, _, _, _, r, ru, e => by
    simp only [pd] at e
    cases q : pds ds with
    | none => rw [q] at e; cases e
    | some xs =>
      rw [q] at e
      cases e
      simp only [RV] at r
      obtain ⟨a, vs, rfl, h1, _, h2⟩ := r
      cases ru
      obtain ⟨its, rv, ⟨o, n, ho, hc, _, hd⟩, _⟩ := I.list (.inl (.inl h1))
      obtain ⟨as, h3, h4⟩ := rvs_reads hk I ds vs its xs h2 rv q
      refine ⟨a :: as, Reads.list ho hc hd h3, fun m => ?_⟩
      rcases List.mem_cons.mp m with m | m
      · exact not_sys hk I h1 m.symm
      · exact h4 m
  | .dct kvs, _, _, _, r, ru, e => by
    simp only [pd] at e
    cases q : pdk kvs with
    | none => rw [q] at e; cases e
    | some xs =>
      rw [q] at e
      cases e
      simp only [RV] at r
      obtain ⟨a, ws, rfl, h1, _, h2⟩ := r
      cases ru
      obtain ⟨_, _, vs, rv, hd⟩ := h1.ok I.hok
      obtain ⟨as, h3, h4⟩ := rks_reads hk I kvs ws vs xs h2 rv q
      refine ⟨_, PyProof.V.reads_dictOf (enc := encK) (fun k key hkey => ?_) hd h3, fun m => ?_⟩
      · rcases keyIs_shape hkey with ⟨i, t, rfl, rfl⟩ | ⟨y, t, rfl, rfl⟩
        · exact Reads.int i t
        · exact Reads.str y t
      · rcases List.mem_cons.mp m with m | m
        · obtain ⟨o1, h1', _⟩ := DKo.rd.mp h1
          exact not_sys hk I h1' m.symm
        · exact h4 m
  | .ty _, _, _, _, _, _, e => by simp only [pd] at e; cases e
  | .scr _, _, _, _, _, _, e => by simp only [pd] at e; cases e
  | .tpl _, _, _, _, _, _, e => by simp only [pd] at e; cases e
  | .ins _ _, _, _, _, _, _, e => by simp only [pd] at e; cases e
  | .cls _, _, _, _, _, _, e => by simp only [pd] at e; cases e
  | .exc _ _, _, _, _, _, _, e => by simp only [pd] at e; cases e
  | .hnd _, _, _, _, _, _, e => by simp only [pd] at e; cases e
  | .any, _, _, _, _, _, e => by simp only [pd] at e; cases e
theorem rvs_reads {os : Obj} (hk : X.K.lookup sysModules = some os) (I : Inv X pins σ H s) : ∀ (ds : List D) (vs : List V) (us : List Value) (xs : List PyData), RVs X.K g H ds vs → Vals vs us → pds ds = some xs → ∃ as, ReadsAll s.heap us xs as ∧ sysModules ∉ as
  | [], _, _, _, r, ru, e => by
    simp only [RVs] at r
    subst r
    cases ru
    simp only [pds] at e
    cases e
    exact ⟨[], ReadsAll.nil, by simp⟩
  | d :: ds, _, _, _, r, ru, e => by
    simp only [RVs] at r
    obtain ⟨v, r', rfl, h1, h2⟩ := r
    cases ru with
    | cons r1 r2 =>
      simp only [pds] at e
      cases q : pd d with
      | none => rw [q] at e; cases e
      | some x =>
        rw [q] at e
        cases q2 : pds ds with
        | none => rw [q2] at e; cases e
        | some xs =>
          rw [q2] at e
          cases e
          obtain ⟨as, a1, a2⟩ := rv_reads hk I d v _ x h1 r1 q
          obtain ⟨bs, b1, b2⟩ := rvs_reads hk I ds r' _ xs h2 r2 q2
          exact ⟨as ++ bs, ReadsAll.cons a1 b1, fun m => (List.mem_append.mp m).elim a2 b2⟩
theorem rks_reads {os : Obj} (hk : X.K.lookup sysModules = some os) (I : Inv X pins σ H s) : ∀ (ds : List (Key × D)) (ws : List (Key × V)) (vs : List (Key × Value)) (xs : List (PyData × PyData)), RKs X.K g H ds ws → KV ws vs → pdk ds = some xs → ∃ as, PyProof.V.PairsRead s.heap encK vs xs as ∧ sysModules ∉ as
  | [], _, _, _, r, ru, e => by
    simp only [RKs] at r
    subst r
    cases ru
    simp only [pdk] at e
    cases e
    exact ⟨[], .nil, by simp⟩
  | (k, d) :: ds, _, _, _, r, ru, e => by
    simp only [RKs] at r
    obtain ⟨v, r', rfl, h1, h2⟩ := r
    cases ru with
    | cons r1 r2 =>
      rename_i y _
      obtain ⟨k', u⟩ := y
      obtain ⟨ek, r1⟩ := r1
      have ek : k = k' := ek
      subst ek
      simp only [pdk] at e
      cases q : pd d with
      | none => rw [q] at e; cases e
      | some x =>
        rw [q] at e
        cases q2 : pdk ds with
        | none => rw [q2] at e; cases e
        | some xs =>
          rw [q2] at e
          cases e
          obtain ⟨as, a1, a2⟩ := rv_reads hk I d v _ x h1 r1 q
          obtain ⟨bs, b1, b2⟩ := rks_reads hk I ds r' _ xs h2 r2 q2
          refine ⟨as ++ bs, ?_, fun m => (List.mem_append.mp m).elim a2 b2⟩
          cases k <;> exact .cons a1 b1
end
end
def reprOk (x : PyData) : Bool := x.showable && decide (x.depth ≤ 32) && decide (x.shown.length ≤ sizeLine)
def reprD (ds : List D) (S : List O) : Out D := match ds with
  | [d] => (match pd d with
    | some x => if reprOk x = true then .ok (.str x.shown) S else .stuck
    | none => .stuck)
  | _ => .stuck
def rRepr (K : PySem.W.Frag) : List V → Hp → VK → Prop := fun xs H Q => ∃ d v x g, xs = [v] ∧ RV K g H d v ∧ pd d = some x ∧ reprOk x = true ∧ Q (.str x.shown) H
theorem call_reprD {X : Cx} {os : Obj} (hk : X.K.lookup sysModules = some os) (hu : X.A.units + 64 < cLine) (hgd : X.A.guards = some []) : CallR X (.builtin "repr") (rRepr X.K) := by
  intro pins s σ H xs us Q I r h
  obtain ⟨d, v, x, g, rfl, rv, hx, ok, q⟩ := h
  obtain ⟨u, rfl, ru⟩ := vals1 r
  unfold reprOk at ok
  rw [Bool.and_eq_true, Bool.and_eq_true, decide_eq_true_eq, decide_eq_true_eq] at ok
  obtain ⟨⟨ok1, ok2⟩, ok3⟩ := ok
  obtain ⟨as, h1, h2⟩ := rv_reads hk I d v u x rv ru hx
  have fin : ∀ h' w tk, (∀ b o, s.heap.get? b = some o → h'.get? b = some o) → EP X pins σ Q (.str x.shown w) { s with heap := h', toks := tk } := fun h' w tk k =>
    ⟨.str x.shown, H, I.kept (t' := tk) fun b o e => k b o e, ⟨w, rfl⟩, q⟩
  cases h1 with
  | none => exact PySem.P.repr_of_none (by simpa only [PyData.shown] using fin s.heap s.toks (s.toks + 1) fun _ _ e => e)
  | bool b => exact PySem.P.repr_of_bool (by simpa only [PyData.shown] using fin s.heap s.toks (s.toks + 1) fun _ _ e => e)
  | int i t => exact PySem.P.repr_of_int (by simpa [PyData.showable] using ok1) (by simpa only [PyData.shown] using fin s.heap s.toks (s.toks + 1) fun _ _ e => e)
  | str y t => exact PySem.P.repr_of_str (by simpa only [PyData.shown] using fin s.heap s.toks (s.toks + 1) fun _ _ e => e) (by simpa only [PyData.shown] using ok3)
  | list a b c e => exact PySem.repr_of_reads' (.list a b c e) ok1 (fun _ => h2) hgd (by omega) (fun _ _ e => e) fin ok3
  | tuple a b c e => exact PySem.repr_of_reads' (.tuple a b c e) ok1 (fun _ => h2) hgd (by omega) (fun _ _ e => e) fin ok3
  | dict a b c e f => exact PySem.repr_of_reads' (.dict a b c e f) ok1 (fun _ => h2) hgd (by omega) (fun _ _ e => e) fin ok3
section
variable {z : Sg} {e : Expr} {ta : TAx} {p pos : Pos}
theorem de_repr (hk : ∃ os, z.K.lookup sysModules = some os) (hm : z.mg "repr" = none) (ha : DA z [e] ta) (hg : Gz z "repr" := by rfl) (hs : ∀ env, starEach [e] env = (false, eval e env) :: starEach [] env := by intro _; rfl) : DE z (.Call (.Name "repr" p) [e] [] pos) (eArgs reprD ta) := by
  obtain ⟨os, hk⟩ := hk
  refine de_callB (r := rRepr z.K) (fun X f => f.K ▸ call_reprD (f.K ▸ hk) f.hu f.gd) (fun g S H σ Q xs vs s r p => ?_) (by decide +kernel) hm ha hg (by decide) (by decide) hs
  unfold reprD at p
  split at p
  · rename_i d
    split at p
    · rename_i x q
      split at p
      · rename_i ok
        obtain ⟨v, rfl, rr⟩ := rvs1 r
        exact ⟨d, v, x, g, rfl, rr, q, ok, p.here s (by simp only [RV])⟩
      · exact p.elim
    · exact p.elim
  · exact p.elim
end
end TL
set_option Elab.async false
set_option linter.all false
set_option maxRecDepth 100000
set_option maxHeartbeats 4000000
namespace TLR
open PySem PyProof.Rows
open PySem.SeqAt
open PySem.AutoSeq1 (wpAny_loadPart')
open PySem.MeetsSeq PySem.MeetsSeq2 PySem.MeetsSeq3 HT
variable {prog : Program} {w : World} {A : Around} {E : Value → Shared → Prop} {s : Shared}
end TLR
namespace TL
open PySem PySem.Spec PyProof.Rows L2
end TL
set_option Elab.async false
set_option linter.all false
set_option maxRecDepth 100000
set_option maxHeartbeats 4000000
namespace TL
open PySem PySem.Spec PyProof.Rows L2
structure NwAt (K : PySem.W.Frag) (g0 : G) (H0 : Hp) (Dp : Addr) (g : G) (H : Hp) (S : List O) : Prop where
  keep : ∀ b o, H0 b = some o → b ∉ g0.hs → Kp H b o
  kb : ∀ b o, H0 b = some o → b ∉ g0.hs → g0.bad b → H b = some o
  good : ∀ b o, H0 b = some o → ¬ g0.bad b → ¬ g.bad b
  sub : ∀ b, g0.bad b → g.bad b
  pre : ∃ l, g.hs = g0.hs ++ l ∧ ∀ b ∈ l, H0 b = none ∧ b ≠ Dp
  s : SR K g S H
  bd : g.bad Dp
section
variable {K : PySem.W.Frag} {g0 g g1 : G} {H0 H H1 : Hp} {Dp : Addr} {S S1 S2 : List O}
theorem NwAt.start (s : SR K g0 S H0) (hn : H0 Dp = none) {u : HO} : NwAt K g0 H0 Dp (g0.on Dp) (upd H0 Dp u) S :=
  ⟨fun b o q _ => .inl (same_new hn b o q), fun b o q _ _ => same_new hn b o q, (Ext.on (u := u) hn).good, fun _ h => .inl h, ⟨[], by simp [G.on], fun _ h => by cases h⟩, s.on hn, .inr rfl⟩
theorem NwAt.ext (l : NwAt K g0 H0 Dp g H S) : Ext g0 H0 g H := by
  obtain ⟨m, e, f⟩ := l.pre
  exact ⟨l.keep, l.kb, l.good, l.sub, m, e, fun b hb => (f b hb).1⟩
theorem NwAt.nh (l : NwAt K g0 H0 Dp g H S) (hd : Dp ∉ g0.hs) : Dp ∉ g.hs := by
  obtain ⟨m, e, f⟩ := l.pre
  rw [e]
  intro h
  rcases List.mem_append.mp h with h | h
  · exact hd h
  · exact (f _ h).2 rfl
theorem NwAt.later (l : NwAt K g0 H0 Dp g H S) (s0 : SR K g0 S1 H0) (hd : Dp ∉ g0.hs) (e : Ext g H g1 H1) (s1 : SR K g1 S2 H1) : NwAt K g0 H0 Dp g1 H1 S2 ∧ H1 Dp = H Dp := by
  obtain ⟨m, em, fm⟩ := l.pre
  obtain ⟨m2, em2, fm2⟩ := e.pre
  have nh := l.nh hd
  obtain ⟨u, hu⟩ := l.s.trk Dp l.bd
  have st : ∀ b o, H0 b = some o → b ∉ g0.hs → b ∉ g.hs := fun b o q n h => by
    rw [em] at h
    rcases List.mem_append.mp h with h | h
    · exact n h
    · rw [(fm b h).1] at q
      cases q
  refine ⟨⟨fun b o q n => (l.keep b o q n).trans fun o1 h1 => e.kp0 b o1 h1 (st b o q n), fun b o q n hb => e.kb b o (l.kb b o q n hb) (st b o q n) (l.sub b hb), fun b o q n => ?_, fun b h => e.sub b (l.sub b h), ⟨m ++ m2, by rw [em2, em, List.append_assoc], fun b hb => ?_⟩, s1, e.sub _ l.bd⟩, ?_⟩
  · have n0 : b ∉ g0.hs := fun h => n (s0.live b h)
    obtain ⟨o1, h1⟩ := (l.keep b o q n0).some
    exact e.good b o1 h1 (l.good b o q n)
  · rcases List.mem_append.mp hb with h | h
    · exact fm b h
    · refine ⟨?_, fun q => ?_⟩
      · cases q : H0 b with
        | none => rfl
        | some o =>
          by_cases hx : b ∈ g0.hs
          · obtain ⟨o', e'⟩ := l.s.hl b (by rw [em]; exact List.mem_append_left _ hx)
            rw [fm2 b h] at e'
            cases e'
          · obtain ⟨o1, z⟩ := (l.keep b o q hx).some
            rw [fm2 b h] at z
            cases z
      · rw [q] at h
        rw [fm2 _ h] at hu
        cases hu
  · rw [hu]
    exact e.kb _ _ hu nh l.bd
theorem NwAt.wr (l : NwAt K g0 H0 Dp g H S) (hn : H0 Dp = none) (hd : Dp ∉ g0.hs) {u : HO} : NwAt K g0 H0 Dp g (upd H Dp u) S :=
  ⟨fun b o q n => by unfold Kp; rw [upd_ne (ne_of_none q hn)]; exact l.keep b o q n, fun b o q n hb => by rw [upd_ne (ne_of_none q hn)]; exact l.kb b o q n hb, l.good, l.sub, l.pre, l.s.wr l.bd (l.nh hd), l.bd⟩
theorem NwAt.wk (l : NwAt K g0 H0 Dp g H S) {u : HO} : Wk g H g (upd H Dp u) := Wk.wr l.bd
theorem NwAt.finH {W : WX} {σ : L2.St} {Q : VK} {ob : O} (l : NwAt K g0 H0 Dp g H S) (hn : H0 Dp = none) (hd : Dp ∉ g0.hs) (ho : RO K g H ob Dp) (p : Post K W (RV K) g0 H0 σ Q (.ok (.hnd S.length) (S ++ [ob]))) : Q (.ref Dp) H := by
  obtain ⟨m, em, fm⟩ := l.pre
  have nh := l.nh hd
  refine p ⟨g.bad, g.hs ++ [Dp]⟩ H _ ⟨l.keep, l.kb, l.good, l.sub, m ++ [Dp], by rw [em, List.append_assoc], fun b hb => ?_⟩ ?_ ?_
  · rcases List.mem_append.mp hb with h | h
    · exact (fm b h).1
    · rw [List.mem_singleton.mp h]
      exact hn
  · have wk : ∀ (i : Nat) (a : Addr), g.hs[i]? = some a → (g.hs ++ [Dp])[i]? = some a := fun i a h => by
      rw [List.getElem?_append_left (List.getElem?_eq_some_iff.mp h).1]
      exact h
    refine ⟨by simp [l.s.len], ?_, fun a ha => ?_, l.s.trk, fun i a o e1 e2 => ?_⟩
    · refine List.nodup_append.mpr ⟨l.s.nd, by simp, fun a ha b hb => ?_⟩
      rw [List.mem_singleton.mp hb]
      rintro rfl
      exact nh ha
    · rcases List.mem_append.mp ha with h | h
      · exact l.s.live a h
      · rw [List.mem_singleton.mp h]
        exact l.bd
    · by_cases hi : i < S.length
      · have e1' : g.hs[i]? = some a := by
          have e1 : (g.hs ++ [Dp])[i]? = some a := e1
          rwa [List.getElem?_append_left (by rw [l.s.len]; exact hi)] at e1
        have e2' : S[i]? = some o := by rwa [List.getElem?_append_left hi] at e2
        exact RO.anti (g := g) (g0 := ⟨g.bad, g.hs ++ [Dp]⟩) (fun _ h => h) wk (l.s.rep i a o e1' e2')
      · have hi2 : i = S.length := by
          have := (List.getElem?_eq_some_iff.mp e2).1
          simp at this
          omega
        subst hi2
        have e1 : (g.hs ++ [Dp])[S.length]? = some a := e1
        rw [← l.s.len] at e1
        simp at e1
        simp at e2
        subst e1 e2
        exact RO.anti (g := g) (g0 := ⟨g.bad, g.hs ++ [Dp]⟩) (fun _ h => h) wk ho
  · simp only [RV]
    exact ⟨Dp, rfl, by rw [← l.s.len]; simp⟩
theorem NwAt.finV {W : WX} {σ : L2.St} {Q : VK} {d : D} (l : NwAt K g0 H0 Dp g H S) (s0 : SR K g0 S1 H0) (hn : H0 Dp = none) (hd : Dp ∉ g0.hs) (hr : RV K (g.off Dp) H d (.ref Dp)) (p : Post K W (RV K) g0 H0 σ Q (.ok d S)) : Q (.ref Dp) H := by
  obtain ⟨m, em, fm⟩ := l.pre
  have nh := l.nh hd
  have hb : ∀ b, (G.off g Dp).bad b → g.bad b := fun b h => h.1
  have hh : ∀ (i : Nat) (a : Addr), g.hs[i]? = some a → (G.off g Dp).hs[i]? = some a := fun _ _ h => h
  refine p (g.off Dp) H _ ⟨l.keep, l.kb, fun b o q n h => l.good b o q n h.1, fun b h => ⟨l.sub b h, fun q => ?_⟩, m, em, fun b hb => (fm b hb).1⟩ ?_ hr
  · obtain ⟨o, z⟩ := s0.trk b h
    rw [q, hn] at z
    cases z
  · exact ⟨l.s.len, l.s.nd, fun a ha => ⟨l.s.live a ha, fun q => nh (by rw [← q]; exact ha)⟩, fun a h => l.s.trk a h.1, fun i a o e1 e2 => RO.anti hb hh (l.s.rep i a o e1 e2)⟩
end
def keyOf : D → Option Key
  | .int i => some (.inl i)
  | .str s => some (.inr s)
  | _ => none
def getK : List (Key × D) → Key → Option D
  | [], _ => none
  | (j, d) :: r, k => if j = k then some d else getK r k
def hasK (kvs : List (Key × D)) (k : Key) : Bool := kvs.any fun kv => decide (kv.1 = k)
def putG (kvs : List (Key × D)) (k : Key) (v : D) : List (Key × D) :=
  if hasK kvs k = true then kvs.map (fun kv => if kv.1 = k then (kv.1, v) else kv) else kvs ++ [(k, v)]
def mergeG (kvs more : List (Key × D)) : List (Key × D) := more.foldl (fun acc kv => putG acc kv.1 kv.2) kvs
def dctOf (S : List O) : D → Option (List (Key × D))
  | .dct kvs => some kvs
  | .hnd i => (match S[i]? with
    | some (.dct kvs) => some kvs
    | _ => none)
  | _ => none
section
variable {K : PySem.W.Frag} {g : G} {H : Hp} {S : List O}
theorem keyOf_rv {d : D} {k : Key} {v : V} (h : keyOf d = some k) (r : RV K g H d v) : v = kV k := by
  cases d with
  | int i => cases h; exact rv_int r
  | str i => cases h; exact rv_str r
  | _ => cases h
theorem RKs.get : ∀ {kvs : List (Key × D)} {ws : List (Key × V)} (k : Key), RKs K g H kvs ws → (match getK kvs k with
    | some d => ∃ v, valV ws k = some v ∧ RV K g H d v
    | none => valV ws k = none)
  | [], _, k, h => by
    simp only [RKs] at h
    subst h
    exact valV_nil
  | (j, d) :: r, _, k, h => by
    simp only [RKs] at h
    obtain ⟨v, r', rfl, h1, h2⟩ := h
    unfold getK
    by_cases e : j = k
    · rw [if_pos e]
      exact ⟨v, valV_pos e, h1⟩
    · rw [if_neg e]
      have := RKs.get k h2
      rw [valV_neg (p := (j, v)) e]
      exact this
theorem RKs.has : ∀ {kvs : List (Key × D)} {ws : List (Key × V)} (k : Key), RKs K g H kvs ws → (ws.any fun kv => decide (kv.1 = k)) = hasK kvs k
  | [], _, k, h => by
    simp only [RKs] at h
    subst h
    rfl
  | (j, d) :: r, _, k, h => by
    simp only [RKs] at h
    obtain ⟨v, r', rfl, h1, h2⟩ := h
    have := RKs.has k h2
    unfold hasK at this ⊢
    rw [List.any_cons, List.any_cons, this]
theorem RKs.put {d : D} {v : V} (k : Key) (rv : RV K g H d v) : ∀ {kvs : List (Key × D)} {ws : List (Key × V)}, RKs K g H kvs ws → RKs K g H (kvs.map (fun kv => if kv.1 = k then (kv.1, d) else kv)) (ws.map (fun kv => if kv.1 = k then (kv.1, v) else kv))
  | [], _, h => by
    simp only [RKs] at h
    subst h
    simp only [List.map_nil, RKs]
  | (j, e) :: r, _, h => by
    simp only [RKs] at h
    obtain ⟨w, r', rfl, h1, h2⟩ := h
    have q := RKs.put k rv h2
    rw [List.map_cons, List.map_cons]
    by_cases ej : j = k
    · simp only [ej, if_true, RKs]
      exact ⟨v, _, rfl, rv, by simpa only [ej, if_true] using q⟩
    · simp only [ej, if_false, RKs]
      exact ⟨w, _, rfl, h1, q⟩
theorem RKs.snoc {d : D} {v : V} (k : Key) (rv : RV K g H d v) : ∀ {kvs : List (Key × D)} {ws : List (Key × V)}, RKs K g H kvs ws → RKs K g H (kvs ++ [(k, d)]) (ws ++ [(k, v)])
  | [], _, h => by
    simp only [RKs] at h
    subst h
    simp only [List.nil_append, RKs]
    exact ⟨v, [], rfl, rv, rfl⟩
  | (j, e) :: r, _, h => by
    simp only [RKs] at h
    obtain ⟨w, r', rfl, h1, h2⟩ := h
    simp only [List.cons_append, RKs]
    exact ⟨w, _, rfl, h1, RKs.snoc k rv h2⟩
theorem RKs.putG {d : D} {v : V} (k : Key) (rv : RV K g H d v) {kvs : List (Key × D)} {ws : List (Key × V)} (h : RKs K g H kvs ws) : RKs K g H (putG kvs k d) (putK ws k v) := by
  unfold TL.putG putK
  rw [h.has k]
  split
  · exact h.put k rv
  · exact h.snoc k rv
theorem dct_at (s : SR K g S H) {d : D} {kvs : List (Key × D)} {v : V} (h : dctOf S d = some kvs) (r : RV K g H d v) : ∃ a ws, v = .ref a ∧ Rd H a (.dK ws) ∧ RKs K g H kvs ws := by
  cases d with
  | dct es =>
    cases h
    simp only [RV] at r
    obtain ⟨a, ws, e, h1, _, h2⟩ := r
    exact ⟨a, ws, e, h1, h2⟩
  | hnd i =>
    simp only [dctOf] at h
    split at h
    · rename_i es q
      cases h
      simp only [RV] at r
      obtain ⟨a, e, h1⟩ := r
      obtain ⟨ws, h2, h3⟩ := s.rep i a _ h1 q
      exact ⟨a, ws, e, .inl h2, h3⟩
    · cases h
  | _ => cases h
end
def mkD (own : Bool) (kvs : List (Key × D)) (S : List O) : Out D := if own then .ok (.hnd S.length) (S ++ [.dct kvs]) else .ok (.dct kvs) S
section
variable {z : Sg} {pos : Pos}
theorem de_dct0 (own : Bool) : DE z (.Dict [] [] pos) (fun _ S => mkD own [] S) := by
  refine ⟨_, fun X f => pe_dnewK, fun g S ρ σ H Q s rs p q hq => ?_⟩
  have p : Post z.K z.W (RV z.K) g H σ Q (mkD own [] S) := p
  unfold mkD at p
  split at p
  · exact Post.newH s hq p (fun e => ⟨[], upd_same, by simp only [RKs]⟩) fun e => RV.newH s
  · refine Post.new s hq p fun e => ?_
    simp only [RV]
    exact ⟨q, [], rfl, .inl upd_same, s.unbad hq, by simp only [RKs]⟩
end
abbrev TPx := Env1 → List O → Out (List (Key × D))
def pNil : TPx := fun _ S => .ok [] S
section
variable {z : Sg} {pos : Pos} {k v : Expr} {ks : List (Option Expr)} {vs : List Expr} {a b : TEx} {r : TPx}
end
def dgetD (x y : D) (S : List O) : Out D := match dctOf S x, keyOf y with
  | some kvs, some k => (match getK kvs k with
    | some d => .ok d S
    | none => .stuck)
  | _, _ => .stuck
def dinD (y x : D) (S : List O) : Out D := match dctOf S x, keyOf y with
  | some kvs, some k => .ok (.bl (hasK kvs k)) S
  | _, _ => .stuck
theorem getK_has : ∀ (kvs : List (Key × D)) (k : Key), (getK kvs k).isSome = hasK kvs k
  | [], _ => rfl
  | (j, d) :: r, k => by
    have := getK_has r k
    have e1 : getK ((j, d) :: r) k = if j = k then some d else getK r k := rfl
    have e2 : hasK ((j, d) :: r) k = (decide (j = k) || hasK r k) := rfl
    rw [e1, e2, ← this]
    by_cases e : j = k
    · simp [e]
    · simp [e]
section
variable {z : Sg} {a b : Expr} {ta tb : TEx} {pos : Pos}
theorem de_dget (ha : DE z a ta) (hb : DE z b tb) (hs : NoSl b := by intro _ _; rfl) : DE z (.Subscript a b pos) (eBin dgetD ta tb) := by
  refine de_bin (r := fun x y H2 Q => ∃ p v, x = .ref p ∧ DGet H2 p y (some v) ∧ Q v H2) (fun X fx τ τ' h1 h2 => pe_dget (by have := fx.hu; omega) h1 h2 hs) (fun g S H σ Q x y v u s rx ry p => ?_) ha hb
  unfold dgetD at p
  split at p
  · rename_i kvs k e1 e2
    obtain ⟨l, ws, rfl, h1, h2⟩ := dct_at s e1 rx
    have hg := h2.get k
    split at p
    · rename_i d q
      rw [q] at hg
      obtain ⟨w, h3, h4⟩ := hg
      exact ⟨l, w, rfl, .inl ⟨ws, k, h1, keyOf_rv e2 ry, h3.symm⟩, p.here s h4⟩
    · exact p.elim
  · exact p.elim
end
end TL
set_option Elab.async false
set_option linter.all false
set_option maxRecDepth 100000
set_option maxHeartbeats 4000000
namespace TLI
open PySem PySem.W PySem.Calls PyProof.Rows PySem.HandSPX
structure IFn (K : Frag) (P : Program) (D f : Addr) : Prop where
  fn : ∃ (cc cda : Addr) (oc : Value) (od : Option Addr) (osl : Array (Option Value)) (name qual : Str) (q1 q2 p0 p1 p2 p3 p4 p5 p6 p7 p8 p9 : Pos) (kV doc pm ct : Value) (an : Option Addr),
    (p2.endLine == p4.line) = true ∧
    K.lookup f = some ⟨oc, od, .func (ksFn name qual (iArgs q1 q2) (iBody p0 p1 p2 p3 p4 p5 p6 p7 p8 p9) iScope .none kV doc pm an (.ref cda) ct cc), osl⟩ ∧ codeIn K (.ref cda) qual = true ∧
    (∃ (ccl : Value) (cdd : Option Addr) (vs : Array Value) (ccs : Array (Option Value)) (file : Str) (tf : Tok), K.lookup cda = some ⟨ccl, cdd, .fields vs, ccs⟩ ∧ vs[2]? = some (.str file tf) ∧ ((P.main.file : Str) == file) = true) ∧
    (∃ (cl : Value) (cld : Option Addr) (csl : Array (Option Value)), K.lookup cc = some ⟨cl, cld, .cell (some (.ref D)), csl⟩)
  clsD : ∃ cdD, clsIn K D = some cdD
  opq : nsIn K cStatics "thirdparty.any" = some none
  top : (P.main.scope.names.lookup ("super" : Str)).isSome = false
  ty : typeIn K (.ref f) = some (.type "function")
structure ICls (K : Frag) (D f C : Addr) : Prop where
  oex : L2.OexC K C
  ini : findIn K (.ref C) "__init__" = some (some (.ref f))
  subD : mroIn K C (.ref D) = some true
  sup : ks_superIn K C D "__init__" = some (some (.builtin "ValueError.__init__"))
  subV : subIn K (.ref C) (.type "ValueError") = some true
  nov : findIn K (.ref C) "value" = some none
section
variable {prog : Program} {w : World} {A : Around} {E : Value → Shared → Prop} {h b0 : Heap} {g : Array GenState} {d : Drawn} {t : Nat} {os : OsState} {K : Frag} {mg : Str → Option Value} {D f C e t0 : Addr} {u : Value} {R : Result → Shared → Prop}
theorem call_back {uu e t0 : Addr} {rest : List Value} {Q : Value → Shared → Prop} {nm q : Str} {C N : Addr} {bs bm : List Value} {hdct : Bool} {sn : List Str} {sub : List Value} {ab : Bool} {col : Option Bool} {dd : Option Addr} {k0 k1 k2 k3 k5 : Option Value}
    (hC : h.get? C = some (excClassObj nm q C N bs bm hdct sn sub ab col dd k0 k1 k2 k3 k5 "ValueError.__new__")) (he : h.get? e = some (excO C t0)) (hu : h.get? uu = some (kxs_mw "ValueError.__init__" e)) (hrest : rest.length ≤ sizeLine)
    (hq : ∀ h' t1, (∀ b o, b ≠ e → h.get? b = some o → h'.get? b = some o) → h'.get? e = some (excO C t1) → Q .none ⟨h', g, d, t, os⟩) :
    wpAny (model prog w) A (call (.ref uu) rest) Q E ⟨h, g, d, t, os⟩ := by
  have FB : ExcBaseFacts "ValueError" "ValueError.__new__" "ValueError.__init__" _ := F.excBase_ValueError
  refine wpAny_call (codeAny_of_tree ?_)
  show wpAny _ A.in1 (callAny (.ref uu) ⟨rest, []⟩) _ _ _
  simp only [callAny]
  refine wpAny_bind (wpAny_load hu ?_)
  simp only [kxs_mw, show (Value.type "method-wrapper" == Value.type "method" || Value.type "method-wrapper" == Value.type "builtin_function_or_method" || Value.type "method-wrapper" == Value.type "method-wrapper") = true by decide, if_true]
  refine KFB.if_so (by decide) ?_
  refine wpAny_bind (check_bound_init FB.toExcCallFacts hC he rfl ?_)
  refine wpAny_bind (wpAny_pure (wpAny_pure ?_))
  refine ⟨plainId_quiet FB.init.plain _, codeAny_builtin FB.initEntry ?_⟩
  exact exc_init_tree (cls := .ref C) (t0 := t0) (dv := none) (c2 := .none) (c3 := .none) (b4 := .bool false) he hrest fun h' k e' _ => hq h' _ k e'
theorem at_meth {c : Code} {env : Env} {o : PySem.Expr} {e1 : PySem.Expr} {name : Str} {apos pos : Pos} {Q : Value → Shared → Prop} {s : Shared} (hline : (apos.endLine == pos.line) = true) (hs : starEach [e1] env = [(false, eval e1 env)])
    (h : _root_.PySem.wpAt (model prog w) A c (attributeBase o name env (eval o env)) (fun ov s₁ => ∀ pl, wpAny (model prog w) A (getMethod ov name pl) (fun fx s₂ => wpAny (model prog w) A (callWith pos fx.1 fx.2 [(false, eval e1 env)] []) Q E s₂) E s₁) E s) :
    _root_.PySem.wpAt (model prog w) A c (eval (.Call (.Attribute o name apos) [e1] [] pos) env) Q E s := by
  have hb : backTo pos (starEach [e1] env) = [(false, eval e1 env)] := by rw [hs]; rfl
  rw [arm_eval_Call, hb]
  refine _root_.PySem.wpAt_bind (_root_.PySem.wpAt_mono h (fun ov s₁ h₁ => _root_.PySem.wpAt_of_wpAny ?_) fun _ _ x => x)
  refine wpAny_bind (wpAny_standAt ?_)
  have hpos : methodCallPos true o env apos pos = pure pos := by unfold methodCallPos; simp [hline]
  show wpAny _ _ (holding [ov] (calleeOf true o env ov name) >>= fun x => methodCallPos true o env apos pos >>= fun cp => callWith cp x.1 x.2 [(false, eval e1 env)] []) _ _ _
  rw [hpos]
  unfold calleeOf
  rw [if_pos rfl]
  exact wpAny_bind (wpAny_holding (wpAny_mono (h₁ _) (fun fx s₂ h₂ => wpAny_bind (wpAny_pure h₂)) fun _ _ x => x))
theorem init_run (Fn : IFn K prog D f) (T : ICls K D f C) (X0 : K.In b0) (G0 : b0.Ns mainGlobals mg) (hsu : mg "super" = none) (B0 : ∃ mb, b0.Ns builtinsNs mb ∧ ∀ x : Str, x ≠ "__name__" → mb x = bootBuiltins x) (L0 : b0.NoLimit)
    (hroom : A.depth < recursionLimit) (hb : ∀ b o, b0.get? b = some o → h.get? b = some o ∧ b ≠ e) (he : h.get? e = some (excO C t0))
    (hq : ∀ h' t1 tk' dx, (∀ b o, b ≠ e → h.get? b = some o → h'.get? b = some o) → h.get? dx = none → dx ≠ e → h'.get? e = some { cls := .ref C, dict := some dx, data := .fields #[.ref t1, .none, .none, .none, .bool false, .none] } →
      h'.Ns1 dx (fun y => if y = "value" then some u else none) → R (.ok (.ret .none)) ⟨h', g, d, tk', os⟩) :
    codeAny (model prog w) A (.call (.ref f) ⟨[.ref e, u], []⟩) R ⟨h, g, d, t, os⟩ := by
  obtain ⟨cc, cda, oc, od, osl, name, qual, q1, q2, p0, p1, p2, p3, p4, p5, p6, p7, p8, p9, kV, doc, pm, ct, an, hline, hf, hcd, ⟨ccl, cdd, vs, ccs, file, tf, hcda, hvs, hfile⟩, ⟨cl, cld, csl, hcc⟩⟩ := Fn.fn
  obtain ⟨cdD, hD⟩ := Fn.clsD
  obtain ⟨nm, q, N, bs, bm, sn, sub, ab, col, dd, k0, k1, k2, k3, k5, hCl, hbm⟩ := T.oex.cls
  have hcl : clsIn K C = some { name := nm, bases := bs, mro := .ref C :: bm, ns := N, qualname := q, hasDict := true, slotNames := sn, subclasses := sub, abstract := ab, collection := col, hasDel := false } := by unfold clsIn; rw [hCl] <;> rfl
  obtain ⟨mb, hmb, hbt⟩ := B0
  have up0 : ∀ {h1 : Heap}, (∀ b o, b ≠ e → h.get? b = some o → h1.get? b = some o) → ∀ b o, b0.get? b = some o → h1.get? b = some o := fun k b o z => k b o (hb b o z).2 (hb b o z).1
  have Xh : ∀ {h1 : Heap}, (∀ b o, b ≠ e → h.get? b = some o → h1.get? b = some o) → K.In h1 := fun k => X0.keeps (up0 k)
  have X := Xh (h1 := h) fun _ _ _ z => z
  refine ks_codeAny_call_defAt (fd := ksFn name qual (iArgs q1 q2) (iBody p0 p1 p2 p3 p4 p5 p6 p7 p8 p9) iScope .none kV doc pm an (.ref cda) ct cc) (body := iBody p0 p1 p2 p3 p4 p5 p6 p7 p8 p9) (binds := [("self", .ref e), ("value", u)]) hroom (X _ _ hf) rfl
    (L0.keeps (up0 fun _ _ _ z => z)) (codeRec_of X hcd) rfl (BindsTo.of_eq rfl) (show ∀ x ∈ iScope.names, x.2 ≠ .cell by decide) (locs rfl) (fun h₁ hns hk₁ => ?_)
  have Lne : h.objs.size ≠ e := Nat.ne_of_gt (Heap.lt_size he)
  have k1 : ∀ b o, b ≠ e → h.get? b = some o → h₁.get? b = some o := fun b o _ z => hk₁ b o z
  have he1 : h₁.get? e = some (excO C t0) := hk₁ _ _ he
  have eC : e ≠ C := fun z => by
    subst z
    have := X _ _ hCl
    rw [he] at this
    cases this
  obtain ⟨oD, hD1, hD2⟩ : ∃ oD, h₁.get? D = some oD ∧ oD.data = .cls cdD := by
    unfold clsIn at hD
    split at hD
    · rename_i c d cd' sl ho
      cases hD
      exact ⟨_, Xh k1 _ _ ho, rfl⟩
    · cases hD
  have X1 := Xh k1
  refine ks_wpAt_execs_cons (ks_wpAt_Expr_any (at_meth hline rfl ?_) rfl rfl)
  refine ks_wpAt_super_base (of := ⟨oc, od, _, osl⟩) (ar := { arg := "self", annotation := none, pos := q1 }) rfl rfl rfl rfl (X1 _ _ hf) rfl rfl rfl (X1 _ _ hcda) rfl hvs hfile Fn.top ?_
  refine ks_loadName_global rfl rfl (loadGlobal_builtin (G0.keeps (up0 k1)) hsu (hmb.keeps (up0 k1)) ((hbt "super" (by decide)).trans (by decide +kernel)) ⟨rfl, ?_⟩)
  refine wpAny_loadName_free rfl rfl rfl ⟨_, X1 _ _ hcc, rfl⟩ ?_
  refine wpAny_loadName_local rfl rfl hns rfl ?_
  refine ks_wpAny_isType_cls hD1 hD2 ⟨rfl, ?_⟩
  refine ks_wpAny_call_super hD1 hD2 he1 rfl (fun c => nofun) (looks_mroIn X1 T.subD) (fun h2 hso k2 pl => ?_)
  have k12 : ∀ b o, b ≠ e → h.get? b = some o → h2.get? b = some o := fun b o n z => k2 _ _ (k1 _ _ n z)
  have he2 : h2.get? e = some (excO C t0) := k2 _ _ he1
  have X2 := Xh k12
  have hns2 : h2.Ns h.objs.size (fun x => ([("self", Value.ref e), ("value", u)] : List (Str × Value)).reverse.lookup x) := hns.keeps k2
  have hsup := T.sup
  unfold ks_superIn at hsup
  rw [hcl] at hsup
  refine kxs_getMethod kxs_ValueError hso (looks_opaque X2 Fn.opq) (l₀ := .ref C :: bm) (fun A Q E s k q => wpAny_bind ((looks_clsIn X2 hcl) A _ E s k (wpAny_pure q))) rfl X2 hsup ?_ eC (by decide) ?_
  · have I : InstAt h2 e (excO C t0) C none := ⟨he2, rfl, rfl, trivial⟩
    exact I.type.andThen (looks_subIn X2 T.subV)
  have hmw : (h2.push (kxs_mw "ValueError.__init__" e)).get? h2.objs.size = some (kxs_mw "ValueError.__init__" e) := Heap.get?_push_at rfl rfl
  have k3 : ∀ b o, h2.get? b = some o → (h2.push (kxs_mw "ValueError.__init__" e)).get? b = some o := fun b o z => Heap.get?_push_of_some _ z
  have he3 := k3 _ _ he2
  have hns3 := hns2.keeps k3
  refine kxs_callWith (i := "ValueError.__init__") (x := e) (args := [(false, eval (.Name "value" p3) _)]) rfl ?_
  refine evalArgs_plain (Calls.spliced_cons (ldc rfl rfl hns3 rfl (Calls.spliced_nil ⟨hmw, ?_⟩)))
  have k13 : ∀ b o, b ≠ e → h.get? b = some o → (h2.push (kxs_mw "ValueError.__init__" e)).get? b = some o := fun b o n z => k3 _ _ (k12 _ _ n z)
  refine call_back ((Xh k13) _ _ hCl) he3 hmw (by show 1 ≤ sizeLine; decide) fun h4 t1 k4 he4 => ?_
  have hns4 : h4.Ns h.objs.size (fun x => ([("self", Value.ref e), ("value", u)] : List (Str × Value)).reverse.lookup x) := by
    obtain ⟨o, es, ep, z, r⟩ := hns3
    exact ⟨o, es, ep, k4 _ _ Lne z, r⟩
  have k14 : ∀ b o, b ≠ e → h.get? b = some o → h4.get? b = some o := fun b o n z => k4 _ _ n (k13 _ _ n z)
  have X4 := Xh k14
  refine ks_wpAt_execs_cons (ks_wpAt_Assign_Attr (_root_.PySem.wpAt_of_wpAny (ldc rfl rfl hns4 rfl (ldc rfl rfl hns4 rfl ?_))) rfl)
  refine set_plain X4 (ox := excO C t1) (od := none) ⟨he4, rfl, rfl, trivial⟩ T.oex.sa ?_
  refine exc_osa X4 he4 hcl (show refsVE (.ref C :: bm) = true from hbm) rfl T.nov (fun h5 tk5 dx k5' dn dne hx hn => ?_)
  show _root_.PySem.wpAt _ _ _ (execs [] _) _ _ _
  refine _root_.PySem.wpAt_of_wpAny (wpAny_pure ?_)
  refine hq h5 t1 tk5 dx (fun b o n z => k5' _ _ n (k14 _ _ n z)) ?_ dne hx hn
  cases z : h.get? dx with
  | none => rfl
  | some o => exact absurd (Heap.lt_size (k14 _ _ dne z)) (Nat.not_lt.mpr dn)
end
end TLI
set_option Elab.async false
set_option linter.all false
set_option maxRecDepth 100000
set_option maxHeartbeats 4000000
namespace TL
open PySem PySem.Spec PyProof.Rows L2
section
variable {X : Cx} {C D f : Addr} {pins : List (Addr × Obj)} {σ : L2.St} {H : Hp} {s : Shared}
end
end TL
set_option Elab.async false
set_option linter.all false
set_option maxRecDepth 100000
set_option maxHeartbeats 4000000
namespace TL
open PySem PySem.Spec PyProof.Rows L2
structure ExC (K : PySem.W.Frag) (C : Str) : Prop where
  ic : TLI.ICls K (He.ga K dErr) (He.ma K (He.ga K dErr) "__init__") (He.ga K C)
  mro : ∃ cd, PySem.W.clsIn K (He.ga K C) = some cd ∧ cd.mro = .ref (He.ga K C) :: (if C = dErr then veB else .ref (He.ga K dErr) :: veB) ∧ cd.hasDict = true
  ty : PySem.W.typeIn K (.ref (He.ga K C)) = some (.type "type")
  gat : PySem.W.findIn K (.ref (He.ga K C)) "__getattribute__" = some (some (.builtin "BaseException.__getattribute__"))
  gtr : PySem.W.findIn K (.ref (He.ga K C)) "__getattr__" = some none
  cla : PySem.W.findIn K (.ref (He.ga K C)) "__class__" = some (some (.builtin "object.__class__"))
structure ExF (K : PySem.W.Frag) (ex : List Str) : Prop where
  nd : (ex.map (He.ga K)).Nodup
  de : dErr ∈ ex
  one : ∀ C ∈ ex, ExC K C
  spg : PySem.W.specialIn K (.builtin "object.__class__") "__get__" = some (some (.builtin "getset_descriptor.__get__"))
  tak : PySem.W.takesIn K (.builtin "object.__class__") = some true
section
variable {K : PySem.W.Frag} {ex : List Str} {B C : Str}
theorem ga_eq : ∀ {ex : List Str}, (ex.map (He.ga K)).Nodup → B ∈ ex → C ∈ ex → (He.ga K B = He.ga K C ↔ B = C)
  | [], _, h, _ => by cases h
  | x :: ex, nd, hB, hC => by
    rw [List.map_cons, List.nodup_cons] at nd
    refine ⟨fun e => ?_, fun e => by rw [e]⟩
    rcases List.mem_cons.mp hB with rfl | hB
    · rcases List.mem_cons.mp hC with rfl | hC
      · rfl
      · exact absurd (by rw [e]; exact List.mem_map_of_mem hC) nd.1
    · rcases List.mem_cons.mp hC with h | hC
      · rw [h] at e
        exact absurd (by rw [← e]; exact List.mem_map_of_mem hB) nd.1
      · exact (ga_eq nd.2 hB hC).mp e
theorem ExF.sub (F : ExF K ex) (hC : C ∈ ex) (c : Value) : PySem.W.subIn K (.ref (He.ga K C)) c = some ((.ref (He.ga K C) :: (if C = dErr then veB else .ref (He.ga K dErr) :: veB)).contains c) := by
  obtain ⟨cd, h1, h2, _⟩ := (F.one C hC).mro
  show PySem.W.mroIn K (He.ga K C) c = _
  unfold PySem.W.mroIn
  rw [h1, Option.bind_some, h2]
  rfl
def isErr (C B : Str) : Bool := decide (C = B) || decide (B = dErr)
theorem ExF.kit (F : ExF K ex) (hC : C ∈ ex) (hB : B ∈ ex) : PySem.W.kitOne K (.ref (He.ga K C)) (.ref (He.ga K B)) = some (isErr C B) := by
  have e1 : (Value.ref (He.ga K C) == Value.ref (He.ga K B)) = decide (C = B) := by
    by_cases h : C = B
    · rw [h]; simp
    · have : ¬ He.ga K C = He.ga K B := fun z => h ((ga_eq F.nd hC hB).mp z)
      simp [h, this]
  have e2 : (Value.ref (He.ga K dErr) == Value.ref (He.ga K B)) = decide (B = dErr) := by
    by_cases h : B = dErr
    · rw [h]; simp
    · have : ¬ He.ga K dErr = He.ga K B := fun z => h ((ga_eq F.nd F.de hB).mp z).symm
      simp [h, this]
  unfold PySem.W.kitOne
  rw [e1]
  by_cases h : C = B
  · simp [h, isErr]
  · obtain ⟨cd, h1, _⟩ := (F.one B hB).mro
    simp only [h, decide_false, Bool.false_eq_true, if_false, PySem.W.kitCls, h1, Option.isSome_some, (F.one B hB).ty, beq_self_eq_true, Bool.and_self, if_true]
    rw [F.sub hC]
    congr 1
    rw [List.contains_cons]
    have e1' : (Value.ref (He.ga K B) == Value.ref (He.ga K C)) = decide (C = B) := by rw [← e1]; exact Bool.beq_comm ..
    have e2' : (Value.ref (He.ga K B) == Value.ref (He.ga K dErr)) = decide (B = dErr) := by rw [← e2]; exact Bool.beq_comm ..
    have nv : ∀ a : Addr, veB.contains (.ref a) = false := fun a => rfl
    unfold isErr
    rw [e1']
    split
    · rename_i hd
      rw [nv]
      have : ¬ B = dErr := fun z => h (hd.trans z.symm)
      simp [this]
    · rw [List.contains_cons, e2', nv]
      simp
def tyErr (n : String) : Option Bool := if n ∈ ["ValueError", "Exception"] then some true else if n ∈ tyR then some false else none
theorem tyErr_all : ∀ n ∈ (["ValueError", "Exception"] : List String) ++ tyR, PySem.W.kitMeta n = true ∧ veB.contains (.type n) = decide (n ∈ (["ValueError", "Exception"] : List String)) := by decide +kernel
theorem ExF.kitT (F : ExF K ex) (hC : C ∈ ex) {n : String} {b : Bool} (h : tyErr n = some b) : PySem.W.kitOne K (.ref (He.ga K C)) (.type n) = some b := by
  have key : n ∈ (["ValueError", "Exception"] : List String) ++ tyR ∧ b = decide (n ∈ (["ValueError", "Exception"] : List String)) := by
    unfold tyErr at h
    split at h
    · rename_i q
      cases h
      exact ⟨List.mem_append_left _ q, by simp [q]⟩
    · rename_i q
      split at h
      · rename_i q2
        cases h
        exact ⟨List.mem_append_right _ q2, by simp [q]⟩
      · cases h
  obtain ⟨k1, rfl⟩ := key
  obtain ⟨m1, m2⟩ := tyErr_all n k1
  unfold PySem.W.kitOne
  rw [if_neg (show ¬ ((Value.ref (He.ga K C) == Value.type n) = true) from Bool.false_ne_true)]
  simp only [PySem.W.kitCls, m1, if_true]
  rw [F.sub hC, ← m2]
  congr 1
  split
  · rfl
  · rfl
theorem noErr_all : ∀ a ∈ tyL, ((PySem.fastBuiltinMro a).any fun l => l.all fun v => match v with
    | .type _ => true
    | _ => false) = true := by decide +kernel
theorem kit_no {a : String} (h : a ∈ tyL) (F : ExF K ex) (hB : B ∈ ex) : PySem.W.kitOne K (.type a) (.ref (He.ga K B)) = some false := by
  have h1 := noErr_all a h
  unfold PySem.W.kitOne
  rw [if_neg (show ¬ ((Value.type a == Value.ref (He.ga K B)) = true) from Bool.false_ne_true)]
  obtain ⟨cd, h2, _⟩ := (F.one B hB).mro
  simp only [PySem.W.kitCls, h2, Option.isSome_some, (F.one B hB).ty, beq_self_eq_true, Bool.and_self, if_true]
  cases e : PySem.fastBuiltinMro a with
  | none => rw [e] at h1; cases h1
  | some l =>
    rw [e] at h1
    show (PySem.fastBuiltinMro a).map (·.contains (Value.ref (He.ga K B))) = some false
    rw [e]
    show some (l.contains _) = some false
    congr 1
    have h1 : (l.all fun v => match v with
      | .type _ => true
      | _ => false) = true := h1
    rw [List.all_eq_true] at h1
    refine Bool.eq_false_iff.mpr fun z => ?_
    have := h1 _ (List.contains_iff_mem.mp z)
    cases this
end
section
variable {X : Cx} {ex : List Str} {C : Str}
def rIsE2 (K : PySem.W.Frag) (ex : List Str) : List V → Hp → VK → Prop := fun xs H Q => ∃ (a dd : Addr) (fs : List (Str × V)) (C : Str) (c : V) (cv : Value) (b : Bool), xs = [.ref a, c] ∧ C ∈ ex ∧ H a = some (ExO (.ref (He.ga K C)) (some dd) a) ∧ H dd = some (.xd fs) ∧ ClsV c cv ∧ PySem.W.kitOne K (.ref (He.ga K C)) cv = some b ∧ Q (.bl b) H
theorem exO_inst {pins : List (Addr × Obj)} {σ : L2.St} {H : Hp} {s : Shared} {a dd : Addr} {fs : List (Str × V)} (I : Inv X pins σ H s) (ha : H a = some (ExO (.ref (He.ga X.K C)) (some dd) a)) (hd : H dd = some (.xd fs)) :
    ∃ ox od mA, PySem.W.InstAt s.heap a ox (He.ga X.K C) (some od) ∧ s.heap.get? dd = some od ∧ s.heap.Ns1 dd mA ∧ (∀ f, RelO (fs.lookup f) (mA f)) ∧ ∀ name, PySem.W.lookIn name od = some (mA name) := by
  obtain ⟨⟨oe, vs, h1, ⟨h2, h3⟩, h4⟩, _, _⟩ := (show ObjOk X.prog X.w H s.heap a (.ext _) from I.hok a _ ha)
  obtain ⟨mA, hns, hr⟩ := (show ObjOk X.prog X.w H s.heap dd (.xd fs) from I.hok dd _ hd)
  obtain ⟨od, ho, hl⟩ := lookIn_ns hns
  exact ⟨oe, od, mA, ⟨h1, h2, by unfold PySem.W.notCls; rw [h4] <;> rfl, by rw [h3]; exact ho⟩, ho, hns, hr, hl⟩
theorem call_isE2 (F : ExF X.K ex) : CallR X (.builtin "isinstance") (rIsE2 X.K ex) := by
  intro pins s σ H xs us Q I r h
  obtain ⟨a, dd, fs, C, c, cv, b, rfl, hC, ha, hd, k, e, q⟩ := h
  obtain ⟨u1, u2, rfl, r1, r2⟩ := vals2 r
  cases r1
  have e2 := k.eq r2
  subst e2
  obtain ⟨ox, od, mA, J, _⟩ := exO_inst I ha hd
  have G := F.one C hC
  obtain ⟨cd, hcd, hm, _⟩ := G.mro
  have hob : PySem.W.mroIn X.K (He.ga X.K C) (.type "object") = some true := by
    have := F.sub hC (.type "object")
    have this : PySem.W.mroIn X.K (He.ga X.K C) (.type "object") = _ := this
    rw [this]
    congr 1
    split <;> rfl
  exact PySem.W.kia_one (PySem.W.kitx_exc (x := a) (ox := ox) (od := some od) (by rw [hcd]; rfl) G.gat G.gtr G.ic.oex.exC G.cla F.spg F.tak hob) I.kIn J e (fun z => nomatch z) fun tk => ⟨.bl b, H, I.tok tk, rfl, q⟩
def tFldE (K : PySem.W.Frag) (ex : List Str) (n : Str) (te : TE) : TE := fun σ H Q => te σ H fun x H1 => ∃ (a dd : Addr) (fs : List (Str × V)) (C : Str) (v : V), x = .ref a ∧ C ∈ ex ∧ H1 a = some (ExO (.ref (He.ga K C)) (some dd) a) ∧ H1 dd = some (.xd fs) ∧ PySem.W.findIn K (.ref (He.ga K C)) n = some none ∧ fs.lookup n = some v ∧ Q v H1
theorem pe_fldE {e : Expr} {te : TE} {pos : Pos} {n : Str} (F : ExF X.K ex) (he : PE X e te) (hb : attributeBase e n X.env (eval e X.env) = eval e X.env := by rfl) : PE X (.Attribute e n pos) (tFldE X.K ex n te) := by
  refine ⟨fun pins s σ H Q I h => ?_⟩
  refine attr_of hb (thn (he.run pins s σ H _ I h) fun u s1 ⟨x, H1, I1, rx, a, dd, fs, C, v, ex1, hC, ha, hd, hno, hl, q⟩ => ?_)
  subst ex1
  obtain rfl : u = Value.ref a := rx
  obtain ⟨ox, od, mA, J, ho, hns, hr, hlk⟩ := exO_inst I1 ha hd
  have G := F.one C hC
  obtain ⟨u, hu, ru⟩ := RelO.some_of (v := v) (o := mA n) (by rw [← hl]; exact hr n)
  obtain ⟨cd, hcd, hm, hdi⟩ := G.mro
  have hdI : PySem.W.hasDictIn X.K (He.ga X.K C) = true := by
    unfold PySem.W.hasDictIn
    rw [hcd]
    exact hdi
  exact HandSPX.exc_get I1.kIn J G.gat G.gtr G.ic.oex.exC (PySem.W.findObj_own hdI hno rfl (by rw [hlk, hu])) (handed_of ru) ⟨v, H1, I1.tok _, ru, q⟩
end
def valE (ex : List Str) (x : D) (S : List O) : Out D := match x with
  | .exc C d => if C ∈ ex then .ok d S else .stuck
  | _ => .stuck
section
variable {z : Sg} {ex : List Str} {a b : Expr} {ta : TAx} {t : TEx} {p pos : Pos}
theorem de_valE (F : ExF z.K ex) {e : Expr} (he : DE z e t) (hb : ∀ env, attributeBase e "value" env (eval e env) = eval e env := by intro _; rfl) : DE z (.Attribute e "value" pos) (eUn (valE ex) t) := by
  refine de_un (r := fun x H1 Q => ∃ (a dd : Addr) (fs : List (Str × V)) (C : Str) (v : V), x = .ref a ∧ C ∈ ex ∧ H1 a = some (ExO (.ref (He.ga z.K C)) (some dd) a) ∧ H1 dd = some (.xd fs) ∧ PySem.W.findIn z.K (.ref (He.ga z.K C)) "value" = some none ∧ fs.lookup (Str.ofString "value") = some v ∧ Q v H1)
    (fun X f τ h => f.K ▸ pe_fldE (f.K ▸ F) h (hb _)) (fun g S H σ Q x v s rx p => ?_) he
  unfold valE at p
  split at p
  · split at p
    · rename_i C d hc
      simp only [RV] at rx
      obtain ⟨l, dd, w, rfl, h1, _, h2, _, h3⟩ := rx
      exact ⟨l, dd, _, C, w, rfl, hc, h1, h2, (F.one C hc).ic.nov, rfl, p.here s h3⟩
    · exact p.elim
  · exact p.elim
end
end TL
set_option Elab.async false
set_option linter.all false
set_option maxRecDepth 100000
set_option maxHeartbeats 4000000
namespace TL
open PySem PySem.Spec PyProof.Rows L2
abbrev G0 : G := ⟨fun _ => False, []⟩
theorem SR.empty {K : PySem.W.Frag} {H : Hp} : SR K G0 [] H := ⟨rfl, List.nodup_nil, fun a h => (by cases h), fun a h => h.elim, fun i a o h => (by simp at h)⟩
section
variable {P : Program} {w : World} {K : PySem.W.Frag} {mg mb : Str → Option Value} {k : Nat} {fa a : Addr} {fd : FuncData} {x : Str} {F : TF} {s1 : Shared} {vs : List Value} {ns : List Int}
end
end TL
set_option Elab.async false
set_option linter.all false
set_option maxRecDepth 100000
set_option maxHeartbeats 4000000
namespace TL
open PySem PySem.Spec PyProof.Rows L2
theorem fileAt_ok {K : PySem.W.Frag} {c : Addr} {file : Str} (h : fileAt K c = some file) : ∃ (ccl : Value) (cdd : Option Addr) (vs : Array Value) (ccs : Array (Option Value)) (tf : Tok), K.lookup c = some ⟨ccl, cdd, .fields vs, ccs⟩ ∧ vs[2]? = some (.str file tf) := by
  unfold fileAt at h
  split at h
  · rename_i z1 z2 vs z4 q2
    split at h
    · rename_i a b fl tk r q3
      cases h
      obtain ⟨l⟩ := vs
      simp only at q3
      subst q3
      exact ⟨z1, z2, _, z4, tk, q2, rfl⟩
    · cases h
  · cases h
theorem cellAt_ok {K : PySem.W.Frag} {c : Addr} {v : Value} (h : cellAt K c = some v) : ∃ (cl : Value) (cld : Option Addr) (csl : Array (Option Value)), K.lookup c = some ⟨cl, cld, .cell (some v), csl⟩ := by
  unfold cellAt at h
  split at h
  · rename_i z1 z2 u z4 q2
    cases h
    exact ⟨z1, z2, z4, q2⟩
  · cases h
theorem codeB_ok {file : Str} {K : PySem.W.Frag} {qual : Str} {v : Value} {cl : List (Str × Addr)} (h : codeB file K qual v cl = true) : ∃ cda x cc, v = .ref cda ∧ cl = [(x, cc)] ∧ PySem.W.codeIn K (.ref cda) qual = true ∧ fileAt K cda = some file ∧ cellAt K cc = some (.ref (He.ga K dErr)) := by
  unfold codeB at h
  split at h
  · rename_i cda x cc
    obtain ⟨d1, d⟩ := Bool.and_eq_true_iff.mp h
    obtain ⟨d2, d3⟩ := Bool.and_eq_true_iff.mp d
    exact ⟨cda, x, cc, rfl, rfl, d1, of_decide_eq_true d2, of_decide_eq_true d3⟩
  · cases h
theorem ifn_of {K : PySem.W.Frag} {P : Program} {i : IniD} (e : iniObs K = i.val) (c : ifnB P.main.file K = true) (hl : (i.p2.endLine == i.p4.line) = true) (top : (P.main.scope.names.lookup ("super" : Str)).isSome = false) : TLI.IFn K P (He.ga K dErr) (He.ma K (He.ga K dErr) "__init__") := by
  obtain ⟨c1, c⟩ := Bool.and_eq_true_iff.mp c
  obtain ⟨c2, c⟩ := Bool.and_eq_true_iff.mp c
  obtain ⟨c3, c4⟩ := Bool.and_eq_true_iff.mp c
  refine ⟨?_, Option.isSome_iff_exists.mp c2, of_decide_eq_true c3, top, of_decide_eq_true c4⟩
  unfold iniObs at e
  cases q : K.lookup (He.ma K (He.ga K dErr) "__init__") with
  | none => rw [q] at c1; cases c1
  | some o =>
    obtain ⟨oc, od, dt, osl⟩ := o
    rw [q] at c1 e
    cases dt with
    | func fd =>
      obtain ⟨n1, n2, n3, n4, n5, n6, n7, n8, n9, n10, n11, n12, n13, n14, n15⟩ := fd
      have e2 : (some (n1, n2, n3, n4, n5, n6, n7.map (·.1), n8, n15) : IniV) = i.val := e
      unfold IniD.val at e2
      simp only [Option.some.injEq, Prod.mk.injEq] at e2
      obtain ⟨h1, h2, h3, h4, h5, h6, h7, h8, h9⟩ := e2
      obtain ⟨cda, x, cc, rfl, rfl, d1, d2, d3⟩ := codeB_ok (show codeB P.main.file K n2 n13 n7 = true from c1)
      have hx : x = "__class__" := by
        simp only [List.map_cons, List.map_nil, List.cons.injEq, and_true] at h7
        exact h7
      obtain ⟨y1, y2, y3, y4, y5, y6, y7⟩ := fileAt_ok d2
      subst h1 h2 h3 h4 h5 h6 hx h8 h9
      exact ⟨cc, cda, oc, od, osl, _, _, i.q1, i.q2, i.p0, i.p1, i.p2, i.p3, i.p4, i.p5, i.p6, i.p7, i.p8, i.p9, n9, n10, n11, n14, n12, hl, rfl, d1, ⟨y1, y2, y3, y4, P.main.file, y5, y6, y7, beq_self_eq_true _⟩, cellAt_ok d3⟩
    | _ => cases c1
section
variable {K : PySem.W.Frag} {C : Str} {ex : List Str}
theorem refsVE_mro : PySem.HandSPX.refsVE (mroE K C) = true := by
  unfold mroE
  split <;> rfl
theorem clsB_ok (h : clsB C K = true) : (∃ nm q N bs bm sn sub ab col dd k0 k1 k2 k3 k5, K.lookup (He.ga K C) = some (excClassObj nm q (He.ga K C) N bs bm true sn sub ab col dd k0 k1 k2 k3 k5 "ValueError.__new__") ∧ bm = mroE K C) ∧ PySem.W.typeIn K (.ref (He.ga K C)) = some (.type "type") := by
  unfold clsB at h
  split at h
  · rename_i t od cd sl q
    split at h
    · rename_i k0 k1 k2 k3 n k5 hs
      obtain ⟨h1, h⟩ := Bool.and_eq_true_iff.mp h
      obtain ⟨h2, h⟩ := Bool.and_eq_true_iff.mp h
      obtain ⟨h3, h⟩ := Bool.and_eq_true_iff.mp h
      obtain ⟨h4, h5⟩ := Bool.and_eq_true_iff.mp h
      have h1 : t = "type" := of_decide_eq_true h1
      have h2 := of_decide_eq_true h2
      have h5 : n = "ValueError.__new__" := of_decide_eq_true h5
      subst h1 h5
      obtain ⟨nm, bs, mro, ns, qn, hd, sn, sub, ab, col, del⟩ := cd
      dsimp only at h2 h3 h4
      subst h2 h3
      have h4 : del = false := by simpa using h4
      subst h4
      have hsl : sl = #[k0, k1, k2, k3, some (.builtin "ValueError.__new__"), k5] := by
        obtain ⟨l⟩ := sl
        simp only at hs
        rw [hs]
      subst hsl
      refine ⟨⟨nm, qn, ns, bs, _, sn, sub, ab, col, od, k0, k1, k2, k3, k5, q, rfl⟩, ?_⟩
      show (K.lookup (He.ga K C)).map (·.cls) = _
      rw [q]
      rfl
    · cases h
  · cases h
theorem exC_of (h : exB C K = true) : ExC K C ∧ PySem.W.nsIn K mainGlobals C = some (some (.ref (He.ga K C))) := by
  obtain ⟨h, hg⟩ := Bool.and_eq_true_iff.mp h
  obtain ⟨h0, h⟩ := Bool.and_eq_true_iff.mp h
  obtain ⟨h1, h⟩ := Bool.and_eq_true_iff.mp h
  obtain ⟨h2, h⟩ := Bool.and_eq_true_iff.mp h
  obtain ⟨h3, h⟩ := Bool.and_eq_true_iff.mp h
  obtain ⟨h4, h⟩ := Bool.and_eq_true_iff.mp h
  obtain ⟨h5, h⟩ := Bool.and_eq_true_iff.mp h
  obtain ⟨h6, h⟩ := Bool.and_eq_true_iff.mp h
  obtain ⟨h7, h8⟩ := Bool.and_eq_true_iff.mp h
  obtain ⟨⟨nm, q, N, bs, bm, sn, sub, ab, col, dd, k0, k1, k2, k3, k5, hl, rfl⟩, hty⟩ := clsB_ok h0
  have hc : PySem.W.clsIn K (He.ga K C) = some { name := nm, bases := bs, mro := .ref (He.ga K C) :: mroE K C, ns := N, qualname := q, hasDict := true, slotNames := sn, subclasses := sub, abstract := ab, collection := col, hasDel := false } := by unfold PySem.W.clsIn; rw [hl] <;> rfl
  have sub : ∀ v : Value, PySem.W.mroIn K (He.ga K C) v = some ((Value.ref (He.ga K C) :: mroE K C).contains v) := fun v => by
    unfold PySem.W.mroIn
    rw [hc]
    rfl
  have tail : ∀ v : Value, veB.contains v = true → (Value.ref (He.ga K C) :: mroE K C).contains v = true := fun v z => by
    rw [List.contains_cons]
    unfold mroE
    split
    · rw [z, Bool.or_true]
    · rw [List.contains_cons, z, Bool.or_true, Bool.or_true]
  refine ⟨⟨⟨⟨⟨nm, q, N, bs, _, sn, _, ab, col, dd, k0, k1, k2, k3, k5, hl, refsVE_mro⟩, of_decide_eq_true h1, ?_, hty, h2⟩, of_decide_eq_true h3, ?_, of_decide_eq_true h4, ?_, of_decide_eq_true h5⟩, ⟨_, hc, rfl, rfl⟩, hty, of_decide_eq_true h6, of_decide_eq_true h7, of_decide_eq_true h8⟩, of_decide_eq_true hg⟩
  · show PySem.W.mroIn K (He.ga K C) _ = _
    rw [sub, tail _ (by decide)]
  · rw [sub]
    congr 1
    rw [List.contains_cons]
    unfold mroE
    split
    · rename_i hd
      rw [hd]
      simp
    · simp
  · show PySem.W.mroIn K (He.ga K C) _ = _
    rw [sub, tail _ (by decide)]
theorem exF_of (h : exsB ex K = true) : ExF K ex ∧ ∀ C ∈ ex, PySem.W.nsIn K mainGlobals C = some (some (.ref (He.ga K C))) := by
  obtain ⟨h1, h⟩ := Bool.and_eq_true_iff.mp h
  obtain ⟨h2, h⟩ := Bool.and_eq_true_iff.mp h
  obtain ⟨h3, h⟩ := Bool.and_eq_true_iff.mp h
  obtain ⟨h4, h5⟩ := Bool.and_eq_true_iff.mp h
  have h1 := List.all_eq_true.mp h1
  exact ⟨⟨of_decide_eq_true h2, of_decide_eq_true h3, fun C hC => (exC_of (h1 C hC)).1, of_decide_eq_true h4, of_decide_eq_true h5⟩, fun C hC => (exC_of (h1 C hC)).2⟩
end
section
variable {fb : List Fb} {fn : List He.DefD} {i : IniV} {K : PySem.W.Frag}
end
end TL
set_option Elab.async false
set_option linter.all false
set_option maxRecDepth 100000
set_option maxHeartbeats 4000000
namespace TL
open PySem PySem.Spec PyProof.Rows L2
structure TDef (P : Program) (w : World) (K : PySem.W.Frag) (mg : Str → Option Value) (base : Heap) (k : Nat) (x : Str) (n : Nat) (F : TF) : Prop where
  ex : ∃ (f : Addr) (fd : FuncData) (ps : List Str), TFn P w K mg base k f fd ps F ∧ mg x = some (.ref f) ∧ PySem.W.keepIn K (.ref f) = true ∧ Binds K fd ps [] ∧ ps.length = n
  len : ∀ ds S, ds.length ≠ n → F ds S = .stuck
section
variable {P : Program} {w : World} {K : PySem.W.Frag} {mg : Str → Option Value} {base : Heap} {x qual : Str} {params : Arguments} {body : List Stmt} {scope : Scope} {f : Addr} {fd : FuncData} {N ps : List Str} {k : Nat} {t : TSx}
theorem tdef_of (F : FunD K x qual params body scope [] [] f fd) (hm : mg x = some (.ref f)) (S : FnScope N ps scope) (hb : Binds K fd ps []) (h : ∀ E, DSs (Sg.of P w K mg base N scope k E qual (cdAt K f)) body t) : TDef P w K mg base (k + 1) x ps.length (bodyF ps.length N t) :=
  ⟨⟨f, fd, ps, tfn_of F S h, hm, F.kp, hb, rfl⟩, fun ds S hne => if_neg hne⟩
theorem tdef_none {F : TF} (F0 : FunD K x qual params body scope [] [] f fd) (hm : mg x = some (.ref f)) (hb : Binds K fd ps []) (h : ∀ ds S, F ds S = .stuck) : TDef P w K mg base k x ps.length F :=
  ⟨⟨f, fd, ps, ⟨fun A outer s H args us vs Q E g S ds _ _ _ _ _ _ _ _ hp => by rw [h] at hp; exact hp.elim⟩, hm, F0.kp, hb, rfl⟩, fun ds S _ => h ds S⟩
theorem TDef.mono {j n : Nat} {F : TF} (h : TDef P w K mg base j x n F) (hj : j ≤ k) : TDef P w K mg base k x n F := by
  obtain ⟨f, fd, ps, h1, h2⟩ := h.ex
  exact ⟨⟨f, fd, ps, h1.mono hj, h2⟩, h.len⟩
end
section
variable {z : Sg} {k n : Nat} {x : Str} {F : TF} {e : Expr} {es : List Expr} {p pos : Pos} {ta : TAx}
theorem de_callT (T : TDef z.P z.w z.K z.mg z.base k x n F) (ha : DA z (e :: es) ta) (hk : k ≤ z.lv) (hg : Gz z x := by rfl) (hdb : (x == ("__debug__" : Str)) = false := by decide) (he : ∀ env, starEach (e :: es) env = (false, eval e env) :: starEach es env := by intro _; rfl) (hpl : ∀ env, (backTo pos (starEach es env)).any (·.1) = false := by intro _; rfl) :
    DE z (.Call (.Name x p) (e :: es) [] pos) (eArgs F ta) := by
  obtain ⟨f, fd, ps, h1, h2, h3, h4, h5⟩ := T.ex
  have q := de_call (dfl := []) (p := p) (pos := pos) h1 hk h2 h3 h4 .nil (fun g H => by simp only [RVs]) ha hg hdb he hpl
  have e2 : (fun (vs : List D) (S : List O) => if (vs ++ []).length = ps.length then F (vs ++ []) S else .stuck) = F := by
    funext vs S
    rw [List.append_nil]
    split
    · rfl
    · rename_i hne
      rw [T.len vs S (by rw [← h5]; exact hne)]
  rw [e2] at q
  exact q
end
theorem TDef.law {P : Program} {w : World} {K : PySem.W.Frag} {mg : Str → Option Value} {base : Heap} {k : Nat} {x : Str} {F : TF} {fa : Addr} (T : TDef P w K mg base k x 1 F) (hm : mg x = some (.ref fa)) : ∃ fd y, TFn P w K mg base k fa fd [y] F := by
  obtain ⟨f, fd, ps, h1, h2, h3, h4, h5⟩ := T.ex
  rw [hm] at h2
  cases h2
  match ps, h5 with
  | [y], _ => exact ⟨fd, y, h1⟩
end TL
set_option Elab.async false
set_option linter.all false
set_option maxRecDepth 100000
set_option maxHeartbeats 4000000
namespace TL
open PySem PySem.Spec PyProof.Rows L2
section
variable {α β : Type} (a b c : TEx) (f : D → D → List O → Out D) (g : D → List O → Out D) (h : List D → List O → Out D) (t u : TTx) (x y : TAx) (s r : TSx) (ρ : Env1) (S : List O) (d : D) (ds : List D) (k : α → List O → Out β) (v : α)
@[simp] theorem bind_ok : (Out.ok v S).bind k = k v S := rfl
@[simp] theorem bind_stuck : (Out.stuck : Out α).bind k = .stuck := rfl
@[simp] theorem bind_exc (C : Str) : (Out.exc C d S : Out α).bind k = .exc C d S := rfl
@[simp] theorem stm_ok (q : α → List O → OutS) : (Out.ok v S).stm ρ q = q v S := rfl
@[simp] theorem test_bl (q : Bool) : (Out.ok (.bl q) S).test = .ok q S := rfl
@[simp] theorem eC_ap : eC d ρ S = .ok d S := rfl
@[simp] theorem eUn_ap : eUn g a ρ S = (a ρ S).bind g := rfl
@[simp] theorem eBin_ap : eBin f a b ρ S = (a ρ S).bind fun p S1 => (b ρ S1).bind fun q S2 => f p q S2 := rfl
@[simp] theorem eArgs_ap : eArgs h x ρ S = (x ρ S).bind h := rfl
@[simp] theorem aNil_ap : aNil ρ S = .ok [] S := rfl
@[simp] theorem aCons_ap : aCons a x ρ S = (a ρ S).bind fun p S1 => (x ρ S1).bind fun q S2 => .ok (p :: q) S2 := rfl
@[simp] theorem eVar_ap {i : Nat} (e : ρ[i]? = some (some d)) : eVar i ρ S = .ok d S := by
  unfold eVar
  rw [e]
@[simp] theorem eIf_ap : eIf t a b ρ S = (t ρ S).bind fun q S1 => if q = true then a ρ S1 else b ρ S1 := rfl
@[simp] theorem tBl_ap : tBl a ρ S = (a ρ S).test := rfl
@[simp] theorem tTru_ap : tTru a ρ S = (a ρ S).bind fun q S1 => match truD S1 q with
  | some b => .ok b S1
  | none => .stuck := rfl
@[simp] theorem tAndT_ap : tAndT t u ρ S = (t ρ S).bind fun q S1 => if q = true then u ρ S1 else .ok false S1 := rfl
@[simp] theorem tOrT_ap : tOrT t u ρ S = (t ρ S).bind fun q S1 => if q = true then .ok true S1 else u ρ S1 := rfl
@[simp] theorem tNotT_ap : tNotT t ρ S = (t ρ S).bind fun q S1 => .ok (!q) S1 := rfl
@[simp] theorem eAnd_ap : eAnd a b ρ S = (a ρ S).bind fun q S1 => match truD S1 q with
  | some true => b ρ S1
  | some false => .ok q S1
  | none => .stuck := rfl
@[simp] theorem eOr_ap : eOr a b ρ S = (a ρ S).bind fun q S1 => match truD S1 q with
  | some true => .ok q S1
  | some false => b ρ S1
  | none => .stuck := rfl
@[simp] theorem eNot_ap : eNot a ρ S = (a ρ S).bind fun q S1 => match truD S1 q with
  | some b => .ok (.bl (!b)) S1
  | none => .stuck := rfl
@[simp] theorem sNext_ap : sNext ρ S = .nx ρ S := rfl
@[simp] theorem sSeq_ap : sSeq s r ρ S = (s ρ S).seq r := rfl
@[simp] theorem seq_nx : (OutS.nx ρ S).seq r = r ρ S := rfl
@[simp] theorem seq_rt : (OutS.rt d S).seq r = .rt d S := rfl
@[simp] theorem seq_bk : (OutS.bk ρ S).seq r = .bk ρ S := rfl
@[simp] theorem seq_ct : (OutS.ct ρ S).seq r = .ct ρ S := rfl
@[simp] theorem sSet_ap (i : Nat) : sSet i a ρ S = (a ρ S).stm ρ fun q S1 => .nx (ρ.set i (some q)) S1 := rfl
@[simp] theorem sRet_ap : sRet a ρ S = (a ρ S).stm ρ fun q S1 => .rt q S1 := rfl
@[simp] theorem sIf_ap : sIf t s r ρ S = (t ρ S).stm ρ fun q S1 => if q = true then s ρ S1 else r ρ S1 := rfl
@[simp] theorem sAsg_ap (w : TGx) : sAsg a w ρ S = (a ρ S).stm ρ fun q S1 => (w q ρ S1).only := rfl
@[simp] theorem only_nx : (OutS.nx ρ S).only = .nx ρ S := rfl
@[simp] theorem gNm_ap (i : Nat) : gNm i d ρ S = .nx (ρ.set i (some d)) S := rfl
@[simp] theorem gsNil_ap : gsNil [] ρ S = .nx ρ S := rfl
@[simp] theorem gsCons_ap (w : TGx) (ws : TGsx) : gsCons w ws (d :: ds) ρ S = (w d ρ S).only.seq (ws ds) := rfl
@[simp] theorem gTp_ap (n : Nat) (ws : TGsx) : gTp n ws (.tup ds) ρ S = if ds.length = n then ws ds ρ S else .stuck := rfl
@[simp] theorem fin_rt : (OutS.rt d S).fin = .ok d S := rfl
@[simp] theorem fin_nx : (OutS.nx ρ S).fin = .ok .non S := rfl
@[simp] theorem bodyF_ap (n : Nat) (N : List Str) : bodyF n N s ds S = if ds.length = n then (s (startD N ds) S).fin else .stuck := rfl
@[simp] theorem startD_ap (N : List Str) : startD N ds = ds.map some ++ List.replicate (N.length - ds.length) none := rfl
@[simp] theorem nox_nx : (OutS.nx ρ S).nox = .ok ρ S := rfl
@[simp] theorem nox_ok : (Out.ok v S).nox = .ok v S := rfl
@[simp] theorem tYes_ap : tYesD ρ S = .ok true S := rfl
@[simp] theorem oNil_ap : oNil ρ S = .ok none S := rfl
@[simp] theorem pNil_ap : pNil ρ S = .ok [] S := rfl
@[simp] theorem turn_nx : (OutS.nx ρ S).turn r = r ρ S := rfl
@[simp] theorem turn_ct : (OutS.ct ρ S).turn r = r ρ S := rfl
@[simp] theorem turn_rt : (OutS.rt d S).turn r = .rt d S := rfl
@[simp] theorem turn_bk : (OutS.bk ρ S).turn r = .nx ρ S := rfl
@[simp] theorem int_int (i : Int) : intD [.int i] S = .ok (.int i) S := rfl
@[simp] theorem int_bl (b : Bool) : intD [.bl b] S = .ok (.int (if b = true then 1 else 0)) S := rfl
@[simp] theorem abs_int (i : Int) : absD [.int i] S = .ok (.int (if i < 0 then -i else i)) S := rfl
@[simp] theorem add_int (i j : Int) : addD (.int i) (.int j) S = .ok (.int (i + j)) S := rfl
@[simp] theorem sub_int (i j : Int) : subD (.int i) (.int j) S = .ok (.int (i - j)) S := rfl
@[simp] theorem neg_int (i : Int) : negD (.int i) S = .ok (.int (-i)) S := rfl
@[simp] theorem gt_int (i j : Int) : gtD (.int i) (.int j) S = .ok (.bl (decide (j < i))) S := rfl
@[simp] theorem lt_int (i j : Int) : ltD (.int i) (.int j) S = .ok (.bl (decide (i < j))) S := rfl
@[simp] theorem ge_int (i j : Int) : geD (.int i) (.int j) S = .ok (.bl (decide (j ≤ i))) S := rfl
@[simp] theorem le_int (i j : Int) : leD (.int i) (.int j) S = .ok (.bl (decide (i ≤ j))) S := rfl
@[simp] theorem max2_int (i j : Int) : max2D [.int i, .int j] S = .ok (.int (if j > i then j else i)) S := rfl
@[simp] theorem min2_int (i j : Int) : min2D [.int i, .int j] S = .ok (.int (if j < i then j else i)) S := rfl
theorem mul_int {i j : Int} (e : CMul i j ∨ CMulW i j) : mulD (.int i) (.int j) S = .ok (.int (i * j)) S := if_pos e
theorem mod_int {i j : Int} (e : 0 < j) : modD (.int i) (.int j) S = .ok (.int (i % j)) S := if_pos e
theorem div_int {i j : Int} (e : CDivW i j) : divD (.int i) (.int j) S = .ok (.int (i / j)) S := if_pos e
theorem pow_intD {i j : Int} (e : CPowB i j) : powD (.int i) (.int j) S = .ok (.int (i ^ j.toNat)) S := if_pos e
theorem mkL_false (e : ds.length ≤ sizeLine) : mkL false ds S = .ok (.lst ds) S := if_pos e
theorem mkL_true (e : ds.length ≤ sizeLine) : mkL true ds S = .ok (.hnd S.length) (S ++ [.lst ds]) := if_pos e
theorem lsRg1 {own : Bool} {j : Int} (e : RgOk 0 j) : lsRgD own [.int j] S = mkL own (rng 0 j) S := if_pos e
@[simp] theorem eListRg_ap (own : Bool) : eListRg own x ρ S = (x ρ S).bind (lsRgD own) := rfl
theorem small_line {n : Nat} (e : n ≤ 4096) : n ≤ sizeLine := by rw [sizeLine_eq]; omega
end
theorem ix_hnd {S : List O} {i : Nat} {ds : List D} {k : Int} {d : D} (h : S[i]? = some (.lst ds)) (e : atI ds k = some d) : ixD (.hnd i) (.int k) S = .ok d S := by
  unfold ixD seqOf lstOf
  simp [h, e]
theorem ix_lst {S : List O} {ds : List D} {k : Int} {d : D} (e : atI ds k = some d) : ixD (.lst ds) (.int k) S = .ok d S := by
  unfold ixD seqOf lstOf
  simp [e]
theorem ix_tup {S : List O} {ds : List D} {k : Int} {d : D} (e : atI ds k = some d) : ixD (.tup ds) (.int k) S = .ok d S := by
  unfold ixD seqOf lstOf tupOf
  simp [e]
theorem set_hnd {S : List O} {i : Nat} {ds es : List D} {k : Int} {d : D} (h : S[i]? = some (.lst ds)) (e : putLD ds k d = some es) : setD (.hnd i) (.int k) d S = some (S.set i (.lst es)) := by
  unfold setD
  simp [h, e]
@[simp] theorem gSb_ap (a b : TEx) (v : D) (ρ : Env1) (S : List O) : gSb a b v ρ S = (a ρ S).stm ρ fun x S1 => (b ρ S1).stm ρ fun i S2 => match setD x i v S2 with
  | some S3 => .nx ρ S3
  | none => .stuck := rfl
@[simp] theorem eLc_ap (own : Bool) (vs : List Nat) (ti : TIx) (tg : TGx) (tt : TTx) (te : TEx) (ρ : Env1) (S : List O) : eLc own vs ti tg tt te ρ S = (ti ρ S).bind fun ds S1 => if ds.length ≤ sizeLine then (compL vs tg tt te ds [] ρ S1).bind (mkL own) else .stuck := rfl
@[simp] theorem sFor_ap (ti : TIx) (tg : TGx) (tb : TSx) (ρ : Env1) (S : List O) : sFor ti tg tb ρ S = (ti ρ S).stm ρ fun ds S1 => forL tg tb ds ρ S1 := rfl
theorem rng_len (a b : Int) : (rng a b).length = (b - a).toNat := by
  unfold rng
  rw [List.length_map, List.length_range]
end TL
set_option Elab.async false
set_option linter.all false
set_option maxRecDepth 100000
set_option maxHeartbeats 4000000
namespace TL
open PySem PySem.Spec PyProof.Rows L2
def insOf (S : List O) : D → Option (Str × List (Str × D))
  | .ins C fs => some (C, fs)
  | .hnd i => (match S[i]? with
    | some (.ins C fs) => some (C, fs)
    | _ => none)
  | _ => none
section
variable {K : PySem.W.Frag} {g : G} {S : List O} {H : Hp}
theorem ins_atI (s : SR K g S H) {d : D} {C : Str} {fs : List (Str × D)} {v : V} (h : insOf S d = some (C, fs)) (r : RV K g H d v) : ∃ a dx ws, v = .ref a ∧ InsAt K g H a C dx ws ∧ RFs K g H fs ws := by
  cases d with
  | ins C' fs' =>
    cases h
    simp only [RV] at r
    obtain ⟨a, dx, ws, e, h1, _, h2⟩ := r
    exact ⟨a, dx, ws, e, h1, h2⟩
  | hnd i =>
    simp only [insOf] at h
    split at h
    · rename_i C' fs' q
      cases h
      simp only [RV] at r
      obtain ⟨a, e, h1⟩ := r
      obtain ⟨dx, ws, h2, h3⟩ := s.rep i a _ h1 q
      exact ⟨a, dx, ws, e, h2, h3⟩
    · cases h
  | _ => cases h
theorem InsAt.dict {a dx : Addr} {C : Str} {ws : List (Str × V)} (h : InsAt K g H a C dx ws) (c : PySem.W.hasDictIn K (He.ga K C) = true) : H a = some (.ins (He.ga K C) dx ws) := by
  rcases h with ⟨_, h⟩ | ⟨n, _⟩
  · exact h
  · exact (n c).elim
theorem ins_at (s : SR K g S H) {d : D} {C : Str} {fs : List (Str × D)} {v : V} (h : insOf S d = some (C, fs)) (r : RV K g H d v) (c : PySem.W.hasDictIn K (He.ga K C) = true) : ∃ a dx ws, v = .ref a ∧ H a = some (.ins (He.ga K C) dx ws) ∧ RFs K g H fs ws := by
  obtain ⟨a, dx, ws, e, h1, h2⟩ := ins_atI s h r
  exact ⟨a, dx, ws, e, h1.dict c, h2⟩
theorem RFs.get {f : Str} : ∀ {fs : List (Str × D)} {ws : List (Str × V)}, RFs K g H fs ws → (match fs.lookup f with
    | some d => ∃ v, ws.lookup f = some v ∧ RV K g H d v
    | none => ws.lookup f = none)
  | [], _, h => by
    simp only [RFs] at h
    subst h
    rfl
  | (k, d) :: r, _, h => by
    simp only [RFs] at h
    obtain ⟨v, r', rfl, h1, h2⟩ := h
    have ih := RFs.get (f := f) h2
    simp only [List.lookup]
    cases f == k with
    | true => exact ⟨v, rfl, h1⟩
    | false => exact ih
def putFD (f : Str) (d : D) : List (Str × D) → List (Str × D)
  | [] => [(f, d)]
  | (k, e) :: r => if k = f then (k, d) :: r else (k, e) :: putFD f d r
theorem RFs.put {f : Str} {d : D} {v : V} (rv : RV K g H d v) : ∀ {fs : List (Str × D)} {ws : List (Str × V)}, RFs K g H fs ws → RFs K g H (putFD f d fs) (putF f v ws)
  | [], _, h => by
    simp only [RFs] at h
    subst h
    simp only [putFD, putF, RFs]
    exact ⟨v, [], rfl, rv, rfl⟩
  | (k, e) :: r, _, h => by
    simp only [RFs] at h
    obtain ⟨w, r', rfl, h1, h2⟩ := h
    have q := RFs.put (f := f) rv h2
    unfold putFD putF
    by_cases ek : k = f
    · rw [if_pos ek, if_pos ek]
      simp only [RFs]
      exact ⟨v, r', rfl, rv, h2⟩
    · rw [if_neg ek, if_neg ek]
      simp only [RFs]
      exact ⟨w, _, rfl, h1, q⟩
theorem RFs.len : ∀ {fs : List (Str × D)} {ws : List (Str × V)}, RFs K g H fs ws → ws.length = fs.length
  | [], _, h => by
    simp only [RFs] at h
    subst h
    rfl
  | (k, d) :: r, _, h => by
    simp only [RFs] at h
    obtain ⟨v, r', rfl, _, h2⟩ := h
    simp [RFs.len h2]
end
abbrev CL (K : PySem.W.Frag) (C : Str) : Prop := Cls K (He.ga K C)
def fldD (Cs : List Str) (f : Str) (x : D) (S : List O) : Out D := match insOf S x with
  | some (C, fs) => if C ∈ Cs then (match fs.lookup f with
    | some d => .ok d S
    | none => .stuck) else .stuck
  | none => .stuck
section
variable {z : Sg} {e o : Expr} {t to : TEx} {pos : Pos} {f : Str} {Cs : List Str}
theorem de_fld (hc : ∀ C ∈ Cs, CL z.K C ∧ NoAttr z.K (He.ga z.K C) f) (he : DE z e t) (hb : ∀ env, attributeBase e f env (eval e env) = eval e env := by intro _; rfl) : DE z (.Attribute e f pos) (eUn (fldD Cs f) t) := by
  refine de_un (r := fun x H1 Q => ∃ a C dx fs v, x = .ref a ∧ H1 a = some (.ins C dx fs) ∧ Cls z.K C ∧ NoAttr z.K C f ∧ fs.lookup f = some v ∧ Q v H1) (fun X fx τ h => fx.K ▸ pe_fld h (hb _)) (fun g S H σ Q x v s rx p => ?_) he
  unfold fldD at p
  split at p
  · rename_i C fs q
    split at p
    · rename_i hC
      obtain ⟨a, dx, ws, rfl, h1, h2⟩ := ins_at s q rx (hc C hC).1.hd
      have hg := h2.get (f := f)
      split at p
      · rename_i d q2
        rw [q2] at hg
        obtain ⟨w, h3, h4⟩ := hg
        exact ⟨a, _, dx, ws, w, rfl, h1, (hc C hC).1, (hc C hC).2, h3, p.here s h4⟩
      · exact p.elim
    · exact p.elim
  · exact p.elim
def setF (Cs : List Str) (f : Str) (x v : D) (S : List O) : Option (List O) := match x with
  | .hnd n => (match S[n]? with
    | some (.ins C fs) => if C ∈ Cs ∧ fs.length < 900 then some (S.set n (.ins C (putFD f v fs))) else none
    | _ => none)
  | _ => none
def sFldD (Cs : List Str) (f : Str) (t to : TEx) : TSx := fun ρ S => (t ρ S).stm ρ fun v S1 => (to ρ S1).stm ρ fun x S2 => match setF Cs f x v S2 with
  | some S3 => .nx ρ S3
  | none => .stuck
theorem ds_fld {p' : Pos} (hc : ∀ C ∈ Cs, CL z.K C ∧ NoAttr z.K (He.ga z.K C) f) (ho : DE z o to) (he : DE z e t) (hs : ∀ env, swapsWith e (some (.Attribute o f p')) pos.line env = pure false := by intro _; rfl) : DS z (.Assign [.Attribute o f p'] e pos) (sFldD Cs f t to) := by
  obtain ⟨τ, h1, q1⟩ := ho
  obtain ⟨τ2, h2, q2⟩ := he
  refine ⟨_, fun X fx => fx.K ▸ ps_fld (h1 X fx) (h2 X fx) (hs _), fun g S ρ σ H T s rs p => ?_⟩
  refine q2 g S ρ σ H _ s rs (p.stm s rs fun d S1 g1 H1 v e1 s1 rs1 r1 p1 => ?_)
  refine q1 g1 S1 ρ σ H1 _ s1 rs1 (p1.stm s1 rs1 fun x S2 g2 H2 u e2 s2 rs2 r2 p2 => ?_)
  split at p2
  · rename_i S3 q
    unfold setF at q
    split at q
    · rename_i n
      split at q
      · rename_i C fs q3
        split at q
        · rename_i hC
          cases q
          have rv := r1.mono s1.live e2
          simp only [RV] at r2
          obtain ⟨a, rfl, h3⟩ := r2
          obtain ⟨dx, ws, h4, h5⟩ := s2.rep n a _ h3 q3
          have h4 := h4.dict (hc C hC.1).1.hd
          refine ⟨a, _, dx, ws, rfl, h4, (hc C hC.1).1, (hc C hC.1).2, by rw [h5.len]; omega, ?_⟩
          have e3 : Ext g2 H2 g2 (upd H2 a (.ins (He.ga z.K C) dx (putF f v ws))) := Ext.write h3
          exact p2 g2 _ σ e3 (s2.write h3 fun e => ⟨dx, _, .inl ⟨(hc C hC.1).1.hd, upd_same⟩, (h5.put rv).mono s2.live e _ _⟩) (rs2.mono s2.live e3)
        · cases q
      · cases q
    · cases q
  · exact p2.elim
end
def CLS (K : PySem.W.Frag) (C : Str) : Prop := CL K C ∨ (SlX.SCls K (He.ga K C) ∧ PySem.W.hasDictIn K (He.ga K C) ≠ true)
theorem getmI_ok {X : Cx} {pins : List (Addr × Obj)} {σ : L2.St} {H : Hp} {s : Shared} {A : Around} {E : Value → Shared → Prop} {g : G} {a dx f : Addr} {C m : Str} {ws : List (Str × V)} {pl : Sem Bool} {Q : Value × List Value → Shared → Prop} (I : Inv X pins σ H s) (e : InsAt X.K g H a C dx ws) (c : CLS X.K C)
    (k : Meth X.K (He.ga X.K C) m f) (l : ws.lookup m = none) (h : Q (.ref f, [.ref a]) s) : wpAny (model X.prog X.w) A (getMethod (.ref a) m pl) Q E s := by
  rcases c with c | ⟨c, n⟩
  · exact getmeth_ok I (e.dict c.hd) c k l h
  · rcases e with ⟨y, _⟩ | ⟨_, _, _, h4, vs, h5, _⟩
    · exact (n y).elim
    · exact SlX.getmethsl_ok I (.inr ⟨h5, h4⟩) c k h
structure TMet (P : Program) (w : World) (K : PySem.W.Frag) (mg : Str → Option Value) (base : Heap) (k : Nat) (C m : Str) (n : Nat) (F : TF) : Prop where
  ex : ∃ (f : Addr) (fd : FuncData) (ps : List Str), TFn P w K mg base k f fd ps F ∧ Meth K (He.ga K C) m f ∧ Binds K fd ps [] ∧ ps.length = n
  cl : CLS K C
  len : ∀ ds S, ds.length ≠ n → F ds S = .stuck
theorem TMet.mono {P : Program} {w : World} {K : PySem.W.Frag} {mg : Str → Option Value} {base : Heap} {k j : Nat} {C m : Str} {n : Nat} {F : TF} (h : TMet P w K mg base j C m n F) (hj : j ≤ k) : TMet P w K mg base k C m n F := by
  obtain ⟨f, fd, ps, h1, h2⟩ := h.ex
  exact ⟨⟨f, fd, ps, h1.mono hj, h2⟩, h.cl, h.len⟩
def recv (C m : Str) (x : D) (S : List O) (o : Out D) : Out D := match insOf S x with
  | some (C', fs) => if C' = C ∧ fs.lookup m = none then o else .stuck
  | none => .stuck
def eMeth (C m : Str) (F : TF) (t : TEx) (a : TAx) : TEx := fun ρ S => (t ρ S).bind fun x S1 => recv C m x S1 ((a ρ S1).bind fun xs S2 => F (x :: xs) S2)
section
variable {z : Sg} {k n : Nat} {C m : Str} {F : TF} {o e : Expr} {es : List Expr} {apos pos : Pos} {t : TEx} {ta : TAx}
theorem recv_ok {S : List O} {x : D} {oo : Out D} {K : PySem.W.Frag} {W : WX} {g : G} {H : Hp} {σ : L2.St} {Q : VK} {v : V} (s : SR K g S H) (r : RV K g H x v) (p : Post K W (RV K) g H σ Q (recv C m x S oo)) : ∃ a dx ws, v = .ref a ∧ InsAt K g H a C dx ws ∧ ws.lookup m = none ∧ Post K W (RV K) g H σ Q oo := by
  unfold recv at p
  split at p
  · rename_i C' fs q
    split at p
    · rename_i hC
      obtain ⟨a, dx, ws, rfl, h1, h2⟩ := ins_atI s q r
      have hg := h2.get (f := m)
      rw [hC.2] at hg
      rw [hC.1] at h1
      exact ⟨a, dx, ws, rfl, h1, hg, p⟩
    · exact p.elim
  · exact p.elim
theorem de_meth (T : TMet z.P z.w z.K z.mg z.base k C m n F) (ho : DE z o t) (ha : DA z (e :: es) ta) (hk : k ≤ z.lv)
    (ht : ∀ env, ∃ pl : Sem Bool, eval (.Call (.Attribute o m apos) (e :: es) [] pos) env = (do
      let ov ← eval o env
      standAt apos.atName
      let (f, first) ← holding [ov] (getMethod ov m pl)
      callWith pos f first (backTo pos (starEach (e :: es) env)) (backToKw pos (keywordEach [] env))) := by intro _; exact ⟨_, rfl⟩)
    (he : ∀ env, starEach (e :: es) env = (false, eval e env) :: starEach es env := by intro _; rfl) (hpl : ∀ env, (backTo pos (starEach es env)).any (·.1) = false := by intro _; rfl) :
    DE z (.Call (.Attribute o m apos) (e :: es) [] pos) (eMeth C m F t ta) := by
  obtain ⟨f, fd, ps, h1, h2, h3, h4⟩ := T.ex
  obtain ⟨τ, g1, q1⟩ := ho
  obtain ⟨τ2, g2, q2⟩ := ha
  refine ⟨fun σ H Q => τ σ H fun x H1 => ∃ a dx ws, x = .ref a ∧ (∃ g, InsAt z.K g H1 a C dx ws) ∧ ws.lookup m = none ∧ τ2 σ H1 fun vs H2 => tCallD z.K z.W ps F σ (x :: vs) H2 Q, fun X fx => ⟨fun pins s σ H Q I h => ?_⟩, fun g S ρ σ H Q s rs p => ?_⟩
  · obtain ⟨pl, ht⟩ := ht X.env
    refine PySem.W.methodCall_KW (pl := pl) (thn ((g1 X fx).run pins s σ H _ I h) fun u s1 ⟨x, H1, I1, rx, a, dx, ws, ex, ⟨g0, ea⟩, l, q⟩ => ?_) ht
    subst ex
    obtain rfl : u = Value.ref a := rx
    refine getmI_ok (g := g0) (C := C) (dx := dx) (ws := ws) I1 (by rw [fx.K]; exact ea) (by rw [fx.K]; exact T.cl) (by rw [fx.K]; exact h2) l ?_
    have kp' : PySem.W.keepIn X.K (.ref f) = true := by rw [fx.K]; exact h2.kp
    refine PySem.W.callWith_K (first := [.ref a]) (h₀ := X.base) I1.ok.mod.kin kp' (thn ((g2 X fx).run pos pins s1 σ H1 _ I1 q) fun us s2 ⟨vs, H2, I2, r, q2⟩ => ⟨I2.kIn, ?_⟩) (he _) (hpl _)
    exact run_tfn (us := .ref a :: us) (vs := .ref a :: vs) (dvs := []) (ds := []) h1 fx hk h3 .nil I2 (.cons rfl r) (by rw [List.append_nil]; exact q2)
  · refine q1 g S ρ σ H _ s rs (p.bind fun x S1 g1 H1 v e1 s1 r1 p1 => ?_)
    obtain ⟨a, dx, ws, rfl, y1, y2, p2⟩ := recv_ok s1 r1 p1
    refine ⟨a, dx, ws, rfl, ⟨_, y1⟩, y2, q2 g1 S1 ρ σ H1 _ s1 (rs.mono s.live e1) (p2.bind fun xs S2 g2 H2 vs e2 s2 r2 p3 => ?_)⟩
    by_cases hl : (x :: xs).length = n
    · refine ⟨?_, g2, S2, x :: xs, s2, ?_, p3⟩
      · rw [h4, ← hl, List.length_cons, List.length_cons, r2.length]
      · simp only [RVs]
        exact ⟨_, _, rfl, r1.mono s1.live e2 _ _, r2⟩
    · rw [T.len _ _ hl] at p3
      exact p3.elim
end
end TL
set_option Elab.async false
set_option linter.all false
set_option maxRecDepth 100000
set_option maxHeartbeats 4000000
namespace TL
open PySem PySem.Spec PyProof.Rows L2
theorem Post.ofNox {α β : Type} {K : PySem.W.Frag} {W W2 : WX} {R : G → Hp → α → β → Prop} {g : G} {H : Hp} {σ σ2 : L2.St} {Q : β → Hp → Prop} : ∀ {o : Out α}, Post K W R g H σ Q o.nox → Post K W2 R g H σ2 Q o
  | .ok _ _, h => h
  | .exc _ _ _, h => h.elim
  | .stuck, h => h
structure TProp (P : Program) (w : World) (K : PySem.W.Frag) (mg : Str → Option Value) (base : Heap) (k : Nat) (C f : Str) (F : TF) : Prop where
  ex : ∃ (p g : Addr) (fd : FuncData) (x : Str), TFn P w K mg base k g fd [x] F ∧ PropOf K (He.ga K C) f p g ∧ Binds K fd [x] []
  cl : CL K C
theorem TProp.mono {P : Program} {w : World} {K : PySem.W.Frag} {mg : Str → Option Value} {base : Heap} {k j : Nat} {C f : Str} {F : TF} (h : TProp P w K mg base j C f F) (hj : j ≤ k) : TProp P w K mg base k C f F := by
  obtain ⟨p, g, fd, x, h1, h2⟩ := h.ex
  exact ⟨⟨p, g, fd, x, h1.mono hj, h2⟩, h.cl⟩
def propD (C : Str) (F : TF) (x : D) (S : List O) : Out D := match insOf S x with
  | some (C', _) => if C' = C then (F [x] S).nox else .stuck
  | none => .stuck
section
variable {z : Sg} {k : Nat} {C f : Str} {F : TF} {e : Expr} {pos : Pos} {t : TEx}
theorem de_prop (T : TProp z.P z.w z.K z.mg z.base k C f F) (he : DE z e t) (hk : k + 1 ≤ z.lv) (hb : ∀ env, attributeBase e f env (eval e env) = eval e env := by intro _; rfl) : DE z (.Attribute e f pos) (eUn (propD C F) t) := by
  obtain ⟨p, g, fd, x, h1, h2, h3⟩ := T.ex
  obtain ⟨τ, e1, q1⟩ := he
  refine ⟨fun σ H Q => τ σ H fun v H1 => ∃ a dx ws, v = .ref a ∧ H1 a = some (.ins (He.ga z.K C) dx ws) ∧ tCallD z.K (fun _ _ _ _ => False) [x] F σ [v] H1 Q, fun X fx => ⟨fun pins s σ H Q I h => ?_⟩, fun G S ρ σ H Q s rs pp => ?_⟩
  · refine attr_of (hb _) (thn ((e1 X fx).run pins s σ H _ I h) fun u s1 ⟨v, H1, I1, rx, a, dx, ws, ex, ea, q⟩ => ?_)
    subst ex
    obtain rfl : u = Value.ref a := rx
    obtain ⟨hl, G, S, es, hs, rv, hp⟩ := q
    have c : Cls X.K (He.ga z.K C) := by rw [fx.K]; exact T.cl
    have h2' : PropOf X.K (He.ga z.K C) f p g := by rw [fx.K]; exact h2
    obtain ⟨mA, O, _, _, _, _⟩ := ins_get I1.hok ea
    obtain ⟨od, J, _⟩ := O.look
    obtain ⟨rest, hrec⟩ := h2'.rec_
    have I2 := I1.tok (s1.toks + 1)
    have hc : (PySem.W.clsIn X.K (He.ga z.K C)).isSome = true := by
      obtain ⟨cd, hc, _⟩ := PySem.W.any_some c.hd
      rw [hc]
      rfl
    have e0 := I2.env0.in1
    have KX := I2.kIn
    rw [fx.prog, fx.w, fx.K, fx.mg, fx.base] at e0
    rw [fx.K] at KX
    have fin : ∀ (rr : Result) (s' : Shared), CR (CX z.K X.prog X.w) X.stack X.prog X.w H1 { s1 with toks := s1.toks + 1 } Q (fun _ _ _ => False) rr s' → (match rr with | .ok (.ret u) => EP X pins σ Q u s' | .ok _ => False | .error e => False) := by
      intro rr s' hq
      cases rr with
      | error e =>
        rcases hq with ⟨_, _, _, _, _, _, _, _, _, _, _, _, no⟩ | ⟨_, _, _, _, _, _, _, _, _, _, _, _, _, no⟩
        · exact no.elim
        · exact no.elim
      | ok fl =>
        cases fl with
        | ret u => exact I2.after hq
        | _ => exact hq
    refine PySem.W.get_bind I1.kIn J (PySem.W.plainGet_of (c.get f)).1 (PySem.W.findObj_data hc h2'.at_ h2'.get h2'.tak) (PySem.W.plainGet_of (c.get f)).2 (wpAny_call (PySem.W.prop_get (s := { s1 with toks := s1.toks + 1 }) I1.kIn hrec ?_))
    rw [fx.prog, fx.w] at fin ⊢
    refine codeAny_mono (h1.run X.A.in1 X.stack { s1 with toks := s1.toks + 1 } H1 ⟨[.ref a], []⟩ [.ref a] [.ref a] Q (fun _ _ _ => False) G S es ((fx.room.mono hk).in1) fx.gd e0 (by simpa using h3 _ [.ref a] KX rfl) (.cons rfl .nil) hl hs rv (Post.wx hp)) fun rr s' hq => ?_
    have zz := fin rr s' hq
    cases rr with
    | error er => exact zz.elim
    | ok fl =>
      cases fl with
      | ret u =>
        obtain ⟨v, H', I3, rv, q3⟩ := zz
        show wpAny _ _ (handedOut u) _ _ _
        rw [PySem.W.handedOut_of (handed_of rv)]
        exact wpAny_pure ⟨v, H', I3, rv, q3⟩
      | _ => exact zz.elim
  · refine q1 G S ρ σ H _ s rs (pp.bind fun d S1 g1 H1 v e2 s1 r1 p1 => ?_)
    unfold propD at p1
    split at p1
    · rename_i C' fs q
      split at p1
      · rename_i hC
        subst hC
        obtain ⟨a, dx, ws, rfl, y1, _⟩ := ins_at s1 q r1 T.cl.hd
        refine ⟨a, dx, ws, rfl, y1, rfl, g1, S1, [d], s1, ?_, Post.ofNox p1⟩
        simp only [RVs]
        exact ⟨_, _, rfl, r1, rfl⟩
      · exact p1.elim
    · exact p1.elim
end
structure TMk (P : Program) (w : World) (K : PySem.W.Frag) (mg : Str → Option Value) (base : Heap) (k : Nat) (C : Str) (n : Nat) (dfl : List D) (F : TF) : Prop where
  ex : ∃ (f : Addr) (fd : FuncData) (ps : List Str) (ds : List Value) (dvs : List V), TFn P w K mg base k f fd ps F ∧ Mk K (He.ga K C) f ∧ Binds K fd ps ds ∧ Vals dvs ds ∧ (∀ g H, RVs K g H dfl dvs) ∧ ps.length = n
  gl : mg C = some (.ref (He.ga K C))
  len : ∀ ds S, ds.length ≠ n → F ds S = .stuck
theorem TMk.mono {P : Program} {w : World} {K : PySem.W.Frag} {mg : Str → Option Value} {base : Heap} {k j : Nat} {C : Str} {n : Nat} {dfl : List D} {F : TF} (h : TMk P w K mg base j C n dfl F) (hj : j ≤ k) : TMk P w K mg base k C n dfl F := by
  obtain ⟨f, fd, ps, ds, dvs, h1, h2⟩ := h.ex
  exact ⟨⟨f, fd, ps, ds, dvs, h1.mono hj, h2⟩, h.gl, h.len⟩
def makeD (C : Str) (dfl : List D) (F : TF) (xs : List D) (S : List O) : Out D := (F (.hnd S.length :: (xs ++ dfl)) (S ++ [.ins C []])).bind fun r S1 => match r with
  | .non => .ok (.hnd S.length) S1
  | _ => .stuck
theorem insMade {X : Cx} {pins : List (Addr × Obj)} {σ : L2.St} {H : Hp} {s : Shared} {C : Str} {g : G} {S : List O} (I : Inv X pins σ H s) (hs : SR X.K g S H) :
    ∃ H2, Inv X pins σ H2 { s with heap := (s.heap.push PySem.W.emptyDict).push (PySem.W.instObj (He.ga X.K C) s.heap.objs.size) } ∧ (∀ b u, H b = some u → H2 b = some u) ∧
      InsAt X.K (g.add (s.heap.objs.size + 1)) H2 (s.heap.objs.size + 1) C s.heap.objs.size [] ∧ ∃ u, H2 (s.heap.objs.size + 1) = some u := by
  have I2 := Inv.made (C := He.ga X.K C) I
  have nx : H (s.heap.objs.size + 1) = none := I.hok.fresh (Nat.le_succ _)
  have nd : H s.heap.objs.size = none := I.hok.fresh (Nat.le_refl _)
  have ne : s.heap.objs.size ≠ s.heap.objs.size + 1 := Nat.ne_of_lt (Nat.lt_succ_self _)
  by_cases c : PySem.W.hasDictIn X.K (He.ga X.K C) = true
  · exact ⟨_, I2, fun b u q => by rw [upd_ne (ne_of_none q nx), upd_ne (ne_of_none q nd)]; exact q, .inl ⟨c, upd_same⟩, _, upd_same⟩
  · obtain ⟨mA, O, _⟩ := ins_get I2.hok (upd_same (a := s.heap.objs.size + 1))
    have I3 := SlX.inv_slot (t' := s.toks) (vs' := []) (sl' := #[]) I2 (.inl ⟨upd_same, rfl⟩) (fun b o _ _ e => e) (fun _ n => n) O.obj (SlX.SlR.nil #[])
    refine ⟨_, I3, fun b u q => ?_, .inr ⟨c, fun z => z.elim (hs.unbad nd) ne, ne, ?_, [], upd_same, fun i f _ => by simp⟩, _, upd_same⟩
    · rw [SlX.slH_ne (ne_of_none q nx) (ne_of_none q nd), upd_ne (ne_of_none q nx), upd_ne (ne_of_none q nd)]
      exact q
    · unfold SlX.slH
      rw [upd_ne ne, upd_same]
section
variable {z : Sg} {k n : Nat} {C : Str} {F : TF} {dfl : List D} {e : Expr} {es : List Expr} {p pos : Pos} {ta : TAx}
theorem run_mk {X : Cx} {pins : List (Addr × Obj)} {σ : L2.St} {H : Hp} {s : Shared} {Q : VK} {us : List Value} {vs : List V} {g : G} {S : List O} {xs : List D} (T : TMk z.P z.w z.K z.mg z.base k C n dfl F) (fx : Fits z X) (hk : k + 1 ≤ z.lv) (I : Inv X pins σ H s) (r : Vals vs us) (hs : SR z.K g S H) (rv : RVs z.K g H xs vs)
    (hp : Post z.K z.W (RV z.K) g H σ Q (makeD C dfl F xs S)) : wpAny (model X.prog X.w) X.A (call (.ref (He.ga z.K C)) us) (EP X pins σ Q) X.xe s := by
  obtain ⟨f, fd, ps, ds, dvs, h1, h2, h3, h4, h5, h6⟩ := T.ex
  have h2' : Mk X.K (He.ga z.K C) f := by rw [fx.K]; exact h2
  have nx : H (s.heap.objs.size + 1) = none := I.hok.fresh (Nat.le_succ _)
  obtain ⟨H2, I2, k1, hi, hu⟩ := insMade (C := C) I (by rw [fx.K]; exact hs)
  rw [fx.K] at I2 hi
  have e2 : Ext g H (g.add (s.heap.objs.size + 1)) H2 := Ext.add nx k1
  have s2 : SR z.K (g.add (s.heap.objs.size + 1)) (S ++ [.ins C []]) H2 := hs.add nx k1 ⟨s.heap.objs.size, [], hi, by simp only [RFs]⟩ hu
  have rself : RV z.K (g.add (s.heap.objs.size + 1)) H2 (.hnd S.length) (.ref (s.heap.objs.size + 1)) := RV.newH hs
  have rall : RVs z.K (g.add (s.heap.objs.size + 1)) H2 (.hnd S.length :: (xs ++ dfl)) (.ref (s.heap.objs.size + 1) :: (vs ++ dvs)) := by
    simp only [RVs]
    exact ⟨_, _, rfl, rself, (rv.mono hs.live e2 _ _).append (h5 _ _)⟩
  have p2 : Post z.K z.W (RV z.K) (g.add (s.heap.objs.size + 1)) H2 σ Q (makeD C dfl F xs S) := Post.later e2 s2 hp
  unfold makeD at p2
  have p3 : Post z.K z.W (RV z.K) (g.add (s.heap.objs.size + 1)) H2 σ (fun v H' => v = .non ∧ Q (.ref (s.heap.objs.size + 1)) H') (F (.hnd S.length :: (xs ++ dfl)) (S ++ [.ins C []])) := p2.bind fun d S1 g1 H1 v e s1 r1 p1 => by
    cases d with
    | non => exact ⟨rv_non r1, p1.here s1 (rself.mono s2.live e _ _)⟩
    | _ => exact p1.elim
  by_cases hl : (D.hnd S.length :: (xs ++ dfl)).length = n
  · have r2 : Vals (V.ref (s.heap.objs.size + 1) :: (vs ++ dvs)) (Value.ref (s.heap.objs.size + 1) :: (us ++ ds)) := .cons rfl (r.append h4)
    have hps : (V.ref (s.heap.objs.size + 1) :: (vs ++ dvs)).length = ps.length := by
      rw [h6, ← hl, rall.length]
    have e0 := I2.env0.make (He.ga z.K C) us []
    have KX := I2.kIn
    rw [fx.prog, fx.w, fx.K, fx.mg, fx.base] at e0
    rw [fx.K] at KX
    have bd := h3 _ (Value.ref (s.heap.objs.size + 1) :: us) KX (by rw [← hps, List.cons_append, ← r2.length])
    have fin : ∀ (rr : Result) (s' : Shared), CR (CX z.K X.prog X.w) X.stack X.prog X.w H2 { s with heap := (s.heap.push PySem.W.emptyDict).push (PySem.W.instObj (He.ga z.K C) s.heap.objs.size) } (fun v H' => v = .non ∧ Q (.ref (s.heap.objs.size + 1)) H') (fun c dd H' => z.W c dd σ H') rr s' →
        PySem.W.InitBack (s.heap.objs.size + 1) (fun rr s' => match rr with | .ok (.ret u) => EP X pins σ Q u s' | .ok _ => False | .error e => X.xe e s') rr s' := by
      intro rr s' hq
      cases rr with
      | error e => exact fx.takes e s' (XE.of_call I2 (fun _ _ _ q => q) hq)
      | ok fl =>
        cases fl with
        | ret u =>
          obtain ⟨v, H', I3, rv, ev, q3⟩ := I2.after hq
          subst ev
          exact ⟨rv, ⟨V.ref (s.heap.objs.size + 1), H', I3, rfl, q3⟩⟩
        | _ => exact hq
    rw [fx.prog, fx.w] at fin ⊢
    refine wpAny_call (codeAny_mono (make_map (f := f) I.kIn h2'.makes h2'.init (beq_iff_eq.mp h2'.fn) (codeAny_mono (h1.run _ X.stack _ H2 ⟨Value.ref (s.heap.objs.size + 1) :: us, []⟩ (Value.ref (s.heap.objs.size + 1) :: (us ++ ds)) _ _ _ _ _ _ ((fx.room.mono hk).make (He.ga z.K C) us []) fx.gd e0 bd r2 hps s2 rall (Post.wx p3)) fin)) fun rr s' q => ?_)
    cases rr with
    | error e => exact q
    | ok fl =>
      cases fl with
      | ret u => exact q
      | _ => exact q.elim
  · rw [T.len _ _ hl] at p3
    exact p3.elim
theorem de_make (T : TMk z.P z.w z.K z.mg z.base k C n dfl F) (ha : DA z (e :: es) ta) (hk : k + 1 ≤ z.lv) (hg : Gz z C := by rfl) (hdb : (C == ("__debug__" : Str)) = false := by decide) (he : ∀ env, starEach (e :: es) env = (false, eval e env) :: starEach es env := by intro _; rfl) (hpl : ∀ env, (backTo pos (starEach es env)).any (·.1) = false := by intro _; rfl) :
    DE z (.Call (.Name C p) (e :: es) [] pos) (eArgs (makeD C dfl F) ta) := by
  obtain ⟨τ, h1, q1⟩ := ha
  refine ⟨fun σ H Q => τ σ H fun vs H1 => ∃ g S xs, SR z.K g S H1 ∧ RVs z.K g H1 xs vs ∧ Post z.K z.W (RV z.K) g H1 σ Q (makeD C dfl F xs S), fun X fx => ⟨fun pins s σ H Q I h => ?_⟩, fun g S ρ σ H Q s rs pp => ?_⟩
  · refine wpAny_Call_Name_kw (ld_glob I (fx.gl hg) (fx.mgl T.gl) ?_ hdb)
    obtain ⟨f, fd, ps, ds, dvs, _, h2, _⟩ := T.ex
    have kp' : PySem.W.keepIn X.K (.ref (He.ga z.K C)) = true := by rw [fx.K]; exact h2.kp
    exact PySem.W.callWith_K (h₀ := X.base) I.ok.mod.kin kp' (thn ((h1 X fx).run pos pins s σ H _ I h) fun us s1 ⟨vs, H1, I1, r, g, S, xs, hs, rv, hp⟩ => ⟨I1.kIn, run_mk T fx hk I1 r hs rv hp⟩) (he _) (hpl _)
  · exact q1 g S ρ σ H _ s rs (pp.bind fun xs S1 g1 H1 vs e1 s1 r1 p1 => ⟨g1, S1, xs, s1, r1, p1⟩)
end
end TL
set_option Elab.async false
set_option linter.all false
set_option maxRecDepth 100000
set_option maxHeartbeats 4000000
namespace TL
open PySem PySem.Spec PyProof.Rows L2
def OpS (z : Sg) (f : Value → Value → Sem Value) (t : D → D → List O → Out D) : Prop :=
  ∀ X, Fits z X → ∀ (pins : List (Addr × Obj)) (s : Shared) (σ : L2.St) (H : Hp) (x y : V) (v u : Value) (Q : VK), Inv X pins σ H s → RelV x v → RelV y u → ∀ (g : G) (S : List O) (dx dy : D), SR z.K g S H → RV z.K g H dx x → RV z.K g H dy y →
    Post z.K z.W (RV z.K) g H σ Q (t dx dy S) → wpAny (model X.prog X.w) X.A (f v u) (EP X pins σ Q) X.xe s
def UnS (z : Sg) (f : Value → Sem Value) (t : D → List O → Out D) : Prop :=
  ∀ X, Fits z X → ∀ (pins : List (Addr × Obj)) (s : Shared) (σ : L2.St) (H : Hp) (x : V) (v : Value) (Q : VK), Inv X pins σ H s → RelV x v → ∀ (g : G) (S : List O) (dx : D), SR z.K g S H → RV z.K g H dx x →
    Post z.K z.W (RV z.K) g H σ Q (t dx S) → wpAny (model X.prog X.w) X.A (f v) (EP X pins σ Q) X.xe s
section
variable {z : Sg} {f : Value → Value → Sem Value} {f1 : Value → Sem Value} {t : D → D → List O → Out D} {t1 : D → List O → Out D} {r : R2} {r1 : V → Hp → VK → Prop} {a b : Expr} {ta tb : TEx} {pos : Pos}
theorem OpS.ofR (ho : ∀ X, Fits z X → OpR X f r) (ok : OkB z.K z.W r t) : OpS z f t :=
  fun X fx pins s σ H x y v u Q I rx ry g S dx dy hs r1 r2 p => ho X fx pins s σ H x y v u Q I rx ry (ok g S H σ Q dx dy x y hs r1 r2 p)
theorem UnS.ofR (ho : ∀ X, Fits z X → UnR X f1 r1) (ok : OkU z.K z.W r1 t1) : UnS z f1 t1 :=
  fun X fx pins s σ H x v Q I rx g S dx hs r1 p => ho X fx pins s σ H x v Q I rx (ok g S H σ Q dx x hs r1 p)
def rS2 (z : Sg) (t : D → D → List O → Out D) (σ : L2.St) (x y : V) (H : Hp) (Q : VK) : Prop := ∃ g S dx dy, SR z.K g S H ∧ RV z.K g H dx x ∧ RV z.K g H dy y ∧ Post z.K z.W (RV z.K) g H σ Q (t dx dy S)
theorem de_binS {op : Operator} (h : OpS z (binaryOp op) t) (ha : DE z a ta) (hb : DE z b tb) : DE z (.BinOp a op b pos) (eBin t ta tb) := by
  obtain ⟨τ, h1, q1⟩ := ha
  obtain ⟨τ2, h2, q2⟩ := hb
  refine ⟨fun σ H Q => τ σ H fun x H1 => τ2 σ H1 fun y H2 => rS2 z t σ x y H2 Q, fun X fx => ⟨fun pins s σ H Q I hq => ?_⟩, fun g S ρ σ H Q s rs p => ?_⟩
  · exact wpAny_BinOp (binT (h1 X fx) (h2 X fx) I hq fun v u s2 x y H2 I2 rx ry q => by
      obtain ⟨g, S, dx, dy, hs, r1, r2, p⟩ := q
      exact h X fx pins s2 σ H2 x y v u Q I2 rx ry g S dx dy hs r1 r2 p)
  · exact q1 g S ρ σ H _ s rs (p.bind fun x S1 g1 H1 v e1 s1 r1 p1 => q2 g1 S1 ρ σ H1 _ s1 (rs.mono s.live e1) (p1.bind fun y S2 g2 H2 u e2 s2 r2 p2 => ⟨g2, S2, x, y, s2, r1.mono s1.live e2, r2, p2⟩))
theorem de_unS {op : UnaryOp} (h : UnS z (unaryOp op) t1) (ha : DE z a ta) : DE z (.UnaryOp op a pos) (eUn t1 ta) := by
  obtain ⟨τ, h1, q1⟩ := ha
  refine ⟨fun σ H Q => τ σ H fun x H1 => ∃ g S dx, SR z.K g S H1 ∧ RV z.K g H1 dx x ∧ Post z.K z.W (RV z.K) g H1 σ Q (t1 dx S), fun X fx => ⟨fun pins s σ H Q I hq => ?_⟩, fun g S ρ σ H Q s rs p => ?_⟩
  · refine UnaryOp_ (thn ((h1 X fx).run pins s σ H _ I hq) fun v s1 ⟨x, H1, I1, r1, g, S, dx, hs, rx, p⟩ => h X fx pins s1 σ H1 x v Q I1 r1 g S dx hs rx p)
  · exact q1 g S ρ σ H _ s rs (p.bind fun x S1 g1 H1 v e1 s1 r1 p1 => ⟨g1, S1, x, s1, r1, p1⟩)
theorem de_cmpS {op : CmpOp} (h : OpS z (compareOp op) t) (hm : behindInMarks op b = false) (ha : DE z a ta) (hb : DE z b tb) : DE z (.Compare a [op] [b] pos) (eBin t ta tb) := by
  obtain ⟨τ, h1, q1⟩ := ha
  obtain ⟨τ2, h2, q2⟩ := hb
  refine ⟨fun σ H Q => τ σ H fun x H1 => τ2 σ H1 fun y H2 => rS2 z t σ x y H2 Q, fun X fx => ⟨fun pins s σ H Q I hq => ?_⟩, fun g S ρ σ H Q s rs p => ?_⟩
  · exact wpAny_Compare1 (binT (h1 X fx) (h2 X fx) I hq fun v u s2 x y H2 I2 rx ry q => by
      obtain ⟨g, S, dx, dy, hs, r1, r2, p⟩ := q
      exact h X fx pins s2 σ H2 x y v u Q I2 rx ry g S dx dy hs r1 r2 p) hm
  · exact q1 g S ρ σ H _ s rs (p.bind fun x S1 g1 H1 v e1 s1 r1 p1 => q2 g1 S1 ρ σ H1 _ s1 (rs.mono s.live e1) (p1.bind fun y S2 g2 H2 u e2 s2 r2 p2 => ⟨g2, S2, x, y, s2, r1.mono s1.live e2, r2, p2⟩))
theorem dt_cmpS {op : CmpOp} (h : OpS z (compareOp op) t) (hm : behindInMarks op b = false) (ha : DE z a ta) (hb : DE z b tb) : DT z (.Compare a [op] [b] pos) (tBl (eBin t ta tb)) := by
  obtain ⟨τ, h1, q1⟩ := ha
  obtain ⟨τ2, h2, q2⟩ := hb
  refine dt_of (τ := fun σ H Q => τ σ H fun x H1 => τ2 σ H1 fun y H2 => rS2 z t σ x y H2 Q) (fun X fx => ⟨fun pins s σ H Q I hq => ?_⟩) fun g S ρ σ H Q s rs p => ?_
  · refine wpAny_isTrue_Compare1 (thn ((h1 X fx).run pins s σ H _ I hq) fun v s1 ⟨x, H1, I1, r1, q1⟩ => thn ((h2 X fx).run pins s1 σ H1 _ I1 q1) fun u s2 ⟨y, H2, I2, r2, g, S, dx, dy, hs, e1, e2, p⟩ =>
      thn (h X fx pins s2 σ H2 x y v u _ I2 r1 r2 g S dx dy hs e1 e2 p) fun c s3 ⟨w, H3, I3, r3, k, e, q3⟩ => ?_) hm
    subst e
    cases r3
    exact wpAny_truthy_bool ⟨H3, I3, q3⟩
  · exact q1 g S ρ σ H _ s rs (p.bind fun x S1 g1 H1 v e1 s1 r1 p1 => q2 g1 S1 ρ σ H1 _ s1 (rs.mono s.live e1) (p1.bind fun y S2 g2 H2 u e2 s2 r2 p2 => ⟨g2, S2, x, y, s2, r1.mono s1.live e2, r2, p2⟩))
end
theorem cmpBack_ep {X : Cx} {pins : List (Addr × Obj)} {σ : L2.St} {Q : VK} {u : Value} {s : Shared} (h : EP X pins σ Q u s) : PySem.W.CmpBack (EP X pins σ Q) u s := by
  cases u <;> first
    | exact h
    | (obtain ⟨x, _, _, rx, _⟩ := h
       cases x <;> first | (obtain ⟨_, e⟩ := rx; cases e; done) | (cases rx; done))
def isOwn (C : Str) (S : List O) (d : D) : Bool := match insOf S d with
  | some (C', _) => C' == C
  | none => false
def own1 (C : Str) (F : TF) (x : D) (S : List O) : Out D := if isOwn C S x then F [x] S else .stuck
def own2 (C : Str) (F : TF) (x y : D) (S : List O) : Out D := if isOwn C S x && isOwn C S y then F [x, y] S else .stuck
theorem own_atI {K : PySem.W.Frag} {g : G} {S : List O} {H : Hp} {C : Str} {d : D} {v : V} (s : SR K g S H) (h : isOwn C S d = true) (r : RV K g H d v) : ∃ a dx ws, v = .ref a ∧ InsAt K g H a C dx ws := by
  unfold isOwn at h
  split at h
  · rename_i C' fs q
    obtain ⟨a, dx, ws, rfl, h1, _⟩ := ins_atI s q r
    rw [beq_iff_eq.mp h] at h1
    exact ⟨a, dx, ws, rfl, h1⟩
  · cases h
theorem inst_ofI {X : Cx} {K : PySem.W.Frag} {pins : List (Addr × Obj)} {s : Shared} {σ : L2.St} {H : Hp} {g : G} {a dx : Addr} {C : Str} {ws : List (Str × V)} (hK : X.K = K) (I : Inv X pins σ H s) (e : InsAt K g H a C dx ws) : ∃ ox od, PySem.W.InstAt s.heap a ox (He.ga K C) od := by
  subst hK
  rcases e with ⟨_, e⟩ | ⟨_, _, h3, h4, vs, h5, _⟩
  · obtain ⟨mA, O, _⟩ := ins_get I.hok e
    obtain ⟨od, J, _⟩ := O.look
    exact ⟨_, _, J⟩
  · obtain ⟨sl, od, _, J, _⟩ := SlX.slt_inst I (.inr ⟨h5, h4⟩)
    exact ⟨_, _, J⟩
section
variable {z : Sg} {k : Nat} {C m : Str} {F : TF}
theorem run_met {n : Nat} (T : TMet z.P z.w z.K z.mg z.base k C m n F) {X : Cx} (fx : Fits z X) (hk : k ≤ z.lv) {pins : List (Addr × Obj)} {s : Shared} {σ : L2.St} {H : Hp} {Q : VK} {vs : List V} {us : List Value} (I : Inv X pins σ H s) (r : Vals vs us) {g : G} {S : List O} {ds : List D} (hs : SR z.K g S H) (rv : RVs z.K g H ds vs)
    (p : Post z.K z.W (RV z.K) g H σ Q (F ds S)) : ∃ f, Meth X.K (He.ga z.K C) m f ∧ wpAny (model X.prog X.w) X.A (call (.ref f) us) (EP X pins σ Q) X.xe s := by
  obtain ⟨f, fd, ps, h1, h2, h3, h4⟩ := T.ex
  refine ⟨f, by rw [fx.K]; exact h2, run_tfn (ds := []) (dvs := []) h1 fx hk h3 .nil I r ?_⟩
  rw [List.append_nil]
  by_cases hl : ds.length = n
  · exact ⟨by rw [rv.length, hl, h4], g, S, ds, hs, rv, p⟩
  · rw [T.len _ _ hl] at p
    exact p.elim
theorem op_own {op : Operator} (T : TMet z.P z.w z.K z.mg z.base k C m 2 F) (hk : k ≤ z.lv) (hm : PySem.dunder op.info.2 = m) (hc : PySem.W.selfFirst z.K (He.ga z.K C) = true) : OpS z (binaryOp op) (own2 C F) := by
  intro X fx pins s σ H x y v u Q I rx ry g S dx dy hs r1 r2 p
  unfold own2 at p
  split at p
  · rename_i h
    obtain ⟨h1, h2⟩ := Bool.and_eq_true_iff.mp h
    obtain ⟨a, _, _, rfl, ea⟩ := own_atI hs h1 r1
    obtain ⟨b, _, _, rfl, eb⟩ := own_atI hs h2 r2
    obtain rfl : v = Value.ref a := rx
    obtain rfl : u = Value.ref b := ry
    obtain ⟨f, M, q⟩ := run_met T fx hk I (vs := [.ref a, .ref b]) (us := [.ref a, .ref b]) (.cons rfl (.cons rfl .nil)) hs (ds := [dx, dy]) (by simp only [RVs]; exact ⟨_, _, rfl, r1, _, _, rfl, r2, rfl⟩) p
    obtain ⟨ox, od, J⟩ := inst_ofI fx.K I ea
    obtain ⟨ox2, od2, J2⟩ := inst_ofI fx.K I eb
    obtain ⟨mm, fr⟩ := I.fr
    refine PySem.W.binop_K fr I.ok.mod.kin J J2.type (by rw [fx.K]; exact hc) (by rw [hm]; exact M.at_) M.fn (thn q fun u s' h => cmpBack_ep h)
  · exact p.elim
end
end TL
set_option Elab.async false
set_option linter.all false
set_option maxRecDepth 100000
set_option maxHeartbeats 4000000
namespace TL
open PySem PySem.Spec PyProof.Rows L2
open Builtin in
section
variable {z : Sg} {k : Nat} {C m : Str} {F : TF}
end
end TL
set_option Elab.async false
set_option linter.all false
set_option maxRecDepth 100000
set_option maxHeartbeats 4000000
namespace TL
open PySem PySem.Spec PyProof.Rows L2
section
variable {z : Sg} {k k' : Nat} {C m m' : Str} {F Fr : TF}
theorem code_met {n : Nat} (T : TMet z.P z.w z.K z.mg z.base k C m n F) {X : Cx} (fx : Fits z X) {A : Around} (hr : Room k A) (hgd : A.guards = some []) (hfn : ∀ f : Addr, PySem.W.findIn z.K (.ref (He.ga z.K C)) m = some (some (.ref f)) → PySem.W.fnIn z.K f = true) {pins : List (Addr × Obj)} {s : Shared} {σ : L2.St} {H : Hp} {Q : VK} {vs : List V} {us : List Value} (I : Inv X pins σ H s) (e0 : Env0 z.P z.w z.K z.mg z.base A X.stack s H) (r : Vals vs us) {g : G} {S : List O} {ds : List D} (hs : SR z.K g S H) (rv : RVs z.K g H ds vs)
    (p : Post z.K z.W (RV z.K) g H σ Q (F ds S)) : ∃ f, Meth X.K (He.ga z.K C) m f ∧ PySem.W.fnIn X.K f = true ∧ codeAny (model X.prog X.w) A (.call (.ref f) ⟨us, []⟩) (fun rr s' => match rr with | .ok (.ret u) => EP X pins σ Q u s' | .ok _ => False | .error e => X.xe e s') s := by
  obtain ⟨f, fd, ps, h1, h2, h3, h4⟩ := T.ex
  by_cases hl : ds.length = n
  · refine ⟨f, by rw [fx.K]; exact h2, ?_, ?_⟩
    · rw [fx.K]
      exact hfn f h2.at_
    · have KX := I.kIn
      have fin : ∀ (rr : Result) (s' : Shared), CR (CX z.K X.prog X.w) X.stack X.prog X.w H s Q (fun c dd H' => z.W c dd σ H') rr s' → (match rr with | .ok (.ret u) => EP X pins σ Q u s' | .ok _ => False | .error e => X.xe e s') := by
        intro rr s' hq
        cases rr with
        | error e => exact fx.takes e s' (XE.of_call I (fun _ _ _ q => q) hq)
        | ok fl =>
          cases fl with
          | ret u => exact I.after hq
          | _ => exact hq
      rw [fx.K] at KX
      rw [fx.prog, fx.w] at fin ⊢
      have hlen : vs.length = ps.length := by rw [rv.length, hl, h4]
      refine codeAny_mono (h1.run A X.stack s H ⟨us, []⟩ us vs Q _ g S ds hr hgd e0 (by simpa using h3 s us KX (by rw [List.append_nil, ← r.length]; exact hlen)) r hlen hs rv p.wx) fin
  · rw [T.len _ _ hl] at p
    exact p.elim
end
end TL
set_option Elab.async false
set_option linter.all false
set_option maxRecDepth 100000
set_option maxHeartbeats 4000000
namespace TL
open PySem PySem.Spec PyProof.Rows L2
theorem fnB_ok {K : PySem.W.Frag} {C m : Str} (h : fnB C m K = true) : ∀ f : Addr, PySem.W.findIn K (.ref (He.ga K C)) m = some (some (.ref f)) → PySem.W.fnIn K f = true := fun f e => by
  unfold fnB at h
  rw [e] at h
  exact h
section
variable {M : Model} {A : Around} {E : Value → Shared → Prop} {s : Shared} {env : Env} {pos : Pos} {x : Addr} {Q : Value → Shared → Prop}
end
section
variable {z : Sg} {k n : Nat} {C : Str} {F : TF} {o e : Expr} {es : List Expr} {pos : Pos} {t : TEx} {ta : TAx}
def eCallO (C : Str) (F : TF) (t : TEx) (ta : TAx) : TEx := fun ρ S => (t ρ S).bind fun x S1 => if isOwn C S1 x then (ta ρ S1).bind fun xs S2 => if isOwn C S2 x then F (x :: xs) S2 else .stuck else .stuck
def ownNe (C : Str) (F : TF) (base : D → D → List O → Out D) (x y : D) (S : List O) : Out D := if isOwn C S x then (if isOwn C S y then (F [x, y] S).bind fun d S1 => match d with
  | .bl b => .ok (.bl (!b)) S1
  | _ => .stuck else .stuck) else base x y S
structure NeB (K : PySem.W.Frag) (C : Str) : Prop where
  at_ : PySem.W.findIn K (.ref (He.ga K C)) "__ne__" = some (some (.builtin "object.__ne__"))
  sub : PySem.W.subIn K (.ref (He.ga K C)) (.type "object") = some true
theorem op_neO {base : D → D → List O → Out D} (T : TMet z.P z.w z.K z.mg z.base k C "__eq__" 2 F) (hb : OpS z (compareOp .NotEq) base) (N : NeB z.K C) (hk : k + 1 ≤ z.lv) (hf : fnB C "__eq__" z.K = true) : OpS z (compareOp .NotEq) (ownNe C F base) := by
  intro X fx pins s σ H x y v u Q I rx ry g S dx dy hs r1 r2 p
  unfold ownNe at p
  split at p
  · rename_i h1
    split at p
    · rename_i h2
      obtain ⟨a, dxa, _, rfl, ea⟩ := own_atI hs h1 r1
      obtain ⟨b, _, _, rfl, eb⟩ := own_atI hs h2 r2
      obtain rfl : v = Value.ref a := rx
      obtain rfl : u = Value.ref b := ry
      have p' : Post z.K z.W (RV z.K) g H σ (fun w H' => ∃ c, w = .bl c ∧ Q (.bl (!c)) H') (F [dx, dy] S) := Post.bind (R' := RV z.K) (Q := Q) p fun d S1 g1 H1 w e s1 r1 p1 => by
        cases d with
        | bl c => exact ⟨c, rv_bl r1, p1.here s1 (by simp only [RV])⟩
        | _ => exact p1.elim
      have e0 := I.env0.in1
      rw [fx.prog, fx.w, fx.K, fx.mg, fx.base] at e0
      have hu := fx.hu
      obtain ⟨f, M, fn, q⟩ := code_met T fx (A := X.A.in1) ((fx.room.mono hk).in1) fx.gd (fnB_ok hf) I e0 (us := [.ref a, .ref b]) (vs := [.ref a, .ref b]) (.cons rfl (.cons rfl .nil)) hs (ds := [dx, dy]) (by simp only [RVs]; exact ⟨_, _, rfl, r1, _, _, rfl, r2, rfl⟩) p'
      obtain ⟨ox, od, J⟩ := inst_ofI fx.K I ea
      obtain ⟨ox2, od2, J2⟩ := inst_ofI fx.K I eb
      have KX := I.kIn
      have N' : NeB X.K C := by rw [fx.K]; exact N
      have n1 := N'.at_
      have n2 := N'.sub
      rw [show He.ga X.K C = He.ga z.K C by rw [fx.K]] at n1 n2
      refine PySem.W.cmp_ofNotEq ?_
      unfold richCompare
      simp only [oneThing_ref]
      refine wpAny_holding (wpAny_bind (wpAny_cRoomFor (by omega) ?_))
      refine wpAny_bind (J.type.here (wpAny_bind (J2.type.here ?_)))
      simp only [bne_self_eq_false, Bool.false_eq_true, if_false]
      refine wpAny_bind (wpAny_pure ?_)
      simp only [Bool.false_eq_true, if_false]
      have one : wpAny (model X.prog X.w) X.A (tryCompare (.ref a) "__ne__" (.ref b)) (fun r s' => ∃ v, r = some v ∧ EP X pins σ Q v s') X.xe s := by
        simp only [tryCompare, callSpecialIfBound?, bindSpecialIfBound?]
        have fin : wpAny (model X.prog X.w) X.A (call (.builtin "object.__ne__") [.ref a, .ref b]) (EP X pins σ Q) X.xe s := by
          refine wpAny_call (codeAny_call_builtin PySem.F.cmp_object.ne.plain PySem.F.cmpEntry_ne (PySem.W.check_slot PySem.F.cmpKind_ne PySem.F.cmpSplit_ne (J.type.andThen (PySem.W.looks_subIn KX n2)) (PySem.F.cmpArgs_ne _ _) ?_))
          unfold Builtin.«object.__ne__»
          refine wpAny_bind (wpAny_of_eq (show slotArgs "__ne__" 1 ⟨[.ref a, .ref b], []⟩ = pure (.ref a, [.ref b]) from rfl) ?_)
          dsimp only
          refine wpAny_bind (wpAny_cRoomFor (show X.A.units + 1 < cLine by omega) ?_)
          refine wpAny_bind (PySem.W.ifBound_K (K := X.K) KX J M.at_ M.fn (wpAny_mono (wpAny_call q) (fun w s' hw => ?_) fun _ _ e => e))
          obtain ⟨w', H', I', rw', c, rfl, q'⟩ := hw
          cases rw'
          refine wpAny_bind (wpAny_truthy_bool ?_)
          exact wpAny_pure (show EP X pins σ Q (.bool (!c)) s' from ⟨.bl (!c), H', I', rfl, q'⟩)
        refine wpAny_bind (wpAny_holding (wpAny_bind (wpAny_bind (wpAny_bind (J.type.here ((PySem.W.looks_findIn KX n1).here ?_))))))
        simp only [PySem.F.cmp_object.ne.bind]
        have fin2 : wpAny (model X.prog X.w) X.A (call (.builtin "object.__ne__") ([.ref a] ++ [.ref b]) >>= fun v => pure (some v)) (fun r s' => wpAny (model X.prog X.w) X.A (match r with
          | some .notImplemented | none => pure none
          | some v => pure (some v)) (fun r s' => ∃ v, r = some v ∧ EP X pins σ Q v s') X.xe s') X.xe s := wpAny_bind (wpAny_mono fin (fun v s' h' => wpAny_pure (by
            have h2 := cmpBack_ep h'
            cases v <;> first | exact h2.elim | exact wpAny_pure ⟨_, rfl, h'⟩)) fun _ _ e => e)
        refine wpAny_bind (wpAny_askSetting (wpAny_ite ?_))
        split
        · exact wpAny_bind (wpAny_pure (wpAny_pure fin2))
        · exact wpAny_tryCatch (wpAny_bind (wpAny_pure (wpAny_pure fin2)))
      refine wpAny_bind (wpAny_mono one (fun r s' z => ?_) fun _ _ e => e)
      obtain ⟨v, rfl, hq⟩ := z
      exact wpAny_pure hq
    · exact p.elim
  · exact hb X fx pins s σ H x y v u Q I rx ry g S dx dy hs r1 r2 p
end
end TL
set_option Elab.async false
set_option linter.all false
set_option maxRecDepth 100000
set_option maxHeartbeats 4000000
namespace TLX
open PySem PySem.Spec PyProof.Rows L2
def txtE (e : Int × Value) : Str := match e.2 with
  | .str x _ => x
  | _ => Str.empty
structure Tab (w : World) (es : Array (Int × Value)) (t : SetTable) (L : List Str) : Prop where
  good : ∀ e ∈ es.toList, ∃ x tk, e.2 = Value.str x tk ∧ e.1 = hashStr w x
  keys : (es.toList.map txtE).Perm L
  nd : L.Nodup
  few : es.size < scanBound
  fits : t.fits es.size = true
  ris : Ris t.place.toList
  led : w.params.followText "set-order" = true ∨ t.led = true
def SetT (w : World) (h : Heap) (a : Addr) (L : List Str) : Prop := ∃ o es ep t, h.get? a = some o ∧ o.ExactSet ∧ o.data = .set es ep t ∧ Tab w es t L
section
variable {P : Program} {w : World} {A : Around} {E : Value → Shared → Prop} {s : Shared} {a : Addr} {L : List Str} {h h' : Heap} {es es' : Array (Int × Value)} {t t' : SetTable}
theorem Tab.lay (T : Tab w es t L) (p : es'.toList.Perm es.toList) (f : t'.fits es'.size = true) (r : Ris t'.place.toList) (l : t'.led = t.led) : Tab w es' t' L where
  good := fun e he => T.good e (p.mem_iff.mp he)
  keys := (p.map txtE).trans T.keys
  nd := T.nd
  few := by rw [← Array.length_toList, p.length_eq, Array.length_toList]; exact T.few
  fits := f
  ris := r
  led := by rw [l]; exact T.led
theorem Tab.has (T : Tab w es t L) (x : Str) : x ∈ L ↔ ∃ e ∈ es.toList, (PySem.strKind P w).is x e.2 = true := by
  rw [← T.keys.mem_iff, List.mem_map]
  constructor <;> rintro ⟨e, he, q⟩ <;> refine ⟨e, he, ?_⟩ <;> obtain ⟨y, tk, h1, _⟩ := T.good e he
  · unfold txtE at q
    rw [h1] at q
    rw [h1, ← q]
    exact strKind_is P w y tk
  · rw [h1] at q
    unfold txtE
    rw [h1]
    exact (PySem.strKind P w).inj _ _ _ (strKind_is P w y tk) q
def insT (L : List Str) (x : Str) : List Str := if x ∈ L then L else L ++ [x]
def onceT (xs : List Str) : List Str := xs.foldl insT []
theorem SetT.at (R : SetT w h a L) (k : ∀ o, h.get? a = some o → h'.get? a = some o) : SetT w h' a L := by
  obtain ⟨o, es, ep, t, ho, r⟩ := R
  exact ⟨o, es, ep, t, k o ho, r⟩
end
section
variable {P : Program} {w : World} {A : Around} {R : Result → Shared → Prop} {I : Addr} {fp wr : List Addr} {G : Array GenState → Array GenState → Prop} {n : Nat} {Pv : Nat → Value → Prop} {St : Nat → Shared → Prop}
end
section
variable {P : Program} {w : World} {A : Around} {E : Value → Shared → Prop} {s : Shared}
abbrev freshT (w : World) : Obj := { cls := .type "set", dict := none, data := .set #[] 0 (.fresh 0 0 (!w.params.followText "set-order")) }
theorem newT (a : Value) {Q1 : Value → Shared → Prop} (h : Q1 (.ref s.heap.objs.size) { s with heap := s.heap.push (freshT w) }) : codeAny (model P w) A (.call (.builtin "set.__new__") ⟨[.type "set", a], []⟩) (wants Q1 E) s := by
  refine codeAny_of_tree (wpAny_bind (m := checkBuiltinCall "set.__new__" ⟨[.type "set", a], []⟩) (wpAny_of_eq (PySem.F.newCall_set_1 a) (wpAny_pure ⟨plainId_quiet PySem.F.plain_set_new _, codeAny_builtin PySem.F.entry_set_new ?_⟩)))
  rw [Around.under_plainId PySem.F.plain_set_new _]
  unfold Builtin.«set.__new__» Builtin.Frozenset.newClass
  have hs := sub_set_self
  obtain ⟨hp, g, d, tk, os⟩ := s
  wp_walk
  refine wpAny_askSetting (wpAny_pure ?_)
  simp only [newObj]
  exact wpAny_bind (wpAny_alloc (wpAny_pure (wpAny_pure h)))
end
end TLX
set_option Elab.async false
set_option linter.all false
set_option maxRecDepth 100000
set_option maxHeartbeats 4000000
namespace TLX
open PySem PySem.Spec PyProof.Rows L2
section
variable {P : Program} {w : World} {A : Around} {E : Value → Shared → Prop} {s : Shared} {a : Addr} {L : List Str}
end
def SetO' (w : World) (a : Addr) (L : List Str) : HO := .ext fun h => SetT w h a L
section
variable {X : Cx}
end
def insS (x : Str) : List Str → List Str
  | [] => [x]
  | y :: r => if y.cps.toList < x.cps.toList then y :: insS x r else x :: y :: r
def sortT : List Str → List Str
  | [] => []
  | x :: r => insS x (sortT r)
def LeS (x y : Str) : Prop := ¬ y.cps.toList < x.cps.toList
theorem LeS.trans {x y z : Str} (a : LeS x y) (b : LeS y z) : LeS x z := List.not_lt.mpr (List.le_trans (List.not_lt.mp a) (List.not_lt.mp b))
theorem LeS.anti {x y : Str} (a : LeS x y) (b : LeS y x) : x = y := by
  have e := List.le_antisymm (List.not_lt.mp a) (List.not_lt.mp b)
  cases x
  cases y
  simp only [Str.mk.injEq]
  exact Array.toList_inj.mp e
end TLX
set_option Elab.async false
set_option linter.all false
set_option maxRecDepth 100000
set_option maxHeartbeats 4000000
namespace TL
open PySem PySem.Spec PyProof.Rows L2 TLX
def sortSetD (own : Bool) (ds : List D) (S : List O) : Out D := match ds with
  | [d] => (match (lstOf S d).bind strsOf with
    | some xs => if xs.length + 1 < scanBound then mkL own ((sortT (onceT xs)).map D.str) S else .stuck
    | none => .stuck)
  | _ => .stuck
section
variable {z : Sg} {e : Expr} {p p2 pos pos2 : Pos} {ta : TAx}
theorem SetO'.keep {K : PySem.W.Frag} {g : G} {S : List O} {H : Hp} {q : Addr} {o : HO} (s : SR K g S H) (hq : H q = none) : SR K g S (upd H q o) ∧ Ext g H g (upd H q o) := ⟨s.same (same_new hq), Ext.same (same_new hq)⟩
end
end TL
set_option Elab.async false
set_option linter.all false
set_option maxRecDepth 100000
set_option maxHeartbeats 4000000
namespace TL
open PySem PySem.Spec PyProof.Rows L2
def tLk (td : TE) : TE := fun σ H Q => td σ H fun x H1 => ∃ d ws, x = .ref d ∧ ((∃ o, H1 d = some (.frz o (.dK ws)) ∧ Q x H1) ∨ (H1 d = some (.dK ws) ∧ ∀ od, Q x (upd H1 d (.frz od (.dK ws)))))
theorem pe_lk {X : Cx} {e : Expr} {td : TE} (he : PE X e td) : PE X e (tLk td) := by
  refine ⟨fun pins s σ H Q I h => ?_⟩
  refine thn (he.run pins s σ H _ I h) fun u s1 ⟨x, H1, I1, rx, d, ws, ex, q⟩ => ?_
  rcases q with ⟨o, _, q⟩ | ⟨hd, q⟩
  · exact ⟨_, H1, I1, rx, q⟩
  · obtain ⟨od, I2⟩ := I1.lock hd trivial
    exact ⟨_, _, I2, rx, q od⟩
section
variable {K : PySem.W.Frag} {g : G} {S : List O} {H : Hp} {a : Addr} {ws : List (Key × V)} {od : Obj}
theorem Wk.lk (h : H a = some (.dK ws)) : Wk g H g (upd H a (.frz od (.dK ws))) := by
  refine ⟨fun b o q n => ?_, fun _ _ _ n => n, fun _ _ h => h⟩
  by_cases e : b = a
  · subst e
    rw [h] at q
    cases q
    exact .inr ⟨ws, od, rfl, upd_same⟩
  · exact .inl (by rw [upd_ne e]; exact q)
theorem Ext.lk (h : H a = some (.dK ws)) (n : ¬ g.bad a) : Ext g H g (upd H a (.frz od (.dK ws))) := by
  refine ⟨fun b o q _ => ?_, fun b o q _ hb => ?_, fun _ _ _ n => n, fun _ h => h, [], by simp, fun _ h => by cases h⟩
  · by_cases e : b = a
    · subst e
      rw [h] at q
      cases q
      exact .inr ⟨ws, od, rfl, upd_same⟩
    · exact .inl (by rw [upd_ne e]; exact q)
  · rw [upd_ne (fun e => n (by rw [← e]; exact hb))]
    exact q
theorem SR.lk (s : SR K g S H) (h : H a = some (.dK ws)) (n : ¬ g.bad a) : SR K g S (upd H a (.frz od (.dK ws))) := by
  have w : Wk g H g (upd H a (.frz od (.dK ws))) := Wk.lk h
  refine ⟨s.len, s.nd, s.live, fun b hb => ?_, fun i b o h1 h2 => ?_⟩
  · obtain ⟨o, q⟩ := s.trk b hb
    exact ⟨o, by rw [upd_ne (fun e => n (by rw [← e]; exact hb))]; exact q⟩
  · have ne : b ≠ a := fun e => n (by rw [← e]; exact s.live b (List.mem_of_getElem? h1))
    have q := s.rep i b o h1 h2
    cases o with
    | lst ds =>
      obtain ⟨xs, e1, e2⟩ := q
      exact ⟨xs, by rw [upd_ne ne]; exact e1, e2.wk w ds xs⟩
    | dct kvs =>
      obtain ⟨xs, e1, e2⟩ := q
      exact ⟨xs, by rw [upd_ne ne]; exact e1, e2.wk w kvs xs⟩
    | ins C fs =>
      obtain ⟨dx, xs, e1, e2⟩ := q
      exact ⟨dx, xs, e1.kp (fun o _ q => by rw [upd_ne ne]; exact q) (fun o _ q eo nb => ⟨by rw [upd_ne (fun z => by rw [z, h] at q; cases q; cases eo)]; exact q, nb⟩), e2.wk w fs xs⟩
    | tbl q' =>
      obtain ⟨⟨ps, e1, e2, e3⟩, ea⟩ := q
      exact ⟨⟨ps, by rw [upd_ne ne]; exact e1, e2, fun pos cv y => let ⟨c, y1, y2, y3⟩ := e3 pos cv y; ⟨c, y1, by rw [upd_ne (fun z => by rw [z, h] at y2; unfold LamX.CodeO at y2; cases y2)]; exact y2, y3⟩⟩, ea⟩
    | fn x n =>
      obtain ⟨L, c, e0, e1, e2, e3⟩ := q
      exact ⟨L, c, e0, by rw [upd_ne ne]; exact e1, by rw [upd_ne (fun z => by rw [z, h] at e2; unfold LamX.CodeO at e2; cases e2)]; exact e2, e3⟩
end
def keyD : Key → D
  | .inl i => .int i
  | .inr x => .str x
theorem keyD_rv {K : PySem.W.Frag} {g : G} {H : Hp} : ∀ k : Key, RV K g H (keyD k) (kV k)
  | .inl i => by simp only [keyD, RV, kV]
  | .inr x => by simp only [keyD, RV, kV]
theorem RKs.at {K : PySem.W.Frag} {g : G} {H : Hp} : ∀ {kvs : List (Key × D)} {ws : List (Key × V)} {i : Nat} {k : Key} {v : V}, RKs K g H kvs ws → ws[i]? = some (k, v) → ∃ d, kvs[i]? = some (k, d) ∧ RV K g H d v
  | [], _, i, k, v, h, e => by
    simp only [RKs] at h
    subst h
    simp at e
  | (j, d) :: r, _, i, k, v, h, e => by
    simp only [RKs] at h
    obtain ⟨w, r', rfl, h1, h2⟩ := h
    cases i with
    | zero =>
      simp at e
      obtain ⟨rfl, rfl⟩ := e
      exact ⟨d, rfl, h1⟩
    | succ i =>
      have e' : r'[i]? = some (k, v) := by simpa using e
      obtain ⟨d', h3, h4⟩ := RKs.at (kvs := r) h2 e'
      exact ⟨d', by simpa using h3, h4⟩
def iDk (t : TEx) : TIx := fun ρ S => (t ρ S).bind fun d S1 => match d with
  | .dct kvs => .ok (kvs.map fun kv => keyD kv.1) S1
  | _ => .stuck
section
variable {z : Sg} {tg e : Expr} {t : TEx}
theorem itr_keys {K : PySem.W.Frag} {g : G} {H : Hp} {S : List O} {d : Addr} {o : Obj} {kvs : List (Key × D)} {ws : List (Key × V)} (s : SR K g S H) (h : H d = some (.frz o (.dK ws))) (n : ¬ g.bad d) (r : RKs K g H kvs ws) : ItR K g H (kvs.map fun kv => keyD kv.1) (Itk d o ws) := by
  refine ⟨_, _, by rw [List.length_map, ← r.length]; exact walk_keys, fun g' H' e => e.keep _ _ h fun m => n (s.live _ m), fun i H1 x H2 g1 S1 hi e s1 y => ?_⟩
  obtain ⟨rfl, k, v, h1, rfl⟩ := y
  obtain ⟨dd, h2, _⟩ := r.at h1
  exact ⟨fun _ _ q => q, keyD k, by rw [List.getElem?_map, h2]; rfl, keyD_rv k⟩
theorem di_keys (h : DE z e t) : DI z tg e (iDk t) := by
  obtain ⟨τ, h1, q1⟩ := h
  refine ⟨_, fun X f => pi_keys (pe_lk (h1 X f)), fun g S ρ σ H R s rs p => ?_⟩
  refine q1 g S ρ σ H _ s rs (p.bind fun d S1 g1 H1 v e1 s1 r1 p1 => ?_)
  split at p1
  · rename_i kvs
    simp only [RV] at r1
    obtain ⟨a, ws, rfl, h2, n, h3⟩ := r1
    rcases h2 with h2 | ⟨o, h2⟩
    · refine ⟨a, ws, rfl, .inr ⟨h2, fun od => ⟨a, od, rfl, .inl ⟨ws, upd_same, ?_⟩⟩⟩⟩
      have s2 := s1.lk (od := od) h2 n
      exact p1 g1 _ _ (Ext.lk h2 n) s2 (itr_keys s2 upd_same n (h3.wk (Wk.lk h2) _ _))
    · exact ⟨a, ws, rfl, .inl ⟨o, h2, a, o, rfl, .inl ⟨ws, h2, p1.here s1 (itr_keys s1 h2 n h3)⟩⟩⟩
  · exact p1.elim
def iDi (t : TEx) : TIx := fun ρ S => (t ρ S).bind fun d S1 => match d with
  | .dct kvs => .ok (kvs.map fun kv => D.tup [keyD kv.1, kv.2]) S1
  | _ => .stuck
end
end TL
set_option Elab.async false
set_option linter.all false
set_option maxRecDepth 100000
set_option maxHeartbeats 4000000
namespace TL
open PySem PySem.Spec PyProof.Rows L2
section
variable {z : Sg} {a b c : Expr} {ta tb tc : TEx} {pos : Pos}
theorem din_q {τ τ2 : TE} (q1 : RdE z τ ta) (q2 : RdE z τ2 tb) : RdE z (tDIn τ τ2) (eBin dinD ta tb) := by
  intro g S ρ σ H Q s rs p
  refine q1 g S ρ σ H _ s rs (p.bind fun y S1 g1 H1 v e1 s1 r1 p1 => q2 g1 S1 ρ σ H1 _ s1 (rs.mono s.live e1) (p1.bind fun x S2 g2 H2 u e2 s2 r2 p2 => ?_))
  unfold dinD at p2
  split at p2
  · rename_i kvs k h1 h2
    obtain ⟨l, ws, rfl, h3, h4⟩ := dct_at s2 h1 r2
    have hg := h4.get k
    refine ⟨l, valV ws k, rfl, .inl ⟨ws, k, h3, keyOf_rv h2 (r1.mono s1.live e2 _ _), rfl⟩, p2.here s2 ?_⟩
    have e : (valV ws k).isSome = hasK kvs k := by
      rw [← getK_has]
      cases q : getK kvs k with
      | none =>
        rw [q] at hg
        have hg : valV ws k = none := hg
        rw [hg]
        rfl
      | some d =>
        rw [q] at hg
        obtain ⟨w, h5, _⟩ := hg
        rw [h5]
        rfl
    rw [e]
    simp only [RV]
  · exact p2.elim
theorem de_din (ha : DE z a ta) (hb : DE z b tb) (hm : behindInMarks .In b = false := by rfl) : DE z (.Compare a [.In] [b] pos) (eBin dinD ta tb) := by
  obtain ⟨τ, h1, q1⟩ := ha
  obtain ⟨τ2, h2, q2⟩ := hb
  exact ⟨_, fun X fx => pe_cmp (pc_din (by have := fx.hu; omega) (h1 X fx) (h2 X fx)) hm, din_q q1 q2⟩
def dgt2D (x y v : D) (S : List O) : Out D := match dctOf S x, keyOf y with
  | some kvs, some k => .ok ((getK kvs k).getD v) S
  | _, _ => .stuck
def eGet2 (t u v : TEx) : TEx := fun ρ S => (t ρ S).bind fun x S1 => if (dctOf S1 x).isSome then (u ρ S1).bind fun y S2 => (v ρ S2).bind fun w S3 => dgt2D x y w S3 else .stuck
def setDk (x y v : D) (S : List O) : Option (List O) := match x, keyOf y with
  | .hnd n, some k => (match S[n]? with
    | some (.dct kvs) => if kvs.length < sizeLine then some (S.set n (.dct (putG kvs k v))) else none
    | _ => none)
  | _, _ => none
def sDput (t u v : TEx) : TSx := fun ρ S => (v ρ S).stm ρ fun w S1 => (t ρ S1).stm ρ fun x S2 => (u ρ S2).stm ρ fun y S3 => match setDk x y w S3 with
  | some S4 => .nx ρ S4
  | none => .stuck
end
end TL
set_option Elab.async false
set_option linter.all false
set_option maxRecDepth 100000
set_option maxHeartbeats 4000000
namespace TL
open PySem PySem.Spec PyProof.Rows L2
theorem execs_two (b : List Stmt) (env : Env) : ∀ a : List Stmt, execs (a ++ b) env = (execs a env >>= fun f => match f with
    | .next => execs b env
    | f => pure f)
  | [] => by
    show execs b env = (pure Flow.next >>= _)
    rw [pure_bind]
  | st :: a => by
    rw [List.cons_append, execs_cons, execs_cons, bind_assoc]
    congr 1
    funext f
    cases f with
    | next => exact execs_two b env a
    | _ => rw [pure_bind]
theorem pss_two {X : Cx} {a b : List Stmt} {t u : TS} (ha : PSs X a t) (hb : PSs X b u) : PSs X (a ++ b) (tSeq t u) := by
  refine ⟨fun pins s σ H D I h => ?_⟩
  rw [execs_two]
  refine wpAny_bind (thn (ha.run pins s σ H { D with nx := u D } I h) fun f s1 q => ?_)
  cases f with
  | next =>
    obtain ⟨σ', H', I1, q⟩ := q
    exact hb.run pins s1 σ' H' D I1 q
  | _ => exact wpAny_pure q
theorem dss_two (n : Nat) {z : Sg} {l : List Stmt} {t u : TSx} (h1 : DSs z (l.take n) t) (h2 : DSs z (l.drop n) u) : DSs z l (sSeq t u) := by
  obtain ⟨τ, h1, q1⟩ := h1
  obtain ⟨τ2, h2, q2⟩ := h2
  refine ⟨tSeq τ τ2, fun X fx => by
    have q := pss_two (h1 X fx) (h2 X fx)
    rw [List.take_append_drop] at q
    exact q, fun g S ρ σ H T s rs p => ?_⟩
  exact q1 g S ρ σ H _ s rs (PostS.seq p fun ρ' S' g1 H1 σ1 e s1 rs1 p1 => q2 g1 S' ρ' σ1 H1 _ s1 rs1 p1)
end TL
set_option Elab.async false
set_option linter.all false
set_option maxRecDepth 100000
set_option maxHeartbeats 4000000
namespace TL
open PySem PySem.Spec PyProof.Rows L2
def eLm (f : Nat → List D → D → List O → Out D) (t u : TEx) : TEx := fun ρ S => (t ρ S).bind fun x S1 => match x with
  | .hnd i => (match S1[i]? with
    | some (.lst _) => (u ρ S1).bind fun y S2 => (match S2[i]? with
      | some (.lst ds) => f i ds y S2
      | _ => .stuck)
    | _ => .stuck)
  | _ => .stuck
def appD (i : Nat) (ds : List D) (y : D) (S : List O) : Out D := if ds.length < sizeLine then .ok .non (S.set i (.lst (ds ++ [y]))) else .stuck
section
variable {z : Sg} {a b : Expr} {ta tb : TEx} {apos cpos : Pos} {name : Str} {id : String} {r : V → List V → Hp → VK → Prop} {f : Nat → List D → D → List O → Out D}
theorem de_lm (slot : Slot "list" name id) (hty : typeOf (.builtin id) = pure (.type "method_descriptor")) (hm : ∀ X, MtR X id r)
    (ok : ∀ g S H σ Q l i ds y w xs, SR z.K g S H → g.hs[i]? = some l → H l = some (.lst xs) → RVs z.K g H ds xs → RV z.K g H y w → Post z.K z.W (RV z.K) g H σ Q (f i ds y S) → r (.ref l) [w] H Q)
    (ha : DE z a ta) (hb : DE z b tb) (hbase : ∀ env, attributeBase a name env (eval a env) = eval a env := by intro _; rfl)
    (hfew : ∀ env, ((backTo cpos (starEach [b] env)).all (fun x => !x.1) && (backToKw cpos (keywordEach [] env)).all (fun x => x.1.isSome) && decide ([b].length + ([] : List Keyword).length + (if ([] : List Keyword).isEmpty then 0 else 1) < 30)) = true := by intro _; rfl)
    (hline : (apos.endLine == cpos.line) = true := by rfl) (hs : ∀ env, starEach [b] env = (false, eval b env) :: starEach [] env := by intro _; rfl) : DE z (.Call (.Attribute a name apos) [b] [] cpos) (eLm f ta tb) := by
  obtain ⟨τ, h1, q1⟩ := ha
  obtain ⟨τ2, h2, q2⟩ := hb
  refine ⟨_, fun X fx => fx.K ▸ pe_bm PySem.F.plainAttrs_list slot hty (hm X) (h1 X fx) (pa_cons (h2 X fx) pa_nil (hs _)) (hbase _) (hfew _) hline (hs _) rfl, fun g S ρ σ H Q s rs p => ?_⟩
  refine q1 g S ρ σ H _ s rs (p.bind fun x S1 g1 H1 v e1 s1 r1 p1 => ?_)
  split at p1
  · rename_i i
    split at p1
    · rename_i ds0 h0
      have r1' := r1
      simp only [RV] at r1
      obtain ⟨l, rfl, h3⟩ := r1
      obtain ⟨xs0, h4, _⟩ := s1.rep i l _ h3 h0
      refine ⟨.inl ⟨rfl, xs0, .inl (.inl h4)⟩, q2 g1 S1 ρ σ H1 _ s1 (rs.mono s.live e1) (p1.bind fun y S2 g2 H2 w e2 s2 r2 p2 => ?_)⟩
      split at p2
      · rename_i ds h5
        have r3 := r1'.mono s1.live e2 _ _
        simp only [RV] at r3
        obtain ⟨l', el, h6⟩ := r3
        cases el
        obtain ⟨xs, h7, h8⟩ := s2.rep i l _ h6 h5
        exact ok g2 S2 H2 σ Q l i ds y w xs s2 h6 h7 h8 r2 p2
      · exact p2.elim
    · exact p1.elim
  · exact p1.elim
theorem de_append (ha : DE z a ta) (hb : DE z b tb) (hbase : ∀ env, attributeBase a "append" env (eval a env) = eval a env := by intro _; rfl)
    (hfew : ∀ env, ((backTo cpos (starEach [b] env)).all (fun x => !x.1) && (backToKw cpos (keywordEach [] env)).all (fun x => x.1.isSome) && decide ([b].length + ([] : List Keyword).length + (if ([] : List Keyword).isEmpty then 0 else 1) < 30)) = true := by intro _; rfl)
    (hline : (apos.endLine == cpos.line) = true := by rfl) (hs : ∀ env, starEach [b] env = (false, eval b env) :: starEach [] env := by intro _; rfl) : DE z (.Call (.Attribute a "append" apos) [b] [] cpos) (eLm appD ta tb) :=
  de_lm PySem.F.slot_list_append PySem.F.type_list_append (fun X => mt_append) (fun g S H σ Q l i ds y w xs s h1 h2 h3 h4 p => by
    unfold appD at p
    split at p
    · rename_i hz
      refine ⟨l, xs, w, rfl, rfl, h2, by rw [h3.length]; exact hz, ?_⟩
      exact Post.write s h1 p (fun e => ⟨_, upd_same, (h3.snoc h4).mono s.live e _ _⟩) fun e => by simp only [RV]
    · exact p.elim) ha hb hbase hfew hline hs
end
end TL
set_option Elab.async false
set_option linter.all false
set_option maxRecDepth 100000
set_option maxHeartbeats 4000000
namespace TL
open PySem PySem.Spec PyProof.Rows L2
def pairsOf : List D → Option (List (Key × D))
  | [] => some []
  | d :: r => match d with
    | .tup [k, v] => (keyOf k).bind fun k => (pairsOf r).map fun r => (k, v) :: r
    | _ => none
def dictLD (own : Bool) (ds : List D) (S : List O) : Out D := match ds with
  | [d] => (match (lstOf S d).bind pairsOf with
    | some kvs => mkD own (mergeG [] kvs) S
    | none => .stuck)
  | _ => .stuck
section
variable {z : Sg} {e a b : Expr} {ta : TAx} {p pos : Pos} {t tb : TEx}
def insgD (x y : D) (S : List O) : Out D := match x, y with
  | .str a, .str b => (match a.cps.toList with
    | [c] => .ok (.bl (decide (c ∈ b.cps.toList))) S
    | _ => .stuck)
  | _, _ => .stuck
end
structure IsF (K : PySem.W.Frag) (ex own : List Str) : Prop where
  F : ExF K ex
  cl : ∀ C ∈ own, CL K C ∧ PySem.W.findIn K (.ref (He.ga K C)) "__class__" = some (some (.builtin "object.__class__")) ∧ PySem.W.mroIn K (He.ga K C) (.type "object") = some true
  ty : ∀ C ∈ own, ∀ n ∈ tyR, PySem.W.kitOne K (.ref (He.ga K C)) (.type n) = some false
  yt : ∀ C ∈ own, ∀ n ∈ tyL, PySem.W.kitOne K (.type n) (.ref (He.ga K C)) = some false
  oo : ∀ C ∈ own, ∀ B ∈ own, PySem.W.kitOne K (.ref (He.ga K C)) (.ref (He.ga K B)) = some (decide (C = B))
  oe : ∀ C ∈ own, ∀ B ∈ ex, PySem.W.kitOne K (.ref (He.ga K C)) (.ref (He.ga K B)) = some false
  eo : ∀ C ∈ ex, ∀ B ∈ own, PySem.W.kitOne K (.ref (He.ga K C)) (.ref (He.ga K B)) = some false
theorem all2_of {α β : Type} {l : List α} {m : List β} {f : α → β → Bool} (h : l.all (fun a => m.all fun b => f a b) = true) : ∀ a ∈ l, ∀ b ∈ m, f a b = true := fun a ha b hb => List.all_eq_true.mp (List.all_eq_true.mp h a ha) b hb
theorem isf_of {K : PySem.W.Frag} {ex own : List Str} (F : ExF K ex) (h : isfB ex own K = true) : IsF K ex own := by
  unfold isfB at h
  simp only [Bool.and_eq_true] at h
  obtain ⟨h1, h2, h3, h4, h5, h6⟩ := h
  refine ⟨F, fun C hC => ?_, fun C hC n hn => of_decide_eq_true (all2_of h2 C hC n hn), fun C hC n hn => of_decide_eq_true (all2_of h3 C hC n hn), fun C hC n hn => of_decide_eq_true (all2_of h4 C hC n hn), fun C hC n hn => of_decide_eq_true (all2_of h5 C hC n hn), fun C hC n hn => of_decide_eq_true (all2_of h6 C hC n hn)⟩
  have := List.all_eq_true.mp h1 C hC
  simp only [Bool.and_eq_true] at this
  exact ⟨He.cls_ok this.1, of_decide_eq_true this.2.1, of_decide_eq_true this.2.2⟩
def isiA (ex own : List Str) (ds : List D) (S : List O) : Out D := match ds with
  | [x, .ty n] => (match tyD S x with
    | some a => (match isTy a n with
      | some b => .ok (.bl b) S
      | none => .stuck)
    | none => (match x with
      | .exc C _ => if C ∈ ex then (match tyErr n with
        | some b => .ok (.bl b) S
        | none => .stuck) else .stuck
      | x => (match insOf S x with
        | some (C, _) => if C ∈ own ∧ n ∈ tyR then .ok (.bl false) S else .stuck
        | none => .stuck)))
  | [x, .cls B] => (match tyD S x with
    | some a => if a ∈ tyL ∧ (B ∈ own ∨ B ∈ ex) then .ok (.bl false) S else .stuck
    | none => (match x with
      | .exc C _ => if C ∈ ex then (if B ∈ ex then .ok (.bl (isErr C B)) S else if B ∈ own then .ok (.bl false) S else .stuck) else .stuck
      | x => (match insOf S x with
        | some (C, _) => if C ∈ own then (if B ∈ own then .ok (.bl (decide (C = B))) S else if B ∈ ex then .ok (.bl false) S else .stuck) else .stuck
        | none => .stuck)))
  | _ => .stuck
theorem call_isA {X : Cx} {ex : List Str} (F : ExF X.K ex) : CallR X (.builtin "isinstance") (fun xs H Q => rIsi X.K xs H Q ∨ rIsE2 X.K ex xs H Q) := call_isi.or (call_isE2 F)
theorem ok_isA {K : PySem.W.Frag} {W : WX} {ex own : List Str} (I : IsF K ex own) : OkL K W (fun xs H Q => rIsi K xs H Q ∨ rIsE2 K ex xs H Q) (isiA ex own) := by
  intro g S H σ Q xs vs s r p
  have ins1 : ∀ {x : D} {C : Str} {fs : List (Str × D)} {v : V}, insOf S x = some (C, fs) → C ∈ own → RV K g H x v → TyX K H v (.ref (He.ga K C)) := fun q hC rr => by
    obtain ⟨c1, c2, c3⟩ := I.cl _ hC
    obtain ⟨a, dx, ws, rfl, h1, _⟩ := ins_at s q rr c1.hd
    exact .base (.ins h1 c1 c2 I.F.spg I.F.tak c3)
  unfold isiA at p
  split at p
  · rename_i x n
    obtain ⟨v, u, rfl, r1, r2⟩ := rvs2 r
    simp only [RV] at r2
    subst r2
    split at p
    · rename_i a q
      split at p
      · rename_i b q2
        exact .inl ⟨v, _, _, _, b, rfl, .ty _, tyD_ok s r1 q, isTy_ok q2, p.here s (by simp only [RV])⟩
      · exact p.elim
    · split at p
      · rename_i C d e0
        split at p
        · rename_i hC
          split at p
          · rename_i b q
            simp only [RV] at r1
            obtain ⟨l, dd, w, rfl, h1, _, h2, _, _⟩ := r1
            exact .inr ⟨l, dd, _, C, _, _, _, rfl, hC, h1, h2, .ty _, I.F.kitT hC q, p.here s (by simp only [RV])⟩
          · exact p.elim
        · exact p.elim
      · split at p
        · rename_i C fs q
          split at p
          · rename_i hC
            exact .inl ⟨v, _, _, _, false, rfl, .ty _, ins1 q hC.1 r1, I.ty C hC.1 n hC.2, p.here s (by simp only [RV])⟩
          · exact p.elim
        · exact p.elim
  · rename_i x B
    obtain ⟨v, u, rfl, r1, r2⟩ := rvs2 r
    simp only [RV] at r2
    subst r2
    split at p
    · rename_i a q
      split at p
      · rename_i hc
        refine .inl ⟨v, _, _, _, false, rfl, .own _, tyD_ok s r1 q, ?_, p.here s (by simp only [RV])⟩
        rcases hc.2 with hB | hB
        · exact I.yt B hB a hc.1
        · exact kit_no hc.1 I.F hB
      · exact p.elim
    · split at p
      · rename_i C d e0
        split at p
        · rename_i hC
          simp only [RV] at r1
          obtain ⟨l, dd, w, rfl, h1, _, h2, _, _⟩ := r1
          split at p
          · rename_i hB
            exact .inr ⟨l, dd, _, C, _, _, _, rfl, hC, h1, h2, .own _, I.F.kit hC hB, p.here s (by simp only [RV])⟩
          · split at p
            · rename_i hB
              exact .inr ⟨l, dd, _, C, _, _, _, rfl, hC, h1, h2, .own _, I.eo C hC B hB, p.here s (by simp only [RV])⟩
            · exact p.elim
        · exact p.elim
      · split at p
        · rename_i C fs q
          split at p
          · rename_i hC
            split at p
            · rename_i hB
              exact .inl ⟨v, _, _, _, _, rfl, .own _, ins1 q hC r1, I.oo C hC B hB, p.here s (by simp only [RV])⟩
            · split at p
              · rename_i hB
                exact .inl ⟨v, _, _, _, _, rfl, .own _, ins1 q hC r1, I.oe C hC B hB, p.here s (by simp only [RV])⟩
              · exact p.elim
          · exact p.elim
        · exact p.elim
  · exact p.elim
theorem de_isA {z : Sg} {a b : Expr} {ta : TAx} {p pos : Pos} {ex own : List Str} (I : IsF z.K ex own) (hm : z.mg "isinstance" = none) (ha : DA z [a, b] ta) (hg : Gz z "isinstance" := by rfl) (hs : ∀ env, starEach [a, b] env = (false, eval a env) :: starEach [b] env := by intro _; rfl) (hp : ∀ env, (backTo pos (starEach [b] env)).any (·.1) = false := by intro _; rfl) :
    DE z (.Call (.Name "isinstance" p) [a, b] [] pos) (eArgs (isiA ex own) ta) :=
  de_callB (fun X f => f.K ▸ call_isA (f.K ▸ I.F)) (ok_isA I) (by decide +kernel) hm ha hg (by decide) (by decide) hs hp
end TL
set_option Elab.async false
set_option linter.all false
set_option maxRecDepth 100000
set_option maxHeartbeats 4000000
namespace TL
open PySem PySem.Spec PyProof.Rows L2
theorem DefX.funD {K : PySem.W.Frag} {d : DefX} (e : fnX K (d.ad K) = d.val) (c : d.ok K = true) : ∃ fd, FunD K d.name d.qual d.params d.body d.scope (d.dvs K) (d.kws K) (d.ad K) fd := by
  obtain ⟨kp, c2⟩ := He.ba c
  unfold fnX at e
  cases q : K.lookup (d.ad K) with
  | none =>
    rw [q] at c2
    cases c2
  | some o =>
    obtain ⟨oc, od, dt, osl⟩ := o
    rw [q] at c2 e
    cases dt with
    | func fd =>
      obtain ⟨n1, n2, n3, n4, n5, n6, n7, n8, n9, n10, n11, n12, n13, n14, n15⟩ := fd
      have e2 : (some (n1, n2, n3, n4, n5, n6, n7, n15) : He.FnW) = some (d.name, d.qual, d.params, .stmts d.body, d.scope, mainGlobals, [], builtinsNs) := e
      simp only [Option.some.injEq, Prod.mk.injEq] at e2
      obtain ⟨h1, h2, h3, h4, h5, h6, h7, h8⟩ := e2
      subst h1 h2 h3 h4 h5 h6 h7 h8
      have c3 : (PySem.W.codeIn K n13 d.qual && (He.dflB K n8 (d.dvs K) && He.kwdB K n9 (d.kws K))) = true := c2
      obtain ⟨k1, k2⟩ := He.ba c3
      obtain ⟨k3, k4⟩ := He.ba k2
      exact ⟨_, ⟨oc, od, n8, n9, n10, n11, n12, n13, n14, osl, rfl, q, k1, He.dflB_ok k3, He.kwdB_ok k4⟩, kp⟩
    | _ => cases c2
section
variable {fb : List Fb} {fn : List DefX} {i : IniV} {K : PySem.W.Frag}
theorem saysX_fact (c : obsX fb fn K = valX fn i) (j : Nat) {f : Fb} (h : fb[j]? = some f := by rfl) : f K = true := by
  have c1 := (Bool.and_eq_true_iff.mp (show ((fb.all fun f => f K) && fn.all fun d => d.ok K) = true from congrArg (fun z : AlT => z.1) c)).1
  exact List.all_eq_true.mp c1 f (List.mem_of_getElem? h)
theorem saysX_ini (c : obsX fb fn K = valX fn i) : iniObs K = i := congrArg (fun z : AlT => z.2.2) c
theorem saysX_def (c : obsX fb fn K = valX fn i) (j : Nat) {d : DefX} (h : fn[j]? = some d := by rfl) : ∃ fd, FunD K d.name d.qual d.params d.body d.scope (d.dvs K) (d.kws K) (d.ad K) fd := by
  have c2 := (Bool.and_eq_true_iff.mp (show ((fb.all fun f => f K) && fn.all fun d => d.ok K) = true from congrArg (fun z : AlT => z.1) c)).2
  have e : fn.map (fun d => fnX K (d.ad K)) = fn.map DefX.val := congrArg (fun z : AlT => z.2.1) c
  have e2 : (fn.map fun d => fnX K (d.ad K))[j]? = (fn.map DefX.val)[j]? := by rw [e]
  rw [List.getElem?_map, List.getElem?_map, h] at e2
  exact DefX.funD (Option.some.inj e2) (List.all_eq_true.mp c2 d (List.mem_of_getElem? h))
end
theorem propB_ok {C f : Str} {K : PySem.W.Frag} (h : propB C f K = true) : PropOf K (He.ga K C) f (adM C f K) (adR C f "property" K) := by
  unfold propB at h
  simp only [Bool.and_eq_true] at h
  obtain ⟨h1, h2, h3, h4⟩ := h
  refine ⟨of_decide_eq_true h1, of_decide_eq_true h2, of_decide_eq_true h3, ?_⟩
  unfold adR
  split at h4
  · rename_i g r q
    rw [q]
    exact ⟨r, rfl⟩
  · cases h4
theorem neB_ok {C : Str} {K : PySem.W.Frag} (h : neB C K = true) : NeB K C := by
  unfold neB at h
  simp only [Bool.and_eq_true] at h
  exact ⟨of_decide_eq_true h.1, of_decide_eq_true h.2⟩
theorem tup0B_ok {ad : PySem.W.Frag → Addr} {K : PySem.W.Frag} (h : tup0B ad K = true) (g : G) (H : Hp) : RV K g H (.tup []) (.ref (ad K)) := by
  unfold tup0B at h
  split at h
  · rename_i t d its n sl q
    simp only [Bool.and_eq_true] at h
    obtain ⟨h1, h2⟩ := h
    have h1 := of_decide_eq_true h1
    have h2 := of_decide_eq_true h2
    subst h1
    simp only [RV]
    have e : its.toList = [] := by
      have : its.toList.length = 0 := h2
      exact List.length_eq_zero_iff.mp this
    exact ⟨_, [], rfl, .inr ⟨_, its, n, q, rfl, rfl, by rw [h2]; exact Nat.zero_le _, by rw [e]; exact .nil⟩, by simp only [RVs]⟩
  · cases h
def cutF (F : TF) : TF := fun ds S => (F ds S).cut S.length
theorem cutF_len {F : TF} {n : Nat} (h : ∀ ds S, ds.length ≠ n → F ds S = .stuck) : ∀ ds S, ds.length ≠ n → cutF F ds S = .stuck := fun ds S hne => by
  unfold cutF
  rw [h ds S hne]
  rfl
section
variable {P : Program} {w : World} {K : PySem.W.Frag} {mg : Str → Option Value} {base : Heap} {C x m qual : Str} {params : Arguments} {body : List Stmt} {scope : Scope} {dvs : List V} {kws : List (Str × V)} {f : Addr} {fd : FuncData} {N ps : List Str} {k : Nat} {t : TSx} {F : TF}
theorem TDef.cut {n : Nat} (h : TDef P w K mg base k x n F) : TDef P w K mg base k x n (cutF F) := by
  obtain ⟨f, fd, ps, h1, h2⟩ := h.ex
  exact ⟨⟨f, fd, ps, h1.cut, h2⟩, cutF_len h.len⟩
theorem TMet.cut {n : Nat} (h : TMet P w K mg base k C m n F) : TMet P w K mg base k C m n (cutF F) := by
  obtain ⟨f, fd, ps, h1, h2⟩ := h.ex
  exact ⟨⟨f, fd, ps, h1.cut, h2⟩, h.cl, cutF_len h.len⟩
theorem TProp.cut (h : TProp P w K mg base k C m F) : TProp P w K mg base k C m (cutF F) := by
  obtain ⟨p, g, fd, y, h1, h2⟩ := h.ex
  exact ⟨⟨p, g, fd, y, h1.cut, h2⟩, h.cl⟩
theorem tmet_of (Fd : FunD K x qual params body scope [] [] (adM C m K) fd) (hM : (He.Fa.meth C m).ok K = true) (cl : CL K C) (S : FnScope N ps scope) (hb : Binds K fd ps []) (h : ∀ E, DSs (Sg.of P w K mg base N scope k E qual (cdAt K (adM C m K))) body t) : TMet P w K mg base (k + 1) C m ps.length (bodyF ps.length N t) :=
  ⟨⟨_, fd, ps, tfn_of Fd S h, He.meth_ok hM, hb, rfl⟩, (.inl cl), fun ds S hne => if_neg hne⟩
theorem tprop_of {y : Str} (Fd : FunD K x qual params body scope [] [] (adR C m "property" K) fd) (hM : propB C m K = true) (cl : CL K C) (S : FnScope N [y] scope) (hb : Binds K fd [y] []) (h : ∀ E, DSs (Sg.of P w K mg base N scope k E qual (cdAt K (adR C m "property" K))) body t) : TProp P w K mg base (k + 1) C m (bodyF 1 N t) :=
  ⟨⟨_, _, fd, y, tfn_of Fd S h, propB_ok hM, hb⟩, cl⟩
theorem tmk_of {dfl : List D} {j : Nat} (Fd : FunD K x qual params body scope dvs kws (adM C "__init__" K) fd) (hM : (He.Fa.mkr C).ok K = true) (gl : mg C = some (.ref (He.ga K C))) (S : FnScope N ps scope) (hb : ∃ ds, Vals (dvs.drop j) ds ∧ Binds K fd ps ds) (hr : ∀ g H, RVs K g H dfl (dvs.drop j)) (h : ∀ E, DSs (Sg.of P w K mg base N scope k E qual (cdAt K (adM C "__init__" K))) body t) : TMk P w K mg base (k + 1) C ps.length dfl (bodyF ps.length N t) := by
  obtain ⟨ds, h1, h2⟩ := hb
  exact ⟨⟨_, fd, ps, ds, _, tfn_of Fd S h, He.mkr_ok hM, h2, h1, hr, rfl⟩, gl, fun ds S hne => if_neg hne⟩
end
end TL
set_option Elab.async false
set_option linter.all false
set_option maxRecDepth 100000
set_option maxHeartbeats 4000000
namespace TL
open PySem PySem.Spec PyProof.Rows L2
def compD (vs : List Nat) (tg : TGx) (tt : TTx) (tk tv : TEx) : List D → List (Key × D) → Env1 → List O → Out (List (Key × D))
  | [], acc, _, S => .ok acc S
  | d :: ds, acc, ρ, S => (tg d (wipeD ρ vs) S).nox.bind fun ρ1 S1 => (tt ρ1 S1).nox.bind fun k S2 => if k = true then (tk ρ1 S2).nox.bind fun y S3 => (tv ρ1 S3).nox.bind fun u S4 => (match keyOf y with
    | some q => compD vs tg tt tk tv ds (putG acc q u) ρ S4
    | none => .stuck) else compD vs tg tt tk tv ds acc ρ S2
def eDc (own : Bool) (vs : List Nat) (ti : TIx) (tg : TGx) (tt : TTx) (tk tv : TEx) : TEx := fun ρ S => (ti ρ S).bind fun ds S1 => if ds.length ≤ sizeLine then (compD vs tg tt tk tv ds [] ρ S1).bind (mkD own) else .stuck
theorem putG_len (kvs : List (Key × D)) (k : Key) (v : D) : (putG kvs k v).length ≤ kvs.length + 1 := by
  unfold putG
  split <;> simp
theorem dc_it {J : It} {n : Nat} {Gd : Hp → Prop} {Y : Nat → Hp → V → Hp → Prop} (w : Walk J n Gd Y) {g : TG} {tt : TT} {tk tv : TE} {vs : List Nat} {σ : L2.St} {H1 : Hp} {Dp : Addr} {Qd : Hp → Prop} (Pv : Nat → Hp → Prop) (h0 : Pv 0 (upd H1 Dp (.dK []))) (hG : ∀ i H, i ≤ n → Pv i H → Gd H)
    (hs : ∀ i x H H', i < n → Pv i H → Y i H x H' → g x (L2.wipe σ vs) H' fun σ2 H2 => L2.wipe σ2 vs = L2.wipe σ vs ∧ tt σ2 H2 fun b H3 =>
      if b = true then tk σ2 H3 fun y H4 => tv σ2 H4 fun z H5 => ∃ kvs k, y = kV k ∧ H5 Dp = some (.dK kvs) ∧ kvs.length < sizeLine ∧ Pv (i + 1) (upd H5 Dp (.dK (putK kvs k z))) else Pv (i + 1) H3) (hd : ∀ H, Pv n H → Qd H) :
    ∃ W : Nat → Nat → Hp → Prop, (∃ m, W 0 m (upd H1 Dp (.dK []))) ∧ ∀ i m H, W i m H →
      (J.stop i H ∧ Qd H) ∨ (J.go i H ∧ ∃ Nx : Hp → Prop, (∀ H', Nx H' → ∃ m', m' < m ∧ W (i + 1) m' H') ∧ ∀ x H', J.yld i H x H' → g x (L2.wipe σ vs) H' fun σ2 H2 => L2.wipe σ2 vs = L2.wipe σ vs ∧ tt σ2 H2 fun b H3 =>
        if b = true then tk σ2 H3 fun y H4 => tv σ2 H4 fun z H5 => ∃ kvs k, y = kV k ∧ H5 Dp = some (.dK kvs) ∧ kvs.length < sizeLine ∧ Nx (upd H5 Dp (.dK (putK kvs k z))) else Nx H3) := by
  refine ⟨fun i m H => m = n - i ∧ i ≤ n ∧ Pv i H, ⟨n, by simp, Nat.zero_le _, h0⟩, ?_⟩
  rintro i m H ⟨rfl, hi, p⟩
  have q := hG i H hi p
  by_cases hlt : i < n
  · refine .inr ⟨w.goes i H hlt q, Pv (i + 1), fun H' p' => ⟨n - (i + 1), by omega, rfl, hlt, p'⟩, fun x H' y => hs i x H H' hlt p (w.yields i H x H' hlt q y)⟩
  · have e : i = n := by omega
    subst e
    exact .inl ⟨w.stops H q, hd H p⟩
section
variable {z : Sg} {pos : Pos}
theorem de_dc (own : Bool) (ow : List (Str × Nat)) {kx vx tg iter : Expr} {ifs : List Expr} {scope : Scope} {ws : List Nat} {ti : TIx} {t : TGx} {tt : TTx} {tk tv : TEx} (hi : DI z tg iter ti) (hg : DG (z.blk scope) tg ws t) (ht : DTs (z.blk scope) ifs tt) (hk : DE (z.blk scope) kx tk) (he : DE (z.blk scope) vx tv)
    (ok : blkC z.N z.scope scope ow = true := by decide +kernel) (hw : ∀ j ∈ ws, j ∈ ow.map (·.2) := by decide) (hs : ∀ env x, foldedSetIterable iter env x = pure x := by intro _ _; rfl) :
    DE z (.DictComp kx vx [⟨tg, iter, ifs, 0⟩] scope pos) (eDc own (ow.map (·.2)) ti t tt tk tv) := by
  obtain ⟨wi, h1, q1⟩ := hi
  obtain ⟨τg, h2, q2⟩ := hg
  obtain ⟨τt, h3, q3⟩ := ht
  obtain ⟨τk, h5, q5⟩ := hk
  obtain ⟨τe, h4, q4⟩ := he
  refine ⟨tDc wi τg τt τk τe (ow.map (·.2)), fun X f => pe_dc f.calm f.ndX (h1 X f) (by rw [f.N, f.scope]; exact blkOk_by ok) (fun s H C cl fp => h2 _ (f.blk scope s H C cl fp)) (fun s H C cl fp => h3 _ (f.blk scope s H C cl fp)) (fun s H C cl fp => h5 _ (f.blk scope s H C cl fp)) (fun s H C cl fp => h4 _ (f.blk scope s H C cl fp)) (hs _), fun g S ρ σ H Q s rs p => ?_⟩
  refine q1 g S ρ σ H _ s rs (p.bind fun ds S1 g1 H1 J e1 s1 r1 p1 => ?_)
  split at p1
  · rename_i hlen
    obtain ⟨Gd, Y, w, hG, hY⟩ := r1
    intro Dp hn
    have hd : Dp ∉ g1.hs := fun h => s1.unbad hn (s1.live _ h)
    have rs1 := rs.mono s.live e1
    have l0 : NwAt z.K g1 H1 Dp (g1.on Dp) (upd H1 Dp (.dK [])) S1 := NwAt.start s1 hn
    have bnd : ∀ {i : Nat} {acc : List (Key × D)}, acc.length ≤ i → i < ds.length → acc.length < sizeLine := fun h1 h2 => by omega
    refine dc_it w (fun i H' => ∃ g' S' acc us, NwAt z.K g1 H1 Dp g' H' S' ∧ H' Dp = some (.dK us) ∧ RKs z.K g' H' acc us ∧ RS z.K g' H' ρ σ ∧ acc.length ≤ i ∧ Post z.K z.W (RV z.K) g1 H1 σ Q ((compD (ow.map (·.2)) t tt tk tv (ds.drop i) acc ρ S').bind (mkD own)))
      ⟨_, S1, [], [], l0, upd_same, by simp only [RKs], rs1.mono s1.live (Ext.on hn), Nat.le_refl _, p1⟩ (fun i H' _ h => ?_) (fun i x H' H2 hi h y => ?_) fun H' h => ?_
    · obtain ⟨g', S', acc, us, l, _⟩ := h
      exact hG g' H' l.ext
    · obtain ⟨g', S', acc, us, l, hDp, rk, rs', hacc, p'⟩ := h
      obtain ⟨hk, d, hdx, rd⟩ := hY i H' x H2 g' S' hi l.ext l.s y
      have e2 : Ext g' H' g' H2 := Ext.same hk
      obtain ⟨l2, hD2⟩ := l.later s1 hd e2 (l.s.same hk)
      rw [hDp] at hD2
      have rk2 := rk.mono l.s.live e2
      have rs2 := rs'.mono l.s.live e2
      have eq : ds.drop i = d :: ds.drop (i + 1) := by
        obtain ⟨hl, hv⟩ := List.getElem?_eq_some_iff.mp hdx
        rw [List.drop_eq_getElem_cons hl, hv]
      rw [eq] at p'
      unfold compD at p'
      rw [Out.bind_assoc] at p'
      refine q2 g' S' _ _ H2 d x _ l2.s (rs2.wipe _) rd (PostG.nox p' fun ρ3 S3 g3 H3 σ3 e3 s3 r3 off p3 => ?_)
      refine ⟨wipe_off off hw, ?_⟩
      obtain ⟨l3, hD3⟩ := l2.later s1 hd e3 s3
      rw [hD2] at hD3
      have rk3 := rk2.mono l2.s.live e3
      have rs3 := rs2.mono l2.s.live e3
      rw [Out.bind_assoc] at p3
      refine q3 g3 S3 ρ3 σ3 H3 _ s3 r3 (Post.bindN p3 fun k S4 g4 H4 k' e4 s4 r4 p4 => ?_)
      have r4 : k = k' := r4
      subst r4
      obtain ⟨l4, hD4⟩ := l3.later s1 hd e4 s4
      rw [hD3] at hD4
      have rk4 := rk3.mono l3.s.live e4
      have rs4 := rs3.mono l3.s.live e4
      show if k = true then _ else _
      split
      · rename_i hkt
        rw [if_pos hkt, Out.bind_assoc] at p4
        have r34 := r3.mono s3.live e4
        refine q5 g4 S4 ρ3 σ3 H4 _ s4 r34 (Post.bindN p4 fun yv S5 g5 H5 v e5 s5 r5 p5 => ?_)
        obtain ⟨l5, hD5⟩ := l4.later s1 hd e5 s5
        rw [hD4] at hD5
        have rk5 := rk4.mono l4.s.live e5
        have rs5 := rs4.mono l4.s.live e5
        rw [Out.bind_assoc] at p5
        refine q4 g5 S5 ρ3 σ3 H5 _ s5 (r34.mono s4.live e5) (Post.bindN p5 fun uv S6 g6 H6 u e6 s6 r6 p6 => ?_)
        obtain ⟨l6, hD6⟩ := l5.later s1 hd e6 s6
        rw [hD5] at hD6
        have rk6 := rk5.mono l5.s.live e6
        have rs6 := rs5.mono l5.s.live e6
        split at p6
        · rename_i q hq
          have rk7 := rk6.putG q r6
          have wk := l6.wk (u := .dK (putK us q u))
          have hlen := putG_len acc q uv
          exact ⟨us, q, keyOf_rv hq r5, hD6, by rw [rk6.length]; exact bnd hacc hi, g6, S6, putG acc q uv, putK us q u, l6.wr hn hd, upd_same, rk7.wk wk _ _, rs6.wk wk _ _, by omega, p6⟩
        · exact p6.elim
      · rename_i hkf
        rw [if_neg hkf] at p4
        exact ⟨g4, S4, acc, us, l4, hD4, rk4, rs4, by omega, p4⟩
    · obtain ⟨g', S', acc, us, l, hDp, rk, _, _, p'⟩ := h
      rw [List.drop_length] at p'
      have p' : Post z.K z.W (RV z.K) g1 H1 σ Q (mkD own acc S') := p'
      unfold mkD at p'
      split at p'
      · exact l.finH (ob := .dct acc) hn hd ⟨_, hDp, rk⟩ p'
      · refine l.finV s1 hn hd ?_ p'
        simp only [RV]
        exact ⟨Dp, _, rfl, .inl hDp, fun h => h.2 rfl, RKs.anti (g := g') (g0 := g'.off Dp) (fun b h => h.1) (fun _ _ h => h) _ _ rk⟩
  · exact p1.elim
end
end TL
set_option Elab.async false
set_option linter.all false
set_option maxRecDepth 100000
set_option maxHeartbeats 4000000
namespace TL
open PySem PySem.Spec PyProof.Rows L2
section
variable {X : Cx} {C D f : Addr} {x : Str} {e : Expr} {te : TE} {p pos : Pos} {k : Nat}
def tMkX (C : Addr) (te : TE) : L2.St → Hp → XK → Prop := fun σ H Q => te σ H fun v H1 => ∀ dd, H1 dd = none → Q (.ref C) (some dd) (upd H1 dd (.xd [("value", v)]))
theorem pmk_mkE (Fn : TLI.IFn X.K X.prog D f) (T : TLI.ICls X.K D f C) (hR : Raises X (.ref C)) (hsu : X.mg "super" = none) (hr : L2H.RoomH (k + 1) X.A) (gC : X.mg x = some (.ref C)) (hg : Gl X x) (he : PE X e te)
    (hs : starEach [e] X.env = (false, eval e X.env) :: starEach [] X.env := by rfl) (hdb : (x == ("__debug__" : Str)) = false := by decide) : L2H.PMk5 X (.Call (.Name x p) [e] [] pos) (tMkX C te) := by
  intro pins s σ H Q I h
  obtain ⟨nm, q, N, bs, bm, sn, sub, ab, col, dd, k0, k1, k2, k3, k5, hC, hbm⟩ := T.oex.cls
  refine wpAny_Call_Name_kw (ld_glob I hg gC ?_ hdb)
  refine PySem.W.callWith_K (h₀ := X.base) I.ok.mod.kin T.oex.kC ?_ hs (by rfl)
  rw [hs]
  show wpAny _ _ (spliced ((false, eval e X.env) :: backTo pos (starEach [] X.env))) _ _ s
  refine Calls.spliced_cons (thn (he.run pins s σ H _ I h) fun u s1 ⟨v, H1, I1, r1, q1⟩ => ?_)
  refine Calls.spliced_nil ⟨I1.kIn, ?_⟩
  show wpAny _ _ (call (.ref C) [u]) _ _ _
  obtain ⟨hp, g, dr, tk, os⟩ := s1
  have kk : ∀ b o, hp.get? b = some o → ((hp.push (PySem.W.kdv_tup [u])).push (PySem.HandSPX.excO C hp.objs.size)).get? b = some o := fun b o e => Heap.get?_push_of_some _ (Heap.get?_push_of_some _ e)
  have hget : ((hp.push (PySem.W.kdv_tup [u])).push (PySem.HandSPX.excO C hp.objs.size)).get? (hp.objs.size + 1) = some (PySem.HandSPX.excO C hp.objs.size) := by heap_get
  have hne : hp.get? (hp.objs.size + 1) = none := by
    cases z : hp.get? (hp.objs.size + 1) with
    | none => rfl
    | some o => exact absurd (Heap.lt_size z) (Nat.not_lt.mpr (Nat.le_succ _))
  refine wpAny_call (PySem.HandSPX.call_own F.excBase_ValueError (fun Y => PySem.HandSPX.refsVE_contains Y bm hbm) (I1.kIn _ _ hC) (PySem.W.looks_findIn I1.kIn T.ini) (fun self => PySem.W.bind_fn I1.kIn self Fn.ty) (by show 1 ≤ sizeLine; decide) ?_)
  refine TLI.init_run (C := C) (e := hp.objs.size + 1) (t0 := hp.objs.size) (b0 := X.base) Fn T I1.ok.mod.kin I1.ok.mod.glob hsu I1.ok.mod.blt I1.ok.mod.nolimit (hr.make C [u] []).depth (fun b o z => ⟨kk _ _ (I1.bk _ _ z), fun y => ?_⟩) hget
    (fun h' t1 tk' dx k5 nd dne hx hn => ?_)
  · have := I1.bk _ _ z
    rw [y, hne] at this
    cases this
  · have k6 : ∀ b o, hp.get? b = some o → h'.get? b = some o := fun b o z => k5 b o (fun y => by rw [y, hne] at z; cases z) (kk _ _ z)
    have nd' : hp.get? dx = none := by
      cases z : hp.get? dx with
      | none => rfl
      | some o =>
        rw [kk _ _ z] at nd
        cases nd
    have ha : H1 (hp.objs.size + 1) = none := I1.hok.gone hne
    have hd : H1 dx = none := I1.hok.gone nd'
    obtain ⟨Gh, g1, g2⟩ := restrict h' fun b => decide (b ≠ hp.objs.size + 1)
    have gk : ∀ b o, b ≠ hp.objs.size + 1 → h'.get? b = some o → Gh.get? b = some o := fun b o hb z => by
      rw [g1 b (decide_eq_true hb)]
      exact z
    have gn : Gh.get? (hp.objs.size + 1) = none := g2 _ (decide_eq_false fun z => z rfl)
    have gs : ∀ b o, Gh.get? b = some o → h'.get? b = some o := fun b o z => by
      by_cases hb : b = hp.objs.size + 1
      · rw [hb, gn] at z
        cases z
      · rw [← g1 b (decide_eq_true hb)]
        exact z
    have hnG : ∀ m, h'.Ns1 dx m → Gh.Ns1 dx m := fun m ⟨o, es, ep, e', r⟩ => ⟨o, es, ep, gk _ _ dne e', r⟩
    have k7 : ∀ b o, hp.get? b = some o → Gh.get? b = some o := fun b o z => gk b o (fun y => by rw [y, hne] at z; cases z) (k6 b o z)
    have J := I1.laidN (h' := Gh) (o := .xd [("value", v)]) (t' := tk') k7 nd' hd ⟨_, hnG _ hn, relO_put (fs := []) r1 fun g => True.intro⟩
    refine ⟨rfl, ⟨hp.objs.size + 1, _, _, _, _, .ref C, some dx, rfl, J, gs, gn, hx, ⟨rfl, rfl, fun vs e => by cases e; rfl⟩, rfl, rfl, ?_, rfl, I1.bare, hR, q1 dx hd⟩, fun a oe vs ea hg2 hd2 => ?_⟩
    · rw [upd_ne (Ne.symm dne)]
      exact ha
    · cases ea
      have hg3 : h'.get? (hp.objs.size + 1) = some oe := hg2
      rw [hx] at hg3
      cases hg3
      cases hd2
      show (4 : Nat) < 6
      decide
end
def sRaise (C : Str) (t : TEx) : TSx := fun ρ S => (t ρ S).stm ρ fun d S1 => .exc C d ρ S1
theorem ExF.raises {X : Cx} {ex : List Str} {C : Str} (F : ExF X.K ex) (hC : C ∈ ex) : Raises X (.ref (He.ga X.K C)) := by
  refine raises_own ?_ (F.one C hC).ty
  rw [F.sub hC]
  congr 1
  split <;> rfl
theorem ds_raise {z : Sg} {ex : List Str} {x : Str} {e : Expr} {t : TEx} {p pos pos' : Pos} (F : ExF z.K ex) (hC : x ∈ ex) (Fn : TLI.IFn z.K z.P (He.ga z.K dErr) (He.ma z.K (He.ga z.K dErr) "__init__")) (hsu : z.mg "super" = none) (gC : z.mg x = some (.ref (He.ga z.K x))) (hl : 1 ≤ z.lv) (he : DE z e t) (hg : Gz z x := by rfl)
    (hs : ∀ env, starEach [e] env = (false, eval e env) :: starEach [] env := by intro _; rfl) (hdb : (x == ("__debug__" : Str)) = false := by decide) : DS z (.Raise (some (.Call (.Name x p) [e] [] pos)) none pos') (sRaise x t) := by
  obtain ⟨τ, h1, q1⟩ := he
  refine ⟨fun _ σ H => tMkX (He.ga z.K x) τ σ H fun cls d H' => z.W cls d σ H', fun X fx => ?_, fun g S ρ σ H T s rs p => ?_⟩
  · exact L2N.ps_raise fx.calm fx.takes.n (L2H.PMk5.pmk (pmk_mkE (k := 0) (fx.prog ▸ fx.K ▸ Fn) (fx.K ▸ (F.one x hC).ic) (fx.K ▸ (fx.K ▸ F : ExF X.K ex).raises hC) (fx.mgl hsu) (L2H.roomH_of (fx.room.mono (by omega))) (fx.mgl gC) (fx.gl hg) (h1 X fx) (hs _) hdb))
  · refine q1 g S ρ σ H _ s rs (p.stm s rs fun v S1 g1 H1 w e1 s1 rs1 r1 p1 dd hd => ?_)
    have k1 : ∀ b u, H1 b = some u → upd H1 dd (.xd [("value", w)]) b = some u := same_new hd
    refine p1 g1 _ σ _ (some dd) (Ext.same k1) (s1.same k1) (rs1.mono s1.live (Ext.same k1)) ⟨rfl, dd, w, rfl, upd_same, s1.unbad hd, r1.mono s1.live (Ext.same k1) _ _⟩
end TL
set_option Elab.async false
set_option linter.all false
set_option maxRecDepth 100000
set_option maxHeartbeats 4000000
namespace TL
open PySem PySem.Spec PyProof.Rows L2
section
variable {X : Cx} {pins : List (Addr × Obj)} {σ : L2.St} {H : Hp} {s : Shared}
theorem inv_track {a : Addr} {o : HO} (I : Inv X pins σ H s) (n0 : X.s_0.heap.get? a = none) (hn : H a = none) (hL : X.env.locals ≠ a) (hC : ∀ x c, X.env.cells.lookup x = some c → c ≠ a) (hP : ∀ q ∈ X.pn ++ pins, q.1 ≠ a)
    (new : ObjOk X.prog X.w (upd H a o) s.heap a o) : Inv X pins σ (upd H a o) s where
  ok := I.ok
  os := I.os
  bare := I.bare
  base :=
    { keep := I.base.keep
      slot := I.base.slot
      there := I.base.there
      free := fun b u e n hx => by
        rw [upd_ne (fun z => by rw [z, n0] at e; cases e)]
        exact I.base.free b u e n hx
      tups := fun b xs e => by
        have q := I.base.tups b xs e
        rw [upd_ne (ne_of_none q hn)]
        exact q
      frzs := fun b u y e => by
        have q := I.base.frzs b u y e
        rw [upd_ne (ne_of_none q hn)]
        exact q
      tbls := fun b ps e => by
        obtain ⟨m, q⟩ := I.base.tbls b ps e
        exact ⟨m, by rw [upd_ne (ne_of_none q hn)]; exact q⟩ }
  loc := I.loc
  cell := I.cell
  free := by
    rw [upd_ne hL]
    exact I.free
  freeC := fun x c e => by
    rw [upd_ne (hC x c e)]
    exact I.freeC x c e
  pin := fun q hq => by
    obtain ⟨e, n, z⟩ := I.pin q hq
    exact ⟨e, by rw [upd_ne (hP q hq)]; exact n, z⟩
  hok := HOk.laidN I.hok (fun _ _ z => z) hn new
  len := I.len
def wKeep (K : PySem.W.Frag) (c : Value) (i j : Nat) (Wout : WX) (D : Ends) : WX := fun cls d σ H =>
  ∃ b, PySem.W.exmOne K cls c = some b ∧ (b = true → ∀ a, H a = none → D.nx (((σ.set i (some (.ref a))).set j (some (.ref a))).set i none) (upd H a (ExO cls d a))) ∧ (b = false → Wout cls d σ H)
theorem ps_try_kp {x n m : Str} {c : Value} {i j : Nat} {body : List Stmt} {np mp np2 ap pos pos' : Pos} {tb : WX → TS} {Wout : WX} (hs : X.stack = X.env :: X.outer) (hf : X.env.frame = some X.env.locals) (hN : X.N.Nodup) (hi : X.N[i]? = some n) (hj : X.N[j]? = some m)
    (hln : X.env.kindOf n = some .local) (hlm : X.env.kindOf m = some .local) (hex : X.ex = []) (hc : Names X x c) (tk : L2.Takes X Wout) (hd1 : (n == ("__debug__" : Str)) = false) (hd2 : (n == ("__classdict__" : Str)) = false)
    (hb : ∀ (W : WX) (pn : List (Addr × Obj)) (xe : Value → Shared → Prop), L2.Takes (X.tr pn xe) W → PassesOwn (model X.prog X.w) X.A X.env xe → PSs (X.tr pn xe) body (tb W)) :
    PS X (.Try body [.ExceptHandler (some (.Name x np)) (some n) [.Assign [.Name m mp] (.Name n np2) ap] pos'] [] [] pos) (fun D σ H => tb (wKeep X.K c i j Wout D) D σ H) := by
  refine ⟨fun pins s σ H D I h => ?_⟩
  have ok := I.ok
  have hfr : X.A.frames = some (X.env :: X.outer) := by rw [ok.frames, hs]
  refine wpAny_Try_except ?_
  refine wpAny_mono ((hb (wKeep X.K c i j Wout D) (X.pn ++ pins) (fun e s₁ => wpAny (model X.prog X.w) X.A (noteFrame e X.env) (fun _ s₂ => wpAny (model X.prog X.w) X.A (setFlight e none) (fun _ s₃ =>
    wpAny (model X.prog X.w) X.A (handleBy e X.env [.ExceptHandler (some (.Name x np)) (some n) [.Assign [.Name m mp] (.Name n np2) ap] pos']) (SP X pins D) X.xe s₃) X.xe s₂) X.xe s₁) (fun u s' xx => ?_) PassesOwn.looking).run [] s σ H D (I.toTry _) h) (fun f s1 hsp => ?_) (fun e s1 he => he)
  · obtain ⟨a, B, sI, pins', σ', H', cls, d, rfl, J', nb, up, sky, na, os, ag, b, hb1, hyes, hno⟩ := xx
    have J : Inv X pins σ' H' sI := J'.ofTry ok
    have sky' : Sky B (X.env :: X.outer) a (Zc cls d) X.env.locals s'.heap := by rw [← hs]; exact sky
    show wpAny (model X.prog X.w) X.A (noteFrame (.ref a) X.env) _ _ _
    refine Sky.land Zc.steady hfr hf sky' fun h3 fl3 up3 => ?_
    have J3 : Inv X pins σ' H' { s' with heap := h3 } := J.landed nb fl3.1 (up.trans up3) os ag
    obtain ⟨oe3, vs3, he3, hz3, hd3⟩ := fl3.there
    have off : ∀ {h : Heap} {o : Obj} {vs : Array Value}, h.FunFrames B (X.env :: X.outer) → h.get? a = some o → o.data = .fields vs → a ∉ frs (X.env :: X.outer) := fun {h o vs} ff e dd hm => by
      obtain ⟨_, o', e', hnf⟩ := ff.mem hm
      rw [e] at e'
      cases e'
      exact hnf _ dd
    have nfr := off fl3.2.2.1 he3 hd3
    have nL : a ≠ X.env.locals := fun z => nfr (List.mem_filterMap.mpr ⟨X.env, List.mem_cons_self, by rw [hf, z]⟩)
    have nF : a ∉ X.fs := fun hm => by
      obtain ⟨e, he, q⟩ := List.mem_filterMap.mp hm
      exact nfr (List.mem_filterMap.mpr ⟨e, List.mem_cons_of_mem _ he, q⟩)
    have nI : sI.heap.get? a = none := by
      cases z : sI.heap.get? a with
      | none => rfl
      | some o =>
        have y := nb a o z (by rw [hs]; exact nfr)
        rw [fl3.2.1] at y
        cases y
    have n0 : X.s_0.heap.get? a = none := by
      cases z : X.s_0.heap.get? a with
      | none => rfl
      | some o =>
        obtain ⟨o', y⟩ := J.base.there a o z (by rw [hex]; exact fun q => nomatch q)
        rw [nI] at y
        cases y
    have nC : ∀ y c, X.env.cells.lookup y = some c → c ≠ a := fun y c e z => by
      obtain ⟨v, o, ho, _⟩ := J.cell y c e
      rw [z, nI] at ho
      cases ho
    have nP : ∀ q ∈ X.pn ++ pins, q.1 ≠ a := fun q hq z => by
      have y := (J.pin q hq).1
      rw [z, nI] at y
      cases y
    have S3 := J3.suite he3 hd3 na nL nF
    refine wpAny_handleBy_cons (codeAny_handlers_test ?_) (by intro q; cases q)
    have LT : PySem.W.Looks (model X.prog X.w) h3 (typeOf (.ref a)) cls := fun A Q E s k q => wpAny_typeOf_ref (k _ _ he3) (by rw [hz3.1]; exact q)
    have LM := PySem.W.exm_one (M := model X.prog X.w) (J3.kIn) LT hb1
    have test : ∀ {Q : Value → Shared → Prop} {E : Value → Shared → Prop}, Q c { s' with heap := h3 } → wpAny (model X.prog X.w) (X.A.mark (some (.ref a))) (eval (.Name x np) X.env) Q E { s' with heap := h3 } := fun {Q E} q => by
      obtain ⟨hg, hdbg, hm | ⟨hm, hv, hnn⟩⟩ := hc
      · exact ld_glob (X := X.suite a ((a, oe3) :: (X.pn ++ pins))) S3 hg hm q hdbg
      · exact ld_blt (X := X.suite a ((a, oe3) :: (X.pn ++ pins))) S3 hg hm hv q hnn hdbg
    refine test (LM.here ?_)
    cases b with
    | true =>
      refine codeAny_handlers_suite_as ?_
      refine HandSPX.lands_againZ fl3 fun h4 fl4 up4 => ?_
      have J4 : Inv X pins σ' H' { s' with heap := h4 } := J.landed nb fl4.1 ((up.trans up3).trans up4) os ag
      obtain ⟨oe4, vs4, he4, hz4, hd4⟩ := fl4.there
      have S4 := J4.suite he4 hd4 na nL nF
      refine store_ok (X := X.suite a ((a, oe4) :: (X.pn ++ pins))) (v := .ref a) S4 hN hi (.inl hln) rfl (fun s5 S5 => ?_) (.inr hln)
      have li : i < σ'.length := by
        rw [J.len]
        exact (List.getElem?_eq_some_iff.mp hi).1
      have sv : (σ'.set i (some (V.ref a)))[i]? = some (some (V.ref a)) := List.getElem?_set_self li
      have su : PSs (X.suite a ((a, oe4) :: (X.pn ++ pins))) [.Assign [.Name m mp] (.Name n np2) ap] (tAsg (tVar i) (gName j)) :=
        pss_one (ps_set (X := X.suite a ((a, oe4) :: (X.pn ++ pins))) hN hj (.inl hlm) (pe_var (X := X.suite a ((a, oe4) :: (X.pn ++ pins))) hi (.inl hln) hd1 hd2) rfl (.inr hlm))
      refine wpAny_mono (su.run [] s5 _ H' { nx := fun σ6 H6 => σ6 = (σ'.set i (some (V.ref a))).set j (some (V.ref a)) ∧ H6 = H', rt := fun _ _ => False, bk := fun _ _ => False, ct := fun _ _ => False } S5 ⟨V.ref a, sv, rfl, rfl⟩) (fun f s6 hsp => ?_) (fun _ _ z => False.elim z)
      cases f with
      | next =>
        obtain ⟨σ6, H6, S6, e6, eH⟩ := hsp
        subst e6 eH
        have K6 : Inv X ((a, oe4) :: pins) _ H6 s6 := ⟨ok, S6.os, S6.bare, S6.base, S6.loc, S6.cell, S6.free, S6.freeC, fun q hq => by
          refine S6.pin q (List.mem_append_left _ ?_)
          rcases List.mem_append.mp hq with z | z
          · exact List.mem_cons_of_mem _ (List.mem_append_left _ z)
          · rcases List.mem_cons.mp z with z | z
            · rw [z]
              exact List.mem_cons_self
            · exact List.mem_cons_of_mem _ (List.mem_append_right _ z), S6.hok, S6.len⟩
        refine gone_ok K6 hN hi hln fun s7 J7 => ?_
        have ea : s7.heap.get? a = some oe4 := (J7.pin (a, oe4) (List.mem_append_right _ List.mem_cons_self)).1
        have J8 : Inv X pins _ H6 s7 := ⟨ok, J7.os, J7.bare, J7.base, J7.loc, J7.cell, J7.free, J7.freeC, fun q hq => J7.pin q (by
          rcases List.mem_append.mp hq with z | z
          · exact List.mem_append_left _ z
          · exact List.mem_append_right _ (List.mem_cons_of_mem _ z)), J7.hok, J7.len⟩
        refine ⟨_, _, inv_track (o := ExO cls d a) J8 n0 na nL.symm nC nP ?_, hyes rfl a na⟩
        exact ⟨⟨oe4, vs4, ea, hz4, hd4⟩, ⟨oe4, ea⟩, fun h1 h2 ⟨oe, vs, e1, e2⟩ kp => ⟨oe, vs, kp _ e1, e2⟩⟩
      | brk =>
        obtain ⟨σ6, H6, S6, q6⟩ := hsp
        exact q6.elim
      | cont =>
        obtain ⟨σ6, H6, S6, q6⟩ := hsp
        exact q6.elim
      | ret u =>
        obtain ⟨v6, σ6, H6, S6, r6, q6⟩ := hsp
        exact q6.elim
    | false =>
      show wpAny _ X.A (handleBy (.ref a) X.env []) _ _ _
      refine wpAny_handleBy_nil ?_
      obtain ⟨k1, k2, k3, oe, vs, T, oT, ts', he, hz, hd, h1, hr⟩ := id fl3
      unfold PySem.passOn
      refine wpAny_bind (wpAny_field he hd h1 ?_)
      rw [if_neg (show ¬ ((Value.ref T == Value.none) = true) from by simp)]
      have fin : wpAny (model X.prog X.w) X.A (setFlight (.ref a) X.env.frame) (fun _ s4 => wpAny (model X.prog X.w) X.A (throw (.ref a) : Sem Flow) (SP X pins D) X.xe s4) X.xe { s' with heap := h3 } := by
        rw [hf]
        refine HandSPX.setFlight_upZ fl3 fun h4 hh4 up4 => wpAny_throw (tk _ _ ?_)
        exact ⟨a, B, sI, pins, σ', H', cls, d, rfl, J, nb, (up.trans up3).trans up4, .inr (.inr (by rw [hs]; exact hh4)), na, os, ag, hno rfl⟩
      first
        | exact wpAny_bind (wpAny_pure (wpAny_bind fin))
        | exact wpAny_bind fin
  · cases f with
    | next =>
      obtain ⟨σ', H', J', q⟩ := hsp
      exact wpAny_execs_nil ⟨σ', H', J'.ofTry ok, q⟩
    | brk =>
      obtain ⟨σ', H', J', q⟩ := hsp
      exact ⟨σ', H', J'.ofTry ok, q⟩
    | cont =>
      obtain ⟨σ', H', J', q⟩ := hsp
      exact ⟨σ', H', J'.ofTry ok, q⟩
    | ret u =>
      obtain ⟨v, σ', H', J', r, q⟩ := hsp
      exact ⟨v, σ', H', J'.ofTry ok, r, q⟩
end
end TL
set_option Elab.async false
set_option linter.all false
set_option maxRecDepth 100000
set_option maxHeartbeats 4000000
namespace TL
open PySem PySem.Spec PyProof.Rows L2
section
variable {z : Sg} {e tg a b : Expr} {t t1 t2 ta tb : TEx} {i i1 i2 : TIx} {pos : Pos}
theorem DE.or (h1 : DE z e t1) (h2 : DE z e t2) (h : ∀ ρ S, t ρ S = t1 ρ S ∨ t ρ S = t2 ρ S) : DE z e t := by
  obtain ⟨τ1, p1, q1⟩ := h1
  obtain ⟨τ2, p2, q2⟩ := h2
  refine ⟨fun σ H Q => τ1 σ H Q ∨ τ2 σ H Q, fun X fx => ⟨fun pins s σ H Q I y => y.elim ((p1 X fx).run pins s σ H Q I) ((p2 X fx).run pins s σ H Q I)⟩, fun g S ρ σ H Q s rs p => ?_⟩
  rcases h ρ S with e | e <;> rw [e] at p
  · exact .inl (q1 g S ρ σ H Q s rs p)
  · exact .inr (q2 g S ρ σ H Q s rs p)
theorem DI.or (h1 : DI z tg e i1) (h2 : DI z tg e i2) (h : ∀ ρ S, i ρ S = i1 ρ S ∨ i ρ S = i2 ρ S) : DI z tg e i := by
  obtain ⟨τ1, p1, q1⟩ := h1
  obtain ⟨τ2, p2, q2⟩ := h2
  refine ⟨fun σ H Q => τ1 σ H Q ∨ τ2 σ H Q, fun X fx => ⟨fun pins s σ H Q I y => y.elim ((p1 X fx).run pins s σ H Q I) ((p2 X fx).run pins s σ H Q I)⟩, fun g S ρ σ H Q s rs p => ?_⟩
  rcases h ρ S with e | e <;> rw [e] at p
  · exact .inl (q1 g S ρ σ H Q s rs p)
  · exact .inr (q2 g S ρ σ H Q s rs p)
theorem eBin_or {f f1 f2 : D → D → List O → Out D} (h : ∀ x y S, f x y S = f1 x y S ∨ f x y S = f2 x y S) (a b : TEx) : ∀ (ρ : Env1) (S : List O), eBin f a b ρ S = eBin f1 a b ρ S ∨ eBin f a b ρ S = eBin f2 a b ρ S := by
  intro ρ S
  unfold eBin
  cases a ρ S with
  | ok x S1 =>
    simp only [Out.bind]
    cases b ρ S1 with
    | ok y S2 => exact h x y S2
    | exc C d S2 => exact .inl rfl
    | stuck => exact .inl rfl
  | exc C d S1 => exact .inl rfl
  | stuck => exact .inl rfl
def ixU (x y : D) (S : List O) : Out D := if (dctOf S x).isSome then dgetD x y S else ixD x y S
theorem de_ixU (ha : DE z a ta) (hb : DE z b tb) (hs : NoSl b := by intro _ _; rfl) (hs2 : PlainIx b := by intro _ _; rfl) : DE z (.Subscript a b pos) (eBin ixU ta tb) :=
  DE.or (de_dget ha hb hs) (de_ix ha hb hs2) (eBin_or (fun x y S => by
    unfold ixU
    split
    · exact .inl rfl
    · exact .inr rfl) _ _)
def addU (own : Bool) (x y : D) (S : List O) : Out D := if (lstOf S x).isSome then catD own x y S else addD x y S
theorem de_addU (own : Bool) (ha : DE z a ta) (hb : DE z b tb) : DE z (.BinOp a .Add b pos) (eBin (addU own) ta tb) :=
  DE.or (de_cat own ha hb) (de_add ha hb) (eBin_or (fun x y S => by
    unfold addU
    split
    · exact .inl rfl
    · exact .inr rfl) _ _)
def iA1 (t : TEx) : TIx := fun ρ S => (t ρ S).bind fun d S1 => match d with
  | .lst ds => .ok ds S1
  | .scr ns => .ok (ns.map D.int) S1
  | .tup ds => .ok ds S1
  | _ => .stuck
def iA2 (t : TEx) : TIx := fun ρ S => (t ρ S).bind fun d S1 => match d with
  | .str x => .ok (signs x) S1
  | .dct kvs => .ok (kvs.map fun kv => keyD kv.1) S1
  | _ => .stuck
def iAny (t : TEx) : TIx := fun ρ S => (t ρ S).bind fun d S1 => match d with
  | .lst ds => .ok ds S1
  | .scr ns => .ok (ns.map D.int) S1
  | .tup ds => .ok ds S1
  | .str x => .ok (signs x) S1
  | .dct kvs => .ok (kvs.map fun kv => keyD kv.1) S1
  | _ => .stuck
theorem bind_or {α β : Type} {o : Out α} {k k1 k2 : α → List O → Out β} (h : ∀ d S, k d S = k1 d S ∨ k d S = k2 d S) : o.bind k = o.bind k1 ∨ o.bind k = o.bind k2 := by
  cases o with
  | ok x S1 => exact h x S1
  | exc C d S1 => exact .inl rfl
  | stuck => exact .inl rfl
theorem di_any (h : DE z e t) : DI z tg e (iAny t) := by
  have h1 : DI z tg e (iA1 t) := DI.or (di_lst h) (di_tup h) fun ρ S => bind_or fun d S => by cases d <;> first | exact .inl rfl | exact .inr rfl
  have h2 : DI z tg e (iA2 t) := DI.or (di_str h) (di_keys h) fun ρ S => bind_or fun d S => by cases d <;> first | exact .inl rfl | exact .inr rfl
  exact DI.or h1 h2 fun ρ S => bind_or fun d S => by cases d <;> first | exact .inl rfl | exact .inr rfl
end
section
variable {z : Sg}
theorem opsNe : OpS z (compareOp .NotEq) neD := OpS.ofR op_neA ok_ne
theorem op_leX (X : Cx) (_ : Fits z X) : OpR X (compareOp .LtE) (rI0 fun i j => .bl (decide (i ≤ j))) := op_le
theorem op_ltX (X : Cx) (_ : Fits z X) : OpR X (compareOp .Lt) (fun x y H Q => rI0 (fun i j => .bl (decide (i < j))) x y H Q ∨ ∃ i j, x = .str i ∧ y = .str j ∧ Q (.bl (decide (i.cps.toList < j.cps.toList))) H) := op_lt.or op_lt_str
end
end TL
set_option Elab.async false
set_option linter.all false
set_option maxRecDepth 100000
set_option maxHeartbeats 4000000
namespace TL
open PySem PySem.Spec PyProof.Rows L2
mutual
def noh : D → Bool
  | .hnd _ => false
  | .any => false
  | .tup ds => nohs ds
  | .tpl ds => nohs ds
  | .lst ds => nohs ds
  | .dct kvs => nohk kvs
  | .ins _ fs => nohf fs
  | .exc _ d => noh d
  | _ => true
def nohs : List D → Bool
  | [] => true
  | d :: ds => noh d && nohs ds
def nohk : List (Key × D) → Bool
  | [] => true
  | (_, d) :: ds => noh d && nohk ds
def nohf : List (Str × D) → Bool
  | [] => true
  | (_, d) :: ds => noh d && nohf ds
end
def nohO : O → Bool
  | .lst ds => nohs ds
  | .dct kvs => nohk kvs
  | .ins _ fs => nohf fs
  | .tbl _ => true
  | .fn _ _ => true
mutual
theorem sub_noh (f : Nat → D) : ∀ d : D, noh d = true → D.sub f d = d
  | .hnd _, h => by simp only [noh] at h; cases h
  | .any, h => by simp only [noh] at h; cases h
  | .tup ds, h => by simp only [noh] at h; simp only [D.sub, subs_noh f ds h]
  | .tpl ds, h => by simp only [noh] at h; simp only [D.sub, subs_noh f ds h]
  | .lst ds, h => by simp only [noh] at h; simp only [D.sub, subs_noh f ds h]
  | .dct kvs, h => by simp only [noh] at h; simp only [D.sub, subk_noh f kvs h]
  | .ins _ fs, h => by simp only [noh] at h; simp only [D.sub, subf_noh f fs h]
  | .exc _ d, h => by simp only [noh] at h; simp only [D.sub, sub_noh f d h]
  | .non, _ => by simp only [D.sub]
  | .bl _, _ => by simp only [D.sub]
  | .int _, _ => by simp only [D.sub]
  | .str _, _ => by simp only [D.sub]
  | .ty _, _ => by simp only [D.sub]
  | .scr _, _ => by simp only [D.sub]
  | .cls _, _ => by simp only [D.sub]
theorem subs_noh (f : Nat → D) : ∀ ds : List D, nohs ds = true → D.subs f ds = ds
  | [], _ => by simp only [D.subs]
  | d :: ds, h => by
    simp only [nohs, Bool.and_eq_true] at h
    simp only [D.subs, sub_noh f d h.1, subs_noh f ds h.2]
theorem subk_noh (f : Nat → D) : ∀ ds : List (Key × D), nohk ds = true → D.subk f ds = ds
  | [], _ => by simp only [D.subk]
  | (k, d) :: ds, h => by
    simp only [nohk, Bool.and_eq_true] at h
    simp only [D.subk, sub_noh f d h.1, subk_noh f ds h.2]
theorem subf_noh (f : Nat → D) : ∀ ds : List (Str × D), nohf ds = true → D.subf f ds = ds
  | [], _ => by simp only [D.subf]
  | (k, d) :: ds, h => by
    simp only [nohf, Bool.and_eq_true] at h
    simp only [D.subf, sub_noh f d h.1, subf_noh f ds h.2]
end
theorem ofz_noh (f : Nat → D) : ∀ o : O, nohO o = true → ofz f o = o
  | .lst ds, h => by simp only [nohO] at h; simp only [ofz, subs_noh f ds h]
  | .dct ds, h => by simp only [nohO] at h; simp only [ofz, subk_noh f ds h]
  | .ins _ fs, h => by simp only [nohO] at h; simp only [ofz, subf_noh f fs h]
  | .tbl _, _ => rfl
  | .fn _ _, _ => rfl
theorem nohs_all : ∀ ds : List D, nohs ds = ds.all noh
  | [] => rfl
  | d :: ds => by simp only [nohs, List.all_cons, nohs_all ds]
def hdO (n : Nat) : O → Bool
  | .ins _ [(_, .hnd i)] => decide (i < n)
  | _ => false
theorem hdO_le {n m : Nat} (h : n ≤ m) {o : O} (ho : hdO n o = true) : hdO m o = true := by
  unfold hdO at ho ⊢
  split at ho
  · exact decide_eq_true (by have := of_decide_eq_true ho; omega)
  · cases ho
def Flat (S : List O) : Prop := ∀ o ∈ S, nohO o = true ∨ hdO S.length o = true
theorem Flat.of {S : List O} (h : ∀ o ∈ S, nohO o = true) : Flat S := fun o ho => .inl (h o ho)
theorem Flat.nil : Flat [] := fun _ h => by cases h
theorem Flat.snoc {S : List O} {o : O} (h : Flat S) (ho : nohO o = true) : Flat (S ++ [o]) := fun x hx => by
  rcases List.mem_append.mp hx with q | q
  · exact (h x q).imp id (hdO_le (by rw [List.length_append]; exact Nat.le_add_right _ _))
  · rw [List.mem_singleton.mp q]
    exact .inl ho
theorem Flat.set {S : List O} {o : O} {i : Nat} (h : Flat S) (ho : nohO o = true) : Flat (S.set i o) := fun x hx => by
  rcases List.mem_or_eq_of_mem_set hx with q | q
  · exact (h x q).imp id (hdO_le (by rw [List.length_set]; exact Nat.le_refl _))
  · rw [q]
    exact .inl ho
theorem ofz_hd {n k : Nat} {S : List O} {o : O} (h : hdO n o = true) : ofz (hfz n S k) o = o := by
  unfold hdO at h
  split at h
  · rename_i C f i
    have hi := of_decide_eq_true h
    have e : hfz n S k i = .hnd i := by
      cases k with
      | zero => exact if_pos hi
      | succ k => unfold hfz; exact if_pos hi
    simp only [ofz, D.subf, D.sub, e]
  · cases h
theorem sfz_flat {S N : List O} (h : Flat S) : sfz S.length (S ++ N) = S := by
  unfold sfz
  split
  · rename_i hl
    have : N = [] := by
      rw [List.length_append] at hl
      exact List.length_eq_zero_iff.mp (by omega)
    rw [this, List.append_nil]
  · have : (S ++ N).take S.length = S := by simp
    rw [this]
    have e : ∀ l : List O, (∀ o ∈ l, nohO o = true ∨ hdO S.length o = true) → l.map (ofz (hfz S.length (S ++ N) fzd)) = l := fun l hl => by
      induction l with
      | nil => rfl
      | cons o r ih =>
        rw [List.map_cons, ih fun o ho => hl o (List.mem_cons_of_mem _ ho)]
        rcases hl o List.mem_cons_self with q | q
        · rw [ofz_noh _ o q]
        · rw [ofz_hd q]
    exact e S h
theorem dfz_noh {n : Nat} {S : List O} {d : D} (h : noh d = true) : dfz n S d = d := by
  unfold dfz
  split
  · rfl
  · exact sub_noh _ d h
theorem cut_ok {S N : List O} {d : D} (h : Flat S) (hd : noh d = true) : (Out.ok d (S ++ N)).cut S.length = .ok d S := by
  show Out.ok _ _ = _
  rw [dfz_noh hd, sfz_flat h]
def frz : O → D
  | .lst ds => .lst ds
  | .dct kvs => .dct kvs
  | .ins C fs => .ins C fs
  | .tbl _ => .any
  | .fn _ _ => .any
theorem hfz_new {S N : List O} {i k : Nat} {o : O} (hi : S.length ≤ i) (h : (S ++ N)[i]? = some o) (ho : nohO o = true) : hfz S.length (S ++ N) (k + 1) i = frz o := by
  unfold hfz
  rw [if_neg (by omega), h]
  cases o with
  | lst ds => simp only [nohO] at ho; simp only [subs_noh _ ds ho, frz]
  | dct ds => simp only [nohO] at ho; simp only [subk_noh _ ds ho, frz]
  | ins C fs => simp only [nohO] at ho; simp only [subf_noh _ fs ho, frz]
  | tbl q => rfl
  | fn x n => rfl
theorem cut_new {S N : List O} {i : Nat} {o : O} (h : Flat S) (hi : S.length ≤ i) (hs : (S ++ N)[i]? = some o) (ho : nohO o = true) : (Out.ok (.hnd i) (S ++ N)).cut S.length = .ok (frz o) S := by
  have hl : i < (S ++ N).length := (List.getElem?_eq_some_iff.mp hs).1
  show Out.ok (dfz _ _ _) _ = _
  rw [sfz_flat h]
  unfold dfz
  rw [if_neg (by omega)]
  simp only [D.sub]
  rw [hfz_new hi hs ho]
theorem cut_last {S : List O} {o : O} (h : Flat S) (ho : nohO o = true) : (Out.ok (.hnd S.length) (S ++ [o])).cut S.length = .ok (frz o) S := cut_new h (Nat.le_refl _) (by simp) ho
theorem cut_ok' {n : Nat} {S N : List O} {d : D} (hn : S.length = n) (h : Flat S) (hd : noh d = true) : (Out.ok d (S ++ N)).cut n = .ok d S := by
  subst hn
  exact cut_ok h hd
def rg1 (ds : List D) (S1 : List O) : Out (List D) := match ds with
  | [.int j] => if -(2 ^ 62) ≤ j ∧ j < 2 ^ 62 then .ok (rng 0 j) S1 else .stuck
  | _ => .stuck
def rg2 (ds : List D) (S1 : List O) : Out (List D) := match ds with
  | [.int i, .int j] => if -(2 ^ 62) ≤ i ∧ i < 2 ^ 62 ∧ -(2 ^ 62) ≤ j ∧ j < 2 ^ 62 then .ok (rng i j) S1 else .stuck
  | _ => .stuck
theorem rg1_ok {j : Int} {S : List O} (h0 : 0 ≤ j) (h : j < 2 ^ 62) : rg1 [.int j] S = .ok (rng 0 j) S := by
  show (if _ then _ else _) = _
  rw [if_pos ⟨by omega, h⟩]
@[simp] theorem iRg1_ap (x : TAx) (ρ : Env1) (S : List O) : iRg1 x ρ S = (x ρ S).bind rg1 := rfl
@[simp] theorem iRg2_ap (x : TAx) (ρ : Env1) (S : List O) : iRg2 x ρ S = (x ρ S).bind rg2 := rfl
def itAny (d : D) (S1 : List O) : Out (List D) := match d with
  | .lst ds => .ok ds S1
  | .scr ns => .ok (ns.map D.int) S1
  | .tup ds => .ok ds S1
  | .str x => .ok (TL.signs x) S1
  | .dct kvs => .ok (kvs.map fun kv => keyD kv.1) S1
  | _ => .stuck
def itTp (d : D) (S1 : List O) : Out (List D) := match d with
  | .tup ds => .ok ds S1
  | _ => .stuck
def itLst (d : D) (S1 : List O) : Out (List D) := match d with
  | .lst ds => .ok ds S1
  | .scr ns => .ok (ns.map D.int) S1
  | _ => .stuck
def itDk (d : D) (S1 : List O) : Out (List D) := match d with
  | .dct kvs => .ok (kvs.map fun kv => keyD kv.1) S1
  | _ => .stuck
def itDi (d : D) (S1 : List O) : Out (List D) := match d with
  | .dct kvs => .ok (kvs.map fun kv => D.tup [keyD kv.1, kv.2]) S1
  | _ => .stuck
def itStx (d : D) (S1 : List O) : Out (List D) := match d with
  | .str x => .ok (TL.signs x) S1
  | _ => .stuck
section
variable (a b c : TEx) (t : TSx) (ρ : Env1) (S : List O) (d : D) (ds : List D)
@[simp] theorem eCut_ap : eCut a ρ S = (a ρ S).cut S.length := rfl
@[simp] theorem sCut_ap : sCut t ρ S = (t ρ S).cut S.length := rfl
@[simp] theorem sExpr_ap : sExpr a ρ S = (a ρ S).stm ρ fun _ S1 => .nx ρ S1 := rfl
@[simp] theorem sRaise_ap (C : Str) : sRaise C a ρ S = (a ρ S).stm ρ fun q S1 => .exc C q ρ S1 := rfl
@[simp] theorem sPar_ap (i j : Nat) (u : TAx) : sPar i j u ρ S = (u ρ S).stm ρ fun ds S1 => match ds with
  | [x, y] => .nx ((ρ.set i (some x)).set j (some y)) S1
  | _ => .stuck := rfl
@[simp] theorem sPar3_ap (i j l : Nat) (u : TAx) : sPar3 i j l u ρ S = (u ρ S).stm ρ fun ds S1 => match ds with
  | [x, y, w] => .nx (((ρ.set i (some x)).set j (some y)).set l (some w)) S1
  | _ => .stuck := rfl
@[simp] theorem sFldD_ap (Cs : List Str) (f : Str) : sFldD Cs f a b ρ S = (a ρ S).stm ρ fun v S1 => (b ρ S1).stm ρ fun x S2 => match setF Cs f x v S2 with
  | some S3 => .nx ρ S3
  | none => .stuck := rfl
@[simp] theorem sDput_ap : sDput a b c ρ S = (c ρ S).stm ρ fun w S1 => (a ρ S1).stm ρ fun x S2 => (b ρ S2).stm ρ fun y S3 => match setDk x y w S3 with
  | some S4 => .nx ρ S4
  | none => .stuck := rfl
@[simp] theorem eGet2_ap : eGet2 a b c ρ S = (a ρ S).bind fun x S1 => if (dctOf S1 x).isSome then (b ρ S1).bind fun y S2 => (c ρ S2).bind fun w S3 => dgt2D x y w S3 else .stuck := rfl
@[simp] theorem eMeth_ap (C m : Str) (F : TF) (u : TAx) : eMeth C m F a u ρ S = (a ρ S).bind fun x S1 => recv C m x S1 ((u ρ S1).bind fun xs S2 => F (x :: xs) S2) := rfl
@[simp] theorem eCallO_ap (C : Str) (F : TF) (u : TAx) : eCallO C F a u ρ S = (a ρ S).bind fun x S1 => if isOwn C S1 x then (u ρ S1).bind fun xs S2 => if isOwn C S2 x then F (x :: xs) S2 else .stuck else .stuck := rfl
@[simp] theorem eDc_ap (own : Bool) (vs : List Nat) (ti : TIx) (tg : TGx) (tt : TTx) (tk tv : TEx) : eDc own vs ti tg tt tk tv ρ S = (ti ρ S).bind fun ds S1 => if ds.length ≤ sizeLine then (compD vs tg tt tk tv ds [] ρ S1).bind (mkD own) else .stuck := rfl
@[simp] theorem eChain_ap (f f' : D → D → List O → Out D) : eChain f f' a b c ρ S = (a ρ S).bind fun x S1 => (b ρ S1).bind fun y S2 => (f x y S2).test.bind fun k S3 => if k = true then (c ρ S3).bind fun z S4 => f' y z S4 else .ok (.bl false) S3 := rfl
@[simp] theorem eBinS_ap (f : D → D → List O → Out D) : eBinS f a b ρ S = (a ρ S).bind fun x S1 => strGd x ((b ρ S1).bind fun y S2 => f x y S2) := rfl
@[simp] theorem eSl_ap (own : Bool) (u w : TOx) : eSl own a u w ρ S = (a ρ S).bind fun x S1 => (u ρ S1).bind fun lo S2 => (w ρ S2).bind fun hi S3 => slD own x lo hi S3 := rfl
@[simp] theorem oSome_ap : oSome a ρ S = (a ρ S).bind fun d S1 => match d with
  | .int i => .ok (some i) S1
  | _ => .stuck := rfl
@[simp] theorem iAny_ap : iAny a ρ S = (a ρ S).bind itAny := rfl
@[simp] theorem iTp_ap : iTp a ρ S = (a ρ S).bind itTp := rfl
@[simp] theorem iLst_ap : iLst a ρ S = (a ρ S).bind itLst := rfl
@[simp] theorem iDk_ap : iDk a ρ S = (a ρ S).bind itDk := rfl
@[simp] theorem iDi_ap : iDi a ρ S = (a ρ S).bind itDi := rfl
@[simp] theorem iStx_ap : iStx a ρ S = (a ρ S).bind itStx := rfl
@[simp] theorem itTp_tup : itTp (.tup ds) S = .ok ds S := rfl
@[simp] theorem itLst_lst : itLst (.lst ds) S = .ok ds S := rfl
@[simp] theorem itLst_scr (ns : List Int) : itLst (.scr ns) S = .ok (ns.map D.int) S := rfl
@[simp] theorem itAny_tup : itAny (.tup ds) S = .ok ds S := rfl
@[simp] theorem itAny_lst : itAny (.lst ds) S = .ok ds S := rfl
@[simp] theorem itAny_str (x : Str) : itAny (.str x) S = .ok (TL.signs x) S := rfl
@[simp] theorem itAny_dct (k : List (Key × D)) : itAny (.dct k) S = .ok (k.map fun kv => keyD kv.1) S := rfl
@[simp] theorem itDk_dct (k : List (Key × D)) : itDk (.dct k) S = .ok (k.map fun kv => keyD kv.1) S := rfl
@[simp] theorem itDi_dct (k : List (Key × D)) : itDi (.dct k) S = .ok (k.map fun kv => D.tup [keyD kv.1, kv.2]) S := rfl
@[simp] theorem itStx_str (x : Str) : itStx (.str x) S = .ok (TL.signs x) S := rfl
@[simp] theorem iZp_ap (u : TAx) : iZp u ρ S = (u ρ S).bind fun ds S1 => match ds with
  | [.lst as, .lst bs] => .ok (zipD as bs) S1
  | [.tup as, .tup bs] => .ok (zipD as bs) S1
  | _ => .stuck := rfl
@[simp] theorem cut_stuck (n : Nat) : (Out.stuck : Out D).cut n = .stuck := rfl
@[simp] theorem stm_stuck {α : Type} (q : α → List O → OutS) : (Out.stuck : Out α).stm ρ q = .stuck := rfl
@[simp] theorem stm_exc {α : Type} (C : Str) (q : α → List O → OutS) : (Out.exc C d S : Out α).stm ρ q = .exc C d ρ S := rfl
@[simp] theorem seq_exc (C : Str) (r : TSx) : (OutS.exc C d ρ S).seq r = .exc C d ρ S := rfl
@[simp] theorem seq_stuck (r : TSx) : OutS.stuck.seq r = .stuck := rfl
@[simp] theorem fin_exc (C : Str) : (OutS.exc C d ρ S).fin = .exc C d S := rfl
@[simp] theorem test_exc (C : Str) : (Out.exc C d S).test = .exc C d S := rfl
@[simp] theorem tru_bl (b : Bool) : truD S (.bl b) = some b := rfl
@[simp] theorem tru_int (i : Int) : truD S (.int i) = some (i != 0) := rfl
@[simp] theorem tru_non : truD S .non = some false := rfl
@[simp] theorem tru_tup : truD S (.tup ds) = some (!ds.isEmpty) := rfl
@[simp] theorem tru_lst : truD S (.lst ds) = some (!ds.isEmpty) := rfl
@[simp] theorem addU_int (o : Bool) (i j : Int) : addU o (.int i) (.int j) S = .ok (.int (i + j)) S := rfl
@[simp] theorem addU_tup (o : Bool) (a b : List D) : addU o (.tup a) (.tup b) S = addD (.tup a) (.tup b) S := rfl
@[simp] theorem addU_str (o : Bool) (a b : Str) : addU o (.str a) (.str b) S = addD (.str a) (.str b) S := rfl
@[simp] theorem addU_lst (o : Bool) (a b : List D) : addU o (.lst a) (.lst b) S = catD o (.lst a) (.lst b) S := rfl
@[simp] theorem ixU_lst (a : List D) (i : D) : ixU (.lst a) i S = ixD (.lst a) i S := rfl
@[simp] theorem ixU_tup (a : List D) (i : D) : ixU (.tup a) i S = ixD (.tup a) i S := rfl
@[simp] theorem ixU_scr (a : List Int) (i : D) : ixU (.scr a) i S = ixD (.scr a) i S := rfl
@[simp] theorem ixU_dct (a : List (Key × D)) (i : D) : ixU (.dct a) i S = dgetD (.dct a) i S := rfl
@[simp] theorem isi_int_int (ex ow : List Str) (i : Int) : isiA ex ow [.int i, .ty "int"] S = .ok (.bl true) S := rfl
@[simp] theorem isi_int_bool (ex ow : List Str) (i : Int) : isiA ex ow [.int i, .ty "bool"] S = .ok (.bl false) S := rfl
@[simp] theorem isi_int_tuple (ex ow : List Str) (i : Int) : isiA ex ow [.int i, .ty "tuple"] S = .ok (.bl false) S := rfl
@[simp] theorem isi_int_str (ex ow : List Str) (i : Int) : isiA ex ow [.int i, .ty "str"] S = .ok (.bl false) S := rfl
@[simp] theorem isi_str_str (ex ow : List Str) (x : Str) : isiA ex ow [.str x, .ty "str"] S = .ok (.bl true) S := rfl
@[simp] theorem isi_str_int (ex ow : List Str) (x : Str) : isiA ex ow [.str x, .ty "int"] S = .ok (.bl false) S := rfl
@[simp] theorem isi_tup_tuple (ex ow : List Str) : isiA ex ow [.tup ds, .ty "tuple"] S = .ok (.bl true) S := rfl
@[simp] theorem isi_tup_int (ex ow : List Str) : isiA ex ow [.tup ds, .ty "int"] S = .ok (.bl false) S := rfl
@[simp] theorem isi_dct_dict (ex ow : List Str) (k : List (Key × D)) : isiA ex ow [.dct k, .ty "dict"] S = .ok (.bl true) S := rfl
theorem fld_ins {Cs : List Str} {f C : Str} {fs : List (Str × D)} {v : D} (h : C ∈ Cs) (hv : fs.lookup f = some v) : fldD Cs f (.ins C fs) S = .ok v S := by
  show (if C ∈ Cs then _ else _) = _
  rw [if_pos h, hv]
@[simp] theorem isOwn_int {C : Str} {i : Int} : isOwn C S (.int i) = false := rfl
theorem setF_last {Cs : List Str} {f C : Str} {fs : List (Str × D)} {v : D} (h : C ∈ Cs) (hl : fs.length < 900) : setF Cs f (.hnd S.length) v (S ++ [.ins C fs]) = some (S ++ [.ins C (putFD f v fs)]) := by
  unfold setF
  simp only [List.getElem?_append_right (Nat.le_refl _), Nat.sub_self, List.getElem?_cons_zero]
  rw [if_pos ⟨h, hl⟩]
  simp
end
theorem compL_map {α : Type} {vs : List Nat} {tg : TGx} {tt : TTx} {te : TEx} {ρ : Env1} {S : List O} (of : α → D) (f : α → D) : ∀ (xs : List α) (acc : List D), (∀ x ∈ xs, ∃ ρ1, tg (of x) (wipeD ρ vs) S = .nx ρ1 S ∧ tt ρ1 S = .ok true S ∧ te ρ1 S = .ok (f x) S) → compL vs tg tt te (xs.map of) acc ρ S = .ok (acc ++ xs.map f) S
  | [], acc, _ => by simp [compL]
  | x :: xs, acc, q => by
    obtain ⟨ρ1, h1, h2, h3⟩ := q x List.mem_cons_self
    rw [List.map_cons]
    unfold compL
    rw [h1]
    simp only [nox_nx, bind_ok, h2, nox_ok, if_true, h3]
    rw [compL_map of f xs _ fun d hd => q d (List.mem_cons_of_mem _ hd)]
    simp
theorem hasK_snoc (kvs : List (Key × D)) (k : Key) (d : D) (j : Key) : hasK (kvs ++ [(k, d)]) j = (hasK kvs j || decide (k = j)) := by
  unfold hasK
  simp
theorem mergeG_nodup : ∀ (more acc : List (Key × D)), (∀ p ∈ more, hasK acc p.1 = false) → (more.map (·.1)).Nodup → mergeG acc more = acc ++ more
  | [], acc, _, _ => by simp [mergeG]
  | (k, d) :: more, acc, hn, nd => by
    rw [List.map_cons] at nd
    obtain ⟨nd1, nd2⟩ := List.nodup_cons.mp nd
    have e : putG acc k d = acc ++ [(k, d)] := by
      unfold putG
      rw [hn (k, d) List.mem_cons_self]
      rfl
    show mergeG (putG acc k d) more = _
    rw [e, mergeG_nodup more _ (fun z hz => ?_) nd2]
    · simp
    · rw [hasK_snoc, hn z (List.mem_cons_of_mem _ hz)]
      simp only [Bool.false_or, decide_eq_false_iff_not]
      exact fun e => nd1 (by rw [e]; exact List.mem_map.mpr ⟨z, hz, rfl⟩)
structure Gd (k w : Nat) (d : D) (x : PyData) : Prop where
  eq : TL.pd d = some x
  lay : x.canLay0 = true
  small : x.intsShort 13 = true
  can : x.showable = true
  dep : x.depth ≤ k
  wei : x.weight ≤ w
theorem Gd.up {k w k' w' : Nat} {d : D} {x : PyData} (h : Gd k w d x) (hk : k ≤ k') (hw : w ≤ w') : Gd k' w' d x := ⟨h.eq, h.lay, h.small, h.can, Nat.le_trans h.dep hk, Nat.le_trans h.wei hw⟩
theorem log2_lt {i : Int} {n : Nat} (h : i.natAbs < 2 ^ n) (hn : 0 < n) : i.natAbs.log2 < n := by
  by_cases h0 : i.natAbs = 0
  · rw [h0]
    simpa using hn
  · exact (Nat.log2_lt h0).mpr h
theorem Gd.shaped {k w : Nat} {d : D} {x : PyData} (h : Gd k w d x) (hk : k ≤ 32) : SeqAt.shaped x = true := by
  unfold SeqAt.shaped
  simp only [h.lay, Bool.true_and, decide_eq_true_eq]
  exact Nat.le_trans h.dep (by omega)
@[simp] theorem eq_str {x y : Str} {S : List O} : eqD (.str x) (.str y) S = .ok (.bl (decide (x = y))) S := rfl
@[simp] theorem eq_int {x y : Int} {S : List O} : eqD (.int x) (.int y) S = .ok (.bl (decide (x = y))) S := rfl
@[simp] theorem ne_str {x y : Str} {S : List O} : neD (.str x) (.str y) S = .ok (.bl (!decide (x = y))) S := rfl
@[simp] theorem ne_int {x y : Int} {S : List O} : neD (.int x) (.int y) S = .ok (.bl (!decide (x = y))) S := rfl
end TL
set_option Elab.async false
set_option linter.all false
set_option maxRecDepth 100000
set_option maxHeartbeats 4000000
namespace TL
open PySem PySem.Spec PyProof.Rows L2 LamX
section
variable {X : Cx} {pins : List (Addr × Obj)} {σ : L2.St} {H : Hp} {s : Shared}
abbrev nLook : Str := "_law_look"
abbrev nCaught : Str := "_law_caught"
abbrev nBack : Str := "_law_back"
abbrev nErr : Str := "error"
abbrev Ntold : List Str := [nLook, nCaught, nBack, nErr]
def QTold (f : Addr) (Q : VK) : VK := fun v H' => tRet (tTup (tCons (tVar 1) (tCons (tVar 2) tNil))) { nx := fun _ H' => Q .non H', rt := Q } [some (.ref f), some .non, some v, none] H'
theorem qtold {f : Addr} {Q : VK} {v : V} {H' : Hp} (h : ∀ p, H' p = none → Q (.ref p) (upd H' p (.tup [.non, v]))) : QTold f Q v H' := ⟨_, rfl, _, rfl, by rw [sizeLine_eq]; simp, h⟩
def ETold (K : PySem.W.Frag) (CS : Addr) (Q : VK) : XK := fun cls dd H' => ∃ b, PySem.W.exmOne K cls (.ref CS) = some b ∧ (b = true → ∀ a p, H' a = none → upd H' a (ExO cls dd a) p = none → Q (.ref p) (upd (upd H' a (ExO cls dd a)) p (.tup [.ref a, .non]))) ∧ (b = false → False)
structure ToldS (sg : Scope) : Prop where
  look : sg.names.lookup nLook = some .local
  caught : sg.names.lookup nCaught = some .local
  back : sg.names.lookup nBack = some .local
  err : sg.names.lookup nErr = some .local
  de : sg.names.lookup dErr = some .globalImplicit
theorem told_body {sg : Scope} {g f c' CS : Addr} {cdg : Value} {q x : Str} {tl : XK → Hp → VK → Prop} {Q : VK} {p1 p2 p3 p4 p5 p6 p7 p8 p9 q1 q2 q3 q4 q5 q6 q7 q8 q9 r1 r2 r3 : Pos} {k1 k2 k3 k4 k5} (T : ToldS sg) (hme : X.mg dErr = some (.ref CS))
    (hw : ∀ env : Env, env.scope = sg → swappedStores [.Tuple [.Name nCaught p1, .Name nBack p2] k1 p3] (.Tuple [.Constant .none k2 p4, .Constant .none k3 p5] k4 p6) env = pure none)
    (act : ∀ (W : WX) (pn : List (Addr × Obj)) (xe : Value → Shared → Prop) (E : XK) (p1 p2 : Pos), L2.Takes ((cxOf C8.CX0 X.prog X.w X.K X.mg X.base Ntold x sg g cdg X.A X.stack s H C8.E0).tr pn xe) W →
      PE ((cxOf C8.CX0 X.prog X.w X.K X.mg X.base Ntold x sg g cdg X.A X.stack s H C8.E0).tr pn xe) (.Call (.Name nLook p1) [] [] p2) (fun σ1 H1 Q => (∀ cls d H', E cls d H' → W cls d σ1 H') ∧ σ1[0]? = some (some (.ref f)) ∧ H1 c' = some (CodeO c' q) ∧ tl E H1 Q))
    (hc : H c' = some (CodeO c' q)) (h : ∀ p, H p = none → tl (ETold X.K CS Q) (upd H p (.tup [.non, .non])) (QTold f Q)) :
    ∃ t, PSs (cxOf C8.CX0 X.prog X.w X.K X.mg X.base Ntold x sg g cdg X.A X.stack s H C8.E0).nox
      [.Assign [.Tuple [.Name nCaught p1, .Name nBack p2] k1 p3] (.Tuple [.Constant .none k2 p4, .Constant .none k3 p5] k4 p6) p7,
       .Try [.Assign [.Name nBack q1] (.Call (.Name nLook q2) [] [] q3) q4] [.ExceptHandler (some (.Name dErr q5)) (some nErr) [.Assign [.Name nCaught q6] (.Name nErr q7) q8] q9] [] [] p8,
       .Return (some (.Tuple [.Name nCaught r1, .Name nBack r2] k5 r3)) p9] t ∧ t { nx := fun _ H' => Q .non H', rt := Q } (L2.start Ntold [.ref f]) H := by
  have nd : Ntold.Nodup := by decide +kernel
  have hgl : Gl (cxOf C8.CX0 X.prog X.w X.K X.mg X.base Ntold x sg g cdg X.A X.stack s H C8.E0).nox dErr := T.de
  have d1 : (nCaught == ("__debug__" : Str)) = false := by decide
  have d2 : (nBack == ("__debug__" : Str)) = false := by decide
  have s0 : L2.start Ntold [V.ref f] = [some (.ref f), none, none, none] := rfl
  refine ⟨_, pss_cons (ps_asg (X := (cxOf C8.CX0 X.prog X.w X.K X.mg X.base Ntold x sg g cdg X.A X.stack s H C8.E0).nox) (pe_tup (pa_cons pe_non (pa_cons pe_non pa_nil rfl) rfl)) (pg_tup (X := (cxOf C8.CX0 X.prog X.w X.K X.mg X.base Ntold x sg g cdg X.A X.stack s H C8.E0).nox) (n := 2) rfl (pgs_cons (pg_name (X := (cxOf C8.CX0 X.prog X.w X.K X.mg X.base Ntold x sg g cdg X.A X.stack s H C8.E0).nox) (i := 1) nd rfl (.inl T.caught) (.inr T.caught)) (pgs_cons (pg_name (X := (cxOf C8.CX0 X.prog X.w X.K X.mg X.base Ntold x sg g cdg X.A X.stack s H C8.E0).nox) (i := 2) nd rfl (.inl T.back) (.inr T.back)) pgs_nil rfl) rfl) rfl rfl) rfl (hw _ rfl) rfl)
    (pss_cons (ps_try_kp (X := (cxOf C8.CX0 X.prog X.w X.K X.mg X.base Ntold x sg g cdg X.A X.stack s H C8.E0).nox) (c := .ref CS) (n := nErr) (m := nCaught) (i := 3) (j := 1)
      (tb := fun W D σ H => ∃ Ech : XK, (∀ cls d H', Ech cls d H' → W cls d σ H') ∧ σ[0]? = some (some (.ref f)) ∧ H c' = some (CodeO c' q) ∧ tl Ech H fun v H' => D.nx (σ.set 2 (some v)) H')
      rfl rfl nd rfl rfl T.err T.caught rfl ⟨hgl, by decide, .inl hme⟩ L2.takes0 (by decide) (by decide) (fun W pn xe tk _ => ?_))
    (pss_one (ps_ret (pe_tup (pa_cons (pe_var (X := (cxOf C8.CX0 X.prog X.w X.K X.mg X.base Ntold x sg g cdg X.A X.stack s H C8.E0).nox) (i := 1) rfl (.inl T.caught) d1 (by decide)) (pa_cons (pe_var (X := (cxOf C8.CX0 X.prog X.w X.K X.mg X.base Ntold x sg g cdg X.A X.stack s H C8.E0).nox) (i := 2) rfl (.inl T.back) d2 (by decide)) pa_nil rfl) rfl))))), ?_⟩
  · refine ⟨fun pins s' σ H' D I h' => ?_⟩
    obtain ⟨Ech, hW, h1, h2, h3⟩ := h'
    have hp := act W pn xe Ech q2 q3 tk
    have hq := pss_one (ps_set (X := (cxOf C8.CX0 X.prog X.w X.K X.mg X.base Ntold x sg g cdg X.A X.stack s H C8.E0).tr pn xe) (pos := q4) (pos' := q1) (i := 2) nd rfl (.inl T.back) hp rfl (.inr T.back))
    exact hq.run pins s' σ H' D I ⟨hW, h1, h2, h3⟩
  · refine ⟨by rw [sizeLine_eq]; simp, fun p0 hp0 => ⟨p0, [V.non, V.non], rfl, .inl (.inl upd_same), rfl, V.non, _, rfl, V.non, _, rfl, rfl, ETold X.K CS Q, fun cls d H' hE => ?_, rfl, by rw [upd_ne (ne_of_none hc hp0)]; exact hc, ?_⟩⟩
    · obtain ⟨b, e1, e2, e3⟩ := hE
      refine ⟨b, e1, fun hb a ha => ?_, fun hb => e3 hb⟩
      exact ⟨_, rfl, _, rfl, by rw [sizeLine_eq]; simp, fun p hp => e2 hb a p ha hp⟩
    · exact h p0 hp0
end
end TL
set_option Elab.async false
set_option linter.all false
set_option maxRecDepth 100000
set_option maxHeartbeats 4000000
namespace TL
open PySem PySem.Spec PyProof.Rows L2 LamX
def Mk (H : Hp) (P : Addr) (q : Str) (A : Addr → Prop) (H1 : Hp) : Prop := H1 = H ∨ ∃ (ps1 : Array Value) (c' : Addr), H c' = none ∧ H1 = upd (upd H P (.tbl ps1)) c' (CodeO c' q) ∧ TriplesOk ps1.toList ∧
  ∀ (pos : Pos) (cv : Value), codeAmong pos ps1.toList = some cv → (∃ c2, cv = .ref c2 ∧ H c2 = some (CodeO c2 q) ∧ A c2) ∨ cv = .ref c'
section
variable {X : Cx} {pins : List (Addr × Obj)} {σ : L2.St} {H : Hp} {s : Shared}
theorem lam_mk {P c : Addr} {A : Addr → Prop} {ps : Array Value} {params : Arguments} {body : Expr} {scope : Scope} {pos : Pos} {E Q : Value → Shared → Prop} (I : Inv X pins σ H s) (B : TabB X.base X.mg c P) (hco : X.env.code = .ref c)
    (hP : H P = some (.tbl ps)) (tri : TriplesOk ps.toList) (known : ∀ (pos : Pos) (cv : Value), codeAmong pos ps.toList = some cv → ∃ c2, cv = .ref c2 ∧ H c2 = some (CodeO c2 (X.env.qual ++ "<lambda>")) ∧ A c2)
    (hde : defaultsOf params X.env = ([], [])) (hcap : ∀ y ∈ scope.names, y.2 = .free → ∃ c, X.env.cells.lookup y.1 = some c)
    (h : ∀ (f c' : Addr) (pm ctv : Value) (H1 : Hp) (s1 : Shared), Inv X pins σ H1 s1 → Mk H P (X.env.qual ++ "<lambda>") A H1 →
      s1.heap.get? f = some (PySem.W.kla_obj "<lambda>" (X.env.qual ++ "<lambda>") params body scope (cloFrom X.env.cells scope.names []) pm c' ctv) → H1 f = none → f ∉ frs X.stack → H1 c' = some (CodeO c' (X.env.qual ++ "<lambda>")) → Q (.ref f) s1) :
    wpAny (model X.prog X.w) X.A (eval (.Lambda params body scope pos) X.env) Q E s := by
  refine PySem.W.kla_eval hde ?_
  have bm := B.bm.keeps I.bk
  have atP := I.hok P _ hP
  have far : ∀ f, s.heap.objs.size ≤ f → f ∉ frs X.stack := fun f hf hm => by
    rcases List.mem_cons.mp (I.stkSub _ hm) with e | e
    · have lt := I.lt
      rw [← e] at lt
      exact Nat.lt_irrefl _ (Nat.lt_of_lt_of_le lt hf)
    · exact I.nofs hf e
  cases hc : codeAmong pos ps.toList with
  | some cv =>
    obtain ⟨c2, rfl, hc2, _⟩ := known pos cv hc
    refine PySem.W.kla_makeFunctionHit (closure_ok hcap) I.ok.glob (I.mod.glob.keeps I.bk) hco (B.code.keeps I.bk) atP tri hc bm fun ctv h' tk hx hsz => ?_
    exact h h'.objs.size c2 ((X.mg "__name__").getD .none) ctv H _ (I.kept fun b o e => Heap.get?_push_of_some _ (hx b o e)) (.inl rfl) (Heap.get?_push_size _ rfl) (I.hok.fresh hsz) (far _ hsz) hc2
  | none =>
    refine PySem.W.kla_makeFunction (closure_ok hcap) I.ok.glob (I.mod.glob.keeps I.bk) hco (B.code.keeps I.bk) atP tri hc B.gP bm fun c2 ctv h' tk hx hge hlt rec tab => ?_
    obtain ⟨_, oc, vs, t, e2, hoc, hd, hv⟩ := rec
    cases e2
    have big : s.heap.objs.size ≤ h'.objs.size := Nat.le_trans hge (Nat.le_of_lt hlt)
    have new : H c2 = none := I.hok.fresh hge
    have J := inv_table (t' := tk) (more := #[rawInt pos.line, rawInt pos.col, .ref c2]) (h' := h'.push (PySem.W.kla_obj "<lambda>" (X.env.qual ++ "<lambda>") params body scope (cloFrom X.env.cells scope.names []) ((X.mg "__name__").getD .none) c2 ctv)) I hP
      (fun b o hb e => Heap.get?_push_of_some _ (hx b o hb e)) (Heap.get?_push_of_some _ tab) hge ⟨oc, vs, t, Heap.get?_push_of_some _ hoc, hd, hv⟩
    have eL : (ps ++ #[rawInt pos.line, rawInt pos.col, .ref c2]).toList = ps.toList ++ [rawInt pos.line, rawInt pos.col, .ref c2] := by simp
    refine h h'.objs.size c2 ((X.mg "__name__").getD .none) ctv _ _ J (.inr ⟨_, c2, new, rfl, by rw [eL]; exact PySem.TriplesOk_snoc _ _ _ _ tri, fun p' cv hcv => ?_⟩) (Heap.get?_push_size _ rfl) ?_ (far _ big) upd_same
    · rw [eL] at hcv
      exact (among_app _ tri hcv).imp (fun z => known p' cv z) id
    · rw [upd_ne (Nat.ne_of_gt hlt), upd_ne (Nat.ne_of_gt (Nat.lt_of_lt_of_le (Heap.lt_size atP) big))]
      exact I.hok.fresh big
end
theorem sr_mk {K : PySem.W.Frag} {g : G} {S : List O} {H H1 : Hp} {P : Addr} {x : Str} {j : Nat} (s : SR K g S H) (hj : g.hs[j]? = some P) (ht : tabA K x = some P) (hS : S[j]? = some (.tbl x)) (m : Mk H P (lamQ x) (fun c => ¬ g.bad c) H1) : Ext g H g H1 ∧ SR K g S H1 := by
  rcases m with rfl | ⟨ps1, c', new, rfl, tri, kn⟩
  · exact ⟨Ext.refl _ _, s⟩
  · have hm : P ∈ g.hs := List.mem_of_getElem? hj
    obtain ⟨oP, eP⟩ := s.hl P hm
    have nPc : P ≠ c' := ne_of_none eP new
    have at_ : ∀ b u, H b = some u → b ≠ P → upd (upd H P (.tbl ps1)) c' (CodeO c' (lamQ x)) b = some u := fun b u e n => by
      rw [upd_ne (ne_of_none e new), upd_ne n]
      exact e
    have e : Ext g H g (upd (upd H P (.tbl ps1)) c' (CodeO c' (lamQ x))) := ⟨fun b u e n => .inl (at_ b u e fun z => n (z ▸ hm)), fun b u e n _ => at_ b u e fun z => n (z ▸ hm), fun _ _ _ n => n, fun _ h => h, [], by simp, fun _ h => by cases h⟩
    refine ⟨e, s.len, s.nd, s.live, fun a ha => ?_, fun i a o h1 h2 => ?_⟩
    · obtain ⟨u, eu⟩ := s.trk a ha
      by_cases z : a = P
      · rw [z, upd_ne nPc, upd_same]
        exact ⟨_, rfl⟩
      · exact ⟨u, at_ a u eu z⟩
    · by_cases z : a = P
      · subst z
        have ij : i = j := (List.getElem?_inj (List.getElem?_eq_some_iff.mp h1).1 s.nd).mp (h1.trans hj.symm)
        subst ij
        rw [hS] at h2
        cases h2
        refine ⟨⟨ps1, by rw [upd_ne nPc, upd_same], tri, fun pos cv hc => ?_⟩, ht⟩
        rcases kn pos cv hc with ⟨c2, rfl, h3, h4⟩ | rfl
        · refine ⟨c2, rfl, at_ c2 _ h3 fun z => ?_, h4⟩
          rw [z] at h4
          exact h4 (s.live _ hm)
        · exact ⟨c', rfl, upd_same, s.unbad new⟩
      · exact RO.mono s.live e (fun u eu => at_ a u eu z) (s.rep i a o h1 h2)
def Sg.lam (z : Sg) (scope : Scope) (k : Nat) (E : XK) (cd : Value) : Sg := ⟨z.P, z.w, z.K, z.mg, z.base, z.N, scope, fun _ => false, k, wX E, (z.qual ++ "<lambda>") ++ ".<locals>.", cd, false⟩
theorem fits_lam {z : Sg} {X : Cx} {scope : Scope} {k : Nat} {E : XK} {f c' : Addr} {A : Around} {outer : List Env} {s : Shared} {H : Hp} (fx : Fits z X) (hr : Room k (A.deeper (lamEnv X scope s.heap.objs.size f c'))) (hg : A.guards = some []) :
    Fits (z.lam scope k E (.ref c')) (lamCx X A outer s H E scope f c') :=
  ⟨fx.prog, fx.w, fx.K, fx.mg, fx.base, fx.N, rfl, rfl, fx.nd, fun _ h => absurd h (by simp [Sg.lam]), hr, hg, Takes.of2 (L2.takes_of rfl rfl rfl rfl), passes_of rfl, by show (X.env.qual ++ "<lambda>") ++ ".<locals>." = _; rw [fx.qual]; rfl, rfl, fun h => nomatch h⟩
def toldO (ex : List Str) : Out D → Out D
  | .ok d S1 => .ok (.tup [.non, d]) S1
  | .exc C d S1 => if C ∈ ex then .ok (.tup [.exc C d, .non]) S1 else .stuck
  | .stuck => .stuck
def eTold (ex : List Str) (j : Nat) (x : Str) (tb : TEx) : TEx := fun ρ S => match S[j]? with
  | some (.tbl y) => if y = x then toldO ex (tb ρ S) else .stuck
  | _ => .stuck
def ToldB (bg : List Stmt) (sg : Scope) : Prop := ∃ (p1 p2 p3 p4 p5 p6 p7 p8 p9 q1 q2 q3 q4 q5 q6 q7 q8 q9 r1 r2 r3 : Pos) (k1 k2 k3 k4 k5 : Nat),
  bg = [.Assign [.Tuple [.Name nCaught p1, .Name nBack p2] k1 p3] (.Tuple [.Constant .none k2 p4, .Constant .none k3 p5] k4 p6) p7,
       .Try [.Assign [.Name nBack q1] (.Call (.Name nLook q2) [] [] q3) q4] [.ExceptHandler (some (.Name dErr q5)) (some nErr) [.Assign [.Name nCaught q6] (.Name nErr q7) q8] q9] [] [] p8,
       .Return (some (.Tuple [.Name nCaught r1, .Name nBack r2] k5 r3)) p9] ∧
  ∀ env : Env, env.scope = sg → swappedStores [.Tuple [.Name nCaught p1, .Name nBack p2] k1 p3] (.Tuple [.Constant .none k2 p4, .Constant .none k3 p5] k4 p6) env = pure none
theorem exm_err {K : PySem.W.Frag} {ex : List Str} {C : Str} (F : ExF K ex) (hC : C ∈ ex) : PySem.W.exmOne K (.ref (He.ga K C)) (.ref (He.ga K dErr)) = some true := by
  have h1 : PySem.W.subIn K (.ref (He.ga K dErr)) (.type "BaseException") = some true := by
    rw [F.sub F.de]
    rw [if_pos rfl]
    rfl
  have h2 : PySem.W.kitCls K (.ref (He.ga K C)) (.ref (He.ga K dErr)) = some true := by
    obtain ⟨cd, h, _⟩ := (F.one dErr F.de).mro
    simp only [PySem.W.kitCls, h, Option.isSome_some, (F.one dErr F.de).ty, beq_self_eq_true, Bool.and_self, if_true]
    rw [F.sub hC]
    by_cases hd : C = dErr
    · rw [hd]
      simp
    · rw [if_neg hd]
      simp
  unfold PySem.W.exmOne
  rw [h1, h2]
  rfl
end TL
set_option Elab.async false
set_option linter.all false
set_option maxRecDepth 100000
set_option maxHeartbeats 4000000
namespace TL
open PySem PySem.Spec PyProof.Rows L2 LamX
abbrev tabS (ms : List Str) : List O := ms.map O.tbl
def tabG (Ps : List Addr) : G := ⟨fun b => b ∈ Ps, Ps⟩
theorem sr_tabs {K : PySem.W.Frag} {H : Hp} {ms : List Str} {Ps : List Addr} (hl : Ps.length = ms.length) (nd : Ps.Nodup) (hH : ∀ p ∈ Ps, H p = some (.tbl #[])) (hA : ∀ (i : Nat) (x : Str) (P : Addr), ms[i]? = some x → Ps[i]? = some P → tabA K x = some P) : SR K (tabG Ps) (tabS ms) H :=
  ⟨by show Ps.length = (ms.map O.tbl).length; rw [List.length_map]; exact hl, nd, fun a h => h, fun a h => ⟨_, hH a h⟩, fun i a o h1 h2 => by
    have h2 : (ms.map O.tbl)[i]? = some o := h2
    rw [List.getElem?_map] at h2
    obtain ⟨x, hx, rfl⟩ := Option.map_eq_some_iff.mp h2
    have h1 : Ps[i]? = some a := h1
    refine ⟨⟨#[], hH a (List.mem_of_getElem? h1), True.intro, fun pos cv hc => ?_⟩, hA i x a hx h1⟩
    have z : codeAmong pos [] = some cv := hc
    simp [codeAmong] at z⟩
def TabsB (K : PySem.W.Frag) (mg : Str → Option Value) (ms : List Str) (base : Heap) : Prop := ∀ x ∈ ms, ∃ c P, cdAt K (He.ga K x) = .ref c ∧ tabA K x = some P ∧ TabB base mg c P
section
variable {P : Program} {w : World} {K : PySem.W.Frag} {mg mb : Str → Option Value} {k : Nat} {fa a : Addr} {fd : FuncData} {x : Str} {F : TF} {s1 : Shared} {vs : List Value} {ns : List Int} {ms : List Str} {Ps : List Addr}
theorem law_tfnT (KX : K.In s1.heap) (hns : s1.heap.Ns mainGlobals mg) (hmb : s1.heap.Ns builtinsNs mb) (hbb : ∀ y : Str, y ≠ "__name__" → mb y = bootBuiltins y) (nol : s1.heap.NoLimit) (gens : s1.gens = #[])
    (hbm : ∃ (bm : Addr) (ob : Obj), mg "__builtins__" = some (.ref bm) ∧ bm ≠ builtinsNs ∧ s1.heap.get? bm = some ob ∧ ob.cls = .type "module" ∧ ob.dict = some builtinsNs ∧ ob.data = .plain)
    (hobj : s1.heap.get? a = some { cls := .type "list", data := .seq vs.toArray }) (hi : IntsAre vs ns) (hlen : ns.length ≤ sizeLine) (room : Room k callerA)
    (hl : Ps.length = ms.length) (nd : Ps.Nodup) (hT : ∀ p ∈ Ps, s1.heap.get? p = some tab0) (nT : ∀ p ∈ Ps, K.lookup p = none) (hA : ∀ (i : Nat) (x : Str) (P : Addr), ms[i]? = some x → Ps[i]? = some P → tabA K x = some P)
    (C : ∀ x ∈ ms, ∃ c P, cdAt K (He.ga K x) = .ref c ∧ tabA K x = some P ∧ P ∈ Ps ∧ PySem.W.CodeHd s1.heap c P) (C2 : ∀ p ∈ Ps, ∃ c, PySem.W.CodeHd s1.heap c p)
    (hF : ∀ base : Heap, K.In base → base.Ns mainGlobals mg → TabsB K mg ms base → TFn P w K mg base k fa fd [x] F) (hbind : ∀ (s : Shared) (u : Value), BindsTo s fd ⟨[u], []⟩ [(x, u)])
    (hval : ∃ S, F [.scr ns] (tabS ms) = .ok (.bl true) S) :
    codeAny (model P w) callerA (.call (.ref fa) ⟨[.ref a], []⟩) (fun r s' => r = .ok (.ret (.bool true)) ∧ OldK s1.heap s'.heap ∧ s'.os = s1.os ∧ AllBare s'.gens) s1 := by
  obtain ⟨S1, hval⟩ := hval
  have rints := vals_ints hi
  have same := hi.length
  have aT : a ∉ Ps := fun z => by
    have q := hT a z
    rw [hobj] at q
    cases (show Data.seq vs.toArray _ = Data.fields #[] from congrArg Obj.data (Option.some.inj q))
  have go : ∀ H : Hp, (∀ b, (H b = none ∧ b ∉ Ps) ∨ (b ∈ Ps ∧ H b = some (.tbl #[])) ∨ (b = a ∧ K.lookup a = none ∧ H b = some (.frz { cls := .type "list", data := .seq vs.toArray } (.lst (ns.map V.int))))) → ScrAt K (tabG Ps) H a (ns.map V.int) →
      codeAny (model P w) callerA (.call (.ref fa) ⟨[.ref a], []⟩) (fun r s' => r = .ok (.ret (.bool true)) ∧ OldK s1.heap s'.heap ∧ s'.os = s1.os ∧ AllBare s'.gens) s1 := by
    intro H only scr
    have hH : ∀ p ∈ Ps, H p = some (.tbl #[]) := fun p hp => by
      rcases only p with ⟨_, z⟩ | ⟨_, z⟩ | ⟨z, _⟩
      · exact absurd hp z
      · exact z
      · exact absurd (z ▸ hp) aT
    have hb : ∀ {b : Addr} {o : Obj}, s1.heap.get? b = some o → (b = a → K.lookup a = none → False) → b ∉ Ps → (hidT s1.heap H).get? b = some o := fun {b o} e n n2 => hidT_get e (by
      rcases only b with ⟨z, _⟩ | ⟨z, _⟩ | ⟨z1, z2, _⟩
      · exact z
      · exact absurd z n2
      · exact (n z1 z2).elim)
    have notD : ∀ {b : Addr} {o : Obj} , s1.heap.get? b = some o → o.data ≠ .fields #[] → b ∉ Ps := fun {b o} e n m => by
      rw [hT b m] at e
      cases e
      exact n rfl
    have ns1 : ∀ {b : Addr} {m : Str → Option Value}, s1.heap.Ns b m → (hidT s1.heap H).Ns b m := fun {b m} ⟨o, es, ep, e, dd, r⟩ => ⟨o, es, ep, hb e (fun z _ => by
      rw [z, hobj] at e
      cases e
      cases (show Data.seq vs.toArray _ = Data.dict es ep from dd)) (notD e (by rw [dd]; intro z; cases z)), dd, r⟩
    have inB : K.In (hidT s1.heap H) := fun b o e => hb (KX b o e) (fun z n => by
      rw [z, n] at e
      cases e) fun m => by
      rw [nT b m] at e
      cases e
    have hok : HOk P w H s1.heap := fun b u e => by
      rcases only b with ⟨z, _⟩ | ⟨z, z2⟩ | ⟨z1, _, z3⟩
      · rw [z] at e
        cases e
      · rw [z2] at e
        cases e
        exact hT b z
      · rw [z3] at e
        cases e
        rw [z1]
        exact ⟨hobj, by rw [List.length_map]; exact hlen, vs, _, rints, hobj⟩
    have md : Mod K mg (hidT s1.heap H) := ⟨inB, ns1 hns, ⟨mb, ns1 hmb, hbb⟩, let ⟨mc, y1, y2⟩ := nol; ⟨mc, ns1 y1, y2⟩⟩
    have TB : TabsB K mg ms (hidT s1.heap H) := fun y hy => by
      obtain ⟨c, p, h1, h2, hp, h3⟩ := C y hy
      refine ⟨c, p, h1, h2, ?_, ?_, fun z => ?_⟩
      · obtain ⟨o, us, file, tf, flags, tg, inF, text, tt, e1, r1, r2, r3, r⟩ := h3
        refine ⟨o, us, file, tf, flags, tg, inF, text, tt, hb e1 (fun z _ => ?_) (notD e1 fun z => ?_), r1, r2, r3, r⟩
        · rw [z, hobj] at e1
          cases e1
          cases (show Data.seq vs.toArray _ = Data.fields us from r2)
        · rw [r2] at z
          cases z
          simp at r3
      · obtain ⟨bm, ob, b1, b2, b3, b4, b5, b6⟩ := hbm
        have nG : bm ≠ mainGlobals := fun q => by
          obtain ⟨o, es, ep, e, hd, _⟩ := hns
          rw [q, e] at b3
          cases b3
          rw [hd] at b6
          cases b6
        have nP : bm ∉ Ps := notD b3 fun z => by
          rw [b6] at z
          cases z
        refine ⟨bm, ob, b1, b2, nG, fun q => nP (q ▸ hp), hb b3 (fun z _ => ?_) nP, b4, b5, b6⟩
        rw [z, hobj] at b3
        cases b3
        cases b6
      · obtain ⟨o, es, ep, e, hd, _⟩ := hns
        rw [z, hT p hp] at e
        cases e
        cases hd
    have e0 : Env0 P w K mg (hidT s1.heap H) callerA [] s1 H := ⟨rfl, md, fun _ _ e => of_hidT e, Nat.le_of_eq (hidT_size _ _), trivial, fun b m => (by cases (show b ∈ ([] : List Addr) from m)), hok, .of_eq gens⟩
    have post : Post K (wX fun _ _ _ => False) (RV K) (tabG Ps) H [] (fun v _ => v = .bl true) (F [.scr ns] (tabS ms)) := by
      rw [hval]
      exact fun _ _ v _ _ r => rv_bl r
    have rv : RVs K (tabG Ps) H [.scr ns] [.ref a] := by
      simp only [RVs, RV]
      exact ⟨_, _, rfl, ⟨a, rfl, scr⟩, rfl⟩
    refine codeAny_mono ((hF _ inB (ns1 hns) TB).run callerA [] s1 H ⟨[.ref a], []⟩ [.ref a] [.ref a] _ _ (tabG Ps) (tabS ms) [.scr ns] room rfl e0 (hbind s1 (.ref a)) (.cons rfl .nil) rfl (sr_tabs hl nd hH hA) rv post) fun r s' hr => ?_
    have un_old : ∀ {H' : Hp}, Un (frs []) [] H H' s1.heap s'.heap → HOk P w H' s'.heap → OldK s1.heap s'.heap := fun {H'} un hk' => by
      have stay : ∀ b o, b ∉ Ps → s1.heap.get? b = some o → s'.heap.get? b = some o := fun b o nb e => by
        rcases only b with ⟨z, _⟩ | ⟨z, _⟩ | ⟨z1, _, z3⟩
        · exact un.keep b o e z (by intro y; cases (show b ∈ ([] : List Addr) from y)) (by simp)
        · exact absurd z nb
        · obtain ⟨y1, _⟩ := hk' b _ (un.frzs b _ _ z3)
          rw [z1, hobj] at e
          cases e
          rw [← z1] at *
          exact y1
      have more : ∀ p ∈ Ps, ∃ m : Array Value, s'.heap.get? p = some { cls := .none, data := .fields m } := fun p hp => by
        obtain ⟨m, z⟩ := un.tbls p #[] (hH p hp)
        exact ⟨_, hk' p _ z⟩
      refine ⟨fun b o e => ?_, fun b o e => ?_⟩
      · by_cases hb : b ∈ Ps
        · obtain ⟨m, hm⟩ := more b hb
          obtain ⟨c, hc⟩ := C2 b hb
          have e' := e
          rw [hT b hb] at e'
          cases e'
          exact .inr (.inl ⟨(hc.tab e).isCodeTable, rfl, #[], m, rfl, by rw [Array.empty_append]; exact hm⟩)
        · exact .inl (stay b o hb e)
      · by_cases hb : b ∈ Ps
        · obtain ⟨m, hm⟩ := more b hb
          exact ⟨_, hm⟩
        · exact ⟨o, stay b o hb e⟩
    cases r with
    | error e =>
      rcases hr with ⟨_, _, _, _, _, _, _, _, _, _, _, _, no⟩ | ⟨_, _, _, _, _, _, _, _, _, _, _, _, _, no⟩
      · exact no.elim
      · exact no.elim
    | ok fl =>
      cases fl with
      | ret u =>
        obtain ⟨v, H', o1, o2, o3, o4, r', q⟩ := hr
        have q : v = .bl true := q
        subst q
        obtain rfl : u = Value.bool true := r'
        exact ⟨rfl, un_old o3 o4, o1, o2⟩
      | _ => exact False.elim hr
  cases hk : K.lookup a with
  | some o =>
    have e := KX a o hk
    rw [hobj] at e
    cases e
    refine go (fun b => if b ∈ Ps then some (.tbl #[]) else none) (fun b => ?_) (.inr ⟨_, vs.toArray, _, hk, rfl, rfl, rfl, by rw [List.size_toArray, same]; exact hlen, by simpa using rints⟩)
    by_cases hb : b ∈ Ps
    · exact .inr (.inl ⟨hb, if_pos hb⟩)
    · exact .inl ⟨if_neg hb, hb⟩
  | none =>
    refine go (upd (fun b => if b ∈ Ps then some (.tbl #[]) else none) a (.frz { cls := .type "list", data := .seq vs.toArray } (.lst (ns.map V.int)))) (fun b => ?_) (.inl ⟨⟨_, upd_same⟩, fun h => aT h⟩)
    by_cases hba : b = a
    · exact .inr (.inr ⟨hba, hk, by rw [hba, upd_same]⟩)
    · rw [upd_ne hba]
      by_cases hb : b ∈ Ps
      · exact .inr (.inl ⟨hb, if_pos hb⟩)
      · exact .inl ⟨if_neg hb, hb⟩
end
end TL
set_option Elab.async false
set_option linter.all false
set_option maxRecDepth 100000
set_option maxHeartbeats 4000000
namespace TL
open PySem PySem.Spec PyProof.Rows L2 LamX
theorem tabs_list {K : PySem.W.Frag} : ∀ {ms : List Str}, (∀ x ∈ ms, ∃ P, tabA K x = some P) → ∃ Ps : List Addr, ms.map (tabA K) = Ps.map some
  | [], _ => ⟨[], rfl⟩
  | x :: ms, h => by
    obtain ⟨P, hP⟩ := h x List.mem_cons_self
    obtain ⟨Ps, e⟩ := tabs_list (ms := ms) fun y hy => h y (List.mem_cons_of_mem _ hy)
    exact ⟨P :: Ps, by rw [List.map_cons, List.map_cons, e, hP]⟩
theorem walk_TT {l : PySem.W.OpenLaw} {n k : Nat} {q : Program} {loose : List Str} {XP : (Str → Option Value) → Heap → Prop} {YP : World → Heap → Prop} {d : DefRec} {x : Str} {F : TF} {ms : List Str}
    (hn : l.most = some n) (hn2 : n ≤ sizeLine) (hdf : d.params.defaults = []) (room : Room k callerA)
    (hF : ∀ (w : World) (mg : Str → Option Value) (fa : Addr) (h : Heap), YP w h → h.Ns mainGlobals mg → mg d.name = some (.ref fa) →
      ∃ (K : PySem.W.Frag) (fd : FuncData), K.In h ∧ TabF ms h K ∧ (∀ (s : Shared) (u : Value), BindsTo s fd ⟨[u], []⟩ [(x, u)]) ∧ ∀ base : Heap, K.In base → base.Ns mainGlobals mg → TabsB K mg ms base → TFn l.prog w K mg base k fa fd [x] F)
    (hval : ∀ ns : List Int, ns.length ≤ n → (∀ z ∈ ns, Builtin.Int.intBits z ≤ 1048576) → ∃ S, F [.scr ns] (tabS ms) = .ok (.bl true) S) :
    PySem.W.WalkO q loose XP YP l.row.toRowW d [] (fun f vs => PySem.call f vs) := by
  refine Att.attach_callB hn hdf fun w s0 s1 mg mb fa o pm cd doc a vs ns Gr Y ho hd hcd hmg hobj hi hlen hbits gens => ?_
  obtain ⟨K, fd, KX, T, hb, hF⟩ := hF w mg fa _ Y Gr.T.g hmg
  obtain ⟨Ps, hPs⟩ := tabs_list (K := K) (ms := ms) fun y hy => let ⟨P, t⟩ := T.one y hy; ⟨P, t.tab⟩
  have hl : Ps.length = ms.length := by
    have := congrArg List.length hPs
    rw [List.length_map, List.length_map] at this
    exact this.symm
  have nd : Ps.Nodup := by
    have := T.nd
    rw [hPs] at this
    exact List.Pairwise.of_map (f := some) (S := fun a b => a ≠ b) (R := fun a b => a ≠ b) (fun a b h e => h (by rw [e])) this
  have from1 : ∀ p ∈ Ps, ∃ y ∈ ms, Tab1 s1.heap K y p := fun p hp => by
    have : some p ∈ ms.map (tabA K) := by rw [hPs]; exact List.mem_map_of_mem hp
    obtain ⟨y, hy, e⟩ := List.mem_map.mp this
    obtain ⟨P, t⟩ := T.one y hy
    have : P = p := Option.some.inj (t.tab.symm.trans e)
    exact ⟨y, hy, this ▸ t⟩
  refine law_tfnT (ms := ms) (Ps := Ps) KX Gr.T.g Gr.T.b Gr.T.builtins Gr.T.nolimit gens Gr.T.bmain hobj hi (Nat.le_trans hlen hn2) room hl nd (fun p hp => let ⟨_, _, t⟩ := from1 p hp; t.emp) (fun p hp => let ⟨_, _, t⟩ := from1 p hp; t.out) (fun i y P h1 h2 => ?_) (fun y hy => ?_)
    (fun p hp => let ⟨_, _, t⟩ := from1 p hp; let ⟨c, _, h⟩ := t.code; ⟨c, h⟩) hF hb (hval ns hlen hbits)
  · have e : (ms.map (tabA K))[i]? = (Ps.map some)[i]? := by rw [hPs]
    rw [List.getElem?_map, List.getElem?_map, h1, h2] at e
    exact Option.some.inj e
  · obtain ⟨P, t⟩ := T.one y hy
    obtain ⟨c, h1, h2⟩ := t.code
    refine ⟨c, P, h1, t.tab, ?_, h2⟩
    have : some P ∈ Ps.map some := by
      rw [← hPs]
      exact List.mem_map.mpr ⟨y, hy, t.tab⟩
    obtain ⟨p, hp, e⟩ := List.mem_map.mp this
    cases e
    exact hp
end TL
set_option Elab.async false
set_option linter.all false
set_option maxRecDepth 100000
set_option maxHeartbeats 4000000
namespace TL
open PySem PySem.Spec PyProof.Rows L2 LamX
def ToldC (K : PySem.W.Frag) (mg : Str → Option Value) : Prop := ∃ (g : Addr) (fd : FuncData) (pg : Arguments) (bg : List Stmt) (sg : Scope), FunD K "_law_told" "_law_told" pg bg sg [] [] g fd ∧ mg "_law_told" = some (.ref g) ∧ Binds K fd [nLook] [] ∧ FnScope Ntold [nLook] sg ∧ ToldS sg ∧ ToldB bg sg
end TL
set_option Elab.async false
set_option linter.all false
set_option maxRecDepth 100000
set_option maxHeartbeats 4000000
namespace TL
open PySem PySem.Spec PyProof.Rows L2
section
variable {z : Sg} {k : Nat} {C m : Str} {F : TF} {a b e : Expr} {ta tb : TEx} {tl : TAx} {p pos : Pos}
def bool1 (r : D) (S : List O) : Out D := match r with
  | .bl b => .ok (.bl b) S
  | _ => .stuck
def inO (C : Str) (F : TF) (y x : D) (S : List O) : Out D := if isOwn C S x then (F [x, y] S).bind bool1 else .stuck
theorem op_inO (T : TMet z.P z.w z.K z.mg z.base k C "__contains__" 2 F) (hk : k ≤ z.lv) : OpS z (compareOp .In) (inO C F) := by
  intro X fx pins s σ H x y v u Q I rx ry g S dx dy hs r1 r2 p
  unfold inO at p
  split at p
  · rename_i h
    obtain ⟨a', _, _, rfl, ea⟩ := own_atI hs h r2
    obtain rfl : u = Value.ref a' := ry
    have p2 : Post z.K z.W (RV z.K) g H σ (fun w H' => ∃ b, w = .bl b ∧ Q (.bl b) H') (F [dy, dx] S) := p.bind fun r' S1 g1 H1 w e1 s1 r1 p1 => by
      unfold bool1 at p1
      split at p1
      · exact ⟨_, rv_bl r1, p1.here s1 (by simp only [RV])⟩
      · exact p1.elim
    obtain ⟨f, M, q⟩ := run_met T fx hk I (vs := [.ref a', x]) (us := [.ref a', v]) (.cons rfl (.cons rx .nil)) hs (ds := [dy, dx]) (by simp only [RVs]; exact ⟨_, _, rfl, r2, _, _, rfl, r1, rfl⟩) p2
    obtain ⟨ox, od, J⟩ := inst_ofI fx.K I ea
    obtain ⟨mm, fr⟩ := I.fr
    refine PySem.W.in_K fr I.ok.mod.kin J M.at_ M.fn (thn q fun w s' hw => ?_)
    obtain ⟨w', H', I', rw', b, rfl, q'⟩ := hw
    cases rw'
    exact wpAny_truthy_bool ⟨.bl b, H', I', rfl, q'⟩
  · exact p.elim
end
section
variable {z : Sg} {e v1 v2 : Expr} {es rest : List Expr} {t : TEx} {ts : List TEx} {pos : Pos}
end
def extD (i : Nat) (ds : List D) (y : D) (S : List O) : Out D := match y with
  | .lst es => if ds.length + es.length ≤ sizeLine then .ok .non (S.set i (.lst (ds ++ es))) else .stuck
  | _ => .stuck
section
variable {z : Sg} {a b : Expr} {ta tb : TEx} {apos cpos : Pos}
theorem de_extend (ha : DE z a ta) (hb : DE z b tb) (hbase : ∀ env, attributeBase a "extend" env (eval a env) = eval a env := by intro _; rfl)
    (hfew : ∀ env, ((backTo cpos (starEach [b] env)).all (fun x => !x.1) && (backToKw cpos (keywordEach [] env)).all (fun x => x.1.isSome) && decide ([b].length + ([] : List Keyword).length + (if ([] : List Keyword).isEmpty then 0 else 1) < 30)) = true := by intro _; rfl)
    (hline : (apos.endLine == cpos.line) = true := by rfl) (hs : ∀ env, starEach [b] env = (false, eval b env) :: starEach [] env := by intro _; rfl) : DE z (.Call (.Attribute a "extend" apos) [b] [] cpos) (eLm extD ta tb) :=
  de_lm PySem.F.slot_list_extend PySem.F.type_list_extend (fun X => mt_extend) (fun g S H σ Q l i ds y w xs s h1 h2 h3 h4 p => by
    unfold extD at p
    split at p
    · split at p
      · rename_i es hz
        simp only [RV] at h4
        obtain ⟨b', zs, rfl, h5, _, h6⟩ := h4
        refine ⟨l, b', xs, zs, rfl, rfl, h2, h5, by rw [h3.length, h6.length]; exact hz, ?_⟩
        exact Post.write s h1 p (fun e => ⟨_, upd_same, (h3.append h6).mono s.live e _ _⟩) fun e => by simp only [RV]
      · exact p.elim
    · exact p.elim) ha hb hbase hfew hline hs
end
def flD : D → Bool
  | .non => true
  | .bl _ => true
  | .int _ => true
  | .str _ => true
  | _ => false
def eqF : D → D → Bool
  | .non, .non => true
  | .bl a, .bl b => a == b
  | .bl a, .int b => (if a then 1 else 0) == b
  | .int a, .bl b => a == (if b then 1 else 0)
  | .int a, .int b => a == b
  | .str a, .str b => a == b
  | _, _ => false
def inqG (neg : Bool) (x y : D) (S : List O) : Out D := match seqOf S y with
  | some ds => if flD x = true ∧ ds.all flD = true then .ok (.bl (if neg then !(ds.any fun a => eqF a x) else ds.any fun a => eqF a x)) S else .stuck
  | none => .stuck
section
variable {K : PySem.W.Frag} {g : G} {H : Hp}
end
section
variable {z : Sg} {a b : Expr} {ta tb : TEx} {pos : Pos}
end
end TL
set_option Elab.async false
set_option linter.all false
set_option maxRecDepth 100000
set_option maxHeartbeats 4000000
namespace TL
open PySem PySem.Spec PyProof.Rows L2
section
variable {z : Sg} {pos : Pos}
theorem ds_setLc {i : Nat} {y : Str} {py spos : Pos} (own : Bool) (ow : List (Str × Nat)) {elt tg iter : Expr} {ifs : List Expr} {scope : Scope} {ws : List Nat} {ti : TIx} {t : TGx} {tt : TTx} {te : TEx} (hi : DI z tg iter ti) (hg : DG (z.blk scope) tg ws t) (ht : DTs (z.blk scope) ifs tt) (he : DE (z.blk scope) elt te)
    (ok : blkC z.N z.scope scope ow = true := by decide +kernel) (hw : ∀ j ∈ ws, j ∈ ow.map (·.2) := by decide) (hs : ∀ env x, foldedSetIterable iter env x = pure x := by intro _ _; rfl)
    (hy : z.N[i]? = some y := by rfl) (hyl : z.scope.names.lookup y = some .local := by rfl) (hk : z.scope.kind = .function := by rfl) (hl : (py.line == pos.line) = true := by rfl) (ha : (scope.names.any fun (n, k) => n == y && (k == .local || k == .cell)) = false := by rfl) :
    DS z (.Assign [.Name y py] (.ListComp elt [⟨tg, iter, ifs, 0⟩] scope pos) spos) (sSet i (eLc own (ow.map (·.2)) ti t tt te)) := by
  obtain ⟨wi, h1, q1⟩ := hi
  obtain ⟨τg, h2, q2⟩ := hg
  obtain ⟨τt, h3, q3⟩ := ht
  obtain ⟨τe, h4, q4⟩ := he
  have rd : RdE z (tLc wi τg τt τe (ow.map (·.2))) (eLc own (ow.map (·.2)) ti t tt te) := by
    intro g S ρ σ H Q s rs p
    refine q1 g S ρ σ H _ s rs (p.bind fun ds S1 g1 H1 J e1 s1 r1 p1 => ?_)
    split at p1
    · rename_i hlen
      obtain ⟨Gd, Y, w, hG, hY⟩ := r1
      intro Dp hn
      have hd : Dp ∉ g1.hs := fun h => s1.unbad hn (s1.live _ h)
      have rs1 := rs.mono s.live e1
      have l0 : LcAt z.K g1 H1 Dp (g1.on Dp) (upd H1 Dp (.lst [])) S1 [] :=
        ⟨fun b o q _ => .inl (same_new hn b o q), fun b o q _ _ => same_new hn b o q, (Ext.on (u := .lst []) hn).good, fun _ h => .inl h, ⟨[], by simp [G.on], fun _ h => by cases h⟩, s1.on hn, ⟨[], upd_same, by simp only [RVs]⟩, .inr rfl⟩
      have bnd : ∀ {i : Nat} {acc : List D}, acc.length ≤ i → i < ds.length → acc.length < sizeLine := fun h1 h2 => by omega
      refine lc_it w (fun i H' => ∃ g' S' acc, LcAt z.K g1 H1 Dp g' H' S' acc ∧ RS z.K g' H' ρ σ ∧ acc.length ≤ i ∧ Post z.K z.W (RV z.K) g1 H1 σ Q ((compL (ow.map (·.2)) t tt te (ds.drop i) acc ρ S').bind (mkL own)))
        ⟨_, S1, [], l0, rs1.mono s1.live (Ext.on hn), Nat.le_refl _, p1⟩ (fun i H' _ h => ?_) (fun i x H' H2 hi h y => ?_) fun H' h => ?_
      · obtain ⟨g', S', acc, l, _⟩ := h
        exact hG g' H' l.ext
      · obtain ⟨g', S', acc, l, rs', hacc, p'⟩ := h
        obtain ⟨hk, d, hdx, rd⟩ := hY i H' x H2 g' S' hi l.ext l.s y
        have e2 : Ext g' H' g' H2 := Ext.same hk
        have l2 := l.later s1 hd e2 (l.s.same hk)
        have rs2 := rs'.mono l.s.live e2
        have eq : ds.drop i = d :: ds.drop (i + 1) := by
          obtain ⟨hl, hv⟩ := List.getElem?_eq_some_iff.mp hdx
          rw [List.drop_eq_getElem_cons hl, hv]
        rw [eq] at p'
        unfold compL at p'
        rw [Out.bind_assoc] at p'
        refine q2 g' S' _ _ H2 d x _ l2.s (rs2.wipe _) rd (PostG.nox p' fun ρ3 S3 g3 H3 σ3 e3 s3 r3 off p3 => ?_)
        refine ⟨wipe_off off hw, ?_⟩
        have l3 := l2.later s1 hd e3 s3
        have rs3 := rs2.mono l2.s.live e3
        rw [Out.bind_assoc] at p3
        refine q3 g3 S3 ρ3 σ3 H3 _ s3 r3 (Post.bindN p3 fun k S4 g4 H4 k' e4 s4 r4 p4 => ?_)
        have r4 : k = k' := r4
        subst r4
        have l4 := l3.later s1 hd e4 s4
        have rs4 := rs3.mono l3.s.live e4
        show if k = true then _ else _
        split
        · rename_i hkt
          rw [if_pos hkt, Out.bind_assoc] at p4
          refine q4 g4 S4 ρ3 σ3 H4 _ s4 (r3.mono s3.live e4) (Post.bindN p4 fun yv S5 g5 H5 v e5 s5 r5 p5 => ?_)
          have l5 := l4.later s1 hd e5 s5
          obtain ⟨xs, hx1, hx2⟩ := l5.at_
          refine ⟨xs, hx1, by rw [hx2.length]; exact bnd hacc hi, g5, S5, acc ++ [yv], l5.push hn hd hx1 r5, ?_, by simp; omega, p5⟩
          exact (rs4.mono l4.s.live e5).wk (Wk.wr l5.bd) _ _
        · rename_i hkf
          rw [if_neg hkf] at p4
          exact ⟨g4, S4, acc, l4, rs4, by omega, p4⟩
      · obtain ⟨g', S', acc, l, _, _, p'⟩ := h
        rw [List.drop_length] at p'
        exact l.fin s1 hn hd p'
    · exact p1.elim
  refine ⟨tAsg (tLc wi τg τt τe (ow.map (·.2))) (gName i), fun X f => ps_setLc f.calm f.ndX (f.at hy) (by rw [f.scope]; exact hyl) (sw_true (by rw [f.scope]; exact hk) (by rw [f.scope]; exact hyl) hl ha) (h1 X f) (by rw [f.N, f.scope]; exact blkOk_by ok) (fun s H C cl fp => h2 _ (f.blk scope s H C cl fp)) (fun s H C cl fp => h3 _ (f.blk scope s H C cl fp)) (fun s H C cl fp => h4 _ (f.blk scope s H C cl fp)) (hs _), fun g S ρ σ H T s rs p => ?_⟩
  exact rd g S ρ σ H _ s rs (p.stm s rs fun d S1 g1 H1 v e1 s1 rs1 r1 p1 => p1.here s1 (RS.set r1 i rs1))
end
end TL
set_option Elab.async false
set_option linter.all false
set_option maxRecDepth 100000
set_option maxHeartbeats 4000000
namespace TL
open PySem PySem.Spec PyProof.Rows L2
section
variable {X : Cx}
end
section
variable {z : Sg} {pos : Pos}
end
end TL
set_option Elab.async false
set_option linter.all false
set_option maxRecDepth 100000
set_option maxHeartbeats 4000000
namespace TL
open PySem PySem.Spec PyProof.Rows L2
section
variable {X : Cx} {pins : List (Addr × Obj)} {σ : L2.St} {H : Hp} {s : Shared}
end
section
variable {z : Sg} {e : Expr} {t : TEx} {p apos cpos pos : Pos}
end
end TL
set_option Elab.async false
set_option linter.all false
set_option maxRecDepth 100000
set_option maxHeartbeats 4000000
namespace TL
open PySem PySem.Spec PyProof.Rows L2
section
open PySem.W Calls Builtin
variable {prog : Program} {w : World} {A : Around} {E : Value → Shared → Prop} {s : Shared} {K : Frag} {x C L f : Addr} {h₀ : Heap} {m : Str → Option Value} {ox : Obj} {od : Option Obj} {T : String}
end
section
variable {z : Sg} {k : Nat} {C m : Str} {F : TF}
end
end TL
set_option Elab.async false
set_option linter.all false
set_option maxRecDepth 100000
set_option maxHeartbeats 4000000
namespace TL
open PySem PySem.Spec PyProof.Rows L2
end TL
set_option Elab.async false
set_option linter.all false
set_option maxRecDepth 100000
set_option maxHeartbeats 4000000
namespace TL
open PySem PySem.Spec PyProof.Rows L2
section
variable {z : Sg} {a b e : Expr} {ta tb : TEx} {apos pos p : Pos} {t : TAx}
end
def aStar (t : TEx) (ta : TAx) : TAx := fun ρ S => (t ρ S).bind fun d S1 => match seqOf S1 d with
  | some ds => (ta ρ S1).bind fun es S2 => .ok (ds ++ es) S2
  | none => .stuck
theorem RVs.append' {K : PySem.W.Frag} {g : G} {H : Hp} : ∀ {ds es : List D} {xs ys : List V}, RVs K g H ds xs → RVs K g H es ys → RVs K g H (ds ++ es) (xs ++ ys)
  | [], es, xs, ys, h1, h2 => by
    simp only [RVs] at h1
    subst h1
    exact h2
  | d :: ds, es, xs, ys, h1, h2 => by
    simp only [RVs] at h1
    obtain ⟨v, r, rfl, a, b⟩ := h1
    simp only [List.cons_append, RVs]
    exact ⟨v, _, rfl, a, RVs.append' b h2⟩
theorem da_star {z : Sg} {e : Expr} {es : List Expr} {p : Pos} {t : TEx} {ta : TAx} (he : DE z e t) (ha : DA z es ta) (hs : ∀ env, starEach (.Starred e p :: es) env = (true, eval e env) :: starEach es env := by intro _; rfl) : DA z (.Starred e p :: es) (aStar t ta) := by
  obtain ⟨τ, h1, q1⟩ := he
  obtain ⟨τ2, h2, q2⟩ := ha
  refine ⟨StX.tStar z.K τ τ2, fun X f => f.K ▸ StX.pa_star (h1 X f) (h2 X f) (hs _), fun g S ρ σ H Q s rs p => ?_⟩
  refine q1 g S ρ σ H _ s rs (p.bind fun d S1 g1 H1 v e1 s1 r1 p1 => ?_)
  split at p1
  · rename_i ds hd
    obtain ⟨l, xs, rfl, hq, rx⟩ := seq_at s1 hd r1
    refine ⟨l, xs, rfl, hq.symm, q2 g1 S1 ρ σ H1 _ s1 (rs.mono s.live e1) (p1.bind fun ys S2 g2 H2 us e2 s2 r2 p2 => ?_)⟩
    exact p2 g2 H2 (xs ++ us) (Ext.refl _ _) s2 (RVs.append' (rx.mono s1.live e2) r2)
  · exact p1.elim
section
variable {z : Sg} {e a o : Expr} {es : List Expr} {t ta : TEx} {r tr : TAx} {apos pos p c0 c1 : Pos} {j k : Nat} {y w : Str}
end
structure StatOf (K : PySem.W.Frag) (C : Addr) (m : Str) (p f : Addr) : Prop where
  rd : PySem.W.readsIn K C (.type "type") = true
  ga : PySem.W.specialIn K (.ref C) "__getattribute__" = some (some (.builtin "type.__getattribute__"))
  at_ : PySem.W.findCls K (.ref C) (.type "type") m = some (.get (.builtin "staticmethod.__get__") (.ref p) .none (.ref C))
  rc : ∃ rest, PySem.W.recIn K p "staticmethod" = some (.ref f :: rest)
  kp : PySem.W.keepIn K (.ref f) = true
structure TStat (P : Program) (w : World) (K : PySem.W.Frag) (mg : Str → Option Value) (base : Heap) (k : Nat) (C m : Str) (n : Nat) (F : TF) : Prop where
  ex : ∃ (p f : Addr) (fd : FuncData) (ps : List Str), TFn P w K mg base k f fd ps F ∧ StatOf K (He.ga K C) m p f ∧ Binds K fd ps [] ∧ ps.length = n
  len : ∀ ds S, ds.length ≠ n → F ds S = .stuck
theorem TStat.mono {P : Program} {w : World} {K : PySem.W.Frag} {mg : Str → Option Value} {base : Heap} {k j : Nat} {C m : Str} {n : Nat} {F : TF} (h : TStat P w K mg base j C m n F) (hj : j ≤ k) : TStat P w K mg base k C m n F := by
  obtain ⟨p, f, fd, ps, h1, h2⟩ := h.ex
  exact ⟨⟨p, f, fd, ps, h1.mono hj, h2⟩, h.len⟩
section
variable {z : Sg} {k n : Nat} {C m : Str} {F : TF} {o e : Expr} {es : List Expr} {apos pos : Pos} {t : TEx} {ta : TAx}
end
end TL
set_option Elab.async false
set_option linter.all false
set_option maxRecDepth 100000
set_option maxHeartbeats 4000000
namespace TL
open PySem PySem.Spec PyProof.Rows L2
structure SC (K : PySem.W.Frag) (C : Str) : Prop where
  cl : SlX.SCls K (He.ga K C)
  nd : PySem.W.hasDictIn K (He.ga K C) ≠ true
  slots : ∀ (i : Nat) (f : Str), (slN K C)[i]? = some f → ∃ p, SlX.Slot1 K (He.ga K C) f p i
  uniq : (slN K C).Nodup
structure SlF (K : PySem.W.Frag) (g : G) (H : Hp) (a : Addr) (C : Str) (dx : Addr) (ws : List (Str × V)) (vs : List (Option V)) : Prop where
  nb : ¬ g.bad dx
  ne : dx ≠ a
  xd : H dx = some (.xd [])
  at_ : H a = some (SlX.SlO a (He.ga K C) dx vs)
  w : SlW (slN K C) ws vs
theorem SlF.slt {K : PySem.W.Frag} {g : G} {H : Hp} {a dx : Addr} {C : Str} {ws : List (Str × V)} {vs : List (Option V)} (h : SlF K g H a C dx ws vs) : SlX.Slt H a (He.ga K C) dx vs := .inr ⟨h.at_, h.xd⟩
theorem InsAt.slots {K : PySem.W.Frag} {g : G} {H : Hp} {a dx : Addr} {C : Str} {ws : List (Str × V)} (h : InsAt K g H a C dx ws) (c : SC K C) : ∃ vs, SlF K g H a C dx ws vs := by
  rcases h with ⟨n, _⟩ | ⟨_, h1, h2, h3, vs, h4, h5⟩
  · exact (c.nd n).elim
  · exact ⟨vs, h1, h2, h3, h4, h5⟩
theorem SlF.get {K : PySem.W.Frag} {g : G} {H : Hp} {a dx : Addr} {C f : Str} {ws : List (Str × V)} {vs : List (Option V)} {v : V} {i : Nat} (h : SlF K g H a C dx ws vs) (hi : (slN K C)[i]? = some f) (l : ws.lookup f = some v) : vs[i]? = some (some v) := by
  have q := h.w i f hi
  rw [l] at q
  cases e : vs[i]? with
  | none => rw [e] at q; cases q
  | some o =>
    rw [e] at q
    exact congrArg some q
theorem lookup_putF {f x : Str} {v : V} : ∀ {ws : List (Str × V)}, (putF f v ws).lookup x = if x = f then some v else ws.lookup x
  | [] => by
    unfold putF
    by_cases e : x = f
    · simp [List.lookup, e]
    · simp [List.lookup, e, beq_false_of_ne e]
  | (k, w) :: r => by
    have ih := lookup_putF (f := f) (x := x) (v := v) (ws := r)
    unfold putF
    by_cases ek : k = f
    · rw [if_pos ek]
      by_cases e : x = f
      · simp [List.lookup, e, ek]
      · simp [List.lookup, e, ek, beq_false_of_ne e]
    · rw [if_neg ek]
      by_cases e2 : x = k
      · have : x ≠ f := fun z => ek (e2 ▸ z)
        simp [List.lookup, e2, ek]
      · simp only [List.lookup, beq_false_of_ne e2]
        exact ih
theorem SlF.put {K : PySem.W.Frag} {C f : Str} {ws : List (Str × V)} {vs : List (Option V)} {v : V} {i : Nat} (u : (slN K C).Nodup) (h : SlW (slN K C) ws vs) (hi : (slN K C)[i]? = some f) : SlW (slN K C) (putF f v ws) (SlX.putS i v vs) := by
  intro j x hj
  rw [lookup_putF]
  by_cases e : j = i
  · subst e
    rw [hi] at hj
    cases hj
    rw [if_pos rfl, SlX.putS_get]
    rfl
  · have ne : x ≠ f := fun z => by
      subst z
      obtain ⟨l1, e1⟩ := List.getElem?_eq_some_iff.mp hj
      exact e ((List.getElem?_inj l1 u).mp (hj.trans hi.symm))
    rw [if_neg ne, ← h j x hj]
    have key := fun y : V => SlX.putS_ne (v := v) (x := y) (vs := vs) e
    cases e1 : (SlX.putS i v vs)[j]? with
    | none =>
      cases e2 : vs[j]? with
      | none => rfl
      | some o => cases o with
        | none => rfl
        | some y => rw [(key y).mpr e2] at e1; cases e1
    | some o => cases o with
      | none =>
        cases e2 : vs[j]? with
        | none => rfl
        | some o => cases o with
          | none => rfl
          | some y => rw [(key y).mpr e2] at e1; cases e1
      | some y => rw [(key y).mp e1]
section
variable {z : Sg} {e o : Expr} {t to : TEx} {pos : Pos} {f : Str} {Cs : List Str}
theorem de_slf (hc : ∀ C ∈ Cs, SC z.K C ∧ f ∈ slN z.K C) (he : DE z e t) (hb : ∀ env, attributeBase e f env (eval e env) = eval e env := by intro _; rfl) : DE z (.Attribute e f pos) (eUn (fldD Cs f) t) := by
  refine de_un (r := fun x H1 Q => ∃ a C dx p vs i v, x = .ref a ∧ SlX.Slt H1 a C dx vs ∧ SlX.SCls z.K C ∧ SlX.Slot1 z.K C f p i ∧ vs[i]? = some (some v) ∧ Q v H1) (fun X fx τ h => fx.K ▸ SlX.pe_sl h (hb _)) (fun g S H σ Q x v s rx p => ?_) he
  unfold fldD at p
  split at p
  · rename_i C fs q
    split at p
    · rename_i hC
      obtain ⟨a, dx, ws, rfl, h1, h2⟩ := ins_atI s q rx
      obtain ⟨vs, h1⟩ := h1.slots (hc C hC).1
      have hg := h2.get (f := f)
      split at p
      · rename_i d q2
        rw [q2] at hg
        obtain ⟨w, h3, h4⟩ := hg
        obtain ⟨i, hi⟩ := List.getElem?_of_mem (hc C hC).2
        obtain ⟨pp, hs⟩ := (hc C hC).1.slots i f hi
        exact ⟨a, _, dx, pp, vs, i, w, rfl, h1.slt, (hc C hC).1.cl, hs, h1.get hi h3, p.here s h4⟩
      · exact p.elim
    · exact p.elim
  · exact p.elim
theorem ds_slf {p' : Pos} (hc : ∀ C ∈ Cs, SC z.K C ∧ f ∈ slN z.K C) (ho : DE z o to) (he : DE z e t) (hs : ∀ env, swapsWith e (some (.Attribute o f p')) pos.line env = pure false := by intro _; rfl) : DS z (.Assign [.Attribute o f p'] e pos) (sFldD Cs f t to) := by
  obtain ⟨τ, h1, q1⟩ := ho
  obtain ⟨τ2, h2, q2⟩ := he
  refine ⟨_, fun X fx => fx.K ▸ SlX.ps_sl (h1 X fx) (h2 X fx) (hs _), fun g S ρ σ H T s rs p => ?_⟩
  refine q2 g S ρ σ H _ s rs (p.stm s rs fun d S1 g1 H1 v e1 s1 rs1 r1 p1 => ?_)
  refine q1 g1 S1 ρ σ H1 _ s1 rs1 (p1.stm s1 rs1 fun x S2 g2 H2 u e2 s2 rs2 r2 p2 => ?_)
  split at p2
  · rename_i S3 q
    unfold setF at q
    split at q
    · rename_i n
      split at q
      · rename_i C fs q3
        split at q
        · rename_i hC
          cases q
          have rv := r1.mono s1.live e2
          simp only [RV] at r2
          obtain ⟨a, rfl, h3⟩ := r2
          obtain ⟨dx, ws, h4, h5⟩ := s2.rep n a _ h3 q3
          obtain ⟨vs, h4⟩ := h4.slots (hc C hC.1).1
          obtain ⟨i, hi⟩ := List.getElem?_of_mem (hc C hC.1).2
          obtain ⟨pp, hs'⟩ := (hc C hC.1).1.slots i f hi
          refine ⟨a, _, dx, pp, vs, i, rfl, h4.slt, (hc C hC.1).1.cl, hs', ?_⟩
          have es : SlX.slH H2 a (He.ga z.K C) dx (SlX.putS i v vs) = upd H2 a (SlX.SlO a (He.ga z.K C) dx (SlX.putS i v vs)) := by
            funext b
            unfold SlX.slH
            by_cases hb : b = a
            · rw [hb, upd_same, upd_same]
            · rw [upd_ne hb, upd_ne hb]
              by_cases hd : b = dx
              · rw [hd, upd_same, h4.xd]
              · rw [upd_ne hd]
          rw [es]
          have e3 : Ext g2 H2 g2 (upd H2 a (SlX.SlO a (He.ga z.K C) dx (SlX.putS i v vs))) := Ext.write h3
          exact p2 g2 _ σ e3 (s2.write h3 fun e => ⟨dx, _, .inr ⟨(hc C hC.1).1.nd, h4.nb, h4.ne, by rw [upd_ne h4.ne]; exact h4.xd, _, upd_same, SlF.put (hc C hC.1).1.uniq h4.w hi⟩, (h5.put rv).mono s2.live e _ _⟩) (rs2.mono s2.live e3)
        · cases q
      · cases q
    · cases q
  · exact p2.elim
end
section
variable {P : Program} {w : World} {K : PySem.W.Frag} {mg : Str → Option Value} {base : Heap} {C x m qual : Str} {params : Arguments} {body : List Stmt} {scope : Scope} {dvs : List V} {kws : List (Str × V)} {f : Addr} {fd : FuncData} {N ps : List Str} {k : Nat} {t : TSx} {F : TF}
theorem tmet_ofS (Fd : FunD K x qual params body scope [] [] (adM C m K) fd) (hM : (He.Fa.meth C m).ok K = true) (cl : SC K C) (S : FnScope N ps scope) (hb : Binds K fd ps []) (h : ∀ E, DSs (Sg.of P w K mg base N scope k E qual (cdAt K (adM C m K))) body t) : TMet P w K mg base (k + 1) C m ps.length (bodyF ps.length N t) :=
  ⟨⟨_, fd, ps, tfn_of Fd S h, He.meth_ok hM, hb, rfl⟩, (.inr ⟨cl.cl, cl.nd⟩), fun ds S hne => if_neg hne⟩
end
end TL
set_option Elab.async false
set_option linter.all false
set_option maxRecDepth 100000
set_option maxHeartbeats 4000000
namespace TL
open PySem PySem.Spec PyProof.Rows L2
section
variable {z : Sg} {ex : List Str} {C : Str} {body : List Stmt} {e : Expr} {v : V} {d : D} {t : TSx} {np pos pos' rp : Pos}
end
def boolN (r : D) (S : List O) : Out D := match r with
  | .bl b => .ok (.bl (!b)) S
  | _ => .stuck
def ninO (C : Str) (F : TF) (y x : D) (S : List O) : Out D := if isOwn C S x then (F [x, y] S).bind boolN else .stuck
section
variable {z : Sg} {k : Nat} {C : Str} {F : TF}
theorem op_ninO (T : TMet z.P z.w z.K z.mg z.base k C "__contains__" 2 F) (hk : k ≤ z.lv) : OpS z (compareOp .NotIn) (ninO C F) := by
  intro X fx pins s σ H x y v u Q I rx ry g S dx dy hs r1 r2 p
  unfold ninO at p
  split at p
  · rename_i h
    obtain ⟨a', _, _, rfl, ea⟩ := own_atI hs h r2
    obtain rfl : u = Value.ref a' := ry
    have p2 : Post z.K z.W (RV z.K) g H σ (fun w H' => ∃ b, w = .bl b ∧ Q (.bl (!b)) H') (F [dy, dx] S) := p.bind fun r' S1 g1 H1 w e1 s1 r1 p1 => by
      unfold boolN at p1
      split at p1
      · exact ⟨_, rv_bl r1, p1.here s1 (by simp only [RV])⟩
      · exact p1.elim
    obtain ⟨f, M, q⟩ := run_met T fx hk I (vs := [.ref a', x]) (us := [.ref a', v]) (.cons rfl (.cons rx .nil)) hs (ds := [dy, dx]) (by simp only [RVs]; exact ⟨_, _, rfl, r2, _, _, rfl, r1, rfl⟩) p2
    obtain ⟨ox, od, J⟩ := inst_ofI fx.K I ea
    obtain ⟨mm, fr⟩ := I.fr
    refine PySem.W.notIn_K fr I.ok.mod.kin J M.at_ M.fn (thn q fun w s' hw => ?_)
    obtain ⟨w', H', I', rw', b, rfl, q'⟩ := hw
    cases rw'
    exact wpAny_truthy_bool ⟨.bl (!b), H', I', rfl, q'⟩
  · exact p.elim
end
section
variable {z : Sg} {a b : Expr} {ta tb : TEx} {pos : Pos}
end
section
variable {z : Sg} {e : Expr} {es : List Expr} {ta : TAx} {t : TEx} {pos p : Pos}
def TplZ (K : PySem.W.Frag) (H : Hp) (a : Addr) (xs : List V) : Prop := (∃ o : Obj, H a = some (.frz o (.tup xs)) ∧ o.dict = none) ∨
    ∃ (o : Obj) (its : Array Value) (n : Nat), K.lookup a = some o ∧ o.cls = .type "tuple" ∧ o.dict = none ∧ o.data = .seq its n ∧ its.size ≤ sizeLine ∧ Vals xs its.toList
theorem TplAt.plain {K : PySem.W.Frag} {g : G} {H : Hp} {a : Addr} {xs : List V} (h : TplAt K g H a xs) : TplZ K H a xs := by
  rcases h with ⟨o, h, z, _⟩ | h
  · exact .inl ⟨o, h, z⟩
  · exact .inr h
end
section
variable {X : Cx} {pins : List (Addr × Obj)} {σ : L2.St} {H : Hp} {s : Shared}
theorem TplZ.at {a : Addr} {xs : List V} (I : Inv X pins σ H s) (h : TplZ X.K H a xs) : ∃ its : Array Value, Vals xs its.toList ∧ its.size ≤ sizeLine ∧ PySem.PlainSeq "tuple" s.heap a its := by
  rcases h with ⟨o, h, z⟩ | ⟨o, its, n, h1, h2, h3, h4, h5, h6⟩
  · obtain ⟨e, hl, its, r, o', e', hc, n, hd⟩ := I.hok a _ h
    rw [e] at e'
    cases e'
    exact ⟨its.toArray, r, by rw [List.size_toArray, ← r.length]; exact hl, o, n, e, hc, z, hd⟩
  · exact ⟨its, h6, h5, o, n, I.kIn _ _ h1, h2, h3, h4⟩
end
end TL
set_option Elab.async false
set_option linter.all false
set_option maxRecDepth 100000
set_option maxHeartbeats 4000000
namespace TLX
open PySem PySem.Spec PyProof.Rows L2
section
variable {P : Program} {w : World} {A : Around} {E : Value → Shared → Prop} {s : Shared}
theorem SetT.fresh {h : Heap} {S : Addr} (hS : h.get? S = some (freshT w)) : SetT w h S (onceT []) :=
  ⟨_, #[], 0, _, hS, ⟨rfl, rfl, rfl⟩, rfl, fun e he => by simp at he, by simp [onceT], by simp [onceT], by decide, by rfl, List.Pairwise.nil, by
    show _ ∨ (!w.params.followText "set-order") = true
    cases w.params.followText "set-order"
    · exact .inr rfl
    · exact .inl rfl⟩
end
section
variable {X : Cx}
end
end TLX
namespace TL
open PySem PySem.Spec PyProof.Rows L2 TLX
section
variable {z : Sg} {e : Expr} {p p2 pos pos2 : Pos} {ta : TAx}
end
end TL
set_option Elab.async false
set_option linter.all false
set_option maxRecDepth 100000
set_option maxHeartbeats 4000000
namespace TL
open PySem PySem.Spec PyProof.Rows L2
theorem slot1B_ok {K : PySem.W.Frag} {C : Addr} {f : Str} {i : Nat} (h : slot1B K C f i = true) : ∃ p, SlX.Slot1 K C f p i := by
  unfold slot1B at h
  split at h
  · rename_i p e
    obtain ⟨h1, h⟩ := He.ba h
    obtain ⟨h2, h⟩ := He.ba h
    obtain ⟨h3, h⟩ := He.ba h
    obtain ⟨h4, h5⟩ := He.ba h
    exact ⟨p, e, of_decide_eq_true h1, of_decide_eq_true h2, of_decide_eq_true h3, of_decide_eq_true h4, of_decide_eq_true h5⟩
  · cases h
theorem slcB_ok {C : Str} {K : PySem.W.Frag} (h : slcB C K = true) : SC K C := by
  obtain ⟨h1, h⟩ := He.ba h
  obtain ⟨h2, h⟩ := He.ba h
  obtain ⟨h3, h⟩ := He.ba h
  obtain ⟨h4, h⟩ := He.ba h
  obtain ⟨h5, h⟩ := He.ba h
  obtain ⟨h6, h⟩ := He.ba h
  refine ⟨⟨h1, h2, h3, He.eqO_ok h4⟩, (fun z => by rw [z] at h5; cases h5), (fun i f hi => ?_), of_decide_eq_true h6⟩
  have := List.all_eq_true.mp h i (List.mem_range.mpr (List.getElem?_eq_some_iff.mp hi).1)
  rw [hi] at this
  exact slot1B_ok this
theorem slmB_ok {C f : Str} {K : PySem.W.Frag} (h : slmB C f K = true) : f ∈ slN K C := of_decide_eq_true h
end TL
set_option Elab.async false
set_option linter.all false
set_option maxRecDepth 100000
set_option maxHeartbeats 4000000
namespace TL
open PySem PySem.Spec PyProof.Rows L2
def ndinD (y x : D) (S : List O) : Out D := match dctOf S x, keyOf y with
  | some kvs, some k => .ok (.bl (!hasK kvs k)) S
  | _, _ => .stuck
section
variable {z : Sg} {a b : Expr} {ta tb : TEx} {pos : Pos}
theorem ndin_q {τ τ2 : TE} (q1 : RdE z τ ta) (q2 : RdE z τ2 tb) : RdE z (tDNotIn τ τ2) (eBin ndinD ta tb) := by
  intro g S ρ σ H Q s rs p
  refine q1 g S ρ σ H _ s rs (p.bind fun y S1 g1 H1 v e1 s1 r1 p1 => q2 g1 S1 ρ σ H1 _ s1 (rs.mono s.live e1) (p1.bind fun x S2 g2 H2 u e2 s2 r2 p2 => ?_))
  unfold ndinD at p2
  split at p2
  · rename_i kvs k h1 h2
    obtain ⟨l, ws, rfl, h3, h4⟩ := dct_at s2 h1 r2
    have hg := h4.get k
    refine ⟨l, valV ws k, rfl, .inl ⟨ws, k, h3, keyOf_rv h2 (r1.mono s1.live e2 _ _), rfl⟩, p2.here s2 ?_⟩
    have e : (valV ws k).isSome = hasK kvs k := by
      rw [← getK_has]
      cases q : getK kvs k with
      | none =>
        rw [q] at hg
        have hg : valV ws k = none := hg
        rw [hg]
        rfl
      | some d =>
        rw [q] at hg
        obtain ⟨w, h5, _⟩ := hg
        rw [h5]
        rfl
    rw [e]
    simp only [RV]
  · exact p2.elim
theorem dt_ndin (ha : DE z a ta) (hb : DE z b tb) (hm : behindInMarks .NotIn b = false := by rfl) : DT z (.Compare a [.NotIn] [b] pos) (tBl (eBin ndinD ta tb)) := by
  obtain ⟨τ, h1, q1⟩ := ha
  obtain ⟨τ2, h2, q2⟩ := hb
  exact dt_of (fun X fx => pt_cmp (pc_dnotin (by have := fx.hu; omega) (h1 X fx) (h2 X fx)) hm) (ndin_q q1 q2)
theorem RVs.rep {K : PySem.W.Frag} {g : G} {H : Hp} {ds : List D} {xs : List V} (r : RVs K g H ds xs) : ∀ n : Nat, RVs K g H (List.replicate n ds).flatten (List.replicate n xs).flatten
  | 0 => by simp only [List.replicate_zero, List.flatten_nil, RVs]
  | n + 1 => by
    simp only [List.replicate_succ, List.flatten_cons]
    exact r.append (RVs.rep r n)
end
end TL
set_option Elab.async false
set_option linter.all false
set_option maxRecDepth 100000
set_option maxHeartbeats 4000000
namespace TL
open PySem PySem.Spec PyProof.Rows L2
end TL
set_option Elab.async false
set_option linter.all false
set_option maxRecDepth 100000
set_option maxHeartbeats 4000000
namespace TL
open PySem PySem.Spec PyProof.Rows L2
theorem Wk.trans {g g1 g2 : G} {H H1 H2 : Hp} (a : Wk g H g1 H1) (b : Wk g1 H1 g2 H2) : Wk g H g2 H2 :=
  ⟨fun c o h n => (a.kp0 c o h n).trans fun o1 h1 => b.kp0 c o1 h1 (a.good c o h n), fun c o h n => by
    obtain ⟨o1, h1⟩ := (a.kp0 c o h n).some
    exact b.good c o1 h1 (a.good c o h n), fun i c h => b.pre i c (a.pre i c h)⟩
theorem Wk.rfl0 {g : G} {H : Hp} : Wk g H g H := ⟨fun _ _ e _ => .inl e, fun _ _ _ n => n, fun _ _ h => h⟩
def ItW (K : PySem.W.Frag) (g : G) (H : Hp) (ds : List D) (J : It) : Prop :=
  ∃ Gd Y, Walk J ds.length Gd Y ∧ (∀ g' H', Wk g H g' H' → Gd H') ∧
    ∀ i H1 x H2 g1 S1, i < ds.length → Wk g H g1 H1 → SR K g1 S1 H1 → Y i H1 x H2 → (∀ b u, H1 b = some u → H2 b = some u) ∧ ∃ d, ds[i]? = some d ∧ RV K g1 H2 d x
def DIv (z : Sg) (tg iter : Expr) (t : TIx) : Prop :=
  ∃ wi, (∀ X, Fits z X → PI X tg iter wi) ∧ ∀ g S ρ σ H R, SR z.K g S H → RS z.K g H ρ σ → Post z.K z.W (ItW z.K) g H σ R (t ρ S) → wi σ H R
section
variable {z : Sg} {tg e : Expr} {t : TEx} {ta : TAx} {p pos : Pos}
theorem itw_at {K : PySem.W.Frag} {g : G} {H : Hp} {ds : List D} {xs : List V} {J : It} {Gd : Hp → Prop} (w : Walk J ds.length Gd (YAt xs)) (hG : ∀ g' H', Wk g H g' H' → Gd H') (r : RVs K g H ds xs) : ItW K g H ds J := by
  refine ⟨Gd, _, w, hG, fun i H1 x H2 g1 S1 hi e l1 y => ?_⟩
  obtain ⟨rfl, hx⟩ := y
  refine ⟨fun _ _ q => q, ds[i], List.getElem?_eq_getElem hi, ?_⟩
  obtain ⟨v, e1, e2⟩ := (r.wk e).get (List.getElem?_eq_getElem hi)
  rw [hx] at e1
  cases e1
  exact e2
theorem div_lst (h : DE z e t) : DIv z tg e (iLst t) := by
  obtain ⟨τ, h1, q1⟩ := h
  refine ⟨_, fun X f => f.K ▸ pi_list (h1 X f), fun g S ρ σ H R s rs p => ?_⟩
  refine q1 g S ρ σ H _ s rs (p.bind fun d S1 g1 H1 v e1 s1 r1 p1 => ?_)
  split at p1
  · rename_i ds
    simp only [RV] at r1
    obtain ⟨a, xs, rfl, ha, hb, hr⟩ := r1
    have hG : ∀ g' H', Wk g1 H1 g' H' → SqL z.K H' a xs := fun g' H' e => .inl (.inl (e.keep ha hb))
    refine ⟨a, rfl, ⟨xs, hG g1 H1 Wk.rfl0⟩, p1.here s1 (itw_at (xs := xs) ?_ hG hr)⟩
    rw [← hr.length]
    exact walk_list
  · rename_i ns
    simp only [RV] at r1
    obtain ⟨a, rfl, ha⟩ := r1
    have hG : ∀ g' H', Wk g1 H1 g' H' → SqL z.K H' a (ns.map V.int) := fun g' H' e => (ha.wk e).sq
    refine ⟨a, rfl, ⟨_, hG g1 H1 Wk.rfl0⟩, p1.here s1 (itw_at (xs := ns.map V.int) ?_ hG (RVs.ints ns))⟩
    rw [List.length_map, ← List.length_map (f := V.int)]
    exact walk_list
  · exact p1.elim
end
def compL2 (vs vs1 : List Nat) (tg : TGx) (tt : TTx) (ti1 : TIx) (tg1 : TGx) (tt1 : TTx) (te : TEx) : List D → List D → Env1 → List O → Out (List D)
  | [], acc, _, S => .ok acc S
  | d :: ds, acc, ρ, S => (tg d (wipeD ρ vs) S).nox.bind fun ρ1 S1 => (tt ρ1 S1).nox.bind fun k S2 => if k = true then (ti1 ρ1 S2).nox.bind fun ds1 S3 => if acc.length + ds1.length ≤ sizeLine then (compL vs1 tg1 tt1 te ds1 acc ρ1 S3).bind fun acc2 S4 => compL2 vs vs1 tg tt ti1 tg1 tt1 te ds acc2 ρ S4 else .stuck else compL2 vs vs1 tg tt ti1 tg1 tt1 te ds acc ρ S2
def eLc2 (own : Bool) (vs vs1 : List Nat) (ti : TIx) (tg : TGx) (tt : TTx) (ti1 : TIx) (tg1 : TGx) (tt1 : TTx) (te : TEx) : TEx := fun ρ S => (ti ρ S).bind fun ds S1 => (compL2 vs vs1 tg tt ti1 tg1 tt1 te ds [] ρ S1).bind (mkL own)
section
variable {J : It} {n : Nat} {Gd : Hp → Prop} {Y : Nat → Hp → V → Hp → Prop}
theorem walk_go (w : Walk J n Gd Y) {H1 : Hp} {Qd : Hp → Prop} {Tr : (Hp → Prop) → V → Hp → Prop} (Pv : Nat → Hp → Prop) (h0 : Pv 0 H1) (hG : ∀ i H, i ≤ n → Pv i H → Gd H)
    (hs : ∀ i x H H', i < n → Pv i H → Y i H x H' → Tr (Pv (i + 1)) x H') (hd : ∀ H, Pv n H → Qd H) :
    ∃ W : Nat → Nat → Hp → Prop, (∃ m, W 0 m H1) ∧ ∀ i m H, W i m H → (J.stop i H ∧ Qd H) ∨ (J.go i H ∧ ∃ Nx : Hp → Prop, (∀ H', Nx H' → ∃ m', m' < m ∧ W (i + 1) m' H') ∧ ∀ x H', J.yld i H x H' → Tr Nx x H') := by
  refine ⟨fun i m H => m = n - i ∧ i ≤ n ∧ Pv i H, ⟨n, by simp, Nat.zero_le _, h0⟩, ?_⟩
  rintro i m H ⟨rfl, hi, p⟩
  have q := hG i H hi p
  by_cases hlt : i < n
  · exact .inr ⟨w.goes i H hlt q, Pv (i + 1), fun H' p' => ⟨n - (i + 1), by omega, rfl, hlt, p'⟩, fun x H' y => hs i x H H' hlt p (w.yields i H x H' hlt q y)⟩
  · have e : i = n := by omega
    subst e
    exact .inl ⟨w.stops H q, hd H p⟩
end
section
variable {z : Sg} {pos : Pos}
theorem drop_at {α : Type} {ds : List α} {i : Nat} {d : α} (h : ds[i]? = some d) : ds.drop i = d :: ds.drop (i + 1) := by
  obtain ⟨hl, hv⟩ := List.getElem?_eq_some_iff.mp h
  rw [List.drop_eq_getElem_cons hl, hv]
theorem rd_lc2 (own : Bool) {ow : List (Str × Nat)} {vs1 : List Nat} {scope : Scope} {ws ws1 : List Nat} {ti ti1 : TIx} {t t1 : TGx} {tt tt1 : TTx} {te : TEx} {wi wi1 : TI} {τg τg1 : TG} {τt τt1 : TT} {τe : TE} {zb : Sg} (hzb : zb = z.blk scope)
    (q1 : ∀ g S ρ σ H R, SR z.K g S H → RS z.K g H ρ σ → Post z.K z.W (ItR z.K) g H σ R (ti ρ S) → wi σ H R)
    (q2 : ∀ g S ρ σ H d v N, SR z.K g S H → RS z.K g H ρ σ → RV z.K g H d v → PostG z.K zb.W g H σ ws N (t d ρ S) → τg v σ H N)
    (q3 : RdT zb τt tt)
    (q5 : ∀ g S ρ σ H R, SR z.K g S H → RS z.K g H ρ σ → Post z.K zb.W (ItW z.K) g H σ R (ti1 ρ S) → wi1 σ H R)
    (q6 : ∀ g S ρ σ H d v N, SR z.K g S H → RS z.K g H ρ σ → RV z.K g H d v → PostG z.K zb.W g H σ ws1 N (t1 d ρ S) → τg1 v σ H N)
    (q7 : RdT zb τt1 tt1) (q4 : RdE zb τe te) (hw : ∀ j ∈ ws, j ∈ ow.map (·.2)) (hw1 : ∀ j ∈ ws1, j ∈ vs1) : RdE z (tLc2 wi τg τt wi1 τg1 τt1 τe (ow.map (·.2)) vs1) (eLc2 own (ow.map (·.2)) vs1 ti t tt ti1 t1 tt1 te) := by
  subst hzb
  intro g S ρ σ H Q s rs p
  refine q1 g S ρ σ H _ s rs (p.bind fun ds S1 g1 H1 J e1 s1 r1 p1 => ?_)
  obtain ⟨Gd, Y, w, hG, hY⟩ := r1
  intro Dp hn
  have hd : Dp ∉ g1.hs := fun h => s1.unbad hn (s1.live _ h)
  have rs1 := rs.mono s.live e1
  have l0 : LcAt z.K g1 H1 Dp (g1.on Dp) (upd H1 Dp (.lst [])) S1 [] :=
    ⟨fun b o q _ => .inl (same_new hn b o q), fun b o q _ _ => same_new hn b o q, (Ext.on (u := .lst []) hn).good, fun _ h => .inl h, ⟨[], by simp [G.on], fun _ h => by cases h⟩, s1.on hn, ⟨[], upd_same, by simp only [RVs]⟩, .inr rfl⟩
  refine walk_go w (fun i H' => ∃ g' S' acc, LcAt z.K g1 H1 Dp g' H' S' acc ∧ RS z.K g' H' ρ σ ∧ Post z.K z.W (RV z.K) g1 H1 σ Q ((compL2 (ow.map (·.2)) vs1 t tt ti1 t1 tt1 te (ds.drop i) acc ρ S').bind (mkL own)))
    ⟨_, S1, [], l0, rs1.mono s1.live (Ext.on hn), p1⟩ (fun i H' _ h => ?_) (fun i x H' H2 hi h y => ?_) fun H' h => ?_
  · obtain ⟨g', S', acc, l, _⟩ := h
    exact hG g' H' l.ext
  · obtain ⟨g', S', acc, l, rs', p'⟩ := h
    obtain ⟨hk, d, hdx, rd⟩ := hY i H' x H2 g' S' hi l.ext l.s y
    have e2 : Ext g' H' g' H2 := Ext.same hk
    have l2 := l.later s1 hd e2 (l.s.same hk)
    have rs2 := rs'.mono l.s.live e2
    rw [drop_at hdx] at p'
    unfold compL2 at p'
    rw [Out.bind_assoc] at p'
    refine q2 g' S' _ _ H2 d x _ l2.s (rs2.wipe _) rd (PostG.nox p' fun ρ3 S3 g3 H3 σ3 e3 s3 r3 off p3 => ?_)
    refine ⟨wipe_off off hw, ?_⟩
    have l3 := l2.later s1 hd e3 s3
    have rs3 := rs2.mono l2.s.live e3
    rw [Out.bind_assoc] at p3
    refine q3 g3 S3 ρ3 σ3 H3 _ s3 r3 (Post.bindN p3 fun k S4 g4 H4 k' e4 s4 r4 p4 => ?_)
    have r4 : k = k' := r4
    subst r4
    have l4 := l3.later s1 hd e4 s4
    have rs4 := rs3.mono l3.s.live e4
    have rr4 := r3.mono s3.live e4
    show if k = true then _ else _
    split
    · rename_i hkt
      rw [if_pos hkt, Out.bind_assoc] at p4
      refine q5 g4 S4 ρ3 σ3 H4 _ s4 rr4 (Post.bindN p4 fun ds1 S5 g5 H5 J1 e5 s5 r5 p5 => ?_)
      have l5 := l4.later s1 hd e5 s5
      have rs5 := rs4.mono l4.s.live e5
      have rr5 := rr4.mono s4.live e5
      by_cases hz : acc.length + ds1.length ≤ sizeLine
      · rw [if_pos hz, Out.bind_assoc] at p5
        obtain ⟨Gd1, Y1, w1, hG1, hY1⟩ := r5
        refine walk_go w1 (fun j H' => ∃ g' S' acc', LcAt z.K g1 H1 Dp g' H' S' acc' ∧ Wk g5 H5 g' H' ∧ acc'.length ≤ acc.length + j ∧ Post z.K z.W (RV z.K) g1 H1 σ Q ((compL vs1 t1 tt1 te (ds1.drop j) acc' ρ3 S').bind fun a S6 => (compL2 (ow.map (·.2)) vs1 t tt ti1 t1 tt1 te (ds.drop (i + 1)) a ρ S6).bind (mkL own)))
          ⟨g5, S5, acc, l5, Wk.rfl0, Nat.le_refl _, p5⟩ (fun j H' _ h => ?_) (fun j x H' H6 hj h y => ?_) fun H' h => ?_
        · obtain ⟨g', S', acc', l, wk, _⟩ := h
          exact hG1 g' H' wk
        · obtain ⟨g', S', acc', l, wk, hacc, p'⟩ := h
          obtain ⟨hk, d, hdx, rd⟩ := hY1 j H' x H6 g' S' hj wk l.s y
          have e6 : Ext g' H' g' H6 := Ext.same hk
          have l6 := l.later s1 hd e6 (l.s.same hk)
          have wk6 := wk.trans (e6.wk l.s.live)
          rw [drop_at hdx] at p'
          unfold compL at p'
          rw [Out.bind_assoc] at p'
          refine q6 g' S' _ _ H6 d x _ l6.s ((rr5.wk wk6 _ _).wipe _) rd (PostG.nox p' fun ρ7 S7 g7 H7 σ7 e7 s7 r7 off p7 => ?_)
          refine ⟨wipe_off off hw1, ?_⟩
          have l7 := l6.later s1 hd e7 s7
          have wk7 := wk6.trans (e7.wk l6.s.live)
          rw [Out.bind_assoc] at p7
          refine q7 g7 S7 ρ7 σ7 H7 _ s7 r7 (Post.bindN p7 fun k S8 g8 H8 k' e8 s8 r8 p8 => ?_)
          have r8 : k = k' := r8
          subst r8
          have l8 := l7.later s1 hd e8 s8
          have wk8 := wk7.trans (e8.wk l7.s.live)
          show if k = true then _ else _
          split
          · rename_i hkt
            rw [if_pos hkt, Out.bind_assoc] at p8
            refine q4 g8 S8 ρ7 σ7 H8 _ s8 (r7.mono s7.live e8) (Post.bindN p8 fun yv S9 g9 H9 v e9 s9 r9 p9 => ?_)
            have l9 := l8.later s1 hd e9 s9
            have wk9 := wk8.trans (e9.wk l8.s.live)
            obtain ⟨xs, hx1, hx2⟩ := l9.at_
            refine ⟨xs, hx1, by rw [hx2.length]; omega, g9, S9, acc' ++ [yv], l9.push hn hd hx1 r9, wk9.trans (Wk.wr l9.bd), by simp; omega, p9⟩
          · rename_i hkf
            rw [if_neg hkf] at p8
            exact ⟨g8, S8, acc', l8, wk8, by omega, p8⟩
        · obtain ⟨g', S', acc', l, wk, _, p'⟩ := h
          rw [List.drop_length] at p'
          exact ⟨g', S', acc', l, rs5.wk wk _ _, p'⟩
      · rw [if_neg hz] at p5
        exact p5.elim
    · rename_i hkf
      rw [if_neg hkf] at p4
      exact ⟨g4, S4, acc, l4, rs4, p4⟩
  · obtain ⟨g', S', acc, l, _, p'⟩ := h
    rw [List.drop_length] at p'
    exact l.fin s1 hn hd p'
theorem ds_setLc2 {i : Nat} {y : Str} {py spos : Pos} (own : Bool) (ow : List (Str × Nat)) (vs1 : List Nat) {elt tg iter tg1 iter1 : Expr} {ifs ifs1 : List Expr} {scope : Scope} {ws ws1 : List Nat} {ti ti1 : TIx} {t t1 : TGx} {tt tt1 : TTx} {te : TEx} (hi : DI z tg iter ti) (hg : DG (z.blk scope) tg ws t) (ht : DTs (z.blk scope) ifs tt)
    (hi1 : DIv (z.blk scope) tg1 iter1 ti1) (hg1 : DG (z.blk scope) tg1 ws1 t1) (ht1 : DTs (z.blk scope) ifs1 tt1) (he : DE (z.blk scope) elt te)
    (ok : blkC z.N z.scope scope ow = true := by decide +kernel) (hw : ∀ j ∈ ws, j ∈ ow.map (·.2) := by decide) (hw1 : ∀ j ∈ ws1, j ∈ vs1 := by decide) (hv : ∀ i ∈ vs1, i ∈ ow.map (·.2) := by decide) (hs : ∀ env x, foldedSetIterable iter env x = pure x := by intro _ _; rfl) (hs1 : ∀ env x, foldedSetIterable iter1 env x = pure x := by intro _ _; rfl)
    (hy : z.N[i]? = some y := by rfl) (hyl : z.scope.names.lookup y = some .local := by rfl) (hk : z.scope.kind = .function := by rfl) (hl : (py.line == pos.line) = true := by rfl) (ha : (scope.names.any fun (n, k) => n == y && (k == .local || k == .cell)) = false := by rfl) :
    DS z (.Assign [.Name y py] (.ListComp elt [⟨tg, iter, ifs, 0⟩, ⟨tg1, iter1, ifs1, 0⟩] scope pos) spos) (sSet i (eLc2 own (ow.map (·.2)) vs1 ti t tt ti1 t1 tt1 te)) := by
  obtain ⟨wi, h1, q1⟩ := hi
  obtain ⟨τg, h2, q2⟩ := hg
  obtain ⟨τt, h3, q3⟩ := ht
  obtain ⟨τe, h4, q4⟩ := he
  obtain ⟨wi1, h5, q5⟩ := hi1
  obtain ⟨τg1, h6, q6⟩ := hg1
  obtain ⟨τt1, h7, q7⟩ := ht1
  have rd := rd_lc2 (z := z) (scope := scope) own rfl q1 q2 q3 q5 q6 q7 q4 hw hw1
  refine ⟨tAsg (tLc2 wi τg τt wi1 τg1 τt1 τe (ow.map (·.2)) vs1) (gName i), fun X f => ps_setLc2 f.calm f.ndX (f.at hy) (by rw [f.scope]; exact hyl) (sw_true (by rw [f.scope]; exact hk) (by rw [f.scope]; exact hyl) hl ha) (h1 X f) (by rw [f.N, f.scope]; exact blkOk_by ok) hv (fun s H C cl fp => h2 _ (f.blk scope s H C cl fp)) (fun s H C cl fp => h3 _ (f.blk scope s H C cl fp)) (fun s H C cl fp => h5 _ (f.blk scope s H C cl fp)) (fun s H C cl fp => h6 _ (f.blk scope s H C cl fp)) (fun s H C cl fp => h7 _ (f.blk scope s H C cl fp)) (fun s H C cl fp => h4 _ (f.blk scope s H C cl fp)) (hs _) hs1, fun g S ρ σ H T s rs p => ?_⟩
  exact rd g S ρ σ H _ s rs (p.stm s rs fun d S1 g1 H1 v e1 s1 rs1 r1 p1 => p1.here s1 (RS.set r1 i rs1))
end
end TL
set_option Elab.async false
set_option linter.all false
set_option maxRecDepth 100000
set_option maxHeartbeats 4000000
namespace TLX
open PySem PySem.Spec PyProof.Rows L2
theorem ints_at : ∀ {us : List Value} {ns : List Int}, IntsAre us ns → ∀ (i : Nat) (v : Value), us[i]? = some v → ∃ k t, ns[i]? = some k ∧ v = .int k t
  | _, _, .nil, i, v, h => by simp at h
  | _, _, .cons k t r, 0, v, h => ⟨k, t, by simp, by simpa using h.symm⟩
  | _, _, .cons k t r, i + 1, v, h => by simpa using ints_at r i v (by simpa using h)
section
variable {P : Program} {w : World} {A : Around} {E : Value → Shared → Prop} {s : Shared}
theorem initI {S l : Addr} {items : Array Value} {xs : List Int} {R : Result → Shared → Prop} (hh : A.handled = none) (hS : s.heap.get? S = some (freshT w)) (nS : s.heap.objs.size = S + 1) (hl : s.heap.IsList l items) (ne : l < S) (hi : IntsAre items.toList xs) (few : xs.length + 1 < scanBound)
    (h : ∀ (h' : Heap) (tk c : Nat), SetR w h' S (fun j => decide (j ∈ xs)) c → c ≤ xs.length → (∀ b o, b < S → s.heap.get? b = some o → h'.get? b = some o) → R (.ok (.ret .none)) { s with heap := h', toks := tk }) : codeAny (model P w) A (.call (.builtin "set.__init__") ⟨[.ref S, .ref l], []⟩) R s := by
  have hT : s.TypeIs (.ref S) "set" := ⟨_, hS, rfl⟩
  refine codeAny_call_builtin PySem.F.called_set.init.plain PySem.F.entry_set_init (check_set_init_1 hT ?_)
  obtain ⟨⟨c1, d1, dt, sl⟩, hol, hcl, nl, hdl⟩ := id hl
  simp only at hcl hdl
  subst hcl
  subst hdl
  have n1 := PySem.F.sub_list_set
  have n2 := PySem.F.sub_list_frozenset
  have n3 : (Value.type "list" == Value.type "dict") = false := by decide
  unfold Builtin.«set.__init__» noKeywords Builtin.Frozenset.updateFrom
  generalize hPI : pyIter = PI
  wp_walk
  subst hPI
  refine wpAny_pyIter_list hl (wpAny_bind (wpAny_runValue ?_))
  have lI : l ≠ s.heap.objs.size := Nat.ne_of_lt (by rw [nS]; exact Nat.lt_succ_of_lt ne)
  have oS : S ∉ [s.heap.objs.size, l] := by
    simp only [List.mem_cons, List.not_mem_nil, or_false, not_or]
    exact ⟨Nat.ne_of_lt (by rw [nS]; exact Nat.lt_succ_self _), Nat.ne_of_gt ne⟩
  have len : items.size = xs.length := by
    have := IntsAre.length hi
    rw [Array.length_toList] at this
    exact this
  have h3 : A.in1.in1.handled = none := by simp [hh]
  have seen : ∀ (i : Nat) (v : Value), items[i]? = some v → ∃ k t, xs[i]? = some k ∧ v = .int k t := fun i v q => ints_at hi i v (by rw [Array.getElem?_toList]; exact q)
  have z0 : SetR w (s.heap.push { cls := .type "list_iterator", data := .fields #[.ref l, .int 0 0] }) S (fun j => decide (j ∈ xs.take 0)) 0 := setR_new_at (Heap.get?_push_of_some _ hS)
  refine set_update_ints ((Walks.list h3 _ l lI items).toS) S oS xs len few seen items.size 0 { s with heap := s.heap.push { cls := .type "list_iterator", data := .fields #[.ref l, .int 0 0] } } (by omega) (Nat.zero_le _) ⟨⟨_, Heap.get?_push_size _ rfl, rfl, rfl⟩, hl.push _⟩ ⟨0, Nat.le_refl _, z0⟩ fun s2 c mv hc z => ?_
  obtain ⟨h2, g2, d2, t2, o2⟩ := s2
  obtain rfl : g2 = s.gens := mv.gens
  obtain rfl : d2 = s.drawn := mv.drawn
  obtain rfl : o2 = s.os := mv.os
  refine wpAny_pure (wpAny_pure (h h2 t2 c z (by rw [← len]; exact hc) fun b o hb q => ?_))
  refine mv.heap b o ?_ (Heap.get?_push_of_some _ q)
  simp only [List.mem_cons, List.not_mem_nil, or_false, not_or]
  exact ⟨Nat.ne_of_lt hb, Nat.ne_of_lt (by rw [nS]; exact Nat.lt_succ_of_lt hb)⟩
theorem set_of_ints {l : Addr} {items : Array Value} {xs : List Int} {Q : Value → Shared → Prop} (hh : A.handled = none) (hl : s.heap.IsList l items) (hi : IntsAre items.toList xs) (few : xs.length + 1 < scanBound)
    (h : ∀ (h' : Heap) (tk c : Nat), SetR w h' s.heap.objs.size (fun j => decide (j ∈ xs)) c → c ≤ xs.length → (∀ b o, b < s.heap.objs.size → s.heap.get? b = some o → h'.get? b = some o) → Q (.ref s.heap.objs.size) { s with heap := h', toks := tk }) :
    wpAny (model P w) A (call (.type "set") [.ref l]) Q E s := by
  have ct := PySem.F.called_set
  obtain ⟨c0, tl0, mro0⟩ := ct.mro
  have made0 := ct.made
  have sub0 := ct.sub
  refine wpAny_call (codeAny_of_tree (wpAny_pure (M := model P w) ⟨Code.quiet_builtin _ (by decide +kernel), codeAny_builtin PySem.F.entry_type_call ?_⟩))
  rw [Around.under_plain (weight_type_call_type "set" [.ref l] []) rfl]
  have nt0 := ct.notType
  have cc0 := ct.canCreate
  have tc0 := PySem.F.typeCall_set_1 (.ref l)
  repeat (any_goals (first | (assumption) | (wp_step)))
  refine codeAny_mono (newT (w := w) (.ref l) (E := E) (Q1 := fun v s1 => v = .ref s.heap.objs.size ∧ s1 = { s with heap := s.heap.push (freshT w) }) ⟨rfl, rfl⟩) fun r s1 hr => ?_
  rcases r with e | (_ | _ | _ | v)
  · exact hr
  all_goals try exact (show False from hr).elim
  obtain ⟨rfl, rfl⟩ := (show _ ∧ _ from hr)
  have hS : (s.heap.push (freshT w)).get? s.heap.objs.size = some (freshT w) := Heap.get?_push_size _ rfl
  have hT : Shared.TypeIs { s with heap := s.heap.push (freshT w) } (.ref s.heap.objs.size) "set" := ⟨_, hS, rfl⟩
  have li0 := ct.init.lookup
  have bi0 := ct.init.bind (.ref s.heap.objs.size)
  repeat (any_goals (first | (assumption) | (wp_step)))
  have lt : l < s.heap.objs.size := by
    obtain ⟨o, ho, _⟩ := hl
    exact Heap.lt_size ho
  refine initI (w := w) (A := A.in1) hh hS (Heap.size_push _ _) (hl.push _) lt hi few fun h' tk c z hc kp => ?_
  repeat (any_goals (first | (assumption) | (wp_step)))
  exact h h' tk c z hc fun b o hb q => kp b o hb (Heap.get?_push_of_some _ q)
end
def insI (x : Int) : List Int → List Int
  | [] => [x]
  | y :: r => if y < x then y :: insI x r else x :: y :: r
def sortI : List Int → List Int
  | [] => []
  | x :: r => insI x (sortI r)
theorem insI_perm (x : Int) : ∀ l, (insI x l).Perm (x :: l)
  | [] => .refl _
  | y :: r => by
    unfold insI
    split
    · exact ((insI_perm x r).cons y).trans (.swap _ _ _)
    · exact .refl _
theorem sortI_perm : ∀ l, (sortI l).Perm l
  | [] => .refl _
  | x :: r => (insI_perm x _).trans ((sortI_perm r).cons x)
theorem insI_pw (x : Int) : ∀ {l : List Int}, l.Pairwise (· ≤ ·) → (insI x l).Pairwise (· ≤ ·)
  | [], _ => by simp [insI]
  | y :: r, h => by
    obtain ⟨h1, h2⟩ := List.pairwise_cons.mp h
    unfold insI
    split
    · rename_i hlt
      refine List.pairwise_cons.mpr ⟨fun z hz => ?_, insI_pw x h2⟩
      rcases List.mem_cons.mp ((insI_perm x r).mem_iff.mp hz) with e | e
      · omega
      · exact h1 z e
    · rename_i hle
      refine List.pairwise_cons.mpr ⟨fun z hz => ?_, h⟩
      rcases List.mem_cons.mp hz with e | e
      · omega
      · have := h1 z e
        omega
theorem sortI_pw : ∀ l, (sortI l).Pairwise (· ≤ ·)
  | [] => .nil
  | x :: r => insI_pw x (sortI_pw r)
theorem pwI_uniq : ∀ {l m : List Int}, l.Perm m → l.Pairwise (· ≤ ·) → m.Pairwise (· ≤ ·) → l = m
  | [], m, p, _, _ => p.symm.eq_nil.symm ▸ rfl
  | x :: l, [], p, _, _ => by cases p.eq_nil
  | x :: l, y :: m, p, h1, h2 => by
    obtain ⟨a1, a2⟩ := List.pairwise_cons.mp h1
    obtain ⟨b1, b2⟩ := List.pairwise_cons.mp h2
    have e : x = y := by
      rcases List.mem_cons.mp (p.mem_iff.mp (.head _)) with q | q
      · exact q
      · rcases List.mem_cons.mp (p.mem_iff.mpr (.head _)) with q2 | q2
        · exact q2.symm
        · have := a1 y q2
          have := b1 x q
          omega
    subst e
    rw [pwI_uniq (List.Perm.cons_inv p) a2 b2]
def insU (x : Int) : List Int → List Int
  | [] => [x]
  | y :: r => if y < x then y :: insU x r else if x = y then y :: r else x :: y :: r
def setI : List Int → List Int
  | [] => []
  | x :: r => insU x (setI r)
theorem insU_mem (x : Int) : ∀ {l : List Int} {z : Int}, z ∈ insU x l ↔ z = x ∨ z ∈ l
  | [], z => by simp [insU]
  | y :: r, z => by
    unfold insU
    split
    · rw [List.mem_cons, insU_mem x, List.mem_cons]
      constructor <;> rintro (h | h | h) <;> simp [h]
    · split
      · rename_i h
        subst h
        simp
      · simp
theorem setI_mem : ∀ {l : List Int} {z : Int}, z ∈ setI l ↔ z ∈ l
  | [], z => by simp [setI]
  | x :: r, z => by rw [setI, insU_mem, setI_mem, List.mem_cons]
theorem insU_pw (x : Int) : ∀ {l : List Int}, l.Pairwise (· < ·) → (insU x l).Pairwise (· < ·)
  | [], _ => by simp [insU]
  | y :: r, h => by
    obtain ⟨h1, h2⟩ := List.pairwise_cons.mp h
    unfold insU
    split
    · rename_i hlt
      refine List.pairwise_cons.mpr ⟨fun z hz => ?_, insU_pw x h2⟩
      rcases (insU_mem x).mp hz with e | e
      · omega
      · exact h1 z e
    · split
      · exact h
      · refine List.pairwise_cons.mpr ⟨fun z hz => ?_, h⟩
        rcases List.mem_cons.mp hz with e | e
        · omega
        · have := h1 z e
          omega
theorem setI_pw : ∀ l, (setI l).Pairwise (· < ·)
  | [] => .nil
  | x :: r => insU_pw x (setI_pw r)
theorem ltI_uniq : ∀ {l m : List Int}, (∀ z, z ∈ l ↔ z ∈ m) → l.Pairwise (· < ·) → m.Pairwise (· < ·) → l = m
  | [], [], _, _, _ => rfl
  | [], y :: m, p, _, _ => by have := (p y).mpr (.head _); cases this
  | x :: l, [], p, _, _ => by have := (p x).mp (.head _); cases this
  | x :: l, y :: m, p, h1, h2 => by
    obtain ⟨a1, a2⟩ := List.pairwise_cons.mp h1
    obtain ⟨b1, b2⟩ := List.pairwise_cons.mp h2
    have e : x = y := by
      rcases List.mem_cons.mp ((p x).mp (.head _)) with q | q
      · exact q
      · rcases List.mem_cons.mp ((p y).mpr (.head _)) with q2 | q2
        · exact q2.symm
        · have := a1 y q2
          have := b1 x q
          omega
    subst e
    rw [ltI_uniq (fun z => ?_) a2 b2]
    constructor <;> intro hz
    · rcases List.mem_cons.mp ((p z).mp (.tail _ hz)) with q | q
      · have := a1 z hz
        omega
      · exact q
    · rcases List.mem_cons.mp ((p z).mpr (.tail _ hz)) with q | q
      · have := b1 z hz
        omega
      · exact q
theorem setI_eq {ns xs : List Int} (h1 : ns.Pairwise (· < ·)) (h2 : ∀ k, k ∈ ns ↔ decide (k ∈ xs) = true) : ns = setI xs :=
  ltI_uniq (fun z => by rw [h2 z, decide_eq_true_eq, setI_mem]) h1 (setI_pw xs)
section
variable {X : Cx}
def rSetI (K : PySem.W.Frag) (w : World) : List V → Hp → VK → Prop := fun vs H Q => ∃ (a : Addr) (xs : List Int), vs = [V.ref a] ∧ SqL K H a (xs.map V.int) ∧ xs.length < 64 ∧ ∀ p c, H p = none → c ≤ xs.length → Q (.ref p) (upd H p (SetO w p (fun j => decide (j ∈ xs)) c))
theorem cr_setI (hc : X.calm = true) : CallR X (.type "set") (rSetI X.K X.w) := by
  intro pins s σ H vs us Q I r h
  obtain ⟨a, xs, rfl, hs, few, q⟩ := h
  obtain ⟨its, rv, hl, _⟩ := I.list hs
  rw [Vals.ref1 r]
  refine set_of_ints (I.ok.hd hc) hl.isList rv.ints (by have : scanBound = 4096 := rfl; omega) fun h' tk c z hcl kp => ?_
  have k2 : ∀ b o, s.heap.get? b = some o → h'.get? b = some o := fun b o e => kp b o (Heap.lt_size e) e
  have ok : ObjOk X.prog X.w (upd H s.heap.objs.size (SetO X.w s.heap.objs.size (fun j => decide (j ∈ xs)) c)) h' s.heap.objs.size (SetO X.w s.heap.objs.size (fun j => decide (j ∈ xs)) c) := by
    obtain ⟨o, es, ep, t, ho, _⟩ := id z
    exact ⟨z, ⟨o, ho⟩, fun h1 h2 p k => SetR.at p k⟩
  exact ⟨.ref _, upd H s.heap.objs.size (SetO X.w s.heap.objs.size (fun j => decide (j ∈ xs)) c), I.laid (t' := tk) k2 (Nat.le_refl _) ok, rfl, q _ c (I.hok.fresh (Nat.le_refl _)) hcl⟩
end
end TLX
namespace TL
open PySem PySem.Spec PyProof.Rows L2 TLX
def sortID (own : Bool) (ds : List D) (S : List O) : Out D := match ds with
  | [d] => (match (lstOf S d).bind intsOf with
    | some xs => mkL own ((sortI xs).map D.int) S
    | none => .stuck)
  | _ => .stuck
def sortSetI (own : Bool) (ds : List D) (S : List O) : Out D := match ds with
  | [d] => (match (lstOf S d).bind intsOf with
    | some xs => if xs.length < 64 then mkL own ((setI xs).map D.int) S else .stuck
    | none => .stuck)
  | _ => .stuck
section
variable {z : Sg} {e : Expr} {p p2 pos pos2 : Pos} {ta : TAx}
theorem de_sortI (own : Bool) (hm : z.mg "sorted" = none) (ha : DA z [e] ta) (hg : Gz z "sorted" := by rfl) (hs : ∀ env, starEach [e] env = (false, eval e env) :: starEach [] env := by intro _; rfl) :
    DE z (.Call (.Name "sorted" p) [e] [] pos) (eArgs (sortID own) ta) := by
  obtain ⟨τ, h1, q1⟩ := ha
  refine ⟨_, fun X fx => fx.K ▸ pe_callB cr_sortedI (fx.gl hg) (fx.mgl hm) (by decide +kernel) (h1 X fx) (by decide) (by decide) (hs _) rfl, fun g S ρ σ H Q s rs p => ?_⟩
  refine q1 g S ρ σ H _ s rs (p.bind fun xs S1 g1 H1 vs e1 s1 r1 p1 => ?_)
  unfold sortID at p1
  split at p1
  · rename_i d
    split at p1
    · rename_i xs q
      obtain ⟨v, rfl, rr⟩ := rvs1 r1
      obtain ⟨ds, h2, h3⟩ := Option.bind_eq_some_iff.mp q
      obtain ⟨a, ws, rfl, h4, h5⟩ := lst_at s1 h2 rr
      rw [ints_vals h3 h5] at h4
      refine ⟨a, xs, rfl, h4, fun ns' b pm hs hb => ?_⟩
      rw [pwI_uniq (pm.trans (sortI_perm xs).symm) hs (sortI_pw xs)]
      exact mkL_ok s1 (RVs.ints _) p1 b hb
    · exact p1.elim
  · exact p1.elim
theorem SetO.keep {K : PySem.W.Frag} {g : G} {S : List O} {H : Hp} {q : Addr} {o : HO} (s : SR K g S H) (hq : H q = none) : SR K g S (upd H q o) ∧ Ext g H g (upd H q o) := ⟨s.same (same_new hq), Ext.same (same_new hq)⟩
theorem de_sortSetI (own : Bool) (hm : z.mg "sorted" = none) (hm2 : z.mg "set" = none) (ha : DA z [e] ta) (hg : Gz z "sorted" := by rfl) (hg2 : Gz z "set" := by rfl) (hs : ∀ env, starEach [e] env = (false, eval e env) :: starEach [] env := by intro _; rfl) :
    DE z (.Call (.Name "sorted" p) [.Call (.Name "set" p2) [e] [] pos2] [] pos) (eArgs (sortSetI own) ta) := by
  obtain ⟨τ, h1, q1⟩ := ha
  refine ⟨_, fun X fx => fx.K ▸ fx.w ▸ pe_callB (cr_sortedSet (fx.calm)) (fx.gl hg) (fx.mgl hm) (by decide +kernel) (pa_cons (pe_callTy (cr_setI fx.calm) (fx.gl hg2) (fx.mgl hm2) (by decide +kernel) (h1 X fx) (by decide) (by decide) (hs _) rfl) pa_nil rfl) (by decide) (by decide) rfl rfl, fun g S ρ σ H Q s rs p => ?_⟩
  refine q1 g S ρ σ H _ s rs (p.bind fun xs S1 g1 H1 vs e1 s1 r1 p1 => ?_)
  unfold sortSetI at p1
  split at p1
  · rename_i d
    split at p1
    · rename_i xs q
      split at p1
      · rename_i few
        obtain ⟨v, rfl, rr⟩ := rvs1 r1
        obtain ⟨ds, h2, h3⟩ := Option.bind_eq_some_iff.mp q
        obtain ⟨a, ws, rfl, h4, h5⟩ := lst_at s1 h2 rr
        rw [ints_vals h3 h5] at h4
        refine ⟨a, xs, rfl, h4, few, fun q c hq hc => ⟨q, fun j => decide (j ∈ xs), c, rfl, upd_same, by omega, fun ys b hs hm hl hb => ?_⟩⟩
        obtain ⟨s2, e2⟩ := SetO.keep (o := L2.SetO z.w q (fun j => decide (j ∈ xs)) c) s1 hq
        rw [setI_eq hs hm]
        exact mkL_ok s2 (RVs.ints _) (Post.later e2 s2 p1) b hb
      · exact p1.elim
    · exact p1.elim
  · exact p1.elim
end
end TL
set_option Elab.async false
set_option linter.all false
set_option maxRecDepth 100000
set_option maxHeartbeats 4000000
namespace TLX
open PySem PySem.Spec PyProof.Rows L2
section
variable {P : Program} {w : World} {A : Around} {E : Value → Shared → Prop} {s : Shared}
theorem live0 (m : Nat) : ((List.range (m + 1)).filterMap fun j => ((Array.replicate (m + 1) (none : Option Nat)).getD j none).map (j, ·)) = [] := by
  refine List.filterMap_eq_nil_iff.mpr fun j hj => ?_
  have : (Array.replicate (m + 1) (none : Option Nat)).getD j none = none := by
    rw [Array.getD_eq_getD_getElem?, Array.getElem?_replicate]
    split <;> rfl
  rw [this]
  rfl
theorem relaid0 (t : SetTable) (n : Nat) : t.relaid #[] n = some ({ mask := SetTable.sizeAbove n - 1, place := #[], dummies := #[], finger := t.finger, led := t.led, moves := t.movedTo (SetTable.sizeAbove n - 1), plain := t.plain }, #[]) := by
  rw [show t.relaid #[] n = some ({ mask := SetTable.sizeAbove n - 1, place := (((List.range (SetTable.sizeAbove n - 1 + 1)).filterMap fun j => ((Array.replicate (SetTable.sizeAbove n - 1 + 1) (none : Option Nat)).getD j none).map (j, ·)).map (·.1)).toArray, dummies := #[], finger := t.finger, led := t.led, moves := t.movedTo (SetTable.sizeAbove n - 1), plain := t.plain }, (((List.range (SetTable.sizeAbove n - 1 + 1)).filterMap fun j => ((Array.replicate (SetTable.sizeAbove n - 1 + 1) (none : Option Nat)).getD j none).map (j, ·)).map (·.2)).toArray) from rfl, live0]
  rfl
theorem relay0 {S : Addr} {n : Nat} {Q : Unit → Shared → Prop} (ho : s.heap.get? S = some (freshT w)) (hz : SetTable.sizeAbove n ≤ sizeLine)
    (h : ∀ h', Heap.SameBut S s.heap h' → SetR w h' S (fun j => decide (j ∈ ([] : List Int))) 0 → Q () { s with heap := h' }) : wpAny (model P w) A (setRelay S n) Q E s := by
  unfold setRelay
  refine wpAny_bind (wpAny_setState_of (es := #[]) (ep := 0) ho rfl rfl ?_)
  dsimp only
  rw [if_neg (by omega)]
  have e : (SetTable.fresh 0 0 (!w.params.followText "set-order")).relaid ((#[] : Array (Int × Value)).map (·.1)) n = some ({ mask := SetTable.sizeAbove n - 1, place := #[], dummies := #[], finger := 0, led := !w.params.followText "set-order", moves := (SetTable.fresh 0 0 (!w.params.followText "set-order")).movedTo (SetTable.sizeAbove n - 1), plain := (SetTable.fresh 0 0 (!w.params.followText "set-order")).plain }, #[]) := by
    rw [Array.map_empty]
    exact relaid0 _ n
  rw [e]
  refine wpAny_bind (m := pure _) (wpAny_pure ?_)
  refine wpAny_bind (m := pure _) (wpAny_pure ?_)
  dsimp only
  refine wpAny_storeSet_of (es := #[]) (ep := 0) ho rfl (h _ (Heap.SameBut.update s.heap S _) ?_) (by simp)
  refine ⟨_, _, _, _, store_at ho rfl, ⟨rfl, rfl, rfl⟩, rfl, fun e he => by simp at he, by simp, fun k => by simp, by decide, ?_, rfl, List.Pairwise.nil, ?_⟩
  · simp [SetTable.fits, SetTable.fill]
  · show _ ∨ (!w.params.followText "set-order") = true
    cases w.params.followText "set-order"
    · exact .inr rfl
    · exact .inl rfl
theorem few_size : ∀ n : Nat, n < 64 → SetTable.sizeAbove (n * 2) ≤ sizeLine := by
  have h : ∀ n : Fin 64, SetTable.sizeAbove (n.val * 2) ≤ 16777216 := by decide +kernel
  intro n hn
  rw [sizeLine_eq]
  exact h ⟨n, hn⟩
theorem initDI {S l : Addr} {kvs : List (Key × Value)} {xs : List Int} {R : Result → Shared → Prop} (hh : A.handled = none) (hS : s.heap.get? S = some (freshT w)) (nS : s.heap.objs.size = S + 1) (hd : s.heap.DictOf (mixKind P w) l kvs) (hsys : (l == sysModules) = false) (ne : l < S) (hk : kvs.map (·.1) = xs.map Sum.inl) (few : xs.length < 64)
    (h : ∀ (h' : Heap) (c : Nat), SetR w h' S (fun j => decide (j ∈ xs)) c → c ≤ xs.length → (∀ b o, b < S → s.heap.get? b = some o → h'.get? b = some o) → R (.ok (.ret .none)) { s with heap := h' }) : codeAny (model P w) A (.call (.builtin "set.__init__") ⟨[.ref S, .ref l], []⟩) R s := by
  have hT : s.TypeIs (.ref S) "set" := ⟨_, hS, rfl⟩
  refine codeAny_call_builtin PySem.F.called_set.init.plain PySem.F.entry_set_init (check_set_init_1 hT ?_)
  obtain ⟨od, es, ep, hol, hcl, hdl, hko, hpo, hnd⟩ := id hd
  obtain ⟨c1, d1, dt, sl⟩ := od
  have hc1 := hcl.1
  simp only at hc1 hdl
  subst hc1
  subst hdl
  have n1 := PySem.F.sub_dict_set
  have n2 := PySem.F.sub_dict_frozenset
  have n3 : (Value.type "dict" == Value.type "dict") = true := by decide
  unfold Builtin.«set.__init__» noKeywords Builtin.Frozenset.updateFrom
  wp_walk
  have len : es.size = xs.length := by
    have a := hpo.length
    have b := congrArg List.length hk
    rw [List.length_map, List.length_map] at b
    rw [Array.length_toList] at a
    omega
  have mid : ∀ h0 : Heap, Heap.SameBut S s.heap h0 → SetR w h0 S (fun j => decide (j ∈ ([] : List Int))) 0 → wpAny (model P w) A.in1 (do
          let __do_lift ← dictEntries l
          forIn [:__do_lift.size] PUnit.unit fun i (__s : PUnit) => (do
              let __do_lift ← dictEntries l
              match __do_lift[i]? with
                | some e => do
                  let _ ← holding [e.key] (setAddHashed S e.key e.hash)
                  let __do_lift ← dictEpoch l
                  if (__do_lift != ep) = true then do
                      (unsupported (toString "set.__init__" ++ toString ":changed-during-callback") : Sem PUnit)
                      pure (ForInStep.yield PUnit.unit)
                    else pure (ForInStep.yield PUnit.unit)
                | _ => do
                  (unsupported "internal:set-from-dict" : Sem PUnit)
                  pure (ForInStep.yield PUnit.unit) : Sem (ForInStep PUnit))
          pure ()) (fun _ s' => ∃ h' c, s' = { s with heap := h' } ∧ SetR w h' S (fun j => decide (j ∈ xs)) c ∧ c ≤ xs.length ∧ ∀ b o, b < S → s.heap.get? b = some o → h'.get? b = some o) (fun _ _ => False) { s with heap := h0 } := by
    intro h0 sb0 z0
    have hol0 : h0.get? l = some { cls := Value.type "dict", dict := d1, data := Data.dict es ep, slots := sl } := (sb0.2 l (Nat.ne_of_lt ne)).trans hol
    refine wpAny_bind (wpAny_dictEntries hol0 rfl ?_)
    refine wpAny_bind ?_
    rw [Std.Legacy.Range.forIn_eq_forIn_range']
    simp only [Std.Legacy.Range.size, Nat.sub_zero, Nat.add_sub_cancel, Nat.div_one]
    refine wpAny_forIn_list _
      (fun rest _ s' => ∃ h' i c, s' = { s with heap := h' } ∧ rest = List.range' i (es.size - i) ∧ i ≤ es.size ∧ c ≤ i ∧ SetR w h' S (fun j => decide (j ∈ xs.take i)) c ∧ Heap.SameBut S s.heap h')
      _ ?_ ?_ _ _ ⟨h0, 0, 0, rfl, by simp, Nat.zero_le _, Nat.le_refl _, by simpa using z0, sb0⟩
    · rintro x rest b s' ⟨h', i, c, rfl, hr, hi, hc, hz, sb⟩
      have hlt : i < es.size := by
        rcases Nat.lt_or_ge i es.size with h | h
        · exact h
        · rw [Nat.sub_eq_zero_of_le h] at hr; simp at hr
      obtain ⟨rfl, hrest⟩ : x = i ∧ rest = List.range' (i + 1) (es.size - (i + 1)) := by
        have e : es.size - i = (es.size - (i + 1)) + 1 := by omega
        rw [e, List.range'_succ] at hr
        injection hr with h1 h2
        exact ⟨h1, h2⟩
      have hol' : h'.get? l = some { cls := Value.type "dict", dict := d1, data := Data.dict es ep, slots := sl } := (sb.2 l (Nat.ne_of_lt ne)).trans hol
      refine wpAny_bind (wpAny_dictEntries hol' rfl ?_)
      rw [Array.getElem?_eq_getElem hlt]
      have hx : x < xs.length := by omega
      have hkl : x < kvs.length := by
        have := hpo.length
        rw [Array.length_toList] at this
        omega
      have hkv : kvs[x]? = some kvs[x] := List.getElem?_eq_getElem hkl
      have hk1 : kvs[x].1 = Sum.inl xs[x] := by
        have a : (kvs.map (·.1))[x]? = (xs.map Sum.inl)[x]? := by rw [hk]
        rw [List.getElem?_map, List.getElem?_map, hkv, List.getElem?_eq_getElem hx] at a
        simpa using a
      obtain ⟨hkey, hval⟩ := hpo.get? (e := es[x]) (by simp [hlt]) (show kvs[x]? = some (Sum.inl xs[x], kvs[x].2) by rw [hkv, ← hk1])
      obtain ⟨k', hkey', hhash⟩ := hko es[x] (Array.getElem_mem hlt)
      obtain rfl : k' = Sum.inl xs[x] := (mixKind P w).inj _ _ _ hkey' hkey
      obtain ⟨tk, hkt⟩ : ∃ tk, es[x].key = Value.int xs[x] tk := by
        rcases keyIs_shape (show keyIs (Sum.inl xs[x]) es[x].key = true from hkey) with ⟨i, t, e1, e2⟩ | ⟨y, t, e1, e2⟩
        · cases e1
          exact ⟨t, e2⟩
        · cases e1
      show wpAny _ _ (holding [es[x].key] (setAddHashed S es[x].key es[x].hash) >>= _) _ _ _
      rw [hhash, hkt]
      refine wpAny_bind (wpAny_holding (setR_add_hashed hz (by have : scanBound = 4096 := rfl; omega) fun h'' sb'' hz'' => ?_))
      have hol'' : h''.get? l = some { cls := Value.type "dict", dict := d1, data := Data.dict es ep, slots := sl } := (sb''.2 l (Nat.ne_of_lt ne)).trans hol'
      refine wpAny_bind (wpAny_dictEpoch hol'' rfl ?_)
      rw [if_neg (by simp)]
      refine wpAny_pure ⟨h'', x + 1, _, rfl, hrest, hlt, ?_, hz''.congr fun j => ?_, sb.trans sb''⟩
      · split <;> omega
      · rw [List.take_succ, List.getElem?_eq_getElem hx]
        show decide _ = (decide _ || decide _)
        rw [← Bool.decide_or]
        refine decide_eq_decide.mpr ?_
        rw [List.mem_append]
        simp
    · rintro b s' ⟨h', i, c, rfl, hr, hi, hc, hz, sb⟩
      have hin : i = es.size := by
        rcases Nat.lt_or_ge i es.size with h | h
        · have e : es.size - i = (es.size - (i + 1)) + 1 := by omega
          rw [e, List.range'_succ] at hr
          cases hr
        · omega
      subst hin
      rw [len, List.take_length] at hz
      exact wpAny_pure ⟨h', c, rfl, hz, by omega, fun b o hb q => (sb.2 b (Nat.ne_of_lt hb)).trans q⟩
  unfold SetTable.roomFor
  dsimp only
  split
  · rename_i wanted hw
    split at hw
    · cases hw
      refine relay0 hS ?_ ?_
      · rw [show (SetTable.fresh 0 0 (!w.params.followText "set-order")).place.size = 0 from rfl, Nat.zero_add]
        exact few_size _ (by omega)
      · intro h0 sb z
        refine wpAny_mono (mid h0 sb z) (fun _ s' q => ?_) fun _ _ q => q.elim
        obtain ⟨h', c, rfl, hz, hc, kp⟩ := q
        exact wpAny_pure (h h' c hz hc kp)
    · cases hw
  · refine wpAny_pure (wpAny_mono (mid s.heap (Heap.SameBut.refl _ _) (by simpa using setR_new_at (ns := []) hS)) (fun _ s' q => ?_) fun _ _ q => q.elim)
    obtain ⟨h', c, rfl, hz, hc, kp⟩ := q
    exact wpAny_pure (h h' c hz hc kp)
end
end TLX
namespace TLX
open PySem PySem.Spec PyProof.Rows L2
section
variable {P : Program} {w : World} {A : Around} {E : Value → Shared → Prop} {s : Shared}
theorem set_of_dict {l : Addr} {kvs : List (Key × Value)} {xs : List Int} {Q : Value → Shared → Prop} (hh : A.handled = none) (hd : s.heap.DictOf (mixKind P w) l kvs) (hsys : (l == sysModules) = false) (hk : kvs.map (·.1) = xs.map Sum.inl) (few : xs.length < 64)
    (h : ∀ (h' : Heap) (c : Nat), SetR w h' s.heap.objs.size (fun j => decide (j ∈ xs)) c → c ≤ xs.length → (∀ b o, b < s.heap.objs.size → s.heap.get? b = some o → h'.get? b = some o) → Q (.ref s.heap.objs.size) { s with heap := h' }) :
    wpAny (model P w) A (call (.type "set") [.ref l]) Q E s := by
  have ct := PySem.F.called_set
  obtain ⟨c0, tl0, mro0⟩ := ct.mro
  have made0 := ct.made
  have sub0 := ct.sub
  refine wpAny_call (codeAny_of_tree (wpAny_pure (M := model P w) ⟨Code.quiet_builtin _ (by decide +kernel), codeAny_builtin PySem.F.entry_type_call ?_⟩))
  rw [Around.under_plain (weight_type_call_type "set" [.ref l] []) rfl]
  have nt0 := ct.notType
  have cc0 := ct.canCreate
  have tc0 := PySem.F.typeCall_set_1 (.ref l)
  repeat (any_goals (first | (assumption) | (wp_step)))
  refine codeAny_mono (newT (w := w) (.ref l) (E := E) (Q1 := fun v s1 => v = .ref s.heap.objs.size ∧ s1 = { s with heap := s.heap.push (freshT w) }) ⟨rfl, rfl⟩) fun r s1 hr => ?_
  rcases r with e | (_ | _ | _ | v)
  · exact hr
  all_goals try exact (show False from hr).elim
  obtain ⟨rfl, rfl⟩ := (show _ ∧ _ from hr)
  have hS : (s.heap.push (freshT w)).get? s.heap.objs.size = some (freshT w) := Heap.get?_push_size _ rfl
  have hT : Shared.TypeIs { s with heap := s.heap.push (freshT w) } (.ref s.heap.objs.size) "set" := ⟨_, hS, rfl⟩
  have li0 := ct.init.lookup
  have bi0 := ct.init.bind (.ref s.heap.objs.size)
  repeat (any_goals (first | (assumption) | (wp_step)))
  have lt : l < s.heap.objs.size := by
    obtain ⟨o, _, _, ho, _⟩ := hd
    exact Heap.lt_size ho
  have hd2 : (s.heap.push (freshT w)).DictOf (mixKind P w) l kvs := by
    obtain ⟨o, es, ep, ho, r⟩ := hd
    exact ⟨o, es, ep, Heap.get?_push_of_some _ ho, r⟩
  refine initDI (w := w) (A := A.in1) hh hS (Heap.size_push _ _) hd2 hsys lt hk few fun h' c z hc kp => ?_
  repeat (any_goals (first | (assumption) | (wp_step)))
  exact h h' c z hc fun b o hb q => kp b o hb (Heap.get?_push_of_some _ q)
end
section
variable {X : Cx}
theorem kv_keys : ∀ {ws : List (Key × V)} {vs : List (Key × Value)}, KV ws vs → vs.map (·.1) = ws.map (·.1)
  | _, _, .nil => rfl
  | _, _, .cons h r => by
    rw [List.map_cons, List.map_cons, kv_keys r]
    first | rw [h.1] | rw [← h.1]
def rSetDI (w : World) : List V → Hp → VK → Prop := fun vs H Q => ∃ (a : Addr) (ws : List (Key × V)) (xs : List Int), vs = [V.ref a] ∧ Rd H a (.dK ws) ∧ ws.map (·.1) = xs.map Sum.inl ∧ xs.length < 64 ∧ ∀ p c, H p = none → c ≤ xs.length → Q (.ref p) (upd H p (SetO w p (fun j => decide (j ∈ xs)) c))
theorem cr_setDI (hc : X.calm = true) : CallR X (.type "set") (rSetDI X.w) := by
  intro pins s σ H vs us Q I r h
  obtain ⟨a, ws, xs, rfl, hs, hk, few, q⟩ := h
  obtain ⟨_, hsys, vs, kv, hd⟩ := dk_rd I.hok hs
  rw [Vals.ref1 r]
  refine set_of_dict (I.ok.hd hc) hd hsys ((kv_keys kv).trans hk) few fun h' c z hcl kp => ?_
  have k2 : ∀ b o, s.heap.get? b = some o → h'.get? b = some o := fun b o e => kp b o (Heap.lt_size e) e
  have ok : ObjOk X.prog X.w (upd H s.heap.objs.size (SetO X.w s.heap.objs.size (fun j => decide (j ∈ xs)) c)) h' s.heap.objs.size (SetO X.w s.heap.objs.size (fun j => decide (j ∈ xs)) c) := by
    obtain ⟨o, es, ep, t, ho, _⟩ := id z
    exact ⟨z, ⟨o, ho⟩, fun h1 h2 p k => SetR.at p k⟩
  exact ⟨.ref _, upd H s.heap.objs.size (SetO X.w s.heap.objs.size (fun j => decide (j ∈ xs)) c), I.laid (t' := s.toks) k2 (Nat.le_refl _) ok, rfl, q _ c (I.hok.fresh (Nat.le_refl _)) hcl⟩
end
end TLX
namespace TL
open PySem PySem.Spec PyProof.Rows L2 TLX
def keysI : List (Key × D) → Option (List Int)
  | [] => some []
  | (.inl i, _) :: r => (keysI r).map (i :: ·)
  | _ => none
theorem keysI_ok {K : PySem.W.Frag} {g : G} {H : Hp} : ∀ {kvs : List (Key × D)} {xs : List Int} {ws : List (Key × V)}, keysI kvs = some xs → RKs K g H kvs ws → ws.map (·.1) = xs.map Sum.inl
  | [], xs, ws, e, r => by
    simp only [keysI, Option.some.injEq] at e
    simp only [RKs] at r
    subst e r
    rfl
  | (k, d) :: kvs, xs, ws, e, r => by
    cases k with
    | inr k => simp only [keysI] at e; cases e
    | inl i =>
      simp only [keysI] at e
      obtain ⟨ys, h1, rfl⟩ := Option.map_eq_some_iff.mp e
      simp only [RKs] at r
      obtain ⟨v, r', rfl, _, h2⟩ := r
      rw [List.map_cons, List.map_cons, keysI_ok h1 h2]
def sortSetDI (own : Bool) (ds : List D) (S : List O) : Out D := match ds with
  | [d] => (match (dctOf S d).bind keysI with
    | some xs => if xs.length < 64 then mkL own ((setI xs).map D.int) S else .stuck
    | none => .stuck)
  | _ => .stuck
section
variable {z : Sg} {e : Expr} {p p2 pos pos2 : Pos} {ta : TAx}
theorem de_sortSetDI (own : Bool) (hm : z.mg "sorted" = none) (hm2 : z.mg "set" = none) (ha : DA z [e] ta) (hg : Gz z "sorted" := by rfl) (hg2 : Gz z "set" := by rfl) (hs : ∀ env, starEach [e] env = (false, eval e env) :: starEach [] env := by intro _; rfl) :
    DE z (.Call (.Name "sorted" p) [.Call (.Name "set" p2) [e] [] pos2] [] pos) (eArgs (sortSetDI own) ta) := by
  obtain ⟨τ, h1, q1⟩ := ha
  refine ⟨_, fun X fx => fx.w ▸ pe_callB (cr_sortedSet (fx.calm)) (fx.gl hg) (fx.mgl hm) (by decide +kernel) (pa_cons (pe_callTy (cr_setDI fx.calm) (fx.gl hg2) (fx.mgl hm2) (by decide +kernel) (h1 X fx) (by decide) (by decide) (hs _) rfl) pa_nil rfl) (by decide) (by decide) rfl rfl, fun g S ρ σ H Q s rs p => ?_⟩
  refine q1 g S ρ σ H _ s rs (p.bind fun xs S1 g1 H1 vs e1 s1 r1 p1 => ?_)
  unfold sortSetDI at p1
  split at p1
  · rename_i d
    split at p1
    · rename_i xs q
      split at p1
      · rename_i few
        obtain ⟨v, rfl, rr⟩ := rvs1 r1
        obtain ⟨kvs, h2, h3⟩ := Option.bind_eq_some_iff.mp q
        obtain ⟨a, ws, rfl, h4, h5⟩ := dct_at s1 h2 rr
        refine ⟨a, ws, xs, rfl, h4, keysI_ok h3 h5, few, fun q c hq hc => ⟨q, fun j => decide (j ∈ xs), c, rfl, upd_same, by omega, fun ys b hs hm hl hb => ?_⟩⟩
        obtain ⟨s2, e2⟩ := SetO.keep (o := L2.SetO z.w q (fun j => decide (j ∈ xs)) c) s1 hq
        rw [setI_eq hs hm]
        exact mkL_ok s2 (RVs.ints _) (Post.later e2 s2 p1) b hb
      · exact p1.elim
    · exact p1.elim
  · exact p1.elim
end
end TL
set_option Elab.async false
set_option linter.all false
set_option maxRecDepth 100000
set_option maxHeartbeats 4000000
namespace TL
open PySem PySem.Spec PyProof.Rows L2
def fuI (k : Nat) : Env1 → List O → Nat := fun ρ _ => match ρ[k]? with
  | some (some (.int i)) => i.natAbs + 2
  | _ => 0
end TL
namespace TL
open PySem PySem.Spec PyProof.Rows L2
section
variable {z : Sg} {pos : Pos} {te : TEx}
theorem sw_lc {elt : Expr} {gs : List Comprehension} {scope : Scope} {p py : Pos} {y : Str} {l : Nat} {env : Env} (hy : env.scope.names.lookup y = some .cell) : swapsWith (.ListComp elt gs scope p) (some (.Name y py)) l env = pure false := by
  have ky : env.kindOf y = some .cell := hy
  unfold swapsWith
  simp only [ky]
  cases h : (env.blockKind == ScopeKind.function) <;> rfl
theorem sw_dc {k v : Expr} {gs : List Comprehension} {scope : Scope} {p py : Pos} {y : Str} {l : Nat} {env : Env} (hy : env.scope.names.lookup y = some .cell) : swapsWith (.DictComp k v gs scope p) (some (.Name y py)) l env = pure false := by
  have ky : env.kindOf y = some .cell := hy
  unfold swapsWith
  simp only [ky]
  cases h : (env.blockKind == ScopeKind.function) <;> rfl
theorem ds_setK {i : Nat} {x : Str} {pos' : Pos} {e : Expr} (he : DE z e te) (hi : z.N[i]? = some x := by rfl) (hx : Sto z x := by first | exact Or.inl rfl | exact Or.inr ⟨rfl, rfl⟩) (hs : ∀ env : Env, env.scope = z.scope → swapsWith e (some (.Name x pos')) pos.line env = pure false := by first | exact fun _ h => sw_lc (h ▸ rfl) | exact fun _ h => sw_dc (h ▸ rfl)) : DS z (.Assign [.Name x pos'] e pos) (sSet i te) := by
  obtain ⟨τ, h1, q1⟩ := he
  refine ⟨_, fun X f => ps_set f.ndX (f.at hi) (f.loc hx.loc) (h1 X f) (hs _ f.scope) (f.st hx), fun g S ρ σ H T s rs p => ?_⟩
  refine q1 g S ρ σ H _ s rs (p.stm s rs fun d S1 g1 H1 v e1 s1 rs1 r1 p1 => ?_)
  exact p1.here s1 (RS.set r1 i rs1)
end
end TL
namespace TL
open PySem PySem.Spec PyProof.Rows L2
theorem de_call0T {z : Sg} {k : Nat} {x : Str} {F : TF} {p pos : Pos} (T : TDef z.P z.w z.K z.mg z.base k x 0 F) (hk : k ≤ z.lv) (hg : Gz z x := by rfl) (hdb : (x == ("__debug__" : Str)) = false := by decide) :
    DE z (.Call (.Name x p) [] [] pos) (eArgs F aNil) := by
  obtain ⟨f, fd, ps, h1, h2, h3, h4, h5⟩ := T.ex
  have q := de_call0 (dfl := []) (p := p) (pos := pos) h1 hk h2 h3 h4 .nil (fun g H => by simp only [RVs]) hg hdb
  have e2 : (fun (_ : Env1) (S : List O) => if ([] : List D).length = ps.length then F [] S else .stuck) = eArgs F aNil := by
    funext ρ S
    rw [if_pos (by rw [h5]; rfl)]
    rfl
  rw [e2] at q
  exact q
end TL
set_option Elab.async false
set_option linter.all false
set_option maxRecDepth 100000
set_option maxHeartbeats 4000000
namespace TL
open PySem PySem.Spec PyProof.Rows L2
section
variable {z : Sg} {p pos : Pos}
end
end TL
set_option Elab.async false
set_option linter.all false
set_option maxRecDepth 100000
set_option maxHeartbeats 4000000
namespace TL
open PySem PySem.Spec PyProof.Rows L2 CwR
section
variable {z : Sg} {e a o b : Expr} {es : List Expr} {t ta tb : TEx} {r tr : TAx} {apos pos p c0 c1 : Pos} {j k : Nat} {y w : Str}
end
end TL
set_option Elab.async false
set_option linter.all false
set_option maxRecDepth 100000
set_option maxHeartbeats 4000000
namespace TL
open PySem PySem.Spec PyProof.Rows L2
def minI : List Int → Int
  | [] => 0
  | [x] => x
  | x :: y :: r => if minI (y :: r) < x then minI (y :: r) else x
theorem minI_mem : ∀ {l : List Int}, l ≠ [] → minI l ∈ l
  | [], h => absurd rfl h
  | [x], _ => List.mem_cons_self
  | x :: y :: r, _ => by
    unfold minI
    split
    · exact List.mem_cons_of_mem _ (minI_mem (by simp))
    · exact List.mem_cons_self
theorem minI_le : ∀ {l : List Int} {z : Int}, z ∈ l → minI l ≤ z
  | [], z, h => by cases h
  | [x], z, h => by
    rw [List.mem_singleton.mp h]
    exact Int.le_refl _
  | x :: y :: r, z, h => by
    unfold minI
    rcases List.mem_cons.mp h with e | h
    · rw [e]
      split <;> omega
    · have := minI_le h
      split <;> omega
def minLD (ds : List D) (S : List O) : Out D := match ds with
  | [d] => (match (lstOf S d).bind intsOf with
    | some bs => if bs ≠ [] then .ok (.int (minI bs)) S else .stuck
    | none => .stuck)
  | _ => .stuck
theorem ok_minL {K : PySem.W.Frag} {W : WX} : OkL K W (rMin K) minLD := by
  intro g S H σ Q xs vs s r p
  unfold minLD at p
  split at p
  · split at p
    · rename_i d bs q
      split at p
      · rename_i hne
        obtain ⟨v, rfl, rr⟩ := rvs1 r
        obtain ⟨ds, h1, h2⟩ := Option.bind_eq_some_iff.mp q
        obtain ⟨a, ws, rfl, h3, h4⟩ := lst_at s h1 rr
        rw [ints_vals h2 h4] at h3
        refine ⟨a, bs, rfl, h3, List.length_pos_iff.mpr hne, fun m hm hl => ?_⟩
        have e : m = minI bs := by
          have h5 := hl _ (minI_mem hne)
          have h6 := minI_le hm
          omega
        rw [e]
        exact p.here s (by simp only [RV])
      · exact p.elim
    · exact p.elim
  · exact p.elim
section
variable {z : Sg} {e : Expr} {ta : TAx} {p pos : Pos}
theorem de_minL (hm : z.mg "min" = none) (ha : DA z [e] ta) (hg : Gz z "min" := by rfl) (hs : ∀ env, starEach [e] env = (false, eval e env) :: starEach [] env := by intro _; rfl) : DE z (.Call (.Name "min" p) [e] [] pos) (eArgs minLD ta) :=
  de_callB (fun X f => f.K ▸ cr_min f.calm) ok_minL (by decide +kernel) hm ha hg (by decide) (by decide) hs
end
end TL
set_option Elab.async false
set_option linter.all false
set_option maxRecDepth 100000
set_option maxHeartbeats 4000000
namespace TL
open PySem PySem.Spec PyProof.Rows L2
section
variable {z : Sg} {k : Nat} {C m : Str} {F : TF}
theorem un_inv_own (T : TMet z.P z.w z.K z.mg z.base k C "__invert__" 1 F) (hk : k ≤ z.lv) : UnS z (unaryOp .Invert) (own1 C F) := by
  intro X fx pins s σ H x v Q I rx g S dx hs r1 p
  unfold own1 at p
  split at p
  · rename_i h
    obtain ⟨a, _, _, rfl, ea⟩ := own_atI hs h r1
    obtain rfl : v = Value.ref a := rx
    obtain ⟨f, M, q⟩ := run_met T fx hk I (vs := [.ref a]) (us := [.ref a]) (.cons rfl .nil) hs (ds := [dx]) (by simp only [RVs]; exact ⟨_, _, rfl, r1, rfl⟩) p
    obtain ⟨ox, od, J⟩ := inst_ofI fx.K I ea
    obtain ⟨mm, fr⟩ := I.fr
    exact PySem.W.ksp_inv fr I.ok.mod.kin J M.at_ M.fn q
  · exact p.elim
theorem op_cmp_own {op : CmpOp} (T : TMet z.P z.w z.K z.mg z.base k C m 2 F) (hk : k ≤ z.lv) (hop : ∀ a b, compareOp op a b = richCompare op a b) (hm : (cmpInfo op).2.1 = m) : OpS z (compareOp op) (own2 C F) := by
  intro X fx pins s σ H x y v u Q I rx ry g S dx dy hs r1 r2 p
  unfold own2 at p
  split at p
  · rename_i h
    obtain ⟨h1, h2⟩ := Bool.and_eq_true_iff.mp h
    obtain ⟨a, _, _, rfl, ea⟩ := own_atI hs h1 r1
    obtain ⟨b, _, _, rfl, eb⟩ := own_atI hs h2 r2
    obtain rfl : v = Value.ref a := rx
    obtain rfl : u = Value.ref b := ry
    obtain ⟨f, M, q⟩ := run_met T fx hk I (vs := [.ref a, .ref b]) (us := [.ref a, .ref b]) (.cons rfl (.cons rfl .nil)) hs (ds := [dx, dy]) (by simp only [RVs]; exact ⟨_, _, rfl, r1, _, _, rfl, r2, rfl⟩) p
    obtain ⟨ox, od, J⟩ := inst_ofI fx.K I ea
    obtain ⟨ox2, od2, J2⟩ := inst_ofI fx.K I eb
    obtain ⟨mm, fr⟩ := I.fr
    rw [hop]
    have at_ := M.at_
    rw [← hm] at at_
    refine PySem.W.cmp_K (by have := fx.hu; omega) fr I.ok.mod.kin J J2.type ?_ at_ M.fn (thn q fun u s' h => cmpBack_ep h)
    unfold PySem.W.notFirst
    rw [beq_self_eq_true, Bool.true_or]
  · exact p.elim
end
def DM (z : Sg) (cs : List MatchCase) (f : Str → TSx) : Prop := ∃ τ : Str → TS, (∀ X, Fits z X → ∀ (pins : List (Addr × Obj)) (s : Shared) (σ : L2.St) (H : Hp) (D : Ends) (x : Str) (u : Value) (first : Bool), Inv X pins σ H s → RelV (.str x) u → τ x D σ H →
    wpAny (model X.prog X.w) X.A (matchCases cs X.env u first) (SP X pins D) X.xe s) ∧ ∀ x, RdS z (τ x) (f x)
def mN : Str → TSx := fun _ => sNext
def mC (a : Str) (tb : TSx) (f : Str → TSx) : Str → TSx := fun x ρ S => if x = a then tb ρ S else f x ρ S
def sMatch (t : TEx) (f : Str → TSx) : TSx := fun ρ S => (t ρ S).stm ρ fun d S1 => match d with
  | .str x => f x ρ S1
  | _ => .stuck
section
variable {z : Sg}
theorem dm_nil : DM z [] mN := by
  refine ⟨fun _ => tNext, fun X fx pins s σ H D x u first I r h => wpAny_matchCases_nil ⟨σ, H, I, h⟩, fun x g S ρ σ H T s rs p => ?_⟩
  exact p.here s rs
theorem dm_cons {a : Str} {kk : Nat} {p p2 : Pos} {body : List Stmt} {rest : List MatchCase} {tb : TSx} {f : Str → TSx} (hb : DSs z body tb) (hr : DM z rest f) : DM z (⟨.MatchValue (.Constant (.str a) kk p) p2, none, body⟩ :: rest) (mC a tb f) := by
  obtain ⟨τb, h1, q1⟩ := hb
  obtain ⟨τr, h2, q2⟩ := hr
  refine ⟨fun x D σ H => if x = a then τb D σ H else τr x D σ H, fun X fx pins s σ H D x u first I r h => ?_, fun x g S ρ σ H T s rs p => ?_⟩
  · refine wpAny_matchCases_cons (wpAny_matchPattern_Value (Calls.Constant_str ?_))
    refine thn (op_eq pins _ σ H (.str x) (.str a) u (.str a s.toks) (fun w H' => w = .bl (decide (x = a)) ∧ H' = H) (I.tok _) r ⟨_, rfl⟩ ⟨rfl, ?_⟩) fun c s3 hh => ?_
    · refine ⟨?_, rfl⟩
      congr 1
      exact decide_eq_decide.mpr ⟨fun e => by injection e, fun e => by rw [e]⟩
    · obtain ⟨w, H3, I3, r3, e, rfl⟩ := hh
      subst e
      cases r3
      refine wpAny_truthy_bool ?_
      by_cases q : x = a
      · rw [if_pos q] at h
        simp only [q, decide_true, if_true]
        exact wpAny_assignInOrder_none ((h1 X fx).run pins s3 σ H3 D I3 h)
      · rw [if_neg q] at h
        simp only [q, decide_false, Bool.false_eq_true, if_false]
        exact h2 X fx pins s3 σ H3 D x u false I3 r h
  · unfold mC at p
    by_cases q : x = a
    · rw [if_pos q] at p
      show (if x = a then τb T σ H else τr x T σ H)
      rw [if_pos q]
      exact q1 g S ρ σ H T s rs p
    · rw [if_neg q] at p
      show (if x = a then τb T σ H else τr x T σ H)
      rw [if_neg q]
      exact q2 x g S ρ σ H T s rs p
theorem ds_match {e : Expr} {t : TEx} {cs : List MatchCase} {f : Str → TSx} {pos : Pos} (he : DE z e t) (hc : DM z cs f) : DS z (.Match e cs pos) (sMatch t f) := by
  obtain ⟨τ, h1, q1⟩ := he
  obtain ⟨τc, h2, q2⟩ := hc
  refine ⟨fun D σ H => τ σ H fun v H1 => ∃ x, v = .str x ∧ τc x D σ H1, fun X fx => ⟨fun pins s σ H D I h => ?_⟩, fun g S ρ σ H T s rs p => ?_⟩
  · refine wpAny_Match (thn ((h1 X fx).run pins s σ H _ I h) fun u s1 hh => ?_)
    obtain ⟨v, H1, I1, r1, x, rfl, q⟩ := hh
    exact h2 X fx pins s1 σ H1 D x u true I1 r1 q
  · refine q1 g S ρ σ H _ s rs (p.stm s rs fun d S1 g1 H1 v e1 s1 rs1 r1 p1 => ?_)
    split at p1
    · rename_i x
      refine ⟨x, ?_, q2 x g1 S1 ρ σ H1 T s1 rs1 p1⟩
      simpa only [RV] using r1
    · exact p1.elim
end
end TL
set_option Elab.async false
set_option linter.all false
set_option maxRecDepth 100000
set_option maxHeartbeats 4000000
namespace TL
open PySem PySem.Spec PyProof.Rows L2
section
variable {X : Cx} {pins : List (Addr × Obj)} {σ : L2.St} {H : Hp} {s : Shared}
theorem star_dict (hcalm : X.calm = true) {a : Addr} {kvs : List (Key × V)} {E : Value → Shared → Prop} {Q : List Value → Shared → Prop} (I : Inv X pins σ H s) (hd : Rd H a (.dK kvs)) (hQ : ∀ us s', Inv X pins σ H s' → Vals (kvs.map fun kv => kV kv.1) us → Q us s') : PySem.W.StarOf (model X.prog X.w) X.A E (.ref a) Q s := by
  obtain ⟨z, lo, vs, rel, dd⟩ := dk_rd I.hok hd
  obtain ⟨ep, hat⟩ := dd.dictAt
  have ek : (kvs.map fun kv => kV kv.1) = vs.map fun p => kV p.1 := by
    have e := congrArg (List.map kV) rel.keys
    rw [List.map_map, List.map_map] at e
    exact e
  have zz : wpAny (model X.prog X.w) X.A (collect (.ref a)) Q E s := by
    refine PySem.W.kdu_collect (PySem.W.kdl_dict (knd := mixKind X.prog X.w) (kvs := vs) (ep := ep) lo) (I.ok.hd hcalm) hat (by rw [← rel.length]; exact z) fun h' tk acc hk hacc => ?_
    have hv : Vals (vs.map fun p => kV p.1) acc.toList := keys_at (by rw [Array.length_toList]; exact hacc.1) fun j v e => hacc.2 j v (by rw [← Array.getElem?_toList]; exact e)
    rw [← ek] at hv
    exact hQ _ _ (I.kept hk) hv
  unfold PySem.W.StarOf notIterableAtAll
  exact wpAny_bind (wpAny_specialOf dd.typeIs PySem.F.slot_dict_iter.lookup (wpAny_pure ⟨rfl, zz⟩))
def tStarD (te : TE) (t : TA) : TA := fun σ H Q => te σ H fun x H1 => ∃ p kvs, x = V.ref p ∧ Rd H1 p (.dK kvs) ∧ t σ H1 fun ys H2 => Q ((kvs.map fun kv => kV kv.1) ++ ys) H2
theorem pa_starD {e : Expr} {es : List Expr} {te : TE} {t : TA} {p : Pos} (hcalm : X.calm = true) (he : PE X e te) (hr : PA X es t) (hs : starEach (.Starred e p :: es) X.env = (true, eval e X.env) :: starEach es X.env := by rfl) : PA X (.Starred e p :: es) (tStarD te t) := by
  refine ⟨fun pos pins s σ H Q I h => ?_⟩
  refine PySem.W.items_star (thn (he.run pins s σ H _ I h) fun v s1 ⟨y, H1, I1, ry, a, kvs, ey, hx, q⟩ => ?_) hs
  subst ey
  obtain rfl : v = Value.ref a := ry
  refine star_dict hcalm I1 hx fun us s2 I2 rv => ?_
  exact thn (hr.run pos pins s2 σ H1 _ I2 q) fun ws s3 ⟨vs, H3, I3, r3, q3⟩ => ⟨_ ++ vs, H3, I3, rv.append r3, q3⟩
end
def aStarD (t : TEx) (ta : TAx) : TAx := fun ρ S => (t ρ S).bind fun d S1 => match dctOf S1 d with
  | some kvs => (ta ρ S1).bind fun es S2 => .ok (kvs.map (fun kv => keyD kv.1) ++ es) S2
  | none => .stuck
theorem keys_rvs {K : PySem.W.Frag} {g : G} {H : Hp} : ∀ {kvs : List (Key × D)} {ws : List (Key × V)}, RKs K g H kvs ws → RVs K g H (kvs.map fun kv => keyD kv.1) (ws.map fun kv => kV kv.1)
  | [], ws, r => by
    simp only [RKs] at r
    subst r
    simp only [List.map_nil, RVs]
  | (k, d) :: kvs, ws, r => by
    simp only [RKs] at r
    obtain ⟨v, r', rfl, _, h2⟩ := r
    simp only [List.map_cons, RVs]
    exact ⟨_, _, rfl, keyD_rv k, keys_rvs h2⟩
theorem da_starD {z : Sg} {e : Expr} {es : List Expr} {p : Pos} {t : TEx} {ta : TAx} (he : DE z e t) (ha : DA z es ta) (hs : ∀ env, starEach (.Starred e p :: es) env = (true, eval e env) :: starEach es env := by intro _; rfl) : DA z (.Starred e p :: es) (aStarD t ta) := by
  obtain ⟨τ, h1, q1⟩ := he
  obtain ⟨τ2, h2, q2⟩ := ha
  refine ⟨tStarD τ τ2, fun X f => pa_starD f.calm (h1 X f) (h2 X f) (hs _), fun g S ρ σ H Q s rs p => ?_⟩
  refine q1 g S ρ σ H _ s rs (p.bind fun d S1 g1 H1 v e1 s1 r1 p1 => ?_)
  split at p1
  · rename_i kvs hd
    obtain ⟨l, ws, rfl, hq, rx⟩ := dct_at s1 hd r1
    refine ⟨l, ws, rfl, hq, q2 g1 S1 ρ σ H1 _ s1 (rs.mono s.live e1) (p1.bind fun ys S2 g2 H2 us e2 s2 r2 p2 => ?_)⟩
    exact p2 g2 H2 (_ ++ us) (Ext.refl _ _) s2 (RVs.append' ((keys_rvs rx).mono s1.live e2) r2)
  · exact p1.elim
end TL
set_option Elab.async false
set_option linter.all false
set_option maxRecDepth 100000
set_option maxHeartbeats 4000000
namespace TL
open PySem PySem.Spec PyProof.Rows L2
def eqDE (x y : D) (S : List O) : Out D := match dctOf S x, dctOf S y with
  | some ks, some [] => .ok (.bl (decide (ks.length = 0))) S
  | _, _ => .stuck
theorem ops_eqDE {z : Sg} : OpS z (compareOp .Eq) eqDE := by
  intro X fx pins s σ H x y v u Q I rx ry g S dx dy hs r1 r2 p
  unfold eqDE at p
  split at p
  · rename_i ks h1 h2
    obtain ⟨a, ws, rfl, ha, ra⟩ := dct_at hs h1 r1
    obtain ⟨b, wt, rfl, hb, rb⟩ := dct_at hs h2 r2
    obtain rfl : v = Value.ref a := rx
    obtain rfl : u = Value.ref b := ry
    have e0 : wt = [] := by simpa only [RKs] using rb
    subst e0
    obtain ⟨_, ya, va, rva, da⟩ := (show ObjOk X.prog X.w H s.heap a (.dK ws) from ha.ok I.hok)
    obtain ⟨_, yb, vb, rvb, db⟩ := (show ObjOk X.prog X.w H s.heap b (.dK []) from hb.ok I.hok)
    have lb : vb.length = 0 := rvb.length.symm
    have la : va.length = ks.length := by rw [← rva.length, ra.length]
    have q : Q (.bl (decide (ks.length = 0))) H := p.here hs (by simp only [RV])
    refine PySem.W.keq_eq (knd := mixKind X.prog X.w) (r := true) ya yb da db (by have := fx.hu; omega) (fun hl => ?_) (fin_bl I q ?_)
    · have va0 : va = [] := List.length_eq_zero_iff.mp (by omega)
      subst va0
      exact .nil
    · rw [lb, la]
      by_cases h0 : ks.length = 0 <;> simp [h0]
  · exact p.elim
end TL
set_option Elab.async false
set_option linter.all false
set_option maxRecDepth 100000
set_option maxHeartbeats 4000000
namespace TL
open PySem PySem.Spec PyProof.Rows L2
def gLs (n : Nat) (t : TGsx) : TGx := fun d ρ S => match lstOf S d with
  | some ds => if ds.length = n then t ds ρ S else .stuck
  | none => .stuck
section
variable {z : Sg} {pos : Pos}
end
@[simp] theorem gLs_ap (n : Nat) (ws : TGsx) (ds : List D) (ρ : Env1) (S : List O) : gLs n ws (.lst ds) ρ S = if ds.length = n then ws ds ρ S else .stuck := rfl
end TL
set_option Elab.async false
set_option linter.all false
set_option maxRecDepth 100000
set_option maxHeartbeats 4000000
namespace TL
open PySem PySem.Spec PyProof.Rows L2 LamX
structure TLam (P : Program) (w : World) (K : PySem.W.Frag) (mg : Str → Option Value) (base : Heap) (k : Nat) (x : Str) (n m : Nat) (F : TF) : Prop where
  run : ∀ L, lamAt K x n = some L → ∀ (A : Around) (outer : List Env) (s : Shared) (H : Hp) (f c : Addr) (us : List Value) (vs : List V) (Q : VK) (E : XK) (g : G) (S : List O) (ds : List D), Room k A → A.guards = some [] → Env0 P w K mg base A outer s H →
    H f = some (FnO x L f c) → H c = some (CodeO c (lamQ x)) → Vals vs us → vs.length = m → SR K g S H → RVs K g H ds vs → Post K (wX E) (RV K) g H [] Q (F ds S) → codeAny (model P w) A (.call (.ref f) ⟨us, []⟩) (CR (CX K P w) outer P w H s Q E) s
  len : ∀ ds S, ds.length ≠ m → F ds S = .stuck
section
variable {P : Program} {w : World} {K : PySem.W.Frag} {mg : Str → Option Value} {base : Heap} {x : Str} {n k : Nat} {N ps : List Str}
theorem TLam.mono {j m : Nat} {F : TF} (h : TLam P w K mg base j x n m F) (hj : j ≤ k) : TLam P w K mg base k x n m F := ⟨fun L hL A outer s H f c us vs Q E g S ds hr => h.run L hL A outer s H f c us vs Q E g S ds (hr.mono hj), h.len⟩
end
section
variable {X : Cx} {pins : List (Addr × Obj)} {σ : L2.St} {H : Hp} {s : Shared}
end
section
variable {z : Sg} {x : Str} {j n : Nat} {c P : Addr} {params : Arguments} {body : Expr} {scope : Scope} {lpos : Pos}
end
section
variable {z : Sg} {k i : Nat} {y : Str} {F : Str → Nat → TF} {e : Expr} {es : List Expr} {p pos : Pos} {ta : TAx}
end
end TL
namespace TL
open PySem PySem.Spec PyProof.Rows L2 LamX
end TL
set_option Elab.async false
set_option linter.all false
set_option maxRecDepth 100000
set_option maxHeartbeats 4000000
namespace TLX
open PySem PySem.Spec PyProof.Rows L2 TL
section
variable {X : Cx}
end
end TLX
namespace TL
open PySem PySem.Spec PyProof.Rows L2 TLX
section
variable {z : Sg} {e : Expr} {p p2 pos pos2 : Pos} {ta : TAx}
end
end TL
set_option Elab.async false
set_option linter.all false
set_option maxRecDepth 100000
set_option maxHeartbeats 4000000
namespace TL
open PySem PySem.Spec PyProof.Rows L2 LamX
theorem un_two {fs : List Addr} {L : Addr} {H H1 H2 : Hp} {h h1 h2 : Heap} (a : Un fs [] H H1 h h1) (b : Un (L :: fs) [] H1 H2 h1 h2) (hL : h.get? L = none) : Un fs [] H H2 h h2 where
  keep := fun c ob q n hc hx => b.keep c ob (a.keep c ob q n hc hx) (a.free c ob q n hx) (fun z => by
    rcases List.mem_cons.mp z with e | e
    · subst e
      rw [hL] at q
      cases q
    · exact hc e) hx
  slot := fun c ob q n hc hx => by
    obtain ⟨sl, e1⟩ := a.slot c ob q n hc hx
    obtain ⟨sl', e2⟩ := b.any e1 (a.free c ob q n hx) hx
    exact ⟨sl', e2⟩
  free := fun c ob q n hx => by
    obtain ⟨o', e1⟩ := a.there c ob q hx
    exact b.free c o' e1 (a.free c ob q n hx) hx
  there := fun c ob q hx => by
    obtain ⟨o', e1⟩ := a.there c ob q hx
    exact b.there c o' e1 hx
  tups := fun c xs q => b.tups c xs (a.tups c xs q)
  frzs := fun c o u q => b.frzs c o u (a.frzs c o u q)
  tbls := fun c ps q => by
    obtain ⟨m1, e1⟩ := a.tbls c ps q
    obtain ⟨m2, e2⟩ := b.tbls c _ e1
    exact ⟨m1 ++ m2, by rw [e2, Array.append_assoc]⟩
section
variable {X : Cx} {pins : List (Addr × Obj)} {σ : L2.St} {H : Hp} {s : Shared}
theorem pe_act2 {Ng : List Str} {qg : Str} {sg : Scope} {g f c' Lf : Addr} {cdg pm ctv : Value} {params : Arguments} {body : Expr} {scope : Scope} {k i : Nat} {a : Str} {pn : List (Addr × Obj)} {xe : Value → Shared → Prop} {W : WX} {E : XK} {tb : TE} {p1 p2 : Pos} {A' : Around} {st' : List Env} {s' : Shared} {H' : Hp}
    (I : Inv X pins σ H s) (L : LamS X.env.scope scope) (hf : s.heap.get? f = some (PySem.W.kla_obj "<lambda>" (X.env.qual ++ "<lambda>") params body scope (cloFrom X.env.cells scope.names []) pm c' ctv)) (hfn : H f = none) (hfr : f ∉ frs X.stack)
    (hbind : bindArgs (PySem.W.kla_fn "<lambda>" (X.env.qual ++ "<lambda>") params body scope (cloFrom X.env.cells scope.names []) pm (.ref c') ctv) ⟨[], []⟩ = pure [])
    (est : frs st' = Lf :: frs X.stack) (hLf : s.heap.get? Lf = none) (u0 : Un (frs X.stack) [] H H' s.heap s'.heap) (gd : A'.guards = some [])
    (tk : L2.Takes ((cxOf C8.CX0 X.prog X.w X.K X.mg X.base Ng qg sg g cdg A' st' s' H' C8.E0).tr pn xe) W) (hr : Room (k + 1) (A'.deeper (envOfC qg sg s'.heap.objs.size g cdg)))
    (hbody : ∀ (A : Around) (outer : List Env) (s : Shared) (H : Hp), Room k (A.deeper (lamEnv X scope s.heap.objs.size f c')) → A.guards = some [] → PE (lamCx X A outer s H E scope f c') body tb)
    (hN : Ng[i]? = some a) (hv : Vis sg a) (hd : (a == ("__debug__" : Str)) = false := by decide) (hcd : (a == ("__classdict__" : Str)) = false := by decide) :
    PE ((cxOf C8.CX0 X.prog X.w X.K X.mg X.base Ng qg sg g cdg A' st' s' H' C8.E0).tr pn xe) (.Call (.Name a p1) [] [] p2)
      (fun σ1 H1 Q => (∀ cls d H', E cls d H' → W cls d σ1 H') ∧ σ1[i]? = some (some (.ref f)) ∧ H1 c' = some (CodeO c' (X.env.qual ++ "<lambda>")) ∧ tb σ H1 Q) := by
  refine ⟨fun pins1 s0 σ1 H0 Q I0 h => ?_⟩
  obtain ⟨hW, hs, hc, ht⟩ := h
  refine wpAny_Call_Name_kw (thn ((pe_var (pos := p1) (i := i) hN hv hd hcd).run pins1 s0 σ1 H0 (fun v H1 => v = .ref f ∧ H1 = H0) I0 ⟨.ref f, hs, rfl, rfl⟩) fun u s1 ⟨v, H1, I1, r1, ev, eH⟩ => ?_)
  subst ev eH
  obtain rfl : u = Value.ref f := r1
  have f1 : s'.heap.get? f = some (PySem.W.kla_obj "<lambda>" (X.env.qual ++ "<lambda>") params body scope (cloFrom X.env.cells scope.names []) pm c' ctv) := u0.keep f _ hf hfn hfr (by simp)
  have n1 : H' f = none := u0.free f _ hf hfn (by simp)
  have nf : f ∉ frs st' := by
    rw [est]
    intro z
    rcases List.mem_cons.mp z with e | e
    · rw [← e, hf] at hLf
      cases hLf
    · exact hfr e
  have at1 : s1.heap.get? f = some (PySem.W.kla_obj "<lambda>" (X.env.qual ++ "<lambda>") params body scope (cloFrom X.env.cells scope.names []) pm c' ctv) := I1.base.keep f _ f1 n1 nf (fun z => nomatch (show f ∈ ([] : List Addr) from z))
  refine PySem.W.callWith_F0 ⟨_, _, _, _, at1⟩ ?_
  have ub : Un (frs st') [] H' H1 s'.heap s1.heap := I1.base
  rw [est] at ub
  have un : Un (frs X.stack) [] H H1 s.heap s1.heap := un_two u0 ub hLf
  obtain ⟨⟨oc, vs, t, hoc, hdc, hvc⟩, _, _⟩ := I1.hok c' _ hc
  have rc : codeAny (model X.prog X.w) (A'.deeper (envOfC qg sg s'.heap.objs.size g cdg)) (.call (.ref f) ⟨[], []⟩) (CR (L2.CX X.prog X.w) (envOfC qg sg s'.heap.objs.size g cdg :: st') X.prog X.w H1 s1 Q E) s1 := by
    refine PySem.W.kla_callFunE hr.depth at1 rfl L.co L.gen rfl ⟨c', oc, vs, t, rfl, hoc, hdc, hvc⟩ ?_
    rw [hbind]
    refine wpAny_pure (wpAny_newFunctionEnv (fun y hy => (L.own y hy).2) (fun y hy => absurd hy (by simp)) (fun h₁ hns hsb => ⟨I1.nolimit.fresh _ hsb, ?_⟩) L.kind)
    show codeAny _ _ (.expr body (lamEnv X scope s1.heap.objs.size f c')) _ _
    have kp : ∀ b o, s1.heap.get? b = some o → h₁.get? b = some o := fun b o e => hsb.extBut b o (Nat.ne_of_lt (Heap.lt_size e)) (Heap.get?_push_of_some _ e)
    have J := lam_start2 (E := E) (f := f) (c' := c') (tk := s1.toks + ([] : List (Str × Value)).length) I L I1.env0 hr.hd un hns kp
    refine PySem.W.kla_codeExpr (wpAny_mono ((hbody _ _ s1 H1 (hr.deeper _) gd).run [] _ _ H1 Q J ht) (fun v s' hq => ?_) fun e s' hq => hq)
    obtain ⟨w', H', J', rv, q⟩ := hq
    exact ⟨w', H', J'.os, J'.bare, J'.base, J'.hok, rv, q⟩
  refine wpAny_call (codeAny_mono rc fun r s' hq => ?_)
  cases r with
  | error e => exact tk e s' (L2.XE.of_call I1 (fun cls d H' h => hW cls d H' h) hq)
  | ok fl =>
    cases fl with
    | ret u => exact I1.after hq
    | next => exact False.elim hq
    | brk => exact False.elim hq
    | cont => exact False.elim hq
theorem pe_toldV {z : Sg} {N1 : List Str} {q1 : Str} {sg1 : Scope} {g1 : Addr} {cd1 : Value} {a : Str} {i k : Nat} {g f c' : Addr} {fd : FuncData} {pg : Arguments} {bg : List Stmt} {sg : Scope} {params : Arguments} {body : Expr} {scope : Scope} {pm ctv : Value} {p pa pos : Pos}
    (fx : Fits z X) (I : Inv X pins σ H s) (Ft : FunD z.K "_law_told" "_law_told" pg bg sg [] [] g fd) (hm : z.mg "_law_told" = some (.ref g)) (hb : Binds z.K fd [nLook] []) (St : FnScope Ntold [nLook] sg) (TS : ToldS sg) (T0 : ToldB bg sg) (hde : z.mg dErr = some (.ref (He.ga z.K dErr)))
    (L : LamS z.scope scope) (hf : s.heap.get? f = some (PySem.W.kla_obj "<lambda>" (X.env.qual ++ "<lambda>") params body scope (cloFrom X.env.cells scope.names []) pm c' ctv)) (hfn : H f = none) (hfr : f ∉ frs X.stack)
    (hbind : ∀ (q : Str) (cl : List (Str × Addr)) (pm cv ctv : Value), bindArgs (PySem.W.kla_fn "<lambda>" q params body scope cl pm cv ctv) ⟨[], []⟩ = pure [])
    (hr1 : Room (k + 2) (X.A.deeper (envOfC q1 sg1 s.heap.objs.size g1 cd1))) (hN : N1[i]? = some a) (hv : Vis sg1 a) (hgl : sg1.names.lookup ("_law_told" : Str) = some .globalImplicit) (hd : (a == ("__debug__" : Str)) = false := by decide) (hcd : (a == ("__classdict__" : Str)) = false := by decide) :
    PE (cxOf C8.CX0 X.prog X.w X.K X.mg X.base N1 q1 sg1 g1 cd1 X.A X.stack s H C8.E0).nox (.Call (.Name "_law_told" p) [.Name a pa] [] pos)
      (fun σ1 H1 Q => σ1[i]? = some (some (.ref f)) ∧ H1 c' = some (CodeO c' (X.env.qual ++ "<lambda>")) ∧ ∃ τl : TE, (∀ X', Fits (z.lam scope k (ETold z.K (He.ga z.K dErr) Q) (.ref c')) X' → PE X' body τl) ∧ ∀ p0, H1 p0 = none → τl σ (upd H1 p0 (.tup [.non, .non])) (QTold f Q)) := by
  refine ⟨fun pins1 s1 σ1 H1 Q J h => ?_⟩
  obtain ⟨hs, hco, τl, hτ, hv'⟩ := h
  have hmg : X.mg "_law_told" = some (.ref g) := by rw [fx.mg]; exact hm
  refine wpAny_Call_Name_kw (ld_glob J hgl hmg ?_ (by decide))
  have kp' : PySem.W.keepIn X.K (.ref g) = true := by rw [fx.K]; exact Ft.kp
  refine PySem.W.callWith_K (h₀ := X.base) J.ok.mod.kin kp' ?_ (by rfl) (by rfl)
  show wpAny _ _ (spliced ((false, eval (.Name a pa) (envOfC q1 sg1 s.heap.objs.size g1 cd1)) :: backTo pos (starEach [] (envOfC q1 sg1 s.heap.objs.size g1 cd1)))) _ _ s1
  have L' : LamS X.env.scope scope := by rw [fx.scope]; exact L
  refine Calls.spliced_cons (thn ((pe_var (pos := pa) (i := i) hN hv hd hcd).run pins1 s1 σ1 H1 (fun v H' => v = .ref f ∧ H' = H1) J ⟨.ref f, hs, rfl, rfl⟩) fun u s2 ⟨v, H2, J2, r1, ev, eH⟩ => ?_)
  subst ev eH
  obtain rfl : u = Value.ref f := r1
  refine Calls.spliced_nil ⟨J2.kIn, ?_⟩
  obtain ⟨oc, od, dV, kV, doc, pm2, an, cdv, ct, osl, rfl, lk, hcdv, _, _⟩ := Ft.ex
  have hb' := hb
  rw [← fx.K] at hb'
  have hLf : s.heap.get? s.heap.objs.size = none := Heap.get?_none_of_le (Nat.le_refl _)
  have rc : codeAny (model X.prog X.w) (X.A.deeper (envOfC q1 sg1 s.heap.objs.size g1 cd1)) (.call (.ref g) ⟨[.ref f], []⟩) (CR C8.CX0 (envOfC q1 sg1 s.heap.objs.size g1 cd1 :: X.stack) X.prog X.w H2 s2 Q C8.E0) s2 := by
    refine run_ofS (K := X.K) (mg := X.mg) (base := X.base) (N := Ntold) (ps := [nLook]) (us := [.ref f]) (vs := [.ref f]) (k := k + 1) (by rw [fx.K]; exact lk) (by rw [fx.K]; exact hcdv) St hr1 J2.env0 (hb' s2 [.ref f] J2.kIn rfl) (.cons rfl .nil) rfl fun hr' => ?_
    obtain ⟨p1, p2, p3, p4, p5, p6, p7, p8, p9, q1', q2, q3, q4, q5, q6, q7, q8, q9, r1, r2, r3, k1, k2, k3, k4, k5, rfl, hw⟩ := T0
    obtain ⟨t, ht', hq'⟩ := told_body (X := (cxOf C8.CX0 X.prog X.w X.K X.mg X.base N1 q1 sg1 g1 cd1 X.A X.stack s H C8.E0).nox) (f := f) (c' := c') (CS := He.ga X.K dErr) (q := X.env.qual ++ "<lambda>") (p1 := p1) (p2 := p2) (p3 := p3) (p4 := p4) (p5 := p5) (p6 := p6) (p7 := p7) (p8 := p8) (p9 := p9) (q1 := q1') (q2 := q2) (q3 := q3) (q4 := q4) (q5 := q5) (q6 := q6) (q7 := q7) (q8 := q8) (q9 := q9) (r1 := r1) (r2 := r2) (r3 := r3) (k1 := k1) (k2 := k2) (k3 := k3) (k4 := k4) (k5 := k5) (x := "_law_told") (g := g) (cdg := cdv) (s := s2) (H := H2) (Q := Q)
      (tl := fun E H' Q' => ∃ τl : TE, (∀ X', Fits (z.lam scope k E (.ref c')) X' → PE X' body τl) ∧ τl σ H' Q') TS (by show X.mg dErr = _; rw [fx.mg, fx.K]; exact hde) hw
      (fun W pn xe E p1 p2 tk => ⟨fun pins2 s2' σ2 H2' Q2 I2 h2 => by
        obtain ⟨hW, h1, h3, τ2, hp, h4⟩ := h2
        exact (pe_act2 (i := 0) (tb := τ2) (Lf := s.heap.objs.size) (A' := X.A.deeper (envOfC q1 sg1 s.heap.objs.size g1 cd1)) (st' := envOfC q1 sg1 s.heap.objs.size g1 cd1 :: X.stack) I L' hf hfn hfr (hbind _ _ _ _ _) rfl hLf J2.base fx.gd tk hr' (fun A outer s H hr2 hg2 => hp _ (fits_lam fx hr2 hg2)) rfl (.inl TS.look)).run pins2 s2' σ2 H2' Q2 I2 ⟨hW, h1, h3, h4⟩⟩) hco (fun p0 hp0 => ⟨τl, by show ∀ X', Fits (z.lam scope k (ETold X.K (He.ga X.K dErr) Q) (.ref c')) X' → PE X' body τl; rw [fx.K]; exact hτ, hv' p0 hp0⟩)
    exact ⟨t, ht'.nox, hq'⟩
  refine wpAny_call (codeAny_mono rc fun r s2 hr => ?_)
  cases r with
  | error e => exact (show False from hr).elim
  | ok fl =>
    cases fl with
    | ret u => exact J2.after hr
    | next => exact False.elim hr
    | brk => exact False.elim hr
    | cont => exact False.elim hr
end
end TL
set_option Elab.async false
set_option linter.all false
set_option maxRecDepth 100000
set_option maxHeartbeats 4000000
namespace TL
open PySem PySem.Spec PyProof.Rows L2 LamX
abbrev nWide : Str := "_law_is_wide"
abbrev nDue : Str := "_law_is_due"
abbrev Ndue : List Str := [nLook, nWide, nCaught]
theorem told_rdF {z : Sg} {P : Addr} {x : Str} {sc : Scope} {k j : Nat} {body : Expr} {ex : List Str} {tb : TEx} (F : ExF z.K ex) (ht : tabA z.K x = some P) (hl : ∀ E cd, DE (z.lam sc k E cd) body tb) {g : G} {S : List O} {ρ : Env1} {σ : L2.St} {H : Hp} (Qf : Addr → VK) (s : SR z.K g S H) (rs : RS z.K g H ρ σ) (pf : ∀ f, Post z.K z.W (RV z.K) g H σ (Qf f) (eTold ex j x tb ρ S)) :
    ∃ (A : Addr → Prop) (ps : Array Value), H P = some (.tbl ps) ∧ TriplesOk ps.toList ∧ (∀ (pos : Pos) (cv : Value), codeAmong pos ps.toList = some cv → ∃ c2, cv = .ref c2 ∧ H c2 = some (CodeO c2 (lamQ x)) ∧ A c2) ∧
      ∀ (f c' : Addr) (H1 : Hp), Mk H P (lamQ x) A H1 → H1 c' = some (CodeO c' (lamQ x)) → ∃ τl : TE, (∀ X, Fits (z.lam sc k (ETold z.K (He.ga z.K dErr) (Qf f)) (.ref c')) X → PE X body τl) ∧ ∀ p0, H1 p0 = none → τl σ (upd H1 p0 (.tup [.non, .non])) (QTold f (Qf f)) := by
  have p0' := pf P
  unfold eTold at p0'
  split at p0'
  · rename_i y hS
    split at p0'
    · rename_i hy
      subst hy
      clear p0'
      obtain ⟨a, ha⟩ : ∃ a, g.hs[j]? = some a := by
        have lt : j < g.hs.length := by
          rw [s.len]
          exact (List.getElem?_eq_some_iff.mp hS).1
        exact ⟨_, List.getElem?_eq_getElem lt⟩
      obtain ⟨⟨ps, h1, h2, h3⟩, h4⟩ := s.rep j a _ ha hS
      rw [ht] at h4
      cases h4
      refine ⟨fun c => ¬ g.bad c, ps, h1, h2, h3, fun f c' H1 m hc => ?_⟩
      have p := pf f
      unfold eTold at p
      rw [hS] at p
      simp only [if_true] at p
      obtain ⟨e1, s1⟩ := sr_mk s ha ht hS m
      obtain ⟨τl, h5, h6⟩ := hl (ETold z.K (He.ga z.K dErr) (Qf f)) (.ref c')
      refine ⟨τl, h5, fun p0 hp0 => ?_⟩
      have e1 := e1.tr s1 (Ext.same (g := g) (same_new (o := .tup [.non, .non]) hp0))
      have s1 := s1.same (same_new (o := .tup [.non, .non]) hp0)
      refine h6 g S ρ σ _ _ s1 (rs.mono s.live e1) ?_
      revert p
      cases tb ρ S with
      | ok d S' =>
        intro p g' H' b e s' r
        refine qtold fun q hq => ?_
        refine p g' (upd H' q (.tup [.non, b])) (.ref q) ((e1.tr s1 e).tr s' (Ext.same (same_new hq))) (s'.same (same_new hq)) ?_
        have r' := r.mono s'.live (Ext.same (g := g') (same_new (o := .tup [.non, b]) hq))
        simp only [RV]
        exact ⟨q, [.non, b], rfl, .inl ⟨.inl upd_same, s'.unbad hq⟩, by simp only [RVs, RV]; exact ⟨_, _, rfl, rfl, _, _, rfl, r', rfl⟩⟩
      | exc C d S' =>
        intro p
        have ep : toldO ex (.exc C d S') = if C ∈ ex then .ok (.tup [.exc C d, .non]) S' else .stuck := rfl
        rw [ep] at p
        by_cases hC : C ∈ ex
        · rw [if_pos hC] at p
          intro g' H' c dd e s' r
          have s' : SR z.K g' S' H' := s'
          have r : RX z.K g' H' C d c dd := r
          obtain ⟨rfl, D, w, rfl, h7, h8, h9⟩ := r
          refine ⟨true, exm_err F hC, fun _ a q ha hq => ?_, fun z => by cases z⟩
          have hq : upd H' a (ExO (.ref (He.ga z.K C)) (some D) a) q = none := hq
          have k1 := same_new (o := ExO (.ref (He.ga z.K C)) (some D) a) ha
          have k2 := same_new (o := .tup [.ref a, .non]) hq
          have k3 : ∀ b u, H' b = some u → upd (upd H' a (ExO (.ref (He.ga z.K C)) (some D) a)) q (.tup [.ref a, .non]) b = some u := fun b u e => k2 b u (k1 b u e)
          have nq : H' q = none := by
            cases z : H' q with
            | none => rfl
            | some u =>
              rw [k1 q u z] at hq
              cases hq
          have ea : upd (upd H' a (ExO (.ref (He.ga z.K C)) (some D) a)) q (.tup [.ref a, .non]) a = some (ExO (.ref (He.ga z.K C)) (some D) a) := k2 _ _ upd_same
          refine p g' _ (.ref q) ((e1.tr s1 e).tr s' (Ext.same k3)) (s'.same k3) ?_
          simp only [RV]
          exact ⟨q, [.ref a, .non], rfl, .inl ⟨.inl upd_same, s'.unbad nq⟩, by
            simp only [RVs, RV]
            exact ⟨_, _, rfl, ⟨a, D, w, rfl, ea, s'.unbad ha, k3 _ _ h7, h8, h9.mono s'.live (Ext.same k3)⟩, _, _, rfl, rfl, rfl⟩⟩
        · rw [if_neg hC] at p
          exact p.elim
      | stuck => exact fun p => p.elim
    · exact p0'.elim
  · exact p0'.elim
section
variable {z : Sg}
def QDue (K : PySem.W.Frag) (τr : TS) (u : V) (Q : VK) (f : Addr) : VK := fun v H' => rIx K v (.int 0) H' fun w H2 => τr { nx := fun _ H' => Q .non H', rt := Q } [some (.ref f), some u, some w] H2
def due_read (z : Sg) (P : Addr) (x : Str) (sc : Scope) (k iw : Nat) (body : Expr) (τr : TS) : TE := fun σ H Q => ∃ u : V, σ[iw]? = some (some u) ∧ ∃ (A : Addr → Prop) (ps : Array Value), H P = some (.tbl ps) ∧ TriplesOk ps.toList ∧ (∀ (pos : Pos) (cv : Value), codeAmong pos ps.toList = some cv → ∃ c2, cv = .ref c2 ∧ H c2 = some (CodeO c2 (lamQ x)) ∧ A c2) ∧
  ∀ (f c' : Addr) (H1 : Hp), Mk H P (lamQ x) A H1 → H1 c' = some (CodeO c' (lamQ x)) → ∃ τl : TE, (∀ X, Fits (z.lam sc k (ETold z.K (He.ga z.K dErr) (QDue z.K τr u Q f)) (.ref c')) X → PE X body τl) ∧ ∀ p0, H1 p0 = none → τl σ (upd H1 p0 (.tup [.non, .non])) (QTold f (QDue z.K τr u Q f))
def OutS.finN : OutS → Out D
  | .nx _ S => .ok .non S
  | .rt d S => .ok d S
  | _ => .stuck
@[simp] theorem finN_rt (d : D) (S : List O) : (OutS.rt d S).finN = .ok d S := rfl
@[simp] theorem finN_nx (ρ : Env1) (S : List O) : (OutS.nx ρ S).finN = .ok .non S := rfl
def eDue (ex : List Str) (j : Nat) (x : Str) (tb : TEx) (iw : Nat) (tr : TSx) : TEx := fun ρ S => (eVar iw ρ S).bind fun w S0 => (eTold ex j x tb ρ S0).bind fun d S1 => (ixD d (.int 0) S1).bind fun c S2 => (tr [none, some w, some c] S2).finN
def Sg.due (z : Sg) (sd : Scope) (k : Nat) (cd : Value) : Sg := ⟨z.P, z.w, z.K, z.mg, z.base, Ndue, sd, fun _ => true, k, fun _ _ _ _ => False, nDue ++ ".<locals>.", cd, true⟩
theorem due_rd {P : Addr} {x : Str} {sc sd : Scope} {k j iw : Nat} {body : Expr} {ex : List Str} {tb : TEx} {tr : TSx} {τr : TS} {cd : Value} {kd : Nat} (F : ExF z.K ex) (ht : tabA z.K x = some P) (hl : ∀ E cd, DE (z.lam sc k E cd) body tb) (hr : RdS (z.due sd kd cd) τr tr) : RdE z (due_read z P x sc k iw body τr) (eDue ex j x tb iw tr) := fun g S ρ σ H Q s rs p => by
  unfold eDue at p
  have hw : ∃ w u, ρ[iw]? = some (some w) ∧ σ[iw]? = some (some u) ∧ RV z.K g H w u := by
    unfold eVar at p
    split at p
    · rename_i d hd
      obtain ⟨v, h1, h2⟩ := rs.get hd
      exact ⟨d, v, hd, h1, h2⟩
    · exact p.elim
  obtain ⟨w, u, h1, h2, h3⟩ := hw
  have ev : eVar iw ρ S = .ok w S := by
    unfold eVar
    rw [h1]
  rw [ev] at p
  refine ⟨u, h2, told_rdF (j := j) F ht hl (QDue z.K τr u Q) s rs fun f => ?_⟩
  have p : Post z.K z.W (RV z.K) g H σ Q ((eTold ex j x tb ρ S).bind fun d S1 => (ixD d (.int 0) S1).bind fun c S2 => (tr [none, some w, some c] S2).finN) := p
  revert p
  cases eTold ex j x tb ρ S with
  | exc C d S1 => exact fun p => p
  | stuck => exact fun p => p
  | ok d S1 =>
    intro p g' H' v e s' rv
    have p : Post z.K z.W (RV z.K) g H σ Q ((ixD d (.int 0) S1).bind fun c S2 => (tr [none, some w, some c] S2).finN) := p
    refine ok_ix (W := z.W) g' S1 H' σ _ d (.int 0) v (.int 0) s' rv (by simp only [RV]) ?_
    revert p
    cases ixD d (.int 0) S1 with
    | exc C d S1 => exact fun p => p.later e s'
    | stuck => exact fun p => p
    | ok c S2 =>
      intro p g2 H2 w2 e2 s2 rw2
      have p : Post z.K z.W (RV z.K) g H σ Q (tr [none, some w, some c] S2).finN := p
      have e3 := e.tr s' e2
      refine hr g2 S2 [none, some w, some c] [some (.ref f), some u, some w2] H2 _ s2 ⟨_, _, rfl, _, _, rfl, h3.mono s.live e3, _, _, rfl, rw2, rfl⟩ ?_
      revert p
      cases tr [none, some w, some c] S2 with
      | nx ρ' S3 => exact fun p g3 H3 σ3 e4 s3 r3 => p g3 H3 .non (e3.tr s2 e4) s3 (by simp only [RV])
      | rt d3 S3 => exact fun p g3 H3 v3 e4 s3 r3 => p g3 H3 v3 (e3.tr s2 e4) s3 r3
      | _ => exact fun p => p.elim
end
end TL
set_option Elab.async false
set_option linter.all false
set_option maxRecDepth 100000
set_option maxHeartbeats 4000000
namespace TL
open PySem PySem.Spec PyProof.Rows L2 LamX
def DueB (bd rest : List Stmt) : Prop := ∃ (p1 p2 p3 p4 p5 p6 p7 : Pos) (k5 : Nat), bd = .Assign [.Name nCaught p1] (.Subscript (.Call (.Name "_law_told" p2) [.Name nLook p3] [] p4) (.Constant (.int 0) k5 p5) p6) p7 :: rest
structure DueS (sd : Scope) : Prop where
  look : sd.names.lookup nLook = some .local
  caught : sd.names.lookup nCaught = some .local
  told : sd.names.lookup ("_law_told" : Str) = some .globalImplicit
theorem Inv.pinned {X : Cx} {pins : List (Addr × Obj)} {σ : L2.St} {H : Hp} {s : Shared} (I : Inv X pins σ H s) {f : Addr} {o : Obj} (hf : s.heap.get? f = some o) (hfn : H f = none) (hfr : f ∉ frs X.stack) (hd : ∀ v, o.data ≠ .cell v) (hl : f ≠ X.env.locals) : Inv X ((f, o) :: pins) σ H s :=
  ⟨I.ok, I.os, I.bare, I.base, I.loc, I.cell, I.free, I.freeC, fun p hp => (List.mem_append.mp hp).elim (fun h => I.pin p (List.mem_append_left _ h)) fun h => (List.mem_cons.mp h).elim (fun e => by
    subst e
    refine ⟨hf, hfn, hl, fun z => hfr ?_, hd⟩
    rcases I.ok.stk with e | ⟨e, hf'⟩
    · rw [e]
      exact z
    · rw [e]
      unfold frs
      rw [List.filterMap_cons, hf']
      exact List.mem_cons_of_mem _ z) fun h => I.pin p (List.mem_append_right _ h), I.hok, I.len⟩
theorem Inv.unpin {X : Cx} {pins : List (Addr × Obj)} {σ : L2.St} {H : Hp} {s : Shared} {q : Addr × Obj} (I : Inv X (q :: pins) σ H s) : Inv X pins σ H s :=
  { I with pin := fun p hp => I.pin p ((List.mem_append.mp hp).elim (List.mem_append_left _) fun h => List.mem_append_right _ (List.mem_cons_of_mem _ h)) }
theorem Inv.noloc {X : Cx} {pins : List (Addr × Obj)} {σ : L2.St} {H : Hp} {s : Shared} (I : Inv X pins σ H s) {f : Addr} {fd : FuncData} {o : Obj} (hf : s.heap.get? f = some o) (hd : o.data = .func fd) : f ≠ X.env.locals := fun z => by
  obtain ⟨m, ⟨o', es, ep, ho, hd', _⟩, _⟩ := I.loc
  rw [← z, hf] at ho
  cases ho
  rw [hd] at hd'
  cases hd'
section
variable {X : Cx} {pins : List (Addr × Obj)} {σ : L2.St} {H : Hp} {s : Shared}
theorem due_call {z : Sg} {k kd : Nat} {g gd f c' : Addr} {fd fdd : FuncData} {pg pd : Arguments} {bg bd rest : List Stmt} {sg sd : Scope} {params : Arguments} {body : Expr} {scope : Scope} {pm ctv : Value} {τr : TS} {u : V} {w : Value} {Q : VK}
    (fx : Fits z X) (I : Inv X pins σ H s) (Ft : FunD z.K "_law_told" "_law_told" pg bg sg [] [] g fd) (hm : z.mg "_law_told" = some (.ref g)) (hb : Binds z.K fd [nLook] []) (St : FnScope Ntold [nLook] sg) (TS : ToldS sg) (T0 : ToldB bg sg) (hde : z.mg dErr = some (.ref (He.ga z.K dErr)))
    (Fd : FunD z.K nDue nDue pd bd sd [] [] gd fdd) (hbd : Binds z.K fdd [nLook, nWide] []) (Sd : FnScope Ndue [nLook, nWide] sd) (DS : DueS sd) (D0 : DueB bd rest) (hrest : ∀ X', Fits (z.due sd kd (cdAt z.K gd)) X' → PSs X' rest τr)
    (L : LamS z.scope scope) (hf : s.heap.get? f = some (PySem.W.kla_obj "<lambda>" (X.env.qual ++ "<lambda>") params body scope (cloFrom X.env.cells scope.names []) pm c' ctv)) (hfn : H f = none) (hfr : f ∉ frs X.stack) (hco : H c' = some (CodeO c' (X.env.qual ++ "<lambda>")))
    (hbind : ∀ (q : Str) (cl : List (Str × Addr)) (pm cv ctv : Value), bindArgs (PySem.W.kla_fn "<lambda>" q params body scope cl pm cv ctv) ⟨[], []⟩ = pure []) (hk : k + 3 ≤ z.lv) (hkd : kd ≤ k + 2) (rw_ : L2.RelV u w)
    (h : ∃ τl : TE, (∀ X, Fits (z.lam scope k (ETold z.K (He.ga z.K dErr) (QDue z.K τr u Q f)) (.ref c')) X → PE X body τl) ∧ ∀ p0, H p0 = none → τl σ (upd H p0 (.tup [.non, .non])) (QTold f (QDue z.K τr u Q f))) :
    codeAny (model X.prog X.w) X.A (.call (.ref gd) ⟨[.ref f, w], []⟩) (CR C8.CX0 X.stack X.prog X.w H s Q C8.E0) s := by
  obtain ⟨oc, od, dV, kV, doc, pm2, an, cdv, ct, osl, rfl, lk, hcdv, _, _⟩ := Fd.ex
  have ecd : cdAt z.K gd = cdv := by
    unfold cdAt
    rw [lk]
  rw [ecd] at hrest
  have hbd' := hbd
  rw [← fx.K] at hbd'
  refine run_ofS (K := X.K) (mg := X.mg) (base := X.base) (N := Ndue) (ps := [nLook, nWide]) (us := [.ref f, w]) (vs := [.ref f, u]) (k := k + 2) (by rw [fx.K]; exact lk) (by rw [fx.K]; exact hcdv) Sd (fx.room.mono hk) I.env0 (hbd' s [.ref f, w] I.kIn rfl) (.cons rfl (.cons rw_ .nil)) rfl fun hr' => ?_
  obtain ⟨p1, p2, p3, p4, p5, p6, p7, k5, rfl⟩ := D0
  have pt := pe_toldV (z := z) (N1 := Ndue) (q1 := nDue) (sg1 := sd) (g1 := gd) (cd1 := cdv) (a := nLook) (i := 0) (k := k) (p := p2) (pa := p3) (pos := p4) fx I Ft hm hb St TS T0 hde L hf hfn hfr hbind hr' rfl (.inl DS.look) DS.told
  have px := pe_ix (pos := p6) ix_seq pt (pe_int (i := 0) (j := k5) (pos := p5)) (by intro _ _; rfl)
  have ps1 := ps_set (X := (cxOf C8.CX0 X.prog X.w X.K X.mg X.base Ndue nDue sd gd cdv X.A X.stack s H C8.E0).nox) (pos := p7) (pos' := p1) (i := 2) (x := nCaught) Sd.nd rfl (.inl DS.caught) px rfl (.inr DS.caught)
  have fit : Fits (z.due sd kd cdv) (cxOf C8.CX0 X.prog X.w X.K X.mg X.base Ndue nDue sd gd cdv X.A X.stack s H C8.E0).nox :=
    ⟨fx.prog, fx.w, fx.K, fx.mg, fx.base, rfl, rfl, rfl, Sd.nd, fun _ _ => rfl, hr'.mono hkd, fx.gd, .of2 L2.takes0, PassesOwn.never, rfl, rfl, fun _ => ⟨rfl, rfl⟩⟩
  refine ⟨_, (pss_cons ps1 (hrest _ fit)).nox, ?_⟩
  obtain ⟨τl, h1, h2⟩ := h
  have e : X.K = z.K := fx.K
  refine ⟨rfl, hco, τl, ?_, ?_⟩
  · rw [← e] at h1 ⊢
    exact h1
  · rw [← e] at h2
    exact h2
end
theorem de_due {z : Sg} {x : Str} {ex : List Str} {j k kd iw : Nat} {c P g gd : Addr} {fd fdd : FuncData} {pg pd : Arguments} {bg bd rest : List Stmt} {sg sd : Scope} {params : Arguments} {body : Expr} {scope : Scope} {tb : TEx} {tr : TSx} {p pw lpos pos : Pos} {nw : Str}
    (Ft : FunD z.K "_law_told" "_law_told" pg bg sg [] [] g fd) (hm : z.mg "_law_told" = some (.ref g)) (hb : Binds z.K fd [nLook] []) (St : FnScope Ntold [nLook] sg) (TS : ToldS sg) (T0 : ToldB bg sg) (F : ExF z.K ex) (hde : z.mg dErr = some (.ref (He.ga z.K dErr)))
    (Fd : FunD z.K nDue nDue pd bd sd [] [] gd fdd) (hmd : z.mg nDue = some (.ref gd)) (hbd : Binds z.K fdd [nLook, nWide] []) (Sd : FnScope Ndue [nLook, nWide] sd) (DS : DueS sd) (D0 : DueB bd rest) (hrest : DSs (z.due sd kd (cdAt z.K gd)) rest tr)
    (hq : z.qual ++ "<lambda>" = lamQ x) (hcd : z.code = .ref c) (ht : tabA z.K x = some P) (B : TabB z.base z.mg c P) (L : LamS z.scope scope) (hdef : ∀ env, defaultsOf params env = ([], []))
    (hbind : ∀ (q : Str) (cl : List (Str × Addr)) (pm cv ctv : Value), bindArgs (PySem.W.kla_fn "<lambda>" q params body scope cl pm cv ctv) ⟨[], []⟩ = pure [])
    (hl : ∀ E cd, DE (z.lam scope k E cd) body tb) (hk : k + 3 ≤ z.lv) (hkd : kd ≤ k + 2) (hN : z.N[iw]? = some nw) (hv : Vis z.scope nw) (hg : Gz z nDue := by rfl) (hd : (nw == ("__debug__" : Str)) = false := by decide) (hcd' : (nw == ("__classdict__" : Str)) = false := by decide) :
    DE z (.Call (.Name nDue p) [.Lambda params body scope lpos, .Name nw pw] [] pos) (eDue ex j x tb iw tr) := by
  obtain ⟨τr, hps, hrd⟩ := hrest
  refine ⟨due_read z P x scope k iw body τr, fun X fx => ⟨fun pins s σ H Q I h => ?_⟩, due_rd F ht hl hrd⟩
  obtain ⟨u, hu, A, ps, hP, tri, kn, h⟩ := h
  refine wpAny_Call_Name_kw (ld_glob I (fx.gl hg) (fx.mgl hmd) ?_ (by decide))
  have kp' : PySem.W.keepIn X.K (.ref gd) = true := by rw [fx.K]; exact Fd.kp
  refine PySem.W.callWith_K (h₀ := X.base) I.ok.mod.kin kp' ?_ (by rfl) (by rfl)
  show wpAny _ _ (spliced ((false, eval (.Lambda params body scope lpos) X.env) :: (false, eval (.Name nw pw) X.env) :: backTo pos (starEach [] X.env))) _ _ s
  have eq : X.env.qual ++ "<lambda>" = lamQ x := by rw [fx.qual]; exact hq
  have L' : LamS X.env.scope scope := by rw [fx.scope]; exact L
  have B' : TabB X.base X.mg c P := by rw [fx.base, fx.mg]; exact B
  refine Calls.spliced_cons (lam_mk (P := P) (c := c) (A := A) (ps := ps) I B' (by rw [fx.code]; exact hcd) hP tri (by rw [eq]; exact kn) (hdef _) (L'.has I.ok) fun f c' pm ctv H1 s1 I1 m hf hfn hfr hco => ?_)
  have I1p := Inv.pinned I1 hf hfn hfr (fun v z => nomatch z) (Inv.noloc I1 hf rfl)
  have hN' : X.N[iw]? = some nw := by rw [fx.N]; exact hN
  have hv' : Vis X.env.scope nw := by rw [fx.scope]; exact hv
  refine Calls.spliced_cons (thn ((pe_var (pos := pw) (i := iw) hN' hv' hd hcd').run _ s1 σ H1 (fun v H' => v = u ∧ H' = H1) I1p ⟨u, hu, rfl, rfl⟩) fun w s2 ⟨v, H2, I2, r1, ev, eH⟩ => ?_)
  subst ev eH
  have hf2 := (I2.pin _ (List.mem_append_right _ List.mem_cons_self)).1
  have I2' := Inv.unpin I2
  refine Calls.spliced_nil ⟨I2'.kIn, ?_⟩
  have rc := due_call (Q := Q) fx I2' Ft hm hb St TS T0 hde Fd hbd Sd DS D0 hps L hf2 hfn hfr hco hbind hk hkd r1 (h f c' H2 (eq ▸ m) (eq ▸ hco))
  refine wpAny_call (codeAny_mono rc fun r s2 hr => ?_)
  cases r with
  | error e => exact (show False from hr).elim
  | ok fl =>
    cases fl with
    | ret u => exact I2'.after hr
    | next => exact False.elim hr
    | brk => exact False.elim hr
    | cont => exact False.elim hr
end TL
set_option Elab.async false
set_option linter.all false
set_option maxRecDepth 100000
set_option maxHeartbeats 4000000
namespace TL
open PySem PySem.Spec PyProof.Rows L2 LamX
section
variable {X : Cx}
abbrev blkAt (X : Cx) (scope : Scope) (s0 : Shared) (H0 : Hp) (C : Addr) (cl : List (Str × Addr)) (fp : List Addr) : Cx := X.blk s0 H0 scope (compEnvC scope cl C X.env) fp
def PEx (X : Cx) (pins : List (Addr × Obj)) (σ : L2.St) (scope : Scope) (elt : Expr) (te : TE) : Prop :=
  ∀ (s0 : Shared) (H0 : Hp) (C : Addr) (cl : List (Str × Addr)) (fp : List Addr) (pb : List (Addr × Obj)) (s : Shared) (τ : L2.St) (H : Hp) (Q : VK),
    (∀ (pb : List (Addr × Obj)) (τ : L2.St) (H : Hp) (s : Shared), Inv (blkAt X scope s0 H0 C cl fp) pb τ H s → Inv X pins σ H s) → Inv (blkAt X scope s0 H0 C cl fp) pb τ H s → te τ H Q →
      wpAny (model X.prog X.w) X.A (eval elt (compEnvC scope cl C X.env)) (EP (blkAt X scope s0 H0 C cl fp) pb τ Q) (fun _ _ => False) s
variable {pins pb : List (Addr × Obj)} {σ τ : L2.St} {H H' : Hp} {s s' : Shared} {scope : Scope} {C : Addr} {cl : List (Str × Addr)} {fp : List Addr}
theorem blk_fp {s0 : Shared} {H0 : Hp} (J : Inv (blkAt X scope s0 H0 C cl fp) [] τ H' s') (nn : ∀ b ∈ fp, H' b = none) : ∀ b ∈ fp, FpOk (blkAt X scope s0 H0 C cl fp) [] H' b := by
  intro b hb
  have own := J.ok.exf b hb
  refine ⟨nn b hb, own.1, J.ok.exfs b hb, .inl hb, ?_, ?_⟩
  · intro x c e
    exact own.2 x c e
  · intro p hp
    cases hp
theorem blk_back (I : Inv X pins σ H s) (far : ∀ b ∈ fp, FpOk X pins H b) (J : Inv (blkAt X scope s H C cl fp) pb τ H' s') : Inv X pins σ H' s' := by
  refine Inv.call' (ch := fp) I J.os J.base J.hok J.bare ?_
  intro b hb
  obtain ⟨_, k1, _, k3, k4, k5⟩ := far b hb
  exact ⟨k3, k1, k4, k5⟩
theorem blk_turn {s0 : Shared} {H0 : Hp} {s1 : Shared} {vs : List Nat} {tn : Nat → Heap → Prop} {i : Nat} {P : Program} {w : World} {K : PySem.W.Frag} {tg : Expr} {It : It} {it : Addr} (T : Turn P w K tg It fp it tn) (st : tn i s1.heap) (hw : wipe τ vs = wipe σ vs)
    (J : Inv (blkAt X scope s0 H0 C cl fp) ([] ++ pinsAt fp s1.heap) τ H' s') : Inv (blkAt X scope s0 H0 C cl fp) [] (wipe σ vs) H' s' ∧ tn i s'.heap ∧ ∀ b ∈ fp, H' b = none := by
  have held : ∀ b ∈ fp, ∀ o, s1.heap.get? b = some o → s'.heap.get? b = some o ∧ H' b = none := by
    intro b hb o e
    have both := J.pin (b, o) (List.mem_append_right _ (List.mem_append_right _ (mem_pinsAt hb e)))
    exact ⟨both.1, both.2.1⟩
  refine ⟨?_, T.keep _ _ _ st fun b hb o e => (held b hb o e).1, ?_⟩
  · refine (Inv.unpinned (pins := []) J).weak ?_ ?_
    · rw [← hw, wipe_length]
    · intro j v e
      rw [← hw] at e
      exact (wipe_some e).1
  · intro b hb
    obtain ⟨o, e, _⟩ := T.obj _ _ st b hb
    exact (held b hb o e).2
theorem lcx_run {Q : VK} {elt tg iter : Expr} {own : List (Str × Nat)} {pos : Pos} {wi : TI} {g : TG} {te : TE}
    (hc : X.calm = true) (nd : X.N.Nodup) (I : Inv X pins σ H s) (pit : PI X tg iter wi) (ok : BlkOk X.N X.env.scope scope own)
    (hg : ∀ (s0 : Shared) (H0 : Hp) (C : Addr) (cl : List (Str × Addr)) (fp : List Addr), PG (blkAt X scope s0 H0 C cl fp) tg g) (he : PEx X pins σ scope elt te) (hs : ∀ x, foldedSetIterable iter X.env x = pure x)
    (h : tLc wi g tYes te (own.map (·.2)) σ H Q) :
    wpAny (model X.prog X.w) X.A (eval (.ListComp elt [⟨tg, iter, [], 0⟩] scope pos) X.env) (EP X pins σ Q) X.xe s := by
  rw [eval_ListComp]
  have cap : ∀ y ∈ scope.names, y.2 = .free → ∃ c, X.env.cells.lookup y.1 = some c := by
    intro y hy e
    exact (ok.free y hy e).elim (fun k => I.ok.has _ (.inl k)) fun k => I.ok.has _ (.inr k)
  apply wpAny_comprehension_free (use := none) rfl hs (closure_ok cap) ok.kind
  · intro y hy e
    rw [ok.uniq y hy, e]
  apply thn (pit.run pins s σ H _ I h)
  intro xv s1 hx
  apply thn hx
  rintro itv s2 ⟨it, fp, tn, J, H2, rfl, I2, T, st2, far2, q⟩
  refine wpAny_newObj_type (newEnv_comp ?_) (by show 0 ≤ sizeLine; exact Nat.zero_le _)
  have new : H2 s2.heap.objs.size = none := I2.hok.fresh (Nat.le_refl _)
  obtain ⟨W, ⟨m0, w0⟩, turn⟩ := q _ new
  generalize hD : s2.heap.objs.size = D at new w0 turn ⊢
  have grow : ∀ b o, s2.heap.get? b = some o → (s2.heap.push { cls := .type "list", data := .seq ([] : List Value).toArray }).get? b = some o := fun b o e => Heap.get?_push_of_some _ e
  have I3 : Inv X pins σ (upd H2 D (.lst [])) { s2 with heap := s2.heap.push { cls := .type "list", data := .seq ([] : List Value).toArray } } := by
    apply I2.laid (t' := s2.toks) grow (Nat.le_of_eq hD)
    rw [← hD]
    exact ⟨Nat.zero_le _, [], 0, .nil, Heap.get?_push_size _ rfl⟩
  have low : ∀ b ∈ fp, b < s2.heap.objs.size := by
    intro b hb
    obtain ⟨o, e, _⟩ := T.obj _ _ st2 b hb
    exact Heap.lt_size e
  have far3 : ∀ b ∈ fp, FpOk X pins (upd H2 D (.lst [])) b := by
    intro b hb
    refine ⟨?_, (far2 b hb).2⟩
    rw [upd_ne (hD ▸ Nat.ne_of_lt (low b hb))]
    exact (far2 b hb).1
  have st3 : tn 0 (s2.heap.push { cls := .type "list", data := .seq ([] : List Value).toArray }) := T.keep _ _ _ st2 fun b _ o e => grow b o e
  generalize hs3 : ({ s2 with heap := s2.heap.push { cls := .type "list", data := .seq ([] : List Value).toArray } } : Shared) = s3 at I3 ⊢
  have e3 : s3.heap = s2.heap.push { cls := .type "list", data := .seq ([] : List Value).toArray } := by rw [← hs3]
  rw [← e3] at st3
  have far4 : ∀ b ∈ fp, FpOk X pins (upd H2 D (.lst [])) b ∧ b < s3.heap.objs.size := fun b hb => ⟨far3 b hb, by rw [e3, Heap.size_push]; exact Nat.lt_succ_of_lt (low b hb)⟩
  generalize hH3 : upd H2 D (.lst []) = H3 at I3 w0 far3 far4
  have I4 := block_start I3 ok nd far4
  generalize hcl : cellsFrom (s3.heap.objs.size + 1) scope.names (cloFrom X.env.cells scope.names []) = clo at I4
  have start : ∀ {s4 : Shared}, Inv (blkAt X scope s3 H3 s3.heap.objs.size clo fp) [] (wipe σ (own.map (·.2))) H3 s4 → tn 0 s4.heap →
      codeAny (model X.prog X.w) X.A (.compLoop (.ListComp elt [⟨tg, iter, [], 0⟩] scope pos) 0 (.ref it) (.ref D) (compEnvC scope clo s3.heap.objs.size X.env)) (compPost (model X.prog X.w) X.A X.xe none (EP X pins σ Q) (.ref D) s3.heap.objs.size) s4 := by
    intro s4 J4 st4
    apply compLoop_any (fun n s' => ∃ i H', (Inv (blkAt X scope s3 H3 s3.heap.objs.size clo fp) [] (wipe σ (own.map (·.2))) H' s' ∧ tn i s'.heap ∧ ∀ b ∈ fp, H' b = none) ∧ W i n H') ?_ m0 ⟨0, H3, ⟨J4, st4, fun b hb => (far3 b hb).1⟩, w0⟩
    rintro n s5 ⟨i, H5, ⟨J5, st5, n5⟩, w5⟩
    obtain ⟨stop, fin⟩ | ⟨go, Nx, next, step⟩ := turn i n H5 w5
    · apply thnF (T.done (blkAt X scope s3 H3 s3.heap.objs.size clo fp) rfl rfl rfl hc i [] s5 _ H5 (fun _ _ => False) J5 (blk_fp J5 n5) st5 stop)
      rintro r s6 ⟨rfl, J6⟩
      have I6 := blk_back I3 far3 J6
      have nC : H5 s3.heap.objs.size = none := J6.free
      obtain ⟨m, ns, _⟩ := J6.loc
      refine ⟨m, ns, fun h'' sb => ?_⟩
      obtain ⟨_, k1, _, k3, k4, k5⟩ := I3.fpOk (Nat.le_refl _) nC
      refine ⟨.ref D, H5, ?_, rfl, fin⟩
      exact I6.turned (t' := s6.toks) (fun b o hb e => (sb.2 b hb).trans e) nC k1 k3 k4 k5
    · apply thnF (T.item (blkAt X scope s3 H3 s3.heap.objs.size clo fp) rfl rfl rfl hc i [] s5 _ H5 (fun _ _ => False) J5 (blk_fp J5 n5) st5 go)
      rintro r s6 ⟨u, rfl, h6⟩
      apply thnF h6
      rintro _ s7 ⟨x, H7, J7, r7, y7, st7, n7⟩
      have J7p := J7.pinned (blk_fp J7 n7) (T.obj _ _ st7)
      apply thnF ((hg s3 H3 s3.heap.objs.size clo fp).run _ s7 _ H7 x u _ J7p r7 (step x H7 y7))
      rintro _ s8 ⟨τ8, H8, J8, same, q8⟩
      apply wpAny_tests_nil
      have q8 : te τ8 H8 fun y H4 => ∃ acc, H4 D = some (.lst acc) ∧ acc.length < sizeLine ∧ Nx (upd H4 D (.lst (acc ++ [y]))) := q8
      show wpAny _ _ _ _ _ s8
      apply thnF (he s3 H3 s3.heap.objs.size clo fp _ s8 τ8 H8 _ (fun pb τ H' s' J' => blk_back I3 far3 J') J8 q8)
      rintro z s9 ⟨yv, H9, J9, r9, acc, atD, small, nx⟩
      apply app_ok (X := blkAt X scope s3 H3 s3.heap.objs.size clo fp) J9 atD small r9
      intro s10 J10
      obtain ⟨m', less, w'⟩ := next _ nx
      exact ⟨m', less, i + 1, _, blk_turn T st7 same J10, w'⟩
  have st4 : tn 0 (pushCells (s3.heap.push { cls := .type "dict", data := .dict #[] }) scope.names) := T.keep _ _ _ st3 fun b _ o e => pushCells_keeps _ _ _ _ (Heap.get?_push_of_some _ e)
  have loop := start I4 st4
  subst hcl
  exact codeAny_compStart_list loop (T.self X.A 0 _ _ _ st4 loop)
end
end TL
set_option Elab.async false
set_option linter.all false
set_option maxRecDepth 100000
set_option maxHeartbeats 4000000
namespace TL
open PySem PySem.Spec PyProof.Rows L2 LamX
def FnC (x : Str) (L : LamD) (cl : List (Str × Addr)) (a c : Addr) : HO := .ext fun h => ∃ pm ctv : Value, h.get? a = some (PySem.W.kla_obj "<lambda>" (lamQ x) L.pa L.bo L.sc cl pm c ctv)
section
variable {X : Cx} {pins : List (Addr × Obj)} {σ : L2.St} {H : Hp} {s : Shared}
theorem fnc_mk {P c : Addr} {A : Addr → Prop} {ps : Array Value} {params : Arguments} {body : Expr} {scope : Scope} {pos : Pos} {x : Str} {E Q : Value → Shared → Prop} (I : Inv X pins σ H s) (B : TabB X.base X.mg c P) (hco : X.env.code = .ref c)
    (hP : H P = some (.tbl ps)) (tri : TriplesOk ps.toList) (hq : X.env.qual ++ "<lambda>" = lamQ x) (known : ∀ (pos : Pos) (cv : Value), codeAmong pos ps.toList = some cv → ∃ c2, cv = .ref c2 ∧ H c2 = some (CodeO c2 (lamQ x)) ∧ A c2)
    (hde : defaultsOf params X.env = ([], [])) (hcap : ∀ y ∈ scope.names, y.2 = .free → ∃ c, X.env.cells.lookup y.1 = some c)
    (h : ∀ (f c' : Addr) (H1 : Hp) (s1 : Shared), Mk H P (lamQ x) A H1 → H1 f = none → H1 c' = some (CodeO c' (lamQ x)) → (H c' = none ∨ A c') → Inv X pins σ (upd H1 f (FnC x ⟨params, body, scope⟩ (cloFrom X.env.cells scope.names []) f c')) s1 → Q (.ref f) s1) :
    wpAny (model X.prog X.w) X.A (eval (.Lambda params body scope pos) X.env) Q E s := by
  refine PySem.W.kla_eval hde ?_
  have bm := B.bm.keeps I.bk
  have atP := I.hok P _ hP
  have ck := closure_ok hcap
  generalize hcl : cloFrom X.env.cells scope.names [] = cl at ck h
  rw [hq]
  cases hc : codeAmong pos ps.toList with
  | some cv =>
    obtain ⟨c2, rfl, hc2, hA⟩ := known pos cv hc
    refine PySem.W.kla_makeFunctionHit ck I.ok.glob (I.mod.glob.keeps I.bk) hco (B.code.keeps I.bk) atP tri hc bm fun ctv h' tk hx hsz => ?_
    have new : ObjOk X.prog X.w (upd H h'.objs.size (FnC x ⟨params, body, scope⟩ cl h'.objs.size c2)) (h'.push (PySem.W.kla_obj "<lambda>" (lamQ x) params body scope cl ((X.mg "__name__").getD .none) c2 ctv)) h'.objs.size (FnC x ⟨params, body, scope⟩ cl h'.objs.size c2) :=
      ⟨⟨_, _, Heap.get?_push_size _ rfl⟩, ⟨_, Heap.get?_push_size _ rfl⟩, fun h1 h2 ⟨pm, ct, z⟩ st => ⟨pm, ct, st _ z⟩⟩
    exact h h'.objs.size c2 H _ (.inl rfl) (I.hok.fresh hsz) hc2 (.inr hA) (I.laid (fun b o e => Heap.get?_push_of_some _ (hx b o e)) hsz new)
  | none =>
    refine PySem.W.kla_makeFunction ck I.ok.glob (I.mod.glob.keeps I.bk) hco (B.code.keeps I.bk) atP tri hc B.gP bm fun c2 ctv h' tk hx hge hlt rec tab => ?_
    obtain ⟨_, oc, vs, t, e2, hoc, hd, hv⟩ := rec
    cases e2
    have big : s.heap.objs.size ≤ h'.objs.size := Nat.le_trans hge (Nat.le_of_lt hlt)
    have new : H c2 = none := I.hok.fresh hge
    have J := inv_table (t' := tk) (more := #[rawInt pos.line, rawInt pos.col, .ref c2]) (h' := h') I hP
      (fun b o hb e => hx b o hb e) tab hge ⟨oc, vs, t, hoc, hd, hv⟩
    have eL : (ps ++ #[rawInt pos.line, rawInt pos.col, .ref c2]).toList = ps.toList ++ [rawInt pos.line, rawInt pos.col, .ref c2] := by simp
    have nf : upd (upd H P (.tbl (ps ++ #[rawInt pos.line, rawInt pos.col, .ref c2]))) c2 (CodeO c2 (lamQ x)) h'.objs.size = none := J.hok.fresh (Nat.le_refl _)
    have newF : ObjOk X.prog X.w (upd (upd (upd H P (.tbl (ps ++ #[rawInt pos.line, rawInt pos.col, .ref c2]))) c2 (CodeO c2 (lamQ x))) h'.objs.size (FnC x ⟨params, body, scope⟩ cl h'.objs.size c2)) (h'.push (PySem.W.kla_obj "<lambda>" (lamQ x) params body scope cl ((X.mg "__name__").getD .none) c2 ctv)) h'.objs.size (FnC x ⟨params, body, scope⟩ cl h'.objs.size c2) :=
      ⟨⟨_, _, Heap.get?_push_size _ rfl⟩, ⟨_, Heap.get?_push_size _ rfl⟩, fun h1 h2 ⟨pm, ct, z⟩ st => ⟨pm, ct, st _ z⟩⟩
    refine h h'.objs.size c2 _ _ (.inr ⟨_, c2, new, rfl, by rw [eL]; exact PySem.TriplesOk_snoc _ _ _ _ tri, fun p' cv hcv => ?_⟩) nf upd_same (.inl new) (J.laid (t' := tk) (fun b o e => Heap.get?_push_of_some _ e) (Nat.le_refl _) newF)
    rw [eL] at hcv
    exact (among_app _ tri hcv).imp (fun z => known p' cv z) id
theorem pe_act3 {Ng : List Str} {qg x : Str} {sg : Scope} {g f c' Lf : Addr} {cdg : Value} {params : Arguments} {body : Expr} {scope : Scope} {k i : Nat} {a : Str} {pn : List (Addr × Obj)} {xe : Value → Shared → Prop} {W : WX} {E : XK} {tb : TE} {p1 p2 : Pos} {A' : Around} {st' : List Env} {s' : Shared} {H' : Hp}
    (I : Inv X pins σ H s) (L : LamS X.env.scope scope) (hq : X.env.qual ++ "<lambda>" = lamQ x)
    (hbind : ∀ (q : Str) (cl : List (Str × Addr)) (pm cv ctv : Value), bindArgs (PySem.W.kla_fn "<lambda>" q params body scope cl pm cv ctv) ⟨[], []⟩ = pure [])
    (est : frs st' = Lf :: frs X.stack) (hLf : s.heap.get? Lf = none) (u0 : Un (frs X.stack) [] H H' s.heap s'.heap) (gd : A'.guards = some [])
    (tk : L2.Takes ((cxOf C8.CX0 X.prog X.w X.K X.mg X.base Ng qg sg g cdg A' st' s' H' C8.E0).tr pn xe) W) (hr : Room (k + 1) (A'.deeper (envOfC qg sg s'.heap.objs.size g cdg)))
    (hbody : ∀ (A : Around) (outer : List Env) (s : Shared) (H : Hp), Room k (A.deeper (lamEnv X scope s.heap.objs.size f c')) → A.guards = some [] → PE (lamCx X A outer s H E scope f c') body tb)
    (hN : Ng[i]? = some a) (hv : Vis sg a) (hd : (a == ("__debug__" : Str)) = false := by decide) (hcd : (a == ("__classdict__" : Str)) = false := by decide) :
    PE ((cxOf C8.CX0 X.prog X.w X.K X.mg X.base Ng qg sg g cdg A' st' s' H' C8.E0).tr pn xe) (.Call (.Name a p1) [] [] p2)
      (fun σ1 H1 Q => (∀ cls d H', E cls d H' → W cls d σ1 H') ∧ σ1[i]? = some (some (.ref f)) ∧ H1 f = some (FnC x ⟨params, body, scope⟩ (cloFrom X.env.cells scope.names []) f c') ∧ H1 c' = some (CodeO c' (lamQ x)) ∧ tb σ H1 Q) := by
  refine ⟨fun pins1 s0 σ1 H0 Q I0 h => ?_⟩
  obtain ⟨hW, hs, hfc, hc, ht⟩ := h
  refine wpAny_Call_Name_kw (thn ((pe_var (pos := p1) (i := i) hN hv hd hcd).run pins1 s0 σ1 H0 (fun v H1 => v = .ref f ∧ H1 = H0) I0 ⟨.ref f, hs, rfl, rfl⟩) fun u s1 ⟨v, H1, I1, r1, ev, eH⟩ => ?_)
  subst ev eH
  obtain rfl : u = Value.ref f := r1
  obtain ⟨⟨pm, ctv, at1⟩, _, _⟩ := I1.hok f _ hfc
  have at1 : s1.heap.get? f = some (PySem.W.kla_obj "<lambda>" (lamQ x) params body scope (cloFrom X.env.cells scope.names []) pm c' ctv) := at1
  refine PySem.W.callWith_F0 ⟨_, _, _, _, at1⟩ ?_
  have ub : Un (frs st') [] H' H1 s'.heap s1.heap := I1.base
  rw [est] at ub
  have un : Un (frs X.stack) [] H H1 s.heap s1.heap := un_two u0 ub hLf
  obtain ⟨⟨oc, vs, t, hoc, hdc, hvc⟩, _, _⟩ := I1.hok c' _ hc
  have rc : codeAny (model X.prog X.w) (A'.deeper (envOfC qg sg s'.heap.objs.size g cdg)) (.call (.ref f) ⟨[], []⟩) (CR (L2.CX X.prog X.w) (envOfC qg sg s'.heap.objs.size g cdg :: st') X.prog X.w H1 s1 Q E) s1 := by
    refine PySem.W.kla_callFunE hr.depth at1 rfl L.co L.gen rfl ⟨c', oc, vs, t, rfl, hoc, hdc, hvc⟩ ?_
    rw [hbind]
    refine wpAny_pure (wpAny_newFunctionEnv (fun y hy => (L.own y hy).2) (fun y hy => absurd hy (by simp)) (fun h₁ hns hsb => ⟨I1.nolimit.fresh _ hsb, ?_⟩) L.kind)
    rw [← hq]
    show codeAny _ _ (.expr body (lamEnv X scope s1.heap.objs.size f c')) _ _
    have kp : ∀ b o, s1.heap.get? b = some o → h₁.get? b = some o := fun b o e => hsb.extBut b o (Nat.ne_of_lt (Heap.lt_size e)) (Heap.get?_push_of_some _ e)
    have J := lam_start2 (E := E) (f := f) (c' := c') (tk := s1.toks + ([] : List (Str × Value)).length) I L I1.env0 hr.hd un hns kp
    refine PySem.W.kla_codeExpr (wpAny_mono ((hbody _ _ s1 H1 (hr.deeper _) gd).run [] _ _ H1 Q J ht) (fun v s' hq => ?_) fun e s' hq => hq)
    obtain ⟨w', H', J', rv, q⟩ := hq
    exact ⟨w', H', J'.os, J'.bare, J'.base, J'.hok, rv, q⟩
  refine wpAny_call (codeAny_mono rc fun r s' hq => ?_)
  cases r with
  | error e => exact tk e s' (L2.XE.of_call I1 (fun cls d H' h => hW cls d H' h) hq)
  | ok fl =>
    cases fl with
    | ret u => exact I1.after hq
    | next => exact False.elim hq
    | brk => exact False.elim hq
    | cont => exact False.elim hq
theorem pe_toldC {z : Sg} {N1 : List Str} {q1 x : Str} {sg1 : Scope} {g1 : Addr} {cd1 : Value} {a : Str} {i k : Nat} {g f c' : Addr} {fd : FuncData} {pg : Arguments} {bg : List Stmt} {sg : Scope} {params : Arguments} {body : Expr} {scope : Scope} {p pa pos : Pos}
    (fx : Fits z X) (I : Inv X pins σ H s) (Ft : FunD z.K "_law_told" "_law_told" pg bg sg [] [] g fd) (hm : z.mg "_law_told" = some (.ref g)) (hb : Binds z.K fd [nLook] []) (St : FnScope Ntold [nLook] sg) (TS : ToldS sg) (T0 : ToldB bg sg) (hde : z.mg dErr = some (.ref (He.ga z.K dErr)))
    (L : LamS z.scope scope) (hq : X.env.qual ++ "<lambda>" = lamQ x)
    (hbind : ∀ (q : Str) (cl : List (Str × Addr)) (pm cv ctv : Value), bindArgs (PySem.W.kla_fn "<lambda>" q params body scope cl pm cv ctv) ⟨[], []⟩ = pure [])
    (hr1 : Room (k + 2) (X.A.deeper (envOfC q1 sg1 s.heap.objs.size g1 cd1))) (hN : N1[i]? = some a) (hv : Vis sg1 a) (hgl : sg1.names.lookup ("_law_told" : Str) = some .globalImplicit) (hd : (a == ("__debug__" : Str)) = false := by decide) (hcd : (a == ("__classdict__" : Str)) = false := by decide) :
    PE (cxOf C8.CX0 X.prog X.w X.K X.mg X.base N1 q1 sg1 g1 cd1 X.A X.stack s H C8.E0).nox (.Call (.Name "_law_told" p) [.Name a pa] [] pos)
      (fun σ1 H1 Q => σ1[i]? = some (some (.ref f)) ∧ H1 f = some (FnC x ⟨params, body, scope⟩ (cloFrom X.env.cells scope.names []) f c') ∧ H1 c' = some (CodeO c' (lamQ x)) ∧ ∃ τl : TE, (∀ X', Fits (z.lam scope k (ETold z.K (He.ga z.K dErr) Q) (.ref c')) X' → PE X' body τl) ∧ ∀ p0, H1 p0 = none → τl σ (upd H1 p0 (.tup [.non, .non])) (QTold f Q)) := by
  refine ⟨fun pins1 s1 σ1 H1 Q J h => ?_⟩
  obtain ⟨hs, hfc, hco, τl, hτ, hv'⟩ := h
  have hmg : X.mg "_law_told" = some (.ref g) := by rw [fx.mg]; exact hm
  refine wpAny_Call_Name_kw (ld_glob J hgl hmg ?_ (by decide))
  have kp' : PySem.W.keepIn X.K (.ref g) = true := by rw [fx.K]; exact Ft.kp
  refine PySem.W.callWith_K (h₀ := X.base) J.ok.mod.kin kp' ?_ (by rfl) (by rfl)
  show wpAny _ _ (spliced ((false, eval (.Name a pa) (envOfC q1 sg1 s.heap.objs.size g1 cd1)) :: backTo pos (starEach [] (envOfC q1 sg1 s.heap.objs.size g1 cd1)))) _ _ s1
  have L' : LamS X.env.scope scope := by rw [fx.scope]; exact L
  refine Calls.spliced_cons (thn ((pe_var (pos := pa) (i := i) hN hv hd hcd).run pins1 s1 σ1 H1 (fun v H' => v = .ref f ∧ H' = H1) J ⟨.ref f, hs, rfl, rfl⟩) fun u s2 ⟨v, H2, J2, r1, ev, eH⟩ => ?_)
  subst ev eH
  obtain rfl : u = Value.ref f := r1
  refine Calls.spliced_nil ⟨J2.kIn, ?_⟩
  obtain ⟨oc, od, dV, kV, doc, pm2, an, cdv, ct, osl, rfl, lk, hcdv, _, _⟩ := Ft.ex
  have hb' := hb
  rw [← fx.K] at hb'
  have hLf : s.heap.get? s.heap.objs.size = none := Heap.get?_none_of_le (Nat.le_refl _)
  have rc : codeAny (model X.prog X.w) (X.A.deeper (envOfC q1 sg1 s.heap.objs.size g1 cd1)) (.call (.ref g) ⟨[.ref f], []⟩) (CR C8.CX0 (envOfC q1 sg1 s.heap.objs.size g1 cd1 :: X.stack) X.prog X.w H2 s2 Q C8.E0) s2 := by
    refine run_ofS (K := X.K) (mg := X.mg) (base := X.base) (N := Ntold) (ps := [nLook]) (us := [.ref f]) (vs := [.ref f]) (k := k + 1) (by rw [fx.K]; exact lk) (by rw [fx.K]; exact hcdv) St hr1 J2.env0 (hb' s2 [.ref f] J2.kIn rfl) (.cons rfl .nil) rfl fun hr' => ?_
    obtain ⟨p1, p2, p3, p4, p5, p6, p7, p8, p9, q1', q2, q3, q4, q5, q6, q7, q8, q9, r1, r2, r3, k1, k2, k3, k4, k5, rfl, hw⟩ := T0
    obtain ⟨t, ht', hq'⟩ := told_body (X := (cxOf C8.CX0 X.prog X.w X.K X.mg X.base N1 q1 sg1 g1 cd1 X.A X.stack s H C8.E0).nox) (f := f) (c' := c') (CS := He.ga X.K dErr) (q := lamQ x) (p1 := p1) (p2 := p2) (p3 := p3) (p4 := p4) (p5 := p5) (p6 := p6) (p7 := p7) (p8 := p8) (p9 := p9) (q1 := q1') (q2 := q2) (q3 := q3) (q4 := q4) (q5 := q5) (q6 := q6) (q7 := q7) (q8 := q8) (q9 := q9) (r1 := r1) (r2 := r2) (r3 := r3) (k1 := k1) (k2 := k2) (k3 := k3) (k4 := k4) (k5 := k5) (x := "_law_told") (g := g) (cdg := cdv) (s := s2) (H := H2) (Q := Q)
      (tl := fun E H' Q' => H' f = some (FnC x ⟨params, body, scope⟩ (cloFrom X.env.cells scope.names []) f c') ∧ ∃ τl : TE, (∀ X', Fits (z.lam scope k E (.ref c')) X' → PE X' body τl) ∧ τl σ H' Q') TS (by show X.mg dErr = _; rw [fx.mg, fx.K]; exact hde) hw
      (fun W pn xe E p1 p2 tk => ⟨fun pins2 s2' σ2 H2' Q2 I2 h2 => by
        obtain ⟨hW, h1, h3, hf2, τ2, hp, h4⟩ := h2
        exact (pe_act3 (x := x) (i := 0) (tb := τ2) (Lf := s.heap.objs.size) (A' := X.A.deeper (envOfC q1 sg1 s.heap.objs.size g1 cd1)) (st' := envOfC q1 sg1 s.heap.objs.size g1 cd1 :: X.stack) I L' hq hbind rfl hLf J2.base fx.gd tk hr' (fun A outer s H hr2 hg2 => hp _ (fits_lam fx hr2 hg2)) rfl (.inl TS.look)).run pins2 s2' σ2 H2' Q2 I2 ⟨hW, h1, hf2, h3, h4⟩⟩) hco (fun p0 hp0 => ⟨by rw [upd_ne (ne_of_none hfc hp0)]; exact hfc, τl, by show ∀ X', Fits (z.lam scope k (ETold X.K (He.ga X.K dErr) Q) (.ref c')) X' → PE X' body τl; rw [fx.K]; exact hτ, hv' p0 hp0⟩)
    exact ⟨t, ht'.nox, hq'⟩
  refine wpAny_call (codeAny_mono rc fun r s2 hr => ?_)
  cases r with
  | error e => exact (show False from hr).elim
  | ok fl =>
    cases fl with
    | ret u => exact J2.after hr
    | next => exact False.elim hr
    | brk => exact False.elim hr
    | cont => exact False.elim hr
theorem due_callC {z : Sg} {x : Str} {k kd : Nat} {g gd f c' : Addr} {fd fdd : FuncData} {pg pd : Arguments} {bg bd rest : List Stmt} {sg sd : Scope} {params : Arguments} {body : Expr} {scope : Scope} {τr : TS} {u : V} {w : Value} {Q : VK}
    (fx : Fits z X) (I : Inv X pins σ H s) (Ft : FunD z.K "_law_told" "_law_told" pg bg sg [] [] g fd) (hm : z.mg "_law_told" = some (.ref g)) (hb : Binds z.K fd [nLook] []) (St : FnScope Ntold [nLook] sg) (TS : ToldS sg) (T0 : ToldB bg sg) (hde : z.mg dErr = some (.ref (He.ga z.K dErr)))
    (Fd : FunD z.K nDue nDue pd bd sd [] [] gd fdd) (hbd : Binds z.K fdd [nLook, nWide] []) (Sd : FnScope Ndue [nLook, nWide] sd) (DS : DueS sd) (D0 : DueB bd rest) (hrest : ∀ X', Fits (z.due sd kd (cdAt z.K gd)) X' → PSs X' rest τr)
    (L : LamS z.scope scope) (hq : X.env.qual ++ "<lambda>" = lamQ x) (hfc : H f = some (FnC x ⟨params, body, scope⟩ (cloFrom X.env.cells scope.names []) f c')) (hco : H c' = some (CodeO c' (lamQ x)))
    (hbind : ∀ (q : Str) (cl : List (Str × Addr)) (pm cv ctv : Value), bindArgs (PySem.W.kla_fn "<lambda>" q params body scope cl pm cv ctv) ⟨[], []⟩ = pure []) (hk : k + 3 ≤ z.lv) (hkd : kd ≤ k + 2) (rw_ : L2.RelV u w)
    (h : ∃ τl : TE, (∀ X, Fits (z.lam scope k (ETold z.K (He.ga z.K dErr) (QDue z.K τr u Q f)) (.ref c')) X → PE X body τl) ∧ ∀ p0, H p0 = none → τl σ (upd H p0 (.tup [.non, .non])) (QTold f (QDue z.K τr u Q f))) :
    codeAny (model X.prog X.w) X.A (.call (.ref gd) ⟨[.ref f, w], []⟩) (CR C8.CX0 X.stack X.prog X.w H s Q C8.E0) s := by
  obtain ⟨oc, od, dV, kV, doc, pm2, an, cdv, ct, osl, rfl, lk, hcdv, _, _⟩ := Fd.ex
  have ecd : cdAt z.K gd = cdv := by
    unfold cdAt
    rw [lk]
  rw [ecd] at hrest
  have hbd' := hbd
  rw [← fx.K] at hbd'
  refine run_ofS (K := X.K) (mg := X.mg) (base := X.base) (N := Ndue) (ps := [nLook, nWide]) (us := [.ref f, w]) (vs := [.ref f, u]) (k := k + 2) (by rw [fx.K]; exact lk) (by rw [fx.K]; exact hcdv) Sd (fx.room.mono hk) I.env0 (hbd' s [.ref f, w] I.kIn rfl) (.cons rfl (.cons rw_ .nil)) rfl fun hr' => ?_
  obtain ⟨p1, p2, p3, p4, p5, p6, p7, k5, rfl⟩ := D0
  have pt := pe_toldC (z := z) (x := x) (N1 := Ndue) (q1 := nDue) (sg1 := sd) (g1 := gd) (cd1 := cdv) (a := nLook) (i := 0) (k := k) (f := f) (c' := c') (params := params) (body := body) (scope := scope) (p := p2) (pa := p3) (pos := p4) fx I Ft hm hb St TS T0 hde L hq hbind hr' rfl (.inl DS.look) DS.told
  have px := pe_ix (pos := p6) ix_seq pt (pe_int (i := 0) (j := k5) (pos := p5)) (by intro _ _; rfl)
  have ps1 := ps_set (X := (cxOf C8.CX0 X.prog X.w X.K X.mg X.base Ndue nDue sd gd cdv X.A X.stack s H C8.E0).nox) (pos := p7) (pos' := p1) (i := 2) (x := nCaught) Sd.nd rfl (.inl DS.caught) px rfl (.inr DS.caught)
  have fit : Fits (z.due sd kd cdv) (cxOf C8.CX0 X.prog X.w X.K X.mg X.base Ndue nDue sd gd cdv X.A X.stack s H C8.E0).nox :=
    ⟨fx.prog, fx.w, fx.K, fx.mg, fx.base, rfl, rfl, rfl, Sd.nd, fun _ _ => rfl, hr'.mono hkd, fx.gd, .of2 L2.takes0, PassesOwn.never, rfl, rfl, fun _ => ⟨rfl, rfl⟩⟩
  refine ⟨_, (pss_cons ps1 (hrest _ fit)).nox, ?_⟩
  obtain ⟨τl, h1, h2⟩ := h
  have e : X.K = z.K := fx.K
  refine ⟨rfl, hfc, hco, τl, ?_, ?_⟩
  · rw [← e] at h1 ⊢
    exact h1
  · rw [← e] at h2
    exact h2
end
end TL
set_option Elab.async false
set_option linter.all false
set_option maxRecDepth 100000
set_option maxHeartbeats 4000000
namespace TL
open PySem PySem.Spec PyProof.Rows L2 LamX
structure LamM where
  L : LamD
  tb : TEx
section
variable {K : PySem.W.Frag} {g0 g g' : G} {H0 H H' : Hp} {S S' : List O} {a l : Addr} {u : HO}
theorem Ext.wr (e : Ext g0 H0 g H) (h0 : H0 a = none) : Ext g0 H0 g (upd H a u) :=
  ⟨fun b o q n => by unfold Kp; rw [upd_ne (ne_of_none q h0)]; exact e.kp0 b o q n, fun b o q n hb => by rw [upd_ne (ne_of_none q h0)]; exact e.kb b o q n hb, e.good, e.sub, e.pre⟩
theorem Ext.live0 (e : Ext g0 H0 g H) (s : SR K g S H) {b : Addr} {o : HO} (h : H0 b = some o) : ∃ o', H b = some o' := by
  by_cases hb : b ∈ g0.hs
  · exact e.hl s b hb
  · exact (e.kp0 b o h hb).some
theorem Ext.none0 (e : Ext g0 H0 g H) (s : SR K g S H) {b : Addr} (h : H b = none) : H0 b = none := by
  cases q : H0 b with
  | none => rfl
  | some o =>
    obtain ⟨o', h'⟩ := e.live0 s q
    rw [h] at h'
    cases h'
theorem Ext.nohs (e : Ext g H g' H') {b : Addr} {o : HO} (h : H b = some o) (n : b ∉ g.hs) : b ∉ g'.hs := by
  obtain ⟨m, em, fm⟩ := e.pre
  rw [em]
  intro z
  rcases List.mem_append.mp z with z | z
  · exact n z
  · rw [fm b z] at h
    cases h
structure Beside (g : G) (H : Hp) (b : Addr) (o : HO) : Prop where
  at_ : H b = some o
  nh : b ∉ g.hs
theorem Beside.later {b : Addr} {o : HO} (h : Beside g H b o) (e : Ext g H g' H') (no : ∀ ws, o ≠ .dK ws) : Beside g' H' b o := ⟨e.keep b o h.at_ h.nh no, e.nohs h.at_ h.nh⟩
structure Own (g : G) (H : Hp) (b : Addr) (xs : List V) : Prop where
  at_ : H b = some (.lst xs)
  nh : b ∉ g.hs
  bd : g.bad b
theorem Own.later {b : Addr} {xs : List V} (h : Own g H b xs) (e : Ext g H g' H') : Own g' H' b xs := ⟨e.kb b _ h.at_ h.nh h.bd, e.nohs h.at_ h.nh, e.sub b h.bd⟩
theorem Own.new {b : Addr} {xs : List V} (s : SR K g S H) (hn : H b = none) : Own (g.on b) (upd H b (.lst xs)) b xs := ⟨upd_same, fun h => s.unbad hn (s.live _ h), .inr rfl⟩
theorem Own.keep {b : Addr} {xs ys : List V} (h : Own g H b xs) (ne : b ≠ l) : Own g (upd H l (.lst ys)) b xs := ⟨by rw [upd_ne ne]; exact h.at_, h.nh, h.bd⟩
theorem Beside.keep {b : Addr} {o : HO} {xs ys : List V} (h : Beside g H b o) (hl : H l = some (.lst xs)) (no : ∀ xs, o ≠ .lst xs) : Beside g (upd H l (.lst ys)) b o := by
  refine ⟨?_, h.nh⟩
  rw [upd_ne]
  · exact h.at_
  · intro z
    have q := h.at_
    rw [z, hl] at q
    exact no xs (Option.some.inj q).symm
end
def FnsAt (x : Str) (cells : List (Str × Addr)) (g : G) (H : Hp) : List (Addr × Addr) → List LamM → Prop
  | [], _ => True
  | p :: ps, m :: ms => Beside g H p.1 (FnC x m.L (cloFrom cells m.L.sc.names []) p.1 p.2) ∧ Beside g H p.2 (CodeO p.2 (lamQ x)) ∧ FnsAt x cells g H ps ms
  | _ :: _, [] => False
section
variable {x : Str} {cells : List (Str × Addr)} {g g' : G} {H H' : Hp}
theorem FnsAt.map (h1 : ∀ b o, (∀ ws, o ≠ .dK ws) → (∀ xs, o ≠ .lst xs) → Beside g H b o → Beside g' H' b o) : ∀ {ps : List (Addr × Addr)} {ms : List LamM}, FnsAt x cells g H ps ms → FnsAt x cells g' H' ps ms
  | [], _, _ => trivial
  | p :: ps, m :: ms, h => ⟨h1 _ _ (fun ws e => by unfold FnC at e; cases e) (fun ws e => by unfold FnC at e; cases e) h.1, h1 _ _ (fun ws e => by unfold CodeO at e; cases e) (fun ws e => by unfold CodeO at e; cases e) h.2.1, FnsAt.map h1 h.2.2⟩
  | _ :: _, [], h => h.elim
theorem FnsAt.later {ps : List (Addr × Addr)} {ms : List LamM} (h : FnsAt x cells g H ps ms) (e : Ext g H g' H') : FnsAt x cells g' H' ps ms := h.map fun b o h1 _ k => k.later e h1
theorem FnsAt.write {l : Addr} {xs ys : List V} {ps : List (Addr × Addr)} {ms : List LamM} (h : FnsAt x cells g H ps ms) (hl : H l = some (.lst xs)) : FnsAt x cells g (upd H l (.lst ys)) ps ms := h.map fun b o _ h2 k => k.keep hl h2
theorem FnsAt.snoc {p : Addr × Addr} {m : LamM} : ∀ {ps : List (Addr × Addr)} {ms ns : List LamM}, ps.length = ms.length → FnsAt x cells g H ps ms → Beside g H p.1 (FnC x m.L (cloFrom cells m.L.sc.names []) p.1 p.2) → Beside g H p.2 (CodeO p.2 (lamQ x)) → FnsAt x cells g H (ps ++ [p]) (ms ++ [m])
  | [], [], _, _, _, h1, h2 => ⟨h1, h2, trivial⟩
  | _ :: ps, _ :: ms, _, e, h, h1, h2 => ⟨h.1, h.2.1, FnsAt.snoc (ns := []) (Nat.succ.inj e) h.2.2 h1 h2⟩
  | [], _ :: _, _, e, _, _, _ => by cases e
  | _ :: _, [], _, e, _, _, _ => by cases e
theorem FnsAt.get : ∀ {ps : List (Addr × Addr)} {ms : List LamM} {i : Nat} {p : Addr × Addr} {m : LamM}, FnsAt x cells g H ps ms → ps[i]? = some p → ms[i]? = some m → Beside g H p.1 (FnC x m.L (cloFrom cells m.L.sc.names []) p.1 p.2) ∧ Beside g H p.2 (CodeO p.2 (lamQ x))
  | [], _, _, _, _, _, e, _ => by simp at e
  | _ :: _, [], _, _, _, h, _, _ => h.elim
  | q :: ps, n :: ms, 0, p, m, h, e1, e2 => by
    simp only [List.getElem?_cons_zero, Option.some.injEq] at e1 e2
    subst e1 e2
    exact ⟨h.1, h.2.1⟩
  | q :: ps, n :: ms, i + 1, p, m, h, e1, e2 => by
    simp only [List.getElem?_cons_succ] at e1 e2
    exact FnsAt.get h.2.2 e1 e2
end
structure LkAt (K : PySem.W.Frag) (x : Str) (cells : List (Str × Addr)) (g0 : G) (H0 : Hp) (S : List O) (l : Addr) (ps : List (Addr × Addr)) (ms : List LamM) (g : G) (H : Hp) : Prop where
  ext : Ext g0 H0 g H
  s : SR K g S H
  l0 : H0 l = none
  ls : Own g H l (ps.map fun p => V.ref p.1)
  fn : FnsAt x cells g H ps ms
section
variable {K : PySem.W.Frag} {x : Str} {cells : List (Str × Addr)} {g0 g g' : G} {H0 H H' : Hp} {S S' : List O} {l : Addr} {ps : List (Addr × Addr)} {ms : List LamM}
theorem LkAt.later (k : LkAt K x cells g0 H0 S l ps ms g H) (e : Ext g H g' H') (s' : SR K g' S' H') : LkAt K x cells g0 H0 S' l ps ms g' H' := ⟨k.ext.tr k.s e, s', k.l0, k.ls.later e, k.fn.later e⟩
theorem LkAt.app {p : Addr × Addr} {m : LamM} (k : LkAt K x cells g0 H0 S l ps ms g H) (hl : ps.length = ms.length) (h1 : Beside g H p.1 (FnC x m.L (cloFrom cells m.L.sc.names []) p.1 p.2)) (h2 : Beside g H p.2 (CodeO p.2 (lamQ x))) :
    LkAt K x cells g0 H0 S l (ps ++ [p]) (ms ++ [m]) g (upd H l (.lst ((ps.map fun p => V.ref p.1) ++ [.ref p.1]))) := by
  refine ⟨k.ext.wr k.l0, k.s.wr k.ls.bd k.ls.nh, k.l0, ⟨by rw [upd_same, List.map_append]; rfl, k.ls.nh, k.ls.bd⟩, ?_⟩
  exact (FnsAt.snoc (ns := []) hl k.fn h1 h2).write k.ls.at_
theorem LkAt.acc {D : Addr} {xs ys : List V} (k : LkAt K x cells g0 H0 S l ps ms g H) (h0 : H0 D = none) (hD : Own g H D xs) (ne : l ≠ D) : LkAt K x cells g0 H0 S l ps ms g (upd H D (.lst ys)) :=
  ⟨k.ext.wr h0, k.s.wr hD.bd hD.nh, k.l0, k.ls.keep ne, k.fn.write hD.at_⟩
end
def tLam (P : Addr) (x : Str) (L : LamD) (cl : List (Str × Addr)) : TE := fun σ H Q => ∃ (A : Addr → Prop) (ps : Array Value), H P = some (.tbl ps) ∧ TriplesOk ps.toList ∧ (∀ (pos : Pos) (cv : Value), codeAmong pos ps.toList = some cv → ∃ c2, cv = .ref c2 ∧ H c2 = some (CodeO c2 (lamQ x)) ∧ A c2) ∧
  ∀ (f c' : Addr) (H1 : Hp), Mk H P (lamQ x) A H1 → H1 f = none → H1 c' = some (CodeO c' (lamQ x)) → (H c' = none ∨ A c') → Q (.ref f) (upd H1 f (FnC x L cl f c'))
theorem pe_lamC {X : Cx} {P c : Addr} {params : Arguments} {body : Expr} {scope : Scope} {pos : Pos} {x : Str} (B : TabB X.base X.mg c P) (hco : X.env.code = .ref c) (hq : X.env.qual ++ "<lambda>" = lamQ x)
    (hde : ∀ env, defaultsOf params env = ([], [])) (L : LamS X.env.scope scope) : PE X (.Lambda params body scope pos) (tLam P x ⟨params, body, scope⟩ (cloFrom X.env.cells scope.names [])) := by
  refine ⟨fun pins s σ H Q I h => ?_⟩
  obtain ⟨A, ps, h1, h2, h3, h4⟩ := h
  exact fnc_mk (x := x) I B hco h1 h2 hq h3 (hde _) (L.has I.ok) fun f c' H1 s1 m n1 n2 n3 I1 => ⟨.ref f, _, I1, rfl, h4 f c' H1 m n1 n2 n3⟩
theorem lam_rd {K : PySem.W.Frag} {g : G} {S : List O} {H : Hp} {P : Addr} {x : Str} {j : Nat} {L : LamD} {cl : List (Str × Addr)} {σ : L2.St} {Q : VK} (s : SR K g S H) (ht : tabA K x = some P) (hS : S[j]? = some (.tbl x))
    (h : ∀ f c' H2, Ext g H g H2 → SR K g S H2 → Beside g H2 f (FnC x L cl f c') → Beside g H2 c' (CodeO c' (lamQ x)) → Q (.ref f) H2) : tLam P x L cl σ H Q := by
  obtain ⟨a, ha⟩ : ∃ a, g.hs[j]? = some a := by
    have lt : j < g.hs.length := by
      rw [s.len]
      exact (List.getElem?_eq_some_iff.mp hS).1
    exact ⟨_, List.getElem?_eq_getElem lt⟩
  obtain ⟨⟨ps, h1, h2, h3⟩, h4⟩ := s.rep j a _ ha hS
  rw [ht] at h4
  cases h4
  refine ⟨fun c => ¬ g.bad c, ps, h1, h2, h3, fun f c' H1 m hf hc hA => ?_⟩
  obtain ⟨e1, s1⟩ := sr_mk s ha ht hS m
  have nb : ¬ g.bad c' := hA.elim (fun z => s.unbad z) id
  have kk : ∀ b u, H1 b = some u → upd H1 f (FnC x L cl f c') b = some u := same_new hf
  exact h f c' _ (e1.tr s1 (Ext.same kk)) (s1.same kk) ⟨upd_same, fun z => s1.unbad hf (s1.live _ z)⟩ ⟨kk _ _ hc, fun z => nb (s.live _ z)⟩
end TL
set_option Elab.async false
set_option linter.all false
set_option maxRecDepth 100000
set_option maxHeartbeats 4000000
namespace TL
open PySem PySem.Spec PyProof.Rows L2 LamX
def eDueAt (ex : List Str) (j : Nat) (x : Str) (tb : TEx) (w : D) (tr : TSx) : TEx := fun ρ S => (eTold ex j x tb ρ S).bind fun d S1 => (ixD d (.int 0) S1).bind fun c S2 => (tr [none, some w, some c] S2).finN
theorem due_post {z : Sg} {x : Str} {sd : Scope} {j kd : Nat} {ex : List Str} {tb : TEx} {tr : TSx} {τr : TS} {cd : Value} {g : G} {S : List O} {ρ : Env1} {σ : L2.St} {H : Hp} {Q : VK} {w : D} {u : V} {f : Addr} (hr : RdS (z.due sd kd cd) τr tr) (s : SR z.K g S H) (h3 : RV z.K g H w u)
    (p : Post z.K z.W (RV z.K) g H σ Q (eDueAt ex j x tb w tr ρ S)) : Post z.K z.W (RV z.K) g H σ (QDue z.K τr u Q f) (eTold ex j x tb ρ S) := by
  unfold eDueAt at p
  revert p
  cases eTold ex j x tb ρ S with
  | exc C d S1 => exact fun p => p
  | stuck => exact fun p => p
  | ok d S1 =>
    intro p g' H' v e s' rv
    have p : Post z.K z.W (RV z.K) g H σ Q ((ixD d (.int 0) S1).bind fun c S2 => (tr [none, some w, some c] S2).finN) := p
    refine ok_ix (W := z.W) g' S1 H' σ _ d (.int 0) v (.int 0) s' rv (by simp only [RV]) ?_
    revert p
    cases ixD d (.int 0) S1 with
    | exc C d S1 => exact fun p => p.later e s'
    | stuck => exact fun p => p
    | ok c S2 =>
      intro p g2 H2 w2 e2 s2 rw2
      have p : Post z.K z.W (RV z.K) g H σ Q (tr [none, some w, some c] S2).finN := p
      have e3 := e.tr s' e2
      refine hr g2 S2 [none, some w, some c] [some (.ref f), some u, some w2] H2 _ s2 ⟨_, _, rfl, _, _, rfl, h3.mono s.live e3, _, _, rfl, rw2, rfl⟩ ?_
      revert p
      cases tr [none, some w, some c] S2 with
      | nx ρ' S3 => exact fun p g3 H3 σ3 e4 s3 r3 => p g3 H3 .non (e3.tr s2 e4) s3 (by simp only [RV])
      | rt d3 S3 => exact fun p g3 H3 v3 e4 s3 r3 => p g3 H3 v3 (e3.tr s2 e4) s3 r3
      | _ => exact fun p => p.elim
theorem RS.put {K : PySem.W.Frag} {g : G} {H : Hp} {v : Option V} : ∀ {ρ : Env1} {σ : L2.St} {i : Nat}, RS K g H ρ σ → ρ[i]? = some Option.none → RS K g H ρ (σ.set i v)
  | [], _, _, _, e => by simp at e
  | Option.none :: r, _, 0, h, _ => by
    simp only [RS] at h ⊢
    obtain ⟨o, y, rfl, h2⟩ := h
    exact ⟨v, y, rfl, h2⟩
  | some d :: r, _, 0, _, e => by simp at e
  | Option.none :: r, _, i + 1, h, e => by
    simp only [RS] at h ⊢
    obtain ⟨o, y, rfl, h2⟩ := h
    exact ⟨o, y.set i v, rfl, RS.put h2 (by simpa using e)⟩
  | some d :: r, _, i + 1, h, e => by
    simp only [RS] at h ⊢
    obtain ⟨o, y, rfl, h1, h2⟩ := h
    exact ⟨o, y.set i v, rfl, h1, RS.put h2 (by simpa using e)⟩
def duesOf (ex : List Str) (j : Nat) (x : Str) (w : D) (tr : TSx) (ρ : Env1) : List LamM → List O → Option (List Bool × List O)
  | [], S => some ([], S)
  | m :: ms, S => match eDueAt ex j x m.tb w tr ρ S with
    | .ok (.bl b) S1 => (match duesOf ex j x w tr ρ ms S1 with
      | some q => some (b :: q.1, q.2)
      | none => none)
    | _ => none
theorem duesOf_cons {ex : List Str} {j : Nat} {x : Str} {w : D} {tr : TSx} {ρ : Env1} {m : LamM} {ms : List LamM} {S : List O} {q : List Bool × List O} (h : duesOf ex j x w tr ρ (m :: ms) S = some q) :
    ∃ b S1 q1, eDueAt ex j x m.tb w tr ρ S = .ok (.bl b) S1 ∧ duesOf ex j x w tr ρ ms S1 = some q1 ∧ q = (b :: q1.1, q1.2) := by
  rw [duesOf] at h
  cases e : eDueAt ex j x m.tb w tr ρ S with
  | ok d S1 =>
    rw [e] at h
    cases d with
    | bl b =>
      cases e2 : duesOf ex j x w tr ρ ms S1 with
      | none =>
        simp only [e2] at h
        cases h
      | some q1 =>
        simp only [e2] at h
        exact ⟨b, S1, q1, rfl, e2, (Option.some.inj h).symm⟩
    | _ => cases h
  | exc C d S1 =>
    rw [e] at h
    cases h
  | stuck =>
    rw [e] at h
    cases h
def OutS.rtN : OutS → OutS
  | .rt d S => .rt d S
  | _ => .stuck
def sLooks (ex : List Str) (j : Nat) (x : Str) (ms : List LamM) (iw il ik : Nat) (tr tBody tRest : TSx) : TSx := fun ρ S => match ρ[il]?, ρ[iw]?, S[j]? with
  | some none, some (some w), some (.tbl y) => if y = x ∧ ik < ρ.length then (match duesOf ex j x w tr ρ ms S with
      | some q => if q.1.all id = true then tRest ρ q.2 else (tBody ρ q.2).rtN
      | none => .stuck) else .stuck
  | _, _, _ => .stuck
structure LamOk (z : Sg) (k : Nat) (m : LamM) : Prop where
  sc : LamS z.scope m.L.sc
  bind : ∀ (q : Str) (cl : List (Str × Addr)) (pm cv ctv : Value), bindArgs (PySem.W.kla_fn "<lambda>" q m.L.pa m.L.bo m.L.sc cl pm cv ctv) ⟨[], []⟩ = pure []
  defs : ∀ env, defaultsOf m.L.pa env = ([], [])
  run : ∀ E cd, DE (z.lam m.L.sc k E cd) m.L.bo m.tb
def teC (z : Sg) (cells : List (Str × Addr)) (x : Str) (k ik iw : Nat) (τr : TS) (σ : L2.St) : TE := fun τ H Q => ∃ (f c : Addr) (u : V) (m : LamM), τ[ik]? = some (some (.ref f)) ∧ τ[iw]? = some (some u) ∧ H f = some (FnC x m.L (cloFrom cells m.L.sc.names []) f c) ∧ H c = some (CodeO c (lamQ x)) ∧ LamOk z k m ∧
  ∃ τl : TE, (∀ X', Fits (z.lam m.L.sc k (ETold z.K (He.ga z.K dErr) (QDue z.K τr u Q f)) (.ref c)) X' → PE X' m.L.bo τl) ∧ ∀ p0, H p0 = none → τl σ (upd H p0 (.tup [.non, .non])) (QTold f (QDue z.K τr u Q f))
section
variable {X : Cx} {pins : List (Addr × Obj)} {σ : L2.St}
theorem pex_due {z : Sg} {x : Str} {k kd ik iw : Nat} {g gd : Addr} {fd fdd : FuncData} {pg pd : Arguments} {bg bd rest : List Stmt} {sg sd bscope : Scope} {τr : TS} {nl nw : Str} {p pl pw pos : Pos}
    (fx : Fits z X) (Ft : FunD z.K "_law_told" "_law_told" pg bg sg [] [] g fd) (hm : z.mg "_law_told" = some (.ref g)) (hb : Binds z.K fd [nLook] []) (St : FnScope Ntold [nLook] sg) (TS : ToldS sg) (T0 : ToldB bg sg) (hde : z.mg dErr = some (.ref (He.ga z.K dErr)))
    (Fd : FunD z.K nDue nDue pd bd sd [] [] gd fdd) (hmd : z.mg nDue = some (.ref gd)) (hbd : Binds z.K fdd [nLook, nWide] []) (Sd : FnScope Ndue [nLook, nWide] sd) (DS : DueS sd) (D0 : DueB bd rest) (hps : ∀ X', Fits (z.due sd kd (cdAt z.K gd)) X' → PSs X' rest τr)
    (hq : X.env.qual ++ "<lambda>" = lamQ x) (hk : k + 3 ≤ z.lv) (hkd : kd ≤ k + 2) (hNl : z.N[ik]? = some nl) (hNw : z.N[iw]? = some nw) (hvl : Vis (relS bscope z.scope) nl) (hvw : Vis (relS bscope z.scope) nw) (hg : (relS bscope z.scope).names.lookup nDue = some .globalImplicit)
    (hl1 : (nl == ("__debug__" : Str)) = false) (hl2 : (nl == ("__classdict__" : Str)) = false) (hw1 : (nw == ("__debug__" : Str)) = false) (hw2 : (nw == ("__classdict__" : Str)) = false) :
    PEx X pins σ bscope (.Call (.Name nDue p) [.Name nl pl, .Name nw pw] [] pos) (teC z X.env.cells x k ik iw τr σ) := by
  intro s0 H0 C cl fp pb s τ H Q back J h
  obtain ⟨f, c, u, m, h1, h2, h3, h4, mk, h5⟩ := h
  have fb := fx.blk bscope s0 H0 C cl fp
  refine wpAny_Call_Name_kw (ld_glob J (fb.gl hg) (fb.mgl hmd) ?_ (by decide))
  have kp' : PySem.W.keepIn X.K (.ref gd) = true := by rw [fx.K]; exact Fd.kp
  refine PySem.W.callWith_K (h₀ := X.base) J.ok.mod.kin kp' ?_ (by rfl) (by rfl)
  show wpAny _ _ (spliced ((false, eval (.Name nl pl) (compEnvC bscope cl C X.env)) :: (false, eval (.Name nw pw) (compEnvC bscope cl C X.env)) :: backTo pos (starEach [] (compEnvC bscope cl C X.env)))) _ _ s
  refine Calls.spliced_cons (thn ((pe_var (X := blkAt X bscope s0 H0 C cl fp) (pos := pl) (i := ik) (fb.at hNl) (fb.vis hvl) hl1 hl2).run pb s τ H (fun v H' => v = .ref f ∧ H' = H) J ⟨.ref f, h1, rfl, rfl⟩) fun u1 s2 ⟨v, H2, J2, r1, ev, eH⟩ => ?_)
  subst ev eH
  obtain rfl : u1 = Value.ref f := r1
  refine Calls.spliced_cons (thn ((pe_var (X := blkAt X bscope s0 H0 C cl fp) (pos := pw) (i := iw) (fb.at hNw) (fb.vis hvw) hw1 hw2).run pb s2 τ H2 (fun v H' => v = u ∧ H' = H2) J2 ⟨u, h2, rfl, rfl⟩) fun w s3 ⟨v, H3, J3, r2, ev, eH⟩ => ?_)
  subst ev eH
  refine Calls.spliced_nil ⟨J3.kIn, ?_⟩
  have rc := due_callC (Q := Q) (x := x) fx (back _ _ _ _ J3) Ft hm hb St TS T0 hde Fd hbd Sd DS D0 hps mk.sc hq h3 h4 mk.bind hk hkd r2 h5
  refine wpAny_call (codeAny_mono rc fun r s' hr => ?_)
  cases r with
  | error e => exact (show False from hr).elim
  | ok fl =>
    cases fl with
    | ret u => exact J3.after hr
    | next => exact False.elim hr
    | brk => exact False.elim hr
    | cont => exact False.elim hr
end
section
variable {z : Sg} {cells : List (Str × Addr)} {x : Str} {P : Addr} {j k il ik iw : Nat} {g0 g : G} {H0 H : Hp} {S : List O} {l : Addr} {ps : List (Addr × Addr)} {ms : List LamM} {σ : L2.St} {D0 : Ends}
def tApp (z : Sg) (cells : List (Str × Addr)) (P : Addr) (x : Str) (il : Nat) (m : LamM) : TS := tDrop (tBM z.K "list" rAppend (tVar il) (tCons (tLam P x m.L (cloFrom cells m.L.sc.names [])) tNil))
theorem app_rd {m : LamM} (kk : LkAt z.K x cells g0 H0 S l ps ms g H) (hl : ps.length = ms.length) (ht : tabA z.K x = some P) (hj : S[j]? = some (.tbl x)) (hσ : σ[il]? = some (some (.ref l))) (hsz : ps.length < sizeLine)
    (h : ∀ H' f c', LkAt z.K x cells g0 H0 S l (ps ++ [(f, c')]) (ms ++ [m]) g H' → D0.nx σ H') : tApp z cells P x il m D0 σ H := by
  refine ⟨.ref l, hσ, .inl ⟨rfl, _, .inl (.inl kk.ls.at_)⟩, lam_rd kk.s ht hj fun f c' H2 e s2 b1 b2 => ?_⟩
  refine ⟨l, _, .ref f, rfl, rfl, (kk.ls.later e).at_, by rw [List.length_map]; exact hsz, ?_⟩
  exact h _ f c' ((kk.later e s2).app (p := (f, c')) hl b1 b2)
def tLooks (z : Sg) (cells : List (Str × Addr)) (x : Str) (k il ik iw : Nat) (τr : TS) : TE := fun σ H Q => tLc (iList z.K (tVar il)) (gName ik) tYes (teC z cells x k ik iw τr σ) [ik] σ H Q
theorem looks_rd {ex : List Str} {w : D} {u : V} {tr : TSx} {τr : TS} {ρ : Env1} {sd : Scope} {kd : Nat} {cd : Value} {q : List Bool × List O} {Q : VK} (F : ExF z.K ex) (hr : RdS (z.due sd kd cd) τr tr) (ht : tabA z.K x = some P) (hM : ∀ m ∈ ms, LamOk z k m)
    (kk : LkAt z.K x cells g0 H0 S l ps ms g H) (hl : ps.length = ms.length) (hsz : ps.length < sizeLine) (sl : ∀ a ∈ g0.hs, g0.bad a) (rs : RS z.K g0 H0 ρ σ) (hσ : σ[il]? = some (some (.ref l))) (hw : ρ[iw]? = some (some w)) (hik : ik < ρ.length) (hne : ik ≠ iw)
    (hd : duesOf ex j x w tr ρ ms S = some q) (h : ∀ g' H' D, LkAt z.K x cells g0 H0 q.2 l ps ms g' H' → H' D = some (.lst (q.1.map V.bl)) → Q (.ref D) H') : tLooks z cells x k il ik iw τr σ H Q := by
  refine ⟨.ref l, hσ, l, rfl, ⟨_, .inl (.inl kk.ls.at_)⟩, fun D hD => ?_⟩
  have h0 : H0 D = none := kk.ext.none0 kk.s hD
  have ne : l ≠ D := fun z => by
    have q := kk.ls.at_
    rw [z, hD] at q
    cases q
  refine lc_list (xs := ps.map fun p => V.ref p.1) (fun i H' => ∃ g' S' bs, LkAt z.K x cells g0 H0 S' l ps ms g' H' ∧ Own g' H' D (bs.map V.bl) ∧ bs.length = i ∧ ∃ q1, duesOf ex j x w tr ρ (ms.drop i) S' = some q1 ∧ bs ++ q1.1 = q.1 ∧ q1.2 = q.2) ?_ ?_ ?_ ?_
  · exact ⟨g.on D, S, [], kk.later (Ext.on hD) (kk.s.on hD), Own.new kk.s hD, rfl, q, hd, rfl, rfl⟩
  · rintro i H' _ ⟨g', S', bs, k', _⟩
    exact .inl (.inl k'.ls.at_)
  · rintro i y H' hy ⟨g', S', bs, k', ow, hi, q1, hq, e1, e2⟩
    rw [List.getElem?_map] at hy
    obtain ⟨p, hp, rfl⟩ := Option.map_eq_some_iff.mp hy
    have lt : i < ms.length := by
      rw [← hl]
      exact (List.getElem?_eq_some_iff.mp hp).1
    have hm : ms[i]? = some ms[i] := List.getElem?_eq_getElem lt
    rw [List.drop_eq_getElem_cons lt] at hq
    obtain ⟨b, S2, q2, d1, d2, rfl⟩ := duesOf_cons hq
    have lσ := rs.length
    refine ⟨by show ((σ.set ik none).set ik (some (V.ref p.1))).set ik none = σ.set ik none; rw [List.set_set, List.set_set], ?_⟩
    simp only [tYes, ↓reduceIte]
    have rs' := rs.mono sl k'.ext
    obtain ⟨u, hu, ru⟩ := rs'.get hw
    obtain ⟨fa, fb⟩ := k'.fn.get hp hm
    have told : ∀ Q' : VK, Post z.K z.W (RV z.K) g' H' σ Q' (eDueAt ex j x ms[i].tb w tr ρ S') → ∃ τl : TE, (∀ X', Fits (z.lam ms[i].L.sc k (ETold z.K (He.ga z.K dErr) (QDue z.K τr u Q' p.1)) (.ref p.2)) X' → PE X' ms[i].L.bo τl) ∧ ∀ p0, H' p0 = none → τl σ (upd H' p0 (.tup [.non, .non])) (QTold p.1 (QDue z.K τr u Q' p.1)) := fun Q' pf => by
      obtain ⟨A, tab, _, _, _, told⟩ := told_rdF (j := j) F ht (hM _ (List.getElem_mem lt)).run (fun f => QDue z.K τr u Q' f) k'.s rs' (fun f => due_post (f := f) hr k'.s ru pf)
      exact told p.1 p.2 H' (.inl rfl) fb.at_
    refine ⟨p.1, p.2, u, ms[i], ?_, ?_, fa.at_, fb.at_, hM _ (List.getElem_mem lt), ?_⟩
    · show ((σ.set ik none).set ik (some (V.ref p.1)))[ik]? = _
      rw [List.set_set, List.getElem?_set_self (by rw [lσ]; exact hik)]
    · show ((σ.set ik none).set ik (some (V.ref p.1)))[iw]? = _
      rw [List.set_set, List.getElem?_set_ne hne]
      exact hu
    · refine told _ ?_
      rw [d1]
      intro g3 H3 v e3 s3 rv
      simp only [RV] at rv
      subst rv
      have ow3 := ow.later e3
      refine ⟨bs.map V.bl, ow3.at_, by rw [List.length_map]; omega, g3, S2, bs ++ [b], (k'.later e3 s3).acc h0 ow3 ne, ⟨by rw [upd_same, List.map_append]; rfl, ow3.nh, ow3.bd⟩, by rw [List.length_append, hi]; rfl, q2, d2, by rw [List.append_assoc]; exact e1, e2⟩
  · rintro H' ⟨g', S', bs, k', ow, hi, q1, hq, e1, e2⟩
    rw [List.length_map, hl, List.drop_length] at hq
    cases hq
    simp only [List.append_nil] at e1
    subst e1
    have e2 : S' = q.2 := e2
    rw [e2] at k'
    exact h g' H' D k' ow.at_
end
end TL
set_option Elab.async false
set_option linter.all false
set_option maxRecDepth 100000
set_option maxHeartbeats 4000000
namespace TL
open PySem PySem.Spec PyProof.Rows L2 LamX
theorem dss_looks {z : Sg} {x : Str} {ex : List Str} {j k kd il ik iw : Nat} {c P g gd : Addr} {fd fdd : FuncData} {pg pd : Arguments} {bg bd rest0 body rest : List Stmt} {sg sd bscope : Scope} {m1 m2 m3 m4 : LamM} {tr tBody tRest : TSx} {ns nl nw : Str}
    {p1 p2 p3 l1 l2 l3 l4 q1 q2 q3 q4 r1 r2 r3 r4 t1 t2 t3 t4 d1 d2 d3 d4 d5 d6 d7 a0 a1 a2 a3 : Pos}
    (Ft : FunD z.K "_law_told" "_law_told" pg bg sg [] [] g fd) (hm : z.mg "_law_told" = some (.ref g)) (hb : Binds z.K fd [nLook] []) (St : FnScope Ntold [nLook] sg) (TS : ToldS sg) (T0 : ToldB bg sg) (F : ExF z.K ex) (hde : z.mg dErr = some (.ref (He.ga z.K dErr)))
    (Fd : FunD z.K nDue nDue pd bd sd [] [] gd fdd) (hmd : z.mg nDue = some (.ref gd)) (hbd : Binds z.K fdd [nLook, nWide] []) (Sd : FnScope Ndue [nLook, nWide] sd) (DS : DueS sd) (D0 : DueB bd rest0) (hrest0 : DSs (z.due sd kd (cdAt z.K gd)) rest0 tr)
    (hq : z.qual ++ "<lambda>" = lamQ x) (hcd : z.code = .ref c) (ht : tabA z.K x = some P) (B : TabB z.base z.mg c P)
    (h1 : LamOk z k m1) (h2 : LamOk z k m2) (h3 : LamOk z k m3) (h4 : LamOk z k m4) (hk : k + 3 ≤ z.lv) (hkd : kd ≤ k + 2) (hall : z.mg "all" = none)
    (hbody : DSs z body tBody) (hrest : DSs z rest tRest)
    (hNs : z.N[il]? = some ns) (hNl : z.N[ik]? = some nl) (hNw : z.N[iw]? = some nw) (hsto : Sto z ns) (hsv : Vis z.scope ns) (ok : blkC z.N z.scope bscope [(nl, ik)] = true)
    (hll : (relS bscope z.scope).names.lookup nl = some .local) (hvw : Vis (relS bscope z.scope) nw) (hgd : (relS bscope z.scope).names.lookup nDue = some .globalImplicit) (hga : Gz z "all") (hne : ik ≠ iw)
    (hs1 : ∀ env, swapsWith (.List [.Lambda m1.L.pa m1.L.bo m1.L.sc l1] p2) (some (.Name ns p1)) p3.line env = pure false := by intro _; rfl)
    (hs2 : ∀ env, swapsWith (.Call (.Attribute (.Name ns q1) "append" q2) [.Lambda m2.L.pa m2.L.bo m2.L.sc l2] [] q3) none q4.line env = pure false := by intro _; rfl)
    (hs3 : ∀ env, swapsWith (.Call (.Attribute (.Name ns r1) "append" r2) [.Lambda m3.L.pa m3.L.bo m3.L.sc l3] [] r3) none r4.line env = pure false := by intro _; rfl)
    (hs4 : ∀ env, swapsWith (.Call (.Attribute (.Name ns t1) "append" t2) [.Lambda m4.L.pa m4.L.bo m4.L.sc l4] [] t3) none t4.line env = pure false := by intro _; rfl)
    (hn2 : (q2.endLine == q3.line) = true := by rfl) (hn3 : (r2.endLine == r3.line) = true := by rfl) (hn4 : (t2.endLine == t3.line) = true := by rfl)
    (c1 : (ns == ("__debug__" : Str)) = false := by decide) (c2 : (ns == ("__classdict__" : Str)) = false := by decide) (c3 : (nl == ("__debug__" : Str)) = false := by decide) (c4 : (nl == ("__classdict__" : Str)) = false := by decide) (c5 : (nw == ("__debug__" : Str)) = false := by decide) (c6 : (nw == ("__classdict__" : Str)) = false := by decide) :
    DSs z (.Assign [.Name ns p1] (.List [.Lambda m1.L.pa m1.L.bo m1.L.sc l1] p2) p3 ::
      .Expr (.Call (.Attribute (.Name ns q1) "append" q2) [.Lambda m2.L.pa m2.L.bo m2.L.sc l2] [] q3) q4 ::
      .Expr (.Call (.Attribute (.Name ns r1) "append" r2) [.Lambda m3.L.pa m3.L.bo m3.L.sc l3] [] r3) r4 ::
      .Expr (.Call (.Attribute (.Name ns t1) "append" t2) [.Lambda m4.L.pa m4.L.bo m4.L.sc l4] [] t3) t4 ::
      .If (.UnaryOp .Not (.Call (.Name "all" a0) [.ListComp (.Call (.Name nDue d1) [.Name nl d2, .Name nw d3] [] d4) [⟨.Name nl d5, .Name ns d6, [], 0⟩] bscope d7] [] a1) a2) body [] a3 :: rest)
      (sLooks ex j x [m1, m2, m3, m4] iw il ik tr tBody tRest) := by
  obtain ⟨τd, hpd, hrd⟩ := hrest0
  obtain ⟨τb, hpb, hrb⟩ := hbody
  obtain ⟨τr, hpr, hrr⟩ := hrest
  refine ⟨fun T σ H => ∃ g S ρ, SR z.K g S H ∧ RS z.K g H ρ σ ∧ PostS z.K z.W g H T (sLooks ex j x [m1, m2, m3, m4] iw il ik tr tBody tRest ρ S), fun X fx => ?_, fun g S ρ σ H T s rs p => ⟨g, S, ρ, s, rs, p⟩⟩
  have B' : TabB X.base X.mg c P := by rw [fx.base, fx.mg]; exact B
  have hc' : X.env.code = .ref c := by rw [fx.code]; exact hcd
  have hq' : X.env.qual ++ "<lambda>" = lamQ x := by rw [fx.qual]; exact hq
  have lm : ∀ m, LamOk z k m → ∀ pos, PE X (.Lambda m.L.pa m.L.bo m.L.sc pos) (tLam P x m.L (cloFrom X.env.cells m.L.sc.names [])) := fun m hm pos => pe_lamC B' hc' hq' hm.defs (by rw [fx.scope]; exact hm.sc)
  have vr : ∀ pos, PE X (.Name ns pos) (tVar il) := fun pos => pe_var (fx.at hNs) (fx.vis hsv) c1 c2
  have ps1 := ps_set (X := X) (pos := p3) (pos' := p1) fx.ndX (fx.at hNs) (fx.loc hsto.loc) (pe_lst (pos := p2) (pa_cons (lm m1 h1 l1) pa_nil)) (hs1 _) (fx.st hsto)
  have ap : ∀ (m : LamM) (hm : LamOk z k m) (q1 q2 q3 q4 lp : Pos) (hs : swapsWith (.Call (.Attribute (.Name ns q1) "append" q2) [.Lambda m.L.pa m.L.bo m.L.sc lp] [] q3) none q4.line X.env = pure false) (hn : (q2.endLine == q3.line) = true),
      PS X (.Expr (.Call (.Attribute (.Name ns q1) "append" q2) [.Lambda m.L.pa m.L.bo m.L.sc lp] [] q3) q4) (tApp z X.env.cells P x il m) := fun m hm q1 q2 q3 q4 lp hs hn =>
    ps_expr (fx.K ▸ pe_bm PySem.F.plainAttrs_list PySem.F.slot_list_append PySem.F.type_list_append mt_append (vr q1) (pa_cons (lm m hm lp) pa_nil) (by rfl) (by rfl) hn (by rfl) (by rfl)) hs
  have cmp : PE X (.ListComp (.Call (.Name nDue d1) [.Name nl d2, .Name nw d3] [] d4) [⟨.Name nl d5, .Name ns d6, [], 0⟩] bscope d7) (tLooks z X.env.cells x k il ik iw τd) := by
    refine ⟨fun pins s σ H Q I h => ?_⟩
    refine lcx_run (own := [(nl, ik)]) (wi := iList z.K (tVar il)) (g := gName ik) (te := teC z X.env.cells x k ik iw τd σ) fx.calm fx.ndX I (fx.K ▸ pi_list (vr d6)) (by rw [fx.N, fx.scope]; exact blkOk_by ok) (fun s0 H0 C cl fp => ?_) ?_ (by intro _; rfl) h
    · have fb := fx.blk bscope s0 H0 C cl fp
      exact pg_name (X := blkAt X bscope s0 H0 C cl fp) fx.ndX (fb.at hNl) (fb.loc (.inl hll)) (.inr (by rw [fb.scope]; exact hll))
    · exact pex_due fx Ft hm hb St TS T0 hde Fd hmd hbd Sd DS D0 hpd hq' hk hkd hNl hNw (.inl hll) hvw hgd c3 c4 c5 c6
  have ps5 := ps_if (pos := a3) (pt_not (pos := a2) (pt_val (pe_callB (p := a0) (pos := a1) (fx.K ▸ cr_all fx.calm : CallR X (.builtin "all") (rAll z.K)) (fx.gl hga) (fx.mgl hall) (by decide +kernel) (pa_cons cmp pa_nil)))) (hpb X fx) pss_nil
  refine ⟨fun pins s σ H D I h => (pss_cons ps1 (pss_cons (ap m2 h2 q1 q2 q3 q4 l2 (hs2 _) hn2) (pss_cons (ap m3 h3 r1 r2 r3 r4 l3 (hs3 _) hn3) (pss_cons (ap m4 h4 t1 t2 t3 t4 l4 (hs4 _) hn4) (pss_cons ps5 (hpr X fx)))))).run pins s σ H D I ?_⟩
  obtain ⟨g, S, ρ, sr, rs, p⟩ := h
  unfold sLooks at p
  split at p
  · rename_i w y e1 e2 e3
    split at p
    · rename_i hcnd
      obtain ⟨rfl, hik⟩ := hcnd
      split at p
      · rename_i q hd
        have lσ : il < σ.length := by
          rw [rs.length]
          exact (List.getElem?_eq_some_iff.mp e1).1
        show tLam P y m1.L (cloFrom X.env.cells m1.L.sc.names []) σ H fun v H1 => ((v :: ([] : List V)).length ≤ sizeLine ∧ ∀ p, H1 p = none → tSeq (tApp z X.env.cells P y il m2) (tSeq (tApp z X.env.cells P y il m3) (tSeq (tApp z X.env.cells P y il m4) (tSeq (tIfS (tNot (tB (tCB (rAll z.K) (tCons (tLooks z X.env.cells y k il ik iw τd) tNil)))) τb tNext) τr))) D (σ.set il (some (.ref p))) (upd H1 p (.lst [v])))
        refine lam_rd sr ht e3 fun f c' H2 xt s2 b1 b2 => ?_
        refine ⟨by show 1 ≤ sizeLine; decide +kernel, fun l hl => ?_⟩
        have k1 : LkAt z.K y X.env.cells g H S l [(f, c')] [m1] (g.on l) (upd H2 l (.lst [.ref f])) :=
          ⟨xt.tr s2 (Ext.on hl), s2.on hl, xt.none0 s2 hl, Own.new s2 hl, b1.later (Ext.on hl) (fun ws e => by unfold FnC at e; cases e), b2.later (Ext.on hl) (fun ws e => by unfold CodeO at e; cases e), trivial⟩
        have hσ : (σ.set il (some (.ref l)))[il]? = some (some (.ref l)) := List.getElem?_set_self lσ
        have rs1 : RS z.K g H ρ (σ.set il (some (.ref l))) := rs.put e1
        generalize σ.set il (some (.ref l)) = σ1 at hσ rs1 ⊢
        refine app_rd k1 rfl ht e3 hσ (by show 1 < sizeLine; decide +kernel) fun H3 f2 d2' k2 => ?_
        refine app_rd k2 rfl ht e3 hσ (by show 2 < sizeLine; decide +kernel) fun H4 f3 d3' k3 => ?_
        refine app_rd k3 rfl ht e3 hσ (by show 3 < sizeLine; decide +kernel) fun H5 f4 d4' k4 => ?_
        show tLooks z X.env.cells y k il ik iw τd σ1 H5 fun v H' => rAll z.K [v] H' fun b H3 => ∃ c, b = .bl c ∧ (if (!c) = true then τb { D with nx := τr D } σ1 H3 else tNext { D with nx := τr D } σ1 H3)
        refine looks_rd (k := k) (kd := kd) (cd := cdAt z.K gd) (u := .non) F hrd ht (fun m hm => ?_) k4 rfl (by show 4 < sizeLine; decide +kernel) sr.live rs1 hσ e2 hik hne hd fun g' H' Dd k5 hD => ?_
        · simp only [List.cons_append, List.nil_append, List.mem_cons, List.not_mem_nil, or_false] at hm
          rcases hm with rfl | rfl | rfl | rfl
          · exact h1
          · exact h2
          · exact h3
          · exact h4
        · refine ⟨Dd, q.1, rfl, .inl (.inl hD), _, rfl, ?_⟩
          have rs5 := rs1.mono sr.live k5.ext
          cases hb : q.1.all id with
          | true =>
            rw [if_pos hb] at p
            show τr D σ1 H'
            exact hrr g' q.2 ρ σ1 H' D k5.s rs5 (PostS.later k5.ext k5.s p)
          | false =>
            rw [if_neg (by rw [hb]; exact Bool.false_ne_true)] at p
            show τb { D with nx := τr D } σ1 H'
            refine hrb g' q.2 ρ σ1 H' _ k5.s rs5 ?_
            have p := PostS.later k5.ext k5.s p
            revert p
            cases tBody ρ q.2 with
            | rt d S2 => exact fun p => p
            | _ => exact fun p => p.elim
      · exact p.elim
    · exact p.elim
  · exact p.elim
end TL
set_option Elab.async false
set_option linter.all false
set_option maxRecDepth 100000
set_option maxHeartbeats 4000000
namespace TL
open PySem PySem.Spec PyProof.Rows L2 LamX
def DueC (P : Program) (w : World) (K : PySem.W.Frag) (mg : Str → Option Value) (base : Heap) (kd : Nat) (tr : TSx) : Prop :=
  ∃ (gd : Addr) (fdd : FuncData) (pd : Arguments) (bd rest : List Stmt) (sd : Scope), FunD K nDue nDue pd bd sd [] [] gd fdd ∧ mg nDue = some (.ref gd) ∧ Binds K fdd [nLook, nWide] [] ∧ FnScope Ndue [nLook, nWide] sd ∧ DueS sd ∧ DueB bd rest ∧
    DSs ⟨P, w, K, mg, base, Ndue, sd, fun _ => true, kd, fun _ _ _ _ => False, nDue ++ ".<locals>.", cdAt K gd, true⟩ rest tr
theorem de_dueC {z : Sg} {x : Str} {ex ms : List Str} {params : Arguments} {body : Expr} {scope : Scope} {tb : TEx} {tr : TSx} {p pw lpos pos : Pos} {nw : Str} (j k kd iw : Nat) (T : ToldC z.K z.mg) (U : DueC z.P z.w z.K z.mg z.base kd tr) (F : ExF z.K ex) (hde : z.mg dErr = some (.ref (He.ga z.K dErr)))
    (B : TabsB z.K z.mg ms z.base) (hm : x ∈ ms) (hl : ∀ E cd, DE (z.lam scope k E cd) body tb) (hk : k + 3 ≤ z.lv) (hkd : kd ≤ k + 2) (hN : z.N[iw]? = some nw := by rfl) (hv : Vis z.scope nw := by first | exact Or.inl rfl | exact Or.inr (Or.inl rfl) | exact Or.inr (Or.inr rfl)) (hx : z.qual ++ "<lambda>" = lamQ x := by rfl) (hcd : z.code = cdAt z.K (He.ga z.K x) := by rfl)
    (L : LamS z.scope scope := by exact lamS_by (by decide +kernel)) (hdef : ∀ env, defaultsOf params env = ([], []) := by intro _; rfl)
    (hbind : ∀ (q : Str) (cl : List (Str × Addr)) (pm cv ctv : Value), bindArgs (PySem.W.kla_fn "<lambda>" q params body scope cl pm cv ctv) ⟨[], []⟩ = pure [] := by intros; rfl) (hg : Gz z nDue := by rfl) (hd : (nw == ("__debug__" : Str)) = false := by decide) (hcd' : (nw == ("__classdict__" : Str)) = false := by decide) :
    DE z (.Call (.Name nDue p) [.Lambda params body scope lpos, .Name nw pw] [] pos) (eDue ex j x tb iw tr) := by
  obtain ⟨g, fd, pg, bg, sg, h1, h2, h3, h4, h5, h6⟩ := T
  obtain ⟨gd, fdd, pd, bd, rest, sd, u1, u2, u3, u4, u5, u6, u7⟩ := U
  obtain ⟨c, P, b1, b2, b3⟩ := B x hm
  exact de_due (c := c) (P := P) h1 h2 h3 h4 h5 h6 F hde u1 u2 u3 u4 u5 u6 u7 hx (hcd.trans b1) b2 b3 L hdef hbind hl hk hkd hN hv hg hd hcd'
def duesT (ex : List Str) (j : Nat) (x : Str) (w : D) (tr : TSx) (ρ : Env1) : List TEx → List O → Option (List Bool × List O)
  | [], S => some ([], S)
  | tb :: ms, S => match eDueAt ex j x tb w tr ρ S with
    | .ok (.bl b) S1 => (match duesT ex j x w tr ρ ms S1 with
      | some q => some (b :: q.1, q.2)
      | none => none)
    | _ => none
def sLooksT (ex : List Str) (j : Nat) (x : Str) (ms : List TEx) (iw il ik : Nat) (tr tBody tRest : TSx) : TSx := fun ρ S => match ρ[il]?, ρ[iw]?, S[j]? with
  | some none, some (some w), some (.tbl y) => if y = x ∧ ik < ρ.length then (match duesT ex j x w tr ρ ms S with
      | some q => if q.1.all id = true then tRest ρ q.2 else (tBody ρ q.2).rtN
      | none => .stuck) else .stuck
  | _, _, _ => .stuck
theorem duesT_eq {ex : List Str} {j : Nat} {x : Str} {w : D} {tr : TSx} {ρ : Env1} : ∀ (ms : List LamM) (S : List O), duesOf ex j x w tr ρ ms S = duesT ex j x w tr ρ (ms.map (·.tb)) S
  | [], _ => rfl
  | m :: ms, S => by
    rw [duesOf, List.map_cons, duesT]
    cases eDueAt ex j x m.tb w tr ρ S with
    | ok d S1 =>
      cases d with
      | bl b =>
        simp only [duesT_eq ms S1]
        all_goals (cases duesT ex j x w tr ρ (List.map (fun x => x.tb) ms) S1 <;> rfl)
      | _ => rfl
    | _ => rfl
theorem sLooksT_eq {ex : List Str} {j : Nat} {x : Str} {ms : List LamM} {iw il ik : Nat} {tr tBody tRest : TSx} : sLooks ex j x ms iw il ik tr tBody tRest = sLooksT ex j x (ms.map (·.tb)) iw il ik tr tBody tRest := by
  funext ρ S
  unfold sLooks sLooksT
  simp only [duesT_eq]
  all_goals rfl
theorem dss_looksC {z : Sg} {x : Str} {ex mk : List Str} {il ik iw : Nat} {body rest : List Stmt} {bscope : Scope} {tr tBody tRest : TSx} {ns nl nw : Str} {pa1 pa2 pa3 pa4 : Arguments} {bo1 bo2 bo3 bo4 : Expr} {sc1 sc2 sc3 sc4 : Scope} {tb1 tb2 tb3 tb4 : TEx}
    {p1 p2 p3 l1 l2 l3 l4 q1 q2 q3 q4 r1 r2 r3 r4 t1 t2 t3 t4 d1 d2 d3 d4 d5 d6 d7 a0 a1 a2 a3 : Pos}
    (j k kd : Nat) (T : ToldC z.K z.mg) (U : DueC z.P z.w z.K z.mg z.base kd tr) (F : ExF z.K ex) (hde : z.mg dErr = some (.ref (He.ga z.K dErr))) (B : TabsB z.K z.mg mk z.base) (hm : x ∈ mk)
    (hl1 : ∀ E cd, DE (z.lam sc1 k E cd) bo1 tb1) (hl2 : ∀ E cd, DE (z.lam sc2 k E cd) bo2 tb2) (hl3 : ∀ E cd, DE (z.lam sc3 k E cd) bo3 tb3) (hl4 : ∀ E cd, DE (z.lam sc4 k E cd) bo4 tb4)
    (hk : k + 3 ≤ z.lv) (hkd : kd ≤ k + 2) (hall : z.mg "all" = none) (hbody : DSs z body tBody) (hrest : DSs z rest tRest)
    (L1 : LamS z.scope sc1) (L2' : LamS z.scope sc2) (L3 : LamS z.scope sc3) (L4 : LamS z.scope sc4)
    (ok : blkC z.N z.scope bscope [(nl, ik)] = true) (hll : (relS bscope z.scope).names.lookup nl = some .local) (hvw : Vis (relS bscope z.scope) nw) (hgd : (relS bscope z.scope).names.lookup nDue = some .globalImplicit)
    (hNs : z.N[il]? = some ns := by rfl) (hNl : z.N[ik]? = some nl := by rfl) (hNw : z.N[iw]? = some nw := by rfl) (hsto : Sto z ns := by first | exact Or.inl rfl | exact Or.inr ⟨rfl, rfl⟩) (hsv : Vis z.scope ns := by first | exact Or.inl rfl | exact Or.inr (Or.inl rfl))
    (hga : Gz z "all" := by rfl) (hne : ik ≠ iw := by decide) (hx : z.qual ++ "<lambda>" = lamQ x := by rfl) (hcd : z.code = cdAt z.K (He.ga z.K x) := by rfl)
    (f1 : ∀ env, defaultsOf pa1 env = ([], []) := by intro _; rfl) (f2 : ∀ env, defaultsOf pa2 env = ([], []) := by intro _; rfl) (f3 : ∀ env, defaultsOf pa3 env = ([], []) := by intro _; rfl) (f4 : ∀ env, defaultsOf pa4 env = ([], []) := by intro _; rfl)
    (b1 : ∀ (q : Str) (cl : List (Str × Addr)) (pm cv ctv : Value), bindArgs (PySem.W.kla_fn "<lambda>" q pa1 bo1 sc1 cl pm cv ctv) ⟨[], []⟩ = pure [] := by intros; rfl)
    (b2 : ∀ (q : Str) (cl : List (Str × Addr)) (pm cv ctv : Value), bindArgs (PySem.W.kla_fn "<lambda>" q pa2 bo2 sc2 cl pm cv ctv) ⟨[], []⟩ = pure [] := by intros; rfl)
    (b3 : ∀ (q : Str) (cl : List (Str × Addr)) (pm cv ctv : Value), bindArgs (PySem.W.kla_fn "<lambda>" q pa3 bo3 sc3 cl pm cv ctv) ⟨[], []⟩ = pure [] := by intros; rfl)
    (b4 : ∀ (q : Str) (cl : List (Str × Addr)) (pm cv ctv : Value), bindArgs (PySem.W.kla_fn "<lambda>" q pa4 bo4 sc4 cl pm cv ctv) ⟨[], []⟩ = pure [] := by intros; rfl)
    (hs1 : ∀ env, swapsWith (.List [.Lambda pa1 bo1 sc1 l1] p2) (some (.Name ns p1)) p3.line env = pure false := by intro _; rfl)
    (hs2 : ∀ env, swapsWith (.Call (.Attribute (.Name ns q1) "append" q2) [.Lambda pa2 bo2 sc2 l2] [] q3) none q4.line env = pure false := by intro _; rfl)
    (hs3 : ∀ env, swapsWith (.Call (.Attribute (.Name ns r1) "append" r2) [.Lambda pa3 bo3 sc3 l3] [] r3) none r4.line env = pure false := by intro _; rfl)
    (hs4 : ∀ env, swapsWith (.Call (.Attribute (.Name ns t1) "append" t2) [.Lambda pa4 bo4 sc4 l4] [] t3) none t4.line env = pure false := by intro _; rfl)
    (hn2 : (q2.endLine == q3.line) = true := by rfl) (hn3 : (r2.endLine == r3.line) = true := by rfl) (hn4 : (t2.endLine == t3.line) = true := by rfl)
    (c1 : (ns == ("__debug__" : Str)) = false := by decide) (c2 : (ns == ("__classdict__" : Str)) = false := by decide) (c3 : (nl == ("__debug__" : Str)) = false := by decide) (c4 : (nl == ("__classdict__" : Str)) = false := by decide) (c5 : (nw == ("__debug__" : Str)) = false := by decide) (c6 : (nw == ("__classdict__" : Str)) = false := by decide) :
    DSs z (.Assign [.Name ns p1] (.List [.Lambda pa1 bo1 sc1 l1] p2) p3 ::
      .Expr (.Call (.Attribute (.Name ns q1) "append" q2) [.Lambda pa2 bo2 sc2 l2] [] q3) q4 ::
      .Expr (.Call (.Attribute (.Name ns r1) "append" r2) [.Lambda pa3 bo3 sc3 l3] [] r3) r4 ::
      .Expr (.Call (.Attribute (.Name ns t1) "append" t2) [.Lambda pa4 bo4 sc4 l4] [] t3) t4 ::
      .If (.UnaryOp .Not (.Call (.Name "all" a0) [.ListComp (.Call (.Name nDue d1) [.Name nl d2, .Name nw d3] [] d4) [⟨.Name nl d5, .Name ns d6, [], 0⟩] bscope d7] [] a1) a2) body [] a3 :: rest)
      (sLooksT ex j x [tb1, tb2, tb3, tb4] iw il ik tr tBody tRest) := by
  show DSs z _ (sLooksT ex j x (([⟨⟨pa1, bo1, sc1⟩, tb1⟩, ⟨⟨pa2, bo2, sc2⟩, tb2⟩, ⟨⟨pa3, bo3, sc3⟩, tb3⟩, ⟨⟨pa4, bo4, sc4⟩, tb4⟩] : List LamM).map (·.tb)) iw il ik tr tBody tRest)
  rw [← sLooksT_eq]
  obtain ⟨g, fd, pg, bg, sg, h1, h2, h3, h4, h5, h6⟩ := T
  obtain ⟨gd, fdd, pd, bd, rest0, sd, u1, u2, u3, u4, u5, u6, u7⟩ := U
  obtain ⟨c, P, k1, k2, k3⟩ := B x hm
  exact dss_looks (c := c) (P := P) (k := k) (kd := kd) (m1 := ⟨⟨pa1, bo1, sc1⟩, tb1⟩) (m2 := ⟨⟨pa2, bo2, sc2⟩, tb2⟩) (m3 := ⟨⟨pa3, bo3, sc3⟩, tb3⟩) (m4 := ⟨⟨pa4, bo4, sc4⟩, tb4⟩) h1 h2 h3 h4 h5 h6 F hde u1 u2 u3 u4 u5 u6 u7 hx (hcd.trans k1) k2 k3
    ⟨L1, b1, f1, hl1⟩ ⟨L2', b2, f2, hl2⟩ ⟨L3, b3, f3, hl3⟩ ⟨L4, b4, f4, hl4⟩ hk hkd hall hbody hrest hNs hNl hNw hsto hsv ok hll hvw hgd hga hne hs1 hs2 hs3 hs4 hn2 hn3 hn4 c1 c2 c3 c4 c5 c6
end TL
set_option Elab.async false
set_option linter.all false
set_option maxRecDepth 100000
set_option maxHeartbeats 4000000
noncomputable section
namespace TL
open PySem PySem.W PySem.Calls PyProof.Rows L2
theorem obsXL_eq {as : List Addr} {ms : List Str} {fb : List Fb} {fn : List DefX} {i : IniV} {g : Addr → Option Obj} {s : Shared} (h : ∀ a, g a = s.heap.get? a) : obsXL as ms fb fn g = (hookXL as ms fb fn i).obs s := by
  have e : g = s.heap.get? := funext h
  rw [e] <;> rfl
end TL
set_option Elab.async false
set_option linter.all false
set_option maxRecDepth 100000
set_option maxHeartbeats 0
namespace Pr
open PySem PySem.Spec PyProof.Rows L2 TL
def Nis_whole : List Str := ["value"]
abbrev Pis_whole : List Str := ["value"]
def tis_whole (ex ow : List Str) : TSx :=
  (sRet (eAnd (eArgs (isiA ex ow) (aCons (eVar 0) (aCons (eC (.ty "int")) aNil))) (eNot (eArgs (isiA ex ow) (aCons (eVar 0) (aCons (eC (.ty "bool")) aNil))))))
def Fis_whole (ex ow : List Str) : TF := bodyF 1 Nis_whole (tis_whole ex ow)
def Nis_tuple : List Str := ["value", "least", "most"]
def tis_tuple (ex ow : List Str) : TSx :=
  (sRet (eAnd (eArgs (isiA ex ow) (aCons (eVar 0) (aCons (eC (.ty "tuple")) aNil))) (eChain leD leD (eVar 1) (eArgs lenD (aCons (eVar 0) aNil)) (eVar 2))))
def Fis_tuple (ex ow : List Str) : TF := bodyF 3 Nis_tuple (tis_tuple ex ow)
def Nis_name : List Str := ["value", "letter"]
def tis_name (ex ow : List Str) : TSx :=
  (sSeq (sIf (tOrT (tNotT (tTru (eArgs (isiA ex ow) (aCons (eVar 0) (aCons (eC (.ty "str")) aNil))))) (tNotT (tBl (eChain leD leD (eC (.int 1)) (eArgs lenD (aCons (eVar 0) aNil)) (eC (.int 8)))))) (sRet (eC (.bl false))) sNext)
    (sRet (eArgs allD (aCons (eLc false [1] (iAny (eVar 0)) (gNm 1) tYesD (eBin insgD (eVar 1) (eC (.str "abcdefghijklmnopqrstuvwxyz")))) aNil))))
def Fis_name (ex ow : List Str) : TF := bodyF 1 Nis_name (tis_name ex ow)
def Ndo_ascend : List Str := ["rows", "one", "other"]
abbrev Pdo_ascend : List Str := ["rows"]
def tdo_ascend (ex ow : List Str) : TSx :=
  (sRet (eArgs allD (aCons (eLc false [1, 2] (iZp (aCons (eVar 0) (aCons (eSl false (eVar 0) (oSome (eC (.int 1))) oNil) aNil))) (gTp 2 (gsCons (gNm 1) (gsCons (gNm 2) gsNil))) tYesD (eBin ltD (eVar 1) (eVar 2))) aNil)))
def Fdo_ascend (ex ow : List Str) : TF := bodyF 1 Ndo_ascend (tdo_ascend ex ow)
def Nis_part : List Str := ["value"]
def tis_part (ex ow : List Str) : TSx :=
  (sRet (eAnd (eArgs (Fis_tuple ex ow) (aCons (eVar 0) (aCons (eC (.int 2)) (aCons (eC (.int 2)) aNil)))) (eAnd (eArgs (Fis_name ex ow) (aCons (eBin ixD (eVar 0) (eC (.int 0))) aNil)) (eAnd (eArgs (Fis_whole ex ow) (aCons (eBin ixD (eVar 0) (eC (.int 1))) aNil)) (eBin neD (eBin ixD (eVar 0) (eC (.int 1))) (eC (.int 0)))))))
def Fis_part (ex ow : List Str) : TF := bodyF 1 Nis_part (tis_part ex ow)
def Nare_parts : List Str := ["value", "one"]
def tare_parts (ex ow : List Str) : TSx :=
  (sSeq (sIf (tOrT (tNotT (tTru (eArgs (isiA ex ow) (aCons (eVar 0) (aCons (eC (.ty "tuple")) aNil))))) (tNotT (tTru (eArgs allD (aCons (eLc false [1] (iTp (eVar 0)) (gNm 1) tYesD (eArgs (Fis_part ex ow) (aCons (eVar 1) aNil))) aNil))))) (sRet (eC (.bl false))) sNext)
    (sRet (eArgs (Fdo_ascend ex ow) (aCons (eLc false [1] (iTp (eVar 0)) (gNm 1) tYesD (eBin ixD (eVar 1) (eC (.int 0)))) aNil))))
def Fare_parts (ex ow : List Str) : TF := bodyF 1 Nare_parts (tare_parts ex ow)
def NSum___init__ : List Str := ["self", "parts", "number"]
def tSum___init__ (ex ow : List Str) : TSx :=
  (sSeq (sIf (tNotT (tTru (eArgs (Fare_parts ex ow) (aCons (eVar 1) aNil)))) (sRaise "BadParts" (eVar 1)) sNext)
    (sSeq (sIf (tNotT (tTru (eArgs (Fis_whole ex ow) (aCons (eVar 2) aNil)))) (sRaise "BadNumber" (eVar 2)) sNext)
    (sSeq (sFldD ["Sum"] "own_parts" (eVar 1) (eVar 0))
    (sSeq (sFldD ["Sum"] "own_number" (eVar 2) (eVar 0))
    (sFldD ["Sum"] "own_many" (eArgs (dictLD false) (aCons (eArgs (listD false) (aCons (eVar 1) aNil)) aNil)) (eVar 0))))))
def FSum___init__ (ex ow : List Str) : TF := bodyF 3 NSum___init__ (tSum___init__ ex ow)
def Nsum_of : List Str := ["table", "number", "found", "name"]
def tsum_of (ex ow : List Str) : TSx :=
  (sSeq (sSet 2 (eArgs (sortSetD false) (aCons (eLc false [3] (iDk (eVar 0)) (gNm 3) (tBl (eBin neD (eBin dgetD (eVar 0) (eVar 3)) (eC (.int 0)))) (eVar 3)) aNil)))
    (sRet (eCut (eArgs (makeD "Sum" [] (FSum___init__ ex ow)) (aCons (eArgs tupleD (aCons (eLc false [3] (iLst (eVar 2)) (gNm 3) tYesD (eArgs mkT (aCons (eVar 3) (aCons (eBin dgetD (eVar 0) (eVar 3)) aNil)))) aNil)) (aCons (eVar 1) aNil))))))
def Fsum_of (ex ow : List Str) : TF := bodyF 2 Nsum_of (tsum_of ex ow)
def Nadded : List Str := ["one", "other", "many", "known", "name", "number"]
def tadded (ex ow : List Str) : TSx :=
  (sSeq (sCut (sSeq (sSet 3 (eArgs (dictLD true) (aCons (eArgs (listD false) (aCons (eUn (fldD ["Sum"] "own_parts") (eVar 0)) aNil)) aNil)))
    (sFor (iTp (eUn (fldD ["Sum"] "own_parts") (eVar 1))) (gTp 2 (gsCons (gNm 4) (gsCons (gNm 5) gsNil))) (sDput (eVar 3) (eVar 4) (eBin (addU false) (eGet2 (eVar 3) (eVar 4) (eC (.int 0))) (eBin mulD (eVar 2) (eVar 5)))))))
    (sRet (eArgs (Fsum_of ex ow) (aCons (eVar 3) (aCons (eBin (addU false) (eUn (fldD ["Sum"] "own_number") (eVar 0)) (eBin mulD (eVar 2) (eUn (fldD ["Sum"] "own_number") (eVar 1)))) aNil)))))
def Fadded (ex ow : List Str) : TF := cutF (bodyF 3 Nadded (tadded ex ow))
def NSum___add__ : List Str := ["self", "other"]
def tSum___add__ (ex ow : List Str) : TSx :=
  (sSeq (sIf (tTru (eArgs (Fis_whole ex ow) (aCons (eVar 1) aNil))) (sRet (eCut (eArgs (makeD "Sum" [] (FSum___init__ ex ow)) (aCons (eUn (fldD ["Sum"] "own_parts") (eVar 0)) (aCons (eBin (addU false) (eUn (fldD ["Sum"] "own_number") (eVar 0)) (eVar 1)) aNil))))) sNext)
    (sSeq (sIf (tNotT (tTru (eArgs (isiA ex ow) (aCons (eVar 1) (aCons (eC (.cls "Sum")) aNil))))) sNever sNext)
    (sRet (eArgs (Fadded ex ow) (aCons (eVar 0) (aCons (eVar 1) (aCons (eC (.int 1)) aNil)))))))
def FSum___add__ (ex ow : List Str) : TF := bodyF 2 NSum___add__ (tSum___add__ ex ow)
def NSum___sub__ : List Str := ["self", "other"]
def tSum___sub__ (ex ow : List Str) : TSx :=
  (sSeq (sIf (tTru (eArgs (Fis_whole ex ow) (aCons (eVar 1) aNil))) (sRet (eCut (eArgs (makeD "Sum" [] (FSum___init__ ex ow)) (aCons (eUn (fldD ["Sum"] "own_parts") (eVar 0)) (aCons (eBin subD (eUn (fldD ["Sum"] "own_number") (eVar 0)) (eVar 1)) aNil))))) sNext)
    (sSeq (sIf (tNotT (tTru (eArgs (isiA ex ow) (aCons (eVar 1) (aCons (eC (.cls "Sum")) aNil))))) sNever sNext)
    (sRet (eArgs (Fadded ex ow) (aCons (eVar 0) (aCons (eVar 1) (aCons (eUn negD (eC (.int 1))) aNil)))))))
def FSum___sub__ (ex ow : List Str) : TF := bodyF 2 NSum___sub__ (tSum___sub__ ex ow)
end Pr
set_option Elab.async false
set_option linter.all false
set_option maxRecDepth 100000
set_option maxHeartbeats 0
namespace Pr
open PySem PySem.Spec PyProof.Rows L2 TL
end Pr
set_option Elab.async false
set_option linter.all false
set_option maxRecDepth 100000
set_option maxHeartbeats 0
namespace Pr
open PySem PySem.Spec PyProof.Rows L2 TL
def Nis_integer : List Str := ["value", "low", "high"]
abbrev Pis_integer : List Str := ["value", "low", "high"]
def tis_integer (ex ow : List Str) : TSx :=
  (sRet (eAnd (eArgs (Fis_whole ex ow) (aCons (eVar 0) aNil)) (eChain leD leD (eVar 1) (eVar 0) (eVar 2))))
def Fis_integer (ex ow : List Str) : TF := bodyF 3 Nis_integer (tis_integer ex ow)
end Pr
set_option Elab.async false
set_option linter.all false
set_option maxRecDepth 100000
set_option maxHeartbeats 0
namespace Pr
open PySem PySem.Spec PyProof.Rows L2 TL
def Ngcd : List Str := ["one", "other"]
abbrev Pgcd : List Str := ["one", "other"]
def tgcd (ex ow : List Str) : TSx :=
  (sSeq (sPar 0 1 (aCons (eArgs absD (aCons (eVar 0) aNil)) (aCons (eArgs absD (aCons (eVar 1) aNil)) aNil)))
    (sSeq (sWhile (fuI 1) (tBl (eBin neD (eVar 1) (eC (.int 0)))) (sPar 0 1 (aCons (eVar 1) (aCons (eBin modD (eVar 0) (eVar 1)) aNil))))
    (sRet (eVar 0))))
def Fgcd (ex ow : List Str) : TF := bodyF 2 Ngcd (tgcd ex ow)
def Nlcm : List Str := ["one", "other"]
abbrev Plcm : List Str := ["one", "other"]
def tlcm (ex ow : List Str) : TSx :=
  (sRet (eBin mulD (eBin divD (eVar 0) (eArgs (Fgcd ex ow) (aCons (eVar 0) (aCons (eVar 1) aNil)))) (eVar 1)))
def Flcm (ex ow : List Str) : TF := bodyF 2 Nlcm (tlcm ex ow)
end Pr
set_option Elab.async false
set_option linter.all false
set_option maxRecDepth 100000
set_option maxHeartbeats 0
namespace Pr
open PySem PySem.Spec PyProof.Rows L2 TL
def Npower : List Str := ["base", "many", "found", "lap"]
abbrev Ppower : List Str := ["base", "many"]
def tpower (ex ow : List Str) : TSx :=
  (sSeq (sSet 2 (eC (.int 1)))
    (sSeq (sFor (iRg1 (aCons (eVar 1) aNil)) (gNm 3) (sSet 2 (eBin mulD (eVar 2) (eVar 0))))
    (sRet (eVar 2))))
def Fpower (ex ow : List Str) : TF := bodyF 2 Npower (tpower ex ow)
def Ntimes_in : List Str := ["number", "base", "many"]
abbrev Ptimes_in : List Str := ["number", "base"]
def ttimes_in (ex ow : List Str) : TSx :=
  (sSeq (sSet 2 (eC (.int 0)))
    (sSeq (sWhile (fuI 0) (tBl (eBin eqD (eBin modD (eVar 0) (eVar 1)) (eC (.int 0)))) (sPar 0 2 (aCons (eBin divD (eVar 0) (eVar 1)) (aCons (eBin addD (eVar 2) (eC (.int 1))) aNil))))
    (sRet (eVar 2))))
def Ftimes_in (ex ow : List Str) : TF := bodyF 2 Ntimes_in (ttimes_in ex ow)
def Nwithout : List Str := ["number", "prime"]
abbrev Pwithout : List Str := ["number", "prime"]
def twithout (ex ow : List Str) : TSx :=
  (sSeq (sWhile (fuI 0) (tBl (eBin eqD (eBin modD (eVar 0) (eVar 1)) (eC (.int 0)))) (sSet 0 (eBin divD (eVar 0) (eVar 1))))
    (sRet (eVar 0)))
def Fwithout (ex ow : List Str) : TF := bodyF 2 Nwithout (twithout ex ow)
def Nparted : List Str := ["number", "found", "prime"]
abbrev Pparted : List Str := ["number"]
def tparted (ex ow : List Str) : TSx :=
  (sSeq (sSet 1 (eArgs (mkL true) aNil))
    (sSeq (sSet 2 (eC (.int 2)))
    (sSeq (sWhile (fuI 0) (tAndT (tBl (eBin leD (eVar 2) (eC (.int 31623)))) (tBl (eBin leD (eBin mulD (eVar 2) (eVar 2)) (eVar 0)))) (sSeq (sIf (tBl (eBin eqD (eBin modD (eVar 0) (eVar 2)) (eC (.int 0)))) (sSeq (sExpr (eLm appD (eVar 1) (eVar 2)))
    (sSet 0 (eArgs (Fwithout ex ow) (aCons (eVar 0) (aCons (eVar 2) aNil))))) sNext)
    (sSet 2 (eIf (tBl (eBin eqD (eVar 2) (eC (.int 2)))) (eBin addD (eVar 2) (eC (.int 1))) (eBin addD (eVar 2) (eC (.int 2)))))))
    (sSeq (sIf (tBl (eChain ltD leD (eC (.int 1)) (eVar 0) (eC (.int 1000000000)))) (sSeq (sExpr (eLm appD (eVar 1) (eVar 0)))
    (sSet 0 (eC (.int 1)))) sNext)
    (sRet (eArgs mkT (aCons (eVar 1) (aCons (eVar 0) aNil))))))))
def Fparted (ex ow : List Str) : TF := cutF (bodyF 1 Nparted (tparted ex ow))
def Nroot : List Str := ["number", "many", "low", "high", "middle"]
abbrev Proot : List Str := ["number", "many"]
def troot (ex ow : List Str) : TSx :=
  (sSeq (sAsg (eArgs mkT (aCons (eC (.int 1)) (aCons (eC (.int 2)) aNil))) (gTp 2 (gsCons (gNm 2) (gsCons (gNm 3) gsNil))))
    (sSeq (sWhile (fun _ _ => 5000) (tBl (eBin leD (eArgs (Fpower ex ow) (aCons (eVar 3) (aCons (eVar 1) aNil))) (eVar 0))) (sPar 2 3 (aCons (eVar 3) (aCons (eBin mulD (eC (.int 2)) (eVar 3)) aNil))))
    (sSeq (sWhile (fun _ _ => 5000) (tBl (eBin gtD (eBin subD (eVar 3) (eVar 2)) (eC (.int 1)))) (sSeq (sSet 4 (eBin divD (eBin addD (eVar 2) (eVar 3)) (eC (.int 2))))
    (sIf (tBl (eBin leD (eArgs (Fpower ex ow) (aCons (eVar 4) (aCons (eVar 1) aNil))) (eVar 0))) (sSet 2 (eVar 4)) (sSet 3 (eVar 4)))))
    (sRet (eVar 2)))))
def Froot (ex ow : List Str) : TF := bodyF 2 Nroot (troot ex ow)
def Nleast_root : List Str := ["number", "many", "base"]
abbrev Pleast_root : List Str := ["number"]
def tleast_root (ex ow : List Str) (Frec : TF) : TSx :=
  (sSeq (sSet 1 (eC (.int 2)))
    (sSeq (sWhile (fun _ _ => 100) (tBl (eBin leD (eArgs (Fpower ex ow) (aCons (eC (.int 31623)) (aCons (eVar 1) aNil))) (eVar 0))) (sSeq (sSet 2 (eArgs (Froot ex ow) (aCons (eVar 0) (aCons (eVar 1) aNil))))
    (sSeq (sIf (tBl (eBin eqD (eArgs (Fpower ex ow) (aCons (eVar 2) (aCons (eVar 1) aNil))) (eVar 0))) (sRet (eArgs Frec (aCons (eVar 2) aNil))) sNext)
    (sSet 1 (eBin addD (eVar 1) (eC (.int 1)))))))
    (sRet (eVar 0))))
def Fleast_root (ex ow : List Str) : Nat → TF
  | 0 => fun _ _ => .stuck
  | n + 1 => bodyF 1 Nleast_root (tleast_root ex ow (Fleast_root ex ow n))
def Nsplit : List Str := ["one", "others", "at", "other", "common"]
abbrev Psplit : List Str := ["one", "others"]
def tsplit (ex ow : List Str) : TSx :=
  (sSeq (sFor (iEn (aCons (eVar 1) aNil)) (gTp 2 (gsCons (gNm 2) (gsCons (gNm 3) gsNil))) (sSeq (sSet 4 (eArgs (Fgcd ex ow) (aCons (eVar 0) (aCons (eVar 3) aNil))))
    (sIf (tBl (eBin gtD (eVar 4) (eC (.int 1)))) (sSeq (sIf (tBl (eBin eqD (eVar 0) (eVar 3))) (sRet (eArgs mkT (aCons (eVar 1) (aCons (eArgs (mkL false) aNil) aNil)))) sNext)
    (sRet (eArgs mkT (aCons (eBin (addU false) (eSl false (eVar 1) oNil (oSome (eVar 2))) (eSl false (eVar 1) (oSome (eBin addD (eVar 2) (eC (.int 1)))) oNil)) (aCons (eArgs (mkL false) (aCons (eVar 4) (aCons (eBin divD (eVar 0) (eVar 4)) (aCons (eBin divD (eVar 3) (eVar 4)) aNil)))) aNil))))) sNext)))
    (sRet (eArgs mkT (aCons (eArgs (mkL false) (aStar (eVar 1) (aCons (eVar 0) aNil))) (aCons (eArgs (mkL false) aNil) aNil)))))
def Fsplit (ex ow : List Str) : TF := bodyF 2 Nsplit (tsplit ex ow)
def Nrefined : List Str := ["numbers", "found", "waiting", "one", "more"]
abbrev Prefined : List Str := ["numbers"]
def trefined (ex ow : List Str) : TSx :=
  (sSeq (sPar 1 2 (aCons (eArgs (mkL false) aNil) (aCons (eArgs (listD false) (aCons (eVar 0) aNil)) aNil)))
    (sSeq (sWhile (fun _ _ => 1000) (tBl (eBin neD (eVar 2) (eArgs (mkL false) aNil))) (sSeq (sPar 3 2 (aCons (eBin ixD (eVar 2) (eUn negD (eC (.int 1)))) (aCons (eSl false (eVar 2) oNil (oSome (eUn negD (eC (.int 1))))) aNil)))
    (sIf (tBl (eBin gtD (eVar 3) (eC (.int 1)))) (sSeq (sAsg (eArgs (Fsplit ex ow) (aCons (eArgs (Fleast_root ex ow 4) (aCons (eVar 3) aNil)) (aCons (eVar 1) aNil))) (gTp 2 (gsCons (gNm 1) (gsCons (gNm 4) gsNil))))
    (sSet 2 (eBin (catD false) (eVar 2) (eVar 4)))) sNext)))
    (sRet (eVar 1))))
def Frefined (ex ow : List Str) : TF := bodyF 1 Nrefined (trefined ex ow)
def Nbases : List Str := ["numbers", "rows", "found", "primes", "left", "tall", "number", "prime", "one"]
abbrev Pbases : List Str := ["numbers"]
def tbases (ex ow : List Str) : TSx :=
  (sSeq (sCut (sSeq (sSet 1 (eLc false [6] (iAny (eVar 0)) (gNm 6) tYesD (eArgs (Fparted ex ow) (aCons (eVar 6) aNil))))
    (sSeq (sSet 2 (eArgs (mkL true) aNil))
    (sFor (iLst (eVar 1)) (gTp 2 (gsCons (gNm 3) (gsCons (gNm 4) gsNil))) (sExpr (eLm extD (eVar 2) (eVar 3)))))))
    (sSeq (sSet 5 (eArgs (Frefined ex ow) (aCons (eArgs (mkL false) (aStar (eLc false [3, 4] (iLst (eVar 1)) (gTp 2 (gsCons (gNm 3) (gsCons (gNm 4) gsNil))) tYesD (eVar 4)) (aStar (eLc false [7] (iLst (eVar 2)) (gNm 7) (tBl (eBin gtD (eVar 7) (eC (.int 31623)))) (eVar 7)) aNil))) aNil)))
    (sRet (eArgs (sortSetI false) (aCons (eLc false [8] (iLst (eBin (catD false) (eLc false [7] (iLst (eVar 2)) (gNm 7) (tBl (eBin leD (eVar 7) (eC (.int 31623)))) (eVar 7)) (eVar 5))) (gNm 8) tYesD (eArgs intD (aCons (eVar 8) aNil))) aNil)))))
def Fbases (ex ow : List Str) : TF := cutF (bodyF 1 Nbases (tbases ex ow))
def Ndivisors_by : List Str := ["number", "primes", "found", "base", "powers", "many", "one", "other"]
abbrev Pdivisors_by : List Str := ["number", "primes"]
def tdivisors_by (ex ow : List Str) : TSx :=
  (sSeq (sSet 2 (eArgs (mkL false) (aCons (eC (.int 1)) aNil)))
    (sSeq (sFor (iAny (eVar 1)) (gNm 3) (sSeq (sSet 4 (eLc false [5] (iRg1 (aCons (eBin addD (eArgs (Ftimes_in ex ow) (aCons (eVar 0) (aCons (eVar 3) aNil))) (eC (.int 1))) aNil)) (gNm 5) tYesD (eArgs (Fpower ex ow) (aCons (eVar 3) (aCons (eVar 5) aNil)))))
    (sSet 2 (eLc2 false [6, 7] [7] (iLst (eVar 2)) (gNm 6) tYesD (iLst (eVar 4)) (gNm 7) tYesD (eBin mulD (eVar 6) (eVar 7))))))
    (sRet (eArgs (sortID false) (aCons (eLc false [6] (iLst (eVar 2)) (gNm 6) tYesD (eArgs intD (aCons (eVar 6) aNil))) aNil)))))
def Fdivisors_by (ex ow : List Str) : TF := bodyF 2 Ndivisors_by (tdivisors_by ex ow)
def Nleast_table : List Str := ["whole", "table", "primes", "base", "one"]
abbrev Pleast_table : List Str := ["whole", "table", "primes"]
def tleast_table (ex ow : List Str) : TSx :=
  (sSeq (sFor (iAny (eVar 2)) (gNm 3) (sWhile (fuI 0) (tAndT (tBl (eBin eqD (eBin modD (eVar 0) (eVar 3)) (eC (.int 0)))) (tTru (eArgs allD (aCons (eLc false [4] (iDk (eVar 1)) (gNm 4) tYesD (eBin eqD (eBin dgetD (eVar 1) (eVar 4)) (eBin dgetD (eVar 1) (eArgs (Fgcd ex ow) (aCons (eVar 4) (aCons (eBin divD (eVar 0) (eVar 3)) aNil)))))) aNil)))) (sSeq (sSet 0 (eBin divD (eVar 0) (eVar 3)))
    (sSet 1 (eDc false [4] (iDk (eVar 1)) (gNm 4) (tBl (eBin eqD (eBin modD (eVar 0) (eVar 4)) (eC (.int 0)))) (eVar 4) (eBin dgetD (eVar 1) (eVar 4)))))))
    (sRet (eArgs mkT (aCons (eVar 0) (aCons (eVar 1) aNil)))))
def Fleast_table (ex ow : List Str) : TF := bodyF 3 Nleast_table (tleast_table ex ow)
def NRaw___init__ : List Str := ["self", "whole", "shares", "others", "primes", "prime", "one"]
abbrev PRaw___init__ : List Str := ["self", "whole", "shares", "others", "primes"]
def tRaw___init__ (ex ow : List Str) : TSx :=
  (sSeq (sFldD ["Raw"] "own_whole" (eVar 1) (eVar 0))
    (sSeq (sFldD ["Raw"] "own_primes" (eLc false [5] (iAny (eVar 4)) (gNm 5) (tBl (eBin eqD (eBin modD (eVar 1) (eVar 5)) (eC (.int 0)))) (eVar 5)) (eVar 0))
    (sSeq (sFldD ["Raw"] "own_shares" (eDc false [6] (iAny (eVar 2)) (gNm 6) tYesD (eVar 6) (eC (.bl true))) (eVar 0))
    (sFldD ["Raw"] "own_others" (eDc false [6] (iAny (eVar 3)) (gNm 6) tYesD (eVar 6) (eC (.bl true))) (eVar 0)))))
def FRaw___init__ (ex ow : List Str) : TF := bodyF 5 NRaw___init__ (tRaw___init__ ex ow)
def Nleast_raw : List Str := ["whole", "shares", "others", "primes", "there", "table", "one"]
abbrev Pleast_raw : List Str := ["whole", "shares", "others", "primes"]
def tleast_raw (ex ow : List Str) : TSx :=
  (sSeq (sSet 4 (eDc false [6] (iAny (eVar 1)) (gNm 6) tYesD (eVar 6) (eC (.bl true))))
    (sSeq (sAsg (eArgs (Fleast_table ex ow) (aCons (eVar 0) (aCons (eDc false [6] (iLst (eArgs (Fdivisors_by ex ow) (aCons (eVar 0) (aCons (eVar 3) aNil)))) (gNm 6) tYesD (eVar 6) (eBin dinD (eVar 6) (eVar 4))) (aCons (eVar 3) aNil)))) (gTp 2 (gsCons (gNm 0) (gsCons (gNm 5) gsNil))))
    (sRet (eCut (eArgs (makeD "Raw" [] (FRaw___init__ ex ow)) (aCons (eVar 0) (aCons (eLc false [6] (iDk (eVar 5)) (gNm 6) (tTru (eBin dgetD (eVar 5) (eVar 6))) (eVar 6)) (aCons (eVar 2) (aCons (eVar 3) aNil)))))))))
def Fleast_raw (ex ow : List Str) : TF := bodyF 4 Nleast_raw (tleast_raw ex ow)
def Nare_divisors : List Str := ["whole", "value", "one"]
abbrev Pare_divisors : List Str := ["whole", "value"]
def tare_divisors (ex ow : List Str) : TSx :=
  (sSeq (sIf (tOrT (tNotT (tTru (eArgs (isiA ex ow) (aCons (eVar 1) (aCons (eC (.ty "tuple")) aNil))))) (tNotT (tTru (eArgs allD (aCons (eLc false [2] (iAny (eVar 1)) (gNm 2) tYesD (eArgs (Fis_integer ex ow) (aCons (eVar 2) (aCons (eC (.int 1)) (aCons (eVar 0) aNil))))) aNil))))) (sRet (eC (.bl false))) sNext)
    (sRet (eAnd (eArgs (Fdo_ascend ex ow) (aCons (eVar 1) aNil)) (eArgs allD (aCons (eLc false [2] (iAny (eVar 1)) (gNm 2) tYesD (eBin eqD (eBin modD (eVar 0) (eVar 2)) (eC (.int 0)))) aNil)))))
def Fare_divisors (ex ow : List Str) : TF := bodyF 2 Nare_divisors (tare_divisors ex ow)
def Nare_others : List Str := ["value", "one"]
abbrev Pare_others : List Str := ["value"]
def tare_others (ex ow : List Str) : TSx :=
  (sSeq (sIf (tOrT (tNotT (tTru (eArgs (isiA ex ow) (aCons (eVar 0) (aCons (eC (.ty "tuple")) aNil))))) (tNotT (tTru (eArgs allD (aCons (eLc false [1] (iAny (eVar 0)) (gNm 1) tYesD (eArgs (Fis_integer ex ow) (aCons (eVar 1) (aCons (eC (.int 2)) (aCons (eC (.int 1000000000)) aNil))))) aNil))))) (sRet (eC (.bl false))) sNext)
    (sRet (eArgs (Fdo_ascend ex ow) (aCons (eVar 0) aNil))))
def Fare_others (ex ow : List Str) : TF := bodyF 1 Nare_others (tare_others ex ow)
def Nrow_text : List Str := ["numbers", "number"]
abbrev Prow_text : List Str := ["numbers"]
def trow_text (ex ow : List Str) : TSx :=
  (sRet (eIf (tBl (eBin neD (eVar 0) (eArgs mkT aNil))) (eBinS joinD (eC (.str " ")) (eLc false [1] (iAny (eVar 0)) (gNm 1) tYesD (eArgs strD (aCons (eVar 1) aNil)))) (eC (.str "-"))))
def Frow_text (ex ow : List Str) : TF := bodyF 1 Nrow_text (trow_text ex ow)
def NDials___init__ : List Str := ["self", "whole", "shares", "others"]
abbrev PDials___init__ : List Str := ["self", "whole", "shares", "others"]
def tDials___init__ (ex ow : List Str) : TSx :=
  (sSeq (sIf (tNotT (tTru (eArgs (Fis_integer ex ow) (aCons (eVar 1) (aCons (eC (.int 1)) (aCons (eC (.int 1000000000)) aNil)))))) (sRaise "BadWhole" (eVar 1)) sNext)
    (sSeq (sIf (tNotT (tTru (eArgs (Fare_divisors ex ow) (aCons (eVar 1) (aCons (eVar 2) aNil))))) (sRaise "BadShares" (eVar 2)) sNext)
    (sSeq (sIf (tNotT (tTru (eArgs (Fare_others ex ow) (aCons (eVar 3) aNil)))) (sRaise "BadOthers" (eVar 3)) sNext)
    (sFldD ["Dials"] "own_raw" (eArgs (Fleast_raw ex ow) (aCons (eVar 1) (aCons (eVar 2) (aCons (eVar 3) (aCons (eArgs (Fbases ex ow) (aCons (eArgs (mkL false) (aCons (eVar 1) aNil)) aNil)) aNil))))) (eVar 0)))))
def FDials___init__ (ex ow : List Str) : TF := bodyF 4 NDials___init__ (tDials___init__ ex ow)
def NDials_whole : List Str := ["self"]
abbrev PDials_whole : List Str := ["self"]
def tDials_whole (ex ow : List Str) : TSx :=
  (sRet (eUn (fldD ["Raw"] "own_whole") (eUn (fldD ["Dials"] "own_raw") (eVar 0))))
def FDials_whole (ex ow : List Str) : TF := bodyF 1 NDials_whole (tDials_whole ex ow)
def NDials_shares : List Str := ["self"]
abbrev PDials_shares : List Str := ["self"]
def tDials_shares (ex ow : List Str) : TSx :=
  (sRet (eArgs tupleD (aCons (eArgs (sortSetDI false) (aCons (eUn (fldD ["Raw"] "own_shares") (eUn (fldD ["Dials"] "own_raw") (eVar 0))) aNil)) aNil)))
def FDials_shares (ex ow : List Str) : TF := bodyF 1 NDials_shares (tDials_shares ex ow)
def NDials_others : List Str := ["self"]
abbrev PDials_others : List Str := ["self"]
def tDials_others (ex ow : List Str) : TSx :=
  (sRet (eArgs tupleD (aCons (eArgs (sortSetDI false) (aCons (eUn (fldD ["Raw"] "own_others") (eUn (fldD ["Dials"] "own_raw") (eVar 0))) aNil)) aNil)))
def FDials_others (ex ow : List Str) : TF := bodyF 1 NDials_others (tDials_others ex ow)
def NDials_text : List Str := ["self"]
abbrev PDials_text : List Str := ["self"]
def tDials_text (ex ow : List Str) : TSx :=
  (sRet (eBinS joinD (eC (.str " : ")) (eArgs (mkL false) (aCons (eArgs strD (aCons (eUn (propD "Dials" (FDials_whole ex ow)) (eVar 0)) aNil)) (aCons (eArgs (Frow_text ex ow) (aCons (eUn (propD "Dials" (FDials_shares ex ow)) (eVar 0)) aNil)) (aCons (eArgs (Frow_text ex ow) (aCons (eUn (propD "Dials" (FDials_others ex ow)) (eVar 0)) aNil)) aNil))))))
def FDials_text (ex ow : List Str) : TF := bodyF 1 NDials_text (tDials_text ex ow)
def NDials___eq__ : List Str := ["self", "other"]
abbrev PDials___eq__ : List Str := ["self", "other"]
def tDials___eq__ (ex ow : List Str) : TSx :=
  (sRet (eAnd (eArgs (isiA ex ow) (aCons (eVar 1) (aCons (eC (.cls "Dials")) aNil))) (eBin eqD (eUn (propD "Dials" (FDials_text ex ow)) (eVar 0)) (eUn (propD "Dials" (FDials_text ex ow)) (eVar 1)))))
def FDials___eq__ (ex ow : List Str) : TF := bodyF 2 NDials___eq__ (tDials___eq__ ex ow)
end Pr
set_option Elab.async false
set_option linter.all false
set_option maxRecDepth 100000
set_option maxHeartbeats 0
namespace Pr
open PySem PySem.Spec PyProof.Rows L2 TL
def NRaw_has : List Str := ["self", "dial"]
abbrev PRaw_has : List Str := ["self", "dial"]
def tRaw_has (ex ow : List Str) : TSx :=
  (sRet (eBin neD (eBin dinD (eArgs (Fgcd ex ow) (aCons (eVar 1) (aCons (eUn (fldD ["Raw"] "own_whole") (eVar 0)) aNil))) (eUn (fldD ["Raw"] "own_shares") (eVar 0))) (eBin dinD (eVar 1) (eUn (fldD ["Raw"] "own_others") (eVar 0)))))
def FRaw_has (ex ow : List Str) : TF := bodyF 2 NRaw_has (tRaw_has ex ow)
def NDials___contains__ : List Str := ["self", "value"]
abbrev PDials___contains__ : List Str := ["self", "value"]
def tDials___contains__ (ex ow : List Str) : TSx :=
  (sRet (eAnd (eArgs (Fis_whole ex ow) (aCons (eVar 1) aNil)) (eAnd (eBin geD (eVar 1) (eC (.int 2))) (eMeth "Raw" "has" (FRaw_has ex ow) (eUn (fldD ["Dials"] "own_raw") (eVar 0)) (aCons (eVar 1) aNil)))))
def FDials___contains__ (ex ow : List Str) : TF := bodyF 2 NDials___contains__ (tDials___contains__ ex ow)
end Pr
set_option Elab.async false
set_option linter.all false
set_option maxRecDepth 100000
set_option maxHeartbeats 0
namespace Pr
open PySem PySem.Spec PyProof.Rows L2 TL
end Pr
set_option Elab.async false
set_option linter.all false
set_option maxRecDepth 100000
set_option maxHeartbeats 0
namespace Pr
open PySem PySem.Spec PyProof.Rows L2 TL
end Pr
set_option Elab.async false
set_option linter.all false
set_option maxRecDepth 100000
set_option maxHeartbeats 0
namespace Pr
open PySem PySem.Spec PyProof.Rows L2 TL
def Nsigned_parts : List Str := ["number", "found", "base", "one", "sign"]
abbrev Psigned_parts : List Str := ["number"]
def tsigned_parts (ex ow : List Str) : TSx :=
  (sSeq (sSet 1 (eArgs (mkL false) (aCons (eArgs mkT (aCons (eC (.int 1)) (aCons (eC (.int 1)) aNil))) aNil)))
    (sSeq (sFor (iLst (eArgs (Fbases ex ow) (aCons (eArgs (mkL false) (aCons (eVar 0) aNil)) aNil))) (gNm 2) (sSet 1 (eBin (catD false) (eVar 1) (eLc false [3, 4] (iLst (eVar 1)) (gTp 2 (gsCons (gNm 3) (gsCons (gNm 4) gsNil))) tYesD (eArgs mkT (aCons (eBin mulD (eVar 3) (eVar 2)) (aCons (eUn negD (eVar 4)) aNil)))))))
    (sRet (eVar 1))))
def Fsigned_parts (ex ow : List Str) : TF := bodyF 1 Nsigned_parts (tsigned_parts ex ow)
def Nmany_prime_to : List Str := ["number", "upto", "one", "sign"]
abbrev Pmany_prime_to : List Str := ["number", "upto"]
def tmany_prime_to (ex ow : List Str) : TSx :=
  (sRet (eArgs sumD (aCons (eLc false [2, 3] (iLst (eArgs (Fsigned_parts ex ow) (aCons (eVar 0) aNil))) (gTp 2 (gsCons (gNm 2) (gsCons (gNm 3) gsNil))) tYesD (eBin mulD (eVar 3) (eBin divD (eVar 1) (eVar 2)))) aNil)))
def Nnext_with : List Str := ["dials", "share", "dial", "many"]
abbrev Pnext_with : List Str := ["dials", "share", "dial"]
def tnext_with (ex ow : List Str) : TSx :=
  (sSeq (sSet 3 (eBin addD (eBin divD (eVar 2) (eVar 1)) (eC (.int 1))))
    (sSeq (sWhile (fun _ _ => 200000) (tOrT (tBl (eBin gtD (eArgs (Fgcd ex ow) (aCons (eVar 3) (aCons (eBin divD (eUn (propD "Dials" (FDials_whole ex ow)) (eVar 0)) (eVar 1)) aNil))) (eC (.int 1)))) (tBl (eBin (ninO "Dials" (FDials___contains__ ex ow)) (eBin mulD (eVar 3) (eVar 1)) (eVar 0)))) (sSet 3 (eBin addD (eVar 3) (eC (.int 1)))))
    (sRet (eBin mulD (eVar 3) (eVar 1)))))
def Fnext_with (ex ow : List Str) : TF := bodyF 3 Nnext_with (tnext_with ex ow)
def NDials_after : List Str := ["self", "dial", "found", "other", "share", "one"]
abbrev PDials_after : List Str := ["self", "dial"]
def tDials_after (ex ow : List Str) : TSx :=
  (sSeq (sCut (sSeq (sIf (tNotT (tTru (eArgs (Fis_integer ex ow) (aCons (eVar 1) (aCons (eC (.int 1)) (aCons (eC (.int 1000000000)) aNil)))))) (sRaise "BadDial" (eVar 1)) sNext)
    (sSeq (sSet 2 (eLc true [3] (iAny (eUn (propD "Dials" (FDials_others ex ow)) (eVar 0))) (gNm 3) (tAndT (tBl (eBin gtD (eVar 3) (eVar 1))) (tBl (eBin (inO "Dials" (FDials___contains__ ex ow)) (eVar 3) (eVar 0)))) (eVar 3)))
    (sExpr (eLm extD (eVar 2) (eLc false [4] (iAny (eUn (propD "Dials" (FDials_shares ex ow)) (eVar 0))) (gNm 4) tYesD (eArgs (Fnext_with ex ow) (aCons (eVar 0) (aCons (eVar 4) (aCons (eVar 1) aNil))))))))))
    (sRet (eIf (tBl (eBin neD (eVar 2) (eArgs (mkL false) aNil))) (eArgs minLD (aCons (eLc false [5] (iLst (eVar 2)) (gNm 5) tYesD (eArgs intD (aCons (eVar 5) aNil))) aNil)) (eC .non))))
def FDials_after (ex ow : List Str) : TF := cutF (bodyF 2 NDials_after (tDials_after ex ow))
end Pr
set_option Elab.async false
set_option linter.all false
set_option maxRecDepth 100000
set_option maxHeartbeats 0
namespace Pr
open PySem PySem.Spec PyProof.Rows L2 TL
def Ndivisors : List Str := ["number"]
abbrev Pdivisors : List Str := ["number"]
def tdivisors (ex ow : List Str) : TSx :=
  (sRet (eArgs (Fdivisors_by ex ow) (aCons (eVar 0) (aCons (eArgs (Fbases ex ow) (aCons (eArgs (mkL false) (aCons (eVar 0) aNil)) aNil)) aNil))))
def Fdivisors (ex ow : List Str) : TF := bodyF 1 Ndivisors (tdivisors ex ow)
def Nword_of : List Str := ["word", "is_one", "is_other"]
abbrev Pword_of : List Str := ["word", "is_one", "is_other"]
def tword_of (ex ow : List Str) : TSx :=
  (sSeq (sMatch (eVar 0) (mC "or" (sRet (eOr (eVar 1) (eVar 2))) (mC "and" (sRet (eAnd (eVar 1) (eVar 2))) (mC "less" (sRet (eAnd (eVar 1) (eNot (eVar 2)))) mN))))
    (sRet (eBin neD (eVar 1) (eVar 2))))
def Fword_of (ex ow : List Str) : TF := bodyF 3 Nword_of (tword_of ex ow)
def Nput_together : List Str := ["word", "one", "other", "whole", "primes", "shares", "share", "is_one", "plain", "there", "others", "prime", "dial"]
abbrev Pput_together : List Str := ["word", "one", "other"]
def tput_together (ex ow : List Str) : TSx :=
  (sSeq (sCut (sSeq (sSet 3 (eArgs (Flcm ex ow) (aCons (eUn (fldD ["Raw"] "own_whole") (eVar 1)) (aCons (eUn (fldD ["Raw"] "own_whole") (eVar 2)) aNil))))
    (sSeq (sSet 4 (eArgs (sortSetI false) (aCons (eLc false [11] (iLst (eArgs (mkL false) (aStar (eUn (fldD ["Raw"] "own_primes") (eVar 1)) (aStar (eUn (fldD ["Raw"] "own_primes") (eVar 2)) aNil)))) (gNm 11) tYesD (eArgs intD (aCons (eVar 11) aNil))) aNil)))
    (sSeq (sSet 5 (eArgs (mkL true) aNil))
    (sFor (iLst (eArgs (Fdivisors_by ex ow) (aCons (eVar 3) (aCons (eVar 4) aNil)))) (gNm 6) (sSeq (sSet 7 (eBin dinD (eArgs (Fgcd ex ow) (aCons (eVar 6) (aCons (eUn (fldD ["Raw"] "own_whole") (eVar 1)) aNil))) (eUn (fldD ["Raw"] "own_shares") (eVar 1))))
    (sIf (tTru (eArgs (Fword_of ex ow) (aCons (eVar 0) (aCons (eVar 7) (aCons (eBin dinD (eArgs (Fgcd ex ow) (aCons (eVar 6) (aCons (eUn (fldD ["Raw"] "own_whole") (eVar 2)) aNil))) (eUn (fldD ["Raw"] "own_shares") (eVar 2))) aNil))))) (sExpr (eLm appD (eVar 5) (eVar 6))) sNext)))))))
    (sSeq (sAsg (eArgs mkT (aCons (eCut (eArgs (makeD "Raw" [.tup []] (FRaw___init__ ex ow)) (aCons (eVar 3) (aCons (eVar 5) (aCons (eArgs mkT aNil) aNil))))) (aCons (eArgs (mkL false) (aStarD (eUn (fldD ["Raw"] "own_others") (eVar 1)) (aStarD (eUn (fldD ["Raw"] "own_others") (eVar 2)) aNil))) aNil))) (gTp 2 (gsCons (gNm 8) (gsCons (gNm 9) gsNil))))
    (sSeq (sSet 10 (eLc false [12] (iLst (eVar 9)) (gNm 12) (tBl (eBin neD (eMeth "Raw" "has" (FRaw_has ex ow) (eVar 8) (aCons (eVar 12) aNil)) (eArgs (Fword_of ex ow) (aCons (eVar 0) (aCons (eMeth "Raw" "has" (FRaw_has ex ow) (eVar 1) (aCons (eVar 12) aNil)) (aCons (eMeth "Raw" "has" (FRaw_has ex ow) (eVar 2) (aCons (eVar 12) aNil)) aNil)))))) (eVar 12)))
    (sRet (eArgs (Fleast_raw ex ow) (aCons (eVar 3) (aCons (eVar 5) (aCons (eVar 10) (aCons (eVar 4) aNil)))))))))
def Fput_together (ex ow : List Str) : TF := cutF (bodyF 3 Nput_together (tput_together ex ow))
def Nis_great : List Str := ["raw", "dial"]
abbrev Pis_great : List Str := ["raw"]
def tis_great (ex ow : List Str) : TSx :=
  (sRet (eOr (eBin gtD (eUn (fldD ["Raw"] "own_whole") (eVar 0)) (eC (.int 1000000000))) (eArgs anyD (aCons (eLc false [1] (iDk (eUn (fldD ["Raw"] "own_others") (eVar 0))) (gNm 1) tYesD (eBin gtD (eVar 1) (eC (.int 1000000000)))) aNil))))
def Fis_great (ex ow : List Str) : TF := bodyF 1 Nis_great (tis_great ex ow)
def Ntold_raw : List Str := ["raw"]
abbrev Ptold_raw : List Str := ["raw"]
def ttold_raw (ex ow : List Str) : TSx :=
  (sSeq (sIf (tTru (eArgs (Fis_great ex ow) (aCons (eVar 0) aNil))) (sRaise "TooGreat" (eC (.int 1000000000))) sNext)
    (sRet (eCut (eArgs (makeD "Dials" [] (FDials___init__ ex ow)) (aCons (eUn (fldD ["Raw"] "own_whole") (eVar 0)) (aCons (eArgs tupleD (aCons (eArgs (sortSetDI false) (aCons (eUn (fldD ["Raw"] "own_shares") (eVar 0)) aNil)) aNil)) (aCons (eArgs tupleD (aCons (eArgs (sortSetDI false) (aCons (eUn (fldD ["Raw"] "own_others") (eVar 0)) aNil)) aNil)) aNil)))))))
def Ftold_raw (ex ow : List Str) : TF := bodyF 1 Ntold_raw (ttold_raw ex ow)
def NDials___or__ : List Str := ["self", "other"]
abbrev PDials___or__ : List Str := ["self", "other"]
def tDials___or__ (ex ow : List Str) : TSx :=
  (sSeq (sIf (tNotT (tTru (eArgs (isiA ex ow) (aCons (eVar 1) (aCons (eC (.cls "Dials")) aNil))))) sNever sNext)
    (sRet (eArgs (Ftold_raw ex ow) (aCons (eArgs (Fput_together ex ow) (aCons (eC (.str "or")) (aCons (eUn (fldD ["Dials"] "own_raw") (eVar 0)) (aCons (eUn (fldD ["Dials"] "own_raw") (eVar 1)) aNil)))) aNil))))
def FDials___or__ (ex ow : List Str) : TF := bodyF 2 NDials___or__ (tDials___or__ ex ow)
def NDials___and__ : List Str := ["self", "other"]
abbrev PDials___and__ : List Str := ["self", "other"]
def tDials___and__ (ex ow : List Str) : TSx :=
  (sSeq (sIf (tNotT (tTru (eArgs (isiA ex ow) (aCons (eVar 1) (aCons (eC (.cls "Dials")) aNil))))) sNever sNext)
    (sRet (eArgs (Ftold_raw ex ow) (aCons (eArgs (Fput_together ex ow) (aCons (eC (.str "and")) (aCons (eUn (fldD ["Dials"] "own_raw") (eVar 0)) (aCons (eUn (fldD ["Dials"] "own_raw") (eVar 1)) aNil)))) aNil))))
def FDials___and__ (ex ow : List Str) : TF := bodyF 2 NDials___and__ (tDials___and__ ex ow)
def NDials___sub__ : List Str := ["self", "other"]
abbrev PDials___sub__ : List Str := ["self", "other"]
def tDials___sub__ (ex ow : List Str) : TSx :=
  (sSeq (sIf (tNotT (tTru (eArgs (isiA ex ow) (aCons (eVar 1) (aCons (eC (.cls "Dials")) aNil))))) sNever sNext)
    (sRet (eArgs (Ftold_raw ex ow) (aCons (eArgs (Fput_together ex ow) (aCons (eC (.str "less")) (aCons (eUn (fldD ["Dials"] "own_raw") (eVar 0)) (aCons (eUn (fldD ["Dials"] "own_raw") (eVar 1)) aNil)))) aNil))))
def FDials___sub__ (ex ow : List Str) : TF := bodyF 2 NDials___sub__ (tDials___sub__ ex ow)
def NDials___xor__ : List Str := ["self", "other"]
abbrev PDials___xor__ : List Str := ["self", "other"]
def tDials___xor__ (ex ow : List Str) : TSx :=
  (sSeq (sIf (tNotT (tTru (eArgs (isiA ex ow) (aCons (eVar 1) (aCons (eC (.cls "Dials")) aNil))))) sNever sNext)
    (sRet (eArgs (Ftold_raw ex ow) (aCons (eArgs (Fput_together ex ow) (aCons (eC (.str "just")) (aCons (eUn (fldD ["Dials"] "own_raw") (eVar 0)) (aCons (eUn (fldD ["Dials"] "own_raw") (eVar 1)) aNil)))) aNil))))
def FDials___xor__ (ex ow : List Str) : TF := bodyF 2 NDials___xor__ (tDials___xor__ ex ow)
def NDials___invert__ : List Str := ["self", "there", "one"]
abbrev PDials___invert__ : List Str := ["self"]
def tDials___invert__ (ex ow : List Str) : TSx :=
  (sSeq (sSet 1 (eUn (fldD ["Raw"] "own_shares") (eUn (fldD ["Dials"] "own_raw") (eVar 0))))
    (sRet (eCut (eArgs (makeD "Dials" [] (FDials___init__ ex ow)) (aCons (eUn (propD "Dials" (FDials_whole ex ow)) (eVar 0)) (aCons (eArgs tupleD (aCons (eLc false [2] (iLst (eArgs (Fdivisors ex ow) (aCons (eUn (propD "Dials" (FDials_whole ex ow)) (eVar 0)) aNil))) (gNm 2) (tBl (eBin ndinD (eVar 2) (eVar 1))) (eVar 2)) aNil)) (aCons (eUn (propD "Dials" (FDials_others ex ow)) (eVar 0)) aNil)))))))
def FDials___invert__ (ex ow : List Str) : TF := bodyF 1 NDials___invert__ (tDials___invert__ ex ow)
def Nis_below : List Str := ["one", "other", "left"]
abbrev Pis_below : List Str := ["one", "other"]
def tis_below (ex ow : List Str) : TSx :=
  (sSeq (sSet 2 (eArgs (Fput_together ex ow) (aCons (eC (.str "less")) (aCons (eUn (fldD ["Dials"] "own_raw") (eVar 0)) (aCons (eUn (fldD ["Dials"] "own_raw") (eVar 1)) aNil)))))
    (sRet (eAnd (eBin eqDE (eUn (fldD ["Raw"] "own_shares") (eVar 2)) (fun _ S => mkD false [] S)) (eBin eqDE (eUn (fldD ["Raw"] "own_others") (eVar 2)) (fun _ S => mkD false [] S)))))
def Fis_below (ex ow : List Str) : TF := bodyF 2 Nis_below (tis_below ex ow)
def NDials___le__ : List Str := ["self", "other"]
abbrev PDials___le__ : List Str := ["self", "other"]
def tDials___le__ (ex ow : List Str) : TSx :=
  (sSeq (sIf (tNotT (tTru (eArgs (isiA ex ow) (aCons (eVar 1) (aCons (eC (.cls "Dials")) aNil))))) sNever sNext)
    (sRet (eArgs (Fis_below ex ow) (aCons (eVar 0) (aCons (eVar 1) aNil)))))
def FDials___le__ (ex ow : List Str) : TF := bodyF 2 NDials___le__ (tDials___le__ ex ow)
end Pr
set_option Elab.async false
set_option linter.all false
set_option maxRecDepth 100000
set_option maxHeartbeats 0
namespace Pr
open PySem PySem.Spec PyProof.Rows L2 TL
end Pr
set_option Elab.async false
set_option linter.all false
set_option maxRecDepth 100000
set_option maxHeartbeats 0
namespace K12
open PySem PySem.Spec PyProof.Rows L2 TL
def N_law_pot : List Str := ["_law_script", "_law_k", "_law_cell", "_law_own", "_law_small"]
abbrev P_law_pot : List Str := ["_law_script", "_law_k"]
def t_law_pot : TSx :=
  (sSeq (sSet 2 (eIf (tBl (eBin ltD (eVar 1) (eArgs lenD (aCons (eVar 0) aNil)))) (eBin ixU (eVar 0) (eVar 1)) (eBin addD (eBin mulD (eC (.int 97)) (eVar 1)) (eC (.int 51)))))
    (sSeq (sSet 3 (eBin mulD (eBin modD (eArgs intD (aCons (eArgs absD (aCons (eVar 2) aNil)) aNil)) (eBin powD (eBin powD (eC (.int 10)) (eC (.int 60))) (eC (.int 5)))) (eArgs intD (aCons (eBin geD (eArgs absD (aCons (eVar 2) aNil)) (eBin powD (eC (.int 10)) (eC (.int 18)))) aNil))))
    (sSeq (sSet 4 (eBin modD (eArgs intD (aCons (eVar 2) aNil)) (eC (.int 2305843009213693951))))
    (sRet (eArgs (mkL true) (aCons (eVar 3) (aCons (eBin modD (eArgs intD (aCons (eBin addD (eBin addD (eBin mulD (eVar 4) (eC (.int 76327))) (eBin mulD (eBin mulD (eC (.int 8219)) (eVar 1)) (eVar 1))) (eC (.int 101))) aNil)) (eC (.int 2305843009213693921))) (aCons (eC (.int 0)) aNil))))))))
def F_law_pot : TF := bodyF 2 N_law_pot t_law_pot
def N_law_take : List Str := ["_law_pot_here", "_law_upto", "_law_digit", "_law_prime", "_law_blend"]
abbrev P_law_take : List Str := ["_law_pot_here", "_law_upto"]
def t_law_take : TSx :=
  (sSeq (sIf (tBl (eBin gtD (eBin ixD (eVar 0) (eC (.int 0))) (eC (.int 0)))) (sSeq (sSet 2 (eBin modD (eArgs intD (aCons (eBin ixD (eVar 0) (eC (.int 0))) aNil)) (eVar 1)))
    (sSeq (sAsg (eBin divD (eBin ixD (eVar 0) (eC (.int 0))) (eVar 1)) (gSb (eVar 0) (eC (.int 0))))
    (sRet (eVar 2)))) sNext)
    (sSeq (sAsg (eBin addD (eBin ixD (eVar 0) (eC (.int 2))) (eC (.int 1))) (gSb (eVar 0) (eC (.int 2))))
    (sSeq (sSet 3 (eBin ixD (eArgs (mkL false) (aCons (eC (.int 2147483647)) (aCons (eC (.int 2147483629)) (aCons (eC (.int 2147483587)) (aCons (eC (.int 2147483579)) (aCons (eC (.int 2147483563)) aNil)))))) (eBin modD (eArgs intD (aCons (eBin ixD (eVar 0) (eC (.int 2))) aNil)) (eC (.int 5)))))
    (sSeq (sSet 4 (eBin modD (eArgs intD (aCons (eBin powD (eArgs intD (aCons (eBin addD (eBin (addU false) (eBin ixD (eVar 0) (eC (.int 1))) (eBin mulD (eBin mulD (eC (.int 91091)) (eBin ixD (eVar 0) (eC (.int 2)))) (eBin ixD (eVar 0) (eC (.int 2))))) (eC (.int 93))) aNil)) (eC (.int 3))) aNil)) (eVar 3)))
    (sRet (eBin modD (eArgs intD (aCons (eBin divD (eBin mulD (eVar 4) (eBin addD (eBin modD (eArgs intD (aCons (eVar 4) aNil)) (eC (.int 10007))) (eBin mulD (eC (.int 97)) (eBin ixD (eVar 0) (eC (.int 2)))))) (eC (.int 127))) aNil)) (eVar 1)))))))
def F_law_take : TF := bodyF 2 N_law_take t_law_take
def N_law_of : List Str := ["_law_pot_here", "_law_some"]
abbrev P_law_of : List Str := ["_law_pot_here", "_law_some"]
def t_law_of : TSx :=
  (sRet (eBin ixD (eVar 1) (eArgs F_law_take (aCons (eVar 0) (aCons (eArgs lenD (aCons (eVar 1) aNil)) aNil)))))
def F_law_of : TF := bodyF 2 N_law_of t_law_of
def N_law_places : List Str := ["_law_script", "_law_most"]
abbrev P_law_places : List Str := ["_law_script", "_law_most"]
def t_law_places : TSx :=
  (sRet (eListRg false (aCons (eArgs max2D (aCons (eC (.int 1)) (aCons (eArgs min2D (aCons (eVar 1) (aCons (eArgs lenD (aCons (eVar 0) aNil)) aNil))) aNil))) aNil)))
def F_law_places : TF := bodyF 2 N_law_places t_law_places
def N_law_pairs : List Str := []
abbrev P_law_pairs : List Str := []
def t_law_pairs : TSx :=
  (sRet (eArgs (mkL false) (aCons (eArgs mkT (aCons (eC (.int 99991)) (aCons (eC (.int 10007)) aNil))) (aCons (eArgs mkT (aCons (eC (.int 31607)) (aCons (eC (.int 31627)) aNil))) (aCons (eArgs mkT (aCons (eC (.int 31627)) (aCons (eC (.int 31643)) aNil))) (aCons (eArgs mkT (aCons (eC (.int 7)) (aCons (eC (.int 99991)) aNil))) (aCons (eArgs mkT (aCons (eC (.int 499979)) (aCons (eC (.int 1999)) aNil))) (aCons (eArgs mkT (aCons (eC (.int 499979)) (aCons (eC (.int 2003)) aNil))) (aCons (eArgs mkT (aCons (eC (.int 101)) (aCons (eC (.int 103)) aNil))) aNil)))))))))
def F_law_pairs : TF := bodyF 0 N_law_pairs t_law_pairs
def N_law_is_due : List Str := ["_law_look", "_law_is_wide", "_law_caught"]
abbrev P_law_is_due : List Str := ["_law_look", "_law_is_wide"]
def t_law_is_due : TSx :=
  (sSeq (sIf (tTru (eVar 1)) (sRet (eAnd (eArgs (isiA ex ow) (aCons (eVar 2) (aCons (eC (.cls "TooGreat")) aNil))) (eBin eqD (eArgs reprD (aCons (eUn (valE ex) (eVar 2)) aNil)) (eArgs reprD (aCons (eBin powD (eC (.int 10)) (eC (.int 9))) aNil))))) sNext)
    (sRet (eBin isND (eVar 2) (eC .non))))
def N_law_plain_right : List Str := ["_law_one", "_law_other", "_law_mine", "_law_its", "_law_is_wide", "_law_looks", "_law_both", "_law_look"]
abbrev P_law_plain_right : List Str := ["_law_one", "_law_other"]
def t_law_plain_right : TSx :=
  (sSeq (sAsg (eArgs mkT (aCons (eCut (eArgs (makeD "Dials" [.tup []] (Pr.FDials___init__ ex ow)) (aCons (eVar 0) (aCons (eArgs mkT (aCons (eVar 0) aNil)) aNil)))) (aCons (eCut (eArgs (makeD "Dials" [.tup []] (Pr.FDials___init__ ex ow)) (aCons (eVar 1) (aCons (eArgs mkT (aCons (eVar 1) aNil)) aNil)))) (aCons (eBin gtD (eBin mulD (eVar 0) (eVar 1)) (eBin powD (eC (.int 10)) (eC (.int 9)))) aNil)))) (gTp 3 (gsCons (gNm 2) (gsCons (gNm 3) (gsCons (gNm 4) gsNil)))))
    (sLooksT ex 0 "_law_plain_right" [(eBin (own2 "Dials" (Pr.FDials___or__ ex ow)) (eVar 2) (eVar 3)), (eBin (own2 "Dials" (Pr.FDials___and__ ex ow)) (eVar 2) (eVar 3)), (eBin (own2 "Dials" (Pr.FDials___sub__ ex ow)) (eVar 2) (eVar 3)), (eBin (own2 "Dials" (Pr.FDials___xor__ ex ow)) (eVar 2) (eVar 3))] 4 5 7 t_law_is_due (sRet (eC (.bl false)))
    (sSeq (sIf (tOrT (tBl (eBin (own2 "Dials" (Pr.FDials___le__ ex ow)) (eVar 2) (eVar 3))) (tOrT (tBl (eBin (own2 "Dials" (Pr.FDials___le__ ex ow)) (eVar 3) (eVar 2))) (tOrT (tNotT (tBl (eBin (own2 "Dials" (Pr.FDials___le__ ex ow)) (eVar 2) (eUn (own1 "Dials" (Pr.FDials___invert__ ex ow)) (eUn (own1 "Dials" (Pr.FDials___invert__ ex ow)) (eVar 2)))))) (tBl (eBin neD (eUn (propD "Dials" (Pr.FDials_shares ex ow)) (eUn (own1 "Dials" (Pr.FDials___invert__ ex ow)) (eVar 2))) (eArgs mkT (aCons (eC (.int 1)) aNil))))))) (sRet (eC (.bl false))) sNext)
    (sSeq (sIf (tTru (eVar 4)) (sRet (eC (.bl true))) sNext)
    (sSeq (sSet 6 (eBin (own2 "Dials" (Pr.FDials___and__ ex ow)) (eVar 2) (eVar 3)))
    (sRet (eAnd (eBin eqD (eUn (propD "Dials" (Pr.FDials_whole ex ow)) (eVar 6)) (eBin mulD (eVar 0) (eVar 1))) (eAnd (eBin eqD (eUn (propD "Dials" (Pr.FDials_shares ex ow)) (eVar 6)) (eArgs mkT (aCons (eBin mulD (eVar 0) (eVar 1)) aNil))) (eBin eqD (eMeth "Dials" "after" (Pr.FDials_after ex ow) (eVar 6) (aCons (eC (.int 1)) aNil)) (eBin mulD (eVar 0) (eVar 1)))))))))))
def F_law_plain_right : TF := cutF (bodyF 2 N_law_plain_right t_law_plain_right)
def N_law_parted_right : List Str := ["_law_one", "_law_other", "_law_mine", "_law_its", "_law_is_wide"]
abbrev P_law_parted_right : List Str := ["_law_one", "_law_other"]
def t_law_parted_right : TSx :=
  (sSeq (sAsg (eArgs mkT (aCons (eCut (eArgs (makeD "Dials" [.tup []] (Pr.FDials___init__ ex ow)) (aCons (eBin mulD (eC (.int 2)) (eVar 0)) (aCons (eArgs mkT (aCons (eBin mulD (eC (.int 2)) (eVar 0)) aNil)) aNil)))) (aCons (eCut (eArgs (makeD "Dials" [.tup []] (Pr.FDials___init__ ex ow)) (aCons (eBin mulD (eC (.int 2)) (eVar 1)) (aCons (eArgs mkT (aCons (eVar 1) aNil)) aNil)))) aNil))) (gTp 2 (gsCons (gNm 2) (gsCons (gNm 3) gsNil))))
    (sSeq (sSet 4 (eBin gtD (eBin mulD (eBin mulD (eC (.int 2)) (eVar 0)) (eVar 1)) (eBin powD (eC (.int 10)) (eC (.int 9)))))
    (sSeq (sIf (tNotT (tTru (eDue ex 1 "_law_parted_right" (eBin (own2 "Dials" (Pr.FDials___or__ ex ow)) (eVar 2) (eVar 3)) 4 t_law_is_due))) (sRet (eC (.bl false))) sNext)
    (sSeq (sIf (tNotT (tTru (eDue ex 1 "_law_parted_right" (eBin (own2 "Dials" (Pr.FDials___xor__ ex ow)) (eVar 2) (eVar 3)) 4 t_law_is_due))) (sRet (eC (.bl false))) sNext)
    (sSeq (sIf (tOrT (tBl (eBin neD (eUn (propD "Dials" (Pr.FDials_text ex ow)) (eBin (own2 "Dials" (Pr.FDials___and__ ex ow)) (eVar 2) (eVar 3))) (eC (.str "1 : - : -")))) (tOrT (tBl (eBin (ownNe "Dials" (Pr.FDials___eq__ ex ow) neD) (eBin (own2 "Dials" (Pr.FDials___sub__ ex ow)) (eVar 2) (eVar 3)) (eVar 2))) (tBl (eBin (ownNe "Dials" (Pr.FDials___eq__ ex ow) neD) (eBin (own2 "Dials" (Pr.FDials___sub__ ex ow)) (eVar 3) (eVar 2)) (eVar 3))))) (sRet (eC (.bl false))) sNext)
    (sRet (eAnd (eNot (eBin (own2 "Dials" (Pr.FDials___le__ ex ow)) (eVar 2) (eVar 3))) (eAnd (eBin (own2 "Dials" (Pr.FDials___le__ ex ow)) (eBin (own2 "Dials" (Pr.FDials___and__ ex ow)) (eVar 2) (eVar 3)) (eVar 3)) (eAnd (eBin (inO "Dials" (Pr.FDials___contains__ ex ow)) (eBin mulD (eC (.int 2)) (eVar 0)) (eVar 2)) (eAnd (eBin (inO "Dials" (Pr.FDials___contains__ ex ow)) (eVar 1) (eVar 3)) (eBin (ninO "Dials" (Pr.FDials___contains__ ex ow)) (eBin mulD (eC (.int 2)) (eVar 1)) (eVar 3))))))))))))
def F_law_parted_right : TF := cutF (bodyF 2 N_law_parted_right t_law_parted_right)
def N_law_right : List Str := ["_law_pot_here", "_law_one", "_law_other"]
abbrev P_law_right : List Str := ["_law_pot_here"]
def t_law_right : TSx :=
  (sSeq (sAsg (eArgs F_law_of (aCons (eVar 0) (aCons (eArgs F_law_pairs aNil) aNil))) (gTp 2 (gsCons (gNm 1) (gsCons (gNm 2) gsNil))))
    (sSeq (sIf (tBl (eBin eqD (eArgs F_law_take (aCons (eVar 0) (aCons (eC (.int 2)) aNil))) (eC (.int 0)))) (sPar 1 2 (aCons (eVar 2) (aCons (eVar 1) aNil))) sNext)
    (sRet (eAnd (eArgs F_law_plain_right (aCons (eVar 1) (aCons (eVar 2) aNil))) (eArgs F_law_parted_right (aCons (eVar 1) (aCons (eVar 2) aNil)))))))
def F_law_right : TF := cutF (bodyF 1 N_law_right t_law_right)
def Nlaw : List Str := ["_law_script", "_law_place", "_law_pot_here", "_law_turn"]
abbrev Plaw : List Str := ["_law_script"]
def tlaw : TSx :=
  (sSeq (sFor (iLst (eArgs F_law_places (aCons (eVar 0) (aCons (eC (.int 2)) aNil)))) (gNm 1) (sSeq (sSet 2 (eArgs F_law_pot (aCons (eVar 0) (aCons (eVar 1) aNil))))
    (sIf (tNotT (tTru (eArgs allD (aCons (eLc false [3] (iRg1 (aCons (eC (.int 2)) aNil)) (gNm 3) tYesD (eArgs F_law_right (aCons (eVar 2) aNil))) aNil)))) (sRet (eC (.bl false))) sNext)))
    (sRet (eC (.bl true))))
def Flaw : TF := bodyF 1 Nlaw tlaw
end K12
set_option Elab.async false
set_option linter.all false
set_option maxRecDepth 100000
set_option maxHeartbeats 4000000
namespace K12
open PySem PySem.Spec PyProof.Rows L2 TL
theorem ob_eq (s : PySem.W.SharedT) : ob s = hk.obs s.abs := obsXL_eq (HandSHeadRun.getT_eq s)
end K12
set_option Elab.async false
set_option linter.all false
set_option maxRecDepth 100000
set_option maxHeartbeats 4000000
namespace K12
open PySem PySem.Spec PyProof.Rows L2 TL
structure Pot (S : List O) (i : Nat) (T : Int) : Prop where
  ex : ∃ a b t : Int, S[i]? = some (.lst [.int a, .int b, .int t]) ∧ 0 ≤ a ∧ 0 ≤ b ∧ b < 2 ^ 61 ∧ 0 ≤ t ∧ t ≤ T
structure Step (i : Nat) (T : Int) (S S' : List O) : Prop where
  len : S'.length = S.length
  off : ∀ j, j ≠ i → S'[j]? = S[j]?
  pot : Pot S' i T
def Ret (o : Out D) (P : D → List O → Prop) : Prop := ∃ d S, o = .ok d S ∧ P d S
theorem cdiv {i u : Int} (hu : 0 < u) (hu2 : u < 2 ^ 62) : CDivW i u := ⟨hu, by
    have h2 := Nat.log2_lt (n := u.natAbs) (k := 62) (by omega)
    have := h2.mpr (by omega)
    omega⟩
theorem take1 {S : List O} {i : Nat} {a b t u : Int} (h : S[i]? = some (.lst [.int a, .int b, .int t])) (ha : 0 < a) (hu : 0 < u) (hu2 : u < 2 ^ 62) :
    F_law_take [.hnd i, .int u] S = .ok (.int (a % u)) (S.set i (.lst [.int (a / u), .int b, .int t])) := by
  have c1 : ixD (.hnd i) (.int 0) S = .ok (.int a) S := ix_hnd h rfl
  have c2 : CDivW a u := cdiv hu hu2
  have c3 : setD (.hnd i) (.int 0) (.int (a / u)) S = some (S.set i (.lst [.int (a / u), .int b, .int t])) := set_hnd h rfl
  unfold F_law_take t_law_take
  simp [N_law_take, c1, ha, mod_int S hu, div_int S c2, c3]
theorem log2_le {x : Int} {n k : Nat} (h : x.natAbs < 2 ^ n) (hn : n ≤ k) : x.natAbs.log2 ≤ k := by
  by_cases h0 : x.natAbs = 0
  · rw [h0]
    simp
  · have := (Nat.log2_lt (n := x.natAbs) (k := n) h0).mpr h
    omega
theorem bits_le {x : Int} {n : Nat} (h : x.natAbs < 2 ^ n) : Builtin.Int.intBits x ≤ n + 1 := by
  unfold Builtin.Int.intBits
  split
  · omega
  · have := log2_le (k := n) h (Nat.le_refl _)
    omega
theorem cmul {i j : Int} (h1 : i.natAbs < 2 ^ 1000) (h2 : j.natAbs < 2 ^ 1000) : CMul i j ∨ CMulW i j := .inr (by
  have := log2_le (k := 1000) h1 (Nat.le_refl _)
  have := log2_le (k := 1000) h2 (Nat.le_refl _)
  show _ + _ < _
  omega)
theorem five (x : Int) (h0 : 0 ≤ x) (h5 : x < 5) : ∃ p : Int, 0 < p ∧ p < 2 ^ 31 ∧ atI [D.int 2147483647, .int 2147483629, .int 2147483587, .int 2147483579, .int 2147483563] x = some (.int p) := by
  have : x = 0 ∨ x = 1 ∨ x = 2 ∨ x = 3 ∨ x = 4 := by omega
  rcases this with rfl | rfl | rfl | rfl | rfl
  · exact ⟨2147483647, by decide, by decide, rfl⟩
  · exact ⟨2147483629, by decide, by decide, rfl⟩
  · exact ⟨2147483587, by decide, by decide, rfl⟩
  · exact ⟨2147483579, by decide, by decide, rfl⟩
  · exact ⟨2147483563, by decide, by decide, rfl⟩
theorem take2 {S : List O} {i : Nat} {b t u : Int} (h : S[i]? = some (.lst [.int 0, .int b, .int t])) (hb : 0 ≤ b) (hb2 : b < 2 ^ 61) (ht : 0 ≤ t) (ht2 : t < 2 ^ 20) (hu : 0 < u) (hu2 : u < 2 ^ 62) :
    ∃ r : Int, F_law_take [.hnd i, .int u] S = .ok (.int r) (S.set i (.lst [.int 0, .int b, .int (t + 1)])) ∧ 0 ≤ r ∧ r < u := by
  have hi : i < S.length := (List.getElem?_eq_some_iff.mp h).1
  have g1 : (S.set i (.lst [.int 0, .int b, .int (t + 1)]))[i]? = some (.lst [.int 0, .int b, .int (t + 1)]) := List.getElem?_set_self hi
  generalize hS : S.set i (.lst [.int 0, .int b, .int (t + 1)]) = S' at g1
  have c0 : ixD (.hnd i) (.int 0) S = .ok (.int 0) S := ix_hnd h rfl
  have c2 : ixD (.hnd i) (.int 2) S = .ok (.int t) S := ix_hnd h rfl
  have c3 : setD (.hnd i) (.int 2) (.int (t + 1)) S = some S' := by
    rw [← hS]
    exact set_hnd h rfl
  have d1 : ixD (.hnd i) (.int 1) S' = .ok (.int b) S' := ix_hnd g1 rfl
  have d2 : ixD (.hnd i) (.int 2) S' = .ok (.int (t + 1)) S' := ix_hnd g1 rfl
  obtain ⟨p, hp, hp2, e5⟩ := five ((t + 1) % 5) (Int.emod_nonneg _ (by decide)) (Int.emod_lt_of_pos _ (by decide))
  have d5 := ix_lst (S := S') e5
  have hm0 : ∀ x : Int, 0 ≤ x → x < 2 ^ 200 → x.natAbs < 2 ^ 1000 := fun x h1 h2 => by
    have : x.natAbs < 2 ^ 200 := by omega
    exact Nat.lt_of_lt_of_le this (Nat.pow_le_pow_right (by decide) (by decide))
  have hm := fun {x y : Int} (h1 : 0 ≤ x) (h2 : x < 2 ^ 200) (h3 : 0 ≤ y) (h4 : y < 2 ^ 200) => mul_int S' (i := x) (j := y) (cmul (hm0 x h1 h2) (hm0 y h3 h4))
  have l5 : mkL false [D.int 2147483647, .int 2147483629, .int 2147483587, .int 2147483579, .int 2147483563] S' = .ok (.lst [D.int 2147483647, .int 2147483629, .int 2147483587, .int 2147483579, .int 2147483563]) S' := mkL_false S' _ (small_line (by decide))
  have t0 : 0 ≤ t + 1 := by omega
  have t2 : t + 1 ≤ 2 ^ 20 := by omega
  generalize htt : t + 1 = y at *
  have y1 : 91091 * y * y ≤ 91091 * 2 ^ 20 * 2 ^ 20 := Int.mul_le_mul (by omega) t2 t0 (by decide)
  have y0 : 0 ≤ 91091 * y * y := Int.mul_nonneg (by omega) t0
  have m1 := hm (x := 91091) (y := y) (by decide) (by decide) t0 (by omega)
  have m2 := hm (x := 91091 * y) (y := y) (by omega) (by omega) t0 (by omega)
  have hq0 : 0 ≤ b + 91091 * y * y + 93 := by omega
  have hq1 : b + 91091 * y * y + 93 < 2 ^ 62 := by omega
  generalize hq : b + 91091 * y * y + 93 = q at *
  have w1 : powD (.int q) (.int 3) S' = .ok (.int (q ^ 3)) S' := pow_intD S' ⟨by decide, by
    have := bits_le (x := q) (n := 62) (by omega)
    omega⟩
  have m3 := mod_int S' (i := q ^ 3) hp
  have x0 : 0 ≤ q ^ 3 % p := Int.emod_nonneg _ (by omega)
  have x1 : q ^ 3 % p < p := Int.emod_lt_of_pos _ hp
  generalize hx : q ^ 3 % p = x at *
  have m4 := hm (x := 97) (y := y) (by decide) (by decide) t0 (by omega)
  have m6 := mod_int S' (i := x) (j := 10007) (by decide)
  have z0 : 0 ≤ x % 10007 := Int.emod_nonneg _ (by decide)
  have z1 : x % 10007 < 10007 := Int.emod_lt_of_pos _ (by decide)
  have m5 := hm (x := x) (y := x % 10007 + 97 * y) x0 (by omega) (by omega) (by omega)
  have v1 := div_int S' (i := x * (x % 10007 + 97 * y)) (cdiv (u := 127) (by decide) (by decide))
  refine ⟨x * (x % 10007 + 97 * y) / 127 % u, ?_, Int.emod_nonneg _ (by omega), Int.emod_lt_of_pos _ hu⟩
  unfold F_law_take t_law_take
  simp [N_law_take, c0, c2, htt, c3, l5, d2, mod_int S' (i := y) (j := 5) (by decide), d5, d1, m1, m2, hq, w1, m3, hx, m6, m4, m5, v1, mod_int S' hu]
theorem take {S : List O} {i : Nat} {T u : Int} (h : Pot S i T) (hT : T < 2 ^ 20) (hu : 0 < u) (hu2 : u < 2 ^ 62) : Ret (F_law_take [.hnd i, .int u] S) fun d S' => (∃ r : Int, d = .int r ∧ 0 ≤ r ∧ r < u) ∧ Step i (T + 1) S S' := by
  obtain ⟨a, b, t, h1, ha, hb, hb2, ht, htT⟩ := h.ex
  have hi : i < S.length := (List.getElem?_eq_some_iff.mp h1).1
  by_cases h0 : 0 < a
  · refine ⟨_, _, take1 h1 h0 hu hu2, ⟨_, rfl, Int.emod_nonneg _ (by omega), Int.emod_lt_of_pos _ hu⟩, ⟨by simp, fun j hj => List.getElem?_set_ne (Ne.symm hj), ⟨a / u, b, t, List.getElem?_set_self hi, ?_, hb, hb2, ht, by omega⟩⟩⟩
    exact Int.ediv_nonneg ha (by omega)
  · have e : a = 0 := by omega
    subst e
    obtain ⟨r, h2, h3, h4⟩ := take2 h1 hb hb2 ht (by omega) hu hu2
    exact ⟨_, _, h2, ⟨r, rfl, h3, h4⟩, ⟨by simp, fun j hj => List.getElem?_set_ne (Ne.symm hj), ⟨0, b, t + 1, List.getElem?_set_self hi, by decide, hb, hb2, by omega, by omega⟩⟩⟩
theorem Pot.up {S : List O} {i : Nat} {T T' : Int} (h : Pot S i T) (hT : T ≤ T') : Pot S i T' := by
  obtain ⟨a, b, t, h1, h2, h3, h4, h5, h6⟩ := h.ex
  exact ⟨a, b, t, h1, h2, h3, h4, h5, by omega⟩
theorem Step.up {S S' : List O} {i : Nat} {T T' : Int} (h : Step i T S S') (hT : T ≤ T') : Step i T' S S' := ⟨h.len, h.off, h.pot.up hT⟩
theorem Step.tr {S S1 S2 : List O} {i : Nat} {T T' : Int} (h : Step i T S S1) (h2 : Step i T' S1 S2) : Step i T' S S2 := ⟨h2.len.trans h.len, fun j hj => (h2.off j hj).trans (h.off j hj), h2.pot⟩
theorem Step.here {S : List O} {i : Nat} {T : Int} (h : Pot S i T) : Step i T S S := ⟨rfl, fun _ _ => rfl, h⟩
theorem at_nat {α : Type} {xs : List α} {k : Nat} (h : k < xs.length) : atI xs (k : Int) = some xs[k] := by
  unfold atI ixN
  rw [if_pos (by omega), if_pos (by omega)]
  simp [h]
theorem at_int {α : Type} {xs : List α} {r : Int} (h0 : 0 ≤ r) (h : r < xs.length) : ∃ x, atI xs r = some x ∧ x ∈ xs := by
  obtain ⟨k, rfl⟩ := Int.eq_ofNat_of_zero_le h0
  have hk : k < xs.length := by omega
  exact ⟨xs[k], at_nat hk, List.getElem_mem hk⟩
theorem len_lst {ds : List D} {S : List O} : lenD [.lst ds] S = .ok (.int ds.length) S := rfl
theorem of_ok {S : List O} {i : Nat} {T : Int} {ds : List D} (h : Pot S i T) (hT : T < 2 ^ 20) (h0 : ds ≠ []) (h1 : ds.length ≤ 4096) : Ret (F_law_of [.hnd i, .lst ds] S) fun d S' => d ∈ ds ∧ Step i (T + 1) S S' := by
  have hl : 0 < ds.length := List.length_pos_iff.mpr h0
  obtain ⟨d, S', e, ⟨r, rfl, r0, r1⟩, st⟩ := take (u := ds.length) h hT (by omega) (by omega)
  obtain ⟨x, e2, hx⟩ := at_int (xs := ds) r0 r1
  refine ⟨x, S', ?_, hx, st⟩
  unfold F_law_of t_law_of
  simp [N_law_of, len_lst, e, ix_lst e2]
theorem places_ok {ns : List Int} {m : Int} {S : List O} (hm : m ≤ 2 ^ 20) : F_law_places [.scr ns, .int m] S = .ok (.lst (rng 0 (max 1 (min m ns.length)))) S := by
  have hlen : lenD [.scr ns] S = .ok (.int ns.length) S := by
    unfold lenD seqOf lstOf
    simp
  have e : (if (if (ns.length : Int) < m then (ns.length : Int) else m) > 1 then (if (ns.length : Int) < m then (ns.length : Int) else m) else 1) = max 1 (min m ns.length) := by
    rw [Int.max_def, Int.min_def]
    split <;> split <;> split <;> split <;> omega
  have hb : lsRgD false [.int (max 1 (min m ns.length))] S = .ok (.lst (rng 0 (max 1 (min m ns.length)))) S := by
    have hr : RgOk 0 (max 1 (min m ns.length)) := by
      refine ⟨?_, ?_, ?_, ?_, ?_⟩ <;> first | decide | (rw [Int.max_def, Int.min_def]; split <;> split <;> omega)
    rw [lsRg1 S hr]
    refine mkL_false S _ ?_
    rw [sizeLine_eq]
    unfold rng
    rw [List.length_map, List.length_range]
    rw [Int.max_def, Int.min_def]
    split <;> split <;> omega
  unfold F_law_places t_law_places
  simp [N_law_places, eListRg, hlen, e, hb]
theorem ix_scr {S : List O} {ns : List Int} {k : Int} (h0 : 0 ≤ k) (h1 : k < ns.length) : ∃ c, ixD (.scr ns) (.int k) S = .ok (.int c) S := by
  obtain ⟨x, e, hx⟩ := at_int (xs := ns.map D.int) h0 (by simpa using h1)
  obtain ⟨c, _, rfl⟩ := List.mem_map.mp hx
  exact ⟨c, by unfold ixD seqOf lstOf; simp [e]⟩
theorem ite01 (p : Prop) [Decidable p] : (0 : Int) ≤ if p then 1 else 0 := by split <;> decide
theorem pot_ok {ns : List Int} {k : Int} (S : List O) (h0 : 0 ≤ k) (h1 : k < 2 ^ 20) : Ret (F_law_pot [.scr ns, .int k] S) fun d S' => d = .hnd S.length ∧ ∃ o, S' = S ++ [o] ∧ Pot S' S.length 0 := by
  have hlen : lenD [.scr ns] S = .ok (.int ns.length) S := by
    unfold lenD seqOf lstOf
    simp
  obtain ⟨M1, p1, q1⟩ : ∃ M1 : Int, powD (.int 10) (.int 60) S = .ok (.int M1) S ∧ M1.natAbs < 2 ^ 200 ∧ 0 < M1 := ⟨10 ^ 60, pow_intD S ⟨by decide, by decide⟩, by decide, by decide⟩
  obtain ⟨M, p2, q2⟩ : ∃ M : Int, powD (.int M1) (.int 5) S = .ok (.int M) S ∧ 0 < M := ⟨M1 ^ 5, pow_intD S ⟨by decide, by
    have := bits_le q1.1
    omega⟩, Int.pow_pos q1.2⟩
  obtain ⟨Q, p3⟩ : ∃ Q : Int, powD (.int 10) (.int 18) S = .ok (.int Q) S := ⟨10 ^ 18, pow_intD S ⟨by decide, by decide⟩⟩
  have hmod := fun x => mod_int S (i := x) q2
  have hmul : ∀ (x : Int) (p : Prop) [Decidable p], mulD (.int x) (.int (if p then 1 else 0)) S = .ok (.int (x * (if p then 1 else 0))) S := fun x p _ => mul_int S (.inl (.inr (by split <;> decide)))
  have hsm := fun x => mod_int S (i := x) (j := 2305843009213693951) (by decide)
  have hse := fun x => mod_int S (i := x) (j := 2305843009213693921) (by decide)
  have m73 := mul_int S (i := 97) (j := k) (.inl (.inl (by decide)))
  have m82 := mul_int S (i := 8219) (j := k) (.inl (.inl (by decide)))
  have m8k := mul_int S (i := 8219 * k) (j := k) (.inl (.inr ⟨by omega, by omega⟩))
  have m76 := fun x => mul_int S (i := x) (j := 76327) (.inl (.inr (by decide)))
  have mL : ∀ ds : List D, ds.length ≤ 40 → mkL true ds S = .ok (.hnd S.length) (S ++ [.lst ds]) := fun ds hl => mkL_true S ds (small_line (by omega))
  have fin : ∀ c : Int, ∃ a b : Int, 0 ≤ a ∧ 0 ≤ b ∧ b < 2 ^ 61 ∧ a = (if c < 0 then -c else c) % M * (if Q ≤ (if c < 0 then -c else c) then 1 else 0) ∧ b = (c % 2305843009213693951 * 76327 + 8219 * k * k + 101) % 2305843009213693921 := fun c => by
    refine ⟨_, _, ?_, Int.emod_nonneg _ (by decide), ?_, rfl, rfl⟩
    · refine Int.mul_nonneg (Int.emod_nonneg _ (by omega)) (ite01 _)
    · have := Int.emod_lt_of_pos (c % 2305843009213693951 * 76327 + 8219 * k * k + 101) (b := 2305843009213693921) (by decide)
      omega
  have done : ∀ c a b : Int, 0 ≤ a → 0 ≤ b → b < 2 ^ 61 → Ret (.ok (.hnd S.length) (S ++ [.lst [.int a, .int b, .int 0]])) fun d S' => d = .hnd S.length ∧ ∃ o, S' = S ++ [o] ∧ Pot S' S.length 0 := fun c a b ha hb hb2 =>
    ⟨_, _, rfl, rfl, _, rfl, a, b, 0, by simp, ha, hb, hb2, by decide, by decide⟩
  by_cases hk : k < ns.length
  · obtain ⟨c, hc⟩ := ix_scr (S := S) h0 hk
    obtain ⟨a, b, ha, hb, hb2, ea, eb⟩ := fin c
    have z := done c a b ha hb hb2
    rw [ea, eb] at z
    unfold F_law_pot t_law_pot
    simpa [N_law_pot, hlen, hk, hc, p1, p2, p3, hmod, hmul, hsm, hse, m82, m8k, m76, mL] using z
  · obtain ⟨a, b, ha, hb, hb2, ea, eb⟩ := fin (97 * k + 51)
    have z := done (97 * k + 51) a b ha hb hb2
    rw [ea, eb] at z
    unfold F_law_pot t_law_pot
    simpa [N_law_pot, hlen, hk, m73, p1, p2, p3, hmod, hmul, hsm, hse, m82, m8k, m76, mL] using z
end K12
set_option Elab.async false
set_option linter.all false
set_option maxRecDepth 100000
set_option maxHeartbeats 4000000
namespace Pr
open PySem PySem.Spec PyProof.Rows L2 TL TLX
abbrev lettersS : Str := "abcdefghijklmnopqrstuvwxyz"
def isL (c : Nat) : Bool := decide (c ∈ lettersS.cps.toList)
def vn (x : Str) : Bool := (decide (1 ≤ x.length) && decide (x.length ≤ 8)) && x.cps.toList.all isL
abbrev Tb := List (Str × Int)
def kvD (t : Tb) : List (Key × D) := t.map fun p => (.inr p.1, .int p.2)
def partD (p : Str × Int) : D := .tup [.str p.1, .int p.2]
def partsD (t : Tb) : D := .tup (t.map partD)
def sumF (t : Tb) (n : Int) : List (Str × D) := [("own_parts", partsD t), ("own_number", .int n), ("own_many", .dct (kvD t))]
def sumD (t : Tb) (n : Int) : D := .ins "Sum" (sumF t n)
def ltS (x y : Str) : Bool := decide (x.cps.toList < y.cps.toList)
def asc (l : List Str) : Bool := (l.zip l.tail).all fun p => ltS p.1 p.2
def pOk (p : Str × Int) : Bool := vn p.1 && !decide (p.2 = 0)
def okT (t : Tb) : Bool := t.all pOk && asc (t.map (·.1))
section
variable {ex ow : List Str} {S : List O}
theorem all_bls (bs : List Bool) : allD [.lst (bs.map D.bl)] S = .ok (.bl (bs.all id)) S := by
  unfold allD lstOf
  simp only [Option.bind_some, blsOf_map]
theorem all_map {α : Type} (p : α → Bool) (l : List α) : allD [.lst (l.map fun a => D.bl (p a))] S = .ok (.bl (l.all p)) S := by
  have e : (l.map fun a => D.bl (p a)) = (l.map p).map D.bl := by simp
  rw [e, all_bls]
  simp
theorem is_whole_int (i : Int) : Fis_whole ex ow [.int i] S = .ok (.bl true) S := by
  unfold Fis_whole tis_whole
  simp [Nis_whole]
theorem is_tuple_tup (ds : List D) (a b : Int) : Fis_tuple ex ow [.tup ds, .int a, .int b] S = .ok (.bl (decide (a ≤ ds.length) && decide ((ds.length : Int) ≤ b))) S := by
  unfold Fis_tuple tis_tuple
  simp [Nis_tuple, lenD, seqOf, lstOf, tupOf]
  split
  · simp_all
  · rename_i h
    simp [show ¬ a ≤ ds.length by omega]
theorem len_strD {x : Str} (h : x.length ≤ 4096) : lenD [.str x] S = .ok (.int x.length) S := by
  show (if x.length ≤ sizeLine then _ else _) = _
  rw [if_pos (small_line h)]
theorem is_name_str {x : Str} (h : x.length ≤ 4096) : Fis_name ex ow [.str x] S = .ok (.bl (vn x)) S := by
  have hl := len_strD (S := S) h
  have hs : (TL.signs x).length ≤ sizeLine := by
    unfold TL.signs
    rw [List.length_map]
    exact small_line h
  have hc : compL [1] (gNm 1) tYesD (eBin insgD (eVar 1) (eC (.str lettersS))) (TL.signs x) [] [some (.str x), none] S = .ok (x.cps.toList.map fun c => D.bl (isL c)) S :=
    compL_map (fun c : Nat => D.str ⟨#[c]⟩) (fun c => D.bl (isL c)) x.cps.toList [] (fun c _ => ⟨[some (.str x), some (D.str ⟨#[c]⟩)], by simp [wipeD, gNm], by simp, by simp [insgD, isL]⟩)
  have hm : (x.cps.toList.map fun c => D.bl (isL c)).length ≤ sizeLine := by
    rw [List.length_map]
    exact small_line h
  have hA := all_map (S := S) isL x.cps.toList
  unfold Fis_name tis_name vn
  by_cases h1 : 1 ≤ x.length
  · by_cases h2 : x.length ≤ 8
    · have a1 : (1 : Int) ≤ x.length := by omega
      have a2 : (x.length : Int) ≤ 8 := by omega
      simp [Nis_name, hl, a1, a2, h1, h2, hs, hc, mkL_false _ _ hm, hA]
    · have a1 : (1 : Int) ≤ x.length := by omega
      have a2 : ¬ (x.length : Int) ≤ 8 := by omega
      simp [Nis_name, hl, a1, a2, h1, h2]
  · have a1 : ¬ (1 : Int) ≤ x.length := by omega
    simp [Nis_name, hl, a1, h1]
theorem at0 {α : Type} (a : α) (l : List α) : atI (a :: l) 0 = some a := by
  unfold atI ixN
  simp
theorem at1 {α : Type} (a b : α) (l : List α) : atI (a :: b :: l) 1 = some b := by
  unfold atI ixN
  have h : (1 : Int) < (l.length : Int) + 1 + 1 := by omega
  simp [h]
@[simp] theorem ix_tup0 (a : D) (l : List D) : ixD (.tup (a :: l)) (.int 0) S = .ok a S := ix_tup (at0 a l)
@[simp] theorem ix_tup1 (a b : D) (l : List D) : ixD (.tup (a :: b :: l)) (.int 1) S = .ok b S := ix_tup (at1 a b l)
theorem is_part_ok {p : Str × Int} (h : p.1.length ≤ 4096) : Fis_part ex ow [partD p] S = .ok (.bl (pOk p)) S := by
  unfold Fis_part tis_part partD pOk
  simp [Nis_part, is_tuple_tup, is_name_str h, is_whole_int]
  cases hv : vn p.1 <;> simp [is_whole_int]
theorem lt_strD (x y : Str) : ltD (.str x) (.str y) S = .ok (.bl (ltS x y)) S := rfl
theorem tail_lst {ds : List D} (h : ds.length ≤ 4096) : slD false (.lst ds) (some 1) none S = .ok (.lst ds.tail) S := by
  show mkL false (TL.cutD ds (some 1) none) S = _
  have e : TL.cutD ds (some 1) none = ds.tail := by
    unfold TL.cutD HT.sIx
    cases ds with
    | nil => rfl
    | cons a r => simp [show min 1 (r.length + 1) = 1 by omega]
  rw [e, mkL_false]
  rw [List.length_tail]
  exact small_line (by omega)
theorem do_ascend_strs {l : List Str} (h : l.length ≤ 4096) : Fdo_ascend ex ow [.lst (l.map D.str)] S = .ok (.bl (asc l)) S := by
  have hs := tail_lst (S := S) (ds := l.map D.str) (by rw [List.length_map]; exact h)
  have hz : zipD (l.map D.str) (l.map D.str).tail = (l.zip l.tail).map fun p => D.tup [.str p.1, .str p.2] := by
    unfold zipD
    rw [← List.map_tail, List.zip_map]
    simp
  have hc : compL [1, 2] (gTp 2 (gsCons (gNm 1) (gsCons (gNm 2) gsNil))) tYesD (eBin ltD (eVar 1) (eVar 2)) (zipD (l.map D.str) (l.map D.str).tail) [] [some (.lst (l.map D.str)), none, none] S = .ok ((l.zip l.tail).map fun p => D.bl (ltS p.1 p.2)) S := by
    rw [hz]
    exact compL_map _ (fun p : Str × Str => D.bl (ltS p.1 p.2)) _ [] (fun p _ => ⟨[some (.lst (l.map D.str)), some (.str p.1), some (.str p.2)], by simp [wipeD, gNm], by simp, by simp [lt_strD]⟩)
  have hzl : (zipD (l.map D.str) (l.map D.str).tail).length ≤ sizeLine := by
    rw [hz, List.length_map, List.length_zip]
    exact small_line (by omega)
  have hm : ((l.zip l.tail).map fun p => D.bl (ltS p.1 p.2)).length ≤ sizeLine := by
    rw [List.length_map, List.length_zip]
    exact small_line (by omega)
  have hA := all_map (S := S) (fun p : Str × Str => ltS p.1 p.2) (l.zip l.tail)
  unfold Fdo_ascend tdo_ascend asc
  simp [Ndo_ascend, hs, hc, hzl, mkL_false _ _ hm, hA]
@[simp] theorem it_partsD (t : Tb) : itTp (partsD t) S = .ok (t.map partD) S := rfl
@[simp] theorem itA_partsD (t : Tb) : itAny (partsD t) S = .ok (t.map partD) S := rfl
theorem are_parts_ok {t : Tb} (h : t.length ≤ 4096) (hn : ∀ p ∈ t, p.1.length ≤ 4096) : Fare_parts ex ow [partsD t] S = .ok (.bl (okT t)) S := by
  have c1 : compL [1] (gNm 1) tYesD (eArgs (Fis_part ex ow) (aCons (eVar 1) aNil)) (t.map partD) [] [some (partsD t), none] S = .ok (t.map fun p => D.bl (pOk p)) S :=
    compL_map partD (fun p => D.bl (pOk p)) t [] (fun p hp => ⟨[some (partsD t), some (partD p)], by simp [wipeD, gNm], by simp, by simp [is_part_ok (hn p hp)]⟩)
  have c2 : compL [1] (gNm 1) tYesD (eBin ixD (eVar 1) (eC (.int 0))) (t.map partD) [] [some (partsD t), none] S = .ok (t.map fun p => D.str p.1) S :=
    compL_map partD (fun p => D.str p.1) t [] (fun p hp => ⟨[some (partsD t), some (partD p)], by simp [wipeD, gNm], by simp, by simp [partD]⟩)
  have l1 : (t.map fun p => D.bl (pOk p)).length ≤ sizeLine := by
    rw [List.length_map]
    exact small_line h
  have l2 : (t.map fun p => D.str p.1).length ≤ sizeLine := by
    rw [List.length_map]
    exact small_line h
  have l3 : t.length ≤ sizeLine := small_line h
  have hA := all_map (S := S) pOk t
  have hD := do_ascend_strs (ex := ex) (ow := ow) (S := S) (l := t.map (·.1)) (by rw [List.length_map]; exact h)
  rw [List.map_map] at hD
  have hD : Fdo_ascend ex ow [.lst (t.map fun p => D.str p.1)] S = .ok (.bl (asc (t.map (·.1)))) S := hD
  have hi : isiA ex ow [partsD t, .ty "tuple"] S = .ok (.bl true) S := isi_tup_tuple S _ ex ow
  unfold Fare_parts tare_parts okT
  cases hv : t.all pOk with
  | true =>
    rw [hv] at hA
    simp [Nare_parts, hi, c1, c2, l3, mkL_false _ _ l1, mkL_false _ _ l2, hA, hD]
  | false =>
    rw [hv] at hA
    simp [Nare_parts, hi, c1, c2, l3, mkL_false _ _ l1, mkL_false _ _ l2, hA, hD]
end
def getT : Tb → Str → Option Int
  | [], _ => none
  | (y, i) :: r, x => if y = x then some i else getT r x
def keys (t : Tb) : List Str := t.map (·.1)
end Pr
set_option Elab.async false
set_option linter.all false
set_option maxRecDepth 100000
set_option maxHeartbeats 4000000
namespace Pr
open PySem PySem.Spec PyProof.Rows L2 TL TLX
section
variable {ex ow : List Str} {S : List O}
theorem pairs_parts : ∀ t : Tb, TL.pairsOf (t.map partD) = some (kvD t)
  | [] => rfl
  | p :: t => by
    rw [List.map_cons]
    unfold TL.pairsOf
    simp only [partD, TL.keyOf, Option.bind_some, pairs_parts t, Option.map_some]
    rfl
theorem kv_nodup {t : Tb} (nd : (keys t).Nodup) : ((kvD t).map (·.1)).Nodup := by
  have e : (kvD t).map (·.1) = (keys t).map Sum.inr := by
    unfold kvD keys
    rw [List.map_map, List.map_map]
    rfl
  rw [e]
  exact List.Pairwise.map _ (fun a b h e => h (Sum.inr.inj e)) nd
theorem dict_parts (own : Bool) {t : Tb} (nd : (keys t).Nodup) : dictLD own [.lst (t.map partD)] S = mkD own (kvD t) S := by
  unfold dictLD lstOf
  simp only [Option.bind_some, pairs_parts]
  rw [mergeG_nodup _ [] (fun _ _ => rfl) (kv_nodup nd)]
  rfl
theorem list_parts {t : Tb} (h : t.length ≤ 4096) : listD false [partsD t] S = .ok (.lst (t.map partD)) S := by
  show mkL false (t.map partD) S = _
  rw [mkL_false]
  rw [List.length_map]
  exact small_line h
theorem noh_parts (t : Tb) : noh (partsD t) = true := by
  unfold partsD
  simp only [noh, nohs_all, List.all_map, List.all_eq_true]
  intro p _
  rfl
theorem noh_kv : ∀ t : Tb, nohk (kvD t) = true
  | [] => rfl
  | p :: t => by
    show (noh (.int p.2) && nohk (kvD t)) = true
    rw [noh_kv t]
    rfl
theorem noh_sum (t : Tb) (n : Int) : noh (sumD t n) = true := by
  unfold sumD sumF
  simp only [noh, nohf, noh_parts, noh_kv, Bool.and_self]
structure Ok (t : Tb) : Prop where
  ok : okT t = true
  nd : (keys t).Nodup
  len : t.length ≤ 1000
theorem Ok.vn {t : Tb} (h : Ok t) {p : Str × Int} (hp : p ∈ t) : vn p.1 = true := by
  have := h.ok
  unfold okT at this
  have := List.all_eq_true.mp (Bool.and_eq_true_iff.mp this).1 p hp
  unfold pOk at this
  exact (Bool.and_eq_true_iff.mp this).1
theorem vn_len {x : Str} (h : vn x = true) : x.length ≤ 8 := by
  unfold Pr.vn at h
  simp only [Bool.and_eq_true, decide_eq_true_eq] at h
  exact h.1.2
theorem Ok.small {t : Tb} (h : Ok t) : ∀ p ∈ t, p.1.length ≤ 4096 := fun p hp => by
  have := vn_len (h.vn hp)
  omega
theorem init_sum {t : Tb} (h : Ok t) (n : Int) : FSum___init__ ex ow [.hnd S.length, partsD t, .int n] (S ++ [.ins "Sum" []]) = .ok .non (S ++ [.ins "Sum" (sumF t n)]) := by
  have hl := h.len
  have h1 := are_parts_ok (ex := ex) (ow := ow) (S := S ++ [.ins "Sum" []]) (t := t) (by omega) h.small
  rw [h.ok] at h1
  have h2 := list_parts (S := S ++ [.ins "Sum" [("own_parts", partsD t), ("own_number", .int n)]]) (t := t) (by omega)
  have h3 := dict_parts (S := S ++ [.ins "Sum" [("own_parts", partsD t), ("own_number", .int n)]]) false h.nd
  have s1 : setF ["Sum"] "own_parts" (.hnd S.length) (partsD t) (S ++ [.ins "Sum" []]) = some (S ++ [.ins "Sum" [("own_parts", partsD t)]]) := setF_last S (by decide) (show 0 < 900 by decide)
  have s2 : setF ["Sum"] "own_number" (.hnd S.length) (.int n) (S ++ [.ins "Sum" [("own_parts", partsD t)]]) = some (S ++ [.ins "Sum" [("own_parts", partsD t), ("own_number", .int n)]]) := setF_last S (by decide) (show 1 < 900 by decide)
  have s3 : setF ["Sum"] "own_many" (.hnd S.length) (.dct (kvD t)) (S ++ [.ins "Sum" [("own_parts", partsD t), ("own_number", .int n)]]) = some (S ++ [.ins "Sum" (sumF t n)]) := setF_last S (by decide) (show 2 < 900 by decide)
  unfold FSum___init__ tSum___init__
  simp [NSum___init__, h1, is_whole_int, s1, s2, h2, h3, mkD, s3]
theorem make_sum {t : Tb} (h : Ok t) (n : Int) (fl : Flat S) : (makeD "Sum" [] (FSum___init__ ex ow) [partsD t, .int n] S).cut S.length = .ok (sumD t n) S := by
  have e : makeD "Sum" [] (FSum___init__ ex ow) [partsD t, .int n] S = .ok (.hnd S.length) (S ++ [.ins "Sum" (sumF t n)]) := by
    unfold makeD
    rw [List.append_nil, init_sum h n]
    rfl
  rw [e]
  refine (cut_last fl ?_).trans rfl
  have := noh_sum t n
  unfold sumD at this
  simpa only [noh, nohO] using this
theorem fld_parts (t : Tb) (n : Int) : fldD ["Sum"] "own_parts" (sumD t n) S = .ok (partsD t) S := fld_ins S (by decide) rfl
theorem fld_number (t : Tb) (n : Int) : fldD ["Sum"] "own_number" (sumD t n) S = .ok (.int n) S := fld_ins S (by decide) rfl
def bd : Nat := 2 ^ 60
def Sm (b : Nat) (t : Tb) : Prop := ∀ p ∈ t, p.2.natAbs ≤ b
end
end Pr
set_option Elab.async false
set_option linter.all false
set_option maxRecDepth 100000
set_option maxHeartbeats 4000000
namespace Pr
open PySem PySem.Spec PyProof.Rows L2 TL TLX
section
variable {ex ow : List Str} {S : List O}
theorem add_int {t : Tb} {n i : Int} (ht : Ok t) (fl : Flat S) : FSum___add__ ex ow [sumD t n, .int i] S = .ok (sumD t (n + i)) S := by
  have h := make_sum (ex := ex) (ow := ow) ht (n + i) fl
  unfold FSum___add__ tSum___add__
  simp [NSum___add__, is_whole_int, fld_parts, fld_number, addU, lstOf, addD, h]
theorem sub_int {t : Tb} {n i : Int} (ht : Ok t) (fl : Flat S) : FSum___sub__ ex ow [sumD t n, .int i] S = .ok (sumD t (n - i)) S := by
  have h := make_sum (ex := ex) (ow := ow) ht (n - i) fl
  unfold FSum___sub__ tSum___sub__
  simp [NSum___sub__, is_whole_int, fld_parts, fld_number, h]
def Sh (t : Tb) : Prop := (∀ p ∈ t, vn p.1 = true ∧ p.2.natAbs < 10 ^ 12) ∧ t.length ≤ 1000
structure Vals (v : Tb) : Prop where
  vn : ∀ p ∈ v, Pr.vn p.1 = true
  len : v.length ≤ 1000
end
end Pr
set_option Elab.async false
set_option linter.all false
set_option maxRecDepth 100000
set_option maxHeartbeats 4000000
namespace Pr
open PySem PySem.Spec PyProof.Rows L2 TL TLX
def val (t : Tb) (x : Str) : Int := (getT t x).getD 0
structure In (N : List Str) (l b : Nat) (t : Tb) : Prop where
  ok : Ok t
  mem : ∀ x ∈ keys t, x ∈ N
  len : t.length ≤ l
  sm : Sm b t
theorem In.sh {N : List Str} {l b : Nat} {t : Tb} (h : In N l b t) (hb : b < 10 ^ 12) : Sh t := ⟨fun p hp => ⟨h.ok.vn hp, Nat.lt_of_le_of_lt (h.sm p hp) hb⟩, h.ok.len⟩
theorem In.big {N : List Str} {l b : Nat} {t : Tb} (h : In N l b t) (hb : b ≤ bd) : Sm bd t := fun p hp => Nat.le_trans (h.sm p hp) hb
inductive All2 {α β : Type} (P : α → β → Prop) : List α → List β → Prop where
  | nil : All2 P [] []
  | cons {a : α} {b : β} {as : List α} {bs : List β} (h : P a b) (r : All2 P as bs) : All2 P (a :: as) (b :: bs)
theorem All2.len {α β : Type} {P : α → β → Prop} : ∀ {as : List α} {bs : List β}, All2 P as bs → bs.length = as.length
  | _, _, .nil => rfl
  | _, _, .cons _ r => by rw [List.length_cons, List.length_cons, r.len]
theorem compL_rel {vs : List Nat} {tg : TGx} {tt : TTx} {te : TEx} {ρ : Env1} {P : D → D → Prop} (M : Nat) (I : Nat → List O → Prop) : ∀ (ds acc : List D) (S : List O) (n : Nat), n + ds.length ≤ M → I n S →
    (∀ d ∈ ds, ∀ S n, n < M → I n S → ∃ ρ1 S1 S2 y, tg d (wipeD ρ vs) S = .nx ρ1 S1 ∧ tt ρ1 S1 = .ok true S1 ∧ te ρ1 S1 = .ok y S2 ∧ P d y ∧ I (n + 1) S2) →
    ∃ rs S', compL vs tg tt te ds acc ρ S = .ok (acc ++ rs) S' ∧ All2 P ds rs ∧ I (n + ds.length) S'
  | [], acc, S, n, _, h, _ => ⟨[], S, by simp [compL], .nil, h⟩
  | d :: ds, acc, S, n, hM, h, q => by
    rw [List.length_cons] at hM
    obtain ⟨ρ1, S1, S2, y, h1, h2, h3, h4, h5⟩ := q d List.mem_cons_self S n (by omega) h
    obtain ⟨rs, S', e, f, i⟩ := compL_rel M I ds (acc ++ [y]) S2 (n + 1) (by omega) h5 fun d hd => q d (List.mem_cons_of_mem _ hd)
    have en : n + (d :: ds).length = n + 1 + ds.length := by
      rw [List.length_cons]
      omega
    refine ⟨y :: rs, S', ?_, .cons h4 f, en ▸ i⟩
    unfold compL
    rw [h1]
    simp only [nox_nx, bind_ok, h2, nox_ok, if_true, h3, e]
    simp
end Pr
set_option Elab.async false
set_option linter.all false
set_option maxRecDepth 100000
set_option maxHeartbeats 4000000
namespace Pr
open PySem PySem.Spec PyProof.Rows L2 TL TLX
def nS (m : Int) : Str := Str.ofString (toString (if m < 0 then -m else m))
section
variable {ex ow : List Str} {S : List O}
@[simp] theorem inq_tup (neg : Bool) (x : D) (ds : List D) : inqG neg x (.tup ds) S = if flD x = true ∧ ds.all flD = true then .ok (.bl (if neg then !(ds.any fun a => eqF a x) else ds.any fun a => eqF a x)) S else .stuck := rfl
end
end Pr
set_option Elab.async false
set_option linter.all false
set_option maxRecDepth 100000
set_option maxHeartbeats 0
namespace K12
open PySem PySem.Spec PyProof.Rows L2 TL
theorem pl0_0_1 (a b c : Int) : F_law_plain_right [.int 99991, .int 10007] [.tbl "_law_plain_right", .tbl "_law_parted_right", .lst [.int a, .int b, .int c]] = .ok (.bl true) [.tbl "_law_plain_right", .tbl "_law_parted_right", .lst [.int a, .int b, .int c]] := by kernel_rfl
theorem pa0_0_1 (a b c : Int) : F_law_parted_right [.int 99991, .int 10007] [.tbl "_law_plain_right", .tbl "_law_parted_right", .lst [.int a, .int b, .int c]] = .ok (.bl true) [.tbl "_law_plain_right", .tbl "_law_parted_right", .lst [.int a, .int b, .int c]] := by kernel_rfl
theorem pl0_0_2 (a b c d e f : Int) : F_law_plain_right [.int 99991, .int 10007] [.tbl "_law_plain_right", .tbl "_law_parted_right", .lst [.int a, .int b, .int c], .lst [.int d, .int e, .int f]] = .ok (.bl true) [.tbl "_law_plain_right", .tbl "_law_parted_right", .lst [.int a, .int b, .int c], .lst [.int d, .int e, .int f]] := by kernel_rfl
theorem pa0_0_2 (a b c d e f : Int) : F_law_parted_right [.int 99991, .int 10007] [.tbl "_law_plain_right", .tbl "_law_parted_right", .lst [.int a, .int b, .int c], .lst [.int d, .int e, .int f]] = .ok (.bl true) [.tbl "_law_plain_right", .tbl "_law_parted_right", .lst [.int a, .int b, .int c], .lst [.int d, .int e, .int f]] := by kernel_rfl
theorem pl0_1_1 (a b c : Int) : F_law_plain_right [.int 10007, .int 99991] [.tbl "_law_plain_right", .tbl "_law_parted_right", .lst [.int a, .int b, .int c]] = .ok (.bl true) [.tbl "_law_plain_right", .tbl "_law_parted_right", .lst [.int a, .int b, .int c]] := by kernel_rfl
theorem pa0_1_1 (a b c : Int) : F_law_parted_right [.int 10007, .int 99991] [.tbl "_law_plain_right", .tbl "_law_parted_right", .lst [.int a, .int b, .int c]] = .ok (.bl true) [.tbl "_law_plain_right", .tbl "_law_parted_right", .lst [.int a, .int b, .int c]] := by kernel_rfl
theorem pl0_1_2 (a b c d e f : Int) : F_law_plain_right [.int 10007, .int 99991] [.tbl "_law_plain_right", .tbl "_law_parted_right", .lst [.int a, .int b, .int c], .lst [.int d, .int e, .int f]] = .ok (.bl true) [.tbl "_law_plain_right", .tbl "_law_parted_right", .lst [.int a, .int b, .int c], .lst [.int d, .int e, .int f]] := by kernel_rfl
theorem pa0_1_2 (a b c d e f : Int) : F_law_parted_right [.int 10007, .int 99991] [.tbl "_law_plain_right", .tbl "_law_parted_right", .lst [.int a, .int b, .int c], .lst [.int d, .int e, .int f]] = .ok (.bl true) [.tbl "_law_plain_right", .tbl "_law_parted_right", .lst [.int a, .int b, .int c], .lst [.int d, .int e, .int f]] := by kernel_rfl
end K12
set_option Elab.async false
set_option linter.all false
set_option maxRecDepth 100000
set_option maxHeartbeats 4000000
namespace Pr
open PySem PySem.Spec PyProof.Rows L2 TL TLX
section
variable {ex ow : List Str} {S : List O}
end
end Pr
set_option Elab.async false
set_option linter.all false
set_option maxRecDepth 100000
set_option maxHeartbeats 4000000
namespace Pr
open PySem PySem.Spec PyProof.Rows L2 TL TLX
section
variable {S : List O}
end
end Pr
set_option Elab.async false
set_option linter.all false
set_option maxRecDepth 100000
set_option maxHeartbeats 4000000
namespace Pr
open PySem PySem.Spec PyProof.Rows L2 TL TLX
section
variable {ex ow : List Str} {S : List O}
theorem ne_int (i j : Int) : neD (.int i) (.int j) S = .ok (.bl (!decide (i = j))) S := rfl
theorem eq_int (i j : Int) : eqD (.int i) (.int j) S = .ok (.bl (decide (i = j))) S := rfl
theorem mod_nat {a b : Nat} (h : 0 < b) : modD (.int (a : Nat)) (.int (b : Nat)) S = .ok (.int ((a % b : Nat) : Int)) S :=
  (show (if (0 : Int) < (b : Nat) then Out.ok (D.int ((a : Int) % (b : Int))) S else .stuck) = _ by rw [if_pos (by omega)]; rfl)
abbrev woC : TTx := tBl (eBin eqD (eBin modD (eVar 0) (eVar 1)) (eC (.int 0)))
abbrev woB : TSx := sSet 0 (eBin divD (eVar 0) (eVar 1))
def wo : Nat → Nat → Nat → Option Nat
  | 0, _, _ => none
  | m + 1, n, p => if n % p = 0 then wo m (n / p) p else some n
theorem div_nat {a b : Nat} (h : 0 < b) (hb : b < 2 ^ 64) : divD (.int (a : Nat)) (.int (b : Nat)) S = .ok (.int ((a / b : Nat) : Int)) S := by
  have l : ((b : Nat) : Int).natAbs.log2 < 9000 := by
    have : ((b : Nat) : Int).natAbs = b := by omega
    rw [this]
    have := (Nat.log2_lt (n := b) (k := 64) (by omega)).mpr hb
    omega
  show (if CDivW (a : Int) (b : Int) then Out.ok (D.int ((a : Int) / (b : Int))) S else .stuck) = _
  rw [if_pos ⟨by omega, l⟩]
  rfl
theorem wo_loop {p : Nat} (hp : 0 < p) (hb : p < 2 ^ 64) : ∀ (m n : Nat) {n' : Nat}, wo m n p = some n' → whileL woC woB m [some (.int n), some (.int p)] S = .nx [some (.int n'), some (.int p)] S
  | 0, n, n', h => by cases h
  | m + 1, n, n', h => by
    unfold wo at h
    have e := mod_nat (S := S) (a := n) hp
    have d := div_nat (S := S) (a := n) hp hb
    have q : eqD (.int ((n % p : Nat) : Int)) (.int 0) S = .ok (.bl (decide (n % p = 0))) S := by
      rw [eq_int]
      have : decide (((n % p : Nat) : Int) = 0) = decide (n % p = 0) := decide_eq_decide.mpr (by omega)
      rw [this]
    split at h
    · rename_i hz
      have ih := wo_loop hp hb m (n / p) h
      unfold whileL
      rw [decide_eq_true hz] at q
      generalize ((n % p : Nat) : Int) = y at *
      generalize ((n / p : Nat) : Int) = x at *
      generalize ((n : Nat) : Int) = w at *
      generalize ((p : Nat) : Int) = v at *
      simp [e, q, d]
      exact ih
    · rename_i hz
      cases h
      unfold whileL
      rw [decide_eq_false hz] at q
      generalize ((n % p : Nat) : Int) = y at *
      generalize ((n : Nat) : Int) = w at *
      generalize ((p : Nat) : Int) = v at *
      simp [e, q]
theorem fuI_at {k n : Nat} {ρ : Env1} (h : ρ[k]? = some (some (.int (n : Nat)))) : fuI k ρ S = n + 2 := by
  unfold fuI
  rw [h]
  show ((n : Nat) : Int).natAbs + 2 = _
  omega
theorem without_ok {n p n' : Nat} (hp : 0 < p) (hb : p < 2 ^ 64) (h : wo (n + 2) n p = some n') : Fwithout ex ow [.int n, .int p] S = .ok (.int n') S := by
  unfold Fwithout twithout
  have l := wo_loop (S := S) hp hb (n + 2) n h
  have f : (fuI 0) [some (.int n), some (.int p)] S = n + 2 := fuI_at rfl
  simp [Nwithout, sWhile, f]
  rw [l]
  rfl
abbrev paC : TTx := tAndT (tBl (eBin leD (eVar 2) (eC (.int 31623)))) (tBl (eBin leD (eBin mulD (eVar 2) (eVar 2)) (eVar 0)))
abbrev paB (ex ow : List Str) : TSx := (sSeq (sIf (tBl (eBin eqD (eBin modD (eVar 0) (eVar 2)) (eC (.int 0)))) (sSeq (sExpr (eLm appD (eVar 1) (eVar 2)))
    (sSet 0 (eArgs (Fwithout ex ow) (aCons (eVar 0) (aCons (eVar 2) aNil))))) sNext)
    (sSet 2 (eIf (tBl (eBin eqD (eVar 2) (eC (.int 2)))) (eBin addD (eVar 2) (eC (.int 1))) (eBin addD (eVar 2) (eC (.int 2))))))
def nxP (p : Nat) : Nat := if p = 2 then p + 1 else p + 2
def pa : Nat → Nat → Nat → List Nat → Option (Nat × Nat × List Nat)
  | 0, _, _, _ => none
  | m + 1, n, p, acc => if p ≤ 31623 ∧ p * p ≤ n then (if n % p = 0 then (if acc.length < 64 then (match wo (n + 2) n p with
      | some n' => pa m n' (nxP p) (acc ++ [p])
      | none => none) else none) else pa m n (nxP p) acc) else some (n, p, acc)
abbrev natsD (l : List Nat) : List D := l.map fun n => D.int (n : Nat)
theorem pa_cond {n p : Int} {Z : List O} {x : D} (mk : p ≤ 31623 → mulD (.int p) (.int p) Z = .ok (.int (p * p)) Z) : paC [some (.int n), some x, some (.int p)] Z = .ok (decide (p ≤ 31623) && decide (p * p ≤ n)) Z := by
  have e1 : leD (.int p) (.int 31623) Z = .ok (.bl (decide (p ≤ 31623))) Z := rfl
  have e2 : leD (.int (p * p)) (.int n) Z = .ok (.bl (decide (p * p ≤ n))) Z := rfl
  by_cases h : p ≤ 31623
  · have mk := mk h
    simp [h, e1, e2, mk]
  · simp [h, e1]
theorem pa_miss {n p r : Int} {Z : List O} {x : D} (hm : modD (.int n) (.int p) Z = .ok (.int r) Z) (hr : ¬ r = 0) : paB ex ow [some (.int n), some x, some (.int p)] Z = .nx [some (.int n), some x, some (.int (if p = 2 then p + 1 else p + 2))] Z := by
  have e1 : eqD (.int r) (.int 0) Z = .ok (.bl false) Z := by rw [eq_int, decide_eq_false hr]
  have e2 : eqD (.int p) (.int 2) Z = .ok (.bl (decide (p = 2))) Z := rfl
  by_cases h : p = 2
  · subst h
    simp [hm, e1, e2, addD]
  · simp [hm, e1, e2, h, addD]
theorem pa_hit {n p n' : Int} {Z Z1 : List O} {ds : List D} {h : Nat} (hm : modD (.int n) (.int p) Z = .ok (.int 0) Z) (hz : Z[h]? = some (.lst ds)) (ha : appD h ds (.int p) Z = .ok .non Z1) (hw : Fwithout ex ow [.int n, .int p] Z1 = .ok (.int n') Z1) :
    paB ex ow [some (.int n), some (.hnd h), some (.int p)] Z = .nx [some (.int n'), some (.hnd h), some (.int (if p = 2 then p + 1 else p + 2))] Z1 := by
  have e1 : eqD (.int 0) (.int 0) Z = .ok (.bl true) Z := rfl
  have e2 : eqD (.int p) (.int 2) Z1 = .ok (.bl (decide (p = 2))) Z1 := rfl
  by_cases q : p = 2
  · subst q
    simp [hm, e1, e2, eLm, hz, ha, hw, addD]
  · simp [hm, e1, e2, q, eLm, hz, ha, hw, addD]
theorem mul_small {i j : Int} (h1 : 0 ≤ i) (h2 : i ≤ 100000000000) : mulD (.int i) (.int j) S = .ok (.int (i * j)) S := by
  show (if CMul i j ∨ CMulW i j then Out.ok (D.int (i * j)) S else .stuck) = _
  rw [if_pos (.inl (.inl ⟨by omega, by omega⟩))]
theorem pa_loop : ∀ (m n p : Nat) (acc : List Nat) {n' p' : Nat} {acc' : List Nat}, 0 < p → pa m n p acc = some (n', p', acc') →
    whileL paC (paB ex ow) m [some (.int n), some (.hnd S.length), some (.int p)] (S ++ [.lst (natsD acc)]) = .nx [some (.int n'), some (.hnd S.length), some (.int p')] (S ++ [.lst (natsD acc')])
  | 0, n, p, acc, n', p', acc', hp, h => by cases h
  | m + 1, n, p, acc, n', p', acc', hp, h => by
    have Zl : (S ++ [O.lst (natsD acc)])[S.length]? = some (O.lst (natsD acc)) := by simp
    have nx : (if (p : Int) = 2 then (p : Int) + 1 else (p : Int) + 2) = ((nxP p : Nat) : Int) := by
      unfold nxP
      by_cases q : p = 2
      · rw [if_pos (by omega), if_pos q]
        omega
      · rw [if_neg (by omega), if_neg q]
        omega
    have hx : 0 < nxP p := by
      unfold nxP
      split <;> omega
    have pp : (p : Int) * (p : Int) = ((p * p : Nat) : Int) := by rw [Int.natCast_mul]
    have mk : (p : Int) ≤ 31623 → mulD (.int p) (.int p) (S ++ [O.lst (natsD acc)]) = .ok (.int ((p : Int) * (p : Int))) (S ++ [O.lst (natsD acc)]) := fun q => mul_small (by omega) (by omega)
    have cd := pa_cond (n := (n : Int)) (x := .hnd S.length) mk
    unfold pa at h
    unfold whileL
    rw [cd, pp]
    by_cases hc : p ≤ 31623 ∧ p * p ≤ n
    · rw [if_pos hc] at h
      rw [decide_eq_true (by omega), decide_eq_true (by omega)]
      have hm := mod_nat (S := S ++ [O.lst (natsD acc)]) (a := n) hp
      by_cases hz : n % p = 0
      · rw [if_pos hz] at h
        rw [hz] at hm
        by_cases hl : acc.length < 64
        · rw [if_pos hl] at h
          cases hw : wo (n + 2) n p with
          | none =>
            rw [hw] at h
            cases h
          | some q =>
            rw [hw] at h
            have ih := pa_loop m q (nxP p) (acc ++ [p]) hx h
            have ha : appD S.length (natsD acc) (.int p) (S ++ [O.lst (natsD acc)]) = .ok .non (S ++ [O.lst (natsD (acc ++ [p]))]) := by
              unfold appD
              rw [if_pos (by have := sizeLine_eq; simp [natsD]; omega)]
              simp [natsD]
            have b := pa_hit (ex := ex) (ow := ow) hm Zl ha (without_ok hp (by omega) hw)
            rw [nx] at b
            show (OutS.turn _ _) = _
            rw [b]
            exact ih
        · rw [if_neg hl] at h
          cases h
      · rw [if_neg hz] at h
        have ih := pa_loop m n (nxP p) acc hx h
        have b := pa_miss (ex := ex) (ow := ow) (x := .hnd S.length) hm (by omega)
        rw [nx] at b
        show (OutS.turn _ _) = _
        rw [b]
        exact ih
    · rw [if_neg hc] at h
      cases h
      have : (decide ((p : Int) ≤ 31623) && decide (((p * p : Nat) : Int) ≤ (n : Int))) = false := by
        by_cases q : p ≤ 31623
        · rw [decide_eq_false (p := ((p * p : Nat) : Int) ≤ (n : Int)) (by omega), Bool.and_false]
        · rw [decide_eq_false (by omega), Bool.false_and]
      rw [this]
      rfl
theorem nohs_nats : ∀ l : List Nat, nohs (natsD l) = true
  | [] => rfl
  | _ :: l => by
    show (noh (.int _) && nohs (natsD l)) = true
    rw [nohs_nats l]
    rfl
theorem cut_pair {ds : List D} {k : Int} (h : Flat S) (hd : nohs ds = true) : (Out.ok (.tup [.hnd S.length, .int k]) (S ++ [.lst ds])).cut S.length = .ok (.tup [.lst ds, .int k]) S := by
  show Out.ok (dfz _ _ _) (sfz _ _) = _
  rw [sfz_flat h]
  have e : (S ++ [O.lst ds])[S.length]? = some (O.lst ds) := by simp
  have hn : hfz S.length (S ++ [O.lst ds]) fzd S.length = .lst ds := by
    unfold fzd
    exact hfz_new (Nat.le_refl _) e (by simp only [nohO, hd])
  unfold dfz
  rw [if_neg (by simp)]
  simp only [D.sub, D.subs, hn]
def paP (n : Nat) : Option (List Nat × Nat) := match pa (n + 2) n 2 [] with
  | some (n', _, acc) => if 1 < n' ∧ n' ≤ 1000000000 then (if acc.length < 64 then some (acc ++ [n'], 1) else none) else some (acc, n')
  | none => none
theorem parted_ok {n k : Nat} {l : List Nat} (fl : Flat S) (h : paP n = some (l, k)) : Fparted ex ow [.int n] S = .ok (.tup [.lst (natsD l), .int k]) S := by
  unfold paP at h
  split at h
  · rename_i n' p' acc e
    have lp := pa_loop (ex := ex) (ow := ow) (S := S) (n + 2) n 2 [] (by omega) e
    have f : (fuI 0) [some (.int n), some (.hnd S.length), some (.int 2)] (S ++ [.lst []]) = n + 2 := fuI_at rfl
    have m0 : mkL true [] S = .ok (.hnd S.length) (S ++ [.lst []]) := rfl
    have e1 : ∀ Z, ltD (.int 1) (.int (n' : Nat)) Z = .ok (.bl (decide ((1 : Int) < n'))) Z := fun Z => rfl
    have e2 : ∀ Z, leD (.int (n' : Nat)) (.int 1000000000) Z = .ok (.bl (decide ((n' : Int) ≤ 1000000000))) Z := fun Z => rfl
    have mt : ∀ (j : Int) (Z : List O), mkT [.hnd S.length, .int j] Z = .ok (.tup [.hnd S.length, .int j]) Z := fun j Z => rfl
    have b1 : decide ((1 : Int) < n') = decide (1 < n') := decide_eq_decide.mpr (by omega)
    have b2 : decide ((n' : Int) ≤ 1000000000) = decide (n' ≤ 1000000000) := decide_eq_decide.mpr (by omega)
    rw [b1] at e1
    rw [b2] at e2
    have l0 : natsD [] = [] := rfl
    rw [l0, show ((2 : Nat) : Int) = 2 from rfl] at lp
    by_cases hc : 1 < n' ∧ n' ≤ 1000000000
    · rw [if_pos hc] at h
      by_cases hl : acc.length < 64
      · rw [if_pos hl] at h
        cases h
        have Zl : (S ++ [O.lst (natsD acc)])[S.length]? = some (O.lst (natsD acc)) := by simp
        have ha : appD S.length (natsD acc) (.int n') (S ++ [O.lst (natsD acc)]) = .ok .non (S ++ [O.lst (natsD (acc ++ [n']))]) := by
          unfold appD
          rw [if_pos (by have := sizeLine_eq; simp [natsD]; omega)]
          simp [natsD]
        have ct := cut_pair (k := 1) fl (nohs_nats (acc ++ [n']))
        generalize natsD (acc ++ [n']) = ds2 at *
        generalize natsD acc = ds at *
        rw [decide_eq_true hc.1] at e1
        rw [decide_eq_true hc.2] at e2
        generalize ((n' : Nat) : Int) = x at *
        generalize ((n : Nat) : Int) = y at *
        have hb : bodyF 1 Nparted (tparted ex ow) [.int y] S = .ok (.tup [.hnd S.length, .int 1]) (S ++ [.lst ds2]) := by
          unfold tparted
          simp [Nparted, m0, sWhile, f]
          rw [lp]
          simp [e1, e2, eLm, Zl, ha, mt]
        show Out.cut S.length (bodyF 1 Nparted (tparted ex ow) [.int y] S) = _
        rw [hb]
        exact ct
      · rw [if_neg hl] at h
        cases h
    · rw [if_neg hc] at h
      cases h
      have ct := cut_pair (k := (k : Nat)) fl (nohs_nats l)
      generalize natsD l = ds at *
      generalize ((n : Nat) : Int) = y at *
      have hb : bodyF 1 Nparted (tparted ex ow) [.int y] S = .ok (.tup [.hnd S.length, .int (k : Nat)]) (S ++ [.lst ds]) := by
        unfold tparted
        simp [Nparted, m0, sWhile, f]
        rw [lp]
        by_cases q : 1 < k
        · rw [decide_eq_true q] at e1
          rw [decide_eq_false (by omega)] at e2
          generalize ((k : Nat) : Int) = x at *
          simp [e1, e2, mt]
        · rw [decide_eq_false q] at e1
          generalize ((k : Nat) : Int) = x at *
          simp [e1, mt]
      show Out.cut S.length (bodyF 1 Nparted (tparted ex ow) [.int y] S) = _
      rw [hb]
      exact ct
  · cases h
end
end Pr
set_option Elab.async false
set_option linter.all false
set_option maxRecDepth 100000
set_option maxHeartbeats 4000000
namespace Pq
open PySem PySem.Spec PyProof.Rows L2 TL Pr K12
def flB (S : List O) : Bool := S.all fun o => nohO o || hdO S.length o
theorem flB_ok {S : List O} (h : flB S = true) : Flat S := fun o ho => by
  have := List.all_eq_true.mp h o ho
  simpa using this
theorem paN : paP 999634589 = some ([31607, 31627], 1) := by decide +kernel
def Fparted (ex ow : List Str) : TF := fun ds S => match ds with
  | [.int n] => if n = 999634589 then (if flB S = true then .ok (.tup [.lst [.int 31607, .int 31627], .int 1]) S else Pr.Fparted ex ow [.int n] S) else Pr.Fparted ex ow [.int n] S
  | ds => Pr.Fparted ex ow ds S
theorem e_Fparted (ex ow : List Str) : Pr.Fparted ex ow = Pq.Fparted ex ow := by
  funext ds S
  unfold Pq.Fparted
  split
  · rename_i n
    split
    · rename_i hn
      subst hn
      split
      · rename_i hf
        exact parted_ok (n := 999634589) (flB_ok hf) paN
      · rfl
    · rfl
  · rfl
def tbases (ex ow : List Str) : TSx := (sSeq (sCut (sSeq (sSet 1 (eLc false [6] (iAny (eVar 0)) (gNm 6) tYesD (eArgs (Fparted ex ow) (aCons (eVar 6) aNil))))
    (sSeq (sSet 2 (eArgs (mkL true) aNil))
    (sFor (iLst (eVar 1)) (gTp 2 (gsCons (gNm 3) (gsCons (gNm 4) gsNil))) (sExpr (eLm extD (eVar 2) (eVar 3)))))))
    (sSeq (sSet 5 (eArgs (Frefined ex ow) (aCons (eArgs (mkL false) (aStar (eLc false [3, 4] (iLst (eVar 1)) (gTp 2 (gsCons (gNm 3) (gsCons (gNm 4) gsNil))) tYesD (eVar 4)) (aStar (eLc false [7] (iLst (eVar 2)) (gNm 7) (tBl (eBin gtD (eVar 7) (eC (.int 31623)))) (eVar 7)) aNil))) aNil)))
    (sRet (eArgs (sortSetI false) (aCons (eLc false [8] (iLst (eBin (catD false) (eLc false [7] (iLst (eVar 2)) (gNm 7) (tBl (eBin leD (eVar 7) (eC (.int 31623)))) (eVar 7)) (eVar 5))) (gNm 8) tYesD (eArgs intD (aCons (eVar 8) aNil))) aNil)))))
theorem e_tbases (ex ow : List Str) : Pr.tbases ex ow = Pq.tbases ex ow := by
  unfold Pr.tbases Pq.tbases
  simp only [e_Fparted]
def Fbases (ex ow : List Str) : TF := cutF (bodyF 1 Nbases (tbases ex ow))
theorem e_Fbases (ex ow : List Str) : Pr.Fbases ex ow = Pq.Fbases ex ow := by
  unfold Pr.Fbases Pq.Fbases
  simp only [e_tbases]
def tDials___init__ (ex ow : List Str) : TSx := (sSeq (sIf (tNotT (tTru (eArgs (Fis_integer ex ow) (aCons (eVar 1) (aCons (eC (.int 1)) (aCons (eC (.int 1000000000)) aNil)))))) (sRaise "BadWhole" (eVar 1)) sNext)
    (sSeq (sIf (tNotT (tTru (eArgs (Fare_divisors ex ow) (aCons (eVar 1) (aCons (eVar 2) aNil))))) (sRaise "BadShares" (eVar 2)) sNext)
    (sSeq (sIf (tNotT (tTru (eArgs (Fare_others ex ow) (aCons (eVar 3) aNil)))) (sRaise "BadOthers" (eVar 3)) sNext)
    (sFldD ["Dials"] "own_raw" (eArgs (Fleast_raw ex ow) (aCons (eVar 1) (aCons (eVar 2) (aCons (eVar 3) (aCons (eArgs (Fbases ex ow) (aCons (eArgs (mkL false) (aCons (eVar 1) aNil)) aNil)) aNil))))) (eVar 0)))))
theorem e_tDials___init__ (ex ow : List Str) : Pr.tDials___init__ ex ow = Pq.tDials___init__ ex ow := by
  unfold Pr.tDials___init__ Pq.tDials___init__
  simp only [e_Fbases]
def FDials___init__ (ex ow : List Str) : TF := bodyF 4 NDials___init__ (tDials___init__ ex ow)
theorem e_FDials___init__ (ex ow : List Str) : Pr.FDials___init__ ex ow = Pq.FDials___init__ ex ow := by
  unfold Pr.FDials___init__ Pq.FDials___init__
  simp only [e_tDials___init__]
def tsigned_parts (ex ow : List Str) : TSx := (sSeq (sSet 1 (eArgs (mkL false) (aCons (eArgs mkT (aCons (eC (.int 1)) (aCons (eC (.int 1)) aNil))) aNil)))
    (sSeq (sFor (iLst (eArgs (Fbases ex ow) (aCons (eArgs (mkL false) (aCons (eVar 0) aNil)) aNil))) (gNm 2) (sSet 1 (eBin (catD false) (eVar 1) (eLc false [3, 4] (iLst (eVar 1)) (gTp 2 (gsCons (gNm 3) (gsCons (gNm 4) gsNil))) tYesD (eArgs mkT (aCons (eBin mulD (eVar 3) (eVar 2)) (aCons (eUn negD (eVar 4)) aNil)))))))
    (sRet (eVar 1))))
def Fsigned_parts (ex ow : List Str) : TF := bodyF 1 Nsigned_parts (tsigned_parts ex ow)
def tmany_prime_to (ex ow : List Str) : TSx := (sRet (eArgs sumD (aCons (eLc false [2, 3] (iLst (eArgs (Fsigned_parts ex ow) (aCons (eVar 0) aNil))) (gTp 2 (gsCons (gNm 2) (gsCons (gNm 3) gsNil))) tYesD (eBin mulD (eVar 3) (eBin divD (eVar 1) (eVar 2)))) aNil)))
def tdivisors (ex ow : List Str) : TSx := (sRet (eArgs (Fdivisors_by ex ow) (aCons (eVar 0) (aCons (eArgs (Fbases ex ow) (aCons (eArgs (mkL false) (aCons (eVar 0) aNil)) aNil)) aNil))))
theorem e_tdivisors (ex ow : List Str) : Pr.tdivisors ex ow = Pq.tdivisors ex ow := by
  unfold Pr.tdivisors Pq.tdivisors
  simp only [e_Fbases]
def Fdivisors (ex ow : List Str) : TF := bodyF 1 Ndivisors (tdivisors ex ow)
theorem e_Fdivisors (ex ow : List Str) : Pr.Fdivisors ex ow = Pq.Fdivisors ex ow := by
  unfold Pr.Fdivisors Pq.Fdivisors
  simp only [e_tdivisors]
def ttold_raw (ex ow : List Str) : TSx := (sSeq (sIf (tTru (eArgs (Fis_great ex ow) (aCons (eVar 0) aNil))) (sRaise "TooGreat" (eC (.int 1000000000))) sNext)
    (sRet (eCut (eArgs (makeD "Dials" [] (FDials___init__ ex ow)) (aCons (eUn (fldD ["Raw"] "own_whole") (eVar 0)) (aCons (eArgs tupleD (aCons (eArgs (sortSetDI false) (aCons (eUn (fldD ["Raw"] "own_shares") (eVar 0)) aNil)) aNil)) (aCons (eArgs tupleD (aCons (eArgs (sortSetDI false) (aCons (eUn (fldD ["Raw"] "own_others") (eVar 0)) aNil)) aNil)) aNil)))))))
theorem e_ttold_raw (ex ow : List Str) : Pr.ttold_raw ex ow = Pq.ttold_raw ex ow := by
  unfold Pr.ttold_raw Pq.ttold_raw
  simp only [e_FDials___init__]
def Ftold_raw (ex ow : List Str) : TF := bodyF 1 Ntold_raw (ttold_raw ex ow)
theorem e_Ftold_raw (ex ow : List Str) : Pr.Ftold_raw ex ow = Pq.Ftold_raw ex ow := by
  unfold Pr.Ftold_raw Pq.Ftold_raw
  simp only [e_ttold_raw]
def tDials___or__ (ex ow : List Str) : TSx := (sSeq (sIf (tNotT (tTru (eArgs (isiA ex ow) (aCons (eVar 1) (aCons (eC (.cls "Dials")) aNil))))) sNever sNext)
    (sRet (eArgs (Ftold_raw ex ow) (aCons (eArgs (Fput_together ex ow) (aCons (eC (.str "or")) (aCons (eUn (fldD ["Dials"] "own_raw") (eVar 0)) (aCons (eUn (fldD ["Dials"] "own_raw") (eVar 1)) aNil)))) aNil))))
theorem e_tDials___or__ (ex ow : List Str) : Pr.tDials___or__ ex ow = Pq.tDials___or__ ex ow := by
  unfold Pr.tDials___or__ Pq.tDials___or__
  simp only [e_Ftold_raw]
def FDials___or__ (ex ow : List Str) : TF := bodyF 2 NDials___or__ (tDials___or__ ex ow)
theorem e_FDials___or__ (ex ow : List Str) : Pr.FDials___or__ ex ow = Pq.FDials___or__ ex ow := by
  unfold Pr.FDials___or__ Pq.FDials___or__
  simp only [e_tDials___or__]
def tDials___and__ (ex ow : List Str) : TSx := (sSeq (sIf (tNotT (tTru (eArgs (isiA ex ow) (aCons (eVar 1) (aCons (eC (.cls "Dials")) aNil))))) sNever sNext)
    (sRet (eArgs (Ftold_raw ex ow) (aCons (eArgs (Fput_together ex ow) (aCons (eC (.str "and")) (aCons (eUn (fldD ["Dials"] "own_raw") (eVar 0)) (aCons (eUn (fldD ["Dials"] "own_raw") (eVar 1)) aNil)))) aNil))))
theorem e_tDials___and__ (ex ow : List Str) : Pr.tDials___and__ ex ow = Pq.tDials___and__ ex ow := by
  unfold Pr.tDials___and__ Pq.tDials___and__
  simp only [e_Ftold_raw]
def FDials___and__ (ex ow : List Str) : TF := bodyF 2 NDials___and__ (tDials___and__ ex ow)
theorem e_FDials___and__ (ex ow : List Str) : Pr.FDials___and__ ex ow = Pq.FDials___and__ ex ow := by
  unfold Pr.FDials___and__ Pq.FDials___and__
  simp only [e_tDials___and__]
def tDials___sub__ (ex ow : List Str) : TSx := (sSeq (sIf (tNotT (tTru (eArgs (isiA ex ow) (aCons (eVar 1) (aCons (eC (.cls "Dials")) aNil))))) sNever sNext)
    (sRet (eArgs (Ftold_raw ex ow) (aCons (eArgs (Fput_together ex ow) (aCons (eC (.str "less")) (aCons (eUn (fldD ["Dials"] "own_raw") (eVar 0)) (aCons (eUn (fldD ["Dials"] "own_raw") (eVar 1)) aNil)))) aNil))))
theorem e_tDials___sub__ (ex ow : List Str) : Pr.tDials___sub__ ex ow = Pq.tDials___sub__ ex ow := by
  unfold Pr.tDials___sub__ Pq.tDials___sub__
  simp only [e_Ftold_raw]
def FDials___sub__ (ex ow : List Str) : TF := bodyF 2 NDials___sub__ (tDials___sub__ ex ow)
theorem e_FDials___sub__ (ex ow : List Str) : Pr.FDials___sub__ ex ow = Pq.FDials___sub__ ex ow := by
  unfold Pr.FDials___sub__ Pq.FDials___sub__
  simp only [e_tDials___sub__]
def tDials___xor__ (ex ow : List Str) : TSx := (sSeq (sIf (tNotT (tTru (eArgs (isiA ex ow) (aCons (eVar 1) (aCons (eC (.cls "Dials")) aNil))))) sNever sNext)
    (sRet (eArgs (Ftold_raw ex ow) (aCons (eArgs (Fput_together ex ow) (aCons (eC (.str "just")) (aCons (eUn (fldD ["Dials"] "own_raw") (eVar 0)) (aCons (eUn (fldD ["Dials"] "own_raw") (eVar 1)) aNil)))) aNil))))
theorem e_tDials___xor__ (ex ow : List Str) : Pr.tDials___xor__ ex ow = Pq.tDials___xor__ ex ow := by
  unfold Pr.tDials___xor__ Pq.tDials___xor__
  simp only [e_Ftold_raw]
def FDials___xor__ (ex ow : List Str) : TF := bodyF 2 NDials___xor__ (tDials___xor__ ex ow)
theorem e_FDials___xor__ (ex ow : List Str) : Pr.FDials___xor__ ex ow = Pq.FDials___xor__ ex ow := by
  unfold Pr.FDials___xor__ Pq.FDials___xor__
  simp only [e_tDials___xor__]
def tDials___invert__ (ex ow : List Str) : TSx := (sSeq (sSet 1 (eUn (fldD ["Raw"] "own_shares") (eUn (fldD ["Dials"] "own_raw") (eVar 0))))
    (sRet (eCut (eArgs (makeD "Dials" [] (FDials___init__ ex ow)) (aCons (eUn (propD "Dials" (FDials_whole ex ow)) (eVar 0)) (aCons (eArgs tupleD (aCons (eLc false [2] (iLst (eArgs (Fdivisors ex ow) (aCons (eUn (propD "Dials" (FDials_whole ex ow)) (eVar 0)) aNil))) (gNm 2) (tBl (eBin ndinD (eVar 2) (eVar 1))) (eVar 2)) aNil)) (aCons (eUn (propD "Dials" (FDials_others ex ow)) (eVar 0)) aNil)))))))
theorem e_tDials___invert__ (ex ow : List Str) : Pr.tDials___invert__ ex ow = Pq.tDials___invert__ ex ow := by
  unfold Pr.tDials___invert__ Pq.tDials___invert__
  simp only [e_FDials___init__, e_Fdivisors]
def FDials___invert__ (ex ow : List Str) : TF := bodyF 1 NDials___invert__ (tDials___invert__ ex ow)
theorem e_FDials___invert__ (ex ow : List Str) : Pr.FDials___invert__ ex ow = Pq.FDials___invert__ ex ow := by
  unfold Pr.FDials___invert__ Pq.FDials___invert__
  simp only [e_tDials___invert__]
def t_law_plain_right : TSx := (sSeq (sAsg (eArgs mkT (aCons (eCut (eArgs (makeD "Dials" [.tup []] (FDials___init__ ex ow)) (aCons (eVar 0) (aCons (eArgs mkT (aCons (eVar 0) aNil)) aNil)))) (aCons (eCut (eArgs (makeD "Dials" [.tup []] (FDials___init__ ex ow)) (aCons (eVar 1) (aCons (eArgs mkT (aCons (eVar 1) aNil)) aNil)))) (aCons (eBin gtD (eBin mulD (eVar 0) (eVar 1)) (eBin powD (eC (.int 10)) (eC (.int 9)))) aNil)))) (gTp 3 (gsCons (gNm 2) (gsCons (gNm 3) (gsCons (gNm 4) gsNil)))))
    (sLooksT ex 0 "_law_plain_right" [(eBin (own2 "Dials" (FDials___or__ ex ow)) (eVar 2) (eVar 3)), (eBin (own2 "Dials" (FDials___and__ ex ow)) (eVar 2) (eVar 3)), (eBin (own2 "Dials" (FDials___sub__ ex ow)) (eVar 2) (eVar 3)), (eBin (own2 "Dials" (FDials___xor__ ex ow)) (eVar 2) (eVar 3))] 4 5 7 t_law_is_due (sRet (eC (.bl false)))
    (sSeq (sIf (tOrT (tBl (eBin (own2 "Dials" (FDials___le__ ex ow)) (eVar 2) (eVar 3))) (tOrT (tBl (eBin (own2 "Dials" (FDials___le__ ex ow)) (eVar 3) (eVar 2))) (tOrT (tNotT (tBl (eBin (own2 "Dials" (FDials___le__ ex ow)) (eVar 2) (eUn (own1 "Dials" (FDials___invert__ ex ow)) (eUn (own1 "Dials" (FDials___invert__ ex ow)) (eVar 2)))))) (tBl (eBin neD (eUn (propD "Dials" (FDials_shares ex ow)) (eUn (own1 "Dials" (FDials___invert__ ex ow)) (eVar 2))) (eArgs mkT (aCons (eC (.int 1)) aNil))))))) (sRet (eC (.bl false))) sNext)
    (sSeq (sIf (tTru (eVar 4)) (sRet (eC (.bl true))) sNext)
    (sSeq (sSet 6 (eBin (own2 "Dials" (FDials___and__ ex ow)) (eVar 2) (eVar 3)))
    (sRet (eAnd (eBin eqD (eUn (propD "Dials" (FDials_whole ex ow)) (eVar 6)) (eBin mulD (eVar 0) (eVar 1))) (eAnd (eBin eqD (eUn (propD "Dials" (FDials_shares ex ow)) (eVar 6)) (eArgs mkT (aCons (eBin mulD (eVar 0) (eVar 1)) aNil))) (eBin eqD (eMeth "Dials" "after" (FDials_after ex ow) (eVar 6) (aCons (eC (.int 1)) aNil)) (eBin mulD (eVar 0) (eVar 1)))))))))))
theorem e_t_law_plain_right : K12.t_law_plain_right = Pq.t_law_plain_right := by
  unfold K12.t_law_plain_right Pq.t_law_plain_right
  simp only [e_FDials___and__, e_FDials___init__, e_FDials___invert__, e_FDials___or__, e_FDials___sub__, e_FDials___xor__]
def F_law_plain_right : TF := cutF (bodyF 2 N_law_plain_right t_law_plain_right)
theorem e_F_law_plain_right : K12.F_law_plain_right = Pq.F_law_plain_right := by
  unfold K12.F_law_plain_right Pq.F_law_plain_right
  simp only [e_t_law_plain_right]
def t_law_parted_right : TSx := (sSeq (sAsg (eArgs mkT (aCons (eCut (eArgs (makeD "Dials" [.tup []] (FDials___init__ ex ow)) (aCons (eBin mulD (eC (.int 2)) (eVar 0)) (aCons (eArgs mkT (aCons (eBin mulD (eC (.int 2)) (eVar 0)) aNil)) aNil)))) (aCons (eCut (eArgs (makeD "Dials" [.tup []] (FDials___init__ ex ow)) (aCons (eBin mulD (eC (.int 2)) (eVar 1)) (aCons (eArgs mkT (aCons (eVar 1) aNil)) aNil)))) aNil))) (gTp 2 (gsCons (gNm 2) (gsCons (gNm 3) gsNil))))
    (sSeq (sSet 4 (eBin gtD (eBin mulD (eBin mulD (eC (.int 2)) (eVar 0)) (eVar 1)) (eBin powD (eC (.int 10)) (eC (.int 9)))))
    (sSeq (sIf (tNotT (tTru (eDue ex 1 "_law_parted_right" (eBin (own2 "Dials" (FDials___or__ ex ow)) (eVar 2) (eVar 3)) 4 t_law_is_due))) (sRet (eC (.bl false))) sNext)
    (sSeq (sIf (tNotT (tTru (eDue ex 1 "_law_parted_right" (eBin (own2 "Dials" (FDials___xor__ ex ow)) (eVar 2) (eVar 3)) 4 t_law_is_due))) (sRet (eC (.bl false))) sNext)
    (sSeq (sIf (tOrT (tBl (eBin neD (eUn (propD "Dials" (FDials_text ex ow)) (eBin (own2 "Dials" (FDials___and__ ex ow)) (eVar 2) (eVar 3))) (eC (.str "1 : - : -")))) (tOrT (tBl (eBin (ownNe "Dials" (FDials___eq__ ex ow) neD) (eBin (own2 "Dials" (FDials___sub__ ex ow)) (eVar 2) (eVar 3)) (eVar 2))) (tBl (eBin (ownNe "Dials" (FDials___eq__ ex ow) neD) (eBin (own2 "Dials" (FDials___sub__ ex ow)) (eVar 3) (eVar 2)) (eVar 3))))) (sRet (eC (.bl false))) sNext)
    (sRet (eAnd (eNot (eBin (own2 "Dials" (FDials___le__ ex ow)) (eVar 2) (eVar 3))) (eAnd (eBin (own2 "Dials" (FDials___le__ ex ow)) (eBin (own2 "Dials" (FDials___and__ ex ow)) (eVar 2) (eVar 3)) (eVar 3)) (eAnd (eBin (inO "Dials" (FDials___contains__ ex ow)) (eBin mulD (eC (.int 2)) (eVar 0)) (eVar 2)) (eAnd (eBin (inO "Dials" (FDials___contains__ ex ow)) (eVar 1) (eVar 3)) (eBin (ninO "Dials" (FDials___contains__ ex ow)) (eBin mulD (eC (.int 2)) (eVar 1)) (eVar 3))))))))))))
theorem e_t_law_parted_right : K12.t_law_parted_right = Pq.t_law_parted_right := by
  unfold K12.t_law_parted_right Pq.t_law_parted_right
  simp only [e_FDials___and__, e_FDials___init__, e_FDials___or__, e_FDials___sub__, e_FDials___xor__]
def F_law_parted_right : TF := cutF (bodyF 2 N_law_parted_right t_law_parted_right)
theorem e_F_law_parted_right : K12.F_law_parted_right = Pq.F_law_parted_right := by
  unfold K12.F_law_parted_right Pq.F_law_parted_right
  simp only [e_t_law_parted_right]
def t_law_right : TSx := (sSeq (sAsg (eArgs F_law_of (aCons (eVar 0) (aCons (eArgs F_law_pairs aNil) aNil))) (gTp 2 (gsCons (gNm 1) (gsCons (gNm 2) gsNil))))
    (sSeq (sIf (tBl (eBin eqD (eArgs F_law_take (aCons (eVar 0) (aCons (eC (.int 2)) aNil))) (eC (.int 0)))) (sPar 1 2 (aCons (eVar 2) (aCons (eVar 1) aNil))) sNext)
    (sRet (eAnd (eArgs F_law_plain_right (aCons (eVar 1) (aCons (eVar 2) aNil))) (eArgs F_law_parted_right (aCons (eVar 1) (aCons (eVar 2) aNil)))))))
def F_law_right : TF := cutF (bodyF 1 N_law_right t_law_right)
end Pq
set_option Elab.async false
set_option linter.all false
set_option maxRecDepth 100000
set_option maxHeartbeats 0
namespace K12
open PySem PySem.Spec PyProof.Rows L2 TL
theorem qpl1_0_1 (a b c : Int) : Pq.F_law_plain_right [.int 31607, .int 31627] [.tbl "_law_plain_right", .tbl "_law_parted_right", .lst [.int a, .int b, .int c]] = .ok (.bl true) [.tbl "_law_plain_right", .tbl "_law_parted_right", .lst [.int a, .int b, .int c]] := by kernel_rfl
theorem pl1_0_1 (a b c : Int) : F_law_plain_right [.int 31607, .int 31627] [.tbl "_law_plain_right", .tbl "_law_parted_right", .lst [.int a, .int b, .int c]] = .ok (.bl true) [.tbl "_law_plain_right", .tbl "_law_parted_right", .lst [.int a, .int b, .int c]] := by
  rw [Pq.e_F_law_plain_right]
  exact qpl1_0_1 ..
theorem qpa1_0_1 (a b c : Int) : Pq.F_law_parted_right [.int 31607, .int 31627] [.tbl "_law_plain_right", .tbl "_law_parted_right", .lst [.int a, .int b, .int c]] = .ok (.bl true) [.tbl "_law_plain_right", .tbl "_law_parted_right", .lst [.int a, .int b, .int c]] := by kernel_rfl
theorem pa1_0_1 (a b c : Int) : F_law_parted_right [.int 31607, .int 31627] [.tbl "_law_plain_right", .tbl "_law_parted_right", .lst [.int a, .int b, .int c]] = .ok (.bl true) [.tbl "_law_plain_right", .tbl "_law_parted_right", .lst [.int a, .int b, .int c]] := by
  rw [Pq.e_F_law_parted_right]
  exact qpa1_0_1 ..
theorem qpl1_0_2 (a b c d e f : Int) : Pq.F_law_plain_right [.int 31607, .int 31627] [.tbl "_law_plain_right", .tbl "_law_parted_right", .lst [.int a, .int b, .int c], .lst [.int d, .int e, .int f]] = .ok (.bl true) [.tbl "_law_plain_right", .tbl "_law_parted_right", .lst [.int a, .int b, .int c], .lst [.int d, .int e, .int f]] := by kernel_rfl
theorem pl1_0_2 (a b c d e f : Int) : F_law_plain_right [.int 31607, .int 31627] [.tbl "_law_plain_right", .tbl "_law_parted_right", .lst [.int a, .int b, .int c], .lst [.int d, .int e, .int f]] = .ok (.bl true) [.tbl "_law_plain_right", .tbl "_law_parted_right", .lst [.int a, .int b, .int c], .lst [.int d, .int e, .int f]] := by
  rw [Pq.e_F_law_plain_right]
  exact qpl1_0_2 ..
theorem qpa1_0_2 (a b c d e f : Int) : Pq.F_law_parted_right [.int 31607, .int 31627] [.tbl "_law_plain_right", .tbl "_law_parted_right", .lst [.int a, .int b, .int c], .lst [.int d, .int e, .int f]] = .ok (.bl true) [.tbl "_law_plain_right", .tbl "_law_parted_right", .lst [.int a, .int b, .int c], .lst [.int d, .int e, .int f]] := by kernel_rfl
theorem pa1_0_2 (a b c d e f : Int) : F_law_parted_right [.int 31607, .int 31627] [.tbl "_law_plain_right", .tbl "_law_parted_right", .lst [.int a, .int b, .int c], .lst [.int d, .int e, .int f]] = .ok (.bl true) [.tbl "_law_plain_right", .tbl "_law_parted_right", .lst [.int a, .int b, .int c], .lst [.int d, .int e, .int f]] := by
  rw [Pq.e_F_law_parted_right]
  exact qpa1_0_2 ..
theorem qpl1_1_1 (a b c : Int) : Pq.F_law_plain_right [.int 31627, .int 31607] [.tbl "_law_plain_right", .tbl "_law_parted_right", .lst [.int a, .int b, .int c]] = .ok (.bl true) [.tbl "_law_plain_right", .tbl "_law_parted_right", .lst [.int a, .int b, .int c]] := by kernel_rfl
theorem pl1_1_1 (a b c : Int) : F_law_plain_right [.int 31627, .int 31607] [.tbl "_law_plain_right", .tbl "_law_parted_right", .lst [.int a, .int b, .int c]] = .ok (.bl true) [.tbl "_law_plain_right", .tbl "_law_parted_right", .lst [.int a, .int b, .int c]] := by
  rw [Pq.e_F_law_plain_right]
  exact qpl1_1_1 ..
theorem qpa1_1_1 (a b c : Int) : Pq.F_law_parted_right [.int 31627, .int 31607] [.tbl "_law_plain_right", .tbl "_law_parted_right", .lst [.int a, .int b, .int c]] = .ok (.bl true) [.tbl "_law_plain_right", .tbl "_law_parted_right", .lst [.int a, .int b, .int c]] := by kernel_rfl
theorem pa1_1_1 (a b c : Int) : F_law_parted_right [.int 31627, .int 31607] [.tbl "_law_plain_right", .tbl "_law_parted_right", .lst [.int a, .int b, .int c]] = .ok (.bl true) [.tbl "_law_plain_right", .tbl "_law_parted_right", .lst [.int a, .int b, .int c]] := by
  rw [Pq.e_F_law_parted_right]
  exact qpa1_1_1 ..
theorem qpl1_1_2 (a b c d e f : Int) : Pq.F_law_plain_right [.int 31627, .int 31607] [.tbl "_law_plain_right", .tbl "_law_parted_right", .lst [.int a, .int b, .int c], .lst [.int d, .int e, .int f]] = .ok (.bl true) [.tbl "_law_plain_right", .tbl "_law_parted_right", .lst [.int a, .int b, .int c], .lst [.int d, .int e, .int f]] := by kernel_rfl
theorem pl1_1_2 (a b c d e f : Int) : F_law_plain_right [.int 31627, .int 31607] [.tbl "_law_plain_right", .tbl "_law_parted_right", .lst [.int a, .int b, .int c], .lst [.int d, .int e, .int f]] = .ok (.bl true) [.tbl "_law_plain_right", .tbl "_law_parted_right", .lst [.int a, .int b, .int c], .lst [.int d, .int e, .int f]] := by
  rw [Pq.e_F_law_plain_right]
  exact qpl1_1_2 ..
theorem qpa1_1_2 (a b c d e f : Int) : Pq.F_law_parted_right [.int 31627, .int 31607] [.tbl "_law_plain_right", .tbl "_law_parted_right", .lst [.int a, .int b, .int c], .lst [.int d, .int e, .int f]] = .ok (.bl true) [.tbl "_law_plain_right", .tbl "_law_parted_right", .lst [.int a, .int b, .int c], .lst [.int d, .int e, .int f]] := by kernel_rfl
theorem pa1_1_2 (a b c d e f : Int) : F_law_parted_right [.int 31627, .int 31607] [.tbl "_law_plain_right", .tbl "_law_parted_right", .lst [.int a, .int b, .int c], .lst [.int d, .int e, .int f]] = .ok (.bl true) [.tbl "_law_plain_right", .tbl "_law_parted_right", .lst [.int a, .int b, .int c], .lst [.int d, .int e, .int f]] := by
  rw [Pq.e_F_law_parted_right]
  exact qpa1_1_2 ..
end K12
set_option Elab.async false
set_option linter.all false
set_option maxRecDepth 100000
set_option maxHeartbeats 0
namespace K12
open PySem PySem.Spec PyProof.Rows L2 TL
theorem pl2_0_1 (a b c : Int) : F_law_plain_right [.int 31627, .int 31643] [.tbl "_law_plain_right", .tbl "_law_parted_right", .lst [.int a, .int b, .int c]] = .ok (.bl true) [.tbl "_law_plain_right", .tbl "_law_parted_right", .lst [.int a, .int b, .int c]] := by kernel_rfl
theorem pa2_0_1 (a b c : Int) : F_law_parted_right [.int 31627, .int 31643] [.tbl "_law_plain_right", .tbl "_law_parted_right", .lst [.int a, .int b, .int c]] = .ok (.bl true) [.tbl "_law_plain_right", .tbl "_law_parted_right", .lst [.int a, .int b, .int c]] := by kernel_rfl
theorem pl2_0_2 (a b c d e f : Int) : F_law_plain_right [.int 31627, .int 31643] [.tbl "_law_plain_right", .tbl "_law_parted_right", .lst [.int a, .int b, .int c], .lst [.int d, .int e, .int f]] = .ok (.bl true) [.tbl "_law_plain_right", .tbl "_law_parted_right", .lst [.int a, .int b, .int c], .lst [.int d, .int e, .int f]] := by kernel_rfl
theorem pa2_0_2 (a b c d e f : Int) : F_law_parted_right [.int 31627, .int 31643] [.tbl "_law_plain_right", .tbl "_law_parted_right", .lst [.int a, .int b, .int c], .lst [.int d, .int e, .int f]] = .ok (.bl true) [.tbl "_law_plain_right", .tbl "_law_parted_right", .lst [.int a, .int b, .int c], .lst [.int d, .int e, .int f]] := by kernel_rfl
theorem pl2_1_1 (a b c : Int) : F_law_plain_right [.int 31643, .int 31627] [.tbl "_law_plain_right", .tbl "_law_parted_right", .lst [.int a, .int b, .int c]] = .ok (.bl true) [.tbl "_law_plain_right", .tbl "_law_parted_right", .lst [.int a, .int b, .int c]] := by kernel_rfl
theorem pa2_1_1 (a b c : Int) : F_law_parted_right [.int 31643, .int 31627] [.tbl "_law_plain_right", .tbl "_law_parted_right", .lst [.int a, .int b, .int c]] = .ok (.bl true) [.tbl "_law_plain_right", .tbl "_law_parted_right", .lst [.int a, .int b, .int c]] := by kernel_rfl
theorem pl2_1_2 (a b c d e f : Int) : F_law_plain_right [.int 31643, .int 31627] [.tbl "_law_plain_right", .tbl "_law_parted_right", .lst [.int a, .int b, .int c], .lst [.int d, .int e, .int f]] = .ok (.bl true) [.tbl "_law_plain_right", .tbl "_law_parted_right", .lst [.int a, .int b, .int c], .lst [.int d, .int e, .int f]] := by kernel_rfl
theorem pa2_1_2 (a b c d e f : Int) : F_law_parted_right [.int 31643, .int 31627] [.tbl "_law_plain_right", .tbl "_law_parted_right", .lst [.int a, .int b, .int c], .lst [.int d, .int e, .int f]] = .ok (.bl true) [.tbl "_law_plain_right", .tbl "_law_parted_right", .lst [.int a, .int b, .int c], .lst [.int d, .int e, .int f]] := by kernel_rfl
end K12
set_option Elab.async false
set_option linter.all false
set_option maxRecDepth 100000
set_option maxHeartbeats 0
namespace K12
open PySem PySem.Spec PyProof.Rows L2 TL
theorem pl3_0_1 (a b c : Int) : F_law_plain_right [.int 7, .int 99991] [.tbl "_law_plain_right", .tbl "_law_parted_right", .lst [.int a, .int b, .int c]] = .ok (.bl true) [.tbl "_law_plain_right", .tbl "_law_parted_right", .lst [.int a, .int b, .int c]] := by kernel_rfl
theorem pa3_0_1 (a b c : Int) : F_law_parted_right [.int 7, .int 99991] [.tbl "_law_plain_right", .tbl "_law_parted_right", .lst [.int a, .int b, .int c]] = .ok (.bl true) [.tbl "_law_plain_right", .tbl "_law_parted_right", .lst [.int a, .int b, .int c]] := by kernel_rfl
theorem pl3_0_2 (a b c d e f : Int) : F_law_plain_right [.int 7, .int 99991] [.tbl "_law_plain_right", .tbl "_law_parted_right", .lst [.int a, .int b, .int c], .lst [.int d, .int e, .int f]] = .ok (.bl true) [.tbl "_law_plain_right", .tbl "_law_parted_right", .lst [.int a, .int b, .int c], .lst [.int d, .int e, .int f]] := by kernel_rfl
theorem pa3_0_2 (a b c d e f : Int) : F_law_parted_right [.int 7, .int 99991] [.tbl "_law_plain_right", .tbl "_law_parted_right", .lst [.int a, .int b, .int c], .lst [.int d, .int e, .int f]] = .ok (.bl true) [.tbl "_law_plain_right", .tbl "_law_parted_right", .lst [.int a, .int b, .int c], .lst [.int d, .int e, .int f]] := by kernel_rfl
theorem pl3_1_1 (a b c : Int) : F_law_plain_right [.int 99991, .int 7] [.tbl "_law_plain_right", .tbl "_law_parted_right", .lst [.int a, .int b, .int c]] = .ok (.bl true) [.tbl "_law_plain_right", .tbl "_law_parted_right", .lst [.int a, .int b, .int c]] := by kernel_rfl
theorem pa3_1_1 (a b c : Int) : F_law_parted_right [.int 99991, .int 7] [.tbl "_law_plain_right", .tbl "_law_parted_right", .lst [.int a, .int b, .int c]] = .ok (.bl true) [.tbl "_law_plain_right", .tbl "_law_parted_right", .lst [.int a, .int b, .int c]] := by kernel_rfl
theorem pl3_1_2 (a b c d e f : Int) : F_law_plain_right [.int 99991, .int 7] [.tbl "_law_plain_right", .tbl "_law_parted_right", .lst [.int a, .int b, .int c], .lst [.int d, .int e, .int f]] = .ok (.bl true) [.tbl "_law_plain_right", .tbl "_law_parted_right", .lst [.int a, .int b, .int c], .lst [.int d, .int e, .int f]] := by kernel_rfl
theorem pa3_1_2 (a b c d e f : Int) : F_law_parted_right [.int 99991, .int 7] [.tbl "_law_plain_right", .tbl "_law_parted_right", .lst [.int a, .int b, .int c], .lst [.int d, .int e, .int f]] = .ok (.bl true) [.tbl "_law_plain_right", .tbl "_law_parted_right", .lst [.int a, .int b, .int c], .lst [.int d, .int e, .int f]] := by kernel_rfl
end K12
set_option Elab.async false
set_option linter.all false
set_option maxRecDepth 100000
set_option maxHeartbeats 0
namespace K12
open PySem PySem.Spec PyProof.Rows L2 TL
theorem pl4_0_1 (a b c : Int) : F_law_plain_right [.int 499979, .int 1999] [.tbl "_law_plain_right", .tbl "_law_parted_right", .lst [.int a, .int b, .int c]] = .ok (.bl true) [.tbl "_law_plain_right", .tbl "_law_parted_right", .lst [.int a, .int b, .int c]] := by kernel_rfl
theorem pa4_0_1 (a b c : Int) : F_law_parted_right [.int 499979, .int 1999] [.tbl "_law_plain_right", .tbl "_law_parted_right", .lst [.int a, .int b, .int c]] = .ok (.bl true) [.tbl "_law_plain_right", .tbl "_law_parted_right", .lst [.int a, .int b, .int c]] := by kernel_rfl
theorem pl4_0_2 (a b c d e f : Int) : F_law_plain_right [.int 499979, .int 1999] [.tbl "_law_plain_right", .tbl "_law_parted_right", .lst [.int a, .int b, .int c], .lst [.int d, .int e, .int f]] = .ok (.bl true) [.tbl "_law_plain_right", .tbl "_law_parted_right", .lst [.int a, .int b, .int c], .lst [.int d, .int e, .int f]] := by kernel_rfl
theorem pa4_0_2 (a b c d e f : Int) : F_law_parted_right [.int 499979, .int 1999] [.tbl "_law_plain_right", .tbl "_law_parted_right", .lst [.int a, .int b, .int c], .lst [.int d, .int e, .int f]] = .ok (.bl true) [.tbl "_law_plain_right", .tbl "_law_parted_right", .lst [.int a, .int b, .int c], .lst [.int d, .int e, .int f]] := by kernel_rfl
theorem pl4_1_1 (a b c : Int) : F_law_plain_right [.int 1999, .int 499979] [.tbl "_law_plain_right", .tbl "_law_parted_right", .lst [.int a, .int b, .int c]] = .ok (.bl true) [.tbl "_law_plain_right", .tbl "_law_parted_right", .lst [.int a, .int b, .int c]] := by kernel_rfl
theorem pa4_1_1 (a b c : Int) : F_law_parted_right [.int 1999, .int 499979] [.tbl "_law_plain_right", .tbl "_law_parted_right", .lst [.int a, .int b, .int c]] = .ok (.bl true) [.tbl "_law_plain_right", .tbl "_law_parted_right", .lst [.int a, .int b, .int c]] := by kernel_rfl
theorem pl4_1_2 (a b c d e f : Int) : F_law_plain_right [.int 1999, .int 499979] [.tbl "_law_plain_right", .tbl "_law_parted_right", .lst [.int a, .int b, .int c], .lst [.int d, .int e, .int f]] = .ok (.bl true) [.tbl "_law_plain_right", .tbl "_law_parted_right", .lst [.int a, .int b, .int c], .lst [.int d, .int e, .int f]] := by kernel_rfl
theorem pa4_1_2 (a b c d e f : Int) : F_law_parted_right [.int 1999, .int 499979] [.tbl "_law_plain_right", .tbl "_law_parted_right", .lst [.int a, .int b, .int c], .lst [.int d, .int e, .int f]] = .ok (.bl true) [.tbl "_law_plain_right", .tbl "_law_parted_right", .lst [.int a, .int b, .int c], .lst [.int d, .int e, .int f]] := by kernel_rfl
end K12
set_option Elab.async false
set_option linter.all false
set_option maxRecDepth 100000
set_option maxHeartbeats 0
namespace K12
open PySem PySem.Spec PyProof.Rows L2 TL
theorem pl5_0_1 (a b c : Int) : F_law_plain_right [.int 499979, .int 2003] [.tbl "_law_plain_right", .tbl "_law_parted_right", .lst [.int a, .int b, .int c]] = .ok (.bl true) [.tbl "_law_plain_right", .tbl "_law_parted_right", .lst [.int a, .int b, .int c]] := by kernel_rfl
theorem pa5_0_1 (a b c : Int) : F_law_parted_right [.int 499979, .int 2003] [.tbl "_law_plain_right", .tbl "_law_parted_right", .lst [.int a, .int b, .int c]] = .ok (.bl true) [.tbl "_law_plain_right", .tbl "_law_parted_right", .lst [.int a, .int b, .int c]] := by kernel_rfl
theorem pl5_0_2 (a b c d e f : Int) : F_law_plain_right [.int 499979, .int 2003] [.tbl "_law_plain_right", .tbl "_law_parted_right", .lst [.int a, .int b, .int c], .lst [.int d, .int e, .int f]] = .ok (.bl true) [.tbl "_law_plain_right", .tbl "_law_parted_right", .lst [.int a, .int b, .int c], .lst [.int d, .int e, .int f]] := by kernel_rfl
theorem pa5_0_2 (a b c d e f : Int) : F_law_parted_right [.int 499979, .int 2003] [.tbl "_law_plain_right", .tbl "_law_parted_right", .lst [.int a, .int b, .int c], .lst [.int d, .int e, .int f]] = .ok (.bl true) [.tbl "_law_plain_right", .tbl "_law_parted_right", .lst [.int a, .int b, .int c], .lst [.int d, .int e, .int f]] := by kernel_rfl
theorem pl5_1_1 (a b c : Int) : F_law_plain_right [.int 2003, .int 499979] [.tbl "_law_plain_right", .tbl "_law_parted_right", .lst [.int a, .int b, .int c]] = .ok (.bl true) [.tbl "_law_plain_right", .tbl "_law_parted_right", .lst [.int a, .int b, .int c]] := by kernel_rfl
theorem pa5_1_1 (a b c : Int) : F_law_parted_right [.int 2003, .int 499979] [.tbl "_law_plain_right", .tbl "_law_parted_right", .lst [.int a, .int b, .int c]] = .ok (.bl true) [.tbl "_law_plain_right", .tbl "_law_parted_right", .lst [.int a, .int b, .int c]] := by kernel_rfl
theorem pl5_1_2 (a b c d e f : Int) : F_law_plain_right [.int 2003, .int 499979] [.tbl "_law_plain_right", .tbl "_law_parted_right", .lst [.int a, .int b, .int c], .lst [.int d, .int e, .int f]] = .ok (.bl true) [.tbl "_law_plain_right", .tbl "_law_parted_right", .lst [.int a, .int b, .int c], .lst [.int d, .int e, .int f]] := by kernel_rfl
theorem pa5_1_2 (a b c d e f : Int) : F_law_parted_right [.int 2003, .int 499979] [.tbl "_law_plain_right", .tbl "_law_parted_right", .lst [.int a, .int b, .int c], .lst [.int d, .int e, .int f]] = .ok (.bl true) [.tbl "_law_plain_right", .tbl "_law_parted_right", .lst [.int a, .int b, .int c], .lst [.int d, .int e, .int f]] := by kernel_rfl
end K12
set_option Elab.async false
set_option linter.all false
set_option maxRecDepth 100000
set_option maxHeartbeats 0
namespace K12
open PySem PySem.Spec PyProof.Rows L2 TL
theorem pl6_0_1 (a b c : Int) : F_law_plain_right [.int 101, .int 103] [.tbl "_law_plain_right", .tbl "_law_parted_right", .lst [.int a, .int b, .int c]] = .ok (.bl true) [.tbl "_law_plain_right", .tbl "_law_parted_right", .lst [.int a, .int b, .int c]] := by kernel_rfl
theorem pa6_0_1 (a b c : Int) : F_law_parted_right [.int 101, .int 103] [.tbl "_law_plain_right", .tbl "_law_parted_right", .lst [.int a, .int b, .int c]] = .ok (.bl true) [.tbl "_law_plain_right", .tbl "_law_parted_right", .lst [.int a, .int b, .int c]] := by kernel_rfl
theorem pl6_0_2 (a b c d e f : Int) : F_law_plain_right [.int 101, .int 103] [.tbl "_law_plain_right", .tbl "_law_parted_right", .lst [.int a, .int b, .int c], .lst [.int d, .int e, .int f]] = .ok (.bl true) [.tbl "_law_plain_right", .tbl "_law_parted_right", .lst [.int a, .int b, .int c], .lst [.int d, .int e, .int f]] := by kernel_rfl
theorem pa6_0_2 (a b c d e f : Int) : F_law_parted_right [.int 101, .int 103] [.tbl "_law_plain_right", .tbl "_law_parted_right", .lst [.int a, .int b, .int c], .lst [.int d, .int e, .int f]] = .ok (.bl true) [.tbl "_law_plain_right", .tbl "_law_parted_right", .lst [.int a, .int b, .int c], .lst [.int d, .int e, .int f]] := by kernel_rfl
theorem pl6_1_1 (a b c : Int) : F_law_plain_right [.int 103, .int 101] [.tbl "_law_plain_right", .tbl "_law_parted_right", .lst [.int a, .int b, .int c]] = .ok (.bl true) [.tbl "_law_plain_right", .tbl "_law_parted_right", .lst [.int a, .int b, .int c]] := by kernel_rfl
theorem pa6_1_1 (a b c : Int) : F_law_parted_right [.int 103, .int 101] [.tbl "_law_plain_right", .tbl "_law_parted_right", .lst [.int a, .int b, .int c]] = .ok (.bl true) [.tbl "_law_plain_right", .tbl "_law_parted_right", .lst [.int a, .int b, .int c]] := by kernel_rfl
theorem pl6_1_2 (a b c d e f : Int) : F_law_plain_right [.int 103, .int 101] [.tbl "_law_plain_right", .tbl "_law_parted_right", .lst [.int a, .int b, .int c], .lst [.int d, .int e, .int f]] = .ok (.bl true) [.tbl "_law_plain_right", .tbl "_law_parted_right", .lst [.int a, .int b, .int c], .lst [.int d, .int e, .int f]] := by kernel_rfl
theorem pa6_1_2 (a b c d e f : Int) : F_law_parted_right [.int 103, .int 101] [.tbl "_law_plain_right", .tbl "_law_parted_right", .lst [.int a, .int b, .int c], .lst [.int d, .int e, .int f]] = .ok (.bl true) [.tbl "_law_plain_right", .tbl "_law_parted_right", .lst [.int a, .int b, .int c], .lst [.int d, .int e, .int f]] := by kernel_rfl
end K12
set_option Elab.async false
set_option linter.all false
set_option maxRecDepth 100000
set_option maxHeartbeats 4000000
namespace K12
open PySem PySem.Spec PyProof.Rows L2 TL Pr
inductive Sh : List O → Nat → Prop
  | one (a b c : Int) : Sh [.tbl "_law_plain_right", .tbl "_law_parted_right", .lst [.int a, .int b, .int c]] 2
  | two (a b c d e f : Int) : Sh [.tbl "_law_plain_right", .tbl "_law_parted_right", .lst [.int a, .int b, .int c], .lst [.int d, .int e, .int f]] 3
theorem Sh.flat {S : List O} {i : Nat} (h : Sh S i) : Flat S := by
  cases h <;> exact Flat.of fun o ho => by
    simp only [List.mem_cons, List.not_mem_nil, or_false] at ho
    rcases ho with rfl | rfl | rfl | rfl <;> rfl
theorem Sh.step {S S' : List O} {i : Nat} {T : Int} (h : Sh S i) (s : Step i T S S') : Sh S' i := by
  obtain ⟨a', b', t', hp, _⟩ := s.pot.ex
  have hl := s.len
  have off := s.off
  cases h with
  | one a b c =>
    have h0 := off 0 (by decide)
    have h1 := off 1 (by decide)
    match S', hl, h0, h1, hp with
    | [x, y, z], _, h0, h1, hp =>
      simp at h0 h1 hp
      subst h0 h1 hp
      exact .one ..
  | two a b c d e f =>
    have h0 := off 0 (by decide)
    have h1 := off 1 (by decide)
    have h2 := off 2 (by decide)
    match S', hl, h0, h1, h2, hp with
    | [x, y, z, w], _, h0, h1, h2, hp =>
      simp at h0 h1 h2 hp
      subst h0 h1 h2 hp
      exact .two ..
def prs : List D := [.tup [.int 99991, .int 10007], .tup [.int 31607, .int 31627], .tup [.int 31627, .int 31643], .tup [.int 7, .int 99991], .tup [.int 499979, .int 1999], .tup [.int 499979, .int 2003], .tup [.int 101, .int 103]]
theorem prs_two {d : D} (h : d ∈ prs) : ∃ p q : Int, d = .tup [.int p, .int q] ∧ ∀ {S : List O} {i : Nat}, Sh S i → (F_law_plain_right [.int p, .int q] S = .ok (.bl true) S ∧ F_law_parted_right [.int p, .int q] S = .ok (.bl true) S) ∧ (F_law_plain_right [.int q, .int p] S = .ok (.bl true) S ∧ F_law_parted_right [.int q, .int p] S = .ok (.bl true) S) := by
  unfold prs at h
  simp only [List.mem_cons, List.not_mem_nil, or_false] at h
  rcases h with rfl | rfl | rfl | rfl | rfl | rfl | rfl
  · refine ⟨99991, 10007, rfl, fun h => ?_⟩
    cases h with
    | one a b c => exact ⟨⟨pl0_0_1 .., pa0_0_1 ..⟩, pl0_1_1 .., pa0_1_1 ..⟩
    | two a b c d e f => exact ⟨⟨pl0_0_2 .., pa0_0_2 ..⟩, pl0_1_2 .., pa0_1_2 ..⟩
  · refine ⟨31607, 31627, rfl, fun h => ?_⟩
    cases h with
    | one a b c => exact ⟨⟨pl1_0_1 .., pa1_0_1 ..⟩, pl1_1_1 .., pa1_1_1 ..⟩
    | two a b c d e f => exact ⟨⟨pl1_0_2 .., pa1_0_2 ..⟩, pl1_1_2 .., pa1_1_2 ..⟩
  · refine ⟨31627, 31643, rfl, fun h => ?_⟩
    cases h with
    | one a b c => exact ⟨⟨pl2_0_1 .., pa2_0_1 ..⟩, pl2_1_1 .., pa2_1_1 ..⟩
    | two a b c d e f => exact ⟨⟨pl2_0_2 .., pa2_0_2 ..⟩, pl2_1_2 .., pa2_1_2 ..⟩
  · refine ⟨7, 99991, rfl, fun h => ?_⟩
    cases h with
    | one a b c => exact ⟨⟨pl3_0_1 .., pa3_0_1 ..⟩, pl3_1_1 .., pa3_1_1 ..⟩
    | two a b c d e f => exact ⟨⟨pl3_0_2 .., pa3_0_2 ..⟩, pl3_1_2 .., pa3_1_2 ..⟩
  · refine ⟨499979, 1999, rfl, fun h => ?_⟩
    cases h with
    | one a b c => exact ⟨⟨pl4_0_1 .., pa4_0_1 ..⟩, pl4_1_1 .., pa4_1_1 ..⟩
    | two a b c d e f => exact ⟨⟨pl4_0_2 .., pa4_0_2 ..⟩, pl4_1_2 .., pa4_1_2 ..⟩
  · refine ⟨499979, 2003, rfl, fun h => ?_⟩
    cases h with
    | one a b c => exact ⟨⟨pl5_0_1 .., pa5_0_1 ..⟩, pl5_1_1 .., pa5_1_1 ..⟩
    | two a b c d e f => exact ⟨⟨pl5_0_2 .., pa5_0_2 ..⟩, pl5_1_2 .., pa5_1_2 ..⟩
  · refine ⟨101, 103, rfl, fun h => ?_⟩
    cases h with
    | one a b c => exact ⟨⟨pl6_0_1 .., pa6_0_1 ..⟩, pl6_1_1 .., pa6_1_1 ..⟩
    | two a b c d e f => exact ⟨⟨pl6_0_2 .., pa6_0_2 ..⟩, pl6_1_2 .., pa6_1_2 ..⟩
theorem pairs_ok {S : List O} : F_law_pairs [] S = .ok (.lst prs) S := by kernel_rfl
theorem right_gen {S S1 S2 : List O} {i : Nat} {p q r : Int} (e1 : F_law_of [.hnd i, .lst prs] S = .ok (.tup [.int p, .int q]) S1) (e2 : F_law_take [.hnd i, .int 2] S1 = .ok (.int r) S2) (h1 : F_law_plain_right [.int (if r = 0 then q else p), .int (if r = 0 then p else q)] S2 = .ok (.bl true) S2)
    (h2 : F_law_parted_right [.int (if r = 0 then q else p), .int (if r = 0 then p else q)] S2 = .ok (.bl true) S2) : bodyF 1 N_law_right t_law_right [.hnd i] S = .ok (.bl true) S2 := by
  unfold t_law_right
  by_cases hr : r = 0
  · subst hr
    simp only [if_true] at h1 h2
    simp [N_law_right, pairs_ok, e1, e2, h1, h2, truD]
  · rw [if_neg hr, if_neg hr] at h1 h2
    simp [N_law_right, pairs_ok, e1, e2, h1, h2, truD, hr]
theorem right_ok {S : List O} {i : Nat} {T : Int} (h : Sh S i) (hp : Pot S i T) (hT : T + 20 < 2 ^ 20) : ∃ S', F_law_right [.hnd i] S = .ok (.bl true) S' ∧ Sh S' i ∧ Pot S' i (T + 2) := by
  obtain ⟨d, S1, e1, hd, st1⟩ := of_ok (ds := prs) hp (by omega) (by unfold prs; simp) (by decide)
  obtain ⟨p, q, rfl, hk⟩ := prs_two hd
  have h1 := h.step st1
  obtain ⟨_, S2, e2, ⟨r, rfl, r0, r1⟩, st2⟩ := take st1.pot (by omega) (u := 2) (by decide) (by decide)
  have h2 := h1.step st2
  obtain ⟨⟨k1, k2⟩, k3, k4⟩ := hk h2
  have body := right_gen (r := r) e1 e2 (by split <;> assumption) (by split <;> assumption)
  refine ⟨S2, ?_, h2, st2.pot.up (by omega)⟩
  show Out.cut S.length (bodyF 1 N_law_right t_law_right [.hnd i] S) = _
  rw [body]
  have := cut_ok' (N := []) (d := .bl true) (show S2.length = S.length by rw [st2.len, st1.len]) h2.flat rfl
  rwa [List.append_nil] at this
def St (i : Nat) (T : Int) (S : List O) : Prop := Sh S i ∧ Pot S i T
abbrev turnT : TEx := eLc false [3] (iRg1 (aCons (eC (.int 2)) aNil)) (gNm 3) tYesD (eArgs F_law_right (aCons (eVar 2) aNil))
theorem turns_ok {S : List O} {i : Nat} (h : St i 0 S) {a0 a1 : Option D} : ∃ rs S', turnT [a0, a1, some (.hnd i), none] S = .ok (.lst rs) S' ∧ allD [.lst rs] S' = .ok (.bl true) S' ∧ St i 60 S' := by
  have rl : (rng 0 2).length = 2 := by rw [rng_len]; rfl
  obtain ⟨rs, S', ec, ha, hI⟩ := compL_rel (vs := [3]) (tg := gNm 3) (tt := tYesD) (te := eArgs F_law_right (aCons (eVar 2) aNil)) (ρ := [a0, a1, some (.hnd i), none]) (P := fun _ y => y = .bl true) 2 (fun k Z => St i ((30 : Int) * k) Z) (rng 0 2) [] S 0 (by omega) (by simpa using h) (fun x hx Z k hk hZ => by
    obtain ⟨Z', et, h'⟩ := right_ok hZ.1 hZ.2 (by omega)
    refine ⟨[a0, a1, some (.hnd i), some x], Z, Z', .bl true, rfl, rfl, ?_, rfl, h'.1, h'.2.up (by omega)⟩
    simp [et])
  rw [List.nil_append] at ec
  have hl := ha.len
  rw [rl] at hl
  have er : rs = (List.replicate rs.length true).map D.bl := by
    have : ∀ y ∈ rs, y = .bl true := by
      clear ec hl hI
      generalize rng 0 2 = ds at ha
      clear rl
      induction ha with
      | nil => intro y hy; cases hy
      | cons hp _ ih =>
        intro y hy
        rcases List.mem_cons.mp hy with q | q
        · rw [q]
          exact hp
        · exact ih y q
    rw [List.map_replicate]
    exact List.eq_replicate_iff.mpr ⟨rfl, this⟩
  refine ⟨rs, S', ?_, ?_, hI.1, hI.2.up (by rw [rl]; decide)⟩
  · have lz1 : (rng 0 2).length ≤ sizeLine := by have := sizeLine_eq; omega
    have m : mkL false rs S' = .ok (.lst rs) S' := mkL_false S' rs (small_line (by omega))
    have rg := rg1_ok (S := S) (j := 2) (by decide) (by decide)
    simp [rg, lz1, ec, m]
  · rw [er]
    unfold allD lstOf
    simp only [Option.bind_some, blsOf_map]
    simp
abbrev lawB : TSx := (sSeq (sSet 2 (eArgs F_law_pot (aCons (eVar 0) (aCons (eVar 1) aNil))))
    (sIf (tNotT (tTru (eArgs allD (aCons turnT aNil)))) (sRet (eC (.bl false))) sNext))
theorem turn_body {S S1 S2 : List O} {ns : List Int} {d : D} {i : Nat} {y : Option D} {t : TEx} {rs : List D} (e1 : F_law_pot [.scr ns, d] S = .ok (.hnd i) S1) (e2 : t [some (.scr ns), some d, some (.hnd i), none] S1 = .ok (.lst rs) S2) (al : allD [.lst rs] S2 = .ok (.bl true) S2) :
    (sSeq (sSet 2 (eArgs F_law_pot (aCons (eVar 0) (aCons (eVar 1) aNil)))) (sIf (tNotT (tTru (eArgs allD (aCons t aNil)))) (sRet (eC (.bl false))) sNext)) [some (.scr ns), some d, y, none] S = .nx [some (.scr ns), some d, some (.hnd i), none] S2 := by
  simp [e1, e2, al, truD]
theorem loop1 {ns : List Int} {S S1 S2 : List O} {k : Int} {i : Nat} {x y : Option D} {rs : List D} (e1 : F_law_pot [.scr ns, .int k] S = .ok (.hnd i) S1) (e2 : turnT [some (.scr ns), some (.int k), some (.hnd i), none] S1 = .ok (.lst rs) S2) (al : allD [.lst rs] S2 = .ok (.bl true) S2) {ds : List D} :
    forL (gNm 1) lawB (.int k :: ds) [some (.scr ns), x, y, none] S = forL (gNm 1) lawB ds [some (.scr ns), some (.int k), some (.hnd i), none] S2 := by
  have tb2 : lawB [some (.scr ns), some (.int k), y, none] S = _ := turn_body (y := y) e1 e2 al
  rw [forL]
  simp only [gNm_ap, only_nx, seq_nx, List.set_cons_succ, List.set_cons_zero]
  rw [tb2, turn_nx]
theorem law_body {ns : List Int} {ds : List D} {tb : TSx} {ρ' : Env1} {S' : List O} {S : List O} (sz : ds.length ≤ sizeLine) (pl : F_law_places [.scr ns, .int 2] S = .ok (.lst ds) S) (e : forL (gNm 1) tb ds [some (.scr ns), none, none, none] S = .nx ρ' S') :
    bodyF 1 Nlaw (sSeq (sFor (iLst (eArgs F_law_places (aCons (eVar 0) (aCons (eC (.int 2)) aNil)))) (gNm 1) tb) (sRet (eC (.bl true)))) [.scr ns] S = .ok (.bl true) S' := by
  simp [Nlaw, pl, e]
theorem place1 {ns : List Int} {S : List O} {k : Int} {i : Nat} {x y : Option D} (k0 : 0 ≤ k) (k1 : k < 2 ^ 20) (hi : S.length = i) (hs : ∀ o, (∃ a b c : Int, o = .lst [.int a, .int b, .int c]) → Sh (S ++ [o]) i) {ds : List D} :
    ∃ S', Sh S' i ∧ S'.length = i + 1 ∧ forL (gNm 1) lawB (.int k :: ds) [some (.scr ns), x, y, none] S = forL (gNm 1) lawB ds [some (.scr ns), some (.int k), some (.hnd i), none] S' := by
  obtain ⟨_, S1, e1, rfl, o, rfl, hpt⟩ := pot_ok (ns := ns) (k := k) S k0 k1
  have hpt0 := hpt
  obtain ⟨a, b, t, ho, _⟩ := hpt0.ex
  rw [List.getElem?_append_right (Nat.le_refl _), Nat.sub_self] at ho
  simp only [List.getElem?_cons_zero, Option.some.injEq] at ho
  rw [hi] at e1 hpt
  have sh := hs o ⟨a, b, t, ho⟩
  obtain ⟨rs, S2, e2, al, h2⟩ := turns_ok (a0 := some (.scr ns)) (a1 := some (.int k)) (⟨sh, hpt⟩ : St i 0 (S ++ [o]))
  refine ⟨S2, h2.1, ?_, loop1 e1 e2 al⟩
  cases h2.1 <;> rfl
theorem law_ok (ns : List Int) (hl : ns.length ≤ 63) : ∃ S, Flaw [.scr ns] (tabS ["_law_plain_right", "_law_parted_right"]) = .ok (.bl true) S := by
  have pl := places_ok (ns := ns) (m := 2) (S := tabS ["_law_plain_right", "_law_parted_right"]) (by decide)
  obtain ⟨S2, h2, l2, e2⟩ := place1 (ns := ns) (S := tabS ["_law_plain_right", "_law_parted_right"]) (k := 0) (i := 2) (x := none) (y := none) (by decide) (by decide) rfl (fun o ⟨a, b, c, ho⟩ => by
    subst ho
    exact .one ..) (ds := [])
  obtain ⟨S3, h3, l3, e3⟩ := place1 (ns := ns) (S := tabS ["_law_plain_right", "_law_parted_right"]) (k := 0) (i := 2) (x := none) (y := none) (by decide) (by decide) rfl (fun o ⟨a, b, c, ho⟩ => by
    subst ho
    exact .one ..) (ds := [.int 1])
  have hc : rng 0 (max 1 (min 2 (ns.length : Int))) = [.int 0] ∨ rng 0 (max 1 (min 2 (ns.length : Int))) = [.int 0, .int 1] := by
    have : max 1 (min 2 (ns.length : Int)) = 1 ∨ max 1 (min 2 (ns.length : Int)) = 2 := by omega
    rcases this with e | e <;> rw [e]
    · exact .inl rfl
    · exact .inr rfl
  rcases hc with e | e
  · rw [e] at pl
    have fin : forL (gNm 1) lawB [.int 0] [some (.scr ns), none, none, none] (tabS ["_law_plain_right", "_law_parted_right"]) = .nx [some (.scr ns), some (.int 0), some (.hnd 2), none] S2 := e2
    exact ⟨S2, law_body (small_line (by simp)) pl fin⟩
  · rw [e] at pl
    obtain ⟨S4, h4, l4, e4⟩ := place1 (ns := ns) (S := S3) (k := 1) (i := 3) (x := some (.int 0)) (y := some (.hnd 2)) (by decide) (by decide) l3 (fun o ⟨a, b, c, ho⟩ => by
      subst ho
      cases h3
      exact .two ..) (ds := [])
    have fin : forL (gNm 1) lawB [.int 0, .int 1] [some (.scr ns), none, none, none] (tabS ["_law_plain_right", "_law_parted_right"]) = .nx [some (.scr ns), some (.int 1), some (.hnd 3), none] S4 := e3.trans e4
    exact ⟨S4, law_body (small_line (by simp)) pl fin⟩
end K12
set_option Elab.async false
set_option linter.all false
set_option maxRecDepth 100000
set_option maxHeartbeats 0
namespace K12
open PySem PySem.Spec PyProof.Rows L2 TL LamX
structure Fax (K : PySem.W.Frag) (mg : Str → Option Value) : Prop where
  sys : ∃ os, K.lookup sysModules = some os
  f_len : mg "len" = none
  f_int : mg "int" = none
  f_abs : mg "abs" = none
  f_max : mg "max" = none
  f_min : mg "min" = none
  f_list : mg "list" = none
  f_range : mg "range" = none
  f_isinstance : mg "isinstance" = none
  f_str : mg "str" = none
  f_repr : mg "repr" = none
  f_any : mg "any" = none
  f_all : mg "all" = none
  f_enumerate : mg "enumerate" = none
  f_bool : mg "bool" = none
  f_tuple : mg "tuple" = none
  f_sum : mg "sum" = none
  f_set : mg "set" = none
  f_sorted : mg "sorted" = none
  f_zip : mg "zip" = none
  f_NotImplemented : mg "NotImplemented" = none
  f_super : mg "super" = none
  nLIMIT : ∃ t, mg "LIMIT" = some (.int 31623 t)
  nGREAT : ∃ t, mg "GREAT" = some (.int 1000000000 t)
  nBLANK : ∃ t, mg "BLANK" = some (.str " " t)
  nLEAST_DIAL : ∃ t, mg "LEAST_DIAL" = some (.int 2 t)
  nBETWEEN : ∃ t, mg "BETWEEN" = some (.str " : " t)
  nNONE : ∃ t, mg "NONE" = some (.str "-" t)
  nOR : ∃ t, mg "OR" = some (.str "or" t)
  nAND : ∃ t, mg "AND" = some (.str "and" t)
  nLESS : ∃ t, mg "LESS" = some (.str "less" t)
  nJUST : ∃ t, mg "JUST" = some (.str "just" t)
  gis_whole : mg "is_whole" = some (.ref (He.ga K "is_whole"))
  gis_integer : mg "is_integer" = some (.ref (He.ga K "is_integer"))
  gdo_ascend : mg "do_ascend" = some (.ref (He.ga K "do_ascend"))
  ggcd : mg "gcd" = some (.ref (He.ga K "gcd"))
  glcm : mg "lcm" = some (.ref (He.ga K "lcm"))
  gpower : mg "power" = some (.ref (He.ga K "power"))
  gtimes_in : mg "times_in" = some (.ref (He.ga K "times_in"))
  gwithout : mg "without" = some (.ref (He.ga K "without"))
  gparted : mg "parted" = some (.ref (He.ga K "parted"))
  groot : mg "root" = some (.ref (He.ga K "root"))
  gleast_root : mg "least_root" = some (.ref (He.ga K "least_root"))
  gsplit : mg "split" = some (.ref (He.ga K "split"))
  grefined : mg "refined" = some (.ref (He.ga K "refined"))
  gbases : mg "bases" = some (.ref (He.ga K "bases"))
  gdivisors_by : mg "divisors_by" = some (.ref (He.ga K "divisors_by"))
  gdivisors : mg "divisors" = some (.ref (He.ga K "divisors"))
  gleast_table : mg "least_table" = some (.ref (He.ga K "least_table"))
  gword_of : mg "word_of" = some (.ref (He.ga K "word_of"))
  gleast_raw : mg "least_raw" = some (.ref (He.ga K "least_raw"))
  gput_together : mg "put_together" = some (.ref (He.ga K "put_together"))
  gis_great : mg "is_great" = some (.ref (He.ga K "is_great"))
  gare_divisors : mg "are_divisors" = some (.ref (He.ga K "are_divisors"))
  gare_others : mg "are_others" = some (.ref (He.ga K "are_others"))
  grow_text : mg "row_text" = some (.ref (He.ga K "row_text"))
  gsigned_parts : mg "signed_parts" = some (.ref (He.ga K "signed_parts"))
  gmany_prime_to : mg "many_prime_to" = some (.ref (He.ga K "many_prime_to"))
  gtold_raw : mg "told_raw" = some (.ref (He.ga K "told_raw"))
  gnext_with : mg "next_with" = some (.ref (He.ga K "next_with"))
  gis_below : mg "is_below" = some (.ref (He.ga K "is_below"))
  g_law_pot : mg "_law_pot" = some (.ref (He.ga K "_law_pot"))
  g_law_take : mg "_law_take" = some (.ref (He.ga K "_law_take"))
  g_law_of : mg "_law_of" = some (.ref (He.ga K "_law_of"))
  g_law_places : mg "_law_places" = some (.ref (He.ga K "_law_places"))
  g_law_told : mg "_law_told" = some (.ref (He.ga K "_law_told"))
  g_law_pairs : mg "_law_pairs" = some (.ref (He.ga K "_law_pairs"))
  g_law_is_due : mg "_law_is_due" = some (.ref (He.ga K "_law_is_due"))
  g_law_plain_right : mg "_law_plain_right" = some (.ref (He.ga K "_law_plain_right"))
  g_law_parted_right : mg "_law_parted_right" = some (.ref (He.ga K "_law_parted_right"))
  g_law_right : mg "_law_right" = some (.ref (He.ga K "_law_right"))
  glaw : mg "law" = some (.ref (He.ga K "law"))
  kRaw : mg "Raw" = some (.ref (He.ga K "Raw"))
  cRaw : SC K "Raw"
  mkRaw : (He.Fa.mkr "Raw").ok K = true
  dtRaw0 : tup0B (adD (adM "Raw" "__init__") 0) K = true
  mRaw_has : (He.Fa.meth "Raw" "has").ok K = true
  kDials : mg "Dials" = some (.ref (He.ga K "Dials"))
  cDials : CL K "Dials"
  neDials : NeB K "Dials"
  feDials : fnB "Dials" "__eq__" K = true
  tyDials : tyLB "Dials" K = true
  sfDials : selfB "Dials" K = true
  mkDials : (He.Fa.mkr "Dials").ok K = true
  dtDials0 : tup0B (adD (adM "Dials" "__init__") 0) K = true
  pDials_whole : propB "Dials" "whole" K = true
  pDials_shares : propB "Dials" "shares" K = true
  pDials_others : propB "Dials" "others" K = true
  pDials_text : propB "Dials" "text" K = true
  mDials___contains__ : (He.Fa.meth "Dials" "__contains__").ok K = true
  mDials_after : (He.Fa.meth "Dials" "after").ok K = true
  mDials___or__ : (He.Fa.meth "Dials" "__or__").ok K = true
  mDials___and__ : (He.Fa.meth "Dials" "__and__").ok K = true
  mDials___sub__ : (He.Fa.meth "Dials" "__sub__").ok K = true
  mDials___xor__ : (He.Fa.meth "Dials" "__xor__").ok K = true
  mDials___invert__ : (He.Fa.meth "Dials" "__invert__").ok K = true
  mDials___eq__ : (He.Fa.meth "Dials" "__eq__").ok K = true
  mDials___le__ : (He.Fa.meth "Dials" "__le__").ok K = true
  bown_whole : ∀ C ∈ (["Raw"] : List Str), SC K C ∧ ("own_whole" : Str) ∈ slN K C
  bown_primes : ∀ C ∈ (["Raw"] : List Str), SC K C ∧ ("own_primes" : Str) ∈ slN K C
  bown_shares : ∀ C ∈ (["Raw"] : List Str), SC K C ∧ ("own_shares" : Str) ∈ slN K C
  bown_others : ∀ C ∈ (["Raw"] : List Str), SC K C ∧ ("own_others" : Str) ∈ slN K C
  aown_raw : ∀ C ∈ (["Dials"] : List Str), CL K C ∧ NoAttr K (He.ga K C) "own_raw"
  exf : ExF K ex
  ifn : TLI.IFn K Pg (He.ga K dErr) (He.ma K (He.ga K dErr) "__init__")
  cl : ∀ C ∈ ex, mg C = some (.ref (He.ga K C))
  isf : IsF K ex ow
theorem scis_whole : FnScope Pr.Nis_whole Pr.Pis_whole (defScope sis_whole) := ⟨rfl, rfl, rfl, by decide +kernel, rfl, by decide +kernel, by decide +kernel⟩
theorem wis_whole {w : World} {K : PySem.W.Frag} {mg : Str → Option Value} {base : Heap} (V : Fax K mg)  (E : XK) (q : Str) (cd : Value) : DSs (Sg.of Pg w K mg base Pr.Nis_whole (defScope sis_whole) 0 E q cd) (defBody sis_whole) (Pr.tis_whole ex ow) :=
  (dss_one (ds_ret (de_and (de_isA V.isf V.f_isinstance (da_cons (dv 0) (da_cons (de_gty V.f_int (by decide +kernel)) da_nil))) (de_one (de_not (de_isA V.isf V.f_isinstance (da_cons (dv 0) (da_cons (de_gty V.f_bool (by decide +kernel)) da_nil))))))))
theorem scis_integer : FnScope Pr.Nis_integer Pr.Pis_integer (defScope sis_integer) := ⟨rfl, rfl, rfl, by decide +kernel, rfl, by decide +kernel, by decide +kernel⟩
theorem wis_integer {w : World} {K : PySem.W.Frag} {mg : Str → Option Value} {base : Heap} (V : Fax K mg) (cis_whole : TDef Pg w K mg base 1 "is_whole" 1 (Pr.Fis_whole ex ow)) (E : XK) (q : Str) (cd : Value) : DSs (Sg.of Pg w K mg base Pr.Nis_integer (defScope sis_integer) 1 E q cd) (defBody sis_integer) (Pr.tis_integer ex ow) :=
  (dss_one (ds_ret (de_and (de_callT cis_whole (da_cons (dv 0) da_nil) (Nat.le_of_ble_eq_true rfl)) (de_one (de_chain op_leX op_leX ok_le ok_le (dv 1) (dv 0) (dv 2))))))
theorem scdo_ascend : FnScope Pr.Ndo_ascend Pr.Pdo_ascend (defScope sdo_ascend) := ⟨rfl, rfl, rfl, by decide +kernel, rfl, by decide +kernel, by decide +kernel⟩
theorem wdo_ascend {w : World} {K : PySem.W.Frag} {mg : Str → Option Value} {base : Heap} (V : Fax K mg)  (E : XK) (q : Str) (cd : Value) : DSs (Sg.of Pg w K mg base Pr.Ndo_ascend (defScope sdo_ascend) 0 E q cd) (defBody sdo_ascend) (Pr.tdo_ascend ex ow) :=
  (dss_one (ds_ret (de_all V.f_all (da_cons (de_lc false [("one", 1), ("other", 2)] (di_zip (da_cons (dv 0) (da_cons (de_sl false (dv 0) (do_some de_int) do_nil) da_nil)) V.f_zip) (dg_tup (dgs_cons (dg_name (i := 1)) (dgs_cons (dg_name (i := 2)) dgs_nil))) dts_nil (de_lt (dv 1) (dv 2)) (ok := by dsimp only [Sg.lam, Sg.of, Sg.blk]; decide +kernel)) da_nil))))
theorem scgcd : FnScope Pr.Ngcd Pr.Pgcd (defScope sgcd) := ⟨rfl, rfl, rfl, by decide +kernel, rfl, by decide +kernel, by decide +kernel⟩
theorem wgcd {w : World} {K : PySem.W.Frag} {mg : Str → Option Value} {base : Heap} (V : Fax K mg)  (E : XK) (q : Str) (cd : Value) : DSs (Sg.of Pg w K mg base Pr.Ngcd (defScope sgcd) 0 E q cd) (defBody sgcd) (Pr.tgcd ex ow) :=
  (dss_cons (ds_par (i := 0) (j := 1) (da_cons (de_abs V.f_abs (da_cons (dv 0) da_nil)) (da_cons (de_abs V.f_abs (da_cons (dv 1) da_nil)) da_nil)))
    (dss_cons (ds_while (fuI 1) (dt_ne (dv 1) de_int) (dss_one (ds_par (i := 0) (j := 1) (da_cons (dv 1) (da_cons (de_mod (dv 0) (dv 1)) da_nil)))))
    (dss_one (ds_ret (dv 0)))))
theorem sclcm : FnScope Pr.Nlcm Pr.Plcm (defScope slcm) := ⟨rfl, rfl, rfl, by decide +kernel, rfl, by decide +kernel, by decide +kernel⟩
theorem wlcm {w : World} {K : PySem.W.Frag} {mg : Str → Option Value} {base : Heap} (V : Fax K mg) (cgcd : TDef Pg w K mg base 1 "gcd" 2 (Pr.Fgcd ex ow)) (E : XK) (q : Str) (cd : Value) : DSs (Sg.of Pg w K mg base Pr.Nlcm (defScope slcm) 1 E q cd) (defBody slcm) (Pr.tlcm ex ow) :=
  (dss_one (ds_ret (de_mul (de_div (dv 0) (de_callT cgcd (da_cons (dv 0) (da_cons (dv 1) da_nil)) (Nat.le_of_ble_eq_true rfl))) (dv 1))))
theorem scpower : FnScope Pr.Npower Pr.Ppower (defScope spower) := ⟨rfl, rfl, rfl, by decide +kernel, rfl, by decide +kernel, by decide +kernel⟩
theorem wpower {w : World} {K : PySem.W.Frag} {mg : Str → Option Value} {base : Heap} (V : Fax K mg)  (E : XK) (q : Str) (cd : Value) : DSs (Sg.of Pg w K mg base Pr.Npower (defScope spower) 0 E q cd) (defBody spower) (Pr.tpower ex ow) :=
  (dss_cons (ds_set (i := 2) de_int)
    (dss_cons (ds_for (di_rng1 (da_cons (dv 1) da_nil) V.f_range) (dg_name (i := 3)) (dss_one (ds_set (i := 2) (de_mul (dv 2) (dv 0)))))
    (dss_one (ds_ret (dv 2)))))
theorem sctimes_in : FnScope Pr.Ntimes_in Pr.Ptimes_in (defScope stimes_in) := ⟨rfl, rfl, rfl, by decide +kernel, rfl, by decide +kernel, by decide +kernel⟩
theorem wtimes_in {w : World} {K : PySem.W.Frag} {mg : Str → Option Value} {base : Heap} (V : Fax K mg)  (E : XK) (q : Str) (cd : Value) : DSs (Sg.of Pg w K mg base Pr.Ntimes_in (defScope stimes_in) 0 E q cd) (defBody stimes_in) (Pr.ttimes_in ex ow) :=
  (dss_cons (ds_set (i := 2) de_int)
    (dss_cons (ds_while (fuI 0) (dt_eq (de_mod (dv 0) (dv 1)) de_int) (dss_one (ds_par (i := 0) (j := 2) (da_cons (de_div (dv 0) (dv 1)) (da_cons (de_add (dv 2) de_int) da_nil)))))
    (dss_one (ds_ret (dv 2)))))
theorem scwithout : FnScope Pr.Nwithout Pr.Pwithout (defScope swithout) := ⟨rfl, rfl, rfl, by decide +kernel, rfl, by decide +kernel, by decide +kernel⟩
theorem wwithout {w : World} {K : PySem.W.Frag} {mg : Str → Option Value} {base : Heap} (V : Fax K mg)  (E : XK) (q : Str) (cd : Value) : DSs (Sg.of Pg w K mg base Pr.Nwithout (defScope swithout) 0 E q cd) (defBody swithout) (Pr.twithout ex ow) :=
  (dss_cons (ds_while (fuI 0) (dt_eq (de_mod (dv 0) (dv 1)) de_int) (dss_one (ds_set (i := 0) (de_div (dv 0) (dv 1)))))
    (dss_one (ds_ret (dv 0))))
theorem scparted : FnScope Pr.Nparted Pr.Pparted (defScope sparted) := ⟨rfl, rfl, rfl, by decide +kernel, rfl, by decide +kernel, by decide +kernel⟩
theorem wparted {w : World} {K : PySem.W.Frag} {mg : Str → Option Value} {base : Heap} (V : Fax K mg) (cwithout : TDef Pg w K mg base 1 "without" 2 (Pr.Fwithout ex ow)) (E : XK) (q : Str) (cd : Value) : DSs (Sg.of Pg w K mg base Pr.Nparted (defScope sparted) 1 E q cd) (defBody sparted) (Pr.tparted ex ow) :=
  (dss_cons (ds_set (i := 1) (de_lst true da_nil))
    (dss_cons (ds_set (i := 2) de_int)
    (dss_cons (ds_while (fuI 0) (DW.dt (dw_and (dt_le (dv 2) (de_gint V.nLIMIT)) (dw_and1 (dt_le (de_mul (dv 2) (dv 2)) (dv 0))))) (dss_cons (ds_if (dt_eq (de_mod (dv 0) (dv 2)) de_int) (dss_cons (ds_expr (de_append (dv 1) (dv 2)))
    (dss_one (ds_set (i := 0) (de_callT cwithout (da_cons (dv 0) (da_cons (dv 2) da_nil)) (Nat.le_of_ble_eq_true rfl))))) dss_nil)
    (dss_one (ds_set (i := 2) (de_if (dt_eq (dv 2) de_int) (de_add (dv 2) de_int) (de_add (dv 2) de_int))))))
    (dss_cons (ds_if (dt_chain op_ltX op_leX ok_lt ok_le de_int (dv 0) (de_gint V.nGREAT)) (dss_cons (ds_expr (de_append (dv 1) (dv 0)))
    (dss_one (ds_set (i := 0) de_int))) dss_nil)
    (dss_one (ds_ret (de_tup (da_cons (dv 1) (da_cons (dv 0) da_nil)))))))))
theorem scroot : FnScope Pr.Nroot Pr.Proot (defScope sroot) := ⟨rfl, rfl, rfl, by decide +kernel, rfl, by decide +kernel, by decide +kernel⟩
theorem wroot {w : World} {K : PySem.W.Frag} {mg : Str → Option Value} {base : Heap} (V : Fax K mg) (cpower : TDef Pg w K mg base 1 "power" 2 (Pr.Fpower ex ow)) (E : XK) (q : Str) (cd : Value) : DSs (Sg.of Pg w K mg base Pr.Nroot (defScope sroot) 1 E q cd) (defBody sroot) (Pr.troot ex ow) :=
  (dss_cons (ds_asg (de_tup (da_cons de_int (da_cons de_int da_nil))) (dg_tup (dgs_cons (dg_name (i := 2)) (dgs_cons (dg_name (i := 3)) dgs_nil))))
    (dss_cons (ds_while (fun _ _ => 5000) (dt_le (de_callT cpower (da_cons (dv 3) (da_cons (dv 1) da_nil)) (Nat.le_of_ble_eq_true rfl)) (dv 0)) (dss_one (ds_par (i := 2) (j := 3) (da_cons (dv 3) (da_cons (de_mul de_int (dv 3)) da_nil)))))
    (dss_cons (ds_while (fun _ _ => 5000) (dt_gt (de_sub (dv 3) (dv 2)) de_int) (dss_cons (ds_set (i := 4) (de_div (de_add (dv 2) (dv 3)) de_int))
    (dss_one (ds_if (dt_le (de_callT cpower (da_cons (dv 4) (da_cons (dv 1) da_nil)) (Nat.le_of_ble_eq_true rfl)) (dv 0)) (dss_one (ds_set (i := 2) (dv 4))) (dss_one (ds_set (i := 3) (dv 4)))))))
    (dss_one (ds_ret (dv 2))))))
theorem scleast_root : FnScope Pr.Nleast_root Pr.Pleast_root (defScope sleast_root) := ⟨rfl, rfl, rfl, by decide +kernel, rfl, by decide +kernel, by decide +kernel⟩
theorem wleast_root {w : World} {K : PySem.W.Frag} {mg : Str → Option Value} {base : Heap} (V : Fax K mg) (cpower : TDef Pg w K mg base 1 "power" 2 (Pr.Fpower ex ow)) (croot : TDef Pg w K mg base 2 "root" 2 (Pr.Froot ex ow)) (k : Nat) (k0 : 2 ≤ k) {Frec : TF} {j : Nat} (Trec : TDef Pg w K mg base j "least_root" 1 Frec) (hk : j ≤ k) (q : Str) (cd : Value) (E : XK) : DSs (Sg.of Pg w K mg base Pr.Nleast_root (defScope sleast_root) k E q cd) (defBody sleast_root) (Pr.tleast_root ex ow Frec) :=
  (dss_cons (ds_set (i := 1) de_int)
    (dss_cons (ds_while (fun _ _ => 100) (dt_le (de_callT cpower (da_cons (de_gint V.nLIMIT) (da_cons (dv 1) da_nil)) (Nat.le_trans (by decide) k0)) (dv 0)) (dss_cons (ds_set (i := 2) (de_callT croot (da_cons (dv 0) (da_cons (dv 1) da_nil)) (Nat.le_trans (by decide) k0)))
    (dss_cons (ds_if (dt_eq (de_callT cpower (da_cons (dv 2) (da_cons (dv 1) da_nil)) (Nat.le_trans (by decide) k0)) (dv 0)) (dss_one (ds_ret (de_callT Trec (da_cons (dv 2) da_nil) hk))) dss_nil)
    (dss_one (ds_set (i := 1) (de_add (dv 1) de_int))))))
    (dss_one (ds_ret (dv 0)))))
theorem Tleast_root {w : World} {K : PySem.W.Frag} {mg : Str → Option Value} {base : Heap} (V : Fax K mg) (cpower : TDef Pg w K mg base 1 "power" 2 (Pr.Fpower ex ow)) (croot : TDef Pg w K mg base 2 "root" 2 (Pr.Froot ex ow)) {f : Addr} {fd : FuncData} (F : FunD K "least_root" "least_root" (defArgs sleast_root) (defBody sleast_root) (defScope sleast_root) [] [] f fd) (hf : mg "least_root" = some (.ref f)) : ∀ n : Nat, TDef Pg w K mg base (2 + n) "least_root" 1 (Pr.Fleast_root ex ow n)
  | 0 => tdef_none F hf (F.bindsN (ps := Pr.Pleast_root) fun _ _ _ _ _ _ us hl => match us, hl with | [_], _ => rfl) fun _ _ => rfl
  | n + 1 => tdef_of F hf scleast_root (F.bindsN (ps := Pr.Pleast_root) fun _ _ _ _ _ _ us hl => match us, hl with | [_], _ => rfl) fun E => wleast_root V cpower croot (2 + n) (by omega) (Tleast_root V cpower croot F hf n) (by show _ ≤ _; exact Nat.le_refl _) _ _ E
theorem scsplit : FnScope Pr.Nsplit Pr.Psplit (defScope ssplit) := ⟨rfl, rfl, rfl, by decide +kernel, rfl, by decide +kernel, by decide +kernel⟩
theorem wsplit {w : World} {K : PySem.W.Frag} {mg : Str → Option Value} {base : Heap} (V : Fax K mg) (cgcd : TDef Pg w K mg base 1 "gcd" 2 (Pr.Fgcd ex ow)) (E : XK) (q : Str) (cd : Value) : DSs (Sg.of Pg w K mg base Pr.Nsplit (defScope ssplit) 1 E q cd) (defBody ssplit) (Pr.tsplit ex ow) :=
  (dss_cons (ds_for (di_enum (da_cons (dv 1) da_nil) V.f_enumerate) (dg_tup (dgs_cons (dg_name (i := 2)) (dgs_cons (dg_name (i := 3)) dgs_nil))) (dss_cons (ds_set (i := 4) (de_callT cgcd (da_cons (dv 0) (da_cons (dv 3) da_nil)) (Nat.le_of_ble_eq_true rfl)))
    (dss_one (ds_if (dt_gt (dv 4) de_int) (dss_cons (ds_if (dt_eq (dv 0) (dv 3)) (dss_one (ds_ret (de_tup (da_cons (dv 1) (da_cons (de_lst false da_nil) da_nil))))) dss_nil)
    (dss_one (ds_ret (de_tup (da_cons (de_addU false (de_sl false (dv 1) do_nil (do_some (dv 2))) (de_sl false (dv 1) (do_some (de_add (dv 2) de_int)) do_nil)) (da_cons (de_lst false (da_cons (dv 4) (da_cons (de_div (dv 0) (dv 4)) (da_cons (de_div (dv 3) (dv 4)) da_nil)))) da_nil)))))) dss_nil))))
    (dss_one (ds_ret (de_tup (da_cons (de_lst false (da_star (dv 1) (da_cons (dv 0) da_nil))) (da_cons (de_lst false da_nil) da_nil))))))
theorem screfined : FnScope Pr.Nrefined Pr.Prefined (defScope srefined) := ⟨rfl, rfl, rfl, by decide +kernel, rfl, by decide +kernel, by decide +kernel⟩
theorem wrefined {w : World} {K : PySem.W.Frag} {mg : Str → Option Value} {base : Heap} (V : Fax K mg) (cleast_root : TDef Pg w K mg base 7 "least_root" 1 (Pr.Fleast_root ex ow 4)) (csplit : TDef Pg w K mg base 2 "split" 2 (Pr.Fsplit ex ow)) (E : XK) (q : Str) (cd : Value) : DSs (Sg.of Pg w K mg base Pr.Nrefined (defScope srefined) 7 E q cd) (defBody srefined) (Pr.trefined ex ow) :=
  (dss_cons (ds_par (i := 1) (j := 2) (da_cons (de_lst false da_nil) (da_cons (de_list false V.f_list (da_cons (dv 0) da_nil)) da_nil)))
    (dss_cons (ds_while (fun _ _ => 1000) (dt_ne (dv 2) (de_lst false da_nil)) (dss_cons (ds_par (i := 3) (j := 2) (da_cons (de_ix (dv 2) (de_neg de_int)) (da_cons (de_sl false (dv 2) do_nil (do_some (de_neg de_int))) da_nil)))
    (dss_one (ds_if (dt_gt (dv 3) de_int) (dss_cons (ds_asg (de_callT csplit (da_cons (de_callT cleast_root (da_cons (dv 3) da_nil) (Nat.le_of_ble_eq_true rfl)) (da_cons (dv 1) da_nil)) (Nat.le_of_ble_eq_true rfl)) (dg_tup (dgs_cons (dg_name (i := 1)) (dgs_cons (dg_name (i := 4)) dgs_nil))))
    (dss_one (ds_set (i := 2) (de_cat false (dv 2) (dv 4))))) dss_nil))))
    (dss_one (ds_ret (dv 1)))))
theorem scbases : FnScope Pr.Nbases Pr.Pbases (defScope sbases) := ⟨rfl, rfl, rfl, by decide +kernel, rfl, by decide +kernel, by decide +kernel⟩
theorem wbases {w : World} {K : PySem.W.Frag} {mg : Str → Option Value} {base : Heap} (V : Fax K mg) (cparted : TDef Pg w K mg base 2 "parted" 1 (Pr.Fparted ex ow)) (crefined : TDef Pg w K mg base 8 "refined" 1 (Pr.Frefined ex ow)) (E : XK) (q : Str) (cd : Value) : DSs (Sg.of Pg w K mg base Pr.Nbases (defScope sbases) 8 E q cd) (defBody sbases) (Pr.tbases ex ow) :=
  (dss_two 3 (dss_cut (dss_cons (ds_setLc (i := 1) false [("number", 6)] (di_any (dv 0)) (dg_name (i := 6)) dts_nil (de_callT cparted (da_cons (dv 6) da_nil) (Nat.le_of_ble_eq_true rfl)) (ok := by dsimp only [Sg.lam, Sg.of, Sg.blk]; decide +kernel))
    (dss_cons (ds_set (i := 2) (de_lst true da_nil))
    (dss_one (ds_for (di_lst (dv 1)) (dg_tup (dgs_cons (dg_name (i := 3)) (dgs_cons (dg_name (i := 4)) dgs_nil))) (dss_one (ds_expr (de_extend (dv 2) (dv 3)))))))))
    (dss_cons (ds_set (i := 5) (de_callT crefined (da_cons (de_lst false (da_star (de_lc false [("primes", 3), ("left", 4)] (di_lst (dv 1)) (dg_tup (dgs_cons (dg_name (i := 3)) (dgs_cons (dg_name (i := 4)) dgs_nil))) dts_nil (dv 4) (ok := by dsimp only [Sg.lam, Sg.of, Sg.blk]; decide +kernel)) (da_star (de_lc false [("prime", 7)] (di_lst (dv 2)) (dg_name (i := 7)) (dts_one (dt_gt (dv 7) (de_gint V.nLIMIT))) (dv 7) (ok := by dsimp only [Sg.lam, Sg.of, Sg.blk]; decide +kernel)) da_nil))) da_nil) (Nat.le_of_ble_eq_true rfl)))
    (dss_one (ds_ret (de_sortSetI false V.f_sorted V.f_set (da_cons (de_lc false [("one", 8)] (di_lst (de_cat false (de_lc false [("prime", 7)] (di_lst (dv 2)) (dg_name (i := 7)) (dts_one (dt_le (dv 7) (de_gint V.nLIMIT))) (dv 7) (ok := by dsimp only [Sg.lam, Sg.of, Sg.blk]; decide +kernel)) (dv 5))) (dg_name (i := 8)) dts_nil (de_intc V.f_int (da_cons (dv 8) da_nil)) (ok := by dsimp only [Sg.lam, Sg.of, Sg.blk]; decide +kernel)) da_nil))))))
theorem scdivisors_by : FnScope Pr.Ndivisors_by Pr.Pdivisors_by (defScope sdivisors_by) := ⟨rfl, rfl, rfl, by decide +kernel, rfl, by decide +kernel, by decide +kernel⟩
theorem wdivisors_by {w : World} {K : PySem.W.Frag} {mg : Str → Option Value} {base : Heap} (V : Fax K mg) (cpower : TDef Pg w K mg base 1 "power" 2 (Pr.Fpower ex ow)) (ctimes_in : TDef Pg w K mg base 1 "times_in" 2 (Pr.Ftimes_in ex ow)) (E : XK) (q : Str) (cd : Value) : DSs (Sg.of Pg w K mg base Pr.Ndivisors_by (defScope sdivisors_by) 1 E q cd) (defBody sdivisors_by) (Pr.tdivisors_by ex ow) :=
  (dss_cons (ds_set (i := 2) (de_lst false (da_cons de_int da_nil)))
    (dss_cons (ds_for (di_any (dv 1)) (dg_name (i := 3)) (dss_cons (ds_setK (i := 4) (de_lc false [("many", 5)] (di_rng1 (da_cons (de_add (de_callT ctimes_in (da_cons (dv 0) (da_cons (dv 3) da_nil)) (Nat.le_of_ble_eq_true rfl)) de_int) da_nil) V.f_range) (dg_name (i := 5)) dts_nil (de_callT cpower (da_cons (dv 3) (da_cons (dv 5) da_nil)) (Nat.le_of_ble_eq_true rfl)) (ok := by dsimp only [Sg.lam, Sg.of, Sg.blk]; decide +kernel)))
    (dss_one (ds_setLc2 (i := 2) false [("one", 6), ("other", 7)] [7] (di_lst (dv 2)) (dg_name (i := 6)) dts_nil (div_lst (dv 4)) (dg_name (i := 7)) dts_nil (de_mul (dv 6) (dv 7)) (ok := by dsimp only [Sg.lam, Sg.of, Sg.blk]; decide +kernel)))))
    (dss_one (ds_ret (de_sortI false V.f_sorted (da_cons (de_lc false [("one", 6)] (di_lst (dv 2)) (dg_name (i := 6)) dts_nil (de_intc V.f_int (da_cons (dv 6) da_nil)) (ok := by dsimp only [Sg.lam, Sg.of, Sg.blk]; decide +kernel)) da_nil))))))
theorem scdivisors : FnScope Pr.Ndivisors Pr.Pdivisors (defScope sdivisors) := ⟨rfl, rfl, rfl, by decide +kernel, rfl, by decide +kernel, by decide +kernel⟩
theorem wdivisors {w : World} {K : PySem.W.Frag} {mg : Str → Option Value} {base : Heap} (V : Fax K mg) (cbases : TDef Pg w K mg base 9 "bases" 1 (Pr.Fbases ex ow)) (cdivisors_by : TDef Pg w K mg base 2 "divisors_by" 2 (Pr.Fdivisors_by ex ow)) (E : XK) (q : Str) (cd : Value) : DSs (Sg.of Pg w K mg base Pr.Ndivisors (defScope sdivisors) 9 E q cd) (defBody sdivisors) (Pr.tdivisors ex ow) :=
  (dss_one (ds_ret (de_callT cdivisors_by (da_cons (dv 0) (da_cons (de_callT cbases (da_cons (de_lst false (da_cons (dv 0) da_nil)) da_nil) (Nat.le_of_ble_eq_true rfl)) da_nil)) (Nat.le_of_ble_eq_true rfl))))
theorem scleast_table : FnScope Pr.Nleast_table Pr.Pleast_table (defScope sleast_table) := ⟨rfl, rfl, rfl, by decide +kernel, rfl, by decide +kernel, by decide +kernel⟩
theorem wleast_table {w : World} {K : PySem.W.Frag} {mg : Str → Option Value} {base : Heap} (V : Fax K mg) (cgcd : TDef Pg w K mg base 1 "gcd" 2 (Pr.Fgcd ex ow)) (E : XK) (q : Str) (cd : Value) : DSs (Sg.of Pg w K mg base Pr.Nleast_table (defScope sleast_table) 1 E q cd) (defBody sleast_table) (Pr.tleast_table ex ow) :=
  (dss_cons (ds_for (di_any (dv 2)) (dg_name (i := 3)) (dss_one (ds_while (fuI 0) (DW.dt (dw_and (dt_eq (de_mod (dv 0) (dv 3)) de_int) (dw_and1 (dt_tru (de_all V.f_all (da_cons (de_lc false [("one", 4)] (di_keys (dv 1)) (dg_name (i := 4)) dts_nil (de_eq (de_dget (dv 1) (dv 4)) (de_dget (dv 1) (de_callT cgcd (da_cons (dv 4) (da_cons (de_div (dv 0) (dv 3)) da_nil)) (Nat.le_of_ble_eq_true rfl)))) (ok := by dsimp only [Sg.lam, Sg.of, Sg.blk]; decide +kernel)) da_nil)))))) (dss_cons (ds_set (i := 0) (de_div (dv 0) (dv 3)))
    (dss_one (ds_setK (i := 1) (de_dc false [("one", 4)] (di_keys (dv 1)) (dg_name (i := 4)) (dts_one (dt_eq (de_mod (dv 0) (dv 4)) de_int)) (dv 4) (de_dget (dv 1) (dv 4)) (ok := by dsimp only [Sg.lam, Sg.of, Sg.blk]; decide +kernel))))))))
    (dss_one (ds_ret (de_tup (da_cons (dv 0) (da_cons (dv 1) da_nil))))))
theorem scword_of : FnScope Pr.Nword_of Pr.Pword_of (defScope sword_of) := ⟨rfl, rfl, rfl, by decide +kernel, rfl, by decide +kernel, by decide +kernel⟩
theorem wword_of {w : World} {K : PySem.W.Frag} {mg : Str → Option Value} {base : Heap} (V : Fax K mg)  (E : XK) (q : Str) (cd : Value) : DSs (Sg.of Pg w K mg base Pr.Nword_of (defScope sword_of) 0 E q cd) (defBody sword_of) (Pr.tword_of ex ow) :=
  (dss_cons (ds_match (dv 0) (dm_cons (dss_one (ds_ret (de_or (dv 1) (de_one (dv 2))))) (dm_cons (dss_one (ds_ret (de_and (dv 1) (de_one (dv 2))))) (dm_cons (dss_one (ds_ret (de_and (dv 1) (de_one (de_not (dv 2)))))) dm_nil))))
    (dss_one (ds_ret (de_ne (dv 1) (dv 2)))))
theorem scRaw___init__ : FnScope Pr.NRaw___init__ Pr.PRaw___init__ (defScope sRaw___init__) := ⟨rfl, rfl, rfl, by decide +kernel, rfl, by decide +kernel, by decide +kernel⟩
theorem wRaw___init__ {w : World} {K : PySem.W.Frag} {mg : Str → Option Value} {base : Heap} (V : Fax K mg)  (E : XK) (q : Str) (cd : Value) : DSs (Sg.of Pg w K mg base Pr.NRaw___init__ (defScope sRaw___init__) 0 E q cd) (defBody sRaw___init__) (Pr.tRaw___init__ ex ow) :=
  (dss_cons (ds_slf V.bown_whole (dv 0) (dv 1))
    (dss_cons (ds_slf V.bown_primes (dv 0) (de_lc false [("prime", 5)] (di_any (dv 4)) (dg_name (i := 5)) (dts_one (dt_eq (de_mod (dv 1) (dv 5)) de_int)) (dv 5) (ok := by dsimp only [Sg.lam, Sg.of, Sg.blk]; decide +kernel)))
    (dss_cons (ds_slf V.bown_shares (dv 0) (de_dc false [("one", 6)] (di_any (dv 2)) (dg_name (i := 6)) dts_nil (dv 6) de_bl (ok := by dsimp only [Sg.lam, Sg.of, Sg.blk]; decide +kernel)))
    (dss_one (ds_slf V.bown_others (dv 0) (de_dc false [("one", 6)] (di_any (dv 3)) (dg_name (i := 6)) dts_nil (dv 6) de_bl (ok := by dsimp only [Sg.lam, Sg.of, Sg.blk]; decide +kernel)))))))
theorem scRaw_has : FnScope Pr.NRaw_has Pr.PRaw_has (defScope sRaw_has) := ⟨rfl, rfl, rfl, by decide +kernel, rfl, by decide +kernel, by decide +kernel⟩
theorem wRaw_has {w : World} {K : PySem.W.Frag} {mg : Str → Option Value} {base : Heap} (V : Fax K mg) (cgcd : TDef Pg w K mg base 1 "gcd" 2 (Pr.Fgcd ex ow)) (E : XK) (q : Str) (cd : Value) : DSs (Sg.of Pg w K mg base Pr.NRaw_has (defScope sRaw_has) 1 E q cd) (defBody sRaw_has) (Pr.tRaw_has ex ow) :=
  (dss_one (ds_ret (de_ne (de_din (de_callT cgcd (da_cons (dv 1) (da_cons (de_slf V.bown_whole (dv 0)) da_nil)) (Nat.le_of_ble_eq_true rfl)) (de_slf V.bown_shares (dv 0))) (de_din (dv 1) (de_slf V.bown_others (dv 0))))))
theorem scleast_raw : FnScope Pr.Nleast_raw Pr.Pleast_raw (defScope sleast_raw) := ⟨rfl, rfl, rfl, by decide +kernel, rfl, by decide +kernel, by decide +kernel⟩
theorem wleast_raw {w : World} {K : PySem.W.Frag} {mg : Str → Option Value} {base : Heap} (V : Fax K mg) (cdivisors_by : TDef Pg w K mg base 2 "divisors_by" 2 (Pr.Fdivisors_by ex ow)) (cleast_table : TDef Pg w K mg base 2 "least_table" 3 (Pr.Fleast_table ex ow)) (mkRaw0 : TMk Pg w K mg base 1 "Raw" 5 [] (Pr.FRaw___init__ ex ow)) (E : XK) (q : Str) (cd : Value) : DSs (Sg.of Pg w K mg base Pr.Nleast_raw (defScope sleast_raw) 2 E q cd) (defBody sleast_raw) (Pr.tleast_raw ex ow) :=
  (dss_cons (ds_setK (i := 4) (de_dc false [("one", 6)] (di_any (dv 1)) (dg_name (i := 6)) dts_nil (dv 6) de_bl (ok := by dsimp only [Sg.lam, Sg.of, Sg.blk]; decide +kernel)))
    (dss_cons (ds_asg (de_callT cleast_table (da_cons (dv 0) (da_cons (de_dc false [("one", 6)] (di_lst (de_callT cdivisors_by (da_cons (dv 0) (da_cons (dv 3) da_nil)) (Nat.le_of_ble_eq_true rfl))) (dg_name (i := 6)) dts_nil (dv 6) (de_din (dv 6) (dv 4)) (ok := by dsimp only [Sg.lam, Sg.of, Sg.blk]; decide +kernel)) (da_cons (dv 3) da_nil))) (Nat.le_of_ble_eq_true rfl)) (dg_tup (dgs_cons (dg_name (i := 0)) (dgs_cons (dg_name (i := 5)) dgs_nil))))
    (dss_one (ds_ret (de_cut (de_make mkRaw0 (da_cons (dv 0) (da_cons (de_lc false [("one", 6)] (di_keys (dv 5)) (dg_name (i := 6)) (dts_one (dt_tru (de_dget (dv 5) (dv 6)))) (dv 6) (ok := by dsimp only [Sg.lam, Sg.of, Sg.blk]; decide +kernel)) (da_cons (dv 2) (da_cons (dv 3) da_nil)))) (Nat.le_of_ble_eq_true rfl)))))))
theorem scput_together : FnScope Pr.Nput_together Pr.Pput_together (defScope sput_together) := ⟨rfl, rfl, rfl, by decide +kernel, rfl, by decide +kernel, by decide +kernel⟩
theorem wput_together {w : World} {K : PySem.W.Frag} {mg : Str → Option Value} {base : Heap} (V : Fax K mg) (cRaw_has : TMet Pg w K mg base 2 "Raw" "has" 2 (Pr.FRaw_has ex ow)) (cdivisors_by : TDef Pg w K mg base 2 "divisors_by" 2 (Pr.Fdivisors_by ex ow)) (cgcd : TDef Pg w K mg base 1 "gcd" 2 (Pr.Fgcd ex ow)) (clcm : TDef Pg w K mg base 2 "lcm" 2 (Pr.Flcm ex ow)) (cleast_raw : TDef Pg w K mg base 3 "least_raw" 4 (Pr.Fleast_raw ex ow)) (cword_of : TDef Pg w K mg base 1 "word_of" 3 (Pr.Fword_of ex ow)) (mkRaw1 : TMk Pg w K mg base 1 "Raw" 5 [.tup []] (Pr.FRaw___init__ ex ow)) (E : XK) (q : Str) (cd : Value) : DSs (Sg.of Pg w K mg base Pr.Nput_together (defScope sput_together) 3 E q cd) (defBody sput_together) (Pr.tput_together ex ow) :=
  (dss_two 4 (dss_cut (dss_cons (ds_set (i := 3) (de_callT clcm (da_cons (de_slf V.bown_whole (dv 1)) (da_cons (de_slf V.bown_whole (dv 2)) da_nil)) (Nat.le_of_ble_eq_true rfl)))
    (dss_cons (ds_set (i := 4) (de_sortSetI false V.f_sorted V.f_set (da_cons (de_lc false [("prime", 11)] (di_lst (de_lst false (da_star (de_slf V.bown_primes (dv 1)) (da_star (de_slf V.bown_primes (dv 2)) da_nil)))) (dg_name (i := 11)) dts_nil (de_intc V.f_int (da_cons (dv 11) da_nil)) (ok := by dsimp only [Sg.lam, Sg.of, Sg.blk]; decide +kernel)) da_nil)))
    (dss_cons (ds_set (i := 5) (de_lst true da_nil))
    (dss_one (ds_for (di_lst (de_callT cdivisors_by (da_cons (dv 3) (da_cons (dv 4) da_nil)) (Nat.le_of_ble_eq_true rfl))) (dg_name (i := 6)) (dss_cons (ds_set (i := 7) (de_din (de_callT cgcd (da_cons (dv 6) (da_cons (de_slf V.bown_whole (dv 1)) da_nil)) (Nat.le_of_ble_eq_true rfl)) (de_slf V.bown_shares (dv 1))))
    (dss_one (ds_if (dt_tru (de_callT cword_of (da_cons (dv 0) (da_cons (dv 7) (da_cons (de_din (de_callT cgcd (da_cons (dv 6) (da_cons (de_slf V.bown_whole (dv 2)) da_nil)) (Nat.le_of_ble_eq_true rfl)) (de_slf V.bown_shares (dv 2))) da_nil))) (Nat.le_of_ble_eq_true rfl))) (dss_one (ds_expr (de_append (dv 5) (dv 6)))) dss_nil)))))))))
    (dss_cons (ds_asg (de_tup (da_cons (de_cut (de_make mkRaw1 (da_cons (dv 3) (da_cons (dv 5) (da_cons (de_tup da_nil) da_nil))) (Nat.le_of_ble_eq_true rfl))) (da_cons (de_lst false (da_starD (de_slf V.bown_others (dv 1)) (da_starD (de_slf V.bown_others (dv 2)) da_nil))) da_nil))) (dg_tup (dgs_cons (dg_name (i := 8)) (dgs_cons (dg_name (i := 9)) dgs_nil))))
    (dss_cons (ds_setLc (i := 10) false [("dial", 12)] (di_lst (dv 9)) (dg_name (i := 12)) (dts_one (dt_ne (de_meth cRaw_has (dv 8) (da_cons (dv 12) da_nil) (Nat.le_of_ble_eq_true rfl)) (de_callT cword_of (da_cons (dv 0) (da_cons (de_meth cRaw_has (dv 1) (da_cons (dv 12) da_nil) (Nat.le_of_ble_eq_true rfl)) (da_cons (de_meth cRaw_has (dv 2) (da_cons (dv 12) da_nil) (Nat.le_of_ble_eq_true rfl)) da_nil))) (Nat.le_of_ble_eq_true rfl)))) (dv 12) (ok := by dsimp only [Sg.lam, Sg.of, Sg.blk]; decide +kernel))
    (dss_one (ds_ret (de_callT cleast_raw (da_cons (dv 3) (da_cons (dv 5) (da_cons (dv 10) (da_cons (dv 4) da_nil)))) (Nat.le_of_ble_eq_true rfl)))))))
theorem scis_great : FnScope Pr.Nis_great Pr.Pis_great (defScope sis_great) := ⟨rfl, rfl, rfl, by decide +kernel, rfl, by decide +kernel, by decide +kernel⟩
theorem wis_great {w : World} {K : PySem.W.Frag} {mg : Str → Option Value} {base : Heap} (V : Fax K mg)  (E : XK) (q : Str) (cd : Value) : DSs (Sg.of Pg w K mg base Pr.Nis_great (defScope sis_great) 0 E q cd) (defBody sis_great) (Pr.tis_great ex ow) :=
  (dss_one (ds_ret (de_or (de_gt (de_slf V.bown_whole (dv 0)) (de_gint V.nGREAT)) (de_one (de_any V.f_any (da_cons (de_lc false [("dial", 1)] (di_keys (de_slf V.bown_others (dv 0))) (dg_name (i := 1)) dts_nil (de_gt (dv 1) (de_gint V.nGREAT)) (ok := by dsimp only [Sg.lam, Sg.of, Sg.blk]; decide +kernel)) da_nil))))))
theorem scare_divisors : FnScope Pr.Nare_divisors Pr.Pare_divisors (defScope sare_divisors) := ⟨rfl, rfl, rfl, by decide +kernel, rfl, by decide +kernel, by decide +kernel⟩
theorem ware_divisors {w : World} {K : PySem.W.Frag} {mg : Str → Option Value} {base : Heap} (V : Fax K mg) (cdo_ascend : TDef Pg w K mg base 1 "do_ascend" 1 (Pr.Fdo_ascend ex ow)) (cis_integer : TDef Pg w K mg base 2 "is_integer" 3 (Pr.Fis_integer ex ow)) (E : XK) (q : Str) (cd : Value) : DSs (Sg.of Pg w K mg base Pr.Nare_divisors (defScope sare_divisors) 2 E q cd) (defBody sare_divisors) (Pr.tare_divisors ex ow) :=
  (dss_cons (ds_if (DW.dt (dw_or (dt_not (dt_tru (de_isA V.isf V.f_isinstance (da_cons (dv 1) (da_cons (de_gty V.f_tuple (by decide +kernel)) da_nil))))) (dw_or1 (dt_not (dt_tru (de_all V.f_all (da_cons (de_lc false [("one", 2)] (di_any (dv 1)) (dg_name (i := 2)) dts_nil (de_callT cis_integer (da_cons (dv 2) (da_cons de_int (da_cons (dv 0) da_nil))) (Nat.le_of_ble_eq_true rfl)) (ok := by dsimp only [Sg.lam, Sg.of, Sg.blk]; decide +kernel)) da_nil))))))) (dss_one (ds_ret de_bl)) dss_nil)
    (dss_one (ds_ret (de_and (de_callT cdo_ascend (da_cons (dv 1) da_nil) (Nat.le_of_ble_eq_true rfl)) (de_one (de_all V.f_all (da_cons (de_lc false [("one", 2)] (di_any (dv 1)) (dg_name (i := 2)) dts_nil (de_eq (de_mod (dv 0) (dv 2)) de_int) (ok := by dsimp only [Sg.lam, Sg.of, Sg.blk]; decide +kernel)) da_nil)))))))
theorem scare_others : FnScope Pr.Nare_others Pr.Pare_others (defScope sare_others) := ⟨rfl, rfl, rfl, by decide +kernel, rfl, by decide +kernel, by decide +kernel⟩
theorem ware_others {w : World} {K : PySem.W.Frag} {mg : Str → Option Value} {base : Heap} (V : Fax K mg) (cdo_ascend : TDef Pg w K mg base 1 "do_ascend" 1 (Pr.Fdo_ascend ex ow)) (cis_integer : TDef Pg w K mg base 2 "is_integer" 3 (Pr.Fis_integer ex ow)) (E : XK) (q : Str) (cd : Value) : DSs (Sg.of Pg w K mg base Pr.Nare_others (defScope sare_others) 2 E q cd) (defBody sare_others) (Pr.tare_others ex ow) :=
  (dss_cons (ds_if (DW.dt (dw_or (dt_not (dt_tru (de_isA V.isf V.f_isinstance (da_cons (dv 0) (da_cons (de_gty V.f_tuple (by decide +kernel)) da_nil))))) (dw_or1 (dt_not (dt_tru (de_all V.f_all (da_cons (de_lc false [("one", 1)] (di_any (dv 0)) (dg_name (i := 1)) dts_nil (de_callT cis_integer (da_cons (dv 1) (da_cons (de_gint V.nLEAST_DIAL) (da_cons (de_gint V.nGREAT) da_nil))) (Nat.le_of_ble_eq_true rfl)) (ok := by dsimp only [Sg.lam, Sg.of, Sg.blk]; decide +kernel)) da_nil))))))) (dss_one (ds_ret de_bl)) dss_nil)
    (dss_one (ds_ret (de_callT cdo_ascend (da_cons (dv 0) da_nil) (Nat.le_of_ble_eq_true rfl)))))
theorem scrow_text : FnScope Pr.Nrow_text Pr.Prow_text (defScope srow_text) := ⟨rfl, rfl, rfl, by decide +kernel, rfl, by decide +kernel, by decide +kernel⟩
theorem wrow_text {w : World} {K : PySem.W.Frag} {mg : Str → Option Value} {base : Heap} (V : Fax K mg)  (E : XK) (q : Str) (cd : Value) : DSs (Sg.of Pg w K mg base Pr.Nrow_text (defScope srow_text) 0 E q cd) (defBody srow_text) (Pr.trow_text ex ow) :=
  (dss_one (ds_ret (de_if (dt_ne (dv 0) (de_tup da_nil)) (de_join (de_gstr V.nBLANK) (de_lc false [("number", 1)] (di_any (dv 0)) (dg_name (i := 1)) dts_nil (de_strc V.f_str (da_cons (dv 1) da_nil)) (ok := by dsimp only [Sg.lam, Sg.of, Sg.blk]; decide +kernel))) (de_gstr V.nNONE))))
theorem scsigned_parts : FnScope Pr.Nsigned_parts Pr.Psigned_parts (defScope ssigned_parts) := ⟨rfl, rfl, rfl, by decide +kernel, rfl, by decide +kernel, by decide +kernel⟩
theorem wsigned_parts {w : World} {K : PySem.W.Frag} {mg : Str → Option Value} {base : Heap} (V : Fax K mg) (cbases : TDef Pg w K mg base 9 "bases" 1 (Pr.Fbases ex ow)) (E : XK) (q : Str) (cd : Value) : DSs (Sg.of Pg w K mg base Pr.Nsigned_parts (defScope ssigned_parts) 9 E q cd) (defBody ssigned_parts) (Pr.tsigned_parts ex ow) :=
  (dss_cons (ds_set (i := 1) (de_lst false (da_cons (de_tup (da_cons de_int (da_cons de_int da_nil))) da_nil)))
    (dss_cons (ds_for (di_lst (de_callT cbases (da_cons (de_lst false (da_cons (dv 0) da_nil)) da_nil) (Nat.le_of_ble_eq_true rfl))) (dg_name (i := 2)) (dss_one (ds_set (i := 1) (de_cat false (dv 1) (de_lc false [("one", 3), ("sign", 4)] (di_lst (dv 1)) (dg_tup (dgs_cons (dg_name (i := 3)) (dgs_cons (dg_name (i := 4)) dgs_nil))) dts_nil (de_tup (da_cons (de_mul (dv 3) (dv 2)) (da_cons (de_neg (dv 4)) da_nil))) (ok := by dsimp only [Sg.lam, Sg.of, Sg.blk]; decide +kernel))))))
    (dss_one (ds_ret (dv 1)))))
theorem scmany_prime_to : FnScope Pr.Nmany_prime_to Pr.Pmany_prime_to (defScope smany_prime_to) := ⟨rfl, rfl, rfl, by decide +kernel, rfl, by decide +kernel, by decide +kernel⟩
theorem wmany_prime_to {w : World} {K : PySem.W.Frag} {mg : Str → Option Value} {base : Heap} (V : Fax K mg) (csigned_parts : TDef Pg w K mg base 10 "signed_parts" 1 (Pr.Fsigned_parts ex ow)) (E : XK) (q : Str) (cd : Value) : DSs (Sg.of Pg w K mg base Pr.Nmany_prime_to (defScope smany_prime_to) 10 E q cd) (defBody smany_prime_to) (Pr.tmany_prime_to ex ow) :=
  (dss_one (ds_ret (de_sumc V.f_sum (da_cons (de_lc false [("one", 2), ("sign", 3)] (di_lst (de_callT csigned_parts (da_cons (dv 0) da_nil) (Nat.le_of_ble_eq_true rfl))) (dg_tup (dgs_cons (dg_name (i := 2)) (dgs_cons (dg_name (i := 3)) dgs_nil))) dts_nil (de_mul (dv 3) (de_div (dv 1) (dv 2))) (ok := by dsimp only [Sg.lam, Sg.of, Sg.blk]; decide +kernel)) da_nil))))
theorem scDials___init__ : FnScope Pr.NDials___init__ Pr.PDials___init__ (defScope sDials___init__) := ⟨rfl, rfl, rfl, by decide +kernel, rfl, by decide +kernel, by decide +kernel⟩
theorem wDials___init__ {w : World} {K : PySem.W.Frag} {mg : Str → Option Value} {base : Heap} (V : Fax K mg) (care_divisors : TDef Pg w K mg base 3 "are_divisors" 2 (Pr.Fare_divisors ex ow)) (care_others : TDef Pg w K mg base 3 "are_others" 1 (Pr.Fare_others ex ow)) (cbases : TDef Pg w K mg base 9 "bases" 1 (Pr.Fbases ex ow)) (cis_integer : TDef Pg w K mg base 2 "is_integer" 3 (Pr.Fis_integer ex ow)) (cleast_raw : TDef Pg w K mg base 3 "least_raw" 4 (Pr.Fleast_raw ex ow)) (E : XK) (q : Str) (cd : Value) : DSs (Sg.of Pg w K mg base Pr.NDials___init__ (defScope sDials___init__) 9 E q cd) (defBody sDials___init__) (Pr.tDials___init__ ex ow) :=
  (dss_cons (ds_if (dt_not (dt_tru (de_callT cis_integer (da_cons (dv 1) (da_cons de_int (da_cons (de_gint V.nGREAT) da_nil))) (Nat.le_of_ble_eq_true rfl)))) (dss_one (ds_raise V.exf (by decide) V.ifn V.f_super (V.cl _ (by decide)) (Nat.le_of_ble_eq_true rfl) (dv 1))) dss_nil)
    (dss_cons (ds_if (dt_not (dt_tru (de_callT care_divisors (da_cons (dv 1) (da_cons (dv 2) da_nil)) (Nat.le_of_ble_eq_true rfl)))) (dss_one (ds_raise V.exf (by decide) V.ifn V.f_super (V.cl _ (by decide)) (Nat.le_of_ble_eq_true rfl) (dv 2))) dss_nil)
    (dss_cons (ds_if (dt_not (dt_tru (de_callT care_others (da_cons (dv 3) da_nil) (Nat.le_of_ble_eq_true rfl)))) (dss_one (ds_raise V.exf (by decide) V.ifn V.f_super (V.cl _ (by decide)) (Nat.le_of_ble_eq_true rfl) (dv 3))) dss_nil)
    (dss_one (ds_fld V.aown_raw (dv 0) (de_callT cleast_raw (da_cons (dv 1) (da_cons (dv 2) (da_cons (dv 3) (da_cons (de_callT cbases (da_cons (de_lst false (da_cons (dv 1) da_nil)) da_nil) (Nat.le_of_ble_eq_true rfl)) da_nil)))) (Nat.le_of_ble_eq_true rfl)))))))
theorem sctold_raw : FnScope Pr.Ntold_raw Pr.Ptold_raw (defScope stold_raw) := ⟨rfl, rfl, rfl, by decide +kernel, rfl, by decide +kernel, by decide +kernel⟩
theorem wtold_raw {w : World} {K : PySem.W.Frag} {mg : Str → Option Value} {base : Heap} (V : Fax K mg) (cis_great : TDef Pg w K mg base 1 "is_great" 1 (Pr.Fis_great ex ow)) (mkDials0 : TMk Pg w K mg base 10 "Dials" 4 [] (Pr.FDials___init__ ex ow)) (E : XK) (q : Str) (cd : Value) : DSs (Sg.of Pg w K mg base Pr.Ntold_raw (defScope stold_raw) 11 E q cd) (defBody stold_raw) (Pr.ttold_raw ex ow) :=
  (dss_cons (ds_if (dt_tru (de_callT cis_great (da_cons (dv 0) da_nil) (Nat.le_of_ble_eq_true rfl))) (dss_one (ds_raise V.exf (by decide) V.ifn V.f_super (V.cl _ (by decide)) (Nat.le_of_ble_eq_true rfl) (de_gint V.nGREAT))) dss_nil)
    (dss_one (ds_ret (de_cut (de_make mkDials0 (da_cons (de_slf V.bown_whole (dv 0)) (da_cons (de_tuple V.f_tuple (da_cons (de_sortSetDI false V.f_sorted V.f_set (da_cons (de_slf V.bown_shares (dv 0)) da_nil)) da_nil)) (da_cons (de_tuple V.f_tuple (da_cons (de_sortSetDI false V.f_sorted V.f_set (da_cons (de_slf V.bown_others (dv 0)) da_nil)) da_nil)) da_nil))) (Nat.le_of_ble_eq_true rfl))))))
theorem scDials_whole : FnScope Pr.NDials_whole Pr.PDials_whole (defScope sDials_whole) := ⟨rfl, rfl, rfl, by decide +kernel, rfl, by decide +kernel, by decide +kernel⟩
theorem wDials_whole {w : World} {K : PySem.W.Frag} {mg : Str → Option Value} {base : Heap} (V : Fax K mg)  (E : XK) (q : Str) (cd : Value) : DSs (Sg.of Pg w K mg base Pr.NDials_whole (defScope sDials_whole) 0 E q cd) (defBody sDials_whole) (Pr.tDials_whole ex ow) :=
  (dss_one (ds_ret (de_slf V.bown_whole (de_fld V.aown_raw (dv 0)))))
theorem scDials_shares : FnScope Pr.NDials_shares Pr.PDials_shares (defScope sDials_shares) := ⟨rfl, rfl, rfl, by decide +kernel, rfl, by decide +kernel, by decide +kernel⟩
theorem wDials_shares {w : World} {K : PySem.W.Frag} {mg : Str → Option Value} {base : Heap} (V : Fax K mg)  (E : XK) (q : Str) (cd : Value) : DSs (Sg.of Pg w K mg base Pr.NDials_shares (defScope sDials_shares) 0 E q cd) (defBody sDials_shares) (Pr.tDials_shares ex ow) :=
  (dss_one (ds_ret (de_tuple V.f_tuple (da_cons (de_sortSetDI false V.f_sorted V.f_set (da_cons (de_slf V.bown_shares (de_fld V.aown_raw (dv 0))) da_nil)) da_nil))))
theorem scDials_others : FnScope Pr.NDials_others Pr.PDials_others (defScope sDials_others) := ⟨rfl, rfl, rfl, by decide +kernel, rfl, by decide +kernel, by decide +kernel⟩
theorem wDials_others {w : World} {K : PySem.W.Frag} {mg : Str → Option Value} {base : Heap} (V : Fax K mg)  (E : XK) (q : Str) (cd : Value) : DSs (Sg.of Pg w K mg base Pr.NDials_others (defScope sDials_others) 0 E q cd) (defBody sDials_others) (Pr.tDials_others ex ow) :=
  (dss_one (ds_ret (de_tuple V.f_tuple (da_cons (de_sortSetDI false V.f_sorted V.f_set (da_cons (de_slf V.bown_others (de_fld V.aown_raw (dv 0))) da_nil)) da_nil))))
theorem scDials_text : FnScope Pr.NDials_text Pr.PDials_text (defScope sDials_text) := ⟨rfl, rfl, rfl, by decide +kernel, rfl, by decide +kernel, by decide +kernel⟩
theorem wDials_text {w : World} {K : PySem.W.Frag} {mg : Str → Option Value} {base : Heap} (V : Fax K mg) (cDials_others : TProp Pg w K mg base 1 "Dials" "others" (Pr.FDials_others ex ow)) (cDials_shares : TProp Pg w K mg base 1 "Dials" "shares" (Pr.FDials_shares ex ow)) (cDials_whole : TProp Pg w K mg base 1 "Dials" "whole" (Pr.FDials_whole ex ow)) (crow_text : TDef Pg w K mg base 1 "row_text" 1 (Pr.Frow_text ex ow)) (E : XK) (q : Str) (cd : Value) : DSs (Sg.of Pg w K mg base Pr.NDials_text (defScope sDials_text) 2 E q cd) (defBody sDials_text) (Pr.tDials_text ex ow) :=
  (dss_one (ds_ret (de_join (de_gstr V.nBETWEEN) (de_lst false (da_cons (de_strc V.f_str (da_cons (de_prop cDials_whole (dv 0) (Nat.le_of_ble_eq_true rfl)) da_nil)) (da_cons (de_callT crow_text (da_cons (de_prop cDials_shares (dv 0) (Nat.le_of_ble_eq_true rfl)) da_nil) (Nat.le_of_ble_eq_true rfl)) (da_cons (de_callT crow_text (da_cons (de_prop cDials_others (dv 0) (Nat.le_of_ble_eq_true rfl)) da_nil) (Nat.le_of_ble_eq_true rfl)) da_nil)))))))
theorem scDials___contains__ : FnScope Pr.NDials___contains__ Pr.PDials___contains__ (defScope sDials___contains__) := ⟨rfl, rfl, rfl, by decide +kernel, rfl, by decide +kernel, by decide +kernel⟩
theorem wDials___contains__ {w : World} {K : PySem.W.Frag} {mg : Str → Option Value} {base : Heap} (V : Fax K mg) (cRaw_has : TMet Pg w K mg base 2 "Raw" "has" 2 (Pr.FRaw_has ex ow)) (cis_whole : TDef Pg w K mg base 1 "is_whole" 1 (Pr.Fis_whole ex ow)) (E : XK) (q : Str) (cd : Value) : DSs (Sg.of Pg w K mg base Pr.NDials___contains__ (defScope sDials___contains__) 2 E q cd) (defBody sDials___contains__) (Pr.tDials___contains__ ex ow) :=
  (dss_one (ds_ret (de_and (de_callT cis_whole (da_cons (dv 1) da_nil) (Nat.le_of_ble_eq_true rfl)) (de_and (de_ge (dv 1) (de_gint V.nLEAST_DIAL)) (de_one (de_meth cRaw_has (de_fld V.aown_raw (dv 0)) (da_cons (dv 1) da_nil) (Nat.le_of_ble_eq_true rfl)))))))
theorem scnext_with : FnScope Pr.Nnext_with Pr.Pnext_with (defScope snext_with) := ⟨rfl, rfl, rfl, by decide +kernel, rfl, by decide +kernel, by decide +kernel⟩
theorem wnext_with {w : World} {K : PySem.W.Frag} {mg : Str → Option Value} {base : Heap} (V : Fax K mg) (cDials___contains__ : TMet Pg w K mg base 3 "Dials" "__contains__" 2 (Pr.FDials___contains__ ex ow)) (cDials_whole : TProp Pg w K mg base 1 "Dials" "whole" (Pr.FDials_whole ex ow)) (cgcd : TDef Pg w K mg base 1 "gcd" 2 (Pr.Fgcd ex ow)) (E : XK) (q : Str) (cd : Value) : DSs (Sg.of Pg w K mg base Pr.Nnext_with (defScope snext_with) 3 E q cd) (defBody snext_with) (Pr.tnext_with ex ow) :=
  (dss_cons (ds_set (i := 3) (de_add (de_div (dv 2) (dv 1)) de_int))
    (dss_cons (ds_while (fun _ _ => 200000) (DW.dt (dw_or (dt_gt (de_callT cgcd (da_cons (dv 3) (da_cons (de_div (de_prop cDials_whole (dv 0) (Nat.le_of_ble_eq_true rfl)) (dv 1)) da_nil)) (Nat.le_of_ble_eq_true rfl)) de_int) (dw_or1 (dt_cmpS (op_ninO cDials___contains__ (Nat.le_of_ble_eq_true rfl)) rfl (de_mul (dv 3) (dv 1)) (dv 0))))) (dss_one (ds_set (i := 3) (de_add (dv 3) de_int))))
    (dss_one (ds_ret (de_mul (dv 3) (dv 1))))))
theorem scDials_after : FnScope Pr.NDials_after Pr.PDials_after (defScope sDials_after) := ⟨rfl, rfl, rfl, by decide +kernel, rfl, by decide +kernel, by decide +kernel⟩
theorem wDials_after {w : World} {K : PySem.W.Frag} {mg : Str → Option Value} {base : Heap} (V : Fax K mg) (cDials___contains__ : TMet Pg w K mg base 3 "Dials" "__contains__" 2 (Pr.FDials___contains__ ex ow)) (cDials_others : TProp Pg w K mg base 1 "Dials" "others" (Pr.FDials_others ex ow)) (cDials_shares : TProp Pg w K mg base 1 "Dials" "shares" (Pr.FDials_shares ex ow)) (cis_integer : TDef Pg w K mg base 2 "is_integer" 3 (Pr.Fis_integer ex ow)) (cnext_with : TDef Pg w K mg base 4 "next_with" 3 (Pr.Fnext_with ex ow)) (E : XK) (q : Str) (cd : Value) : DSs (Sg.of Pg w K mg base Pr.NDials_after (defScope sDials_after) 4 E q cd) (defBody sDials_after) (Pr.tDials_after ex ow) :=
  (dss_two 3 (dss_cut (dss_cons (ds_if (dt_not (dt_tru (de_callT cis_integer (da_cons (dv 1) (da_cons de_int (da_cons (de_gint V.nGREAT) da_nil))) (Nat.le_of_ble_eq_true rfl)))) (dss_one (ds_raise V.exf (by decide) V.ifn V.f_super (V.cl _ (by decide)) (Nat.le_of_ble_eq_true rfl) (dv 1))) dss_nil)
    (dss_cons (ds_setLc (i := 2) true [("other", 3)] (di_any (de_prop cDials_others (dv 0) (Nat.le_of_ble_eq_true rfl))) (dg_name (i := 3)) (dts_one (DW.dt (dw_and (dt_gt (dv 3) (dv 1)) (dw_and1 (dt_cmpS (op_inO cDials___contains__ (Nat.le_of_ble_eq_true rfl)) rfl (dv 3) (dv 0)))))) (dv 3) (ok := by dsimp only [Sg.lam, Sg.of, Sg.blk]; decide +kernel))
    (dss_one (ds_expr (de_extend (dv 2) (de_lc false [("share", 4)] (di_any (de_prop cDials_shares (dv 0) (Nat.le_of_ble_eq_true rfl))) (dg_name (i := 4)) dts_nil (de_callT cnext_with (da_cons (dv 0) (da_cons (dv 4) (da_cons (dv 1) da_nil))) (Nat.le_of_ble_eq_true rfl)) (ok := by dsimp only [Sg.lam, Sg.of, Sg.blk]; decide +kernel))))))))
    (dss_one (ds_ret (de_if (dt_ne (dv 2) (de_lst false da_nil)) (de_minL V.f_min (da_cons (de_lc false [("one", 5)] (di_lst (dv 2)) (dg_name (i := 5)) dts_nil (de_intc V.f_int (da_cons (dv 5) da_nil)) (ok := by dsimp only [Sg.lam, Sg.of, Sg.blk]; decide +kernel)) da_nil)) de_non))))
theorem scDials___or__ : FnScope Pr.NDials___or__ Pr.PDials___or__ (defScope sDials___or__) := ⟨rfl, rfl, rfl, by decide +kernel, rfl, by decide +kernel, by decide +kernel⟩
theorem wDials___or__ {w : World} {K : PySem.W.Frag} {mg : Str → Option Value} {base : Heap} (V : Fax K mg) (cput_together : TDef Pg w K mg base 4 "put_together" 3 (Pr.Fput_together ex ow)) (ctold_raw : TDef Pg w K mg base 12 "told_raw" 1 (Pr.Ftold_raw ex ow)) (E : XK) (q : Str) (cd : Value) : DSs (Sg.of Pg w K mg base Pr.NDials___or__ (defScope sDials___or__) 12 E q cd) (defBody sDials___or__) (Pr.tDials___or__ ex ow) :=
  (dss_cons (ds_if (dt_not (dt_tru (de_isA V.isf V.f_isinstance (da_cons (dv 1) (da_cons (de_gcls V.kDials) da_nil))))) (dss_one ds_never) dss_nil)
    (dss_one (ds_ret (de_callT ctold_raw (da_cons (de_callT cput_together (da_cons (de_gstr V.nOR) (da_cons (de_fld V.aown_raw (dv 0)) (da_cons (de_fld V.aown_raw (dv 1)) da_nil))) (Nat.le_of_ble_eq_true rfl)) da_nil) (Nat.le_of_ble_eq_true rfl)))))
theorem scDials___and__ : FnScope Pr.NDials___and__ Pr.PDials___and__ (defScope sDials___and__) := ⟨rfl, rfl, rfl, by decide +kernel, rfl, by decide +kernel, by decide +kernel⟩
theorem wDials___and__ {w : World} {K : PySem.W.Frag} {mg : Str → Option Value} {base : Heap} (V : Fax K mg) (cput_together : TDef Pg w K mg base 4 "put_together" 3 (Pr.Fput_together ex ow)) (ctold_raw : TDef Pg w K mg base 12 "told_raw" 1 (Pr.Ftold_raw ex ow)) (E : XK) (q : Str) (cd : Value) : DSs (Sg.of Pg w K mg base Pr.NDials___and__ (defScope sDials___and__) 12 E q cd) (defBody sDials___and__) (Pr.tDials___and__ ex ow) :=
  (dss_cons (ds_if (dt_not (dt_tru (de_isA V.isf V.f_isinstance (da_cons (dv 1) (da_cons (de_gcls V.kDials) da_nil))))) (dss_one ds_never) dss_nil)
    (dss_one (ds_ret (de_callT ctold_raw (da_cons (de_callT cput_together (da_cons (de_gstr V.nAND) (da_cons (de_fld V.aown_raw (dv 0)) (da_cons (de_fld V.aown_raw (dv 1)) da_nil))) (Nat.le_of_ble_eq_true rfl)) da_nil) (Nat.le_of_ble_eq_true rfl)))))
theorem scDials___sub__ : FnScope Pr.NDials___sub__ Pr.PDials___sub__ (defScope sDials___sub__) := ⟨rfl, rfl, rfl, by decide +kernel, rfl, by decide +kernel, by decide +kernel⟩
theorem wDials___sub__ {w : World} {K : PySem.W.Frag} {mg : Str → Option Value} {base : Heap} (V : Fax K mg) (cput_together : TDef Pg w K mg base 4 "put_together" 3 (Pr.Fput_together ex ow)) (ctold_raw : TDef Pg w K mg base 12 "told_raw" 1 (Pr.Ftold_raw ex ow)) (E : XK) (q : Str) (cd : Value) : DSs (Sg.of Pg w K mg base Pr.NDials___sub__ (defScope sDials___sub__) 12 E q cd) (defBody sDials___sub__) (Pr.tDials___sub__ ex ow) :=
  (dss_cons (ds_if (dt_not (dt_tru (de_isA V.isf V.f_isinstance (da_cons (dv 1) (da_cons (de_gcls V.kDials) da_nil))))) (dss_one ds_never) dss_nil)
    (dss_one (ds_ret (de_callT ctold_raw (da_cons (de_callT cput_together (da_cons (de_gstr V.nLESS) (da_cons (de_fld V.aown_raw (dv 0)) (da_cons (de_fld V.aown_raw (dv 1)) da_nil))) (Nat.le_of_ble_eq_true rfl)) da_nil) (Nat.le_of_ble_eq_true rfl)))))
theorem scDials___xor__ : FnScope Pr.NDials___xor__ Pr.PDials___xor__ (defScope sDials___xor__) := ⟨rfl, rfl, rfl, by decide +kernel, rfl, by decide +kernel, by decide +kernel⟩
theorem wDials___xor__ {w : World} {K : PySem.W.Frag} {mg : Str → Option Value} {base : Heap} (V : Fax K mg) (cput_together : TDef Pg w K mg base 4 "put_together" 3 (Pr.Fput_together ex ow)) (ctold_raw : TDef Pg w K mg base 12 "told_raw" 1 (Pr.Ftold_raw ex ow)) (E : XK) (q : Str) (cd : Value) : DSs (Sg.of Pg w K mg base Pr.NDials___xor__ (defScope sDials___xor__) 12 E q cd) (defBody sDials___xor__) (Pr.tDials___xor__ ex ow) :=
  (dss_cons (ds_if (dt_not (dt_tru (de_isA V.isf V.f_isinstance (da_cons (dv 1) (da_cons (de_gcls V.kDials) da_nil))))) (dss_one ds_never) dss_nil)
    (dss_one (ds_ret (de_callT ctold_raw (da_cons (de_callT cput_together (da_cons (de_gstr V.nJUST) (da_cons (de_fld V.aown_raw (dv 0)) (da_cons (de_fld V.aown_raw (dv 1)) da_nil))) (Nat.le_of_ble_eq_true rfl)) da_nil) (Nat.le_of_ble_eq_true rfl)))))
theorem scDials___invert__ : FnScope Pr.NDials___invert__ Pr.PDials___invert__ (defScope sDials___invert__) := ⟨rfl, rfl, rfl, by decide +kernel, rfl, by decide +kernel, by decide +kernel⟩
theorem wDials___invert__ {w : World} {K : PySem.W.Frag} {mg : Str → Option Value} {base : Heap} (V : Fax K mg) (cDials_others : TProp Pg w K mg base 1 "Dials" "others" (Pr.FDials_others ex ow)) (cDials_whole : TProp Pg w K mg base 1 "Dials" "whole" (Pr.FDials_whole ex ow)) (cdivisors : TDef Pg w K mg base 10 "divisors" 1 (Pr.Fdivisors ex ow)) (mkDials0 : TMk Pg w K mg base 10 "Dials" 4 [] (Pr.FDials___init__ ex ow)) (E : XK) (q : Str) (cd : Value) : DSs (Sg.of Pg w K mg base Pr.NDials___invert__ (defScope sDials___invert__) 11 E q cd) (defBody sDials___invert__) (Pr.tDials___invert__ ex ow) :=
  (dss_cons (ds_set (i := 1) (de_slf V.bown_shares (de_fld V.aown_raw (dv 0))))
    (dss_one (ds_ret (de_cut (de_make mkDials0 (da_cons (de_prop cDials_whole (dv 0) (Nat.le_of_ble_eq_true rfl)) (da_cons (de_tuple V.f_tuple (da_cons (de_lc false [("one", 2)] (di_lst (de_callT cdivisors (da_cons (de_prop cDials_whole (dv 0) (Nat.le_of_ble_eq_true rfl)) da_nil) (Nat.le_of_ble_eq_true rfl))) (dg_name (i := 2)) (dts_one (dt_ndin (dv 2) (dv 1))) (dv 2) (ok := by dsimp only [Sg.lam, Sg.of, Sg.blk]; decide +kernel)) da_nil)) (da_cons (de_prop cDials_others (dv 0) (Nat.le_of_ble_eq_true rfl)) da_nil))) (Nat.le_of_ble_eq_true rfl))))))
theorem scDials___eq__ : FnScope Pr.NDials___eq__ Pr.PDials___eq__ (defScope sDials___eq__) := ⟨rfl, rfl, rfl, by decide +kernel, rfl, by decide +kernel, by decide +kernel⟩
theorem wDials___eq__ {w : World} {K : PySem.W.Frag} {mg : Str → Option Value} {base : Heap} (V : Fax K mg) (cDials_text : TProp Pg w K mg base 3 "Dials" "text" (Pr.FDials_text ex ow)) (E : XK) (q : Str) (cd : Value) : DSs (Sg.of Pg w K mg base Pr.NDials___eq__ (defScope sDials___eq__) 4 E q cd) (defBody sDials___eq__) (Pr.tDials___eq__ ex ow) :=
  (dss_one (ds_ret (de_and (de_isA V.isf V.f_isinstance (da_cons (dv 1) (da_cons (de_gcls V.kDials) da_nil))) (de_one (de_eq (de_prop cDials_text (dv 0) (Nat.le_of_ble_eq_true rfl)) (de_prop cDials_text (dv 1) (Nat.le_of_ble_eq_true rfl)))))))
theorem scis_below : FnScope Pr.Nis_below Pr.Pis_below (defScope sis_below) := ⟨rfl, rfl, rfl, by decide +kernel, rfl, by decide +kernel, by decide +kernel⟩
theorem wis_below {w : World} {K : PySem.W.Frag} {mg : Str → Option Value} {base : Heap} (V : Fax K mg) (cput_together : TDef Pg w K mg base 4 "put_together" 3 (Pr.Fput_together ex ow)) (E : XK) (q : Str) (cd : Value) : DSs (Sg.of Pg w K mg base Pr.Nis_below (defScope sis_below) 4 E q cd) (defBody sis_below) (Pr.tis_below ex ow) :=
  (dss_cons (ds_set (i := 2) (de_callT cput_together (da_cons (de_gstr V.nLESS) (da_cons (de_fld V.aown_raw (dv 0)) (da_cons (de_fld V.aown_raw (dv 1)) da_nil))) (Nat.le_of_ble_eq_true rfl)))
    (dss_one (ds_ret (de_and (de_cmpS (ops_eqDE) rfl (de_slf V.bown_shares (dv 2)) (de_dct0 false)) (de_one (de_cmpS (ops_eqDE) rfl (de_slf V.bown_others (dv 2)) (de_dct0 false)))))))
theorem scDials___le__ : FnScope Pr.NDials___le__ Pr.PDials___le__ (defScope sDials___le__) := ⟨rfl, rfl, rfl, by decide +kernel, rfl, by decide +kernel, by decide +kernel⟩
theorem wDials___le__ {w : World} {K : PySem.W.Frag} {mg : Str → Option Value} {base : Heap} (V : Fax K mg) (cis_below : TDef Pg w K mg base 5 "is_below" 2 (Pr.Fis_below ex ow)) (E : XK) (q : Str) (cd : Value) : DSs (Sg.of Pg w K mg base Pr.NDials___le__ (defScope sDials___le__) 5 E q cd) (defBody sDials___le__) (Pr.tDials___le__ ex ow) :=
  (dss_cons (ds_if (dt_not (dt_tru (de_isA V.isf V.f_isinstance (da_cons (dv 1) (da_cons (de_gcls V.kDials) da_nil))))) (dss_one ds_never) dss_nil)
    (dss_one (ds_ret (de_callT cis_below (da_cons (dv 0) (da_cons (dv 1) da_nil)) (Nat.le_of_ble_eq_true rfl)))))
theorem sc_law_pot : FnScope N_law_pot P_law_pot (defScope s_law_pot) := ⟨rfl, rfl, rfl, by decide +kernel, rfl, by decide +kernel, by decide +kernel⟩
theorem w_law_pot {w : World} {K : PySem.W.Frag} {mg : Str → Option Value} {base : Heap} (V : Fax K mg)  (E : XK) (q : Str) (cd : Value) : DSs (Sg.of Pg w K mg base N_law_pot (defScope s_law_pot) 0 E q cd) (defBody s_law_pot) t_law_pot :=
  (dss_cons (ds_set (i := 2) (de_if (dt_lt (dv 1) (de_len V.f_len (da_cons (dv 0) da_nil))) (de_ixU (dv 0) (dv 1)) (de_add (de_mul de_int (dv 1)) de_int)))
    (dss_cons (ds_set (i := 3) (de_mul (de_mod (de_intc V.f_int (da_cons (de_abs V.f_abs (da_cons (dv 2) da_nil)) da_nil)) (de_pow (de_pow de_int de_int) de_int)) (de_intc V.f_int (da_cons (de_ge (de_abs V.f_abs (da_cons (dv 2) da_nil)) (de_pow de_int de_int)) da_nil))))
    (dss_cons (ds_set (i := 4) (de_mod (de_intc V.f_int (da_cons (dv 2) da_nil)) de_int))
    (dss_one (ds_ret (de_lst true (da_cons (dv 3) (da_cons (de_mod (de_intc V.f_int (da_cons (de_add (de_add (de_mul (dv 4) de_int) (de_mul (de_mul de_int (dv 1)) (dv 1))) de_int) da_nil)) de_int) (da_cons de_int da_nil)))))))))
theorem sc_law_take : FnScope N_law_take P_law_take (defScope s_law_take) := ⟨rfl, rfl, rfl, by decide +kernel, rfl, by decide +kernel, by decide +kernel⟩
theorem w_law_take {w : World} {K : PySem.W.Frag} {mg : Str → Option Value} {base : Heap} (V : Fax K mg)  (E : XK) (q : Str) (cd : Value) : DSs (Sg.of Pg w K mg base N_law_take (defScope s_law_take) 0 E q cd) (defBody s_law_take) t_law_take :=
  (dss_cons (ds_if (dt_gt (de_ix (dv 0) de_int) de_int) (dss_cons (ds_set (i := 2) (de_mod (de_intc V.f_int (da_cons (de_ix (dv 0) de_int) da_nil)) (dv 1)))
    (dss_cons (ds_asg (de_div (de_ix (dv 0) de_int) (dv 1)) (dg_sub (dv 0) de_int))
    (dss_one (ds_ret (dv 2))))) dss_nil)
    (dss_cons (ds_asg (de_add (de_ix (dv 0) de_int) de_int) (dg_sub (dv 0) de_int))
    (dss_cons (ds_set (i := 3) (de_ix (de_lst false (da_cons de_int (da_cons de_int (da_cons de_int (da_cons de_int (da_cons de_int da_nil)))))) (de_mod (de_intc V.f_int (da_cons (de_ix (dv 0) de_int) da_nil)) de_int)))
    (dss_cons (ds_set (i := 4) (de_mod (de_intc V.f_int (da_cons (de_pow (de_intc V.f_int (da_cons (de_add (de_addU false (de_ix (dv 0) de_int) (de_mul (de_mul de_int (de_ix (dv 0) de_int)) (de_ix (dv 0) de_int))) de_int) da_nil)) de_int) da_nil)) (dv 3)))
    (dss_one (ds_ret (de_mod (de_intc V.f_int (da_cons (de_div (de_mul (dv 4) (de_add (de_mod (de_intc V.f_int (da_cons (dv 4) da_nil)) de_int) (de_mul de_int (de_ix (dv 0) de_int)))) de_int) da_nil)) (dv 1))))))))
theorem sc_law_of : FnScope N_law_of P_law_of (defScope s_law_of) := ⟨rfl, rfl, rfl, by decide +kernel, rfl, by decide +kernel, by decide +kernel⟩
theorem w_law_of {w : World} {K : PySem.W.Frag} {mg : Str → Option Value} {base : Heap} (V : Fax K mg) (c_law_take : TDef Pg w K mg base 1 "_law_take" 2 F_law_take) (E : XK) (q : Str) (cd : Value) : DSs (Sg.of Pg w K mg base N_law_of (defScope s_law_of) 1 E q cd) (defBody s_law_of) t_law_of :=
  (dss_one (ds_ret (de_ix (dv 1) (de_callT c_law_take (da_cons (dv 0) (da_cons (de_len V.f_len (da_cons (dv 1) da_nil)) da_nil)) (Nat.le_of_ble_eq_true rfl)))))
theorem sc_law_places : FnScope N_law_places P_law_places (defScope s_law_places) := ⟨rfl, rfl, rfl, by decide +kernel, rfl, by decide +kernel, by decide +kernel⟩
theorem w_law_places {w : World} {K : PySem.W.Frag} {mg : Str → Option Value} {base : Heap} (V : Fax K mg)  (E : XK) (q : Str) (cd : Value) : DSs (Sg.of Pg w K mg base N_law_places (defScope s_law_places) 0 E q cd) (defBody s_law_places) t_law_places :=
  (dss_one (ds_ret (de_listRg1 false V.f_list V.f_range (de_max2 V.f_max (da_cons de_int (da_cons (de_min2 V.f_min (da_cons (dv 1) (da_cons (de_len V.f_len (da_cons (dv 0) da_nil)) da_nil))) da_nil))))))
theorem sc_law_pairs : FnScope N_law_pairs P_law_pairs (defScope s_law_pairs) := ⟨rfl, rfl, rfl, by decide +kernel, rfl, by decide +kernel, by decide +kernel⟩
theorem w_law_pairs {w : World} {K : PySem.W.Frag} {mg : Str → Option Value} {base : Heap} (V : Fax K mg)  (E : XK) (q : Str) (cd : Value) : DSs (Sg.of Pg w K mg base N_law_pairs (defScope s_law_pairs) 0 E q cd) (defBody s_law_pairs) t_law_pairs :=
  (dss_one (ds_ret (de_lst false (da_cons (de_tup (da_cons de_int (da_cons de_int da_nil))) (da_cons (de_tup (da_cons de_int (da_cons de_int da_nil))) (da_cons (de_tup (da_cons de_int (da_cons de_int da_nil))) (da_cons (de_tup (da_cons de_int (da_cons de_int da_nil))) (da_cons (de_tup (da_cons de_int (da_cons de_int da_nil))) (da_cons (de_tup (da_cons de_int (da_cons de_int da_nil))) (da_cons (de_tup (da_cons de_int (da_cons de_int da_nil))) da_nil))))))))))
theorem sc_law_is_due : FnScope N_law_is_due P_law_is_due (defScope s_law_is_due) := ⟨rfl, rfl, rfl, by decide +kernel, rfl, by decide +kernel, by decide +kernel⟩
theorem w_law_is_due {w : World} {K : PySem.W.Frag} {mg : Str → Option Value} {base : Heap} (V : Fax K mg)  (E : XK) (q : Str) (cd : Value) : DSs (Sg.of Pg w K mg base N_law_is_due (defScope s_law_is_due) 0 E q cd) (defBody s_law_is_due).tail t_law_is_due :=
  (dss_cons (ds_if (dt_tru (dv 1)) (dss_one (ds_ret (de_and (de_isA V.isf V.f_isinstance (da_cons (dv 2) (da_cons (de_gcls (V.cl _ (by decide))) da_nil))) (de_one (de_eq (de_repr V.sys V.f_repr (da_cons (de_valE V.exf (dv 2)) da_nil)) (de_repr V.sys V.f_repr (da_cons (de_pow de_int de_int) da_nil))))))) dss_nil)
    (dss_one (ds_ret (de_isN (dv 2) de_non))))
theorem sc_law_plain_right : FnScope N_law_plain_right P_law_plain_right (defScope s_law_plain_right) := ⟨rfl, rfl, rfl, by decide +kernel, rfl, by decide +kernel, by decide +kernel⟩
theorem w_law_plain_right {w : World} {K : PySem.W.Frag} {mg : Str → Option Value} {base : Heap} (V : Fax K mg) (cDials___and__ : TMet Pg w K mg base 13 "Dials" "__and__" 2 (Pr.FDials___and__ ex ow)) (cDials___invert__ : TMet Pg w K mg base 12 "Dials" "__invert__" 1 (Pr.FDials___invert__ ex ow)) (cDials___le__ : TMet Pg w K mg base 6 "Dials" "__le__" 2 (Pr.FDials___le__ ex ow)) (cDials___or__ : TMet Pg w K mg base 13 "Dials" "__or__" 2 (Pr.FDials___or__ ex ow)) (cDials___sub__ : TMet Pg w K mg base 13 "Dials" "__sub__" 2 (Pr.FDials___sub__ ex ow)) (cDials___xor__ : TMet Pg w K mg base 13 "Dials" "__xor__" 2 (Pr.FDials___xor__ ex ow)) (cDials_after : TMet Pg w K mg base 5 "Dials" "after" 2 (Pr.FDials_after ex ow)) (cDials_shares : TProp Pg w K mg base 1 "Dials" "shares" (Pr.FDials_shares ex ow)) (cDials_whole : TProp Pg w K mg base 1 "Dials" "whole" (Pr.FDials_whole ex ow)) (dueC : DueC Pg w K mg base 0 t_law_is_due) (mkDials1 : TMk Pg w K mg base 10 "Dials" 4 [.tup []] (Pr.FDials___init__ ex ow)) (tldB : TabsB K mg ms base) (tldC : ToldC K mg) (E : XK)  : DSs (Sg.of Pg w K mg base N_law_plain_right (defScope s_law_plain_right) 16 E "_law_plain_right" (cdAt K (He.ga K "_law_plain_right"))) (defBody s_law_plain_right) t_law_plain_right :=
  (dss_cons (ds_asg (de_tup (da_cons (de_cut (de_make mkDials1 (da_cons (dv 0) (da_cons (de_tup (da_cons (dv 0) da_nil)) da_nil)) (Nat.le_of_ble_eq_true rfl))) (da_cons (de_cut (de_make mkDials1 (da_cons (dv 1) (da_cons (de_tup (da_cons (dv 1) da_nil)) da_nil)) (Nat.le_of_ble_eq_true rfl))) (da_cons (de_gt (de_mul (dv 0) (dv 1)) (de_pow de_int de_int)) da_nil)))) (dg_tup (dgs_cons (dg_name (i := 2)) (dgs_cons (dg_name (i := 3)) (dgs_cons (dg_name (i := 4)) dgs_nil)))))
    (dss_looksC (x := "_law_plain_right") (mk := ms) (il := 5) (ik := 7) (iw := 4) 0 13 0 tldC dueC V.exf (V.cl _ V.exf.de) tldB (by decide) (fun _ _ => (de_binS (op_own (op := .BitOr) cDials___or__ (Nat.le_of_ble_eq_true rfl) rfl V.sfDials) (dv 2) (dv 3))) (fun _ _ => (de_binS (op_own (op := .BitAnd) cDials___and__ (Nat.le_of_ble_eq_true rfl) rfl V.sfDials) (dv 2) (dv 3))) (fun _ _ => (de_binS (op_own (op := .Sub) cDials___sub__ (Nat.le_of_ble_eq_true rfl) rfl V.sfDials) (dv 2) (dv 3))) (fun _ _ => (de_binS (op_own (op := .BitXor) cDials___xor__ (Nat.le_of_ble_eq_true rfl) rfl V.sfDials) (dv 2) (dv 3))) (Nat.le_of_ble_eq_true rfl) (by decide) V.f_all (dss_one (ds_ret de_bl))
    (dss_cons (ds_if (DW.dt (dw_or (dt_cmpS (op_cmp_own (op := .LtE) cDials___le__ (Nat.le_of_ble_eq_true rfl) (fun _ _ => rfl) rfl) rfl (dv 2) (dv 3)) (dw_or (dt_cmpS (op_cmp_own (op := .LtE) cDials___le__ (Nat.le_of_ble_eq_true rfl) (fun _ _ => rfl) rfl) rfl (dv 3) (dv 2)) (dw_or (dt_not (dt_cmpS (op_cmp_own (op := .LtE) cDials___le__ (Nat.le_of_ble_eq_true rfl) (fun _ _ => rfl) rfl) rfl (dv 2) (de_unS (un_inv_own cDials___invert__ (Nat.le_of_ble_eq_true rfl)) (de_unS (un_inv_own cDials___invert__ (Nat.le_of_ble_eq_true rfl)) (dv 2))))) (dw_or1 (dt_ne (de_prop cDials_shares (de_unS (un_inv_own cDials___invert__ (Nat.le_of_ble_eq_true rfl)) (dv 2)) (Nat.le_of_ble_eq_true rfl)) (de_tup (da_cons de_int da_nil)))))))) (dss_one (ds_ret de_bl)) dss_nil)
    (dss_cons (ds_if (dt_tru (dv 4)) (dss_one (ds_ret de_bl)) dss_nil)
    (dss_cons (ds_set (i := 6) (de_binS (op_own (op := .BitAnd) cDials___and__ (Nat.le_of_ble_eq_true rfl) rfl V.sfDials) (dv 2) (dv 3)))
    (dss_one (ds_ret (de_and (de_eq (de_prop cDials_whole (dv 6) (Nat.le_of_ble_eq_true rfl)) (de_mul (dv 0) (dv 1))) (de_and (de_eq (de_prop cDials_shares (dv 6) (Nat.le_of_ble_eq_true rfl)) (de_tup (da_cons (de_mul (dv 0) (dv 1)) da_nil))) (de_one (de_eq (de_meth cDials_after (dv 6) (da_cons de_int da_nil) (Nat.le_of_ble_eq_true rfl)) (de_mul (dv 0) (dv 1))))))))))) (lamS_by (by dsimp only [Sg.of]; decide +kernel)) (lamS_by (by dsimp only [Sg.of]; decide +kernel)) (lamS_by (by dsimp only [Sg.of]; decide +kernel)) (lamS_by (by dsimp only [Sg.of]; decide +kernel)) (by dsimp only [Sg.of]; decide +kernel) rfl (by first | exact .inr (.inl rfl) | exact .inr (.inr rfl) | exact .inl rfl) rfl))
theorem sc_law_parted_right : FnScope N_law_parted_right P_law_parted_right (defScope s_law_parted_right) := ⟨rfl, rfl, rfl, by decide +kernel, rfl, by decide +kernel, by decide +kernel⟩
theorem w_law_parted_right {w : World} {K : PySem.W.Frag} {mg : Str → Option Value} {base : Heap} (V : Fax K mg) (cDials___and__ : TMet Pg w K mg base 13 "Dials" "__and__" 2 (Pr.FDials___and__ ex ow)) (cDials___contains__ : TMet Pg w K mg base 3 "Dials" "__contains__" 2 (Pr.FDials___contains__ ex ow)) (cDials___eq__ : TMet Pg w K mg base 5 "Dials" "__eq__" 2 (Pr.FDials___eq__ ex ow)) (cDials___le__ : TMet Pg w K mg base 6 "Dials" "__le__" 2 (Pr.FDials___le__ ex ow)) (cDials___or__ : TMet Pg w K mg base 13 "Dials" "__or__" 2 (Pr.FDials___or__ ex ow)) (cDials___sub__ : TMet Pg w K mg base 13 "Dials" "__sub__" 2 (Pr.FDials___sub__ ex ow)) (cDials___xor__ : TMet Pg w K mg base 13 "Dials" "__xor__" 2 (Pr.FDials___xor__ ex ow)) (cDials_text : TProp Pg w K mg base 3 "Dials" "text" (Pr.FDials_text ex ow)) (dueC : DueC Pg w K mg base 0 t_law_is_due) (mkDials1 : TMk Pg w K mg base 10 "Dials" 4 [.tup []] (Pr.FDials___init__ ex ow)) (tldB : TabsB K mg ms base) (tldC : ToldC K mg) (E : XK)  : DSs (Sg.of Pg w K mg base N_law_parted_right (defScope s_law_parted_right) 16 E "_law_parted_right" (cdAt K (He.ga K "_law_parted_right"))) (defBody s_law_parted_right) t_law_parted_right :=
  (dss_cons (ds_asg (de_tup (da_cons (de_cut (de_make mkDials1 (da_cons (de_mul de_int (dv 0)) (da_cons (de_tup (da_cons (de_mul de_int (dv 0)) da_nil)) da_nil)) (Nat.le_of_ble_eq_true rfl))) (da_cons (de_cut (de_make mkDials1 (da_cons (de_mul de_int (dv 1)) (da_cons (de_tup (da_cons (dv 1) da_nil)) da_nil)) (Nat.le_of_ble_eq_true rfl))) da_nil))) (dg_tup (dgs_cons (dg_name (i := 2)) (dgs_cons (dg_name (i := 3)) dgs_nil))))
    (dss_cons (ds_set (i := 4) (de_gt (de_mul (de_mul de_int (dv 0)) (dv 1)) (de_pow de_int de_int)))
    (dss_cons (ds_if (dt_not (dt_tru (de_dueC (x := "_law_parted_right") (ms := ms) 1 13 0 4 tldC dueC V.exf (V.cl _ V.exf.de) tldB (by decide) (fun _ _ => (de_binS (op_own (op := .BitOr) cDials___or__ (Nat.le_of_ble_eq_true rfl) rfl V.sfDials) (dv 2) (dv 3))) (Nat.le_of_ble_eq_true rfl) (by decide) (L := lamS_by (by dsimp only [Sg.of]; decide +kernel))))) (dss_one (ds_ret de_bl)) dss_nil)
    (dss_cons (ds_if (dt_not (dt_tru (de_dueC (x := "_law_parted_right") (ms := ms) 1 13 0 4 tldC dueC V.exf (V.cl _ V.exf.de) tldB (by decide) (fun _ _ => (de_binS (op_own (op := .BitXor) cDials___xor__ (Nat.le_of_ble_eq_true rfl) rfl V.sfDials) (dv 2) (dv 3))) (Nat.le_of_ble_eq_true rfl) (by decide) (L := lamS_by (by dsimp only [Sg.of]; decide +kernel))))) (dss_one (ds_ret de_bl)) dss_nil)
    (dss_cons (ds_if (DW.dt (dw_or (dt_ne (de_prop cDials_text (de_binS (op_own (op := .BitAnd) cDials___and__ (Nat.le_of_ble_eq_true rfl) rfl V.sfDials) (dv 2) (dv 3)) (Nat.le_of_ble_eq_true rfl)) de_str) (dw_or (dt_cmpS (op_neO cDials___eq__ opsNe V.neDials (Nat.le_of_ble_eq_true rfl) V.feDials) rfl (de_binS (op_own (op := .Sub) cDials___sub__ (Nat.le_of_ble_eq_true rfl) rfl V.sfDials) (dv 2) (dv 3)) (dv 2)) (dw_or1 (dt_cmpS (op_neO cDials___eq__ opsNe V.neDials (Nat.le_of_ble_eq_true rfl) V.feDials) rfl (de_binS (op_own (op := .Sub) cDials___sub__ (Nat.le_of_ble_eq_true rfl) rfl V.sfDials) (dv 3) (dv 2)) (dv 3)))))) (dss_one (ds_ret de_bl)) dss_nil)
    (dss_one (ds_ret (de_and (de_not (de_cmpS (op_cmp_own (op := .LtE) cDials___le__ (Nat.le_of_ble_eq_true rfl) (fun _ _ => rfl) rfl) rfl (dv 2) (dv 3))) (de_and (de_cmpS (op_cmp_own (op := .LtE) cDials___le__ (Nat.le_of_ble_eq_true rfl) (fun _ _ => rfl) rfl) rfl (de_binS (op_own (op := .BitAnd) cDials___and__ (Nat.le_of_ble_eq_true rfl) rfl V.sfDials) (dv 2) (dv 3)) (dv 3)) (de_and (de_cmpS (op_inO cDials___contains__ (Nat.le_of_ble_eq_true rfl)) rfl (de_mul de_int (dv 0)) (dv 2)) (de_and (de_cmpS (op_inO cDials___contains__ (Nat.le_of_ble_eq_true rfl)) rfl (dv 1) (dv 3)) (de_one (de_cmpS (op_ninO cDials___contains__ (Nat.le_of_ble_eq_true rfl)) rfl (de_mul de_int (dv 1)) (dv 3))))))))))))))
theorem sc_law_right : FnScope N_law_right P_law_right (defScope s_law_right) := ⟨rfl, rfl, rfl, by decide +kernel, rfl, by decide +kernel, by decide +kernel⟩
theorem w_law_right {w : World} {K : PySem.W.Frag} {mg : Str → Option Value} {base : Heap} (V : Fax K mg) (c_law_of : TDef Pg w K mg base 2 "_law_of" 2 F_law_of) (c_law_pairs : TDef Pg w K mg base 1 "_law_pairs" 0 F_law_pairs) (c_law_parted_right : TDef Pg w K mg base 17 "_law_parted_right" 2 F_law_parted_right) (c_law_plain_right : TDef Pg w K mg base 17 "_law_plain_right" 2 F_law_plain_right) (c_law_take : TDef Pg w K mg base 1 "_law_take" 2 F_law_take) (E : XK) (q : Str) (cd : Value) : DSs (Sg.of Pg w K mg base N_law_right (defScope s_law_right) 17 E q cd) (defBody s_law_right) t_law_right :=
  (dss_cons (ds_asg (de_callT c_law_of (da_cons (dv 0) (da_cons (de_call0T c_law_pairs (Nat.le_of_ble_eq_true rfl)) da_nil)) (Nat.le_of_ble_eq_true rfl)) (dg_tup (dgs_cons (dg_name (i := 1)) (dgs_cons (dg_name (i := 2)) dgs_nil))))
    (dss_cons (ds_if (dt_eq (de_callT c_law_take (da_cons (dv 0) (da_cons de_int da_nil)) (Nat.le_of_ble_eq_true rfl)) de_int) (dss_one (ds_par (i := 1) (j := 2) (da_cons (dv 2) (da_cons (dv 1) da_nil)))) dss_nil)
    (dss_one (ds_ret (de_and (de_callT c_law_plain_right (da_cons (dv 1) (da_cons (dv 2) da_nil)) (Nat.le_of_ble_eq_true rfl)) (de_one (de_callT c_law_parted_right (da_cons (dv 1) (da_cons (dv 2) da_nil)) (Nat.le_of_ble_eq_true rfl))))))))
theorem sclaw : FnScope Nlaw Plaw (defScope slaw) := ⟨rfl, rfl, rfl, by decide +kernel, rfl, by decide +kernel, by decide +kernel⟩
theorem wlaw {w : World} {K : PySem.W.Frag} {mg : Str → Option Value} {base : Heap} (V : Fax K mg) (c_law_places : TDef Pg w K mg base 1 "_law_places" 2 F_law_places) (c_law_pot : TDef Pg w K mg base 1 "_law_pot" 2 F_law_pot) (c_law_right : TDef Pg w K mg base 18 "_law_right" 1 F_law_right) (E : XK) (q : Str) (cd : Value) : DSs (Sg.of Pg w K mg base Nlaw (defScope slaw) 18 E q cd) (defBody slaw) tlaw :=
  (dss_cons (ds_for (di_lst (de_callT c_law_places (da_cons (dv 0) (da_cons de_int da_nil)) (Nat.le_of_ble_eq_true rfl))) (dg_name (i := 1)) (dss_cons (ds_set (i := 2) (de_callT c_law_pot (da_cons (dv 0) (da_cons (dv 1) da_nil)) (Nat.le_of_ble_eq_true rfl)))
    (dss_one (ds_if (dt_not (dt_tru (de_all V.f_all (da_cons (de_lc false [("_law_turn", 3)] (di_rng1 (da_cons de_int da_nil) V.f_range) (dg_name (i := 3)) dts_nil (de_callT c_law_right (da_cons (dv 2) da_nil) (Nat.le_of_ble_eq_true rfl)) (ok := by dsimp only [Sg.lam, Sg.of, Sg.blk]; decide +kernel)) da_nil)))) (dss_one (ds_ret de_bl)) dss_nil))))
    (dss_one (ds_ret de_bl)))
theorem facts {w : World} {K : PySem.W.Frag} {mg : Str → Option Value} {h : Heap} {f : Addr} (X : K.In h) (G : h.Ns mainGlobals mg) (hf : mg "law" = some (.ref f)) (c : obsX fb fn K = valX fn iniV) :
    ∃ fd : FuncData, (∀ (s : Shared) (u : Value), BindsTo s fd ⟨[u], []⟩ [("_law_script", u)]) ∧ ∀ base : Heap, K.In base → base.Ns mainGlobals mg → TabsB K mg ms base → TFn Pg w K mg base 19 f fd ["_law_script"] Flaw := by
  have i0 := saysX_fact c 0 (f := sysB) rfl
  have h_f_len := He.free_ok X G (saysX_fact c 1 (f := freeB "len") rfl)
  have h_f_int := He.free_ok X G (saysX_fact c 2 (f := freeB "int") rfl)
  have h_f_abs := He.free_ok X G (saysX_fact c 3 (f := freeB "abs") rfl)
  have h_f_max := He.free_ok X G (saysX_fact c 4 (f := freeB "max") rfl)
  have h_f_min := He.free_ok X G (saysX_fact c 5 (f := freeB "min") rfl)
  have h_f_list := He.free_ok X G (saysX_fact c 6 (f := freeB "list") rfl)
  have h_f_range := He.free_ok X G (saysX_fact c 7 (f := freeB "range") rfl)
  have h_f_isinstance := He.free_ok X G (saysX_fact c 8 (f := freeB "isinstance") rfl)
  have h_f_str := He.free_ok X G (saysX_fact c 9 (f := freeB "str") rfl)
  have h_f_repr := He.free_ok X G (saysX_fact c 10 (f := freeB "repr") rfl)
  have h_f_any := He.free_ok X G (saysX_fact c 11 (f := freeB "any") rfl)
  have h_f_all := He.free_ok X G (saysX_fact c 12 (f := freeB "all") rfl)
  have h_f_enumerate := He.free_ok X G (saysX_fact c 13 (f := freeB "enumerate") rfl)
  have h_f_bool := He.free_ok X G (saysX_fact c 14 (f := freeB "bool") rfl)
  have h_f_tuple := He.free_ok X G (saysX_fact c 15 (f := freeB "tuple") rfl)
  have h_f_sum := He.free_ok X G (saysX_fact c 16 (f := freeB "sum") rfl)
  have h_f_set := He.free_ok X G (saysX_fact c 17 (f := freeB "set") rfl)
  have h_f_sorted := He.free_ok X G (saysX_fact c 18 (f := freeB "sorted") rfl)
  have h_f_zip := He.free_ok X G (saysX_fact c 19 (f := freeB "zip") rfl)
  have h_f_NotImplemented := He.free_ok X G (saysX_fact c 20 (f := freeB "NotImplemented") rfl)
  have h_f_super := He.free_ok X G (saysX_fact c 21 (f := freeB "super") rfl)
  have h_nLIMIT := He.int_ok X G (saysX_fact c 22 (f := faB (.int "LIMIT" 31623)) rfl)
  have h_nGREAT := He.int_ok X G (saysX_fact c 23 (f := faB (.int "GREAT" 1000000000)) rfl)
  have h_nBLANK := He.str_ok X G (saysX_fact c 24 (f := faB (.str "BLANK" " ")) rfl)
  have h_nLEAST_DIAL := He.int_ok X G (saysX_fact c 25 (f := faB (.int "LEAST_DIAL" 2)) rfl)
  have h_nBETWEEN := He.str_ok X G (saysX_fact c 26 (f := faB (.str "BETWEEN" " : ")) rfl)
  have h_nNONE := He.str_ok X G (saysX_fact c 27 (f := faB (.str "NONE" "-")) rfl)
  have h_nOR := He.str_ok X G (saysX_fact c 28 (f := faB (.str "OR" "or")) rfl)
  have h_nAND := He.str_ok X G (saysX_fact c 29 (f := faB (.str "AND" "and")) rfl)
  have h_nLESS := He.str_ok X G (saysX_fact c 30 (f := faB (.str "LESS" "less")) rfl)
  have h_nJUST := He.str_ok X G (saysX_fact c 31 (f := faB (.str "JUST" "just")) rfl)
  have h_gis_whole := He.glo_ok X G (saysX_fact c 32 (f := gloB "is_whole") rfl)
  have h_gis_integer := He.glo_ok X G (saysX_fact c 33 (f := gloB "is_integer") rfl)
  have h_gdo_ascend := He.glo_ok X G (saysX_fact c 34 (f := gloB "do_ascend") rfl)
  have h_ggcd := He.glo_ok X G (saysX_fact c 35 (f := gloB "gcd") rfl)
  have h_glcm := He.glo_ok X G (saysX_fact c 36 (f := gloB "lcm") rfl)
  have h_gpower := He.glo_ok X G (saysX_fact c 37 (f := gloB "power") rfl)
  have h_gtimes_in := He.glo_ok X G (saysX_fact c 38 (f := gloB "times_in") rfl)
  have h_gwithout := He.glo_ok X G (saysX_fact c 39 (f := gloB "without") rfl)
  have h_gparted := He.glo_ok X G (saysX_fact c 40 (f := gloB "parted") rfl)
  have h_groot := He.glo_ok X G (saysX_fact c 41 (f := gloB "root") rfl)
  have h_gleast_root := He.glo_ok X G (saysX_fact c 42 (f := gloB "least_root") rfl)
  have h_gsplit := He.glo_ok X G (saysX_fact c 43 (f := gloB "split") rfl)
  have h_grefined := He.glo_ok X G (saysX_fact c 44 (f := gloB "refined") rfl)
  have h_gbases := He.glo_ok X G (saysX_fact c 45 (f := gloB "bases") rfl)
  have h_gdivisors_by := He.glo_ok X G (saysX_fact c 46 (f := gloB "divisors_by") rfl)
  have h_gdivisors := He.glo_ok X G (saysX_fact c 47 (f := gloB "divisors") rfl)
  have h_gleast_table := He.glo_ok X G (saysX_fact c 48 (f := gloB "least_table") rfl)
  have h_gword_of := He.glo_ok X G (saysX_fact c 49 (f := gloB "word_of") rfl)
  have h_gleast_raw := He.glo_ok X G (saysX_fact c 50 (f := gloB "least_raw") rfl)
  have h_gput_together := He.glo_ok X G (saysX_fact c 51 (f := gloB "put_together") rfl)
  have h_gis_great := He.glo_ok X G (saysX_fact c 52 (f := gloB "is_great") rfl)
  have h_gare_divisors := He.glo_ok X G (saysX_fact c 53 (f := gloB "are_divisors") rfl)
  have h_gare_others := He.glo_ok X G (saysX_fact c 54 (f := gloB "are_others") rfl)
  have h_grow_text := He.glo_ok X G (saysX_fact c 55 (f := gloB "row_text") rfl)
  have h_gsigned_parts := He.glo_ok X G (saysX_fact c 56 (f := gloB "signed_parts") rfl)
  have h_gmany_prime_to := He.glo_ok X G (saysX_fact c 57 (f := gloB "many_prime_to") rfl)
  have h_gtold_raw := He.glo_ok X G (saysX_fact c 58 (f := gloB "told_raw") rfl)
  have h_gnext_with := He.glo_ok X G (saysX_fact c 59 (f := gloB "next_with") rfl)
  have h_gis_below := He.glo_ok X G (saysX_fact c 60 (f := gloB "is_below") rfl)
  have h_g_law_pot := He.glo_ok X G (saysX_fact c 61 (f := gloB "_law_pot") rfl)
  have h_g_law_take := He.glo_ok X G (saysX_fact c 62 (f := gloB "_law_take") rfl)
  have h_g_law_of := He.glo_ok X G (saysX_fact c 63 (f := gloB "_law_of") rfl)
  have h_g_law_places := He.glo_ok X G (saysX_fact c 64 (f := gloB "_law_places") rfl)
  have h_g_law_told := He.glo_ok X G (saysX_fact c 65 (f := gloB "_law_told") rfl)
  have h_g_law_pairs := He.glo_ok X G (saysX_fact c 66 (f := gloB "_law_pairs") rfl)
  have h_g_law_is_due := He.glo_ok X G (saysX_fact c 67 (f := gloB "_law_is_due") rfl)
  have h_g_law_plain_right := He.glo_ok X G (saysX_fact c 68 (f := gloB "_law_plain_right") rfl)
  have h_g_law_parted_right := He.glo_ok X G (saysX_fact c 69 (f := gloB "_law_parted_right") rfl)
  have h_g_law_right := He.glo_ok X G (saysX_fact c 70 (f := gloB "_law_right") rfl)
  have h_glaw := He.glo_ok X G (saysX_fact c 71 (f := gloB "law") rfl)
  have h_kRaw := He.glo_ok X G (saysX_fact c 72 (f := gloB "Raw") rfl)
  have h_cRaw := slcB_ok (saysX_fact c 73 (f := slcB "Raw") rfl)
  have h_mkRaw := (saysX_fact c 74 (f := faB (.mkr "Raw")) rfl)
  have h_dtRaw0 := (saysX_fact c 75 (f := tup0B (adD (adM "Raw" "__init__") 0)) rfl)
  have h_mRaw_has := (saysX_fact c 76 (f := faB (.meth "Raw" "has")) rfl)
  have h_kDials := He.glo_ok X G (saysX_fact c 77 (f := gloB "Dials") rfl)
  have h_cDials := He.cls_ok (saysX_fact c 78 (f := faB (.cls "Dials")) rfl)
  have h_neDials := neB_ok (saysX_fact c 79 (f := neB "Dials") rfl)
  have h_feDials := (saysX_fact c 80 (f := fnB "Dials" "__eq__") rfl)
  have h_tyDials := (saysX_fact c 81 (f := tyLB "Dials") rfl)
  have h_sfDials := (saysX_fact c 82 (f := selfB "Dials") rfl)
  have h_mkDials := (saysX_fact c 83 (f := faB (.mkr "Dials")) rfl)
  have h_dtDials0 := (saysX_fact c 84 (f := tup0B (adD (adM "Dials" "__init__") 0)) rfl)
  have h_pDials_whole := (saysX_fact c 85 (f := propB "Dials" "whole") rfl)
  have h_pDials_shares := (saysX_fact c 86 (f := propB "Dials" "shares") rfl)
  have h_pDials_others := (saysX_fact c 87 (f := propB "Dials" "others") rfl)
  have h_pDials_text := (saysX_fact c 88 (f := propB "Dials" "text") rfl)
  have h_mDials___contains__ := (saysX_fact c 89 (f := faB (.meth "Dials" "__contains__")) rfl)
  have h_mDials_after := (saysX_fact c 90 (f := faB (.meth "Dials" "after")) rfl)
  have h_mDials___or__ := (saysX_fact c 91 (f := faB (.meth "Dials" "__or__")) rfl)
  have h_mDials___and__ := (saysX_fact c 92 (f := faB (.meth "Dials" "__and__")) rfl)
  have h_mDials___sub__ := (saysX_fact c 93 (f := faB (.meth "Dials" "__sub__")) rfl)
  have h_mDials___xor__ := (saysX_fact c 94 (f := faB (.meth "Dials" "__xor__")) rfl)
  have h_mDials___invert__ := (saysX_fact c 95 (f := faB (.meth "Dials" "__invert__")) rfl)
  have h_mDials___eq__ := (saysX_fact c 96 (f := faB (.meth "Dials" "__eq__")) rfl)
  have h_mDials___le__ := (saysX_fact c 97 (f := faB (.meth "Dials" "__le__")) rfl)
  have h__naown_whole_Raw := slmB_ok (saysX_fact c 98 (f := slmB "Raw" "own_whole") rfl)
  have h__naown_primes_Raw := slmB_ok (saysX_fact c 99 (f := slmB "Raw" "own_primes") rfl)
  have h__naown_shares_Raw := slmB_ok (saysX_fact c 100 (f := slmB "Raw" "own_shares") rfl)
  have h__naown_others_Raw := slmB_ok (saysX_fact c 101 (f := slmB "Raw" "own_others") rfl)
  have h__naown_raw_Dials := He.noat_ok (saysX_fact c 102 (f := faB (.noat "Dials" "own_raw")) rfl)
  have h_bown_whole : ∀ C ∈ (["Raw"] : List Str), SC K C ∧ ("own_whole" : Str) ∈ slN K C := fun C hC => by
    rw [List.mem_singleton.mp hC]
    exact ⟨h_cRaw, h__naown_whole_Raw⟩
  have h_bown_primes : ∀ C ∈ (["Raw"] : List Str), SC K C ∧ ("own_primes" : Str) ∈ slN K C := fun C hC => by
    rw [List.mem_singleton.mp hC]
    exact ⟨h_cRaw, h__naown_primes_Raw⟩
  have h_bown_shares : ∀ C ∈ (["Raw"] : List Str), SC K C ∧ ("own_shares" : Str) ∈ slN K C := fun C hC => by
    rw [List.mem_singleton.mp hC]
    exact ⟨h_cRaw, h__naown_shares_Raw⟩
  have h_bown_others : ∀ C ∈ (["Raw"] : List Str), SC K C ∧ ("own_others" : Str) ∈ slN K C := fun C hC => by
    rw [List.mem_singleton.mp hC]
    exact ⟨h_cRaw, h__naown_others_Raw⟩
  have h_aown_raw : ∀ C ∈ (["Dials"] : List Str), CL K C ∧ NoAttr K (He.ga K C) "own_raw" := fun C hC => by
    rw [List.mem_singleton.mp hC]
    exact ⟨h_cDials, h__naown_raw_Dials⟩
  obtain ⟨xf, xg⟩ := exF_of (saysX_fact c 103 (f := exsB ex) rfl)
  have xi := ifn_of (P := Pg) (i := ini) (saysX_ini c) (saysX_fact c 104 (f := ifnB Pg.main.file) rfl) (by decide +kernel) (by decide +kernel)
  have xs := isf_of xf (saysX_fact c 105 (f := isfB ex ow) rfl)
  have V : Fax K mg := ⟨Option.isSome_iff_exists.mp i0, h_f_len, h_f_int, h_f_abs, h_f_max, h_f_min, h_f_list, h_f_range, h_f_isinstance, h_f_str, h_f_repr, h_f_any, h_f_all, h_f_enumerate, h_f_bool, h_f_tuple, h_f_sum, h_f_set, h_f_sorted, h_f_zip, h_f_NotImplemented, h_f_super, h_nLIMIT, h_nGREAT, h_nBLANK, h_nLEAST_DIAL, h_nBETWEEN, h_nNONE, h_nOR, h_nAND, h_nLESS, h_nJUST, h_gis_whole, h_gis_integer, h_gdo_ascend, h_ggcd, h_glcm, h_gpower, h_gtimes_in, h_gwithout, h_gparted, h_groot, h_gleast_root, h_gsplit, h_grefined, h_gbases, h_gdivisors_by, h_gdivisors, h_gleast_table, h_gword_of, h_gleast_raw, h_gput_together, h_gis_great, h_gare_divisors, h_gare_others, h_grow_text, h_gsigned_parts, h_gmany_prime_to, h_gtold_raw, h_gnext_with, h_gis_below, h_g_law_pot, h_g_law_take, h_g_law_of, h_g_law_places, h_g_law_told, h_g_law_pairs, h_g_law_is_due, h_g_law_plain_right, h_g_law_parted_right, h_g_law_right, h_glaw, h_kRaw, h_cRaw, h_mkRaw, h_dtRaw0, h_mRaw_has, h_kDials, h_cDials, h_neDials, h_feDials, h_tyDials, h_sfDials, h_mkDials, h_dtDials0, h_pDials_whole, h_pDials_shares, h_pDials_others, h_pDials_text, h_mDials___contains__, h_mDials_after, h_mDials___or__, h_mDials___and__, h_mDials___sub__, h_mDials___xor__, h_mDials___invert__, h_mDials___eq__, h_mDials___le__, h_bown_whole, h_bown_primes, h_bown_shares, h_bown_others, h_aown_raw, xf, xi, fun C hC => PySem.W.mg_of X G (xg C hC), xs⟩
  obtain ⟨fdis_whole, Dis_whole⟩ := saysX_def c 0 (d := dis_whole) rfl
  obtain ⟨fdis_integer, Dis_integer⟩ := saysX_def c 1 (d := dis_integer) rfl
  obtain ⟨fddo_ascend, Ddo_ascend⟩ := saysX_def c 2 (d := ddo_ascend) rfl
  obtain ⟨fdgcd, Dgcd⟩ := saysX_def c 3 (d := dgcd) rfl
  obtain ⟨fdlcm, Dlcm⟩ := saysX_def c 4 (d := dlcm) rfl
  obtain ⟨fdpower, Dpower⟩ := saysX_def c 5 (d := dpower) rfl
  obtain ⟨fdtimes_in, Dtimes_in⟩ := saysX_def c 6 (d := dtimes_in) rfl
  obtain ⟨fdwithout, Dwithout⟩ := saysX_def c 7 (d := dwithout) rfl
  obtain ⟨fdparted, Dparted⟩ := saysX_def c 8 (d := dparted) rfl
  obtain ⟨fdroot, Droot⟩ := saysX_def c 9 (d := droot) rfl
  obtain ⟨fdleast_root, Dleast_root⟩ := saysX_def c 10 (d := dleast_root) rfl
  obtain ⟨fdsplit, Dsplit⟩ := saysX_def c 11 (d := dsplit) rfl
  obtain ⟨fdrefined, Drefined⟩ := saysX_def c 12 (d := drefined) rfl
  obtain ⟨fdbases, Dbases⟩ := saysX_def c 13 (d := dbases) rfl
  obtain ⟨fddivisors_by, Ddivisors_by⟩ := saysX_def c 14 (d := ddivisors_by) rfl
  obtain ⟨fddivisors, Ddivisors⟩ := saysX_def c 15 (d := ddivisors) rfl
  obtain ⟨fdleast_table, Dleast_table⟩ := saysX_def c 16 (d := dleast_table) rfl
  obtain ⟨fdword_of, Dword_of⟩ := saysX_def c 17 (d := dword_of) rfl
  obtain ⟨fdRaw___init__, DRaw___init__⟩ := saysX_def c 18 (d := dRaw___init__) rfl
  obtain ⟨fdRaw_has, DRaw_has⟩ := saysX_def c 19 (d := dRaw_has) rfl
  obtain ⟨fdleast_raw, Dleast_raw⟩ := saysX_def c 20 (d := dleast_raw) rfl
  obtain ⟨fdput_together, Dput_together⟩ := saysX_def c 21 (d := dput_together) rfl
  obtain ⟨fdis_great, Dis_great⟩ := saysX_def c 22 (d := dis_great) rfl
  obtain ⟨fdare_divisors, Dare_divisors⟩ := saysX_def c 23 (d := dare_divisors) rfl
  obtain ⟨fdare_others, Dare_others⟩ := saysX_def c 24 (d := dare_others) rfl
  obtain ⟨fdrow_text, Drow_text⟩ := saysX_def c 25 (d := drow_text) rfl
  obtain ⟨fdsigned_parts, Dsigned_parts⟩ := saysX_def c 26 (d := dsigned_parts) rfl
  obtain ⟨fdmany_prime_to, Dmany_prime_to⟩ := saysX_def c 27 (d := dmany_prime_to) rfl
  obtain ⟨fdDials___init__, DDials___init__⟩ := saysX_def c 28 (d := dDials___init__) rfl
  obtain ⟨fdtold_raw, Dtold_raw⟩ := saysX_def c 29 (d := dtold_raw) rfl
  obtain ⟨fdDials_whole, DDials_whole⟩ := saysX_def c 30 (d := dDials_whole) rfl
  obtain ⟨fdDials_shares, DDials_shares⟩ := saysX_def c 31 (d := dDials_shares) rfl
  obtain ⟨fdDials_others, DDials_others⟩ := saysX_def c 32 (d := dDials_others) rfl
  obtain ⟨fdDials_text, DDials_text⟩ := saysX_def c 33 (d := dDials_text) rfl
  obtain ⟨fdDials___contains__, DDials___contains__⟩ := saysX_def c 34 (d := dDials___contains__) rfl
  obtain ⟨fdnext_with, Dnext_with⟩ := saysX_def c 35 (d := dnext_with) rfl
  obtain ⟨fdDials_after, DDials_after⟩ := saysX_def c 36 (d := dDials_after) rfl
  obtain ⟨fdDials___or__, DDials___or__⟩ := saysX_def c 37 (d := dDials___or__) rfl
  obtain ⟨fdDials___and__, DDials___and__⟩ := saysX_def c 38 (d := dDials___and__) rfl
  obtain ⟨fdDials___sub__, DDials___sub__⟩ := saysX_def c 39 (d := dDials___sub__) rfl
  obtain ⟨fdDials___xor__, DDials___xor__⟩ := saysX_def c 40 (d := dDials___xor__) rfl
  obtain ⟨fdDials___invert__, DDials___invert__⟩ := saysX_def c 41 (d := dDials___invert__) rfl
  obtain ⟨fdDials___eq__, DDials___eq__⟩ := saysX_def c 42 (d := dDials___eq__) rfl
  obtain ⟨fdis_below, Dis_below⟩ := saysX_def c 43 (d := dis_below) rfl
  obtain ⟨fdDials___le__, DDials___le__⟩ := saysX_def c 44 (d := dDials___le__) rfl
  obtain ⟨fd_law_pot, D_law_pot⟩ := saysX_def c 45 (d := d_law_pot) rfl
  obtain ⟨fd_law_take, D_law_take⟩ := saysX_def c 46 (d := d_law_take) rfl
  obtain ⟨fd_law_of, D_law_of⟩ := saysX_def c 47 (d := d_law_of) rfl
  obtain ⟨fd_law_places, D_law_places⟩ := saysX_def c 48 (d := d_law_places) rfl
  obtain ⟨fd_law_told, D_law_told⟩ := saysX_def c 49 (d := d_law_told) rfl
  obtain ⟨fd_law_pairs, D_law_pairs⟩ := saysX_def c 50 (d := d_law_pairs) rfl
  obtain ⟨fd_law_is_due, D_law_is_due⟩ := saysX_def c 51 (d := d_law_is_due) rfl
  obtain ⟨fd_law_plain_right, D_law_plain_right⟩ := saysX_def c 52 (d := d_law_plain_right) rfl
  obtain ⟨fd_law_parted_right, D_law_parted_right⟩ := saysX_def c 53 (d := d_law_parted_right) rfl
  obtain ⟨fd_law_right, D_law_right⟩ := saysX_def c 54 (d := d_law_right) rfl
  obtain ⟨fdlaw, Dlaw⟩ := saysX_def c 55 (d := dlaw) rfl
  have eqf := hf.symm.trans V.glaw
  cases eqf
  refine ⟨fdlaw, fun s u => FunD.bindsA (ps := Plaw) Dlaw (fun _ _ _ _ _ _ us hl => match us, hl with | [_], _ => rfl) s [u] rfl, fun base _ _ ztldB => ?_⟩
  have ztldC : ToldC K mg := ⟨_, _, _, _, _, D_law_told, V.g_law_told, (D_law_told.bindsN (ps := [nLook]) fun _ _ _ _ _ _ us hl => match us, hl with | [_], _ => rfl), ⟨rfl, rfl, rfl, by decide +kernel, rfl, by decide +kernel, by decide +kernel⟩, ⟨rfl, rfl, rfl, rfl, rfl⟩, ⟨_, _, _, _, _, _, _, _, _, _, _, _, _, _, _, _, _, _, _, _, _, _, _, _, _, _,  rfl, fun env h => by cases env; cases h; rfl⟩⟩
  have zcis_whole := tdef_of Dis_whole V.gis_whole scis_whole (Dis_whole.bindsN (ps := Pr.Pis_whole) fun _ _ _ _ _ _ us hl => match us, hl with | [_], _ => rfl) (fun E => wis_whole (w := w) (base := base) V  E _ _)
  have zcis_integer := tdef_of Dis_integer V.gis_integer scis_integer (Dis_integer.bindsN (ps := Pr.Pis_integer) fun _ _ _ _ _ _ us hl => match us, hl with | [_, _, _], _ => rfl) (fun E => wis_integer (w := w) (base := base) V zcis_whole E _ _)
  have zcdo_ascend := tdef_of Ddo_ascend V.gdo_ascend scdo_ascend (Ddo_ascend.bindsN (ps := Pr.Pdo_ascend) fun _ _ _ _ _ _ us hl => match us, hl with | [_], _ => rfl) (fun E => wdo_ascend (w := w) (base := base) V  E _ _)
  have zcgcd := tdef_of Dgcd V.ggcd scgcd (Dgcd.bindsN (ps := Pr.Pgcd) fun _ _ _ _ _ _ us hl => match us, hl with | [_, _], _ => rfl) (fun E => wgcd (w := w) (base := base) V  E _ _)
  have zclcm := tdef_of Dlcm V.glcm sclcm (Dlcm.bindsN (ps := Pr.Plcm) fun _ _ _ _ _ _ us hl => match us, hl with | [_, _], _ => rfl) (fun E => wlcm (w := w) (base := base) V zcgcd E _ _)
  have zcpower := tdef_of Dpower V.gpower scpower (Dpower.bindsN (ps := Pr.Ppower) fun _ _ _ _ _ _ us hl => match us, hl with | [_, _], _ => rfl) (fun E => wpower (w := w) (base := base) V  E _ _)
  have zctimes_in := tdef_of Dtimes_in V.gtimes_in sctimes_in (Dtimes_in.bindsN (ps := Pr.Ptimes_in) fun _ _ _ _ _ _ us hl => match us, hl with | [_, _], _ => rfl) (fun E => wtimes_in (w := w) (base := base) V  E _ _)
  have zcwithout := tdef_of Dwithout V.gwithout scwithout (Dwithout.bindsN (ps := Pr.Pwithout) fun _ _ _ _ _ _ us hl => match us, hl with | [_, _], _ => rfl) (fun E => wwithout (w := w) (base := base) V  E _ _)
  have zcparted := tdef_of Dparted V.gparted scparted (Dparted.bindsN (ps := Pr.Pparted) fun _ _ _ _ _ _ us hl => match us, hl with | [_], _ => rfl) (fun E => wparted (w := w) (base := base) V zcwithout E _ _)
  replace zcparted := zcparted.cut
  have zcroot := tdef_of Droot V.groot scroot (Droot.bindsN (ps := Pr.Proot) fun _ _ _ _ _ _ us hl => match us, hl with | [_, _], _ => rfl) (fun E => wroot (w := w) (base := base) V zcpower E _ _)
  have zcleast_root := (Tleast_root (w := w) (base := base) V zcpower zcroot Dleast_root V.gleast_root 4).mono (k := 7) (by decide)
  have zcsplit := tdef_of Dsplit V.gsplit scsplit (Dsplit.bindsN (ps := Pr.Psplit) fun _ _ _ _ _ _ us hl => match us, hl with | [_, _], _ => rfl) (fun E => wsplit (w := w) (base := base) V zcgcd E _ _)
  have zcrefined := tdef_of Drefined V.grefined screfined (Drefined.bindsN (ps := Pr.Prefined) fun _ _ _ _ _ _ us hl => match us, hl with | [_], _ => rfl) (fun E => wrefined (w := w) (base := base) V zcleast_root zcsplit E _ _)
  have zcbases := tdef_of Dbases V.gbases scbases (Dbases.bindsN (ps := Pr.Pbases) fun _ _ _ _ _ _ us hl => match us, hl with | [_], _ => rfl) (fun E => wbases (w := w) (base := base) V zcparted zcrefined E _ _)
  replace zcbases := zcbases.cut
  have zcdivisors_by := tdef_of Ddivisors_by V.gdivisors_by scdivisors_by (Ddivisors_by.bindsN (ps := Pr.Pdivisors_by) fun _ _ _ _ _ _ us hl => match us, hl with | [_, _], _ => rfl) (fun E => wdivisors_by (w := w) (base := base) V zcpower zctimes_in E _ _)
  have zcdivisors := tdef_of Ddivisors V.gdivisors scdivisors (Ddivisors.bindsN (ps := Pr.Pdivisors) fun _ _ _ _ _ _ us hl => match us, hl with | [_], _ => rfl) (fun E => wdivisors (w := w) (base := base) V zcbases zcdivisors_by E _ _)
  have zcleast_table := tdef_of Dleast_table V.gleast_table scleast_table (Dleast_table.bindsN (ps := Pr.Pleast_table) fun _ _ _ _ _ _ us hl => match us, hl with | [_, _, _], _ => rfl) (fun E => wleast_table (w := w) (base := base) V zcgcd E _ _)
  have zcword_of := tdef_of Dword_of V.gword_of scword_of (Dword_of.bindsN (ps := Pr.Pword_of) fun _ _ _ _ _ _ us hl => match us, hl with | [_, _, _], _ => rfl) (fun E => wword_of (w := w) (base := base) V  E _ _)
  have zmkRaw0 := tmk_of (dfl := []) (j := 1) DRaw___init__ V.mkRaw V.kRaw scRaw___init__ (DRaw___init__.binds1 5 1 (by simp [DefX.dvs, dRaw___init__]) (by simp [DefX.dvs, dRaw___init__]) fun _ _ _ _ _ _ _ us its h1 h2 => match us, its, h1, h2 with | [_, _, _, _, _], [_], _, _ => ⟨_, rfl, rfl⟩) (fun g H => by
    simp only [DefX.dvs, dRaw___init__, List.map_cons, List.map_nil, List.drop, RVs]) (fun E => wRaw___init__ (w := w) (base := base) V  E _ _)
  have zmkRaw1 := tmk_of (dfl := [.tup []]) (j := 0) DRaw___init__ V.mkRaw V.kRaw scRaw___init__ (DRaw___init__.binds1 4 0 (by simp [DefX.dvs, dRaw___init__]) (by simp [DefX.dvs, dRaw___init__]) fun _ _ _ _ _ _ _ us its h1 h2 => match us, its, h1, h2 with | [_, _, _, _], [_], _, _ => ⟨_, rfl, rfl⟩) (fun g H => by
    simp only [DefX.dvs, dRaw___init__, List.map_cons, List.map_nil, List.drop, RVs]
    exact ⟨_, _, rfl, tup0B_ok V.dtRaw0 g H, rfl⟩) (fun E => wRaw___init__ (w := w) (base := base) V  E _ _)
  have zcRaw_has := tmet_ofS DRaw_has V.mRaw_has V.cRaw scRaw_has (DRaw_has.bindsN (ps := Pr.PRaw_has) fun _ _ _ _ _ _ us hl => match us, hl with | [_, _], _ => rfl) (fun E => wRaw_has (w := w) (base := base) V zcgcd E _ _)
  have zcleast_raw := tdef_of Dleast_raw V.gleast_raw scleast_raw (Dleast_raw.bindsN (ps := Pr.Pleast_raw) fun _ _ _ _ _ _ us hl => match us, hl with | [_, _, _, _], _ => rfl) (fun E => wleast_raw (w := w) (base := base) V zcdivisors_by zcleast_table zmkRaw0 E _ _)
  have zcput_together := tdef_of Dput_together V.gput_together scput_together (Dput_together.bindsN (ps := Pr.Pput_together) fun _ _ _ _ _ _ us hl => match us, hl with | [_, _, _], _ => rfl) (fun E => wput_together (w := w) (base := base) V zcRaw_has zcdivisors_by zcgcd zclcm zcleast_raw zcword_of zmkRaw1 E _ _)
  replace zcput_together := zcput_together.cut
  have zcis_great := tdef_of Dis_great V.gis_great scis_great (Dis_great.bindsN (ps := Pr.Pis_great) fun _ _ _ _ _ _ us hl => match us, hl with | [_], _ => rfl) (fun E => wis_great (w := w) (base := base) V  E _ _)
  have zcare_divisors := tdef_of Dare_divisors V.gare_divisors scare_divisors (Dare_divisors.bindsN (ps := Pr.Pare_divisors) fun _ _ _ _ _ _ us hl => match us, hl with | [_, _], _ => rfl) (fun E => ware_divisors (w := w) (base := base) V zcdo_ascend zcis_integer E _ _)
  have zcare_others := tdef_of Dare_others V.gare_others scare_others (Dare_others.bindsN (ps := Pr.Pare_others) fun _ _ _ _ _ _ us hl => match us, hl with | [_], _ => rfl) (fun E => ware_others (w := w) (base := base) V zcdo_ascend zcis_integer E _ _)
  have zcrow_text := tdef_of Drow_text V.grow_text scrow_text (Drow_text.bindsN (ps := Pr.Prow_text) fun _ _ _ _ _ _ us hl => match us, hl with | [_], _ => rfl) (fun E => wrow_text (w := w) (base := base) V  E _ _)
  have zcsigned_parts := tdef_of Dsigned_parts V.gsigned_parts scsigned_parts (Dsigned_parts.bindsN (ps := Pr.Psigned_parts) fun _ _ _ _ _ _ us hl => match us, hl with | [_], _ => rfl) (fun E => wsigned_parts (w := w) (base := base) V zcbases E _ _)
  have zcmany_prime_to := tdef_of Dmany_prime_to V.gmany_prime_to scmany_prime_to (Dmany_prime_to.bindsN (ps := Pr.Pmany_prime_to) fun _ _ _ _ _ _ us hl => match us, hl with | [_, _], _ => rfl) (fun E => wmany_prime_to (w := w) (base := base) V zcsigned_parts E _ _)
  have zmkDials0 := tmk_of (dfl := []) (j := 1) DDials___init__ V.mkDials V.kDials scDials___init__ (DDials___init__.binds1 4 1 (by simp [DefX.dvs, dDials___init__]) (by simp [DefX.dvs, dDials___init__]) fun _ _ _ _ _ _ _ us its h1 h2 => match us, its, h1, h2 with | [_, _, _, _], [_], _, _ => ⟨_, rfl, rfl⟩) (fun g H => by
    simp only [DefX.dvs, dDials___init__, List.map_cons, List.map_nil, List.drop, RVs]) (fun E => wDials___init__ (w := w) (base := base) V zcare_divisors zcare_others zcbases zcis_integer zcleast_raw E _ _)
  have zmkDials1 := tmk_of (dfl := [.tup []]) (j := 0) DDials___init__ V.mkDials V.kDials scDials___init__ (DDials___init__.binds1 3 0 (by simp [DefX.dvs, dDials___init__]) (by simp [DefX.dvs, dDials___init__]) fun _ _ _ _ _ _ _ us its h1 h2 => match us, its, h1, h2 with | [_, _, _], [_], _, _ => ⟨_, rfl, rfl⟩) (fun g H => by
    simp only [DefX.dvs, dDials___init__, List.map_cons, List.map_nil, List.drop, RVs]
    exact ⟨_, _, rfl, tup0B_ok V.dtDials0 g H, rfl⟩) (fun E => wDials___init__ (w := w) (base := base) V zcare_divisors zcare_others zcbases zcis_integer zcleast_raw E _ _)
  have zctold_raw := tdef_of Dtold_raw V.gtold_raw sctold_raw (Dtold_raw.bindsN (ps := Pr.Ptold_raw) fun _ _ _ _ _ _ us hl => match us, hl with | [_], _ => rfl) (fun E => wtold_raw (w := w) (base := base) V zcis_great zmkDials0 E _ _)
  have zcDials_whole := tprop_of DDials_whole V.pDials_whole V.cDials scDials_whole (DDials_whole.bindsN (ps := Pr.PDials_whole) fun _ _ _ _ _ _ us hl => match us, hl with | [_], _ => rfl) (fun E => wDials_whole (w := w) (base := base) V  E _ _)
  have zcDials_shares := tprop_of DDials_shares V.pDials_shares V.cDials scDials_shares (DDials_shares.bindsN (ps := Pr.PDials_shares) fun _ _ _ _ _ _ us hl => match us, hl with | [_], _ => rfl) (fun E => wDials_shares (w := w) (base := base) V  E _ _)
  have zcDials_others := tprop_of DDials_others V.pDials_others V.cDials scDials_others (DDials_others.bindsN (ps := Pr.PDials_others) fun _ _ _ _ _ _ us hl => match us, hl with | [_], _ => rfl) (fun E => wDials_others (w := w) (base := base) V  E _ _)
  have zcDials_text := tprop_of DDials_text V.pDials_text V.cDials scDials_text (DDials_text.bindsN (ps := Pr.PDials_text) fun _ _ _ _ _ _ us hl => match us, hl with | [_], _ => rfl) (fun E => wDials_text (w := w) (base := base) V zcDials_others zcDials_shares zcDials_whole zcrow_text E _ _)
  have zcDials___contains__ := tmet_of DDials___contains__ V.mDials___contains__ V.cDials scDials___contains__ (DDials___contains__.bindsN (ps := Pr.PDials___contains__) fun _ _ _ _ _ _ us hl => match us, hl with | [_, _], _ => rfl) (fun E => wDials___contains__ (w := w) (base := base) V zcRaw_has zcis_whole E _ _)
  have zcnext_with := tdef_of Dnext_with V.gnext_with scnext_with (Dnext_with.bindsN (ps := Pr.Pnext_with) fun _ _ _ _ _ _ us hl => match us, hl with | [_, _, _], _ => rfl) (fun E => wnext_with (w := w) (base := base) V zcDials___contains__ zcDials_whole zcgcd E _ _)
  have zcDials_after := tmet_of DDials_after V.mDials_after V.cDials scDials_after (DDials_after.bindsN (ps := Pr.PDials_after) fun _ _ _ _ _ _ us hl => match us, hl with | [_, _], _ => rfl) (fun E => wDials_after (w := w) (base := base) V zcDials___contains__ zcDials_others zcDials_shares zcis_integer zcnext_with E _ _)
  replace zcDials_after := zcDials_after.cut
  have zcDials___or__ := tmet_of DDials___or__ V.mDials___or__ V.cDials scDials___or__ (DDials___or__.bindsN (ps := Pr.PDials___or__) fun _ _ _ _ _ _ us hl => match us, hl with | [_, _], _ => rfl) (fun E => wDials___or__ (w := w) (base := base) V zcput_together zctold_raw E _ _)
  have zcDials___and__ := tmet_of DDials___and__ V.mDials___and__ V.cDials scDials___and__ (DDials___and__.bindsN (ps := Pr.PDials___and__) fun _ _ _ _ _ _ us hl => match us, hl with | [_, _], _ => rfl) (fun E => wDials___and__ (w := w) (base := base) V zcput_together zctold_raw E _ _)
  have zcDials___sub__ := tmet_of DDials___sub__ V.mDials___sub__ V.cDials scDials___sub__ (DDials___sub__.bindsN (ps := Pr.PDials___sub__) fun _ _ _ _ _ _ us hl => match us, hl with | [_, _], _ => rfl) (fun E => wDials___sub__ (w := w) (base := base) V zcput_together zctold_raw E _ _)
  have zcDials___xor__ := tmet_of DDials___xor__ V.mDials___xor__ V.cDials scDials___xor__ (DDials___xor__.bindsN (ps := Pr.PDials___xor__) fun _ _ _ _ _ _ us hl => match us, hl with | [_, _], _ => rfl) (fun E => wDials___xor__ (w := w) (base := base) V zcput_together zctold_raw E _ _)
  have zcDials___invert__ := tmet_of DDials___invert__ V.mDials___invert__ V.cDials scDials___invert__ (DDials___invert__.bindsN (ps := Pr.PDials___invert__) fun _ _ _ _ _ _ us hl => match us, hl with | [_], _ => rfl) (fun E => wDials___invert__ (w := w) (base := base) V zcDials_others zcDials_whole zcdivisors zmkDials0 E _ _)
  have zcDials___eq__ := tmet_of DDials___eq__ V.mDials___eq__ V.cDials scDials___eq__ (DDials___eq__.bindsN (ps := Pr.PDials___eq__) fun _ _ _ _ _ _ us hl => match us, hl with | [_, _], _ => rfl) (fun E => wDials___eq__ (w := w) (base := base) V zcDials_text E _ _)
  have zcis_below := tdef_of Dis_below V.gis_below scis_below (Dis_below.bindsN (ps := Pr.Pis_below) fun _ _ _ _ _ _ us hl => match us, hl with | [_, _], _ => rfl) (fun E => wis_below (w := w) (base := base) V zcput_together E _ _)
  have zcDials___le__ := tmet_of DDials___le__ V.mDials___le__ V.cDials scDials___le__ (DDials___le__.bindsN (ps := Pr.PDials___le__) fun _ _ _ _ _ _ us hl => match us, hl with | [_, _], _ => rfl) (fun E => wDials___le__ (w := w) (base := base) V zcis_below E _ _)
  have zc_law_pot := tdef_of D_law_pot V.g_law_pot sc_law_pot (D_law_pot.bindsN (ps := P_law_pot) fun _ _ _ _ _ _ us hl => match us, hl with | [_, _], _ => rfl) (fun E => w_law_pot (w := w) (base := base) V  E _ _)
  have zc_law_take := tdef_of D_law_take V.g_law_take sc_law_take (D_law_take.bindsN (ps := P_law_take) fun _ _ _ _ _ _ us hl => match us, hl with | [_, _], _ => rfl) (fun E => w_law_take (w := w) (base := base) V  E _ _)
  have zc_law_of := tdef_of D_law_of V.g_law_of sc_law_of (D_law_of.bindsN (ps := P_law_of) fun _ _ _ _ _ _ us hl => match us, hl with | [_, _], _ => rfl) (fun E => w_law_of (w := w) (base := base) V zc_law_take E _ _)
  have zc_law_places := tdef_of D_law_places V.g_law_places sc_law_places (D_law_places.bindsN (ps := P_law_places) fun _ _ _ _ _ _ us hl => match us, hl with | [_, _], _ => rfl) (fun E => w_law_places (w := w) (base := base) V  E _ _)
  have zc_law_pairs := tdef_of D_law_pairs V.g_law_pairs sc_law_pairs (D_law_pairs.bindsN (ps := P_law_pairs) fun _ _ _ _ _ _ us hl => match us, hl with | [], _ => rfl) (fun E => w_law_pairs (w := w) (base := base) V  E _ _)
  have zdueC : DueC Pg w K mg base 0 t_law_is_due := ⟨_, _, _, _, _, _, D_law_is_due, V.g_law_is_due, (D_law_is_due.bindsN (ps := [nLook, nWide]) fun _ _ _ _ _ _ us hl => match us, hl with | [_, _], _ => rfl), sc_law_is_due, ⟨rfl, rfl, rfl⟩, ⟨_, _, _, _, _, _, _, _, rfl⟩, w_law_is_due (w := w) (base := base) V  C8.E0 _ _⟩
  have zc_law_plain_right := tdef_of D_law_plain_right V.g_law_plain_right sc_law_plain_right (D_law_plain_right.bindsN (ps := P_law_plain_right) fun _ _ _ _ _ _ us hl => match us, hl with | [_, _], _ => rfl) (fun E => w_law_plain_right (w := w) (base := base) V zcDials___and__ zcDials___invert__ zcDials___le__ zcDials___or__ zcDials___sub__ zcDials___xor__ zcDials_after zcDials_shares zcDials_whole zdueC zmkDials1 ztldB ztldC E)
  replace zc_law_plain_right := zc_law_plain_right.cut
  have zc_law_parted_right := tdef_of D_law_parted_right V.g_law_parted_right sc_law_parted_right (D_law_parted_right.bindsN (ps := P_law_parted_right) fun _ _ _ _ _ _ us hl => match us, hl with | [_, _], _ => rfl) (fun E => w_law_parted_right (w := w) (base := base) V zcDials___and__ zcDials___contains__ zcDials___eq__ zcDials___le__ zcDials___or__ zcDials___sub__ zcDials___xor__ zcDials_text zdueC zmkDials1 ztldB ztldC E)
  replace zc_law_parted_right := zc_law_parted_right.cut
  have zc_law_right := tdef_of D_law_right V.g_law_right sc_law_right (D_law_right.bindsN (ps := P_law_right) fun _ _ _ _ _ _ us hl => match us, hl with | [_], _ => rfl) (fun E => w_law_right (w := w) (base := base) V zc_law_of zc_law_pairs zc_law_parted_right zc_law_plain_right zc_law_take E _ _)
  replace zc_law_right := zc_law_right.cut
  exact tfn_of Dlaw sclaw (fun E => wlaw (w := w) (base := base) V zc_law_places zc_law_pot zc_law_right E _ _)
end K12
set_option Elab.async false
set_option linter.all false
set_option maxRecDepth 100000
set_option maxHeartbeats 0
open PySem PySem.W PySem.Calls PyProof.Rows
theorem PySem.Challenge.cw_dialsums_k12_sets_that_get_too_great_holds : PySem.Challenge.rw_dialsums_k12_sets_that_get_too_great.Holds := by
  w_on; o_law
  refine HandSHeadRun.head_any (r := OpenLaw.row PySem.Challenge.rw_dialsums_k12_sets_that_get_too_great) (q := view (OpenLaw.row PySem.Challenge.rw_dialsums_k12_sets_that_get_too_great).prog [71]) (H := K12.hk) (ob := K12.ob) (M := 12000) (loose := K12.loose) (d := HandSHeadRun.topDef (OpenLaw.row PySem.Challenge.rw_dialsums_k12_sets_that_get_too_great).prog 71) (kwd := [])
    K12.ob_eq (by kernel_rfl) (fun s => by kernel_rfl) K12.run (by kernel_rfl) (by kernel_rfl) (by kernel_rfl) (by rfl) (by first | assumption | decide +kernel) (by decide +kernel) ⟨rfl, rfl, rfl, rfl, rfl, by decide +kernel⟩ ?hw ?hc
  case hw => w_witness2
  case hc =>
    refine TL.walk_TT (ms := K12.ms) (l := PySem.Challenge.rw_dialsums_k12_sets_that_get_too_great) (n := 63) (k := 19) (x := "_law_script") (F := K12.Flaw) rfl (by decide) (by kernel_rfl) ⟨rfl, by decide, by decide⟩ ?_ fun ns hl hb => K12.law_ok ns hl
    intro w mg fa h Y G hmg0
    obtain ⟨K, KX, c, T⟩ := Y
    have hmg : mg ("law" : PySem.Str) = some (.ref fa) := by
      have e : (HandSHeadRun.topDef (OpenLaw.row PySem.Challenge.rw_dialsums_k12_sets_that_get_too_great).prog 71).name = ("law" : PySem.Str) := by kernel_rfl
      rw [← e]
      exact hmg0
    obtain ⟨fd, hb, hF⟩ := K12.facts (w := w) KX G hmg c
    exact ⟨K, fd, KX, T, hb, hF⟩
