import PyProof.Rows.All
import Wide.All
import OpenK.AllK
import Wide.FinOn
import HandS.ForMost
import HandS.FStr
import HandS.IsInst
import HandS.Property
import HandS.Words
import HandS.ClsMeth
import HandS.Head0
import HandS.Head1
import HandS.Head2
import HandS.HeadHook1
import HandS.HeadHook2
import HandS.Style
import HandS.Star
import HandS.Flow
import HandS.TupAny
import HandS.Defaults
import HandS.MakeKwOnly
import HandS.TupMul
import HandS.Deep
import HandS.Dict
import HandS.Wide
import PyProof.ListMulAny
import PyProof.P3In
import KE.KRevSl
import KE.GoesEnum
import KE.GoesMore
import HandS.Walk
import HandS.Codes
import PyProof.FitsInt
import PyProof.StrLaws
import PySem.Challenge.RW_callflows_k21_worlds_made
set_option Elab.async false
set_option linter.all false
set_option maxRecDepth 100000
/-! the head's facts: tests that the kernel runs over the heap behind the top -/
namespace Wd
open PySem PySem.Spec PyProof.Rows L2 He

def paF (K : PySem.W.Frag) (p : Addr) : Addr := match PySem.W.recIn K p "property" with
  | some (.ref f :: _) => f
  | _ => 0
/-- a def: where it stands, its name, qualified name, parameters, body, scope, its defaults, keyword-only defaults (values without an address) -/
structure FnT where
  adr : PySem.W.Frag → Addr
  name : Str
  qual : Str
  params : Arguments
  body : List Stmt
  scope : Scope
  dfl : Option (List Value) := none
  kwd : List (Str × Value) := []
def fnV (K : PySem.W.Frag) (a : Addr) : FnW := match K.lookup a with
  | some ⟨_, _, .func fd, _⟩ => some (fd.name, fd.qualname, fd.params, fd.body, fd.scope, fd.globals, fd.closure, fd.builtins)
  | _ => none
def FnT.val (d : FnT) : FnW := some (d.name, d.qual, d.params, .stmts d.body, d.scope, mainGlobals, [], builtinsNs)
def dflT (K : PySem.W.Frag) (dV : Value) : Option (List Value) → Bool
  | none => decide (dV = .none)
  | some its => match dV with
    | .ref T => (match K.lookup T with
      | some ⟨_, _, .seq us _, _⟩ => decide (us.toList = its)
      | _ => false)
    | _ => false
def kwdT (K : PySem.W.Frag) (kV : Value) : List (Str × Value) → Bool
  | [] => true
  | q :: qs => match kV with
    | .ref D => (q :: qs).all fun q => decide (PySem.W.nsIn K D q.1 = some (some q.2))
    | _ => false
def FnT.ok (K : PySem.W.Frag) (d : FnT) : Bool := PySem.W.keepIn K (.ref (d.adr K)) && (match K.lookup (d.adr K) with
  | some ⟨_, _, .func fd, _⟩ => PySem.W.codeIn K fd.code d.qual && (dflT K fd.defaults d.dfl && kwdT K fd.kwdefaults d.kwd)
  | _ => false)
def DflOk (K : PySem.W.Frag) (dV : Value) : Option (List Value) → Prop
  | none => dV = .none
  | some its => ∃ T dcl dod dn dsl, dV = .ref T ∧ K.lookup T = some ⟨dcl, dod, .seq its.toArray dn, dsl⟩
def KwdOk (K : PySem.W.Frag) (kV : Value) (ks : List (Str × Value)) : Prop := ks = [] ∨ ∃ D, kV = .ref D ∧ ∀ q ∈ ks, PySem.W.nsIn K D q.1 = some (some q.2)
theorem dflT_ok {K : PySem.W.Frag} {dV : Value} {o : Option (List Value)} (h : dflT K dV o = true) : DflOk K dV o := by
  cases o with
  | none => exact (of_decide_eq_true (show decide (dV = Value.none) = true from h) : dV = Value.none)
  | some its =>
    cases dV with
    | ref T =>
      have h1 : (match K.lookup T with
        | some ⟨_, _, .seq us _, _⟩ => decide (us.toList = its)
        | _ => false) = true := h
      cases q : K.lookup T with
      | none => rw [q] at h1; cases h1
      | some ob =>
        obtain ⟨a, b, dt, sl⟩ := ob
        rw [q] at h1
        cases dt with
        | seq us n =>
          have e : us.toList = its := of_decide_eq_true h1
          subst e
          exact ⟨T, a, b, n, sl, rfl, by rw [q]⟩
        | _ => cases h1
    | _ => cases h
theorem kwdT_ok {K : PySem.W.Frag} {kV : Value} {ks : List (Str × Value)} (h : kwdT K kV ks = true) : KwdOk K kV ks := by
  cases ks with
  | nil => exact .inl rfl
  | cons q qs =>
    cases kV with
    | ref D =>
      have h1 : ((q :: qs).all fun q => decide (PySem.W.nsIn K D q.1 = some (some q.2))) = true := h
      exact .inr ⟨D, rfl, fun z hz => of_decide_eq_true (List.all_eq_true.mp h1 z hz)⟩
    | _ => cases h
theorem FnT.get {K : PySem.W.Frag} {d : FnT} (e : fnV K (d.adr K) = d.val) (c : d.ok K = true) :
    ∃ oc od sl dV kV dc pm an cd ct, K.lookup (d.adr K) = some ⟨oc, od, .func (PySem.W.fnOf d.name d.qual d.params d.body d.scope dV kV dc pm an cd ct), sl⟩ ∧ PySem.W.codeIn K cd d.qual = true ∧ PySem.W.keepIn K (.ref (d.adr K)) = true ∧ DflOk K dV d.dfl ∧ KwdOk K kV d.kwd := by
  obtain ⟨kp, c2⟩ := ba c
  unfold fnV at e
  cases q : K.lookup (d.adr K) with
  | none => rw [q] at c2; cases c2
  | some o =>
    obtain ⟨oc, od, dt, osl⟩ := o
    rw [q] at c2 e
    cases dt with
    | func fd =>
      obtain ⟨n1, n2, n3, n4, n5, n6, n7, n8, n9, n10, n11, n12, n13, n14, n15⟩ := fd
      have e2 : (some (n1, n2, n3, n4, n5, n6, n7, n15) : FnW) = some (d.name, d.qual, d.params, .stmts d.body, d.scope, mainGlobals, [], builtinsNs) := e
      simp only [Option.some.injEq, Prod.mk.injEq] at e2
      obtain ⟨h1, h2, h3, h4, h5, h6, h7, h8⟩ := e2
      subst h1 h2 h3 h4 h5 h6 h7 h8
      have c3 : (PySem.W.codeIn K n13 d.qual && (dflT K n8 d.dfl && kwdT K n9 d.kwd)) = true := c2
      obtain ⟨k1, k2⟩ := ba c3
      obtain ⟨k3, k4⟩ := ba k2
      exact ⟨oc, od, osl, n8, n9, n10, n11, n12, n13, n14, rfl, k1, kp, dflT_ok k3, kwdT_ok k4⟩
    | _ => cases c2
/-! ### the Hook -/
abbrev AlW : Type := Bool × List FnW
def obsW (fs : List (PySem.W.Frag → Bool)) (fn : List FnT) (K : PySem.W.Frag) : AlW := ((fs.all fun f => f K) && fn.all fun d => d.ok K, fn.map fun d => fnV K (d.adr K))
def valW (fn : List FnT) : AlW := (true, fn.map FnT.val)
def SaysW (fs : List (PySem.W.Frag → Bool)) (fn : List FnT) (K : PySem.W.Frag) : Prop := obsW fs fn K = valW fn
/-- the addresses that are looked at -/
def asS (g : Addr → Option Obj) (n : Nat) : List Addr := cStatics :: asD g n
def obsWG (n : Nat) (fs : List (PySem.W.Frag → Bool)) (fn : List FnT) (g : Addr → Option Obj) : AlW := obsW fs fn (frG g (asS g n))
def hookW (n : Nat) (fs : List (PySem.W.Frag → Bool)) (fn : List FnT) : PySem.W.Hook where
  α := AlW
  obs := fun s => obsWG n fs fn s.heap.get?
  val := fun _ => valW fn
  says := fun _ h => ∃ K : PySem.W.Frag, K.In h ∧ SaysW fs fn K
  of := fun _ _ e => ⟨_, frG_in, e⟩
  keeps := fun _ _ _ ⟨K, hK, c⟩ k => ⟨K, PySem.W.Frag.In.keeps hK k, c⟩
theorem obsWG_eq {n : Nat} {fs : List (PySem.W.Frag → Bool)} {fn : List FnT} {g : Addr → Option Obj} {s : Shared} (h : ∀ a, g a = s.heap.get? a) : obsWG n fs fn g = (hookW n fs fn).obs s := by
  have e : g = s.heap.get? := funext h
  rw [e] <;> rfl
section
variable {fs : List (PySem.W.Frag → Bool)} {fn : List FnT} {K : PySem.W.Frag}
theorem SaysW.fact (c : SaysW fs fn K) (i : Nat) {f : PySem.W.Frag → Bool} (h : fs[i]? = some f) : f K = true := by
  have c1 := (ba (show ((fs.all fun f => f K) && fn.all fun d => d.ok K) = true from congrArg (fun z : AlW => z.1) c)).1
  exact List.all_eq_true.mp c1 f (List.mem_of_getElem? h)
theorem SaysW.dfn (c : SaysW fs fn K) (i : Nat) {d : FnT} (h : fn[i]? = some d) :
    ∃ oc od sl dV kV dc pm an cd ct, K.lookup (d.adr K) = some ⟨oc, od, .func (PySem.W.fnOf d.name d.qual d.params d.body d.scope dV kV dc pm an cd ct), sl⟩ ∧ PySem.W.codeIn K cd d.qual = true ∧ PySem.W.keepIn K (.ref (d.adr K)) = true ∧ DflOk K dV d.dfl ∧ KwdOk K kV d.kwd := by
  have c2 := (ba (show ((fs.all fun f => f K) && fn.all fun d => d.ok K) = true from congrArg (fun z : AlW => z.1) c)).2
  have e : fn.map (fun d => fnV K (d.adr K)) = fn.map FnT.val := congrArg (fun z : AlW => z.2) c
  have e2 : (fn.map fun d => fnV K (d.adr K))[i]? = (fn.map FnT.val)[i]? := by rw [e]
  rw [List.getElem?_map, List.getElem?_map, h] at e2
  exact FnT.get (Option.some.inj e2) (List.all_eq_true.mp c2 d (List.mem_of_getElem? h))
end
def strG (K : PySem.W.Frag) (x z : Str) : Bool := (He.Fa.str x z).ok K
def intG (K : PySem.W.Frag) (x : Str) (i : Int) : Bool := (He.Fa.int x i).ok K
theorem strG_ok {K : PySem.W.Frag} {x z : Str} (c : strG K x z = true) : ∃ t, PySem.W.nsIn K mainGlobals x = some (some (.str z t)) := by
  have c2 : (match PySem.W.nsIn K mainGlobals x with
    | some (some (.str y _)) => decide (y = z)
    | _ => false) = true := c
  cases e : PySem.W.nsIn K mainGlobals x with
  | none => rw [e] at c2; cases c2
  | some o =>
    rw [e] at c2
    cases o with
    | none => cases c2
    | some v =>
      cases v with
      | str y t =>
        have ej : y = z := of_decide_eq_true c2
        exact ⟨t, by rw [ej]⟩
      | _ => cases c2
theorem intG_ok {K : PySem.W.Frag} {x : Str} {i : Int} (c : intG K x i = true) : ∃ t, PySem.W.nsIn K mainGlobals x = some (some (.int i t)) := by
  have c2 : (match PySem.W.nsIn K mainGlobals x with
    | some (some (.int j _)) => decide (j = i)
    | _ => false) = true := c
  cases e : PySem.W.nsIn K mainGlobals x with
  | none => rw [e] at c2; cases c2
  | some o =>
    rw [e] at c2
    cases o with
    | none => cases c2
    | some v =>
      cases v with
      | int y t =>
        have ej : y = i := of_decide_eq_true c2
        exact ⟨t, by rw [ej]⟩
      | _ => cases c2
def recP (K : PySem.W.Frag) (p : Addr) : Bool := match PySem.W.recIn K p "property" with
  | some (.ref _ :: _) => true
  | _ => false
theorem recP_ok {K : PySem.W.Frag} {p : Addr} (h : recP K p = true) : ∃ rest, PySem.W.recIn K p "property" = some (.ref (paF K p) :: rest) := by
  unfold recP at h
  cases e : PySem.W.recIn K p "property" with
  | none => rw [e] at h; cases h
  | some l =>
    rw [e] at h
    cases l with
    | nil => cases h
    | cons v r =>
      cases v with
      | ref f => exact ⟨r, by unfold paF; rw [e]⟩
      | _ => cases h
def cmF (K : PySem.W.Frag) (p : Addr) : Addr := match PySem.W.recIn K p "classmethod" with
  | some (.ref f :: _) => f
  | _ => 0
def recC (K : PySem.W.Frag) (p : Addr) : Bool := match PySem.W.recIn K p "classmethod" with
  | some (.ref _ :: _) => true
  | _ => false
theorem recC_ok {K : PySem.W.Frag} {p : Addr} (h : recC K p = true) : ∃ rest, PySem.W.recIn K p "classmethod" = some (.ref (cmF K p) :: rest) := by
  unfold recC at h
  cases e : PySem.W.recIn K p "classmethod" with
  | none => rw [e] at h; cases h
  | some l =>
    rw [e] at h
    cases l with
    | nil => cases h
    | cons v r =>
      cases v with
      | ref f => exact ⟨r, by unfold cmF; rw [e]⟩
      | _ => cases h
/-- C.m is a classmethod -/
def cmtB (K : PySem.W.Frag) (C : Addr) (m : Str) : Bool := match PySem.W.findCls K (.ref C) (.type "type") m with
  | some (.get (.builtin b) (.ref p) .none (.ref D)) => decide (b = "classmethod.__get__") && decide (p = He.ma K C m) && decide (D = C)
  | _ => false
theorem cmtB_ok {K : PySem.W.Frag} {C : Addr} {m : Str} (h : cmtB K C m = true) : PySem.W.findCls K (.ref C) (.type "type") m = some (.get (.builtin "classmethod.__get__") (.ref (He.ma K C m)) .none (.ref C)) := by
  unfold cmtB at h
  split at h
  · rename_i b p D e
    simp only [Bool.and_eq_true, decide_eq_true_eq] at h
    obtain ⟨⟨h1, h2⟩, h3⟩ := h
    rw [e, h1, h2, h3]
  · cases h
end Wd

set_option Elab.async false
set_option linter.all false
set_option maxRecDepth 100000
set_option maxHeartbeats 0
namespace Wd
open PySem PySem.Spec PyProof.Rows L2
def topS (i : Nat) : Stmt := PySem.Challenge.pw_callflows_k21_worlds_made.main.body.getD i (.Pass ⟨0, 0, 0, 0⟩)
def fsT : List (PySem.W.Frag → Bool) := [fun K => decide (PySem.W.nsIn K mainGlobals "is_name" = some (some (.ref (He.ga K "is_name")))),
  fun K => decide (PySem.W.nsIn K mainGlobals "are_names" = some (some (.ref (He.ga K "are_names")))),
  fun K => decide (PySem.W.nsIn K mainGlobals "check_atoms" = some (some (.ref (He.ga K "check_atoms")))),
  fun K => decide (PySem.W.nsIn K mainGlobals "is_row" = some (some (.ref (He.ga K "is_row")))),
  fun K => decide (PySem.W.nsIn K mainGlobals "check_rows" = some (some (.ref (He.ga K "check_rows")))),
  fun K => decide (PySem.W.nsIn K mainGlobals "_law_source" = some (some (.ref (He.ga K "_law_source")))),
  fun K => decide (PySem.W.nsIn K mainGlobals "_law_draw" = some (some (.ref (He.ga K "_law_draw")))),
  fun K => decide (PySem.W.nsIn K mainGlobals "_law_name" = some (some (.ref (He.ga K "_law_name")))),
  fun K => decide (PySem.W.nsIn K mainGlobals "_law_atoms" = some (some (.ref (He.ga K "_law_atoms")))),
  fun K => decide (PySem.W.nsIn K mainGlobals "_law_rows" = some (some (.ref (He.ga K "_law_rows")))),
  fun K => decide (PySem.W.nsIn K mainGlobals "_law_bent" = some (some (.ref (He.ga K "_law_bent")))),
  fun K => decide (PySem.W.nsIn K mainGlobals "_law_right" = some (some (.ref (He.ga K "_law_right")))),
  fun K => decide (PySem.W.nsIn K mainGlobals "law" = some (some (.ref (He.ga K "law")))),
  fun K => decide (PySem.W.nsIn K mainGlobals "World" = some (some (.ref (He.ga K "World")))),
  fun K => decide (PySem.W.keepIn K (.ref (He.ga K "World")) = true),
  fun K => decide (PySem.W.makesIn K (He.ga K "World") = true),
  fun K => decide (PySem.W.plainGet K (He.ga K "World") Str.empty = true),
  fun K => decide (PySem.W.hasDictIn K (He.ga K "World") = true),
  fun K => decide (PySem.W.plainOver K (He.ga K "World") = true),
  fun K => decide (PySem.W.findIn K (.ref (He.ga K "World")) "__setattr__" = some (some (.builtin "object.__setattr__"))),
  fun K => decide (PySem.W.findIn K (.ref (He.ga K "World")) "__class__" = some (some (.builtin "object.__class__"))),
  fun K => decide (PySem.W.specialIn K (.builtin "object.__class__") "__get__" = some (some (.builtin "getset_descriptor.__get__"))),
  fun K => decide (PySem.W.takesIn K (.builtin "object.__class__") = some true),
  fun K => decide (PySem.W.mroIn K (He.ga K "World") (.type "object") = some true),
  fun K => decide (PySem.W.mroIn K (He.ga K "World") (.type "int") = some false),
  fun K => decide (PySem.W.mroIn K (He.ga K "World") (.type "str") = some false),
  fun K => decide (PySem.W.mroIn K (He.ga K "World") (.type "bool") = some false),
  fun K => decide (PySem.W.mroIn K (He.ga K "World") (.type "tuple") = some false),
  fun K => decide (PySem.W.mroIn K (He.ga K "World") (.type "list") = some false),
  fun K => decide ((PySem.W.clsIn K (He.ga K "World")).isSome = true),
  fun K => decide (PySem.W.typeIn K (.ref (He.ga K "World")) = some (.type "type")),
  fun K => decide (PySem.W.noSeq K (He.ga K "World") = true),
  fun K => decide (PySem.W.findIn K (.ref (He.ga K "World")) "__bool__" = some none),
  fun K => decide (PySem.W.findIn K (.ref (He.ga K "World")) "__ne__" = some (some (.builtin "object.__ne__"))),
  fun K => decide (PySem.W.findIn K (.ref (He.ga K "World")) "__init__" = some (some (.ref (He.ma K (He.ga K "World") "__init__")))),
  fun K => decide (PySem.W.isFn K (.ref (He.ma K (He.ga K "World") "__init__")) = true),
  fun K => decide (PySem.W.findIn K (.ref (He.ga K "World")) "atoms" = some (some (.ref (He.ma K (He.ga K "World") "atoms")))),
  fun K => decide (PySem.W.specialIn K (.ref (He.ma K (He.ga K "World") "atoms")) "__get__" = some (some (.builtin "property.__get__"))),
  fun K => decide (PySem.W.takesIn K (.ref (He.ma K (He.ga K "World") "atoms")) = some true),
  fun K => recP K (He.ma K (He.ga K "World") "atoms"),
  fun K => decide (PySem.W.findIn K (.ref (He.ga K "World")) "rows" = some (some (.ref (He.ma K (He.ga K "World") "rows")))),
  fun K => decide (PySem.W.specialIn K (.ref (He.ma K (He.ga K "World") "rows")) "__get__" = some (some (.builtin "property.__get__"))),
  fun K => decide (PySem.W.takesIn K (.ref (He.ma K (He.ga K "World") "rows")) = some true),
  fun K => recP K (He.ma K (He.ga K "World") "rows"),
  fun K => decide (PySem.W.findIn K (.ref (He.ga K "World")) "__len__" = some (some (.ref (He.ma K (He.ga K "World") "__len__")))),
  fun K => decide (PySem.W.isFn K (.ref (He.ma K (He.ga K "World") "__len__")) = true),
  fun K => decide (PySem.W.fnIn K (He.ma K (He.ga K "World") "__len__") = true),
  fun K => decide (PySem.W.findIn K (.ref (He.ga K "World")) "__eq__" = some (some (.ref (He.ma K (He.ga K "World") "__eq__")))),
  fun K => decide (PySem.W.isFn K (.ref (He.ma K (He.ga K "World") "__eq__")) = true),
  fun K => decide (PySem.W.fnIn K (He.ma K (He.ga K "World") "__eq__") = true),
  fun K => decide (PySem.W.findIn K (.ref (He.ga K "World")) "__repr__" = some (some (.ref (He.ma K (He.ga K "World") "__repr__")))),
  fun K => decide (PySem.W.isFn K (.ref (He.ma K (He.ga K "World") "__repr__")) = true),
  fun K => decide (PySem.W.fnIn K (He.ma K (He.ga K "World") "__repr__") = true),
  fun K => decide (PySem.W.findIn K (.ref (He.ga K "World")) "told" = some none),
  fun K => strG K "LETTERS" "abcdefghijklmnopqrstuvwyz",
  fun K => strG K "DIGITS" "0123456789",
  fun K => intG K "MOST_DIGITS" 3,
  fun K => intG K "MOST_WORLD_ATOMS" 6,
  fun K => intG K "MOST_ATOM_NAMES" 30,
  fun K => decide (PySem.W.nsIn K mainGlobals "len" = some none),
  fun K => decide (PySem.W.nsIn K mainGlobals "int" = some none),
  fun K => decide (PySem.W.nsIn K mainGlobals "bool" = some none),
  fun K => decide (PySem.W.nsIn K mainGlobals "str" = some none),
  fun K => decide (PySem.W.nsIn K mainGlobals "abs" = some none),
  fun K => decide (PySem.W.nsIn K mainGlobals "min" = some none),
  fun K => decide (PySem.W.nsIn K mainGlobals "max" = some none),
  fun K => decide (PySem.W.nsIn K mainGlobals "divmod" = some none),
  fun K => decide (PySem.W.nsIn K mainGlobals "tuple" = some none),
  fun K => decide (PySem.W.nsIn K mainGlobals "list" = some none),
  fun K => decide (PySem.W.nsIn K mainGlobals "all" = some none),
  fun K => decide (PySem.W.nsIn K mainGlobals "any" = some none),
  fun K => decide (PySem.W.nsIn K mainGlobals "sum" = some none),
  fun K => decide (PySem.W.nsIn K mainGlobals "repr" = some none),
  fun K => decide (PySem.W.nsIn K mainGlobals "isinstance" = some none),
  fun K => decide (PySem.W.nsIn K mainGlobals "range" = some none),
  fun K => decide (PySem.W.nsIn K mainGlobals "enumerate" = some none)]
def fnT : List FnT := [⟨fun K => (He.ga K "is_name"), "is_name", "is_name", defArgs (topS 9), defBody (topS 9), defScope (topS 9), none, []⟩,
  ⟨fun K => (He.ga K "are_names"), "are_names", "are_names", defArgs (topS 10), defBody (topS 10), defScope (topS 10), none, []⟩,
  ⟨fun K => (He.ga K "check_atoms"), "check_atoms", "check_atoms", defArgs (topS 14), defBody (topS 14), defScope (topS 14), none, []⟩,
  ⟨fun K => (He.ga K "is_row"), "is_row", "is_row", defArgs (topS 15), defBody (topS 15), defScope (topS 15), none, []⟩,
  ⟨fun K => (He.ga K "check_rows"), "check_rows", "check_rows", defArgs (topS 16), defBody (topS 16), defScope (topS 16), none, []⟩,
  ⟨fun K => (He.ga K "_law_source"), "_law_source", "_law_source", defArgs (topS 19), defBody (topS 19), defScope (topS 19), none, []⟩,
  ⟨fun K => (He.ga K "_law_draw"), "_law_draw", "_law_draw", defArgs (topS 20), defBody (topS 20), defScope (topS 20), none, []⟩,
  ⟨fun K => (He.ga K "_law_name"), "_law_name", "_law_name", defArgs (topS 21), defBody (topS 21), defScope (topS 21), none, []⟩,
  ⟨fun K => (He.ga K "_law_atoms"), "_law_atoms", "_law_atoms", defArgs (topS 22), defBody (topS 22), defScope (topS 22), none, []⟩,
  ⟨fun K => (He.ga K "_law_rows"), "_law_rows", "_law_rows", defArgs (topS 23), defBody (topS 23), defScope (topS 23), none, []⟩,
  ⟨fun K => (He.ga K "_law_bent"), "_law_bent", "_law_bent", defArgs (topS 24), defBody (topS 24), defScope (topS 24), none, []⟩,
  ⟨fun K => (He.ga K "_law_right"), "_law_right", "_law_right", defArgs (topS 25), defBody (topS 25), defScope (topS 25), none, []⟩,
  ⟨fun K => (He.ga K "law"), "law", "law", defArgs (topS 26), defBody (topS 26), defScope (topS 26), none, []⟩,
  ⟨fun K => (He.ma K (He.ga K "World") "__init__"), "__init__", "World.__init__", defArgs (inClass (topS 17) 0), defBody (inClass (topS 17) 0), defScope (inClass (topS 17) 0), none, []⟩,
  ⟨fun K => (paF K (He.ma K (He.ga K "World") "atoms")), "atoms", "World.atoms", defArgs (inClass (topS 17) 1), defBody (inClass (topS 17) 1), defScope (inClass (topS 17) 1), none, []⟩,
  ⟨fun K => (paF K (He.ma K (He.ga K "World") "rows")), "rows", "World.rows", defArgs (inClass (topS 17) 2), defBody (inClass (topS 17) 2), defScope (inClass (topS 17) 2), none, []⟩,
  ⟨fun K => (He.ma K (He.ga K "World") "__len__"), "__len__", "World.__len__", defArgs (inClass (topS 17) 3), defBody (inClass (topS 17) 3), defScope (inClass (topS 17) 3), none, []⟩,
  ⟨fun K => (He.ma K (He.ga K "World") "__eq__"), "__eq__", "World.__eq__", defArgs (inClass (topS 17) 4), defBody (inClass (topS 17) 4), defScope (inClass (topS 17) 4), none, []⟩,
  ⟨fun K => (He.ma K (He.ga K "World") "__repr__"), "__repr__", "World.__repr__", defArgs (inClass (topS 17) 5), defBody (inClass (topS 17) 5), defScope (inClass (topS 17) 5), none, []⟩]
def loose : List Str := (["_wall", "is_name", "are_names", "check_atoms", "is_row", "check_rows", "_law_source", "_law_draw", "_law_name", "_law_atoms", "_law_rows", "_law_bent", "_law_right", "FlowError", "InvalidAtoms", "InvalidRow", "World", "LETTERS", "DIGITS", "MOST_DIGITS", "MOST_WORLD_ATOMS", "MOST_ATOM_NAMES"] : List Str)

end Wd

set_option Elab.async false
set_option linter.all false
set_option maxRecDepth 100000
set_option maxHeartbeats 0
namespace Wd
open PySem PySem.Spec PyProof.Rows L2
abbrev RR : PySem.W.OpenRow := PySem.W.OpenLaw.row PySem.Challenge.rw_callflows_k21_worlds_made
abbrev hkR : PySem.W.Hook := hookW 5 fsT fnT
def obR (s : PySem.W.SharedT) : AlW := obsWG 5 fsT fnT (HandSHeadRun.getT s)
theorem obR_eq (s : PySem.W.SharedT) : obR s = hkR.obs s.abs := obsWG_eq (HandSHeadRun.getT_eq s)
theorem runRf (w : World) : HandSHeadRun.RunEq RR (PySem.W.view RR.prog [26]) hkR obR 60000 loose (w.withFollow "special-get-raises" false) := by
  intro os
  kernel_rfl
theorem runRt (w : World) : HandSHeadRun.RunEq RR (PySem.W.view RR.prog [26]) hkR obR 60000 loose (w.withFollow "special-get-raises" true) := by
  intro os
  kernel_rfl
theorem runR (w : World) : HandSHeadRun.RunEq RR (PySem.W.view RR.prog [26]) hkR obR 60000 loose w := PySem.W.byRow2 "special-get-raises" (P := fun w => HandSHeadRun.RunEq RR (PySem.W.view RR.prog [26]) hkR obR 60000 loose w) runRf runRt w
end Wd

set_option Elab.async false
set_option linter.all false
set_option maxRecDepth 100000
/-! Wd: a second interpreter for the fragment of Python that the texts use; values are structural, what is changed stands in a small heap. -/
namespace Wd
open PySem PySem.Spec PyProof.Rows L2

/-- a value: plain data and frozen objects are structural; ref n is what may change, the n-th object of the small heap -/
inductive Vl where
  | non
  | bl (b : Bool)
  | int (i : Int)
  | str (s : Str)
  | ty (n : String)
  | cl (c : Str)
  | tup (xs : List Vl)
  | lst (xs : List Vl)
  | ins (c : Str) (fs : List (Str × Vl))
  | exc (c : Str) (fs : List (Str × Vl))
  | dic (kvs : List (Vl × Vl))
  | ref (n : Nat)
  deriving Inhabited

mutual
def beqV : Vl → Vl → Bool
  | .non, .non => true
  | .bl a, .bl b => a == b
  | .int a, .int b => a == b
  | .str a, .str b => a == b
  | .ty a, .ty b => a == b
  | .cl a, .cl b => a == b
  | .tup a, .tup b => beqL a b
  | .lst a, .lst b => beqL a b
  | .ins c a, .ins d b => c == d && beqF a b
  | .exc c a, .exc d b => c == d && beqF a b
  | .dic a, .dic b => beqD a b
  | .ref a, .ref b => a == b
  | _, _ => false
termination_by structural x => x
def beqL : List Vl → List Vl → Bool
  | [], [] => true
  | x :: xs, y :: ys => beqV x y && beqL xs ys
  | _, _ => false
termination_by structural x => x
def beqF : List (Str × Vl) → List (Str × Vl) → Bool
  | [], [] => true
  | x :: xs, y :: ys => beqP x y && beqF xs ys
  | _, _ => false
termination_by structural x => x
def beqP : Str × Vl → Str × Vl → Bool
  | (k, x), (l, y) => k == l && beqV x y
termination_by structural x => x
def beqD : List (Vl × Vl) → List (Vl × Vl) → Bool
  | [], [] => true
  | x :: xs, y :: ys => beqE x y && beqD xs ys
  | _, _ => false
termination_by structural x => x
def beqE : Vl × Vl → Vl × Vl → Bool
  | (k, x), (l, y) => beqV k l && beqV x y
termination_by structural x => x
end
mutual
theorem beqV_eq : ∀ {a b : Vl}, beqV a b = true → a = b
  | .non, b, h => by cases b <;> simp [beqV] at h <;> rfl
  | .bl x, b, h => by cases b <;> simp [beqV] at h; rw [h]
  | .int x, b, h => by cases b <;> simp [beqV] at h; rw [h]
  | .str x, b, h => by cases b <;> simp [beqV] at h; rw [h]
  | .ty x, b, h => by cases b <;> simp [beqV] at h; rw [h]
  | .cl x, b, h => by cases b <;> simp [beqV] at h; rw [h]
  | .tup x, b, h => by cases b <;> simp [beqV] at h; rw [beqL_eq h]
  | .lst x, b, h => by cases b <;> simp [beqV] at h; rw [beqL_eq h]
  | .ins c x, b, h => by cases b <;> simp [beqV] at h; rw [h.1, beqF_eq h.2]
  | .exc c x, b, h => by cases b <;> simp [beqV] at h; rw [h.1, beqF_eq h.2]
  | .dic x, b, h => by cases b <;> simp [beqV] at h; rw [beqD_eq h]
  | .ref x, b, h => by cases b <;> simp [beqV] at h; rw [h]
theorem beqL_eq : ∀ {a b : List Vl}, beqL a b = true → a = b
  | [], b, h => by cases b <;> simp [beqL] at h; rfl
  | x :: xs, b, h => by
    cases b with
    | nil => simp [beqL] at h
    | cons y ys => simp [beqL] at h; rw [beqV_eq h.1, beqL_eq h.2]
theorem beqF_eq : ∀ {a b : List (Str × Vl)}, beqF a b = true → a = b
  | [], b, h => by cases b <;> simp [beqF] at h; rfl
  | (k, x) :: xs, b, h => by
    cases b with
    | nil => simp [beqF] at h
    | cons y ys =>
      obtain ⟨l, y⟩ := y
      simp [beqF, beqP] at h; rw [h.1.1, beqV_eq h.1.2, beqF_eq h.2]
theorem beqD_eq : ∀ {a b : List (Vl × Vl)}, beqD a b = true → a = b
  | [], b, h => by cases b <;> simp [beqD] at h; rfl
  | (k, x) :: xs, b, h => by
    cases b with
    | nil => simp [beqD] at h
    | cons y ys =>
      obtain ⟨l, y⟩ := y
      simp [beqD, beqE] at h; rw [beqV_eq h.1.1, beqV_eq h.1.2, beqD_eq h.2]
end
mutual
theorem beqV_refl : ∀ a : Vl, beqV a a = true
  | .non => by simp [beqV]
  | .bl x => by simp [beqV]
  | .int x => by simp [beqV]
  | .str x => by simp [beqV]
  | .ty x => by simp [beqV]
  | .cl x => by simp [beqV]
  | .tup x => by simp [beqV, beqL_refl x]
  | .lst x => by simp [beqV, beqL_refl x]
  | .ins c x => by simp [beqV, beqF_refl x]
  | .exc c x => by simp [beqV, beqF_refl x]
  | .dic x => by simp [beqV, beqD_refl x]
  | .ref x => by simp [beqV]
theorem beqL_refl : ∀ a : List Vl, beqL a a = true
  | [] => by simp [beqL]
  | x :: xs => by simp [beqL, beqV_refl x, beqL_refl xs]
theorem beqF_refl : ∀ a : List (Str × Vl), beqF a a = true
  | [] => by simp [beqF]
  | (k, x) :: xs => by simp [beqF, beqP, beqV_refl x, beqF_refl xs]
theorem beqD_refl : ∀ a : List (Vl × Vl), beqD a a = true
  | [] => by simp [beqD]
  | (k, x) :: xs => by simp [beqD, beqE, beqV_refl k, beqV_refl x, beqD_refl xs]
end

mutual
/-- every ref in it is below n -/
def okV (n : Nat) : Vl → Bool
  | .tup xs => okL n xs
  | .lst xs => okL n xs
  | .ins _ fs => okF n fs
  | .exc _ fs => okF n fs
  | .dic kvs => okD n kvs
  | .ref m => decide (m < n)
  | _ => true
termination_by structural x => x
def okL (n : Nat) : List Vl → Bool
  | [] => true
  | x :: xs => okV n x && okL n xs
termination_by structural x => x
def okF (n : Nat) : List (Str × Vl) → Bool
  | [] => true
  | x :: xs => okP n x && okF n xs
termination_by structural x => x
def okP (n : Nat) : Str × Vl → Bool
  | (_, x) => okV n x
termination_by structural x => x
def okD (n : Nat) : List (Vl × Vl) → Bool
  | [] => true
  | x :: xs => okE n x && okD n xs
termination_by structural x => x
def okE (n : Nat) : Vl × Vl → Bool
  | (k, x) => okV n k && okV n x
termination_by structural x => x
end

mutual
/-- plain data -/
def toPD : Vl → Option PyData
  | .non => some .none
  | .bl b => some (.bool b)
  | .int i => some (.int i)
  | .str s => some (.str s)
  | .tup xs => (toPDs xs).map .tuple
  | .lst xs => (toPDs xs).map .list
  | _ => none
termination_by structural x => x
def toPDs : List Vl → Option (List PyData)
  | [] => some []
  | x :: xs => match toPD x, toPDs xs with
    | some d, some ds => some (d :: ds)
    | _, _ => none
termination_by structural x => x
end

/-- what stands in the small heap -/
inductive Ob where
  | lst (xs : List Vl)
  | ins (c : Str) (fs : List (Str × Vl))
  deriving Inhabited
def beqO : Option Ob → Option Ob → Bool
  | none, none => true
  | some (.lst a), some (.lst b) => beqL a b
  | some (.ins c a), some (.ins d b) => c == d && beqF a b
  | _, _ => false
theorem beqO_eq : ∀ {a b : Option Ob}, beqO a b = true → a = b
  | none, b, h => by
    rcases b with _ | (b | ⟨d, b⟩) <;> simp [beqO] at h
    rfl
  | some (.lst a), b, h => by
    rcases b with _ | (b | ⟨d, b⟩) <;> simp [beqO] at h
    rw [beqL_eq h]
  | some (.ins c a), b, h => by
    rcases b with _ | (b | ⟨d, b⟩) <;> simp [beqO] at h
    rw [h.1, beqF_eq h.2]
theorem beqO_refl : ∀ a : Option Ob, beqO a a = true
  | none => rfl
  | some (.lst a) => beqL_refl a
  | some (.ins c a) => by simp [beqO, beqF_refl a]
def okO (n : Nat) : Option Ob → Bool
  | none => true
  | some (.lst xs) => okL n xs
  | some (.ins _ fs) => okF n fs
abbrev Hs := List (Option Ob)
abbrev Env := List (Option Vl)

/-- an outcome -/
inductive Rs (α : Type) where
  | ok (a : α) (h : Hs)
  | rz (e : Vl) (h : Hs)
  | no
def Rs.bind {α β : Type} (m : Rs α) (f : α → Hs → Rs β) : Rs β :=
  match m with
  | .ok a h => f a h
  | .rz e h => .rz e h
  | .no => .no
@[simp] theorem Rs.bind_ok {α β : Type} (a : α) (h : Hs) (f : α → Hs → Rs β) : (Rs.ok a h).bind f = f a h := rfl
@[simp] theorem Rs.bind_rz {α β : Type} (e : Vl) (h : Hs) (f : α → Hs → Rs β) : (Rs.rz e h).bind f = .rz e h := rfl
@[simp] theorem Rs.bind_no {α β : Type} (f : α → Hs → Rs β) : (Rs.no : Rs α).bind f = .no := rfl
def Rs.of {α : Type} (o : Option α) (h : Hs) : Rs α :=
  match o with
  | some a => .ok a h
  | none => .no
@[simp] theorem Rs.of_some {α : Type} (a : α) (h : Hs) : Rs.of (some a) h = .ok a h := rfl
@[simp] theorem Rs.of_none {α : Type} (h : Hs) : (Rs.of none h : Rs α) = .no := rfl

/-! ### heap, truth, items -/
def getL (h : Hs) (n : Nat) : Option (List Vl) :=
  match h[n]? with
  | some (some (.lst xs)) => some xs
  | _ => none
def getI (h : Hs) (n : Nat) : Option (Str × List (Str × Vl)) :=
  match h[n]? with
  | some (some (.ins c fs)) => some (c, fs)
  | _ => none
/-- what a tuple, a list holds -/
def itemsV (h : Hs) : Vl → Option (List Vl)
  | .tup xs => some xs
  | .lst xs => some xs
  | .ref n => getL h n
  | _ => none
def truth (h : Hs) : Vl → Option Bool
  | .non => some false
  | .bl b => some b
  | .int i => some (i != 0)
  | .str s => if s.length ≤ sizeLine then some ((s.length : Int) != 0) else none
  | .tup xs => some (!xs.isEmpty)
  | .lst xs => some (!xs.isEmpty)
  | .ref n => (getL h n).map fun xs => !xs.isEmpty
  | _ => none
/-- the object is known no more as one that changes: its value -/
def freeze (h : Hs) : Vl → Rs Vl
  | .ref n => match h[n]? with
    | some (some (.lst xs)) => .ok (.lst xs) (h.set n none)
    | some (some (.ins c fs)) => .ok (.ins c fs) (h.set n none)
    | _ => .no
  | v => .ok v h

/-! ### operators -/
def mulOk (i j : Int) : Bool := (decide (-(2 ^ 64) < i) && decide (i < 2 ^ 64)) || (decide (-(2 ^ 64) < j) && decide (j < 2 ^ 64))
def powOk (i j : Int) : Bool := decide (0 ≤ j) && decide (j ≤ 1000000) && decide (i.natAbs < 2 ^ 64)
def binV (op : Operator) (x y : Vl) : Option Vl :=
  match op, x, y with
  | .Add, .int i, .int j => some (.int (i + j))
  | .Add, .int i, .bl k => some (.int (i + b2i k))
  | .Add, .str a, .str b => if a.length + b.length ≤ sizeLine then some (.str (a ++ b)) else none
  | .Add, .lst a, .lst b => if a.length + b.length ≤ sizeLine then some (.lst (a ++ b)) else none
  | .Add, .tup a, .tup b => if a.length + b.length ≤ sizeLine then some (.tup (a ++ b)) else none
  | .Sub, .int i, .int j => some (.int (i - j))
  | .Mult, .lst a, .int k => if decide (-(2 ^ 63) ≤ k) && decide (k < 2 ^ 63) && decide (a.length * k.toNat ≤ sizeLine) then some (.lst (List.replicate k.toNat a).flatten) else none
  | .Mult, .tup a, .int k => if decide (-(2 ^ 63) ≤ k) && decide (k < 2 ^ 63) && decide (a.length * k.toNat ≤ sizeLine) then some (.tup (List.replicate k.toNat a).flatten) else none
  | .Mult, .int i, .int j => if mulOk i j then some (.int (i * j)) else none
  | .FloorDiv, .int i, .int j => if decide (0 < j) && decide (j < 4611686018427387904) then some (.int (i / j)) else none
  | .Mod, .int i, .int j => if decide (0 < j) then some (.int (i % j)) else none
  | .Pow, .int i, .int j => if powOk i j then some (.int (i ^ j.toNat)) else none
  | .RShift, .int i, .int j => if decide (0 ≤ j) then some (.int (i / 2 ^ j.toNat)) else none
  | _, _, _ => none
def unV (op : UnaryOp) (x : Vl) : Option Vl :=
  match op, x with
  | .USub, .int i => some (.int (-i))
  | _, _ => none
/-- == of data -/
def eqD (x y : Vl) : Option Bool :=
  match toPD x, toPD y with
  | some a, some b => if SeqAt.shaped a && SeqAt.shaped b then some (PyData.eqv a b) else none
  | _, _ => none
def eqVl (x y : Vl) : Option Bool :=
  match x, y with
  | .int i, .int j => some (decide (i = j))
  | .str i, .str j => some (decide (i = j))
  | .bl i, .bl j => some (decide (i = j))
  | _, _ => eqD x y
def flat : Vl → Bool
  | .non => true | .bl _ => true | .int _ => true | .str _ => true
  | _ => false
/-- == of flat values -/
def eqF : Vl → Vl → Bool
  | .non, .non => true
  | .bl a, .bl b => a == b
  | .bl a, .int b => (if a then 1 else 0) == b
  | .int a, .bl b => a == (if b then 1 else 0)
  | .int a, .int b => a == b
  | .str a, .str b => a == b
  | _, _ => false
def inD (x : Vl) (xs : List Vl) : Option Bool :=
  match toPD x, toPDs xs with
  | some d, some ds => if SeqAt.shaped d && SeqAt.shaped (.list ds) then some (ds.any fun z => PyData.eqv z d) else none
  | _, _ => none
def inL (x : Vl) (xs : List Vl) : Option Bool := if flat x && xs.all flat then some (xs.any fun y => eqF y x) else inD x xs
def inS (a b : Str) : Bool := !(Builtin.Str.occurrences b a 0 b.length 1).isEmpty
def inVl (h : Hs) (x y : Vl) : Option Bool :=
  match x, y with
  | .str a, .str b => some (inS a b)
  | x, y => match itemsV h y with
    | some xs => inL x xs
    | none => none
def isNon : Vl → Bool
  | .non => true
  | _ => false
def cmpV (op : CmpOp) (h : Hs) (x y : Vl) : Option Bool :=
  match op with
  | .Eq => eqVl x y
  | .NotEq => (eqVl x y).map not
  | .Lt => match x, y with | .int i, .int j => some (decide (i < j)) | _, _ => none
  | .LtE => match x, y with | .int i, .int j => some (decide (i ≤ j)) | _, _ => none
  | .Gt => match x, y with | .int i, .int j => some (decide (j < i)) | _, _ => none
  | .GtE => match x, y with | .int i, .int j => some (decide (j ≤ i)) | _, _ => none
  | .In => inVl h x y
  | .NotIn => (inVl h x y).map not
  | .Is => match y with | .non => some (isNon x) | _ => none
  | .IsNot => match y with | .non => some (!isNon x) | _ => none
/-- x[i] -/
def idxV (h : Hs) (x i : Vl) : Option Vl :=
  match x, i with
  | .str z, .int i => if z.length ≤ sizeLine then (atI z.cps.toList i).map fun c => .str ⟨#[c]⟩ else none
  | x, .int i => match itemsV h x with
    | some xs => atI xs i
    | none => none
  | _, _ => none
def cutL (xs : List Vl) (lo hi : Option Int) : List Vl := (xs.drop (HT.sIx xs.length 0 lo)).take (HT.sIx xs.length xs.length hi - HT.sIx xs.length 0 lo)
/-- x[lo:hi] -/
def sliceV (x : Vl) (lo hi : Option Int) : Option Vl :=
  match x with
  | .str z => if z.length ≤ sizeLine then some (.str (cutS z lo hi)) else none
  | .lst xs => some (.lst (cutL xs lo hi))
  | .tup xs => some (.tup (cutL xs lo hi))
  | _ => none
def asPart : Vl → Option Int
  | .int i => some i
  | _ => none

/-! ### built-in functions -/
def asBools : List Vl → Option (List Bool)
  | [] => some []
  | .bl b :: r => (asBools r).map (b :: ·)
  | _ => none
def asInts : List Vl → Option (List Int)
  | [] => some []
  | .int b :: r => (asInts r).map (b :: ·)
  | _ => none
def asStrs : List Vl → Option (List Str)
  | [] => some []
  | .str b :: r => (asStrs r).map (b :: ·)
  | _ => none
def tyOf (h : Hs) : Vl → Option String
  | .non => some "NoneType" | .bl _ => some "bool" | .int _ => some "int" | .str _ => some "str" | .tup _ => some "tuple" | .lst _ => some "list" | .dic _ => some "dict"
  | .ref n => (getL h n).map fun _ => "list"
  | _ => none
/-- the own class of an instance -/
def clsOf (h : Hs) : Vl → Option Str
  | .ins c _ => some c
  | .ref n => (getI h n).map (·.1)
  | _ => none
def tyNames : List String := ["int", "str", "bool", "tuple", "list"]
/-- types of values on the right of == -/
def rTypes : List String := ["NoneType", "int", "str", "bool", "tuple", "list", "dict"]
def isaT (a b : String) : Option Bool := if (tyNames.contains b) && ("NoneType" :: tyNames).contains a then some (a == b || (a == "bool" && b == "int")) else none
def shownD (d : PyData) : Option Vl := if d.showable && decide (d.shown.length ≤ sizeLine) && SeqAt.shaped d then some (.str d.shown) else none
def lenV (h : Hs) : Vl → Option Vl
  | .str s => if s.length ≤ sizeLine then some (.int s.length) else none
  | x => (itemsV h x).map fun xs => .int xs.length
/-- own class against own class -/
abbrev Isa := Str → Str → Option Bool
def isaV (own : Isa) (h : Hs) (x c : Vl) : Option Bool :=
  match c with
  | .ty n => match tyOf h x with
    | some t => isaT t n
    | none => match clsOf h x with
      | some _ => if tyNames.contains n then some false else none
      | none => none
  | .cl d => match tyOf h x with
    | some _ => some false
    | none => match clsOf h x with
      | some c => own c d
      | none => none
  | _ => none
inductive Blt where
  | len | int | bool | str | abs | min | max | divmod | tuple | list | all | any | sum | repr | isa
  deriving DecidableEq
def bltOf (f : Str) : Option Blt :=
  if f = ("len" : Str) then some .len else if f = ("int" : Str) then some .int else if f = ("bool" : Str) then some .bool else if f = ("str" : Str) then some .str else if f = ("abs" : Str) then some .abs
  else if f = ("min" : Str) then some .min else if f = ("max" : Str) then some .max else if f = ("divmod" : Str) then some .divmod else if f = ("tuple" : Str) then some .tuple else if f = ("list" : Str) then some .list
  else if f = ("all" : Str) then some .all else if f = ("any" : Str) then some .any else if f = ("sum" : Str) then some .sum else if f = ("repr" : Str) then some .repr else if f = ("isinstance" : Str) then some .isa else none
def bltV (own : Isa) (f : Blt) (vs : List Vl) (h : Hs) : Option Vl :=
  match f, vs with
  | .len, [x] => lenV h x
  | .int, [.int i] => some (.int i)
  | .int, [.bl b] => some (.int (if b then 1 else 0))
  | .bool, [.int i] => some (.bl (i != 0))
  | .bool, [.bl b] => some (.bl b)
  | .str, [.int i] => if i.natAbs.log2 < 1920 then some (.str (toString i)) else none
  | .str, [.str s] => some (.str s)
  | .abs, [.int i] => some (.int (if i < 0 then -i else i))
  | .min, [.int i, .int j] => some (.int (if j < i then j else i))
  | .max, [.int i, .int j] => some (.int (if j > i then j else i))
  | .divmod, [.int i, .int j] => if decide (0 < j) && decide (j < 1073741824) then some (.tup [.int (i / j), .int (i % j)]) else none
  | .tuple, [.lst xs] => some (.tup xs)
  | .tuple, [.tup xs] => some (.tup xs)
  | .list, [.lst xs] => some (.lst xs)
  | .list, [.tup xs] => some (.lst xs)
  | .all, [.lst xs] => (asBools xs).map fun bs => .bl (bs.all id)
  | .any, [.lst xs] => (asBools xs).map fun bs => .bl (bs.any id)
  | .sum, [.lst xs] => (asInts xs).map fun bs => .int bs.sum
  | .repr, [x] => (toPD x).bind shownD
  | .isa, [x, c] => (isaV own h x c).map .bl
  | .str, [.tup xs] => (toPD (.tup xs)).bind fun d => if d.depth ≤ 20 then shownD d else none
  | _, _ => none
/-! ### methods of built-in types -/
inductive Bm where
  | append | join
  deriving DecidableEq
def bmOf (m : Str) : Option Bm := if m = ("append" : Str) then some .append else if m = ("join" : Str) then some .join else none
def bmTy : Bm → String
  | .append => "list"
  | .join => "str"
def bmV (b : Bm) (x : Vl) (vs : List Vl) (h : Hs) : Rs Vl :=
  match b, x, vs with
  | .append, .ref n, [v] => (match getL h n with
      | some xs => if xs.length < sizeLine then .ok .non (h.set n (some (.lst (xs ++ [v])))) else .no
      | none => .no)
  | .join, .str a, [v] => (match itemsV h v with
      | some xs => (match asStrs xs with
        | some ys => if (ys.map (·.length)).sum + ys.length * a.length ≤ 16777216 then .ok (.str (Txt.join a ys)) h else .no
        | none => .no)
      | none => .no)
  | _, _, _ => .no
/-! ### f-strings -/
def bTx : Bool → Str
  | true => "True"
  | false => "False"
def shownS (d : PyData) : Option Str := if d.showable && decide (d.shown.length ≤ sizeLine) && SeqAt.shaped d then some d.shown else none
def fmtV (conv : Int) (v : Vl) : Option Str :=
  if conv = 114 then (toPD v).bind shownS else if conv = -1 then (match v with
  | .str s => if s.length ≤ sizeLine then some s else none
  | .int i => if i.natAbs.log2 < 1920 then some (toString i) else none
  | .bl b => some (bTx b)
  | _ => none) else none
end Wd

set_option Elab.async false
set_option linter.all false
set_option maxRecDepth 100000
namespace Wd
open PySem PySem.Spec PyProof.Rows L2

/-- what is fixed for a body: the names by slot, the scope, the places of displays whose list may change, the places of names where an object comes to rest -/
structure St0 where
  N : List Str
  sc : Scope
  top : Bool
  mu : List (Nat × Nat)
  fr : List (Nat × Nat)

/-- the program around a body -/
structure Gt where
  has : Str → Bool
  call : Str → List Vl → List Str → List Vl → Hs → Rs Vl
  hasM : Str → Str → Bool
  meth : Str → Str → List Vl → List Str → List Vl → Hs → Rs Vl
  attr : Str → Str → Vl → Hs → Rs Vl
  fld : Str → Str → Bool
  hasS : Str → Str → Bool
  spec : Str → Str → List Vl → Hs → Rs Vl
  glob : Str → Option Vl
  isa : Isa
  hasC : Str → Str → Bool
  clm : Str → Str → List Vl → List Str → List Vl → Hs → Rs Vl

def mem2 (p : Pos) (l : List (Nat × Nat)) : Bool := l.any fun q => q.1 == p.line && q.2 == p.col
def slotOf (N : List Str) (x : Str) : Option Nat := N.findIdx? (· == x)
def kindE (C : St0) (x : Str) : Option NameKind := C.sc.names.lookup x

/-! ### names -/
def tyName (x : Str) : Option String :=
  if x = ("int" : Str) then some "int" else if x = ("str" : Str) then some "str" else if x = ("bool" : Str) then some "bool" else if x = ("tuple" : Str) then some "tuple" else if x = ("list" : Str) then some "list" else none
def getS (ρ : Env) (i : Option Nat) : Option Vl :=
  match i with
  | some i => match ρ[i]? with
    | some (some v) => some v
    | _ => none
  | none => none
def evName (G : Gt) (C : St0) (x : Str) (pos : Pos) (ρ : Env) (h : Hs) : Rs Vl :=
  match kindE C x with
  | some .globalImplicit => match tyName x with
    | some n => .ok (.ty n) h
    | none => Rs.of (G.glob x) h
  | some .globalExplicit => .no
  | none => .no
  | _ => match getS ρ (slotOf C.N x) with
    | some v => if mem2 pos C.fr then freeze h v else .ok v h
    | none => .no
def constV : Const → Option Vl
  | .none => some .non
  | .bool b => some (.bl b)
  | .int i => some (.int i)
  | .str s => some (.str s)
  | _ => none

/-- an instance's class and fields -/
def insOf (h : Hs) : Vl → Option (Str × List (Str × Vl))
  | .ins c fs => some (c, fs)
  | .ref n => getI h n
  | _ => none
/-- nothing is raised -/
def Rs.calm {α : Type} : Rs α → Rs α
  | .ok a h => .ok a h
  | _ => .no
/-- built-in functions, of own instances too -/
def ownN : Blt → Option Str
  | .len => some "__len__"
  | .repr => some "__repr__"
  | .str => some "__str__"
  | .bool => some "__len__"
  | _ => none
def ownR (b : Blt) (v : Vl) (h : Hs) : Rs Vl :=
  match b, v with
  | .len, .int n => if decide (0 ≤ n) && decide (n < 9223372036854775808) then .ok (.int n) h else .no
  | .repr, .str s => .ok (.str s) h
  | .str, .str s => .ok (.str s) h
  | .bool, .int n => if decide (0 ≤ n) && decide (n < 9223372036854775808) then .ok (.bl (n != 0)) h else .no
  | _, _ => .no
def bltG (G : Gt) (b : Blt) (vs : List Vl) (h : Hs) : Rs Vl :=
  match ownN b, vs with
  | some nm, [x] => (match insOf h x with
    | some (c, _) => if G.hasS c nm then (G.spec c nm [x] h).calm.bind fun v h => ownR b v h else .no
    | none => Rs.of (bltV G.isa b [x] h) h)
  | _, vs => Rs.of (bltV G.isa b vs h) h
/-- x[i], of own instances too -/
def idxG (G : Gt) (x y : Vl) (h : Hs) : Rs Vl :=
  match insOf h x with
  | some (c, _) => if G.hasS c "__getitem__" = true then (G.spec c "__getitem__" [x, y] h) else .no
  | none => Rs.of (idxV h x y) h
def eqI : CmpOp → Bool
  | .Eq => true
  | .NotEq => true
  | _ => false
def ngI : CmpOp → Bool
  | .NotEq => true
  | _ => false
/-- the type on the right is no class below the own one -/
def sideOk (G : Gt) (h : Hs) (c : Str) (y : Vl) : Bool :=
  match tyOf h y with
  | some t => rTypes.contains t
  | none => match clsOf h y with
    | some d => d == c || G.isa d c == some false
    | none => false
def cmpR (op : CmpOp) (v : Vl) (h : Hs) : Rs Vl :=
  match v with
  | .bl b => .ok (.bl (if ngI op = true then !b else b)) h
  | _ => .no
/-- x op y, == and != of own instances too -/
def cmpG (G : Gt) (op : CmpOp) (x y : Vl) (h : Hs) : Rs Vl :=
  match eqI op, insOf h x with
  | true, some (c, _) => if (G.hasS c "__eq__" && sideOk G h c y) = true then (G.spec c "__eq__" [x, y] h).calm.bind fun v h => cmpR op v h else .no
  | _, _ => Rs.of ((cmpV op h x y).map .bl) h
/-- x[::-1] -/
def revV : Vl → Option Vl
  | .lst xs => some (.lst xs.reverse)
  | .tup xs => some (.tup xs.reverse)
  | .str z => if z.length ≤ sizeLine then some (.str ⟨z.cps.toList.reverse.toArray⟩) else none
  | _ => none
def isM1 : Expr → Bool
  | .UnaryOp .USub (.Constant (.int 1) _ _) _ => true
  | _ => false

/-! ### lists of expressions, given what one does -/
def evL (f : Expr → Hs → Rs Vl) : List Expr → Hs → Rs (List Vl)
  | [], h => .ok [] h
  | .Starred e _ :: es, h => (f e h).bind fun v h => match itemsV h v with
    | some xs => (evL f es h).bind fun ys h => .ok (xs ++ ys) h
    | none => .no
  | e :: es, h => (f e h).bind fun v h => (evL f es h).bind fun ys h => .ok (v :: ys) h
def evK (f : Expr → Hs → Rs Vl) : List Keyword → Hs → Rs (List Vl)
  | [], h => .ok [] h
  | k :: ks, h => (f k.value h).bind fun v h => (evK f ks h).bind fun ys h => .ok (v :: ys) h
def kwNames : List Keyword → Option (List Str)
  | [] => some []
  | k :: ks => match k.arg, kwNames ks with
    | some n, some ns => some (n :: ns)
    | _, _ => none
def evBool (f : Expr → Hs → Rs Vl) (op : BoolOp) : List Expr → Hs → Rs Vl
  | [], _ => .no
  | [e], h => f e h
  | e :: es, h => (f e h).bind fun v h => match truth h v with
    | some t => if t == (op == .Or) then .ok v h else evBool f op es h
    | none => .no
/-- the parts of an f-string -/
def evPart (f : Expr → Hs → Rs Vl) (e : Expr) (h : Hs) : Rs Str :=
  match e with
  | .Constant (.str s) _ _ => .ok s h
  | .FormattedValue e c none _ => if c = -1 ∨ c = 114 then (f e h).bind fun v h => Rs.of (fmtV c v) h else .no
  | _ => .no
def evJ (f : Expr → Hs → Rs Vl) : List Expr → Str → Hs → Rs Str
  | [], acc, h => .ok acc h
  | e :: es, acc, h => (evPart f e h).bind fun s h => if (acc ++ s).length ≤ sizeLine then evJ f es (acc ++ s) h else .no
def evOpt (f : Expr → Hs → Rs Vl) : Option Expr → Hs → Rs (Option Int)
  | none, h => .ok none h
  | some e, h => (f e h).bind fun v h => match v with
    | .int i => .ok (some i) h
    | _ => .no

def isStar : Expr → Bool
  | .Starred _ _ => true
  | _ => false

/-! ### what is walked -/
def intsV (a : Int) : Nat → List Vl
  | 0 => []
  | n + 1 => .int a :: intsV (a + 1) n
def rangeV : List Vl → Option (List Vl)
  | [.int j] => if decide (-(2 ^ 62) ≤ j) && decide (j < 2 ^ 62) then some (intsV 0 j.toNat) else none
  | [.int i, .int j] => if decide (-(2 ^ 62) ≤ i) && decide (i < 2 ^ 62) && decide (-(2 ^ 62) ≤ j) && decide (j < 2 ^ 62) then some (intsV i (j - i).toNat) else none
  | _ => none
def charsV : List Nat → List Vl
  | [] => []
  | c :: cs => .str ⟨#[c]⟩ :: charsV cs
def walkV : Vl → Option (List Vl)
  | .tup xs => some xs
  | .lst xs => some xs
  | .str s => if s.length ≤ sizeLine then some (charsV s.cps.toList) else none
  | _ => none
def enumV (i : Int) : List Vl → List Vl
  | [] => []
  | x :: xs => .tup [.int i, x] :: enumV (i + 1) xs
/-- range(..): its arguments -/
def rngOf : Expr → Option (List Expr)
  | .Call (.Name x _) es [] _ => if x = ("range" : Str) then some es else none
  | _ => none
def isSet : Expr → Bool
  | .Set _ _ _ => true
  | _ => false
/-- enumerate(e) -/
def enOf : Expr → Option Expr
  | .Call (.Name x _) [e] [] _ => if x = ("enumerate" : Str) then some e else none
  | _ => none
def isTupE : Expr → Bool
  | .Tuple _ _ _ => true
  | _ => false
def seqV : Vl → Option (List Vl)
  | .tup xs => some xs
  | .lst xs => some xs
  | _ => none
def evIter (C : St0) (tt : Bool) (f : Expr → Hs → Rs Vl) (it : Expr) (h : Hs) : Rs (List Vl) :=
  match rngOf it with
  | some [a] => if kindE C "range" = some .globalImplicit ∧ isStar a = false then (f a h).bind fun v h => Rs.of (rangeV [v]) h else .no
  | some [a, b] => if kindE C "range" = some .globalImplicit ∧ isStar a = false ∧ isStar b = false then (f a h).bind fun v h => (f b h).bind fun u h => Rs.of (rangeV [v, u]) h else .no
  | some _ => .no
  | none => match enOf it with
    | some e => if kindE C "enumerate" = some .globalImplicit ∧ isStar e = false ∧ tt = true then (f e h).bind fun v h => Rs.of ((seqV v).map (enumV 0)) h else .no
    | none => if isSet it then .no else (f it h).bind fun v h => Rs.of (walkV v) h

/-! ### targets -/
def setS (C : St0) (x : Str) (v : Vl) (ρ : Env) : Option Env :=
  match kindE C x, slotOf C.N x with
  | some .local, some i => some (ρ.set i (some v))
  | some .cell, some i => if C.top then some (ρ.set i (some v)) else none
  | _, _ => none
mutual
def asgE (C : St0) : Expr → Vl → Env → Option Env
  | .Name x _, v, ρ => setS C x v ρ
  | .Tuple ts _ _, .tup vs, ρ => asgL C ts vs ρ
  | _, _, _ => none
termination_by structural x => x
def asgL (C : St0) : List Expr → List Vl → Env → Option Env
  | [], [], ρ => some ρ
  | t :: ts, v :: vs, ρ => (asgE C t v ρ).bind fun ρ => asgL C ts vs ρ
  | _, _, _ => none
termination_by structural x => x
end

/-- what was there is as it was, or holds nothing new -/
def okPre (n : Nat) : Hs → Hs → Bool
  | a :: r, b :: s => (beqO a b || okO n b) && okPre n r s
  | _, _ => true
/-- the objects that were made since are let go, where nothing leads to them -/
@[irreducible] def trunc (h0 : Hs) (v : Vl) (h : Hs) : Hs := if h.length ≤ h0.length then h else if okV h0.length v && okPre h0.length h0 h then h.take h0.length else h
/-! ### comprehensions -/
def ownOf (N : List Str) (scope : Scope) : List (Str × Nat) := scope.names.filterMap fun (n, k) => if k = .local ∨ k = .cell then (slotOf N n).map fun i => (n, i) else none
def wipeE (ρ : Env) : List Nat → Env
  | [] => ρ
  | v :: vs => (wipeE ρ vs).set v none
def compM (g : Vl → Hs → Rs (Option Vl)) : List Vl → List Vl → Hs → Rs (List Vl)
  | [], acc, h => .ok acc h
  | x :: xs, acc, h => (g x h).calm.bind fun o h => match o with
    | none => compM g xs acc h
    | some v => if acc.length < sizeLine then compM g xs (acc ++ [v]) h else .no
/-- an item's turn -/
def compG (test : Env → Hs → Rs Bool) (elt : Env → Hs → Rs Vl) (o : Option Env) (h : Hs) : Rs (Option Vl) :=
  match o with
  | none => .no
  | some ρ => (test ρ h).bind fun b h1 => if b then (elt ρ h1).bind fun v h2 => .ok (some v) (trunc h1 v h2) else .ok none h1
def testOf (h : Hs) (v : Vl) : Rs Bool := Rs.of (truth h v) h
mutual
/-- the names of a target -/
def tgNames : Expr → List Str
  | .Name x _ => [x]
  | .Tuple ts _ _ => tgNamesL ts
  | _ => []
termination_by structural x => x
def tgNamesL : List Expr → List Str
  | [] => []
  | t :: ts => tgNames t ++ tgNamesL ts
termination_by structural x => x
end
/-- they are the block's own -/
def tgIn (N : List Str) (scope : Scope) (tg : Expr) : Bool := (tgNames tg).all fun x => match slotOf N x with
  | some i => ((ownOf N scope).map (·.2)).contains i
  | none => true
def evIfs (f : Expr → Hs → Rs Vl) : List Expr → Hs → Rs Bool
  | [], h => .ok true h
  | [c], h => (f c h).bind fun v h => testOf h v
  | _, _ => .no
def mkList (C : St0) (pos : Pos) (xs : List Vl) (h : Hs) : Rs Vl :=
  if mem2 pos C.mu then .ok (.ref h.length) (h ++ [some (.lst xs)]) else .ok (.lst xs) h

/-! ### attributes, calls -/
/-- the forms of a call's arguments: none starred; the first one not -/
def starOk (es : List Expr) (kws : List Keyword) : Bool :=
  match es with
  | [] => true
  | e :: r => (!isStar e && (!(r.any isStar) || kws.isEmpty)) || (isStar e && r.isEmpty && kws.isEmpty)
def evArgs (f : Expr → Hs → Rs Vl) (es : List Expr) (kws : List Keyword) (h : Hs) (g : List Vl → List Str → List Vl → Hs → Rs Vl) : Rs Vl :=
  match kwNames kws with
  | some ks => (evL f es h).bind fun vs h => (evK f kws h).bind fun ws h => g vs ks ws h
  | none => .no
def attrV (G : Gt) (v : Vl) (f : Str) (h : Hs) : Rs Vl :=
  match v with
  | .ins c fs => if G.fld c f then Rs.of (fs.lookup f) h else G.attr c f v h
  | .ref n => (match getI h n with
    | some (c, fs) => if G.fld c f then Rs.of (fs.lookup f) h else G.attr c f v h
    | none => .no)
  | _ => .no
def clV : Vl → Option Str
  | .cl c => some c
  | _ => none
/-- a class of the text, by its name -/
def clOf (G : Gt) (v : Vl) : Option Str := (clV v).bind fun c => match (G.glob c).bind clV with
  | some d => if d = c then some c else none
  | none => none
/-- no call without arguments (of super) -/
def noSup : Expr → Bool
  | .Call (.Name x _) [] [] _ => x != ("super" : Str)
  | _ => true
/-- a plain call of a method: the receiver is no call of super, on one line -/
def callForm (o : Expr) (apos pos : Pos) (es : List Expr) (kws : List Keyword) : Bool :=
  noSup o && (kwNames kws).isSome && apos.endLine == pos.line && !(es.any isStar) && decide (es.length + kws.length + (if kws.isEmpty then 0 else 1) < 30)

/-! ### expressions -/
def evE (G : Gt) : Nat → St0 → Expr → Env → Hs → Rs Vl
  | 0, _, _, _, _ => .no
  | n + 1, C, e, ρ, h =>
    match e with
    | .Name x pos => evName G C x pos ρ h
    | .Constant c _ _ => Rs.of (constV c) h
    | .BinOp a op b _ => (evE G n C a ρ h).bind fun x h => (evE G n C b ρ h).bind fun y h => Rs.of (binV op x y) h
    | .UnaryOp .Not a _ => (evE G n C a ρ h).bind fun x h => (testOf h x).bind fun b h => .ok (.bl (!b)) h
    | .UnaryOp op a _ => (evE G n C a ρ h).bind fun x h => Rs.of (unV op x) h
    | .BoolOp op es _ => evBool (fun e h => evE G n C e ρ h) op es h
    | .Compare a [op] [b] _ => if behindInMarks op b then .no else (evE G n C a ρ h).bind fun x h => (evE G n C b ρ h).bind fun y h => cmpG G op x y h
    | .Compare a [op, op'] [b, c] _ => if behindInMarks op' c then .no else (evE G n C a ρ h).bind fun x h => (evE G n C b ρ h).bind fun y h => (Rs.of (cmpV op h x y) h).bind fun k h =>
        if k then (evE G n C c ρ h).bind fun z h => Rs.of ((cmpV op' h y z).map .bl) h else .ok (.bl false) h
    | .IfExp c a b _ => (evE G n C c ρ h).bind fun x h => (testOf h x).bind fun k h => if k then evE G n C a ρ h else evE G n C b ρ h
    | .Tuple es _ _ => (evL (fun e h => evE G n C e ρ h) es h).bind fun xs h => if xs.length ≤ sizeLine then .ok (.tup xs) h else .no
    | .Dict [] [] _ => .ok (.dic []) h
    | .List es pos => (evL (fun e h => evE G n C e ρ h) es h).bind fun xs h => if xs.length ≤ sizeLine then mkList C pos xs h else .no
    | .Attribute a f _ => if noSup a then (evE G n C a ρ h).bind fun v h => attrV G v f h else .no
    | .Subscript a (.Slice lo hi none _) _ => (evE G n C a ρ h).bind fun x h => (evOpt (fun e h => evE G n C e ρ h) lo h).bind fun l h => (evOpt (fun e h => evE G n C e ρ h) hi h).bind fun u h => Rs.of (sliceV x l u) h
    | .Subscript a (.Slice none none (some st) _) _ => if isM1 st then (evE G n C a ρ h).bind fun x h => Rs.of (revV x) h else .no
    | .Subscript _ (.Slice _ _ (some _) _) _ => .no
    | .Subscript a b _ => (evE G n C a ρ h).bind fun x h => (evE G n C b ρ h).bind fun y h => idxG G x y h
    | .Call (.Name f q) es kws _ => if kindE C f = some .globalImplicit then (match bltOf f with
        | some b => if (kws.isEmpty && !(es.any isStar)) = true then (evL (fun e h => evE G n C e ρ h) es h).bind fun vs h => bltG G b vs h else .no
        | none => if (G.has f && starOk es kws) = true then evArgs (fun e h => evE G n C e ρ h) es kws h (G.call f) else .no) else (evName G C f q ρ h).bind fun v h => (match clOf G v with
        | some c => if (G.has c && starOk es kws) = true then evArgs (fun e h => evE G n C e ρ h) es kws h (G.call c) else .no
        | none => .no)
    | .Call (.Attribute o m apos) es kws pos => if callForm o apos pos es kws = false then .no else (evE G n C o ρ h).bind fun v h => match insOf h v with
        | some (c, fs) => if (G.hasM c m && (fs.lookup m).isNone) = true then evArgs (fun e h => evE G n C e ρ h) es kws h fun vs ks ws h => G.meth c m (v :: vs) ks ws h else .no
        | none => (match clV v with
          | some c => if G.hasC c m = true then evArgs (fun e h => evE G n C e ρ h) es kws h fun vs ks ws h => G.clm c m (v :: vs) ks ws h else .no
          | none => (match bmOf m with
            | some b => if (kws.isEmpty && tyOf h v == some (bmTy b)) = true then (evL (fun e h => evE G n C e ρ h) es h).bind fun vs h => bmV b v vs h else .no
            | none => .no))
    | .JoinedStr [] _ => .no
    | .JoinedStr [e] _ => (evPart (fun e h => evE G n C e ρ h) e h).bind fun s h => .ok (.str s) h
    | .JoinedStr es _ => (evJ (fun e h => evE G n C e ρ h) es ⟨#[]⟩ h).bind fun s h => .ok (.str s) h
    | .ListComp elt [⟨tg, iter, ifs, asy⟩] scope pos =>
      if (decide (asy = 0) && blkC C.N C.sc scope (ownOf C.N scope) && tgIn C.N scope tg && !isSet iter) = true then
        (evIter C (isTupE tg) (fun e h => evE G n C e ρ h) iter h).bind fun xs h =>
          let C' : St0 := { C with sc := relS scope C.sc, top := false }
          (compM (fun x h => compG (fun ρ' h => evIfs (fun e h => evE G n C' e ρ' h) ifs h) (fun ρ' h => evE G n C' elt ρ' h) (asgE C' tg x (wipeE ρ ((ownOf C.N scope).map (·.2)))) h) xs [] h).bind fun ys h => mkList C pos ys h
      else .no
    | _ => .no

/-! ### statements -/
inductive Fl where
  | nx | bk | ct
  | rt (v : Vl)
inductive Rt where
  | ok (f : Fl) (ρ : Env) (h : Hs)
  | rz (e : Vl) (ρ : Env) (h : Hs)
  | no
def Rs.st {α : Type} (m : Rs α) (ρ : Env) (f : α → Hs → Rt) : Rt :=
  match m with
  | .ok a h => f a h
  | .rz e h => .rz e ρ h
  | .no => .no
@[simp] theorem Rs.st_ok {α : Type} (a : α) (h : Hs) (ρ : Env) (f : α → Hs → Rt) : (Rs.ok a h).st ρ f = f a h := rfl
@[simp] theorem Rs.st_rz {α : Type} (e : Vl) (h : Hs) (ρ : Env) (f : α → Hs → Rt) : (Rs.rz e h : Rs α).st ρ f = .rz e ρ h := rfl
@[simp] theorem Rs.st_no {α : Type} (ρ : Env) (f : α → Hs → Rt) : (Rs.no : Rs α).st ρ f = .no := rfl
/-- a list's item, an instance's field is stored -/
def setItemV (h : Hs) (o i v : Vl) : Option Hs :=
  match o, i with
  | .ref n, .int i => match getL h n with
    | some xs => (ixN xs.length i).map fun j => h.set n (some (.lst (xs.set j v)))
    | none => none
  | _, _ => none
def putFl (f : Str) (v : Vl) : List (Str × Vl) → List (Str × Vl)
  | [] => [(f, v)]
  | (g, x) :: r => if g = f then (g, v) :: r else (g, x) :: putFl f v r
def setFldV (G : Gt) (h : Hs) (o : Vl) (f : Str) (v : Vl) : Option Hs :=
  match o with
  | .ref n => match getI h n with
    | some (c, fs) => if fs.length < 1000 ∧ G.fld c f = true then some (h.set n (some (.ins c (putFl f v fs)))) else none
    | none => none
  | _ => none
def isSlice : Expr → Bool
  | .Slice .. => true
  | _ => false
def storeL (f : Expr → Vl → Env → Hs → Rt) : List Expr → List Vl → Env → Hs → Rt
  | [], [], ρ, h => .ok .nx ρ h
  | t :: ts, v :: vs, ρ, h => match f t v ρ h with
    | .ok .nx ρ h => storeL f ts vs ρ h
    | .rz e ρ h => .rz e ρ h
    | _ => .no
  | _, _, _, _ => .no
def store (G : Gt) (n : Nat) (C : St0) : Nat → Expr → Vl → Env → Hs → Rt
  | 0, _, _, _, _ => .no
  | m + 1, tg, v, ρ, h =>
    match tg with
    | .Name x _ => match setS C x v ρ with
      | some ρ => .ok .nx ρ h
      | none => .no
    | .Subscript o i _ => if isSlice i then .no else (evE G n C o ρ h).st ρ fun ov h => (evE G n C i ρ h).st ρ fun iv h => match setItemV h ov iv v with
      | some h => .ok .nx ρ h
      | none => .no
    | .Attribute o f _ => (evE G n C o ρ h).st ρ fun ov h => match setFldV G h ov f v with
      | some h => .ok .nx ρ h
      | none => .no
    | .Tuple ts _ _ => match v with
      | .tup vs => if ts.any isStar = false ∧ vs.length = ts.length then storeL (store G n C m) ts vs ρ h else .no
      | _ => .no
    | _ => .no
def forL (bind : Vl → Env → Option Env) (body : Env → Hs → Rt) : List Vl → Env → Hs → Rt
  | [], ρ, h => .ok .nx ρ h
  | x :: xs, ρ, h => match bind x ρ with
    | none => .no
    | some ρ => match body ρ h with
      | .ok .nx ρ h => forL bind body xs ρ h
      | .ok .ct ρ h => forL bind body xs ρ h
      | .ok .bk ρ h => .ok .nx ρ h
      | .ok (.rt v) ρ h => .ok (.rt v) ρ h
      | .rz e ρ h => .rz e ρ h
      | .no => .no
def whL (test : Env → Hs → Rs Bool) (body : Env → Hs → Rt) : Nat → Env → Hs → Rt
  | 0, _, _ => .no
  | n + 1, ρ, h => (test ρ h).st ρ fun b h => if b then (match body ρ h with
      | .ok .nx ρ h => whL test body n ρ h
      | .ok .ct ρ h => whL test body n ρ h
      | .ok .bk ρ h => .ok .nx ρ h
      | .ok (.rt v) ρ h => .ok (.rt v) ρ h
      | .rz e ρ h => .rz e ρ h
      | .no => .no) else .ok .nx ρ h
def blk (f : Stmt → Env → Hs → Rt) : List Stmt → Env → Hs → Rt
  | [], ρ, h => .ok .nx ρ h
  | s :: ss, ρ, h => match f s ρ h with
    | .ok .nx ρ h => blk f ss ρ h
    | r => r
def isCompr : Expr → Bool
  | .ListComp .. => true
  | .SetComp .. => true
  | .DictComp .. => true
  | _ => false
/-- the names that a pair of tuples stores from the right; none: not for us -/
def swNm (C : St0) (line : Nat) (ts : List Expr) : List Str := ts.filterMap fun
  | .Name id pos => if kindE C id == some .local && pos.line == line then some id else none
  | _ => none
def swNames (C : St0) (ts : List Expr) : List Str := swNm C ((ts.head?.map (·.pos.line)).getD 0) ts
def swN (C : St0) (tg e : Expr) : Option (Option (List Str)) :=
  match tg, e with
  | .Tuple ts _ _, .Tuple vs _ _ =>
    if (!(ts.length == 2 || ts.length == 3) || vs.length != ts.length) = true then some none
    else if vs.any isStar = true then some none
    else if ((swNames C ts).length != ts.length || (swNames C ts).eraseDups.length != (swNames C ts).length) = true then some none
    else if vs.all (foldedForSure 8) = true then some none
    else if vs.all (constantsAlone 8) = true then none else if ((swNames C ts).map (slotOf C.N)).Nodup then some (some (swNames C ts)) else none
  | .List _ _, .Tuple _ _ _ => none
  | _, _ => some none
def tgHas (C : St0) : Expr → Bool
  | .Name y _ => (slotOf C.N y).isSome
  | _ => true
/-- a name's value that is bound here -/
def getL2 (C : St0) (x : Str) (ρ : Env) : Option Vl :=
  match kindE C x with
  | some .local => getS ρ (slotOf C.N x)
  | some .cell => if C.top then getS ρ (slotOf C.N x) else none
  | _ => none
def augOk : Operator → Bool
  | .Add => true
  | .Sub => true
  | _ => false
/-- a op= b -/
def augV (op : Operator) (h : Hs) (x y : Vl) : Rs Vl :=
  match op, x, y with
  | .Add, .int i, .int j => .ok (.int (i + j)) h
  | .Sub, .int i, .int j => .ok (.int (i - j)) h
  | _, _, _ => .no
/-- how deep an expression may be -/
def dE : Nat := 40
def evS (G : Gt) (W : Nat) : Nat → St0 → Stmt → Env → Hs → Rt
  | 0, _, _, _, _ => .no
  | n + 1, C, st, ρ, h =>
    match st with
    | .Expr e _ => if isCompr e then .no else (evE G dE C e ρ h).st ρ fun _ h => .ok .nx ρ h
    | .Return none _ => .ok (.rt .non) ρ h
    | .Return (some e) _ => (evE G dE C e ρ h).st ρ fun v h => .ok (.rt v) ρ h
    | .Assign [tg] e _ => if ((swN C tg e).isSome && !isStar tg && tgHas C tg) = true then (evE G dE C e ρ h).st ρ fun v h => store G dE C 4 tg v ρ h else .no
    | .AugAssign (.Name x _) op e _ => match getL2 C x ρ with
      | some x0 => if augOk op = false then .no else (evE G dE C e ρ h).st ρ fun y h => (augV op h x0 y).st ρ fun z h => (match setS C x z ρ with
        | some ρ => .ok .nx ρ h
        | none => .no)
      | none => .no
    | .If c a b _ => (evE G dE C c ρ h).st ρ fun v h => (testOf h v).st ρ fun k h => if k then blk (evS G W n C) a ρ h else blk (evS G W n C) b ρ h
    | .For tg it body [] _ => if isSet it then .no else (evIter C (isTupE tg) (fun e h => evE G dE C e ρ h) it h).st ρ fun xs h => forL (fun x ρ => asgE C tg x ρ) (blk (evS G W n C) body) xs ρ h
    | .While c body [] _ => whL (fun ρ h => (evE G dE C c ρ h).bind fun v h => testOf h v) (blk (evS G W n C) body) W ρ h
    | .Pass _ => .ok .nx ρ h
    | .Break _ => .ok .bk ρ h
    | .Continue _ => .ok .ct ρ h
    | _ => .no

/-! ### defs -/
/-- where a parameter's value comes from -/
inductive Src where
  | pos (i : Nat) | kw (j : Nat) | dv (v : Vl)
/-- a def of the text: parameters, what is fixed for its body, its body, the shapes in which it is called -/
structure DefI where
  ps : List Str
  st : St0
  body : List Stmt
  shapes : List (Nat × List Str × List Src)
  star : Bool
def srcV (vs ws : List Vl) : Src → Option Vl
  | .pos i => vs[i]?
  | .kw j => ws[j]?
  | .dv v => some v
def planV (vs ws : List Vl) : List Src → Option (List Vl)
  | [] => some []
  | s :: r => match srcV vs ws s, planV vs ws r with
    | some v, some xs => some (v :: xs)
    | _, _ => none
def shapeOf (n : Nat) (ks : List Str) : List (Nat × List Str × List Src) → Option (List Src)
  | [] => none
  | (m, ls, p) :: r => if m = n ∧ ls = ks then some p else shapeOf n ks r
def bindV (d : DefI) (vs : List Vl) (ks : List Str) (ws : List Vl) : Option (List Vl) :=
  if d.star = true then (if ks = [] ∧ d.ps.length ≤ vs.length + 1 ∧ vs.length ≤ sizeLine then some (vs.take (d.ps.length - 1) ++ [.tup (vs.drop (d.ps.length - 1))]) else none)
  else (shapeOf vs.length ks d.shapes).bind fun p => planV vs ws p
def startE (N : List Str) (vs : List Vl) : Env := vs.map some ++ List.replicate (N.length - vs.length) none
/-- how deep statements may be -/
def dS : Nat := 20
def runDef (G : Gt) (W : Nat) (d : DefI) (vs : List Vl) (h : Hs) : Rs Vl :=
  if vs.length = d.ps.length then
    match blk (evS G W dS d.st) d.body (startE d.st.N vs) h with
    | .ok (.rt v) _ h' => .ok v (trunc h v h')
    | .ok .nx _ h' => .ok .non (trunc h .non h')
    | .rz e _ h' => .rz e (trunc h e h')
    | _ => .no
  else .no
end Wd

set_option Elab.async false
set_option linter.all false
set_option maxRecDepth 100000
namespace Wd
open PySem PySem.Spec PyProof.Rows L2

/-- a class of the text: its name, its __init__, methods, properties; does an instance rest behind its __init__ -/
structure ClsI where
  name : Str
  init : Option DefI
  meths : List (Str × DefI)
  props : List (Str × DefI)
  specs : List (Str × DefI)
  flds : List Str
  frozen : Bool
  cms : List (Str × DefI)

def namesOf (ps : List Str) (sc : Scope) : List Str :=
  (ps ++ sc.names.filterMap (fun (n, k) => if k = .local ∨ k = .cell then some n else none) ++ sc.more.filterMap fun (k, v) => if k = ("fast" : Str) then (match v with | .str s => some s | _ => none) else none).eraseDups
def paramsOf (a : Arguments) : List Str := (a.posonlyargs ++ a.args ++ a.kwonlyargs ++ a.vararg.toList).map (·.arg)
def defOf (st : Stmt) (mu fr : List (Nat × Nat)) (shapes : List (Nat × List Str × List Src)) : DefI :=
  ⟨paramsOf (defArgs st), ⟨namesOf (paramsOf (defArgs st)) (defScope st), defScope st, true, mu, fr⟩, defBody st, shapes, (defArgs st).vararg.isSome⟩

def callD (G : Gt) (W : Nat) (d : DefI) (vs : List Vl) (ks : List Str) (ws : List Vl) (h : Hs) : Rs Vl :=
  match bindV d vs ks ws with
  | some us => runDef G W d us h
  | none => .no
/-- a new instance -/
def makeV (G : Gt) (W : Nat) (c : ClsI) (vs : List Vl) (ks : List Str) (ws : List Vl) (h : Hs) : Rs Vl :=
  match c.init with
  | some d => (callD G W d (.ref h.length :: vs) ks ws (h ++ [some (.ins c.name [])])).bind fun v h2 => match v with
    | .non => if c.frozen then (match getI h2 h.length with
        | some (n, fs) => .ok (.ins n fs) (trunc h (.ins n fs) (h2.set h.length none))
        | none => .no) else .ok (.ref h.length) h2
    | _ => .no
  | none => .no
structure Txt where
  fns : List (Str × DefI)
  cls : List ClsI
  gl : List (Str × Vl)
  isa : Isa
def findC (cs : List ClsI) (x : Str) : Option ClsI :=
  match cs with
  | [] => none
  | c :: r => if c.name = x then some c else findC r x
def mkG (T : Txt) (W : Nat) : Nat → Gt
  | 0 => ⟨fun _ => false, fun _ _ _ _ _ => .no, fun _ _ => false, fun _ _ _ _ _ _ => .no, fun _ _ _ _ => .no, fun _ _ => false, fun _ _ => false, fun _ _ _ _ => .no, fun _ => none, fun _ _ => none, fun _ _ => false, fun _ _ _ _ _ _ => .no⟩
  | k + 1 =>
    ⟨fun f => (T.fns.lookup f).isSome || (findC T.cls f).isSome,
     fun f vs ks ws h => match T.fns.lookup f with
      | some d => callD (mkG T W k) W d vs ks ws h
      | none => match findC T.cls f with
        | some c => makeV (mkG T W k) W c vs ks ws h
        | none => .no,
     fun c m => match findC T.cls c with
      | some ci => (ci.meths.lookup m).isSome
      | none => false,
     fun c m vs ks ws h => match findC T.cls c with
      | some ci => (match ci.meths.lookup m with
        | some d => callD (mkG T W k) W d vs ks ws h
        | none => .no)
      | none => .no,
     fun c f v h => match findC T.cls c with
      | some ci => (match ci.props.lookup f with
        | some d => (callD (mkG T W k) W d [v] [] [] h).calm
        | none => .no)
      | none => .no,
     fun c f => match findC T.cls c with
      | some ci => ci.flds.contains f
      | none => false,
     fun c m => match findC T.cls c with
      | some ci => (ci.specs.lookup m).isSome
      | none => false,
     fun c m vs h => match findC T.cls c with
      | some ci => (match ci.specs.lookup m with
        | some d => callD (mkG T W k) W d vs [] [] h
        | none => .no)
      | none => .no,
     fun x => T.gl.lookup x, T.isa,
     fun c m => match findC T.cls c with
      | some ci => (ci.cms.lookup m).isSome
      | none => false,
     fun c m vs ks ws h => match findC T.cls c with
      | some ci => (match ci.cms.lookup m with
        | some d => callD (mkG T W k) W d vs ks ws h
        | none => .no)
      | none => .no⟩
end Wd

set_option Elab.async false
set_option linter.all false
set_option maxRecDepth 100000
namespace Wd
open PySem PySem.Spec PyProof.Rows L2

/-! ### what stands for what -/
section
variable (K : PySem.W.Frag) (cls : Str → Option Addr) (ia : List Addr) (F : Hp)
mutual
/-- v stands for d; ia: the addresses of the small heap's objects; F: what rests -/
def Rep : Vl → V → Prop
  | .non, v => v = .non
  | .bl b, v => v = .bl b
  | .int i, v => v = .int i
  | .str s, v => v = .str s
  | .ty n, v => v = .ty n
  | .cl c, v => ∃ C, cls c = some C ∧ v = .ref C
  | .tup xs, v => ∃ a vs, v = .ref a ∧ SqT K F a vs ∧ RepL xs vs
  | .lst xs, v => ∃ a vs, v = .ref a ∧ SqL K F a vs ∧ RepL xs vs
  | .ins c fs, v => ∃ a C dx gs, v = .ref a ∧ cls c = some C ∧ F a = some (.ins C dx gs) ∧ RepF fs gs
  | .exc _ _, _ => False
  | .dic kvs, v => kvs = [] ∧ ∃ a, v = .ref a ∧ F a = some (.dK [])
  | .ref n, v => ∃ a, ia[n]? = some a ∧ v = .ref a
termination_by structural x => x
def RepL : List Vl → List V → Prop
  | [], vs => vs = []
  | x :: xs, vs => ∃ v ws, vs = v :: ws ∧ Rep x v ∧ RepL xs ws
termination_by structural x => x
def RepF : List (Str × Vl) → List (Str × V) → Prop
  | [], gs => gs = []
  | x :: xs, gs => ∃ v ws, gs = v :: ws ∧ RepP x v ∧ RepF xs ws
termination_by structural x => x
def RepP : Str × Vl → Str × V → Prop
  | (k, x), g => g.1 = k ∧ Rep x g.2
termination_by structural x => x
end
end

section
variable {K : PySem.W.Frag} {cls : Str → Option Addr} {ia ia' : List Addr} {F F' H : Hp}
theorem sqT_mono (h : ∀ a o, F a = some o → F' a = some o) {a : Addr} {xs : List V} : SqT K F a xs → SqT K F' a xs := fun r => by
  rcases r with (r | ⟨o, r⟩) | r
  · exact .inl (.inl (h _ _ r))
  · exact .inl (.inr ⟨o, h _ _ r⟩)
  · exact .inr r
theorem rd_mono (h : ∀ a o, F a = some o → F' a = some o) {a : Addr} {o : HO} : Rd F a o → Rd F' a o := fun r => by
  rcases r with r | ⟨u, r⟩
  · exact .inl (h _ _ r)
  · exact .inr ⟨u, h _ _ r⟩
theorem sqL_mono (h : ∀ a o, F a = some o → F' a = some o) {a : Addr} {xs : List V} : SqL K F a xs → SqL K F' a xs := fun r => by
  rcases r with r | r
  · exact .inl (rd_mono h r)
  · exact .inr r
mutual
theorem Rep.mono (hi : ∀ (n : Nat) (a : Addr), ia[n]? = some a → ia'[n]? = some a) (h : ∀ a o, F a = some o → F' a = some o) : ∀ (d : Vl) (v : V), Rep K cls ia F d v → Rep K cls ia' F' d v
  | .non, v, r => by simpa [Rep] using r
  | .bl b, v, r => by simpa [Rep] using r
  | .int b, v, r => by simpa [Rep] using r
  | .str b, v, r => by simpa [Rep] using r
  | .ty b, v, r => by simpa [Rep] using r
  | .cl c, v, r => by simpa [Rep] using r
  | .tup xs, v, r => by
    simp only [Rep] at r ⊢
    obtain ⟨a, vs, e, s, q⟩ := r
    exact ⟨a, vs, e, sqT_mono h s, RepL.mono hi h xs vs q⟩
  | .lst xs, v, r => by
    simp only [Rep] at r ⊢
    obtain ⟨a, vs, e, s, q⟩ := r
    exact ⟨a, vs, e, sqL_mono h s, RepL.mono hi h xs vs q⟩
  | .ins c fs, v, r => by
    simp only [Rep] at r ⊢
    obtain ⟨a, C, dx, gs, e, k, s, q⟩ := r
    exact ⟨a, C, dx, gs, e, k, h _ _ s, RepF.mono hi h fs gs q⟩
  | .exc _ _, v, r => by simp [Rep] at r
  | .dic kvs, v, r => by
    simp only [Rep] at r ⊢
    obtain ⟨e, a, e2, q⟩ := r
    exact ⟨e, a, e2, h _ _ q⟩
  | .ref n, v, r => by
    simp only [Rep] at r ⊢
    obtain ⟨a, e, q⟩ := r
    exact ⟨a, hi _ _ e, q⟩
theorem RepL.mono (hi : ∀ (n : Nat) (a : Addr), ia[n]? = some a → ia'[n]? = some a) (h : ∀ a o, F a = some o → F' a = some o) : ∀ (d : List Vl) (v : List V), RepL K cls ia F d v → RepL K cls ia' F' d v
  | [], v, r => by simpa [RepL] using r
  | x :: xs, v, r => by
    simp only [RepL] at r ⊢
    obtain ⟨v, ws, e, r1, r2⟩ := r
    exact ⟨v, ws, e, Rep.mono hi h x v r1, RepL.mono hi h xs ws r2⟩
theorem RepF.mono (hi : ∀ (n : Nat) (a : Addr), ia[n]? = some a → ia'[n]? = some a) (h : ∀ a o, F a = some o → F' a = some o) : ∀ (d : List (Str × Vl)) (v : List (Str × V)), RepF K cls ia F d v → RepF K cls ia' F' d v
  | [], v, r => by simpa [RepF] using r
  | (k, x) :: xs, v, r => by
    simp only [RepF, RepP] at r ⊢
    obtain ⟨v, ws, e, ⟨e1, r1⟩, r2⟩ := r
    exact ⟨v, ws, e, ⟨e1, Rep.mono hi h x v.2 r1⟩, RepF.mono hi h xs ws r2⟩
end
mutual
/-- what stands for something has no ref beyond -/
theorem Rep.okV : ∀ (d : Vl) (v : V), Rep K cls ia F d v → okV ia.length d = true
  | .non, v, r => by simp [Wd.okV]
  | .bl b, v, r => by simp [Wd.okV]
  | .int b, v, r => by simp [Wd.okV]
  | .str b, v, r => by simp [Wd.okV]
  | .ty b, v, r => by simp [Wd.okV]
  | .cl c, v, r => by simp [Wd.okV]
  | .tup xs, v, r => by
    simp only [Rep] at r
    obtain ⟨a, vs, e, s, q⟩ := r
    simpa [Wd.okV] using RepL.okL xs vs q
  | .lst xs, v, r => by
    simp only [Rep] at r
    obtain ⟨a, vs, e, s, q⟩ := r
    simpa [Wd.okV] using RepL.okL xs vs q
  | .ins c fs, v, r => by
    simp only [Rep] at r
    obtain ⟨a, C, dx, gs, e, k, s, q⟩ := r
    simpa [Wd.okV] using RepF.okF fs gs q
  | .exc _ _, v, r => by simp [Rep] at r
  | .dic kvs, v, r => by
    simp only [Rep] at r
    obtain ⟨rfl, _⟩ := r
    simp [Wd.okV, Wd.okD]
  | .ref n, v, r => by
    simp only [Rep] at r
    obtain ⟨a, e, q⟩ := r
    simpa [Wd.okV] using (List.getElem?_eq_some_iff.mp e).1
theorem RepL.okL : ∀ (d : List Vl) (v : List V), RepL K cls ia F d v → okL ia.length d = true
  | [], v, r => by simp [Wd.okL]
  | x :: xs, v, r => by
    simp only [RepL] at r
    obtain ⟨v, ws, e, r1, r2⟩ := r
    simp [Wd.okL, Rep.okV x v r1, RepL.okL xs ws r2]
theorem RepF.okF : ∀ (d : List (Str × Vl)) (v : List (Str × V)), RepF K cls ia F d v → okF ia.length d = true
  | [], v, r => by simp [Wd.okF]
  | (k, x) :: xs, v, r => by
    simp only [RepF, RepP] at r
    obtain ⟨v, ws, e, ⟨e1, r1⟩, r2⟩ := r
    simp [Wd.okF, okP, Rep.okV x v.2 r1, RepF.okF xs ws r2]
end
mutual
/-- .. and what has none beyond stands without them -/
theorem Rep.cut {n : Nat} : ∀ (d : Vl) (v : V), Rep K cls ia F d v → okV n d = true → Rep K cls (ia.take n) F d v
  | .non, v, r, o => by simpa [Rep] using r
  | .bl b, v, r, o => by simpa [Rep] using r
  | .int b, v, r, o => by simpa [Rep] using r
  | .str b, v, r, o => by simpa [Rep] using r
  | .ty b, v, r, o => by simpa [Rep] using r
  | .cl c, v, r, o => by simpa [Rep] using r
  | .tup xs, v, r, o => by
    simp only [Rep] at r ⊢
    obtain ⟨a, vs, e, s, q⟩ := r
    exact ⟨a, vs, e, s, RepL.cut xs vs q (by simpa [Wd.okV] using o)⟩
  | .lst xs, v, r, o => by
    simp only [Rep] at r ⊢
    obtain ⟨a, vs, e, s, q⟩ := r
    exact ⟨a, vs, e, s, RepL.cut xs vs q (by simpa [Wd.okV] using o)⟩
  | .ins c fs, v, r, o => by
    simp only [Rep] at r ⊢
    obtain ⟨a, C, dx, gs, e, k, s, q⟩ := r
    exact ⟨a, C, dx, gs, e, k, s, RepF.cut fs gs q (by simpa [Wd.okV] using o)⟩
  | .exc _ _, v, r, o => by simp [Rep] at r
  | .dic kvs, v, r, o => by
    simp only [Rep] at r ⊢
    exact r
  | .ref m, v, r, o => by
    simp only [Rep] at r ⊢
    obtain ⟨a, e, q⟩ := r
    have hm : m < n := by simpa [Wd.okV] using o
    exact ⟨a, by rw [List.getElem?_take_of_lt hm]; exact e, q⟩
theorem RepL.cut {n : Nat} : ∀ (d : List Vl) (v : List V), RepL K cls ia F d v → okL n d = true → RepL K cls (ia.take n) F d v
  | [], v, r, o => by simpa [RepL] using r
  | x :: xs, v, r, o => by
    simp only [RepL] at r ⊢
    obtain ⟨v, ws, e, r1, r2⟩ := r
    have o' : okV n x = true ∧ okL n xs = true := by simpa [Wd.okL] using o
    exact ⟨v, ws, e, Rep.cut x v r1 o'.1, RepL.cut xs ws r2 o'.2⟩
theorem RepF.cut {n : Nat} : ∀ (d : List (Str × Vl)) (v : List (Str × V)), RepF K cls ia F d v → okF n d = true → RepF K cls (ia.take n) F d v
  | [], v, r, o => by simpa [RepF] using r
  | (k, x) :: xs, v, r, o => by
    simp only [RepF, RepP] at r ⊢
    obtain ⟨v, ws, e, ⟨e1, r1⟩, r2⟩ := r
    have o' : okV n x = true ∧ okF n xs = true := by simpa [Wd.okF, okP] using o
    exact ⟨v, ws, e, ⟨e1, Rep.cut x v.2 r1 o'.1⟩, RepF.cut xs ws r2 o'.2⟩
end
theorem RepL.len : ∀ {xs : List Vl} {vs : List V}, RepL K cls ia F xs vs → xs.length = vs.length
  | [], vs, r => by
    simp only [RepL] at r
    rw [r]; rfl
  | x :: xs, vs, r => by
    simp only [RepL] at r
    obtain ⟨v, ws, e, r1, r2⟩ := r
    rw [e, List.length_cons, List.length_cons, RepL.len r2]
theorem RepL.nil : RepL K cls ia F [] [] := by simp [RepL]
theorem RepL.cons {x : Vl} {xs : List Vl} {v : V} {vs : List V} (h : Rep K cls ia F x v) (r : RepL K cls ia F xs vs) : RepL K cls ia F (x :: xs) (v :: vs) := by
  simp only [RepL]
  exact ⟨v, vs, rfl, h, r⟩
theorem RepL.append : ∀ {xs ys : List Vl} {vs ws : List V}, RepL K cls ia F xs vs → RepL K cls ia F ys ws → RepL K cls ia F (xs ++ ys) (vs ++ ws)
  | [], ys, vs, ws, r, s => by
    simp only [RepL] at r
    rw [r]; exact s
  | x :: xs, ys, vs, ws, r, s => by
    simp only [RepL] at r
    obtain ⟨v, us, e, r1, r2⟩ := r
    rw [e]
    exact RepL.cons r1 (RepL.append r2 s)
theorem RepL.get : ∀ {xs : List Vl} {vs : List V} {i : Nat} {x : Vl}, RepL K cls ia F xs vs → xs[i]? = some x → ∃ v, vs[i]? = some v ∧ Rep K cls ia F x v
  | [], _, _, _, _, e => by simp at e
  | x :: xs, vs, 0, y, r, e => by
    simp only [RepL] at r
    obtain ⟨v, us, e1, r1, r2⟩ := r
    simp at e
    subst e e1
    exact ⟨v, rfl, r1⟩
  | x :: xs, vs, i + 1, y, r, e => by
    simp only [RepL] at r
    obtain ⟨v, us, e1, r1, r2⟩ := r
    subst e1
    simpa using RepL.get (i := i) r2 (by simpa using e)
theorem RepL.take : ∀ (n : Nat) {xs : List Vl} {vs : List V}, RepL K cls ia F xs vs → RepL K cls ia F (xs.take n) (vs.take n)
  | 0, _, _, _ => by simp [RepL]
  | n + 1, [], vs, r => by
    simp only [RepL] at r
    subst r
    simp [RepL]
  | n + 1, x :: xs, vs, r => by
    simp only [RepL] at r
    obtain ⟨v, us, e1, r1, r2⟩ := r
    subst e1
    exact RepL.cons r1 (RepL.take n r2)
theorem RepL.drop : ∀ (n : Nat) {xs : List Vl} {vs : List V}, RepL K cls ia F xs vs → RepL K cls ia F (xs.drop n) (vs.drop n)
  | 0, _, _, r => r
  | n + 1, [], vs, r => by
    simp only [RepL] at r
    subst r
    simp [RepL]
  | n + 1, x :: xs, vs, r => by
    simp only [RepL] at r
    obtain ⟨v, us, e1, r1, r2⟩ := r
    subst e1
    exact RepL.drop n r2
theorem RepL.set {y : Vl} {w : V} (h : Rep K cls ia F y w) : ∀ {xs : List Vl} {vs : List V} (i : Nat), RepL K cls ia F xs vs → RepL K cls ia F (xs.set i y) (vs.set i w)
  | [], vs, i, r => by
    simp only [RepL] at r
    subst r
    simp [RepL]
  | x :: xs, vs, 0, r => by
    simp only [RepL] at r
    obtain ⟨v, us, e1, r1, r2⟩ := r
    subst e1
    exact RepL.cons h r2
  | x :: xs, vs, i + 1, r => by
    simp only [RepL] at r
    obtain ⟨v, us, e1, r1, r2⟩ := r
    subst e1
    exact RepL.cons r1 (RepL.set h i r2)
theorem RepF.len : ∀ {xs : List (Str × Vl)} {vs : List (Str × V)}, RepF K cls ia F xs vs → xs.length = vs.length
  | [], vs, r => by
    simp only [RepF] at r
    rw [r]; rfl
  | x :: xs, vs, r => by
    simp only [RepF] at r
    obtain ⟨v, ws, e, r1, r2⟩ := r
    rw [e, List.length_cons, List.length_cons, RepF.len r2]
theorem RepF.look : ∀ {xs : List (Str × Vl)} {vs : List (Str × V)} {f : Str}, RepF K cls ia F xs vs → (∀ d, xs.lookup f = some d → ∃ v, vs.lookup f = some v ∧ Rep K cls ia F d v) ∧ (xs.lookup f = none → vs.lookup f = none)
  | [], vs, f, r => by
    simp only [RepF] at r
    subst r
    exact ⟨fun d h => by simp at h, fun _ => rfl⟩
  | (k, x) :: xs, vs, f, r => by
    simp only [RepF, RepP] at r
    obtain ⟨⟨k', v⟩, us, e1, ⟨e2, r1⟩, r2⟩ := r
    subst e1
    simp only at e2 r1
    subst e2
    have ih := RepF.look (f := f) r2
    by_cases h : (f == k') = true
    · simp only [List.lookup, h]
      exact ⟨fun d e => by cases e; exact ⟨v, rfl, r1⟩, fun e => by cases e⟩
    · have h' : (f == k') = false := by simpa using h
      simp only [List.lookup, h']
      exact ih
theorem RepF.put {f : Str} {y : Vl} {w : V} (h : Rep K cls ia F y w) : ∀ {xs : List (Str × Vl)} {vs : List (Str × V)}, RepF K cls ia F xs vs → RepF K cls ia F (putFl f y xs) (putF f w vs)
  | [], vs, r => by
    simp only [RepF] at r
    subst r
    simp only [putFl, putF, RepF, RepP]
    exact ⟨(f, w), [], rfl, ⟨rfl, h⟩, rfl⟩
  | (k, x) :: xs, vs, r => by
    simp only [RepF, RepP] at r
    obtain ⟨⟨k', v⟩, us, e1, ⟨e2, r1⟩, r2⟩ := r
    subst e1
    simp only at e2 r1
    subst e2
    unfold putFl putF
    by_cases hk : k' = f
    · rw [if_pos hk, if_pos hk]
      simp only [RepF, RepP]
      exact ⟨(k', w), us, rfl, ⟨rfl, h⟩, r2⟩
    · rw [if_neg hk, if_neg hk]
      simp only [RepF, RepP]
      exact ⟨(k', v), _, rfl, ⟨rfl, r1⟩, RepF.put h r2⟩
end
end Wd

set_option Elab.async false
set_option linter.all false
set_option maxRecDepth 100000
namespace Wd
open PySem PySem.Spec PyProof.Rows L2

/-! ### the small heap in the great one -/
section
variable (K : PySem.W.Frag) (cls : Str → Option Addr)
def ObR (ia : List Addr) (F : Hp) : Ob → Addr → Hp → Prop
  | .lst xs, a, H => ∃ vs, H a = some (.lst vs) ∧ RepL K cls ia F xs vs
  | .ins c fs, a, H => ∃ C dx gs, cls c = some C ∧ H a = some (.ins C dx gs) ∧ RepF K cls ia F fs gs
structure Sim (ia : List Addr) (F : Hp) (h : Hs) (H : Hp) : Prop where
  len : ia.length = h.length
  obj : ∀ (n : Nat) (ob : Ob), h[n]? = some (some ob) → ∃ a, ia[n]? = some a ∧ F a = none ∧ ObR K cls ia F ob a H
  nd : ia.Nodup
  sub : ∀ a o, F a = some o → H a = some o
  there : ∀ a, a ∈ ia → H a ≠ none
/-- from (ia, F, H) on to (ja, F', h', H') -/
structure Post (ia : List Addr) (F H : Hp) (ja : List Addr) (F' : Hp) (h' : Hs) (H' : Hp) : Prop where
  sim : Sim K cls ja F' h' H'
  ex : ∀ (n : Nat) (a : Addr), ia[n]? = some a → ja[n]? = some a
  fr : ∀ a o, F a = some o → F' a = some o
  kp : ∀ b o, H b = some o → b ∉ ia → H' b = some o
  nw : ∀ b, b ∈ ja → b ∉ ia → H b = none
  fz : ∀ b, b ∉ ia → F b = none → H b ≠ none → F' b = none
def EnvR (ia : List Addr) (F : Hp) (σ : L2.St) (ρ : Env) : Prop := ∀ (i : Nat) (d : Vl), ρ[i]? = some (some d) → ∃ v, σ[i]? = some (some v) ∧ Rep K cls ia F d v
end
section
variable {K : PySem.W.Frag} {cls : Str → Option Addr} {ia ja ka : List Addr} {F F' F'' H H' H'' : Hp} {h h' h'' : Hs} {σ : L2.St} {ρ : Env}
theorem Post.refl (s : Sim K cls ia F h H) : Post K cls ia F H ia F h H := ⟨s, fun _ _ e => e, fun _ _ e => e, fun _ _ e _ => e, fun _ h1 h2 => absurd h1 h2, fun _ _ h _ => h⟩
theorem Post.trans (p : Post K cls ia F H ja F' h' H') (q : Post K cls ja F' H' ka F'' h'' H'') : Post K cls ia F H ka F'' h'' H'' := by
  refine ⟨q.sim, fun n a e => q.ex n a (p.ex n a e), fun a o e => q.fr a o (p.fr a o e), fun b o e hb => ?_, fun b h1 h2 => ?_, fun b h1 h2 h3 => ?_⟩
  · refine q.kp b o (p.kp b o e hb) fun hj => ?_
    have := p.nw b hj hb
    rw [this] at e
    cases e
  · by_cases hj : b ∈ ja
    · exact p.nw b hj h2
    · cases e : H b with
      | none => rfl
      | some o =>
        have e1 := p.kp b o e h2
        rw [q.nw b h1 hj] at e1
        cases e1
  · refine q.fz b (fun hj => h3 (p.nw b hj h1)) (p.fz b h1 h2 h3) ?_
    cases e : H b with
    | none => exact absurd e h3
    | some o => rw [p.kp b o e h1]; simp
theorem EnvR.mono (p : Post K cls ia F H ja F' h' H') (r : EnvR K cls ia F σ ρ) : EnvR K cls ja F' σ ρ := fun i d e => by
  obtain ⟨v, e1, r1⟩ := r i d e
  exact ⟨v, e1, Rep.mono p.ex p.fr d v r1⟩
theorem Rep.post {d : Vl} {v : V} (p : Post K cls ia F H ja F' h' H') (r : Rep K cls ia F d v) : Rep K cls ja F' d v := Rep.mono p.ex p.fr d v r
theorem RepL.post {d : List Vl} {v : List V} (p : Post K cls ia F H ja F' h' H') (r : RepL K cls ia F d v) : RepL K cls ja F' d v := RepL.mono p.ex p.fr d v r
theorem ObR.mono {ob : Ob} {a : Addr} (hi : ∀ (n : Nat) (a : Addr), ia[n]? = some a → ja[n]? = some a) (hf : ∀ a o, F a = some o → F' a = some o) (he : H' a = H a) (r : ObR K cls ia F ob a H) : ObR K cls ja F' ob a H' := by
  cases ob with
  | lst xs =>
    obtain ⟨vs, e, r⟩ := r
    exact ⟨vs, he.trans e, RepL.mono hi hf _ _ r⟩
  | ins c fs =>
    obtain ⟨C, dx, gs, k, e, r⟩ := r
    exact ⟨C, dx, gs, k, he.trans e, RepF.mono hi hf _ _ r⟩
/-- a new object that rests -/
theorem Post.frozen (s : Sim K cls ia F h H) {p : Addr} (hp : H p = none) (o : HO) : Post K cls ia F H ia (upd F p o) h (upd H p o) := by
  have hF : F p = none := by
    cases e : F p with
    | none => rfl
    | some u => rw [s.sub p u e] at hp; cases hp
  have np : ∀ a, a ∈ ia → a ≠ p := fun a ha z => s.there a ha (z ▸ hp)
  have mono : ∀ a o', F a = some o' → upd F p o a = some o' := fun a o' e => by
    rw [upd_ne (ne_of_none e hF)]; exact e
  refine ⟨⟨s.len, fun n ob e => ?_, s.nd, fun a o' e => ?_, fun a ha => ?_⟩, fun _ _ e => e, mono, fun b o' e _ => ?_, fun b h1 h2 => absurd h1 h2, fun b h1 h2 h3 => by
    have hb : b ≠ p := by rintro rfl; exact h3 hp
    rw [upd_ne hb]; exact h2⟩
  · obtain ⟨a, e1, e2, r⟩ := s.obj n ob e
    have ha : a ≠ p := np a (List.mem_of_getElem? e1)
    exact ⟨a, e1, by rw [upd_ne ha]; exact e2, r.mono (fun _ _ e => e) mono (upd_ne ha)⟩
  · by_cases ha : a = p
    · subst ha
      rw [upd_same] at e
      rw [upd_same]; exact e
    · rw [upd_ne ha] at e
      rw [upd_ne ha]; exact s.sub a o' e
  · rw [upd_ne (np a ha)]; exact s.there a ha
  · rw [upd_ne (ne_of_none e hp)]; exact e
/-- a new object that may change -/
theorem Post.made (s : Sim K cls ia F h H) {p : Addr} (hp : H p = none) {o : HO} {ob : Ob} (r : ObR K cls ia F ob p (upd H p o)) : Post K cls ia F H (ia ++ [p]) F (h ++ [some ob]) (upd H p o) := by
  have hF : F p = none := by
    cases e : F p with
    | none => rfl
    | some u => rw [s.sub p u e] at hp; cases hp
  have np : ∀ a, a ∈ ia → a ≠ p := fun a ha z => s.there a ha (z ▸ hp)
  have ex : ∀ (n : Nat) (a : Addr), ia[n]? = some a → (ia ++ [p])[n]? = some a := fun n a e => by
    rw [List.getElem?_append_left (List.getElem?_eq_some_iff.mp e).1]; exact e
  refine ⟨⟨by rw [List.length_append, List.length_append, s.len]; rfl, fun n ob' e => ?_, ?_, fun a o' e => ?_, fun a ha => ?_⟩, ex, fun _ _ e => e, fun b o' e hb => ?_, fun b h1 h2 => ?_, fun _ _ h _ => h⟩
  · by_cases hn : n < h.length
    · rw [List.getElem?_append_left hn] at e
      obtain ⟨a, e1, e2, r'⟩ := s.obj n ob' e
      have ha : a ≠ p := np a (List.mem_of_getElem? e1)
      exact ⟨a, ex n a e1, e2, r'.mono ex (fun _ _ e => e) (upd_ne ha)⟩
    · rw [List.getElem?_append_right (by omega)] at e
      have hn' : n - h.length = 0 := by
        by_cases z : n - h.length = 0
        · exact z
        · obtain ⟨m, hm⟩ : ∃ m, n - h.length = m + 1 := ⟨n - h.length - 1, by omega⟩
          rw [hm] at e
          simp at e
      rw [hn'] at e
      simp at e
      subst e
      refine ⟨p, ?_, hF, r.mono ex (fun _ _ e => e) rfl⟩
      rw [List.getElem?_append_right (by rw [s.len]; omega), s.len, hn']; rfl
  · rw [List.nodup_append]
    refine ⟨s.nd, by simp, fun a ha b hb => ?_⟩
    have : b = p := by simpa using hb
    rw [this]
    exact np a ha
  · rw [upd_ne (ne_of_none (s.sub a o' e) hp)]; exact s.sub a o' e
  · rcases List.mem_append.mp ha with ha | ha
    · rw [upd_ne (np a ha)]; exact s.there a ha
    · have : a = p := by simpa using ha
      rw [this, upd_same]; simp
  · rw [upd_ne (ne_of_none e hp)]; exact e
  · rcases List.mem_append.mp h1 with h1 | h1
    · exact absurd h1 h2
    · have : b = p := by simpa using h1
      rw [this]; exact hp
/-- an object of the small heap is written -/
theorem Post.write (s : Sim K cls ia F h H) {n : Nat} {a : Addr} {ob0 ob : Ob} {o : HO} (hn : h[n]? = some (some ob0)) (ha : ia[n]? = some a) (hF : F a = none) (r : ObR K cls ia F ob a (upd H a o)) : Post K cls ia F H ia F (h.set n (some ob)) (upd H a o) := by
  have hmem : a ∈ ia := List.mem_of_getElem? ha
  refine ⟨⟨by rw [List.length_set]; exact s.len, fun m ob' e => ?_, s.nd, fun b o' e => ?_, fun b hb => ?_⟩, fun _ _ e => e, fun _ _ e => e, fun b o' e hb => ?_, fun b h1 h2 => absurd h1 h2, fun _ _ h _ => h⟩
  · by_cases hm : m = n
    · subst hm
      rw [List.getElem?_set_self (List.getElem?_eq_some_iff.mp hn).1] at e
      cases e
      exact ⟨a, ha, hF, r⟩
    · rw [List.getElem?_set_ne (Ne.symm hm)] at e
      obtain ⟨b, e1, e2, r'⟩ := s.obj m ob' e
      have hb : b ≠ a := fun z => by
        subst z
        obtain ⟨i1, j1⟩ := List.getElem?_eq_some_iff.mp e1
        obtain ⟨i2, j2⟩ := List.getElem?_eq_some_iff.mp ha
        exact hm ((List.getElem_inj s.nd).mp (j1.trans j2.symm))
      exact ⟨b, e1, e2, r'.mono (fun _ _ e => e) (fun _ _ e => e) (upd_ne hb)⟩
  · have hb : b ≠ a := fun z => by rw [z, hF] at e; cases e
    rw [upd_ne hb]; exact s.sub b o' e
  · by_cases z : b = a
    · rw [z, upd_same]; simp
    · rw [upd_ne z]; exact s.there b hb
  · have hb' : b ≠ a := fun z => hb (z ▸ hmem)
    rw [upd_ne hb']; exact e
/-- an object comes to rest -/
theorem Post.rest (s : Sim K cls ia F h H) {n : Nat} {a : Addr} {ob0 : Ob} {o : HO} (hn : h[n]? = some (some ob0)) (ha : ia[n]? = some a) (hF : F a = none) (ho : H a = some o) : Post K cls ia F H ia (upd F a o) (h.set n none) H := by
  have mono : ∀ b o', F b = some o' → upd F a o b = some o' := fun b o' e => by
    rw [upd_ne (ne_of_none e hF)]; exact e
  refine ⟨⟨by rw [List.length_set]; exact s.len, fun m ob' e => ?_, s.nd, fun b o' e => ?_, s.there⟩, fun _ _ e => e, mono, fun b o' e hb => e, fun b h1 h2 => absurd h1 h2, fun b h1 h2 _ => by
    have hb : b ≠ a := by rintro rfl; exact h1 (List.mem_of_getElem? ha)
    rw [upd_ne hb]; exact h2⟩
  · have hm : m ≠ n := fun z => by
      subst z
      rw [List.getElem?_set_self (List.getElem?_eq_some_iff.mp hn).1] at e
      cases e
    rw [List.getElem?_set_ne (Ne.symm hm)] at e
    obtain ⟨b, e1, e2, r'⟩ := s.obj m ob' e
    have hb : b ≠ a := fun z => by
      subst z
      obtain ⟨i1, j1⟩ := List.getElem?_eq_some_iff.mp e1
      obtain ⟨i2, j2⟩ := List.getElem?_eq_some_iff.mp ha
      exact hm ((List.getElem_inj s.nd).mp (j1.trans j2.symm))
    exact ⟨b, e1, by rw [upd_ne hb]; exact e2, r'.mono (fun _ _ e => e) mono rfl⟩
  · by_cases z : b = a
    · subst z
      rw [upd_same] at e
      rw [← e]; exact ho
    · rw [upd_ne z] at e
      exact s.sub b o' e
/-- an object that is not known is written -/
theorem Sim.other (s : Sim K cls ia F h H) {D : Addr} (hF : F D = none) (hD : D ∉ ia) (o : HO) : Sim K cls ia F h (upd H D o) := by
  refine ⟨s.len, fun n ob e => ?_, s.nd, fun b o' e => ?_, fun b hb => ?_⟩
  · obtain ⟨a, e1, e2, r⟩ := s.obj n ob e
    have ha : a ≠ D := fun z => hD (z ▸ List.mem_of_getElem? e1)
    exact ⟨a, e1, e2, r.mono (fun _ _ e => e) (fun _ _ e => e) (upd_ne ha)⟩
  · rw [upd_ne (ne_of_none e hF)]; exact s.sub b o' e
  · have hb' : b ≠ D := by rintro rfl; exact hD hb
    rw [upd_ne hb']; exact s.there b hb
theorem Post.other (p : Post K cls ia F H ja F' h' H') {D : Addr} (h0 : H D = none) (hF : F' D = none) (hD : D ∉ ja) (o : HO) : Post K cls ia F H ja F' h' (upd H' D o) :=
  ⟨p.sim.other hF hD o, p.ex, p.fr, fun b o' e hb => by rw [upd_ne (ne_of_none e h0)]; exact p.kp b o' e hb, p.nw, p.fz⟩
/-- an object that was not known, and is new, is known from now on -/
theorem Post.adopt (p : Post K cls ia F H ja F' h' H') {D : Addr} {o : HO} (h0 : H D = none) (hF : F' D = none) (hD : D ∉ ja) (ho : H' D = some o) {ob : Ob} (r : ObR K cls ja F' ob D H') : Post K cls ia F H (ja ++ [D]) F' (h' ++ [some ob]) H' := by
  have ex : ∀ (n : Nat) (a : Addr), ja[n]? = some a → (ja ++ [D])[n]? = some a := fun n a e => by
    rw [List.getElem?_append_left (List.getElem?_eq_some_iff.mp e).1]; exact e
  refine ⟨⟨by rw [List.length_append, List.length_append, p.sim.len]; rfl, fun n ob' e => ?_, ?_, p.sim.sub, fun a ha => ?_⟩, fun n a e => ex n a (p.ex n a e), p.fr, p.kp, fun b h1 h2 => ?_, p.fz⟩
  · by_cases hn : n < h'.length
    · rw [List.getElem?_append_left hn] at e
      obtain ⟨a, e1, e2, r'⟩ := p.sim.obj n ob' e
      exact ⟨a, ex n a e1, e2, r'.mono ex (fun _ _ e => e) rfl⟩
    · rw [List.getElem?_append_right (by omega)] at e
      have hn' : n - h'.length = 0 := by
        by_cases z : n - h'.length = 0
        · exact z
        · obtain ⟨m, hm⟩ : ∃ m, n - h'.length = m + 1 := ⟨n - h'.length - 1, by omega⟩
          rw [hm] at e
          simp at e
      rw [hn'] at e
      simp at e
      subst e
      refine ⟨D, ?_, hF, r.mono ex (fun _ _ e => e) rfl⟩
      rw [List.getElem?_append_right (by rw [p.sim.len]; omega), p.sim.len, hn']; rfl
  · rw [List.nodup_append]
    refine ⟨p.sim.nd, by simp, fun a ha b hb => ?_⟩
    have : b = D := by simpa using hb
    rw [this]
    exact fun z => hD (z ▸ ha)
  · rcases List.mem_append.mp ha with ha | ha
    · exact p.sim.there a ha
    · have : a = D := by simpa using ha
      rw [this, ho]; simp
  · rcases List.mem_append.mp h1 with h1 | h1
    · exact p.nw b h1 h2
    · have : b = D := by simpa using h1
      rw [this]; exact h0
theorem Post.adoptF (p : Post K cls ia F H ja F' h' H') {D : Addr} {o : HO} (h0 : H D = none) (hF : F' D = none) (hD : D ∉ ja) (ho : H' D = some o) : Post K cls ia F H ja (upd F' D o) h' H' := by
  have mono : ∀ b o', F' b = some o' → upd F' D o b = some o' := fun b o' e => by
    rw [upd_ne (ne_of_none e hF)]; exact e
  refine ⟨⟨p.sim.len, fun m ob' e => ?_, p.sim.nd, fun b o' e => ?_, p.sim.there⟩, p.ex, fun b o' e => mono b o' (p.fr b o' e), p.kp, p.nw, fun b h1 h2 h3 => ?_⟩
  · obtain ⟨b, e1, e2, r'⟩ := p.sim.obj m ob' e
    have hb : b ≠ D := by rintro rfl; exact hD (List.mem_of_getElem? e1)
    exact ⟨b, e1, by rw [upd_ne hb]; exact e2, r'.mono (fun _ _ e => e) mono rfl⟩
  · by_cases z : b = D
    · subst z
      rw [upd_same] at e
      rw [← e]; exact ho
    · rw [upd_ne z] at e
      exact p.sim.sub b o' e
  · have hb : b ≠ D := by rintro rfl; exact h3 h0
    rw [upd_ne hb]; exact p.fz b h1 h2 h3
/-- the objects made since are let go -/
theorem okPre_get {n : Nat} : ∀ {h0 h1 : Hs} {i : Nat} {o : Option Ob}, okPre n h0 h1 = true → i < h0.length → h1[i]? = some o → h0[i]? = some o ∨ okO n o = true
  | [], _, _, _, _, hi, _ => by simp at hi
  | a :: r, [], _, _, _, _, e => by simp at e
  | a :: r, b :: t, 0, o, ok, _, e => by
    simp at e
    subst e
    have : (beqO a b = true ∨ okO n b = true) ∧ okPre n r t = true := by simpa [okPre] using ok
    rcases this.1 with z | z
    · exact .inl (by rw [beqO_eq z]; rfl)
    · exact .inr z
  | a :: r, b :: t, i + 1, o, ok, hi, e => by
    have : (beqO a b = true ∨ okO n b = true) ∧ okPre n r t = true := by simpa [okPre] using ok
    have hi' : i < r.length := by simpa using hi
    rcases okPre_get (i := i) (o := o) this.2 hi' (by simpa using e) with z | z
    · exact .inl (by simpa using z)
    · exact .inr z
theorem Post.trunc (s : Sim K cls ia F h H) (p : Post K cls ia F H ja F' h' H') {d : Vl} {v : V} (r : Rep K cls ja F' d v) : ∃ ka, Post K cls ia F H ka F' (trunc h d h') H' ∧ Rep K cls ka F' d v := by
  unfold Wd.trunc
  by_cases h1 : h'.length ≤ h.length
  · rw [if_pos h1]; exact ⟨ja, p, r⟩
  · rw [if_neg h1]
    by_cases h2 : (okV h.length d && okPre h.length h h') = true
    · rw [if_pos h2]
      obtain ⟨o1, o2⟩ := Bool.and_eq_true_iff.mp h2
      have hja : ja.take h.length = ia := by
        refine List.ext_getElem? fun i => ?_
        by_cases hi : i < h.length
        · rw [List.getElem?_take_of_lt hi]
          have hi' : i < ia.length := by rw [s.len]; exact hi
          rw [List.getElem?_eq_getElem hi']
          exact p.ex i _ (List.getElem?_eq_getElem hi')
        · rw [List.getElem?_eq_none (by rw [List.length_take]; omega), List.getElem?_eq_none (by rw [s.len]; omega)]
      refine ⟨ia, ⟨⟨?_, fun n ob e => ?_, s.nd, p.sim.sub, fun a ha => ?_⟩, fun _ _ e => e, p.fr, p.kp, fun b x1 x2 => absurd x1 x2, p.fz⟩, ?_⟩
      · rw [s.len, List.length_take]; omega
      · have hn : n < h.length := by
          by_cases z : n < h.length
          · exact z
          · rw [List.getElem?_eq_none (by rw [List.length_take]; omega)] at e; cases e
        rw [List.getElem?_take_of_lt hn] at e
        obtain ⟨a, e1, e2, rr⟩ := p.sim.obj n ob e
        have e1' : ia[n]? = some a := by
          have hi' : n < ia.length := by rw [s.len]; exact hn
          have e3 := p.ex n _ (List.getElem?_eq_getElem hi')
          rw [e1] at e3
          rw [List.getElem?_eq_getElem hi', e3]
        refine ⟨a, e1', e2, ?_⟩
        have okob : okO h.length (some ob) = true := by
          rcases okPre_get o2 hn e with z | z
          · obtain ⟨a', _, _, rr'⟩ := s.obj n ob z
            cases ob with
            | lst xs =>
              obtain ⟨vs, _, q⟩ := rr'
              have := RepL.okL _ _ q
              rw [s.len] at this; exact this
            | ins c fs =>
              obtain ⟨_, _, gs, _, _, q⟩ := rr'
              have := RepF.okF _ _ q
              rw [s.len] at this; exact this
          · exact z
        cases ob with
        | lst xs =>
          obtain ⟨vs, e4, q⟩ := rr
          have := RepL.cut (n := h.length) _ _ q okob
          rw [hja] at this
          exact ⟨vs, e4, this⟩
        | ins c fs =>
          obtain ⟨C, dx, gs, k, e4, q⟩ := rr
          have := RepF.cut (n := h.length) _ _ q okob
          rw [hja] at this
          exact ⟨C, dx, gs, k, e4, this⟩
      · refine p.sim.there a ?_
        obtain ⟨i, hi, e⟩ := List.getElem_of_mem ha
        exact List.mem_of_getElem? (p.ex i a (by rw [List.getElem?_eq_getElem hi, e]))
      · have := Rep.cut (n := h.length) _ _ r o1
        rw [hja] at this
        exact this
    · rw [if_neg h2]; exact ⟨ja, p, r⟩
end

/-! ### what an outcome asks -/
section
variable (K : PySem.W.Frag) (cls : Str → Option Addr) (W : WX) (σ : L2.St) (ia : List Addr) (F H : Hp)
/-- an exception stands for it -/
def ExR (ja : List Addr) (F' : Hp) (e : Vl) (c : Value) (d : Option Addr) (H' : Hp) : Prop := False
def Fin {α β : Type} (m : Rs α) (R : List Addr → Hp → α → β → Prop) (Q : β → Hp → Prop) : Prop :=
  match m with
  | .ok a h' => ∀ (b : β) (ja : List Addr) (F' H' : Hp), Post K cls ia F H ja F' h' H' → R ja F' a b → Q b H'
  | .rz e h' => ∀ (c : Value) (d : Option Addr) (ja : List Addr) (F' H' : Hp), Post K cls ia F H ja F' h' H' → ExR ja F' e c d H' → W c d σ H'
  | .no => False
end
section
variable {K : PySem.W.Frag} {cls : Str → Option Addr} {W : WX} {σ : L2.St} {ia ja : List Addr} {F F' H H' : Hp} {h h' : Hs} {ρ : Env}
theorem Fin.post {α β : Type} {m : Rs α} {R : List Addr → Hp → α → β → Prop} {Q : β → Hp → Prop} (p : Post K cls ia F H ja F' h' H') (f : Fin K cls W σ ia F H m R Q) : Fin K cls W σ ja F' H' m R Q := by
  cases m with
  | ok a h1 => exact fun b ja' F1 H1 q r => f b ja' F1 H1 (p.trans q) r
  | rz e h1 => exact fun c d ja' F1 H1 q r => f c d ja' F1 H1 (p.trans q) r
  | no => exact f
theorem Fin.bind {α β γ δ : Type} {m : Rs α} {f : α → Hs → Rs γ} {R0 : List Addr → Hp → α → β → Prop} {R : List Addr → Hp → γ → δ → Prop} {Q : δ → Hp → Prop} (hf : Fin K cls W σ ia F H (m.bind f) R Q) :
    Fin K cls W σ ia F H m R0 fun b H1 => ∃ a ja F1 h1, Post K cls ia F H ja F1 h1 H1 ∧ R0 ja F1 a b ∧ Fin K cls W σ ja F1 H1 (f a h1) R Q := by
  cases m with
  | ok a h1 => exact fun b ja' F1 H1 q r => ⟨a, ja', F1, h1, q, r, Fin.post q hf⟩
  | rz e h1 => exact hf
  | no => exact hf
theorem Fin.of_some {α β : Type} {o : Option α} {R : List Addr → Hp → α → β → Prop} {Q : β → Hp → Prop} (hf : Fin K cls W σ ia F H (Rs.of o h) R Q) : ∃ a, o = some a ∧ ∀ (b : β) (ja : List Addr) (F' H' : Hp), Post K cls ia F H ja F' h H' → R ja F' a b → Q b H' := by
  cases o with
  | none => exact hf.elim
  | some a => exact ⟨a, rfl, hf⟩
end
end Wd

set_option Elab.async false
set_option linter.all false
set_option maxRecDepth 100000
namespace Wd
open PySem PySem.Spec PyProof.Rows L2

section
variable {X : Cx} {cls : Str → Option Addr} {pins : List (Addr × Obj)} {s : Shared} {σ : L2.St} {ia ja : List Addr} {F F' H H' : Hp} {h h' : Hs} {ρ : Env}
/-- what the outcome z asks, where nothing of the small heap is changed -/
abbrev Out (X : Cx) (cls : Str → Option Addr) (ia : List Addr) (F H : Hp) (h : Hs) (z : Vl) (Q : VK) : Prop := ∀ (v : V) (ja : List Addr) (F' H' : Hp), Post X.K cls ia F H ja F' h H' → Rep X.K cls ja F' z v → Q v H'
theorem Out.now {z : Vl} {Q : VK} {v : V} (S : Sim X.K cls ia F h H) (q : Out X cls ia F H h z Q) (r : Rep X.K cls ia F z v) : Q v H := q v ia F H (Post.refl S) r
theorem Out.newT {xs : List Vl} {vs : List V} {Q : VK} (S : Sim X.K cls ia F h H) (q : Out X cls ia F H h (.tup xs) Q) (r : RepL X.K cls ia F xs vs) : ∀ p, H p = none → Q (.ref p) (upd H p (.tup vs)) := fun p hp => by
  have P := Post.frozen S hp (.tup vs)
  refine q _ ia _ _ P ?_
  simp only [Rep]
  exact ⟨p, vs, rfl, .inl (.inl upd_same), RepL.post P r⟩
theorem Out.newL {xs : List Vl} {vs : List V} {Q : VK} (S : Sim X.K cls ia F h H) (q : Out X cls ia F H h (.lst xs) Q) (r : RepL X.K cls ia F xs vs) : ∀ p, H p = none → Q (.ref p) (upd H p (.lst vs)) := fun p hp => by
  have P := Post.frozen S hp (.lst vs)
  refine q _ ia _ _ P ?_
  simp only [Rep]
  exact ⟨p, vs, rfl, .inl (.inl upd_same), RepL.post P r⟩
theorem sqL_sub (S : Sim X.K cls ia F h H) {a : Addr} {xs : List V} (r : SqL X.K F a xs) : SqL X.K H a xs := sqL_mono S.sub r
theorem rd_sub (S : Sim X.K cls ia F h H) {a : Addr} {o : HO} (r : Rd F a o) : Rd H a o := rd_mono S.sub r
theorem sqT_sub (S : Sim X.K cls ia F h H) {a : Addr} {xs : List V} (r : SqT X.K F a xs) : SqT X.K H a xs := sqT_mono S.sub r
/-- the items of what is walked or indexed -/
theorem itemsV_ok (S : Sim X.K cls ia F h H) {d : Vl} {v : V} {xs : List Vl} (e : itemsV h d = some xs) (r : Rep X.K cls ia F d v) : ∃ a vs, v = .ref a ∧ RepL X.K cls ia F xs vs ∧ (SqL X.K H a vs ∨ SqT X.K H a vs) := by
  cases d with
  | tup ys =>
    simp only [itemsV, Option.some.injEq] at e
    subst e
    simp only [Rep] at r
    obtain ⟨a, vs, e1, q, r⟩ := r
    exact ⟨a, vs, e1, r, .inr (sqT_sub S q)⟩
  | lst ys =>
    simp only [itemsV, Option.some.injEq] at e
    subst e
    simp only [Rep] at r
    obtain ⟨a, vs, e1, q, r⟩ := r
    exact ⟨a, vs, e1, r, .inl (sqL_sub S q)⟩
  | ref n =>
    simp only [Rep] at r
    obtain ⟨a, e1, e2⟩ := r
    simp only [itemsV, getL] at e
    split at e
    · rename_i ys e3
      simp only [Option.some.injEq] at e
      subst e
      obtain ⟨a', e4, _, vs, e5, q⟩ := S.obj n _ e3
      rw [e1] at e4
      cases e4
      exact ⟨a, vs, e2, q, .inl (.inl (.inl e5))⟩
    · cases e
  | _ => simp [itemsV] at e
theorem getL_ok (S : Sim X.K cls ia F h H) {n : Nat} {v : V} {xs : List Vl} (e : getL h n = some xs) (r : Rep X.K cls ia F (.ref n) v) : ∃ a vs, v = .ref a ∧ ia[n]? = some a ∧ F a = none ∧ h[n]? = some (some (.lst xs)) ∧ H a = some (.lst vs) ∧ RepL X.K cls ia F xs vs := by
  simp only [Rep] at r
  obtain ⟨a, e1, e2⟩ := r
  simp only [getL] at e
  split at e
  · rename_i ys e3
    simp only [Option.some.injEq] at e
    subst e
    obtain ⟨a', e4, e6, vs, e5, q⟩ := S.obj n _ e3
    rw [e1] at e4
    cases e4
    exact ⟨a, vs, e2, e1, e6, e3, e5, q⟩
  · cases e
theorem getI_ok (S : Sim X.K cls ia F h H) {n : Nat} {v : V} {c : Str} {fs : List (Str × Vl)} (e : getI h n = some (c, fs)) (r : Rep X.K cls ia F (.ref n) v) : ∃ a C dx gs, v = .ref a ∧ ia[n]? = some a ∧ F a = none ∧ h[n]? = some (some (.ins c fs)) ∧ cls c = some C ∧ H a = some (.ins C dx gs) ∧ RepF X.K cls ia F fs gs := by
  simp only [Rep] at r
  obtain ⟨a, e1, e2⟩ := r
  simp only [getI] at e
  split at e
  · rename_i c' ys e3
    simp only [Option.some.injEq, Prod.mk.injEq] at e
    obtain ⟨rfl, rfl⟩ := e
    obtain ⟨a', e4, e6, C, dx, gs, k, e5, q⟩ := S.obj n _ e3
    rw [e1] at e4
    cases e4
    exact ⟨a, C, dx, gs, e2, e1, e6, e3, k, e5, q⟩
  · cases e

/-! ### truth -/
theorem isEmpty_rep {K : PySem.W.Frag} {ia : List Addr} {F : Hp} {xs : List Vl} {vs : List V} (r : RepL K cls ia F xs vs) : (!xs.isEmpty) = !vs.isEmpty := by
  have := r.len
  cases xs with
  | nil => cases vs with
    | nil => rfl
    | cons _ _ => simp at this
  | cons _ _ => cases vs with
    | nil => simp at this
    | cons _ _ => rfl
theorem truth_ok (S : Sim X.K cls ia F h H) {d : Vl} {v : V} {b : Bool} (e : truth h d = some b) (r : Rep X.K cls ia F d v) : TruV X.K v H b := by
  cases d with
  | non => simp only [Rep] at r; subst r; simp only [truth, Option.some.injEq] at e; exact e.symm
  | bl k => simp only [Rep] at r; subst r; simp only [truth, Option.some.injEq] at e; exact e.symm
  | int i => simp only [Rep] at r; subst r; simp only [truth, Option.some.injEq] at e; exact e.symm
  | str z =>
    simp only [Rep] at r; subst r
    simp only [truth] at e
    split at e
    · rename_i hz
      simp only [Option.some.injEq] at e
      exact ⟨hz, e.symm⟩
    · cases e
  | tup xs =>
    simp only [truth, Option.some.injEq] at e
    simp only [Rep] at r
    obtain ⟨a, vs, e1, q, r⟩ := r
    subst e1 e
    exact .inr (.inl ⟨vs, sqT_sub S q, isEmpty_rep r⟩)
  | lst xs =>
    simp only [truth, Option.some.injEq] at e
    simp only [Rep] at r
    obtain ⟨a, vs, e1, q, r⟩ := r
    subst e1 e
    exact .inl ⟨vs, sqL_sub S q, isEmpty_rep r⟩
  | ref n =>
    simp only [truth] at e
    cases e1 : getL h n with
    | none => rw [e1] at e; simp at e
    | some xs =>
      rw [e1] at e
      simp only [Option.map_some, Option.some.injEq] at e
      obtain ⟨a, vs, e2, _, _, _, e3, q⟩ := getL_ok S e1 r
      subst e2 e
      exact .inl ⟨vs, .inl (.inl e3), isEmpty_rep q⟩
  | _ => simp [truth] at e

/-! ### data -/
mutual
theorem toPD_ok (hf : ∀ a o, F a = some o → H a = some o) : ∀ (d : Vl) (v : V) (p : PyData), toPD d = some p → Rep X.K cls ia F d v → Dp X.K H v p
  | .non, v, p, e, r => by simp only [Rep] at r; simp only [toPD, Option.some.injEq] at e; subst e r; exact .non
  | .bl b, v, p, e, r => by simp only [Rep] at r; simp only [toPD, Option.some.injEq] at e; subst e r; exact .bl b
  | .int b, v, p, e, r => by simp only [Rep] at r; simp only [toPD, Option.some.injEq] at e; subst e r; exact .int b
  | .str b, v, p, e, r => by simp only [Rep] at r; simp only [toPD, Option.some.injEq] at e; subst e r; exact .str b
  | .ty b, v, p, e, r => by simp [toPD] at e
  | .cl b, v, p, e, r => by simp [toPD] at e
  | .tup xs, v, p, e, r => by
    simp only [Rep] at r
    obtain ⟨a, vs, e1, q, r⟩ := r
    simp only [toPD] at e
    cases e2 : toPDs xs with
    | none => rw [e2] at e; cases e
    | some ds =>
      rw [e2] at e
      simp only [Option.map_some, Option.some.injEq] at e
      subst e e1
      exact .tup (sqT_mono hf q) (toPDs_ok hf xs vs ds e2 r)
  | .lst xs, v, p, e, r => by
    simp only [Rep] at r
    obtain ⟨a, vs, e1, q, r⟩ := r
    simp only [toPD] at e
    cases e2 : toPDs xs with
    | none => rw [e2] at e; cases e
    | some ds =>
      rw [e2] at e
      simp only [Option.map_some, Option.some.injEq] at e
      subst e e1
      exact .lst (sqL_mono hf q) (toPDs_ok hf xs vs ds e2 r)
  | .ins _ _, v, p, e, r => by simp [toPD] at e
  | .exc _ _, v, p, e, r => by simp [toPD] at e
  | .dic _, v, p, e, r => by simp [toPD] at e
  | .ref _, v, p, e, r => by simp [toPD] at e
theorem toPDs_ok (hf : ∀ a o, F a = some o → H a = some o) : ∀ (d : List Vl) (v : List V) (p : List PyData), toPDs d = some p → RepL X.K cls ia F d v → DpAll X.K H v p
  | [], v, p, e, r => by
    simp only [RepL] at r
    simp only [toPDs, Option.some.injEq] at e
    subst e r
    exact .nil
  | x :: xs, v, p, e, r => by
    simp only [RepL] at r
    obtain ⟨w, ws, e1, r1, r2⟩ := r
    simp only [toPDs] at e
    split at e
    · rename_i d ds e2 e3
      simp only [Option.some.injEq] at e
      subst e e1
      exact .cons (toPD_ok hf x w d e2 r1) (toPDs_ok hf xs ws ds e3 r2)
    · cases e
end

/-! ### operators -/
/-- xs + ys of lists that are read -/
theorem op_catR : OpR X (binaryOp .Add) (fun x y H Q => ∃ l b xs zs, x = .ref l ∧ y = .ref b ∧ SqL X.K H l xs ∧ SqL X.K H b zs ∧ xs.length + zs.length ≤ sizeLine ∧ ∀ p, H p = none → Q (.ref p) (upd H p (.lst (xs ++ zs)))) := by
  intro pins s σ H x y v u Q I rx ry h
  obtain ⟨l, b, xs, zs, rfl, rfl, hH, hB, hz, q⟩ := h
  cases rx
  cases ry
  obtain ⟨its, r, pl, z⟩ := I.list hH
  obtain ⟨its2, r2, pl2, z2⟩ := I.list hB
  have hl := r.length
  have hl2 := r2.length
  obtain ⟨⟨c1, d1, dt1, sl1⟩, n, e, hc, _, hd⟩ := pl
  obtain ⟨⟨c2, d2, dt2, sl2⟩, n2, e2, hc2, _, hd2⟩ := pl2
  simp only at hc hd hc2 hd2
  subst hc hd hc2 hd2
  have ea : its.toArray ++ its2.toArray = (its ++ its2).toArray := by simp
  refine concat_meets ⟨_, e, rfl⟩ ⟨_, e2, rfl⟩ noFill_list_add seq_list_add PySem.F.slot_list_add PySem.F.entry_list_add (PySem.F.args_list_add_2 _ _) (list_addW l b its.toArray its2.toArray n n2 d1 d2 sl1 sl2 (by rw [List.size_toArray, List.size_toArray]; omega)) ⟨e, e2, ?_⟩
  rw [ea]
  refine ⟨.ref s.heap.objs.size, _, I.laid (t' := s.toks) (o := .lst (xs ++ zs)) (fun b ob q => Heap.get?_push_of_some _ q) (Nat.le_refl _) ?_, rfl, q _ (I.hok.fresh (Nat.le_refl _))⟩
  exact ⟨by rw [List.length_append]; exact hz, _, 0, r.append r2, Heap.get?_push_size _ rfl⟩
/-- xs * k of lists that are read -/
theorem op_repR : OpR X (binaryOp .Mult) (fun x y H Q => ∃ l k xs, x = .ref l ∧ y = .int k ∧ SqL X.K H l xs ∧ -(2 ^ 63) ≤ k ∧ k < 2 ^ 63 ∧ xs.length * k.toNat ≤ sizeLine ∧ ∀ p, H p = none → Q (.ref p) (upd H p (.lst (List.replicate k.toNat xs).flatten))) := by
  intro pins s σ H x y v u Q I rx ry h
  obtain ⟨l, k, xs, rfl, rfl, hH, h1, h2, hz, q⟩ := h
  cases rx
  obtain ⟨t, rfl⟩ := ry
  obtain ⟨its, r, pl, z⟩ := I.list hH
  have hl := r.length
  obtain ⟨⟨c1, d1, dt1, sl1⟩, n, e, hc, _, hd⟩ := pl
  simp only at hc hd
  subst hc hd
  have hlen : its.toArray.size * k.toNat ≤ sizeLine := by rw [List.size_toArray, ← hl]; exact hz
  have hcap : ¬ its.toArray.size * k.toNat > (2 ^ 63 - 1) / 8 := by
    have : (sizeLine : Nat) ≤ (2 ^ 63 - 1) / 8 := by decide
    omega
  have hfit : ¬ (!Builtin.List.listFitsIndex k) = true := by
    rw [fitsIndex_both h1 h2]
    exact Bool.false_ne_true
  have hlong : ¬ Builtin.List.listTooLong (its.toArray.size * k.toNat) = true := by
    rw [notLongL hlen]
    exact Bool.false_ne_true
  have hnew : List.foldl (fun x1 x2 => x1 ++ x2) #[] (List.replicate (if its.toArray.isEmpty = true then 0 else k.toNat) its.toArray) = (List.replicate k.toNat its).flatten.toArray := by
    rw [size_rep]
    cases its with
    | nil => simp
    | cons a r' => rw [if_neg (by simp)]
  refine wpAny_binaryOp_repeat_ref (T := "list") (U := "int") (by decide) ⟨_, e, rfl⟩ (fun s' => typeIs_int s' k t) noFill_list_mul F.fills_int_mul F.slot_int_rmul repeat_list F.slot_int_index.lookup
    (call_meets F.slot_int_rmul (typeIs_int s k t) F.entry_int_rmul (F.args_int_rmul_2 _ _) (lm_int_rmul_list_any k t l its.toArray n d1 sl1)
      ⟨e, rfl, ⟨_, e, rfl⟩, call_meets F.slot_list_mul ⟨_, e, rfl⟩ F.entry_list_mul (F.args_list_mul_2 _ _) (lm_list_mul_any l its.toArray n d1 sl1 k t hfit hcap hlong) ⟨e, ?_⟩⟩)
  rw [hnew]
  refine ⟨.ref s.heap.objs.size, _, I.laid (t' := s.toks) (o := .lst (List.replicate k.toNat xs).flatten) (fun b ob q => Heap.get?_push_of_some _ q) (Nat.le_refl _) ?_, rfl, q _ (I.hok.fresh (Nat.le_refl _))⟩
  exact ⟨by rw [PyProof.Rows.lm_len_rep_flat, Nat.mul_comm]; exact hz, _, 0, r.rep k.toNat, Heap.get?_push_size _ rfl⟩
theorem tuple_mulS (l : Addr) (items : Array Value) (n : Nat) (dd : Option Addr) (sl : Array (Option Value)) (x : Int) (u : Tok) (c0 : (decide (x < -(2 ^ 63)) || decide (x ≥ 2 ^ 63)) = false) (c1 : (items.isEmpty || x == 1) = true) :
    Meets (Builtin.«tuple.__mul__» ⟨[.ref l, .int x u], []⟩) (fun _ R s => s.heap.get? l = some { cls := .type "tuple", dict := dd, data := .seq items n, slots := sl } ∧ R (.ok (.ret (Value.ref l))) s) :=
  .of_wp fun prog w A R s h => by
    obtain ⟨hp, g, d, tk, os⟩ := s
    obtain ⟨hl, h⟩ := h
    have f1 := AutoSeq1.idx_int
    wp_walk using AutoSeq1.wpAny_loadPart' hl
    repeat (first
      | (refine wpAny_ite_false (decide_eq_false (by rw [c0]; exact Bool.false_ne_true)) ?_; wp_walk using AutoSeq1.wpAny_loadPart' hl)
      | (refine wpAny_ite_true (decide_eq_true c1) ?_; wp_walk using AutoSeq1.wpAny_loadPart' hl))
    exact ⟨_, rfl, h⟩
theorem tuple_mulZ (l : Addr) (items : Array Value) (n : Nat) (dd : Option Addr) (sl : Array (Option Value)) (x : Int) (u : Tok) (c0 : (decide (x < -(2 ^ 63)) || decide (x ≥ 2 ^ 63)) = false) (c1 : (items.isEmpty || x == 1) = false) (c2 : (decide (x ≤ 0) || items.isEmpty) = true) :
    Meets (Builtin.«tuple.__mul__» ⟨[.ref l, .int x u], []⟩) (fun _ R s => s.heap.get? l = some { cls := .type "tuple", dict := dd, data := .seq items n, slots := sl } ∧
      R (.ok (.ret (Value.ref s.heap.objs.size))) { s with heap := s.heap.push { cls := Value.type "tuple", data := Data.seq #[] }, toks := s.toks }) :=
  .of_wp fun prog w A R s h => by
    obtain ⟨hp, g, d, tk, os⟩ := s
    obtain ⟨hl, h⟩ := h
    have f1 := AutoSeq1.idx_int
    wp_walk using AutoSeq1.wpAny_loadPart' hl
    repeat (first
      | (refine wpAny_ite_false (decide_eq_false (by rw [c0]; exact Bool.false_ne_true)) ?_; wp_walk using AutoSeq1.wpAny_loadPart' hl)
      | (refine wpAny_ite_false (decide_eq_false (by rw [c1]; exact Bool.false_ne_true)) ?_; wp_walk using AutoSeq1.wpAny_loadPart' hl)
      | (refine wpAny_ite_true (decide_eq_true c2) ?_; wp_walk using AutoSeq1.wpAny_loadPart' hl))
    exact ⟨_, rfl, h⟩
/-- t * k -/
theorem op_repTA : OpR X (binaryOp .Mult) (fun x y H Q => ∃ l k xs, x = .ref l ∧ y = .int k ∧ SqT X.K H l xs ∧ -(2 ^ 63) ≤ k ∧ k < 2 ^ 63 ∧ xs.length * k.toNat ≤ sizeLine ∧
    (xs = [] ∨ k = 1 → Q (.ref l) H) ∧ (¬ (xs = [] ∨ k = 1) → ∀ p, H p = none → Q (.ref p) (upd H p (.tup (List.replicate k.toNat xs).flatten)))) := by
  intro pins s σ H x y v u Q I rx ry h
  obtain ⟨l, k, xs, rfl, rfl, hT, h1, h2, hz, q1, q2⟩ := h
  cases rx
  obtain ⟨t, rfl⟩ := ry
  obtain ⟨its, r, ⟨⟨cls, dd, data, sl⟩, ho, hc, n, hd⟩, hs⟩ := I.tuple hT
  simp only at hc hd
  subst hc hd
  have hle : its.length = xs.length := r.length.symm
  have c0 : (decide (k < -(2 ^ 63)) || decide (k ≥ 2 ^ 63)) = false := by
    rw [decide_eq_false (by omega), decide_eq_false (by omega)] <;> rfl
  have road : ∀ {Q' : Value → Shared → Prop}, wpAny (model X.prog X.w) X.A (PySem.call (.builtin "tuple.__mul__") [.ref l, .int k t]) Q' X.xe s → wpAny (model X.prog X.w) X.A (binaryOp .Mult (.ref l) (.int k t)) Q' X.xe s := fun {Q'} h =>
    wpAny_binaryOp_repeat_ref (T := "tuple") (U := "int") (by decide) ⟨_, ho, rfl⟩ (fun s' => typeIs_int s' k t) noFill_tuple_mul F.fills_int_mul F.slot_int_rmul repeat_tuple F.slot_int_index.lookup
    (call_meets F.slot_int_rmul (typeIs_int s k t) F.entry_int_rmul (F.args_int_rmul_2 _ _) (int_rmul_tuple k t l its.toArray n dd sl) ⟨ho, rfl, ⟨_, ho, rfl⟩, h⟩)
  by_cases hx : xs = [] ∨ k = 1
  · refine road (call_meets F.slot_tuple_mul ⟨_, ho, rfl⟩ F.entry_tuple_mul (F.args_tuple_mul_2 _ _) (tuple_mulS l its.toArray n dd sl k t c0 ?_) ⟨ho, .ref l, H, I, rfl, q1 hx⟩)
    rcases hx with hx | hx
    · subst hx
      cases its with
      | nil => rfl
      | cons a b => simp at hle
    · subst hx; simp
  · have hne : its ≠ [] := fun z => hx (.inl (by subst z; exact List.eq_nil_of_length_eq_zero hle.symm))
    have hi : its.toArray.isEmpty = false := by
      cases its with
      | nil => exact absurd rfl hne
      | cons a b => rfl
    have c1 : (its.toArray.isEmpty || k == 1) = false := by
      rw [hi, Bool.false_or]
      exact beq_eq_false_iff_ne.mpr fun z => hx (.inr z)
    by_cases hk : k ≤ 0
    · have hk0 : k.toNat = 0 := by omega
      have c2 : (decide (k ≤ 0) || its.toArray.isEmpty) = true := by rw [decide_eq_true hk]; rfl
      refine road (call_meets F.slot_tuple_mul ⟨_, ho, rfl⟩ F.entry_tuple_mul (F.args_tuple_mul_2 _ _) (tuple_mulZ l its.toArray n dd sl k t c0 c1 c2) ⟨ho, ?_⟩)
      refine ⟨.ref s.heap.objs.size, _, I.laid (t' := s.toks) (o := .tup (List.replicate k.toNat xs).flatten) (fun b ob q => Heap.get?_push_of_some _ q) (Nat.le_refl _) ?_, rfl, q2 hx _ (I.hok.fresh (Nat.le_refl _))⟩
      rw [hk0]
      exact ⟨by simp, [], .nil, IsTup.new _ _⟩
    · have c2 : (decide (k ≤ 0) || its.toArray.isEmpty) = false := by
        rw [hi, Bool.or_false]
        exact decide_eq_false hk
      have hn : (its.toArray.size : Int) * k ≤ 16777216 := by
        have a1 : ((its.length * k.toNat : Nat) : Int) ≤ ((sizeLine : Nat) : Int) := by rw [hle]; exact Int.ofNat_le.mpr hz
        rw [sizeLine_eq] at a1
        rw [List.size_toArray]
        have a2 : ((its.length * k.toNat : Nat) : Int) = (its.length : Int) * k := by rw [Int.natCast_mul, Int.toNat_of_nonneg (by omega)]
        rw [a2] at a1
        exact a1
      have c4 : Builtin.Tuple.tupleTooMany (((its.toArray.size : Nat) : Int) * k) = false := by
        unfold Builtin.Tuple.tupleTooMany
        rw [sizeLine_eq]
        exact decide_eq_false (by omega)
      have flen : (List.replicate k.toNat its).flatten.length ≤ sizeLine := by
        rw [PyProof.Rows.lm_len_rep_flat, hle, Nat.mul_comm]; exact hz
      refine road (call_meets F.slot_tuple_mul ⟨_, ho, rfl⟩ F.entry_tuple_mul (F.args_tuple_mul_2 _ _) (tuple_mulW l its.toArray n dd sl k t c0 c1 c2 (by omega) c4 (by rw [size_rep, List.size_toArray]; exact flen)) ⟨ho, ?_⟩)
      rw [size_rep]
      refine ⟨.ref s.heap.objs.size, _, I.laid (t' := s.toks) (o := .tup (List.replicate k.toNat xs).flatten) (fun b ob q => Heap.get?_push_of_some _ q) (Nat.le_refl _) ?_, rfl, q2 hx _ (I.hok.fresh (Nat.le_refl _))⟩
      exact ⟨by rw [PyProof.Rows.lm_len_rep_flat, Nat.mul_comm]; exact hz, _, r.rep k.toNat, IsTup.new _ _⟩
theorem RepL.rep {ia : List Addr} {F : Hp} {xs : List Vl} {vs : List V} (r : RepL X.K cls ia F xs vs) : ∀ n : Nat, RepL X.K cls ia F (List.replicate n xs).flatten (List.replicate n vs).flatten
  | 0 => RepL.nil
  | n + 1 => by
    rw [List.replicate_succ, List.replicate_succ, List.flatten_cons, List.flatten_cons]
    exact r.append (RepL.rep r n)
theorem binV_ok {op : Operator} {a b z : Vl} {x y : V} {u w : Value} {Q : VK} (I : Inv X pins σ H s) (S : Sim X.K cls ia F h H) (e : binV op a b = some z) (ra : Rep X.K cls ia F a x) (rb : Rep X.K cls ia F b y) (rx : RelV x u) (ry : RelV y w)
    (q : Out X cls ia F H h z Q) : wpAny (model X.prog X.w) X.A (binaryOp op u w) (EP X pins σ Q) X.xe s := by
  unfold binV at e
  split at e
  all_goals try simp only [Rep] at ra rb
  · subst ra rb; cases e
    exact op_add pins s σ H _ _ u w Q I rx ry ⟨_, _, rfl, rfl, q.now S (by simp only [Rep])⟩
  · subst ra rb; cases e
    exact op_add_ib pins s σ H _ _ u w Q I rx ry ⟨_, _, rfl, rfl, q.now S (by simp only [Rep])⟩
  · subst ra rb
    split at e
    · rename_i hz
      cases e
      exact op_add_str pins s σ H _ _ u w Q I rx ry ⟨_, _, rfl, rfl, hz, q.now S (by simp only [Rep])⟩
    · cases e
  · split at e
    · rename_i hz
      cases e
      obtain ⟨a1, v1, rfl, q1, r1⟩ := ra
      obtain ⟨a2, v2, rfl, q2, r2⟩ := rb
      exact op_catR pins s σ H _ _ u w Q I rx ry ⟨_, _, _, _, rfl, rfl, sqL_sub S q1, sqL_sub S q2, by rw [← r1.len, ← r2.len]; exact hz, q.newL S (r1.append r2)⟩
    · cases e
  · split at e
    · rename_i hz
      cases e
      obtain ⟨a1, v1, rfl, q1, r1⟩ := ra
      obtain ⟨a2, v2, rfl, q2, r2⟩ := rb
      refine op_catA pins s σ H _ _ u w Q I rx ry ⟨_, _, _, _, rfl, rfl, sqT_sub S q1, sqT_sub S q2, by rw [← r1.len, ← r2.len]; exact hz, fun z => ?_, fun _ z => ?_, fun _ _ => q.newT S (r1.append r2)⟩
      · subst z
        have := r1.len
        have e1 := List.eq_nil_of_length_eq_zero this
        subst e1
        exact q.now S (by simp only [Rep]; exact ⟨_, _, rfl, q2, r2⟩)
      · subst z
        have := r2.len
        have e1 := List.eq_nil_of_length_eq_zero this
        subst e1
        exact q.now S (by simp only [Rep, List.append_nil]; exact ⟨_, _, rfl, q1, r1⟩)
    · cases e
  · subst ra rb; cases e
    exact op_sub pins s σ H _ _ u w Q I rx ry ⟨_, _, rfl, rfl, q.now S (by simp only [Rep])⟩
  · split at e
    · rename_i hz
      cases e
      simp only [Bool.and_eq_true, decide_eq_true_eq] at hz
      obtain ⟨a1, v1, rfl, q1, r1⟩ := ra
      subst rb
      exact op_repR pins s σ H _ _ u w Q I rx ry ⟨_, _, _, rfl, rfl, sqL_sub S q1, hz.1.1, hz.1.2, by rw [← r1.len]; exact hz.2, q.newL S (r1.rep _)⟩
    · cases e
  · split at e
    · rename_i hz
      cases e
      simp only [Bool.and_eq_true, decide_eq_true_eq] at hz
      obtain ⟨a1, v1, rfl, q1, r1⟩ := ra
      subst rb
      refine op_repTA pins s σ H _ _ u w Q I rx ry ⟨_, _, _, rfl, rfl, sqT_sub S q1, hz.1.1, hz.1.2, by rw [← r1.len]; exact hz.2, fun z => ?_, fun _ => q.newT S (r1.rep _)⟩
      refine q.now S ?_
      simp only [Rep]
      rcases z with z | z
      · subst z
        have e1 := List.eq_nil_of_length_eq_zero r1.len
        subst e1
        exact ⟨_, _, rfl, q1, by simpa using r1⟩
      · subst z
        exact ⟨_, _, rfl, q1, by simpa using r1⟩
    · cases e
  · subst ra rb
    split at e
    · rename_i hz
      cases e
      refine op_mul pins s σ H _ _ u w Q I rx ry ⟨_, _, rfl, rfl, ?_, q.now S (by simp only [Rep])⟩
      unfold mulOk at hz
      simp only [Bool.or_eq_true, Bool.and_eq_true, decide_eq_true_eq] at hz
      exact hz
    · cases e
  · subst ra rb
    split at e
    · rename_i hz
      cases e
      simp only [Bool.and_eq_true, decide_eq_true_eq] at hz
      exact op_fdivW pins s σ H _ _ u w Q I rx ry ⟨_, _, rfl, rfl, wide_div (b := 62) hz.1 (by omega) (by decide) (by decide), q.now S (by simp only [Rep])⟩
    · cases e
  · subst ra rb
    split at e
    · rename_i hz
      cases e
      simp only [decide_eq_true_eq] at hz
      exact op_mod pins s σ H _ _ u w Q I rx ry ⟨_, _, rfl, rfl, hz, q.now S (by simp only [Rep])⟩
    · cases e
  · subst ra rb
    split at e
    · rename_i hz
      cases e
      unfold powOk at hz
      simp only [Bool.and_eq_true, decide_eq_true_eq] at hz
      exact op_pow pins s σ H _ _ u w Q I rx ry ⟨_, _, rfl, rfl, ⟨hz.1.1, hz.1.2, hz.2⟩, q.now S (by simp only [Rep])⟩
    · cases e
  · subst ra rb
    split at e
    · rename_i hz
      cases e
      simp only [decide_eq_true_eq] at hz
      exact op_shr pins s σ H _ _ u w Q I rx ry ⟨_, _, rfl, rfl, hz, q.now S (by simp only [Rep])⟩
    · cases e
  · cases e
end
end Wd

set_option Elab.async false
set_option linter.all false
set_option maxRecDepth 100000
namespace Wd
open PySem PySem.Spec PyProof.Rows L2

section
variable {X : Cx} {cls : Str → Option Addr} {pins : List (Addr × Obj)} {s : Shared} {σ : L2.St} {ia ja : List Addr} {F F' H H' : Hp} {h h' : Hs} {ρ : Env}
/-! ### comparisons -/
theorem flat_ok {K : PySem.W.Frag} {d : Vl} {v : V} (e : flat d = true) (r : Rep K cls ia F d v) : flatV v = true := by
  cases d <;> first
    | (simp only [Rep] at r; subst r; rfl)
    | (simp [flat] at e)
theorem flatL_ok {K : PySem.W.Frag} : ∀ {xs : List Vl} {vs : List V}, xs.all flat = true → RepL K cls ia F xs vs → vs.all flatV = true
  | [], vs, _, r => by simp only [RepL] at r; subst r; rfl
  | x :: xs, vs, e, r => by
    simp only [RepL] at r
    obtain ⟨v, ws, e1, r1, r2⟩ := r
    subst e1
    rw [List.all_cons, Bool.and_eq_true] at e ⊢
    exact ⟨flat_ok e.1 r1, flatL_ok e.2 r2⟩
theorem eqF_ok {K : PySem.W.Frag} {d e : Vl} {v w : V} (fd : flat d = true) (fe : flat e = true) (r : Rep K cls ia F d v) (q : Rep K cls ia F e w) : eqV v w = eqF d e := by
  cases d <;> first
    | (simp only [Rep] at r; subst r
       cases e <;> first
         | (simp only [Rep] at q; subst q; rfl)
         | (simp [flat] at fe))
    | (simp [flat] at fd)
theorem inL_ok {K : PySem.W.Frag} {d : Vl} {v : V} (fd : flat d = true) (r : Rep K cls ia F d v) : ∀ {xs : List Vl} {vs : List V}, xs.all flat = true → RepL K cls ia F xs vs → inV v vs = xs.any fun y => eqF y d
  | [], vs, _, q => by simp only [RepL] at q; subst q; rfl
  | x :: xs, vs, e, q => by
    simp only [RepL] at q
    obtain ⟨w, ws, e1, r1, r2⟩ := q
    subst e1
    rw [List.all_cons, Bool.and_eq_true] at e
    have ih := inL_ok fd r e.2 r2
    unfold inV at ih ⊢
    rw [List.any_cons, List.any_cons, ih, eqF_ok e.1 fd r1 r]
theorem isNon_ok {K : PySem.W.Frag} {d : Vl} {v : V} (r : Rep K cls ia F d v) : decide (v = .non) = isNon d := by
  cases d with
  | non => simp only [Rep] at r; subst r; simp [isNon]
  | bl _ => simp only [Rep] at r; subst r; simp [isNon]
  | int _ => simp only [Rep] at r; subst r; simp [isNon]
  | str _ => simp only [Rep] at r; subst r; simp [isNon]
  | ty _ => simp only [Rep] at r; subst r; simp [isNon]
  | cl _ => simp only [Rep] at r; obtain ⟨C, _, rfl⟩ := r; simp [isNon]
  | tup _ => simp only [Rep] at r; obtain ⟨C, _, rfl, _⟩ := r; simp [isNon]
  | lst _ => simp only [Rep] at r; obtain ⟨C, _, rfl, _⟩ := r; simp [isNon]
  | ins _ _ => simp only [Rep] at r; obtain ⟨C, _, _, _, rfl, _⟩ := r; simp [isNon]
  | exc _ _ => simp [Rep] at r
  | dic _ => simp only [Rep] at r; obtain ⟨_, C, rfl, _⟩ := r; simp [isNon]
  | ref _ => simp only [Rep] at r; obtain ⟨C, _, rfl⟩ := r; simp [isNon]
/-- the rules for == and != together -/
theorem eqVl_ok (hu : X.A.units + 64 < cLine) {a b : Vl} {k : Bool} {x y : V} {u w : Value} {neg : Bool} {Q : VK} (I : Inv X pins σ H s) (S : Sim X.K cls ia F h H) (e : eqVl a b = some k) (ra : Rep X.K cls ia F a x) (rb : Rep X.K cls ia F b y) (rx : RelV x u) (ry : RelV y w)
    (q : Q (.bl (if neg then !k else k)) H) : wpAny (model X.prog X.w) X.A (compareOp (if neg then .NotEq else .Eq) u w) (EP X pins σ Q) X.xe s := by
  have scalar : ∀ {k' : Bool}, scal x y = true → k' = decide (x = y) → k = k' → wpAny (model X.prog X.w) X.A (compareOp (if neg then .NotEq else .Eq) u w) (EP X pins σ Q) X.xe s := by
    intro k' h1 h2 h3
    subst h3 h2
    cases neg with
    | false => exact op_eq pins s σ H x y u w Q I rx ry ⟨h1, q⟩
    | true => exact op_ne pins s σ H x y u w Q I rx ry ⟨h1, q⟩
  unfold eqVl at e
  split at e
  · simp only [Rep] at ra rb; subst ra rb
    exact scalar rfl (k' := k) (by simp only [Option.some.injEq] at e; rw [← e]; simp) rfl
  · simp only [Rep] at ra rb; subst ra rb
    exact scalar rfl (k' := k) (by simp only [Option.some.injEq] at e; rw [← e]; simp) rfl
  · simp only [Rep] at ra rb; subst ra rb
    exact scalar rfl (k' := k) (by simp only [Option.some.injEq] at e; rw [← e]; simp) rfl
  · unfold eqD at e
    split at e
    · rename_i d1 d2 e1 e2
      split at e
      · rename_i hs
        rw [Bool.and_eq_true] at hs
        simp only [Option.some.injEq] at e
        subst e
        have D1 := toPD_ok (X := X) S.sub a x d1 e1 ra
        have D2 := toPD_ok (X := X) S.sub b y d2 e2 rb
        cases neg with
        | false => exact op_eqD hu pins s σ H x y u w Q I rx ry ⟨_, _, D1, D2, hs.1, hs.2, q⟩
        | true => exact op_neD hu pins s σ H x y u w Q I rx ry ⟨_, _, D1, D2, hs.1, hs.2, q⟩
      · cases e
    · cases e
theorem inVl_ok (hu : X.A.units + 65 < cLine) {a b : Vl} {k : Bool} {x y : V} {u w : Value} {neg : Bool} {Q : VK} (I : Inv X pins σ H s) (S : Sim X.K cls ia F h H) (e : inVl h a b = some k) (ra : Rep X.K cls ia F a x) (rb : Rep X.K cls ia F b y) (rx : RelV x u) (ry : RelV y w)
    (q : Q (.bl (if neg then !k else k)) H) : wpAny (model X.prog X.w) X.A (compareOp (if neg then .NotIn else .In) u w) (EP X pins σ Q) X.xe s := by
  unfold inVl at e
  split at e
  · simp only [Rep] at ra rb; subst ra rb
    simp only [Option.some.injEq] at e
    subst e
    cases neg with
    | false => exact op_in_str pins s σ H _ _ u w Q I rx ry ⟨_, _, rfl, rfl, q⟩
    | true => exact op_notIn_str pins s σ H _ _ u w Q I rx ry ⟨_, _, rfl, rfl, q⟩
  · split at e
    · rename_i xs e1
      obtain ⟨p, vs, e2, r, sq⟩ := itemsV_ok (X := X) S e1 rb
      unfold inL at e
      split at e
      · rename_i hf
        rw [Bool.and_eq_true] at hf
        simp only [Option.some.injEq] at e
        have hin := inL_ok hf.1 ra hf.2 r
        rw [e] at hin
        cases neg with
        | false => exact op_in_seq pins s σ H x y u w Q I rx ry ⟨p, vs, e2, sq, flat_ok hf.1 ra, flatL_ok hf.2 r, by rw [if_neg Bool.false_ne_true, hin]; exact q⟩
        | true => exact op_notIn_seq pins s σ H x y u w Q I rx ry ⟨p, vs, e2, sq, flat_ok hf.1 ra, flatL_ok hf.2 r, by rw [if_pos rfl, hin]; exact q⟩
      · unfold inD at e
        split at e
        · rename_i d ds e3 e4
          split at e
          · rename_i hs
            rw [Bool.and_eq_true] at hs
            simp only [Option.some.injEq] at e
            subst e
            have D1 := toPD_ok (X := X) S.sub a x d e3 ra
            have D2 := toPDs_ok (X := X) S.sub xs vs ds e4 r
            subst e2
            obtain ⟨as1, r1⟩ := Dp.reads I d x u D1 rx
            have hl : PyData.canLayAll0 ds = true := SeqAt.canLay_of_shaped hs.2
            have hd : d.canLay0 = true := SeqAt.canLay_of_shaped hs.1
            have hr := room_in_shaped (xs := ds) hs.1 hu
            rcases sq with sq | sq
            · obtain ⟨as2, r2⟩ := Dp.reads I (.list ds) _ w (.lst sq D2) ry
              cases neg with
              | false => exact SeqAt.in_list_reads r2 r1 hl hd hr ⟨.bl _, H, I, rfl, q⟩
              | true => exact SeqAt.notIn_list_reads r2 r1 hl hd hr ⟨.bl _, H, I, rfl, q⟩
            · obtain ⟨as2, r2⟩ := Dp.reads I (.tuple ds) _ w (.tup sq D2) ry
              cases neg with
              | false => exact SeqAt.in_tuple_reads r2 r1 hl hd hr ⟨.bl _, H, I, rfl, q⟩
              | true => exact SeqAt.notIn_tuple_reads r2 r1 hl hd hr ⟨.bl _, H, I, rfl, q⟩
          · cases e
        · cases e
    · cases e
theorem cmpV_ok (hu : X.A.units + 65 < cLine) {op : CmpOp} {a b : Vl} {k : Bool} {x y : V} {u w : Value} {Q : VK} (I : Inv X pins σ H s) (S : Sim X.K cls ia F h H) (e : cmpV op h a b = some k) (ra : Rep X.K cls ia F a x) (rb : Rep X.K cls ia F b y) (rx : RelV x u) (ry : RelV y w)
    (q : Q (.bl k) H) : wpAny (model X.prog X.w) X.A (compareOp op u w) (EP X pins σ Q) X.xe s := by
  unfold cmpV at e
  split at e
  · exact eqVl_ok (by omega) (neg := false) I S e ra rb rx ry q
  · cases e1 : eqVl a b with
    | none => rw [e1] at e; cases e
    | some k' =>
      rw [e1] at e
      simp only [Option.map_some, Option.some.injEq] at e
      subst e
      exact eqVl_ok (by omega) (neg := true) I S e1 ra rb rx ry q
  · split at e
    · simp only [Rep] at ra rb; subst ra rb; cases e
      exact op_lt pins s σ H _ _ u w Q I rx ry ⟨_, _, rfl, rfl, q⟩
    · cases e
  · split at e
    · simp only [Rep] at ra rb; subst ra rb; cases e
      exact op_le pins s σ H _ _ u w Q I rx ry ⟨_, _, rfl, rfl, q⟩
    · cases e
  · split at e
    · simp only [Rep] at ra rb; subst ra rb; cases e
      exact op_gt pins s σ H _ _ u w Q I rx ry ⟨_, _, rfl, rfl, q⟩
    · cases e
  · split at e
    · simp only [Rep] at ra rb; subst ra rb; cases e
      exact op_ge pins s σ H _ _ u w Q I rx ry ⟨_, _, rfl, rfl, q⟩
    · cases e
  · exact inVl_ok hu (neg := false) I S e ra rb rx ry q
  · cases e1 : inVl h a b with
    | none => rw [e1] at e; cases e
    | some k' =>
      rw [e1] at e
      simp only [Option.map_some, Option.some.injEq] at e
      subst e
      exact inVl_ok hu (neg := true) I S e1 ra rb rx ry q
  · split at e
    · simp only [Rep] at rb; subst rb; cases e
      exact op_isN pins s σ H _ _ u w Q I rx ry ⟨rfl, by rw [isNon_ok ra]; exact q⟩
    · cases e
  · split at e
    · simp only [Rep] at rb; subst rb; cases e
      exact op_notN pins s σ H _ _ u w Q I rx ry ⟨rfl, by rw [isNon_ok ra]; exact q⟩
    · cases e

/-! ### subscripts, slices -/
theorem atI_ok {K : PySem.W.Frag} {xs : List Vl} {vs : List V} {i : Int} {d : Vl} (r : RepL K cls ia F xs vs) (e : atI xs i = some d) : ∃ v, atI vs i = some v ∧ Rep K cls ia F d v := by
  unfold atI at e ⊢
  rw [← r.len]
  cases e1 : ixN xs.length i with
  | none => rw [e1] at e; cases e
  | some j =>
    rw [e1] at e
    obtain ⟨v, h1, h2⟩ := r.get (i := j) (x := d) e
    exact ⟨v, h1, h2⟩
theorem idxV_ok {a b z : Vl} {x y : V} {Q : VK} (S : Sim X.K cls ia F h H) (e : idxV h a b = some z) (ra : Rep X.K cls ia F a x) (rb : Rep X.K cls ia F b y) (q : Out X cls ia F H h z Q) : rIx X.K x y H Q := by
  unfold idxV at e
  split at e
  · simp only [Rep] at ra rb; subst ra rb
    split at e
    · rename_i z' i hz
      cases e1 : atI z'.cps.toList i with
      | none => rw [e1] at e; cases e
      | some c =>
        rw [e1] at e
        simp only [Option.map_some, Option.some.injEq] at e
        subst e
        exact .inr (.inr ⟨_, _, c, rfl, rfl, hz, e1, q.now S (by simp only [Rep])⟩)
    · cases e
  · simp only [Rep] at rb; subst rb
    split at e
    · rename_i xs e1
      obtain ⟨p, vs, e2, r, sq⟩ := itemsV_ok (X := X) S e1 ra
      obtain ⟨v, h1, h2⟩ := atI_ok r e
      rcases sq with sq | sq
      · exact .inl ⟨p, vs, _, v, e2, rfl, sq, h1, q.now S h2⟩
      · exact .inr (.inl ⟨p, vs, _, v, e2, rfl, sq, h1, q.now S h2⟩)
    · cases e
  · cases e
def rSlW (K : PySem.W.Frag) : V → Option Int → Option Int → Hp → VK → Prop := fun x lo hi H Q => rSlS x lo hi H Q ∨ rSlL K x lo hi H Q ∨ rSlA K x lo hi H Q
theorem sl_W : SlR X (rSlW X.K) := sl_str.or (sl_list.or sl_tupA)
theorem cutL_ok {K : PySem.W.Frag} {xs : List Vl} {vs : List V} {lo hi : Option Int} (r : RepL K cls ia F xs vs) : RepL K cls ia F (cutL xs lo hi) (cutV vs lo hi) := by
  unfold cutL cutV
  rw [← r.len]
  exact RepL.take _ (RepL.drop _ r)
theorem cutV_whole {vs : List V} {lo hi : Option Int} (h : HT.sIx vs.length 0 lo = 0 ∧ HT.sIx vs.length vs.length hi = vs.length) : cutV vs lo hi = vs := by
  unfold cutV
  rw [h.1, h.2]
  simp
theorem sliceV_ok {a z : Vl} {x : V} {lo hi : Option Int} {Q : VK} (S : Sim X.K cls ia F h H) (e : sliceV a lo hi = some z) (ra : Rep X.K cls ia F a x) (q : Out X cls ia F H h z Q) : rSlW X.K x lo hi H Q := by
  unfold sliceV at e
  split at e
  · simp only [Rep] at ra; subst ra
    split at e
    · rename_i hz
      cases e
      exact .inl ⟨_, rfl, hz, q.now S (by simp only [Rep])⟩
    · cases e
  · simp only [Rep] at ra
    obtain ⟨p, vs, e1, rd, r⟩ := ra
    simp only [Option.some.injEq] at e
    subst e
    exact .inr (.inl ⟨p, vs, e1, sqL_sub S rd, q.newL S (cutL_ok r)⟩)
  · simp only [Rep] at ra
    obtain ⟨p, vs, e1, sq, r⟩ := ra
    simp only [Option.some.injEq] at e
    subst e
    refine .inr (.inr ⟨p, vs, e1, sqT_sub S sq, fun w => ?_, fun _ => q.newT S (cutL_ok r)⟩)
    refine q.now S ?_
    simp only [Rep]
    refine ⟨p, vs, rfl, sq, ?_⟩
    have := cutL_ok (lo := lo) (hi := hi) r
    rwa [cutV_whole w] at this
  · cases e

/-! ### f-strings -/
theorem fmtV_ok {c : Int} {d : Vl} {y : Str} (e : fmtV c d = some y) : (c = -1 ∧ ((∃ z, d = .str z ∧ z.length ≤ sizeLine ∧ y = z) ∨ (∃ i : Int, d = .int i ∧ i.natAbs.log2 < 1920 ∧ y = toString i) ∨ ∃ b : Bool, d = .bl b ∧ y = (bTx b))) ∨
    (c = 114 ∧ ∃ p, toPD d = some p ∧ p.showable = true ∧ p.shown.length ≤ sizeLine ∧ SeqAt.shaped p = true ∧ y = p.shown) := by
  unfold fmtV at e
  split at e
  · rename_i h1
    refine .inr ⟨h1, ?_⟩
    cases ep : toPD d with
    | none => rw [ep] at e; cases e
    | some p =>
      rw [ep] at e
      simp only [Option.bind_some, shownS] at e
      split at e
      · rename_i hh
        simp only [Bool.and_eq_true, decide_eq_true_eq] at hh
        cases e
        exact ⟨p, rfl, hh.1.1, hh.1.2, hh.2, rfl⟩
      · cases e
  · split at e
    · rename_i h1
      refine .inl ⟨h1, ?_⟩
      split at e
      · split at e
        · cases e; exact .inl ⟨_, rfl, by assumption, rfl⟩
        · cases e
      · split at e
        · cases e; exact .inr (.inl ⟨_, rfl, by assumption, rfl⟩)
        · cases e
      · cases e; exact .inr (.inr ⟨_, rfl, rfl⟩)
      · cases e
    · cases e
end
end Wd

set_option Elab.async false
set_option linter.all false
set_option maxRecDepth 100000
namespace Wd
open PySem PySem.Spec PyProof.Rows L2

/-! ### own classes -/
/-- what the written part says of an own class -/
structure ClsFacts (K : PySem.W.Frag) (C : Addr) : Prop where
  cl : Cls K C
  ha : PySem.W.findIn K (.ref C) "__class__" = some (some (.builtin "object.__class__"))
  hn : PySem.W.specialIn K (.builtin "object.__class__") "__get__" = some (some (.builtin "getset_descriptor.__get__"))
  ht : PySem.W.takesIn K (.builtin "object.__class__") = some true
  hm : PySem.W.mroIn K C (.type "object") = some true
  no : ∀ n ∈ tyNames, PySem.W.kitOne K (.ref C) (.type n) = some false
  ty : ∀ t ∈ rTypes, PySem.W.kitOne K (.type t) (.ref C) = some false
  nq : PySem.W.noSeq K C = true
  nb : PySem.W.findIn K (.ref C) "__bool__" = some none
  ne : PySem.W.findIn K (.ref C) "__ne__" = some (some (.builtin "object.__ne__"))
structure IsaOk (K : PySem.W.Frag) (cls : Str → Option Addr) (own : Isa) : Prop where
  fact : ∀ c C, cls c = some C → ClsFacts K C
  own : ∀ c d C D b, cls c = some C → cls d = some D → own c d = some b → PySem.W.kitOne K (.ref C) (.ref D) = some b

theorem isaT_kit {a b : String} {r : Bool} (e : isaT a b = some r) : kitB a b = some r := by
  unfold isaT at e
  split at e
  · rename_i hc
    rw [Bool.and_eq_true] at hc
    have h1 : b ∈ tyNames := by simpa using hc.1
    have h2 : a ∈ "NoneType" :: tyNames := by simpa using hc.2
    simp only [tyNames, List.mem_cons, List.not_mem_nil, or_false] at h1 h2
    rcases h1 with rfl | rfl | rfl | rfl | rfl <;> rcases h2 with rfl | rfl | rfl | rfl | rfl | rfl <;> (cases e; decide +kernel)
  · cases e
section
variable {X : Cx} {cls : Str → Option Addr} {pins : List (Addr × Obj)} {s : Shared} {σ : L2.St} {ia ja : List Addr} {F F' H H' : Hp} {h h' : Hs} {ρ : Env}
theorem tyOf_ok (S : Sim X.K cls ia F h H) {d : Vl} {v : V} {t : String} (e : tyOf h d = some t) (r : Rep X.K cls ia F d v) : TyX X.K H v (.type t) := by
  cases d with
  | non => simp only [Rep] at r; subst r; simp only [tyOf, Option.some.injEq] at e; subst e; exact .base .non
  | bl _ => simp only [Rep] at r; subst r; simp only [tyOf, Option.some.injEq] at e; subst e; exact .base (.bl _)
  | int _ => simp only [Rep] at r; subst r; simp only [tyOf, Option.some.injEq] at e; subst e; exact .base (.int _)
  | str _ => simp only [Rep] at r; subst r; simp only [tyOf, Option.some.injEq] at e; subst e; exact .base (.str _)
  | tup _ =>
    simp only [Rep] at r
    obtain ⟨a, vs, rfl, q, _⟩ := r
    simp only [tyOf, Option.some.injEq] at e; subst e
    rcases sqT_sub S q with (q | ⟨o, q⟩) | ⟨o, its, n, q, c, _⟩
    · exact .base (.tup q)
    · exact .fTuple q
    · exact .kTuple q c
  | lst _ =>
    simp only [Rep] at r
    obtain ⟨a, vs, rfl, q, _⟩ := r
    simp only [tyOf, Option.some.injEq] at e; subst e
    rcases sqL_sub S q with (q | ⟨o, q⟩) | ⟨o, its, n, q, c, _⟩
    · exact .base (.lst q)
    · exact .base (.frz q)
    · exact .kList q c
  | ref n =>
    simp only [tyOf] at e
    cases e1 : getL h n with
    | none => rw [e1] at e; cases e
    | some xs =>
      rw [e1] at e
      simp only [Option.map_some, Option.some.injEq] at e
      subst e
      obtain ⟨a, vs, rfl, _, _, _, q, _⟩ := getL_ok S e1 r
      exact .base (.lst q)
  | dic _ =>
    simp only [Rep] at r
    obtain ⟨_, a, rfl, q⟩ := r
    simp only [tyOf, Option.some.injEq] at e; subst e
    exact .base (.dK (S.sub _ _ q))
  | _ => simp [tyOf] at e
theorem clsOf_ok (S : Sim X.K cls ia F h H) {d : Vl} {v : V} {c : Str} (e : clsOf h d = some c) (r : Rep X.K cls ia F d v) : ∃ a C dx gs, v = .ref a ∧ cls c = some C ∧ H a = some (.ins C dx gs) := by
  cases d with
  | ins c' fs =>
    simp only [clsOf, Option.some.injEq] at e
    subst e
    simp only [Rep] at r
    obtain ⟨a, C, dx, gs, e1, k, q, _⟩ := r
    exact ⟨a, C, dx, gs, e1, k, S.sub _ _ q⟩
  | ref n =>
    simp only [clsOf] at e
    cases e1 : getI h n with
    | none => rw [e1] at e; cases e
    | some p =>
      obtain ⟨c', fs⟩ := p
      rw [e1] at e
      simp only [Option.map_some, Option.some.injEq] at e
      subst e
      obtain ⟨a, C, dx, gs, e2, _, _, _, k, q, _⟩ := getI_ok S e1 r
      exact ⟨a, C, dx, gs, e2, k, q⟩
  | _ => simp [clsOf] at e
theorem isaV_ok {own : Isa} (O : IsaOk X.K cls own) (S : Sim X.K cls ia F h H) {d c : Vl} {v w : V} {b : Bool} {Q : VK} (e : isaV own h d c = some b) (r : Rep X.K cls ia F d v) (rc : Rep X.K cls ia F c w) (q : Q (.bl b) H) : rIsi X.K [v, w] H Q := by
  unfold isaV at e
  split at e
  · simp only [Rep] at rc; subst rc
    split at e
    · rename_i n t e1
      exact ⟨v, _, _, _, b, rfl, .ty _, tyOf_ok S e1 r, kit_ty (isaT_kit e), q⟩
    · split at e
      · rename_i n _ c' e1
        split at e
        · rename_i hn
          cases e
          obtain ⟨a, C, dx, gs, rfl, k, e2⟩ := clsOf_ok S e1 r
          have f := O.fact _ _ k
          exact ⟨_, _, _, _, false, rfl, .ty _, .base (.ins e2 f.cl f.ha f.hn f.ht f.hm), f.no _ (by simpa using hn), q⟩
        · cases e
      · cases e
  · simp only [Rep] at rc
    obtain ⟨D, kd, rfl⟩ := rc
    split at e
    · rename_i d' t e1
      cases e
      have f := O.fact _ _ kd
      refine ⟨v, _, _, _, false, rfl, .own _, tyOf_ok S e1 r, f.ty t ?_, q⟩
      cases d with
      | non => simp only [tyOf, Option.some.injEq] at e1; subst e1; decide
      | bl _ => simp only [tyOf, Option.some.injEq] at e1; subst e1; decide
      | int _ => simp only [tyOf, Option.some.injEq] at e1; subst e1; decide
      | str _ => simp only [tyOf, Option.some.injEq] at e1; subst e1; decide
      | tup _ => simp only [tyOf, Option.some.injEq] at e1; subst e1; decide
      | lst _ => simp only [tyOf, Option.some.injEq] at e1; subst e1; decide
      | dic _ => simp only [tyOf, Option.some.injEq] at e1; subst e1; decide
      | ref n =>
        simp only [tyOf] at e1
        cases e2 : getL h n with
        | none => rw [e2] at e1; cases e1
        | some xs => rw [e2] at e1; simp only [Option.map_some, Option.some.injEq] at e1; subst e1; decide
      | _ => simp [tyOf] at e1
    · split at e
      · rename_i d' _ c' e1
        obtain ⟨a, C, dx, gs, rfl, k, e2⟩ := clsOf_ok S e1 r
        have f := O.fact _ _ k
        exact ⟨_, _, _, _, b, rfl, .own _, .base (.ins e2 f.cl f.ha f.hn f.ht f.hm), O.own _ _ _ _ _ k kd e, q⟩
      · cases e
  · cases e

/-! ### repr -/
theorem call_reprD (hg : X.A.guards = some []) (hu : X.A.units + 66 < cLine) : CallR X (.builtin "repr") (fun xs H Q => ∃ x d, xs = [x] ∧ Dp X.K H x d ∧ d.showable = true ∧ d.shown.length ≤ sizeLine ∧ SeqAt.shaped d = true ∧ Q (.str d.shown) H) := by
  intro pins s σ H xs us Q I r h
  obtain ⟨x, d, rfl, hd, hs, hz, hp, q⟩ := h
  obtain ⟨u, rfl, ru⟩ := vals1 r
  obtain ⟨as, rd⟩ := Dp.reads I d x u hd ru
  have hdep := SeqAt.depth_of_shaped hp
  have hnd : d.hasDict = false := PyData.hasDict_of_canLay d (SeqAt.canLay_of_shaped hp)
  have fin : ∀ (h' : Heap) (u tk : Tok), (∀ b o, s.heap.get? b = some o → h'.get? b = some o) → EP X pins σ Q (.str d.shown u) { s with heap := h', toks := tk } :=
    fun h' u tk k => ⟨.str d.shown, H, I.kept k, ⟨_, rfl⟩, q⟩
  cases d with
  | none =>
    cases hd
    cases ru
    refine PySem.P.repr_of_none ?_
    have := fin s.heap s.toks (s.toks + 1) fun _ _ e => e
    simpa only [PyData.shown] using this
  | bool b =>
    cases hd
    cases ru
    refine PySem.P.repr_of_bool ?_
    have := fin s.heap s.toks (s.toks + 1) fun _ _ e => e
    simpa only [PyData.shown] using this
  | int i =>
    cases hd
    obtain ⟨t, rfl⟩ := ru
    refine PySem.P.repr_of_int (by simpa [PyData.showable] using hs) ?_
    have := fin s.heap s.toks (s.toks + 1) fun _ _ e => e
    simpa only [PyData.shown] using this
  | str z =>
    cases hd
    obtain ⟨t, rfl⟩ := ru
    refine PySem.P.repr_of_str ?_ (by simpa only [PyData.shown] using hz)
    have := fin s.heap s.toks (s.toks + 1) fun _ _ e => e
    simpa only [PyData.shown] using this
  | list ds =>
    cases hd with
    | lst _ _ =>
      cases ru
      exact repr_of_reads' rd hs (PyData.noDict_hsm hnd) hg (by omega) (fun _ _ e => e) (fun h' u tk k => fin h' u tk k) hz
  | tuple ds =>
    cases hd with
    | tup _ _ =>
      cases ru
      exact repr_of_reads' rd hs (PyData.noDict_hsm hnd) hg (by omega) (fun _ _ e => e) (fun h' u tk k => fin h' u tk k) hz
  | dict _ => cases hd
theorem call_strDT (hg : X.A.guards = some []) (hu : X.A.units + 66 < cLine) : CallR X (.type "str") (fun xs H Q => ∃ x ds, xs = [x] ∧ Dp X.K H x (.tuple ds) ∧ (PyData.tuple ds).showable = true ∧ (PyData.tuple ds).shown.length ≤ sizeLine ∧ SeqAt.shaped (.tuple ds) = true ∧ (PyData.tuple ds).depth ≤ 20 ∧ Q (.str (PyData.tuple ds).shown) H) := by
  intro pins s σ H xs us Q I r h
  obtain ⟨x, ds, rfl, hd, hs, hz, hp, hdep, q⟩ := h
  obtain ⟨u, rfl, ru⟩ := vals1 r
  obtain ⟨as, rd⟩ := Dp.reads I _ x u hd ru
  have hnd : (PyData.tuple ds).hasDict = false := PyData.hasDict_of_canLay _ (SeqAt.canLay_of_shaped hp)
  have fin : ∀ (h' : Heap) (u tk : Tok), (∀ b o, s.heap.get? b = some o → h'.get? b = some o) → EP X pins σ Q (.str (PyData.tuple ds).shown u) { s with heap := h', toks := tk } :=
    fun h' u tk k => ⟨.str (PyData.tuple ds).shown, H, I.kept k, ⟨_, rfl⟩, q⟩
  cases hd with
  | tup _ _ =>
    cases ru
    exact str_of_reads rd hs (PyData.noDict_hsm hnd) hg (by omega) (fun _ _ e => e) (fun h' u tk k => fin h' u tk k) hz
theorem call_strS : CallR X (.type "str") (fun xs H Q => ∃ a, xs = [.str a] ∧ Q (.str a) H) := by
  intro pins s σ H xs us Q I r h
  obtain ⟨a, rfl, q⟩ := h
  obtain ⟨u, rfl, t, rfl⟩ := vals1 r
  exact PySem.P.str_of_str ⟨.str a, H, I, ⟨t, rfl⟩, q⟩

/-! ### built-in functions -/
def bltFn : Blt → Value
  | .len => .builtin "len" | .int => .type "int" | .bool => .type "bool" | .str => .type "str" | .abs => .builtin "abs" | .min => .builtin "min" | .max => .builtin "max" | .divmod => .builtin "divmod" | .tuple => .type "tuple" | .list => .type "list"
  | .all => .builtin "all" | .any => .builtin "any" | .sum => .builtin "sum" | .repr => .builtin "repr" | .isa => .builtin "isinstance"
theorem bltFn_kind (b : Blt) : (∃ id, bltFn b = .builtin id) ∨ ∃ T, bltFn b = .type T := by
  cases b <;> first | exact .inl ⟨_, rfl⟩ | exact .inr ⟨_, rfl⟩
def bltNm : Blt → Str
  | .len => "len" | .int => "int" | .bool => "bool" | .str => "str" | .abs => "abs" | .min => "min" | .max => "max" | .divmod => "divmod" | .tuple => "tuple" | .list => "list"
  | .all => "all" | .any => "any" | .sum => "sum" | .repr => "repr" | .isa => "isinstance"
theorem bltOf_nm {f : Str} {b : Blt} (e : bltOf f = some b) : f = bltNm b := by
  unfold bltOf at e
  by_cases h_len : f = ("len" : Str)
  · rw [if_pos h_len] at e; cases e; exact h_len
  rw [if_neg h_len] at e
  by_cases h_int : f = ("int" : Str)
  · rw [if_pos h_int] at e; cases e; exact h_int
  rw [if_neg h_int] at e
  by_cases h_bool : f = ("bool" : Str)
  · rw [if_pos h_bool] at e; cases e; exact h_bool
  rw [if_neg h_bool] at e
  by_cases h_str : f = ("str" : Str)
  · rw [if_pos h_str] at e; cases e; exact h_str
  rw [if_neg h_str] at e
  by_cases h_abs : f = ("abs" : Str)
  · rw [if_pos h_abs] at e; cases e; exact h_abs
  rw [if_neg h_abs] at e
  by_cases h_min : f = ("min" : Str)
  · rw [if_pos h_min] at e; cases e; exact h_min
  rw [if_neg h_min] at e
  by_cases h_max : f = ("max" : Str)
  · rw [if_pos h_max] at e; cases e; exact h_max
  rw [if_neg h_max] at e
  by_cases h_divmod : f = ("divmod" : Str)
  · rw [if_pos h_divmod] at e; cases e; exact h_divmod
  rw [if_neg h_divmod] at e
  by_cases h_tuple : f = ("tuple" : Str)
  · rw [if_pos h_tuple] at e; cases e; exact h_tuple
  rw [if_neg h_tuple] at e
  by_cases h_list : f = ("list" : Str)
  · rw [if_pos h_list] at e; cases e; exact h_list
  rw [if_neg h_list] at e
  by_cases h_all : f = ("all" : Str)
  · rw [if_pos h_all] at e; cases e; exact h_all
  rw [if_neg h_all] at e
  by_cases h_any : f = ("any" : Str)
  · rw [if_pos h_any] at e; cases e; exact h_any
  rw [if_neg h_any] at e
  by_cases h_sum : f = ("sum" : Str)
  · rw [if_pos h_sum] at e; cases e; exact h_sum
  rw [if_neg h_sum] at e
  by_cases h_repr : f = ("repr" : Str)
  · rw [if_pos h_repr] at e; cases e; exact h_repr
  rw [if_neg h_repr] at e
  by_cases h_isinstance : f = ("isinstance" : Str)
  · rw [if_pos h_isinstance] at e; cases e; exact h_isinstance
  rw [if_neg h_isinstance] at e
  cases e
theorem bltFn_boot (b : Blt) : bootBuiltins (bltNm b) = some (bltFn b) ∧ bltNm b ≠ "__name__" ∧ (bltNm b == ("__debug__" : Str)) = false := by
  cases b <;> exact ⟨by decide +kernel, by decide +kernel, by decide +kernel⟩
theorem one_rep {K : PySem.W.Frag} {d : Vl} {vs : List V} (r : RepL K cls ia F [d] vs) : ∃ v, vs = [v] ∧ Rep K cls ia F d v := by
  simp only [RepL] at r
  obtain ⟨v, ws, e, r1, e2⟩ := r
  subst e2
  exact ⟨v, e, r1⟩
theorem two_rep {K : PySem.W.Frag} {d d' : Vl} {vs : List V} (r : RepL K cls ia F [d, d'] vs) : ∃ v w, vs = [v, w] ∧ Rep K cls ia F d v ∧ Rep K cls ia F d' w := by
  simp only [RepL] at r
  obtain ⟨v, ws, e, r1, w, ws', e2, r2, e3⟩ := r
  subst e3 e2
  exact ⟨v, w, e, r1, r2⟩
theorem asBools_ok {K : PySem.W.Frag} : ∀ {xs : List Vl} {bs : List Bool} {vs : List V}, asBools xs = some bs → RepL K cls ia F xs vs → vs = bs.map V.bl
  | [], bs, vs, e, r => by simp only [asBools, Option.some.injEq] at e; simp only [RepL] at r; subst e r; rfl
  | x :: xs, bs, vs, e, r => by
    simp only [RepL] at r
    obtain ⟨v, ws, e1, r1, r2⟩ := r
    cases x with
    | bl b =>
      simp only [asBools] at e
      cases e2 : asBools xs with
      | none => rw [e2] at e; cases e
      | some cs =>
        rw [e2] at e
        simp only [Option.map_some, Option.some.injEq] at e
        simp only [Rep] at r1
        subst e e1 r1
        rw [asBools_ok e2 r2]; rfl
    | _ => simp [asBools] at e
theorem asInts_ok {K : PySem.W.Frag} : ∀ {xs : List Vl} {bs : List Int} {vs : List V}, asInts xs = some bs → RepL K cls ia F xs vs → vs = bs.map V.int
  | [], bs, vs, e, r => by simp only [asInts, Option.some.injEq] at e; simp only [RepL] at r; subst e r; rfl
  | x :: xs, bs, vs, e, r => by
    simp only [RepL] at r
    obtain ⟨v, ws, e1, r1, r2⟩ := r
    cases x with
    | int b =>
      simp only [asInts] at e
      cases e2 : asInts xs with
      | none => rw [e2] at e; cases e
      | some cs =>
        rw [e2] at e
        simp only [Option.map_some, Option.some.injEq] at e
        simp only [Rep] at r1
        subst e e1 r1
        rw [asInts_ok e2 r2]; rfl
    | _ => simp [asInts] at e
theorem asStrs_ok {K : PySem.W.Frag} : ∀ {xs : List Vl} {bs : List Str} {vs : List V}, asStrs xs = some bs → RepL K cls ia F xs vs → vs = bs.map V.str
  | [], bs, vs, e, r => by simp only [asStrs, Option.some.injEq] at e; simp only [RepL] at r; subst e r; rfl
  | x :: xs, bs, vs, e, r => by
    simp only [RepL] at r
    obtain ⟨v, ws, e1, r1, r2⟩ := r
    cases x with
    | str b =>
      simp only [asStrs] at e
      cases e2 : asStrs xs with
      | none => rw [e2] at e; cases e
      | some cs =>
        rw [e2] at e
        simp only [Option.map_some, Option.some.injEq] at e
        simp only [Rep] at r1
        subst e e1 r1
        rw [asStrs_ok e2 r2]; rfl
    | _ => simp [asStrs] at e
theorem lenV_ok (S : Sim X.K cls ia F h H) {d z : Vl} {v : V} {Q : VK} (e : lenV h d = some z) (r : Rep X.K cls ia F d v) (q : Out X cls ia F H h z Q) : ∃ n : Nat, LenV X.K v H n ∧ Q (.int n) H := by
  have seq : ∀ {xs : List Vl}, itemsV h d = some xs → z = .int xs.length → ∃ n : Nat, LenV X.K v H n ∧ Q (.int n) H := by
    intro xs e1 e2
    obtain ⟨a, vs, rfl, rr, sq⟩ := itemsV_ok S e1 r
    refine ⟨xs.length, ?_, q.now S (by subst e2; simp only [Rep])⟩
    rcases sq with sq | sq
    · exact .inl ⟨vs, sq, rr.len⟩
    · exact .inr ⟨vs, sq, rr.len⟩
  cases d with
  | str z' =>
    simp only [Rep] at r; subst r
    simp only [lenV] at e
    split at e
    · rename_i hz
      cases e
      exact ⟨z'.length, ⟨hz, rfl⟩, q.now S (by simp only [Rep])⟩
    · cases e
  | tup xs => simp only [lenV, itemsV, Option.map_some, Option.some.injEq] at e; exact seq rfl e.symm
  | lst xs => simp only [lenV, itemsV, Option.map_some, Option.some.injEq] at e; exact seq rfl e.symm
  | ref n =>
    simp only [lenV] at e
    cases e1 : itemsV h (.ref n) with
    | none => rw [e1] at e; cases e
    | some xs => rw [e1] at e; simp only [Option.map_some, Option.some.injEq] at e; exact seq e1 e.symm
  | _ => simp [lenV, itemsV] at e
theorem bltV_ok {own : Isa} (O : IsaOk X.K cls own) (hc : X.calm = true) (hg : X.A.guards = some []) (hu : X.A.units + 66 < cLine) {f : Blt} {ds : List Vl} {z : Vl} {vs : List V} {us : List Value} {Q : VK} (I : Inv X pins σ H s) (S : Sim X.K cls ia F h H)
    (e : bltV own f ds h = some z) (rs : RepL X.K cls ia F ds vs) (ru : Vals vs us) (q : Out X cls ia F H h z Q) : wpAny (model X.prog X.w) X.A (call (bltFn f) us) (EP X pins σ Q) X.xe s := by
  unfold bltV at e
  split at e
  · obtain ⟨v, rfl, r⟩ := one_rep rs
    obtain ⟨n, l, q'⟩ := lenV_ok S e r q
    exact call_len pins s σ H _ us Q I ru ⟨v, n, rfl, l, q'⟩
  · obtain ⟨v, rfl, r⟩ := one_rep rs
    simp only [Rep] at r; subst r; cases e
    exact call_int1 pins s σ H _ us Q I ru (.inl ⟨_, rfl, q.now S (by simp only [Rep])⟩)
  · obtain ⟨v, rfl, r⟩ := one_rep rs
    simp only [Rep] at r; subst r; cases e
    exact call_int1 pins s σ H _ us Q I ru (.inr ⟨_, rfl, q.now S (by simp only [Rep])⟩)
  · obtain ⟨v, rfl, r⟩ := one_rep rs
    simp only [Rep] at r; subst r; cases e
    exact call_bool1 pins s σ H _ us Q I ru (.inl ⟨_, rfl, q.now S (by simp only [Rep])⟩)
  · obtain ⟨v, rfl, r⟩ := one_rep rs
    simp only [Rep] at r; subst r; cases e
    exact call_bool1 pins s σ H _ us Q I ru (.inr ⟨_, rfl, q.now S (by simp only [Rep])⟩)
  · obtain ⟨v, rfl, r⟩ := one_rep rs
    simp only [Rep] at r; subst r
    split at e
    · rename_i hz
      cases e
      exact call_str_int pins s σ H _ us Q I ru ⟨_, rfl, hz, q.now S (by simp only [Rep])⟩
    · cases e
  · obtain ⟨v, rfl, r⟩ := one_rep rs
    simp only [Rep] at r; subst r; cases e
    exact call_strS pins s σ H _ us Q I ru ⟨_, rfl, q.now S (by simp only [Rep])⟩
  · obtain ⟨v, rfl, r⟩ := one_rep rs
    simp only [Rep] at r; subst r; cases e
    exact call_abs pins s σ H _ us Q I ru ⟨_, rfl, q.now S (by simp only [Rep])⟩
  · obtain ⟨v, w, rfl, r, r'⟩ := two_rep rs
    simp only [Rep] at r r'; subst r r'; cases e
    exact call_min2 hc pins s σ H _ us Q I ru ⟨_, _, rfl, q.now S (by simp only [Rep])⟩
  · obtain ⟨v, w, rfl, r, r'⟩ := two_rep rs
    simp only [Rep] at r r'; subst r r'; cases e
    exact call_max2 hc pins s σ H _ us Q I ru ⟨_, _, rfl, q.now S (by simp only [Rep])⟩
  · obtain ⟨v, w, rfl, r, r'⟩ := two_rep rs
    simp only [Rep] at r r'; subst r r'
    split at e
    · rename_i hz
      cases e
      simp only [Bool.and_eq_true, decide_eq_true_eq] at hz
      exact call_divmod pins s σ H _ us Q I ru ⟨_, _, rfl, hz, q.newT S (.cons (by simp only [Rep]) (.cons (by simp only [Rep]) .nil))⟩
    · cases e
  · obtain ⟨v, rfl, r⟩ := one_rep rs
    simp only [Rep] at r
    obtain ⟨a, ws, rfl, rd, r⟩ := r
    cases e
    exact call_tuple_of pins s σ H _ us Q I ru ⟨a, ws, rfl, .inl ⟨sqL_sub S rd, q.newT S r⟩⟩
  · obtain ⟨v, rfl, r⟩ := one_rep rs
    have r0 := r
    simp only [Rep] at r
    obtain ⟨a, ws, rfl, rd, r⟩ := r
    cases e
    exact call_tuple_of pins s σ H _ us Q I ru ⟨a, ws, rfl, .inr ⟨sqT_sub S rd, q.now S r0⟩⟩
  · obtain ⟨v, rfl, r⟩ := one_rep rs
    simp only [Rep] at r
    obtain ⟨a, ws, rfl, rd, r⟩ := r
    cases e
    exact call_list_of pins s σ H _ us Q I ru ⟨a, ws, rfl, .inl (sqL_sub S rd), q.newL S r⟩
  · obtain ⟨v, rfl, r⟩ := one_rep rs
    simp only [Rep] at r
    obtain ⟨a, ws, rfl, rd, r⟩ := r
    cases e
    exact call_list_of pins s σ H _ us Q I ru ⟨a, ws, rfl, .inr (sqT_sub S rd), q.newL S r⟩
  · rename_i xs
    obtain ⟨v, rfl, r⟩ := one_rep rs
    simp only [Rep] at r
    obtain ⟨a, ws, rfl, rd, r⟩ := r
    cases e1 : asBools xs with
    | none => rw [e1] at e; cases e
    | some bs =>
      rw [e1] at e; cases e
      have := asBools_ok e1 r
      subst this
      exact cr_all hc pins s σ H _ us Q I ru ⟨a, bs, rfl, sqL_sub S rd, q.now S (by simp only [Rep])⟩
  · rename_i xs
    obtain ⟨v, rfl, r⟩ := one_rep rs
    simp only [Rep] at r
    obtain ⟨a, ws, rfl, rd, r⟩ := r
    cases e1 : asBools xs with
    | none => rw [e1] at e; cases e
    | some bs =>
      rw [e1] at e; cases e
      have := asBools_ok e1 r
      subst this
      exact cr_any hc pins s σ H _ us Q I ru ⟨a, bs, rfl, sqL_sub S rd, q.now S (by simp only [Rep])⟩
  · rename_i xs
    obtain ⟨v, rfl, r⟩ := one_rep rs
    simp only [Rep] at r
    obtain ⟨a, ws, rfl, rd, r⟩ := r
    cases e1 : asInts xs with
    | none => rw [e1] at e; cases e
    | some bs =>
      rw [e1] at e; cases e
      have := asInts_ok e1 r
      subst this
      exact cr_sum hc pins s σ H _ us Q I ru ⟨a, bs, rfl, sqL_sub S rd, q.now S (by simp only [Rep])⟩
  · rename_i x
    obtain ⟨v, rfl, r⟩ := one_rep rs
    cases e1 : toPD x with
    | none => rw [e1] at e; cases e
    | some d =>
      rw [e1] at e
      simp only [Option.bind_some, shownD] at e
      split at e
      · rename_i hz
        cases e
        simp only [Bool.and_eq_true, decide_eq_true_eq] at hz
        exact call_reprD hg hu pins s σ H _ us Q I ru ⟨v, d, rfl, toPD_ok (X := X) S.sub x v d e1 r, hz.1.1, hz.1.2, hz.2, q.now S (by simp only [Rep])⟩
      · cases e
  · rename_i x c
    obtain ⟨v, w, rfl, r, r'⟩ := two_rep rs
    cases e1 : isaV own h x c with
    | none => rw [e1] at e; cases e
    | some b =>
      rw [e1] at e; cases e
      exact call_isi pins s σ H _ us Q I ru (isaV_ok O S e1 r r' (q.now S (by simp only [Rep])))
  · rename_i xs
    obtain ⟨v, rfl, r⟩ := one_rep rs
    simp only [toPD] at e
    cases e1 : toPDs xs with
    | none => rw [e1] at e; cases e
    | some ds =>
      rw [e1] at e
      simp only [Option.map_some, Option.bind_some, shownD] at e
      split at e
      · rename_i hd
        split at e
        · rename_i hz
          cases e
          simp only [Bool.and_eq_true, decide_eq_true_eq] at hz
          exact call_strDT hg hu pins s σ H _ us Q I ru ⟨v, ds, rfl, toPD_ok (X := X) S.sub (.tup xs) v (.tuple ds) (by simp [toPD, e1]) r, hz.1.1, hz.1.2, hz.2, hd, q.now S (by simp only [Rep])⟩
        · cases e
      · cases e
  · cases e
theorem bltV_nil {own : Isa} {f : Blt} {h : Hs} : bltV own f [] h = none := by cases f <;> rfl
end
end Wd

set_option Elab.async false
set_option linter.all false
set_option maxRecDepth 100000
namespace Wd
open PySem PySem.Spec PyProof.Rows L2

/-! ### == of own instances -/
section
open PySem.W
variable {prog : Program} {A : Around} {E : Value → Shared → Prop} {s : Shared} {Ca g x : Addr} {ox : Obj} {od : Option Obj} {b tb : Value} {w : World} {K : PySem.W.Frag}
theorem cmp_W {Q : Value → Shared → Prop} (hu : A.units < cLine) (X : K.In s.heap) (I : InstAt s.heap x ox Ca od) (hb : Looks (model prog w) s.heap (typeOf b) tb) (hn : notFirst K Ca tb = true)
    (hs : findIn K (.ref Ca) "__eq__" = some (some (.ref g))) (hf : isFn K (.ref g) = true)
    (h : wpAny (model prog w) A (PySem.call (.ref g) [.ref x, b]) (PySem.W.CmpBack Q) E s) : wpAny (model prog w) A (richCompare .Eq (.ref x) b) Q E s := by
  have one : wpAny (model prog w) A (tryCompare (.ref x) "__eq__" b) (fun r s' => ∃ v, r = some v ∧ Q v s') E s := by
    unfold tryCompare
    refine wpAny_bind (ifBound_K X I hs hf (wpAny_mono h (fun v s' hv => ?_) fun _ _ e => e))
    cases v <;> first | exact hv.elim | exact wpAny_pure ⟨_, rfl, hv⟩
  unfold richCompare
  simp only [oneThing_ref]
  refine wpAny_holding (wpAny_bind (wpAny_cRoomFor hu ?_))
  refine wpAny_bind (I.type.here (wpAny_bind (hb.here ?_)))
  split
  · rename_i q
    have e : subIn K tb (.ref Ca) = some false := by
      rcases Bool.or_eq_true_iff.mp hn with e | e
      · rw [beq_iff_eq.mp e] at q; simp at q
      · exact beq_iff_eq.mp e
    refine wpAny_bind ((looks_subIn X e).here ?_)
    simp only [Bool.false_eq_true, if_false]
    refine wpAny_bind (wpAny_mono one (fun r s' z => ?_) fun _ _ e => e)
    obtain ⟨v, rfl, hq⟩ := z
    exact wpAny_pure hq
  · refine wpAny_bind (wpAny_pure ?_)
    simp only [Bool.false_eq_true, if_false]
    refine wpAny_bind (wpAny_mono one (fun r s' z => ?_) fun _ _ e => e)
    obtain ⟨v, rfl, hq⟩ := z
    exact wpAny_pure hq
theorem ne_body {Q : PySem.Fin → Shared → Prop} (hu : A.units < cLine) (X : K.In s.heap) (I : InstAt s.heap x ox Ca od) (hs : findIn K (.ref Ca) "__eq__" = some (some (.ref g))) (hf : isFn K (.ref g) = true)
    (h : wpAny (model prog w) A (PySem.call (.ref g) [.ref x, b]) (fun v s' => ∃ k, v = .bool k ∧ Q (.done (.ret (.bool (!k)))) s') E s) : wpAny (model prog w) A (Builtin.«object.__ne__» ⟨[.ref x, b], []⟩) Q E s := by
  unfold Builtin.«object.__ne__»
  repeat (first
    | with_reducible refine wpAny_cRoomFor hu ?_
    | (refine wpAny_bind (m := callSpecialIfBound? (.ref x) (Str.ofString "__eq__") [b])
        (ifBound_K X I hs hf (wpAny_mono h (fun r s' hr => by
          obtain ⟨k, rfl, hq⟩ := hr
          repeat (first | exact hq | exact wpAny_pure hq | exact wpAny_truthy_bool hq | (refine wpAny_bind (m := truthy (.bool _)) (wpAny_truthy_bool ?_)) | wp_step)) fun _ _ e => e)))
    | wp_step)
theorem ne_W {Q : Value → Shared → Prop} (hu : A.units + 1 < cLine) (X : K.In s.heap) (I : InstAt s.heap x ox Ca od) (hb : Looks (model prog w) s.heap (typeOf b) tb) (hn : notFirst K Ca tb = true)
    (hne : findIn K (.ref Ca) "__ne__" = some (some (.builtin "object.__ne__"))) (ho : mroIn K Ca (.type "object") = some true) (hs : findIn K (.ref Ca) "__eq__" = some (some (.ref g))) (hf : isFn K (.ref g) = true)
    (h : wpAny (model prog w) A.in1 (PySem.call (.ref g) [.ref x, b]) (fun v s' => ∃ k, v = .bool k ∧ Q (.bool (!k)) s') E s) : wpAny (model prog w) A (richCompare .NotEq (.ref x) b) Q E s := by
  have call : wpAny (model prog w) A (PySem.call (.builtin "object.__ne__") [.ref x, b]) (fun v s' => ∃ k, v = .bool k ∧ Q v s') E s := by
    refine wpAny_call (codeAny_call_builtin F.slot_object_ne.plain F.entry_object_ne (check_slot F.cmpKind_ne F.cmpSplit_ne ?_ (F.args_object_ne_2 _ _) ?_))
    · exact I.type.andThen (looks_mroIn X ho)
    · exact ne_body (by show A.units + 1 < cLine; omega) X I hs hf (wpAny_mono h (fun v s' z => by obtain ⟨k, rfl, q⟩ := z; exact ⟨k, rfl, _, rfl, q⟩) fun _ _ e => e)
  have one : wpAny (model prog w) A (tryCompare (.ref x) "__ne__" b) (fun r s' => ∃ v, r = some v ∧ Q v s') E s := by
    unfold tryCompare
    refine wpAny_bind (m := callSpecialIfBound? (.ref x) (Str.ofString "__ne__") [b]) ?_
    simp only [callSpecialIfBound?, bindSpecialIfBound?]
    refine wpAny_holding (wpAny_bind (wpAny_bind (wpAny_bind (I.type.here ((looks_findIn X hne).here ?_)))))
    refine wpAny_bind (wpAny_askSetting (wpAny_ite ?_))
    have fin : wpAny (model prog w) A (PySem.call (.builtin "object.__ne__") ([.ref x] ++ [b]) >>= fun v => pure (some v)) (fun r s' => wpAny (model prog w) A (match r with | some .notImplemented | none => pure none | some v => pure (some v)) (fun r s' => ∃ v, r = some v ∧ Q v s') E s') E s :=
      wpAny_bind (wpAny_mono call (fun v s' z => by obtain ⟨k, rfl, q⟩ := z; exact wpAny_pure (wpAny_pure ⟨_, rfl, q⟩)) fun _ _ e => e)
    split
    · simp only [F.slot_object_ne.bind]
      exact wpAny_bind (wpAny_pure (wpAny_pure (by exact fin)))
    · simp only [F.slot_object_ne.bind]
      exact wpAny_tryCatch (wpAny_bind (wpAny_pure (wpAny_pure (by exact fin))))
  unfold richCompare
  simp only [oneThing_ref]
  refine wpAny_holding (wpAny_bind (wpAny_cRoomFor (by omega) ?_))
  refine wpAny_bind (I.type.here (wpAny_bind (hb.here ?_)))
  split
  · rename_i q
    have e : subIn K tb (.ref Ca) = some false := by
      rcases Bool.or_eq_true_iff.mp hn with e | e
      · rw [beq_iff_eq.mp e] at q; simp at q
      · exact beq_iff_eq.mp e
    refine wpAny_bind ((looks_subIn X e).here ?_)
    simp only [Bool.false_eq_true, if_false]
    refine wpAny_bind (wpAny_mono one (fun r s' z => ?_) fun _ _ e => e)
    obtain ⟨v, rfl, hq⟩ := z
    exact wpAny_pure hq
  · refine wpAny_bind (wpAny_pure ?_)
    simp only [Bool.false_eq_true, if_false]
    refine wpAny_bind (wpAny_mono one (fun r s' z => ?_) fun _ _ e => e)
    obtain ⟨v, rfl, hq⟩ := z
    exact wpAny_pure hq
end
/-- a body's context, as it is fixed -/
structure CxOk (P : Program) (w : World) (K : PySem.W.Frag) (mg : Str → Option Value) (base : Heap) (k : Nat) (X : Cx) (W : WX) (C : St0) : Prop where
  prog : X.prog = P
  w : X.w = w
  K : X.K = K
  mg : X.mg = mg
  base : X.base = base
  nN : X.N = C.N
  nd : C.N.Nodup
  sc : X.env.scope = C.sc
  calm : X.calm = true
  gu : X.A.guards = some []
  room : Room k X.A
  fn : C.top = true → ∀ x, X.fn x = true
  dbg : ∀ x ∈ C.N, (x == ("__debug__" : Str)) = false ∧ (x == ("__classdict__" : Str)) = false
  tk : Takes X W
  po : PassesOwn (model X.prog X.w) X.A X.env X.xe

/-- a call of a value with values: what the small interpreter's answer m asks -/
def CallOk (X : Cx) (cls : Str → Option Addr) (W : WX) (u : Value) (m : List Vl → List Str → List Vl → Hs → Rs Vl) : Prop :=
  ∀ (pins : List (Addr × Obj)) (s : Shared) (σ : L2.St) (H : Hp) (ia : List Addr) (F : Hp) (h : Hs) (ds : List Vl) (ks : List Str) (es : List Vl) (vs zs : List V) (us ws : List Value) (Q : VK),
    Inv X pins σ H s → Sim X.K cls ia F h H → RepL X.K cls ia F ds vs → RepL X.K cls ia F es zs → Vals vs us → Vals zs ws → ks.length = es.length →
    Fin X.K cls W σ ia F H (m ds ks es h) (Rep X.K cls) Q → wpAny (model X.prog X.w) X.A (call u us (ks.zip ws)) (EP X pins σ Q) X.xe s

/-- .. of the bound method of a class, its record at q -/
def CallOkM (X : Cx) (cls : Str → Option Addr) (W : WX) (f C : Addr) (m : List Vl → List Str → List Vl → Hs → Rs Vl) : Prop :=
  ∀ (q : Addr) (pins : List (Addr × Obj)) (s : Shared) (σ : L2.St) (H : Hp) (ia : List Addr) (F : Hp) (h : Hs) (ds : List Vl) (ks : List Str) (es : List Vl) (vs zs : List V) (us ws : List Value) (Q : VK),
    Inv X ((q, PySem.W.methodObj (.ref f) (.ref C)) :: pins) σ H s → Sim X.K cls ia F h H → RepL X.K cls ia F ds vs → RepL X.K cls ia F es zs → Vals vs us → Vals zs ws → ks.length = es.length →
    Fin X.K cls W σ ia F H (m ds ks es h) (Rep X.K cls) Q → wpAny (model X.prog X.w) X.A (call (.ref q) us (ks.zip ws)) (EP X pins σ Q) X.xe s

/-- what the small interpreter's program G rests on -/
structure PrOk (P : Program) (w : World) (K : PySem.W.Frag) (mg : Str → Option Value) (base : Heap) (cls : Str → Option Addr) (G : Gt) (k : Nat) : Prop where
  glob : ∀ x d, G.glob x = some d → (x == ("__debug__" : Str)) = false ∧ ∃ u v, mg x = some u ∧ RelV v u ∧ ∀ ia F, Rep K cls ia F d v
  ty : ∀ x n, tyName x = some n → mg x = none
  blt : ∀ b, mg (bltNm b) = none
  rng : mg "range" = none
  enu : mg "enumerate" = none
  isa : IsaOk K cls G.isa
  call : ∀ f, G.has f = true → (f == ("__debug__" : Str)) = false ∧ ∃ u, mg f = some u ∧ PySem.W.keepIn K u = true ∧
    ∀ (X : Cx) (W : WX) (C : St0), CxOk P w K mg base k X W C → CallOk X cls W u (G.call f)
  meth : ∀ c m C, G.hasM c m = true → cls c = some C → ∃ f, Meth K C m f ∧
    ∀ (X : Cx) (W : WX) (C : St0), CxOk P w K mg base k X W C → CallOk X cls W (.ref f) (G.meth c m)
  attr : ∀ c f v h C, G.attr c f v h ≠ .no → cls c = some C → ∀ (X : Cx) (W : WX) (C0 : St0), CxOk P w K mg base k X W C0 →
    ∀ (pins : List (Addr × Obj)) (s : Shared) (σ : L2.St) (H : Hp) (ia : List Addr) (F : Hp) (a : Addr) (dx : Addr) (gs : List (Str × V)) (b : Bool) (Q : VK),
      Inv X pins σ H s → Sim X.K cls ia F h H → Rep X.K cls ia F v (.ref a) → H a = some (.ins C dx gs) → Fin X.K cls W σ ia F H (G.attr c f v h) (Rep X.K cls) Q → wpAny (model X.prog X.w) X.A (getAttr (.ref a) f b) (EP X pins σ Q) X.xe s
  fld : ∀ c C f, cls c = some C → G.fld c f = true → NoAttr K C f
  cmt : ∀ c m C, G.hasC c m = true → cls c = some C → ∃ mc p f, ClX.CRead K C mc ∧ ClX.CMet K C mc m p f ∧
    ∀ (X : Cx) (W : WX) (C0 : St0), CxOk P w K mg base k X W C0 → CallOkM X cls W f C fun vs ks ws h => G.clm c m (.cl c :: vs) ks ws h
  spc : ∀ c m C, G.hasS c m = true → cls c = some C → ∃ f, PySem.W.findIn K (.ref C) m = some (some (.ref f)) ∧ PySem.W.isFn K (.ref f) = true ∧ PySem.W.fnIn K f = true ∧ ∀ (X : Cx) (W : WX) (C0 : St0), CxOk P w K mg base k X W C0 →
    (∀ (pins : List (Addr × Obj)) (s : Shared) (σ : L2.St) (H : Hp) (ia : List Addr) (F : Hp) (h : Hs) (ds : List Vl) (vs : List V) (us : List Value) (Q : VK), Inv X pins σ H s → Sim K cls ia F h H → RepL K cls ia F ds vs → Vals vs us →
      Fin K cls W σ ia F H (G.spec c m ds h) (Rep K cls) Q → wpAny (model X.prog X.w) X.A (PySem.call (.ref f) us) (EP X pins σ Q) X.xe s) ∧
    ∀ (A' : Around), A' = X.A ∨ A' = X.A.in1 ∨ A' = X.A.in1.in1 ∨ A' = X.A.in1.in1.in1 → ∀ (pins : List (Addr × Obj)) (s : Shared) (σ : L2.St) (H : Hp) (ia : List Addr) (F : Hp) (h : Hs) (ds : List Vl) (vs : List V) (us : List Value) (Q : VK), Inv X pins σ H s → Sim K cls ia F h H → RepL K cls ia F ds vs → Vals vs us →
      Fin K cls W σ ia F H (G.spec c m ds h) (Rep K cls) Q → wpAny (model X.prog X.w) A' (PySem.call (.ref f) us) (EP X pins σ Q) X.xe s

def tE (K : PySem.W.Frag) (cls : Str → Option Addr) (W : WX) (G : Gt) (n : Nat) (C : St0) (e : Expr) : TE := fun σ H Q =>
  ∃ (ia : List Addr) (F : Hp) (h : Hs) (ρ : Env), Sim K cls ia F h H ∧ EnvR K cls ia F σ ρ ∧ Fin K cls W σ ia F H (evE G n C e ρ h) (Rep K cls) Q
def eqR {α : Type} : List Addr → Hp → α → α → Prop := fun _ _ a b => a = b
def tT (K : PySem.W.Frag) (cls : Str → Option Addr) (W : WX) (G : Gt) (n : Nat) (C : St0) (e : Expr) : TT := fun σ H Q =>
  ∃ (ia : List Addr) (F : Hp) (h : Hs) (ρ : Env), Sim K cls ia F h H ∧ EnvR K cls ia F σ ρ ∧ Fin K cls W σ ia F H ((evE G n C e ρ h).bind fun v h => testOf h v) eqR Q
def tL (K : PySem.W.Frag) (cls : Str → Option Addr) (W : WX) (G : Gt) (n : Nat) (C : St0) (es : List Expr) : TA := fun σ H Q =>
  ∃ (ia : List Addr) (F : Hp) (h : Hs) (ρ : Env), Sim K cls ia F h H ∧ EnvR K cls ia F σ ρ ∧ Fin K cls W σ ia F H (evL (fun e h => evE G n C e ρ h) es h) (RepL K cls) Q
def tK (K : PySem.W.Frag) (cls : Str → Option Addr) (W : WX) (G : Gt) (n : Nat) (C : St0) (es : List Keyword) : TA := fun σ H Q =>
  ∃ (ia : List Addr) (F : Hp) (h : Hs) (ρ : Env), Sim K cls ia F h H ∧ EnvR K cls ia F σ ρ ∧ Fin K cls W σ ia F H (evK (fun e h => evE G n C e ρ h) es h) (RepL K cls) Q

section
variable {K : PySem.W.Frag} {cls : Str → Option Addr} {W : WX} {σ : L2.St} {ia ja : List Addr} {F F' H H' : Hp} {h h' : Hs} {ρ : Env}
theorem Fin.mono {α β : Type} {m : Rs α} {R : List Addr → Hp → α → β → Prop} {Q Q' : β → Hp → Prop} (f : Fin K cls W σ ia F H m R Q) (hq : ∀ b H1, Q b H1 → Q' b H1) : Fin K cls W σ ia F H m R Q' := by
  cases m with
  | ok a h1 => exact fun b ja F1 H1 p r => hq b H1 (f b ja F1 H1 p r)
  | rz e h1 => exact f
  | no => exact f
/-- one thing after another -/
theorem Fin.seq {α β γ δ : Type} {m : Rs α} {f : α → Hs → Rs γ} {R0 : List Addr → Hp → α → β → Prop} {R : List Addr → Hp → γ → δ → Prop} {Q : δ → Hp → Prop} {Q' : β → Hp → Prop} (hf : Fin K cls W σ ia F H (m.bind f) R Q)
    (hq : ∀ b H1 a ja F1 h1, Post K cls ia F H ja F1 h1 H1 → R0 ja F1 a b → Fin K cls W σ ja F1 H1 (f a h1) R Q → Q' b H1) : Fin K cls W σ ia F H m R0 Q' :=
  (Fin.bind (R0 := R0) hf).mono fun b H1 ⟨a, ja, F1, h1, p, r, f1⟩ => hq b H1 a ja F1 h1 p r f1
theorem Rs.bind_assoc {α β γ : Type} (m : Rs α) (f : α → Hs → Rs β) (g : β → Hs → Rs γ) : (m.bind f).bind g = m.bind fun a h => (f a h).bind g := by
  cases m <;> rfl
theorem EnvR.get (r : EnvR K cls ia F σ ρ) {N : List Str} {x : Str} {d : Vl} (e : getS ρ (slotOf N x) = some d) : ∃ (i : Nat) (v : V), N[i]? = some x ∧ σ[i]? = some (some v) ∧ Rep K cls ia F d v := by
  unfold getS at e
  split at e
  · rename_i i hi
    split at e
    · rename_i d' hd
      cases e
      obtain ⟨v, h1, h2⟩ := r i d hd
      refine ⟨i, v, ?_, h1, h2⟩
      unfold slotOf at hi
      obtain ⟨hl, hp, _⟩ := List.findIdx?_eq_some_iff_getElem.mp hi
      rw [List.getElem?_eq_getElem hl]
      exact congrArg some (eq_of_beq hp)
    · cases e
  · cases e
theorem freeze_ok (S : Sim K cls ia F h H) {d : Vl} {v : V} {Q : VK} (r : Rep K cls ia F d v) (f : Fin K cls W σ ia F H (freeze h d) (Rep K cls) Q) : Q v H := by
  unfold freeze at f
  split at f
  · rename_i n
    split at f
    · rename_i xs e
      simp only [Rep] at r
      obtain ⟨a, e1, rfl⟩ := r
      obtain ⟨a', e2, hF, vs, e3, q⟩ := S.obj n _ e
      rw [e1] at e2; cases e2
      have P := Post.rest S e e1 hF e3
      refine f _ ia _ H P ?_
      simp only [Rep]
      exact ⟨a, vs, rfl, .inl (.inl upd_same), RepL.post P q⟩
    · rename_i c fs e
      simp only [Rep] at r
      obtain ⟨a, e1, rfl⟩ := r
      obtain ⟨a', e2, hF, C, dx, gs, k, e3, q⟩ := S.obj n _ e
      rw [e1] at e2; cases e2
      have P := Post.rest S e e1 hF e3
      refine f _ ia _ H P ?_
      simp only [Rep]
      exact ⟨a, C, dx, gs, rfl, k, upd_same, RepF.mono P.ex P.fr _ _ q⟩
    · exact f.elim
  · exact f v ia F H (Post.refl S) r
end

section
variable {P : Program} {w : World} {K : PySem.W.Frag} {mg : Str → Option Value} {base : Heap} {cls : Str → Option Addr} {G : Gt} {k : Nat} {X : Cx} {W : WX} {C : St0} {n : Nat} {pos : Pos}
theorem CxOk.units (c : CxOk P w K mg base k X W C) : X.A.units + 66 < cLine := by have := c.room.un; omega
end
theorem insOf_ok {K : PySem.W.Frag} {cls : Str → Option Addr} {ia : List Addr} {F H : Hp} {h : Hs} (S : Sim K cls ia F h H) {d : Vl} {v : V} {cn : Str} {fs : List (Str × Vl)} (e : insOf h d = some (cn, fs)) (r : Rep K cls ia F d v) : ∃ a Ca dx gs, v = .ref a ∧ cls cn = some Ca ∧ H a = some (.ins Ca dx gs) ∧ RepF K cls ia F fs gs := by
  cases d with
  | ins c' fs' =>
    simp only [insOf, Option.some.injEq, Prod.mk.injEq] at e
    obtain ⟨rfl, rfl⟩ := e
    simp only [Rep] at r
    obtain ⟨a, C, dx, gs, e1, k, q, rr⟩ := r
    exact ⟨a, C, dx, gs, e1, k, S.sub _ _ q, rr⟩
  | ref n =>
    simp only [insOf] at e
    simp only [Rep] at r
    obtain ⟨a, e1, e2⟩ := r
    simp only [getI] at e
    split at e
    · rename_i c' ys e3
      simp only [Option.some.injEq, Prod.mk.injEq] at e
      obtain ⟨rfl, rfl⟩ := e
      obtain ⟨a', e4, e6, C, dx, gs, k, e5, q⟩ := S.obj n _ e3
      rw [e1] at e4
      cases e4
      exact ⟨a, C, dx, gs, e2, k, e5, q⟩
    · cases e
  | _ => simp [insOf] at e
theorem notFirst_kit {K : PySem.W.Frag} {C : Addr} {tb : Value} (h : PySem.W.kitOne K tb (.ref C) = some false) : PySem.W.notFirst K C tb = true := by
  unfold PySem.W.notFirst
  refine Bool.or_eq_true_iff.mpr (.inr (beq_iff_eq.mpr ?_))
  unfold PySem.W.kitOne at h
  split at h
  · cases h
  · unfold PySem.W.kitCls at h
    simp only at h
    split at h
    · exact h
    · cases h
section
variable {P : Program} {w : World} {K : PySem.W.Frag} {mg : Str → Option Value} {base : Heap} {cls : Str → Option Addr} {G : Gt} {k : Nat} {X : Cx} {W : WX} {C : St0}
/-- the type of what stands on the right -/
theorem side_ok (PO : PrOk P w K mg base cls G k) (hK : K = X.K) {pins : List (Addr × Obj)} {s : Shared} {σ : L2.St} {H : Hp} {ia : List Addr} {F : Hp} {h : Hs} {c : Str} {Ca : Addr} {d : Vl} {y : V} {u : Value} (I : Inv X pins σ H s) (S : Sim K cls ia F h H)
    (hc : cls c = some Ca) (e : sideOk G h c d = true) (r : Rep K cls ia F d y) (ry : RelV y u) : ∃ tb, PySem.W.Looks (model X.prog X.w) s.heap (typeOf u) tb ∧ PySem.W.notFirst K Ca tb = true := by
  subst hK
  unfold sideOk at e
  cases ht : tyOf h d with
  | some t =>
    rw [ht] at e
    obtain ⟨Pr, kx, hp, _⟩ := kit_of I ry (tyOf_ok S ht r)
    exact ⟨_, kx.ty _ _ I.kIn hp, notFirst_kit ((PO.isa.fact _ _ hc).ty t (List.contains_iff_mem.mp e))⟩
  | none =>
    rw [ht] at e
    cases hd : clsOf h d with
    | none => rw [hd] at e; cases e
    | some d' =>
      rw [hd] at e
      obtain ⟨b, Cb, dx, gs, rfl, hcb, eb⟩ := clsOf_ok S hd r
      obtain rfl : u = Value.ref b := ry
      obtain ⟨mB, J, _⟩ := ins_get I.hok eb
      obtain ⟨od, J, _⟩ := J.look
      refine ⟨.ref Cb, J.type, ?_⟩
      rcases Bool.or_eq_true_iff.mp e with z | z
      · have e2 : d' = c := beq_iff_eq.mp z
        subst e2
        rw [hc] at hcb
        cases hcb
        unfold PySem.W.notFirst
        simp
      · exact notFirst_kit (PO.isa.own _ _ _ _ _ hcb hc (beq_iff_eq.mp z))
theorem cmpR_bl {op : CmpOp} {v : Vl} {h h1 : Hs} {z : Vl} (e : cmpR op v h = .ok z h1) : ∃ b, v = .bl b ∧ z = .bl (if ngI op = true then !b else b) ∧ h1 = h := by
  cases v <;> first | (cases e; exact ⟨_, rfl, rfl, rfl⟩) | cases e
theorem Fin.ofCalm {α β : Type} {σ : L2.St} {m : Rs α} {ia : List Addr} {F H : Hp} {R : List Addr → Hp → α → β → Prop} {Q : β → Hp → Prop} (f : Fin K cls W σ ia F H m.calm R Q) : Fin K cls W σ ia F H m R Q := by
  cases m with
  | ok a h => exact f
  | rz e h => exact f.elim
  | no => exact f.elim
theorem Fin.calm {α β : Type} {σ : L2.St} {m : Rs α} {ia : List Addr} {F H : Hp} {R : List Addr → Hp → α → β → Prop} {Q : β → Hp → Prop} {W' : WX} (f : Fin K cls W σ ia F H m.calm R Q) : Fin K cls W' σ ia F H m.calm R Q := by
  cases m with
  | ok a h => exact f
  | rz e h => exact f.elim
  | no => exact f.elim
theorem cmpG_ok (PO : PrOk P w K mg base cls G k) (c : CxOk P w K mg base k X W C) {op : CmpOp} {pins : List (Addr × Obj)} {s : Shared} {σ : L2.St} {H : Hp} {ia : List Addr} {F : Hp} {h : Hs} {a b : Vl} {x y : V} {u v : Value} {Q : VK} (I : Inv X pins σ H s) (S : Sim K cls ia F h H)
    (ra : Rep K cls ia F a x) (rb : Rep K cls ia F b y) (rx : RelV x u) (ry : RelV y v) (f : Fin K cls W σ ia F H (cmpG G op a b h) (Rep K cls) Q) : wpAny (model X.prog X.w) X.A (compareOp op u v) (EP X pins σ Q) X.xe s := by
  have hK := c.K
  subst hK
  have old : Fin X.K cls W σ ia F H (Rs.of ((cmpV op h a b).map .bl) h) (Rep X.K cls) Q → wpAny (model X.prog X.w) X.A (compareOp op u v) (EP X pins σ Q) X.xe s := by
    intro f
    obtain ⟨z, ez, q⟩ := f.of_some
    cases e1 : cmpV op h a b with
    | none => rw [e1] at ez; cases ez
    | some t =>
      rw [e1] at ez
      simp only [Option.map_some, Option.some.injEq] at ez
      subst ez
      exact cmpV_ok (by have := c.units; omega) I S e1 ra rb rx ry (q (.bl t) ia F H (Post.refl S) (by simp only [Rep]))
  unfold cmpG at f
  split at f
  · rename_i cn fs he hi
    split at f
    · rename_i hh
      obtain ⟨h1, h2⟩ := Bool.and_eq_true_iff.mp hh
      obtain ⟨p, Ca, dx, gs, rfl, hc, ea, rf⟩ := insOf_ok S hi ra
      obtain rfl : u = Value.ref p := rx
      obtain ⟨g, hs, hf, _, hcall⟩ := PO.spc cn "__eq__" Ca h1 hc
      obtain ⟨_, run⟩ := hcall X W C c
      obtain ⟨mA, O, _, _, _, _⟩ := ins_get I.hok ea
      obtain ⟨od, J, _⟩ := O.look
      obtain ⟨tb, L, hn⟩ := side_ok PO rfl I S hc h2 rb ry
      have hu := c.units
      have go : ∀ (A' : Around), A' = X.A ∨ A' = X.A.in1 → wpAny (model X.prog X.w) A' (PySem.call (.ref g) [Value.ref p, v]) (fun v' s' => ∃ kb, v' = .bool kb ∧ EP X pins σ Q (.bool (if ngI op = true then !kb else kb)) s') X.xe s := by
        intro A' hA
        refine wpAny_mono (run A' (by rcases hA with h | h; exact .inl h; exact .inr (.inl h)) pins s σ H ia F h [a, b] [.ref p, y] [.ref p, v] _ I S (RepL.cons ra (RepL.cons rb RepL.nil)) (.cons rfl (.cons ry .nil)) (Fin.ofCalm (Fin.bind (R0 := Rep X.K cls) f))) ?_ (fun _ _ z => z)
        rintro v' s' ⟨z, H', I', rz, d', ja, F1, h1', p1, r1, f1⟩
        cases ec : cmpR op d' h1' with
        | no => rw [ec] at f1; exact f1.elim
        | rz e2 h3 =>
          exfalso
          cases d' <;> cases ec
        | ok z' h2' =>
          rw [ec] at f1
          obtain ⟨kb, rfl, rfl, rfl⟩ := cmpR_bl ec
          simp only [Rep] at r1
          subst r1
          obtain rfl : v' = Value.bool kb := rz
          exact ⟨kb, rfl, .bl _, H', I', rfl, f1 _ ja F1 H' (Post.refl p1.sim) (by simp only [Rep])⟩
      cases op with
      | Eq =>
        show wpAny _ _ (richCompare .Eq (.ref p) v) _ _ _
        refine cmp_W (by omega) I.kIn J L hn hs hf (wpAny_mono (go X.A (.inl rfl)) ?_ (fun _ _ z => z))
        rintro v' s' ⟨kb, rfl, q⟩
        exact q
      | NotEq =>
        show wpAny _ _ (richCompare .NotEq (.ref p) v) _ _ _
        have fa := PO.isa.fact _ _ hc
        refine ne_W (by omega) I.kIn J L hn fa.ne fa.hm hs hf (wpAny_mono (go X.A.in1 (.inr rfl)) ?_ (fun _ _ z => z))
        rintro v' s' ⟨kb, rfl, q⟩
        exact ⟨kb, rfl, q⟩
      | _ => cases he
    · exact f.elim
  · exact old f
theorem cmpG_bl {op : CmpOp} {x y : Vl} {h h1 : Hs} {z : Vl} (e : cmpG G op x y h = .ok z h1) : ∃ b, z = .bl b := by
  have old : Rs.of ((cmpV op h x y).map Vl.bl) h = .ok z h1 → ∃ b, z = .bl b := by
    intro e
    cases e1 : cmpV op h x y with
    | none => rw [e1] at e; cases e
    | some t => rw [e1] at e; cases e; exact ⟨_, rfl⟩
  unfold cmpG at e
  split at e
  · split at e
    · rename_i cn fs _ _ _
      cases e1 : (G.spec cn "__eq__" [x, y] h).calm with
      | no => rw [e1] at e; cases e
      | rz _ _ => rw [e1] at e; cases e
      | ok v h2 =>
        rw [e1] at e
        obtain ⟨b, _, hz, _⟩ := cmpR_bl e
        exact ⟨_, hz⟩
    · cases e
  · exact old e
end
section
variable {P : Program} {w : World} {K : PySem.W.Frag} {mg : Str → Option Value} {base : Heap} {cls : Str → Option Addr} {G : Gt} {k : Nat} {X : Cx} {W : WX} {C : St0} {n : Nat} {pos : Pos}
theorem slot_mem {N : List Str} {x : Str} {i : Nat} (e : N[i]? = some x) : x ∈ N := List.mem_of_getElem? e

/-! ### names, constants -/
theorem a_name (PO : PrOk P w K mg base cls G k) (c : CxOk P w K mg base k X W C) {x : Str} : PE X (.Name x pos) (tE K cls W G (n + 1) C (.Name x pos)) := by
  refine ⟨fun pins s σ H Q I ⟨ia, F, h, ρ, S, E, f⟩ => ?_⟩
  simp only [evE, evName] at f
  have hk : X.env.kindOf x = kindE C x := by unfold kindE; rw [← c.sc]; rfl
  have loc : ∀ {d : Vl}, Vis X.env.scope x → getS ρ (slotOf C.N x) = some d → Fin K cls W σ ia F H (if mem2 pos C.fr then freeze h d else .ok d h) (Rep K cls) Q → wpAny (model X.prog X.w) X.A (eval (.Name x pos) X.env) (EP X pins σ Q) X.xe s := by
    intro d hv e f
    obtain ⟨i, v, h1, h2, r⟩ := EnvR.get E e
    obtain ⟨d1, d2⟩ := c.dbg x (slot_mem h1)
    refine (pe_var (X := X) (i := i) (by rw [c.nN]; exact h1) hv d1 d2).run pins s σ H Q I ⟨v, h2, ?_⟩
    split at f
    · exact freeze_ok S r f
    · exact f v ia F H (Post.refl S) r
  split at f
  · rename_i hg
    have gl : Gl X x := hk.trans hg
    split at f
    · rename_i t ht
      have hm := PO.ty x t ht
      have hb : bootBuiltins x = some (.type t) ∧ x ≠ "__name__" ∧ (x == ("__debug__" : Str)) = false := by
        unfold tyName at ht
        repeat' split at ht
        all_goals first | (rename_i hx; subst hx; cases ht; exact ⟨by decide +kernel, by decide +kernel, by decide +kernel⟩) | cases ht
      refine (pe_bltn (X := X) (v := .ty t) gl (by rw [c.mg]; exact hm) hb.1 rfl hb.2.1 hb.2.2).run pins s σ H Q I ?_
      exact f (.ty t) ia F H (Post.refl S) (by simp only [Rep])
    · obtain ⟨d, e, q⟩ := f.of_some
      obtain ⟨hd, u, v, hm, rv, r⟩ := PO.glob x d e
      exact (pe_glob (X := X) gl (by rw [c.mg]; exact hm) rv hd).run pins s σ H Q I (q v ia F H (Post.refl S) (r ia F))
  · exact f.elim
  · exact f.elim
  · rename_i o h1 h2 h3
    have hv : Vis X.env.scope x := by
      have e : X.env.scope.names.lookup x = kindE C x := hk
      unfold Vis
      rw [e]
      cases hh : kindE C x with
      | none => exact (h3 hh).elim
      | some kd =>
        cases kd with
        | «local» => exact .inl rfl
        | cell => exact .inr (.inl rfl)
        | free => exact .inr (.inr rfl)
        | globalExplicit => exact (h2 hh).elim
        | globalImplicit => exact (h1 hh).elim
    split at f
    · rename_i d e
      exact loc hv e f
    · exact f.elim
theorem a_const (c : CxOk P w K mg base k X W C) {x : Const} {j : Nat} : PE X (.Constant x j pos) (tE K cls W G (n + 1) C (.Constant x j pos)) := by
  refine ⟨fun pins s σ H Q I ⟨ia, F, h, ρ, S, E, f⟩ => ?_⟩
  simp only [evE] at f
  obtain ⟨d, e, q⟩ := f.of_some
  cases x with
  | none => cases e; exact pe_non.run pins s σ H Q I (q _ ia F H (Post.refl S) (by simp only [Rep]))
  | bool b => cases e; exact pe_bl.run pins s σ H Q I (q _ ia F H (Post.refl S) (by simp only [Rep]))
  | int b => cases e; exact pe_int.run pins s σ H Q I (q _ ia F H (Post.refl S) (by simp only [Rep]))
  | str b => cases e; exact pe_str.run pins s σ H Q I (q _ ia F H (Post.refl S) (by simp only [Rep]))
  | _ => simp [constV] at e

/-! ### operators -/
variable {a b e : Expr}
theorem a_bin (c : CxOk P w K mg base k X W C) {op : Operator} (ha : PE X a (tE K cls W G n C a)) (hb : PE X b (tE K cls W G n C b)) : PE X (.BinOp a op b pos) (tE K cls W G (n + 1) C (.BinOp a op b pos)) := by
  have hK := c.K
  subst hK
  refine ⟨fun pins s σ H Q I ⟨ia, F, h, ρ, S, E, f⟩ => ?_⟩
  simp only [evE] at f
  refine wpAny_BinOp (binT ha hb I (R := fun x y H2 => ∃ da db ja F' h', Sim X.K cls ja F' h' H2 ∧ Rep X.K cls ja F' da x ∧ Rep X.K cls ja F' db y ∧ Fin X.K cls W σ ja F' H2 (Rs.of (binV op da db) h') (Rep X.K cls) Q) ?_ ?_)
  · exact ⟨ia, F, h, ρ, S, E, f.seq fun x H1 da ja F1 h1 p1 r1 f1 => ⟨ja, F1, h1, ρ, p1.sim, EnvR.mono p1 E, f1.seq fun y H2 db ka F2 h2 p2 r2 f2 => ⟨da, db, ka, F2, h2, p2.sim, r1.post p2, r2, f2⟩⟩⟩
  · rintro v u s2 x y H2 I2 rx ry ⟨da, db, ja, F', h', S2, r1, r2, f2⟩
    obtain ⟨z, ez, q⟩ := f2.of_some
    exact binV_ok I2 S2 ez r1 r2 rx ry q
theorem a_un (c : CxOk P w K mg base k X W C) {op : UnaryOp} (hop : op ≠ .Not) (ha : PE X a (tE K cls W G n C a)) : PE X (.UnaryOp op a pos) (tE K cls W G (n + 1) C (.UnaryOp op a pos)) := by
  have hK := c.K
  subst hK
  refine ⟨fun pins s σ H Q I ⟨ia, F, h, ρ, S, E, f⟩ => ?_⟩
  have f' : Fin X.K cls W σ ia F H ((evE G n C a ρ h).bind fun x h => Rs.of (unV op x) h) (Rep X.K cls) Q := by
    cases op <;> first | exact absurd rfl hop | exact f
  refine UnaryOp_ (thn (ha.run pins s σ H _ I ⟨ia, F, h, ρ, S, E, f'.seq (Q' := fun x H1 => ∃ da ja F' h', Sim X.K cls ja F' h' H1 ∧ Rep X.K cls ja F' da x ∧ Fin X.K cls W σ ja F' H1 (Rs.of (unV op da) h') (Rep X.K cls) Q)
    fun x H1 da ja F1 h1 p1 r1 f1 => ⟨da, ja, F1, h1, p1.sim, r1, f1⟩⟩) ?_)
  rintro v s1 ⟨x, H1, I1, rx, da, ja, F', h', S1, r1, f1⟩
  obtain ⟨z, ez, q⟩ := f1.of_some
  unfold unV at ez
  split at ez
  · cases ez
    simp only [Rep] at r1; subst r1
    exact un_neg pins s1 σ H1 _ v Q I1 rx ⟨_, rfl, q _ ja F' H1 (Post.refl S1) (by simp only [Rep])⟩
  · cases ez
theorem a_not (c : CxOk P w K mg base k X W C) (ha : PE X a (tE K cls W G n C a)) : PE X (.UnaryOp .Not a pos) (tE K cls W G (n + 1) C (.UnaryOp .Not a pos)) := by
  have hK := c.K
  subst hK
  refine ⟨fun pins s σ H Q I ⟨ia, F, h, ρ, S, E, f⟩ => ?_⟩
  simp only [evE] at f
  refine (pe_notT ha).run pins s σ H Q I ⟨ia, F, h, ρ, S, E, f.seq fun x H1 da ja F1 h1 p1 r1 f1 => ?_⟩
  unfold testOf at f1
  cases ht : truth h1 da with
  | none => rw [ht] at f1; exact f1.elim
  | some t =>
    rw [ht] at f1
    exact ⟨t, truth_ok p1.sim ht r1, f1 (.bl (!t)) ja F1 H1 (Post.refl p1.sim) (by simp only [Rep])⟩
theorem a_cmp (PO : PrOk P w K mg base cls G k) (c : CxOk P w K mg base k X W C) {op : CmpOp} (ha : PE X a (tE K cls W G n C a)) (hb : PE X b (tE K cls W G n C b)) : PE X (.Compare a [op] [b] pos) (tE K cls W G (n + 1) C (.Compare a [op] [b] pos)) := by
  have hK := c.K
  subst hK
  refine ⟨fun pins s σ H Q I ⟨ia, F, h, ρ, S, E, f⟩ => ?_⟩
  simp only [evE] at f
  split at f
  · exact f.elim
  rename_i hm
  refine wpAny_Compare1 (binT ha hb I (R := fun x y H2 => ∃ da db ja F' h', Sim X.K cls ja F' h' H2 ∧ Rep X.K cls ja F' da x ∧ Rep X.K cls ja F' db y ∧ Fin X.K cls W σ ja F' H2 (cmpG G op da db h') (Rep X.K cls) Q) ?_ ?_) (by simpa using hm)
  · exact ⟨ia, F, h, ρ, S, E, f.seq fun x H1 da ja F1 h1 p1 r1 f1 => ⟨ja, F1, h1, ρ, p1.sim, EnvR.mono p1 E, f1.seq fun y H2 db ka F2 h2 p2 r2 f2 => ⟨da, db, ka, F2, h2, p2.sim, r1.post p2, r2, f2⟩⟩⟩
  · rintro v u s2 x y H2 I2 rx ry ⟨da, db, ja, F', h', S2, r1, r2, f2⟩
    exact cmpG_ok PO c I2 S2 r1 r2 rx ry f2
theorem t_cmp (PO : PrOk P w K mg base cls G k) (c : CxOk P w K mg base k X W C) {op : CmpOp} (ha : PE X a (tE K cls W G n C a)) (hb : PE X b (tE K cls W G n C b)) : PT X (.Compare a [op] [b] pos) (tT K cls W G (n + 1) C (.Compare a [op] [b] pos)) := by
  have hK := c.K
  subst hK
  refine ⟨fun pins s σ H Q I ⟨ia, F, h, ρ, S, E, f⟩ => ?_⟩
  simp only [evE] at f
  split at f
  · exact f.elim
  rename_i hm
  rw [Rs.bind_assoc] at f
  refine wpAny_isTrue_Compare1 (thn (ha.run pins s σ H _ I ⟨ia, F, h, ρ, S, E, f.seq (Q' := fun x H1 => ∃ da ja F' h', Sim X.K cls ja F' h' H1 ∧ EnvR X.K cls ja F' σ ρ ∧ Rep X.K cls ja F' da x ∧
      Fin X.K cls W σ ja F' H1 (((evE G n C b ρ h').bind fun y h => cmpG G op da y h).bind fun v h => testOf h v) eqR Q) fun x H1 da ja F1 h1 p1 r1 f1 => ⟨da, ja, F1, h1, p1.sim, EnvR.mono p1 E, r1, f1⟩⟩) ?_) (by simpa using hm)
  rintro v s1 ⟨x, H1, I1, rx, da, ja, F1, h1, S1, E1, r1, f1⟩
  rw [Rs.bind_assoc] at f1
  refine thn (hb.run pins s1 σ H1 _ I1 ⟨ja, F1, h1, ρ, S1, E1, f1.seq (Q' := fun y H2 => ∃ db ka F' h', Sim X.K cls ka F' h' H2 ∧ Rep X.K cls ka F' da x ∧ Rep X.K cls ka F' db y ∧
      Fin X.K cls W σ ka F' H2 ((cmpG G op da db h').bind fun v h => testOf h v) eqR Q) fun y H2 db ka F2 h2 p2 r2 f2 => ⟨db, ka, F2, h2, p2.sim, r1.post p2, r2, f2⟩⟩) ?_
  rintro u s2 ⟨y, H2, I2, ry, db, ka, F2, h2, S2, r1', r2, f2⟩
  refine thn (cmpG_ok PO c (Q := fun v H3 => ∃ t, v = .bl t ∧ Q t H3) I2 S2 r1' r2 rx ry ?_) fun c s3 ⟨z, H3, I3, rz, t, ez, q⟩ => ?_
  · cases ec : cmpG G op da db h2 with
    | no => rw [ec] at f2; exact f2.elim
    | rz _ _ => rw [ec] at f2; exact f2
    | ok z h3 =>
      rw [ec] at f2
      obtain ⟨t, rfl⟩ := cmpG_bl ec
      intro v' la F3 H3 p3 r3
      simp only [Rep] at r3
      exact ⟨t, r3, f2 t la F3 H3 p3 rfl⟩
  · subst ez
    cases rz
    exact wpAny_truthy_bool ⟨H3, I3, q⟩
end
end Wd

set_option Elab.async false
set_option linter.all false
set_option maxRecDepth 100000
namespace Wd
open PySem PySem.Spec PyProof.Rows L2

section
variable {P : Program} {w : World} {K : PySem.W.Frag} {mg : Str → Option Value} {base : Heap} {cls : Str → Option Addr} {G : Gt} {k : Nat} {X : Cx} {W : WX} {C : St0} {n : Nat} {pos : Pos}
variable {a b e d : Expr}
/-- a test by its value's truth -/
theorem t_truth (c : CxOk P w K mg base k X W C) (he : PE X e (tE K cls W G n C e)) (hp : ∀ whole, isTrue e X.env whole = (do let v ← whole; standAt e.pos; holding [v] (truthy v))) : PT X e (tT K cls W G n C e) := by
  have hK := c.K
  subst hK
  refine ⟨fun pins s σ H Q I ⟨ia, F, h, ρ, S, E, f⟩ => ?_⟩
  refine (pt_truth he hp).run pins s σ H Q I ⟨ia, F, h, ρ, S, E, f.seq fun x H1 da ja F1 h1 p1 r1 f1 => ?_⟩
  unfold testOf at f1
  cases ht : truth h1 da with
  | none => rw [ht] at f1; exact f1.elim
  | some t =>
    rw [ht] at f1
    exact ⟨t, truth_ok p1.sim ht r1, f1 t ja F1 H1 (Post.refl p1.sim) rfl⟩
theorem t_not (c : CxOk P w K mg base k X W C) (ha : PT X a (tT K cls W G n C a)) : PT X (.UnaryOp .Not a pos) (tT K cls W G (n + 1) C (.UnaryOp .Not a pos)) := by
  refine ⟨fun pins s σ H Q I ⟨ia, F, h, ρ, S, E, f⟩ => ?_⟩
  simp only [evE] at f
  rw [Rs.bind_assoc] at f
  refine (pt_not ha).run pins s σ H Q I ⟨ia, F, h, ρ, S, E, ?_⟩
  have f' : Fin K cls W σ ia F H (((evE G n C a ρ h).bind fun v h => testOf h v).bind fun b h => .ok (!b) h) eqR Q := by
    rw [Rs.bind_assoc]
    refine cast (congrArg (fun g => Fin K cls W σ ia F H ((evE G n C a ρ h).bind g) eqR Q) (funext fun x => funext fun h => ?_)) f
    rw [Rs.bind_assoc]
    rfl
  exact f'.seq fun x H1 da ja F1 h1 p1 r1 f1 => by
    have r1' : da = x := r1
    subst r1'
    exact f1 _ ja F1 H1 (Post.refl p1.sim) rfl
theorem a_ife (c : CxOk P w K mg base k X W C) (hd : PT X d (tT K cls W G n C d)) (ha : PE X a (tE K cls W G n C a)) (hb : PE X b (tE K cls W G n C b)) : PE X (.IfExp d a b pos) (tE K cls W G (n + 1) C (.IfExp d a b pos)) := by
  refine ⟨fun pins s σ H Q I ⟨ia, F, h, ρ, S, E, f⟩ => ?_⟩
  simp only [evE] at f
  rw [← Rs.bind_assoc] at f
  refine (pe_ifExp hd ha hb).run pins s σ H Q I ⟨ia, F, h, ρ, S, E, f.seq fun x H1 da ja F1 h1 p1 r1 f1 => ?_⟩
  have r1' : da = x := r1
  subst r1'
  cases da with
  | true => exact ⟨ja, F1, h1, ρ, p1.sim, EnvR.mono p1 E, f1⟩
  | false => exact ⟨ja, F1, h1, ρ, p1.sim, EnvR.mono p1 E, f1⟩
theorem t_ife (c : CxOk P w K mg base k X W C) (hd : PT X d (tT K cls W G n C d)) (ha : PT X a (tT K cls W G n C a)) (hb : PT X b (tT K cls W G n C b)) : PT X (.IfExp d a b pos) (tT K cls W G (n + 1) C (.IfExp d a b pos)) := by
  refine ⟨fun pins s σ H Q I ⟨ia, F, h, ρ, S, E, f⟩ => ?_⟩
  simp only [evE] at f
  rw [← Rs.bind_assoc, Rs.bind_assoc] at f
  refine isTrue_IfExp (thn (hd.run pins s σ H _ I ⟨ia, F, h, ρ, S, E, f.seq (Q' := fun x H1 => ∃ ja F' h', Sim K cls ja F' h' H1 ∧ EnvR K cls ja F' σ ρ ∧
    Fin K cls W σ ja F' H1 ((if x = true then evE G n C a ρ h' else evE G n C b ρ h').bind fun v h => testOf h v) eqR Q) fun x H1 da ja F1 h1 p1 r1 f1 => by
      have r1' : da = x := r1
      subst r1'
      exact ⟨ja, F1, h1, p1.sim, EnvR.mono p1 E, f1⟩⟩) ?_)
  rintro t s1 ⟨H1, I1, ja, F', h', S1, E1, f1⟩
  cases t with
  | true => exact ite_tt (ha.run pins s1 σ H1 _ I1 ⟨ja, F', h', ρ, S1, E1, f1⟩)
  | false => exact ite_ff (hb.run pins s1 σ H1 _ I1 ⟨ja, F', h', ρ, S1, E1, f1⟩)

/-! ### and, or -/
def tBo (K : PySem.W.Frag) (cls : Str → Option Addr) (W : WX) (G : Gt) (n : Nat) (C : St0) (op : BoolOp) (es : List Expr) : TE := fun σ H Q =>
  ∃ (ia : List Addr) (F : Hp) (h : Hs) (ρ : Env), Sim K cls ia F h H ∧ EnvR K cls ia F σ ρ ∧ Fin K cls W σ ia F H (evBool (fun e h => evE G n C e ρ h) op es h) (Rep K cls) Q
def tBt (K : PySem.W.Frag) (cls : Str → Option Addr) (W : WX) (G : Gt) (n : Nat) (C : St0) (op : BoolOp) (es : List Expr) : TT := fun σ H Q =>
  ∃ (ia : List Addr) (F : Hp) (h : Hs) (ρ : Env), Sim K cls ia F h H ∧ EnvR K cls ia F σ ρ ∧ Fin K cls W σ ia F H ((evBool (fun e h => evE G n C e ρ h) op es h).bind fun v h => testOf h v) eqR Q
theorem a_boolL (c : CxOk P w K mg base k X W C) {op : BoolOp} : ∀ (es : List Expr), (∀ e ∈ es, PE X e (tE K cls W G n C e)) → PE X (.BoolOp op es pos) (tBo K cls W G n C op es)
  | [], _ => ⟨fun pins s σ H Q I ⟨ia, F, h, ρ, S, E, f⟩ => f.elim⟩
  | [e], he => ⟨fun pins s σ H Q I hq => (pe_one (he e (by simp))).run pins s σ H Q I hq⟩
  | e :: e2 :: es, he => by
    have ih := a_boolL c (op := op) (e2 :: es) fun x hx => he x (List.mem_cons_of_mem _ hx)
    have h1 := he e (by simp)
    have hK := c.K
    subst hK
    refine ⟨fun pins s σ H Q I ⟨ia, F, h, ρ, S, E, f⟩ => ?_⟩
    simp only [evBool] at f
    have run : wpAny (model X.prog X.w) X.A (eval e X.env) (fun v s1 => wpAny (model X.prog X.w) X.A (truthy v) (fun t s2 => ∃ x H1 ja F1 h1 d1, Inv X pins σ H1 s2 ∧ RelV x v ∧ Sim X.K cls ja F1 h1 H1 ∧ EnvR X.K cls ja F1 σ ρ ∧ Rep X.K cls ja F1 d1 x ∧
        Fin X.K cls W σ ja F1 H1 (if t == (op == .Or) then .ok d1 h1 else evBool (fun e h => evE G n C e ρ h) op (e2 :: es) h1) (Rep X.K cls) Q) X.xe s1) X.xe s := by
      refine thn (h1.run pins s σ H _ I ⟨ia, F, h, ρ, S, E, f.seq (Q' := fun x H1 => ∃ da ja F1 h1, Sim X.K cls ja F1 h1 H1 ∧ EnvR X.K cls ja F1 σ ρ ∧ Rep X.K cls ja F1 da x ∧
        Fin X.K cls W σ ja F1 H1 (match truth h1 da with | some t => if t == (op == .Or) then .ok da h1 else evBool (fun e h => evE G n C e ρ h) op (e2 :: es) h1 | none => .no) (Rep X.K cls) Q) fun x H1 da ja F1 h1 p1 r1 f1 => ⟨da, ja, F1, h1, p1.sim, EnvR.mono p1 E, r1, f1⟩⟩) ?_
      rintro v s1 ⟨x, H1, I1, rx, da, ja, F1, h1, S1, E1, r1, f1⟩
      cases ht : truth h1 da with
      | none => rw [ht] at f1; exact f1.elim
      | some t =>
        rw [ht] at f1
        refine thn (tru_ok pins s1 σ H1 x v (fun b H2 => b = t ∧ H2 = H1) I1 rx ⟨t, truth_ok S1 ht r1, rfl, rfl⟩) ?_
        rintro b s2 ⟨H2, I2, rfl, rfl⟩
        exact ⟨x, H2, ja, F1, h1, da, I2, rx, S1, E1, r1, f1⟩
    cases op with
    | And =>
      refine BoolOp_and (thn run fun v s1 h1 => thn h1 ?_)
      rintro t s2 ⟨x, H1, ja, F1, h1, d1, I2, rx, S1, E1, r1, f1⟩
      cases t with
      | true => exact ite_tt (ih.run pins s2 σ H1 Q I2 ⟨ja, F1, h1, ρ, S1, E1, f1⟩)
      | false => exact ite_ff ⟨x, H1, I2, rx, f1 x ja F1 H1 (Post.refl S1) r1⟩
    | Or =>
      refine BoolOp_or (thn run fun v s1 h1 => thn h1 ?_)
      rintro t s2 ⟨x, H1, ja, F1, h1, d1, I2, rx, S1, E1, r1, f1⟩
      cases t with
      | true => exact ite_tt ⟨x, H1, I2, rx, f1 x ja F1 H1 (Post.refl S1) r1⟩
      | false => exact ite_ff (ih.run pins s2 σ H1 Q I2 ⟨ja, F1, h1, ρ, S1, E1, f1⟩)
theorem t_boolL (c : CxOk P w K mg base k X W C) {op : BoolOp} : ∀ (es : List Expr), (∀ e ∈ es, PT X e (tT K cls W G n C e)) → PW X (.BoolOp op es pos) (tBt K cls W G n C op es)
  | [], _ => ⟨fun wh pins s σ H Q I ⟨ia, F, h, ρ, S, E, f⟩ => f.elim⟩
  | [e], he => by
    refine ⟨fun wh pins s σ H Q I hq => ?_⟩
    cases op with
    | And =>
      refine isTrue_and (thn ((he e (by simp)).run pins s σ H Q I hq) ?_)
      rintro t s1 ⟨H1, I1, q1⟩
      cases t with
      | true => exact ite_tt (isTrue_and_nil ⟨H1, I1, q1⟩)
      | false => exact ite_ff ⟨H1, I1, q1⟩
    | Or =>
      refine isTrue_or (thn ((he e (by simp)).run pins s σ H Q I hq) ?_)
      rintro t s1 ⟨H1, I1, q1⟩
      cases t with
      | true => exact ite_tt ⟨H1, I1, q1⟩
      | false => exact ite_ff (isTrue_or_nil ⟨H1, I1, q1⟩)
  | e :: e2 :: es, he => by
    have ih := t_boolL c (op := op) (e2 :: es) fun x hx => he x (List.mem_cons_of_mem _ hx)
    have h1 := he e (by simp)
    have hK := c.K
    subst hK
    refine ⟨fun wh pins s σ H Q I ⟨ia, F, h, ρ, S, E, f⟩ => ?_⟩
    simp only [evBool] at f
    have f' : Fin X.K cls W σ ia F H (((evE G n C e ρ h).bind fun v h => testOf h v).bind fun t h => if t == (op == .Or) then .ok t h else (evBool (fun e h => evE G n C e ρ h) op (e2 :: es) h).bind fun v h => testOf h v) eqR Q := by
      cases hm : evE G n C e ρ h with
      | no => rw [hm] at f; exact f.elim
      | rz ex h1 => rw [hm] at f; exact f
      | ok v h1 =>
        rw [hm] at f
        simp only [Rs.bind_ok] at f ⊢
        have tv : testOf h1 v = Rs.of (truth h1 v) h1 := rfl
        rw [tv]
        cases ht : truth h1 v with
        | none => rw [ht] at f; exact f.elim
        | some t =>
          rw [ht] at f
          simp only [Rs.of_some, Rs.bind_ok] at f ⊢
          by_cases hb : (t == (op == .Or)) = true
          · rw [if_pos hb] at f ⊢
            simp only [Rs.bind_ok, tv, ht] at f
            exact f
          · rw [if_neg hb] at f ⊢
            exact f
    have run : wpAny (model X.prog X.w) X.A (isTrue e X.env (eval e X.env)) (fun t s2 => ∃ H1 ja F1 h1, Inv X pins σ H1 s2 ∧ Sim X.K cls ja F1 h1 H1 ∧ EnvR X.K cls ja F1 σ ρ ∧
        Fin X.K cls W σ ja F1 H1 (if t == (op == .Or) then .ok t h1 else (evBool (fun e h => evE G n C e ρ h) op (e2 :: es) h1).bind fun v h => testOf h v) eqR Q) X.xe s := by
      refine thn (h1.run pins s σ H _ I ⟨ia, F, h, ρ, S, E, f'.seq (Q' := fun t H1 => ∃ ja F1 h1, Sim X.K cls ja F1 h1 H1 ∧ EnvR X.K cls ja F1 σ ρ ∧
        Fin X.K cls W σ ja F1 H1 (if t == (op == .Or) then .ok t h1 else (evBool (fun e h => evE G n C e ρ h) op (e2 :: es) h1).bind fun v h => testOf h v) eqR Q) fun x H1 da ja F1 h1 p1 r1 f1 => by
          have r1' : da = x := r1
          subst r1'
          exact ⟨ja, F1, h1, p1.sim, EnvR.mono p1 E, f1⟩⟩) ?_
      rintro t s1 ⟨H1, I1, ja, F1, h1, S1, E1, f1⟩
      exact ⟨H1, ja, F1, h1, I1, S1, E1, f1⟩
    cases op with
    | And =>
      refine isTrue_and (thn run ?_)
      rintro t s2 ⟨H1, ja, F1, h1, I2, S1, E1, f1⟩
      cases t with
      | true => exact ite_tt (ih.run wh pins s2 σ H1 Q I2 ⟨ja, F1, h1, ρ, S1, E1, f1⟩)
      | false => exact ite_ff ⟨H1, I2, f1 false ja F1 H1 (Post.refl S1) rfl⟩
    | Or =>
      refine isTrue_or (thn run ?_)
      rintro t s2 ⟨H1, ja, F1, h1, I2, S1, E1, f1⟩
      cases t with
      | true => exact ite_tt ⟨H1, I2, f1 true ja F1 H1 (Post.refl S1) rfl⟩
      | false => exact ite_ff (ih.run wh pins s2 σ H1 Q I2 ⟨ja, F1, h1, ρ, S1, E1, f1⟩)
theorem a_bool (c : CxOk P w K mg base k X W C) {op : BoolOp} {es : List Expr} (he : ∀ e ∈ es, PE X e (tE K cls W G n C e)) : PE X (.BoolOp op es pos) (tE K cls W G (n + 1) C (.BoolOp op es pos)) :=
  ⟨fun pins s σ H Q I ⟨ia, F, h, ρ, S, E, f⟩ => (a_boolL c es he).run pins s σ H Q I ⟨ia, F, h, ρ, S, E, by simpa only [evE] using f⟩⟩
theorem t_bool (c : CxOk P w K mg base k X W C) {op : BoolOp} {es : List Expr} (he : ∀ e ∈ es, PT X e (tT K cls W G n C e)) : PT X (.BoolOp op es pos) (tT K cls W G (n + 1) C (.BoolOp op es pos)) :=
  ⟨fun pins s σ H Q I ⟨ia, F, h, ρ, S, E, f⟩ => (t_boolL c es he).pt.run pins s σ H Q I ⟨ia, F, h, ρ, S, E, by simpa only [evE] using f⟩⟩

/-! ### a op b op' c -/
variable {g : Expr}
/-- the first two, compared -/
theorem cmp2 (c : CxOk P w K mg base k X W C) {op : CmpOp} {pins : List (Addr × Obj)} {s : Shared} {σ : L2.St} {H : Hp} {ia : List Addr} {F : Hp} {h : Hs} {ρ : Env} {v : Value} {x : V} {da : Vl} {γ δ : Type} {R : List Addr → Hp → γ → δ → Prop} {Q : δ → Hp → Prop} {r : Vl → Bool → Hs → Rs γ}
    (hb : PE X b (tE K cls W G n C b)) (I : Inv X pins σ H s) (S : Sim K cls ia F h H) (E : EnvR K cls ia F σ ρ) (rx : RelV x v) (ra : Rep K cls ia F da x) (f : Fin K cls W σ ia F H ((evE G n C b ρ h).bind fun y h => (Rs.of (cmpV op h da y) h).bind fun k h => r y k h) R Q) :
    wpAny (model X.prog X.w) X.A (eval b X.env) (fun u s1 => wpAny (model X.prog X.w) X.A (compareOp op v u) (fun d s2 => wpAny (model X.prog X.w) X.A (truthy d) (fun t s3 => d = .bool t ∧ ∃ y H1 db ja F1 h1, Inv X pins σ H1 s3 ∧ RelV y u ∧ Sim K cls ja F1 h1 H1 ∧ EnvR K cls ja F1 σ ρ ∧ Rep K cls ja F1 db y ∧ Fin K cls W σ ja F1 H1 (r db t h1) R Q) X.xe s2) X.xe s1) X.xe s := by
  have hK := c.K
  subst hK
  refine thn (hb.run pins s σ H _ I ⟨ia, F, h, ρ, S, E, f.seq (Q' := fun y H1 => ∃ db ja F1 h1, Sim X.K cls ja F1 h1 H1 ∧ EnvR X.K cls ja F1 σ ρ ∧ Rep X.K cls ja F1 da x ∧ Rep X.K cls ja F1 db y ∧
    Fin X.K cls W σ ja F1 H1 ((Rs.of (cmpV op h1 da db) h1).bind fun k h => r db k h) R Q) fun y H1 db ja F1 h1 p1 r1 f1 => ⟨db, ja, F1, h1, p1.sim, EnvR.mono p1 E, ra.post p1, r1, f1⟩⟩) ?_
  rintro u s1 ⟨y, H1, I1, ry, db, ja, F1, h1, S1, E1, ra1, rb1, f1⟩
  cases e1 : cmpV op h1 da db with
  | none => rw [e1] at f1; exact f1.elim
  | some t =>
    rw [e1] at f1
    refine thn (cmpV_ok (Q := fun v H3 => v = .bl t ∧ H3 = H1) (by have := c.units; omega) I1 S1 e1 ra1 rb1 rx ry ⟨rfl, rfl⟩) ?_
    rintro d s3 ⟨z, H3, I3, rz, ez, eH⟩
    subst ez eH
    cases rz
    exact wpAny_truthy_bool ⟨rfl, y, H3, db, ja, F1, h1, I3, ry, S1, E1, rb1, f1⟩
theorem a_chn (c : CxOk P w K mg base k X W C) {op op' : CmpOp} (ha : PE X a (tE K cls W G n C a)) (hb : PE X b (tE K cls W G n C b)) (hg : PE X g (tE K cls W G n C g)) : PE X (.Compare a [op, op'] [b, g] pos) (tE K cls W G (n + 1) C (.Compare a [op, op'] [b, g] pos)) := by
  have hK := c.K
  subst hK
  refine ⟨fun pins s σ H Q I ⟨ia, F, h, ρ, S, E, f⟩ => ?_⟩
  simp only [evE] at f
  split at f
  · exact f.elim
  rename_i hm
  refine Compare_chain (thn (ha.run pins s σ H _ I ⟨ia, F, h, ρ, S, E, Fin.bind (R0 := Rep X.K cls) f⟩) ?_) (by simpa [lastMarks] using hm)
  rintro v s1 ⟨x, H1, I1, rx, da, ja, F1, h1, p1, r1, f1⟩
  refine chain_link (thn (cmp2 c hb I1 p1.sim (EnvR.mono p1 E) rx r1 f1) fun u s2 h2 => thn h2 fun d s3 h3 => thn h3 ?_)
  rintro t s4 ⟨rfl, y, H4, db, ka, F4, h4, I4, ry, S4, E4, r4, f4⟩
  cases t with
  | false => exact ite_ff ⟨.bl false, H4, I4, rfl, f4 (.bl false) ka F4 H4 (Post.refl S4) (by simp only [Rep])⟩
  | true =>
    refine ite_tt (chain_last (thn (hg.run pins s4 σ H4 _ I4 ⟨ka, F4, h4, ρ, S4, E4, Fin.bind (R0 := Rep X.K cls) f4⟩) ?_))
    rintro u' s5 ⟨z, H5, I5, rz, dc, la, F5, h5, p5, r5, f5⟩
    obtain ⟨z', ez, q⟩ := f5.of_some
    cases e1 : cmpV op' h5 db dc with
    | none => rw [e1] at ez; cases ez
    | some t =>
      rw [e1] at ez
      simp only [Option.map_some, Option.some.injEq] at ez
      subst ez
      exact cmpV_ok (by have := c.units; omega) I5 p5.sim e1 (r4.post p5) r5 ry rz (q (.bl t) la F5 H5 (Post.refl p5.sim) (by simp only [Rep]))
theorem t_chn (c : CxOk P w K mg base k X W C) {op op' : CmpOp} (ha : PE X a (tE K cls W G n C a)) (hb : PE X b (tE K cls W G n C b)) (hg : PE X g (tE K cls W G n C g)) : PT X (.Compare a [op, op'] [b, g] pos) (tT K cls W G (n + 1) C (.Compare a [op, op'] [b, g] pos)) := by
  have hK := c.K
  subst hK
  refine ⟨fun pins s σ H Q I ⟨ia, F, h, ρ, S, E, f⟩ => ?_⟩
  simp only [evE] at f
  split at f
  · exact f.elim
  rename_i hm
  rw [Rs.bind_assoc] at f
  refine isTrue_chain (thn (ha.run pins s σ H _ I ⟨ia, F, h, ρ, S, E, Fin.bind (R0 := Rep X.K cls) f⟩) ?_) (by simpa [lastMarks] using hm)
  rintro v s1 ⟨x, H1, I1, rx, da, ja, F1, h1, p1, r1, f1⟩
  have f1' : Fin X.K cls W σ ja F1 H1 ((evE G n C b ρ h1).bind fun y h => (Rs.of (cmpV op h da y) h).bind fun k h => if k = true then ((evE G n C g ρ h).bind fun z h => (Rs.of ((cmpV op' h y z).map .bl) h).bind fun v h => testOf h v) else .ok false h) eqR Q := by
    rw [Rs.bind_assoc] at f1
    refine cast (congrArg (fun g => Fin X.K cls W σ ja F1 H1 ((evE G n C b ρ h1).bind g) eqR Q) (funext fun y => funext fun h => ?_)) f1
    rw [Rs.bind_assoc]
    refine congrArg _ (funext fun t => funext fun h => ?_)
    cases t with
    | false => rfl
    | true => exact Rs.bind_assoc _ _ _
  refine test_link (thn (cmp2 c hb I1 p1.sim (EnvR.mono p1 E) rx r1 f1') fun u s2 h2 => thn h2 fun d s3 h3 => thn h3 ?_)
  rintro t s4 ⟨rfl, y, H4, db, ka, F4, h4, I4, ry, S4, E4, r4, f4⟩
  cases t with
  | false => exact ite_ff ⟨H4, I4, f4 false ka F4 H4 (Post.refl S4) rfl⟩
  | true =>
    refine ite_tt (test_last (thn (hg.run pins s4 σ H4 _ I4 ⟨ka, F4, h4, ρ, S4, E4, Fin.bind (R0 := Rep X.K cls) f4⟩) ?_))
    rintro u' s5 ⟨z, H5, I5, rz, dc, la, F5, h5, p5, r5, f5⟩
    cases e1 : cmpV op' h5 db dc with
    | none => rw [e1] at f5; exact f5.elim
    | some t =>
      rw [e1] at f5
      refine thn (cmpV_ok (Q := fun v H3 => v = .bl t ∧ H3 = H5) (by have := c.units; omega) I5 p5.sim e1 (r4.post p5) r5 ry rz ⟨rfl, rfl⟩) ?_
      rintro d s6 ⟨z', H6, I6, rz', ez, eH⟩
      subst ez eH
      cases rz'
      exact wpAny_truthy_bool ⟨H6, I6, f5 t la F5 H6 (Post.refl p5.sim) rfl⟩
end
end Wd

set_option Elab.async false
set_option linter.all false
set_option maxRecDepth 100000
namespace Wd
open PySem PySem.Spec PyProof.Rows L2

/-! ### x[::-1] of lists, tuples, texts -/
theorem fm_congr {α β : Type} {f g : α → Option β} : ∀ (l : List α), (∀ x ∈ l, f x = g x) → l.filterMap f = l.filterMap g
  | [], _ => rfl
  | a :: r, h => by rw [List.filterMap_cons, List.filterMap_cons, h a (by simp), fm_congr r fun x hx => h x (List.mem_cons_of_mem _ hx)]
theorem places_rev (n : Nat) : Builtin.Slice.slicePlaces ((n : Int) - 1) (-1) (-1) = n := by
  unfold Builtin.Slice.slicePlaces
  have h1 : ¬ ((-1 : Int) > 0) := by decide
  have e : (- -1 : Int) = 1 := by decide
  simp only [h1, if_false, e, Int.ediv_one]
  split <;> omega
theorem adjust_rev (n : Nat) : Builtin.Slice.sliceAdjust none none (-1) (n : Int) = ((n : Int) - 1, -1) := by
  unfold Builtin.Slice.sliceAdjust
  rfl
theorem pick_rev (xs : Array Value) : ((List.range xs.size).filterMap fun (m : Nat) => xs[((xs.size : Int) - 1 + (m : Int) * (-1)).toNat]?).toArray = xs.toList.reverse.toArray := by
  have e : (List.range xs.size).filterMap (fun (m : Nat) => xs[((xs.size : Int) - 1 + (m : Int) * (-1)).toNat]?) = ((List.range xs.size).map fun k => xs.size - 1 - k).filterMap (xs[·]?) := by
    rw [List.filterMap_map]
    refine fm_congr _ ?_
    intro m hm
    have := List.mem_range.mp hm
    have e2 : ((xs.size : Int) - 1 + (m : Int) * (-1)).toNat = xs.size - 1 - m := by omega
    rw [e2]
    rfl
  rw [e, PySem.W.krv_range, List.filterMap_reverse, PySem.W.krv_all]
section
variable {prog : Program} {w : World} {A : Around} {E : Value → Shared → Prop} {s : Shared}
theorem getItem_tuple_rev {t sl : Addr} {items : Array Value} {vl vu vs : Value} {Q : Value → Shared → Prop} (ht : IsTup s.heap t items) (hs : s.heap.IsSliceOf sl vl vu vs) (pl : IsPart vl none) (pu : IsPart vu none) (ps : IsPart vs (some (-1)))
    (h : Q (.ref s.heap.objs.size) { s with heap := s.heap.push { cls := .type "tuple", data := .seq items.toList.reverse.toArray } })
    (hsz : items.size ≤ sizeLine) : wpAny (model prog w) A (getItem (.ref t) (.ref sl)) Q E s := by
  have htake : sizeOk (.seq items.toList.reverse.toArray) := by
    show items.toList.reverse.toArray.size ≤ sizeLine
    rw [List.size_toArray, List.length_reverse, Array.length_toList]
    exact hsz
  obtain ⟨os, hos, hcs, hds⟩ := id hs
  have hTs : s.TypeIs (.ref sl) "slice" := ⟨os, hos, hcs⟩
  unfold getItem
  try with_reducible refine wpAny_holding ?_
  first | refine wpAny_bind (wpAny_pure ?_) | skip
  refine wpAny_bind (wpAny_sequenceKey ht.typeIs (by decide) ?_)
  refine wpAny_bind (wpAny_callSpecial?_slot (name := Str.ofString "__getitem__") ht.typeIs PyProof.Rows.slot_tuple_getitem
    (wpAny_call_entry PyProof.Rows.slot_tuple_getitem ht.typeIs entry_tuple_getitem ?_ (args_tuple_getitem _ _)))
  show wpAny _ _ (Builtin.Tuple.tupleItemsOf (.ref t) >>= _) _ _ s
  refine wpAny_bind (tupleItemsOf_ ht ?_)
  refine wpAny_bind (wpAny_typeOf hTs ?_)
  rw [if_pos (by decide)]
  have app : ∀ {Q' : Int × Int × Nat → Shared → Prop}, Q' ((items.size : Int) - 1, -1, items.size) s → wpAny (model prog w) A.in1 (Builtin.Slice.sliceApplied (.ref sl) (pure (items.size : Int))) Q' E s := by
    intro Q' hq
    unfold Builtin.Slice.sliceApplied Builtin.Slice.sliceFields
    refine wpAny_bind (wpAny_bind (wpAny_field hos hds (x := vl) rfl (wpAny_bind (wpAny_field hos hds (x := vu) rfl (wpAny_bind (wpAny_field hos hds (x := vs) rfl (wpAny_pure ?_)))))))
    refine wpAny_bind (HT.slicePart_ ps ?_)
    show wpAny _ _ (if ((-1 : Int) == 0) = true then _ else _) _ _ s
    rw [if_neg (by decide)]
    refine wpAny_bind (HT.slicePart_ pl (wpAny_bind (HT.slicePart_ pu (wpAny_bind (wpAny_pure ?_)))))
    show wpAny _ _ (match Builtin.Slice.sliceAdjust none none (-1) (items.size : Int) with | (lo, hi) => pure (lo, (-1 : Int), Builtin.Slice.slicePlaces lo hi (-1))) _ _ s
    rw [adjust_rev]
    show wpAny _ _ (pure ((items.size : Int) - 1, (-1 : Int), Builtin.Slice.slicePlaces ((items.size : Int) - 1) (-1) (-1))) _ _ s
    rw [places_rev]
    exact wpAny_pure hq
  refine wpAny_bind (app ?_)
  have hno : ¬ (((items.size : Int) - 1 == 0 && (-1 : Int) == 1 && items.size == items.size) = true) := by
    intro q
    rw [Bool.and_eq_true, Bool.and_eq_true] at q
    exact absurd q.1.2 (by decide)
  show wpAny _ _ (if ((items.size : Int) - 1 == 0 && (-1 : Int) == 1 && items.size == items.size) = true then _ else _) _ _ s
  rw [if_neg hno, pick_rev]
  first
    | exact wpAny_bind (m := Builtin.Tuple.tupleExact _) (wpAny_newObj_type (wpAny_pure ⟨_, rfl, wpAny_pure h⟩) htake)
    | exact wpAny_bind (m := Builtin.Tuple.tupleExact _) (wpAny_newObj_type (wpAny_bind (wpAny_pure (wpAny_pure ⟨_, rfl, wpAny_pure h⟩))) htake)
    | exact wpAny_bind (wpAny_bind (m := Builtin.Tuple.tupleExact _) (wpAny_newObj_type (wpAny_pure (wpAny_pure ⟨_, rfl, wpAny_pure h⟩)) htake))
    | exact wpAny_bind (wpAny_bind (m := Builtin.Tuple.tupleExact _) (wpAny_newObj_type (wpAny_pure ⟨_, rfl, wpAny_pure h⟩) htake))
end
/-- what a reversed value is -/
def rRevG (K : PySem.W.Frag) : V → Hp → VK → Prop := fun x H Q =>
  (∃ a xs, x = .ref a ∧ SqL K H a xs ∧ ∀ p, H p = none → Q (.ref p) (upd H p (.lst xs.reverse))) ∨ (∃ a xs, x = .ref a ∧ SqT K H a xs ∧ ∀ p, H p = none → Q (.ref p) (upd H p (.tup xs.reverse))) ∨
  (∃ z : Str, x = .str z ∧ z.length ≤ sizeLine ∧ Q (.str ⟨z.cps.toList.reverse.toArray⟩) H)
theorem pe_revG {X : Cx} {e : Expr} {te : TE} {k : Nat} {p1 p2 p3 pos : Pos} (he : PE X e te) : PE X (.Subscript e (.Slice none none (some (.UnaryOp .USub (.Constant (.int 1) k p1) p2)) p3) pos) (fun σ H Q => te σ H fun x H1 => rRevG X.K x H1 Q) := by
  refine ⟨fun pins s σ H Q I h => ?_⟩
  refine Subscript_ (thn (he.run pins s σ H _ I h) fun v s1 ⟨x, H1, I1, r1, q1⟩ => ?_)
  have hst : PO X (some (.UnaryOp .USub (.Constant (.int 1) k p1) p2)) (tPart (tUn (rU fun i => .int (-i)) (tC (.int 1)))) := po_some (pe_un un_neg pe_int)
  refine wpAny_Slice (thn (po_none.run pins s1 σ H1 (fun o H2 => o = none ∧ H2 = H1) I1 ⟨rfl, rfl⟩) fun vl s2 ⟨l, H2, I2, pl, el, e2⟩ => ?_)
  subst el e2
  refine thn (po_none.run pins s2 σ H2 (fun o H3 => o = none ∧ H3 = H2) I2 ⟨rfl, rfl⟩) fun vu s3 ⟨u, H3, I3, pu, eu, e3⟩ => ?_
  subst eu e3
  refine thn (hst.run pins s3 σ H3 (fun o H4 => o = some (-1) ∧ H4 = H3) I3 ⟨1, rfl, -1, rfl, rfl, rfl⟩) fun vs s4 ⟨o, H4, I4, ps, eo, e4⟩ => ?_
  subst eo e4
  have I5 : Inv X pins σ H4 { s4 with heap := s4.heap.push { cls := .type "slice", data := .fields #[vl, vu, vs] } } := I4.kept (t' := s4.toks) fun b ob q => Heap.get?_push_of_some _ q
  show wpAny (model X.prog X.w) X.A (subscriptTail e (.Slice none none (some (.UnaryOp .USub (.Constant (.int 1) k p1) p2)) p3) v (.ref s4.heap.objs.size)) (EP X pins σ Q) X.xe { s4 with heap := s4.heap.push { cls := .type "slice", data := .fields #[vl, vu, vs] } }
  rcases q1 with ⟨a, xs, ex, hx, q⟩ | ⟨a, xs, ex, hx, q⟩ | ⟨z, ex, hz, q⟩
  · subst ex
    cases r1
    obtain ⟨its, r, ht, hz⟩ := I5.list hx
    have hlen := r.length
    refine tail_any (ops := [.ref a, .ref s4.heap.objs.size]) ht.isList.typeIs (PySem.slot_list_getitem.lookup) ?_ (by with_unfolding_all rfl)
    refine wpAny_getItem_list_slice ht.isList (Heap.IsSliceOf.new _ vl vu vs) pl pu ps (by decide) ?_ (by rw [List.size_toArray]; omega)
    rw [PySem.W.krv_pick]
    refine ⟨.ref _, _, I5.laid (t' := s4.toks) (o := .lst xs.reverse) (fun b ob q => Heap.get?_push_of_some _ q) (Nat.le_refl _) ?_, rfl, q _ (I5.hok.fresh (Nat.le_refl _))⟩
    exact ⟨by rw [List.length_reverse]; exact hz, _, 0, r.reverse, Heap.get?_push_size _ rfl⟩
  · subst ex
    cases r1
    obtain ⟨its, r, ht, hz⟩ := I5.tuple hx
    have hlen := r.length
    refine tail_any (ops := [.ref a, .ref s4.heap.objs.size]) ht.typeIs (PyProof.Rows.slot_tuple_getitem.lookup) ?_ (by with_unfolding_all rfl)
    refine getItem_tuple_rev ht (Heap.IsSliceOf.new _ vl vu vs) pl pu ps ?_ (by rw [List.size_toArray]; omega)
    refine ⟨.ref _, _, I5.laid (t' := s4.toks) (o := .tup xs.reverse) (fun b ob q => Heap.get?_push_of_some _ q) (Nat.le_refl _) ?_, rfl, q _ (I5.hok.fresh (Nat.le_refl _))⟩
    exact ⟨by rw [List.length_reverse]; exact hz, _, r.reverse, IsTup.new _ _⟩
  · subst ex
    obtain ⟨t, rfl⟩ := r1
    refine tail_any (ops := [.str z t, .ref s4.heap.objs.size]) (typeIs_str _ _ _) (F.slot_str_getitem.lookup) ?_ (by with_unfolding_all rfl)
    obtain ⟨l, rfl, hl⟩ := IsPart.raw pl
    obtain ⟨u, rfl, hu⟩ := IsPart.raw pu
    obtain ⟨c, rfl, hc⟩ := IsPart.raw ps
    obtain ⟨os, hos, hcs, hds⟩ := Heap.IsSliceOf.new (h := s4.heap) (PySem.partValue l) (PySem.partValue u) (PySem.partValue c)
    have hl' : l = none := by cases l <;> first | rfl | cases hl
    have hu' : u = none := by cases u <;> first | rfl | cases hu
    subst hl' hu'
    obtain ⟨cc, rfl⟩ : ∃ cc, c = some cc := by cases c <;> first | cases hc | exact ⟨_, rfl⟩
    have hcc : cc.1 = -1 := by simpa using hc
    refine wpAny_getItem_str_slice (l := none) (u := none) (st := some cc) ⟨os, hos, hcs, hds⟩ (by show (cc.1 == 0) = false; rw [hcc]; decide) ?_
    have hp : slicePicked z none none (some cc) = (List.range z.length).reverse := by
      unfold slicePicked
      show Builtin.Str.strSliceIndices none none cc.1 z.length = _
      rw [hcc]
      show sliceRange ((z.length : Int) - 1) (-1) (-1) = _
      rw [PySem.W.krv_sliceRange, PySem.W.krv_range]
    unfold sliceMade
    have hno : ¬ ((cc.1 == 1 && (slicePicked z none none (some cc)).length == z.length) = true) := by
      rw [hcc]
      intro q
      rw [Bool.and_eq_true] at q
      exact absurd q.1 (by decide)
    show Made.post (if (cc.1 == 1 && (slicePicked z none none (some cc)).length == z.length) = true then _ else _) _ _
    rw [if_neg hno, hp]
    have e : ((List.range z.length).reverse.filterMap (z.cps[·]?)).toArray = z.cps.toList.reverse.toArray := by
      rw [List.filterMap_reverse]
      have := PySem.W.krv_all z.cps
      rw [show z.length = z.cps.size from rfl, this]
    rw [e]
    refine ⟨by show z.cps.toList.reverse.toArray.size ≤ sizeLine; rw [List.size_toArray, List.length_reverse, Array.length_toList]; exact hz, .str _, H4, I5.tok _, ⟨_, rfl⟩, q⟩
end Wd

set_option Elab.async false
set_option linter.all false
set_option maxRecDepth 100000
namespace Wd
open PySem PySem.Spec PyProof.Rows L2

section
variable {P : Program} {w : World} {K : PySem.W.Frag} {mg : Str → Option Value} {base : Heap} {cls : Str → Option Addr} {G : Gt} {k : Nat} {X : Cx} {W : WX} {C : St0} {n : Nat} {pos : Pos}
variable {a b e d : Expr}
/-! ### lists of expressions -/
theorem star_no {e : Expr} {es : List Expr} {env : PySem.Env} (h : isStar e = false) : starEach (e :: es) env = (false, eval e env) :: starEach es env := by
  cases e <;> first | rfl | cases h
theorem evL_no {f : Expr → Hs → Rs Vl} {e : Expr} {es : List Expr} {h : Hs} (hs : isStar e = false) : evL f (e :: es) h = (f e h).bind fun v h => (evL f es h).bind fun ys h => .ok (v :: ys) h := by
  cases e <;> first | rfl | cases hs
theorem a_args (c : CxOk P w K mg base k X W C) (he : ∀ e, PE X e (tE K cls W G n C e)) : ∀ es : List Expr, PA X es (tL K cls W G n C es)
  | [] => by
    refine ⟨fun pos pins s σ H Q I ⟨ia, F, h, ρ, S, E, f⟩ => ?_⟩
    simp only [evL] at f
    exact pa_nil.run pos pins s σ H Q I (f [] ia F H (Post.refl S) RepL.nil)
  | e :: es => by
    have ih := a_args c he es
    have hK := c.K
    subst hK
    refine ⟨fun pos pins s σ H Q I ⟨ia, F, h, ρ, S, E, f⟩ => ?_⟩
    cases hs : isStar e with
    | false =>
      rw [evL_no hs] at f
      refine (pa_cons (he e) ih (star_no hs)).run pos pins s σ H Q I ⟨ia, F, h, ρ, S, E, f.seq fun x H1 da ja F1 h1 p1 r1 f1 => ?_⟩
      exact ⟨ja, F1, h1, ρ, p1.sim, EnvR.mono p1 E, f1.seq fun vs H2 ds ka F2 h2 p2 r2 f2 => f2 _ ka F2 H2 (Post.refl p2.sim) (RepL.cons (r1.post p2) r2)⟩
    | true =>
      obtain ⟨e, p, rfl⟩ : ∃ e' p, e = .Starred e' p := by
        cases e <;> first | exact ⟨_, _, rfl⟩ | cases hs
      simp only [evL] at f
      refine (StX.pa_star (he e) ih rfl).run pos pins s σ H Q I ⟨ia, F, h, ρ, S, E, f.seq fun x H1 da ja F1 h1 p1 r1 f1 => ?_⟩
      cases hi : itemsV h1 da with
      | none => rw [hi] at f1; exact f1.elim
      | some xs =>
        rw [hi] at f1
        obtain ⟨q, ws, e1, r2, sq⟩ := itemsV_ok p1.sim hi r1
        refine ⟨q, ws, e1, sq.symm, ja, F1, h1, ρ, p1.sim, EnvR.mono p1 E, f1.seq fun vs H2 ds ka F2 h2 p2 r3 f2 => ?_⟩
        exact f2 _ ka F2 H2 (Post.refl p2.sim) (RepL.append (r2.post p2) r3)
theorem mkList_ok {ia : List Addr} {F H : Hp} {h : Hs} {σ : L2.St} {Q : VK} {xs : List Vl} {vs : List V} {p : Addr} (S : Sim K cls ia F h H) (hp : H p = none) (r : RepL K cls ia F xs vs) (f : Fin K cls W σ ia F H (mkList C pos xs h) (Rep K cls) Q) : Q (.ref p) (upd H p (.lst vs)) := by
  unfold mkList at f
  split at f
  · have hex : ∀ (n : Nat) (a : Addr), ia[n]? = some a → (ia ++ [p])[n]? = some a := fun n a e => by
      rw [List.getElem?_append_left (List.getElem?_eq_some_iff.mp e).1]; exact e
    have q := Post.made S hp (o := .lst vs) (ob := .lst xs) ⟨vs, upd_same, r⟩
    refine f _ _ _ _ q ?_
    simp only [Rep]
    refine ⟨p, ?_, rfl⟩
    rw [List.getElem?_append_right (by rw [S.len]; exact Nat.le_refl _), S.len, Nat.sub_self]
    rfl
  · have q := Post.frozen S hp (.lst vs)
    refine f _ _ _ _ q ?_
    simp only [Rep]
    exact ⟨p, vs, rfl, .inl (.inl upd_same), r.post q⟩
theorem a_tup (c : CxOk P w K mg base k X W C) {es : List Expr} {j : Nat} (he : PA X es (tL K cls W G n C es)) : PE X (.Tuple es j pos) (tE K cls W G (n + 1) C (.Tuple es j pos)) := by
  refine ⟨fun pins s σ H Q I ⟨ia, F, h, ρ, S, E, f⟩ => ?_⟩
  simp only [evE] at f
  refine (pe_tup he).run pins s σ H Q I ⟨ia, F, h, ρ, S, E, f.seq fun vs H1 ds ja F1 h1 p1 r1 f1 => ?_⟩
  split at f1
  · rename_i hz
    refine ⟨by rw [← r1.len]; exact hz, fun p hp => ?_⟩
    have q := Post.frozen p1.sim hp (.tup vs)
    refine f1 _ _ _ _ q ?_
    simp only [Rep]
    exact ⟨p, vs, rfl, .inl (.inl upd_same), r1.post q⟩
  · exact f1.elim
theorem a_dic (c : CxOk P w K mg base k X W C) : PE X (.Dict [] [] pos) (tE K cls W G (n + 1) C (.Dict [] [] pos)) := by
  have hK := c.K
  subst hK
  refine ⟨fun pins s σ H Q I ⟨ia, F, h, ρ, S, E, f⟩ => ?_⟩
  simp only [evE] at f
  refine pe_dnewK.run pins s σ H Q I fun p hp => ?_
  have q := Post.frozen S hp (.dK [])
  refine f _ _ _ _ q ?_
  simp only [Rep]
  exact ⟨trivial, p, rfl, upd_same⟩
theorem a_lst (c : CxOk P w K mg base k X W C) {es : List Expr} (he : PA X es (tL K cls W G n C es)) : PE X (.List es pos) (tE K cls W G (n + 1) C (.List es pos)) := by
  refine ⟨fun pins s σ H Q I ⟨ia, F, h, ρ, S, E, f⟩ => ?_⟩
  simp only [evE] at f
  refine (pe_lst he).run pins s σ H Q I ⟨ia, F, h, ρ, S, E, f.seq fun vs H1 ds ja F1 h1 p1 r1 f1 => ?_⟩
  split at f1
  · rename_i hz
    exact ⟨by rw [← r1.len]; exact hz, fun p hp => mkList_ok p1.sim hp r1 f1⟩
  · exact f1.elim

/-! ### attributes, subscripts -/
theorem attr_base {o : Expr} {m : Str} {env : PySem.Env} {wh : Sem Value} (h : noSup o = true) : attributeBase o m env wh = wh := by
  cases o <;> try rfl
  rename_i fe es ks q
  cases fe <;> try rfl
  cases es <;> try rfl
  cases ks <;> first | rfl | skip
  rename_i id p
  have h' : (id != ("super" : Str)) = true := h
  have h2 : (id != Str.ofString "super") = true := h'
  simp only [attributeBase, h2, Bool.true_or, if_true]
theorem attrV_ok (PO : PrOk P w K mg base cls G k) (c : CxOk P w K mg base k X W C) {pins : List (Addr × Obj)} {s : Shared} {σ : L2.St} {H : Hp} {ia : List Addr} {F : Hp} {h : Hs} {da : Vl} {x : V} {u : Value} {f : Str} {g : Bool} {Q : VK} (I : Inv X pins σ H s) (S : Sim K cls ia F h H)
    (r : Rep K cls ia F da x) (ru : RelV x u) (hf : Fin K cls W σ ia F H (attrV G da f h) (Rep K cls) Q) : wpAny (model X.prog X.w) X.A (getAttr u f g) (EP X pins σ Q) X.xe s := by
  have hK := c.K
  subst hK
  unfold attrV at hf
  have go : ∀ {cn : Str} {Ca a dx : Addr} {fs : List (Str × Vl)} {gs : List (Str × V)}, cls cn = some Ca → x = .ref a → H a = some (.ins Ca dx gs) → RepF X.K cls ia F fs gs →
      Fin X.K cls W σ ia F H (if G.fld cn f = true then Rs.of (fs.lookup f) h else G.attr cn f da h) (Rep X.K cls) Q → wpAny (model X.prog X.w) X.A (getAttr u f g) (EP X pins σ Q) X.xe s := by
    intro cn Ca a dx fs gs hc ex ea rf hf
    subst ex
    obtain rfl : u = Value.ref a := ru
    split at hf
    · rename_i hfld
      obtain ⟨d, ed, q⟩ := hf.of_some
      obtain ⟨v, ev, rv⟩ := (rf.look (f := f)).1 d ed
      exact getattr_ok I ea (PO.isa.fact _ _ hc).cl (PO.fld _ _ _ hc hfld) ev fun u' s2 I2 ru => ⟨v, H, I2, ru, q v ia F H (Post.refl S) rv⟩
    · have hno : G.attr cn f da h ≠ .no := fun z => by rw [z] at hf; exact hf
      exact PO.attr cn f da h Ca hno hc X W C c pins s σ H ia F a dx gs g Q I S r ea hf
  split at hf
  · have r' := r
    simp only [Rep] at r'
    obtain ⟨a, Ca, dx, gs, ex, hc, ea, rf⟩ := r'
    exact go hc ex (S.sub _ _ ea) rf hf
  · rename_i m
    split at hf
    · rename_i cn fs e
      obtain ⟨a, Ca, dx, gs, ex, _, _, _, hc, ea, rf⟩ := getI_ok S e r
      exact go hc ex ea rf hf
    · exact hf.elim
  · exact hf.elim
theorem a_attr (PO : PrOk P w K mg base cls G k) (c : CxOk P w K mg base k X W C) {f : Str} (ha : PE X a (tE K cls W G n C a)) : PE X (.Attribute a f pos) (tE K cls W G (n + 1) C (.Attribute a f pos)) := by
  refine ⟨fun pins s σ H Q I ⟨ia, F, h, ρ, S, E, hf⟩ => ?_⟩
  simp only [evE] at hf
  split at hf
  · rename_i hn
    refine attr_of (attr_base hn) (thn (ha.run pins s σ H _ I ⟨ia, F, h, ρ, S, E, Fin.bind (R0 := Rep K cls) hf⟩) ?_)
    rintro u s1 ⟨x, H1, I1, rx, da, ja, F1, h1, p1, r1, f1⟩
    exact attrV_ok PO c I1 p1.sim r1 rx f1
  · exact hf.elim
def tOp' (K : PySem.W.Frag) (cls : Str → Option Addr) (W : WX) (G : Gt) (n : Nat) (C : St0) (e : Option Expr) : TO := fun σ H Q =>
  ∃ (ia : List Addr) (F : Hp) (h : Hs) (ρ : Env), Sim K cls ia F h H ∧ EnvR K cls ia F σ ρ ∧ Fin K cls W σ ia F H (evOpt (fun e h => evE G n C e ρ h) e h) eqR Q
theorem a_opt (c : CxOk P w K mg base k X W C) (he : ∀ e, PE X e (tE K cls W G n C e)) : ∀ e : Option Expr, PO X e (tOp' K cls W G n C e)
  | none => by
    refine ⟨fun pins s σ H Q I ⟨ia, F, h, ρ, S, E, f⟩ => ?_⟩
    exact po_none.run pins s σ H Q I (f none ia F H (Post.refl S) rfl)
  | some e => by
    refine ⟨fun pins s σ H Q I ⟨ia, F, h, ρ, S, E, f⟩ => ?_⟩
    refine (po_some (he e)).run pins s σ H Q I ⟨ia, F, h, ρ, S, E, f.seq fun x H1 da ja F1 h1 p1 r1 f1 => ?_⟩
    split at f1
    · simp only [Rep] at r1
      exact ⟨_, r1, f1 _ ja F1 H1 (Post.refl p1.sim) rfl⟩
    · exact f1.elim
theorem isM1_some {st : Expr} (h : isM1 st = true) : ∃ k p1 p2, st = .UnaryOp .USub (.Constant (.int 1) k p1) p2 := by
  unfold isM1 at h
  split at h
  · exact ⟨_, _, _, rfl⟩
  · cases h
theorem RepL.rv {ia : List Addr} {F : Hp} : ∀ {ds : List Vl} {vs : List V}, RepL K cls ia F ds vs → RepL K cls ia F ds.reverse vs.reverse
  | [], vs, r => by
    simp only [RepL] at r
    subst r
    exact RepL.nil
  | d :: ds, vs, r => by
    simp only [RepL] at r
    obtain ⟨v, ws, rfl, r1, r2⟩ := r
    rw [List.reverse_cons, List.reverse_cons]
    exact RepL.append (RepL.rv r2) (RepL.cons r1 RepL.nil)
theorem revV_ok {ia : List Addr} {F H : Hp} {h : Hs} {d z : Vl} {x : V} {Q : VK} (S : Sim K cls ia F h H) (e : revV d = some z) (r : Rep K cls ia F d x) (q : ∀ (b : V) (ja : List Addr) (F' H' : Hp), Post K cls ia F H ja F' h H' → Rep K cls ja F' z b → Q b H') : rRevG K x H Q := by
  unfold revV at e
  split at e
  · cases e
    simp only [Rep] at r
    obtain ⟨a, vs, rfl, sq, rl⟩ := r
    refine .inl ⟨a, vs, rfl, sqL_mono S.sub sq, fun p hp => ?_⟩
    have pq := Post.frozen S hp (.lst vs.reverse)
    refine q _ _ _ _ pq ?_
    simp only [Rep]
    exact ⟨p, vs.reverse, rfl, .inl (.inl upd_same), (rl.rv).post pq⟩
  · cases e
    simp only [Rep] at r
    obtain ⟨a, vs, rfl, sq, rl⟩ := r
    refine .inr (.inl ⟨a, vs, rfl, sqT_mono S.sub sq, fun p hp => ?_⟩)
    have pq := Post.frozen S hp (.tup vs.reverse)
    refine q _ _ _ _ pq ?_
    simp only [Rep]
    exact ⟨p, vs.reverse, rfl, .inl (.inl upd_same), (rl.rv).post pq⟩
  · split at e
    · rename_i hz
      cases e
      simp only [Rep] at r
      exact .inr (.inr ⟨_, r, hz, q _ ia F H (Post.refl S) (by simp only [Rep])⟩)
    · cases e
  · cases e
theorem a_sub (PO : PrOk P w K mg base cls G k) (c : CxOk P w K mg base k X W C) (he : ∀ e, PE X e (tE K cls W G n C e)) : PE X (.Subscript a b pos) (tE K cls W G (n + 1) C (.Subscript a b pos)) := by
  have hK := c.K
  subst hK
  have pl : (∀ lo hi st p, b ≠ .Slice lo hi st p) → PE X (.Subscript a b pos) (tE X.K cls W G (n + 1) C (.Subscript a b pos)) := by
    intro hb
    refine ⟨fun pins s σ H Q I ⟨ia, F, h, ρ, S, E, f⟩ => ?_⟩
    have f' : Fin X.K cls W σ ia F H ((evE G n C a ρ h).bind fun x h => (evE G n C b ρ h).bind fun y h => idxG G x y h) (Rep X.K cls) Q := by
      cases b <;> first | exact f | exact absurd rfl (hb _ _ _ _)
    have hs : PlainIx b := by
      intro o i
      cases b <;> first | rfl | exact absurd rfl (hb _ _ _ _)
    refine Subscript_ (binT (he a) (he b) I (R := fun x y H2 => ∃ da db ja F' h', Sim X.K cls ja F' h' H2 ∧ Rep X.K cls ja F' da x ∧ Rep X.K cls ja F' db y ∧ Fin X.K cls W σ ja F' H2 (idxG G da db h') (Rep X.K cls) Q)
      ⟨ia, F, h, ρ, S, E, f'.seq fun x H1 da ja F1 h1 p1 r1 f1 => ⟨ja, F1, h1, ρ, p1.sim, EnvR.mono p1 E, f1.seq fun y H2 db ka F2 h2 p2 r2 f2 => ⟨da, db, ka, F2, h2, p2.sim, r1.post p2, r2, f2⟩⟩⟩ ?_)
    rintro v u s2 x y H2 I2 rx ry ⟨da, db, ja, F', h', S2, r1, r2, f2⟩
    unfold idxG at f2
    split at f2
    · rename_i cn fs hi
      split at f2
      · rename_i hh
        obtain ⟨p, Ca, dx, gs, rfl, hc, ea, rf⟩ := insOf_ok S2 hi r1
        obtain rfl : v = Value.ref p := rx
        obtain ⟨g, hg, hf, hfn, hcall⟩ := PO.spc cn "__getitem__" Ca hh hc
        obtain ⟨_, run⟩ := hcall X W C c
        obtain ⟨mA, O, _, _, _, _⟩ := ins_get I2.hok ea
        obtain ⟨od, J, _⟩ := O.look
        obtain ⟨m, hF⟩ := I2.fr
        have go := run X.A.in1 (.inr (.inl rfl)) pins s2 σ H2 ja F' h' [da, db] [.ref p, y] [.ref p, u] Q I2 S2 (RepL.cons r1 (RepL.cons r2 RepL.nil)) (.cons rfl (.cons ry .nil)) f2
        exact PySem.W.sub_K hF I2.ok.mod.kin J hg hfn hf go (by cases b <;> first | with_unfolding_all rfl | exact absurd rfl (hb _ _ _ _))
      · exact f2.elim
    · obtain ⟨z, ez, q⟩ := f2.of_some
      exact ix_seq a b pins s2 σ H2 x y v u Q I2 rx ry (idxV_ok S2 ez r1 r2 q) (hs _ _)
  by_cases hb : ∃ lo hi st p, b = .Slice lo hi st p
  case neg => exact pl fun lo hi st p z => hb ⟨lo, hi, st, p, z⟩
  obtain ⟨lo, hi, st, p, rfl⟩ := hb
  cases st with
  | some st =>
    cases lo with
    | some _ => exact ⟨fun pins s σ H Q I ⟨ia, F, h, ρ, S, E, f⟩ => f.elim⟩
    | none =>
      cases hi with
      | some _ => exact ⟨fun pins s σ H Q I ⟨ia, F, h, ρ, S, E, f⟩ => f.elim⟩
      | none =>
        refine ⟨fun pins s σ H Q I ⟨ia, F, h, ρ, S, E, f⟩ => ?_⟩
        simp only [evE] at f
        split at f
        · rename_i hm
          obtain ⟨k, p1, p2, rfl⟩ := isM1_some hm
          refine (pe_revG (he a)).run pins s σ H Q I ⟨ia, F, h, ρ, S, E, f.seq fun x H1 da ja F1 h1 p1 r1 f1 => ?_⟩
          obtain ⟨z, ez, q⟩ := f1.of_some
          exact revV_ok p1.sim ez r1 q
        · exact f.elim
  | none =>
    refine ⟨fun pins s σ H Q I ⟨ia, F, h, ρ, S, E, f⟩ => ?_⟩
    simp only [evE] at f
    refine (pe_slice sl_W (he a) (a_opt c he lo) (a_opt c he hi)).run pins s σ H Q I ⟨ia, F, h, ρ, S, E, f.seq fun x H1 da ja F1 h1 p1 r1 f1 => ⟨ja, F1, h1, ρ, p1.sim, EnvR.mono p1 E, f1.seq fun l H2 dl ka F2 h2 p2 r2 f2 =>
      ⟨ka, F2, h2, ρ, p2.sim, EnvR.mono p2 (EnvR.mono p1 E), f2.seq fun u H3 du la F3 h3 p3 r3 f3 => ?_⟩⟩⟩
    obtain ⟨z, ez, q⟩ := f3.of_some
    have e2 : dl = l := r2
    have e3 : du = u := r3
    subst e2 e3
    exact sliceV_ok p3.sim ez ((r1.post p2).post p3) q

/-! ### f-strings -/
def tPt (K : PySem.W.Frag) (cls : Str → Option Addr) (W : WX) (G : Gt) (n : Nat) (C : St0) (e : Expr) : TE := fun σ H Q =>
  ∃ (ia : List Addr) (F : Hp) (h : Hs) (ρ : Env), Sim K cls ia F h H ∧ EnvR K cls ia F σ ρ ∧ Fin K cls W σ ia F H (evPart (fun e h => evE G n C e ρ h) e h) (fun _ _ y v => v = V.str y) Q
theorem pe_fmtA {te : TE} {e : Expr} (he : PE X e te) : PE X (.FormattedValue e (-1) none pos) (fun σ H Q => te σ H fun x H1 => (∃ y : Str, x = .str y ∧ y.length ≤ sizeLine ∧ Q (.str y) H1) ∨ (∃ i : Int, x = .int i ∧ i.natAbs.log2 < 1920 ∧ Q (.str (toString i)) H1) ∨ ∃ b : Bool, x = .bl b ∧ Q (.str (bTx b)) H1) := by
  refine ⟨fun pins s σ H Q I h => ?_⟩
  refine wpAny_FormattedValue_plain (thn (he.run pins s σ H _ I h) fun v s1 hv => ?_)
  obtain ⟨x, H1, I1, r1, q⟩ := hv
  rcases q with ⟨y, rfl, hz, q⟩ | ⟨i, rfl, hz, q⟩ | ⟨b, rfl, q⟩
  · obtain ⟨t, rfl⟩ := r1
    exact wpAny_formatField_str ⟨.str y, H1, I1, ⟨t, rfl⟩, q⟩ ⟨.str y, H1, I1.tok _, ⟨_, rfl⟩, q⟩ hz
  · obtain ⟨t, rfl⟩ := r1
    exact wpAny_formatField_int hz ⟨.str (toString i), H1, I1.tok _, ⟨_, rfl⟩, q⟩
  · cases r1
    cases b
    · exact wpAny_formatField_bool ⟨.str _, H1, I1.tok _, ⟨_, rfl⟩, q⟩
    · exact wpAny_formatField_bool ⟨.str _, H1, I1.tok _, ⟨_, rfl⟩, q⟩
theorem pe_fmtRA (hg : X.A.guards = some []) (hu : X.A.units + 66 < cLine) {te : TE} {e : Expr} (he : PE X e te) : PE X (.FormattedValue e 114 none pos) (fun σ H Q => te σ H fun x H1 => ∃ d, Dp X.K H1 x d ∧ d.showable = true ∧ d.shown.length ≤ sizeLine ∧ SeqAt.shaped d = true ∧ Q (.str d.shown) H1) := by
  refine ⟨fun pins s σ H Q I h => ?_⟩
  refine wpAny_FormattedValue_repr (thn (he.run pins s σ H _ I h) fun v s1 hv => ?_)
  obtain ⟨x, H1, I1, r1, d, hd, hs, hz, hp, q⟩ := hv
  obtain ⟨as, rd⟩ := Dp.reads I1 d x v hd r1
  have hdep := SeqAt.depth_of_shaped hp
  have hnd : d.hasDict = false := PyData.hasDict_of_canLay d (SeqAt.canLay_of_shaped hp)
  have fin : ∀ (h' : Heap) (u tk : Tok), (∀ b o, s1.heap.get? b = some o → h'.get? b = some o) → wpAny (model X.prog X.w) X.A (formatField (.str d.shown u) Str.empty) (EP X pins σ Q) X.xe { s1 with heap := h', toks := tk } :=
    fun h' u tk k => wpAny_formatField_str ⟨.str d.shown, H1, I1.kept k, ⟨u, rfl⟩, q⟩ ⟨.str d.shown, H1, I1.kept k, ⟨_, rfl⟩, q⟩ hz
  cases d with
  | none =>
    cases hd
    cases r1
    refine pyReprObj_none ?_
    have := fin s1.heap s1.toks (s1.toks + 1) fun _ _ e => e
    simpa only [PyData.shown] using this
  | bool b =>
    cases hd
    cases r1
    refine pyReprObj_bool ?_
    have := fin s1.heap s1.toks (s1.toks + 1) fun _ _ e => e
    simpa only [PyData.shown] using this
  | int i =>
    cases hd
    obtain ⟨t, rfl⟩ := r1
    refine pyReprObj_int (by simpa [PyData.showable] using hs) ?_
    have := fin s1.heap s1.toks (s1.toks + 1) fun _ _ e => e
    simpa only [PyData.shown] using this
  | str z =>
    cases hd
    obtain ⟨t, rfl⟩ := r1
    refine pyReprObj_str ?_ (by simpa only [PyData.shown] using hz)
    have := fin s1.heap s1.toks (s1.toks + 1) fun _ _ e => e
    simpa only [PyData.shown] using this
  | list ds =>
    cases hd with
    | lst _ _ =>
      cases r1
      exact pyReprObj_of_reads rd hs (PyData.noDict_hsm hnd) hg (by omega) (fun _ _ e => e) (fun h' u tk k => fin h' u tk k) hz
  | tuple ds =>
    cases hd with
    | tup _ _ =>
      cases r1
      exact pyReprObj_of_reads rd hs (PyData.noDict_hsm hnd) hg (by omega) (fun _ _ e => e) (fun h' u tk k => fin h' u tk k) hz
  | dict _ => cases hd
theorem a_part (c : CxOk P w K mg base k X W C) (he : ∀ e, PE X e (tE K cls W G n C e)) (e : Expr) : PE X e (tPt K cls W G n C e) := by
  have hK := c.K
  subst hK
  refine ⟨fun pins s σ H Q I ⟨ia, F, h, ρ, S, E, f⟩ => ?_⟩
  unfold evPart at f
  split at f
  · exact pe_str.run pins s σ H Q I (f _ ia F H (Post.refl S) rfl)
  · rename_i e' cv p _
    split at f
    · rename_i hcv
      have f1 := Fin.bind (R0 := Rep X.K cls) f
      have go : ∀ (x : V) (H1 : Hp), (∃ a ja F1 h1, Post X.K cls ia F H ja F1 h1 H1 ∧ Rep X.K cls ja F1 a x ∧ Fin X.K cls W σ ja F1 H1 (Rs.of (fmtV cv a) h1) (fun _ _ y v => v = V.str y) Q) →
          (cv = -1 ∧ ((∃ y : Str, x = .str y ∧ y.length ≤ sizeLine ∧ Q (.str y) H1) ∨ (∃ i : Int, x = .int i ∧ i.natAbs.log2 < 1920 ∧ Q (.str (toString i)) H1) ∨ ∃ b : Bool, x = .bl b ∧ Q (.str (bTx b)) H1)) ∨
          (cv = 114 ∧ ∃ d, Dp X.K H1 x d ∧ d.showable = true ∧ d.shown.length ≤ sizeLine ∧ SeqAt.shaped d = true ∧ Q (.str d.shown) H1) := by
        rintro x H1 ⟨da, ja, F1, h1, p1, r1, f1⟩
        obtain ⟨y, ey, q⟩ := f1.of_some
        have qq : Q (.str y) H1 := q _ ja F1 H1 (Post.refl p1.sim) rfl
        rcases fmtV_ok ey with ⟨e1, ⟨z, ed, hz, e2⟩ | ⟨i, ed, hz, e2⟩ | ⟨b, ed, e2⟩⟩ | ⟨e1, d, ed, z1, z2, z3, e2⟩
        · subst ed e2; simp only [Rep] at r1; subst r1
          exact .inl ⟨e1, .inl ⟨_, rfl, hz, qq⟩⟩
        · subst ed e2; simp only [Rep] at r1; subst r1
          exact .inl ⟨e1, .inr (.inl ⟨_, rfl, hz, qq⟩)⟩
        · subst ed e2; simp only [Rep] at r1; subst r1
          exact .inl ⟨e1, .inr (.inr ⟨_, rfl, qq⟩)⟩
        · subst e2
          exact .inr ⟨e1, d, toPD_ok (X := X) p1.sim.sub da x d ed r1, z1, z2, z3, qq⟩
      rcases hcv with h1 | h2
      · subst h1
        refine (pe_fmtA (he e')).run pins s σ H Q I ⟨ia, F, h, ρ, S, E, f1.mono fun x H1 hx => ?_⟩
        rcases go x H1 hx with ⟨_, q⟩ | ⟨z, _⟩
        · exact q
        · exact absurd z (by decide)
      · subst h2
        refine (pe_fmtRA c.gu c.units (he e')).run pins s σ H Q I ⟨ia, F, h, ρ, S, E, f1.mono fun x H1 hx => ?_⟩
        rcases go x H1 hx with ⟨z, _⟩ | ⟨_, q⟩
        · exact absurd z (by decide)
        · exact q
    · exact f.elim
  · exact f.elim
theorem tJs_of (c : CxOk P w K mg base k X W C) {σ : L2.St} {ρ : Env} : ∀ (es : List Expr) (acc : Str) (ia : List Addr) (F H : Hp) (h : Hs) (Q : Str → Hp → Prop), Sim K cls ia F h H → EnvR K cls ia F σ ρ → Fin K cls W σ ia F H (evJ (fun e h => evE G n C e ρ h) es acc h) eqR Q → tJs (es.map (tPt K cls W G n C)) acc σ H Q
  | [], acc, ia, F, H, h, Q, S, E, f => f acc ia F H (Post.refl S) rfl
  | e :: es, acc, ia, F, H, h, Q, S, E, f => by
    refine ⟨ia, F, h, ρ, S, E, f.seq fun x H1 y ja F1 h1 p1 r1 f1 => ?_⟩
    split at f1
    · rename_i hz
      exact ⟨y, r1, hz, tJs_of c es _ ja F1 H1 h1 Q p1.sim (EnvR.mono p1 E) f1⟩
    · exact f1.elim
theorem pj_all (c : CxOk P w K mg base k X W C) (he : ∀ e, PE X e (tE K cls W G n C e)) : ∀ es : List Expr, PJ X es (es.map (tPt K cls W G n C))
  | [] => .nil
  | e :: es => .cons (a_part c he e) (pj_all c he es)
theorem a_join (c : CxOk P w K mg base k X W C) (he : ∀ e, PE X e (tE K cls W G n C e)) {es : List Expr} : PE X (.JoinedStr es pos) (tE K cls W G (n + 1) C (.JoinedStr es pos)) := by
  match es with
  | [] => exact ⟨fun pins s σ H Q I ⟨ia, F, h, ρ, S, E, f⟩ => by
      simp only [evE] at f
      exact f.elim⟩
  | [e] =>
    refine ⟨fun pins s σ H Q I ⟨ia, F, h, ρ, S, E, f⟩ => ?_⟩
    simp only [evE] at f
    refine (pe_joined1 (a_part c he e)).run pins s σ H Q I ⟨ia, F, h, ρ, S, E, f.seq fun x H1 y ja F1 h1 p1 r1 f1 => ?_⟩
    have r1' : x = V.str y := r1
    subst r1'
    exact f1 _ ja F1 H1 (Post.refl p1.sim) (by simp only [Rep])
  | e :: e2 :: es =>
    refine ⟨fun pins s σ H Q I ⟨ia, F, h, ρ, S, E, f⟩ => ?_⟩
    simp only [evE] at f
    refine (pe_joined (pj_all c he (e :: e2 :: es))).run pins s σ H Q I (tJs_of c _ _ ia F H h _ S E (f.seq fun y H1 z ja F1 h1 p1 r1 f1 => ?_))
    have r1' : z = y := r1
    subst r1'
    exact f1 _ ja F1 H1 (Post.refl p1.sim) (by simp only [Rep])
end
end Wd

set_option Elab.async false
set_option linter.all false
set_option maxRecDepth 100000
namespace Wd
open PySem PySem.Spec PyProof.Rows L2

section
variable {P : Program} {w : World} {K : PySem.W.Frag} {mg : Str → Option Value} {base : Heap} {cls : Str → Option Addr} {G : Gt} {k : Nat} {X : Cx} {W : WX} {C : St0} {n : Nat} {pos : Pos}
variable {a b e d : Expr}
/-! ### the arguments of a call -/
theorem a_kws (c : CxOk P w K mg base k X W C) (he : ∀ e, PE X e (tE K cls W G n C e)) : ∀ kws : List Keyword, PK X kws (tK K cls W G n C kws)
  | [] => ⟨fun pos pins s σ H Q I ⟨ia, F, h, ρ, S, E, f⟩ => pk_nil.run pos pins s σ H Q I (f [] ia F H (Post.refl S) RepL.nil)⟩
  | ⟨nm, e, q⟩ :: kws => by
    refine ⟨fun pos pins s σ H Q I ⟨ia, F, h, ρ, S, E, f⟩ => ?_⟩
    refine (pk_cons (he e) (a_kws c he kws)).run pos pins s σ H Q I ⟨ia, F, h, ρ, S, E, f.seq fun x H1 da ja F1 h1 p1 r1 f1 => ?_⟩
    exact ⟨ja, F1, h1, ρ, p1.sim, EnvR.mono p1 E, f1.seq fun vs H2 ds ka F2 h2 p2 r2 f2 => f2 _ ka F2 H2 (Post.refl p2.sim) (RepL.cons (r1.post p2) r2)⟩
theorem evK_len {f : Expr → Hs → Rs Vl} : ∀ {kws : List Keyword} {h h1 : Hs} {ws : List Vl}, evK f kws h = .ok ws h1 → ws.length = kws.length
  | [], h, h1, ws, e => by cases e; rfl
  | q :: kws, h, h1, ws, e => by
    unfold evK at e
    cases e1 : f q.value h with
    | no => rw [e1] at e; cases e
    | rz _ _ => rw [e1] at e; cases e
    | ok v h2 =>
      rw [e1] at e
      simp only [Rs.bind_ok] at e
      cases e2 : evK f kws h2 with
      | no => rw [e2] at e; cases e
      | rz _ _ => rw [e2] at e; cases e
      | ok vs h3 =>
        rw [e2] at e
        cases e
        rw [List.length_cons, List.length_cons, evK_len e2]
theorem kwNames_len : ∀ {kws : List Keyword} {ks : List Str}, kwNames kws = some ks → ks.length = kws.length
  | [], ks, e => by cases e; rfl
  | q :: kws, ks, e => by
    unfold kwNames at e
    split at e
    · rename_i x xs h1 h2
      cases e
      rw [List.length_cons, List.length_cons, kwNames_len h2]
    · cases e
theorem kw_all {env : PySem.Env} : ∀ {kws : List Keyword} {ks : List Str}, kwNames kws = some ks → (backToKw pos (keywordEach kws env)).all (·.1.isSome) = true ∧ (backToKw pos (keywordEach kws env)).filterMap (·.1) = ks ∧ (backToKw pos (keywordEach kws env)).any (·.1.isNone) = false
  | [], ks, e => by cases e; exact ⟨rfl, rfl, rfl⟩
  | ⟨nm, v, q⟩ :: kws, ks, e => by
    unfold kwNames at e
    split at e
    · rename_i x xs h1 h2
      cases e
      have h1' : nm = some x := h1
      subst h1'
      obtain ⟨a1, a2, a3⟩ := kw_all (env := env) h2
      have e0 : backToKw pos (keywordEach (⟨some x, v, q⟩ :: kws) env) = (some x, do let u ← eval v env; standAt pos; pure u) :: backToKw pos (keywordEach kws env) := rfl
      rw [e0]
      refine ⟨by rw [List.all_cons, a1]; rfl, ?_, by rw [List.any_cons, a3]; rfl⟩
      rw [List.filterMap_cons, a2]
    · cases e
theorem star_any_eq {env : PySem.Env} : ∀ es : List Expr, (backTo pos (starEach es env)).any (·.1) = es.any isStar
  | [] => rfl
  | e :: es => by
    have ih := star_any_eq (env := env) es
    rw [List.any_cons, ← ih]
    cases hs : isStar e with
    | false => rw [star_no hs]; rfl
    | true =>
      obtain ⟨e, p, rfl⟩ : ∃ e' p, e = .Starred e' p := by
        cases e <;> first | exact ⟨_, _, rfl⟩ | cases hs
      rfl
theorem star_all_eq {env : PySem.Env} : ∀ {es : List Expr}, es.any isStar = false → (backTo pos (starEach es env)).all (fun x => !x.1) = true
  | [], _ => rfl
  | e :: es, h => by
    rw [List.any_cons, Bool.or_eq_false_iff] at h
    rw [star_no h.1]
    show (!false && (backTo pos (starEach es env)).all (fun x => !x.1)) = true
    rw [star_all_eq h.2]; rfl
theorem clV_some {v : Vl} {c : Str} (e : clV v = some c) : v = .cl c := by
  cases v <;> first | (cases e; rfl) | cases e
theorem clOf_some {v : Vl} {c : Str} (e : clOf G v = some c) : v = .cl c ∧ G.glob c = some (.cl c) := by
  unfold clOf at e
  cases hv : clV v with
  | none => rw [hv] at e; cases e
  | some c' =>
    rw [hv] at e
    simp only [Option.bind_some] at e
    cases hg : G.glob c' with
    | none => rw [hg] at e; cases e
    | some d =>
      rw [hg] at e
      simp only [Option.bind_some] at e
      cases hd : clV d with
      | none => rw [hd] at e; cases e
      | some d' =>
        rw [hd] at e
        simp only at e
        split at e
        · rename_i eq
          cases e
          subst eq
          exact ⟨clV_some hv, by rw [hg, clV_some hd]⟩
        · cases e
/-- a call of a value of the module, first ahead of the written arguments -/
theorem call_with (c : CxOk P w K mg base k X W C) (he : ∀ e, PE X e (tE K cls W G n C e)) {pins : List (Addr × Obj)} {s : Shared} {σ : L2.St} {H : Hp} {ia : List Addr} {F : Hp} {h : Hs} {ρ : Env} {Q : VK} {u : Value} {es : List Expr} {kws : List Keyword}
    {m : List Vl → List Str → List Vl → Hs → Rs Vl} (I : Inv X pins σ H s) (S : Sim K cls ia F h H) (E : EnvR K cls ia F σ ρ) (hs : starOk es kws = true) (hu : PySem.W.keepIn K u = true) (fi : List Vl) (fv : List V) (fu : List Value) (rf : RepL K cls ia F fi fv) (rv : Vals fv fu)
    (hc : CallOk X cls W u m) (f : Fin K cls W σ ia F H (evArgs (fun e h => evE G n C e ρ h) es kws h fun vs ks ws h => m (fi ++ vs) ks ws h) (Rep K cls) Q) :
    wpAny (model X.prog X.w) X.A (callWith pos u fu (backTo pos (starEach es X.env)) (backToKw pos (keywordEach kws X.env))) (EP X pins σ Q) X.xe s := by
  have hK := c.K
  subst hK
  unfold evArgs at f
  cases hks : kwNames kws with
  | none => rw [hks] at f; exact f.elim
  | some ks =>
    rw [hks] at f
    obtain ⟨k1, k2, k3⟩ := kw_all (pos := pos) (env := X.env) hks
    have core : ∀ (us : List Value) (s1 : Shared) (vs : List V) (H1 : Hp) (ds : List Vl) (ja : List Addr) (F1 : Hp) (h1 : Hs), Inv X pins σ H1 s1 → Post X.K cls ia F H ja F1 h1 H1 → RepL X.K cls ja F1 ds vs → Vals vs us →
        Fin X.K cls W σ ja F1 H1 ((evK (fun e h => evE G n C e ρ h) kws h1).bind fun ws h => m (fi ++ ds) ks ws h) (Rep X.K cls) Q →
        wpAny (model X.prog X.w) X.A (evalAll ((backToKw pos (keywordEach kws X.env)).map (·.2))) (fun ws s2 => X.K.In s2.heap ∧ wpAny (model X.prog X.w) X.A (call u (fu ++ us) (((backToKw pos (keywordEach kws X.env)).filterMap (·.1)).zip ws)) (EP X pins σ Q) X.xe s2) X.xe s1 := by
      intro us s1 vs H1 ds ja F1 h1 I1 p1 r1 rv1 f1
      refine thn ((a_kws c he kws).run pos pins s1 σ H1 (fun zs H2 => ∃ es ka F2 h2, es.length = kws.length ∧ Post X.K cls ja F1 H1 ka F2 h2 H2 ∧ RepL X.K cls ka F2 es zs ∧ Fin X.K cls W σ ka F2 H2 (m (fi ++ ds) ks es h2) (Rep X.K cls) Q) I1
        ⟨ja, F1, h1, ρ, p1.sim, EnvR.mono p1 E, ?_⟩) ?_
      · cases hm : evK (fun e h => evE G n C e ρ h) kws h1 with
        | no => rw [hm] at f1; exact f1.elim
        | rz ex h2 => rw [hm] at f1; exact f1
        | ok ws h2 => rw [hm] at f1; exact fun b ka F2 H2 p r => ⟨ws, ka, F2, h2, evK_len hm, p, r, Fin.post p f1⟩
      · rintro ws s2 ⟨zs, H2, I2, rz, es', ka, F2, h2, hl, p2, r2, f2⟩
        rw [k2]
        refine ⟨I2.kIn, hc pins s2 σ H2 ka F2 h2 (fi ++ ds) ks es' (fv ++ vs) zs (fu ++ us) ws Q I2 p2.sim (RepL.append ((rf.post p1).post p2) (r1.post p2)) r2 (rv.append rv1) rz ?_ f2⟩
        rw [kwNames_len hks, hl]
    cases es with
    | nil =>
      refine PySem.W.callWith_KW0 (h₀ := X.base) I.ok.mod.kin hu k1 (core [] s [] H [] ia F h I (Post.refl S) RepL.nil .nil f) ?_
      rw [k3]; rfl
    | cons e r =>
      have hs' : (isStar e = false ∧ (r.any isStar = false ∨ kws.isEmpty = true)) ∨ ((isStar e = true ∧ r = []) ∧ kws = []) := by
        rcases Bool.or_eq_true_iff.mp hs with z | z
        · left; simpa [-List.any_eq_true, -List.any_eq_false] using z
        · right
          obtain ⟨z1, z2⟩ := Bool.and_eq_true_iff.mp z
          obtain ⟨z3, z4⟩ := Bool.and_eq_true_iff.mp z1
          exact ⟨⟨z3, List.isEmpty_iff.mp z4⟩, List.isEmpty_iff.mp z2⟩
      rcases hs' with hs' | ⟨⟨hs1, rfl⟩, rfl⟩
      rotate_left
      · cases hks
        obtain ⟨e, p, rfl⟩ : ∃ e' p, e = .Starred e' p := by
          cases e <;> first | exact ⟨_, _, rfl⟩ | cases hs1
        simp only [evL] at f
        rw [Rs.bind_assoc] at f
        refine PySem.W.callWith_S (h₀ := X.base) I.ok.mod.kin hu (thn ((he e).run pins s σ H _ I ⟨ia, F, h, ρ, S, E, Fin.bind (R0 := Rep X.K cls) f⟩) ?_) rfl
        rintro u1 s1 ⟨x, H1, I1, rx, da, ja, F1, h1, p1, r1, f1⟩
        cases hi : itemsV h1 da with
        | none => rw [hi] at f1; exact f1.elim
        | some xs =>
          rw [hi] at f1
          simp only [evL, evK, Rs.bind_ok, List.append_nil] at f1
          obtain ⟨a, ws, rfl, rr, sq⟩ := itemsV_ok p1.sim hi r1
          obtain rfl : u1 = Value.ref a := rx
          refine StX.star_any I1 sq.symm fun us s2 I2 rv2 => ?_
          exact ⟨I2.kIn, hc pins s2 σ H1 ja F1 h1 (fi ++ xs) [] [] (fv ++ ws) [] (fu ++ us) [] Q I2 p1.sim (RepL.append (rf.post p1) rr) RepL.nil (rv.append rv2) .nil rfl f1⟩
      obtain ⟨hs1, hs2⟩ := hs'
      cases hst : r.any isStar with
      | false =>
        refine PySem.W.callWith_KW (h₀ := X.base) I.ok.mod.kin hu k1 (thn ((a_args c he (e :: r)).run pos pins s σ H _ I ⟨ia, F, h, ρ, S, E, Fin.bind (R0 := RepL X.K cls) f⟩) ?_) ?_ (star_no hs1)
        · rintro us s1 ⟨vs, H1, I1, rv1, ds, ja, F1, h1, p1, r1, f1⟩
          exact core us s1 vs H1 ds ja F1 h1 I1 p1 r1 rv1 f1
        · rw [k3, star_any_eq, List.any_cons, hs1, hst]; rfl
      | true =>
        have hkn : kws = [] := by
          rcases hs2 with z | z
          · rw [hst] at z; cases z
          · exact List.isEmpty_iff.mp z
        subst hkn
        cases hks
        refine PySem.W.callWith_S2 (h₀ := X.base) I.ok.mod.kin hu (thn ((a_args c he (e :: r)).run pos pins s σ H _ I ⟨ia, F, h, ρ, S, E, Fin.bind (R0 := RepL X.K cls) f⟩) ?_) (star_no hs1) ?_
        · rintro us s1 ⟨vs, H1, I1, rv1, ds, ja, F1, h1, p1, r1, f1⟩
          exact ⟨I1.kIn, hc pins s1 σ H1 ja F1 h1 (fi ++ ds) [] [] (fv ++ vs) [] (fu ++ us) [] Q I1 p1.sim (RepL.append (rf.post p1) r1) RepL.nil (rv.append rv1) .nil rfl f1⟩
        · rw [star_any_eq]; exact hst
/-! ### built-in functions of own instances -/
section
open PySem.W
variable {prog : Program} {A : Around} {E : Value → Shared → Prop} {s : Shared} {Ca g x : Addr} {ox : Obj} {od : Option Obj} {Qv : Value → Shared → Prop}
theorem len_W (Xk : K.In s.heap) (I : InstAt s.heap x ox Ca od) (hs : findIn K (.ref Ca) "__len__" = some (some (.ref g))) (hf : isFn K (.ref g) = true)
    (h : wpAny (model prog w) A.in1 (PySem.call (.ref g) [.ref x]) (PySem.W.LenBack Qv) E s) : wpAny (model prog w) A (PySem.call (.builtin "len") [.ref x]) Qv E s := by
  refine Calls.call_function_entry kind_len plain_len entry_len (args_len1 _) ?_
  unfold Builtin.«len»
  refine wpAny_bind (m := oneArg "len" _) (wpAny_pure ?_)
  refine wpAny_bind (m := callSpecial? (.ref x) (Str.ofString "__len__")) (special_fn Xk I hs (beq_iff_eq.mp hf) (wpAny_mono h (fun r s' hr => ?_) fun _ _ y => y))
  cases r <;> first | exact hr.elim | skip
  rename_i n u
  obtain ⟨⟨h0, h1⟩, hq⟩ := hr
  refine wpAny_bind (wpAny_holding (wpAny_pure ?_))
  refine wpAny_bind (wpAny_letGo ?_)
  show wpAny _ _ (if n < 0 then _ else _) _ _ _
  rw [if_neg (by omega)]
  show wpAny _ _ (if n ≥ 2 ^ 63 then _ else _) _ _ _
  rw [if_neg (by omega)]
  exact wpAny_bind (wpAny_mkInt (wpAny_pure ⟨_, rfl, hq⟩))
theorem repr_W (hu : A.in1.units < cLine) (Xk : K.In s.heap) (I : InstAt s.heap x ox Ca od) (hs : findIn K (.ref Ca) "__repr__" = some (some (.ref g))) (hf : isFn K (.ref g) = true)
    (h : wpAny (model prog w) A.in1 (PySem.call (.ref g) [.ref x]) (PySem.W.StrBack Qv) E s) : wpAny (model prog w) A (PySem.call (.builtin "repr") [.ref x]) Qv E s := by
  refine Calls.call_function_entry PySem.F.kind_repr PySem.F.plain_repr PySem.F.entry_repr (PySem.F.args_repr1 _) ?_
  unfold Builtin.«repr»
  refine wpAny_bind (m := oneArg "repr" _) (wpAny_pure ?_)
  refine wpAny_bind (wpAny_cRoomFor hu ?_)
  refine wpAny_bind (wpAny_bind (I.type.here ((looks_findIn Xk hs).here ?_)))
  show wpAny _ _ (if (some (Value.ref g)).isNone = true then _ else _) _ _ _
  rw [if_neg (by simp)]
  refine wpAny_bind (m := callSpecialIfBound? (.ref x) (Str.ofString "__repr__") _) (ifBound_K Xk I hs hf (wpAny_mono h (fun r s' hr => ?_) fun _ _ y => y))
  cases r <;> first | exact hr.elim | skip
  refine wpAny_bind (wpAny_isInstance (typeIs_str _ _ _) isSubtype_str_str ?_)
  first
    | exact wpAny_pure ⟨_, rfl, hr⟩
    | (rw [if_pos rfl]; exact wpAny_pure ⟨_, rfl, hr⟩)
    | (simp only [if_true]; exact wpAny_pure ⟨_, rfl, hr⟩)
theorem len_B (Xk : K.In s.heap) (I : InstAt s.heap x ox Ca od) (hs : findIn K (.ref Ca) "__len__" = some (some (.ref g))) (hf : isFn K (.ref g) = true)
    (h : wpAny (model prog w) A (PySem.call (.ref g) [.ref x]) (PySem.W.LenBack Qv) E s) : wpAny (model prog w) A (Builtin.«len» ⟨[.ref x], []⟩) (fun f s' => ∃ r, f = .done (.ret r) ∧ Qv r s') E s := by
  unfold Builtin.«len»
  refine wpAny_bind (m := oneArg "len" _) (wpAny_pure ?_)
  refine wpAny_bind (m := callSpecial? (.ref x) (Str.ofString "__len__")) (special_fn Xk I hs (beq_iff_eq.mp hf) (wpAny_mono h (fun r s' hr => ?_) fun _ _ y => y))
  cases r <;> first | exact hr.elim | skip
  rename_i n u
  obtain ⟨⟨h0, h1⟩, hq⟩ := hr
  refine wpAny_bind (wpAny_holding (wpAny_pure ?_))
  refine wpAny_bind (wpAny_letGo ?_)
  show wpAny _ _ (if n < 0 then _ else _) _ _ _
  rw [if_neg (by omega)]
  show wpAny _ _ (if n ≥ 2 ^ 63 then _ else _) _ _ _
  rw [if_neg (by omega)]
  exact wpAny_bind (wpAny_mkInt (wpAny_pure ⟨_, rfl, hq⟩))
theorem truthy_W {Qb : Bool → Shared → Prop} (Xk : K.In s.heap) (I : InstAt s.heap x ox Ca od) (hb : findIn K (.ref Ca) "__bool__" = some none) (hs : findIn K (.ref Ca) "__len__" = some (some (.ref g))) (hf : isFn K (.ref g) = true)
    (h : wpAny (model prog w) A.in1 (PySem.call (.ref g) [.ref x]) (PySem.W.LenBack fun r s' => ∃ n t, r = .int n t ∧ Qb (n != 0) s') E s) : wpAny (model prog w) A (truthy (.ref x)) Qb E s := by
  have key : wpAny (model prog w) A (runValue (.builtin "len" ⟨[.ref x], []⟩)) (fun r s' => ∃ n t, r = .int n t ∧ Qb (n != 0) s') E s := by
    refine wpAny_runValue (codeAny_builtin entry_len ?_)
    rw [Around.under_plainId plain_len _]
    refine wpAny_mono (len_B (A := A.in1) Xk I hs hf h) ?_ fun _ _ y => y
    rintro fin s' ⟨r, rfl, q⟩
    exact q
  unfold truthy
  refine wpAny_bind (m := callSpecial? (.ref x) (Str.ofString "__bool__")) (wpAny_bind (wpAny_bind (I.type.here ((looks_findIn Xk hb).here (wpAny_pure ?_)))))
  refine wpAny_bind (wpAny_bind (I.type.here ((looks_findIn Xk hs).here ?_)))
  show wpAny _ _ (if (some (Value.ref g)).isNone = true then _ else _) _ _ _
  rw [if_neg (by simp)]
  refine wpAny_bind (wpAny_mono key ?_ fun _ _ y => y)
  rintro r s' ⟨n, t, rfl, q⟩
  exact wpAny_pure q
theorem bool_W (Xk : K.In s.heap) (I : InstAt s.heap x ox Ca od) (hb : findIn K (.ref Ca) "__bool__" = some none) (hs : findIn K (.ref Ca) "__len__" = some (some (.ref g))) (hf : isFn K (.ref g) = true)
    (h : wpAny (model prog w) A.in1.in1.in1 (PySem.call (.ref g) [.ref x]) (PySem.W.LenBack fun r s' => ∃ n t, r = .int n t ∧ Qv (.bool (n != 0)) s') E s) : wpAny (model prog w) A (PySem.call (.type "bool") [.ref x]) Qv E s := by
  refine callType_codes (T := "bool") (Bi := Builtin.«object.__init__») (Q₁ := fun r s₁ => ∃ b, r = .bool b ∧ Qv r s₁) PySem.F.called_bool (PySem.F.typeCall_bool_1 _) PySem.F.entry_object_init ?_ ?_
  · refine codeAny_of_tree ?_
    show wpAny _ A.in1.in1 (do checkBuiltinCall "bool.__new__" ⟨[.type "bool", .ref x], []⟩; again (.builtin "bool.__new__" ⟨[.type "bool", .ref x], []⟩)) _ _ s
    refine wpAny_bind (wpAny_of_eq (PySem.F.newCall_bool_1 _) (wpAny_pure ⟨plainId_quiet (by decide +kernel) _, codeAny_builtin PySem.F.entry_bool_new ?_⟩))
    rw [Around.under_plainId (by decide +kernel) _]
    unfold Builtin.«bool.__new__»
    have f1 := PySem.F.conv_sub_bool
    have tr : wpAny (model prog w) A.in1.in1 (truthy (.ref x)) (fun b s₁ => Qv (.bool b) s₁) E s := truthy_W (A := A.in1.in1) Xk I hb hs hf h
    repeat (first
      | (refine wpAny_bind (m := truthy (.ref x)) (wpAny_mono tr (fun b s₁ hq => ?_) fun _ _ y => y))
      | exact ⟨_, rfl, hq⟩
      | wp_step)
  · rintro obj s₁ ⟨y, rfl, hq⟩
    exact ⟨PySem.typeIs_bool _ _, PySem.F.args_object_init_2 _ _, object_init_meets PySem.F.called_bool.init.lookup PySem.F.called_bool.made (by decide) prog w A.in1 _ s₁ ⟨PySem.typeIs_bool _ _, rfl, hq⟩⟩
open Builtin Builtin.Str in
theorem str_W (hu : A.in1.in1.units < cLine) (Xk : K.In s.heap) (I : InstAt s.heap x ox Ca od) (hs : findIn K (.ref Ca) "__str__" = some (some (.ref g))) (hf : isFn K (.ref g) = true)
    (h : wpAny (model prog w) A.in1.in1 (PySem.call (.ref g) [.ref x]) (PySem.W.StrBack Qv) E s) : wpAny (model prog w) A (PySem.call (.type "str") [.ref x]) Qv E s := by
  refine callType_codes (T := "str") (Bi := Builtin.«object.__init__») (Q₁ := fun r s₁ => ∃ y u, r = .str y u ∧ Qv r s₁) PySem.F.called_str (PySem.F.typeCall_str_1 _) PySem.F.entry_object_init ?_ ?_
  · refine codeAny_of_tree ?_
    show wpAny _ A.in1.in1 (do checkBuiltinCall "str.__new__" ⟨[.type "str", .ref x], []⟩; again (.builtin "str.__new__" ⟨[.type "str", .ref x], []⟩)) _ _ s
    refine wpAny_bind (wpAny_of_eq (PySem.F.newCall_str_1 _) (wpAny_pure ⟨plainId_quiet (by decide +kernel) _, codeAny_builtin PySem.F.entry_str_new ?_⟩))
    rw [Around.under_plainId (by decide +kernel) _]
    rw [str_new_tree]
    refine wpAny_bind (wpAny_pure ?_)
    refine wpAny_bind (wpAny_of_eq isSubtype_str_str ?_)
    have key : wpAny (model prog w) A.in1.in1 (PySem.Builtin.Str.strOf (.ref x)) (fun r s₁ => ∃ y u, r = .str y u ∧ Qv r s₁) E s := by
      unfold PySem.Builtin.Str.strOf
      rw [show isExactStr (.ref x) = false from rfl]
      refine wpAny_bind (m := cRoomFor _ _) (wpAny_cRoomFor hu ?_)
      refine wpAny_bind (m := callSpecial? (.ref x) (Str.ofString "__str__")) (special_fn Xk I hs (beq_iff_eq.mp hf) (wpAny_mono h (fun r s' z => ?_) fun _ _ y => y))
      cases r <;> first | exact z.elim | exact wpAny_pure ⟨_, _, rfl, z⟩
    exact wpAny_bind (wpAny_mono key (fun r s₁ hr => wpAny_pure hr) fun _ _ y => y)
  · rintro obj s₁ ⟨y, u, rfl, hq⟩
    exact ⟨typeIs_str _ _ _, PySem.F.args_object_init_2 _ _, object_init_meets PySem.F.called_str.init.lookup PySem.F.called_str.made (by decide) prog w A.in1 _ s₁ ⟨typeIs_str _ _ _, rfl, hq⟩⟩
end
theorem bltG_nil {G : Gt} {b : Blt} {h : Hs} : bltG G b [] h = .no := by
  have e : bltG G b [] h = Rs.of (bltV G.isa b [] h) h := by
    unfold bltG
    cases ownN b <;> rfl
  rw [e, bltV_nil]
  rfl
theorem rep_str {ia : List Addr} {F : Hp} {z : Str} : Rep K cls ia F (.str z) (.str z) := by simp only [Rep]
theorem rep_int {ia : List Addr} {F : Hp} {z : Int} : Rep K cls ia F (.int z) (.int z) := by simp only [Rep]
theorem bltG_ok (PO : PrOk P w K mg base cls G k) (c : CxOk P w K mg base k X W C) {pins : List (Addr × Obj)} {s : Shared} {σ : L2.St} {H : Hp} {ia : List Addr} {F : Hp} {h : Hs} {b : Blt} {ds : List Vl} {vs : List V} {us : List Value} {Q : VK} (I : Inv X pins σ H s) (S : Sim K cls ia F h H)
    (r : RepL K cls ia F ds vs) (rv : Vals vs us) (f : Fin K cls W σ ia F H (bltG G b ds h) (Rep K cls) Q) : wpAny (model X.prog X.w) X.A (PySem.call (bltFn b) us) (EP X pins σ Q) X.xe s := by
  have hK := c.K
  subst hK
  have old : Fin X.K cls W σ ia F H (Rs.of (bltV G.isa b ds h) h) (Rep X.K cls) Q → wpAny (model X.prog X.w) X.A (PySem.call (bltFn b) us) (EP X pins σ Q) X.xe s := by
    intro f
    obtain ⟨z, ez, q⟩ := f.of_some
    exact bltV_ok PO.isa c.calm c.gu c.units I S ez r rv q
  unfold bltG at f
  split at f
  · rename_i nm d hnm
    split at f
    · rename_i cn fs hi
      split at f
      · rename_i hh
        obtain ⟨v, rfl, r1⟩ := one_rep r
        cases rv with
        | cons rvu rt =>
          cases rt
          rename_i u
          obtain ⟨a, Ca, dx, gs, rfl, hc, ea, rf⟩ := insOf_ok S hi r1
          obtain rfl : u = Value.ref a := rvu
          obtain ⟨g, hs, hf, _, hcall⟩ := PO.spc cn nm Ca hh hc
          obtain ⟨_, run⟩ := hcall X W C c
          obtain ⟨mA, O, _, _, _, _⟩ := ins_get I.hok ea
          obtain ⟨od, J, _⟩ := O.look
          have hu := c.units
          have go : ∀ (A' : Around), A' = X.A ∨ A' = X.A.in1 ∨ A' = X.A.in1.in1 ∨ A' = X.A.in1.in1.in1 → wpAny (model X.prog X.w) A' (PySem.call (.ref g) [Value.ref a]) (fun v' s' => ∃ y H' z ja F1 h1, Inv X pins σ H' s' ∧ RelV y v' ∧ Post X.K cls ia F H ja F1 h1 H' ∧ Rep X.K cls ja F1 z y ∧ Fin X.K cls W σ ja F1 H' (ownR b z h1) (Rep X.K cls) Q) X.xe s := by
            intro A' hA
            refine wpAny_mono (run A' hA pins s σ H ia F h [d] [.ref a] [.ref a] _ I S (RepL.cons r1 RepL.nil) (.cons rfl .nil) (Fin.ofCalm (Fin.bind (R0 := Rep X.K cls) f))) ?_ (fun _ _ z => z)
            rintro v' s' ⟨y, H', I', ry, z, ja, F1, h1, p1, rz, f1⟩
            exact ⟨y, H', z, ja, F1, h1, I', ry, p1, rz, f1⟩
          cases b with
          | len =>
            cases hnm
            refine len_W I.kIn J hs hf (wpAny_mono (go X.A.in1 (.inr (.inl rfl))) ?_ (fun _ _ z => z))
            rintro v' s' ⟨y, H', z, ja, F1, h1, I', ry, p1, rz, f1⟩
            unfold ownR at f1
            split at f1
            · rename_i n e
              split at f1
              · rename_i hb
                simp only [Rep] at rz
                subst rz
                obtain ⟨t, rfl⟩ := ry
                simp only [Bool.and_eq_true, decide_eq_true_eq] at hb
                show (0 ≤ n ∧ n < 2 ^ 63) ∧ EP X pins σ Q (.int n s'.toks) { s' with toks := s'.toks + 1 }
                exact ⟨⟨hb.1, hb.2⟩, .int n, H', I'.tok _, ⟨_, rfl⟩, f1 _ ja F1 H' (Post.refl p1.sim) rep_int⟩
              · exact f1.elim
            · exact absurd (by assumption : Blt.len = Blt.repr) (by intro z; cases z)
            · exact absurd (by assumption : Blt.len = Blt.str) (by intro z; cases z)
            · exact absurd (by assumption : Blt.len = Blt.bool) (by intro z; cases z)
            · exact f1.elim
          | bool =>
            cases hnm
            refine bool_W I.kIn J ((PO.isa.fact _ _ hc).nb) hs hf (wpAny_mono (go X.A.in1.in1.in1 (.inr (.inr (.inr rfl)))) ?_ (fun _ _ z => z))
            rintro v' s' ⟨y, H', z, ja, F1, h1, I', ry, p1, rz, f1⟩
            unfold ownR at f1
            split at f1
            · exact absurd (by assumption : Blt.bool = Blt.len) (by intro z; cases z)
            · exact absurd (by assumption : Blt.bool = Blt.repr) (by intro z; cases z)
            · exact absurd (by assumption : Blt.bool = Blt.str) (by intro z; cases z)
            · rename_i n e
              split at f1
              · rename_i hb
                simp only [Rep] at rz
                subst rz
                obtain ⟨t, rfl⟩ := ry
                simp only [Bool.and_eq_true, decide_eq_true_eq] at hb
                show (0 ≤ n ∧ n < 2 ^ 63) ∧ _
                exact ⟨⟨hb.1, hb.2⟩, _, _, rfl, .bl (n != 0), H', I'.tok _, rfl, f1 _ ja F1 H' (Post.refl p1.sim) (by simp only [Rep])⟩
              · exact f1.elim
            · exact f1.elim
          | repr =>
            cases hnm
            refine repr_W (by show X.A.units + 1 < cLine; omega) I.kIn J hs hf (wpAny_mono (go X.A.in1 (.inr (.inl rfl))) ?_ (fun _ _ z => z))
            rintro v' s' ⟨y, H', z, ja, F1, h1, I', ry, p1, rz, f1⟩
            unfold ownR at f1
            split at f1
            · exact absurd (by assumption : Blt.repr = Blt.len) (by intro z; cases z)
            · simp only [Rep] at rz
              subst rz
              obtain ⟨t, rfl⟩ := ry
              exact ⟨.str _, H', I', ⟨_, rfl⟩, f1 _ ja F1 H' (Post.refl p1.sim) rep_str⟩
            · exact absurd (by assumption : Blt.repr = Blt.str) (by intro z; cases z)
            · exact absurd (by assumption : Blt.repr = Blt.bool) (by intro z; cases z)
            · exact f1.elim
          | str =>
            cases hnm
            refine str_W (by show X.A.units + 1 + 1 < cLine; omega) I.kIn J hs hf (wpAny_mono (go X.A.in1.in1 (.inr (.inr (.inl rfl)))) ?_ (fun _ _ z => z))
            rintro v' s' ⟨y, H', z, ja, F1, h1, I', ry, p1, rz, f1⟩
            unfold ownR at f1
            split at f1
            · exact absurd (by assumption : Blt.str = Blt.len) (by intro z; cases z)
            · exact absurd (by assumption : Blt.str = Blt.repr) (by intro z; cases z)
            · simp only [Rep] at rz
              subst rz
              obtain ⟨t, rfl⟩ := ry
              exact ⟨.str _, H', I', ⟨_, rfl⟩, f1 _ ja F1 H' (Post.refl p1.sim) rep_str⟩
            · exact absurd (by assumption : Blt.str = Blt.bool) (by intro z; cases z)
            · exact f1.elim
          | _ => cases hnm
      · exact f.elim
    · exact old f
  · exact old f
theorem a_call (PO : PrOk P w K mg base cls G k) (c : CxOk P w K mg base k X W C) (he : ∀ e, PE X e (tE K cls W G n C e)) {f : Str} {p : Pos} {es : List Expr} {kws : List Keyword} : PE X (.Call (.Name f p) es kws pos) (tE K cls W G (n + 1) C (.Call (.Name f p) es kws pos)) := by
  refine ⟨fun pins s σ H Q I ⟨ia, F, h, ρ, S, E, hf⟩ => ?_⟩
  simp only [evE] at hf
  split at hf
  · rename_i hg
    have hk : X.env.kindOf f = kindE C f := by unfold kindE; rw [← c.sc]; rfl
    have gl : Gl X f := hk.trans hg
    split at hf
    · rename_i b hb
      split at hf
      · rename_i hkw
        obtain ⟨hk1, hk2⟩ : kws.isEmpty = true ∧ es.any isStar = false := by simpa [-List.any_eq_true, -List.any_eq_false] using hkw
        obtain rfl := List.isEmpty_iff.mp hk1
        obtain rfl := bltOf_nm hb
        obtain ⟨b1, b2, b3⟩ := bltFn_boot b
        cases es with
        | nil => simp only [evL, Rs.bind_ok, bltG_nil] at hf; exact hf.elim
        | cons e r =>
          rw [List.any_cons, Bool.or_eq_false_iff] at hk2
          have hK := c.K
          subst hK
          refine wpAny_Call_Name_kw (ld_blt I gl (by rw [c.mg]; exact PO.blt b) b1 ?_ b2 b3)
          have go : wpAny (model X.prog X.w) X.A (spliced (backTo pos (starEach (e :: r) X.env))) (fun vs s₁ => wpAny (model X.prog X.w) X.A (call (bltFn b) vs) (EP X pins σ Q) X.xe s₁) X.xe s := by
            refine thn ((a_args c he (e :: r)).run pos pins s σ H _ I ⟨ia, F, h, ρ, S, E, Fin.bind (R0 := RepL X.K cls) hf⟩) ?_
            rintro us s1 ⟨vs, H1, I1, rv1, ds, ja, F1, h1, p1, r1, f1⟩
            exact bltG_ok PO c I1 p1.sim r1 rv1 f1
          have hpl : (backTo pos (starEach r X.env)).any (·.1) = false := by rw [star_any_eq]; exact hk2.2
          rcases bltFn_kind b with ⟨id, e1⟩ | ⟨T, e1⟩
          · rw [e1] at go ⊢
            exact PyProof.Rows.callWith_builtin1 go (star_no hk2.1) hpl
          · rw [e1] at go ⊢
            exact PyProof.Rows.callWith_type1 go (star_no hk2.1) hpl
      · exact hf.elim
    · split at hf
      · rename_i hb hh
        obtain ⟨h1, h2⟩ := Bool.and_eq_true_iff.mp hh
        obtain ⟨hd, u, hm, kp, hcall⟩ := PO.call f h1
        refine wpAny_Call_Name_kw (ld_glob I gl (by rw [c.mg]; exact hm) ?_ hd)
        exact call_with c he I S E h2 kp [] [] [] RepL.nil .nil (hcall X W C c) hf
      · exact hf.elim
  · have hK := c.K
    subst hK
    refine wpAny_Call_Name_kw (thn ((a_name (n := n) PO c).run pins s σ H _ I ⟨ia, F, h, ρ, S, E, Fin.bind (R0 := Rep X.K cls) hf⟩) ?_)
    rintro u s1 ⟨x, H1, I1, rx, da, ja, F1, h1, p1, r1, f1⟩
    cases hcl : clOf G da with
    | none => rw [hcl] at f1; exact f1.elim
    | some cn =>
      rw [hcl] at f1
      simp only at f1
      split at f1
      · rename_i hh
        obtain ⟨h1', h2⟩ := Bool.and_eq_true_iff.mp hh
        obtain ⟨e1, e2⟩ := clOf_some hcl
        subst e1
        obtain ⟨hd, u', hm, kp, hcall⟩ := PO.call cn h1'
        obtain ⟨_, u2, v2, hm2, rv2, rep2⟩ := PO.glob cn _ e2
        rw [hm] at hm2
        cases hm2
        have rp := rep2 ja F1
        simp only [Rep] at r1 rp
        obtain ⟨a, ha, rfl⟩ := r1
        obtain ⟨a', ha', rfl⟩ := rp
        rw [ha] at ha'
        cases ha'
        obtain rfl : u = Value.ref a := rx
        obtain rfl : u' = Value.ref a := rv2
        exact call_with c he I1 p1.sim (EnvR.mono p1 E) h2 kp [] [] [] RepL.nil .nil (hcall X W C c) f1
      · exact f1.elim

/-! ### methods -/
theorem call_withM (c : CxOk P w K mg base k X W C) (he : ∀ e, PE X e (tE K cls W G n C e)) {pins : List (Addr × Obj)} {s : Shared} {σ : L2.St} {H : Hp} {ia : List Addr} {F : Hp} {h : Hs} {ρ : Env} {Q : VK} {q g Ca : Addr} {es : List Expr} {kws : List Keyword}
    {m : List Vl → List Str → List Vl → Hs → Rs Vl} (I : Inv X ((q, PySem.W.methodObj (.ref g) (.ref Ca)) :: pins) σ H s) (S : Sim K cls ia F h H) (E : EnvR K cls ia F σ ρ) (hs : es.any isStar = false) (hu : PySem.W.fnIn K g = true)
    (hc : CallOkM X cls W g Ca m) (f : Fin K cls W σ ia F H (evArgs (fun e h => evE G n C e ρ h) es kws h m) (Rep K cls) Q) :
    wpAny (model X.prog X.w) X.A (callWith pos (.ref q) [] (backTo pos (starEach es X.env)) (backToKw pos (keywordEach kws X.env))) (EP X pins σ Q) X.xe s := by
  have hK := c.K
  subst hK
  unfold evArgs at f
  cases hks : kwNames kws with
  | none => rw [hks] at f; exact f.elim
  | some ks =>
    rw [hks] at f
    obtain ⟨k1, k2, k3⟩ := kw_all (pos := pos) (env := X.env) hks
    have core : ∀ (us : List Value) (s1 : Shared) (vs : List V) (H1 : Hp) (ds : List Vl) (ja : List Addr) (F1 : Hp) (h1 : Hs), Inv X ((q, PySem.W.methodObj (.ref g) (.ref Ca)) :: pins) σ H1 s1 → Post X.K cls ia F H ja F1 h1 H1 → RepL X.K cls ja F1 ds vs → Vals vs us →
        Fin X.K cls W σ ja F1 H1 ((evK (fun e h => evE G n C e ρ h) kws h1).bind fun ws h => m ds ks ws h) (Rep X.K cls) Q →
        wpAny (model X.prog X.w) X.A (evalAll ((backToKw pos (keywordEach kws X.env)).map (·.2))) (fun ws s2 => PySem.W.MethP X.K q g (.ref Ca) s2.heap ∧ wpAny (model X.prog X.w) X.A (call (.ref q) us (((backToKw pos (keywordEach kws X.env)).filterMap (·.1)).zip ws)) (EP X pins σ Q) X.xe s2) X.xe s1 := by
      intro us s1 vs H1 ds ja F1 h1 I1 p1 r1 rv1 f1
      refine thn ((a_kws c he kws).run pos _ s1 σ H1 (fun zs H2 => ∃ es ka F2 h2, es.length = kws.length ∧ Post X.K cls ja F1 H1 ka F2 h2 H2 ∧ RepL X.K cls ka F2 es zs ∧ Fin X.K cls W σ ka F2 H2 (m ds ks es h2) (Rep X.K cls) Q) I1
        ⟨ja, F1, h1, ρ, p1.sim, EnvR.mono p1 E, ?_⟩) ?_
      · cases hm : evK (fun e h => evE G n C e ρ h) kws h1 with
        | no => rw [hm] at f1; exact f1.elim
        | rz ex h2 => rw [hm] at f1; exact f1
        | ok ws h2 => rw [hm] at f1; exact fun b ka F2 H2 p r => ⟨ws, ka, F2, h2, evK_len hm, p, r, Fin.post p f1⟩
      · rintro ws s2 ⟨zs, H2, I2, rz, es', ka, F2, h2, hl, p2, r2, f2⟩
        rw [k2]
        refine ⟨⟨ClX.pin_at I2, I2.kIn⟩, hc q pins s2 σ H2 ka F2 h2 ds ks es' vs zs us ws Q I2 p2.sim (r1.post p2) r2 rv1 rz ?_ f2⟩
        rw [kwNames_len hks, hl]
    cases es with
    | nil =>
      refine PySem.W.callWith_of (P := PySem.W.MethP X.K q g (.ref Ca)) ?_ (PySem.W.keeps_M hu) (PyProof.Rows.evalArgs_kw2_nil k1 (core [] s [] H [] ia F h I (Post.refl S) RepL.nil .nil f))
      rw [k3]; rfl
    | cons e r =>
      rw [List.any_cons, Bool.or_eq_false_iff] at hs
      refine PySem.W.callWith_of (P := PySem.W.MethP X.K q g (.ref Ca)) ?_ (PySem.W.keeps_M hu) (PyProof.Rows.evalArgs_kw2 k1 (thn ((a_args c he (e :: r)).run pos _ s σ H _ I ⟨ia, F, h, ρ, S, E, Fin.bind (R0 := RepL X.K cls) f⟩) ?_) (star_no hs.1))
      · rw [k3, star_any_eq, List.any_cons, hs.1, hs.2]; rfl
      · rintro us s1 ⟨vs, H1, I1, rv1, ds, ja, F1, h1, p1, r1, f1⟩
        exact core us s1 vs H1 ds ja F1 h1 I1 p1 r1 rv1 f1
theorem meth_call {M : Model} {A : Around} {EE : Value → Shared → Prop} {s : Shared} {env : PySem.Env} {o : Expr} {m : Str} {apos : Pos} {es : List Expr} {kws : List Keyword} {Q : Value → Shared → Prop} (hn : noSup o = true)
    (hform : methodCallForm (es.length + kws.length) (backTo pos (starEach es env)) (backToKw pos (keywordEach kws env)) = true) (hline : (apos.endLine == pos.line) = true)
    (h : wpAny M A (eval o env) (fun ov s1 => wpAny M A (getMethod ov m (do return (← importBound o env).getD true)) (fun fx s2 => wpAny M A (callWith pos fx.1 fx.2 (backTo pos (starEach es env)) (backToKw pos (keywordEach kws env))) Q EE s2) EE s1) EE s) :
    wpAny M A (eval (.Call (.Attribute o m apos) es kws pos) env) Q EE s := by
  rw [arm_eval_Call, attr_base hn]
  refine wpAny_bind (wpAny_mono h (fun ov s1 h1 => wpAny_bind (wpAny_standAt ?_)) fun _ _ x => x)
  have hpos : methodCallPos true o env apos pos = pure pos := by unfold methodCallPos; simp [hline]
  unfold methodCall
  rw [hform]
  refine wpAny_bind (wpAny_holding ?_)
  exact wpAny_mono h1 (fun fx s2 h2 => wpAny_bind (wpAny_of_eq hpos h2)) fun _ _ x => x
theorem few_of {o : Expr} {apos : Pos} {es : List Expr} {kws : List Keyword} {env : PySem.Env} {ks : List Str} (h : callForm o apos pos es kws = true) (hk : kwNames kws = some ks) : noSup o = true ∧ es.any isStar = false ∧ (apos.endLine == pos.line) = true ∧ methodCallForm (es.length + kws.length) (backTo pos (starEach es env)) (backToKw pos (keywordEach kws env)) = true := by
  have h' : (((noSup o = true ∧ (kwNames kws).isSome = true) ∧ (apos.endLine == pos.line) = true) ∧ es.any isStar = false) ∧ es.length + kws.length + (if kws.isEmpty then 0 else 1) < 30 := by simpa [callForm, -List.any_eq_true, -List.any_eq_false] using h
  obtain ⟨⟨⟨⟨h1, _⟩, h2⟩, h3⟩, h4⟩ := h'
  refine ⟨h1, h3, h2, ?_⟩
  unfold methodCallForm
  have e1 : (backTo pos (starEach es env)).all (!·.1) = true := star_all_eq h3
  have e3 : (backToKw pos (keywordEach kws env)).isEmpty = kws.isEmpty := by
    cases kws with
    | nil => rfl
    | cons q r => cases q; rfl
  rw [e1, (kw_all (pos := pos) (env := env) hk).1, e3]
  simpa using h4

/-! ### methods of built-in types -/
def bmNm : Bm → Str
  | .append => "append"
  | .join => "join"
def bmId : Bm → String
  | .append => "list.append"
  | .join => "str.join"
theorem bmOf_nm {m : Str} {b : Bm} (e : bmOf m = some b) : m = bmNm b := by
  unfold bmOf at e
  by_cases h1 : m = ("append" : Str)
  · rw [if_pos h1] at e; cases e; exact h1
  rw [if_neg h1] at e
  by_cases h2 : m = ("join" : Str)
  · rw [if_pos h2] at e; cases e; exact h2
  rw [if_neg h2] at e
  cases e
theorem bm_slot (b : Bm) : PlainAttrs (bmTy b) ∧ Slot (bmTy b) (bmNm b) (bmId b) ∧ typeOf (.builtin (bmId b)) = pure (.type "method_descriptor") := by
  cases b with
  | append => exact ⟨F.plainAttrs_list, F.slot_list_append, F.type_list_append⟩
  | join => exact ⟨F.plainAttrs_str, F.slot_str_join, F.type_str_join⟩
theorem bm_ty {b : Bm} {ia : List Addr} {F H : Hp} {h : Hs} (S : Sim K cls ia F h H) {d : Vl} {v : V} (e : tyOf h d = some (bmTy b)) (r : Rep K cls ia F d v) : tyV K (bmTy b) v H := by
  cases d with
  | str a => 
    simp only [Rep] at r; subst r
    simp only [tyOf, Option.some.injEq] at e
    rw [← e]; rfl
  | lst xs =>
    simp only [Rep] at r
    obtain ⟨a, vs, rfl, q, _⟩ := r
    simp only [tyOf, Option.some.injEq] at e
    rw [← e]
    exact .inl ⟨rfl, vs, sqL_mono S.sub q⟩
  | ref n =>
    simp only [tyOf] at e
    cases e1 : getL h n with
    | none => rw [e1] at e; cases e
    | some xs =>
      rw [e1] at e
      simp only [Option.map_some, Option.some.injEq] at e
      simp only [Rep] at r
      obtain ⟨a, h1, rfl⟩ := r
      simp only [getL] at e1
      split at e1
      · rename_i ys e3
        obtain ⟨a', e4, _, vs, e5, q⟩ := S.obj n _ e3
        rw [h1] at e4; cases e4
        rw [← e]
        exact .inl ⟨rfl, vs, .inl (.inl e5)⟩
      · cases e1
  | _ => cases b <;> simp [tyOf, bmTy] at e
theorem bm_ok {X : Cx} {b : Bm} {pins : List (Addr × Obj)} {s : Shared} {σ : L2.St} {H : Hp} {ia : List Addr} {F : Hp} {h : Hs} {da : Vl} {x : V} {u : Value} {ds : List Vl} {vs : List V} {us : List Value} {Q : VK} (I : Inv X pins σ H s) (S : Sim X.K cls ia F h H) (r : Rep X.K cls ia F da x) (ru : RelV x u)
    (rs : RepL X.K cls ia F ds vs) (rv : Vals vs us) (f : Fin X.K cls W σ ia F H (bmV b da ds h) (Rep X.K cls) Q) : wpAny (model X.prog X.w) X.A (call (.builtin (bmId b)) (u :: us)) (EP X pins σ Q) X.xe s := by
  unfold bmV at f
  split at f
  · rename_i n d
    split at f
    · rename_i xs e
      split at f
      · rename_i hz
        obtain ⟨a, ws, rfl, h1, h2, h3, h4, h5⟩ := getL_ok S e r
        obtain ⟨v, rfl, r1⟩ := one_rep rs
        refine mt_append pins s σ H _ _ u us Q I ru rv ⟨a, ws, v, rfl, rfl, h4, by rw [← h5.len]; exact hz, ?_⟩
        have p := Post.write S h3 h1 h2 (ob := .lst (xs ++ [d])) (o := .lst (ws ++ [v])) ⟨_, upd_same, RepL.append h5 (RepL.cons r1 RepL.nil)⟩
        exact f _ _ _ _ p (by simp only [Rep])
      · exact f.elim
    · exact f.elim
  · rename_i a d
    split at f
    · rename_i xs e
      split at f
      · rename_i ys e2
        split at f
        · rename_i hz
          simp only [Rep] at r
          subst r
          obtain ⟨v, rfl, r1⟩ := one_rep rs
          obtain ⟨q, ws, rfl, r2, sq⟩ := itemsV_ok S e r1
          obtain rfl := asStrs_ok e2 r2
          exact mt_join pins s σ H _ _ u us Q I ru rv ⟨a, q, ys, rfl, rfl, sq, hz, f _ ia F H (Post.refl S) (by simp only [Rep])⟩
        · exact f.elim
      · exact f.elim
    · exact f.elim
  · exact f.elim
theorem a_meth (PO : PrOk P w K mg base cls G k) (c : CxOk P w K mg base k X W C) (he : ∀ e, PE X e (tE K cls W G n C e)) {o : Expr} {m : Str} {apos : Pos} {es : List Expr} {kws : List Keyword} :
    PE X (.Call (.Attribute o m apos) es kws pos) (tE K cls W G (n + 1) C (.Call (.Attribute o m apos) es kws pos)) := by
  have hK := c.K
  subst hK
  refine ⟨fun pins s σ H Q I ⟨ia, F, h, ρ, S, E, hf⟩ => ?_⟩
  simp only [evE] at hf
  split at hf
  · exact hf.elim
  rename_i hcf
  have hcf' : callForm o apos pos es kws = true := by simpa using hcf
  cases hks : kwNames kws with
  | none =>
    have z : (((noSup o = true ∧ (kwNames kws).isSome = true) ∧ (apos.endLine == pos.line) = true) ∧ es.any isStar = false) ∧ es.length + kws.length + (if kws.isEmpty then 0 else 1) < 30 := by simpa [callForm, -List.any_eq_true, -List.any_eq_false] using hcf'
    rw [hks] at z
    cases z.1.1.1.2
  | some ks =>
    obtain ⟨q1, q2, q3, q4⟩ := few_of (env := X.env) hcf' hks
    refine meth_call q1 q4 q3 (thn ((he o).run pins s σ H _ I ⟨ia, F, h, ρ, S, E, Fin.bind (R0 := Rep X.K cls) hf⟩) ?_)
    rintro u s1 ⟨x, H1, I1, rx, da, ja, F1, h1, p1, r1, f1⟩
    split at f1
    · rename_i cn fs hi
      split at f1
      · rename_i hh
        obtain ⟨g1, g2⟩ := Bool.and_eq_true_iff.mp hh
        obtain ⟨a, Ca, dx, gs, rfl, hc, ea, rf⟩ := insOf_ok p1.sim hi r1
        obtain rfl : u = Value.ref a := rx
        obtain ⟨g, hg, hcall⟩ := PO.meth cn m Ca g1 hc
        refine getmeth_ok I1 ea (PO.isa.fact _ _ hc).cl hg (rf.look.2 (Option.isNone_iff_eq_none.mp g2)) ?_
        refine call_with c he I1 p1.sim (EnvR.mono p1 E) ?_ hg.kp [da] [.ref a] [.ref a] (RepL.cons r1 RepL.nil) (.cons rfl .nil) (hcall X W C c) f1
        cases es with
        | nil => rfl
        | cons e r =>
          rw [List.any_cons, Bool.or_eq_false_iff] at q2
          show ((!isStar e && (!(r.any isStar) || kws.isEmpty)) || (isStar e && r.isEmpty && kws.isEmpty)) = true
          rw [q2.1, q2.2]; rfl
      · exact f1.elim
    · rename_i hi
      cases hcv : clV da with
      | some cn =>
        rw [hcv] at f1
        simp only at f1
        obtain rfl := clV_some hcv
        split at f1
        · rename_i hh
          simp only [Rep] at r1
          obtain ⟨Ca, hc, rfl⟩ := r1
          obtain rfl : u = Value.ref Ca := rx
          obtain ⟨mc, p, g, R, M, hcall⟩ := PO.cmt cn m Ca hh hc
          refine ClX.getmethcm_ok I1 R M fun s2 I2 => ?_
          exact call_withM c he I2 p1.sim (EnvR.mono p1 E) q2 M.fi (hcall X W C c) f1
        · exact f1.elim
      | none =>
      rw [hcv] at f1
      simp only at f1
      split at f1
      · rename_i b hb
        split at f1
        · rename_i hh
          obtain ⟨g1, g2⟩ := Bool.and_eq_true_iff.mp hh
          obtain rfl := List.isEmpty_iff.mp g1
          obtain rfl := bmOf_nm hb
          obtain ⟨pa, slot, hty⟩ := bm_slot b
          obtain ⟨t1, t2⟩ := tyV_is I1 rx (bm_ty p1.sim (eq_of_beq g2) r1)
          refine getMethod_builtin t1 pa slot hty t2 ?_
          cases es with
          | nil => exact Calls.callWith_builtin rfl (PySem.evalArgs_none (bm_ok I1 p1.sim r1 rx RepL.nil .nil f1))
          | cons e r =>
            rw [List.any_cons, Bool.or_eq_false_iff] at q2
            have hA := (a_args c he (e :: r)).run pos pins s1 σ H1 _ I1 ⟨ja, F1, h1, ρ, p1.sim, EnvR.mono p1 E, Fin.bind (R0 := RepL X.K cls) f1⟩
            rw [star_no q2.1] at hA ⊢
            refine Calls.callWith_builtin (by show (false || (backTo pos (starEach r X.env)).any (·.1)) = false; rw [star_any_eq, q2.2]; rfl) (Calls.evalArgs_plain ?_)
            refine thn hA ?_
            rintro us s2 ⟨vs, H2, I2, rv, ds, ka, F2, h2, p2, r2, f2⟩
            exact bm_ok I2 p2.sim (r1.post p2) rx r2 rv f2
        · exact f1.elim
      · exact f1.elim
end
end Wd

set_option Elab.async false
set_option linter.all false
set_option maxRecDepth 100000
/-! enumerate over a list, a tuple of values -/
namespace Wd
open PySem PySem.Spec PyProof.Rows L2

set_option maxHeartbeats 1000000 in
theorem meets_enum1 {y : Value} {ob : Obj} {Hy : Heap → Prop} (B : Begins y ob Hy) :
    Meets (Builtin.«enumerate.__new__» ⟨[.type "enumerate", y], []⟩) (fun _ R z => Hy z.heap ∧
      R (.ok (.ret (.ref (z.heap.push ob).objs.size))) { z with heap := (z.heap.push ob).push { cls := .type "enumerate", data := .fields #[.none, .bool false, .ref z.heap.objs.size, rawInt 0, .none, .none] } }) :=
  .of_wp fun prog w A R z hz => by
    obtain ⟨hq, g, d, tk, os⟩ := z
    obtain ⟨y1, hz⟩ := hz
    have hsb := sub_enumerate
    have qi : ∀ {A' : Around} {E : Value → Shared → Prop} {Q : Value → Shared → Prop}, Q (.ref hq.objs.size) ⟨hq.push ob, g, d, tk, os⟩ → wpAny (model prog w) A' (pyIter y) Q E ⟨hq, g, d, tk, os⟩ :=
      fun q => B.iter prog w _ _ ⟨hq, g, d, tk, os⟩ _ y1 q
    wp_walk using qi
    refine wpAny_stack_any fun sk => wpAny_pure ?_
    split
    · rename_i cc _ _ _ _ _
      cases (cc == Value.type "enumerate")
      all_goals
        wp_walk using qi
        exact ⟨_, rfl, hz⟩
    · wp_walk using qi
      exact ⟨_, rfl, hz⟩
section
variable {prog : Program} {w : World} {A : Around} {E : Value → Shared → Prop} {s : Shared}
theorem enum1 {y : Value} {ob : Obj} {Hy : Heap → Prop} {Q : Value → Shared → Prop} (B : Begins y ob Hy) (y1 : Hy s.heap)
    (hQ : ∀ hn, IsEnum hn (s.heap.objs.size + 1) s.heap.objs.size 0 .none → hn.get? s.heap.objs.size = some ob → hn.objs.size = s.heap.objs.size + 2 →
      (∀ b u, s.heap.get? b = some u → hn.get? b = some u) → Q (.ref (s.heap.objs.size + 1)) { s with heap := hn }) : wpAny (model prog w) A (call (.type "enumerate") [y]) Q E s := by
  refine callType_new F.called_enumerate (by decide) (F.typeCall_enumerate_1 _) (F.newCall_enumerate_1 _) (fun z => F.args_object_init_2 z _) F.entry_enumerate_new (meets_enum1 B) ⟨y1, ?_⟩
  have ez : (s.heap.push ob).objs.size = s.heap.objs.size + 1 := Heap.size_push ..
  show _ ∧ _
  rw [ez]
  have ie : IsEnum ((s.heap.push ob).push { cls := .type "enumerate", data := .fields #[.none, .bool false, .ref s.heap.objs.size, rawInt 0, .none, .none] }) (s.heap.objs.size + 1) s.heap.objs.size 0 .none := by
    have z := Heap.get?_push_size (s.heap.push ob) (o := { cls := .type "enumerate", data := .fields #[.none, .bool false, .ref s.heap.objs.size, rawInt 0, .none, .none] }) rfl
    rw [ez] at z
    exact z
  refine ⟨⟨_, ie, rfl⟩, hQ _ ie (Heap.get?_push_of_some _ (Heap.get?_push_size _ B.free)) (by rw [Heap.size_push, ez]) fun b u x => Heap.get?_push_of_some _ (Heap.get?_push_of_some _ x)⟩
end
/-- the tuple at a, its items in new pairs -/
def IteT (K : PySem.W.Frag) (a : Addr) : It :=
  ⟨fun i H => ∃ (xs : List V) (x : V), SqT K H a xs ∧ xs[i]? = some x, fun i H v H' => ∃ T x, v = .ref T ∧ H T = none ∧ H' = upd H T (.tup [.int (i : Nat), x]) ∧ ∀ xs, SqT K H a xs → xs[i]? = some x,
    fun i H => ∃ xs : List V, SqT K H a xs ∧ xs.length ≤ i⟩
section
variable {prog : Program} {w : World} {A : Around} {E : Value → Shared → Prop} {s : Shared}
theorem end_tup {e it a : Addr} {i : Nat} {us : Array Value} {c : Int} {old : Value} {Q : Option Value → Shared → Prop} (hh : A.handled = none) (ie : IsEnum s.heap e it c old) (ti : s.heap.IsTupleIter it a i) (tu : s.heap.IsTuple a us) (hx : us[i]? = none)
    (hQ : ∀ hn, Heap.ExtBut it s.heap hn → Q none { s with heap := hn }) : wpAny (model prog w) A (pyNext (.ref e)) Q E s := by
  have ty : s.TypeIs (.ref e) "enumerate" := ⟨_, ie, rfl⟩
  unfold pyNext
  refine wpAny_bind (wpAny_attempt (wpAny_callSpecial?_slot (name := Str.ofString "__next__") ty F.slot_enumerate_next (wpAny_call_entry F.slot_enumerate_next ty F.entry_enumerate_next ?_ (F.args_enumerate_next_1 _))))
  show wpAny _ _ (field (.ref e) 2 >>= _) _ _ s
  refine wpAny_bind (wpAny_field ie rfl (x := .ref it) rfl ?_)
  refine wpAny_bind (wpAny_nextOf_tuple_end hh ti tu hx fun hn x e1 sx => ?_)
  obtain ⟨o, q, c⟩ := sx
  refine wpAny_bind (wpAny_isInstance (T := "StopIteration") (b := true) ⟨o, q, c⟩ isSubtype_stop ?_)
  exact wpAny_pure (hQ _ e1)
end
theorem apart_tup {h : Heap} {e it a : Addr} {i : Nat} {c : Int} {old : Value} {us : Array Value} (ie : IsEnum h e it c old) (ti : h.IsTupleIter it a i) (tu : h.IsTuple a us) : a ≠ it ∧ e ≠ a := by
  obtain ⟨o1, q1, c1, _⟩ := ti
  obtain ⟨o2, q2, c2, _⟩ := tu
  constructor
  · intro z
    rw [z, q1] at q2
    cases q2
    rw [c1] at c2
    exact absurd c2 (by decide)
  · intro z
    have q3 : h.get? e = _ := ie
    rw [z, q2] at q3
    cases q3
    have c3 : Value.type "enumerate" = Value.type "tuple" := c2
    exact absurd c3 (by decide)
theorem turn_enumT {P : Program} {w : World} {K : PySem.W.Frag} {ts : List Expr} {j : Nat} {tp : Pos} (a e it : Addr) :
    Turn P w K (.Tuple ts j tp) (IteT K a) [e, it] e (fun i h => (∃ old, IsEnum h e it ((i : Nat) : Int) old) ∧ h.IsTupleIter it a i ∧ e ≠ it) where
  mem := by simp
  obj := fun i h st b hb => by
    obtain ⟨⟨old, ie⟩, ⟨o, q1, c1, d1⟩, _⟩ := st
    rcases (by simpa using hb : b = e ∨ b = it) with z | z
    · rw [z]; exact ⟨_, ie, fun v q => nomatch q⟩
    · rw [z]; exact ⟨o, q1, fun v q => by rw [d1] at q; cases q⟩
  keep := fun i h h' st k => let ⟨⟨old, ie⟩, ti, ne⟩ := st; ⟨⟨old, k e (by simp) _ ie⟩, ti.at fun o q => k it (by simp) o q, ne⟩
  item := by
    intro X hP hw hK hc i pins s σ H E I hf st hg
    subst hP hw hK
    obtain ⟨⟨old, ie⟩, ti, ne⟩ := st
    obtain ⟨xs, x, sq, gx⟩ := hg
    obtain ⟨us, rv, tu, _⟩ := I.tuple sq
    obtain ⟨u, gu, ru⟩ := rv.get gx
    obtain ⟨n1, n2⟩ := apart_tup ie ti tu
    have le : e < s.heap.objs.size := Heap.lt_size ie
    have li : it < s.heap.objs.size := by obtain ⟨_, q, _⟩ := ti; exact Heap.lt_size q
    have lt : i < us.toArray.size := by
      obtain ⟨z, _⟩ := List.getElem?_eq_some_iff.mp gu
      simpa using z
    refine wpAny_pyNext_enum_itemD (Draws.tuple (A := X.A.in1) (show X.A.in1.handled = none from I.ok.hd hc) it a n1 us.toArray) ie ⟨ti, tu⟩ lt ne (by simp [ne, n2]) fun y h1 tk hy ho ⟨ti1, _⟩ gT sz kp => ?_
    have ey : y = u := by
      have z : us.toArray[i]? = some u := by simpa using gu
      exact Option.some.inj (hy.symm.trans z)
    subst ey
    refine ⟨_, rfl, wpAny_letOwnedTupleGo_enum (s := { s with heap := h1, toks := tk + 1 }) ho fun h2 ie2 sb => ?_⟩
    have g2 : h2.get? s.heap.objs.size = some { cls := .type "tuple", data := .seq #[.int i tk, y] } := (sb.2 _ (Nat.ne_of_gt le)).trans gT
    have nw : ObjOk X.prog X.w (upd H s.heap.objs.size (.tup [.int (i : Nat), x])) h2 s.heap.objs.size (.tup [.int (i : Nat), x]) :=
      ⟨(by decide : 2 ≤ sizeLine), [.int i tk, y], .cons ⟨_, rfl⟩ (.cons ru .nil), ⟨_, g2, rfl, _, rfl⟩⟩
    have J : Inv X pins σ (upd H s.heap.objs.size (.tup [.int (i : Nat), x])) { s with heap := h2, toks := tk + 1 } :=
      I.turnedNew (ch := [e, it]) (fun b ob nb q => (sb.2 b fun z => nb (by simp [z])).trans (kp b ob (fun z => nb (by simp [z])) (fun z => nb (by simp [z])) q)) hf (Nat.le_refl _) nw
    refine ⟨.ref s.heap.objs.size, _, J, rfl, ⟨_, x, rfl, I.hok.fresh (Nat.le_refl _), rfl, fun ys hy => by rw [I.tuple_inj hy sq]; exact gx⟩, ⟨⟨y, ?_⟩, ti1.at fun o q => (sb.2 it (Ne.symm ne)).trans q, ne⟩, fun b hb => ?_⟩
    · have z : ((i + 1 : Nat) : Int) = (i : Int) + 1 := by omega
      rw [z]; exact ie2
    · have lb : b < s.heap.objs.size := by
        rcases (by simpa using hb : b = e ∨ b = it) with z | z
        · rw [z]; exact le
        · rw [z]; exact li
      rw [upd_ne (Nat.ne_of_lt lb)]
      exact (hf b hb).1
  done := by
    intro X hP hw hK hc i pins s σ H E I hf st hg
    subst hP hw hK
    obtain ⟨⟨old, ie⟩, ti, ne⟩ := st
    obtain ⟨xs, sq, lx⟩ := hg
    obtain ⟨us, rv, tu, _⟩ := I.tuple sq
    obtain ⟨n1, n2⟩ := apart_tup ie ti tu
    obtain ⟨f0, f1, f2, f3, f4, f5⟩ := hf it (by simp)
    have lv := rv.length
    exact end_tup (I.ok.hd hc) ie ti tu (by simp; omega) fun h1 eb => ⟨rfl, I.turned (t' := s.toks) (fun b o nb q => eb b o nb q) f0 f1 f3 f4 f5⟩
  self := fun A i s Q E st h => let ⟨⟨_, ie⟩, _⟩ := st; wpAny_pyIter_enum ie h
def iEnumT (K : PySem.W.Frag) (ta : TA) : TI := fun σ H R => ta σ H fun vs H1 => ∃ a xs, vs = [.ref a] ∧ SqT K H1 a xs ∧ R (IteT K a) H1
theorem pi_enumT {X : Cx} {y : Expr} {ta : TA} {p q tp : Pos} {ts : List Expr} {j : Nat} (hg : Gl X "enumerate") (hm : X.mg "enumerate" = none) (ha : PA X [y] ta) (hs : starEach [y] X.env = [(false, eval y X.env)]) :
    PI X (.Tuple ts j tp) (.Call (.Name "enumerate" p) [y] [] q) (iEnumT X.K ta) := by
  refine ⟨fun pins s σ H R I hh => ?_⟩
  refine Call_ (ld_blt I hg hm boot_enumerate (PyProof.Rows.callWith_type1 (thn (ha.run q pins s σ H _ I hh) fun us s1 ⟨vs, H1, I1, r1, q1⟩ => ?_) hs rfl))
  obtain ⟨a, xs, rfl, sq, q2⟩ := q1
  cases r1 with
  | cons r rr =>
    cases rr
    cases r
    obtain ⟨us, rv, tu, _⟩ := I1.tuple sq
    refine enum1 (begins_tuple a us.toArray) tu fun h1 ie gi sz kp => wpAny_pyIter_enum ie ?_
    refine ⟨s1.heap.objs.size + 1, [s1.heap.objs.size + 1, s1.heap.objs.size], _, _, H1, rfl, I1.kept (t' := s1.toks) kp, turn_enumT a (s1.heap.objs.size + 1) s1.heap.objs.size, ⟨⟨.none, ie⟩, ⟨_, gi, rfl, rfl⟩, Nat.succ_ne_self _⟩, fun b hb => ?_, q2⟩
    have lb : s1.heap.objs.size ≤ b := by
      rcases (by simpa using hb : b = s1.heap.objs.size + 1 ∨ b = s1.heap.objs.size) with z | z
      · rw [z]; exact Nat.le_add_right _ _
      · rw [z]; exact Nat.le_refl _
    exact I1.fpOk lb (I1.hok.fresh lb)
end Wd

set_option Elab.async false
set_option linter.all false
set_option maxRecDepth 100000
namespace Wd
open PySem PySem.Spec PyProof.Rows L2

section
variable {P : Program} {w : World} {K : PySem.W.Frag} {mg : Str → Option Value} {base : Heap} {cls : Str → Option Addr} {G : Gt} {k : Nat} {X : Cx} {W : WX} {C : St0} {n : Nat} {pos : Pos}
variable {a b e d tg : Expr}
/-! ### what is walked -/
/-- at each state behind (ia, F) the iterator gives the items of xs -/
def IterOk (K : PySem.W.Frag) (cls : Str → Option Addr) (ia : List Addr) (F : Hp) (xs : List Vl) (J : It) : Prop :=
  ∀ (ja : List Addr) (F1 : Hp) (h1 : Hs) (H1 : Hp), Sim K cls ja F1 h1 H1 → (∀ (n : Nat) (a : Addr), ia[n]? = some a → ja[n]? = some a) → (∀ a o, F a = some o → F1 a = some o) →
    J.stop xs.length H1 ∧ ∀ i d, xs[i]? = some d → J.go i H1 ∧ ∀ x H2, J.yld i H1 x H2 → ∃ F2, Post K cls ja F1 H1 ja F2 h1 H2 ∧ Rep K cls ja F2 d x
def tI (K : PySem.W.Frag) (cls : Str → Option Addr) (W : WX) (G : Gt) (n : Nat) (C : St0) (tg it : Expr) : TI := fun σ H R =>
  ∃ (ia : List Addr) (F : Hp) (h : Hs) (ρ : Env), Sim K cls ia F h H ∧ EnvR K cls ia F σ ρ ∧ Fin K cls W σ ia F H (evIter C (isTupE tg) (fun e h => evE G n C e ρ h) it h) (IterOk K cls) R
theorem intsV_len (n : Nat) : ∀ a, (intsV a n).length = n := by
  induction n with
  | zero => intro a; rfl
  | succ n ih => intro a; rw [intsV, List.length_cons, ih]
theorem intsV_get (n : Nat) : ∀ a i d, (intsV a n)[i]? = some d → i < n ∧ d = .int (a + i) := by
  induction n with
  | zero => intro a i d h; simp [intsV] at h
  | succ n ih =>
    intro a i d h
    cases i with
    | zero =>
      simp [intsV] at h
      exact ⟨Nat.succ_pos _, by rw [← h]; simp⟩
    | succ i =>
      rw [intsV, List.getElem?_cons_succ] at h
      obtain ⟨h1, h2⟩ := ih _ _ _ h
      refine ⟨by omega, ?_⟩
      rw [h2]
      congr 1
      push_cast
      omega
theorem charsV_len : ∀ cs : List Nat, (charsV cs).length = cs.length
  | [] => rfl
  | c :: cs => by rw [charsV, List.length_cons, List.length_cons, charsV_len cs]
theorem charsV_get : ∀ (cs : List Nat) (i : Nat) (d : Vl), (charsV cs)[i]? = some d → ∃ c, cs[i]? = some c ∧ d = .str ⟨#[c]⟩
  | [], i, d, h => by simp [charsV] at h
  | c :: cs, 0, d, h => by
    simp [charsV] at h
    exact ⟨c, rfl, h.symm⟩
  | c :: cs, i + 1, d, h => by
    rw [charsV, List.getElem?_cons_succ] at h
    simpa using charsV_get cs i d h
theorem iter_rng {ia : List Addr} {F : Hp} {lo : Int} {m : Nat} : IterOk K cls ia F (intsV lo m) (Itr lo m) := by
  intro ja F1 h1 H1 S _ _
  refine ⟨by rw [intsV_len]; exact Nat.le_refl _, fun i d e => ?_⟩
  obtain ⟨h2, rfl⟩ := intsV_get _ _ _ _ e
  refine ⟨h2, fun x H2 y => ?_⟩
  obtain ⟨rfl, rfl⟩ := y
  exact ⟨F1, Post.refl S, by simp only [Rep]⟩
theorem iter_str {ia : List Addr} {F : Hp} {s : Str} : IterOk K cls ia F (charsV s.cps.toList) (Its s) := by
  intro ja F1 h1 H1 S _ _
  refine ⟨by rw [charsV_len]; exact Nat.le_of_eq (Array.length_toList).symm, fun i d e => ?_⟩
  obtain ⟨c, h2, rfl⟩ := charsV_get _ _ _ e
  refine ⟨?_, fun x H2 y => ?_⟩
  · have := (List.getElem?_eq_some_iff.mp h2).1
    rw [Array.length_toList] at this
    exact this
  · obtain ⟨rfl, c', h3, rfl⟩ := y
    rw [← Array.getElem?_toList, h2] at h3
    cases h3
    exact ⟨F1, Post.refl S, by simp only [Rep]⟩
theorem iter_lst {ia : List Addr} {F : Hp} {xs : List Vl} {vs : List V} {p : Addr} (q : SqL K F p vs) (r : RepL K cls ia F xs vs) : IterOk K cls ia F xs (Itl K p) := by
  intro ja F1 h1 H1 S hi hf
  have q1 : SqL K H1 p vs := sqL_mono S.sub (sqL_mono hf q)
  refine ⟨⟨vs, q1, Nat.le_of_eq r.len.symm⟩, fun i d e => ?_⟩
  obtain ⟨v, ev, rv⟩ := r.get e
  refine ⟨⟨vs, v, q1, ev⟩, fun x H2 y => ?_⟩
  obtain ⟨rfl, y⟩ := y
  have := y vs q1
  rw [ev] at this
  cases this
  exact ⟨F1, Post.refl S, Rep.mono hi hf _ _ rv⟩
theorem iter_tup {ia : List Addr} {F : Hp} {xs : List Vl} {vs : List V} {p : Addr} (q : SqT K F p vs) (r : RepL K cls ia F xs vs) : IterOk K cls ia F xs (Itt K p) := by
  intro ja F1 h1 H1 S hi hf
  have q1 : SqT K H1 p vs := sqT_mono S.sub (sqT_mono hf q)
  refine ⟨⟨vs, q1, Nat.le_of_eq r.len.symm⟩, fun i d e => ?_⟩
  obtain ⟨v, ev, rv⟩ := r.get e
  refine ⟨⟨vs, v, q1, ev⟩, fun x H2 y => ?_⟩
  obtain ⟨rfl, y⟩ := y
  have := y vs q1
  rw [ev] at this
  cases this
  exact ⟨F1, Post.refl S, Rep.mono hi hf _ _ rv⟩
theorem enumV_len : ∀ (xs : List Vl) (i : Int), (enumV i xs).length = xs.length
  | [], _ => rfl
  | x :: xs, i => by rw [enumV, List.length_cons, List.length_cons, enumV_len xs]
theorem enumV_get : ∀ (xs : List Vl) (k : Int) (i : Nat) (d : Vl), (enumV k xs)[i]? = some d → ∃ y, xs[i]? = some y ∧ d = .tup [.int (k + i), y]
  | [], _, _, _, h => by simp [enumV] at h
  | x :: xs, k, i, d, h => by
    cases i with
    | zero => simp [enumV] at h; exact ⟨x, rfl, by simp [← h]⟩
    | succ i =>
      obtain ⟨y, e1, e2⟩ := enumV_get xs (k + 1) i d (by simpa [enumV] using h)
      exact ⟨y, by simpa using e1, by rw [e2]; congr 3; omega⟩
theorem rep_pair {ia : List Addr} {F : Hp} {i : Nat} {y : Vl} {x : V} (r : Rep K cls ia F y x) : RepL K cls ia F [.int (0 + (i : Int)), y] [.int (i : Nat), x] :=
  RepL.cons (by simp only [Rep, Int.zero_add]) (RepL.cons r RepL.nil)
theorem iter_enumL {ia : List Addr} {F : Hp} {xs : List Vl} {vs : List V} {p : Addr} (q : SqL K F p vs) (r : RepL K cls ia F xs vs) : IterOk K cls ia F (enumV 0 xs) (Ite K p) := by
  intro ja F1 h1 H1 S hi hf
  have qs := sqL_mono S.sub (sqL_mono hf q)
  refine ⟨⟨vs, qs, by rw [enumV_len, r.len]; exact Nat.le_refl _⟩, fun i d e => ?_⟩
  obtain ⟨y, e1, rfl⟩ := enumV_get xs 0 i d e
  obtain ⟨x, gx, rx⟩ := r.get e1
  refine ⟨⟨vs, x, qs, gx⟩, ?_⟩
  rintro v H2 ⟨T, x', rfl, hT, rfl, hx⟩
  have ex : x' = x := Option.some.inj ((hx vs qs).symm.trans gx)
  subst ex
  have rm := rep_pair (i := i) (Rep.mono hi hf _ _ rx)
  have ps := Post.frozen S hT (.tup [.int (i : Nat), x'])
  refine ⟨_, ps, ?_⟩
  simp only [Rep]
  exact ⟨T, _, rfl, .inl (.inl (upd_same ..)), rm.post ps⟩
theorem iter_enumT {ia : List Addr} {F : Hp} {xs : List Vl} {vs : List V} {p : Addr} (q : SqT K F p vs) (r : RepL K cls ia F xs vs) : IterOk K cls ia F (enumV 0 xs) (IteT K p) := by
  intro ja F1 h1 H1 S hi hf
  have qs := sqT_mono S.sub (sqT_mono hf q)
  refine ⟨⟨vs, qs, by rw [enumV_len, r.len]; exact Nat.le_refl _⟩, fun i d e => ?_⟩
  obtain ⟨y, e1, rfl⟩ := enumV_get xs 0 i d e
  obtain ⟨x, gx, rx⟩ := r.get e1
  refine ⟨⟨vs, x, qs, gx⟩, ?_⟩
  rintro v H2 ⟨T, x', rfl, hT, rfl, hx⟩
  have ex : x' = x := Option.some.inj ((hx vs qs).symm.trans gx)
  subst ex
  have rm := rep_pair (i := i) (Rep.mono hi hf _ _ rx)
  have ps := Post.frozen S hT (.tup [.int (i : Nat), x'])
  refine ⟨_, ps, ?_⟩
  simp only [Rep]
  exact ⟨T, _, rfl, .inl (.inl (upd_same ..)), rm.post ps⟩
theorem enOf_some {it e : Expr} (h : enOf it = some e) : ∃ p q, it = .Call (.Name "enumerate" p) [e] [] q := by
  unfold enOf at h
  split at h
  · split at h
    · rename_i z
      cases h
      exact ⟨_, _, by rw [z]⟩
    · cases h
  · cases h
theorem isTupE_some {tg : Expr} (h : isTupE tg = true) : ∃ ts j p, tg = .Tuple ts j p := by
  unfold isTupE at h
  split at h
  · exact ⟨_, _, _, rfl⟩
  · cases h
theorem rngOf_some {it : Expr} {es : List Expr} (h : rngOf it = some es) : ∃ p q, it = .Call (.Name "range" p) es [] q := by
  unfold rngOf at h
  split at h
  · split at h
    · rename_i hx
      cases h
      exact ⟨_, _, by rw [hx]⟩
    · cases h
  · cases h
theorem star_one {e : Expr} {env : PySem.Env} (h : isStar e = false) : starEach [e] env = [(false, eval e env)] := by rw [star_no h]; rfl
theorem star_two {e e2 : Expr} {env : PySem.Env} (h : isStar e = false) (h2 : isStar e2 = false) : starEach [e, e2] env = [(false, eval e env), (false, eval e2 env)] := by rw [star_no h, star_one h2]
theorem i_all (PO : PrOk P w K mg base cls G k) (c : CxOk P w K mg base k X W C) (he : ∀ e, PE X e (tE K cls W G n C e)) (it : Expr) : PI X tg it (tI K cls W G n C tg it) := by
  have hK := c.K
  subst hK
  refine ⟨fun pins s σ H R I ⟨ia, F, h, ρ, S, E, f⟩ => ?_⟩
  unfold evIter at f
  have gl : kindE C "range" = some .globalImplicit → Gl X "range" := fun hg => by
    have hk : X.env.kindOf "range" = kindE C "range" := by unfold kindE; rw [← c.sc]; rfl
    exact hk.trans hg
  split at f
  · rename_i a hr
    obtain ⟨p, q, rfl⟩ := rngOf_some hr
    split at f
    · rename_i hh
      refine (pi_range1 (gl hh.1) (by rw [c.mg]; exact PO.rng) (a_args c he [a]) (star_one hh.2)).run pins s σ H R I ⟨ia, F, h, ρ, S, E, ?_⟩
      have f' : Fin X.K cls W σ ia F H ((evL (fun e h => evE G n C e ρ h) [a] h).bind fun vs h => match vs with | [v] => Rs.of (rangeV [v]) h | _ => .no) (IterOk X.K cls) R := by
        rw [evL_no hh.2, Rs.bind_assoc]
        exact f
      refine f'.seq fun vs H1 ds ja F1 h1 p1 r1 f1 => ?_
      split at f1
      · rename_i d
        obtain ⟨xs, ex, qq⟩ := f1.of_some
        unfold rangeV at ex
        split at ex
        · rename_i j e1
          cases e1
          split at ex
          · rename_i hb
            cases ex
            obtain ⟨v, rfl, rv⟩ := one_rep r1
            simp only [Rep] at rv
            subst rv
            obtain ⟨b1, b2⟩ := Bool.and_eq_true_iff.mp hb
            exact ⟨j, rfl, of_decide_eq_true b1, of_decide_eq_true b2, qq _ ja F1 H1 (Post.refl p1.sim) iter_rng⟩
          · cases ex
        · rename_i e1
          cases e1
        · cases ex
      · exact f1.elim
    · exact f.elim
  · rename_i a b hr
    obtain ⟨p, q, rfl⟩ := rngOf_some hr
    split at f
    · rename_i hh
      refine (pi_range2 (gl hh.1) (by rw [c.mg]; exact PO.rng) (a_args c he [a, b]) (star_two hh.2.1 hh.2.2) (star_one hh.2.2)).run pins s σ H R I ⟨ia, F, h, ρ, S, E, ?_⟩
      have f' : Fin X.K cls W σ ia F H ((evL (fun e h => evE G n C e ρ h) [a, b] h).bind fun vs h => match vs with | [v, u] => Rs.of (rangeV [v, u]) h | _ => .no) (IterOk X.K cls) R := by
        rw [evL_no hh.2.1, Rs.bind_assoc]
        refine cast (congrArg (fun g => Fin X.K cls W σ ia F H ((evE G n C a ρ h).bind g) (IterOk X.K cls) R) (funext fun x => funext fun h => ?_)) f
        rw [evL_no hh.2.2, Rs.bind_assoc, Rs.bind_assoc]
        rfl
      refine f'.seq fun vs H1 ds ja F1 h1 p1 r1 f1 => ?_
      split at f1
      · rename_i d d2
        obtain ⟨xs, ex, qq⟩ := f1.of_some
        unfold rangeV at ex
        split at ex
        · rename_i e1
          cases e1
        · rename_i i j e1
          cases e1
          split at ex
          · rename_i hb
            cases ex
            simp only [RepL, Rep] at r1
            obtain ⟨v, ws, rfl, rfl, v2, ws2, rfl, rfl, rfl⟩ := r1
            simp only [Bool.and_eq_true, decide_eq_true_eq] at hb
            obtain ⟨⟨⟨b1, b2⟩, b3⟩, b4⟩ := hb
            exact ⟨i, j, rfl, ⟨b1, b2, b3, b4⟩, qq _ ja F1 H1 (Post.refl p1.sim) iter_rng⟩
          · cases ex
        · cases ex
      · exact f1.elim
    · exact f.elim
  · exact f.elim
  · rename_i hr
    split at f
    · rename_i a hen
      obtain ⟨p, q, rfl⟩ := enOf_some hen
      split at f
      · rename_i hh
        obtain ⟨ts, j, tp, rfl⟩ := isTupE_some hh.2.2
        have gle : Gl X "enumerate" := by
          have hk : X.env.kindOf "enumerate" = kindE C "enumerate" := by unfold kindE; rw [← c.sc]; rfl
          exact hk.trans hh.1
        have f' : Fin X.K cls W σ ia F H ((evL (fun e h => evE G n C e ρ h) [a] h).bind fun vs h => match vs with | [v] => Rs.of ((seqV v).map (enumV 0)) h | _ => .no) (IterOk X.K cls) R := by
          rw [evL_no hh.2.1, Rs.bind_assoc]
          exact f
        have f : Fin X.K cls W σ ia F H ((evE G n C a ρ h).bind fun v h => Rs.of ((seqV v).map (enumV 0)) h) (IterOk X.K cls) R := f
        have eL : ∀ d h1, evE G n C a ρ h = .ok d h1 → evL (fun e h => evE G n C e ρ h) [a] h = .ok [d] h1 := fun d h1 z => by rw [evL_no hh.2.1, z]; rfl
        cases hm : evE G n C a ρ h with
        | no => rw [hm] at f; exact f.elim
        | rz ex h1 =>
          refine (pi_enumT gle (by rw [c.mg]; exact PO.enu) (a_args c he [a]) (star_one hh.2.1)).run pins s σ H R I ⟨ia, F, h, ρ, S, E, ?_⟩
          rw [evL_no hh.2.1, hm]
          rw [hm] at f
          exact f
        | ok d h1 =>
          rw [hm] at f
          simp only [Rs.bind_ok] at f
          obtain ⟨xs, ex, qq⟩ := f.of_some
          obtain ⟨ys, ey, rfl⟩ := Option.map_eq_some_iff.mp ex
          unfold seqV at ey
          split at ey
          · cases ey
            refine (pi_enumT gle (by rw [c.mg]; exact PO.enu) (a_args c he [a]) (star_one hh.2.1)).run pins s σ H R I ⟨ia, F, h, ρ, S, E, ?_⟩
            rw [eL _ _ hm]
            intro vs ja F1 H1 p1 r1
            obtain ⟨v, rfl, rv⟩ := one_rep r1
            simp only [Rep] at rv
            obtain ⟨p, vs, rfl, sq, rl⟩ := rv
            exact ⟨p, vs, rfl, sqT_mono p1.sim.sub sq, qq _ ja F1 H1 p1 (iter_enumT sq rl)⟩
          · cases ey
            refine (pi_enum gle (by rw [c.mg]; exact PO.enu) (a_args c he [a]) (star_one hh.2.1)).run pins s σ H R I ⟨ia, F, h, ρ, S, E, ?_⟩
            rw [eL _ _ hm]
            intro vs ja F1 H1 p1 r1
            obtain ⟨v, rfl, rv⟩ := one_rep r1
            simp only [Rep] at rv
            obtain ⟨p, vs, rfl, sq, rl⟩ := rv
            exact ⟨p, vs, rfl, sqL_mono p1.sim.sub sq, qq _ ja F1 H1 p1 (iter_enumL sq rl)⟩
          · cases ey
      · exact f.elim
    split at f
    · exact f.elim
    rename_i hset
    have f : Fin X.K cls W σ ia F H ((evE G n C it ρ h).bind fun v h => Rs.of (walkV v) h) (IterOk X.K cls) R := f
    cases hm : evE G n C it ρ h with
    | no => rw [hm] at f; exact f.elim
    | rz ex h1 =>
      rw [hm] at f
      exact (pi_tup (he it)).run pins s σ H R I ⟨ia, F, h, ρ, S, E, by rw [hm]; exact f⟩
    | ok d h1 =>
      rw [hm] at f
      simp only [Rs.bind_ok] at f
      obtain ⟨xs, ex, qq⟩ := f.of_some
      unfold walkV at ex
      split at ex
      · cases ex
        refine (pi_tup (he it)).run pins s σ H R I ⟨ia, F, h, ρ, S, E, ?_⟩
        rw [hm]
        intro x ja F1 H1 p1 r1
        simp only [Rep] at r1
        obtain ⟨a, vs, rfl, sq, rl⟩ := r1
        exact ⟨a, rfl, ⟨vs, sqT_mono p1.sim.sub sq⟩, qq _ ja F1 H1 p1 (iter_tup sq rl)⟩
      · cases ex
        refine (pi_list (he it)).run pins s σ H R I ⟨ia, F, h, ρ, S, E, ?_⟩
        rw [hm]
        intro x ja F1 H1 p1 r1
        simp only [Rep] at r1
        obtain ⟨a, vs, rfl, sq, rl⟩ := r1
        exact ⟨a, rfl, ⟨vs, sqL_mono p1.sim.sub sq⟩, qq _ ja F1 H1 p1 (iter_lst sq rl)⟩
      · split at ex
        · cases ex
          refine (pi_str (he it)).run pins s σ H R I ⟨ia, F, h, ρ, S, E, ?_⟩
          rw [hm]
          intro x ja F1 H1 p1 r1
          simp only [Rep] at r1
          subst r1
          exact ⟨_, rfl, qq _ ja F1 H1 p1 iter_str⟩
        · cases ex
      · cases ex

/-! ### targets -/
/-- σ' is σ but at the slots of the names -/
def SameBut (N : List Str) (xs : List Str) (σ σ' : L2.St) : Prop := σ'.length = σ.length ∧ ∀ vs : List Nat, (∀ x ∈ xs, ∀ i, slotOf N x = some i → i ∈ vs) → wipe σ' vs = wipe σ vs
theorem wipe_set {v : Option V} : ∀ {vs : List Nat} {σ : L2.St} {i : Nat}, i ∈ vs → wipe (σ.set i v) vs = wipe σ vs
  | j :: vs, σ, i, h => by
    unfold wipe
    by_cases hm : i ∈ vs
    · rw [wipe_set hm]
    · have hij : i = j := by
        rcases List.mem_cons.mp h with z | z
        · exact z
        · exact absurd z hm
      subst hij
      have e : ∀ (vs : List Nat), i ∉ vs → wipe (σ.set i v) vs = (wipe σ vs).set i v := by
        intro vs
        induction vs with
        | nil => intro _; rfl
        | cons j vs ih =>
          intro hn
          simp only [List.mem_cons, not_or] at hn
          unfold wipe
          rw [ih hn.2, List.set_comm _ _ hn.1]
      rw [e vs hm, List.set_set]
theorem SameBut.refl {N : List Str} {xs : List Str} {σ : L2.St} : SameBut N xs σ σ := ⟨rfl, fun _ _ => rfl⟩
theorem EnvR.set {ia : List Addr} {F : Hp} {σ : L2.St} {ρ : Env} {i : Nat} {d : Vl} {v : V} (E : EnvR K cls ia F σ ρ) (hi : i < σ.length) (r : Rep K cls ia F d v) : EnvR K cls ia F (σ.set i (some v)) (ρ.set i (some d)) := by
  intro j d' e
  by_cases hj : i = j
  · subst hj
    by_cases hl : i < ρ.length
    · rw [List.getElem?_set_self hl] at e
      cases e
      exact ⟨v, by rw [List.getElem?_set_self hi], r⟩
    · rw [List.getElem?_eq_none (by rw [List.length_set]; omega)] at e
      cases e
  · rw [List.getElem?_set_ne hj] at e
    rw [List.getElem?_set_ne hj]
    exact E j d' e
theorem EnvR.unset {ia : List Addr} {F : Hp} {σ : L2.St} {ρ : Env} {i : Nat} (E : EnvR K cls ia F σ ρ) : EnvR K cls ia F (σ.set i none) (ρ.set i none) := by
  intro j d' e
  by_cases hj : i = j
  · subst hj
    by_cases hl : i < ρ.length
    · rw [List.getElem?_set_self hl] at e
      cases e
    · rw [List.getElem?_eq_none (by rw [List.length_set]; omega)] at e
      cases e
  · rw [List.getElem?_set_ne hj] at e
    rw [List.getElem?_set_ne hj]
    exact E j d' e
theorem EnvR.wipe {ia : List Addr} {F : Hp} {σ : L2.St} {ρ : Env} (E : EnvR K cls ia F σ ρ) : ∀ vs : List Nat, EnvR K cls ia F (L2.wipe σ vs) (wipeE ρ vs)
  | [] => E
  | v :: vs => by
    unfold L2.wipe wipeE
    exact (EnvR.wipe E vs).unset
def gT (K : PySem.W.Frag) (cls : Str → Option Addr) (C : St0) (tg : Expr) : TG := fun v σ H Q =>
  ∃ (ia : List Addr) (F : Hp) (h : Hs) (ρ ρ' : Env) (d : Vl), Sim K cls ia F h H ∧ EnvR K cls ia F σ ρ ∧ Rep K cls ia F d v ∧ asgE C tg d ρ = some ρ' ∧ ∀ σ', EnvR K cls ia F σ' ρ' → SameBut C.N (tgNames tg) σ σ' → Q σ' H
def gTs (K : PySem.W.Frag) (cls : Str → Option Addr) (C : St0) (ts : List Expr) : TGs := fun vs σ H Q =>
  ∃ (ia : List Addr) (F : Hp) (h : Hs) (ρ ρ' : Env) (ds : List Vl), Sim K cls ia F h H ∧ EnvR K cls ia F σ ρ ∧ RepL K cls ia F ds vs ∧ asgL C ts ds ρ = some ρ' ∧ ∀ σ', EnvR K cls ia F σ' ρ' → SameBut C.N (tgNamesL ts) σ σ' → Q σ' H
/-- a name's slot -/
theorem setS_ok (c : CxOk P w K mg base k X W C) {x : Str} {d : Vl} {ρ ρ' : Env} (e : setS C x d ρ = some ρ') : ∃ i, slotOf C.N x = some i ∧ X.N[i]? = some x ∧ Loc X.env.scope x ∧ (X.fn x = true ∨ X.env.scope.names.lookup x = some .local) ∧ ρ' = ρ.set i (some d) := by
  have hk : X.env.scope.names.lookup x = kindE C x := by unfold kindE; rw [← c.sc]
  have hs : ∀ i, slotOf C.N x = some i → X.N[i]? = some x := fun i hi => by
    rw [c.nN]
    unfold slotOf at hi
    obtain ⟨hl, hp, _⟩ := List.findIdx?_eq_some_iff_getElem.mp hi
    rw [List.getElem?_eq_getElem hl]
    exact congrArg some (eq_of_beq hp)
  unfold setS at e
  split at e
  · rename_i i h1 h2
    cases e
    exact ⟨i, h2, hs i h2, .inl (hk.trans h1), .inr (hk.trans h1), rfl⟩
  · rename_i i h1 h2
    split at e
    · rename_i ht
      cases e
      exact ⟨i, h2, hs i h2, .inr (hk.trans h1), .inl (c.fn ht x), rfl⟩
    · cases e
  · cases e
theorem asgL_len : ∀ {ts : List Expr} {ds : List Vl} {ρ ρ' : Env}, asgL C ts ds ρ = some ρ' → ds.length = ts.length
  | [], [], _, _, _ => rfl
  | [], _ :: _, _, _, e => by simp [asgL] at e
  | _ :: _, [], _, _, e => by simp [asgL] at e
  | t :: ts, d :: ds, ρ, ρ', e => by
    simp only [asgL] at e
    cases h : asgE C t d ρ with
    | none => rw [h] at e; cases e
    | some ρ1 =>
      rw [h] at e
      rw [List.length_cons, List.length_cons, asgL_len (ts := ts) (ds := ds) e]
def isTg : Expr → Bool
  | .Name _ _ => true
  | .Tuple _ _ _ => true
  | _ => false
theorem asgE_tg {t : Expr} {d : Vl} {ρ ρ' : Env} (e : asgE C t d ρ = some ρ') : isTg t = true := by
  cases t <;> first | rfl | simp [asgE] at e
theorem asg_each {env : PySem.Env} {t : Expr} {ts : List Expr} (h : isTg t = true) : assignEach (t :: ts) env = (false, assign t env) :: assignEach ts env := by
  cases t <;> first | rfl | cases h
theorem asg_all {env : PySem.Env} : ∀ {ts : List Expr} {ds : List Vl} {ρ ρ' : Env}, asgL C ts ds ρ = some ρ' → (assignEach ts env).length = ts.length ∧ (assignEach ts env).findIdx? (·.1) = none
  | [], _, _, _, _ => ⟨rfl, rfl⟩
  | _ :: _, [], _, _, e => by simp [asgL] at e
  | t :: ts, d :: ds, ρ, ρ', e => by
    simp only [asgL] at e
    cases h : asgE C t d ρ with
    | none => rw [h] at e; cases e
    | some ρ1 =>
      rw [h] at e
      obtain ⟨h1, h2⟩ := asg_all (env := env) (ts := ts) (ds := ds) e
      rw [asg_each (asgE_tg h)]
      refine ⟨by rw [List.length_cons, h1, List.length_cons], ?_⟩
      rw [List.findIdx?_cons, h2]
      rfl
mutual
theorem g_asg (c : CxOk P w K mg base k X W C) : ∀ tg : Expr, PG X tg (gT K cls C tg)
  | .Name x p => by
    refine ⟨fun pins s σ H v u Q I r ⟨ia, F, h, ρ, ρ', d, S, E, rd, e, q⟩ => ?_⟩
    simp only [asgE] at e
    obtain ⟨i, h1, h2, h3, h4, rfl⟩ := setS_ok c e
    refine (pg_name (by rw [c.nN]; exact c.nd) h2 h3 h4).run pins s σ H v u Q I r (q _ (EnvR.set E ?_ rd) ⟨List.length_set, fun vs hv => wipe_set (hv x (by simp [tgNames]) i h1)⟩)
    rw [I.len]
    exact (List.getElem?_eq_some_iff.mp h2).1
  | .Tuple ts j p => by
    have ih := g_asgL c ts
    have hK := c.K
    subst hK
    refine ⟨fun pins s σ H v u Q I r ⟨ia, F, h, ρ, ρ', d, S, E, rd, e, q⟩ => ?_⟩
    cases d with
    | tup ds =>
      simp only [asgE] at e
      simp only [Rep] at rd
      obtain ⟨a, vs, rfl, sq, rl⟩ := rd
      obtain ⟨l1, l2⟩ := asg_all (env := X.env) e
      refine (pg_tup c.calm ih (n := ts.length) l1 l2).run pins s σ H _ u Q I r ⟨a, vs, rfl, sqT_mono S.sub sq, by rw [← rl.len]; exact asgL_len e, ia, F, h, ρ, ρ', ds, S, E, rl, e, fun σ' E' sb => q σ' E' ?_⟩
      simpa only [tgNames] using sb
    | _ => simp [asgE] at e
  | .BoolOp .. | .NamedExpr .. | .BinOp .. | .UnaryOp .. | .Lambda .. | .IfExp .. | .Dict .. | .Set .. | .ListComp .. | .SetComp .. | .DictComp .. | .GeneratorExp .. | .Await .. | .Yield .. | .YieldFrom .. | .Compare .. | .Call .. | .FormattedValue .. | .JoinedStr .. | .Constant .. | .Attribute .. | .Subscript .. | .Starred .. | .List .. | .Slice .. =>
    ⟨fun pins s σ H v u Q I r ⟨ia, F, h, ρ, ρ', d, S, E, rd, e, q⟩ => by simp [asgE] at e⟩
theorem g_asgL (c : CxOk P w K mg base k X W C) : ∀ ts : List Expr, PGs X ts (gTs K cls C ts)
  | [] => by
    refine ⟨fun pins s σ H vs us Q I r ⟨ia, F, h, ρ, ρ', ds, S, E, rl, e, q⟩ => ?_⟩
    cases ds with
    | nil =>
      simp only [asgL, Option.some.injEq] at e
      subst e
      simp only [RepL] at rl
      exact pgs_nil.run pins s σ H vs us Q I r ⟨rl, q σ E SameBut.refl⟩
    | cons _ _ => simp [asgL] at e
  | t :: ts => by
    have h1 := g_asg c t
    have h2 := g_asgL c ts
    refine ⟨fun pins s σ H vs us Q I r ⟨ia, F, h, ρ, ρ', ds, S, E, rl, e, q⟩ => ?_⟩
    cases ds with
    | nil => simp [asgL] at e
    | cons d ds =>
      simp only [asgL] at e
      cases ha : asgE C t d ρ with
      | none => rw [ha] at e; cases e
      | some ρ1 =>
        rw [ha] at e
        simp only [RepL] at rl
        obtain ⟨v, ws, rfl, r1, r2⟩ := rl
        refine (pgs_cons h1 h2 (by rw [asg_each (asgE_tg ha)]; rfl)).run pins s σ H _ us Q I r ⟨v, ws, rfl, ia, F, h, ρ, ρ1, d, S, E, r1, ha, fun σ1 E1 sb1 => ⟨ia, F, h, ρ1, ρ', ds, S, E1, r2, e, fun σ2 E2 sb2 => q σ2 E2 ⟨sb2.1.trans sb1.1, fun vs hv => ?_⟩⟩⟩
        rw [sb2.2 vs fun x hx => hv x (by simp only [tgNamesL]; exact List.mem_append_right _ hx), sb1.2 vs fun x hx => hv x (by simp only [tgNamesL]; exact List.mem_append_left _ hx)]
end
end
end Wd

set_option Elab.async false
set_option linter.all false
set_option maxRecDepth 100000
namespace Wd
open PySem PySem.Spec PyProof.Rows L2

section
variable {P : Program} {w : World} {K : PySem.W.Frag} {mg : Str → Option Value} {base : Heap} {cls : Str → Option Addr} {G : Gt} {k : Nat} {X : Cx} {W : WX} {C : St0} {n : Nat} {pos : Pos}
variable {a b e d tg elt iter : Expr} {ifs : List Expr} {scope : Scope}
/-- nothing is raised -/
def WF : WX := fun _ _ _ _ => False
def tTs (K : PySem.W.Frag) (cls : Str → Option Addr) (W : WX) (G : Gt) (n : Nat) (C : St0) (es : List Expr) : TT := fun σ H Q =>
  ∃ (ia : List Addr) (F : Hp) (h : Hs) (ρ : Env), Sim K cls ia F h H ∧ EnvR K cls ia F σ ρ ∧ Fin K cls W σ ia F H (evIfs (fun e h => evE G n C e ρ h) es h) eqR Q
theorem pts_all (ht : ∀ e, PT X e (tT K cls W G n C e)) : ∀ es : List Expr, PTs X es (tTs K cls W G n C es)
  | [] => ⟨fun pins s σ H Q I ⟨ia, F, h, ρ, S, E, f⟩ => pts_nil.run pins s σ H Q I (f true ia F H (Post.refl S) rfl)⟩
  | [e] => ⟨fun pins s σ H Q I ⟨ia, F, h, ρ, S, E, f⟩ => (pts_one (ht e)).run pins s σ H Q I ⟨ia, F, h, ρ, S, E, f⟩⟩
  | _ :: _ :: _ => ⟨fun pins s σ H Q I ⟨ia, F, h, ρ, S, E, f⟩ => f.elim⟩
abbrev inBlk (C : St0) (scope : Scope) : St0 := { C with sc := relS scope C.sc, top := false }
theorem CxOk.blk (c : CxOk P w K mg base k X W C) {s : Shared} {H : Hp} {L : Addr} {cl : List (Str × Addr)} {fp : List Addr} : CxOk P w K mg base k (X.blk s H scope (compEnvC scope cl L X.env) fp) WF (inBlk C scope) :=
  ⟨c.prog, c.w, c.K, c.mg, c.base, c.nN, c.nd, (by show relS scope X.env.scope = relS scope C.sc; rw [c.sc]), c.calm, c.gu, c.room, (fun z => nomatch z), c.dbg, (fun u s' ⟨_, _, _, _, _, _, _, _, _, _, _, _, _, _, _, _, hw⟩ => hw.elim), PassesOwn.never⟩
theorem wipe_idem {σ : L2.St} : ∀ {vs us : List Nat}, (∀ v ∈ us, v ∈ vs) → wipe (wipe σ us) vs = wipe σ vs
  | vs, [], _ => rfl
  | vs, u :: us, h => by
    show wipe ((wipe σ us).set u none) vs = wipe σ vs
    rw [wipe_set (h u (by simp)), wipe_idem fun v hv => h v (List.mem_cons_of_mem _ hv)]
theorem Post.keepD {ia ja : List Addr} {F F' H H' : Hp} {h' : Hs} {D : Addr} {o : HO} (p : Post K cls ia F H ja F' h' H') (hF : F D = none) (hD : D ∉ ia) (ho : H D = some o) : F' D = none ∧ D ∉ ja ∧ H' D = some o :=
  ⟨p.fz D hD hF (by rw [ho]; simp), (fun z => by rw [p.nw D z hD] at ho; cases ho), p.kp D o ho hD⟩
theorem lc_ok (c : CxOk P w K mg base k X W C) {σ : L2.St} {H : Hp} {ia : List Addr} {F : Hp} {h : Hs} {ρ : Env} {Q : VK} (S : Sim K cls ia F h H) (E : EnvR K cls ia F σ ρ) (hx : tgIn C.N scope tg = true)
    (f : Fin K cls W σ ia F H ((evIter C (isTupE tg) (fun e h => evE G n C e ρ h) iter h).bind fun xs h => (compM (fun x h => compG (fun ρ' h => evIfs (fun e h => evE G n (inBlk C scope) e ρ' h) ifs h)
      (fun ρ' h => evE G n (inBlk C scope) elt ρ' h) (asgE (inBlk C scope) tg x (wipeE ρ ((ownOf C.N scope).map (·.2)))) h) xs [] h).bind fun ys h => mkList C pos ys h) (Rep K cls) Q) :
    tLc (tI K cls W G n C tg iter) (gT K cls (inBlk C scope) tg) (tTs K cls WF G n (inBlk C scope) ifs) (tE K cls WF G n (inBlk C scope) elt) ((ownOf C.N scope).map (·.2)) σ H Q := by
  refine ⟨ia, F, h, ρ, S, E, f.seq fun J H1 xs ja F1 h1 p1 io f1 D hD => ?_⟩
  generalize hvs : (ownOf C.N scope).map (·.2) = vs at f1 ⊢
  have hF : F1 D = none := by
    cases e : F1 D with
    | none => rfl
    | some u => rw [p1.sim.sub D u e] at hD; cases hD
  have hDn : D ∉ ja := fun z => p1.sim.there D z hD
  have hown : ∀ x ∈ tgNames tg, ∀ i, slotOf C.N x = some i → i ∈ vs := by
    intro x hx' i hi
    have z := List.all_eq_true.mp hx x hx'
    rw [hi] at z
    rw [← hvs]
    exact List.contains_iff_mem.mp z
  have wk : Walk J xs.length (fun H => ∃ ka F2 h2, Post K cls ja F1 H1 ka F2 h2 H) (fun i H x H' => ∃ d, xs[i]? = some d ∧ ∀ ka F2 h2, Post K cls ja F1 H1 ka F2 h2 H → ∃ F3, Post K cls ka F2 H ka F3 h2 H' ∧ Rep K cls ka F3 d x) :=
    ⟨fun i H hi ⟨ka, F2, h2, p⟩ => ((io ka F2 h2 H p.sim p.ex p.fr).2 i _ (List.getElem?_eq_getElem hi)).1, fun H ⟨ka, F2, h2, p⟩ => (io ka F2 h2 H p.sim p.ex p.fr).1,
      fun i H x H' hi _ y => ⟨_, List.getElem?_eq_getElem hi, fun ka F2 h2 p => ((io ka F2 h2 H p.sim p.ex p.fr).2 i _ (List.getElem?_eq_getElem hi)).2 x H' y⟩⟩
  refine lc_it wk (fun i H => ∃ ka F2 h2 acc us, Post K cls ja F1 H1 ka F2 h2 H ∧ F2 D = none ∧ D ∉ ka ∧ H D = some (.lst us) ∧ RepL K cls ka F2 acc us ∧
    Fin K cls W σ ja F1 H1 ((compM (fun x h => compG (fun ρ' h => evIfs (fun e h => evE G n (inBlk C scope) e ρ' h) ifs h) (fun ρ' h => evE G n (inBlk C scope) elt ρ' h) (asgE (inBlk C scope) tg x (wipeE ρ vs)) h) (xs.drop i) acc h2).bind fun ys h => mkList C pos ys h) (Rep K cls) Q) ?_ ?_ ?_ ?_
  · exact ⟨ja, F1, h1, [], [], Post.other (Post.refl p1.sim) hD hF hDn _, hF, hDn, upd_same, RepL.nil, f1⟩
  · rintro i H _ ⟨ka, F2, h2, acc, us, p, _⟩
    exact ⟨ka, F2, h2, p⟩
  · rintro i x H H' hi ⟨ka, F2, h2, acc, us, p, hF2, hD2, hDH, ra, f2⟩ ⟨d, hd, y⟩
    obtain ⟨F3, p3, rd⟩ := y ka F2 h2 p
    have hdrop : xs.drop i = d :: xs.drop (i + 1) := by
      rw [List.drop_eq_getElem_cons hi]
      congr 1
      rw [List.getElem?_eq_getElem hi] at hd
      exact Option.some.inj hd
    rw [hdrop] at f2
    simp only [compM] at f2
    cases hb : asgE (inBlk C scope) tg d (wipeE ρ vs) with
    | none => rw [hb] at f2; exact f2.elim
    | some ρ1 =>
      rw [hb] at f2
      simp only [compG] at f2
      have E3 : EnvR K cls ka F3 (wipe σ vs) (wipeE ρ vs) := EnvR.wipe (EnvR.mono p3 (EnvR.mono p (EnvR.mono p1 E))) vs
      refine ⟨ka, F3, h2, wipeE ρ vs, ρ1, d, p3.sim, E3, rd, hb, fun σ2 E2 sb => ⟨(sb.2 vs hown).trans (wipe_idem fun v hv => hv), ka, F3, h2, ρ1, p3.sim, E2, ?_⟩⟩
      cases ht : evIfs (fun e h => evE G n (inBlk C scope) e ρ1 h) ifs h2 with
      | no => rw [ht] at f2; exact f2.elim
      | rz ex h3 => rw [ht] at f2; exact f2.elim
      | ok bb h3 =>
        rw [ht] at f2
        simp only [Rs.bind_ok] at f2
        rintro b' kb F4 H4 p4 rfl
        have p34 := p3.trans p4
        obtain ⟨d1, d2, d3⟩ := p34.keepD hF2 hD2 hDH
        cases bb with
        | false => exact ite_ff ⟨kb, F4, h3, acc, us, p.trans p34, d1, d2, d3, ra.post p34, f2⟩
        | true =>
          refine ite_tt ⟨kb, F4, h3, ρ1, p4.sim, EnvR.mono p4 E2, ?_⟩
          simp only [if_true] at f2
          cases hv : evE G n (inBlk C scope) elt ρ1 h3 with
          | no => rw [hv] at f2; exact f2.elim
          | rz ex h4 => rw [hv] at f2; exact f2.elim
          | ok v h4 =>
            rw [hv] at f2
            simp only [Rs.calm, Rs.bind_ok] at f2
            intro yv kc0 F5 H5 p50 ry0
            obtain ⟨kc, p5, ry⟩ := Post.trunc p4.sim p50 ry0
            obtain ⟨g1, g2, g3⟩ := p5.keepD d1 d2 d3
            split at f2
            · rename_i hz
              refine ⟨us, g3, by rw [← ra.len]; exact hz, kc, F5, Wd.trunc h3 v h4, acc ++ [v], us ++ [yv], Post.other ((p.trans p34).trans p5) hD g1 g2 _, g1, g2, upd_same, RepL.append ((ra.post p34).post p5) (RepL.cons ry RepL.nil), f2⟩
            · exact f2.elim
  · rintro H ⟨ka, F2, h2, acc, us, p, hF2, hD2, hDH, ra, f2⟩
    rw [List.drop_length] at f2
    simp only [compM, Rs.bind_ok] at f2
    unfold mkList at f2
    split at f2
    · refine f2 _ _ _ _ (Post.adopt p hD hF2 hD2 hDH (ob := .lst acc) ⟨us, hDH, ra⟩) ?_
      simp only [Rep]
      refine ⟨D, ?_, rfl⟩
      rw [List.getElem?_append_right (by rw [p.sim.len]; exact Nat.le_refl _), p.sim.len, Nat.sub_self]
      rfl
    · have q := Post.adoptF p hD hF2 hD2 hDH
      refine f2 _ _ _ _ q ?_
      simp only [Rep]
      exact ⟨D, us, rfl, .inl (.inl upd_same), RepL.mono (fun _ _ e => e) (fun b o' e => by rw [upd_ne (ne_of_none e hF2)]; exact e) _ _ ra⟩
theorem noset {iter : Expr} {env : PySem.Env} (h : isSet iter = false) : ∀ x, foldedSetIterable iter env x = pure x := by
  intro x
  cases iter <;> first | rfl | cases h
theorem a_comp (PO : PrOk P w K mg base cls G k) (c : CxOk P w K mg base k X W C) (he : ∀ e, PE X e (tE K cls W G n C e))
    (ih : ∀ (X : Cx) (W : WX) (C : St0), CxOk P w K mg base k X W C → (∀ e, PE X e (tE K cls W G n C e)) ∧ ∀ e, PT X e (tT K cls W G n C e)) {asy : Int} :
    PE X (.ListComp elt [⟨tg, iter, ifs, asy⟩] scope pos) (tE K cls W G (n + 1) C (.ListComp elt [⟨tg, iter, ifs, asy⟩] scope pos)) := by
  refine ⟨fun pins s σ H Q I ⟨ia, F, h, ρ, S, E, f⟩ => ?_⟩
  simp only [evE] at f
  split at f
  · rename_i hh
    simp only [Bool.and_eq_true, Bool.not_eq_true', decide_eq_true_eq] at hh
    obtain ⟨⟨⟨h0, h1⟩, h2⟩, h3⟩ := hh
    subst h0
    have hok : BlkOk X.N X.env.scope scope (ownOf C.N scope) := by rw [c.nN, c.sc]; exact blkOk_by h1
    exact (pe_lc c.calm (by rw [c.nN]; exact c.nd) (i_all PO c he iter) hok (fun s H L cl fp => g_asg (c.blk) tg) (fun s H L cl fp => pts_all (ih _ _ _ c.blk).2 ifs) (fun s H L cl fp => (ih _ _ _ c.blk).1 elt) (noset h3)).run pins s σ H Q I (lc_ok c S E h2 f)
  · exact f.elim
end
end Wd

set_option Elab.async false
set_option linter.all false
set_option maxRecDepth 100000
namespace Wd
open PySem PySem.Spec PyProof.Rows L2

section
variable {P : Program} {w : World} {K : PySem.W.Frag} {mg : Str → Option Value} {base : Heap} {cls : Str → Option Addr} {G : Gt} {k : Nat} {X : Cx} {W : WX} {C : St0} {n : Nat} {pos : Pos}
theorem pe_no {e : Expr} (h : ∀ ρ hh, evE G n C e ρ hh = .no) : PE X e (tE K cls W G n C e) := ⟨fun pins s σ H Q I ⟨ia, F, hh, ρ, S, E, f⟩ => by rw [h] at f; exact f.elim⟩
theorem pt_no {e : Expr} (h : ∀ ρ hh, evE G n C e ρ hh = .no) : PT X e (tT K cls W G n C e) := ⟨fun pins s σ H Q I ⟨ia, F, hh, ρ, S, E, f⟩ => by rw [h] at f; exact f.elim⟩
theorem a_all (PO : PrOk P w K mg base cls G k) (c : CxOk P w K mg base k X W C) (ih : ∀ (X : Cx) (W : WX) (C : St0), CxOk P w K mg base k X W C → (∀ e, PE X e (tE K cls W G n C e)) ∧ ∀ e, PT X e (tT K cls W G n C e)) (e : Expr) : PE X e (tE K cls W G (n + 1) C e) := by
  obtain ⟨he, ht⟩ := ih X W C c
  cases e with
  | Name x p => exact a_name PO c
  | Constant x j p => exact a_const c
  | BinOp a op b p => exact a_bin c (he a) (he b)
  | UnaryOp op a p =>
    by_cases hop : op = .Not
    · subst hop; exact a_not c (he a)
    · exact a_un c hop (he a)
  | BoolOp op es p => exact a_bool c fun e _ => he e
  | Compare a ops es p =>
    match ops, es with
    | [op], [b] => exact a_cmp PO c (he a) (he b)
    | [op, op'], [b, g] => exact a_chn c (he a) (he b) (he g)
    | [], _ => exact pe_no fun ρ hh => by simp only [evE]
    | [_], [] => exact pe_no fun ρ hh => by simp only [evE]
    | [_], _ :: _ :: _ => exact pe_no fun ρ hh => by simp only [evE]
    | [_, _], [] => exact pe_no fun ρ hh => by simp only [evE]
    | [_, _], [_] => exact pe_no fun ρ hh => by simp only [evE]
    | [_, _], _ :: _ :: _ :: _ => exact pe_no fun ρ hh => by simp only [evE]
    | _ :: _ :: _ :: _, _ => exact pe_no fun ρ hh => by simp only [evE]
  | IfExp d a b p => exact a_ife c (ht d) (he a) (he b)
  | Tuple es j p => exact a_tup c (a_args c he es)
  | List es p => exact a_lst c (a_args c he es)
  | Dict ks vs p =>
    match ks, vs with
    | [], [] => exact a_dic c
    | [], _ :: _ => exact pe_no fun ρ hh => by simp only [evE]
    | _ :: _, _ => exact pe_no fun ρ hh => by simp only [evE]
  | Attribute a f p => exact a_attr PO c (he a)
  | Subscript a b p => exact a_sub PO c he
  | Call f es kws p =>
    cases f with
    | Name f q => exact a_call PO c he
    | Attribute o m q => exact a_meth PO c he
    | _ => exact pe_no fun ρ hh => by simp only [evE]
  | JoinedStr es p => exact a_join c he
  | ListComp elt gens sc p =>
    match gens with
    | [] => exact pe_no fun ρ hh => by simp only [evE]
    | [⟨tg, iter, ifs, j⟩] =>
      exact a_comp PO c he ih
    | _ :: _ :: _ => exact pe_no fun ρ hh => by simp only [evE]
  | _ => exact pe_no fun ρ hh => by simp only [evE]
theorem t_all (PO : PrOk P w K mg base cls G k) (c : CxOk P w K mg base k X W C) (ih : ∀ (X : Cx) (W : WX) (C : St0), CxOk P w K mg base k X W C → (∀ e, PE X e (tE K cls W G n C e)) ∧ ∀ e, PT X e (tT K cls W G n C e)) (e : Expr) : PT X e (tT K cls W G (n + 1) C e) := by
  obtain ⟨he, ht⟩ := ih X W C c
  have hv := a_all PO c ih e
  cases e with
  | UnaryOp op a p =>
    by_cases hop : op = .Not
    · subst hop; exact t_not c (ht a)
    · refine t_truth c hv fun _ => ?_
      cases op <;> first | exact absurd rfl hop | rfl
  | BoolOp op es p => exact t_bool c fun e _ => ht e
  | Compare a ops es p =>
    match ops, es with
    | [op], [b] => exact t_cmp PO c (he a) (he b)
    | [op, op'], [b, g] => exact t_chn c (he a) (he b) (he g)
    | [], _ => exact pt_no fun ρ hh => by simp only [evE]
    | [_], [] => exact pt_no fun ρ hh => by simp only [evE]
    | [_], _ :: _ :: _ => exact pt_no fun ρ hh => by simp only [evE]
    | [_, _], [] => exact pt_no fun ρ hh => by simp only [evE]
    | [_, _], [_] => exact pt_no fun ρ hh => by simp only [evE]
    | [_, _], _ :: _ :: _ :: _ => exact pt_no fun ρ hh => by simp only [evE]
    | _ :: _ :: _ :: _, _ => exact pt_no fun ρ hh => by simp only [evE]
  | IfExp d a b p => exact t_ife c (ht d) (ht a) (ht b)
  | _ => exact t_truth c hv fun _ => rfl
theorem all_e (PO : PrOk P w K mg base cls G k) : ∀ (n : Nat) (X : Cx) (W : WX) (C : St0), CxOk P w K mg base k X W C → (∀ e, PE X e (tE K cls W G n C e)) ∧ ∀ e, PT X e (tT K cls W G n C e)
  | 0, X, W, C, c => ⟨fun e => pe_no fun ρ hh => rfl, fun e => pt_no fun ρ hh => rfl⟩
  | n + 1, X, W, C, c => ⟨a_all PO c (all_e PO n), t_all PO c (all_e PO n)⟩
end
end Wd

set_option Elab.async false
set_option linter.all false
set_option maxRecDepth 100000
namespace Wd
open PySem PySem.Spec PyProof.Rows L2

/-- what an outcome of statements asks -/
def FinS (K : PySem.W.Frag) (cls : Str → Option Addr) (W : WX) (ia : List Addr) (F H : Hp) (m : Rt) (D : Ends) : Prop :=
  match m with
  | .ok f ρ h' => ∀ (σ' : L2.St) (ja : List Addr) (F' H' : Hp), Post K cls ia F H ja F' h' H' → EnvR K cls ja F' σ' ρ → (match f with
    | .nx => D.nx σ' H'
    | .bk => D.bk σ' H'
    | .ct => D.ct σ' H'
    | .rt v => ∀ x, Rep K cls ja F' v x → D.rt x H')
  | .rz e ρ h' => ∀ (σ' : L2.St) (c : Value) (d : Option Addr) (ja : List Addr) (F' H' : Hp), Post K cls ia F H ja F' h' H' → EnvR K cls ja F' σ' ρ → ExR ja F' e c d H' → W c d σ' H'
  | .no => False
section
variable {K : PySem.W.Frag} {cls : Str → Option Addr} {W : WX} {σ : L2.St} {ia ja : List Addr} {F F' H H' : Hp} {h h' : Hs} {ρ : Env}
theorem FinS.post {m : Rt} {D : Ends} (p : Post K cls ia F H ja F' h' H') (f : FinS K cls W ia F H m D) : FinS K cls W ja F' H' m D := by
  cases m with
  | ok fl ρ' h1 => exact fun σ' ka F1 H1 q r => f σ' ka F1 H1 (p.trans q) r
  | rz e ρ' h1 => exact fun σ' c d ka F1 H1 q r => f σ' c d ka F1 H1 (p.trans q) r
  | no => exact f
theorem FinS.st {α β : Type} {m : Rs α} {f : α → Hs → Rt} {R0 : List Addr → Hp → α → β → Prop} {D : Ends} (E : EnvR K cls ia F σ ρ) (hf : FinS K cls W ia F H (m.st ρ f) D) :
    Fin K cls W σ ia F H m R0 fun b H1 => ∃ a ja F1 h1, Post K cls ia F H ja F1 h1 H1 ∧ R0 ja F1 a b ∧ FinS K cls W ja F1 H1 (f a h1) D := by
  cases m with
  | ok a h1 => exact fun b ja' F1 H1 q r => ⟨a, ja', F1, h1, q, r, FinS.post q hf⟩
  | rz e h1 => exact fun c d ja F1 H1 q r => hf σ c d ja F1 H1 q (EnvR.mono q E) r
  | no => exact hf
theorem FinS.seq {α β : Type} {m : Rs α} {f : α → Hs → Rt} {R0 : List Addr → Hp → α → β → Prop} {D : Ends} {Q' : β → Hp → Prop} (E : EnvR K cls ia F σ ρ) (hf : FinS K cls W ia F H (m.st ρ f) D)
    (hq : ∀ b H1 a ja F1 h1, Post K cls ia F H ja F1 h1 H1 → R0 ja F1 a b → FinS K cls W ja F1 H1 (f a h1) D → Q' b H1) : Fin K cls W σ ia F H m R0 Q' :=
  (FinS.st (R0 := R0) E hf).mono fun b H1 ⟨a, ja, F1, h1, p, r, f1⟩ => hq b H1 a ja F1 h1 p r f1
end
/-- only this end is wanted -/
abbrev onlyNx (Q : L2.St → Hp → Prop) : Ends := { nx := Q, rt := fun _ _ => False }

section
variable {P : Program} {w : World} {K : PySem.W.Frag} {mg : Str → Option Value} {base : Heap} {cls : Str → Option Addr} {G : Gt} {k : Nat} {X : Cx} {W : WX} {C : St0} {n : Nat} {pos : Pos}
/-! ### targets that store into objects -/
def gSt (K : PySem.W.Frag) (cls : Str → Option Addr) (W : WX) (G : Gt) (n : Nat) (C : St0) (m : Nat) (tg : Expr) : TG := fun v σ H Q =>
  ∃ (ia : List Addr) (F : Hp) (h : Hs) (ρ : Env) (d : Vl), Sim K cls ia F h H ∧ EnvR K cls ia F σ ρ ∧ Rep K cls ia F d v ∧ FinS K cls W ia F H (store G n C m tg d ρ h) (onlyNx Q)
def gSts (K : PySem.W.Frag) (cls : Str → Option Addr) (W : WX) (G : Gt) (n : Nat) (C : St0) (m : Nat) (ts : List Expr) : TGs := fun vs σ H Q =>
  ∃ (ia : List Addr) (F : Hp) (h : Hs) (ρ : Env) (ds : List Vl), Sim K cls ia F h H ∧ EnvR K cls ia F σ ρ ∧ RepL K cls ia F ds vs ∧ FinS K cls W ia F H (storeL (store G n C m) ts ds ρ h) (onlyNx Q)
theorem storeL_len {f : Expr → Vl → Env → Hs → Rt} : ∀ {ts : List Expr} {ds : List Vl} {ρ : Env} {h : Hs}, ds.length ≠ ts.length → ∀ fl ρ' h', storeL f ts ds ρ h ≠ .ok fl ρ' h'
  | [], [], _, _, e, _, _, _ => absurd rfl e
  | [], _ :: _, _, _, _, _, _, _ => by simp [storeL]
  | _ :: _, [], _, _, _, _, _, _ => by simp [storeL]
  | t :: ts, d :: ds, ρ, h, e, fl, ρ', h' => by
    have e' : ds.length ≠ ts.length := by simpa using e
    simp only [storeL]
    split
    · exact storeL_len e' fl ρ' h'
    · simp
    · simp
def noStarT (ts : List Expr) : Bool := !(ts.any isStar)
theorem each_no {env : PySem.Env} {t : Expr} {ts : List Expr} (h : isStar t = false) : assignEach (t :: ts) env = (false, assign t env) :: assignEach ts env := by
  cases t <;> first | rfl | cases h
theorem each_all {env : PySem.Env} : ∀ {ts : List Expr}, ts.any isStar = false → (assignEach ts env).length = ts.length ∧ (assignEach ts env).findIdx? (·.1) = none
  | [], _ => ⟨rfl, rfl⟩
  | t :: ts, e => by
    rw [List.any_cons, Bool.or_eq_false_iff] at e
    obtain ⟨h1, h2⟩ := each_all (env := env) e.2
    rw [each_no e.1]
    refine ⟨by rw [List.length_cons, h1, List.length_cons], ?_⟩
    rw [List.findIdx?_cons, h2]
    rfl
theorem setItem_ok {X : Cx} {cls : Str → Option Addr} {pins : List (Addr × Obj)} {s : Shared} {σ : L2.St} {H : Hp} {ia : List Addr} {F : Hp} {h h' : Hs} {o i d : Vl} {x y z : V} {u1 u2 u3 : Value} {Q : Unit → Shared → Prop} (I : Inv X pins σ H s) (S : Sim X.K cls ia F h H) (e : setItemV h o i d = some h')
    (ro : Rep X.K cls ia F o x) (ri : Rep X.K cls ia F i y) (rd : Rep X.K cls ia F d z) (r1 : RelV x u1) (r2 : RelV y u2) (r3 : RelV z u3) (q : ∀ ja F' H', Post X.K cls ia F H ja F' h' H' → ∀ s', Inv X pins σ H' s' → Q () s') : wpAny (model X.prog X.w) X.A (setItem u1 u2 u3) Q X.xe s := by
  unfold setItemV at e
  split at e
  · rename_i n k
    split at e
    · rename_i xs e1
      obtain ⟨a, ws, rfl, h1, h2, h3, h4, h5⟩ := getL_ok S e1 ro
      cases e2 : ixN xs.length k with
      | none => rw [e2] at e; cases e
      | some j =>
        rw [e2] at e
        simp only [Option.map_some, Option.some.injEq] at e
        subst e
        simp only [Rep] at ri
        subst ri
        have p := Post.write S h3 h1 h2 (ob := .lst (xs.set j d)) (o := .lst (ws.set j z)) ⟨_, upd_same, RepL.set rd j h5⟩
        refine thn (set_list pins s σ H _ _ _ u1 u2 u3 (fun H' => H' = upd H a (.lst (ws.set j z))) I r1 r2 r3 ⟨a, ws, k, j, rfl, rfl, h4, by rw [← h5.len]; exact e2, rfl⟩) ?_
        rintro _ s' ⟨H', I', rfl⟩
        exact q _ _ _ p s' I'
    · cases e
  · cases e
theorem setFld_ok (PO : PrOk P w K mg base cls G k) (c : CxOk P w K mg base k X W C) {pins : List (Addr × Obj)} {s : Shared} {σ : L2.St} {H : Hp} {ia : List Addr} {F : Hp} {h h' : Hs} {o d : Vl} {x z : V} {u1 u3 : Value} {f : Str} {Q : Unit → Shared → Prop} (I : Inv X pins σ H s) (S : Sim K cls ia F h H) (e : setFldV G h o f d = some h')
    (ro : Rep K cls ia F o x) (rd : Rep K cls ia F d z) (r1 : RelV x u1) (r3 : RelV z u3) (q : ∀ ja F' H', Post K cls ia F H ja F' h' H' → ∀ s', Inv X pins σ H' s' → Q () s') : wpAny (model X.prog X.w) X.A (setAttr u1 f u3) Q X.xe s := by
  have hK := c.K
  subst hK
  unfold setFldV at e
  split at e
  · rename_i n
    split at e
    · rename_i cn fs e1
      split at e
      · rename_i hz
        cases e
        obtain ⟨a, Ca, dx, gs, rfl, h1, h2, h3, hc, h4, h5⟩ := getI_ok S e1 ro
        obtain rfl : u1 = Value.ref a := r1
        have p := Post.write S h3 h1 h2 (ob := .ins cn (putFl f d fs)) (o := .ins Ca dx (putF f z gs)) ⟨Ca, dx, _, hc, upd_same, RepF.put rd h5⟩
        exact setattr_ok I h4 (PO.isa.fact _ _ hc).cl (PO.fld _ _ _ hc hz.2) (by rw [← h5.len]; exact hz.1) r3 fun s' I' => q _ _ _ p s' I'
      · cases e
    · cases e
  · cases e
theorem g_store (PO : PrOk P w K mg base cls G k) (c : CxOk P w K mg base k X W C) (he : ∀ e, PE X e (tE K cls W G n C e)) : ∀ (m : Nat) (tg : Expr), PG X tg (gSt K cls W G n C m tg)
  | 0, tg => ⟨fun pins s σ H v u Q I r ⟨ia, F, h, ρ, d, S, E, rd, f⟩ => f.elim⟩
  | m + 1, tg => by
    have ih := g_store PO c he m
    have hK := c.K
    subst hK
    refine ⟨fun pins s σ H v u Q I r ⟨ia, F, h, ρ, d, S, E, rd, f⟩ => ?_⟩
    unfold store at f
    split at f
    · rename_i x p _
      cases e : setS C x d ρ with
      | none => rw [e] at f; exact f.elim
      | some ρ' =>
        rw [e] at f
        obtain ⟨i, h1, h2, h3, h4, rfl⟩ := setS_ok c e
        have hi : i < σ.length := by
          rw [I.len]
          exact (List.getElem?_eq_some_iff.mp h2).1
        exact (pg_name (by rw [c.nN]; exact c.nd) h2 h3 h4).run pins s σ H v u Q I r (f _ ia F H (Post.refl S) (EnvR.set E hi rd))
    · rename_i o i p _
      split at f
      · exact f.elim
      rename_i hsl
      have ha : ∀ v, assign (.Subscript o i p) X.env v = (do
          let ov ← holding [v] (eval o X.env)
          let iv ← holding [v, ov] (eval i X.env)
          standAt p
          holding [v, ov, iv] (setItem ov iv v)
          release [v, ov, iv] []) := by
        intro v
        cases i <;> first | rfl | exact absurd rfl hsl
      rw [ha]
      refine wpAny_bind (wpAny_holding (thn ((he o).run pins s σ H _ I ⟨ia, F, h, ρ, S, E, FinS.st (R0 := Rep X.K cls) E f⟩) ?_))
      rintro ov s1 ⟨x, H1, I1, rx, da, ja, F1, h1, p1, r1, f1⟩
      refine wpAny_bind (wpAny_holding (thn ((he i).run pins s1 σ H1 _ I1 ⟨ja, F1, h1, ρ, p1.sim, EnvR.mono p1 E, FinS.st (R0 := Rep X.K cls) (EnvR.mono p1 E) f1⟩) ?_))
      rintro iv s2 ⟨y, H2, I2, ry, db, ka, F2, h2, p2, r2, f2⟩
      refine wpAny_bind (wpAny_standAt (wpAny_bind (wpAny_holding ?_)))
      cases e : setItemV h2 da db d with
      | none => rw [e] at f2; exact f2.elim
      | some h3 =>
        rw [e] at f2
        refine setItem_ok I2 p2.sim e (r1.post p2) r2 ((rd.post p1).post p2) rx ry r fun la F3 H3 p3 s3 I3 => wpAny_release ⟨σ, H3, I3, ?_⟩
        exact f2 σ la F3 H3 p3 (EnvR.mono p3 (EnvR.mono p2 (EnvR.mono p1 E)))
    · rename_i o fn p _
      have ha : ∀ v, assign (.Attribute o fn p) X.env v = (do
          let ov ← holding [v] (eval o X.env)
          standAt p.atName
          holding [v, ov] (setAttr ov fn v)
          release [v, ov] []) := fun v => rfl
      rw [ha]
      refine wpAny_bind (wpAny_holding (thn ((he o).run pins s σ H _ I ⟨ia, F, h, ρ, S, E, FinS.st (R0 := Rep X.K cls) E f⟩) ?_))
      rintro ov s1 ⟨x, H1, I1, rx, da, ja, F1, h1, p1, r1, f1⟩
      refine wpAny_bind (wpAny_standAt (wpAny_bind (wpAny_holding ?_)))
      cases e : setFldV G h1 da fn d with
      | none => rw [e] at f1; exact f1.elim
      | some h3 =>
        rw [e] at f1
        refine setFld_ok PO c I1 p1.sim e r1 (rd.post p1) rx r fun la F3 H3 p3 s3 I3 => wpAny_release ⟨σ, H3, I3, ?_⟩
        exact f1 σ la F3 H3 p3 (EnvR.mono p3 (EnvR.mono p1 E))
    · rename_i ts j p _
      split at f
      · rename_i ds
        simp only [Rep] at rd
        obtain ⟨a, vs, rfl, sq, rl⟩ := rd
        have gl : ∀ ts : List Expr, ts.any isStar = false → PGs X ts (gSts X.K cls W G n C m ts) := by
          intro ts
          induction ts with
          | nil =>
            intro _
            refine ⟨fun pins s σ H vs us Q I r ⟨ia, F, h, ρ, ds, S, E, rl, f⟩ => ?_⟩
            cases ds with
            | nil =>
              simp only [RepL] at rl
              exact pgs_nil.run pins s σ H vs us Q I r ⟨rl, f σ ia F H (Post.refl S) E⟩
            | cons _ _ => exact f.elim
          | cons t ts iht =>
            intro hs
            rw [List.any_cons, Bool.or_eq_false_iff] at hs
            refine ⟨fun pins s σ H vs us Q I r ⟨ia, F, h, ρ, ds, S, E, rl, f⟩ => ?_⟩
            cases ds with
            | nil => exact f.elim
            | cons d ds =>
              simp only [RepL] at rl
              obtain ⟨v, ws, rfl, r1, r2⟩ := rl
              simp only [storeL] at f
              refine (pgs_cons (ih t) (iht hs.2) (by rw [each_no hs.1]; rfl)).run pins s σ H _ us Q I r ⟨v, ws, rfl, ia, F, h, ρ, d, S, E, r1, ?_⟩
              cases e : store G n C m t d ρ h with
              | no => rw [e] at f; exact f.elim
              | rz ex ρ1 h1 => rw [e] at f; exact f
              | ok fl ρ1 h1 =>
                rw [e] at f
                cases fl with
                | nx => exact fun σ1 ka F2 H2 p2 E2 => ⟨ka, F2, h1, ρ1, ds, p2.sim, E2, r2.post p2, FinS.post p2 f⟩
                | _ => exact f.elim
        split at f
        · rename_i hs
          obtain ⟨l1, l2⟩ := each_all (env := X.env) hs.1
          exact (pg_tup c.calm (gl ts hs.1) (n := ts.length) l1 l2).run pins s σ H _ u Q I r ⟨a, vs, rfl, sqT_mono S.sub sq, by rw [← rl.len]; exact hs.2, ia, F, h, ρ, ds, S, E, rl, f⟩
        · exact f.elim
      · exact f.elim
    · exact f.elim
end
end Wd

set_option Elab.async false
set_option linter.all false
set_option maxRecDepth 100000
namespace Wd
open PySem PySem.Spec PyProof.Rows L2

section
variable {P : Program} {w : World} {K : PySem.W.Frag} {mg : Str → Option Value} {base : Heap} {cls : Str → Option Addr} {G : Gt} {k : Nat} {X : Cx} {W : WX} {C : St0} {n : Nat} {pos : Pos}
/-! ### names stored from the right -/
def setAll {α : Type} : List Nat → List α → List (Option α) → List (Option α)
  | i :: is, v :: vs, l => setAll is vs (l.set i (some v))
  | _, _, l => l
theorem setAll_snoc {α : Type} : ∀ {is : List Nat} {vs : List α} {l : List (Option α)} {i : Nat} {v : α}, is.length = vs.length → setAll (is ++ [i]) (vs ++ [v]) l = (setAll is vs l).set i (some v)
  | [], [], l, i, v, _ => rfl
  | [], _ :: _, _, _, _, e => by cases e
  | _ :: _, [], _, _, _, e => by cases e
  | j :: is, u :: vs, l, i, v, e => by
    show setAll (is ++ [i]) (vs ++ [v]) (l.set j (some u)) = _
    rw [setAll_snoc (by simpa using e)]
    rfl
theorem setAll_set {α : Type} : ∀ {is : List Nat} {vs : List α} {l : List (Option α)} {i : Nat} {v : Option α}, i ∉ is → setAll is vs (l.set i v) = (setAll is vs l).set i v
  | [], _, l, i, v, _ => by simp [setAll]
  | _ :: _, [], l, i, v, _ => by simp [setAll]
  | j :: is, u :: vs, l, i, v, h => by
    simp only [List.mem_cons, not_or] at h
    show setAll is vs ((l.set i v).set j (some u)) = (setAll is vs (l.set j (some u))).set i v
    rw [List.set_comm _ _ h.1, setAll_set h.2]
theorem setAll_rev {α : Type} : ∀ {is : List Nat} {vs : List α} {l : List (Option α)}, is.length = vs.length → is.Nodup → setAll is.reverse vs.reverse l = setAll is vs l
  | [], [], l, _, _ => rfl
  | [], _ :: _, _, e, _ => by cases e
  | _ :: _, [], _, e, _ => by cases e
  | i :: is, v :: vs, l, e, nd => by
    have e' : is.length = vs.length := by simpa using e
    obtain ⟨h1, h2⟩ := List.nodup_cons.mp nd
    rw [List.reverse_cons, List.reverse_cons, setAll_snoc (by simpa using e'), setAll_rev e' h2, ← setAll_set h1]
    rfl
theorem EnvR.setAll {ia : List Addr} {F : Hp} : ∀ {is : List Nat} {ds : List Vl} {vs : List V} {σ : L2.St} {ρ : Env}, EnvR K cls ia F σ ρ → (∀ i ∈ is, i < σ.length) → RepL K cls ia F ds vs → EnvR K cls ia F (Wd.setAll is vs σ) (Wd.setAll is ds ρ)
  | [], _, _, _, _, E, _, _ => by simpa [Wd.setAll] using E
  | _ :: _, [], vs, _, _, E, _, r => by
    simp only [RepL] at r
    subst r
    simpa [Wd.setAll] using E
  | i :: is, d :: ds, vs, σ, ρ, E, hi, r => by
    simp only [RepL] at r
    obtain ⟨v, ws, rfl, r1, r2⟩ := r
    show EnvR K cls ia F (Wd.setAll is ws (σ.set i (some v))) (Wd.setAll is ds (ρ.set i (some d)))
    exact EnvR.setAll (E.set (hi i (by simp)) r1) (fun j hj => by rw [List.length_set]; exact hi j (List.mem_cons_of_mem _ hj)) r2
theorem RepL.rev {ia : List Addr} {F : Hp} : ∀ {ds : List Vl} {vs : List V}, RepL K cls ia F ds vs → RepL K cls ia F ds.reverse vs.reverse
  | [], vs, r => by
    simp only [RepL] at r
    subst r
    exact RepL.nil
  | d :: ds, vs, r => by
    simp only [RepL] at r
    obtain ⟨v, ws, rfl, r1, r2⟩ := r
    rw [List.reverse_cons, List.reverse_cons]
    exact RepL.append (RepL.rev r2) (RepL.cons r1 RepL.nil)
theorem vals_rev : ∀ {vs : List V} {us : List Value}, Vals vs us → Vals vs.reverse us.reverse
  | _, _, .nil => .nil
  | _, _, .cons r t => by
    rw [List.reverse_cons, List.reverse_cons]
    exact (vals_rev t).append (.cons r .nil)
/-- names that are this scope's, bound one after another -/
theorem run_names {pins : List (Addr × Obj)} {H : Hp} {Q : Unit → Shared → Prop} {E : Value → Shared → Prop} (hN : X.N.Nodup) : ∀ (ns : List Str) (is : List Nat) (vs : List V) (us : List Value) (s : Shared) (σ : L2.St), Vals vs us → ns.length = is.length → ns.length = us.length →
    (∀ p ∈ ns.zip is, X.N[p.2]? = some p.1 ∧ X.env.scope.names.lookup p.1 = some .local) → Inv X pins σ H s → (∀ s', Inv X pins (setAll is vs σ) H s' → Q () s') → wpAny (model X.prog X.w) X.A (assignInOrder (ns.map fun n => bindName X.env n) us) Q E s
  | [], [], _, us, s, σ, rv, _, e, _, I, q => by
    have hu : us = [] := List.length_eq_zero_iff.mp (by simpa using e.symm)
    subst hu
    cases rv
    exact assignInOrder_nil (q s (by simpa [setAll] using I))
  | [], _ :: _, _, _, _, _, _, e, _, _, _, _ => by cases e
  | _ :: _, [], _, _, _, _, _, e, _, _, _, _ => by cases e
  | n :: ns, i :: is, vs, us, s, σ, rv, e1, e2, hp, I, q => by
    cases rv with
    | nil => cases e2
    | @cons v u vs us r rv =>
      obtain ⟨h1, h2⟩ := hp (n, i) (by simp)
      refine assignInOrder_cons (wpAny_bindName (store_ok I hN h1 (.inl h2) r (fun s' I' => ?_) (.inr h2)))
      exact run_names hN ns is vs us s' _ rv (by simpa using e1) (by simpa using e2) (fun p hm => hp p (by simp [hm])) I' q
theorem swNames_map (C : St0) (line : Nat) : ∀ {ts : List Expr}, (swNm C line ts).length = ts.length → ∃ L : List (Str × Pos), ts = L.map (fun p => .Name p.1 p.2) ∧ swNm C line ts = L.map (·.1) ∧ ∀ p ∈ L, kindE C p.1 = some .local
  | [], _ => ⟨[], rfl, rfl, fun _ h => by cases h⟩
  | t :: ts, h => by
    have le : (swNm C line ts).length ≤ ts.length := List.length_filterMap_le _ _
    by_cases ht : ∃ id p, t = .Name id p ∧ (kindE C id == some .local && p.line == line) = true
    · obtain ⟨id, p, rfl, hc⟩ := ht
      have e0 : swNm C line (.Name id p :: ts) = id :: swNm C line ts := by
        unfold swNm
        rw [List.filterMap_cons]
        simp only [hc, if_true]
      rw [e0] at h ⊢
      obtain ⟨L, e1, e2, e3⟩ := swNames_map C line (ts := ts) (by simpa using h)
      rw [Bool.and_eq_true] at hc
      refine ⟨(id, p) :: L, by rw [e1]; rfl, by rw [e2]; rfl, fun q hq => ?_⟩
      rcases List.mem_cons.mp hq with z | z
      · rw [z]; exact eq_of_beq hc.1
      · exact e3 q z
    · have e0 : swNm C line (t :: ts) = swNm C line ts := by
        unfold swNm
        rw [List.filterMap_cons]
        cases t <;> first | rfl | skip
        rename_i id p
        simp only
        rw [if_neg fun z => ht ⟨id, p, rfl, z⟩]
      rw [e0, List.length_cons] at h
      omega
theorem storeL_rz {m : Nat} : ∀ {L : List (Str × Pos)} {ds : List Vl} {ρ ρ' : Env} {h h' : Hs} {e : Vl}, storeL (store G n C (m + 1)) (L.map fun p => .Name p.1 p.2) ds ρ h ≠ .rz e ρ' h'
  | [], [], _, _, _, _, _, e => by cases e
  | [], _ :: _, _, _, _, _, _, e => by cases e
  | _ :: _, [], _, _, _, _, _, e => by cases e
  | p :: L, d :: ds, ρ, ρ', h, h', ex, e => by
    have e0 : storeL (store G n C (m + 1)) ((p :: L).map fun p => .Name p.1 p.2) (d :: ds) ρ h = (match store G n C (m + 1) (.Name p.1 p.2) d ρ h with
      | .ok .nx ρ h => storeL (store G n C (m + 1)) (L.map fun p => .Name p.1 p.2) ds ρ h
      | .rz e ρ h => .rz e ρ h
      | _ => .no) := rfl
    rw [e0] at e
    have e1 : store G n C (m + 1) (.Name p.1 p.2) d ρ h = (match setS C p.1 d ρ with
      | some ρ => .ok .nx ρ h
      | none => .no) := rfl
    rw [e1] at e
    cases hs : setS C p.1 d ρ with
    | none => rw [hs] at e; cases e
    | some ρ1 =>
      rw [hs] at e
      exact storeL_rz (L := L) e
theorem storeL_names {m : Nat} : ∀ {L : List (Str × Pos)} {ds : List Vl} {ρ ρ' : Env} {h h' : Hs} {fl : Fl}, (∀ p ∈ L, kindE C p.1 = some .local) → storeL (store G n C (m + 1)) (L.map fun p => .Name p.1 p.2) ds ρ h = .ok fl ρ' h' →
    ∃ is : List Nat, L.map (fun p => slotOf C.N p.1) = is.map some ∧ fl = .nx ∧ h' = h ∧ ρ' = setAll is ds ρ ∧ ds.length = L.length
  | [], [], _, _, _, _, _, _, e => by cases e; exact ⟨[], rfl, rfl, rfl, rfl, rfl⟩
  | [], _ :: _, _, _, _, _, _, _, e => by cases e
  | _ :: _, [], _, _, _, _, _, _, e => by cases e
  | p :: L, d :: ds, ρ, ρ', h, h', fl, hl, e => by
    have hk := hl p (by simp)
    have e0 : storeL (store G n C (m + 1)) ((p :: L).map fun p => .Name p.1 p.2) (d :: ds) ρ h = (match store G n C (m + 1) (.Name p.1 p.2) d ρ h with
      | .ok .nx ρ h => storeL (store G n C (m + 1)) (L.map fun p => .Name p.1 p.2) ds ρ h
      | .rz e ρ h => .rz e ρ h
      | _ => .no) := rfl
    rw [e0] at e
    have e1 : store G n C (m + 1) (.Name p.1 p.2) d ρ h = (match setS C p.1 d ρ with
      | some ρ => .ok .nx ρ h
      | none => .no) := rfl
    rw [e1] at e
    unfold setS at e
    rw [hk] at e
    cases hs : slotOf C.N p.1 with
    | none => rw [hs] at e; cases e
    | some i =>
      rw [hs] at e
      obtain ⟨is, a1, a2, a3, a4, a5⟩ := storeL_names (fun q hq => hl q (List.mem_cons_of_mem _ hq)) e
      exact ⟨i :: is, by rw [List.map_cons, List.map_cons, a1, hs], a2, a3, a4, by rw [List.length_cons, List.length_cons, a5]⟩
  termination_by L => L.length
theorem slot_get {N : List Str} {x : Str} {i : Nat} (h : slotOf N x = some i) : N[i]? = some x := by
  unfold slotOf at h
  obtain ⟨hl, hp, _⟩ := List.findIdx?_eq_some_iff_getElem.mp h
  rw [List.getElem?_eq_getElem hl]
  exact congrArg some (eq_of_beq hp)
theorem sw_star (vs : List Expr) : (vs.any fun | .Starred .. => true | _ => false) = vs.any isStar := by
  congr 1
/-- what the model makes of the two tuples -/
theorem sw_stores (hk : X.env.blockKind = .function) (hs : X.env.scope = C.sc) {tg e : Expr} {r : Option (List Str)} (h : swN C tg e = some r) : swappedStores [tg] e X.env = pure r := by
  have ko : ∀ id, X.env.kindOf id = kindE C id := fun id => by unfold kindE; rw [← hs]; rfl
  by_cases ht : (∃ ts a b, tg = .Tuple ts a b) ∧ ∃ vs a b, e = .Tuple vs a b
  · obtain ⟨⟨ts, a, b, rfl⟩, vs, a', b', rfl⟩ := ht
    simp only [swN] at h
    simp only [swappedStores, hk, ko]
    have hb : (ScopeKind.function != ScopeKind.function) = false := rfl
    simp only [hb, Bool.or_false]
    show (if (!(ts.length == 2 || ts.length == 3) || vs.length != ts.length) = true then (pure none : Sem (Option (List Str))) else if vs.any isStar = true then pure none
      else if ((swNames C ts).length != ts.length || (swNames C ts).eraseDups.length != (swNames C ts).length) = true then pure none else if vs.all (foldedForSure 8) = true then pure none
      else if vs.all (constantsAlone 8) = true then (do unsupported "assign.tuple-of-constant-expressions:order-of-the-stores"; pure (some (swNames C ts))) else pure (some (swNames C ts))) = pure r
    split at h
    · rename_i c1; cases h; rw [if_pos c1]
    · rename_i c1
      rw [if_neg c1]
      split at h
      · rename_i c2; cases h; rw [if_pos c2]
      · rename_i c2
        rw [if_neg c2]
        split at h
        · rename_i c3; cases h; rw [if_pos c3]
        · rename_i c3
          rw [if_neg c3]
          split at h
          · rename_i c4; cases h; rw [if_pos c4]
          · rename_i c4
            rw [if_neg c4]
            split at h
            · cases h
            · rename_i c5
              rw [if_neg c5]
              split at h
              · cases h; rfl
              · cases h
  · cases tg with
    | Tuple ts a b =>
      have : r = none := by
        cases e <;> first | (simp only [swN, Option.some.injEq] at h; exact h.symm) | exact absurd ⟨⟨_, _, _, rfl⟩, _, _, _, rfl⟩ ht
      subst this
      cases e <;> first | rfl | exact absurd ⟨⟨_, _, _, rfl⟩, _, _, _, rfl⟩ ht
    | List ts b =>
      cases e <;> first | (simp only [swN, Option.some.injEq] at h; subst h; rfl) | (simp only [swN] at h; cases h)
    | _ =>
      have : r = none := by
        cases e <;> (simp only [swN, Option.some.injEq] at h; exact h.symm)
      subst this
      cases e <;> rfl
end
end Wd

set_option Elab.async false
set_option linter.all false
set_option maxRecDepth 100000
namespace Wd
open PySem PySem.Spec PyProof.Rows L2

section
variable {P : Program} {w : World} {K : PySem.W.Frag} {mg : Str → Option Value} {base : Heap} {cls : Str → Option Addr} {G : Gt} {k : Nat} {X : Cx} {W : WX} {C : St0} {n Wf : Nat} {pos : Pos}
def tS (K : PySem.W.Frag) (cls : Str → Option Addr) (W : WX) (G : Gt) (Wf n : Nat) (C : St0) (st : Stmt) : TS := fun D σ H =>
  ∃ (ia : List Addr) (F : Hp) (h : Hs) (ρ : Env), Sim K cls ia F h H ∧ EnvR K cls ia F σ ρ ∧ FinS K cls W ia F H (evS G Wf n C st ρ h) D
def tSs (K : PySem.W.Frag) (cls : Str → Option Addr) (W : WX) (G : Gt) (Wf n : Nat) (C : St0) (ss : List Stmt) : TS := fun D σ H =>
  ∃ (ia : List Addr) (F : Hp) (h : Hs) (ρ : Env), Sim K cls ia F h H ∧ EnvR K cls ia F σ ρ ∧ FinS K cls W ia F H (blk (evS G Wf n C) ss ρ h) D
theorem Rs.st_bind {α β : Type} (m : Rs α) (f : α → Hs → Rs β) (ρ : Env) (g : β → Hs → Rt) : (m.bind f).st ρ g = m.st ρ fun a h => (f a h).st ρ g := by
  cases m <;> rfl

theorem blocks (hs : ∀ st, PS X st (tS K cls W G Wf n C st)) : ∀ ss : List Stmt, PSs X ss (tSs K cls W G Wf n C ss)
  | [] => ⟨fun pins s σ H D I ⟨ia, F, h, ρ, S, E, f⟩ => pss_nil.run pins s σ H D I (f σ ia F H (Post.refl S) E)⟩
  | st :: ss => by
    refine ⟨fun pins s σ H D I ⟨ia, F, h, ρ, S, E, f⟩ => (pss_cons (hs st) (blocks hs ss)).run pins s σ H D I ⟨ia, F, h, ρ, S, E, ?_⟩⟩
    simp only [blk] at f
    cases e : evS G Wf n C st ρ h with
    | no => rw [e] at f; exact f.elim
    | rz ex ρ1 h1 => rw [e] at f; exact f
    | ok fl ρ1 h1 =>
      rw [e] at f
      cases fl with
      | nx => exact fun σ1 ja F1 H1 p E1 => ⟨ja, F1, h1, ρ1, p.sim, E1, FinS.post p f⟩
      | bk => exact f
      | ct => exact f
      | rt v => exact f

/-! ### small statements -/
theorem s_expr (he : ∀ e, PE X e (tE K cls W G dE C e)) {e : Expr} : PS X (.Expr e pos) (tS K cls W G Wf (n + 1) C (.Expr e pos)) := by
  refine ⟨fun pins s σ H D I ⟨ia, F, h, ρ, S, E, f⟩ => ?_⟩
  simp only [evS] at f
  split at f
  · exact f.elim
  rename_i hc
  refine (ps_expr (he e) ?_).run pins s σ H D I ⟨ia, F, h, ρ, S, E, f.seq E fun x H1 da ja F1 h1 p1 r1 f1 => f1 σ ja F1 H1 (Post.refl p1.sim) (EnvR.mono p1 E)⟩
  cases e <;> first | rfl | exact absurd rfl hc
theorem s_ret (he : ∀ e, PE X e (tE K cls W G dE C e)) {e : Option Expr} : PS X (.Return e pos) (tS K cls W G Wf (n + 1) C (.Return e pos)) := by
  cases e with
  | none => exact ⟨fun pins s σ H D I ⟨ia, F, h, ρ, S, E, f⟩ => ps_retN.run pins s σ H D I (f σ ia F H (Post.refl S) E .non (by simp only [Rep]))⟩
  | some e =>
    refine ⟨fun pins s σ H D I ⟨ia, F, h, ρ, S, E, f⟩ => ?_⟩
    simp only [evS] at f
    exact (ps_ret (he e)).run pins s σ H D I ⟨ia, F, h, ρ, S, E, f.seq E fun x H1 da ja F1 h1 p1 r1 f1 => f1 σ ja F1 H1 (Post.refl p1.sim) (EnvR.mono p1 E) x r1⟩
theorem s_if (ht : ∀ e, PT X e (tT K cls W G dE C e)) (hb : ∀ ss, PSs X ss (tSs K cls W G Wf n C ss)) {c : Expr} {a b : List Stmt} : PS X (.If c a b pos) (tS K cls W G Wf (n + 1) C (.If c a b pos)) := by
  refine ⟨fun pins s σ H D I ⟨ia, F, h, ρ, S, E, f⟩ => ?_⟩
  simp only [evS] at f
  rw [← Rs.st_bind] at f
  refine (ps_if (ht c) (hb a) (hb b)).run pins s σ H D I ⟨ia, F, h, ρ, S, E, f.seq E fun x H1 da ja F1 h1 p1 r1 f1 => ?_⟩
  have r1' : da = x := r1
  subst r1'
  cases da with
  | true => exact ⟨ja, F1, h1, ρ, p1.sim, EnvR.mono p1 E, f1⟩
  | false => exact ⟨ja, F1, h1, ρ, p1.sim, EnvR.mono p1 E, f1⟩
theorem s_while (c : CxOk P w K mg base k X W C) (ht : ∀ e, PT X e (tT K cls W G dE C e)) (hb : ∀ ss, PSs X ss (tSs K cls W G Wf n C ss)) {e : Expr} {body : List Stmt} : PS X (.While e body [] pos) (tS K cls W G Wf (n + 1) C (.While e body [] pos)) := by
  refine ⟨fun pins s σ H D I ⟨ia, F, h, ρ, S, E, f⟩ => ?_⟩
  simp only [evS] at f
  refine (ps_while c.po (ht e) (hb body)).run pins s σ H D I ⟨fun m σ H => ∃ ia F h ρ, Sim K cls ia F h H ∧ EnvR K cls ia F σ ρ ∧
    FinS K cls W ia F H (whL (fun ρ h => (evE G dE C e ρ h).bind fun v h => testOf h v) (blk (evS G Wf n C) body) m ρ h) D, ⟨_, ia, F, h, ρ, S, E, f⟩, ?_⟩
  rintro m σ H ⟨ia, F, h, ρ, S, E, f⟩
  cases m with
  | zero => exact f.elim
  | succ m =>
    simp only [whL] at f
    refine ⟨ia, F, h, ρ, S, E, f.seq E fun x H1 da ja F1 h1 p1 r1 f1 => ?_⟩
    have r1' : da = x := r1
    subst r1'
    cases da with
    | false => exact ite_ff (f1 σ ja F1 H1 (Post.refl p1.sim) (EnvR.mono p1 E))
    | true =>
      refine ite_tt ⟨fun σ H => ∃ ia F h ρ, Sim K cls ia F h H ∧ EnvR K cls ia F σ ρ ∧ FinS K cls W ia F H (whL (fun ρ h => (evE G dE C e ρ h).bind fun v h => testOf h v) (blk (evS G Wf n C) body) m ρ h) D,
        fun σ' H' q => ⟨m, Nat.lt_succ_self m, q⟩, ja, F1, h1, ρ, p1.sim, EnvR.mono p1 E, ?_⟩
      simp only [if_true] at f1
      cases e1 : blk (evS G Wf n C) body ρ h1 with
      | no => rw [e1] at f1; exact f1.elim
      | rz ex ρ2 h2 => rw [e1] at f1; exact f1
      | ok fl ρ2 h2 =>
        rw [e1] at f1
        cases fl with
        | nx => exact fun σ2 ka F2 H2 p2 E2 => ⟨ka, F2, h2, ρ2, p2.sim, E2, FinS.post p2 f1⟩
        | ct => exact fun σ2 ka F2 H2 p2 E2 => ⟨ka, F2, h2, ρ2, p2.sim, E2, FinS.post p2 f1⟩
        | bk => exact fun σ2 ka F2 H2 p2 E2 => f1 σ2 ka F2 H2 p2 E2
        | rt v => exact f1
theorem s_for (PO : PrOk P w K mg base cls G k) (c : CxOk P w K mg base k X W C) (he : ∀ e, PE X e (tE K cls W G dE C e)) (hb : ∀ ss, PSs X ss (tSs K cls W G Wf n C ss)) {tg it : Expr} {body : List Stmt} : PS X (.For tg it body [] pos) (tS K cls W G Wf (n + 1) C (.For tg it body [] pos)) := by
  refine ⟨fun pins s σ H D I ⟨ia, F, h, ρ, S, E, f⟩ => ?_⟩
  simp only [evS] at f
  split at f
  · exact f.elim
  rename_i hset
  have hset' : isSet it = false := by simpa using hset
  refine (ps_for c.po c.calm (i_all (tg := tg) PO c he it) (g_asg (cls := cls) c tg) (hb body) (noset hset')).run pins s σ H D I ⟨ia, F, h, ρ, S, E, f.seq E fun J H1 xs ja F1 h1 p1 io f1 => ?_⟩
  have wk : Walk J xs.length (fun H => ∃ ka F2 h2, Post K cls ja F1 H1 ka F2 h2 H) (fun i H x H' => ∃ d, xs[i]? = some d ∧ ∀ ka F2 h2, Post K cls ja F1 H1 ka F2 h2 H → ∃ F3, Post K cls ka F2 H ka F3 h2 H' ∧ Rep K cls ka F3 d x) :=
    ⟨fun i H hi ⟨ka, F2, h2, p⟩ => ((io ka F2 h2 H p.sim p.ex p.fr).2 i _ (List.getElem?_eq_getElem hi)).1, fun H ⟨ka, F2, h2, p⟩ => (io ka F2 h2 H p.sim p.ex p.fr).1,
      fun i H x H' hi _ y => ⟨_, List.getElem?_eq_getElem hi, fun ka F2 h2 p => ((io ka F2 h2 H p.sim p.ex p.fr).2 i _ (List.getElem?_eq_getElem hi)).2 x H' y⟩⟩
  refine for_it wk (fun i σ H => ∃ ka F2 h2 ρ2, Post K cls ja F1 H1 ka F2 h2 H ∧ EnvR K cls ka F2 σ ρ2 ∧ FinS K cls W ja F1 H1 (forL (fun x ρ => asgE C tg x ρ) (blk (evS G Wf n C) body) (xs.drop i) ρ2 h2) D) ?_ ?_ ?_ ?_
  · exact ⟨ja, F1, h1, ρ, Post.refl p1.sim, EnvR.mono p1 E, f1⟩
  · rintro i σ H _ ⟨ka, F2, h2, ρ2, p, _⟩
    exact ⟨ka, F2, h2, p⟩
  · rintro i x σ H H' hi ⟨ka, F2, h2, ρ2, p, E2, f2⟩ ⟨d, hd, y⟩
    obtain ⟨F3, p3, rd⟩ := y ka F2 h2 p
    have hdrop : xs.drop i = d :: xs.drop (i + 1) := by
      rw [List.drop_eq_getElem_cons hi]
      congr 1
      rw [List.getElem?_eq_getElem hi] at hd
      exact Option.some.inj hd
    rw [hdrop] at f2
    simp only [forL] at f2
    cases ha : asgE C tg d ρ2 with
    | none => rw [ha] at f2; exact f2.elim
    | some ρ3 =>
      rw [ha] at f2
      refine ⟨ka, F3, h2, ρ2, ρ3, d, p3.sim, EnvR.mono p3 E2, rd, ha, fun σ3 E3 _ => ⟨ka, F3, h2, ρ3, p3.sim, E3, ?_⟩⟩
      simp only at f2
      cases e1 : blk (evS G Wf n C) body ρ3 h2 with
      | no => rw [e1] at f2; exact f2.elim
      | rz ex ρ4 h4 =>
        rw [e1] at f2
        exact fun σ4 cc dd kb F4 H4 p4 E4 r => f2 σ4 cc dd kb F4 H4 ((p.trans p3).trans p4) E4 r
      | ok fl ρ4 h4 =>
        rw [e1] at f2
        cases fl with
        | nx => exact fun σ4 kb F4 H4 p4 E4 => ⟨kb, F4, h4, ρ4, (p.trans p3).trans p4, E4, f2⟩
        | ct => exact fun σ4 kb F4 H4 p4 E4 => ⟨kb, F4, h4, ρ4, (p.trans p3).trans p4, E4, f2⟩
        | bk => exact fun σ4 kb F4 H4 p4 E4 => f2 σ4 kb F4 H4 ((p.trans p3).trans p4) E4
        | rt v => exact fun σ4 kb F4 H4 p4 E4 => f2 σ4 kb F4 H4 ((p.trans p3).trans p4) E4
  · rintro σ H ⟨ka, F2, h2, ρ2, p, E2, f2⟩
    rw [List.drop_length] at f2
    exact f2 σ ka F2 H p E2
theorem s_aug (c : CxOk P w K mg base k X W C) (he : ∀ e, PE X e (tE K cls W G dE C e)) {x : Str} {p : Pos} {op : Operator} {e : Expr} : PS X (.AugAssign (.Name x p) op e pos) (tS K cls W G Wf (n + 1) C (.AugAssign (.Name x p) op e pos)) := by
  have hK := c.K
  subst hK
  refine ⟨fun pins s σ H D I ⟨ia, F, h, ρ, S, E, f⟩ => ?_⟩
  simp only [evS] at f
  cases e0 : getL2 C x ρ with
  | none => rw [e0] at f; exact f.elim
  | some x0 =>
    rw [e0] at f
    simp only at f
    have hk : X.env.scope.names.lookup x = kindE C x := by unfold kindE; rw [← c.sc]
    split at f
    · exact f.elim
    rename_i hop
    -- the name's slot
    have nm : getS ρ (slotOf C.N x) = some x0 ∧ Loc X.env.scope x ∧ (X.fn x = true ∨ X.env.scope.names.lookup x = some .local) := by
      unfold getL2 at e0
      split at e0
      · rename_i hh; exact ⟨e0, .inl (hk.trans hh), .inr (hk.trans hh)⟩
      · rename_i hh
        split at e0
        · rename_i ht; exact ⟨e0, .inr (hk.trans hh), .inl (c.fn ht x)⟩
        · cases e0
      · cases e0
    obtain ⟨g1, hloc, hfn⟩ := nm
    have slot : ∃ i, slotOf C.N x = some i ∧ ρ[i]? = some (some x0) := by
      unfold getS at g1
      split at g1
      · rename_i i hi
        split at g1
        · rename_i d hd; cases g1; exact ⟨i, hi, hd⟩
        · cases g1
      · cases g1
    obtain ⟨i, hi, hρ⟩ := slot
    have hN : X.N[i]? = some x := by rw [c.nN]; exact slot_get hi
    obtain ⟨v0, hσ, rv0⟩ := E i x0 hρ
    have il : i < σ.length := (List.getElem?_eq_some_iff.mp hσ).1
    have run : ∀ {t : TIp}, PIp X op t → (∀ (y : V) (H1 : Hp) (d1 : Vl) (ja : List Addr) (F1 : Hp) (h1 : Hs), Sim X.K cls ja F1 h1 H1 → EnvR X.K cls ja F1 σ ρ → Rep X.K cls ja F1 x0 v0 → Rep X.K cls ja F1 d1 y →
        FinS X.K cls W ja F1 H1 ((augV op h1 x0 d1).st ρ fun z h => (match setS C x z ρ with | some ρ => .ok .nx ρ h | none => .no)) D → t v0 y H1 fun z H2 => D.nx (σ.set i (some z)) H2) →
        wpAny (model X.prog X.w) X.A (exec (.AugAssign (.Name x p) op e pos) X.env) (SP X pins D) X.xe s := by
      intro t ht hq
      exact (ps_aug (by rw [c.nN]; exact c.nd) hN hloc (he e) ht hfn).run pins s σ H D I ⟨v0, hσ, ia, F, h, ρ, S, E, f.seq E fun y H1 d1 ja F1 h1 p1 r1 f1 => hq y H1 d1 ja F1 h1 p1.sim (EnvR.mono p1 E) (rv0.post p1) r1 f1⟩
    have fin : ∀ (z : Vl) (vz : V) (ja : List Addr) (F1 : Hp) (H1 : Hp) (h1 : Hs), Sim X.K cls ja F1 h1 H1 → EnvR X.K cls ja F1 σ ρ → Rep X.K cls ja F1 z vz → FinS X.K cls W ja F1 H1 (match setS C x z ρ with | some ρ => .ok .nx ρ h1 | none => .no) D → D.nx (σ.set i (some vz)) H1 := by
      intro z vz ja F1 H1 h1 S1 E1 rz f1
      cases es : setS C x z ρ with
      | none => rw [es] at f1; exact f1.elim
      | some ρ' =>
        rw [es] at f1
        obtain ⟨j, j1, _, _, _, rfl⟩ := setS_ok c es
        rw [hi] at j1
        cases j1
        exact f1 _ ja F1 H1 (Post.refl S1) (E1.set il rz)
    cases op with
    | Add =>
      refine run ip_add fun y H1 d1 ja F1 h1 S1 E1 r0 r1 f1 => ?_
      unfold augV at f1
      split at f1
      · simp only [Rep] at r0 r1
        exact ⟨_, _, r0, r1, fin _ _ ja F1 H1 h1 S1 E1 (by simp only [Rep]) f1⟩
      · exact absurd (by assumption : Operator.Add = Operator.Sub) (by intro z; cases z)
      · exact f1.elim
    | Sub =>
      refine run ip_sub fun y H1 d1 ja F1 h1 S1 E1 r0 r1 f1 => ?_
      unfold augV at f1
      split at f1
      · exact absurd (by assumption : Operator.Sub = Operator.Add) (by intro z; cases z)
      · simp only [Rep] at r0 r1
        exact ⟨_, _, r0, r1, fin _ _ ja F1 H1 h1 S1 E1 (by simp only [Rep]) f1⟩
      · exact f1.elim
    | _ => exact absurd rfl hop
end
end Wd

set_option Elab.async false
set_option linter.all false
set_option maxRecDepth 100000
namespace Wd
open PySem PySem.Spec PyProof.Rows L2

section
variable {P : Program} {w : World} {K : PySem.W.Frag} {mg : Str → Option Value} {base : Heap} {cls : Str → Option Addr} {G : Gt} {k : Nat} {X : Cx} {W : WX} {C : St0} {n Wf : Nat} {pos : Pos}
theorem zip_rev {α β : Type} : ∀ (a : List α) (b : List β), a.length = b.length → a.reverse.zip b.reverse = (a.zip b).reverse
  | [], [], _ => rfl
  | [], _ :: _, e => by cases e
  | _ :: _, [], e => by cases e
  | x :: a, y :: b, e => by
    have e' : a.length = b.length := by simpa using e
    rw [List.reverse_cons, List.reverse_cons, List.zip_append (by rw [List.length_reverse, List.length_reverse, e']), zip_rev a b e']
    simp
theorem blockKind_fn {env : PySem.Env} (h : env.scope.kind = .function) : env.blockKind = .function := by
  unfold Env.blockKind
  rw [h]
  rfl
theorem swN_some {tg e : Expr} {ns : List Str} (h : swN C tg e = some (some ns)) : ∃ ts a b vs a' b', tg = .Tuple ts a b ∧ e = .Tuple vs a' b' ∧ ns = swNames C ts ∧ (swNames C ts).length = ts.length ∧ ((swNames C ts).map (slotOf C.N)).Nodup := by
  unfold swN at h
  split at h
  · rename_i ts a b vs a' b'
    refine ⟨ts, a, b, vs, a', b', rfl, rfl, ?_⟩
    split at h
    · cases h
    split at h
    · cases h
    split at h
    · cases h
    rename_i c3
    split at h
    · cases h
    split at h
    · cases h
    split at h
    · rename_i nd
      cases h
      have c3' : (swNames C ts).length = ts.length := by
        have : ¬ ((swNames C ts).length != ts.length) = true := fun z => c3 (by rw [z]; rfl)
        simpa using this
      exact ⟨rfl, c3', nd⟩
    · cases h
  · cases h
  · cases h
theorem store_nx : ∀ (m : Nat) (tg : Expr) (d : Vl) (ρ : Env) (h : Hs) (fl : Fl) (ρ' : Env) (h' : Hs), store G n C m tg d ρ h = .ok fl ρ' h' → fl = .nx
  | 0, _, _, _, _, _, _, _, e => by cases e
  | m + 1, tg, d, ρ, h, fl, ρ', h', e => by
    have ih := store_nx m
    have il : ∀ (ts : List Expr) (ds : List Vl) (ρ : Env) (h : Hs) (fl : Fl) (ρ' : Env) (h' : Hs), storeL (store G n C m) ts ds ρ h = .ok fl ρ' h' → fl = .nx := by
      intro ts
      induction ts with
      | nil =>
        intro ds ρ h fl ρ' h' e
        cases ds with
        | nil => cases e; rfl
        | cons _ _ => cases e
      | cons t ts iht =>
        intro ds ρ h fl ρ' h' e
        cases ds with
        | nil => cases e
        | cons d ds =>
          simp only [storeL] at e
          split at e
          · exact iht _ _ _ _ _ _ e
          · cases e
          · cases e
    have sb : ∀ {α : Type} (m : Rs α) (g : α → Hs → Rt), (∀ a h, g a h = .ok fl ρ' h' → fl = .nx) → m.st ρ g = .ok fl ρ' h' → fl = .nx := by
      intro α m g hg e
      cases m with
      | ok a h1 => exact hg a h1 e
      | rz _ _ => cases e
      | no => cases e
    unfold store at e
    split at e
    · split at e
      · cases e; rfl
      · cases e
    · split at e
      · cases e
      · refine sb _ _ (fun a h e => sb _ _ (fun b h e => ?_) e) e
        split at e
        · cases e; rfl
        · cases e
    · refine sb _ _ (fun a h e => ?_) e
      split at e
      · cases e; rfl
      · cases e
    · split at e
      · split at e
        · exact il _ _ _ _ _ _ _ e
        · cases e
      · cases e
    · cases e
/-- a plain store -/
theorem s_plain (PO : PrOk P w K mg base cls G k) (c : CxOk P w K mg base k X W C) (he : ∀ e, PE X e (tE K cls W G dE C e)) {tg e : Expr} {pins : List (Addr × Obj)} {s : Shared} {σ : L2.St} {H : Hp} {D : Ends} {ia : List Addr} {F : Hp} {h : Hs} {ρ : Env} (I : Inv X pins σ H s) (S : Sim K cls ia F h H) (E : EnvR K cls ia F σ ρ)
    (hst : isStar tg = false) (hw : swappedStores [tg] e X.env = pure none) (hs : swapsWithSole [tg] e pos.line X.env = pure false) (f : FinS K cls W ia F H ((evE G dE C e ρ h).st ρ fun v h => store G dE C 4 tg v ρ h) D) :
    wpAny (model X.prog X.w) X.A (exec (.Assign [tg] e pos) X.env) (SP X pins D) X.xe s := by
  refine (ps_asg (he e) (g_store PO c he 4 tg) hs hw (by rw [each_no hst]; rfl)).run pins s σ H D I ⟨ia, F, h, ρ, S, E, f.seq E fun x H1 da ja F1 h1 p1 r1 f1 => ⟨ja, F1, h1, ρ, da, p1.sim, EnvR.mono p1 E, r1, ?_⟩⟩
  cases e1 : store G dE C 4 tg da ρ h1 with
  | no => rw [e1] at f1; exact f1.elim
  | rz ex ρ2 h2 => rw [e1] at f1; exact f1
  | ok fl ρ2 h2 =>
    rw [e1] at f1
    cases fl with
    | nx => exact f1
    | _ => have z := store_nx _ _ _ _ _ _ _ _ e1; cases z
/-- two tuples, stored from the right -/
theorem s_swap (PO : PrOk P w K mg base cls G k) (c : CxOk P w K mg base k X W C) {nE m : Nat} (he : ∀ e, PE X e (tE K cls W G nE C e)) {tg e : Expr} {ns : List Str} {pins : List (Addr × Obj)} {s : Shared} {σ : L2.St} {H : Hp} {D : Ends} {ia : List Addr} {F : Hp} {h : Hs} {ρ : Env} (I : Inv X pins σ H s) (S : Sim K cls ia F h H) (E : EnvR K cls ia F σ ρ)
    (hn : swN C tg e = some (some ns)) (f : FinS K cls W ia F H ((evE G nE C e ρ h).st ρ fun v h => store G nE C (m + 2) tg v ρ h) D) :
    wpAny (model X.prog X.w) X.A (exec (.Assign [tg] e pos) X.env) (SP X pins D) X.xe s := by
  have hK := c.K
  subst hK
  have hw := sw_stores (blockKind_fn I.ok.kind) c.sc hn
  obtain ⟨ts, a, b, vs, a', b', rfl, rfl, rfl, hl, hnd⟩ := swN_some hn
  obtain ⟨L, rfl, hL, hk⟩ := swNames_map C ((ts.head?.map fun t : Expr => t.pos.line).getD 0) (ts := ts) hl
  have hL' : swNames C (L.map fun p => Expr.Name p.1 p.2) = L.map (·.1) := hL
  rw [hL'] at hnd hw
  rw [exec_Assign_arm]
  refine wpAny_bind (wpAny_standAt ?_)
  rw [show swapsWithSole [Expr.Tuple (L.map fun p => Expr.Name p.1 p.2) a b] (.Tuple vs a' b') pos.line X.env = pure false from rfl]
  refine wpAny_bind (wpAny_pure ?_)
  rw [if_neg (by decide)]
  refine wpAny_bind (thn ((he (.Tuple vs a' b')).run pins s σ H _ I ⟨ia, F, h, ρ, S, E, FinS.st (R0 := Rep X.K cls) E f⟩) ?_)
  rintro v s1 ⟨x, H1, I1, rx, da, ja, F1, h1, p1, r1, f1⟩
  rw [hw]
  refine wpAny_bind (wpAny_pure ?_)
  have est : ∀ (ss : List (Value → Sem Unit)), assignStores X.env v (some (L.map (·.1))) ss = (do
      rule "assign.swapped-stores"
      let items ← unpackItems v (L.map (·.1)).length none
      assignInOrder ((L.map (·.1)).reverse.map fun n => bindName X.env n) items.reverse
      pure .next) := fun ss => rfl
  rw [est]
  cases e1 : store G nE C (m + 2) (.Tuple (L.map fun p => Expr.Name p.1 p.2) a b) da ρ h1 with
  | no => rw [e1] at f1; exact f1.elim
  | rz ex ρ2 h2 =>
    exfalso
    unfold store at e1
    simp only at e1
    split at e1
    · split at e1
      · exact storeL_rz e1
      · cases e1
    · cases e1
  | ok fl ρ2 h2 =>
    rw [e1] at f1
    unfold store at e1
    simp only at e1
    split at e1
    · rename_i ds
      split at e1
      · rename_i hh
        obtain ⟨is, a1, rfl, rfl, rfl, a5⟩ := storeL_names hk e1
        simp only [Rep] at r1
        obtain ⟨p, ws, rfl, sq, rl⟩ := r1
        obtain rfl : v = Value.ref p := rx
        obtain ⟨its, rv, ht, hz⟩ := I1.tuple (sqT_mono p1.sim.sub sq)
        have l1 : (L.map (·.1)).length = its.toArray.size := by
          rw [List.length_map, List.size_toArray, ← rv.length, ← rl.len, a5]
        rw [l1]
        refine wpAny_bind (wpAny_rule (wpAny_bind (unpackItems_tuple (I1.ok.hd c.calm) ht fun h' hx' => ?_)))
        have I2 : Inv X pins σ H1 { s1 with heap := h' } := I1.kept (t' := s1.toks) fun b o e => hx' b o (Nat.ne_of_lt (Heap.lt_size e)) e
        have li : is.length = L.length := by
          have := congrArg List.length a1
          simpa using this.symm
        have nd : is.Nodup := by
          have z : (is.map some).Nodup := by
            rw [← a1]
            rw [List.map_map] at hnd
            exact hnd
          exact List.Pairwise.of_map some (fun a b h e => h (by rw [e])) z
        have hsl : ∀ q ∈ (L.map (·.1)).zip is, X.N[q.2]? = some q.1 ∧ X.env.scope.names.lookup q.1 = some .local := by
          intro q hq
          obtain ⟨j, hj, e⟩ := List.getElem_of_mem hq
          have hj1 : j < L.length := by
            rw [List.length_zip, List.length_map] at hj
            omega
          have hj2 : j < is.length := by omega
          have e2 : q = (L[j].1, is[j]) := by
            rw [← e]
            simp
          subst e2
          have e3 : slotOf C.N L[j].1 = some is[j] := by
            have := congrArg (fun l : List (Option Nat) => l[j]?) a1
            simpa [hj1, hj2] using this
          refine ⟨by rw [c.nN]; exact slot_get e3, ?_⟩
          rw [c.sc]
          exact hk _ (List.getElem_mem hj1)
        refine wpAny_bind ?_
        have hrev : (L.map (·.1)).reverse.zip is.reverse = ((L.map (·.1)).zip is).reverse := by
          exact zip_rev _ _ (by rw [List.length_map, li])
        refine run_names (by rw [c.nN]; exact c.nd) (L.map (·.1)).reverse is.reverse ws.reverse (its.toArray.toList).reverse _ σ (by rw [List.toList_toArray]; exact vals_rev rv) (by rw [List.length_reverse, List.length_reverse, List.length_map, li]) (by rw [List.length_reverse, List.length_reverse, l1]; simp) ?_ I2 fun s3 I3 => ?_
        · intro q hq
          rw [hrev] at hq
          exact hsl q (List.mem_reverse.mp hq)
        · refine wpAny_pure ⟨_, H1, I3, ?_⟩
          rw [setAll_rev (by rw [li, ← a5, rl.len]) nd]
          refine f1 _ ja F1 H1 (Post.refl p1.sim) (EnvR.setAll (EnvR.mono p1 E) ?_ rl)
          intro i hi
          rw [I.len]
          obtain ⟨j, hj, e⟩ := List.getElem_of_mem hi
          have hj1 : j < L.length := by omega
          have e3 : slotOf C.N L[j].1 = some is[j] := by
            have := congrArg (fun l : List (Option Nat) => l[j]?) a1
            simpa [hj1, hj] using this
          have e4 := slot_get e3
          rw [← c.nN, e] at e4
          exact (List.getElem?_eq_some_iff.mp e4).1
      · cases e1
    · cases e1
/-- a comprehension stored into a local name on its line -/
theorem s_comp (PO : PrOk P w K mg base cls G k) (c : CxOk P w K mg base k X W C) (ih : ∀ (X : Cx) (W : WX) (C : St0), CxOk P w K mg base k X W C → (∀ e, PE X e (tE K cls W G n C e)) ∧ ∀ e, PT X e (tT K cls W G n C e)) {m : Nat} {y : Str} {py p : Pos} {elt : Expr} {gens : List Comprehension} {scope : Scope}
    {pins : List (Addr × Obj)} {s : Shared} {σ : L2.St} {H : Hp} {D : Ends} {ia : List Addr} {F : Hp} {h : Hs} {ρ : Env} (I : Inv X pins σ H s) (S : Sim K cls ia F h H) (E : EnvR K cls ia F σ ρ)
    (hsl : (slotOf C.N y).isSome = true) (hy : kindE C y = some .local) (hl : (py.line == p.line) = true) (ha : (scope.names.any fun (n, k) => n == y && (k == .local || k == .cell)) = false)
    (f : FinS K cls W ia F H ((evE G (n + 1) C (.ListComp elt gens scope p) ρ h).st ρ fun v h => store G (n + 1) C (m + 1) (.Name y py) v ρ h) D) :
    wpAny (model X.prog X.w) X.A (exec (.Assign [.Name y py] (.ListComp elt gens scope p) pos) X.env) (SP X pins D) X.xe s := by
  have hyl : X.env.scope.names.lookup y = some .local := by rw [c.sc]; exact hy
  match gens with
  | [] => simp only [evE] at f; exact f.elim
  | _ :: _ :: _ => simp only [evE] at f; exact f.elim
  | [⟨tg, iter, ifs, asy⟩] =>
    have he := (ih X W C c).1
    cases hs : slotOf C.N y with
    | none => rw [hs] at hsl; cases hsl
    | some i =>
      have hi := slot_get hs
      simp only [evE] at f
      split at f
      · rename_i hh
        simp only [Bool.and_eq_true, Bool.not_eq_true', decide_eq_true_eq] at hh
        obtain ⟨⟨⟨h0, h1⟩, h2⟩, h3⟩ := hh
        subst h0
        have hok : BlkOk X.N X.env.scope scope (ownOf C.N scope) := by rw [c.nN, c.sc]; exact blkOk_by h1
        have hN : X.N[i]? = some y := by rw [c.nN]; exact hi
        refine (ps_setLc c.calm (by rw [c.nN]; exact c.nd) hN hyl (sw_true I.ok.kind hyl hl ha) (i_all PO c he iter) hok (fun s H L cl fp => g_asg (cls := cls) (c.blk) tg) (fun s H L cl fp => pts_all (ih _ _ _ c.blk).2 ifs) (fun s H L cl fp => (ih _ _ _ c.blk).1 elt) (noset h3)).run pins s σ H D I ?_
        refine lc_ok c S E h2 (f.seq E fun x H1 da ja F1 h1 p1 r1 f1 => ?_)
        simp only [store, setS, hy, hs] at f1
        have hil : i < σ.length := by
          rw [I.len]
          exact (List.getElem?_eq_some_iff.mp hN).1
        exact f1 _ ja F1 H1 (Post.refl p1.sim) ((EnvR.mono p1 E).set hil r1)
      · exact f.elim
theorem s_asg (PO : PrOk P w K mg base cls G k) (c : CxOk P w K mg base k X W C) (n1 : Nat) (hd : dE = n1 + 1) {tg e : Expr} : PS X (.Assign [tg] e pos) (tS K cls W G Wf (n + 1) C (.Assign [tg] e pos)) := by
  have he := (all_e PO dE X W C c).1
  refine ⟨fun pins s σ H D I ⟨ia, F, h, ρ, S, E, f⟩ => ?_⟩
  simp only [evS] at f
  split at f
  · rename_i hc
    simp only [Bool.and_eq_true, Bool.not_eq_true'] at hc
    obtain ⟨⟨hc1, hc2⟩, hc3⟩ := hc
    obtain ⟨r, hr⟩ := Option.isSome_iff_exists.mp hc1
    cases r with
    | some ns => exact s_swap PO c (m := 2) he I S E hr f
    | none =>
      have hw := sw_stores (blockKind_fn I.ok.kind) c.sc hr
      have ko : ∀ id, X.env.kindOf id = kindE C id := fun id => by unfold kindE; rw [← c.sc]; rfl
      cases e with
      | ListComp elt gens scope p =>
        cases tg with
        | Name y py =>
          by_cases hh : (kindE C y == some .local && py.line == p.line && !(scope.names.any fun (n, k) => n == y && (k == .local || k == .cell))) = true
          · simp only [Bool.and_eq_true, Bool.not_eq_true'] at hh
            rw [hd] at f
            exact s_comp PO c (all_e PO n1) (m := 3) I S E hc3 (eq_of_beq hh.1.1) hh.1.2 hh.2 f
          · refine s_plain PO c he I S E hc2 hw ?_ f
            show swapsWith (.ListComp elt gens scope p) (some (.Name y py)) pos.line X.env = pure false
            have e0 : swapsWith (.ListComp elt gens scope p) (some (.Name y py)) pos.line X.env = pure (X.env.blockKind == .function && X.env.kindOf y == some .local && py.line == p.line && !(scope.names.any fun (n, k) => n == y && (k == .local || k == .cell))) := rfl
            rw [e0, blockKind_fn I.ok.kind, ko]
            have e1 : (ScopeKind.function == ScopeKind.function) = true := rfl
            rw [e1, Bool.true_and]
            rw [Bool.not_eq_true] at hh
            rw [hh]
        | _ => exact s_plain PO c he I S E hc2 hw rfl f
      | SetComp _ _ _ _ => rw [hd] at f; simp only [evE] at f; exact f.elim
      | DictComp _ _ _ _ _ => rw [hd] at f; simp only [evE] at f; exact f.elim
      | _ => exact s_plain PO c he I S E hc2 hw rfl f
  · exact f.elim
/-- every statement -/
theorem all_s (PO : PrOk P w K mg base cls G k) (c : CxOk P w K mg base k X W C) : ∀ (n : Nat) (st : Stmt), PS X st (tS K cls W G Wf n C st)
  | 0, st => ⟨fun pins s σ H D I ⟨ia, F, h, ρ, S, E, f⟩ => f.elim⟩
  | n + 1, st => by
    have hb := blocks (all_s PO c n)
    obtain ⟨he, ht⟩ := all_e PO dE X W C c
    have no : (∀ ρ h, evS G Wf (n + 1) C st ρ h = .no) → PS X st (tS K cls W G Wf (n + 1) C st) := fun hz => ⟨fun pins s σ H D I ⟨ia, F, h, ρ, S, E, f⟩ => by rw [hz] at f; exact f.elim⟩
    cases st with
    | Expr e p => exact s_expr he
    | Return e p => exact s_ret he
    | Assign tgs e p =>
      match tgs with
      | [] => exact no fun ρ h => by simp only [evS]
      | [tg] => exact s_asg PO c 39 rfl
      | _ :: _ :: _ => exact no fun ρ h => by simp only [evS]
    | AugAssign tg op e p =>
      cases tg with
      | Name x q => exact s_aug c he
      | _ => exact no fun ρ h => by simp only [evS]
    | If d a b p => exact s_if ht hb
    | For tg it body els p =>
      cases els with
      | nil => exact s_for PO c he hb
      | cons _ _ => exact no fun ρ h => by simp only [evS]
    | While d body els p =>
      cases els with
      | nil => exact s_while c ht hb
      | cons _ _ => exact no fun ρ h => by simp only [evS]
    | Pass p => exact ⟨fun pins s σ H D I ⟨ia, F, h, ρ, S, E, f⟩ => ps_pass.run pins s σ H D I (f σ ia F H (Post.refl S) E)⟩
    | Break p => exact ⟨fun pins s σ H D I ⟨ia, F, h, ρ, S, E, f⟩ => ps_break.run pins s σ H D I (f σ ia F H (Post.refl S) E)⟩
    | Continue p => exact ⟨fun pins s σ H D I ⟨ia, F, h, ρ, S, E, f⟩ => ps_continue.run pins s σ H D I (f σ ia F H (Post.refl S) E)⟩
    | _ => exact no fun ρ h => by simp only [evS]
theorem all_b (PO : PrOk P w K mg base cls G k) (c : CxOk P w K mg base k X W C) (n : Nat) (ss : List Stmt) : PSs X ss (tSs K cls W G Wf n C ss) := blocks (all_s PO c n) ss
end
end Wd

set_option Elab.async false
set_option linter.all false
set_option maxRecDepth 100000
namespace Wd
open PySem PySem.Spec PyProof.Rows L2

/-! ### a def keeps its promise -/
/-- a wish about exceptions, whatever the slots -/
abbrev xw (E : XK) : WX := fun c d _ H => E c d H
/-- the def at f does what D says, where no repr runs -/
def FnG (P : Program) (w : World) (K : PySem.W.Frag) (mg : Str → Option Value) (base : Heap) (cls : Str → Option Addr) (k : Nat) (f : Addr) (fd : FuncData) (ps : List Str) (D : List Vl → Hs → Rs Vl) : Prop :=
  ∀ (A : Around) (outer : List PySem.Env) (s : Shared) (H : Hp) (args : Args) (us : List Value) (vs : List V) (Q : VK) (E : XK) (ia : List Addr) (F : Hp) (h : Hs) (ds : List Vl), Room k A → A.guards = some [] → Env0 P w K mg base A outer s H →
    BindsTo s fd args (ps.zip us) → Vals vs us → Sim K cls ia F h H → RepL K cls ia F ds vs → Fin K cls (xw E) [] ia F H (D ds h) (Rep K cls) Q → codeAny (model P w) A (.call (.ref f) args) (CR (CX P w) outer P w H s Q E) s
theorem startE_ok {K : PySem.W.Frag} {cls : Str → Option Addr} {ia : List Addr} {F : Hp} {N : List Str} {ds : List Vl} {vs : List V} (r : RepL K cls ia F ds vs) : EnvR K cls ia F (L2.start N vs) (startE N ds) := by
  intro i d e
  unfold startE at e
  by_cases hi : i < ds.length
  · rw [List.getElem?_append_left (by rw [List.length_map]; exact hi), List.getElem?_map] at e
    cases hd : ds[i]? with
    | none => rw [hd] at e; cases e
    | some d' =>
      rw [hd] at e
      have e' : d' = d := by simpa using e
      subst e'
      obtain ⟨v, hv, rv⟩ := r.get hd
      refine ⟨v, ?_, rv⟩
      unfold L2.start
      rw [List.getElem?_append_left (by rw [List.length_map, ← r.len]; exact hi), List.getElem?_map, hv]
      rfl
  · rw [List.getElem?_append_right (by rw [List.length_map]; omega), List.getElem?_replicate] at e
    split at e <;> cases e
theorem run_fin {K : PySem.W.Frag} {cls : Str → Option Addr} {G : Gt} {Wf : Nat} {d : DefI} {E : XK} {ia : List Addr} {F H : Hp} {h : Hs} {ds : List Vl} {Q : VK} (S : Sim K cls ia F h H) (f : Fin K cls (xw E) [] ia F H (runDef G Wf d ds h) (Rep K cls) Q) :
    ds.length = d.ps.length ∧ FinS K cls (xw E) ia F H (blk (evS G Wf dS d.st) d.body (startE d.st.N ds) h) { nx := fun _ H' => Q .non H', rt := Q } := by
  unfold runDef at f
  split at f
  · rename_i hl
    refine ⟨hl, ?_⟩
    cases e : blk (evS G Wf dS d.st) d.body (startE d.st.N ds) h with
    | no => rw [e] at f; exact f.elim
    | rz ex ρ' h' => exact fun σ' c dd ja F' H' p E r => r.elim
    | ok fl ρ' h' =>
      rw [e] at f
      cases fl with
      | nx =>
        intro σ' ja F' H' p E'
        have r0 : Rep K cls ja F' .non .non := by simp only [Rep]
        obtain ⟨ka, p', r'⟩ := Post.trunc S p r0
        exact f .non ka F' H' p' r'
      | rt v =>
        intro σ' ja F' H' p E' x r
        obtain ⟨ka, p', r'⟩ := Post.trunc S p r
        exact f x ka F' H' p' r'
      | bk => exact f.elim
      | ct => exact f.elim
  · exact f.elim
theorem deeper_guards {A : Around} {env : PySem.Env} (h : A.guards = some []) : (A.deeper env).guards = some [] := h
theorem fnG_of {P : Program} {w : World} {K : PySem.W.Frag} {mg : Str → Option Value} {base : Heap} {cls : Str → Option Addr} {G : Gt} {k Wf : Nat} (PO : PrOk P w K mg base cls G k) {f : Addr} {name qual : Str} {params : Arguments} {d : DefI} {dV kV doc pm cdv ct oc : Value} {an od : Option Addr}
    {osl : Array (Option Value)} (lk : K.lookup f = some ⟨oc, od, .func (PySem.W.fnOf name qual params d.body d.st.sc dV kV doc pm an cdv ct), osl⟩) (hcd : PySem.W.codeIn K cdv qual = true) (S : FnScope d.st.N d.ps d.st.sc)
    (hdbg : ∀ x ∈ d.st.N, (x == ("__debug__" : Str)) = false ∧ (x == ("__classdict__" : Str)) = false) :
    FnG P w K mg base cls (k + 1) f (PySem.W.fnOf name qual params d.body d.st.sc dV kV doc pm an cdv ct) d.ps (runDef G Wf d) := by
  intro A outer s H args us vs Q E ia F h ds hr hgu e0 hb r Sm rl fin
  obtain ⟨hl, hf⟩ := run_fin Sm fin
  have hlv : vs.length = d.ps.length := by rw [← rl.len]; exact hl
  have KX : K.In s.heap := e0.mod.kin.keeps fun b o e => (e0.bs b o e).1
  have lim : s.heap.NoLimit := e0.mod.nolimit.keeps fun b o e => (e0.bs b o e).1
  have kinds : ∀ y ∈ d.ps.zip us, d.st.sc.names.lookup y.1 = some .local ∨ (d.st.sc.names.lookup y.1 = some .cell ∧ ((cellsFrom (s.heap.objs.size + 1) d.st.sc.names []).lookup y.1).isSome = true) := by
    rintro ⟨nm, v⟩ hy
    rcases S.par nm (List.of_mem_zip hy).1 with q | q
    · exact .inl q
    · exact .inr ⟨q, PySem.W.cellsFrom_some _ _ _ (.inl q)⟩
  refine codeAny_call_function hr.depth (KX _ _ lk) rfl S.co S.gen rfl (PySem.W.codeRec_of KX hcd) (hb _ _ _ _ ?_)
  refine wpAny_newFunctionEnv_cells S.kind kinds fun env heq s1 xc => ?_
  subst heq
  refine ⟨lim.keeps xc.toInCall.keep, codeAny_func ?_⟩
  have I := inv_start (CX := CX P w) (E := E) (N := d.st.N) S hr.hd e0 hlv r xc
  have c : CxOk P w K mg base k (cxOf (CX P w) P w K mg base d.st.N qual d.st.sc f cdv A outer s H E) (xw E) d.st :=
    ⟨rfl, rfl, rfl, rfl, rfl, rfl, S.nd, rfl, rfl, hgu, hr.deeper _, fun _ _ => rfl, hdbg, takes_of rfl rfl rfl rfl, passes_of rfl⟩
  refine wpAny_mono ((all_b PO c dS d.body).run [] s1 (L2.start d.st.N vs) H _ I ⟨ia, F, h, startE d.st.N ds, Sm, startE_ok rl, hf⟩) ?_ (fun e s' z => z)
  intro fl s' hs
  cases fl with
  | brk => obtain ⟨_, _, _, q⟩ := hs; exact q.elim
  | cont => obtain ⟨_, _, _, q⟩ := hs; exact q.elim
  | next =>
    obtain ⟨σ', H', J, q⟩ := hs
    exact ⟨V.non, H', J.os, J.bare, J.base, J.hok, rfl, q⟩
  | ret u =>
    obtain ⟨v, σ', H', J, rvu, q⟩ := hs
    exact ⟨v, H', J.os, J.bare, J.base, J.hok, rvu, q⟩

/-! ### what the top has written of a def -/
/-- a call of that shape binds as the plan says -/
def BindOk (K : PySem.W.Frag) (cls : Str → Option Addr) (fd : FuncData) (ps : List Str) (n : Nat) (ks : List Str) (plan : List Src) : Prop :=
  ∀ (s : Shared) (us ws : List Value), K.In s.heap → us.length = n → ws.length = ks.length → ∃ all : List Value, BindsTo s fd ⟨us, ks.zip ws⟩ (ps.zip all) ∧
    ∀ (vs zs : List V), Vals vs us → Vals zs ws → ∀ (ia : List Addr) (F : Hp) (ds es xs : List Vl), RepL K cls ia F ds vs → RepL K cls ia F es zs → planV ds es plan = some xs → ∃ vall, Vals vall all ∧ RepL K cls ia F xs vall
structure DefOk (K : PySem.W.Frag) (cls : Str → Option Addr) (f : Addr) (fd : FuncData) (d : DefI) : Prop where
  ex : ∃ (name qual : Str) (params : Arguments) (dV kV doc pm cdv ct oc : Value) (an od : Option Addr) (osl : Array (Option Value)), fd = PySem.W.fnOf name qual params d.body d.st.sc dV kV doc pm an cdv ct ∧
    K.lookup f = some ⟨oc, od, .func fd, osl⟩ ∧ PySem.W.codeIn K cdv qual = true
  sc : FnScope d.st.N d.ps d.st.sc
  dbg : ∀ x ∈ d.st.N, (x == ("__debug__" : Str)) = false ∧ (x == ("__classdict__" : Str)) = false
  bind : d.star = false → ∀ q ∈ d.shapes, BindOk K cls fd d.ps q.1 q.2.1 q.2.2
  star : d.star = true → ∃ ps0 pv, d.ps = ps0 ++ [pv] ∧ ∀ us rest : List Value, us.length = ps0.length → bindArgs fd ⟨us ++ rest, []⟩ = (newTuple rest >>= fun t => pure (ps0.zip us ++ [(pv, t)]))
theorem shapeOf_mem {n : Nat} {ks : List Str} {p : List Src} : ∀ {l : List (Nat × List Str × List Src)}, shapeOf n ks l = some p → (n, ks, p) ∈ l
  | [], h => by cases h
  | (m, ls, q) :: r, h => by
    unfold shapeOf at h
    split at h
    · rename_i e
      cases h
      rw [e.1, e.2]
      exact List.mem_cons_self
    · exact List.mem_cons_of_mem _ (shapeOf_mem h)
section
variable {P : Program} {w : World} {K : PySem.W.Frag} {mg : Str → Option Value} {base : Heap} {cls : Str → Option Addr} {G : Gt} {k Wf : Nat} {f : Addr} {fd : FuncData} {d : DefI}
theorem DefOk.fn (o : DefOk K cls f fd d) (PO : PrOk P w K mg base cls G k) : FnG P w K mg base cls (k + 1) f fd d.ps (runDef G Wf d) := by
  obtain ⟨name, qual, params, dV, kV, doc, pm, cdv, ct, oc, an, od, osl, rfl, lk, hcd⟩ := o.ex
  exact fnG_of PO lk hcd o.sc o.dbg
/-- the call's values, bound -/
theorem bindV_ok (o : DefOk K cls f fd d) (hst : d.star = false) {s : Shared} {us ws : List Value} {vs zs : List V} {ia : List Addr} {F : Hp} {ds es xs : List Vl} {ks : List Str} (hk : K.In s.heap) (rv : Vals vs us) (rz : Vals zs ws) (rl : RepL K cls ia F ds vs) (re : RepL K cls ia F es zs) (hl : ks.length = es.length)
    (e : bindV d ds ks es = some xs) : ∃ (all : List Value) (vall : List V), BindsTo s fd ⟨us, ks.zip ws⟩ (d.ps.zip all) ∧ Vals vall all ∧ RepL K cls ia F xs vall := by
  unfold bindV at e
  rw [if_neg (by rw [hst]; exact Bool.false_ne_true)] at e
  cases e1 : shapeOf ds.length ks d.shapes with
  | none => rw [e1] at e; cases e
  | some p =>
    rw [e1] at e
    obtain ⟨all, b, h⟩ := o.bind hst _ (shapeOf_mem e1) s us ws hk (by rw [← rv.length, ← rl.len]) (by rw [← rz.length, ← re.len, hl])
    obtain ⟨vall, h1, h2⟩ := h vs zs rv rz ia F ds es xs rl re e
    exact ⟨all, vall, b, h1, h2⟩
/-- the def at f, called with values and names, does what D says, where no repr runs -/
def FnB (P : Program) (w : World) (K : PySem.W.Frag) (mg : Str → Option Value) (base : Heap) (cls : Str → Option Addr) (k : Nat) (f : Addr) (D : List Vl → List Str → List Vl → Hs → Rs Vl) : Prop :=
  ∀ (A : Around) (outer : List PySem.Env) (s : Shared) (H : Hp) (us ws : List Value) (vs zs : List V) (ks : List Str) (Q : VK) (E : XK) (ia : List Addr) (F : Hp) (h : Hs) (ds es : List Vl), Room k A → A.guards = some [] → Env0 P w K mg base A outer s H →
    Vals vs us → Vals zs ws → Sim K cls ia F h H → RepL K cls ia F ds vs → RepL K cls ia F es zs → ks.length = es.length → Fin K cls (xw E) [] ia F H (D ds ks es h) (Rep K cls) Q → codeAny (model P w) A (.call (.ref f) ⟨us, ks.zip ws⟩) (CR (CX P w) outer P w H s Q E) s
open StX in
theorem fnB_star (o : DefOk K cls f fd d) (PO : PrOk P w K mg base cls G k) (hst : d.star = true) : FnB P w K mg base cls (k + 1) f (callD G Wf d) := by
  obtain ⟨name, qual, params, dV, kV, doc, pm, cdv, ct, oc, an, od, osl, rfl, lk, hcd⟩ := o.ex
  obtain ⟨ps0, pv, eps, hb⟩ := o.star hst
  intro A outer s H us ws vs zs ks Q E ia F h ds es hr hgu e0 r rz Sm rl re hl fin
  unfold callD bindV at fin
  rw [if_pos hst] at fin
  have em : d.ps.length - 1 = ps0.length := by rw [eps, List.length_append]; rfl
  split at fin
  · rename_i xs hx
    split at hx
    · rename_i hc
      obtain ⟨rfl, hc1, hc2⟩ := hc
      rw [em] at hx
      cases hx
      have hes : es = [] := List.length_eq_zero_iff.mp hl.symm
      subst hes
      have hws : ws = [] := List.length_eq_zero_iff.mp (by rw [← rz.length, ← re.len]; rfl)
      subst hws
      have hle : ps0.length ≤ vs.length := by
        rw [eps, List.length_append, List.length_singleton] at hc1
        rw [← rl.len]; omega
      obtain ⟨u1, u2, eu, r1, r2⟩ := vals_split (ws := vs.take ps0.length) (rest := vs.drop ps0.length) (by rw [List.take_append_drop]; exact r)
      subst eu
      have hl0 : (vs.take ps0.length).length = ps0.length := by rw [List.length_take]; omega
      have hl1 : u1.length = ps0.length := by rw [← r1.length]; exact hl0
      have hz : (vs.drop ps0.length).length ≤ sizeLine := by rw [List.length_drop, ← rl.len]; omega
      have hl2 : u2.length ≤ sizeLine := by rw [← r2.length]; exact hz
      have hn : H s.heap.objs.size = none := e0.hok.fresh (Nat.le_refl _)
      have Sc : FnScope d.st.N (ps0 ++ [pv]) d.st.sc := eps ▸ o.sc
      refine run_bnd lk hcd Sc hr e0 (G := fun xs H2 => ∃ p, H p = none ∧ xs = vs.take ps0.length ++ [V.ref p] ∧ H2 = upd H p (.tup (vs.drop ps0.length))) (fun A' Ex Q' hh => ?_) fun s2 H2 xs ⟨p, hp, ex, eH⟩ hr' => ?_
      · show wpAny (model P w) A' (bindArgs _ ⟨u1 ++ u2, []⟩) Q' Ex s
        rw [hb u1 u2 hl1]
        refine wpAny_bind (wpAny_newTuple (wpAny_pure ?_) hl2)
        have nw : ObjOk P w (upd H s.heap.objs.size (.tup (vs.drop ps0.length))) (s.heap.push ({ cls := .type "tuple", data := .seq u2.toArray } : Obj)) s.heap.objs.size (.tup (vs.drop ps0.length)) := ⟨hz, u2, r2, ⟨_, Heap.get?_push_size _ rfl, rfl, _, rfl⟩⟩
        have un := un_laid (fs := frs outer) (s := s) (o := ({ cls := .type "tuple", data := .seq u2.toArray } : Obj)) (u := .tup (vs.drop ps0.length)) hn
        have z := hh _ _ (vs.take ps0.length ++ [V.ref s.heap.objs.size]) (u1 ++ [Value.ref s.heap.objs.size]) (env0_laid e0 nw) un rfl (fun e s' => cxUp outer s H _ _ E e s' un (fun b o q => Heap.get?_push_of_some _ q) rfl) (r1.append (.cons rfl .nil))
          (by rw [List.length_append, List.length_append, hl0] <;> rfl) ⟨_, hn, rfl, rfl⟩
        rw [List.zip_append hl1.symm] at z
        exact z
      · subst ex eH
        have ps := Post.frozen Sm hp (.tup (vs.drop ps0.length))
        have rx : RepL K cls ia (upd F p (.tup (vs.drop ps0.length))) (ds.take ps0.length ++ [.tup (ds.drop ps0.length)]) (vs.take ps0.length ++ [V.ref p]) := by
          refine RepL.append ((RepL.take _ rl).post ps) (RepL.cons ?_ RepL.nil)
          simp only [Rep]
          exact ⟨p, _, rfl, .inl (.inl upd_same), (RepL.drop _ rl).post ps⟩
        obtain ⟨hl3, hf⟩ := run_fin ps.sim (Fin.post ps fin)
        have c : CxOk P w K mg base k (cxOf (CX P w) P w K mg base d.st.N qual d.st.sc f cdv A outer s2 (upd H p (.tup (vs.drop ps0.length))) E) (xw E) d.st :=
          ⟨rfl, rfl, rfl, rfl, rfl, rfl, Sc.nd, rfl, rfl, hgu, hr', fun _ _ => rfl, o.dbg, takes_of rfl rfl rfl rfl, passes_of rfl⟩
        exact ⟨_, all_b PO c dS d.body, ia, _, h, startE d.st.N _, ps.sim, startE_ok rx, hf⟩
    · cases hx
  · exact fin.elim
theorem DefOk.fnB (o : DefOk K cls f fd d) (PO : PrOk P w K mg base cls G k) : FnB P w K mg base cls (k + 1) f (callD G Wf d) := by
  cases hst : d.star with
  | true => exact fnB_star o PO hst
  | false =>
    intro A outer s H us ws vs zs ks Q E ia F h ds es hr hgu e0 r rz Sm rl re hl fin
    have KX : K.In s.heap := e0.mod.kin.keeps fun b o e => (e0.bs b o e).1
    unfold callD at fin
    cases e : bindV d ds ks es with
    | none => rw [e] at fin; exact fin.elim
    | some xs =>
      rw [e] at fin
      obtain ⟨all, vall, b, h1, h2⟩ := bindV_ok o hst (s := s) KX r rz rl re hl e
      exact o.fn PO A outer s H _ all vall Q E ia F h xs hr hgu e0 b h1 Sm h2 fin
theorem callD_ok (o : DefOk K cls f fd d) (PO : PrOk P w K mg base cls G k) {j : Nat} (hj : k + 1 ≤ j) {X : Cx} {W : WX} {C : St0} (c : CxOk P w K mg base j X W C) : CallOk X cls W (.ref f) (callD G Wf d) := by
  have hK := c.K
  subst hK
  have hP := c.prog
  subst hP
  have hw := c.w
  subst hw
  have hm := c.mg
  subst hm
  have hbs := c.base
  subst hbs
  intro pins s σ H ia F h ds ks es vs zs us ws Q I S rl re rv rz hl fin
  have fin' : Fin X.K cls (xw fun cc dd H' => W cc dd σ H') [] ia F H (callD G Wf d ds ks es h) (Rep X.K cls) Q := by
    cases er : callD G Wf d ds ks es h with
    | no => rw [er] at fin; exact fin
    | ok v h' => rw [er] at fin; exact fin
    | rz ex h' => rw [er] at fin; exact fin
  refine wpAny_call (codeAny_mono (o.fnB PO X.A X.stack s H us ws vs zs ks Q _ ia F h ds es (c.room.mono hj) c.gu I.env0 rv rz S rl re hl fin') ?_)
  intro r s' hq
  cases r with
  | error ex => exact c.tk ex s' (XE.of_call I (fun _ _ _ z => z) hq)
  | ok fl =>
    cases fl with
    | ret u => exact I.after hq
    | next => exact hq.elim
    | brk => exact hq.elim
    | cont => exact hq.elim
/-- a classmethod's def, its class ahead -/
theorem callD_okM {Ca : Addr} {cn : Str} (o : DefOk K cls f fd d) (hc : cls cn = some Ca) (PO : PrOk P w K mg base cls G k) {j : Nat} (hj : k + 1 ≤ j) {X : Cx} {W : WX} {C : St0} (c : CxOk P w K mg base j X W C) : CallOkM X cls W f Ca fun vs ks ws h => callD G Wf d (.cl cn :: vs) ks ws h := by
  have hK := c.K
  subst hK
  have hP := c.prog
  subst hP
  have hw := c.w
  subst hw
  have hm := c.mg
  subst hm
  have hbs := c.base
  subst hbs
  intro q pins s σ H ia F h ds ks es vs zs us ws Q I S rl re rv rz hl fin
  replace fin : Fin X.K cls W σ ia F H (callD G Wf d (.cl cn :: ds) ks es h) (Rep X.K cls) Q := fin
  have fin' : Fin X.K cls (xw fun cc dd H' => W cc dd σ H') [] ia F H (callD G Wf d (.cl cn :: ds) ks es h) (Rep X.K cls) Q := by
    cases er : callD G Wf d (.cl cn :: ds) ks es h with
    | no => rw [er] at fin; exact fin
    | ok v h' => rw [er] at fin; exact fin
    | rz ex h' => rw [er] at fin; exact fin
  have rcl : Rep X.K cls ia F (.cl cn) (.ref Ca) := by simp only [Rep]; exact ⟨Ca, hc, rfl⟩
  refine wpAny_call (PySem.W.method_call (ClX.pin_at I) (codeAny_mono (o.fnB PO X.A X.stack s H (.ref Ca :: us) ws (.ref Ca :: vs) zs ks Q _ ia F h (.cl cn :: ds) es (c.room.mono hj) c.gu I.env0 (.cons rfl rv) rz S (RepL.cons rcl rl) re hl fin') ?_))
  intro r s' hq
  cases r with
  | error ex => exact c.tk ex s' (XE.of_call I (fun _ _ _ z => z) hq)
  | ok fl =>
    cases fl with
    | ret u => exact ClX.unpinE (I.after hq)
    | next => exact hq.elim
    | brk => exact hq.elim
    | cont => exact hq.elim
end
end Wd

set_option Elab.async false
set_option linter.all false
set_option maxRecDepth 100000
namespace Wd
open PySem PySem.Spec PyProof.Rows L2

section
variable {P : Program} {w : World} {K : PySem.W.Frag} {mg : Str → Option Value} {base : Heap} {cls : Str → Option Addr} {G : Gt} {k Wf : Nat} {f : Addr} {fd : FuncData} {d : DefI}
theorem make_guards {A : Around} {a : Args} (h : A.guards = some []) : (A.under (.builtin "type.__call__" a)).guards = some [] := by
  obtain ⟨hd, dp, fr, gs, u⟩ := A
  cases h
  first | rfl | simp [Around.under, Code.guards, Code.isGuard, pushGuards, guardIds]
theorem getI_some {h : Hs} {n : Nat} {c : Str} {fs : List (Str × Vl)} (e : getI h n = some (c, fs)) : h[n]? = some (some (.ins c fs)) := by
  unfold getI at e
  split at e
  · rename_i c' fs' e'
    cases e
    exact e'
  · cases e
theorem makeV_ok {ci : ClsI} {Ca : Addr} (hi : ci.init = some d) (o : DefOk K cls f fd d) (M : Mk K Ca f) (hc : cls ci.name = some Ca) (PO : PrOk P w K mg base cls G k) {j : Nat} (hj : k + 2 ≤ j) {X : Cx} {W : WX} {C : St0} (c : CxOk P w K mg base j X W C) : CallOk X cls W (.ref Ca) (makeV G Wf ci) := by
  have hK := c.K
  subst hK
  have hP := c.prog
  subst hP
  have hw := c.w
  subst hw
  have hm := c.mg
  subst hm
  have hbs := c.base
  subst hbs
  intro pins s σ H ia F h ds ks es vs zs us ws Q I S rl re rv rz hl fin
  unfold makeV at fin
  rw [hi] at fin
  simp only at fin
  have nx : H (s.heap.objs.size + 1) = none := I.hok.fresh (Nat.le_succ _)
  have nd : H s.heap.objs.size = none := I.hok.fresh (Nat.le_refl _)
  have ne : s.heap.objs.size ≠ s.heap.objs.size + 1 := Nat.ne_of_lt (Nat.lt_succ_self _)
  generalize hx : s.heap.objs.size + 1 = x at nx ne
  generalize hdx : s.heap.objs.size = dx at nd ne
  have Fn : ∀ b, H b = none → F b = none := fun b hb => by
    cases e : F b with
    | none => rfl
    | some u => rw [S.sub b u e] at hb; cases hb
  have p1 : Post X.K cls ia F H ia F h (upd H dx (.own x)) := Post.other (Post.refl S) nd (Fn dx nd) (fun z => S.there dx z nd) _
  have hx1 : upd H dx (.own x) x = none := by rw [upd_ne (Ne.symm ne)]; exact nx
  have p2 : Post X.K cls ia F (upd H dx (.own x)) (ia ++ [x]) F (h ++ [some (.ins ci.name [])]) (upd (upd H dx (.own x)) x (.ins Ca dx [])) :=
    Post.made p1.sim hx1 ⟨Ca, dx, [], hc, upd_same, by simp only [RepF]⟩
  have p := p1.trans p2
  have rself : Rep X.K cls (ia ++ [x]) F (.ref h.length) (.ref x) := by
    simp only [Rep]
    refine ⟨x, ?_, rfl⟩
    rw [List.getElem?_append_right (by rw [S.len]; exact Nat.le_refl _), S.len, Nat.sub_self]
    rfl
  have I2 : Inv X pins σ (upd (upd H dx (.own x)) x (.ins Ca dx [])) { s with heap := (s.heap.push PySem.W.emptyDict).push (PySem.W.instObj Ca s.heap.objs.size) } := by
    have z := Inv.made (C := Ca) I
    rw [hx, hdx] at z
    rw [hdx]
    exact z
  have fin' : Fin X.K cls (xw fun cc dd H' => W cc dd σ H') [] (ia ++ [x]) F (upd (upd H dx (.own x)) x (.ins Ca dx [])) (callD G Wf d (.ref h.length :: ds) ks es (h ++ [some (.ins ci.name [])])) (Rep X.K cls) fun v H2 => v = .non ∧ Q (.ref x) H2 := by
    cases er : callD G Wf d (.ref h.length :: ds) ks es (h ++ [some (.ins ci.name [])]) with
    | no => rw [er] at fin; exact fin
    | rz ex h' => rw [er] at fin; exact Fin.post (σ := σ) p fin
    | ok v h2 =>
      rw [er] at fin
      simp only [Rs.bind_ok] at fin
      intro bb ka F2 H2 q rb
      have qt := p.trans q
      have hk : ka[h.length]? = some x := by
        have z : (ia ++ [x])[h.length]? = some x := by
          rw [List.getElem?_append_right (by rw [S.len]; exact Nat.le_refl _), S.len, Nat.sub_self]
          rfl
        exact q.ex _ _ z
      cases v with
      | non =>
        simp only [Rep] at rb
        refine ⟨rb, ?_⟩
        simp only at fin
        split at fin
        · cases eg : getI h2 h.length with
          | none => rw [eg] at fin; exact fin.elim
          | some nf =>
            obtain ⟨nn, fs⟩ := nf
            rw [eg] at fin
            have hg := getI_some eg
            obtain ⟨a, e1, hF, Cc, ddx, gs, kc, e3, rf⟩ := qt.sim.obj _ _ hg
            rw [hk] at e1
            cases e1
            have pr := Post.rest qt.sim hg hk hF e3
            have rr : Rep X.K cls ka (upd F2 x (.ins Cc ddx gs)) (.ins nn fs) (.ref x) := by
              simp only [Rep]
              exact ⟨x, Cc, ddx, gs, rfl, kc, upd_same, RepF.mono pr.ex pr.fr _ _ rf⟩
            obtain ⟨ka', p', r'⟩ := Post.trunc S (qt.trans pr) rr
            exact fin _ ka' _ H2 p' r'
        · exact fin _ ka F2 H2 qt (by simp only [Rep]; exact ⟨x, hk, rfl⟩)
      | _ => exact fin.elim
  refine wpAny_call (make_map (f := f) I.kIn M.makes M.init (beq_iff_eq.mp M.fn) ?_)
  have run := o.fnB (Wf := Wf) PO (X.A.under (.builtin "type.__call__" ⟨.ref Ca :: us, ks.zip ws⟩)) X.stack { s with heap := (s.heap.push PySem.W.emptyDict).push (PySem.W.instObj Ca s.heap.objs.size) } _ (Value.ref x :: us) ws (V.ref x :: vs) zs ks (fun v H2 => v = .non ∧ Q (.ref x) H2) _
    (ia ++ [x]) F (h ++ [some (.ins ci.name [])]) (.ref h.length :: ds) es ((c.room.mono hj).make Ca us (ks.zip ws)) (make_guards c.gu) (I2.env0.make Ca us (ks.zip ws)) (.cons rfl rv) rz p.sim (RepL.cons rself (rl.post p)) (re.post p) hl fin'
  rw [hx]
  refine codeAny_mono run fun r s' hq => ?_
  cases r with
  | error ex => exact c.tk ex s' (XE.of_call I2 (fun _ _ _ z => z) hq)
  | ok fl =>
    cases fl with
    | ret u =>
      obtain ⟨v, H', I3, rvu, ev, q3⟩ := I2.after hq
      subst ev
      exact ⟨rvu, V.ref x, H', I3, rfl, q3⟩
    | next => exact hq.elim
    | brk => exact hq.elim
    | cont => exact hq.elim
/-! ### a property -/
theorem prop_ok {p : Addr} {fn : Str} {Ca : Addr} (o : DefOk K cls f fd d) (hp : PropOf K Ca fn p f) (hcl : Cls K Ca) (PO : PrOk P w K mg base cls G k) {j : Nat} (hj : k + 2 ≤ j) {X : Cx} {W : WX} {C : St0} (c : CxOk P w K mg base j X W C)
    {pins : List (Addr × Obj)} {s : Shared} {σ : L2.St} {H : Hp} {ia : List Addr} {F : Hp} {h : Hs} {v : Vl} {a dx : Addr} {gs : List (Str × V)} {b : Bool} {Q : VK} (I : Inv X pins σ H s) (S : Sim K cls ia F h H) (r : Rep K cls ia F v (.ref a)) (ea : H a = some (.ins Ca dx gs))
    (fin : Fin K cls W σ ia F H (callD G Wf d [v] [] [] h).calm (Rep K cls) Q) : wpAny (model X.prog X.w) X.A (getAttr (.ref a) fn b) (EP X pins σ Q) X.xe s := by
  have hK := c.K
  subst hK
  have hP := c.prog
  subst hP
  have hw := c.w
  subst hw
  have hm := c.mg
  subst hm
  have hbs := c.base
  subst hbs
  obtain ⟨mA, O, _, _, _, _⟩ := ins_get I.hok ea
  obtain ⟨od, J, _⟩ := O.look
  obtain ⟨rest, hrec⟩ := hp.rec_
  have I1 := I.tok (s.toks + 1)
  have fin' : Fin X.K cls (xw fun _ _ _ => False) [] ia F H (callD G Wf d [v] [] [] h) (Rep X.K cls) Q := by
    cases er : callD G Wf d [v] [] [] h with
    | no => rw [er] at fin; exact fin.elim
    | ok v h' => rw [er] at fin; exact fin
    | rz ex h' => rw [er] at fin; exact fin.elim
  have hcc : (PySem.W.clsIn X.K Ca).isSome = true := by
    obtain ⟨cd, z, _⟩ := PySem.W.any_some hcl.hd
    rw [z]; rfl
  have hrm : Room (k + 1) X.A.in1 := (c.room.mono hj).in1
  refine PySem.W.get_bind I.kIn J (PySem.W.plainGet_of (hcl.get fn)).1 (PySem.W.findObj_data hcc hp.at_ hp.get hp.tak) (PySem.W.plainGet_of (hcl.get fn)).2 (wpAny_call (PySem.W.prop_get (s := { s with toks := s.toks + 1 }) I.kIn hrec ?_))
  refine codeAny_mono (o.fnB (Wf := Wf) PO X.A.in1 X.stack { s with toks := s.toks + 1 } H [.ref a] [] [V.ref a] [] [] Q _ ia F h [v] [] hrm c.gu I1.env0.in1 (.cons rfl .nil) .nil S (RepL.cons r RepL.nil) RepL.nil rfl fin') ?_
  intro rr s' hq
  cases rr with
  | error ex =>
    obtain ⟨_, _, _, _, _, _, _, _, _, _, _, _, z⟩ := hq
    exact z.elim
  | ok fl =>
    cases fl with
    | ret u =>
      obtain ⟨x, H', I3, rx, qx⟩ := I1.after hq
      show wpAny _ _ (handedOut u) _ _ _
      rw [PySem.W.handedOut_of (handed_of rx)]
      exact wpAny_pure ⟨x, H', I3, rx, qx⟩
    | next => exact hq.elim
    | brk => exact hq.elim
    | cont => exact hq.elim

/-- a special method -/
theorem spec_ok (o : DefOk K cls f fd d) (PO : PrOk P w K mg base cls G k) {j : Nat} (hj : k + 4 ≤ j) {X : Cx} {W : WX} {C : St0} (c : CxOk P w K mg base j X W C) {A' : Around} (hA : A' = X.A ∨ A' = X.A.in1 ∨ A' = X.A.in1.in1 ∨ A' = X.A.in1.in1.in1)
    {pins : List (Addr × Obj)} {s : Shared} {σ : L2.St} {H : Hp} {ia : List Addr} {F : Hp} {h : Hs} {ds : List Vl} {vs : List V} {us : List Value} {Q : VK} (I : Inv X pins σ H s) (S : Sim K cls ia F h H) (r : RepL K cls ia F ds vs) (rv : Vals vs us)
    (fin : Fin K cls W σ ia F H (callD G Wf d ds [] [] h) (Rep K cls) Q) : wpAny (model X.prog X.w) A' (PySem.call (.ref f) us) (EP X pins σ Q) X.xe s := by
  have hK := c.K
  subst hK
  have hP := c.prog
  subst hP
  have hw := c.w
  subst hw
  have hm := c.mg
  subst hm
  have hbs := c.base
  subst hbs
  have fin' : Fin X.K cls (xw fun cc dd H' => W cc dd σ H') [] ia F H (callD G Wf d ds [] [] h) (Rep X.K cls) Q := by
    cases er : callD G Wf d ds [] [] h with
    | no => rw [er] at fin; exact fin.elim
    | ok v h' => rw [er] at fin; exact fin
    | rz ex h' => rw [er] at fin; exact fin
  have go : ∀ (A' : Around), Room (k + 1) A' → A'.guards = some [] → Env0 X.prog X.w X.K X.mg X.base A' X.stack s H → wpAny (model X.prog X.w) A' (PySem.call (.ref f) us) (EP X pins σ Q) X.xe s := by
    intro A' hr hg he
    refine wpAny_call (codeAny_mono (o.fnB (Wf := Wf) PO A' X.stack s H us [] vs [] [] Q _ ia F h ds [] hr hg he rv .nil S r RepL.nil rfl fin') ?_)
    intro rr s' hq
    cases rr with
    | error ex => exact c.tk ex s' (XE.of_call I (fun _ _ _ z => z) hq)
    | ok fl =>
      cases fl with
      | ret u => exact I.after hq
      | next => exact hq.elim
      | brk => exact hq.elim
      | cont => exact hq.elim
  rcases hA with rfl | rfl | rfl | rfl
  · exact go _ (c.room.mono (by omega)) c.gu I.env0
  · exact go _ (Room.mono (c.room.mono (show k + 1 + 1 ≤ j by omega)).in1 (Nat.le_refl _)) c.gu I.env0.in1
  · exact go _ (c.room.mono (show k + 1 + 1 + 1 ≤ j by omega)).in1.in1 c.gu I.env0.in1.in1
  · exact go _ (c.room.mono (show k + 1 + 1 + 1 + 1 ≤ j by omega)).in1.in1.in1 c.gu I.env0.in1.in1.in1

/-! ### the whole text -/
structure ClsOk (K : PySem.W.Frag) (mg : Str → Option Value) (cls : Str → Option Addr) (ci : ClsI) (Ca : Addr) : Prop where
  mg_ : mg ci.name = some (.ref Ca)
  dbg : (ci.name == ("__debug__" : Str)) = false
  cls_ : cls ci.name = some Ca
  kp : PySem.W.keepIn K (.ref Ca) = true
  init : ∀ d, ci.init = some d → ∃ a fd, Mk K Ca a ∧ DefOk K cls a fd d
  meth : ∀ m d, ci.meths.lookup m = some d → ∃ a fd, Meth K Ca m a ∧ DefOk K cls a fd d
  prop : ∀ p d, ci.props.lookup p = some d → ∃ pa a fd, PropOf K Ca p pa a ∧ DefOk K cls a fd d
  flds : ∀ g ∈ ci.flds, NoAttr K Ca g
  cmt : ∀ m d, ci.cms.lookup m = some d → ∃ mc p a fd, ClX.CRead K Ca mc ∧ ClX.CMet K Ca mc m p a ∧ DefOk K cls a fd d
  spec : ∀ m d, ci.specs.lookup m = some d → ∃ a fd, PySem.W.findIn K (.ref Ca) m = some (some (.ref a)) ∧ PySem.W.isFn K (.ref a) = true ∧ PySem.W.fnIn K a = true ∧ DefOk K cls a fd d
structure TxtOk (K : PySem.W.Frag) (mg : Str → Option Value) (cls : Str → Option Addr) (T : Txt) : Prop where
  fns : ∀ f d, T.fns.lookup f = some d → (f == ("__debug__" : Str)) = false ∧ ∃ a fd, mg f = some (.ref a) ∧ PySem.W.keepIn K (.ref a) = true ∧ DefOk K cls a fd d
  cl : ∀ f ci, findC T.cls f = some ci → ∃ Ca, ClsOk K mg cls ci Ca
  isa : IsaOk K cls T.isa
  gl : ∀ x d, T.gl.lookup x = some d → (x == ("__debug__" : Str)) = false ∧ ∃ u v, mg x = some u ∧ RelV v u ∧ ∀ ia F, Rep K cls ia F d v
  ty : ∀ x n, tyName x = some n → mg x = none
  blt : ∀ b, mg (bltNm b) = none
  rng : mg "range" = none
  enu : mg "enumerate" = none
theorem findC_name : ∀ {cs : List ClsI} {x : Str} {ci : ClsI}, findC cs x = some ci → ci.name = x
  | [], _, _, h => by cases h
  | c :: r, x, ci, h => by
    unfold findC at h
    split at h
    · rename_i e; cases h; exact e
    · exact findC_name h
theorem prOk {T : Txt} (TO : TxtOk K mg cls T) : ∀ n : Nat, PrOk P w K mg base cls (mkG T Wf n) (4 * n)
  | 0 => ⟨(fun x d h => nomatch h), TO.ty, TO.blt, TO.rng, TO.enu, ⟨TO.isa.fact, (fun c d C D b _ _ h => nomatch h)⟩, (fun f h => nomatch h), (fun c m C h => nomatch h), (fun c f v h C hn => absurd rfl hn), (fun c C f _ h => nomatch h), (fun c m C h => nomatch h), (fun c m C h => nomatch h)⟩
  | n + 1 => by
    have ih := prOk TO n
    refine ⟨TO.gl, TO.ty, TO.blt, TO.rng, TO.enu, TO.isa, fun f hf => ?_, fun c m C hm hc => ?_, fun c f v h C hn hc X W C0 cx => ?_, fun c C f hc hf => ?_, fun c m C hm hc => ?_, fun c m C hm hc => ?_⟩
    · simp only [mkG] at hf
      cases e1 : T.fns.lookup f with
      | some d =>
        obtain ⟨h1, a, fd, h2, h3, h4⟩ := TO.fns f d e1
        refine ⟨h1, _, h2, h3, fun X W C c => ?_⟩
        have z := callD_ok (Wf := Wf) h4 ih (j := 4 * (n + 1)) (by omega) c
        simp only [mkG, e1]
        exact z
      | none =>
        rw [e1] at hf
        cases e2 : findC T.cls f with
        | none => rw [e2] at hf; cases hf
        | some ci =>
          have hnm := findC_name e2
          obtain ⟨Ca, o⟩ := TO.cl f ci e2
          subst hnm
          refine ⟨o.dbg, _, o.mg_, o.kp, fun X W C c => ?_⟩
          simp only [mkG, e1, e2]
          cases ei : ci.init with
          | some d =>
            obtain ⟨a, fd, M, od⟩ := o.init d ei
            exact makeV_ok ei od M o.cls_ ih (by omega) c
          | none =>
            intro pins s σ H ia F h ds ks es vs zs us ws Q I S rl re rv rz hl fin
            unfold makeV at fin
            rw [ei] at fin
            exact fin.elim
    · simp only [mkG] at hm
      cases e2 : findC T.cls c with
      | none => rw [e2] at hm; cases hm
      | some ci =>
        rw [e2] at hm
        simp only at hm
        have hnm := findC_name e2
        obtain ⟨Ca, o⟩ := TO.cl c ci e2
        subst hnm
        have eC : Ca = C := by have := o.cls_; rw [hc] at this; exact (Option.some.inj this).symm
        subst eC
        cases e3 : ci.meths.lookup m with
        | none => rw [e3] at hm; cases hm
        | some d =>
          obtain ⟨a, fd, M, od⟩ := o.meth m d e3
          refine ⟨a, M, fun X W C c => ?_⟩
          have z := callD_ok (Wf := Wf) od ih (j := 4 * (n + 1)) (by omega) c
          simp only [mkG, e2, e3]
          exact z
    · intro pins s σ H ia F a dx gs b Q I S r ea fin
      simp only [mkG] at fin hn
      cases e2 : findC T.cls c with
      | none => rw [e2] at fin; exact fin.elim
      | some ci =>
        rw [e2] at fin
        simp only at fin
        have hnm := findC_name e2
        obtain ⟨Ca, o⟩ := TO.cl c ci e2
        subst hnm
        have eC : Ca = C := by have := o.cls_; rw [hc] at this; exact (Option.some.inj this).symm
        subst eC
        cases e3 : ci.props.lookup f with
        | none => rw [e3] at fin; exact fin.elim
        | some d =>
          rw [e3] at fin
          obtain ⟨pa, ad, fd, hp, od⟩ := o.prop f d e3
          have hcl := (TO.isa.fact _ _ hc).cl
          have hK := cx.K
          subst hK
          exact prop_ok od hp hcl ih (by omega) cx I S r ea fin
    · simp only [mkG] at hf
      cases e2 : findC T.cls c with
      | none => rw [e2] at hf; cases hf
      | some ci =>
        rw [e2] at hf
        simp only at hf
        have hnm := findC_name e2
        obtain ⟨Ca, o⟩ := TO.cl c ci e2
        subst hnm
        have eC : Ca = C := by have := o.cls_; rw [hc] at this; exact (Option.some.inj this).symm
        subst eC
        exact o.flds f (List.contains_iff_mem.mp hf)
    · simp only [mkG] at hm
      cases e2 : findC T.cls c with
      | none => rw [e2] at hm; cases hm
      | some ci =>
        rw [e2] at hm
        simp only at hm
        have hnm := findC_name e2
        obtain ⟨Ca, o⟩ := TO.cl c ci e2
        subst hnm
        have eC : Ca = C := by have := o.cls_; rw [hc] at this; exact (Option.some.inj this).symm
        subst eC
        cases e3 : ci.cms.lookup m with
        | none => rw [e3] at hm; cases hm
        | some d =>
          obtain ⟨mc, p, a, fd, M1, M2, od⟩ := o.cmt m d e3
          refine ⟨mc, p, a, M1, M2, fun X W C c => ?_⟩
          have z := callD_okM (Wf := Wf) od hc ih (j := 4 * (n + 1)) (by omega) c
          simp only [mkG, e2, e3]
          exact z
    · simp only [mkG] at hm
      cases e2 : findC T.cls c with
      | none => rw [e2] at hm; cases hm
      | some ci =>
        rw [e2] at hm
        simp only at hm
        have hnm := findC_name e2
        obtain ⟨Ca, o⟩ := TO.cl c ci e2
        subst hnm
        have eC : Ca = C := by have := o.cls_; rw [hc] at this; exact (Option.some.inj this).symm
        subst eC
        cases e3 : ci.specs.lookup m with
        | none => rw [e3] at hm; cases hm
        | some d =>
          obtain ⟨a, fd, s1, s2, s3, od⟩ := o.spec m d e3
          refine ⟨a, s1, s2, s3, fun X W C c => ⟨?_, ?_⟩⟩
          · intro pins s σ H ia F h ds vs us Q I S r rv fin
            have z := callD_ok (Wf := Wf) od ih (j := 4 * (n + 1)) (by omega) c
            have hK := c.K
            subst hK
            simp only [mkG, e2, e3] at fin
            exact z pins s σ H ia F h ds [] [] vs [] us [] Q I S r RepL.nil rv .nil rfl fin
          · intro A' hA pins s σ H ia F h ds vs us Q I S r rv fin
            simp only [mkG, e2, e3] at fin
            exact spec_ok od ih (by omega) c hA I S r rv fin
end
end Wd

set_option Elab.async false
set_option linter.all false
set_option maxRecDepth 100000
namespace Wd
open PySem PySem.Spec PyProof.Rows L2

/-- where the law ends: True, and nothing of old is touched -/
abbrev EndT (t0 : Shared) : Result → Shared → Prop := fun rs t => rs = .ok (.ret (.bool true)) ∧ OldK t0.heap t.heap ∧ t.os = t0.os ∧ AllBare t.gens
/-- what is known of the heap behind the top, and of the script in it -/
structure Here (K : PySem.W.Frag) (mg mb : Str → Option Value) (t0 : Shared) (a : Addr) (us : List Value) (ns : List Int) : Prop where
  kin : K.In t0.heap
  glob : t0.heap.Ns mainGlobals mg
  blt : t0.heap.Ns builtinsNs mb
  bltq : ∀ x : Str, x ≠ "__name__" → mb x = bootBuiltins x
  lim : t0.heap.NoLimit
  gens : t0.gens = #[]
  scr : t0.heap.get? a = some { cls := .type "list", data := .seq us.toArray }
  are : IntsAre us ns
  few : ns.length ≤ sizeLine
section
variable {P : Program} {w : World} {K : PySem.W.Frag} {mg mb : Str → Option Value} {cls : Str → Option Addr} {k : Nat} {fa a : Addr} {fd : FuncData} {x : Str} {t0 : Shared} {us : List Value} {ns : List Int} {D : List Vl → Hs → Rs Vl} {h1 : Hs}
theorem ints_rep {ia : List Addr} {F : Hp} : ∀ ns : List Int, RepL K cls ia F (ns.map .int) (ns.map V.int)
  | [] => RepL.nil
  | n :: ns => RepL.cons (by simp only [Rep]) (ints_rep ns)
theorem sim0 {H : Hp} : Sim K cls [] H [] H := ⟨rfl, (fun n ob e => by simp at e), List.nodup_nil, (fun _ _ e => e), (fun b z => by cases z)⟩
/-- from an abstract heap that tells of nothing but the script -/
theorem go_from (h : Here K mg mb t0 a us ns) (rm : Room k callerA) (fn : ∀ base : Heap, K.In base → base.Ns mainGlobals mg → FnG P w K mg base cls k fa fd [x] D) (bnd : ∀ (s : Shared) (u : Value), BindsTo s fd ⟨[u], []⟩ [(x, u)])
    (ev : D [.lst (ns.map .int)] [] = .ok (.bl true) h1) {H : Hp} (hO : Only H) (sq : SqL K H a (ns.map V.int)) (hok : HOk P w H t0.heap) (hA : ∀ b, H b ≠ none → b = a) (hK : H a ≠ none → K.lookup a = none) :
    codeAny (model P w) callerA (.call (.ref fa) ⟨[.ref a], []⟩) (EndT t0) t0 := by
  have only_a : ∀ {b : Addr} {u : HO}, H b = some u → b = a := fun {b u} e => hA b (by rw [e]; exact fun z => by cases z)
  have old : ∀ {b : Addr} {o : Obj}, t0.heap.get? b = some o → H b = none → (hidT t0.heap H).get? b = some o := fun e z => hidT_get e z
  have dict_free : ∀ {b : Addr} {o : Obj} {es : Array DictEntry} {ep : Nat}, t0.heap.get? b = some o → o.data = .dict es ep → H b = none := by
    intro b o es ep e dd
    cases q : H b with
    | none => rfl
    | some u =>
      have z := only_a q
      subst z
      rw [h.scr] at e
      cases e
      have z : Data.seq us.toArray _ = Data.dict es ep := dd
      cases z
  have spaces : ∀ {b : Addr} {m : Str → Option Value}, t0.heap.Ns b m → (hidT t0.heap H).Ns b m := by
    rintro b m ⟨o, es, ep, e, dd, r⟩
    exact ⟨o, es, ep, old e (dict_free e dd), dd, r⟩
  have kb : K.In (hidT t0.heap H) := by
    intro b o e
    refine old (h.kin b o e) ?_
    cases q : H b with
    | none => rfl
    | some u =>
      have z := only_a q
      subst z
      rw [hK (by rw [q]; exact fun z => by cases z)] at e
      cases e
  have md : Mod K mg (hidT t0.heap H) := by
    refine ⟨kb, spaces h.glob, ⟨mb, spaces h.blt, h.bltq⟩, ?_⟩
    obtain ⟨mc, l1, l2⟩ := h.lim
    exact ⟨mc, spaces l1, l2⟩
  have entry : Env0 P w K mg (hidT t0.heap H) callerA [] t0 H :=
    ⟨rfl, md, (fun b o e => of_hidT e), Nat.le_of_eq (hidT_size _ _), trivial, (fun b z => by cases z), hok, .of_eq h.gens⟩
  have fin : Fin K cls (xw fun _ _ _ => False) [] [] H H (D [.lst (ns.map .int)] []) (Rep K cls) fun v _ => v = .bl true := by
    rw [ev]
    intro v ja F' H' _ r
    simpa only [Rep] using r
  have rl : RepL K cls [] H [.lst (ns.map .int)] [.ref a] := RepL.cons (by simp only [Rep]; exact ⟨a, _, rfl, sq, ints_rep ns⟩) RepL.nil
  refine codeAny_mono (fn _ kb (spaces h.glob) callerA [] t0 H ⟨[.ref a], []⟩ [.ref a] [.ref a] _ _ [] H [] _ rm rfl entry (bnd t0 (.ref a)) (.cons rfl .nil) sim0 rl fin) ?_
  intro rs t hq
  cases rs with
  | error e =>
    obtain ⟨_, _, _, _, _, _, _, _, _, _, _, _, z⟩ := hq
    exact z.elim
  | ok fl =>
    cases fl with
    | ret u =>
      obtain ⟨v, H', os, bare, un, hok', rv, ez⟩ := hq
      have ez' : v = .bl true := ez
      subst ez'
      have eu : u = Value.bool true := rv
      subst eu
      refine ⟨rfl, OldK.of_keep fun b o e => ?_, os, bare⟩
      cases q : H b with
      | none => exact un.keep b o e q (fun z => by cases z) (fun z => by cases z)
      | some uu =>
        rcases hO b with z | ⟨ob, xs, z⟩
        · rw [q] at z; cases z
        · obtain ⟨g1, _⟩ := hok b _ z
          obtain ⟨g2, _⟩ := hok' b _ (un.frzs b ob _ z)
          rw [e] at g1
          cases g1
          exact g2
    | next => exact hq.elim
    | brk => exact hq.elim
    | cont => exact hq.elim
theorem go_law (h : Here K mg mb t0 a us ns) (rm : Room k callerA) (fn : ∀ base : Heap, K.In base → base.Ns mainGlobals mg → FnG P w K mg base cls k fa fd [x] D) (bnd : ∀ (s : Shared) (u : Value), BindsTo s fd ⟨[u], []⟩ [(x, u)])
    (ev : D [.lst (ns.map .int)] [] = .ok (.bl true) h1) : codeAny (model P w) callerA (.call (.ref fa) ⟨[.ref a], []⟩) (EndT t0) t0 := by
  have rv := vals_ints h.are
  have hl : us.length = ns.length := h.are.length
  cases hk : K.lookup a with
  | some o =>
    have e := h.kin a o hk
    rw [h.scr] at e
    cases e
    refine go_from h rm fn bnd ev (H := fun _ => none) (fun _ => .inl rfl) (.inr ⟨_, us.toArray, _, hk, rfl, rfl, rfl, ?_, by simpa using rv⟩) (fun b u z => nomatch z) (fun b z => absurd rfl z) fun z => absurd rfl z
    rw [List.size_toArray, hl]
    exact h.few
  | none =>
    refine go_from h rm fn bnd ev (H := fun b => if b = a then some (.frz { cls := .type "list", data := .seq us.toArray } (.lst (ns.map V.int))) else none) ?_ (.inl (.inr ⟨_, if_pos rfl⟩)) ?_ ?_ fun _ => hk
    · intro b
      by_cases hb : b = a
      · exact .inr ⟨_, _, if_pos hb⟩
      · exact .inl (if_neg hb)
    · intro b u z
      by_cases hb : b = a
      · have z2 := (if_pos hb).symm.trans z
        cases z2
        subst hb
        exact ⟨h.scr, by rw [List.length_map]; exact h.few, us, _, rv, h.scr⟩
      · have z2 := (if_neg hb).symm.trans z
        cases z2
    · intro b z
      by_cases hb : b = a
      · exact hb
      · exact absurd (if_neg hb) z
end
/-- THE END: the goal that k_head leaves, from the run of the law by the small interpreter -/
theorem end_of {l : PySem.W.OpenLaw} {n N Wf : Nat} {q : Program} {loose : List Str} {XP : (Str → Option Value) → Heap → Prop} {YP : World → Heap → Prop} {d : DefRec} {K : Params → PySem.W.Frag} {x : Str} {T : Txt} {dL : DefI}
    (hn : l.most = some n) (hn2 : n ≤ sizeLine) (hdf : d.params.defaults = []) (rm : Room (4 * N + 1) callerA) (hY : ∀ (w : World) (h : Heap), YP w h → (K w.params).In h)
    (F : ∀ (w : World) (mg : Str → Option Value) (fa : Addr) (h : Heap), (K w.params).In h → h.Ns mainGlobals mg → mg d.name = some (.ref fa) →
      ∃ (cls : Str → Option Addr) (fd : FuncData), TxtOk (K w.params) mg cls T ∧ DefOk (K w.params) cls fa fd dL ∧ ∀ (s : Shared) (u : Value), BindsTo s fd ⟨[u], []⟩ [(x, u)])
    (hps : dL.ps = [x]) (run : ∀ ns : List Int, ns.length ≤ n → ∃ h1, runDef (mkG T Wf N) Wf dL [.lst (ns.map .int)] [] = .ok (.bl true) h1) : PySem.W.WalkO q loose XP YP l.row.toRowW d [] (fun f vs => PySem.call f vs) := by
  refine Att.attach_call hn hdf ?_
  intro w s₀ t0 mg mb fa o pm cd doc a vs ns G Y ho hd hcd hmg hobj hints hlen hg
  have KX := hY w _ Y
  obtain ⟨cls, fd, TO, DO, bnd⟩ := F w mg fa _ KX G.T.g hmg
  obtain ⟨h1, ev⟩ := run ns hlen
  refine go_law (cls := cls) (D := runDef (mkG T Wf N) Wf dL) ⟨KX, G.T.g, G.T.b, G.T.builtins, G.T.nolimit, hg, hobj, hints, Nat.le_trans hlen hn2⟩ rm (fun base _ _ => ?_) bnd ev
  rw [← hps]
  exact DO.fn (prOk TO N)
end Wd

set_option Elab.async false
set_option linter.all false
set_option maxRecDepth 100000
namespace Wd
open PySem PySem.Spec PyProof.Rows L2

/-! ### from the table to the facts -/
def scopeOk (d : DefI) : Bool :=
  (match d.st.sc.kind with | .function => true | _ => false) && !d.st.sc.isCoroutine && !d.st.sc.isGenerator && decide d.st.N.Nodup && decide (d.st.N.take d.ps.length = d.ps) &&
    d.ps.all (fun x => match d.st.sc.names.lookup x with | some .local => true | some .cell => true | _ => false) && d.st.sc.names.all (fun y => match y.2 with | .free => false | _ => true) &&
    d.st.N.all fun x => !(x == ("__debug__" : Str)) && !(x == ("__classdict__" : Str))
theorem scopeOk_sc {d : DefI} (h : scopeOk d = true) : FnScope d.st.N d.ps d.st.sc ∧ ∀ x ∈ d.st.N, (x == ("__debug__" : Str)) = false ∧ (x == ("__classdict__" : Str)) = false := by
  unfold scopeOk at h
  simp only [Bool.and_eq_true, List.all_eq_true, decide_eq_true_eq, Bool.not_eq_true'] at h
  obtain ⟨⟨⟨⟨⟨⟨⟨h1, h2⟩, h3⟩, h4⟩, h5⟩, h6⟩, h7⟩, h8⟩ := h
  refine ⟨⟨?_, h2, h3, h4, h5, fun x hx => ?_, fun y hy e => ?_⟩, h8⟩
  · split at h1
    · assumption
    · cases h1
  · have z := h6 x hx
    split at z
    · rename_i e; exact .inl e
    · rename_i e; exact .inr e
    · cases z
  · have z := h7 y hy
    rw [e] at z
    cases z
/-- the values of a plan; mv: the defaults, in order -/
def planA {α : Type} : List Src → List α → List α → List α → List α
  | [], _, _, _ => []
  | .pos i :: r, us, mv, ws => match us[i]? with
    | some x => x :: planA r us mv ws
    | none => planA r us mv ws
  | .kw j :: r, us, mv, ws => match ws[j]? with
    | some x => x :: planA r us mv ws
    | none => planA r us mv ws
  | .dv _ :: r, us, m :: mv, ws => m :: planA r us mv ws
  | .dv _ :: r, us, [], ws => planA r us [] ws
def dvs : List Src → List Vl
  | [] => []
  | .dv v :: r => v :: dvs r
  | _ :: r => dvs r
theorem vals_get {vs : List V} {us : List Value} (r : Vals vs us) (i : Nat) : (∃ v u, vs[i]? = some v ∧ us[i]? = some u ∧ RelV v u) ∨ (vs[i]? = none ∧ us[i]? = none) := by
  cases e : vs[i]? with
  | some v =>
    obtain ⟨u, h1, h2⟩ := r.get e
    exact .inl ⟨v, u, rfl, h1, h2⟩
  | none =>
    refine .inr ⟨rfl, List.getElem?_eq_none ?_⟩
    rw [← r.length]
    exact List.getElem?_eq_none_iff.mp e
theorem planA_vals : ∀ (plan : List Src) {vs zs mv : List V} {us ws mu : List Value}, Vals vs us → Vals mv mu → Vals zs ws → Vals (planA plan vs mv zs) (planA plan us mu ws)
  | [], _, _, _, _, _, _, _, _, _ => .nil
  | .pos i :: r, vs, zs, mv, us, ws, mu, h1, h2, h3 => by
    simp only [planA]
    rcases vals_get h1 i with ⟨v, u, e1, e2, rr⟩ | ⟨e1, e2⟩
    · rw [e1, e2]; exact .cons rr (planA_vals r h1 h2 h3)
    · rw [e1, e2]; exact planA_vals r h1 h2 h3
  | .kw j :: r, vs, zs, mv, us, ws, mu, h1, h2, h3 => by
    simp only [planA]
    rcases vals_get h3 j with ⟨v, u, e1, e2, rr⟩ | ⟨e1, e2⟩
    · rw [e1, e2]; exact .cons rr (planA_vals r h1 h2 h3)
    · rw [e1, e2]; exact planA_vals r h1 h2 h3
  | .dv _ :: r, vs, zs, mv, us, ws, mu, h1, h2, h3 => by
    cases h2 with
    | nil => exact planA_vals r h1 .nil h3
    | cons a b => exact .cons a (planA_vals r h1 b h3)
theorem planA_rep {K : PySem.W.Frag} {cls : Str → Option Addr} {ia : List Addr} {F : Hp} {vs zs : List V} {ds es : List Vl} (h1 : RepL K cls ia F ds vs) (h3 : RepL K cls ia F es zs) : ∀ (plan : List Src) {mv : List V} {xs : List Vl}, RepL K cls ia F (dvs plan) mv → planV ds es plan = some xs →
    RepL K cls ia F xs (planA plan vs mv zs)
  | [], _, _, _, e => by cases e; exact RepL.nil
  | s :: r, mv, xs, h2, e => by
    simp only [planV] at e
    cases es1 : srcV ds es s with
    | none => rw [es1] at e; cases e
    | some d =>
      cases ep : planV ds es r with
      | none => rw [es1, ep] at e; cases e
      | some ys =>
        rw [es1, ep] at e
        cases e
        cases s with
        | pos i =>
          obtain ⟨v, ev, rv⟩ := h1.get (show ds[i]? = some d from es1)
          simp only [planA, ev]
          exact RepL.cons rv (planA_rep h1 h3 r h2 ep)
        | kw j =>
          obtain ⟨v, ev, rv⟩ := h3.get (show es[j]? = some d from es1)
          simp only [planA, ev]
          exact RepL.cons rv (planA_rep h1 h3 r h2 ep)
        | dv x =>
          have hx : x = d := by simpa [srcV] using es1
          subst hx
          simp only [dvs, RepL] at h2
          obtain ⟨v, ws, rfl, r1, r2⟩ := h2
          exact RepL.cons r1 (planA_rep h1 h3 r r2 ep)
section
variable {K : PySem.W.Frag} {cls : Str → Option Addr} {fd : FuncData} {ps : List Str} {n : Nat} {ks : List Str} {plan : List Src}
/-- a shape binds so: mu the values of the defaults -/
theorem bind_of (mv : List V) (mu : List Value) (hm : Vals mv mu) (hr : ∀ ia F, RepL K cls ia F (dvs plan) mv)
    (h : ∀ (s : Shared) (us ws : List Value), K.In s.heap → us.length = n → ws.length = ks.length → BindsTo s fd ⟨us, ks.zip ws⟩ (ps.zip (planA plan us mu ws))) : BindOk K cls fd ps n ks plan := by
  intro s us ws X l1 l2
  refine ⟨_, h s us ws X l1 l2, fun vs zs rv rz ia F ds es xs rl re e => ⟨_, planA_vals plan rv hm rz, planA_rep rl re plan (hr ia F) e⟩⟩
/-- without defaults -/
theorem bind_all (hd : dvs plan = []) (h : ∀ (us ws : List Value), us.length = n → ws.length = ks.length → bindArgs fd ⟨us, ks.zip ws⟩ = pure (ps.zip (planA plan us [] ws))) : BindOk K cls fd ps n ks plan :=
  bind_of [] [] .nil (fun ia F => by rw [hd]; exact RepL.nil) fun s us ws _ l1 l2 => .of_eq (h us ws l1 l2)
end
theorem all_nil {α : Type} {p : α → Prop} : ∀ x ∈ ([] : List α), p x := fun _ h => nomatch h
theorem all_cons {α : Type} {p : α → Prop} {a : α} {l : List α} (h : p a) (r : ∀ x ∈ l, p x) : ∀ x ∈ a :: l, p x := fun x hx => by
  rcases List.mem_cons.mp hx with e | e
  · rw [e]; exact h
  · exact r x e
section
variable {K : PySem.W.Frag} {cls : Str → Option Addr}
/-- a def without positional defaults -/
theorem defOk_fun {x qual : Str} {st : Stmt} {f : Addr} {fd : FuncData} {mu fr : List (Nat × Nat)} {sh : List (Nat × List Str × List Src)} (F : L2.Fun K x qual st f fd) (hs : scopeOk (defOf st mu fr sh) = true) (hb : ∀ q ∈ sh, BindOk K cls fd (defOf st mu fr sh).ps q.1 q.2.1 q.2.2) (hv : (defArgs st).vararg.isSome = false) : DefOk K cls f fd (defOf st mu fr sh) := by
  obtain ⟨oc, od, kV, doc, pm, an, cdv, ct, osl, rfl, l, c⟩ := F.ex
  obtain ⟨s1, s2⟩ := scopeOk_sc hs
  exact ⟨⟨x, qual, defArgs st, .none, kV, doc, pm, cdv, ct, oc, an, od, osl, rfl, l, c⟩, s1, s2, fun _ => hb, fun z => absurd (show (defArgs st).vararg.isSome = true from z) (by rw [hv]; exact Bool.false_ne_true)⟩
/-- a def with a star -/
theorem defOk_star {x qual pv : Str} {ps0 : List Str} {st : Stmt} {f : Addr} {fd : FuncData} {mu fr : List (Nat × Nat)} {sh : List (Nat × List Str × List Src)} (F : L2.Fun K x qual st f fd) (hs : scopeOk (defOf st mu fr sh) = true) (hv : (defArgs st).vararg.isSome = true) (hp : paramsOf (defArgs st) = ps0 ++ [pv])
    (hb : ∀ (kV doc pm : Value) (an : Option Addr) (cdv ct : Value) (us rest : List Value), us.length = ps0.length → bindArgs (PySem.W.fnOf x qual (defArgs st) (defBody st) (defScope st) .none kV doc pm an cdv ct) ⟨us ++ rest, []⟩ = (newTuple rest >>= fun t => pure (ps0.zip us ++ [(pv, t)]))) : DefOk K cls f fd (defOf st mu fr sh) := by
  obtain ⟨oc, od, kV, doc, pm, an, cdv, ct, osl, rfl, l, c⟩ := F.ex
  obtain ⟨s1, s2⟩ := scopeOk_sc hs
  exact ⟨⟨x, qual, defArgs st, .none, kV, doc, pm, cdv, ct, oc, an, od, osl, rfl, l, c⟩, s1, s2, (fun z => absurd (show (defArgs st).vararg.isSome = false from z) (by rw [hv]; exact fun q => nomatch q)), fun _ => ⟨ps0, pv, hp, hb kV doc pm an cdv ct⟩⟩
/-- its shapes, each without defaults -/
theorem bind_fun {x qual : Str} {st : Stmt} {f : Addr} {fd : FuncData} {ps : List Str} {n : Nat} {ks : List Str} {plan : List Src} (F : L2.Fun K x qual st f fd) (hd : dvs plan = [])
    (h : ∀ (kV doc pm : Value) (an : Option Addr) (cdv ct : Value) (us ws : List Value), us.length = n → ws.length = ks.length → bindArgs (PySem.W.fnOf x qual (defArgs st) (defBody st) (defScope st) .none kV doc pm an cdv ct) ⟨us, ks.zip ws⟩ = pure (ps.zip (planA plan us [] ws))) : BindOk K cls fd ps n ks plan := by
  obtain ⟨oc, od, kV, doc, pm, an, cdv, ct, osl, rfl, l, c⟩ := F.ex
  exact bind_all hd (h kV doc pm an cdv ct)
end
section
variable {K : PySem.W.Frag} {cls : Str → Option Addr}
/-- a def with defaults -/
theorem defOk_mk {x qual : Str} {st : Stmt} {f : Addr} {mu fr : List (Nat × Nat)} {sh : List (Nat × List Str × List Src)} {dV kV doc pm cdv ct oc : Value} {an od : Option Addr} {osl : Array (Option Value)}
    (l : K.lookup f = some ⟨oc, od, .func (PySem.W.fnOf x qual (defArgs st) (defBody st) (defScope st) dV kV doc pm an cdv ct), osl⟩) (c : PySem.W.codeIn K cdv qual = true) (hs : scopeOk (defOf st mu fr sh) = true)
    (hb : ∀ q ∈ sh, BindOk K cls (PySem.W.fnOf x qual (defArgs st) (defBody st) (defScope st) dV kV doc pm an cdv ct) (defOf st mu fr sh).ps q.1 q.2.1 q.2.2) (hv : (defArgs st).vararg.isSome = false) : DefOk K cls f (PySem.W.fnOf x qual (defArgs st) (defBody st) (defScope st) dV kV doc pm an cdv ct) (defOf st mu fr sh) := by
  obtain ⟨s1, s2⟩ := scopeOk_sc hs
  exact ⟨⟨x, qual, defArgs st, dV, kV, doc, pm, cdv, ct, oc, an, od, osl, rfl, l, c⟩, s1, s2, fun _ => hb, fun z => absurd (show (defArgs st).vararg.isSome = true from z) (by rw [hv]; exact Bool.false_ne_true)⟩
theorem bind_dfl {s : Shared} {fd : FuncData} {args : Args} {r : List (Str × Value)} {T D : Addr} {o : Obj} {its : Array Value} {n : Nat} {k : Option (Array Value) → Sem (List (Str × Value))} (X : K.In s.heap) (lT : K.lookup T = some o) (oT : o.data = .seq its n)
    (ms : List (Str × Value)) (hms : ∀ q ∈ ms, PySem.W.nsIn K D q.1 = some (some q.2)) (e1 : bindArgs fd args = seqItems? (.ref T) >>= k) (e2 : KwChain D ms (k (some its)) r) : BindsTo s fd args r := by
  refine BindsTo.of_looks fun M => ?_
  rw [e1]
  exact looks_items X lT oT (KwChain.looks X hms e2)
theorem bind_kwd {s : Shared} {fd : FuncData} {args : Args} {r : List (Str × Value)} {D : Addr} (X : K.In s.heap) (ms : List (Str × Value)) (hms : ∀ q ∈ ms, PySem.W.nsIn K D q.1 = some (some q.2)) (e2 : KwChain D ms (bindArgs fd args) r) : BindsTo s fd args r :=
  BindsTo.of_looks fun M => KwChain.looks X hms e2
theorem findC_mem : ∀ {cs : List ClsI} {x : Str} {ci : ClsI}, findC cs x = some ci → ci ∈ cs
  | [], _, _, h => by cases h
  | c :: r, x, ci, h => by
    unfold findC at h
    split at h
    · cases h; exact List.mem_cons_self
    · exact List.mem_cons_of_mem _ (findC_mem h)
theorem tyName_mem {x : Str} {n : String} (h : tyName x = some n) : x = ("int" : Str) ∨ x = ("str" : Str) ∨ x = ("bool" : Str) ∨ x = ("tuple" : Str) ∨ x = ("list" : Str) := by
  unfold tyName at h
  by_cases h1 : x = ("int" : Str)
  · exact .inl h1
  rw [if_neg h1] at h
  by_cases h2 : x = ("str" : Str)
  · exact .inr (.inl h2)
  rw [if_neg h2] at h
  by_cases h3 : x = ("bool" : Str)
  · exact .inr (.inr (.inl h3))
  rw [if_neg h3] at h
  by_cases h4 : x = ("tuple" : Str)
  · exact .inr (.inr (.inr (.inl h4)))
  rw [if_neg h4] at h
  by_cases h5 : x = ("list" : Str)
  · exact .inr (.inr (.inr (.inr h5)))
  rw [if_neg h5] at h
  cases h
theorem type_not_own : ∀ t ∈ rTypes, ∀ C : Addr, PySem.W.subIn K (.type t) (.ref C) = some false := by
  intro t ht C
  simp only [rTypes, List.mem_cons, List.not_mem_nil, or_false] at ht
  rcases ht with rfl | rfl | rfl | rfl | rfl | rfl | rfl <;> rfl
theorem clsFacts {C : Addr} (cl : Cls K C) (ha : PySem.W.findIn K (.ref C) "__class__" = some (some (.builtin "object.__class__"))) (hn : PySem.W.specialIn K (.builtin "object.__class__") "__get__" = some (some (.builtin "getset_descriptor.__get__")))
    (ht : PySem.W.takesIn K (.builtin "object.__class__") = some true) (hm : PySem.W.mroIn K C (.type "object") = some true) (m1 : PySem.W.mroIn K C (.type "int") = some false) (m2 : PySem.W.mroIn K C (.type "str") = some false) (m3 : PySem.W.mroIn K C (.type "bool") = some false)
    (m4 : PySem.W.mroIn K C (.type "tuple") = some false) (m5 : PySem.W.mroIn K C (.type "list") = some false) (ci : (PySem.W.clsIn K C).isSome = true) (ti : PySem.W.typeIn K (.ref C) = some (.type "type")) (nq : PySem.W.noSeq K C = true) (nb : PySem.W.findIn K (.ref C) "__bool__" = some none) (ne : PySem.W.findIn K (.ref C) "__ne__" = some (some (.builtin "object.__ne__"))) : ClsFacts K C := by
  refine ⟨cl, ha, hn, ht, hm, fun n hn' => ?_, fun t ht' => ?_, nq, nb, ne⟩
  · have key : ∀ T : String, PySem.W.kitMeta T = true → PySem.W.mroIn K C (.type T) = some false → PySem.W.kitOne K (.ref C) (.type T) = some false := by
      intro T h1 h2
      unfold PySem.W.kitOne
      have e : (Value.ref C == Value.type T) = false := rfl
      rw [e]
      simp only [Bool.false_eq_true, if_false, PySem.W.kitCls, h1, if_true]
      exact h2
    simp only [tyNames, List.mem_cons, List.not_mem_nil, or_false] at hn'
    rcases hn' with rfl | rfl | rfl | rfl | rfl
    · exact key _ (by decide +kernel) m1
    · exact key _ (by decide +kernel) m2
    · exact key _ (by decide +kernel) m3
    · exact key _ (by decide +kernel) m4
    · exact key _ (by decide +kernel) m5
  · unfold PySem.W.kitOne
    have e : (Value.type t == Value.ref C) = false := rfl
    rw [e]
    have e2 : ((PySem.W.clsIn K C).isSome && PySem.W.typeIn K (.ref C) == some (.type "type")) = true := by rw [ci, ti]; rfl
    simp only [Bool.false_eq_true, if_false, PySem.W.kitCls, e2, if_true]
    exact type_not_own t ht' C
end
end Wd

set_option Elab.async false
set_option linter.all false
set_option maxRecDepth 100000
namespace Wd
open PySem PySem.Spec PyProof.Rows L2

/-! ### answers -/
/-- where an outcome goes on -/
structure Ans (β : Type) where
  B : {α : Type} → Rs α → (α → Hs → β) → β
  no : β
structure AnsOk {β : Type} (A : Ans β) : Prop where
  ok : ∀ {α : Type} (a : α) (h : Hs) (f : α → Hs → β), A.B (.ok a h) f = f a h
  nn : ∀ {α : Type} (f : α → Hs → β), A.B .no f = A.no
  as : ∀ {α α' : Type} (m : Rs α) (g : α → Hs → Rs α') (f : α' → Hs → β), A.B (m.bind g) f = A.B m fun a h => A.B (g a h) f
def AR (α : Type) : Ans (Rs α) := ⟨Rs.bind, .no⟩
def AT (ρ : Env) : Ans Rt := ⟨fun m f => m.st ρ f, .no⟩
theorem ar_ok {α : Type} : AnsOk (AR α) := ⟨fun _ _ _ => rfl, fun _ => rfl, fun m _ _ => by cases m <;> rfl⟩
theorem at_ok {ρ : Env} : AnsOk (AT ρ) := ⟨fun _ _ _ => rfl, fun _ => rfl, fun m _ _ => by cases m <;> rfl⟩
theorem bind_id {α : Type} (m : Rs α) : (m.bind fun a h => .ok a h) = m := by cases m <;> rfl
theorem bindAs {α β γ : Type} (m : Rs α) (f : α → Hs → Rs β) (g : β → Hs → Rs γ) : (m.bind f).bind g = m.bind fun a h => (f a h).bind g := by cases m <;> rfl

/-! ### expressions with what follows them -/
section
variable {β : Type}
def evLK (f : Expr → Hs → (Vl → Hs → β) → β) (no : β) : List Expr → Hs → (List Vl → Hs → β) → β
  | [], h, k => k [] h
  | .Starred e _ :: es, h, k => f e h fun v h => match itemsV h v with
    | some xs => evLK f no es h fun ys h => k (xs ++ ys) h
    | none => no
  | e :: es, h, k => f e h fun v h => evLK f no es h fun ys h => k (v :: ys) h
def evKK (f : Expr → Hs → (Vl → Hs → β) → β) : List Keyword → Hs → (List Vl → Hs → β) → β
  | [], h, k => k [] h
  | w :: ws, h, k => f w.value h fun v h => evKK f ws h fun ys h => k (v :: ys) h
def evOptK (A : Ans β) (f : Expr → Hs → (Vl → Hs → β) → β) : Option Expr → Hs → (Option Int → Hs → β) → β
  | none, h, k => k none h
  | some e, h, k => f e h fun v h => A.B (match v with
    | .int i => .ok (some i) h
    | _ => .no) k
theorem evLK_eq {A : Ans β} (ao : AnsOk A) {f : Expr → Hs → (Vl → Hs → β) → β} {g : Expr → Hs → Rs Vl} (hf : ∀ e h k, f e h k = A.B (g e h) k) : ∀ (es : List Expr) (h : Hs) (k : List Vl → Hs → β), evLK f A.no es h k = A.B (evL g es h) k
  | [], h, k => (ao.ok _ _ _).symm
  | e :: es, h, k => by
    have ih := evLK_eq ao hf es
    cases hs : isStar e with
    | false =>
      have e1 : evLK f A.no (e :: es) h k = f e h fun v h => evLK f A.no es h fun ys h => k (v :: ys) h := by cases e <;> first | rfl | cases hs
      rw [e1, evL_no hs, hf, ao.as]
      refine congrArg _ (funext fun v => funext fun h => ?_)
      rw [ih, ao.as]
      refine congrArg _ (funext fun v => funext fun h => ?_)
      rw [ao.ok]
    | true =>
      obtain ⟨e, p, rfl⟩ : ∃ e' p, e = .Starred e' p := by cases e <;> first | exact ⟨_, _, rfl⟩ | cases hs
      simp only [evLK, evL]
      rw [hf, ao.as]
      refine congrArg _ (funext fun v => funext fun h => ?_)
      cases itemsV h v with
      | none => exact (ao.nn _).symm
      | some xs =>
        simp only
        rw [ih, ao.as]
        refine congrArg _ (funext fun v => funext fun h => ?_)
        rw [ao.ok]
theorem evKK_eq {A : Ans β} (ao : AnsOk A) {f : Expr → Hs → (Vl → Hs → β) → β} {g : Expr → Hs → Rs Vl} (hf : ∀ e h k, f e h k = A.B (g e h) k) : ∀ (es : List Keyword) (h : Hs) (k : List Vl → Hs → β), evKK f es h k = A.B (evK g es h) k
  | [], h, k => (ao.ok _ _ _).symm
  | e :: es, h, k => by
    simp only [evKK, evK]
    rw [hf, ao.as]
    refine congrArg _ (funext fun v => funext fun h => ?_)
    rw [evKK_eq ao hf es, ao.as]
    refine congrArg _ (funext fun v => funext fun h => ?_)
    rw [ao.ok]
theorem evOptK_eq {A : Ans β} (ao : AnsOk A) {f : Expr → Hs → (Vl → Hs → β) → β} {g : Expr → Hs → Rs Vl} (hf : ∀ e h k, f e h k = A.B (g e h) k) (o : Option Expr) (h : Hs) (k : Option Int → Hs → β) : evOptK A f o h k = A.B (evOpt g o h) k := by
  cases o with
  | none => exact (ao.ok _ _ _).symm
  | some e =>
    simp only [evOptK, evOpt]
    rw [hf, ao.as]
    all_goals rfl
end
/-! targets, told apart from their text -/
inductive Pt where
  | nm (i : Nat)
  | tup (ps : List Pt)
  | bad
mutual
def ptOf (C : St0) : Expr → Pt
  | .Name x _ => match kindE C x, slotOf C.N x with
    | some .local, some i => .nm i
    | some .cell, some i => if C.top then .nm i else .bad
    | _, _ => .bad
  | .Tuple ts _ _ => .tup (ptL C ts)
  | _ => .bad
termination_by structural x => x
def ptL (C : St0) : List Expr → List Pt
  | [] => []
  | t :: ts => ptOf C t :: ptL C ts
termination_by structural x => x
end
mutual
def asgP : Pt → Vl → Env → Option Env
  | .nm i, v, ρ => some (ρ.set i (some v))
  | .tup ps, .tup vs, ρ => asgPL ps vs ρ
  | _, _, _ => none
termination_by structural x => x
def asgPL : List Pt → List Vl → Env → Option Env
  | [], [], ρ => some ρ
  | p :: ps, v :: vs, ρ => (asgP p v ρ).bind fun ρ => asgPL ps vs ρ
  | _, _, _ => none
termination_by structural x => x
end
theorem setS_P {C : St0} {x : Str} {q : Pos} {v : Vl} {ρ : Env} : setS C x v ρ = asgP (ptOf C (.Name x q)) v ρ := by
  simp only [ptOf, setS]
  cases kindE C x with
  | none => cases slotOf C.N x <;> rfl
  | some k =>
    cases slotOf C.N x with
    | none => cases k <;> rfl
    | some i =>
      cases k
      case cell => cases C.top <;> rfl
      all_goals rfl
mutual
theorem asgE_P {C : St0} : ∀ (t : Expr) (v : Vl) (ρ : Env), asgE C t v ρ = asgP (ptOf C t) v ρ
  | .Name x q, v, ρ => by
    rw [← setS_P]; rfl
  | .Tuple ts a b, v, ρ => by
    cases v <;> first | exact asgL_P ts _ ρ | rfl
  | .BoolOp .., _, _ => rfl
  | .NamedExpr .., _, _ => rfl
  | .BinOp .., _, _ => rfl
  | .UnaryOp .., _, _ => rfl
  | .Lambda .., _, _ => rfl
  | .IfExp .., _, _ => rfl
  | .Dict .., _, _ => rfl
  | .Set .., _, _ => rfl
  | .ListComp .., _, _ => rfl
  | .SetComp .., _, _ => rfl
  | .DictComp .., _, _ => rfl
  | .GeneratorExp .., _, _ => rfl
  | .Await .., _, _ => rfl
  | .Yield .., _, _ => rfl
  | .YieldFrom .., _, _ => rfl
  | .Compare .., _, _ => rfl
  | .Call .., _, _ => rfl
  | .FormattedValue .., _, _ => rfl
  | .JoinedStr .., _, _ => rfl
  | .Constant .., _, _ => rfl
  | .Attribute .., _, _ => rfl
  | .Subscript .., _, _ => rfl
  | .Starred .., _, _ => rfl
  | .List .., _, _ => rfl
  | .Slice .., _, _ => rfl
termination_by structural x => x
theorem asgL_P {C : St0} : ∀ (ts : List Expr) (vs : List Vl) (ρ : Env), asgL C ts vs ρ = asgPL (ptL C ts) vs ρ
  | [], vs, ρ => by cases vs <;> rfl
  | t :: ts, [], ρ => rfl
  | t :: ts, v :: vs, ρ => by
    simp only [asgL, ptL, asgPL]
    rw [asgE_P t v ρ]
    exact congrArg _ (funext fun ρ => asgL_P ts vs ρ)
termination_by structural x => x
end
def evEK (G : Gt) : Nat → (β : Type) → Ans β → St0 → Expr → Env → Hs → (Vl → Hs → β) → β
  | 0, _, A, _, _, _, _, _ => A.no
  | n + 1, β, A, C, e, ρ, h, k =>
    match e with
    | .BinOp a op b _ => evEK G n β A C a ρ h fun x h => evEK G n β A C b ρ h fun y h => A.B (Rs.of (binV op x y) h) k
    | .UnaryOp .Not a _ => evEK G n β A C a ρ h fun x h => A.B (testOf h x) fun b h => k (.bl (!b)) h
    | .BoolOp op es _ => A.B (evBool (fun e h => evEK G n _ (AR Vl) C e ρ h .ok) op es h) k
    | .Compare a [op] [b] _ => if behindInMarks op b then A.no else evEK G n β A C a ρ h fun x h => evEK G n β A C b ρ h fun y h => A.B (cmpG G op x y h) k
    | .Compare a [op, op'] [b, c] _ => if behindInMarks op' c then A.no else evEK G n β A C a ρ h fun x h => evEK G n β A C b ρ h fun y h => A.B (Rs.of (cmpV op h x y) h) fun t h =>
        A.B (if t then evEK G n _ (AR Vl) C c ρ h fun z h => Rs.of ((cmpV op' h y z).map .bl) h else .ok (.bl false) h) k
    | .IfExp c a b _ => evEK G n β A C c ρ h fun x h => A.B (testOf h x) fun t h => A.B (if t then evEK G n _ (AR Vl) C a ρ h .ok else evEK G n _ (AR Vl) C b ρ h .ok) k
    | .Tuple es _ _ => evLK (fun e h k => evEK G n β A C e ρ h k) A.no es h fun xs h => if xs.length ≤ sizeLine then k (.tup xs) h else A.no
    | .Dict [] [] _ => k (.dic []) h
    | .List es pos => evLK (fun e h k => evEK G n β A C e ρ h k) A.no es h fun xs h => if xs.length ≤ sizeLine then A.B (mkList C pos xs h) k else A.no
    | .Attribute a f _ => if noSup a then evEK G n β A C a ρ h fun v h => A.B (attrV G v f h) k else A.no
    | .Subscript a (.Slice lo hi none _) _ => evEK G n β A C a ρ h fun x h => evOptK A (fun e h k => evEK G n β A C e ρ h k) lo h fun l h => evOptK A (fun e h k => evEK G n β A C e ρ h k) hi h fun u h => A.B (Rs.of (sliceV x l u) h) k
    | .Subscript a (.Slice none none (some st) _) _ => if isM1 st then evEK G n β A C a ρ h fun x h => A.B (Rs.of (revV x) h) k else A.no
    | .Subscript a b _ => if isSlice b = true then A.B (evE G (n + 1) C e ρ h) k else evEK G n β A C a ρ h fun o h => evEK G n β A C b ρ h fun y h => A.B (idxG G o y h) k
    | .Call (.Name f q) es kws _ => if kindE C f = some .globalImplicit then (match bltOf f with
        | some b => if (kws.isEmpty && !(es.any isStar)) = true then evLK (fun e h k => evEK G n β A C e ρ h k) A.no es h fun vs h => A.B (bltG G b vs h) k else A.no
        | none => if (G.has f && starOk es kws) = true then (match kwNames kws with
          | some ks => evLK (fun e h k => evEK G n β A C e ρ h k) A.no es h fun vs h => evKK (fun e h k => evEK G n β A C e ρ h k) kws h fun ws h => A.B (G.call f vs ks ws h) k
          | none => A.no) else A.no) else A.B (evName G C f q ρ h) fun v h => (match clOf G v with
        | some c => if (G.has c && starOk es kws) = true then (match kwNames kws with
          | some ks => evLK (fun e h k => evEK G n β A C e ρ h k) A.no es h fun vs h => evKK (fun e h k => evEK G n β A C e ρ h k) kws h fun ws h => A.B (G.call c vs ks ws h) k
          | none => A.no) else A.no
        | none => A.no)
    | .Call (.Attribute o m apos) es kws pos => if callForm o apos pos es kws = false then A.no else evEK G n β A C o ρ h fun v h => A.B (match insOf h v with
        | some (c, fs) => if (G.hasM c m && (fs.lookup m).isNone) = true then (match kwNames kws with
          | some ks => evLK (fun e h k => evEK G n _ (AR Vl) C e ρ h k) .no es h fun vs h => evKK (fun e h k => evEK G n _ (AR Vl) C e ρ h k) kws h fun ws h => G.meth c m (v :: vs) ks ws h
          | none => .no) else .no
        | none => (match clV v with
          | some c => if G.hasC c m = true then (match kwNames kws with
            | some ks => evLK (fun e h k => evEK G n _ (AR Vl) C e ρ h k) .no es h fun vs h => evKK (fun e h k => evEK G n _ (AR Vl) C e ρ h k) kws h fun ws h => G.clm c m (v :: vs) ks ws h
            | none => .no) else .no
          | none => (match bmOf m with
            | some b => if (kws.isEmpty && tyOf h v == some (bmTy b)) = true then evLK (fun e h k => evEK G n _ (AR Vl) C e ρ h k) .no es h fun vs h => bmV b v vs h else .no
            | none => .no))) k
    | .JoinedStr [] _ => A.no
    | .JoinedStr [e] _ => A.B (evPart (fun e h => evEK G n _ (AR Vl) C e ρ h .ok) e h) fun s h => k (.str s) h
    | .JoinedStr es _ => A.B (evJ (fun e h => evEK G n _ (AR Vl) C e ρ h .ok) es ⟨#[]⟩ h) fun s h => k (.str s) h
    | .ListComp elt [⟨tg, iter, ifs, asy⟩] scope pos =>
      if (decide (asy = 0) && blkC C.N C.sc scope (ownOf C.N scope) && tgIn C.N scope tg && !isSet iter) = true then
        A.B (evIter C (isTupE tg) (fun e h => evEK G n _ (AR Vl) C e ρ h .ok) iter h) fun xs h =>
          let C' : St0 := { C with sc := relS scope C.sc, top := false }
          A.B (compM (fun x h => compG (fun ρ' h => evIfs (fun e h => evEK G n _ (AR Vl) C' e ρ' h .ok) ifs h) (fun ρ' h => evEK G n _ (AR Vl) C' elt ρ' h .ok) (asgP (ptOf C' tg) x (wipeE ρ ((ownOf C.N scope).map (·.2)))) h) xs [] h) fun ys h => A.B (mkList C pos ys h) k
      else A.no
    | .Constant c _ _ => (match constV c with
      | some v => k v h
      | none => A.no)
    | .Name x pos => (match evName G C x pos ρ h with
      | .ok v h => k v h
      | .rz e h => A.B (.rz e h) k
      | .no => A.no)
    | e => A.B (evE G (n + 1) C e ρ h) k
theorem evIf_as {G : Gt} {β : Type} {A : Ans β} (ao : AnsOk A) {c : Prop} [Decidable c] {α : Type} {a b : Rs α} {k : α → Hs → β} : A.B (if c then a else b) k = if c then A.B a k else A.B b k := by split <;> rfl
theorem evE_sub {G : Gt} {n : Nat} {C : St0} {a b : Expr} {p : Pos} {ρ : Env} {h : Hs} (hs : isSlice b = false) : evE G (n + 1) C (.Subscript a b p) ρ h = (evE G n C a ρ h).bind fun x h => (evE G n C b ρ h).bind fun y h => idxG G x y h := by
  cases b <;> first | rfl | cases hs
theorem evEK_eq {G : Gt} : ∀ (n : Nat) (β : Type) (A : Ans β), AnsOk A → ∀ (C : St0) (e : Expr) (ρ : Env) (h : Hs) (k : Vl → Hs → β), evEK G n β A C e ρ h k = A.B (evE G n C e ρ h) k
  | 0, β, A, ao, C, e, ρ, h, k => (ao.nn _).symm
  | n + 1, β, A, ao, C, e, ρ, h, k => by
    have ih := evEK_eq (G := G) n β A ao
    have ir : ∀ (C : St0) (e : Expr) (ρ : Env) (h : Hs) (k : Vl → Hs → Rs Vl), evEK G n _ (AR Vl) C e ρ h k = (evE G n C e ρ h).bind k := evEK_eq (G := G) n _ (AR Vl) ar_ok
    have io : ∀ (C : St0) (e : Expr) (ρ : Env) (h : Hs), evEK G n _ (AR Vl) C e ρ h .ok = evE G n C e ρ h := fun C e ρ h => by rw [ir]; exact bind_id _
    have iL : ∀ (es : List Expr) (h : Hs) (k : List Vl → Hs → β), evLK (fun e h k => evEK G n β A C e ρ h k) A.no es h k = A.B (evL (fun e h => evE G n C e ρ h) es h) k := evLK_eq ao fun e h k => ih C e ρ h k
    have iK : ∀ (es : List Keyword) (h : Hs) (k : List Vl → Hs → β), evKK (fun e h k => evEK G n β A C e ρ h k) es h k = A.B (evK (fun e h => evE G n C e ρ h) es h) k := evKK_eq ao fun e h k => ih C e ρ h k
    have iLr : ∀ (es : List Expr) (h : Hs) (k : List Vl → Hs → Rs Vl), evLK (fun e h k => evEK G n _ (AR Vl) C e ρ h k) .no es h k = (evL (fun e h => evE G n C e ρ h) es h).bind k := evLK_eq (A := AR Vl) ar_ok fun e h k => ir C e ρ h k
    have iKr : ∀ (es : List Keyword) (h : Hs) (k : List Vl → Hs → Rs Vl), evKK (fun e h k => evEK G n _ (AR Vl) C e ρ h k) es h k = (evK (fun e h => evE G n C e ρ h) es h).bind k := evKK_eq (A := AR Vl) ar_ok fun e h k => ir C e ρ h k
    have iO : ∀ (o : Option Expr) (h : Hs) (k : Option Int → Hs → β), evOptK A (fun e h k => evEK G n β A C e ρ h k) o h k = A.B (evOpt (fun e h => evE G n C e ρ h) o h) k := evOptK_eq ao fun e h k => ih C e ρ h k
    have cg : ∀ {α : Type} (m : Rs α) {f g : α → Hs → β}, (∀ a h, f a h = g a h) → A.B m f = A.B m g := by
      intro α m f g z
      have e : f = g := funext fun a => funext fun h => z a h
      rw [e]
    unfold evEK
    split
    · simp only [evE]; rw [ih, ao.as]; refine cg _ fun a h => ?_; rw [ih, ao.as]
    · simp only [evE]; rw [ih, ao.as]; refine cg _ fun a h => ?_; rw [ao.as]; refine cg _ fun a h => ?_; rw [ao.ok]
    · simp only [evE, io]
    · simp only [evE]
      split
      · exact (ao.nn _).symm
      · rw [ih, ao.as]; refine cg _ fun a h => ?_; rw [ih, ao.as]
    · simp only [evE]
      split
      · exact (ao.nn _).symm
      · rw [ih, ao.as]; refine cg _ fun a h => ?_; rw [ih, ao.as]; refine cg _ fun a h => ?_; rw [ao.as]; refine cg _ fun a h => ?_; rw [ir]
    · simp only [evE]; rw [ih, ao.as]; refine cg _ fun a h => ?_; rw [ao.as]; refine cg _ fun a h => ?_; rw [io, io]
    · simp only [evE]; rw [iL, ao.as]; refine cg _ fun a h => ?_
      split
      · exact (ao.ok _ _ _).symm
      · exact (ao.nn _).symm
    · simp only [evE]; exact (ao.ok _ _ _).symm
    · simp only [evE]; rw [iL, ao.as]; refine cg _ fun a h => ?_
      split
      · rfl
      · exact (ao.nn _).symm
    · simp only [evE]
      split
      · rw [ih, ao.as]
      · exact (ao.nn _).symm
    · simp only [evE]; rw [ih, ao.as]; refine cg _ fun a h => ?_; rw [iO, ao.as]; refine cg _ fun a h => ?_; rw [iO, ao.as]
    · simp only [evE]
      split
      · rw [ih, ao.as]
      · exact (ao.nn _).symm
    · split
      · rfl
      · rename_i hs
        rw [evE_sub (by simpa using hs)]
        rw [ih, ao.as]; refine cg _ fun a h => ?_; rw [ih, ao.as]
    · simp only [evE]
      split
      · cases hb : bltOf _ with
        | some b =>
          simp only
          split
          · rw [iL, ao.as]
          · exact (ao.nn _).symm
        | none =>
          simp only
          split
          · unfold evArgs
            cases hk : kwNames _ with
            | some ks => simp only; rw [iL, ao.as]; refine cg _ fun a h => ?_; rw [iK, ao.as]
            | none => exact (ao.nn _).symm
          · exact (ao.nn _).symm
      · rw [ao.as]
        refine cg _ fun a h => ?_
        cases hc : clOf G a with
        | none => exact (ao.nn _).symm
        | some c =>
          simp only
          split
          · unfold evArgs
            cases hk : kwNames _ with
            | some ks => simp only; rw [iL, ao.as]; refine cg _ fun a h => ?_; rw [iK, ao.as]
            | none => exact (ao.nn _).symm
          · exact (ao.nn _).symm
    · simp only [evE]
      split
      · exact (ao.nn _).symm
      · rw [ih, ao.as]; refine cg _ fun a h => ?_
        refine congrArg (fun m => A.B m k) ?_
        cases hi : insOf h a with
        | some cf =>
          obtain ⟨c, fs⟩ := cf
          simp only
          split
          · unfold evArgs
            cases hk : kwNames _ with
            | some ks => simp only; rw [iLr]; refine congrArg _ (funext fun a => funext fun h => ?_); rw [iKr]
            | none => rfl
          · rfl
        | none =>
          simp only
          cases hcv : clV a with
          | some c =>
            simp only
            split
            · unfold evArgs
              cases hk : kwNames _ with
              | some ks => simp only; rw [iLr]; refine congrArg _ (funext fun a => funext fun h => ?_); rw [iKr]
              | none => rfl
            · rfl
          | none =>
          simp only
          cases hb : bmOf _ with
          | some b =>
            simp only
            split
            · rw [iLr]
            · rfl
          | none => rfl
    · simp only [evE]; exact (ao.nn _).symm
    · simp only [evE, io]; rw [ao.as]; refine cg _ fun a h => ?_; rw [ao.ok]
    · rename_i h1 h2
      have e0 : ∀ es p, es ≠ [] → (∀ e, es ≠ [e]) → evE G (n + 1) C (.JoinedStr es p) ρ h = (evJ (fun e h => evE G n C e ρ h) es ⟨#[]⟩ h).bind fun s h => .ok (.str s) h := by
        intro es p z1 z2
        match es, z1, z2 with
        | [], z1, _ => exact absurd rfl z1
        | [e], _, z2 => exact absurd rfl (z2 e)
        | a :: b :: r, _, _ => simp only [evE]
      rw [e0 _ _ (fun z => h1 z) (fun e z => h2 e z)]
      simp only [io]; rw [ao.as]; refine cg _ fun a h => ?_; rw [ao.ok]
    · simp only [evE, io, asgE_P]
      split
      · rw [ao.as]; refine cg _ fun a h => ?_; rw [ao.as]
      · exact (ao.nn _).symm
    · simp only [evE]
      cases constV _ with
      | some v => exact (ao.ok _ _ _).symm
      | none => exact (ao.nn _).symm
    · simp only [evE]
      cases evName G C _ _ ρ h with
      | ok v h => exact (ao.ok _ _ _).symm
      | rz e h => rfl
      | no => exact (ao.nn _).symm
    · rfl

/-! ### statements with what follows them -/
def thenR (r : Rt) (k : Env → Hs → Rt) : Rt :=
  match r with
  | .ok .nx ρ h => k ρ h
  | r => r
theorem thenR_st {α : Type} (m : Rs α) (ρ : Env) (f : α → Hs → Rt) (k : Env → Hs → Rt) : thenR (m.st ρ f) k = m.st ρ fun a h => thenR (f a h) k := by
  cases m <;> rfl
theorem thenR_id (r : Rt) : thenR r (fun ρ h => .ok .nx ρ h) = r := by
  cases r with
  | ok f ρ h => cases f <;> rfl
  | rz _ _ _ => rfl
  | no => rfl
theorem thenR_thenR (r : Rt) (k k' : Env → Hs → Rt) : thenR (thenR r k) k' = thenR r fun ρ h => thenR (k ρ h) k' := by
  cases r with
  | ok f ρ h => cases f <;> rfl
  | rz _ _ _ => rfl
  | no => rfl
abbrev evT (G : Gt) (C : St0) (e : Expr) (ρ : Env) (h : Hs) (k : Vl → Hs → Rt) : Rt := evEK G dE _ (AT ρ) C e ρ h k
theorem evT_eq {G : Gt} {C : St0} {e : Expr} {ρ : Env} {h : Hs} {k : Vl → Hs → Rt} : evT G C e ρ h k = (evE G dE C e ρ h).st ρ k := evEK_eq dE _ (AT ρ) at_ok C e ρ h k
def storeLK (f : Expr → Vl → Env → Hs → (Env → Hs → Rt) → Rt) : List Expr → List Vl → Env → Hs → (Env → Hs → Rt) → Rt
  | [], [], ρ, h, k => k ρ h
  | t :: ts, v :: vs, ρ, h, k => f t v ρ h fun ρ h => storeLK f ts vs ρ h k
  | _, _, _, _, _ => .no
def storeK (G : Gt) (C : St0) : Nat → Expr → Vl → Env → Hs → (Env → Hs → Rt) → Rt
  | 0, _, _, _, _, _ => .no
  | m + 1, tg, v, ρ, h, k =>
    match tg with
    | .Name x _ => match setS C x v ρ with
      | some ρ => k ρ h
      | none => .no
    | .Subscript o i _ => if isSlice i then .no else evT G C o ρ h fun ov h => evT G C i ρ h fun iv h => match setItemV h ov iv v with
      | some h => k ρ h
      | none => .no
    | .Attribute o f _ => evT G C o ρ h fun ov h => match setFldV G h ov f v with
      | some h => k ρ h
      | none => .no
    | .Tuple ts _ _ => match v with
      | .tup vs => if ts.any isStar = false ∧ vs.length = ts.length then storeLK (storeK G C m) ts vs ρ h k else .no
      | _ => .no
    | _ => .no
theorem storeLK_eq {f : Expr → Vl → Env → Hs → (Env → Hs → Rt) → Rt} {g : Expr → Vl → Env → Hs → Rt} (hf : ∀ t v ρ h k, f t v ρ h k = thenR (g t v ρ h) k) (hn : ∀ t v ρ h fl ρ' h', g t v ρ h = .ok fl ρ' h' → fl = .nx) : ∀ (ts : List Expr) (vs : List Vl) (ρ : Env) (h : Hs) (k : Env → Hs → Rt),
    storeLK f ts vs ρ h k = thenR (storeL g ts vs ρ h) k
  | [], [], _, _, _ => rfl
  | [], _ :: _, _, _, _ => rfl
  | _ :: _, [], _, _, _ => rfl
  | t :: ts, v :: vs, ρ, h, k => by
    simp only [storeLK, storeL]
    rw [hf]
    cases e : g t v ρ h with
    | no => rfl
    | rz e ρ1 h1 => rfl
    | ok fl ρ1 h1 =>
      have z := hn _ _ _ _ _ _ _ e
      subst z
      exact storeLK_eq hf hn ts vs ρ1 h1 k
theorem storeK_eq {G : Gt} {C : St0} : ∀ (m : Nat) (tg : Expr) (v : Vl) (ρ : Env) (h : Hs) (k : Env → Hs → Rt), storeK G C m tg v ρ h k = thenR (store G dE C m tg v ρ h) k
  | 0, _, _, _, _, _ => rfl
  | m + 1, tg, v, ρ, h, k => by
    have ih := storeK_eq (G := G) (C := C) m
    cases tg with
    | Name x p =>
      simp only [storeK, store]
      cases setS C x v ρ <;> rfl
    | Subscript o i p =>
      simp only [storeK, store]
      cases isSlice i with
      | true => rfl
      | false =>
        simp only [Bool.false_eq_true, if_false]
        rw [evT_eq, thenR_st]
        refine congrArg _ (funext fun a => funext fun h => ?_)
        rw [evT_eq, thenR_st]
        refine congrArg _ (funext fun b => funext fun h => ?_)
        cases setItemV h a b v <;> rfl
    | Attribute o g p =>
      simp only [storeK, store]
      rw [evT_eq, thenR_st]
      refine congrArg _ (funext fun a => funext fun h => ?_)
      cases setFldV G h a g v <;> rfl
    | Tuple ts j p =>
      simp only [storeK, store]
      cases v with
      | tup vs =>
        simp only
        by_cases hc : ts.any isStar = false ∧ vs.length = ts.length
        · rw [if_pos hc, if_pos hc]
          exact storeLK_eq ih (fun t v ρ h fl ρ' h' e => store_nx _ _ _ _ _ _ _ _ e) _ _ _ _ _
        · rw [if_neg hc, if_neg hc]; rfl
      | _ => rfl
    | _ => rfl
def blkK (f : Stmt → Env → Hs → (Env → Hs → Rt) → Rt) : List Stmt → Env → Hs → (Env → Hs → Rt) → Rt
  | [], ρ, h, k => k ρ h
  | s :: ss, ρ, h, k => f s ρ h fun ρ h => blkK f ss ρ h k
theorem blkK_eq {f : Stmt → Env → Hs → (Env → Hs → Rt) → Rt} {g : Stmt → Env → Hs → Rt} (hf : ∀ s ρ h k, f s ρ h k = thenR (g s ρ h) k) : ∀ (ss : List Stmt) (ρ : Env) (h : Hs) (k : Env → Hs → Rt), blkK f ss ρ h k = thenR (blk g ss ρ h) k
  | [], _, _, _ => rfl
  | s :: ss, ρ, h, k => by
    simp only [blkK, blk]
    rw [hf]
    show _ = thenR (thenR (g s ρ h) fun ρ h => blk g ss ρ h) k
    rw [thenR_thenR]
    refine congrArg _ (funext fun ρ => funext fun h => ?_)
    exact blkK_eq hf ss ρ h k
def evSK (G : Gt) (W : Nat) : Nat → St0 → Stmt → Env → Hs → (Env → Hs → Rt) → Rt
  | 0, _, _, _, _, _ => .no
  | n + 1, C, st, ρ, h, k =>
    match st with
    | .Assign [tg] e _ => if ((swN C tg e).isSome && !isStar tg && tgHas C tg) = true then evT G C e ρ h fun v h => storeK G C 4 tg v ρ h k else .no
    | .If c a b _ => evT G C c ρ h fun v h => (testOf h v).st ρ fun t h => if t then blkK (evSK G W n C) a ρ h k else blkK (evSK G W n C) b ρ h k
    | .Expr e _ => if isCompr e then .no else evT G C e ρ h fun _ h => k ρ h
    | .Return (some e) _ => evT G C e ρ h fun v h => .ok (.rt v) ρ h
    | .AugAssign (.Name x _) op e _ => match getL2 C x ρ with
      | some x0 => if augOk op = false then .no else evT G C e ρ h fun y h => (augV op h x0 y).st ρ fun z h => (match setS C x z ρ with
        | some ρ => k ρ h
        | none => .no)
      | none => .no
    | .For tg it body [] _ => if isSet it then .no else (evIter C (isTupE tg) (fun e h => evEK G dE _ (AR Vl) C e ρ h .ok) it h).st ρ fun xs h => thenR (forL (asgP (ptOf C tg)) (fun ρ h => blkK (evSK G W n C) body ρ h fun ρ h => .ok .nx ρ h) xs ρ h) k
    | .While c body [] _ => thenR (whL (fun ρ h => evEK G dE _ (AR Bool) C c ρ h fun v h => testOf h v) (fun ρ h => blkK (evSK G W n C) body ρ h fun ρ h => .ok .nx ρ h) W ρ h) k
    | s => thenR (evS G W (n + 1) C s ρ h) k
theorem evSK_eq {G : Gt} {W : Nat} : ∀ (n : Nat) (C : St0) (st : Stmt) (ρ : Env) (h : Hs) (k : Env → Hs → Rt), evSK G W n C st ρ h k = thenR (evS G W n C st ρ h) k
  | 0, _, _, _, _, _ => rfl
  | n + 1, C, st, ρ, h, k => by
    have ih := evSK_eq (G := G) (W := W) n C
    unfold evSK
    split
    · simp only [evS]
      split
      · rw [evT_eq, thenR_st]
        exact congrArg _ (funext fun a => funext fun h => storeK_eq _ _ _ _ _ _)
      · rfl
    · simp only [evS]
      rw [evT_eq, thenR_st]
      refine congrArg _ (funext fun a => funext fun h => ?_)
      rw [thenR_st]
      refine congrArg _ (funext fun t => funext fun h => ?_)
      cases t
      · exact blkK_eq ih _ _ _ _
      · exact blkK_eq ih _ _ _ _
    · simp only [evS]
      split
      · rfl
      · rw [evT_eq, thenR_st]
        rfl
    · simp only [evS]
      rw [evT_eq, thenR_st]
      rfl
    · simp only [evS]
      cases hg : getL2 C _ ρ with
      | none => rfl
      | some x0 =>
        simp only
        split
        · rfl
        · rw [evT_eq, thenR_st]
          refine congrArg _ (funext fun a => funext fun h => ?_)
          rw [thenR_st]
          refine congrArg _ (funext fun t => funext fun h => ?_)
          cases setS C _ t ρ <;> rfl
    · rename_i tg it body p
      have e : (fun ρ h => blkK (evSK G W n C) body ρ h fun ρ h => .ok .nx ρ h) = blk (evS G W n C) body := funext fun ρ => funext fun h => by rw [blkK_eq ih, thenR_id]
      have e2 : (fun e h => evEK G dE _ (AR Vl) C e ρ h .ok) = fun e h => evE G dE C e ρ h := funext fun e => funext fun h => by rw [evEK_eq dE _ _ ar_ok]; exact bind_id _
      have e3 : asgP (ptOf C tg) = fun x ρ => asgE C tg x ρ := funext fun x => funext fun ρ => (asgE_P tg x ρ).symm
      rw [e, e2, e3]
      simp only [evS]
      split
      · rfl
      · rw [thenR_st]
    · rename_i c body p
      have e : (fun ρ h => blkK (evSK G W n C) body ρ h fun ρ h => .ok .nx ρ h) = blk (evS G W n C) body := funext fun ρ => funext fun h => by rw [blkK_eq ih, thenR_id]
      have e2 : (fun ρ h => evEK G dE _ (AR Bool) C c ρ h fun v h => testOf h v) = fun ρ h => (evE G dE C c ρ h).bind fun v h => testOf h v := funext fun ρ => funext fun h => by rw [evEK_eq dE _ _ ar_ok]; rfl
      rw [e, e2]
      simp only [evS]
    · rfl
def endR (h0 : Hs) (r : Rt) : Rs Vl :=
  match r with
  | .ok (.rt v) _ h' => .ok v (trunc h0 v h')
  | .ok .nx _ h' => .ok .non (trunc h0 .non h')
  | .rz e _ h' => .rz e (trunc h0 e h')
  | _ => .no
/-- a def's run, what follows handed on -/
theorem runDef_K {G : Gt} {W : Nat} {d : DefI} {vs : List Vl} {h : Hs} (hl : vs.length = d.ps.length) : runDef G W d vs h = endR h (blkK (evSK G W dS d.st) d.body (startE d.st.N vs) h fun ρ h => .ok .nx ρ h) := by
  rw [blkK_eq (evSK_eq dS d.st), thenR_id]
  unfold runDef
  rw [if_pos hl]
  rfl
end Wd

set_option Elab.async false
set_option linter.all false
set_option maxRecDepth 100000
namespace Wd
open PySem PySem.Spec PyProof.Rows L2

/-! ### the words of the mirrors -/
def nmS (i : Nat) (ρ : Env) (h : Hs) : Rs Vl := match getS ρ (some i) with
  | some v => .ok v h
  | none => .no
def nmSF (i : Nat) (ρ : Env) (h : Hs) : Rs Vl := match getS ρ (some i) with
  | some v => freeze h v
  | none => .no
def boolK (op : BoolOp) (v : Vl) (h : Hs) (r : Unit → Rs Vl) : Rs Vl := match truth h v with
  | some t => if t == (op == .Or) then .ok v h else r ()
  | none => .no
def mkK (mu : Bool) (xs : List Vl) (h : Hs) : Rs Vl := if mu = true then .ok (.ref h.length) (h ++ [some (.lst xs)]) else .ok (.lst xs) h
def partV (v : Vl) (h : Hs) : Rs (Option Int) := match v with
  | .int i => .ok (some i) h
  | _ => .no
def starK {β : Type} (no : β) (o : Option (List Vl)) (k : List Vl → β) : β := match o with
  | some xs => k xs
  | none => no
def methK (G : Gt) (m : Str) (ks : List Str) (v : Vl) (h : Hs) (own : (List Vl → List Vl → Hs → Rs Vl) → Rs Vl) (blt : (List Vl → Hs → Rs Vl) → Rs Vl) : Rs Vl :=
  match insOf h v with
  | some (c, fs) => if (G.hasM c m && (fs.lookup m).isNone) = true then own (fun vs ws h => G.meth c m (v :: vs) ks ws h) else .no
  | none => match clV v with
    | some c => if G.hasC c m = true then own (fun vs ws h => G.clm c m (v :: vs) ks ws h) else .no
    | none => match bmOf m with
      | some b => if (ks.isEmpty && tyOf h v == some (bmTy b)) = true then blt (fun vs h => bmV b v vs h) else .no
      | none => .no
/-- a call of what a name holds: a class -/
def clsK {β : Type} (G : Gt) (v : Vl) (no : β) (k : Str → β) : β := match clOf G v with
  | some c => if (G.has c && true) = true then k c else no
  | none => no
def joinL : List (Hs → Rs Str) → Str → Hs → Rs Str
  | [], acc, h => .ok acc h
  | f :: fs, acc, h => (f h).bind fun s h => if (acc ++ s).length ≤ sizeLine then joinL fs (acc ++ s) h else .no
def tupTL : List (Vl → Env → Option Env) → List Vl → Env → Option Env
  | [], [], ρ => some ρ
  | f :: fs, v :: vs, ρ => (f v ρ).bind fun ρ => tupTL fs vs ρ
  | _, _, _ => none
def tupT (fs : List (Vl → Env → Option Env)) (x : Vl) (ρ : Env) : Option Env := match x with
  | .tup vs => tupTL fs vs ρ
  | _ => none
def itemK (o : Option Hs) (k : Hs → Rt) : Rt := match o with
  | some h => k h
  | none => .no
/-- targets of a tuple, one behind another -/
def seqS : List (Vl → Env → Hs → (Env → Hs → Rt) → Rt) → List Vl → Env → Hs → (Env → Hs → Rt) → Rt
  | [], [], ρ, h, k => k ρ h
  | f :: fs, v :: vs, ρ, h, k => f v ρ h fun ρ h => seqS fs vs ρ h k
  | _, _, _, _, _ => .no
def tupS (n : Nat) (fs : List (Vl → Env → Hs → (Env → Hs → Rt) → Rt)) (v : Vl) (ρ : Env) (h : Hs) (k : Env → Hs → Rt) : Rt := match v with
  | .tup vs => if false = false ∧ vs.length = n then seqS fs vs ρ h k else .no
  | _ => .no
/-! ### words that do not open by themselves -/
@[irreducible] def cM (g : Vl → Hs → Rs (Option Vl)) (xs acc : List Vl) (h : Hs) : Rs (List Vl) := compM g xs acc h
@[irreducible] def fL (bind : Vl → Env → Option Env) (body : Env → Hs → Rt) (xs : List Vl) (ρ : Env) (h : Hs) : Rt := forL bind body xs ρ h
@[irreducible] def wL (test : Env → Hs → Rs Bool) (body : Env → Hs → Rt) (n : Nat) (ρ : Env) (h : Hs) : Rt := whL test body n ρ h
@[irreducible] def rD (G : Gt) (d : DefI) (vs : List Vl) (h : Hs) : Rs Vl := runDef G 200 d vs h
@[irreducible] def mO (G : Gt) (c : ClsI) (vs : List Vl) (ks : List Str) (ws : List Vl) (h : Hs) : Rs Vl := makeV G 200 c vs ks ws h
@[irreducible] def aV (G : Gt) (v : Vl) (f : Str) (h : Hs) : Rs Vl := attrV G v f h
@[irreducible] def bO (G : Gt) (b : Blt) (x : Vl) (h : Hs) : Rs Vl := bltG G b [x] h
@[irreducible] def cO (G : Gt) (f : Str) (vs : List Vl) (ks : List Str) (ws : List Vl) (h : Hs) : Rs Vl := G.call f vs ks ws h
/-- a classmethod's call -/
@[irreducible] def mC (G : Gt) (c m : Str) (vs : List Vl) (ks : List Str) (ws : List Vl) (h : Hs) : Rs Vl := G.clm c m vs ks ws h
@[irreducible] def mV (G : Gt) (m : Str) (ks : List Str) (v : Vl) (h : Hs) (own : (List Vl → List Vl → Hs → Rs Vl) → Rs Vl) (blt : (List Vl → Hs → Rs Vl) → Rs Vl) : Rs Vl := methK G m ks v h own blt
/-- x[i], == of own instances -/
@[irreducible] def iX (G : Gt) (x y : Vl) (h : Hs) : Rs Vl := idxG G x y h
@[irreducible] def cX (G : Gt) (op : CmpOp) (x y : Vl) (h : Hs) : Rs Vl := cmpG G op x y h
/-- a method's call -/
@[irreducible] def mI (G : Gt) (c m : Str) (vs : List Vl) (ks : List Str) (ws : List Vl) (h : Hs) : Rs Vl := G.meth c m vs ks ws h
end Wd

set_option Elab.async false
set_option linter.all false
set_option maxRecDepth 100000
namespace Wd
open PySem PySem.Spec PyProof.Rows L2

/-! ### what an outcome does -/
def Wo {α : Type} (m : Rs α) (Q : α → Hs → Prop) (E : Vl → Hs → Prop) : Prop :=
  match m with
  | .ok a h => Q a h
  | .rz e h => E e h
  | .no => False
def WoR (r : Rt) (Q : Fl → Env → Hs → Prop) (E : Vl → Hs → Prop) : Prop :=
  match r with
  | .ok f ρ h => Q f ρ h
  | .rz e _ h => E e h
  | .no => False
def retQ (h0 : Hs) (Q : Vl → Hs → Prop) : Fl → Env → Hs → Prop
  | .rt v, _, h => Q v (trunc h0 v h)
  | .nx, _, h => Q .non (trunc h0 .non h)
  | _, _, _ => False
def retE (h0 : Hs) (E : Vl → Hs → Prop) (e : Vl) (h : Hs) : Prop := E e (trunc h0 e h)
def thenQ (k : Env → Hs → Rt) (Q : Fl → Env → Hs → Prop) (E : Vl → Hs → Prop) : Fl → Env → Hs → Prop
  | .nx, ρ, h => WoR (k ρ h) Q E
  | f, ρ, h => Q f ρ h
def loopQ (P : Env → Hs → Prop) (Q : Fl → Env → Hs → Prop) : Fl → Env → Hs → Prop
  | .nx, ρ, h => P ρ h
  | .ct, ρ, h => P ρ h
  | .bk, ρ, h => Q .nx ρ h
  | .rt v, ρ, h => Q (.rt v) ρ h
section
variable {α β : Type} {Q : α → Hs → Prop} {E : Vl → Hs → Prop} {T : Fl → Env → Hs → Prop} {R : Vl → Hs → Prop}
theorem Wp_congr {m m' : Rs α} (h : m = m') : Wo m Q E = Wo m' Q E := by rw [h]
theorem WpR_congr {m m' : Rt} (h : m = m') : WoR m T E = WoR m' T E := by rw [h]
theorem Rs.bind_congr {m m' : Rs α} {f : α → Hs → Rs β} (h : m = m') : m.bind f = m'.bind f := by rw [h]
theorem Rs.st_congr {m m' : Rs α} {ρ : Env} {f : α → Hs → Rt} (h : m = m') : m.st ρ f = m'.st ρ f := by rw [h]
theorem itemK_congr {o o' : Option Hs} {k : Hs → Rt} (h : o = o') : itemK o k = itemK o' k := by rw [h]
theorem thenR_congr {m m' : Rt} {k : Env → Hs → Rt} (h : m = m') : thenR m k = thenR m' k := by rw [h]
theorem boolK_congr {op : BoolOp} {v v' : Vl} {h : Hs} {r : Unit → Rs Vl} (e : v = v') : boolK op v h r = boolK op v' h r := by rw [e]
theorem iteK_congr {γ : Type} {c c' : Prop} [Decidable c] [Decidable c'] {a b : γ} (h : c = c') : (if c then a else b) = if c' then a else b := by
  subst h
  by_cases z : c
  · rw [if_pos z, if_pos z]
  · rw [if_neg z, if_neg z]
theorem Wp_ok (a : α) (h : Hs) : Wo (.ok a h) Q E = Q a h := rfl
theorem Wp_rz (e : Vl) (h : Hs) : Wo (.rz e h : Rs α) Q E = E e h := rfl
theorem Wp_no : Wo (.no : Rs α) Q E = False := rfl
theorem Wp_bind (m : Rs β) (f : β → Hs → Rs α) : Wo (m.bind f) Q E = Wo m (fun a h => Wo (f a h) Q E) E := by cases m <;> rfl
theorem Wp_some (a : α) (h : Hs) : Wo (Rs.of (some a) h) Q E = Q a h := rfl
theorem Wp_end (h0 : Hs) (r : Rt) : Wo (endR h0 r) R E = WoR r (retQ h0 R) (retE h0 E) := by
  cases r with
  | ok f ρ h => cases f <;> rfl
  | rz _ _ _ => rfl
  | no => rfl
theorem WpR_st (m : Rs β) (ρ : Env) (f : β → Hs → Rt) : WoR (m.st ρ f) T E = Wo m (fun a h => WoR (f a h) T E) E := by cases m <;> rfl
theorem WpR_ok (f : Fl) (ρ : Env) (h : Hs) : WoR (.ok f ρ h) T E = T f ρ h := rfl
theorem WpR_then (r : Rt) (k : Env → Hs → Rt) : WoR (thenR r k) T E = WoR r (thenQ k T E) E := by
  cases r with
  | ok f ρ h => cases f <;> rfl
  | rz _ _ _ => rfl
  | no => rfl
theorem retQ_rt (h0 : Hs) (v : Vl) (ρ : Env) (h : Hs) : retQ h0 R (.rt v) ρ h = R v (trunc h0 v h) := rfl
theorem retQ_nx (h0 : Hs) (ρ : Env) (h : Hs) : retQ h0 R .nx ρ h = R .non (trunc h0 .non h) := rfl
theorem retE_eq (h0 : Hs) (e : Vl) (h : Hs) : retE h0 E e h = E e (trunc h0 e h) := rfl
theorem thenQ_nx (k : Env → Hs → Rt) (ρ : Env) (h : Hs) : thenQ k T E .nx ρ h = WoR (k ρ h) T E := rfl
theorem thenQ_rt (k : Env → Hs → Rt) (v : Vl) (ρ : Env) (h : Hs) : thenQ k T E (.rt v) ρ h = T (.rt v) ρ h := rfl
theorem loopQ_nx (P : Env → Hs → Prop) (ρ : Env) (h : Hs) : loopQ P T .nx ρ h = P ρ h := rfl
theorem loopQ_ct (P : Env → Hs → Prop) (ρ : Env) (h : Hs) : loopQ P T .ct ρ h = P ρ h := rfl
theorem loopQ_bk (P : Env → Hs → Prop) (ρ : Env) (h : Hs) : loopQ P T .bk ρ h = T .nx ρ h := rfl
theorem loopQ_rt (P : Env → Hs → Prop) (v : Vl) (ρ : Env) (h : Hs) : loopQ P T (.rt v) ρ h = T (.rt v) ρ h := rfl
theorem itemK_some (h : Hs) (k : Hs → Rt) : itemK (some h) k = k h := rfl
theorem Wp_ite {c : Prop} [Decidable c] {a b : Rs α} (h1 : c → Wo a Q E) (h2 : ¬ c → Wo b Q E) : Wo (if c then a else b) Q E := by
  split
  · exact h1 (by assumption)
  · exact h2 (by assumption)
theorem WpR_ite {c : Prop} [Decidable c] {a b : Rt} (h1 : c → WoR a T E) (h2 : ¬ c → WoR b T E) : WoR (if c then a else b) T E := by
  split
  · exact h1 (by assumption)
  · exact h2 (by assumption)
theorem Wo.mono {m : Rs α} {Q' : α → Hs → Prop} {E' : Vl → Hs → Prop} (w : Wo m Q E) (hq : ∀ a h, Q a h → Q' a h) (he : ∀ e h, E e h → E' e h) : Wo m Q' E' := by
  cases m with
  | ok a h => exact hq a h w
  | rz e h => exact he e h w
  | no => exact w
theorem WoR.mono {m : Rt} {T' : Fl → Env → Hs → Prop} {E' : Vl → Hs → Prop} (w : WoR m T E) (hq : ∀ f ρ h, T f ρ h → T' f ρ h) (he : ∀ e h, E e h → E' e h) : WoR m T' E' := by
  cases m with
  | ok a ρ h => exact hq a ρ h w
  | rz e _ h => exact he e h w
  | no => exact w
/-- an outcome that is known -/
theorem Wp_eq {m : Rs α} {a : α} {h : Hs} (e : m = .ok a h) (q : Q a h) : Wo m Q E := by rw [e]; exact q
end
/-- nothing is raised -/
abbrev noE : Vl → Hs → Prop := fun _ _ => False

inductive F2 (R : Vl → Vl → Prop) : List Vl → List Vl → Prop
  | nil : F2 R [] []
  | cons {x y : Vl} {xs ys : List Vl} (h : R x y) (t : F2 R xs ys) : F2 R (x :: xs) (y :: ys)
theorem F2.len {R : Vl → Vl → Prop} : ∀ {xs ys : List Vl}, F2 R xs ys → ys.length = xs.length
  | _, _, .nil => rfl
  | _, _, .cons _ t => by rw [List.length_cons, List.length_cons, F2.len t]
theorem F2.all {R : Vl → Vl → Prop} : ∀ {xs ys : List Vl}, F2 R xs ys → ∀ y ∈ ys, ∃ x ∈ xs, R x y
  | _, _, .nil => fun _ h => nomatch h
  | _, _, .cons h t => fun y hy => by
    rcases List.mem_cons.mp hy with e | e
    · exact ⟨_, List.mem_cons_self, e ▸ h⟩
    · obtain ⟨x, hx, r⟩ := F2.all t y e
      exact ⟨x, List.mem_cons_of_mem _ hx, r⟩
theorem F2.get {R : Vl → Vl → Prop} : ∀ {xs ys : List Vl}, F2 R xs ys → ∀ (i : Nat) (x : Vl), xs[i]? = some x → ∃ y, ys[i]? = some y ∧ R x y
  | _, _, .nil => fun _ _ h => by simp at h
  | _, _, .cons h t => fun i x e => by
    cases i with
    | zero => simp at e; subst e; exact ⟨_, rfl, h⟩
    | succ i => simpa using F2.get t i x (by simpa using e)
/-- values that are encodings -/
theorem F2.enc {α : Type} {f : α → Vl} {P : α → Prop} : ∀ {xs ys : List Vl}, F2 (fun _ y => ∃ a, y = f a ∧ P a) xs ys → ∃ as : List α, ys = as.map f ∧ as.length = xs.length ∧ ∀ a ∈ as, P a
  | _, _, .nil => ⟨[], rfl, rfl, fun _ h => nomatch h⟩
  | _, _, .cons ⟨a, e, p⟩ t => by
    obtain ⟨as, e1, e2, e3⟩ := F2.enc t
    refine ⟨a :: as, by rw [e, e1]; rfl, by rw [List.length_cons, List.length_cons, e2], fun b hb => ?_⟩
    rcases List.mem_cons.mp hb with z | z
    · rw [z]; exact p
    · exact e3 b z

/-! ### loops -/
section
variable {Q : Fl → Env → Hs → Prop} {E : Vl → Hs → Prop}
theorem WpR_for {bind : Vl → Env → Option Env} {body : Env → Hs → Rt} (P : List Vl → Env → Hs → Prop) {xs : List Vl} {ρ : Env} {h : Hs} (start : P xs ρ h) (step : ∀ x r ρ h, P (x :: r) ρ h → ∃ ρ1, bind x ρ = some ρ1 ∧ WoR (body ρ1 h) (loopQ (P r) Q) E)
    (done : ∀ ρ h, P [] ρ h → Q .nx ρ h) : WoR (fL bind body xs ρ h) Q E := by
  unfold fL
  induction xs generalizing ρ h with
  | nil => exact done ρ h start
  | cons x xs ih =>
    obtain ⟨ρ1, e, w⟩ := step x xs ρ h start
    simp only [forL, e]
    cases eb : body ρ1 h with
    | no => rw [eb] at w; exact w
    | rz ex ρ2 h2 => rw [eb] at w; exact w
    | ok f ρ2 h2 =>
      rw [eb] at w
      cases f with
      | nx => exact ih w
      | ct => exact ih w
      | bk => exact w
      | rt v => exact w
theorem WpR_while {test : Env → Hs → Rs Bool} {body : Env → Hs → Rt} (P : Nat → Env → Hs → Prop) {n m : Nat} {ρ : Env} {h : Hs} (start : P m ρ h) (hn : m < n)
    (step : ∀ m ρ h, P m ρ h → Wo (test ρ h) (fun b h1 => if b then ∃ m', m = m' + 1 ∧ WoR (body ρ h1) (loopQ (P m') Q) E else Q .nx ρ h1) E) : WoR (wL test body n ρ h) Q E := by
  unfold wL
  induction n generalizing m ρ h with
  | zero => exact absurd hn (Nat.not_lt_zero _)
  | succ n ih =>
    have w := step m ρ h start
    simp only [whL]
    cases et : test ρ h with
    | no => rw [et] at w; exact w
    | rz ex h1 => rw [et] at w; exact w
    | ok b h1 =>
      rw [et] at w
      cases b with
      | false => exact w
      | true =>
        obtain ⟨m', rfl, w⟩ := w
        simp only [Rs.st_ok, if_true]
        cases eb : body ρ h1 with
        | no => rw [eb] at w; exact w
        | rz ex ρ2 h2 => rw [eb] at w; exact w
        | ok f ρ2 h2 =>
          rw [eb] at w
          cases f with
          | nx => exact ih w (by omega)
          | ct => exact ih w (by omega)
          | bk => exact w
          | rt v => exact w
end
section
variable {g : Vl → Hs → Rs (Option Vl)} {E : Vl → Hs → Prop}
theorem compM_pure {f : Vl → Option Vl} {h : Hs} : ∀ (xs acc : List Vl), (∀ x ∈ xs, g x h = .ok (f x) h) → acc.length + xs.length ≤ sizeLine → compM g xs acc h = .ok (acc ++ xs.filterMap f) h
  | [], acc, _, _ => by simp [compM]
  | x :: xs, acc, hx, hl => by
    have e := hx x (by simp)
    have hl' : acc.length + (xs.length + 1) ≤ sizeLine := by simpa using hl
    have hz : acc.length < sizeLine := by omega
    simp only [compM, e, Rs.calm, Rs.bind_ok]
    cases hf : f x with
    | none =>
      simp only
      rw [compM_pure xs acc (fun y hy => hx y (List.mem_cons_of_mem _ hy)) (by omega)]
      simp [hf]
    | some v =>
      simp only [hz, if_true]
      rw [compM_pure xs (acc ++ [v]) (fun y hy => hx y (List.mem_cons_of_mem _ hy)) (by rw [List.length_append, List.length_singleton]; omega)]
      simp [hf]
/-- a comprehension that changes nothing -/
theorem Wp_comp {Q : List Vl → Hs → Prop} {f : Vl → Vl} {xs : List Vl} {h : Hs} (hx : ∀ x ∈ xs, Wo (g x h) (fun o h' => o = some (f x) ∧ h' = h) noE) (hl : xs.length ≤ sizeLine) (q : Q (xs.map f) h) : Wo (cM g xs [] h) Q E := by
  unfold cM
  refine Wp_eq (compM_pure (f := fun x => some (f x)) xs [] (fun x hm => ?_) (by simpa using hl)) ?_
  · have w := hx x hm
    cases e : g x h with
    | no => rw [e] at w; exact w.elim
    | rz _ _ => rw [e] at w; exact w.elim
    | ok o h' =>
      rw [e] at w
      obtain ⟨rfl, rfl⟩ := w
      rfl
  · simpa [List.filterMap_eq_map] using q
/-- .. with a filter -/
theorem Wp_compF {Q : List Vl → Hs → Prop} {f : Vl → Option Vl} {xs : List Vl} {h : Hs} (hx : ∀ x ∈ xs, Wo (g x h) (fun o h' => o = f x ∧ h' = h) noE) (hl : xs.length ≤ sizeLine) (q : Q (xs.filterMap f) h) : Wo (cM g xs [] h) Q E := by
  unfold cM
  refine Wp_eq (compM_pure (f := f) xs [] (fun x hm => ?_) (by simpa using hl)) (by simpa using q)
  have w := hx x hm
  cases e : g x h with
  | no => rw [e] at w; exact w.elim
  | rz _ _ => rw [e] at w; exact w.elim
  | ok o h' =>
    rw [e] at w
    obtain ⟨rfl, rfl⟩ := w
    rfl
theorem compM_inv {P : Hs → Prop} {R : Vl → Vl → Prop} : ∀ (xs acc : List Vl) (h : Hs), (∀ x ∈ xs, ∀ h, P h → Wo (g x h) (fun o h' => ∃ v, o = some v ∧ R x v ∧ P h') noE) → P h → acc.length + xs.length ≤ sizeLine →
    ∃ vs h', compM g xs acc h = .ok (acc ++ vs) h' ∧ P h' ∧ F2 R xs vs
  | [], acc, h, _, p, _ => ⟨[], h, by simp [compM], p, .nil⟩
  | x :: xs, acc, h, hx, p, hl => by
    have w := hx x (by simp) h p
    have hl' : acc.length + (xs.length + 1) ≤ sizeLine := by simpa using hl
    have hz : acc.length < sizeLine := by omega
    cases e : g x h with
    | no => rw [e] at w; exact w.elim
    | rz _ _ => rw [e] at w; exact w.elim
    | ok o h1 =>
      rw [e] at w
      obtain ⟨v, rfl, r1, p1⟩ := w
      obtain ⟨vs, h2, e4, p2, r2⟩ := compM_inv xs (acc ++ [v]) h1 (fun y hy => hx y (List.mem_cons_of_mem _ hy)) p1 (by rw [List.length_append, List.length_singleton]; omega)
      refine ⟨v :: vs, h2, ?_, p2, .cons r1 r2⟩
      simp only [compM, e, Rs.calm, Rs.bind_ok, if_true, hz]
      rw [e4]
      simp
/-- .. that may change the heap within P; R: what is known of each value -/
theorem Wp_compI {Q : List Vl → Hs → Prop} (P : Hs → Prop) (R : Vl → Vl → Prop) {xs : List Vl} {h : Hs} (p : P h) (hx : ∀ x ∈ xs, ∀ h, P h → Wo (g x h) (fun o h' => ∃ v, o = some v ∧ R x v ∧ P h') noE) (hl : xs.length ≤ sizeLine) (q : ∀ vs h', P h' → F2 R xs vs → Q vs h') : Wo (cM g xs [] h) Q E := by
  unfold cM
  obtain ⟨vs, h', e, p', r⟩ := compM_inv (g := g) xs [] h hx p (by simpa using hl)
  exact Wp_eq e (by simpa using q vs h' p' r)
end

/-! ### small facts -/
theorem trunc_le {h0 h : Hs} {v : Vl} (hl : h.length ≤ h0.length) : trunc h0 v h = h := by
  unfold trunc
  rw [if_pos hl]
theorem trunc_self {h : Hs} {v : Vl} : trunc h v h = h := trunc_le (Nat.le_refl _)
theorem trunc_nil {h : Hs} {v : Vl} (hv : okV 0 v = true) : trunc [] v h = [] := by
  unfold trunc
  split
  · rename_i z
    exact List.length_eq_zero_iff.mp (Nat.le_zero.mp z)
  · have e : okPre 0 [] h = true := by cases h <;> rfl
    have e2 : (okV ([] : Hs).length v && okPre ([] : Hs).length [] h) = true := by
      show (okV 0 v && okPre 0 [] h) = true
      rw [hv, e]; rfl
    rw [if_pos e2]
    rfl
theorem testOf_bl (h : Hs) (b : Bool) : testOf h (.bl b) = .ok b h := rfl
theorem ofmap_some {α : Type} (a : α) (h : Hs) (f : α → Vl) : Rs.of ((some a).map f) h = .ok (f a) h := rfl
theorem starK_some {β : Type} (no : β) (xs : List Vl) (k : List Vl → β) : starK no (some xs) k = k xs := rfl
/-- a list of the small heap is grown -/
theorem methK_append {G : Gt} {n : Nat} {h : Hs} {xs : List Vl} {own : (List Vl → List Vl → Hs → Rs Vl) → Rs Vl} {blt : (List Vl → Hs → Rs Vl) → Rs Vl} (e : getL h n = some xs) : mV G "append" [] (.ref n) h own blt = blt fun vs h => bmV .append (.ref n) vs h := by
  have e1 : insOf h (.ref n) = none := by
    unfold getL at e
    split at e
    · rename_i z; simp [insOf, getI, z]
    · cases e
  have e2 : bmOf "append" = some .append := rfl
  have e3 : tyOf h (.ref n) = some "list" := by simp [tyOf, e]
  unfold mV methK
  rw [e1, e2]
  simp only [e3]
  rfl
theorem methK_join {G : Gt} {s : Str} {h : Hs} {own : (List Vl → List Vl → Hs → Rs Vl) → Rs Vl} {blt : (List Vl → Hs → Rs Vl) → Rs Vl} : mV G "join" [] (.str s) h own blt = blt fun vs h => bmV .join (.str s) vs h := by
  unfold mV
  rfl

/-! ### the purse -/
structure Pz where
  a : Int
  b : Int
  c : Int
structure Pz.ok (p : Pz) : Prop where
  a0 : 0 ≤ p.a
  a1 : p.a < 2147483399
  b0 : 0 ≤ p.b
  c0 : 0 ≤ p.c
def Pc (p : Pz) (t : Hs) : Hs := some (.lst [.int p.a, .int p.b, .int p.c]) :: t
section
variable {p q : Pz} {t u : Hs} {n : Nat} {v : Vl}
theorem Pc_len : (Pc p t).length = t.length + 1 := rfl
theorem Pc_get : getL (Pc p t) 0 = some [.int p.a, .int p.b, .int p.c] := rfl
theorem Pc_getS : getL (Pc p t) (n + 1) = getL t n := rfl
theorem Pc_geti : getI (Pc p t) 0 = none := rfl
theorem Pc_getiS : getI (Pc p t) (n + 1) = getI t n := rfl
theorem Pc_set {a b c : Int} : (Pc p t).set 0 (some (.lst [.int a, .int b, .int c])) = Pc ⟨a, b, c⟩ t := rfl
theorem Pc_setS {o : Option Ob} : (Pc p t).set (n + 1) o = Pc p (t.set n o) := rfl
theorem Pc_app : Pc p t ++ u = Pc p (t ++ u) := rfl
theorem Pc_trunc : trunc (Pc p t) v (Pc q t) = Pc q t := trunc_le (Nat.le_refl _)
theorem okPre_self {n : Nat} : ∀ {h k : Hs}, okPre n h (h ++ k) = true
  | [], [] => rfl
  | [], _ :: _ => rfl
  | a :: r, k => by simp [okPre, beqO_refl, okPre_self (h := r)]
theorem Pc_trunc_app (hv : okV (t.length + 1) v = true) : trunc (Pc p t) v (Pc q (t ++ u)) = Pc q t := by
  unfold trunc
  have hl : (Pc p t).length = t.length + 1 := rfl
  split
  · rename_i z
    have z' : t.length + u.length + 1 ≤ t.length + 1 := by simpa [Pc] using z
    have : u = [] := List.length_eq_zero_iff.mp (by omega)
    rw [this, List.append_nil]
  · have e2 : (okV (Pc p t).length v && okPre (Pc p t).length (Pc p t) (Pc q (t ++ u))) = true := by
      rw [hl, hv]
      simp only [Pc, okPre, okO, okL, okV, Bool.and_true, Bool.or_true, Bool.true_and]
      exact okPre_self
    rw [if_pos e2]
    simp [Pc]
end
end Wd

set_option Elab.async false
set_option linter.all false
set_option maxRecDepth 100000
namespace Wd
open PySem PySem.Spec PyProof.Rows L2

/-! ### steps: from what is left to what was asked -/
section
variable {α β : Type} {Q : α → Hs → Prop} {E : Vl → Hs → Prop} {T : Fl → Env → Hs → Prop} {R : Vl → Hs → Prop} {h0 h : Hs} {ρ : Env} {m : Rs β} {a b : Rs α} {x y : Rt}
theorem p_bind {f : β → Hs → Rs α} (w : Wo m (fun a h => Wo (f a h) Q E) E) : Wo (m.bind f) Q E := by rw [Wp_bind]; exact w
theorem p_st {f : β → Hs → Rt} (w : Wo m (fun a h => WoR (f a h) T E) E) : WoR (m.st ρ f) T E := by rw [WpR_st]; exact w
theorem p_ok {a : α} (w : Q a h) : Wo (.ok a h) Q E := w
theorem p_end (w : WoR x (retQ h0 R) (retE h0 E)) : Wo (endR h0 x) R E := by rw [Wp_end]; exact w
theorem p_ret {v : Vl} (w : R v (trunc h0 v h)) : WoR (.ok (.rt v) ρ h) (retQ h0 R) E := w
theorem p_nx (w : R .non (trunc h0 .non h)) : WoR (.ok .nx ρ h) (retQ h0 R) E := w
theorem p_then {k : Env → Hs → Rt} (w : WoR x (thenQ k T E) E) : WoR (thenR x k) T E := by rw [WpR_then]; exact w
theorem p_thn {k : Env → Hs → Rt} (w : WoR (k ρ h) T E) : thenQ k T E .nx ρ h := w
theorem p_thr {k : Env → Hs → Rt} {v : Vl} (w : T (.rt v) ρ h) : thenQ k T E (.rt v) ρ h := w
theorem p_retq {v : Vl} (w : R v (trunc h0 v h)) : retQ h0 R (.rt v) ρ h := w
theorem p_lnx {P : Env → Hs → Prop} (w : P ρ h) : WoR (.ok .nx ρ h) (loopQ P T) E := w
theorem p_lct {P : Env → Hs → Prop} (w : P ρ h) : WoR (.ok .ct ρ h) (loopQ P T) E := w
theorem p_lbk {P : Env → Hs → Prop} (w : T .nx ρ h) : WoR (.ok .bk ρ h) (loopQ P T) E := w
theorem p_lrt {P : Env → Hs → Prop} {v : Vl} (w : T (.rt v) ρ h) : WoR (.ok (.rt v) ρ h) (loopQ P T) E := w
theorem p_tnx {k : Env → Hs → Rt} (w : WoR (k ρ h) T E) : WoR (.ok .nx ρ h) (thenQ k T E) E := w
theorem p_trt {k : Env → Hs → Rt} {v : Vl} (w : T (.rt v) ρ h) : WoR (.ok (.rt v) ρ h) (thenQ k T E) E := w
theorem p_item {o : Option Hs} {k : Hs → Rt} {h' : Hs} (e : o = some h') (w : WoR (k h') T E) : WoR (itemK o k) T E := by rw [e]; exact w
theorem p_itT {c : Prop} [Decidable c] (hc : c) (w : Wo a Q E) : Wo (if c then a else b) Q E := by rw [if_pos hc]; exact w
theorem p_itF {c : Prop} [Decidable c] (hc : ¬ c) (w : Wo b Q E) : Wo (if c then a else b) Q E := by rw [if_neg hc]; exact w
theorem p_itTR {c : Prop} [Decidable c] (hc : c) (w : WoR x T E) : WoR (if c then x else y) T E := by rw [if_pos hc]; exact w
theorem p_itFR {c : Prop} [Decidable c] (hc : ¬ c) (w : WoR y T E) : WoR (if c then x else y) T E := by rw [if_neg hc]; exact w
theorem p_dT {c : Prop} [Decidable c] (hc : c) (w : Wo a Q E) : Wo (if decide c = true then a else b) Q E := by rw [if_pos (decide_eq_true hc)]; exact w
theorem p_dF {c : Prop} [Decidable c] (hc : ¬ c) (w : Wo b Q E) : Wo (if decide c = true then a else b) Q E := by rw [if_neg (by simpa using hc)]; exact w
theorem p_dTR {c : Prop} [Decidable c] (hc : c) (w : WoR x T E) : WoR (if decide c = true then x else y) T E := by rw [if_pos (decide_eq_true hc)]; exact w
theorem p_dFR {c : Prop} [Decidable c] (hc : ¬ c) (w : WoR y T E) : WoR (if decide c = true then x else y) T E := by rw [if_neg (by simpa using hc)]; exact w
theorem p_d {c : Prop} [Decidable c] (w1 : c → Wo a Q E) (w2 : ¬ c → Wo b Q E) : Wo (if decide c = true then a else b) Q E := by
  by_cases hc : c
  · exact p_dT hc (w1 hc)
  · exact p_dF hc (w2 hc)
theorem p_dR {c : Prop} [Decidable c] (w1 : c → WoR x T E) (w2 : ¬ c → WoR y T E) : WoR (if decide c = true then x else y) T E := by
  by_cases hc : c
  · exact p_dTR hc (w1 hc)
  · exact p_dFR hc (w2 hc)
theorem p_n {c : Bool} (w : Wo (if c = true then b else a) Q E) : Wo (if (!c) = true then a else b) Q E := by cases c <;> exact w
theorem p_nR {c : Bool} (w : WoR (if c = true then y else x) T E) : WoR (if (!c) = true then x else y) T E := by cases c <;> exact w
theorem p_b {c : Bool} (w1 : c = true → Wo a Q E) (w2 : c = false → Wo b Q E) : Wo (if c = true then a else b) Q E := by
  cases c with
  | true => exact w1 rfl
  | false => exact w2 rfl
theorem p_bR {c : Bool} (w1 : c = true → WoR x T E) (w2 : c = false → WoR y T E) : WoR (if c = true then x else y) T E := by
  cases c with
  | true => exact w1 rfl
  | false => exact w2 rfl
theorem p_bT {c : Bool} (hc : c = true) (w : Wo a Q E) : Wo (if c = true then a else b) Q E := by subst hc; exact w
theorem p_bF {c : Bool} (hc : c = false) (w : Wo b Q E) : Wo (if c = true then a else b) Q E := by subst hc; exact w
theorem p_bTR {c : Bool} (hc : c = true) (w : WoR x T E) : WoR (if c = true then x else y) T E := by subst hc; exact w
theorem p_bFR {c : Bool} (hc : c = false) (w : WoR y T E) : WoR (if c = true then x else y) T E := by subst hc; exact w
theorem p_tt (w : Wo a Q E) : Wo (if true = true then a else b) Q E := w
theorem p_ff (w : Wo b Q E) : Wo (if false = true then a else b) Q E := w
theorem p_ttR (w : WoR x T E) : WoR (if true = true then x else y) T E := w
theorem p_ffR (w : WoR y T E) : WoR (if false = true then x else y) T E := w
/-- x or y, x and y -/
theorem p_orT {Q : Vl → Hs → Prop} {v : Vl} {r : Unit → Rs Vl} (ht : truth h v = some true) (w : Q v h) : Wo (boolK .Or v h r) Q E := by unfold boolK; rw [ht]; exact w
theorem p_orF {Q : Vl → Hs → Prop} {v : Vl} {r : Unit → Rs Vl} (ht : truth h v = some false) (w : Wo (r ()) Q E) : Wo (boolK .Or v h r) Q E := by unfold boolK; rw [ht]; exact w
theorem p_andF {Q : Vl → Hs → Prop} {v : Vl} {r : Unit → Rs Vl} (ht : truth h v = some false) (w : Q v h) : Wo (boolK .And v h r) Q E := by unfold boolK; rw [ht]; exact w
theorem p_andT {Q : Vl → Hs → Prop} {v : Vl} {r : Unit → Rs Vl} (ht : truth h v = some true) (w : Wo (r ()) Q E) : Wo (boolK .And v h r) Q E := by unfold boolK; rw [ht]; exact w
/-- both ways end in a truth value -/
theorem p_orB {Q : Vl → Hs → Prop} {c : Bool} {r : Unit → Rs Vl} (w1 : c = true → Q (.bl true) h) (w2 : c = false → Wo (r ()) Q E) : Wo (boolK .Or (.bl c) h r) Q E := by
  cases c with
  | true => exact p_orT rfl (w1 rfl)
  | false => exact p_orF rfl (w2 rfl)
theorem p_andB {Q : Vl → Hs → Prop} {c : Bool} {r : Unit → Rs Vl} (w1 : c = false → Q (.bl false) h) (w2 : c = true → Wo (r ()) Q E) : Wo (boolK .And (.bl c) h r) Q E := by
  cases c with
  | true => exact p_andT rfl (w2 rfl)
  | false => exact p_andF rfl (w1 rfl)
theorem p_orD {Q : Vl → Hs → Prop} {c : Prop} [Decidable c] {r : Unit → Rs Vl} (w1 : c → Q (.bl true) h) (w2 : ¬ c → Wo (r ()) Q E) : Wo (boolK .Or (.bl (decide c)) h r) Q E :=
  p_orB (fun z => w1 (of_decide_eq_true z)) (fun z => w2 (of_decide_eq_false z))
theorem p_andD {Q : Vl → Hs → Prop} {c : Prop} [Decidable c] {r : Unit → Rs Vl} (w1 : ¬ c → Q (.bl false) h) (w2 : c → Wo (r ()) Q E) : Wo (boolK .And (.bl (decide c)) h r) Q E :=
  p_andB (fun z => w1 (of_decide_eq_false z)) (fun z => w2 (of_decide_eq_true z))
theorem p_orBt {Q : Vl → Hs → Prop} {c : Bool} {r : Unit → Rs Vl} (hc : c = true) (w : Q (.bl true) h) : Wo (boolK .Or (.bl c) h r) Q E := by subst hc; exact w
theorem p_orBf {Q : Vl → Hs → Prop} {c : Bool} {r : Unit → Rs Vl} (hc : c = false) (w : Wo (r ()) Q E) : Wo (boolK .Or (.bl c) h r) Q E := by subst hc; exact w
theorem p_andBt {Q : Vl → Hs → Prop} {c : Bool} {r : Unit → Rs Vl} (hc : c = true) (w : Wo (r ()) Q E) : Wo (boolK .And (.bl c) h r) Q E := by subst hc; exact w
theorem p_andBf {Q : Vl → Hs → Prop} {c : Bool} {r : Unit → Rs Vl} (hc : c = false) (w : Q (.bl false) h) : Wo (boolK .And (.bl c) h r) Q E := by subst hc; exact w
variable {i j : Int} {Qv : Vl → Hs → Prop}
theorem p_mul (h1 : (-18446744073709551616 < i ∧ i < 18446744073709551616) ∨ (-18446744073709551616 < j ∧ j < 18446744073709551616)) (w : Qv (.int (i * j)) h) : Wo (Rs.of (binV .Mult (.int i) (.int j)) h) Qv E := by
  have e : mulOk i j = true := by
    rcases h1 with ⟨a, b⟩ | ⟨a, b⟩
    · simp [mulOk, a, b]
    · simp [mulOk, a, b]
  refine Wp_eq (a := .int (i * j)) ?_ w
  simp only [binV, e, if_true]; rfl
theorem p_fdiv (h1 : 0 < j) (h2 : j < 4611686018427387904) (w : Qv (.int (i / j)) h) : Wo (Rs.of (binV .FloorDiv (.int i) (.int j)) h) Qv E := by
  refine Wp_eq (a := .int (i / j)) ?_ w
  simp only [binV, h1, h2, decide_true, Bool.and_self, if_true]; rfl
theorem p_mod (h1 : 0 < j) (w : Qv (.int (i % j)) h) : Wo (Rs.of (binV .Mod (.int i) (.int j)) h) Qv E := by
  refine Wp_eq (a := .int (i % j)) ?_ w
  simp only [binV, h1, decide_true, if_true]; rfl
theorem p_divmod {isa : Isa} (h1 : 0 < j) (h2 : j < 1073741824) (w : Qv (.tup [.int (i / j), .int (i % j)]) h) : Wo (Rs.of (bltV isa .divmod [.int i, .int j] h) h) Qv E := by
  refine Wp_eq (a := .tup [.int (i / j), .int (i % j)]) ?_ w
  simp only [bltV, h1, h2, decide_true, Bool.and_self, if_true]; rfl
theorem p_adds {s t : Str} (h1 : s.length + t.length ≤ sizeLine) (w : Qv (.str (s ++ t)) h) : Wo (Rs.of (binV .Add (.str s) (.str t)) h) Qv E := by
  refine Wp_eq (a := .str (s ++ t)) ?_ w
  simp only [binV, h1, if_true]; rfl
theorem p_addt {s t : List Vl} (h1 : s.length + t.length ≤ sizeLine) (w : Qv (.tup (s ++ t)) h) : Wo (Rs.of (binV .Add (.tup s) (.tup t)) h) Qv E := by
  refine Wp_eq (a := .tup (s ++ t)) ?_ w
  simp only [binV, h1, if_true]; rfl
theorem p_addl {s t : List Vl} (h1 : s.length + t.length ≤ sizeLine) (w : Qv (.lst (s ++ t)) h) : Wo (Rs.of (binV .Add (.lst s) (.lst t)) h) Qv E := by
  refine Wp_eq (a := .lst (s ++ t)) ?_ w
  simp only [binV, h1, if_true]; rfl
/-- what is known -/
theorem p_of {o : Option α} {a : α} (e : o = some a) (w : Q a h) : Wo (Rs.of o h) Q E := by rw [e]; exact w
theorem p_cmp {op : CmpOp} {u v : Vl} {t : Bool} {h1 : Hs} (e : cmpV op h1 u v = some t) (w : Qv (.bl t) h) : Wo (Rs.of ((cmpV op h1 u v).map .bl) h) Qv E := by rw [e]; exact w
theorem p_test {v : Vl} {t : Bool} {Qb : Bool → Hs → Prop} (e : truth h v = some t) (w : Qb t h) : Wo (testOf h v) Qb E := by unfold testOf; rw [e]; exact w
theorem p_mk {p : Pz} {t : Hs} {xs : List Vl} (w : Qv (.ref (t.length + 1)) (Pc p (t ++ [some (.lst xs)]))) : Wo (mkK true xs (Pc p t)) Qv E := w
theorem p_set0 {a b c : Int} {t : Hs} {k : Hs → Rt} (w : WoR (k (Pc ⟨i, b, c⟩ t)) T E) : WoR (itemK (setItemV (Pc ⟨a, b, c⟩ t) (.ref 0) (.int 0) (.int i)) k) T E := w
theorem p_set1 {a b c : Int} {t : Hs} {k : Hs → Rt} (w : WoR (k (Pc ⟨a, i, c⟩ t)) T E) : WoR (itemK (setItemV (Pc ⟨a, b, c⟩ t) (.ref 0) (.int 1) (.int i)) k) T E := w
theorem p_set2 {a b c : Int} {t : Hs} {k : Hs → Rt} (w : WoR (k (Pc ⟨a, b, i⟩ t)) T E) : WoR (itemK (setItemV (Pc ⟨a, b, c⟩ t) (.ref 0) (.int 2) (.int i)) k) T E := w
theorem p_get0 {a b c : Int} {t : Hs} (w : Qv (.int a) (Pc ⟨a, b, c⟩ t)) : Wo (Rs.of (idxV (Pc ⟨a, b, c⟩ t) (.ref 0) (.int 0)) (Pc ⟨a, b, c⟩ t)) Qv E := w
theorem p_get1 {a b c : Int} {t : Hs} (w : Qv (.int b) (Pc ⟨a, b, c⟩ t)) : Wo (Rs.of (idxV (Pc ⟨a, b, c⟩ t) (.ref 0) (.int 1)) (Pc ⟨a, b, c⟩ t)) Qv E := w
theorem p_get2 {a b c : Int} {t : Hs} (w : Qv (.int c) (Pc ⟨a, b, c⟩ t)) : Wo (Rs.of (idxV (Pc ⟨a, b, c⟩ t) (.ref 0) (.int 2)) (Pc ⟨a, b, c⟩ t)) Qv E := w
theorem p_tup2 {f g : Vl → Env → Hs → (Env → Hs → Rt) → Rt} {u v : Vl} {k : Env → Hs → Rt} (w : WoR (f u ρ h fun ρ h => g v ρ h k) T E) : WoR (tupS 2 [f, g] (.tup [u, v]) ρ h k) T E := w
theorem p_tup3 {f g l : Vl → Env → Hs → (Env → Hs → Rt) → Rt} {u v x : Vl} {k : Env → Hs → Rt} (w : WoR (f u ρ h fun ρ h => g v ρ h fun ρ h => l x ρ h k) T E) : WoR (tupS 3 [f, g, l] (.tup [u, v, x]) ρ h k) T E := w
theorem p_join {G : Gt} {s : Str} {own : (List Vl → List Vl → Hs → Rs Vl) → Rs Vl} {blt : (List Vl → Hs → Rs Vl) → Rs Vl} (w : Wo (blt fun vs h => bmV .join (.str s) vs h) Qv E) : Wo (mV G "join" [] (.str s) h own blt) Qv E := by rw [methK_join]; exact w
theorem p_append {G : Gt} {n : Nat} {xs : List Vl} {own : (List Vl → List Vl → Hs → Rs Vl) → Rs Vl} {blt : (List Vl → Hs → Rs Vl) → Rs Vl} (e : getL h n = some xs) (w : Wo (blt fun vs h => bmV .append (.ref n) vs h) Qv E) : Wo (mV G "append" [] (.ref n) h own blt) Qv E := by rw [methK_append e]; exact w
theorem p_ltT (e : i < j) (w : Qv (.bl true) h) : Wo (Rs.of ((cmpV .Lt h (.int i) (.int j)).map .bl) h) Qv E := by
  show Qv (.bl (decide (i < j))) h
  rw [decide_eq_true e]; exact w
theorem p_ltF (e : ¬ i < j) (w : Qv (.bl false) h) : Wo (Rs.of ((cmpV .Lt h (.int i) (.int j)).map .bl) h) Qv E := by
  show Qv (.bl (decide (i < j))) h
  rw [decide_eq_false e]; exact w
theorem p_leT (e : i ≤ j) (w : Qv (.bl true) h) : Wo (Rs.of ((cmpV .LtE h (.int i) (.int j)).map .bl) h) Qv E := by
  show Qv (.bl (decide (i ≤ j))) h
  rw [decide_eq_true e]; exact w
theorem p_leF (e : ¬ i ≤ j) (w : Qv (.bl false) h) : Wo (Rs.of ((cmpV .LtE h (.int i) (.int j)).map .bl) h) Qv E := by
  show Qv (.bl (decide (i ≤ j))) h
  rw [decide_eq_false e]; exact w
theorem p_gtT (e : j < i) (w : Qv (.bl true) h) : Wo (Rs.of ((cmpV .Gt h (.int i) (.int j)).map .bl) h) Qv E := by
  show Qv (.bl (decide (j < i))) h
  rw [decide_eq_true e]; exact w
theorem p_gtF (e : ¬ j < i) (w : Qv (.bl false) h) : Wo (Rs.of ((cmpV .Gt h (.int i) (.int j)).map .bl) h) Qv E := by
  show Qv (.bl (decide (j < i))) h
  rw [decide_eq_false e]; exact w
theorem p_geT (e : j ≤ i) (w : Qv (.bl true) h) : Wo (Rs.of ((cmpV .GtE h (.int i) (.int j)).map .bl) h) Qv E := by
  show Qv (.bl (decide (j ≤ i))) h
  rw [decide_eq_true e]; exact w
theorem p_geF (e : ¬ j ≤ i) (w : Qv (.bl false) h) : Wo (Rs.of ((cmpV .GtE h (.int i) (.int j)).map .bl) h) Qv E := by
  show Qv (.bl (decide (j ≤ i))) h
  rw [decide_eq_false e]; exact w
theorem p_eqT (e : i = j) (w : Qv (.bl true) h) : Wo (Rs.of ((cmpV .Eq h (.int i) (.int j)).map .bl) h) Qv E := by
  show Qv (.bl (decide (i = j))) h
  rw [decide_eq_true e]; exact w
theorem p_eqF (e : ¬ i = j) (w : Qv (.bl false) h) : Wo (Rs.of ((cmpV .Eq h (.int i) (.int j)).map .bl) h) Qv E := by
  show Qv (.bl (decide (i = j))) h
  rw [decide_eq_false e]; exact w
theorem p_neT (e : ¬ i = j) (w : Qv (.bl true) h) : Wo (Rs.of ((cmpV .NotEq h (.int i) (.int j)).map .bl) h) Qv E := by
  show Qv (.bl (!decide (i = j))) h
  rw [decide_eq_false e]; exact w
theorem p_neF (e : i = j) (w : Qv (.bl false) h) : Wo (Rs.of ((cmpV .NotEq h (.int i) (.int j)).map .bl) h) Qv E := by
  show Qv (.bl (!decide (i = j))) h
  rw [decide_eq_true e]; exact w
theorem p_seqT {s t : Str} (e : s = t) (w : Qv (.bl true) h) : Wo (Rs.of ((cmpV .Eq h (.str s) (.str t)).map .bl) h) Qv E := by
  show Qv (.bl (decide (s = t))) h
  rw [decide_eq_true e]; exact w
theorem p_seqF {s t : Str} (e : ¬ s = t) (w : Qv (.bl false) h) : Wo (Rs.of ((cmpV .Eq h (.str s) (.str t)).map .bl) h) Qv E := by
  show Qv (.bl (decide (s = t))) h
  rw [decide_eq_false e]; exact w
theorem p_sneT {s t : Str} (e : ¬ s = t) (w : Qv (.bl true) h) : Wo (Rs.of ((cmpV .NotEq h (.str s) (.str t)).map .bl) h) Qv E := by
  show Qv (.bl (!decide (s = t))) h
  rw [decide_eq_false e]; exact w
theorem p_sneF {s t : Str} (e : s = t) (w : Qv (.bl false) h) : Wo (Rs.of ((cmpV .NotEq h (.str s) (.str t)).map .bl) h) Qv E := by
  show Qv (.bl (!decide (s = t))) h
  rw [decide_eq_true e]; exact w
theorem p_inT {x : Vl} {xs : List Vl} (e : (flat x && xs.all flat && xs.any fun y => eqF y x) = true) (w : Qv (.bl true) h) : Wo (Rs.of ((cmpV .In h x (.tup xs)).map .bl) h) Qv E := by
  have z : ((flat x = true ∧ xs.all flat = true) ∧ (xs.any fun y => eqF y x) = true) := by simpa [-List.all_eq_true, -List.any_eq_true] using e
  refine p_cmp (t := true) ?_ w
  have e2 : inL x xs = some true := by unfold inL; rw [z.1.1, z.1.2, z.2]; rfl
  cases x <;> first | exact e2 | (simp [flat] at z)
theorem p_inF {x : Vl} {xs : List Vl} (e : (flat x && xs.all flat && !(xs.any fun y => eqF y x)) = true) (w : Qv (.bl false) h) : Wo (Rs.of ((cmpV .In h x (.tup xs)).map .bl) h) Qv E := by
  have z : ((flat x = true ∧ xs.all flat = true) ∧ (xs.any fun y => eqF y x) = false) := by simpa [-List.all_eq_true, -List.any_eq_true] using e
  refine p_cmp (t := false) ?_ w
  have e2 : inL x xs = some false := by unfold inL; rw [z.1.1, z.1.2, z.2]; rfl
  cases x <;> first | exact e2 | (simp [flat] at z)
/-- a built-in function of what is no instance -/
theorem p_bO {G : Gt} {b : Blt} {x : Vl} (hi : insOf h x = none) (w : Wo (Rs.of (bltV G.isa b [x] h) h) Qv E) : Wo (bO G b x h) Qv E := by
  unfold bO
  have e : bltG G b [x] h = Rs.of (bltV G.isa b [x] h) h := by
    unfold bltG
    cases ownN b with
    | none => rfl
    | some nm => simp only [hi]
  rw [e]; exact w
theorem p_retP {p q : Pz} {t : Hs} {v : Vl} (w : R v (Pc q t)) : WoR (.ok (.rt v) ρ (Pc q t)) (retQ (Pc p t) R) E := by
  show R v (trunc (Pc p t) v (Pc q t))
  rw [Pc_trunc]; exact w
theorem p_retS {v : Vl} (w : R v h) : WoR (.ok (.rt v) ρ h) (retQ h R) E := by
  show R v (trunc h v h)
  rw [trunc_self]; exact w
theorem p_nxP {p q : Pz} {t : Hs} (w : R .non (Pc q t)) : WoR (.ok .nx ρ (Pc q t)) (retQ (Pc p t) R) E := by
  show R .non (trunc (Pc p t) .non (Pc q t))
  rw [Pc_trunc]; exact w
theorem p_nxS (w : R .non h) : WoR (.ok .nx ρ h) (retQ h R) E := by
  show R .non (trunc h .non h)
  rw [trunc_self]; exact w
end
theorem atI_pos {α : Type} {xs : List α} {i : Int} (h0 : 0 ≤ i) (h1 : i < xs.length) : atI xs i = xs[i.toNat]? := by
  unfold atI ixN
  rw [if_pos h0, if_pos h1]
  rfl
end Wd

set_option Elab.async false
set_option linter.all false
set_option maxRecDepth 100000
namespace Wd
open PySem PySem.Spec PyProof.Rows L2

/-! ### texts as lists of signs -/
def S (l : List Nat) : Str := ⟨l.toArray⟩
theorem S_list (s : Str) : S s.cps.toList = s := by unfold S; simp
theorem S_cps (l : List Nat) : (S l).cps.toList = l := by simp [S]
theorem S_len (l : List Nat) : (S l).length = l.length := by simp [S, Str.length]
theorem S_app (a b : List Nat) : S a ++ S b = S (a ++ b) := by
  show Str.append _ _ = _
  simp [Str.append, S]
theorem S_inj {a b : List Nat} : S a = S b ↔ a = b := by
  constructor
  · intro h
    have := congrArg (fun s : Str => s.cps.toList) h
    simpa [S_cps] using this
  · intro h; rw [h]
theorem str_len_app (a b : Str) : (a ++ b).length = a.length + b.length := by
  show (Str.append a b).length = _
  simp [Str.append, Str.length]
theorem asStrs_map (ls : List Str) : asStrs (ls.map .str) = some ls := by
  induction ls with
  | nil => rfl
  | cons a r ih => simp [asStrs, ih]
theorem asBools_map (ls : List Bool) : asBools (ls.map .bl) = some ls := by
  induction ls with
  | nil => rfl
  | cons a r ih => simp [asBools, ih]
theorem asInts_map (ls : List Int) : asInts (ls.map .int) = some ls := by
  induction ls with
  | nil => rfl
  | cons a r ih => simp [asInts, ih]
theorem join_lists (a : List Nat) (ys : List (List Nat)) : Txt.join (S a) (ys.map S) = S (TL.joinL a ys) := SX.join_S a ys
theorem joinL_nil : ∀ ys : List (List Nat), TL.joinL [] ys = ys.flatten
  | [] => rfl
  | [p] => by simp [TL.joinL]
  | p :: q :: r => by
    have ih := joinL_nil (q :: r)
    show p ++ ([] ++ TL.joinL [] (q :: r)) = _
    rw [ih]
    simp
theorem flatten_single (ds : List Nat) : (ds.map fun d => [d]).flatten = ds := by
  induction ds with
  | nil => rfl
  | cons d r ih => rw [List.map_cons, List.flatten_cons, ih]; rfl
theorem join_signs (ds : List Nat) : Txt.join (S []) (ds.map fun d => S [d]) = S ds := by
  have e : (ds.map fun d => S [d]) = (ds.map fun d => [d]).map S := by rw [List.map_map]; rfl
  rw [e, join_lists, joinL_nil, flatten_single]
section
variable {α : Type} {Q : Vl → Hs → Prop} {E : Vl → Hs → Prop} {h : Hs} {p : Pz} {t : Hs}
theorem p_okT {β : Type} {a : β} {Q : β → Hs → Prop} {v : Vl} {q : Pz} (w : Q a (Pc q t)) : Wo (.ok a (trunc (Pc p t) v (Pc q t))) Q E := by
  show Q a (trunc (Pc p t) v (Pc q t))
  rw [Pc_trunc]; exact w
theorem p_okS {β : Type} {a : β} {Q : β → Hs → Prop} {v : Vl} (w : Q a h) : Wo (.ok a (trunc h v h)) Q E := by
  show Q a (trunc h v h)
  rw [trunc_self]; exact w
theorem p_sidx {s : Str} {i : Int} (h0 : 0 ≤ i) (h1 : i < s.length) (hz : s.length ≤ sizeLine) (w : ∀ c, s.cps.toList[i.toNat]? = some c → c ∈ s.cps.toList → Q (.str (S [c])) h) : Wo (Rs.of (idxV h (.str s) (.int i)) h) Q E := by
  have hl : i.toNat < s.cps.toList.length := by
    have : s.cps.toList.length = s.length := by simp [Str.length]
    omega
  have e : s.cps.toList[i.toNat]? = some s.cps.toList[i.toNat] := List.getElem?_eq_getElem hl
  refine p_of (a := .str (S [s.cps.toList[i.toNat]])) ?_ (w _ e (List.getElem_mem hl))
  simp only [idxV, hz, if_true]
  rw [atI_pos h0 (by simpa [Str.length] using h1), e]
  rfl
theorem p_rng {j : Int} {Q : List Vl → Hs → Prop} (h0 : -4611686018427387904 ≤ j) (h1 : j < 4611686018427387904) (w : Q (intsV 0 j.toNat) h) : Wo (Rs.of (rangeV [.int j]) h) Q E := by
  refine p_of (a := intsV 0 j.toNat) ?_ w
  simp only [rangeV]
  rw [if_pos]
  simp
  exact ⟨h0, h1⟩
theorem p_joinL {s : Str} {ls : List Str} (hz : (ls.map (·.length)).sum + ls.length * s.length ≤ 16777216) (w : Q (.str (Txt.join s ls)) h) : Wo (bmV .join (.str s) [.lst (ls.map .str)] h) Q E := by
  refine Wp_eq (a := .str (Txt.join s ls)) ?_ w
  simp only [bmV, itemsV, asStrs_map, hz, if_true]
theorem sum_ones (ds : List Nat) : ((ds.map fun d => S [d]).map (·.length)).sum = ds.length := by
  induction ds with
  | nil => rfl
  | cons d r ih => rw [List.map_cons, List.map_cons, List.sum_cons, ih, S_len, List.length_cons]; simp; omega
theorem p_joinD {ds : List Nat} (hz : ds.length ≤ 16777216) (w : Q (.str (S ds)) h) : Wo (bmV .join (.str (Str.ofString "")) [.lst (ds.map fun d => .str (S [d]))] h) Q E := by
  have e : (ds.map fun d => Vl.str (S [d])) = (ds.map fun d => S [d]).map .str := by rw [List.map_map]; rfl
  have e0 : Str.ofString "" = S [] := by decide +kernel
  rw [e, e0]
  refine p_joinL ?_ ?_
  · rw [sum_ones, S_len]; simp; exact hz
  · rw [join_signs]; exact w
theorem p_all {isa : Isa} {bs : List Bool} (w : Q (.bl (bs.all id)) h) : Wo (Rs.of (bltV isa .all [.lst (bs.map .bl)] h) h) Q E := by
  refine p_of (a := .bl (bs.all id)) ?_ w
  simp only [bltV, asBools_map]; rfl
theorem p_allT {β : Type} {isa : Isa} {as : List β} (w : Q (.bl true) h) : Wo (Rs.of (bltV isa .all [.lst (as.map fun _ => .bl true)] h) h) Q E := by
  have e : (as.map fun _ => Vl.bl true) = (as.map fun _ => true).map .bl := by rw [List.map_map]; rfl
  have e2 : (as.map fun _ => true).all id = true := by
    induction as with
    | nil => rfl
    | cons a r ih => simp
  rw [e]
  refine p_all ?_
  rw [e2]; exact w
theorem p_any {isa : Isa} {bs : List Bool} (w : Q (.bl (bs.any id)) h) : Wo (Rs.of (bltV isa .any [.lst (bs.map .bl)] h) h) Q E := by
  refine p_of (a := .bl (bs.any id)) ?_ w
  simp only [bltV, asBools_map]; rfl
/-- a comprehension that draws -/
theorem p_draw {g : Vl → Hs → Rs (Option Vl)} {xs : List Vl} {Q : List Vl → Hs → Prop} (enc : α → Vl) (P : α → Prop) (hp : p.ok) (hl : xs.length ≤ sizeLine)
    (step : ∀ x ∈ xs, ∀ p' : Pz, p'.ok → Wo (g x (Pc p' t)) (fun o h' => ∃ a p'', o = some (enc a) ∧ P a ∧ Pz.ok p'' ∧ h' = Pc p'' t) noE) (q : ∀ (as : List α) (p' : Pz), p'.ok → as.length = xs.length → (∀ a ∈ as, P a) → Q (as.map enc) (Pc p' t)) : Wo (cM g xs [] (Pc p t)) Q E := by
  refine Wp_compI (fun h => ∃ p' : Pz, p'.ok ∧ h = Pc p' t) (fun _ v => ∃ a, v = enc a ∧ P a) ⟨p, hp, rfl⟩ ?_ hl ?_
  · rintro x hx h ⟨p', hp', rfl⟩
    refine (step x hx p' hp').mono ?_ (fun _ _ z => z)
    rintro o h' ⟨a, p'', rfl, pa, hp'', rfl⟩
    exact ⟨_, rfl, ⟨a, rfl, pa⟩, p'', hp'', rfl⟩
  · rintro vs h' ⟨p', hp', rfl⟩ f
    obtain ⟨as, rfl, hl, pa⟩ := F2.enc f
    exact q as p' hp' hl pa
end
section
variable {α : Type} {g : Vl → Hs → Rs (Option Vl)} {Q : List Vl → Hs → Prop} {E : Vl → Hs → Prop} {h : Hs}
/-- a comprehension over encodings that changes nothing -/
theorem p_map {as : List α} {enc : α → Vl} (f : α → Vl) (hl : as.length ≤ sizeLine) (step : ∀ a ∈ as, Wo (g (enc a) h) (fun o h' => o = some (f a) ∧ h' = h) noE) (q : Q (as.map f) h) : Wo (cM g (as.map enc) [] h) Q E := by
  have key : ∀ (as : List α) (acc : List Vl), (∀ a ∈ as, Wo (g (enc a) h) (fun o h' => o = some (f a) ∧ h' = h) noE) → acc.length + as.length ≤ sizeLine → compM g (as.map enc) acc h = .ok (acc ++ as.map f) h := by
    intro as
    induction as with
    | nil => intro acc _ _; simp [compM]
    | cons a r ih =>
      intro acc hs hl
      have w := hs a (by simp)
      have hl' : acc.length + (r.length + 1) ≤ sizeLine := by simpa using hl
      have hz : acc.length < sizeLine := by omega
      cases e : g (enc a) h with
      | no => rw [e] at w; exact w.elim
      | rz _ _ => rw [e] at w; exact w.elim
      | ok o h1 =>
        rw [e] at w
        obtain ⟨rfl, rfl⟩ := w
        simp only [List.map_cons, compM, e, Rs.calm, Rs.bind_ok, hz, if_true]
        rw [ih (acc ++ [f a]) (fun b hb => hs b (List.mem_cons_of_mem _ hb)) (by rw [List.length_append, List.length_singleton]; omega)]
        simp
  unfold cM
  exact Wp_eq (key as [] step (by simpa using hl)) (by simpa using q)
end
theorem intsV_length (n : Nat) : ∀ a, (intsV a n).length = n := by
  induction n with
  | zero => intro a; rfl
  | succ n ih => intro a; rw [intsV, List.length_cons, ih]
theorem intsV_mem {x : Vl} (n : Nat) : ∀ a, x ∈ intsV a n → ∃ i : Int, x = .int i ∧ a ≤ i ∧ i < a + n := by
  induction n with
  | zero => intro a h; cases h
  | succ n ih =>
    intro a h
    rcases List.mem_cons.mp h with e | e
    · exact ⟨a, e, Int.le_refl _, by omega⟩
    · obtain ⟨i, e, h1, h2⟩ := ih _ e
      exact ⟨i, e, by omega, by omega⟩
end Wd
namespace Wd
open PySem PySem.Spec PyProof.Rows L2
theorem sizeLine_eq : sizeLine = 16777216 := rfl
theorem charsV_map (l : List Nat) : charsV l = l.map fun d => .str (S [d]) := by
  induction l with
  | nil => rfl
  | cons c r ih => rw [charsV, ih]; rfl
section
variable {Q : Vl → Hs → Prop} {E : Vl → Hs → Prop} {h : Hs}
theorem p_len {isa : Isa} {s : Str} (hz : s.length ≤ sizeLine) (w : Q (.int s.length) h) : Wo (Rs.of (bltV isa .len [.str s] h) h) Q E := by
  refine p_of (a := .int s.length) ?_ w
  show lenV h (.str s) = _
  simp only [lenV, hz, if_true]
theorem p_min {isa : Isa} {i j : Int} (w : Q (.int (min i j)) h) : Wo (Rs.of (bltV isa .min [.int i, .int j] h) h) Q E := by
  refine p_of (a := .int (min i j)) ?_ w
  show some (Vl.int (if j < i then j else i)) = _
  congr 2
  split <;> omega
theorem p_max {isa : Isa} {i j : Int} (w : Q (.int (max i j)) h) : Wo (Rs.of (bltV isa .max [.int i, .int j] h) h) Q E := by
  refine p_of (a := .int (max i j)) ?_ w
  show some (Vl.int (if j > i then j else i)) = _
  congr 2
  split <;> omega
theorem p_abs {isa : Isa} {i : Int} (w : Q (.int i.natAbs) h) : Wo (Rs.of (bltV isa .abs [.int i] h) h) Q E := by
  refine p_of (a := .int i.natAbs) ?_ w
  show some (Vl.int (if i < 0 then -i else i)) = _
  congr 2
  split <;> omega
theorem p_lenS {isa : Isa} {l : List Nat} (hz : l.length ≤ sizeLine) (w : Q (.int l.length) h) : Wo (Rs.of (bltV isa .len [.str (S l)] h) h) Q E := p_len (by rw [S_len]; exact hz) (by rw [S_len]; exact w)
theorem p_lenSc {isa : Isa} {c : Nat} {l : List Nat} (hz : l.length < sizeLine) (w : Q (.int (l.length + 1)) h) : Wo (Rs.of (bltV isa .len [.str (S (c :: l))] h) h) Q E := p_lenS hz w
theorem p_lenML {α : Type} {f : α → Vl} {isa : Isa} {xs : List α} (w : Q (.int xs.length) h) : Wo (Rs.of (bltV isa .len [.lst (xs.map f)] h) h) Q E := by
  refine p_of (a := .int xs.length) ?_ w
  show some (Vl.int ((xs.map f).length : Nat)) = _
  rw [List.length_map]
theorem p_lenMT {α : Type} {f : α → Vl} {isa : Isa} {xs : List α} (w : Q (.int xs.length) h) : Wo (Rs.of (bltV isa .len [.tup (xs.map f)] h) h) Q E := by
  refine p_of (a := .int xs.length) ?_ w
  show some (Vl.int ((xs.map f).length : Nat)) = _
  rw [List.length_map]
theorem p_intT {isa : Isa} {b : Bool} (hb : b = true) (w : Q (.int 1) h) : Wo (Rs.of (bltV isa .int [.bl b] h) h) Q E := by subst hb; exact w
theorem p_intF {isa : Isa} {b : Bool} (hb : b = false) (w : Q (.int 0) h) : Wo (Rs.of (bltV isa .int [.bl b] h) h) Q E := by subst hb; exact w
theorem p_intB {isa : Isa} {b : Bool} (w1 : b = true → Q (.int 1) h) (w2 : b = false → Q (.int 0) h) : Wo (Rs.of (bltV isa .int [.bl b] h) h) Q E := by
  cases b with
  | true => exact w1 rfl
  | false => exact w2 rfl
theorem p_lenT1 {isa : Isa} {a : Vl} (w : Q (.int 1) h) : Wo (Rs.of (bltV isa .len [.tup [a]] h) h) Q E := w
theorem p_lenT2 {isa : Isa} {a b : Vl} (w : Q (.int 2) h) : Wo (Rs.of (bltV isa .len [.tup [a, b]] h) h) Q E := w
theorem p_lenT3 {isa : Isa} {a b c : Vl} (w : Q (.int 3) h) : Wo (Rs.of (bltV isa .len [.tup [a, b, c]] h) h) Q E := w
theorem p_lenT {isa : Isa} {xs : List Vl} (w : Q (.int xs.length) h) : Wo (Rs.of (bltV isa .len [.tup xs] h) h) Q E := w
theorem p_lenL {isa : Isa} {xs : List Vl} (w : Q (.int xs.length) h) : Wo (Rs.of (bltV isa .len [.lst xs] h) h) Q E := w
theorem p_walkS {l : List Nat} {Q : List Vl → Hs → Prop} (hz : l.length ≤ sizeLine) (w : Q (l.map fun d => .str (S [d])) h) : Wo (Rs.of (walkV (.str (S l))) h) Q E := by
  refine p_of (a := l.map fun d => .str (S [d])) ?_ w
  simp only [walkV, S_len, hz, if_true, S_cps, charsV_map]
theorem p_walkT {xs : List Vl} {Q : List Vl → Hs → Prop} (w : Q xs h) : Wo (Rs.of (walkV (.tup xs)) h) Q E := w
theorem p_walkL {xs : List Vl} {Q : List Vl → Hs → Prop} (w : Q xs h) : Wo (Rs.of (walkV (.lst xs)) h) Q E := w
theorem p_tail {c : Nat} {l : List Nat} (hz : l.length < sizeLine) (w : Q (.str (S l)) h) : Wo (Rs.of (sliceV (.str (S (c :: l))) (some 1) none) h) Q E := by
  refine p_of (a := .str (S l)) ?_ w
  have e : (S (c :: l)).length ≤ sizeLine := by rw [S_len, List.length_cons]; omega
  simp only [sliceV, e, if_true]
  congr 1
  unfold cutS
  have e2 : HT.sIx (S (c :: l)).length 0 (some 1) = 1 := by rw [S_len]; simp [HT.sIx]
  have e3 : HT.sIx (S (c :: l)).length (S (c :: l)).length none = l.length + 1 := by rw [S_len]; rfl
  rw [e2, e3, S_cps]
  simp [S]
theorem p_head {c : Nat} {l : List Nat} (hz : l.length < sizeLine) (w : Q (.str (S [c])) h) : Wo (Rs.of (idxV h (.str (S (c :: l))) (.int 0)) h) Q E := by
  refine p_of (a := .str (S [c])) ?_ w
  have e : (S (c :: l)).length ≤ sizeLine := by rw [S_len, List.length_cons]; omega
  simp only [idxV, e, if_true, S_cps]
  rw [atI_pos (by omega) (by simp)]
  rfl
theorem p_in {a b : Str} {t : Bool} (e : inS a b = t) (w : Q (.bl t) h) : Wo (Rs.of ((cmpV .In h (.str a) (.str b)).map .bl) h) Q E := by subst e; exact w
theorem p_notin {a b : Str} {t : Bool} (e : inS a b = t) (w : Q (.bl (!t)) h) : Wo (Rs.of ((cmpV .NotIn h (.str a) (.str b)).map .bl) h) Q E := by subst e; exact w
theorem p_idx0L {x : Vl} {xs : List Vl} (w : Q x h) : Wo (Rs.of (idxV h (.lst (x :: xs)) (.int 0)) h) Q E := by
  refine p_of (a := x) ?_ w
  show atI (x :: xs) 0 = _
  rw [atI_pos (by omega) (by simp)]
  rfl
theorem p_idx0T {x : Vl} {xs : List Vl} (w : Q x h) : Wo (Rs.of (idxV h (.tup (x :: xs)) (.int 0)) h) Q E := by
  refine p_of (a := x) ?_ w
  show atI (x :: xs) 0 = _
  rw [atI_pos (by omega) (by simp)]
  rfl
theorem p_idx0ML {α : Type} {f : α → Vl} {x : α} {xs : List α} (w : Q (f x) h) : Wo (Rs.of (idxV h (.lst ((x :: xs).map f)) (.int 0)) h) Q E := p_idx0L w
theorem p_idx0MT {α : Type} {f : α → Vl} {x : α} {xs : List α} (w : Q (f x) h) : Wo (Rs.of (idxV h (.tup ((x :: xs).map f)) (.int 0)) h) Q E := p_idx0T w
theorem p_idxML {α : Type} {f : α → Vl} {xs : List α} {i : Int} (h0 : 0 ≤ i) (h1 : i < xs.length) (w : ∀ x, xs[i.toNat]? = some x → x ∈ xs → Q (f x) h) : Wo (Rs.of (idxV h (.lst (xs.map f)) (.int i)) h) Q E := by
  have hl : i.toNat < xs.length := by omega
  refine p_of (a := f xs[i.toNat]) ?_ (w _ (List.getElem?_eq_getElem hl) (List.getElem_mem hl))
  show atI (xs.map f) i = _
  rw [atI_pos h0 (by rw [List.length_map]; exact h1), List.getElem?_map, List.getElem?_eq_getElem hl]
  rfl
theorem p_idxMT {α : Type} {f : α → Vl} {xs : List α} {i : Int} (h0 : 0 ≤ i) (h1 : i < xs.length) (w : ∀ x, xs[i.toNat]? = some x → x ∈ xs → Q (f x) h) : Wo (Rs.of (idxV h (.tup (xs.map f)) (.int i)) h) Q E := by
  have hl : i.toNat < xs.length := by omega
  refine p_of (a := f xs[i.toNat]) ?_ (w _ (List.getElem?_eq_getElem hl) (List.getElem_mem hl))
  show atI (xs.map f) i = _
  rw [atI_pos h0 (by rw [List.length_map]; exact h1), List.getElem?_map, List.getElem?_eq_getElem hl]
  rfl
/-- an item of a tuple, a list -/
theorem p_idxT {xs : List Vl} {i : Int} (h0 : 0 ≤ i) (h1 : i < xs.length) (w : ∀ x, xs[i.toNat]? = some x → x ∈ xs → Q x h) : Wo (Rs.of (idxV h (.tup xs) (.int i)) h) Q E := by
  have hl : i.toNat < xs.length := by omega
  refine p_of (a := xs[i.toNat]) ?_ (w _ (List.getElem?_eq_getElem hl) (List.getElem_mem hl))
  show atI xs i = _
  rw [atI_pos h0 h1, List.getElem?_eq_getElem hl]
theorem p_idxL {xs : List Vl} {i : Int} (h0 : 0 ≤ i) (h1 : i < xs.length) (w : ∀ x, xs[i.toNat]? = some x → x ∈ xs → Q x h) : Wo (Rs.of (idxV h (.lst xs) (.int i)) h) Q E := by
  have hl : i.toNat < xs.length := by omega
  refine p_of (a := xs[i.toNat]) ?_ (w _ (List.getElem?_eq_getElem hl) (List.getElem_mem hl))
  show atI xs i = _
  rw [atI_pos h0 h1, List.getElem?_eq_getElem hl]
end

/-! ### new objects -/
theorem trunc_app {h u : Hs} {v : Vl} (hv : okV h.length v = true) : trunc h v (h ++ u) = h := by
  unfold trunc
  split
  · rename_i z
    have : u = [] := List.length_eq_zero_iff.mp (by rw [List.length_append] at z; omega)
    rw [this, List.append_nil]
  · rw [hv, okPre_self]
    simp
theorem getI_app {h : Hs} {c : Str} {fs : List (Str × Vl)} : getI (h ++ [some (Ob.ins c fs)]) h.length = some (c, fs) := by
  unfold getI
  rw [List.getElem?_append_right (Nat.le_refl _), Nat.sub_self]
  rfl
theorem set_app {h : Hs} {a b : Option Ob} : (h ++ [a]).set h.length b = h ++ [b] := by
  rw [List.set_append_right _ _ (Nat.le_refl _), Nat.sub_self]
  rfl
section
variable {Q : Vl → Hs → Prop} {E : Vl → Hs → Prop} {T : Fl → Env → Hs → Prop} {h : Hs} {G : Gt}
theorem p_make {c : ClsI} {d : DefI} {vs ws us : List Vl} {ks : List Str} (hi : c.init = some d) (hf : c.frozen = true) (hb : bindV d (.ref h.length :: vs) ks ws = some us)
    (w : Wo (rD G d us (h ++ [some (.ins c.name [])])) (fun v h2 => v = .non ∧ ∃ fs, h2 = h ++ [some (.ins c.name fs)] ∧ okF h.length fs = true ∧ Q (.ins c.name fs) h) E) : Wo (mO G c vs ks ws h) Q E := by
  unfold mO makeV
  rw [hi]
  simp only [callD, hb]
  unfold rD at w
  rw [Wp_bind]
  refine w.mono ?_ (fun _ _ z => z)
  rintro v h2 ⟨rfl, fs, rfl, ok, q⟩
  simp only [hf, if_true, getI_app]
  show Q (.ins c.name fs) (trunc h (.ins c.name fs) ((h ++ [some (Ob.ins c.name fs)]).set h.length none))
  rw [set_app, trunc_app (by simpa [okV] using ok)]
  exact q
theorem p_setfld {c : Str} {fs : List (Str × Vl)} {f : Str} {v : Vl} {k : Hs → Rt} (hz : fs.length < 1000) (hf : G.fld c f = true) (w : WoR (k (h ++ [some (.ins c (putFl f v fs))])) T E) : WoR (itemK (setFldV G (h ++ [some (.ins c fs)]) (.ref h.length) f v) k) T E := by
  refine p_item (h' := h ++ [some (.ins c (putFl f v fs))]) ?_ w
  unfold setFldV
  simp only [getI_app, hz, hf, and_self, if_true, set_app]
theorem p_nxA {ρ : Env} {a b : Option Ob} (w : Q .non (h ++ [b])) : WoR (.ok .nx ρ (h ++ [b])) (retQ (h ++ [a]) Q) E := by
  show Q .non (trunc (h ++ [a]) .non (h ++ [b]))
  rw [trunc_le (by simp)]; exact w
/-- a field of an instance that rests -/
theorem p_fld {c : Str} {fs : List (Str × Vl)} {f : Str} {v : Vl} (hf : G.fld c f = true) (e : fs.lookup f = some v) (w : Q v h) : Wo (aV G (.ins c fs) f h) Q E := by
  unfold aV attrV
  simp only [hf, if_true, e]
  exact w
end

/-! ### names, words, stages -/
def LET : List Nat := [97, 98, 99, 100, 101, 102, 103, 104, 105, 106, 107, 108, 109, 110, 111, 112, 113, 114, 115, 116, 117, 118, 119, 121, 122]
def DIG : List Nat := [48, 49, 50, 51, 52, 53, 54, 55, 56, 57]
theorem let_cps : (Str.ofString "abcdefghijklmnopqrstuvwyz").cps.toList = LET := by decide +kernel
theorem dig_cps : (Str.ofString "0123456789").cps.toList = DIG := by decide +kernel
/-- the signs of a name -/
inductive IsN : List Nat → Prop
  | mk {c : Nat} {ds : List Nat} (hc : c ∈ LET) (hl : ds.length ≤ 3) (hd : ∀ d ∈ ds, d ∈ DIG) : IsN (c :: ds)
def sL (l : List Nat) : Vl := .str (S l)
def wordV (w : List (List Nat)) : Vl := .tup (w.map sL)
inductive Kd where
  | each (w : List (List Nat)) | keep (w : List (List Nat)) | drop (w : List (List Nat)) | whil (w : List (List Nat)) | frm (w : List (List Nat))
  | first (n : Int) | skip (n : Int) | every (k r : Int) | last (n : Int) | butl (n : Int) | turned
def Kd.nm : Kd → Str
  | .each _ => "each" | .keep _ => "keep" | .drop _ => "drop" | .whil _ => "while" | .frm _ => "from" | .first _ => "first" | .skip _ => "skip" | .every _ _ => "every" | .last _ => "last" | .butl _ => "but last" | .turned => "turned"
def Kd.dt : Kd → Vl
  | .each w => wordV w | .keep w => wordV w | .drop w => wordV w | .whil w => wordV w | .frm w => wordV w
  | .first n => .int n | .skip n => .int n | .every k r => .tup [.int k, .int r] | .last n => .int n | .butl n => .int n | .turned => .non
def Kd.wt : Kd → Int
  | .whil _ => 2 | .frm _ => 2 | .first n => 1 + n | .skip n => 1 + n | .every k r => k + r | .last n => 1 + n | .butl n => 1 + n | _ => 1
def Kd.list : Kd → Bool
  | .last _ => true | .butl _ => true | .turned => true | _ => false
def isWd (lo hi : Nat) (w : List (List Nat)) : Prop := lo ≤ w.length ∧ w.length ≤ hi ∧ ∀ l ∈ w, IsN l
def Kd.ok : Kd → Prop
  | .each w => isWd 0 3 w | .keep w => isWd 1 4 w | .drop w => isWd 1 4 w | .whil w => isWd 1 4 w | .frm w => isWd 1 4 w
  | .first n => 0 ≤ n ∧ n ≤ 9 | .skip n => 0 ≤ n ∧ n ≤ 9 | .every k r => (1 ≤ k ∧ k ≤ 9) ∧ 0 ≤ r ∧ r ≤ 9 | .last n => 1 ≤ n ∧ n ≤ 9 | .butl n => 1 ≤ n ∧ n ≤ 9 | .turned => True
structure Sg where
  k : Kd
  now : Bool
def Sg.ok (s : Sg) : Prop := s.k.ok ∧ (s.k.list = true → s.now = true)
/-- a stage of the program -/
def Sg.v (s : Sg) : Vl := .ins "Stage" [("fields", .tup [.str s.k.nm, s.k.dt, .bl s.now])]
end Wd

set_option Elab.async false
set_option linter.all false
set_option maxRecDepth 100000
namespace Wd
open PySem PySem.Spec PyProof.Rows L2

/-! ### data that can be shown and compared -/
mutual
def gdV : Vl → Bool
  | .non => true
  | .bl _ => true
  | .int i => decide (i.natAbs < 1000000000000)
  | .str s => PyData.strOk s
  | .tup xs => gdL xs
  | .lst xs => gdL xs
  | _ => false
termination_by structural x => x
def gdL : List Vl → Bool
  | [] => true
  | x :: xs => gdV x && gdL xs
termination_by structural x => x
end
mutual
def mzV : Vl → Nat
  | .int _ => 41
  | .str s => s.length
  | .tup xs => mzL xs
  | .lst xs => mzL xs
  | _ => 0
termination_by structural x => x
def mzL : List Vl → Nat
  | [] => 0
  | x :: xs => mzV x + 1 + mzL xs
termination_by structural x => x
end
mutual
def dpV : Vl → Nat
  | .tup xs => dpL xs + 1
  | .lst xs => dpL xs + 1
  | _ => 0
termination_by structural x => x
def dpL : List Vl → Nat
  | [] => 0
  | x :: xs => max (dpV x) (dpL xs)
termination_by structural x => x
end
theorem ofString_len (s : String) : (Str.ofString s).length = s.length := by
  rw [Str.ofString_eq_toList]
  simp only [Str.length, List.size_toArray, List.length_map]
  exact String.length_toList
theorem log2_lt40 {n : Nat} (h : n < 1000000000000) : n.log2 < 40 := by
  by_cases h0 : n = 0
  · subst h0; decide
  · exact (Nat.log2_lt h0).mpr (by omega)
structure Good (v : Vl) (d : PyData) : Prop where
  pd : toPD v = some d
  sh : d.showable = true
  cl : d.canLay0 = true
  is : d.intsShort 13 = true
  wt : d.weight ≤ mzV v
  dp : d.depth ≤ dpV v
structure GoodL (v : List Vl) (d : List PyData) : Prop where
  pd : toPDs v = some d
  sh : PyData.showableAll d = true
  cl : PyData.canLayAll0 d = true
  is : PyData.intsShortAll 13 d = true
  wt : PyData.weightAll d ≤ mzL v
  dp : PyData.depthAll d ≤ dpL v
mutual
theorem gd_ok : ∀ v : Vl, gdV v = true → ∃ d, Good v d
  | .non, _ => ⟨.none, rfl, rfl, rfl, rfl, by simp [PyData.weight], by simp [PyData.depth]⟩
  | .bl b, _ => ⟨.bool b, rfl, rfl, rfl, rfl, by simp [PyData.weight], by simp [PyData.depth]⟩
  | .int i, h => by
    have h' : i.natAbs < 1000000000000 := by simpa [gdV] using h
    have hl := log2_lt40 h'
    refine ⟨.int i, rfl, ?_, rfl, ?_, ?_, by simp [PyData.depth]⟩
    · simp only [PyData.showable, decide_eq_true_eq]; omega
    · have z := PySem.int_text_length_le10 (a := i) (k := 12) (by decide) (by omega)
      refine decide_eq_true ?_
      show (Str.ofString (toString i)).length ≤ 13
      rw [ofString_len]
      exact z
    · simp only [PyData.weight, mzV]; split <;> omega
  | .str s, h => by
    have h' : PyData.strOk s = true := by simpa [gdV] using h
    exact ⟨.str s, rfl, rfl, by simpa [PyData.canLay0] using h', rfl, by simp [PyData.weight, mzV, Str.length], by simp [PyData.depth]⟩
  | .tup xs, h => by
    obtain ⟨ds, g⟩ := gdL_ok xs (by simpa [gdV] using h)
    exact ⟨.tuple ds, by simp [toPD, g.pd], by simpa [PyData.showable] using g.sh, by simpa [PyData.canLay0] using g.cl, by simpa [PyData.intsShort] using g.is, by simpa [PyData.weight, mzV] using g.wt, by simpa [PyData.depth, dpV] using g.dp⟩
  | .lst xs, h => by
    obtain ⟨ds, g⟩ := gdL_ok xs (by simpa [gdV] using h)
    exact ⟨.list ds, by simp [toPD, g.pd], by simpa [PyData.showable] using g.sh, by simpa [PyData.canLay0] using g.cl, by simpa [PyData.intsShort] using g.is, by simpa [PyData.weight, mzV] using g.wt, by simpa [PyData.depth, dpV] using g.dp⟩
  | .ty _, h => by simp [gdV] at h
  | .cl _, h => by simp [gdV] at h
  | .ins _ _, h => by simp [gdV] at h
  | .exc _ _, h => by simp [gdV] at h
  | .dic _, h => by simp [gdV] at h
  | .ref _, h => by simp [gdV] at h
theorem gdL_ok : ∀ v : List Vl, gdL v = true → ∃ d, GoodL v d
  | [], _ => ⟨[], rfl, rfl, rfl, rfl, Nat.le_refl _, Nat.le_refl _⟩
  | x :: xs, h => by
    have h' : gdV x = true ∧ gdL xs = true := by simpa [gdL] using h
    obtain ⟨d, g⟩ := gd_ok x h'.1
    obtain ⟨ds, gs⟩ := gdL_ok xs h'.2
    refine ⟨d :: ds, by simp [toPDs, g.pd, gs.pd], by simp [PyData.showableAll, g.sh, gs.sh], by simp [PyData.canLayAll0, g.cl, gs.cl], by simp [PyData.intsShortAll, g.is, gs.is], ?_, ?_⟩
    · have := g.wt; have := gs.wt
      simp only [PyData.weightAll, mzL]; omega
    · have := g.dp; have := gs.dp
      simp only [PyData.depthAll, dpL]; omega
end
/-- the text of data -/
def shw (v : Vl) : Str := match toPD v with
  | some d => d.shown
  | none => ⟨#[]⟩
section
variable {Q : Vl → Hs → Prop} {E : Vl → Hs → Prop} {h : Hs} {v u : Vl}
theorem p_repr {isa : Isa} (g : gdV v = true) (m : mzV v ≤ 1048576) (d : dpV v ≤ 64) (w : Q (.str (shw v)) h) : Wo (Rs.of (bltV isa .repr [v] h) h) Q E := by
  obtain ⟨e, ge⟩ := gd_ok v g
  have h1 : e.layable0 = true := by
    have z1 := ge.wt
    have z2 := ge.dp
    simp only [PyData.layable0, ge.cl, Bool.true_and, Bool.and_eq_true, decide_eq_true_eq]
    omega
  have h2 : e.shown.length ≤ sizeLine := by
    have z := PyData.shown_le_of_layable0 h1 ge.is
    rw [sizeLine_eq]; omega
  have h3 : SeqAt.shaped e = true := SeqAt.shaped_of_layable h1
  refine p_of (a := .str (shw v)) ?_ w
  show (toPD v).bind shownD = _
  unfold shw
  rw [ge.pd]
  simp only [Option.bind_some, shownD, ge.sh, h2, h3, decide_true, Bool.and_self, if_true]
end
section
variable {Q : Str → Hs → Prop} {E : Vl → Hs → Prop} {h : Hs} {v : Vl}
theorem p_fmtR (g : gdV v = true) (m : mzV v ≤ 1048576) (d : dpV v ≤ 64) (w : Q (shw v) h) : Wo (Rs.of (fmtV 114 v) h) Q E := by
  obtain ⟨e, ge⟩ := gd_ok v g
  have h1 : e.layable0 = true := by
    have z1 := ge.wt
    have z2 := ge.dp
    simp only [PyData.layable0, ge.cl, Bool.true_and, Bool.and_eq_true, decide_eq_true_eq]
    omega
  have h2 : e.shown.length ≤ sizeLine := by
    have z := PyData.shown_le_of_layable0 h1 ge.is
    rw [sizeLine_eq]; omega
  have h3 : SeqAt.shaped e = true := SeqAt.shaped_of_layable h1
  refine p_of (a := shw v) ?_ w
  unfold fmtV shw
  rw [if_pos rfl, ge.pd]
  simp only [Option.bind_some, shownS, ge.sh, h2, h3, decide_true, Bool.and_self, if_true]
end
/-! ### lists of the small heap behind a purse -/
section
variable {Q : Vl → Hs → Prop} {E : Vl → Hs → Prop} {R : Vl → Hs → Prop} {h t : Hs} {v u : Vl} {p q : Pz} {o : Option Ob} {xs : List Vl} {G : Gt} {own : (List Vl → List Vl → Hs → Rs Vl) → Rs Vl} {blt : (List Vl → Hs → Rs Vl) → Rs Vl}
theorem p_ret0 {ρ : Env} (hv : okV 1 v = true) (w : R v (Pc q [])) : WoR (.ok (.rt v) ρ (Pc q t)) (retQ (Pc p []) R) E := by
  show R v (trunc (Pc p []) v (Pc q t))
  have e := Pc_trunc_app (p := p) (q := q) (t := []) (u := t) (v := v) hv
  rw [List.nil_append] at e
  rw [e]; exact w
theorem p_retNew {a b c : Int} {ρ : Env} (w : R (.ref 0) (Pc ⟨a, b, c⟩ [])) : WoR (.ok (.rt (.ref ([] : Hs).length)) ρ (([] : Hs) ++ [some (.lst [.int a, .int b, .int c])])) (retQ [] R) E := by
  show R (.ref 0) (trunc [] (.ref 0) (Pc ⟨a, b, c⟩ []))
  have e : trunc [] (.ref 0) (Pc ⟨a, b, c⟩ []) = Pc ⟨a, b, c⟩ [] := by
    unfold trunc
    rfl
  rw [e]; exact w
theorem p_append1 (w : Wo (blt fun vs h => bmV .append (.ref 1) vs h) Q E) : Wo (mV G "append" [] (.ref 1) (Pc p (some (.lst xs) :: t)) own blt) Q E := p_append (xs := xs) rfl w
theorem p_append2 (w : Wo (blt fun vs h => bmV .append (.ref 2) vs h) Q E) : Wo (mV G "append" [] (.ref 2) (Pc p (o :: some (.lst xs) :: t)) own blt) Q E := p_append (xs := xs) rfl w
theorem p_app1 (hz : xs.length < sizeLine) (w : Q .non (Pc p (some (.lst (xs ++ [v])) :: t))) : Wo (bmV .append (.ref 1) [v] (Pc p (some (.lst xs) :: t))) Q E := by
  refine Wp_eq (a := .non) (h := Pc p (some (.lst (xs ++ [v])) :: t)) ?_ w
  show (if xs.length < sizeLine then Rs.ok Vl.non _ else .no) = _
  rw [if_pos hz]; rfl
theorem p_app2 (hz : xs.length < sizeLine) (w : Q .non (Pc p (o :: some (.lst (xs ++ [v])) :: t))) : Wo (bmV .append (.ref 2) [v] (Pc p (o :: some (.lst xs) :: t))) Q E := by
  refine Wp_eq (a := .non) (h := Pc p (o :: some (.lst (xs ++ [v])) :: t)) ?_ w
  show (if xs.length < sizeLine then Rs.ok Vl.non _ else .no) = _
  rw [if_pos hz]; rfl
section
variable {α : Type} {f : α → Vl} {as : List α} {a : α}
theorem map_snoc : (as.map f) ++ [f a] = (as ++ [a]).map f := by simp
theorem p_app1M (hz : as.length < sizeLine) (w : Q .non (Pc p (some (.lst ((as ++ [a]).map f)) :: t))) : Wo (bmV .append (.ref 1) [f a] (Pc p (some (.lst (as.map f)) :: t))) Q E := p_app1 (by rw [List.length_map]; exact hz) (by rw [map_snoc]; exact w)
theorem p_app2M (hz : as.length < sizeLine) (w : Q .non (Pc p (o :: some (.lst ((as ++ [a]).map f)) :: t))) : Wo (bmV .append (.ref 2) [f a] (Pc p (o :: some (.lst (as.map f)) :: t))) Q E := p_app2 (by rw [List.length_map]; exact hz) (by rw [map_snoc]; exact w)
theorem atI_last {α : Type} {xs : List α} {x : α} : atI (xs ++ [x]) (-1) = some x := by
  unfold atI ixN
  rw [if_neg (by omega), if_pos (by simp; omega)]
  have e : ((-1 : Int) + ((xs ++ [x]).length : Nat)).toNat = xs.length := by simp; omega
  simp only [Option.bind_some, e]
  simp
theorem p_last1M (w : Q (f a) (Pc p (some (.lst ((as ++ [a]).map f)) :: t))) : Wo (Rs.of (idxV (Pc p (some (.lst ((as ++ [a]).map f)) :: t)) (.ref 1) (.int (-1))) (Pc p (some (.lst ((as ++ [a]).map f)) :: t))) Q E := by
  refine p_of (a := f a) ?_ w
  show atI ((as ++ [a]).map f) (-1) = _
  rw [← map_snoc]; exact atI_last
theorem p_last2M (w : Q (f a) (Pc p (o :: some (.lst ((as ++ [a]).map f)) :: t))) : Wo (Rs.of (idxV (Pc p (o :: some (.lst ((as ++ [a]).map f)) :: t)) (.ref 2) (.int (-1))) (Pc p (o :: some (.lst ((as ++ [a]).map f)) :: t))) Q E := by
  refine p_of (a := f a) ?_ w
  show atI ((as ++ [a]).map f) (-1) = _
  rw [← map_snoc]; exact atI_last
theorem p_idx1M {i : Int} (h0 : 0 ≤ i) (h1 : i < as.length) (w : ∀ a, as[i.toNat]? = some a → a ∈ as → Q (f a) (Pc p (some (.lst (as.map f)) :: t))) : Wo (Rs.of (idxV (Pc p (some (.lst (as.map f)) :: t)) (.ref 1) (.int i)) (Pc p (some (.lst (as.map f)) :: t))) Q E := p_idxML h0 h1 w
theorem p_idx2M {i : Int} (h0 : 0 ≤ i) (h1 : i < as.length) (w : ∀ a, as[i.toNat]? = some a → a ∈ as → Q (f a) (Pc p (o :: some (.lst (as.map f)) :: t))) : Wo (Rs.of (idxV (Pc p (o :: some (.lst (as.map f)) :: t)) (.ref 2) (.int i)) (Pc p (o :: some (.lst (as.map f)) :: t))) Q E := p_idxML h0 h1 w
end
end
theorem S_ok {l : List Nat} (h : ∀ c ∈ l, c < 1114112) : PyData.strOk (S l) = true := by
  unfold PyData.strOk S
  rw [← Array.all_toList]
  simp only [List.all_eq_true, decide_eq_true_eq]
  exact h
theorem isN_ok {l : List Nat} (h : IsN l) : PyData.strOk (S l) = true ∧ l.length ≤ 4 := by
  obtain ⟨hc, hl, hd⟩ := h
  rename_i c ds
  refine ⟨S_ok ?_, by simp; omega⟩
  intro d hm
  rcases List.mem_cons.mp hm with e | e
  · subst e
    have z : ∀ c ∈ LET, c < 1114112 := by decide
    exact z _ hc
  · have z : ∀ c ∈ DIG, c < 1114112 := by decide
    exact z _ (hd d e)
theorem word_gd {w : List (List Nat)} (h : ∀ l ∈ w, IsN l) : gdL (w.map sL) = true ∧ mzL (w.map sL) ≤ 5 * w.length ∧ dpL (w.map sL) = 0 := by
  induction w with
  | nil => exact ⟨rfl, Nat.le_refl _, rfl⟩
  | cons a r ih =>
    obtain ⟨i1, i2, i3⟩ := ih fun l hl => h l (List.mem_cons_of_mem _ hl)
    obtain ⟨o1, o2⟩ := isN_ok (h a (by simp))
    refine ⟨by simp [gdL, gdV, sL, o1, i1], ?_, by simp [dpL, dpV, sL, i3]⟩
    simp only [List.map_cons, mzL, mzV, sL, S_len, List.length_cons]
    omega
theorem kd_gd {kd : Kd} (h : kd.ok) : gdV kd.dt = true ∧ mzV kd.dt ≤ 100 ∧ dpV kd.dt ≤ 1 := by
  have hw : ∀ {lo hi : Nat} {w : List (List Nat)}, hi ≤ 4 → isWd lo hi w → gdV (wordV w) = true ∧ mzV (wordV w) ≤ 100 ∧ dpV (wordV w) ≤ 1 := by
    intro lo hi w h4 hw
    obtain ⟨z1, z2, z3⟩ := word_gd hw.2.2
    have := hw.2.1
    refine ⟨by simpa [wordV, gdV] using z1, by simp only [wordV, mzV]; omega, by simp only [wordV, dpV]; omega⟩
  cases kd <;> simp only [Kd.ok] at h <;> simp only [Kd.dt]
  case each => exact hw (by decide) h
  case keep => exact hw (by decide) h
  case drop => exact hw (by decide) h
  case whil => exact hw (by decide) h
  case frm => exact hw (by decide) h
  case every =>
    refine ⟨?_, by simp [mzV, mzL], by simp [dpV, dpL]⟩
    simp only [gdV, gdL, Bool.and_true, Bool.and_eq_true, decide_eq_true_eq]
    omega
  case turned => exact ⟨rfl, by decide, by decide⟩
  all_goals
    refine ⟨?_, by simp [mzV], by simp [dpV]⟩
    simp only [gdV, decide_eq_true_eq]
    omega
theorem nm_gd (kd : Kd) : PyData.strOk kd.nm = true ∧ kd.nm.length ≤ 8 := by cases kd <;> simp only [Kd.nm] <;> decide +kernel
end Wd

set_option Elab.async false
set_option linter.all false
set_option maxRecDepth 100000
namespace Wd
open PySem PySem.Spec PyProof.Rows L2

/-! ### f-texts, the text of integers -/
def txI (i : Int) : Str := Str.ofString (toString i)
theorem txI_len {i : Int} (h : i.natAbs < 1000000) : (txI i).length ≤ 7 := by
  have z := PySem.int_text_length_le10 (a := i) (k := 6) (by decide) (by omega)
  unfold txI
  rw [ofString_len]
  exact z
theorem lg_ok {i : Int} (h : i.natAbs < 1000000) : i.natAbs.log2 < 1920 := by
  have := log2_lt40 (n := i.natAbs) (by omega)
  omega
section
variable {Q : Str → Hs → Prop} {E : Vl → Hs → Prop} {h : Hs} {acc : Str} {fs : List (Hs → Rs Str)} {Qv : Vl → Hs → Prop}
theorem p_jN (w : Q acc h) : Wo (joinL [] acc h) Q E := w
theorem p_jg {f : Hs → Rs Str} {s : Str} (e : f h = .ok s h) (z : (acc ++ s).length ≤ sizeLine) (w : Wo (joinL fs (acc ++ s) h) Q E) : Wo (joinL (f :: fs) acc h) Q E := by
  simp only [joinL, e, Rs.bind_ok, z, if_true]
  exact w
theorem p_jl {s : Str} (z : (acc ++ s).length ≤ sizeLine) (w : Wo (joinL fs (acc ++ s) h) Q E) : Wo (joinL ((fun h => (Rs.ok s h : Rs Str)) :: fs) acc h) Q E := p_jg rfl z w
theorem p_jv {s : Str} (z : (acc ++ s).length ≤ sizeLine) (w : Wo (joinL fs (acc ++ s) h) Q E) : Wo (joinL ((fun h => Rs.of (fmtV (-1) (.str s)) h) :: fs) acc h) Q E := by
  have z2 : s.length ≤ sizeLine := by rw [Str.length_append] at z; omega
  refine p_jg (s := s) ?_ z w
  simp only [fmtV, if_true, z2]; rfl
theorem p_ji {i : Int} (hi : i.natAbs < 1000000) (z : (acc ++ txI i).length ≤ sizeLine) (w : Wo (joinL fs (acc ++ txI i) h) Q E) : Wo (joinL ((fun h => Rs.of (fmtV (-1) (.int i)) h) :: fs) acc h) Q E := by
  have z2 := lg_ok hi
  refine p_jg (s := txI i) ?_ z w
  simp only [fmtV, true_or, if_true, z2]; rfl
theorem p_jx {g : Hs → Rs Vl} {v : Vl} (e : g h = .ok v h) (w : Wo (joinL ((fun h => Rs.of (fmtV (-1) v) h) :: fs) acc h) Q E) : Wo (joinL ((fun h => (g h).bind fun v h => Rs.of (fmtV (-1) v) h) :: fs) acc h) Q E := by
  simp only [joinL] at w ⊢
  rw [e]
  exact w
theorem p_strI {isa : Isa} {i : Int} (hi : i.natAbs < 1000000) (w : Qv (.str (txI i)) h) : Wo (Rs.of (bltV isa .str [.int i] h) h) Qv E := by
  refine p_of (a := .str (txI i)) ?_ w
  have z2 := lg_ok hi
  show (if i.natAbs.log2 < 1920 then some (Vl.str (toString i : String)) else none) = _
  rw [if_pos z2]; rfl
theorem p_strS {isa : Isa} {s : Str} (w : Qv (.str s) h) : Wo (Rs.of (bltV isa .str [.str s] h) h) Qv E := w
/-- a built-in function of an own instance at rest -/
theorem p_bOS {k : Nat} {T : Txt} {Wf : Nat} {b : Blt} {nm c : Str} {fs : List (Str × Vl)} {d : DefI} {h : Hs} (hn : ownN b = some nm) (hs : (mkG T Wf (k + 1)).hasS c nm = true)
    (hd : (mkG T Wf (k + 1)).spec c nm [.ins c fs] h = runDef (mkG T Wf k) Wf d [.ins c fs] h)
    (w : Wo (runDef (mkG T Wf k) Wf d [.ins c fs] h) (fun v h' => Wo (ownR b v h') Qv noE) noE) : Wo (bO (mkG T Wf (k + 1)) b (.ins c fs) h) Qv E := by
  unfold bO
  have e : bltG (mkG T Wf (k + 1)) b [.ins c fs] h = (runDef (mkG T Wf k) Wf d [.ins c fs] h).calm.bind fun v h => ownR b v h := by
    unfold bltG
    simp only [hn, insOf, hs, if_true, hd]
  rw [e]
  cases er : runDef (mkG T Wf k) Wf d [.ins c fs] h with
  | ok v h' =>
    rw [er] at w
    simp only [Rs.calm, Rs.bind_ok]
    refine Wo.mono (show Wo (ownR b v h') Qv noE from w) (fun _ _ z => z) (fun _ _ z => z.elim)
  | rz _ _ => rw [er] at w; exact w.elim
  | no => rw [er] at w; exact w.elim
end
section
variable {E : Vl → Hs → Prop} {h : Hs} {Qv : Vl → Hs → Prop}
theorem p_strT {isa : Isa} {xs : List Vl} (g : gdL xs = true) (m : mzL xs ≤ 1000) (d : dpL xs ≤ 19) (w : (shw (.tup xs)).length ≤ 15728653 → Qv (.str (shw (.tup xs))) h) : Wo (Rs.of (bltV isa .str [.tup xs] h) h) Qv E := by
  obtain ⟨e, ge⟩ := gd_ok (.tup xs) (by simpa [gdV] using g)
  have z1 := ge.wt
  have z2 := ge.dp
  simp only [mzV, dpV] at z1 z2
  have h1 : e.layable0 = true := by
    simp only [PyData.layable0, ge.cl, Bool.true_and, Bool.and_eq_true, decide_eq_true_eq]
    omega
  have h2' := PyData.shown_le_of_layable0 h1 ge.is
  have h2 : e.shown.length ≤ sizeLine := by
    rw [sizeLine_eq]; omega
  have h3 : SeqAt.shaped e = true := SeqAt.shaped_of_layable h1
  have e1 : shw (.tup xs) = e.shown := by unfold shw; rw [ge.pd]
  rw [e1] at w
  refine p_of (a := .str e.shown) ?_ (w h2')
  show ((toPD (.tup xs)).bind fun d => if d.depth ≤ 20 then shownD d else none) = _
  rw [ge.pd]
  have h4 : e.depth ≤ 20 := by omega
  simp only [Option.bind_some, h4, if_true, shownD, ge.sh, h2, h3, decide_true, Bool.and_self]
end
/-! ### the lines of stages -/
def ap (s : Str) (l : List Nat) : Str := S l ++ (("(" : Str) ++ (s ++ (")" : Str)))
def apW (w : List (List Nat)) (x : Str) : Str := w.reverse.foldl ap x
theorem isN_len {l : List Nat} (h : IsN l) : l.length ≤ 4 := (isN_ok h).2
theorem ll_o : (Str.ofString "(").length = 1 := by decide +kernel
theorem ll_c : (Str.ofString ")").length = 1 := by decide +kernel
theorem ap_len (s : Str) {l : List Nat} (h : IsN l) : (ap s l).length ≤ s.length + 6 := by
  unfold ap
  have := isN_len h
  simp only [Str.length_append, S_len, ll_o, ll_c]
  omega
theorem apF_len {w : List (List Nat)} : ∀ {x : Str}, (∀ l ∈ w, IsN l) → (w.foldl ap x).length ≤ x.length + 6 * w.length := by
  induction w with
  | nil => intro x _; exact Nat.le_add_right _ _
  | cons a r ih =>
    intro x h
    have h1 := ap_len x (h a (by simp))
    have h2 := ih (x := ap x a) fun l hl => h l (List.mem_cons_of_mem _ hl)
    simp only [List.foldl_cons, List.length_cons]
    omega
theorem apW_len {w : List (List Nat)} {x : Str} (h : ∀ l ∈ w, IsN l) : (apW w x).length ≤ x.length + 6 * w.length := by
  have := apF_len (w := w.reverse) (x := x) fun l hl => h l (List.mem_reverse.mp hl)
  rw [List.length_reverse] at this
  exact this
def XR : Str := "x"
def cpS : Kd → Str
  | .each w => apW w "x" ++ (" for x in rows" : Str)
  | .keep w => ("x for x in rows if " : Str) ++ apW w "x"
  | .drop w => ("x for x in rows if not " : Str) ++ apW w "x"
  | .whil w => ("takewhile(lambda x: " : Str) ++ (apW w "x" ++ (", rows)" : Str))
  | .frm w => ("dropwhile(lambda x: " : Str) ++ (apW w "x" ++ (", rows)" : Str))
  | .first n => ("islice(rows, " : Str) ++ (txI n ++ (")" : Str))
  | .skip n => ("islice(rows, " : Str) ++ (txI n ++ (", None)" : Str))
  | .every k r => ("islice(rows, " : Str) ++ (txI r ++ ((", None, " : Str) ++ (txI k ++ (")" : Str))))
  | _ => ⟨#[]⟩
def Kd.cmp : Kd → Bool
  | .each _ => true | .keep _ => true | .drop _ => true | _ => false
def lineS (kd : Kd) (b : Bool) : Str := match kd with
  | .turned => ("rows = list(rows)[::-1]" : Str)
  | .last n => ("rows = list(rows)[-" : Str) ++ (txI n ++ (":]" : Str))
  | .butl n => ("rows = list(rows)[:-" : Str) ++ (txI n ++ ("]" : Str))
  | kd => if kd.cmp then (if b then ("rows = [" : Str) ++ (cpS kd ++ ("]" : Str)) else ("rows = (" : Str) ++ (cpS kd ++ (")" : Str)))
    else if b then ("rows = list(" : Str) ++ (cpS kd ++ (")" : Str)) else ("rows = " : Str) ++ cpS kd
theorem nil_app (a : Str) : (⟨#[]⟩ : Str) ++ a = a := Str.empty_append a
theorem nil_len : (⟨#[]⟩ : Str).length = 0 := rfl
theorem li_0 : (Str.ofString "rows = list(rows)[::-1]").length = 23 := by decide +kernel
theorem li_1 : (Str.ofString "rows = list(rows)[-").length = 19 := by decide +kernel
theorem li_2 : (Str.ofString ":]").length = 2 := by decide +kernel
theorem li_3 : (Str.ofString "rows = list(rows)[:-").length = 20 := by decide +kernel
theorem li_4 : (Str.ofString "]").length = 1 := by decide +kernel
theorem li_5 : (Str.ofString "rows = [").length = 8 := by decide +kernel
theorem li_6 : (Str.ofString "rows = (").length = 8 := by decide +kernel
theorem li_7 : (Str.ofString "rows = list(").length = 12 := by decide +kernel
theorem li_8 : (Str.ofString "rows = ").length = 7 := by decide +kernel
theorem li_9 : (Str.ofString " for x in rows").length = 14 := by decide +kernel
theorem li_10 : (Str.ofString "x for x in rows if ").length = 19 := by decide +kernel
theorem li_11 : (Str.ofString "x for x in rows if not ").length = 23 := by decide +kernel
theorem li_12 : (Str.ofString "takewhile(lambda x: ").length = 20 := by decide +kernel
theorem li_13 : (Str.ofString "dropwhile(lambda x: ").length = 20 := by decide +kernel
theorem li_14 : (Str.ofString ", rows)").length = 7 := by decide +kernel
theorem li_15 : (Str.ofString "islice(rows, ").length = 13 := by decide +kernel
theorem li_16 : (Str.ofString ", None)").length = 7 := by decide +kernel
theorem li_17 : (Str.ofString ", None, ").length = 8 := by decide +kernel
theorem li_18 : (Str.ofString "not ").length = 4 := by decide +kernel
theorem li_19 : (Str.ofString "").length = 0 := by decide +kernel
theorem li_20 : (Str.ofString ", None").length = 6 := by decide +kernel
theorem li_21 : (Str.ofString "takewhile").length = 9 := by decide +kernel
theorem li_22 : (Str.ofString "dropwhile").length = 9 := by decide +kernel
theorem li_23 : (Str.ofString "(lambda x: ").length = 11 := by decide +kernel
theorem li_24 : (Str.ofString ", rows").length = 6 := by decide +kernel
theorem li_25 : (Str.ofString "))").length = 2 := by decide +kernel
theorem li_26 : (Str.ofString "x").length = 1 := by decide +kernel
theorem lj_0 : Str.ofString ", None)" = Str.ofString ", None" ++ Str.ofString ")" := by decide +kernel
theorem lj_1 : Str.ofString "))" = Str.ofString ")" ++ Str.ofString ")" := by decide +kernel
theorem lj_2 : Str.ofString ", rows)" = Str.ofString ", rows" ++ Str.ofString ")" := by decide +kernel
theorem lj_3 : Str.ofString "takewhile(lambda x: " = Str.ofString "takewhile" ++ Str.ofString "(lambda x: " := by decide +kernel
theorem lj_4 : Str.ofString "dropwhile(lambda x: " = Str.ofString "dropwhile" ++ Str.ofString "(lambda x: " := by decide +kernel
theorem lj_5 : Str.ofString "x for x in rows if not " = Str.ofString "x for x in rows if " ++ Str.ofString "not " := by decide +kernel
theorem lj_6 : Str.ofString "" = ⟨#[]⟩ := by decide +kernel
end Wd

set_option Elab.async false
set_option linter.all false
set_option maxRecDepth 100000
namespace Wd
open PySem PySem.Spec PyProof.Rows L2

/-! ### steps by instances -/
/-- g is shown by n -/
class St (g : Prop) (n : outParam Prop) : Prop where imp : n → g
/-- .. with a side condition -/
class StC (g : Prop) (c : outParam Prop) (n : outParam Prop) : Prop where imp : c → n → g
/-- a def is opened -/
class Un (g : Prop) (n : outParam Prop) : Prop where imp : n → g
/-- a target's binding -/
class Bd (o : Option Env) (r : outParam Env) : Prop where eq : o = some r
abbrev CL := Str → List Vl → List Str → List Vl → Hs → Rs Vl
abbrev ME := Str → Str → List Vl → List Str → List Vl → Hs → Rs Vl
abbrev AT_ := Str → Str → Vl → Hs → Rs Vl
abbrev SP := Str → Str → List Vl → Hs → Rs Vl
/-! sealed: what an outcome does -/
@[irreducible] def Wp {α : Type} (m : Rs α) (Q : α → Hs → Prop) (E : Vl → Hs → Prop) : Prop := Wo m Q E
@[irreducible] def WpR (r : Rt) (Q : Fl → Env → Hs → Prop) (E : Vl → Hs → Prop) : Prop := WoR r Q E
theorem Wp_o {α : Type} {m : Rs α} {Q : α → Hs → Prop} {E : Vl → Hs → Prop} : Wp m Q E = Wo m Q E := by unfold Wp; rfl
theorem WpR_o {r : Rt} {Q : Fl → Env → Hs → Prop} {E : Vl → Hs → Prop} : WpR r Q E = WoR r Q E := by unfold WpR; rfl
/-- statements, with what follows -/
@[irreducible] def Bk (G : Gt) (n : Nat) (st : St0) (ss : List Stmt) (ρ : Env) (h : Hs) (k : Env → Hs → Rt) : Rt := blkK (evSK G 200 n st) ss ρ h k
theorem Bk_cons {G : Gt} {n : Nat} {st : St0} {t t' : List Stmt} {s : Stmt} (e : t = s :: t') {ρ : Env} {h : Hs} {k : Env → Hs → Rt} : Bk G n st t ρ h k = evSK G 200 n st s ρ h fun r h => Bk G n st t' r h k := by
  subst e
  unfold Bk
  rfl
theorem Bk_one {G : Gt} {n : Nat} {st : St0} {t : List Stmt} {s : Stmt} (e : t = [s]) {ρ : Env} {h : Hs} {k : Env → Hs → Rt} : Bk G n st t ρ h k = evSK G 200 n st s ρ h k := by
  subst e
  unfold Bk
  rfl
def nmO (o : Option Vl) (h : Hs) : Rs Vl := match getS [o] (some 0) with
  | some v => .ok v h
  | none => .no
def nmOF (o : Option Vl) (h : Hs) : Rs Vl := match getS [o] (some 0) with
  | some v => freeze h v
  | none => .no
def augO (o : Option Vl) (f : Vl → Rt) : Rt := match getS [o] (some 0) with
  | some v => f v
  | none => .no
def jK (acc s : Str) (fs : List (Hs → Rs Str)) (h : Hs) : Rs Str := if (acc ++ s).length ≤ sizeLine then joinL fs (acc ++ s) h else .no
theorem joinL_jK {f : Hs → Rs Str} {fs : List (Hs → Rs Str)} {acc : Str} {h : Hs} : joinL (f :: fs) acc h = (f h).bind fun s h => jK acc s fs h := rfl
def bodyS : Stmt → List Stmt
  | .If _ a _ _ => a
  | .For _ _ a _ _ => a
  | .While _ a _ _ => a
  | _ => []
/-- a text that a statement stores -/
def asgS : Stmt → Vl
  | .Assign _ (.Constant (.str s) _ _) _ => .str s
  | _ => .non
def elseS : Stmt → List Stmt
  | .If _ _ b _ => b
  | _ => []
section
variable {α β : Type} {Q : α → Hs → Prop} {E : Vl → Hs → Prop} {T : Fl → Env → Hs → Prop} {R : Vl → Hs → Prop} {h0 h : Hs} {ρ : Env} {m : Rs β} {x y : Rt} {v : Vl}
instance {f : β → Hs → Rs α} : St (Wp (m.bind f) Q E) (Wp m (fun a h => Wp (f a h) Q E) E) := ⟨by (try simp only [Wp_o, WpR_o]); exact (p_bind)⟩
instance {f : β → Hs → Rt} : St (WpR (m.st ρ f) T E) (Wp m (fun a h => WpR (f a h) T E) E) := ⟨by (try simp only [Wp_o, WpR_o]); exact (p_st)⟩
instance {a : α} : St (Wp (.ok a h) Q E) (Q a h) := ⟨by (try simp only [Wp_o, WpR_o]); exact (p_ok)⟩
instance {a : α} {p : Pz} {v : Vl} {q : Pz} {t : Hs} : St (Wp (.ok a (trunc (Pc p t) v (Pc q t))) Q E) (Q a (Pc q t)) := ⟨by (try simp only [Wp_o, WpR_o]); exact (p_okT)⟩
instance {a : α} {v : Vl} : St (Wp (.ok a (trunc h v h)) Q E) (Q a h) := ⟨by (try simp only [Wp_o, WpR_o]); exact (p_okS)⟩
instance {e : Vl} : St (Wp (.rz e h : Rs α) Q E) (E e h) := ⟨by (try simp only [Wp_o, WpR_o]); exact (fun w => w)⟩
instance : St (Wp (endR h0 x) R E) (WpR x (retQ h0 R) (retE h0 E)) := ⟨by (try simp only [Wp_o, WpR_o]); exact (p_end)⟩
instance {k : Env → Hs → Rt} : St (WpR (thenR x k) T E) (WpR x (thenQ k T E) E) := ⟨by (try simp only [Wp_o, WpR_o]); exact (p_then)⟩
instance {k : Env → Hs → Rt} : St (thenQ k T E .nx ρ h) (WpR (k ρ h) T E) := ⟨by (try simp only [Wp_o, WpR_o]); exact (p_thn)⟩
instance {f : Fl} : St (WpR (.ok f ρ h) T E) (T f ρ h) := ⟨by (try simp only [Wp_o, WpR_o]); exact (fun w => w)⟩
instance {k : Env → Hs → Rt} : St (WpR (.ok .nx ρ h) (thenQ k T E) E) (WpR (k ρ h) T E) := ⟨by (try simp only [Wp_o, WpR_o]); exact (p_tnx)⟩
instance {k : Env → Hs → Rt} : St (WpR (.ok (.rt v) ρ h) (thenQ k T E) E) (T (.rt v) ρ h) := ⟨by (try simp only [Wp_o, WpR_o]); exact (p_trt)⟩
instance {k : Env → Hs → Rt} : St (thenQ k T E (.rt v) ρ h) (T (.rt v) ρ h) := ⟨by (try simp only [Wp_o, WpR_o]); exact (fun w => w)⟩
instance {k : Env → Hs → Rt} : St (thenQ k T E .bk ρ h) (T .bk ρ h) := ⟨by (try simp only [Wp_o, WpR_o]); exact (fun w => w)⟩
instance {k : Env → Hs → Rt} : St (thenQ k T E .ct ρ h) (T .ct ρ h) := ⟨by (try simp only [Wp_o, WpR_o]); exact (fun w => w)⟩
instance {P : Env → Hs → Prop} : St (loopQ P T .nx ρ h) (P ρ h) := ⟨by (try simp only [Wp_o, WpR_o]); exact (fun w => w)⟩
instance {P : Env → Hs → Prop} : St (loopQ P T .ct ρ h) (P ρ h) := ⟨by (try simp only [Wp_o, WpR_o]); exact (fun w => w)⟩
instance {P : Env → Hs → Prop} : St (loopQ P T .bk ρ h) (T .nx ρ h) := ⟨by (try simp only [Wp_o, WpR_o]); exact (fun w => w)⟩
instance {P : Env → Hs → Prop} : St (loopQ P T (.rt v) ρ h) (T (.rt v) ρ h) := ⟨by (try simp only [Wp_o, WpR_o]); exact (fun w => w)⟩
/-- what a def hands back -/
instance : St (retQ h0 R (.rt v) ρ h) (R v (trunc h0 v h)) := ⟨by (try simp only [Wp_o, WpR_o]); exact (fun w => w)⟩
instance : St (retQ h0 R .nx ρ h) (R .non (trunc h0 .non h)) := ⟨by (try simp only [Wp_o, WpR_o]); exact (fun w => w)⟩
instance : St (retQ h R (.rt v) ρ h) (R v h) := ⟨by (try simp only [Wp_o, WpR_o]); exact (fun w => by show R v (trunc h v h); rw [trunc_self]; exact w)⟩
instance : St (retQ h R .nx ρ h) (R .non h) := ⟨by (try simp only [Wp_o, WpR_o]); exact (fun w => by show R .non (trunc h .non h); rw [trunc_self]; exact w)⟩
instance {p q : Pz} {t : Hs} : St (retQ (Pc p t) R (.rt v) ρ (Pc q t)) (R v (Pc q t)) := ⟨by (try simp only [Wp_o, WpR_o]); exact (fun w => p_retP (ρ := ρ) (E := noE) w)⟩
instance {p q : Pz} {t : Hs} : St (retQ (Pc p t) R .nx ρ (Pc q t)) (R .non (Pc q t)) := ⟨by (try simp only [Wp_o, WpR_o]); exact (fun w => p_nxP (ρ := ρ) (E := noE) w)⟩
instance {e : Vl} : St (retE h E e h) (E e h) := ⟨by (try simp only [Wp_o, WpR_o]); exact (fun w => by show E e (trunc h e h); rw [trunc_self]; exact w)⟩
/-- names -/
instance : St (Wp (nmO (some v) h) R E) (R v h) := ⟨by (try simp only [Wp_o, WpR_o]); exact (fun w => w)⟩
instance : St (Wp (nmOF (some v) h) R E) (Wp (freeze h v) R E) := ⟨by (try simp only [Wp_o, WpR_o]); exact (fun w => w)⟩
instance {f : Vl → Rt} : St (WpR (augO (some v) f) T E) (WpR (f v) T E) := ⟨by (try simp only [Wp_o, WpR_o]); exact (fun w => w)⟩
/-- truth -/
instance {a b : Rs α} : St (Wp (if true = true then a else b) Q E) (Wp a Q E) := ⟨fun w => w⟩
instance {a b : Rs α} : St (Wp (if false = true then a else b) Q E) (Wp b Q E) := ⟨fun w => w⟩
instance : St (WpR (if true = true then x else y) T E) (WpR x T E) := ⟨fun w => w⟩
instance : St (WpR (if false = true then x else y) T E) (WpR y T E) := ⟨fun w => w⟩
instance {c : Bool} {a b : Rs α} : St (Wp (if (!c) = true then a else b) Q E) (Wp (if c = true then b else a) Q E) := ⟨by (try simp only [Wp_o, WpR_o]); exact (p_n)⟩
instance {c : Bool} : St (WpR (if (!c) = true then x else y) T E) (WpR (if c = true then y else x) T E) := ⟨by (try simp only [Wp_o, WpR_o]); exact (p_nR)⟩
instance {b : Bool} {Qb : Bool → Hs → Prop} : St (Wp (testOf h (.bl b)) Qb E) (Qb b h) := ⟨by (try simp only [Wp_o, WpR_o]); exact (fun w => w)⟩
instance {Qb : Bool → Hs → Prop} : St (Wp (testOf h .non) Qb E) (Qb false h) := ⟨by (try simp only [Wp_o, WpR_o]); exact (fun w => w)⟩
instance {i : Int} {Qb : Bool → Hs → Prop} : St (Wp (testOf h (.int i)) Qb E) (Qb (i != 0) h) := ⟨by (try simp only [Wp_o, WpR_o]); exact (fun w => w)⟩
instance {xs : List Vl} {Qb : Bool → Hs → Prop} : St (Wp (testOf h (.tup xs)) Qb E) (Qb (!xs.isEmpty) h) := ⟨by (try simp only [Wp_o, WpR_o]); exact (fun w => w)⟩
instance {xs : List Vl} {Qb : Bool → Hs → Prop} : St (Wp (testOf h (.lst xs)) Qb E) (Qb (!xs.isEmpty) h) := ⟨by (try simp only [Wp_o, WpR_o]); exact (fun w => w)⟩
end
section
variable {R : Vl → Hs → Prop} {E : Vl → Hs → Prop} {h h1 : Hs} {v : Vl} {i j : Int} {isa : Isa} {Q : List Vl → Hs → Prop}
/-- numbers -/
instance {α : Type} {a : α} {Q : α → Hs → Prop} : St (Wp (Rs.of (some a) h) Q E) (Q a h) := ⟨by (try simp only [Wp_o, WpR_o]); exact (fun w => w)⟩
instance {α β : Type} {a : α} {f : α → β} {Q : β → Hs → Prop} : St (Wp (Rs.of ((some a).map f) h) Q E) (Q (f a) h) := ⟨by (try simp only [Wp_o, WpR_o]); exact (fun w => w)⟩
instance : St (Wp (Rs.of (binV .Add (.int i) (.int j)) h) R E) (R (.int (i + j)) h) := ⟨by (try simp only [Wp_o, WpR_o]); exact (fun w => w)⟩
instance : St (Wp (Rs.of (binV .Sub (.int i) (.int j)) h) R E) (R (.int (i - j)) h) := ⟨by (try simp only [Wp_o, WpR_o]); exact (fun w => w)⟩
instance : StC (Wp (Rs.of (binV .Mod (.int i) (.int j)) h) R E) (0 < j) (R (.int (i % j)) h) := ⟨by (try simp only [Wp_o, WpR_o]); exact (p_mod)⟩
instance : StC (Wp (Rs.of (binV .FloorDiv (.int i) (.int j)) h) R E) (0 < j ∧ j < 4611686018427387904) (R (.int (i / j)) h) := ⟨by (try simp only [Wp_o, WpR_o]); exact (fun c => p_fdiv c.1 c.2)⟩
instance : StC (Wp (Rs.of (binV .Mult (.int i) (.int j)) h) R E) ((-18446744073709551616 < i ∧ i < 18446744073709551616) ∨ (-18446744073709551616 < j ∧ j < 18446744073709551616)) (R (.int (i * j)) h) := ⟨by (try simp only [Wp_o, WpR_o]); exact (p_mul)⟩
instance : StC (Wp (Rs.of (bltV isa .divmod [.int i, .int j] h) h) R E) (0 < j ∧ j < 1073741824) (R (.tup [.int (i / j), .int (i % j)]) h) := ⟨by (try simp only [Wp_o, WpR_o]); exact (fun c => p_divmod c.1 c.2)⟩
instance : St (Wp (Rs.of ((cmpV .Lt h1 (.int i) (.int j)).map .bl) h) R E) (R (.bl (decide (i < j))) h) := ⟨by (try simp only [Wp_o, WpR_o]); exact (fun w => w)⟩
instance : St (Wp (Rs.of ((cmpV .LtE h1 (.int i) (.int j)).map .bl) h) R E) (R (.bl (decide (i ≤ j))) h) := ⟨by (try simp only [Wp_o, WpR_o]); exact (fun w => w)⟩
instance : St (Wp (Rs.of ((cmpV .Gt h1 (.int i) (.int j)).map .bl) h) R E) (R (.bl (decide (j < i))) h) := ⟨by (try simp only [Wp_o, WpR_o]); exact (fun w => w)⟩
instance : St (Wp (Rs.of ((cmpV .GtE h1 (.int i) (.int j)).map .bl) h) R E) (R (.bl (decide (j ≤ i))) h) := ⟨by (try simp only [Wp_o, WpR_o]); exact (fun w => w)⟩
instance : St (Wp (Rs.of ((cmpV .Eq h1 (.int i) (.int j)).map .bl) h) R E) (R (.bl (decide (i = j))) h) := ⟨by (try simp only [Wp_o, WpR_o]); exact (fun w => w)⟩
instance : St (Wp (Rs.of ((cmpV .NotEq h1 (.int i) (.int j)).map .bl) h) R E) (R (.bl (!decide (i = j))) h) := ⟨by (try simp only [Wp_o, WpR_o]); exact (fun w => w)⟩
instance {s t : Str} : St (Wp (Rs.of ((cmpV .Eq h1 (.str s) (.str t)).map .bl) h) R E) (R (.bl (decide (s = t))) h) := ⟨by (try simp only [Wp_o, WpR_o]); exact (fun w => w)⟩
instance {s t : Str} : St (Wp (Rs.of ((cmpV .NotEq h1 (.str s) (.str t)).map .bl) h) R E) (R (.bl (!decide (s = t))) h) := ⟨by (try simp only [Wp_o, WpR_o]); exact (fun w => w)⟩
instance {Qb : Bool → Hs → Prop} : St (Wp (Rs.of (cmpV .Lt h1 (.int i) (.int j)) h) Qb E) (Qb (decide (i < j)) h) := ⟨by (try simp only [Wp_o, WpR_o]); exact (fun w => w)⟩
instance {Qb : Bool → Hs → Prop} : St (Wp (Rs.of (cmpV .LtE h1 (.int i) (.int j)) h) Qb E) (Qb (decide (i ≤ j)) h) := ⟨by (try simp only [Wp_o, WpR_o]); exact (fun w => w)⟩
instance {Qb : Bool → Hs → Prop} : St (Wp (Rs.of (cmpV .Gt h1 (.int i) (.int j)) h) Qb E) (Qb (decide (j < i)) h) := ⟨by (try simp only [Wp_o, WpR_o]); exact (fun w => w)⟩
instance {Qb : Bool → Hs → Prop} : St (Wp (Rs.of (cmpV .GtE h1 (.int i) (.int j)) h) Qb E) (Qb (decide (j ≤ i)) h) := ⟨by (try simp only [Wp_o, WpR_o]); exact (fun w => w)⟩
instance {u : Vl} : St (Wp (Rs.of ((cmpV .Is h1 u .non).map .bl) h) R E) (R (.bl (isNon u)) h) := ⟨by (try simp only [Wp_o, WpR_o]); exact (fun w => w)⟩
instance {u : Vl} : St (Wp (Rs.of ((cmpV .IsNot h1 u .non).map .bl) h) R E) (R (.bl (!isNon u)) h) := ⟨by (try simp only [Wp_o, WpR_o]); exact (fun w => w)⟩
instance : St (Wp (Rs.of (bltV isa .int [.int i] h) h) R E) (R (.int i) h) := ⟨by (try simp only [Wp_o, WpR_o]); exact (fun w => w)⟩
instance : St (Wp (Rs.of (bltV isa .abs [.int i] h) h) R E) (R (.int i.natAbs) h) := ⟨by (try simp only [Wp_o, WpR_o]); exact (p_abs)⟩
instance : St (Wp (Rs.of (bltV isa .min [.int i, .int j] h) h) R E) (R (.int (min i j)) h) := ⟨by (try simp only [Wp_o, WpR_o]); exact (p_min)⟩
instance : St (Wp (Rs.of (bltV isa .max [.int i, .int j] h) h) R E) (R (.int (max i j)) h) := ⟨by (try simp only [Wp_o, WpR_o]); exact (p_max)⟩
instance : StC (Wp (Rs.of (rangeV [.int j]) h) Q E) (-4611686018427387904 ≤ j ∧ j < 4611686018427387904) (Q (intsV 0 j.toNat) h) := ⟨by (try simp only [Wp_o, WpR_o]); exact (fun c => p_rng c.1 c.2)⟩
/-- texts -/
instance {s t : Str} : StC (Wp (Rs.of (binV .Add (.str s) (.str t)) h) R E) (s.length + t.length ≤ sizeLine) (R (.str (s ++ t)) h) := ⟨by (try simp only [Wp_o, WpR_o]); exact (p_adds)⟩
instance {l m : List Nat} : StC (Wp (Rs.of (binV .Add (.str (S l)) (.str (S m))) h) R E) (l.length + m.length ≤ sizeLine) (R (.str (S (l ++ m))) h) := ⟨by (try simp only [Wp_o, WpR_o]); exact (fun c w => p_adds (by rw [S_len, S_len]; exact c) (by rw [S_app]; exact w))⟩
instance {s t : List Vl} : StC (Wp (Rs.of (binV .Add (.tup s) (.tup t)) h) R E) (s.length + t.length ≤ sizeLine) (R (.tup (s ++ t)) h) := ⟨by (try simp only [Wp_o, WpR_o]); exact (p_addt)⟩
instance {s t : List Vl} : StC (Wp (Rs.of (binV .Add (.lst s) (.lst t)) h) R E) (s.length + t.length ≤ sizeLine) (R (.lst (s ++ t)) h) := ⟨by (try simp only [Wp_o, WpR_o]); exact (p_addl)⟩
instance {l : List Nat} : StC (Wp (Rs.of (bltV isa .len [.str (S l)] h) h) R E) (l.length ≤ sizeLine) (R (.int l.length) h) := ⟨by (try simp only [Wp_o, WpR_o]); exact (p_lenS)⟩
instance {xs : List Vl} : St (Wp (Rs.of (bltV isa .len [.tup xs] h) h) R E) (R (.int xs.length) h) := ⟨by (try simp only [Wp_o, WpR_o]); exact (p_lenT)⟩
instance {xs : List Vl} : St (Wp (Rs.of (bltV isa .len [.lst xs] h) h) R E) (R (.int xs.length) h) := ⟨by (try simp only [Wp_o, WpR_o]); exact (p_lenL)⟩
instance {α : Type} {f : α → Vl} {xs : List α} : St (Wp (Rs.of (bltV isa .len [.lst (xs.map f)] h) h) R E) (R (.int xs.length) h) := ⟨by (try simp only [Wp_o, WpR_o]); exact (p_lenML)⟩
instance {α : Type} {f : α → Vl} {xs : List α} : St (Wp (Rs.of (bltV isa .len [.tup (xs.map f)] h) h) R E) (R (.int xs.length) h) := ⟨by (try simp only [Wp_o, WpR_o]); exact (p_lenMT)⟩
instance {a : Vl} : St (Wp (Rs.of (bltV isa .len [.tup [a]] h) h) R E) (R (.int 1) h) := ⟨by (try simp only [Wp_o, WpR_o]); exact (fun w => w)⟩
instance {a b : Vl} : St (Wp (Rs.of (bltV isa .len [.tup [a, b]] h) h) R E) (R (.int 2) h) := ⟨by (try simp only [Wp_o, WpR_o]); exact (fun w => w)⟩
instance {a b c : Vl} : St (Wp (Rs.of (bltV isa .len [.tup [a, b, c]] h) h) R E) (R (.int 3) h) := ⟨by (try simp only [Wp_o, WpR_o]); exact (fun w => w)⟩
instance {xs : List Vl} : St (Wp (Rs.of (walkV (.tup xs)) h) Q E) (Q xs h) := ⟨by (try simp only [Wp_o, WpR_o]); exact (fun w => w)⟩
instance {xs : List Vl} : St (Wp (Rs.of (walkV (.lst xs)) h) Q E) (Q xs h) := ⟨by (try simp only [Wp_o, WpR_o]); exact (fun w => w)⟩
instance {l : List Nat} : StC (Wp (Rs.of (walkV (.str (S l))) h) Q E) (l.length ≤ sizeLine) (Q (l.map fun d => .str (S [d])) h) := ⟨by (try simp only [Wp_o, WpR_o]); exact (p_walkS)⟩
instance {x : Vl} {xs : List Vl} : St (Wp (Rs.of (idxV h (.lst (x :: xs)) (.int 0)) h) R E) (R x h) := ⟨by (try simp only [Wp_o, WpR_o]); exact (p_idx0L)⟩
instance {x : Vl} {xs : List Vl} : St (Wp (Rs.of (idxV h (.tup (x :: xs)) (.int 0)) h) R E) (R x h) := ⟨by (try simp only [Wp_o, WpR_o]); exact (p_idx0T)⟩
instance {x y : Vl} {xs : List Vl} : St (Wp (Rs.of (idxV h (.tup (x :: y :: xs)) (.int 1)) h) R E) (R y h) := ⟨by (try simp only [Wp_o, WpR_o]); exact (fun w => p_of (a := y) (by show atI (x :: y :: xs) 1 = _; rw [atI_pos (by decide) (by simp only [List.length_cons]; omega)]; rfl) w)⟩
instance {x y z : Vl} {xs : List Vl} : St (Wp (Rs.of (idxV h (.tup (x :: y :: z :: xs)) (.int 2)) h) R E) (R z h) := ⟨by (try simp only [Wp_o, WpR_o]); exact (fun w => p_of (a := z) (by show atI (x :: y :: z :: xs) 2 = _; rw [atI_pos (by decide) (by simp only [List.length_cons]; omega)]; rfl) w)⟩
instance {α : Type} {f : α → Vl} {x : α} {xs : List α} : St (Wp (Rs.of (idxV h (.lst ((x :: xs).map f)) (.int 0)) h) R E) (R (f x) h) := ⟨by (try simp only [Wp_o, WpR_o]); exact (p_idx0ML)⟩
instance {α : Type} {f : α → Vl} {x : α} {xs : List α} : St (Wp (Rs.of (idxV h (.tup ((x :: xs).map f)) (.int 0)) h) R E) (R (f x) h) := ⟨by (try simp only [Wp_o, WpR_o]); exact (p_idx0MT)⟩
instance {bs : List Bool} : St (Wp (Rs.of (bltV isa .all [.lst (bs.map .bl)] h) h) R E) (R (.bl (bs.all id)) h) := ⟨by (try simp only [Wp_o, WpR_o]); exact (p_all)⟩
instance {bs : List Bool} : St (Wp (Rs.of (bltV isa .any [.lst (bs.map .bl)] h) h) R E) (R (.bl (bs.any id)) h) := ⟨by (try simp only [Wp_o, WpR_o]); exact (p_any)⟩
instance {β : Type} {as : List β} : St (Wp (Rs.of (bltV isa .all [.lst (as.map fun _ => .bl true)] h) h) R E) (R (.bl true) h) := ⟨by (try simp only [Wp_o, WpR_o]); exact (p_allT)⟩
instance {xs : List Vl} : St (Wp (Rs.of (bltV isa .tuple [.lst xs] h) h) R E) (R (.tup xs) h) := ⟨by (try simp only [Wp_o, WpR_o]); exact (fun w => w)⟩
instance {c : Nat} {l : List Nat} : StC (Wp (Rs.of (sliceV (.str (S (c :: l))) (some 1) none) h) R E) (l.length < sizeLine) (R (.str (S l)) h) := ⟨by (try simp only [Wp_o, WpR_o]); exact (p_tail)⟩
instance {c : Nat} {l : List Nat} : StC (Wp (Rs.of (idxV h (.str (S (c :: l))) (.int 0)) h) R E) (l.length < sizeLine) (R (.str (S [c])) h) := ⟨by (try simp only [Wp_o, WpR_o]); exact (p_head)⟩
instance {α : Type} {f : α → Vl} {xs : List α} {i : Int} : StC (Wp (Rs.of (idxV h (.lst (xs.map f)) (.int i)) h) R E) (0 ≤ i ∧ i < xs.length) (∀ x, xs[i.toNat]? = some x → x ∈ xs → R (f x) h) := ⟨by (try simp only [Wp_o, WpR_o]); exact (fun c => p_idxML c.1 c.2)⟩
instance {α : Type} {f : α → Vl} {xs : List α} {i : Int} : StC (Wp (Rs.of (idxV h (.tup (xs.map f)) (.int i)) h) R E) (0 ≤ i ∧ i < xs.length) (∀ x, xs[i.toNat]? = some x → x ∈ xs → R (f x) h) := ⟨by (try simp only [Wp_o, WpR_o]); exact (fun c => p_idxMT c.1 c.2)⟩
instance {c : Nat} {l : List Nat} : StC (Wp (Rs.of (bltV isa .len [.str (S (c :: l))] h) h) R E) (l.length < sizeLine) (R (.int (l.length + 1)) h) := ⟨by (try simp only [Wp_o, WpR_o]); exact (p_lenSc)⟩
/-- new objects -/
instance {G : Gt} {T : Fl → Env → Hs → Prop} {c : Str} {fs : List (Str × Vl)} {f : Str} {v : Vl} {k : Hs → Rt} : StC (WpR (itemK (setFldV G (h ++ [some (.ins c fs)]) (.ref h.length) f v) k) T E) (fs.length < 1000 ∧ G.fld c f = true) (WpR (k (h ++ [some (.ins c (putFl f v fs))])) T E) := ⟨by (try simp only [Wp_o, WpR_o]); exact (fun c => p_setfld c.1 c.2)⟩
instance {ρ : Env} {a b : Option Ob} : St (retQ (h ++ [a]) R .nx ρ (h ++ [b])) (R .non (h ++ [b])) := ⟨by (try simp only [Wp_o, WpR_o]); exact (fun w => p_nxA (ρ := ρ) (E := noE) w)⟩
instance {G : Gt} {c : Str} {fs : List (Str × Vl)} {f : Str} {x : Vl} : StC (Wp (aV G (.ins c ((f, x) :: fs)) f h) R E) (G.fld c f = true) (R x h) := ⟨by (try simp only [Wp_o, WpR_o]); exact (fun c => p_fld c (by simp))⟩
/-- the purse -/
instance {p : Pz} {t : Hs} {xs : List Vl} : St (Wp (mkK true xs (Pc p t)) R E) (R (.ref (t.length + 1)) (Pc p (t ++ [some (.lst xs)]))) := ⟨by (try simp only [Wp_o, WpR_o]); exact (p_mk)⟩
instance {a b c : Int} {t : Hs} : St (Wp (Rs.of (idxV (Pc ⟨a, b, c⟩ t) (.ref 0) (.int 0)) (Pc ⟨a, b, c⟩ t)) R E) (R (.int a) (Pc ⟨a, b, c⟩ t)) := ⟨by (try simp only [Wp_o, WpR_o]); exact (p_get0)⟩
instance {a b c : Int} {t : Hs} : St (Wp (Rs.of (idxV (Pc ⟨a, b, c⟩ t) (.ref 0) (.int 1)) (Pc ⟨a, b, c⟩ t)) R E) (R (.int b) (Pc ⟨a, b, c⟩ t)) := ⟨by (try simp only [Wp_o, WpR_o]); exact (p_get1)⟩
instance {a b c : Int} {t : Hs} : St (Wp (Rs.of (idxV (Pc ⟨a, b, c⟩ t) (.ref 0) (.int 2)) (Pc ⟨a, b, c⟩ t)) R E) (R (.int c) (Pc ⟨a, b, c⟩ t)) := ⟨by (try simp only [Wp_o, WpR_o]); exact (p_get2)⟩
variable {T : Fl → Env → Hs → Prop}
instance {a b c : Int} {t : Hs} {k : Hs → Rt} : St (WpR (itemK (setItemV (Pc ⟨a, b, c⟩ t) (.ref 0) (.int 0) (.int i)) k) T E) (WpR (k (Pc ⟨i, b, c⟩ t)) T E) := ⟨by (try simp only [Wp_o, WpR_o]); exact (p_set0)⟩
instance {a b c : Int} {t : Hs} {k : Hs → Rt} : St (WpR (itemK (setItemV (Pc ⟨a, b, c⟩ t) (.ref 0) (.int 1) (.int i)) k) T E) (WpR (k (Pc ⟨a, i, c⟩ t)) T E) := ⟨by (try simp only [Wp_o, WpR_o]); exact (p_set1)⟩
instance {a b c : Int} {t : Hs} {k : Hs → Rt} : St (WpR (itemK (setItemV (Pc ⟨a, b, c⟩ t) (.ref 0) (.int 2) (.int i)) k) T E) (WpR (k (Pc ⟨a, b, i⟩ t)) T E) := ⟨by (try simp only [Wp_o, WpR_o]); exact (p_set2)⟩
/-- methods of texts, lists -/
instance {G : Gt} {s : Str} {own : (List Vl → List Vl → Hs → Rs Vl) → Rs Vl} {blt : (List Vl → Hs → Rs Vl) → Rs Vl} : St (Wp (mV G "join" [] (.str s) h own blt) R E) (Wp (blt fun vs h => bmV .join (.str s) vs h) R E) := ⟨by (try simp only [Wp_o, WpR_o]); exact (p_join)⟩
instance {ds : List Nat} : StC (Wp (bmV .join (.str (Str.ofString "")) [.lst (ds.map fun d => .str (S [d]))] h) R E) (ds.length ≤ 16777216) (R (.str (S ds)) h) := ⟨by (try simp only [Wp_o, WpR_o]); exact (p_joinD)⟩
variable {acc : Str} {fs : List (Hs → Rs Str)} {Qs : Str → Hs → Prop}
instance : St (Wp (joinL [] acc h) Qs E) (Qs acc h) := ⟨by (try simp only [Wp_o, WpR_o]); exact (fun w => w)⟩
instance {f : Hs → Rs Str} : St (Wp (joinL (f :: fs) acc h) Qs E) (Wp (f h) (fun s h' => Wp (jK acc s fs h') Qs E) E) := ⟨by (try simp only [Wp_o, WpR_o]); exact (fun w => by rw [joinL_jK, Wp_bind]; exact w)⟩
instance {s : Str} : StC (Wp (jK acc s fs h) Qs E) ((acc ++ s).length ≤ sizeLine) (Wp (joinL fs (acc ++ s) h) Qs E) := ⟨by (try simp only [Wp_o, WpR_o]); exact (fun c w => by unfold jK; rw [if_pos c]; exact w)⟩
instance {s : Str} : StC (Wp (Rs.of (fmtV (-1) (.str s)) h) Qs E) (s.length ≤ sizeLine) (Qs s h) := ⟨by (try simp only [Wp_o, WpR_o]); exact (fun c w => p_of (a := s) (by unfold fmtV; rw [if_neg (by decide), if_pos rfl]; simp only [c, if_true]) w)⟩
instance {i : Int} : StC (Wp (Rs.of (fmtV (-1) (.int i)) h) Qs E) (i.natAbs < 1000000) (Qs (txI i) h) := ⟨by (try simp only [Wp_o, WpR_o]); exact (fun c w => p_of (a := txI i) (by unfold fmtV; rw [if_neg (by decide), if_pos rfl]; simp only [lg_ok c, if_true]; rfl) w)⟩
instance {b : Bool} : St (Wp (Rs.of (fmtV (-1) (.bl b)) h) Qs E) (Qs (bTx b) h) := ⟨by (try simp only [Wp_o, WpR_o]); exact (fun w => w)⟩
instance {v : Vl} : StC (Wp (Rs.of (fmtV 114 v) h) Qs E) (gdV v = true ∧ mzV v ≤ 1048576 ∧ dpV v ≤ 64) (Qs (shw v) h) := ⟨by (try simp only [Wp_o, WpR_o]); exact (fun c w => p_fmtR c.1 c.2.1 c.2.2 w)⟩
instance : StC (Wp (Rs.of (bltV isa .str [.int i] h) h) R E) (i.natAbs < 1000000) (R (.str (txI i)) h) := ⟨by (try simp only [Wp_o, WpR_o]); exact (p_strI)⟩
instance {s : Str} : St (Wp (Rs.of (bltV isa .str [.str s] h) h) R E) (R (.str s) h) := ⟨by (try simp only [Wp_o, WpR_o]); exact (fun w => w)⟩
end
/-! ### rules for use -/
section
variable {α β : Type} {Q : α → Hs → Prop} {E E' : Vl → Hs → Prop} {T T' : Fl → Env → Hs → Prop} {R : Vl → Hs → Prop} {h0 h : Hs} {ρ : Env} {m : Rs α} {r x y : Rt} {v : Vl}
theorem Wp.mono {Q' : α → Hs → Prop} (w : Wp m Q E) (hq : ∀ a h, Q a h → Q' a h) (he : ∀ e h, E e h → E' e h) : Wp m Q' E' := by
  rw [Wp_o] at *; exact Wo.mono w hq he
theorem WpR.mono (w : WpR r T E) (hq : ∀ f ρ h, T f ρ h → T' f ρ h) (he : ∀ e h, E e h → E' e h) : WpR r T' E' := by
  rw [WpR_o] at *; exact WoR.mono w hq he
theorem Wp_cg {m m' : Rs α} (h : m = m') (w : Wp m' Q E) : Wp m Q E := by rw [h]; exact w
theorem WpR_cg {m m' : Rt} (h : m = m') (w : WpR m' T E) : WpR m T E := by rw [h]; exact w
theorem WpR_eq {r r' : Rt} (h : r = r') : WpR r T E = WpR r' T E := by rw [h]
theorem Wp_endS (h0 : Hs) (r : Rt) : Wp (endR h0 r) R E = WpR r (retQ h0 R) (retE h0 E) := by rw [Wp_o, WpR_o, Wp_end]
theorem Wp_run {a : α} {h' : Hs} (e : m = .ok a h') (q : Q a h') : Wp m Q E := by rw [Wp_o]; exact Wp_eq e q
theorem w_forL {bind : Vl → Env → Option Env} {body : Env → Hs → Rt} (P : List Vl → Env → Hs → Prop) {xs : List Vl} (start : P xs ρ h) (step : ∀ x r ρ h, P (x :: r) ρ h → ∃ ρ1, bind x ρ = some ρ1 ∧ WpR (body ρ1 h) (loopQ (P r) T) E)
    (done : ∀ ρ h, P [] ρ h → T .nx ρ h) : WpR (fL bind body xs ρ h) T E := by
  rw [WpR_o]
  exact WpR_for P start (fun x r ρ h p => by have z := step x r ρ h p; simpa only [WpR_o] using z) done
theorem w_while {test : Env → Hs → Rs Bool} {body : Env → Hs → Rt} (P : Nat → Env → Hs → Prop) {n m : Nat} (start : P m ρ h) (hn : m < n)
    (step : ∀ m ρ h, P m ρ h → Wp (test ρ h) (fun b h1 => if b then ∃ m', m = m' + 1 ∧ WpR (body ρ h1) (loopQ (P m') T) E else T .nx ρ h1) E) : WpR (wL test body n ρ h) T E := by
  rw [WpR_o]
  exact WpR_while P start hn (fun m ρ h p => by have z := step m ρ h p; simpa only [WpR_o, Wp_o] using z)
variable {g : Vl → Hs → Rs (Option Vl)} {QL : List Vl → Hs → Prop}
theorem w_comp {f : Vl → Vl} {xs : List Vl} (hx : ∀ x ∈ xs, Wp (g x h) (fun o h' => o = some (f x) ∧ h' = h) noE) (hl : xs.length ≤ sizeLine) (q : QL (xs.map f) h) : Wp (cM g xs [] h) QL E := by
  simp only [Wp_o] at *; exact Wp_comp hx hl q
theorem w_compF {f : Vl → Option Vl} {xs : List Vl} (hx : ∀ x ∈ xs, Wp (g x h) (fun o h' => o = f x ∧ h' = h) noE) (hl : xs.length ≤ sizeLine) (q : QL (xs.filterMap f) h) : Wp (cM g xs [] h) QL E := by
  simp only [Wp_o] at *; exact Wp_compF hx hl q
theorem w_compI (P : Hs → Prop) (R : Vl → Vl → Prop) {xs : List Vl} (p : P h) (hx : ∀ x ∈ xs, ∀ h, P h → Wp (g x h) (fun o h' => ∃ v, o = some v ∧ R x v ∧ P h') noE) (hl : xs.length ≤ sizeLine) (q : ∀ vs h', P h' → F2 R xs vs → QL vs h') : Wp (cM g xs [] h) QL E := by
  simp only [Wp_o] at *; exact Wp_compI P R p hx hl q
theorem w_map {as : List β} {enc : β → Vl} (f : β → Vl) (hl : as.length ≤ sizeLine) (step : ∀ a ∈ as, Wp (g (enc a) h) (fun o h' => o = some (f a) ∧ h' = h) noE) (q : QL (as.map f) h) : Wp (cM g (as.map enc) [] h) QL E := by
  simp only [Wp_o] at *; exact p_map f hl step q
theorem w_draw {p : Pz} {t : Hs} {xs : List Vl} (enc : β → Vl) (P : β → Prop) (hp : p.ok) (hl : xs.length ≤ sizeLine)
    (step : ∀ x ∈ xs, ∀ p' : Pz, p'.ok → Wp (g x (Pc p' t)) (fun o h' => ∃ a p'', o = some (enc a) ∧ P a ∧ Pz.ok p'' ∧ h' = Pc p'' t) noE) (q : ∀ (as : List β) (p' : Pz), p'.ok → as.length = xs.length → (∀ a ∈ as, P a) → QL (as.map enc) (Pc p' t)) : Wp (cM g xs [] (Pc p t)) QL E := by
  simp only [Wp_o] at *; exact p_draw enc P hp hl step q
variable {c : Prop} [Decidable c] {b : Bool} {a a' : Rs α}
theorem i_dT (hc : c) (w : Wp a Q E) : Wp (if decide c = true then a else a') Q E := by rw [Wp_o] at *; exact p_dT hc w
theorem i_dF (hc : ¬ c) (w : Wp a' Q E) : Wp (if decide c = true then a else a') Q E := by rw [Wp_o] at *; exact p_dF hc w
theorem i_dTR (hc : c) (w : WpR x T E) : WpR (if decide c = true then x else y) T E := by rw [WpR_o] at *; exact p_dTR hc w
theorem i_dFR (hc : ¬ c) (w : WpR y T E) : WpR (if decide c = true then x else y) T E := by rw [WpR_o] at *; exact p_dFR hc w
theorem i_bT (hc : b = true) (w : Wp a Q E) : Wp (if b = true then a else a') Q E := by rw [Wp_o] at *; exact p_bT hc w
theorem i_bF (hc : b = false) (w : Wp a' Q E) : Wp (if b = true then a else a') Q E := by rw [Wp_o] at *; exact p_bF hc w
theorem i_bTR (hc : b = true) (w : WpR x T E) : WpR (if b = true then x else y) T E := by rw [WpR_o] at *; exact p_bTR hc w
theorem i_bFR (hc : b = false) (w : WpR y T E) : WpR (if b = true then x else y) T E := by rw [WpR_o] at *; exact p_bFR hc w
theorem i_d (w1 : c → Wp a Q E) (w2 : ¬ c → Wp a' Q E) : Wp (if decide c = true then a else a') Q E := by simp only [Wp_o] at *; exact p_d w1 w2
theorem i_dR (w1 : c → WpR x T E) (w2 : ¬ c → WpR y T E) : WpR (if decide c = true then x else y) T E := by simp only [WpR_o] at *; exact p_dR w1 w2
theorem i_b (w1 : b = true → Wp a Q E) (w2 : b = false → Wp a' Q E) : Wp (if b = true then a else a') Q E := by simp only [Wp_o] at *; exact p_b w1 w2
theorem i_bR (w1 : b = true → WpR x T E) (w2 : b = false → WpR y T E) : WpR (if b = true then x else y) T E := by simp only [WpR_o] at *; exact p_bR w1 w2
theorem i_intT {isa : Isa} (hb : b = true) (w : R (.int 1) h) : Wp (Rs.of (bltV isa .int [.bl b] h) h) R E := by rw [Wp_o]; exact p_intT hb w
theorem i_intF {isa : Isa} (hb : b = false) (w : R (.int 0) h) : Wp (Rs.of (bltV isa .int [.bl b] h) h) R E := by rw [Wp_o]; exact p_intF hb w
theorem i_intB {isa : Isa} (w1 : b = true → R (.int 1) h) (w2 : b = false → R (.int 0) h) : Wp (Rs.of (bltV isa .int [.bl b] h) h) R E := by rw [Wp_o]; exact p_intB w1 w2
variable {ru : Unit → Rs Vl}
theorem i_orT (hc : b = true) (w : R (.bl true) h) : Wp (boolK .Or (.bl b) h ru) R E := by rw [Wp_o]; exact p_orBt hc w
theorem i_orF (hc : b = false) (w : Wp (ru ()) R E) : Wp (boolK .Or (.bl b) h ru) R E := by rw [Wp_o] at *; exact p_orBf hc w
theorem i_andT (hc : b = true) (w : Wp (ru ()) R E) : Wp (boolK .And (.bl b) h ru) R E := by rw [Wp_o] at *; exact p_andBt hc w
theorem i_andF (hc : b = false) (w : R (.bl false) h) : Wp (boolK .And (.bl b) h ru) R E := by rw [Wp_o]; exact p_andBf hc w
theorem i_or (w1 : b = true → R (.bl true) h) (w2 : b = false → Wp (ru ()) R E) : Wp (boolK .Or (.bl b) h ru) R E := by simp only [Wp_o] at *; exact p_orB w1 w2
theorem i_and (w1 : b = false → R (.bl false) h) (w2 : b = true → Wp (ru ()) R E) : Wp (boolK .And (.bl b) h ru) R E := by simp only [Wp_o] at *; exact p_andB w1 w2
theorem i_orD (w1 : c → R (.bl true) h) (w2 : ¬ c → Wp (ru ()) R E) : Wp (boolK .Or (.bl (decide c)) h ru) R E := i_or (fun z => w1 (of_decide_eq_true z)) (fun z => w2 (of_decide_eq_false z))
theorem i_andD (w1 : ¬ c → R (.bl false) h) (w2 : c → Wp (ru ()) R E) : Wp (boolK .And (.bl (decide c)) h ru) R E := i_and (fun z => w1 (of_decide_eq_false z)) (fun z => w2 (of_decide_eq_true z))
theorem i_bO {G : Gt} {bl : Blt} {x : Vl} (hi : insOf h x = none) (w : Wp (Rs.of (bltV G.isa bl [x] h) h) R E) : Wp (bO G bl x h) R E := by rw [Wp_o] at *; exact p_bO hi w
theorem i_item {o : Option Hs} {k : Hs → Rt} {h' : Hs} (e : o = some h') (w : WpR (k h') T E) : WpR (itemK o k) T E := by rw [WpR_o] at *; exact p_item e w
theorem i_sidx {s : Str} {i : Int} (h0 : 0 ≤ i) (h1 : i < s.length) (hz : s.length ≤ sizeLine) (w : ∀ c, s.cps.toList[i.toNat]? = some c → c ∈ s.cps.toList → R (.str (S [c])) h) : Wp (Rs.of (idxV h (.str s) (.int i)) h) R E := by rw [Wp_o]; exact p_sidx h0 h1 hz w
theorem i_cmp {op : CmpOp} {u v : Vl} {t : Bool} {h1 : Hs} (e : cmpV op h1 u v = some t) (w : R (.bl t) h) : Wp (Rs.of ((cmpV op h1 u v).map .bl) h) R E := by rw [Wp_o]; exact p_cmp e w
theorem i_make {G : Gt} {c : ClsI} {d : DefI} {vs ws us : List Vl} {ks : List Str} (hi : c.init = some d) (hf : c.frozen = true) (hb : bindV d (.ref h.length :: vs) ks ws = some us)
    (w : Wp (rD G d us (h ++ [some (.ins c.name [])])) (fun v h2 => v = .non ∧ ∃ fs, h2 = h ++ [some (.ins c.name fs)] ∧ okF h.length fs = true ∧ R (.ins c.name fs) h) E) : Wp (mO G c vs ks ws h) R E := by simp only [Wp_o] at *; exact p_make hi hf hb w
theorem i_prop {G G' : Gt} {v : Vl} {f : Str} {d : DefI} (e : aV G v f h = (rD G' d [v] h).calm) (w : Wp (rD G' d [v] h) R noE) : Wp (aV G v f h) R E := by
  rw [Wp_o] at *
  rw [e]
  cases er : rD G' d [v] h with
  | ok a h' => rw [er] at w; exact w
  | rz _ _ => rw [er] at w; exact w.elim
  | no => rw [er] at w; exact w.elim
theorem i_bOS {k : Nat} {T0 : Txt} {b : Blt} {nm c : Str} {fs : List (Str × Vl)} {d : DefI} (hn : ownN b = some nm) (hs : (mkG T0 200 (k + 1)).hasS c nm = true)
    (hd : (mkG T0 200 (k + 1)).spec c nm [.ins c fs] h = runDef (mkG T0 200 k) 200 d [.ins c fs] h)
    (w : Wp (rD (mkG T0 200 k) d [.ins c fs] h) (fun v h' => Wp (ownR b v h') R noE) noE) : Wp (bO (mkG T0 200 (k + 1)) b (.ins c fs) h) R E := by
  simp only [Wp_o] at *; unfold rD at w; exact p_bOS hn hs hd w
instance {s : Str} : St (Wp (ownR .str (.str s) h) R E) (R (.str s) h) := ⟨by rw [Wp_o]; exact fun w => w⟩
instance {s : Str} : St (Wp (ownR .repr (.str s) h) R E) (R (.str s) h) := ⟨by rw [Wp_o]; exact fun w => w⟩
instance {n : Int} : StC (Wp (ownR .len (.int n) h) R E) (0 ≤ n ∧ n < 9223372036854775808) (R (.int n) h) := ⟨fun c w => by
  rw [Wp_o]
  refine Wp_eq (a := .int n) ?_ w
  simp only [ownR, decide_eq_true c.1, decide_eq_true c.2, Bool.and_self, if_true]⟩
theorem i_repr {isa : Isa} {v : Vl} (g : gdV v = true) (m : mzV v ≤ 1048576) (d : dpV v ≤ 64) (w : R (.str (shw v)) h) : Wp (Rs.of (bltV isa .repr [v] h) h) R E := by rw [Wp_o]; exact p_repr g m d w
theorem i_strT {isa : Isa} {xs : List Vl} (g : gdL xs = true) (m : mzL xs ≤ 1000) (d : dpL xs ≤ 19) (w : (shw (.tup xs)).length ≤ 15728653 → R (.str (shw (.tup xs))) h) : Wp (Rs.of (bltV isa .str [.tup xs] h) h) R E := by rw [Wp_o]; exact p_strT g m d w
instance {isa : Isa} {xs : List Vl} : StC (Wp (Rs.of (bltV isa .str [.tup xs] h) h) R E) (gdL xs = true ∧ mzL xs ≤ 1000 ∧ dpL xs ≤ 19) ((shw (.tup xs)).length ≤ 15728653 → R (.str (shw (.tup xs))) h) := ⟨fun c => i_strT c.1 c.2.1 c.2.2⟩
instance (priority := 500) {xs : List Vl} : St (Wp (mkK true xs h) R E) (R (.ref h.length) (h ++ [some (.lst xs)])) := ⟨fun w => by rw [Wp_o]; exact w⟩
instance {a b c : Int} : St (retQ [] R (.rt (.ref ([] : Hs).length)) ρ (([] : Hs) ++ [some (.lst [.int a, .int b, .int c])])) (R (.ref 0) (Pc ⟨a, b, c⟩ [])) := ⟨fun w => p_retNew (ρ := ρ) (E := noE) w⟩
instance {i j : Int} : StC (Wp (Rs.of (rangeV [.int i, .int j]) h) QL E) ((-4611686018427387904 ≤ i ∧ i < 4611686018427387904) ∧ -4611686018427387904 ≤ j ∧ j < 4611686018427387904) (QL (intsV i (j - i).toNat) h) := ⟨fun c w => by
  refine Wp_run (a := intsV i (j - i).toNat) (h' := h) ?_ w
  obtain ⟨⟨a, b⟩, c, d⟩ := c
  simp only [rangeV]
  have e : (decide (-2 ^ 62 ≤ i) && decide (i < 2 ^ 62) && decide (-2 ^ 62 ≤ j) && decide (j < 2 ^ 62)) = true := by
    simp only [Bool.and_eq_true, decide_eq_true_eq]
    exact ⟨⟨⟨a, b⟩, c⟩, d⟩
  rw [if_pos e]; rfl⟩
def isNb (l : List Nat) : Bool := match l with
  | [] => false
  | c :: ds => LET.contains c && decide (ds.length ≤ 3) && ds.all DIG.contains
theorem isNb_ok {l : List Nat} (h : isNb l = true) : IsN l := by
  cases l with
  | nil => cases h
  | cons c ds =>
    simp only [isNb, Bool.and_eq_true, decide_eq_true_eq, List.all_eq_true] at h
    exact .mk (by simpa using h.1.1) h.1.2 fun d hd => by simpa using h.2 d hd
def wdB (lo hi : Nat) (w : List (List Nat)) : Bool := decide (lo ≤ w.length) && decide (w.length ≤ hi) && w.all isNb
theorem wdB_ok {lo hi : Nat} {w : List (List Nat)} (h : wdB lo hi w = true) : isWd lo hi w := by
  simp only [wdB, Bool.and_eq_true, decide_eq_true_eq, List.all_eq_true] at h
  exact ⟨h.1.1, h.1.2, fun l hl => isNb_ok (h.2 l hl)⟩
theorem i_cmV {G : Gt} {m c : Str} {ks : List Str} {own : (List Vl → List Vl → Hs → Rs Vl) → Rs Vl} {blt : (List Vl → Hs → Rs Vl) → Rs Vl} (hc : G.hasC c m = true) (w : Wp (own fun vs ws h => mC G c m (.cl c :: vs) ks ws h) R E) : Wp (mV G m ks (.cl c) h own blt) R E := by
  have e : (fun vs ws h => mC G c m (.cl c :: vs) ks ws h) = fun vs ws h => G.clm c m (.cl c :: vs) ks ws h := by unfold mC; rfl
  rw [e] at w
  have e2 : mV G m ks (.cl c) h own blt = own fun vs ws h => G.clm c m (.cl c :: vs) ks ws h := by
    unfold mV methK
    simp only [insOf, clV, hc, if_true]
  rw [e2]; exact w
instance {xs : List Vl} {QL : List Vl → Hs → Prop} : St (Wp (Rs.of ((seqV (.tup xs)).map (enumV 0)) h) QL E) (QL (enumV 0 xs) h) := ⟨fun w => by rw [Wp_o]; exact w⟩
instance {xs : List Vl} {QL : List Vl → Hs → Prop} : St (Wp (Rs.of ((seqV (.lst xs)).map (enumV 0)) h) QL E) (QL (enumV 0 xs) h) := ⟨fun w => by rw [Wp_o]; exact w⟩
instance {xs : List Vl} {no : Rs Vl} {f : List Vl → Rs Vl} : St (Wp (starK no (itemsV h (.tup xs)) f) R E) (Wp (f xs) R E) := ⟨fun w => w⟩
instance {xs : List Vl} {no : Rt} {f : List Vl → Rt} : St (WpR (starK no (itemsV h (.tup xs)) f) T E) (WpR (f xs) T E) := ⟨fun w => w⟩
instance {xs : List Vl} {no : Rs Vl} {f : List Vl → Rs Vl} : St (Wp (starK no (itemsV h (.lst xs)) f) R E) (Wp (f xs) R E) := ⟨fun w => w⟩
instance {xs : List Vl} {no : Rt} {f : List Vl → Rt} : St (WpR (starK no (itemsV h (.lst xs)) f) T E) (WpR (f xs) T E) := ⟨fun w => w⟩
theorem bindV_star1 {d : DefI} {p1 p2 : Str} {x : Vl} {vs : List Vl} (hs : d.star = true) (hp : d.ps = [p1, p2]) (hl : vs.length + 1 ≤ sizeLine) : bindV d (x :: vs) [] [] = some [x, .tup vs] := by
  unfold bindV
  rw [if_pos hs, hp, if_pos ⟨rfl, by simp, by simpa using hl⟩]
  rfl
/-! ### own instances -/
/-- no instance -/
class NI (h : Hs) (x : Vl) : Prop where no : insOf h x = none
instance : NI h .non := ⟨rfl⟩
instance {b : Bool} : NI h (.bl b) := ⟨rfl⟩
instance {i : Int} : NI h (.int i) := ⟨rfl⟩
instance {s : Str} : NI h (.str s) := ⟨rfl⟩
instance {s : String} : NI h (.ty s) := ⟨rfl⟩
instance {s : Str} : NI h (.cl s) := ⟨rfl⟩
instance {xs : List Vl} : NI h (.tup xs) := ⟨rfl⟩
instance {xs : List Vl} : NI h (.lst xs) := ⟨rfl⟩
instance {p : Pz} {t : Hs} : NI (Pc p t) (.ref 0) := ⟨rfl⟩
instance {p : Pz} {xs : List Vl} {t : Hs} : NI (Pc p (some (.lst xs) :: t)) (.ref 1) := ⟨rfl⟩
instance {p : Pz} {o : Option Ob} {xs : List Vl} {t : Hs} : NI (Pc p (o :: some (.lst xs) :: t)) (.ref 2) := ⟨rfl⟩
theorem iX_no {G : Gt} {x y : Vl} {h : Hs} (hn : insOf h x = none) : iX G x y h = Rs.of (idxV h x y) h := by
  unfold iX idxG; rw [hn]
theorem cX_no {G : Gt} {op : CmpOp} {x y : Vl} {h : Hs} (hn : insOf h x = none) : cX G op x y h = Rs.of ((cmpV op h x y).map .bl) h := by
  unfold cX cmpG; rw [hn]; cases eqI op <;> rfl
instance {G : Gt} {x y : Vl} [n : NI h x] : St (Wp (iX G x y h) R E) (Wp (Rs.of (idxV h x y) h) R E) := ⟨fun w => by rw [iX_no n.no]; exact w⟩
instance {G : Gt} {op : CmpOp} {x y : Vl} [n : NI h x] : St (Wp (cX G op x y h) R E) (Wp (Rs.of ((cmpV op h x y).map .bl) h) R E) := ⟨fun w => by rw [cX_no n.no]; exact w⟩
theorem i_iXo {G : Gt} {x y : Vl} (hn : insOf h x = none) (w : Wp (Rs.of (idxV h x y) h) R E) : Wp (iX G x y h) R E := by rw [iX_no hn]; exact w
theorem i_cXo {G : Gt} {op : CmpOp} {x y : Vl} (hn : insOf h x = none) (w : Wp (Rs.of ((cmpV op h x y).map .bl) h) R E) : Wp (cX G op x y h) R E := by rw [cX_no hn]; exact w
theorem i_iXS {k : Nat} {T0 : Txt} {c : Str} {fs : List (Str × Vl)} {y : Vl} {d : DefI} (hs : (mkG T0 200 (k + 1)).hasS c "__getitem__" = true)
    (hd : (mkG T0 200 (k + 1)).spec c "__getitem__" [.ins c fs, y] h = runDef (mkG T0 200 k) 200 d [.ins c fs, y] h)
    (w : Wp (rD (mkG T0 200 k) d [.ins c fs, y] h) R E) : Wp (iX (mkG T0 200 (k + 1)) (.ins c fs) y h) R E := by
  have e : iX (mkG T0 200 (k + 1)) (.ins c fs) y h = rD (mkG T0 200 k) d [.ins c fs, y] h := by
    unfold iX idxG rD
    simp only [insOf, hs, if_true, hd]
  rw [e]; exact w
theorem i_cXS {k : Nat} {T0 : Txt} {op : CmpOp} {c : Str} {fs : List (Str × Vl)} {y : Vl} {d : DefI} (he : eqI op = true) (hs : (mkG T0 200 (k + 1)).hasS c "__eq__" = true) (sd : sideOk (mkG T0 200 (k + 1)) h c y = true)
    (hd : (mkG T0 200 (k + 1)).spec c "__eq__" [.ins c fs, y] h = runDef (mkG T0 200 k) 200 d [.ins c fs, y] h)
    (w : Wp (rD (mkG T0 200 k) d [.ins c fs, y] h) (fun v h' => Wp (cmpR op v h') R E) noE) : Wp (cX (mkG T0 200 (k + 1)) op (.ins c fs) y h) R E := by
  have e : cX (mkG T0 200 (k + 1)) op (.ins c fs) y h = (rD (mkG T0 200 k) d [.ins c fs, y] h).calm.bind fun v h => cmpR op v h := by
    unfold cX cmpG rD
    simp only [insOf, he, hs, sd, Bool.and_self, if_true, hd]
  rw [e]
  rw [Wp_o] at *
  cases er : rD (mkG T0 200 k) d [.ins c fs, y] h with
  | ok a h' => rw [er] at w; have z : Wp (cmpR op a h') R E := w; rw [Wp_o] at z; exact z
  | rz _ _ => rw [er] at w; exact w.elim
  | no => rw [er] at w; exact w.elim
instance {b : Bool} : St (Wp (cmpR .Eq (.bl b) h) R E) (R (.bl b) h) := ⟨fun w => by rw [Wp_o]; exact w⟩
instance {b : Bool} : St (Wp (cmpR .NotEq (.bl b) h) R E) (R (.bl (!b)) h) := ⟨fun w => by rw [Wp_o]; exact w⟩
instance {n : Int} : StC (Wp (ownR .bool (.int n) h) R E) (0 ≤ n ∧ n < 9223372036854775808) (R (.bl (n != 0)) h) := ⟨fun c w => by
  rw [Wp_o]
  refine Wp_eq (a := .bl (n != 0)) ?_ w
  simp only [ownR, decide_eq_true c.1, decide_eq_true c.2, Bool.and_self, if_true]⟩
theorem i_mV {G : Gt} {m c : Str} {fs : List (Str × Vl)} {ks : List Str} {own : (List Vl → List Vl → Hs → Rs Vl) → Rs Vl} {blt : (List Vl → Hs → Rs Vl) → Rs Vl} (hc : G.hasM c m = true) (hl : (fs.lookup m).isNone = true)
    (w : Wp (own fun vs ws h => mI G c m (.ins c fs :: vs) ks ws h) R E) : Wp (mV G m ks (.ins c fs) h own blt) R E := by
  have e : (fun vs ws h => mI G c m (.ins c fs :: vs) ks ws h) = fun vs ws h => G.meth c m (.ins c fs :: vs) ks ws h := by unfold mI; rfl
  rw [e] at w
  have e2 : mV G m ks (.ins c fs) h own blt = own fun vs ws h => G.meth c m (.ins c fs :: vs) ks ws h := by
    unfold mV methK
    simp only [insOf, hc, hl, Bool.and_self, if_true]
  rw [e2]; exact w
instance {xs : List Vl} {i : Int} : StC (Wp (Rs.of (binV .Mult (.lst xs) (.int i)) h) R E) ((-9223372036854775808 ≤ i ∧ i < 9223372036854775808) ∧ xs.length * i.toNat ≤ sizeLine) (R (.lst (List.replicate i.toNat xs).flatten) h) := ⟨fun c w => by
  refine Wp_run (a := .lst (List.replicate i.toNat xs).flatten) (h' := h) ?_ w
  simp only [binV]
  have e : (decide (-2 ^ 63 ≤ i) && decide (i < 2 ^ 63) && decide (xs.length * i.toNat ≤ sizeLine)) = true := by
    simp only [Bool.and_eq_true, decide_eq_true_eq]
    exact ⟨c.1, c.2⟩
  rw [if_pos e]; rfl⟩
instance {xs : List Vl} {i : Int} : StC (Wp (Rs.of (binV .Mult (.tup xs) (.int i)) h) R E) ((-9223372036854775808 ≤ i ∧ i < 9223372036854775808) ∧ xs.length * i.toNat ≤ sizeLine) (R (.tup (List.replicate i.toNat xs).flatten) h) := ⟨fun c w => by
  refine Wp_run (a := .tup (List.replicate i.toNat xs).flatten) (h' := h) ?_ w
  simp only [binV]
  have e : (decide (-2 ^ 63 ≤ i) && decide (i < 2 ^ 63) && decide (xs.length * i.toNat ≤ sizeLine)) = true := by
    simp only [Bool.and_eq_true, decide_eq_true_eq]
    exact ⟨c.1, c.2⟩
  rw [if_pos e]; rfl⟩
end
end Wd

set_option Elab.async false
set_option linter.all false
set_option maxRecDepth 100000
namespace Wd
open PySem PySem.Spec PyProof.Rows L2

/-! ### a source of draws: two numbers -/
structure Dz where
  a : Int
  b : Int
structure Dz.ok (p : Dz) : Prop where
  a0 : 0 ≤ p.a
  a1 : p.a < 18446744073709551616
  b0 : 0 ≤ p.b
def Dc (p : Dz) (t : Hs) : Hs := some (.lst [.int p.a, .int p.b]) :: t
section
variable {p q : Dz} {t u : Hs} {n : Nat} {v : Vl} {α : Type} {Q : α → Hs → Prop} {E : Vl → Hs → Prop} {T : Fl → Env → Hs → Prop} {R : Vl → Hs → Prop} {ρ : Env} {i : Int}
theorem Dc_app : Dc p t ++ u = Dc p (t ++ u) := rfl
theorem Dc_trunc : trunc (Dc p t) v (Dc q t) = Dc q t := trunc_le (Nat.le_refl _)
theorem Dc_trunc_app (hv : okV (t.length + 1) v = true) : trunc (Dc p t) v (Dc q (t ++ u)) = Dc q t := by
  unfold trunc
  have hl : (Dc p t).length = t.length + 1 := rfl
  split
  · rename_i z
    have z' : t.length + u.length + 1 ≤ t.length + 1 := by simpa [Dc] using z
    have : u = [] := List.length_eq_zero_iff.mp (by omega)
    rw [this, List.append_nil]
  · have e2 : (okV (Dc p t).length v && okPre (Dc p t).length (Dc p t) (Dc q (t ++ u))) = true := by
      rw [hl, hv]
      simp only [Dc, okPre, okO, okL, okV, Bool.and_true, Bool.or_true, Bool.true_and]
      exact okPre_self
    rw [if_pos e2]
    simp [Dc]
instance {a : α} : St (Wp (.ok a (trunc (Dc p t) v (Dc q t))) Q E) (Q a (Dc q t)) := ⟨fun w => by rw [Dc_trunc, Wp_o]; exact w⟩
instance : St (retQ (Dc p t) R (.rt v) ρ (Dc q t)) (R v (Dc q t)) := ⟨fun w => by show R v (trunc (Dc p t) v (Dc q t)); rw [Dc_trunc]; exact w⟩
instance : St (retQ (Dc p t) R .nx ρ (Dc q t)) (R .non (Dc q t)) := ⟨fun w => by show R .non (trunc (Dc p t) .non (Dc q t)); rw [Dc_trunc]; exact w⟩
instance {xs : List Vl} : St (Wp (mkK true xs (Dc p t)) R E) (R (.ref (t.length + 1)) (Dc p (t ++ [some (.lst xs)]))) := ⟨fun w => by rw [Wp_o]; exact w⟩
instance {a b : Int} : St (Wp (Rs.of (idxV (Dc ⟨a, b⟩ t) (.ref 0) (.int 0)) (Dc ⟨a, b⟩ t)) R E) (R (.int a) (Dc ⟨a, b⟩ t)) := ⟨fun w => by rw [Wp_o]; exact w⟩
instance {a b : Int} : St (Wp (Rs.of (idxV (Dc ⟨a, b⟩ t) (.ref 0) (.int 1)) (Dc ⟨a, b⟩ t)) R E) (R (.int b) (Dc ⟨a, b⟩ t)) := ⟨fun w => by rw [Wp_o]; exact w⟩
instance {a b : Int} {k : Hs → Rt} : St (WpR (itemK (setItemV (Dc ⟨a, b⟩ t) (.ref 0) (.int 0) (.int i)) k) T E) (WpR (k (Dc ⟨i, b⟩ t)) T E) := ⟨fun w => by rw [WpR_o] at *; exact w⟩
instance {a b : Int} {k : Hs → Rt} : St (WpR (itemK (setItemV (Dc ⟨a, b⟩ t) (.ref 0) (.int 1) (.int i)) k) T E) (WpR (k (Dc ⟨a, i⟩ t)) T E) := ⟨fun w => by rw [WpR_o] at *; exact w⟩
instance {a b : Int} : St (retQ [] R (.rt (.ref ([] : Hs).length)) ρ (([] : Hs) ++ [some (.lst [.int a, .int b])])) (R (.ref 0) (Dc ⟨a, b⟩ [])) := ⟨fun w => by
  show R (.ref 0) (trunc [] (.ref 0) (Dc ⟨a, b⟩ []))
  have e : trunc [] (.ref 0) (Dc ⟨a, b⟩ []) = Dc ⟨a, b⟩ [] := by
    unfold trunc
    rfl
  rw [e]; exact w⟩
instance : NI (Dc p t) (.ref 0) := ⟨rfl⟩
instance {xs : List Vl} : NI (Dc p (some (.lst xs) :: t)) (.ref 1) := ⟨rfl⟩
instance {o : Option Ob} {xs : List Vl} : NI (Dc p (o :: some (.lst xs) :: t)) (.ref 2) := ⟨rfl⟩
theorem w_drawD {β : Type} {g : Vl → Hs → Rs (Option Vl)} {QL : List Vl → Hs → Prop} {xs : List Vl} (enc : β → Vl) (P : β → Prop) (hp : p.ok) (hl : xs.length ≤ sizeLine)
    (step : ∀ x ∈ xs, ∀ p' : Dz, p'.ok → Wp (g x (Dc p' t)) (fun o h' => ∃ a p'', o = some (enc a) ∧ P a ∧ Dz.ok p'' ∧ h' = Dc p'' t) noE) (q : ∀ (as : List β) (p' : Dz), p'.ok → as.length = xs.length → (∀ a ∈ as, P a) → QL (as.map enc) (Dc p' t)) : Wp (cM g xs [] (Dc p t)) QL E := by
  refine w_compI (fun h => ∃ p' : Dz, p'.ok ∧ h = Dc p' t) (fun _ v => ∃ a, v = enc a ∧ P a) ⟨p, hp, rfl⟩ ?_ hl ?_
  · rintro x hx h ⟨p', hp', rfl⟩
    refine (step x hx p' hp').mono ?_ (fun _ _ z => z)
    rintro o h' ⟨a, p'', rfl, pa, hp'', rfl⟩
    exact ⟨_, rfl, ⟨a, rfl, pa⟩, p'', hp'', rfl⟩
  · rintro vs h' ⟨p', hp', rfl⟩ f
    obtain ⟨as, rfl, hl, pa⟩ := F2.enc f
    exact q as p' hp' hl pa
end
end Wd

set_option Elab.async false
set_option linter.all false
set_option maxRecDepth 100000
set_option maxHeartbeats 0
namespace Wd
open PySem PySem.Spec PyProof.Rows L2
def d_is_name : DefI := defOf (topS 9) [] [] [(1, [], [.pos 0])]
def d_are_names : DefI := defOf (topS 10) [] [] [(3, [], [.pos 0, .pos 1, .pos 2])]
def d_check_atoms : DefI := defOf (topS 14) [] [] [(1, [], [.pos 0])]
def d_is_row : DefI := defOf (topS 15) [] [] [(2, [], [.pos 0, .pos 1])]
def d_check_rows : DefI := defOf (topS 16) [] [] [(2, [], [.pos 0, .pos 1])]
def d__law_source : DefI := defOf (topS 19) [(78, 11)] [] [(2, [], [.pos 0, .pos 1])]
def d__law_draw : DefI := defOf (topS 20) [] [] [(2, [], [.pos 0, .pos 1])]
def d__law_name : DefI := defOf (topS 21) [] [] [(1, [], [.pos 0])]
def d__law_atoms : DefI := defOf (topS 22) [] [] [(1, [], [.pos 0])]
def d__law_rows : DefI := defOf (topS 23) [] [] [(3, [], [.pos 0, .pos 1, .pos 2])]
def d__law_bent : DefI := defOf (topS 24) [] [] [(3, [], [.pos 0, .pos 1, .pos 2])]
def d__law_right : DefI := defOf (topS 25) [] [] [(1, [], [.pos 0])]
def d_law : DefI := defOf (topS 26) [] [] [(1, [], [.pos 0])]
def d_World_init : DefI := defOf (inClass (topS 17) 0) [] [] [(1, ["rows", "atoms"], [.pos 0, .kw 1, .kw 0]), (3, [], [.pos 0, .pos 1, .pos 2])]
def d_World_atoms : DefI := defOf (inClass (topS 17) 1) [] [] [(1, [], [.pos 0])]
def d_World_rows : DefI := defOf (inClass (topS 17) 2) [] [] [(1, [], [.pos 0])]
def d_World_len : DefI := defOf (inClass (topS 17) 3) [] [] [(1, [], [.pos 0])]
def d_World_eq : DefI := defOf (inClass (topS 17) 4) [] [] [(2, [], [.pos 0, .pos 1])]
def d_World_repr : DefI := defOf (inClass (topS 17) 5) [] [] [(1, [], [.pos 0])]
def c_World : ClsI := ⟨"World", some d_World_init, [], [("atoms", d_World_atoms), ("rows", d_World_rows)], [("__len__", d_World_len), ("__eq__", d_World_eq), ("__repr__", d_World_repr)], ["told"], true, []⟩
def fnsT : List (Str × DefI) := [("is_name", d_is_name), ("are_names", d_are_names), ("check_atoms", d_check_atoms), ("is_row", d_is_row), ("check_rows", d_check_rows), ("_law_source", d__law_source), ("_law_draw", d__law_draw), ("_law_name", d__law_name), ("_law_atoms", d__law_atoms), ("_law_rows", d__law_rows), ("_law_bent", d__law_bent), ("_law_right", d__law_right)]
def clsT : List ClsI := [c_World]
def g_LETTERS : Vl := .str "abcdefghijklmnopqrstuvwyz"
def g_DIGITS : Vl := .str "0123456789"
def g_MOST_DIGITS : Vl := .int 3
def g_MOST_WORLD_ATOMS : Vl := .int 6
def g_MOST_ATOM_NAMES : Vl := .int 30
def glT : List (Str × Vl) := [("LETTERS", .str "abcdefghijklmnopqrstuvwyz"), ("DIGITS", .str "0123456789"), ("MOST_DIGITS", .int 3), ("MOST_WORLD_ATOMS", .int 6), ("MOST_ATOM_NAMES", .int 30), ("World", .cl "World")]
def isaT0 : Isa := fun a b => if a = b ∧ a ∈ (["World"] : List Str) then some true else if a ∈ (["World"] : List Str) ∧ b ∈ (["World"] : List Str) then some false else none
def T0 : Txt := ⟨fnsT, clsT, glT, isaT0⟩
def clsW (C_World : Addr) : Str → Option Addr := fun c => if c = "World" then some C_World else none
theorem facts {K : PySem.W.Frag} {h : Heap} {mg : Str → Option Value} {fa : Addr} {f_is_name f_are_names f_check_atoms f_is_row f_check_rows f__law_source f__law_draw f__law_name f__law_atoms f__law_rows f__law_bent f__law_right f_law C_World f_World_init p_World_atoms f_World_atoms p_World_rows f_World_rows f_World_len f_World_eq f_World_repr : Addr} {t_LETTERS t_DIGITS t_MOST_DIGITS t_MOST_WORLD_ATOMS t_MOST_ATOM_NAMES : Tok} {oc_is_name kV_is_name dc_is_name pm_is_name cd_is_name ct_is_name oc_are_names kV_are_names dc_are_names pm_are_names cd_are_names ct_are_names oc_check_atoms kV_check_atoms dc_check_atoms pm_check_atoms cd_check_atoms ct_check_atoms oc_is_row kV_is_row dc_is_row pm_is_row cd_is_row ct_is_row oc_check_rows kV_check_rows dc_check_rows pm_check_rows cd_check_rows ct_check_rows oc__law_source kV__law_source dc__law_source pm__law_source cd__law_source ct__law_source oc__law_draw kV__law_draw dc__law_draw pm__law_draw cd__law_draw ct__law_draw oc__law_name kV__law_name dc__law_name pm__law_name cd__law_name ct__law_name oc__law_atoms kV__law_atoms dc__law_atoms pm__law_atoms cd__law_atoms ct__law_atoms oc__law_rows kV__law_rows dc__law_rows pm__law_rows cd__law_rows ct__law_rows oc__law_bent kV__law_bent dc__law_bent pm__law_bent cd__law_bent ct__law_bent oc__law_right kV__law_right dc__law_right pm__law_right cd__law_right ct__law_right oc_law kV_law dc_law pm_law cd_law ct_law oc_World_init kV_World_init dc_World_init pm_World_init cd_World_init ct_World_init oc_World_atoms kV_World_atoms dc_World_atoms pm_World_atoms cd_World_atoms ct_World_atoms oc_World_rows kV_World_rows dc_World_rows pm_World_rows cd_World_rows ct_World_rows oc_World_len kV_World_len dc_World_len pm_World_len cd_World_len ct_World_len oc_World_eq kV_World_eq dc_World_eq pm_World_eq cd_World_eq ct_World_eq oc_World_repr kV_World_repr dc_World_repr pm_World_repr cd_World_repr ct_World_repr : Value} {od_is_name an_is_name od_are_names an_are_names od_check_atoms an_check_atoms od_is_row an_is_row od_check_rows an_check_rows od__law_source an__law_source od__law_draw an__law_draw od__law_name an__law_name od__law_atoms an__law_atoms od__law_rows an__law_rows od__law_bent an__law_bent od__law_right an__law_right od_law an_law od_World_init an_World_init od_World_atoms an_World_atoms od_World_rows an_World_rows od_World_len an_World_len od_World_eq an_World_eq od_World_repr an_World_repr : Option Addr} {sl_is_name sl_are_names sl_check_atoms sl_is_row sl_check_rows sl__law_source sl__law_draw sl__law_name sl__law_atoms sl__law_rows sl__law_bent sl__law_right sl_law sl_World_init sl_World_atoms sl_World_rows sl_World_len sl_World_eq sl_World_repr : Array (Option Value)} {rest_World_atoms rest_World_rows : List Value} (X : K.In h) (G : h.Ns mainGlobals mg) (hfa : mg "law" = some (.ref fa))
    (a_is_name : PySem.W.nsIn K mainGlobals "is_name" = some (some (.ref f_is_name)))
    (l_is_name : K.lookup f_is_name = some ⟨oc_is_name, od_is_name, .func (PySem.W.fnOf "is_name" "is_name" (defArgs (topS 9)) (defBody (topS 9)) (defScope (topS 9)) .none kV_is_name dc_is_name pm_is_name an_is_name cd_is_name ct_is_name), sl_is_name⟩)
    (c_is_name : PySem.W.codeIn K cd_is_name "is_name" = true)
    (k_is_name : PySem.W.keepIn K (.ref f_is_name) = true)
    (a_are_names : PySem.W.nsIn K mainGlobals "are_names" = some (some (.ref f_are_names)))
    (l_are_names : K.lookup f_are_names = some ⟨oc_are_names, od_are_names, .func (PySem.W.fnOf "are_names" "are_names" (defArgs (topS 10)) (defBody (topS 10)) (defScope (topS 10)) .none kV_are_names dc_are_names pm_are_names an_are_names cd_are_names ct_are_names), sl_are_names⟩)
    (c_are_names : PySem.W.codeIn K cd_are_names "are_names" = true)
    (k_are_names : PySem.W.keepIn K (.ref f_are_names) = true)
    (a_check_atoms : PySem.W.nsIn K mainGlobals "check_atoms" = some (some (.ref f_check_atoms)))
    (l_check_atoms : K.lookup f_check_atoms = some ⟨oc_check_atoms, od_check_atoms, .func (PySem.W.fnOf "check_atoms" "check_atoms" (defArgs (topS 14)) (defBody (topS 14)) (defScope (topS 14)) .none kV_check_atoms dc_check_atoms pm_check_atoms an_check_atoms cd_check_atoms ct_check_atoms), sl_check_atoms⟩)
    (c_check_atoms : PySem.W.codeIn K cd_check_atoms "check_atoms" = true)
    (k_check_atoms : PySem.W.keepIn K (.ref f_check_atoms) = true)
    (a_is_row : PySem.W.nsIn K mainGlobals "is_row" = some (some (.ref f_is_row)))
    (l_is_row : K.lookup f_is_row = some ⟨oc_is_row, od_is_row, .func (PySem.W.fnOf "is_row" "is_row" (defArgs (topS 15)) (defBody (topS 15)) (defScope (topS 15)) .none kV_is_row dc_is_row pm_is_row an_is_row cd_is_row ct_is_row), sl_is_row⟩)
    (c_is_row : PySem.W.codeIn K cd_is_row "is_row" = true)
    (k_is_row : PySem.W.keepIn K (.ref f_is_row) = true)
    (a_check_rows : PySem.W.nsIn K mainGlobals "check_rows" = some (some (.ref f_check_rows)))
    (l_check_rows : K.lookup f_check_rows = some ⟨oc_check_rows, od_check_rows, .func (PySem.W.fnOf "check_rows" "check_rows" (defArgs (topS 16)) (defBody (topS 16)) (defScope (topS 16)) .none kV_check_rows dc_check_rows pm_check_rows an_check_rows cd_check_rows ct_check_rows), sl_check_rows⟩)
    (c_check_rows : PySem.W.codeIn K cd_check_rows "check_rows" = true)
    (k_check_rows : PySem.W.keepIn K (.ref f_check_rows) = true)
    (a__law_source : PySem.W.nsIn K mainGlobals "_law_source" = some (some (.ref f__law_source)))
    (l__law_source : K.lookup f__law_source = some ⟨oc__law_source, od__law_source, .func (PySem.W.fnOf "_law_source" "_law_source" (defArgs (topS 19)) (defBody (topS 19)) (defScope (topS 19)) .none kV__law_source dc__law_source pm__law_source an__law_source cd__law_source ct__law_source), sl__law_source⟩)
    (c__law_source : PySem.W.codeIn K cd__law_source "_law_source" = true)
    (k__law_source : PySem.W.keepIn K (.ref f__law_source) = true)
    (a__law_draw : PySem.W.nsIn K mainGlobals "_law_draw" = some (some (.ref f__law_draw)))
    (l__law_draw : K.lookup f__law_draw = some ⟨oc__law_draw, od__law_draw, .func (PySem.W.fnOf "_law_draw" "_law_draw" (defArgs (topS 20)) (defBody (topS 20)) (defScope (topS 20)) .none kV__law_draw dc__law_draw pm__law_draw an__law_draw cd__law_draw ct__law_draw), sl__law_draw⟩)
    (c__law_draw : PySem.W.codeIn K cd__law_draw "_law_draw" = true)
    (k__law_draw : PySem.W.keepIn K (.ref f__law_draw) = true)
    (a__law_name : PySem.W.nsIn K mainGlobals "_law_name" = some (some (.ref f__law_name)))
    (l__law_name : K.lookup f__law_name = some ⟨oc__law_name, od__law_name, .func (PySem.W.fnOf "_law_name" "_law_name" (defArgs (topS 21)) (defBody (topS 21)) (defScope (topS 21)) .none kV__law_name dc__law_name pm__law_name an__law_name cd__law_name ct__law_name), sl__law_name⟩)
    (c__law_name : PySem.W.codeIn K cd__law_name "_law_name" = true)
    (k__law_name : PySem.W.keepIn K (.ref f__law_name) = true)
    (a__law_atoms : PySem.W.nsIn K mainGlobals "_law_atoms" = some (some (.ref f__law_atoms)))
    (l__law_atoms : K.lookup f__law_atoms = some ⟨oc__law_atoms, od__law_atoms, .func (PySem.W.fnOf "_law_atoms" "_law_atoms" (defArgs (topS 22)) (defBody (topS 22)) (defScope (topS 22)) .none kV__law_atoms dc__law_atoms pm__law_atoms an__law_atoms cd__law_atoms ct__law_atoms), sl__law_atoms⟩)
    (c__law_atoms : PySem.W.codeIn K cd__law_atoms "_law_atoms" = true)
    (k__law_atoms : PySem.W.keepIn K (.ref f__law_atoms) = true)
    (a__law_rows : PySem.W.nsIn K mainGlobals "_law_rows" = some (some (.ref f__law_rows)))
    (l__law_rows : K.lookup f__law_rows = some ⟨oc__law_rows, od__law_rows, .func (PySem.W.fnOf "_law_rows" "_law_rows" (defArgs (topS 23)) (defBody (topS 23)) (defScope (topS 23)) .none kV__law_rows dc__law_rows pm__law_rows an__law_rows cd__law_rows ct__law_rows), sl__law_rows⟩)
    (c__law_rows : PySem.W.codeIn K cd__law_rows "_law_rows" = true)
    (k__law_rows : PySem.W.keepIn K (.ref f__law_rows) = true)
    (a__law_bent : PySem.W.nsIn K mainGlobals "_law_bent" = some (some (.ref f__law_bent)))
    (l__law_bent : K.lookup f__law_bent = some ⟨oc__law_bent, od__law_bent, .func (PySem.W.fnOf "_law_bent" "_law_bent" (defArgs (topS 24)) (defBody (topS 24)) (defScope (topS 24)) .none kV__law_bent dc__law_bent pm__law_bent an__law_bent cd__law_bent ct__law_bent), sl__law_bent⟩)
    (c__law_bent : PySem.W.codeIn K cd__law_bent "_law_bent" = true)
    (k__law_bent : PySem.W.keepIn K (.ref f__law_bent) = true)
    (a__law_right : PySem.W.nsIn K mainGlobals "_law_right" = some (some (.ref f__law_right)))
    (l__law_right : K.lookup f__law_right = some ⟨oc__law_right, od__law_right, .func (PySem.W.fnOf "_law_right" "_law_right" (defArgs (topS 25)) (defBody (topS 25)) (defScope (topS 25)) .none kV__law_right dc__law_right pm__law_right an__law_right cd__law_right ct__law_right), sl__law_right⟩)
    (c__law_right : PySem.W.codeIn K cd__law_right "_law_right" = true)
    (k__law_right : PySem.W.keepIn K (.ref f__law_right) = true)
    (a_law : PySem.W.nsIn K mainGlobals "law" = some (some (.ref f_law)))
    (l_law : K.lookup f_law = some ⟨oc_law, od_law, .func (PySem.W.fnOf "law" "law" (defArgs (topS 26)) (defBody (topS 26)) (defScope (topS 26)) .none kV_law dc_law pm_law an_law cd_law ct_law), sl_law⟩)
    (c_law : PySem.W.codeIn K cd_law "law" = true)
    (k_law : PySem.W.keepIn K (.ref f_law) = true)
    (a_C_World : PySem.W.nsIn K mainGlobals "World" = some (some (.ref C_World)))
    (kc_C_World : PySem.W.keepIn K (.ref C_World) = true)
    (mk_C_World : PySem.W.makesIn K C_World = true)
    (pg_C_World : PySem.W.plainGet K C_World Str.empty = true)
    (hd_C_World : PySem.W.hasDictIn K C_World = true)
    (po_C_World : PySem.W.plainOver K C_World = true)
    (sa_C_World : PySem.W.findIn K (.ref C_World) "__setattr__" = some (some (.builtin "object.__setattr__")))
    (ha_C_World : PySem.W.findIn K (.ref C_World) "__class__" = some (some (.builtin "object.__class__")))
    (hn_C_World : PySem.W.specialIn K (.builtin "object.__class__") "__get__" = some (some (.builtin "getset_descriptor.__get__")))
    (ht_C_World : PySem.W.takesIn K (.builtin "object.__class__") = some true)
    (hm_C_World : PySem.W.mroIn K C_World (.type "object") = some true)
    (mint_C_World : PySem.W.mroIn K C_World (.type "int") = some false)
    (mstr_C_World : PySem.W.mroIn K C_World (.type "str") = some false)
    (mbool_C_World : PySem.W.mroIn K C_World (.type "bool") = some false)
    (mtuple_C_World : PySem.W.mroIn K C_World (.type "tuple") = some false)
    (mlist_C_World : PySem.W.mroIn K C_World (.type "list") = some false)
    (ci_C_World : (PySem.W.clsIn K C_World).isSome = true)
    (ti_C_World : PySem.W.typeIn K (.ref C_World) = some (.type "type"))
    (nq_C_World : PySem.W.noSeq K C_World = true)
    (nb_C_World : PySem.W.findIn K (.ref C_World) "__bool__" = some none)
    (ne_C_World : PySem.W.findIn K (.ref C_World) "__ne__" = some (some (.builtin "object.__ne__")))
    (a_World_init : PySem.W.findIn K (.ref C_World) "__init__" = some (some (.ref f_World_init)))
    (i_World_init : PySem.W.isFn K (.ref f_World_init) = true)
    (l_World_init : K.lookup f_World_init = some ⟨oc_World_init, od_World_init, .func (PySem.W.fnOf "__init__" "World.__init__" (defArgs (inClass (topS 17) 0)) (defBody (inClass (topS 17) 0)) (defScope (inClass (topS 17) 0)) .none kV_World_init dc_World_init pm_World_init an_World_init cd_World_init ct_World_init), sl_World_init⟩)
    (c_World_init : PySem.W.codeIn K cd_World_init "World.__init__" = true)
    (k_World_init : PySem.W.keepIn K (.ref f_World_init) = true)
    (a_World_atoms : PySem.W.findIn K (.ref C_World) "atoms" = some (some (.ref p_World_atoms)))
    (g_World_atoms : PySem.W.specialIn K (.ref p_World_atoms) "__get__" = some (some (.builtin "property.__get__")))
    (t_World_atoms : PySem.W.takesIn K (.ref p_World_atoms) = some true)
    (r_World_atoms : PySem.W.recIn K p_World_atoms "property" = some (.ref f_World_atoms :: rest_World_atoms))
    (l_World_atoms : K.lookup f_World_atoms = some ⟨oc_World_atoms, od_World_atoms, .func (PySem.W.fnOf "atoms" "World.atoms" (defArgs (inClass (topS 17) 1)) (defBody (inClass (topS 17) 1)) (defScope (inClass (topS 17) 1)) .none kV_World_atoms dc_World_atoms pm_World_atoms an_World_atoms cd_World_atoms ct_World_atoms), sl_World_atoms⟩)
    (c_World_atoms : PySem.W.codeIn K cd_World_atoms "World.atoms" = true)
    (k_World_atoms : PySem.W.keepIn K (.ref f_World_atoms) = true)
    (a_World_rows : PySem.W.findIn K (.ref C_World) "rows" = some (some (.ref p_World_rows)))
    (g_World_rows : PySem.W.specialIn K (.ref p_World_rows) "__get__" = some (some (.builtin "property.__get__")))
    (t_World_rows : PySem.W.takesIn K (.ref p_World_rows) = some true)
    (r_World_rows : PySem.W.recIn K p_World_rows "property" = some (.ref f_World_rows :: rest_World_rows))
    (l_World_rows : K.lookup f_World_rows = some ⟨oc_World_rows, od_World_rows, .func (PySem.W.fnOf "rows" "World.rows" (defArgs (inClass (topS 17) 2)) (defBody (inClass (topS 17) 2)) (defScope (inClass (topS 17) 2)) .none kV_World_rows dc_World_rows pm_World_rows an_World_rows cd_World_rows ct_World_rows), sl_World_rows⟩)
    (c_World_rows : PySem.W.codeIn K cd_World_rows "World.rows" = true)
    (k_World_rows : PySem.W.keepIn K (.ref f_World_rows) = true)
    (a_World_len : PySem.W.findIn K (.ref C_World) "__len__" = some (some (.ref f_World_len)))
    (i_World_len : PySem.W.isFn K (.ref f_World_len) = true)
    (l_World_len : K.lookup f_World_len = some ⟨oc_World_len, od_World_len, .func (PySem.W.fnOf "__len__" "World.__len__" (defArgs (inClass (topS 17) 3)) (defBody (inClass (topS 17) 3)) (defScope (inClass (topS 17) 3)) .none kV_World_len dc_World_len pm_World_len an_World_len cd_World_len ct_World_len), sl_World_len⟩)
    (c_World_len : PySem.W.codeIn K cd_World_len "World.__len__" = true)
    (k_World_len : PySem.W.keepIn K (.ref f_World_len) = true)
    (fn_World_len : PySem.W.fnIn K f_World_len = true)
    (a_World_eq : PySem.W.findIn K (.ref C_World) "__eq__" = some (some (.ref f_World_eq)))
    (i_World_eq : PySem.W.isFn K (.ref f_World_eq) = true)
    (l_World_eq : K.lookup f_World_eq = some ⟨oc_World_eq, od_World_eq, .func (PySem.W.fnOf "__eq__" "World.__eq__" (defArgs (inClass (topS 17) 4)) (defBody (inClass (topS 17) 4)) (defScope (inClass (topS 17) 4)) .none kV_World_eq dc_World_eq pm_World_eq an_World_eq cd_World_eq ct_World_eq), sl_World_eq⟩)
    (c_World_eq : PySem.W.codeIn K cd_World_eq "World.__eq__" = true)
    (k_World_eq : PySem.W.keepIn K (.ref f_World_eq) = true)
    (fn_World_eq : PySem.W.fnIn K f_World_eq = true)
    (a_World_repr : PySem.W.findIn K (.ref C_World) "__repr__" = some (some (.ref f_World_repr)))
    (i_World_repr : PySem.W.isFn K (.ref f_World_repr) = true)
    (l_World_repr : K.lookup f_World_repr = some ⟨oc_World_repr, od_World_repr, .func (PySem.W.fnOf "__repr__" "World.__repr__" (defArgs (inClass (topS 17) 5)) (defBody (inClass (topS 17) 5)) (defScope (inClass (topS 17) 5)) .none kV_World_repr dc_World_repr pm_World_repr an_World_repr cd_World_repr ct_World_repr), sl_World_repr⟩)
    (c_World_repr : PySem.W.codeIn K cd_World_repr "World.__repr__" = true)
    (k_World_repr : PySem.W.keepIn K (.ref f_World_repr) = true)
    (fn_World_repr : PySem.W.fnIn K f_World_repr = true)
    (n_C_World_told : PySem.W.findIn K (.ref C_World) "told" = some none)
    (g_LETTERS : PySem.W.nsIn K mainGlobals "LETTERS" = some (some (.str "abcdefghijklmnopqrstuvwyz" t_LETTERS)))
    (g_DIGITS : PySem.W.nsIn K mainGlobals "DIGITS" = some (some (.str "0123456789" t_DIGITS)))
    (g_MOST_DIGITS : PySem.W.nsIn K mainGlobals "MOST_DIGITS" = some (some (.int 3 t_MOST_DIGITS)))
    (g_MOST_WORLD_ATOMS : PySem.W.nsIn K mainGlobals "MOST_WORLD_ATOMS" = some (some (.int 6 t_MOST_WORLD_ATOMS)))
    (g_MOST_ATOM_NAMES : PySem.W.nsIn K mainGlobals "MOST_ATOM_NAMES" = some (some (.int 30 t_MOST_ATOM_NAMES)))
    (z_len : PySem.W.nsIn K mainGlobals "len" = some none)
    (z_int : PySem.W.nsIn K mainGlobals "int" = some none)
    (z_bool : PySem.W.nsIn K mainGlobals "bool" = some none)
    (z_str : PySem.W.nsIn K mainGlobals "str" = some none)
    (z_abs : PySem.W.nsIn K mainGlobals "abs" = some none)
    (z_min : PySem.W.nsIn K mainGlobals "min" = some none)
    (z_max : PySem.W.nsIn K mainGlobals "max" = some none)
    (z_divmod : PySem.W.nsIn K mainGlobals "divmod" = some none)
    (z_tuple : PySem.W.nsIn K mainGlobals "tuple" = some none)
    (z_list : PySem.W.nsIn K mainGlobals "list" = some none)
    (z_all : PySem.W.nsIn K mainGlobals "all" = some none)
    (z_any : PySem.W.nsIn K mainGlobals "any" = some none)
    (z_sum : PySem.W.nsIn K mainGlobals "sum" = some none)
    (z_repr : PySem.W.nsIn K mainGlobals "repr" = some none)
    (z_isinstance : PySem.W.nsIn K mainGlobals "isinstance" = some none)
    (z_range : PySem.W.nsIn K mainGlobals "range" = some none)
    (z_enumerate : PySem.W.nsIn K mainGlobals "enumerate" = some none) :
    ∃ (cls : Str → Option Addr) (fd : FuncData), TxtOk K mg cls T0 ∧ DefOk K cls fa fd d_law ∧ ∀ (s : Shared) (u : Value), BindsTo s fd ⟨[u], []⟩ [("_law_script", u)] := by
  have e : f_law = fa := by
    have z := hfa.symm.trans (PySem.W.mg_of X G a_law)
    cases z
    rfl
  subst e
  have F_is_name := fun_mk (st := topS 9) l_is_name c_is_name k_is_name
  have D_is_name : DefOk K (clsW C_World) f_is_name _ d_is_name := defOk_fun F_is_name (by decide +kernel) (all_cons (bind_fun F_is_name rfl fun _ _ _ _ _ _ us ws h1 h2 => match us, ws, h1, h2 with | [_], [], _, _ => rfl) all_nil) rfl
  have F_are_names := fun_mk (st := topS 10) l_are_names c_are_names k_are_names
  have D_are_names : DefOk K (clsW C_World) f_are_names _ d_are_names := defOk_fun F_are_names (by decide +kernel) (all_cons (bind_fun F_are_names rfl fun _ _ _ _ _ _ us ws h1 h2 => match us, ws, h1, h2 with | [_, _, _], [], _, _ => rfl) all_nil) rfl
  have F_check_atoms := fun_mk (st := topS 14) l_check_atoms c_check_atoms k_check_atoms
  have D_check_atoms : DefOk K (clsW C_World) f_check_atoms _ d_check_atoms := defOk_fun F_check_atoms (by decide +kernel) (all_cons (bind_fun F_check_atoms rfl fun _ _ _ _ _ _ us ws h1 h2 => match us, ws, h1, h2 with | [_], [], _, _ => rfl) all_nil) rfl
  have F_is_row := fun_mk (st := topS 15) l_is_row c_is_row k_is_row
  have D_is_row : DefOk K (clsW C_World) f_is_row _ d_is_row := defOk_fun F_is_row (by decide +kernel) (all_cons (bind_fun F_is_row rfl fun _ _ _ _ _ _ us ws h1 h2 => match us, ws, h1, h2 with | [_, _], [], _, _ => rfl) all_nil) rfl
  have F_check_rows := fun_mk (st := topS 16) l_check_rows c_check_rows k_check_rows
  have D_check_rows : DefOk K (clsW C_World) f_check_rows _ d_check_rows := defOk_fun F_check_rows (by decide +kernel) (all_cons (bind_fun F_check_rows rfl fun _ _ _ _ _ _ us ws h1 h2 => match us, ws, h1, h2 with | [_, _], [], _, _ => rfl) all_nil) rfl
  have F__law_source := fun_mk (st := topS 19) l__law_source c__law_source k__law_source
  have D__law_source : DefOk K (clsW C_World) f__law_source _ d__law_source := defOk_fun F__law_source (by decide +kernel) (all_cons (bind_fun F__law_source rfl fun _ _ _ _ _ _ us ws h1 h2 => match us, ws, h1, h2 with | [_, _], [], _, _ => rfl) all_nil) rfl
  have F__law_draw := fun_mk (st := topS 20) l__law_draw c__law_draw k__law_draw
  have D__law_draw : DefOk K (clsW C_World) f__law_draw _ d__law_draw := defOk_fun F__law_draw (by decide +kernel) (all_cons (bind_fun F__law_draw rfl fun _ _ _ _ _ _ us ws h1 h2 => match us, ws, h1, h2 with | [_, _], [], _, _ => rfl) all_nil) rfl
  have F__law_name := fun_mk (st := topS 21) l__law_name c__law_name k__law_name
  have D__law_name : DefOk K (clsW C_World) f__law_name _ d__law_name := defOk_fun F__law_name (by decide +kernel) (all_cons (bind_fun F__law_name rfl fun _ _ _ _ _ _ us ws h1 h2 => match us, ws, h1, h2 with | [_], [], _, _ => rfl) all_nil) rfl
  have F__law_atoms := fun_mk (st := topS 22) l__law_atoms c__law_atoms k__law_atoms
  have D__law_atoms : DefOk K (clsW C_World) f__law_atoms _ d__law_atoms := defOk_fun F__law_atoms (by decide +kernel) (all_cons (bind_fun F__law_atoms rfl fun _ _ _ _ _ _ us ws h1 h2 => match us, ws, h1, h2 with | [_], [], _, _ => rfl) all_nil) rfl
  have F__law_rows := fun_mk (st := topS 23) l__law_rows c__law_rows k__law_rows
  have D__law_rows : DefOk K (clsW C_World) f__law_rows _ d__law_rows := defOk_fun F__law_rows (by decide +kernel) (all_cons (bind_fun F__law_rows rfl fun _ _ _ _ _ _ us ws h1 h2 => match us, ws, h1, h2 with | [_, _, _], [], _, _ => rfl) all_nil) rfl
  have F__law_bent := fun_mk (st := topS 24) l__law_bent c__law_bent k__law_bent
  have D__law_bent : DefOk K (clsW C_World) f__law_bent _ d__law_bent := defOk_fun F__law_bent (by decide +kernel) (all_cons (bind_fun F__law_bent rfl fun _ _ _ _ _ _ us ws h1 h2 => match us, ws, h1, h2 with | [_, _, _], [], _, _ => rfl) all_nil) rfl
  have F__law_right := fun_mk (st := topS 25) l__law_right c__law_right k__law_right
  have D__law_right : DefOk K (clsW C_World) f__law_right _ d__law_right := defOk_fun F__law_right (by decide +kernel) (all_cons (bind_fun F__law_right rfl fun _ _ _ _ _ _ us ws h1 h2 => match us, ws, h1, h2 with | [_], [], _, _ => rfl) all_nil) rfl
  have F_law := fun_mk (st := topS 26) l_law c_law k_law
  have D_law : DefOk K (clsW C_World) f_law _ d_law := defOk_fun F_law (by decide +kernel) (all_cons (bind_fun F_law rfl fun _ _ _ _ _ _ us ws h1 h2 => match us, ws, h1, h2 with | [_], [], _, _ => rfl) all_nil) rfl
  have F_World_init := fun_mk (st := inClass (topS 17) 0) l_World_init c_World_init k_World_init
  have D_World_init : DefOk K (clsW C_World) f_World_init _ d_World_init := defOk_fun F_World_init (by decide +kernel) (all_cons (bind_fun F_World_init rfl fun _ _ _ _ _ _ us ws h1 h2 => match us, ws, h1, h2 with | [_], [_, _], _, _ => rfl) (all_cons (bind_fun F_World_init rfl fun _ _ _ _ _ _ us ws h1 h2 => match us, ws, h1, h2 with | [_, _, _], [], _, _ => rfl) all_nil)) rfl
  have F_World_atoms := fun_mk (st := inClass (topS 17) 1) l_World_atoms c_World_atoms k_World_atoms
  have D_World_atoms : DefOk K (clsW C_World) f_World_atoms _ d_World_atoms := defOk_fun F_World_atoms (by decide +kernel) (all_cons (bind_fun F_World_atoms rfl fun _ _ _ _ _ _ us ws h1 h2 => match us, ws, h1, h2 with | [_], [], _, _ => rfl) all_nil) rfl
  have F_World_rows := fun_mk (st := inClass (topS 17) 2) l_World_rows c_World_rows k_World_rows
  have D_World_rows : DefOk K (clsW C_World) f_World_rows _ d_World_rows := defOk_fun F_World_rows (by decide +kernel) (all_cons (bind_fun F_World_rows rfl fun _ _ _ _ _ _ us ws h1 h2 => match us, ws, h1, h2 with | [_], [], _, _ => rfl) all_nil) rfl
  have F_World_len := fun_mk (st := inClass (topS 17) 3) l_World_len c_World_len k_World_len
  have D_World_len : DefOk K (clsW C_World) f_World_len _ d_World_len := defOk_fun F_World_len (by decide +kernel) (all_cons (bind_fun F_World_len rfl fun _ _ _ _ _ _ us ws h1 h2 => match us, ws, h1, h2 with | [_], [], _, _ => rfl) all_nil) rfl
  have F_World_eq := fun_mk (st := inClass (topS 17) 4) l_World_eq c_World_eq k_World_eq
  have D_World_eq : DefOk K (clsW C_World) f_World_eq _ d_World_eq := defOk_fun F_World_eq (by decide +kernel) (all_cons (bind_fun F_World_eq rfl fun _ _ _ _ _ _ us ws h1 h2 => match us, ws, h1, h2 with | [_, _], [], _, _ => rfl) all_nil) rfl
  have F_World_repr := fun_mk (st := inClass (topS 17) 5) l_World_repr c_World_repr k_World_repr
  have D_World_repr : DefOk K (clsW C_World) f_World_repr _ d_World_repr := defOk_fun F_World_repr (by decide +kernel) (all_cons (bind_fun F_World_repr rfl fun _ _ _ _ _ _ us ws h1 h2 => match us, ws, h1, h2 with | [_], [], _, _ => rfl) all_nil) rfl
  have O_World : ClsOk K mg (clsW C_World) c_World C_World := ⟨PySem.W.mg_of X G a_C_World, by decide +kernel, rfl, kc_C_World, (fun d h => by cases h; exact ⟨f_World_init, _, ⟨mk_C_World, a_World_init, i_World_init, kc_C_World⟩, D_World_init⟩), fun m d h => (show ∀ q ∈ c_World.meths, ∃ a fd, Meth K C_World q.1 a ∧ DefOk K (clsW C_World) a fd q.2 from all_nil) (m, d) (PySem.mem_of_lookup h), fun m d h => (show ∀ q ∈ c_World.props, ∃ pa a fd, PropOf K C_World q.1 pa a ∧ DefOk K (clsW C_World) a fd q.2 from (all_cons ⟨p_World_atoms, f_World_atoms, _, ⟨a_World_atoms, g_World_atoms, t_World_atoms, ⟨_, r_World_atoms⟩⟩, D_World_atoms⟩ (all_cons ⟨p_World_rows, f_World_rows, _, ⟨a_World_rows, g_World_rows, t_World_rows, ⟨_, r_World_rows⟩⟩, D_World_rows⟩ all_nil))) (m, d) (PySem.mem_of_lookup h), (all_cons n_C_World_told all_nil), fun m d h => (show ∀ q ∈ c_World.cms, ∃ mc p a fd, ClX.CRead K C_World mc ∧ ClX.CMet K C_World mc q.1 p a ∧ DefOk K (clsW C_World) a fd q.2 from all_nil) (m, d) (PySem.mem_of_lookup h), fun m d h => (show ∀ q ∈ c_World.specs, ∃ a fd, PySem.W.findIn K (.ref C_World) q.1 = some (some (.ref a)) ∧ PySem.W.isFn K (.ref a) = true ∧ PySem.W.fnIn K a = true ∧ DefOk K (clsW C_World) a fd q.2 from (all_cons ⟨f_World_len, _, a_World_len, i_World_len, fn_World_len, D_World_len⟩ (all_cons ⟨f_World_eq, _, a_World_eq, i_World_eq, fn_World_eq, D_World_eq⟩ (all_cons ⟨f_World_repr, _, a_World_repr, i_World_repr, fn_World_repr, D_World_repr⟩ all_nil)))) (m, d) (PySem.mem_of_lookup h)⟩
  have I_World : ClsFacts K C_World := clsFacts ⟨pg_C_World, hd_C_World, po_C_World, sa_C_World⟩ ha_C_World hn_C_World ht_C_World hm_C_World mint_C_World mstr_C_World mbool_C_World mtuple_C_World mlist_C_World ci_C_World ti_C_World nq_C_World nb_C_World ne_C_World
  refine ⟨clsW C_World, _, ⟨?_, ?_, ⟨?_, ?_⟩, ?_, ?_, ?_, ?_, ?_⟩, D_law, fun s u => .of_eq rfl⟩
  · exact fun f d hf => (show ∀ q ∈ fnsT, (q.1 == ("__debug__" : Str)) = false ∧ ∃ a fd, mg q.1 = some (.ref a) ∧ PySem.W.keepIn K (.ref a) = true ∧ DefOk K (clsW C_World) a fd q.2 from (all_cons ⟨by decide +kernel, f_is_name, _, PySem.W.mg_of X G a_is_name, k_is_name, D_is_name⟩ (all_cons ⟨by decide +kernel, f_are_names, _, PySem.W.mg_of X G a_are_names, k_are_names, D_are_names⟩ (all_cons ⟨by decide +kernel, f_check_atoms, _, PySem.W.mg_of X G a_check_atoms, k_check_atoms, D_check_atoms⟩ (all_cons ⟨by decide +kernel, f_is_row, _, PySem.W.mg_of X G a_is_row, k_is_row, D_is_row⟩ (all_cons ⟨by decide +kernel, f_check_rows, _, PySem.W.mg_of X G a_check_rows, k_check_rows, D_check_rows⟩ (all_cons ⟨by decide +kernel, f__law_source, _, PySem.W.mg_of X G a__law_source, k__law_source, D__law_source⟩ (all_cons ⟨by decide +kernel, f__law_draw, _, PySem.W.mg_of X G a__law_draw, k__law_draw, D__law_draw⟩ (all_cons ⟨by decide +kernel, f__law_name, _, PySem.W.mg_of X G a__law_name, k__law_name, D__law_name⟩ (all_cons ⟨by decide +kernel, f__law_atoms, _, PySem.W.mg_of X G a__law_atoms, k__law_atoms, D__law_atoms⟩ (all_cons ⟨by decide +kernel, f__law_rows, _, PySem.W.mg_of X G a__law_rows, k__law_rows, D__law_rows⟩ (all_cons ⟨by decide +kernel, f__law_bent, _, PySem.W.mg_of X G a__law_bent, k__law_bent, D__law_bent⟩ (all_cons ⟨by decide +kernel, f__law_right, _, PySem.W.mg_of X G a__law_right, k__law_right, D__law_right⟩ all_nil))))))))))))) (f, d) (PySem.mem_of_lookup hf)
  · exact fun f ci hf => (show ∀ q ∈ clsT, ∃ Ca, ClsOk K mg (clsW C_World) q Ca from (all_cons ⟨_, O_World⟩ all_nil)) ci (findC_mem hf)
  · intro c C hc
    unfold clsW at hc
    split at hc
    · cases hc; exact I_World
    cases hc
  · intro c d C D b hc hd hb
    change isaT0 c d = some b at hb
    unfold isaT0 at hb
    split at hb
    · rename_i hh
      obtain ⟨rfl, _⟩ := hh
      cases hb
      rw [hc] at hd
      cases hd
      unfold PySem.W.kitOne
      rw [if_pos (by simp)]
    · split at hb
      · rename_i hne hh
        obtain ⟨h1, h2⟩ := hh
        cases hb
        simp only [List.mem_cons, List.not_mem_nil, or_false] at h1 h2
        rcases h1 with rfl <;> rcases h2 with rfl
        · exact absurd ⟨rfl, by simp⟩ hne
      · cases hb
  · exact fun x d hx => (show ∀ q ∈ glT, (q.1 == ("__debug__" : Str)) = false ∧ ∃ u v, mg q.1 = some u ∧ RelV v u ∧ ∀ ia F, Rep K (clsW C_World) ia F q.2 v from (all_cons ⟨by decide +kernel, _, .str "abcdefghijklmnopqrstuvwyz", PySem.W.mg_of X G g_LETTERS, ⟨_, rfl⟩, fun ia F => by simp only [Rep]⟩ (all_cons ⟨by decide +kernel, _, .str "0123456789", PySem.W.mg_of X G g_DIGITS, ⟨_, rfl⟩, fun ia F => by simp only [Rep]⟩ (all_cons ⟨by decide +kernel, _, .int 3, PySem.W.mg_of X G g_MOST_DIGITS, ⟨_, rfl⟩, fun ia F => by simp only [Rep]⟩ (all_cons ⟨by decide +kernel, _, .int 6, PySem.W.mg_of X G g_MOST_WORLD_ATOMS, ⟨_, rfl⟩, fun ia F => by simp only [Rep]⟩ (all_cons ⟨by decide +kernel, _, .int 30, PySem.W.mg_of X G g_MOST_ATOM_NAMES, ⟨_, rfl⟩, fun ia F => by simp only [Rep]⟩ (all_cons ⟨by decide +kernel, _, .ref C_World, PySem.W.mg_of X G a_C_World, rfl, fun ia F => by simp only [Rep]; exact ⟨C_World, rfl, rfl⟩⟩ all_nil))))))) (x, d) (PySem.mem_of_lookup hx)
  · intro x n hx
    rcases tyName_mem hx with rfl | rfl | rfl | rfl | rfl
    · exact PySem.W.mg_none_of X G z_int
    · exact PySem.W.mg_none_of X G z_str
    · exact PySem.W.mg_none_of X G z_bool
    · exact PySem.W.mg_none_of X G z_tuple
    · exact PySem.W.mg_none_of X G z_list
  · intro b
    cases b
    · exact PySem.W.mg_none_of X G z_len
    · exact PySem.W.mg_none_of X G z_int
    · exact PySem.W.mg_none_of X G z_bool
    · exact PySem.W.mg_none_of X G z_str
    · exact PySem.W.mg_none_of X G z_abs
    · exact PySem.W.mg_none_of X G z_min
    · exact PySem.W.mg_none_of X G z_max
    · exact PySem.W.mg_none_of X G z_divmod
    · exact PySem.W.mg_none_of X G z_tuple
    · exact PySem.W.mg_none_of X G z_list
    · exact PySem.W.mg_none_of X G z_all
    · exact PySem.W.mg_none_of X G z_any
    · exact PySem.W.mg_none_of X G z_sum
    · exact PySem.W.mg_none_of X G z_repr
    · exact PySem.W.mg_none_of X G z_isinstance
  · exact PySem.W.mg_none_of X G z_range
  · exact PySem.W.mg_none_of X G z_enumerate

end Wd

set_option Elab.async false
set_option linter.all false
set_option maxRecDepth 100000
set_option maxHeartbeats 400000
namespace Wd
open PySem PySem.Spec PyProof.Rows L2
section
variable {E : Vl → Hs → Prop} {T : Fl → Env → Hs → Prop} {h : Hs} {Q : Option Vl → Hs → Prop}
def Gc (k : Nat) (cl : Str → List Vl → List Str → List Vl → Hs → Rs Vl) (me : Str → Str → List Vl → List Str → List Vl → Hs → Rs Vl) (at_ : Str → Str → Vl → Hs → Rs Vl) (sp : Str → Str → List Vl → Hs → Rs Vl) (cm : Str → Str → List Vl → List Str → List Vl → Hs → Rs Vl) : Gt := { mkG T0 200 (k + 1) with call := cl, meth := me, attr := at_, spec := sp, clm := cm }
theorem Gc_eq {k : Nat} : Gc k (mkG T0 200 (k + 1)).call (mkG T0 200 (k + 1)).meth (mkG T0 200 (k + 1)).attr (mkG T0 200 (k + 1)).spec (mkG T0 200 (k + 1)).clm = mkG T0 200 (k + 1) := rfl

instance k_World {k : Nat} {vs ws : List Vl} {ks : List Str} {Q : Vl → Hs → Prop} : St (Wp (cO (mkG T0 200 (k + 1)) "World" vs ks ws h) Q E) (Wp (mO (mkG T0 200 k) c_World vs ks ws h) Q E) := ⟨fun w => by
  unfold cO
  unfold mO at w
  rw [show (mkG T0 200 (k + 1)).call "World" vs ks ws h = makeV (mkG T0 200 k) 200 c_World vs ks ws h from by kernel_rfl]
  exact w⟩
instance k__law_atoms_1 {k : Nat} {a0 : Vl} {Q : Vl → Hs → Prop} : St (Wp (cO (mkG T0 200 (k + 1)) "_law_atoms" [a0] [] [] h) Q E) (Wp (rD (mkG T0 200 k) d__law_atoms [a0] h) Q E) := ⟨fun w => by
  unfold cO
  unfold rD at w
  rw [show (mkG T0 200 (k + 1)).call "_law_atoms" [a0] [] [] h = runDef (mkG T0 200 k) 200 d__law_atoms [a0] h from by kernel_rfl]
  exact w⟩
instance k__law_bent_3 {k : Nat} {a0 a1 a2 : Vl} {Q : Vl → Hs → Prop} : St (Wp (cO (mkG T0 200 (k + 1)) "_law_bent" [a0, a1, a2] [] [] h) Q E) (Wp (rD (mkG T0 200 k) d__law_bent [a0, a1, a2] h) Q E) := ⟨fun w => by
  unfold cO
  unfold rD at w
  rw [show (mkG T0 200 (k + 1)).call "_law_bent" [a0, a1, a2] [] [] h = runDef (mkG T0 200 k) 200 d__law_bent [a0, a1, a2] h from by kernel_rfl]
  exact w⟩
instance k__law_draw_2 {k : Nat} {a0 a1 : Vl} {Q : Vl → Hs → Prop} : St (Wp (cO (mkG T0 200 (k + 1)) "_law_draw" [a0, a1] [] [] h) Q E) (Wp (rD (mkG T0 200 k) d__law_draw [a0, a1] h) Q E) := ⟨fun w => by
  unfold cO
  unfold rD at w
  rw [show (mkG T0 200 (k + 1)).call "_law_draw" [a0, a1] [] [] h = runDef (mkG T0 200 k) 200 d__law_draw [a0, a1] h from by kernel_rfl]
  exact w⟩
instance k__law_name_1 {k : Nat} {a0 : Vl} {Q : Vl → Hs → Prop} : St (Wp (cO (mkG T0 200 (k + 1)) "_law_name" [a0] [] [] h) Q E) (Wp (rD (mkG T0 200 k) d__law_name [a0] h) Q E) := ⟨fun w => by
  unfold cO
  unfold rD at w
  rw [show (mkG T0 200 (k + 1)).call "_law_name" [a0] [] [] h = runDef (mkG T0 200 k) 200 d__law_name [a0] h from by kernel_rfl]
  exact w⟩
instance k__law_right_1 {k : Nat} {a0 : Vl} {Q : Vl → Hs → Prop} : St (Wp (cO (mkG T0 200 (k + 1)) "_law_right" [a0] [] [] h) Q E) (Wp (rD (mkG T0 200 k) d__law_right [a0] h) Q E) := ⟨fun w => by
  unfold cO
  unfold rD at w
  rw [show (mkG T0 200 (k + 1)).call "_law_right" [a0] [] [] h = runDef (mkG T0 200 k) 200 d__law_right [a0] h from by kernel_rfl]
  exact w⟩
instance k__law_rows_3 {k : Nat} {a0 a1 a2 : Vl} {Q : Vl → Hs → Prop} : St (Wp (cO (mkG T0 200 (k + 1)) "_law_rows" [a0, a1, a2] [] [] h) Q E) (Wp (rD (mkG T0 200 k) d__law_rows [a0, a1, a2] h) Q E) := ⟨fun w => by
  unfold cO
  unfold rD at w
  rw [show (mkG T0 200 (k + 1)).call "_law_rows" [a0, a1, a2] [] [] h = runDef (mkG T0 200 k) 200 d__law_rows [a0, a1, a2] h from by kernel_rfl]
  exact w⟩
instance k__law_source_2 {k : Nat} {a0 a1 : Vl} {Q : Vl → Hs → Prop} : St (Wp (cO (mkG T0 200 (k + 1)) "_law_source" [a0, a1] [] [] h) Q E) (Wp (rD (mkG T0 200 k) d__law_source [a0, a1] h) Q E) := ⟨fun w => by
  unfold cO
  unfold rD at w
  rw [show (mkG T0 200 (k + 1)).call "_law_source" [a0, a1] [] [] h = runDef (mkG T0 200 k) 200 d__law_source [a0, a1] h from by kernel_rfl]
  exact w⟩
instance k_are_names_3 {k : Nat} {a0 a1 a2 : Vl} {Q : Vl → Hs → Prop} : St (Wp (cO (mkG T0 200 (k + 1)) "are_names" [a0, a1, a2] [] [] h) Q E) (Wp (rD (mkG T0 200 k) d_are_names [a0, a1, a2] h) Q E) := ⟨fun w => by
  unfold cO
  unfold rD at w
  rw [show (mkG T0 200 (k + 1)).call "are_names" [a0, a1, a2] [] [] h = runDef (mkG T0 200 k) 200 d_are_names [a0, a1, a2] h from by kernel_rfl]
  exact w⟩
instance k_check_atoms_1 {k : Nat} {a0 : Vl} {Q : Vl → Hs → Prop} : St (Wp (cO (mkG T0 200 (k + 1)) "check_atoms" [a0] [] [] h) Q E) (Wp (rD (mkG T0 200 k) d_check_atoms [a0] h) Q E) := ⟨fun w => by
  unfold cO
  unfold rD at w
  rw [show (mkG T0 200 (k + 1)).call "check_atoms" [a0] [] [] h = runDef (mkG T0 200 k) 200 d_check_atoms [a0] h from by kernel_rfl]
  exact w⟩
instance k_check_rows_2 {k : Nat} {a0 a1 : Vl} {Q : Vl → Hs → Prop} : St (Wp (cO (mkG T0 200 (k + 1)) "check_rows" [a0, a1] [] [] h) Q E) (Wp (rD (mkG T0 200 k) d_check_rows [a0, a1] h) Q E) := ⟨fun w => by
  unfold cO
  unfold rD at w
  rw [show (mkG T0 200 (k + 1)).call "check_rows" [a0, a1] [] [] h = runDef (mkG T0 200 k) 200 d_check_rows [a0, a1] h from by kernel_rfl]
  exact w⟩
instance k_is_name_1 {k : Nat} {a0 : Vl} {Q : Vl → Hs → Prop} : St (Wp (cO (mkG T0 200 (k + 1)) "is_name" [a0] [] [] h) Q E) (Wp (rD (mkG T0 200 k) d_is_name [a0] h) Q E) := ⟨fun w => by
  unfold cO
  unfold rD at w
  rw [show (mkG T0 200 (k + 1)).call "is_name" [a0] [] [] h = runDef (mkG T0 200 k) 200 d_is_name [a0] h from by kernel_rfl]
  exact w⟩
instance k_is_row_2 {k : Nat} {a0 a1 : Vl} {Q : Vl → Hs → Prop} : St (Wp (cO (mkG T0 200 (k + 1)) "is_row" [a0, a1] [] [] h) Q E) (Wp (rD (mkG T0 200 k) d_is_row [a0, a1] h) Q E) := ⟨fun w => by
  unfold cO
  unfold rD at w
  rw [show (mkG T0 200 (k + 1)).call "is_row" [a0, a1] [] [] h = runDef (mkG T0 200 k) 200 d_is_row [a0, a1] h from by kernel_rfl]
  exact w⟩
theorem kc_World {k : Nat} {β : Type} {no : β} {f : Str → β} : clsK (mkG T0 200 (k + 1)) (.cl "World") no f = f "World" := by kernel_rfl
instance {k : Nat} {no : Rs Vl} {f : Str → Rs Vl} {Q : Vl → Hs → Prop} : St (Wp (clsK (mkG T0 200 (k + 1)) (.cl "World") no f) Q E) (Wp (f "World") Q E) := ⟨fun w => by rw [kc_World]; exact w⟩
instance {k : Nat} {no : Rt} {f : Str → Rt} : St (WpR (clsK (mkG T0 200 (k + 1)) (.cl "World") no f) T E) (WpR (f "World") T E) := ⟨fun w => by rw [kc_World]; exact w⟩
instance {k : Nat} {fs : List (Str × Vl)} {Q : Vl → Hs → Prop} : St (Wp (bO (mkG T0 200 (k + 1)) .len (.ins "World" fs) h) Q E) (Wp (rD (mkG T0 200 k) d_World_len [.ins "World" fs] h) (fun v h' => Wp (ownR .len v h') Q noE) noE) := ⟨i_bOS (nm := "__len__") rfl rfl (by kernel_rfl)⟩
instance {k : Nat} {fs : List (Str × Vl)} {Q : Vl → Hs → Prop} : St (Wp (bO (mkG T0 200 (k + 1)) .bool (.ins "World" fs) h) Q E) (Wp (rD (mkG T0 200 k) d_World_len [.ins "World" fs] h) (fun v h' => Wp (ownR .bool v h') Q noE) noE) := ⟨i_bOS (nm := "__len__") rfl rfl (by kernel_rfl)⟩
instance {k : Nat} {fs : List (Str × Vl)} {y : Vl} {Q : Vl → Hs → Prop} : StC (Wp (cX (mkG T0 200 (k + 1)) .Eq (.ins "World" fs) y h) Q E) (sideOk (mkG T0 200 (k + 1)) h "World" y = true) (Wp (rD (mkG T0 200 k) d_World_eq [.ins "World" fs, y] h) (fun v h' => Wp (cmpR .Eq v h') Q E) noE) := ⟨fun c => i_cXS rfl rfl c (by kernel_rfl)⟩
instance {k : Nat} {fs : List (Str × Vl)} {y : Vl} {Q : Vl → Hs → Prop} : StC (Wp (cX (mkG T0 200 (k + 1)) .NotEq (.ins "World" fs) y h) Q E) (sideOk (mkG T0 200 (k + 1)) h "World" y = true) (Wp (rD (mkG T0 200 k) d_World_eq [.ins "World" fs, y] h) (fun v h' => Wp (cmpR .NotEq v h') Q E) noE) := ⟨fun c => i_cXS rfl rfl c (by kernel_rfl)⟩
instance {k : Nat} {fs : List (Str × Vl)} {Q : Vl → Hs → Prop} : St (Wp (bO (mkG T0 200 (k + 1)) .repr (.ins "World" fs) h) Q E) (Wp (rD (mkG T0 200 k) d_World_repr [.ins "World" fs] h) (fun v h' => Wp (ownR .repr v h') Q noE) noE) := ⟨i_bOS (nm := "__repr__") rfl rfl (by kernel_rfl)⟩
end

end Wd

set_option Elab.async false
set_option linter.all false
set_option maxRecDepth 100000
set_option maxHeartbeats 400000
namespace Wd
open PySem PySem.Spec PyProof.Rows L2
section
variable {E : Vl → Hs → Prop} {T : Fl → Env → Hs → Prop} {h : Hs} {Q : Option Vl → Hs → Prop}
/-! is_name; slots: 0=value 1=sign -/
def b_is_name_0 : List Stmt := d_is_name.body
def t_is_name_0_0 : List Stmt := b_is_name_0.drop 0
def t_is_name_0_1 : List Stmt := b_is_name_0.drop 1
def b_is_name_1 : List Stmt := bodyS (b_is_name_0.getD 0 (.Pass ⟨0, 0, 0, 0⟩))
def t_is_name_1_0 : List Stmt := b_is_name_1.drop 0
def cf_is_name_0 (G : Gt) (o0 o1 : Option Vl) : Vl → Hs → Rs (Option Vl) := fun x1 h2 => ((Rs.of ((cmpV .In h2 x1 (Vl.str "0123456789")).map .bl) h2).bind fun x7 h8 => Rs.ok x7 h8).bind fun v5 h4 => .ok (some v5) (trunc h2 v5 h4)
instance {G : Gt} {o0 o1 : Option Vl} {x1 : Vl} {h2 : Hs} : St (Wp (cf_is_name_0 G o0 o1 x1 h2) Q E) (Wp (((Rs.of ((cmpV .In h2 x1 (Vl.str "0123456789")).map .bl) h2).bind fun x7 h8 => Rs.ok x7 h8).bind fun v5 h4 => .ok (some v5) (trunc h2 v5 h4)) Q E) := ⟨fun w => w⟩
theorem x_is_name_0_0 (k : Nat) (cl : CL) (me : ME) (at_ : AT_) (sp : SP) (cm : ME) (o0 o1 : Option Vl) (h : Hs) (kk : Env → Hs → Rt) : evSK (Gc k cl me at_ sp cm) 200 20 d_is_name.st (t_is_name_0_0.headD (.Pass ⟨0, 0, 0, 0⟩)) [o0, o1] h kk = (((nmO o0 h).bind fun x103 h104 => (Rs.of (bltV isaT0 .isa [x103, (Vl.ty "str")] h104) h104).bind fun x105 h106 => (testOf h106 x105).bind fun b107 h108 => Rs.ok (Vl.bl (!b107)) h108).bind fun x101 h102 => boolK .Or x101 h102 fun _ => ((nmO o0 h102).bind fun x111 h112 => (bO (Gc k cl me at_ sp cm) .len x111 h112).bind fun x113 h114 => (Rs.of (cmpV .Lt h114 (Vl.int 0) x113) h114).bind fun t115 h116 => ((if t115 then (Rs.of (binV .Add (Vl.int 1) (Vl.int 3)) h116).bind fun x117 h118 => Rs.of ((cmpV .LtE h118 x113 x117).map .bl) h118 else .ok (.bl false) h116 : Rs Vl)).bind fun x119 h120 => (testOf h120 x119).bind fun b121 h122 => Rs.ok (Vl.bl (!b121)) h122).bind fun x109 h110 => boolK .Or x109 h110 fun _ => (nmO o0 h110).bind fun x123 h124 => (iX (Gc k cl me at_ sp cm) x123 (Vl.int 0) h124).bind fun x125 h126 => (Rs.of ((cmpV .NotIn h126 x125 (Vl.str "abcdefghijklmnopqrstuvwyz")).map .bl) h126).bind fun x127 h128 => Rs.ok x127 h128).st [o0, o1] fun x129 h130 => (testOf h130 x129).st [o0, o1] fun t131 h132 => if t131 then Bk (Gc k cl me at_ sp cm) 19 d_is_name.st t_is_name_1_0 [o0, o1] h132 kk else kk [o0, o1] h132 := by kernel_rfl
instance i_is_name_0_0 {k : Nat} {o0 o1 : Option Vl} {kk : Env → Hs → Rt} : St (WpR (Bk (mkG T0 200 (k + 1)) 20 d_is_name.st t_is_name_0_0 [o0, o1] h kk) T E) (WpR ((((nmO o0 h).bind fun x103 h104 => (Rs.of (bltV isaT0 .isa [x103, (Vl.ty "str")] h104) h104).bind fun x105 h106 => (testOf h106 x105).bind fun b107 h108 => Rs.ok (Vl.bl (!b107)) h108).bind fun x101 h102 => boolK .Or x101 h102 fun _ => ((nmO o0 h102).bind fun x111 h112 => (bO (mkG T0 200 (k + 1)) .len x111 h112).bind fun x113 h114 => (Rs.of (cmpV .Lt h114 (Vl.int 0) x113) h114).bind fun t115 h116 => ((if t115 then (Rs.of (binV .Add (Vl.int 1) (Vl.int 3)) h116).bind fun x117 h118 => Rs.of ((cmpV .LtE h118 x113 x117).map .bl) h118 else .ok (.bl false) h116 : Rs Vl)).bind fun x119 h120 => (testOf h120 x119).bind fun b121 h122 => Rs.ok (Vl.bl (!b121)) h122).bind fun x109 h110 => boolK .Or x109 h110 fun _ => (nmO o0 h110).bind fun x123 h124 => (iX (mkG T0 200 (k + 1)) x123 (Vl.int 0) h124).bind fun x125 h126 => (Rs.of ((cmpV .NotIn h126 x125 (Vl.str "abcdefghijklmnopqrstuvwyz")).map .bl) h126).bind fun x127 h128 => Rs.ok x127 h128).st [o0, o1] fun x129 h130 => (testOf h130 x129).st [o0, o1] fun t131 h132 => if t131 then Bk (mkG T0 200 (k + 1)) 19 d_is_name.st t_is_name_1_0 [o0, o1] h132 (fun r h => Bk (mkG T0 200 (k + 1)) 20 d_is_name.st t_is_name_0_1 r h kk) else Bk (mkG T0 200 (k + 1)) 20 d_is_name.st t_is_name_0_1 [o0, o1] h132 kk) T E) := ⟨fun w => by have z := x_is_name_0_0 k (mkG T0 200 (k + 1)).call (mkG T0 200 (k + 1)).meth (mkG T0 200 (k + 1)).attr (mkG T0 200 (k + 1)).spec (mkG T0 200 (k + 1)).clm o0 o1 h (fun r h => Bk (mkG T0 200 (k + 1)) 20 d_is_name.st t_is_name_0_1 r h kk); rw [Gc_eq] at z; rw [Bk_cons (t' := t_is_name_0_1) (s := t_is_name_0_0.headD (.Pass ⟨0, 0, 0, 0⟩)) (by kernel_rfl)]; exact WpR_cg z w⟩
theorem x_is_name_1_0 (k : Nat) (cl : CL) (me : ME) (at_ : AT_) (sp : SP) (cm : ME) (o0 o1 : Option Vl) (h : Hs) (kk : Env → Hs → Rt) : evSK (Gc k cl me at_ sp cm) 200 19 d_is_name.st (t_is_name_1_0.headD (.Pass ⟨0, 0, 0, 0⟩)) [o0, o1] h kk = Rt.ok (.rt (Vl.bl false)) [o0, o1] h := by kernel_rfl
instance i_is_name_1_0 {k : Nat} {o0 o1 : Option Vl} {kk : Env → Hs → Rt} : St (WpR (Bk (mkG T0 200 (k + 1)) 19 d_is_name.st t_is_name_1_0 [o0, o1] h kk) T E) (WpR (Rt.ok (.rt (Vl.bl false)) [o0, o1] h) T E) := ⟨fun w => by have z := x_is_name_1_0 k (mkG T0 200 (k + 1)).call (mkG T0 200 (k + 1)).meth (mkG T0 200 (k + 1)).attr (mkG T0 200 (k + 1)).spec (mkG T0 200 (k + 1)).clm o0 o1 h kk; rw [Gc_eq] at z; rw [Bk_one (s := t_is_name_1_0.headD (.Pass ⟨0, 0, 0, 0⟩)) (by kernel_rfl)]; exact WpR_cg z w⟩
theorem x_is_name_0_1 (k : Nat) (cl : CL) (me : ME) (at_ : AT_) (sp : SP) (cm : ME) (o0 o1 : Option Vl) (h : Hs) (kk : Env → Hs → Rt) : evSK (Gc k cl me at_ sp cm) 200 20 d_is_name.st (t_is_name_0_1.headD (.Pass ⟨0, 0, 0, 0⟩)) [o0, o1] h kk = (((nmO o0 h).bind fun x11 h12 => (Rs.of (sliceV x11 (some 1) none) h12).bind fun x13 h14 => Rs.ok x13 h14).bind fun x9 h10 => Rs.of (walkV x9) h10).st [o0, o1] fun xs15 h16 => (cM (cf_is_name_0 (Gc k cl me at_ sp cm) o0 o1) xs15 [] h16).st [o0, o1] fun ys17 h18 => (Rs.of (bltV isaT0 .all [(Vl.lst ys17)] h18) h18).st [o0, o1] fun x19 h20 => Rt.ok (.rt x19) [o0, o1] h20 := by kernel_rfl
instance i_is_name_0_1 {k : Nat} {o0 o1 : Option Vl} {kk : Env → Hs → Rt} : St (WpR (Bk (mkG T0 200 (k + 1)) 20 d_is_name.st t_is_name_0_1 [o0, o1] h kk) T E) (WpR ((((nmO o0 h).bind fun x11 h12 => (Rs.of (sliceV x11 (some 1) none) h12).bind fun x13 h14 => Rs.ok x13 h14).bind fun x9 h10 => Rs.of (walkV x9) h10).st [o0, o1] fun xs15 h16 => (cM (cf_is_name_0 (mkG T0 200 (k + 1)) o0 o1) xs15 [] h16).st [o0, o1] fun ys17 h18 => (Rs.of (bltV isaT0 .all [(Vl.lst ys17)] h18) h18).st [o0, o1] fun x19 h20 => Rt.ok (.rt x19) [o0, o1] h20) T E) := ⟨fun w => by have z := x_is_name_0_1 k (mkG T0 200 (k + 1)).call (mkG T0 200 (k + 1)).meth (mkG T0 200 (k + 1)).attr (mkG T0 200 (k + 1)).spec (mkG T0 200 (k + 1)).clm o0 o1 h kk; rw [Gc_eq] at z; rw [Bk_one (s := t_is_name_0_1.headD (.Pass ⟨0, 0, 0, 0⟩)) (by kernel_rfl)]; exact WpR_cg z w⟩
instance u_is_name {k : Nat} {a0 : Vl} {Q : Vl → Hs → Prop} : Un (Wp (rD (mkG T0 200 (k + 1)) d_is_name [a0] h) Q E) (WpR (Bk (mkG T0 200 (k + 1)) 20 d_is_name.st t_is_name_0_0 [some a0, none] h fun r h => .ok .nx r h) (retQ h Q) (retE h E)) := ⟨fun w => by
  have e : rD (mkG T0 200 (k + 1)) d_is_name [a0] h = endR h (Bk (mkG T0 200 (k + 1)) 20 d_is_name.st t_is_name_0_0 [some a0, none] h fun r h => .ok .nx r h) := by
    unfold rD Bk
    rw [runDef_K rfl]
    kernel_rfl
  rw [e, Wp_endS]; exact w⟩

end
end Wd

set_option Elab.async false
set_option linter.all false
set_option maxRecDepth 100000
set_option maxHeartbeats 400000
namespace Wd
open PySem PySem.Spec PyProof.Rows L2
section
variable {E : Vl → Hs → Prop} {T : Fl → Env → Hs → Prop} {h : Hs} {Q : Option Vl → Hs → Prop}
/-! are_names; slots: 0=value 1=least 2=most 3=name -/
def b_are_names_0 : List Stmt := d_are_names.body
def t_are_names_0_0 : List Stmt := b_are_names_0.drop 0
def t_are_names_0_1 : List Stmt := b_are_names_0.drop 1
def b_are_names_1 : List Stmt := bodyS (b_are_names_0.getD 0 (.Pass ⟨0, 0, 0, 0⟩))
def t_are_names_1_0 : List Stmt := b_are_names_1.drop 0
def cf_are_names_0 (G : Gt) (o0 o1 o2 o3 : Option Vl) : Vl → Hs → Rs (Option Vl) := fun x1 h2 => ((cO G "is_name" [x1] [] [] h2).bind fun x7 h8 => Rs.ok x7 h8).bind fun v5 h4 => .ok (some v5) (trunc h2 v5 h4)
instance {G : Gt} {o0 o1 o2 o3 : Option Vl} {x1 : Vl} {h2 : Hs} : St (Wp (cf_are_names_0 G o0 o1 o2 o3 x1 h2) Q E) (Wp (((cO G "is_name" [x1] [] [] h2).bind fun x7 h8 => Rs.ok x7 h8).bind fun v5 h4 => .ok (some v5) (trunc h2 v5 h4)) Q E) := ⟨fun w => w⟩
theorem x_are_names_0_0 (k : Nat) (cl : CL) (me : ME) (at_ : AT_) (sp : SP) (cm : ME) (o0 o1 o2 o3 : Option Vl) (h : Hs) (kk : Env → Hs → Rt) : evSK (Gc k cl me at_ sp cm) 200 20 d_are_names.st (t_are_names_0_0.headD (.Pass ⟨0, 0, 0, 0⟩)) [o0, o1, o2, o3] h kk = (((nmO o0 h).bind fun x103 h104 => (Rs.of (bltV isaT0 .isa [x103, (Vl.ty "tuple")] h104) h104).bind fun x105 h106 => (testOf h106 x105).bind fun b107 h108 => Rs.ok (Vl.bl (!b107)) h108).bind fun x101 h102 => boolK .Or x101 h102 fun _ => (nmO o1 h102).bind fun x109 h110 => (nmO o0 h110).bind fun x111 h112 => (bO (Gc k cl me at_ sp cm) .len x111 h112).bind fun x113 h114 => (Rs.of (cmpV .LtE h114 x109 x113) h114).bind fun t115 h116 => ((if t115 then (nmO o2 h116).bind fun x117 h118 => Rs.of ((cmpV .LtE h118 x113 x117).map .bl) h118 else .ok (.bl false) h116 : Rs Vl)).bind fun x119 h120 => (testOf h120 x119).bind fun b121 h122 => Rs.ok (Vl.bl (!b121)) h122).st [o0, o1, o2, o3] fun x123 h124 => (testOf h124 x123).st [o0, o1, o2, o3] fun t125 h126 => if t125 then Bk (Gc k cl me at_ sp cm) 19 d_are_names.st t_are_names_1_0 [o0, o1, o2, o3] h126 kk else kk [o0, o1, o2, o3] h126 := by kernel_rfl
instance i_are_names_0_0 {k : Nat} {o0 o1 o2 o3 : Option Vl} {kk : Env → Hs → Rt} : St (WpR (Bk (mkG T0 200 (k + 1)) 20 d_are_names.st t_are_names_0_0 [o0, o1, o2, o3] h kk) T E) (WpR ((((nmO o0 h).bind fun x103 h104 => (Rs.of (bltV isaT0 .isa [x103, (Vl.ty "tuple")] h104) h104).bind fun x105 h106 => (testOf h106 x105).bind fun b107 h108 => Rs.ok (Vl.bl (!b107)) h108).bind fun x101 h102 => boolK .Or x101 h102 fun _ => (nmO o1 h102).bind fun x109 h110 => (nmO o0 h110).bind fun x111 h112 => (bO (mkG T0 200 (k + 1)) .len x111 h112).bind fun x113 h114 => (Rs.of (cmpV .LtE h114 x109 x113) h114).bind fun t115 h116 => ((if t115 then (nmO o2 h116).bind fun x117 h118 => Rs.of ((cmpV .LtE h118 x113 x117).map .bl) h118 else .ok (.bl false) h116 : Rs Vl)).bind fun x119 h120 => (testOf h120 x119).bind fun b121 h122 => Rs.ok (Vl.bl (!b121)) h122).st [o0, o1, o2, o3] fun x123 h124 => (testOf h124 x123).st [o0, o1, o2, o3] fun t125 h126 => if t125 then Bk (mkG T0 200 (k + 1)) 19 d_are_names.st t_are_names_1_0 [o0, o1, o2, o3] h126 (fun r h => Bk (mkG T0 200 (k + 1)) 20 d_are_names.st t_are_names_0_1 r h kk) else Bk (mkG T0 200 (k + 1)) 20 d_are_names.st t_are_names_0_1 [o0, o1, o2, o3] h126 kk) T E) := ⟨fun w => by have z := x_are_names_0_0 k (mkG T0 200 (k + 1)).call (mkG T0 200 (k + 1)).meth (mkG T0 200 (k + 1)).attr (mkG T0 200 (k + 1)).spec (mkG T0 200 (k + 1)).clm o0 o1 o2 o3 h (fun r h => Bk (mkG T0 200 (k + 1)) 20 d_are_names.st t_are_names_0_1 r h kk); rw [Gc_eq] at z; rw [Bk_cons (t' := t_are_names_0_1) (s := t_are_names_0_0.headD (.Pass ⟨0, 0, 0, 0⟩)) (by kernel_rfl)]; exact WpR_cg z w⟩
theorem x_are_names_1_0 (k : Nat) (cl : CL) (me : ME) (at_ : AT_) (sp : SP) (cm : ME) (o0 o1 o2 o3 : Option Vl) (h : Hs) (kk : Env → Hs → Rt) : evSK (Gc k cl me at_ sp cm) 200 19 d_are_names.st (t_are_names_1_0.headD (.Pass ⟨0, 0, 0, 0⟩)) [o0, o1, o2, o3] h kk = Rt.ok (.rt (Vl.bl false)) [o0, o1, o2, o3] h := by kernel_rfl
instance i_are_names_1_0 {k : Nat} {o0 o1 o2 o3 : Option Vl} {kk : Env → Hs → Rt} : St (WpR (Bk (mkG T0 200 (k + 1)) 19 d_are_names.st t_are_names_1_0 [o0, o1, o2, o3] h kk) T E) (WpR (Rt.ok (.rt (Vl.bl false)) [o0, o1, o2, o3] h) T E) := ⟨fun w => by have z := x_are_names_1_0 k (mkG T0 200 (k + 1)).call (mkG T0 200 (k + 1)).meth (mkG T0 200 (k + 1)).attr (mkG T0 200 (k + 1)).spec (mkG T0 200 (k + 1)).clm o0 o1 o2 o3 h kk; rw [Gc_eq] at z; rw [Bk_one (s := t_are_names_1_0.headD (.Pass ⟨0, 0, 0, 0⟩)) (by kernel_rfl)]; exact WpR_cg z w⟩
theorem x_are_names_0_1 (k : Nat) (cl : CL) (me : ME) (at_ : AT_) (sp : SP) (cm : ME) (o0 o1 o2 o3 : Option Vl) (h : Hs) (kk : Env → Hs → Rt) : evSK (Gc k cl me at_ sp cm) 200 20 d_are_names.st (t_are_names_0_1.headD (.Pass ⟨0, 0, 0, 0⟩)) [o0, o1, o2, o3] h kk = (((nmO o0 h).bind fun x11 h12 => Rs.ok x11 h12).bind fun x9 h10 => Rs.of (walkV x9) h10).st [o0, o1, o2, o3] fun xs13 h14 => (cM (cf_are_names_0 (Gc k cl me at_ sp cm) o0 o1 o2 o3) xs13 [] h14).st [o0, o1, o2, o3] fun ys15 h16 => (Rs.of (bltV isaT0 .all [(Vl.lst ys15)] h16) h16).st [o0, o1, o2, o3] fun x17 h18 => Rt.ok (.rt x17) [o0, o1, o2, o3] h18 := by kernel_rfl
instance i_are_names_0_1 {k : Nat} {o0 o1 o2 o3 : Option Vl} {kk : Env → Hs → Rt} : St (WpR (Bk (mkG T0 200 (k + 1)) 20 d_are_names.st t_are_names_0_1 [o0, o1, o2, o3] h kk) T E) (WpR ((((nmO o0 h).bind fun x11 h12 => Rs.ok x11 h12).bind fun x9 h10 => Rs.of (walkV x9) h10).st [o0, o1, o2, o3] fun xs13 h14 => (cM (cf_are_names_0 (mkG T0 200 (k + 1)) o0 o1 o2 o3) xs13 [] h14).st [o0, o1, o2, o3] fun ys15 h16 => (Rs.of (bltV isaT0 .all [(Vl.lst ys15)] h16) h16).st [o0, o1, o2, o3] fun x17 h18 => Rt.ok (.rt x17) [o0, o1, o2, o3] h18) T E) := ⟨fun w => by have z := x_are_names_0_1 k (mkG T0 200 (k + 1)).call (mkG T0 200 (k + 1)).meth (mkG T0 200 (k + 1)).attr (mkG T0 200 (k + 1)).spec (mkG T0 200 (k + 1)).clm o0 o1 o2 o3 h kk; rw [Gc_eq] at z; rw [Bk_one (s := t_are_names_0_1.headD (.Pass ⟨0, 0, 0, 0⟩)) (by kernel_rfl)]; exact WpR_cg z w⟩
instance u_are_names {k : Nat} {a0 a1 a2 : Vl} {Q : Vl → Hs → Prop} : Un (Wp (rD (mkG T0 200 (k + 1)) d_are_names [a0, a1, a2] h) Q E) (WpR (Bk (mkG T0 200 (k + 1)) 20 d_are_names.st t_are_names_0_0 [some a0, some a1, some a2, none] h fun r h => .ok .nx r h) (retQ h Q) (retE h E)) := ⟨fun w => by
  have e : rD (mkG T0 200 (k + 1)) d_are_names [a0, a1, a2] h = endR h (Bk (mkG T0 200 (k + 1)) 20 d_are_names.st t_are_names_0_0 [some a0, some a1, some a2, none] h fun r h => .ok .nx r h) := by
    unfold rD Bk
    rw [runDef_K rfl]
    kernel_rfl
  rw [e, Wp_endS]; exact w⟩

end
end Wd

set_option Elab.async false
set_option linter.all false
set_option maxRecDepth 100000
set_option maxHeartbeats 400000
namespace Wd
open PySem PySem.Spec PyProof.Rows L2
section
variable {E : Vl → Hs → Prop} {T : Fl → Env → Hs → Prop} {h : Hs} {Q : Option Vl → Hs → Prop}
/-! check_atoms; slots: 0=atoms 1=index 2=atom -/
def b_check_atoms_0 : List Stmt := d_check_atoms.body
def t_check_atoms_0_0 : List Stmt := b_check_atoms_0.drop 0
def t_check_atoms_0_1 : List Stmt := b_check_atoms_0.drop 1
def b_check_atoms_1 : List Stmt := bodyS (b_check_atoms_0.getD 0 (.Pass ⟨0, 0, 0, 0⟩))
def t_check_atoms_1_0 : List Stmt := b_check_atoms_1.drop 0
def b_check_atoms_2 : List Stmt := bodyS (b_check_atoms_0.getD 1 (.Pass ⟨0, 0, 0, 0⟩))
def t_check_atoms_2_0 : List Stmt := b_check_atoms_2.drop 0
def b_check_atoms_3 : List Stmt := bodyS (b_check_atoms_2.getD 0 (.Pass ⟨0, 0, 0, 0⟩))
def t_check_atoms_3_0 : List Stmt := b_check_atoms_3.drop 0
def g_check_atoms_0 : Vl → Env → Option Env := fun x r => asgP (Pt.tup [Pt.nm 1, Pt.nm 2]) x r
instance {u0 u1 : Vl} {o0 o1 o2 : Option Vl} : Bd (g_check_atoms_0 (Vl.tup [u0, u1]) [o0, o1, o2]) [o0, (some u0), (some u1)] := ⟨by kernel_rfl⟩
theorem x_check_atoms_0_0 (k : Nat) (cl : CL) (me : ME) (at_ : AT_) (sp : SP) (cm : ME) (o0 o1 o2 : Option Vl) (h : Hs) (kk : Env → Hs → Rt) : evSK (Gc k cl me at_ sp cm) 200 20 d_check_atoms.st (t_check_atoms_0_0.headD (.Pass ⟨0, 0, 0, 0⟩)) [o0, o1, o2] h kk = (nmO o0 h).st [o0, o1, o2] fun x101 h102 => (Rs.of (bltV isaT0 .isa [x101, (Vl.ty "tuple")] h102) h102).st [o0, o1, o2] fun x103 h104 => (testOf h104 x103).st [o0, o1, o2] fun b105 h106 => (testOf h106 (Vl.bl (!b105))).st [o0, o1, o2] fun t107 h108 => if t107 then Bk (Gc k cl me at_ sp cm) 19 d_check_atoms.st t_check_atoms_1_0 [o0, o1, o2] h108 kk else kk [o0, o1, o2] h108 := by kernel_rfl
instance i_check_atoms_0_0 {k : Nat} {o0 o1 o2 : Option Vl} {kk : Env → Hs → Rt} : St (WpR (Bk (mkG T0 200 (k + 1)) 20 d_check_atoms.st t_check_atoms_0_0 [o0, o1, o2] h kk) T E) (WpR ((nmO o0 h).st [o0, o1, o2] fun x101 h102 => (Rs.of (bltV isaT0 .isa [x101, (Vl.ty "tuple")] h102) h102).st [o0, o1, o2] fun x103 h104 => (testOf h104 x103).st [o0, o1, o2] fun b105 h106 => (testOf h106 (Vl.bl (!b105))).st [o0, o1, o2] fun t107 h108 => if t107 then Bk (mkG T0 200 (k + 1)) 19 d_check_atoms.st t_check_atoms_1_0 [o0, o1, o2] h108 (fun r h => Bk (mkG T0 200 (k + 1)) 20 d_check_atoms.st t_check_atoms_0_1 r h kk) else Bk (mkG T0 200 (k + 1)) 20 d_check_atoms.st t_check_atoms_0_1 [o0, o1, o2] h108 kk) T E) := ⟨fun w => by have z := x_check_atoms_0_0 k (mkG T0 200 (k + 1)).call (mkG T0 200 (k + 1)).meth (mkG T0 200 (k + 1)).attr (mkG T0 200 (k + 1)).spec (mkG T0 200 (k + 1)).clm o0 o1 o2 h (fun r h => Bk (mkG T0 200 (k + 1)) 20 d_check_atoms.st t_check_atoms_0_1 r h kk); rw [Gc_eq] at z; rw [Bk_cons (t' := t_check_atoms_0_1) (s := t_check_atoms_0_0.headD (.Pass ⟨0, 0, 0, 0⟩)) (by kernel_rfl)]; exact WpR_cg z w⟩
theorem x_check_atoms_1_0 (k : Nat) (cl : CL) (me : ME) (at_ : AT_) (sp : SP) (cm : ME) (o0 o1 o2 : Option Vl) (h : Hs) (kk : Env → Hs → Rt) : evSK (Gc k cl me at_ sp cm) 200 19 d_check_atoms.st (t_check_atoms_1_0.headD (.Pass ⟨0, 0, 0, 0⟩)) [o0, o1, o2] h kk = Rt.no := by kernel_rfl
instance i_check_atoms_1_0 {k : Nat} {o0 o1 o2 : Option Vl} {kk : Env → Hs → Rt} : St (WpR (Bk (mkG T0 200 (k + 1)) 19 d_check_atoms.st t_check_atoms_1_0 [o0, o1, o2] h kk) T E) (WpR (Rt.no) T E) := ⟨fun w => by have z := x_check_atoms_1_0 k (mkG T0 200 (k + 1)).call (mkG T0 200 (k + 1)).meth (mkG T0 200 (k + 1)).attr (mkG T0 200 (k + 1)).spec (mkG T0 200 (k + 1)).clm o0 o1 o2 h kk; rw [Gc_eq] at z; rw [Bk_one (s := t_check_atoms_1_0.headD (.Pass ⟨0, 0, 0, 0⟩)) (by kernel_rfl)]; exact WpR_cg z w⟩
theorem x_check_atoms_0_1 (k : Nat) (cl : CL) (me : ME) (at_ : AT_) (sp : SP) (cm : ME) (o0 o1 o2 : Option Vl) (h : Hs) (kk : Env → Hs → Rt) : evSK (Gc k cl me at_ sp cm) 200 20 d_check_atoms.st (t_check_atoms_0_1.headD (.Pass ⟨0, 0, 0, 0⟩)) [o0, o1, o2] h kk = (((nmO o0 h).bind fun x105 h106 => Rs.ok x105 h106).bind fun x103 h104 => Rs.of ((seqV x103).map (enumV 0)) h104).st [o0, o1, o2] fun xs101 h102 => thenR (fL g_check_atoms_0 (fun r h => Bk (Gc k cl me at_ sp cm) 19 d_check_atoms.st t_check_atoms_2_0 r h (fun r h => .ok .nx r h)) xs101 [o0, o1, o2] h102) (kk) := by kernel_rfl
instance i_check_atoms_0_1 {k : Nat} {o0 o1 o2 : Option Vl} {kk : Env → Hs → Rt} : St (WpR (Bk (mkG T0 200 (k + 1)) 20 d_check_atoms.st t_check_atoms_0_1 [o0, o1, o2] h kk) T E) (WpR ((((nmO o0 h).bind fun x105 h106 => Rs.ok x105 h106).bind fun x103 h104 => Rs.of ((seqV x103).map (enumV 0)) h104).st [o0, o1, o2] fun xs101 h102 => thenR (fL g_check_atoms_0 (fun r h => Bk (mkG T0 200 (k + 1)) 19 d_check_atoms.st t_check_atoms_2_0 r h (fun r h => .ok .nx r h)) xs101 [o0, o1, o2] h102) (kk)) T E) := ⟨fun w => by have z := x_check_atoms_0_1 k (mkG T0 200 (k + 1)).call (mkG T0 200 (k + 1)).meth (mkG T0 200 (k + 1)).attr (mkG T0 200 (k + 1)).spec (mkG T0 200 (k + 1)).clm o0 o1 o2 h kk; rw [Gc_eq] at z; rw [Bk_one (s := t_check_atoms_0_1.headD (.Pass ⟨0, 0, 0, 0⟩)) (by kernel_rfl)]; exact WpR_cg z w⟩
theorem x_check_atoms_2_0 (k : Nat) (cl : CL) (me : ME) (at_ : AT_) (sp : SP) (cm : ME) (o0 o1 o2 : Option Vl) (h : Hs) (kk : Env → Hs → Rt) : evSK (Gc k cl me at_ sp cm) 200 19 d_check_atoms.st (t_check_atoms_2_0.headD (.Pass ⟨0, 0, 0, 0⟩)) [o0, o1, o2] h kk = (((nmO o1 h).bind fun x103 h104 => (cX (Gc k cl me at_ sp cm) .Eq x103 (Vl.int 6) h104).bind fun x105 h106 => Rs.ok x105 h106).bind fun x101 h102 => boolK .Or x101 h102 fun _ => ((nmO o2 h102).bind fun x109 h110 => (cO (Gc k cl me at_ sp cm) "are_names" [x109, (Vl.int 1), (Vl.int 30)] [] [] h110).bind fun x111 h112 => (testOf h112 x111).bind fun b113 h114 => Rs.ok (Vl.bl (!b113)) h114).bind fun x107 h108 => boolK .Or x107 h108 fun _ => (nmO o2 h108).bind fun x115 h116 => (nmO o0 h116).bind fun x117 h118 => (nmO o1 h118).bind fun x119 h120 => (partV x119 h120).bind fun p121 h122 => (Rs.of (sliceV x117 none p121) h122).bind fun x123 h124 => (Rs.of ((cmpV .In h124 x115 x123).map .bl) h124).bind fun x125 h126 => Rs.ok x125 h126).st [o0, o1, o2] fun x127 h128 => (testOf h128 x127).st [o0, o1, o2] fun t129 h130 => if t129 then Bk (Gc k cl me at_ sp cm) 18 d_check_atoms.st t_check_atoms_3_0 [o0, o1, o2] h130 kk else kk [o0, o1, o2] h130 := by kernel_rfl
instance i_check_atoms_2_0 {k : Nat} {o0 o1 o2 : Option Vl} {kk : Env → Hs → Rt} : St (WpR (Bk (mkG T0 200 (k + 1)) 19 d_check_atoms.st t_check_atoms_2_0 [o0, o1, o2] h kk) T E) (WpR ((((nmO o1 h).bind fun x103 h104 => (cX (mkG T0 200 (k + 1)) .Eq x103 (Vl.int 6) h104).bind fun x105 h106 => Rs.ok x105 h106).bind fun x101 h102 => boolK .Or x101 h102 fun _ => ((nmO o2 h102).bind fun x109 h110 => (cO (mkG T0 200 (k + 1)) "are_names" [x109, (Vl.int 1), (Vl.int 30)] [] [] h110).bind fun x111 h112 => (testOf h112 x111).bind fun b113 h114 => Rs.ok (Vl.bl (!b113)) h114).bind fun x107 h108 => boolK .Or x107 h108 fun _ => (nmO o2 h108).bind fun x115 h116 => (nmO o0 h116).bind fun x117 h118 => (nmO o1 h118).bind fun x119 h120 => (partV x119 h120).bind fun p121 h122 => (Rs.of (sliceV x117 none p121) h122).bind fun x123 h124 => (Rs.of ((cmpV .In h124 x115 x123).map .bl) h124).bind fun x125 h126 => Rs.ok x125 h126).st [o0, o1, o2] fun x127 h128 => (testOf h128 x127).st [o0, o1, o2] fun t129 h130 => if t129 then Bk (mkG T0 200 (k + 1)) 18 d_check_atoms.st t_check_atoms_3_0 [o0, o1, o2] h130 kk else kk [o0, o1, o2] h130) T E) := ⟨fun w => by have z := x_check_atoms_2_0 k (mkG T0 200 (k + 1)).call (mkG T0 200 (k + 1)).meth (mkG T0 200 (k + 1)).attr (mkG T0 200 (k + 1)).spec (mkG T0 200 (k + 1)).clm o0 o1 o2 h kk; rw [Gc_eq] at z; rw [Bk_one (s := t_check_atoms_2_0.headD (.Pass ⟨0, 0, 0, 0⟩)) (by kernel_rfl)]; exact WpR_cg z w⟩
theorem x_check_atoms_3_0 (k : Nat) (cl : CL) (me : ME) (at_ : AT_) (sp : SP) (cm : ME) (o0 o1 o2 : Option Vl) (h : Hs) (kk : Env → Hs → Rt) : evSK (Gc k cl me at_ sp cm) 200 18 d_check_atoms.st (t_check_atoms_3_0.headD (.Pass ⟨0, 0, 0, 0⟩)) [o0, o1, o2] h kk = Rt.no := by kernel_rfl
instance i_check_atoms_3_0 {k : Nat} {o0 o1 o2 : Option Vl} {kk : Env → Hs → Rt} : St (WpR (Bk (mkG T0 200 (k + 1)) 18 d_check_atoms.st t_check_atoms_3_0 [o0, o1, o2] h kk) T E) (WpR (Rt.no) T E) := ⟨fun w => by have z := x_check_atoms_3_0 k (mkG T0 200 (k + 1)).call (mkG T0 200 (k + 1)).meth (mkG T0 200 (k + 1)).attr (mkG T0 200 (k + 1)).spec (mkG T0 200 (k + 1)).clm o0 o1 o2 h kk; rw [Gc_eq] at z; rw [Bk_one (s := t_check_atoms_3_0.headD (.Pass ⟨0, 0, 0, 0⟩)) (by kernel_rfl)]; exact WpR_cg z w⟩
instance u_check_atoms {k : Nat} {a0 : Vl} {Q : Vl → Hs → Prop} : Un (Wp (rD (mkG T0 200 (k + 1)) d_check_atoms [a0] h) Q E) (WpR (Bk (mkG T0 200 (k + 1)) 20 d_check_atoms.st t_check_atoms_0_0 [some a0, none, none] h fun r h => .ok .nx r h) (retQ h Q) (retE h E)) := ⟨fun w => by
  have e : rD (mkG T0 200 (k + 1)) d_check_atoms [a0] h = endR h (Bk (mkG T0 200 (k + 1)) 20 d_check_atoms.st t_check_atoms_0_0 [some a0, none, none] h fun r h => .ok .nx r h) := by
    unfold rD Bk
    rw [runDef_K rfl]
    kernel_rfl
  rw [e, Wp_endS]; exact w⟩

end
end Wd

set_option Elab.async false
set_option linter.all false
set_option maxRecDepth 100000
set_option maxHeartbeats 400000
namespace Wd
open PySem PySem.Spec PyProof.Rows L2
section
variable {E : Vl → Hs → Prop} {T : Fl → Env → Hs → Prop} {h : Hs} {Q : Option Vl → Hs → Prop}
/-! is_row; slots: 0=value 1=many 2=truth -/
def b_is_row_0 : List Stmt := d_is_row.body
def t_is_row_0_0 : List Stmt := b_is_row_0.drop 0
def cf_is_row_0 (G : Gt) (o0 o1 o2 : Option Vl) : Vl → Hs → Rs (Option Vl) := fun x17 h18 => ((Rs.of (bltV isaT0 .isa [x17, (Vl.ty "bool")] h18) h18).bind fun x23 h24 => Rs.ok x23 h24).bind fun v21 h20 => .ok (some v21) (trunc h18 v21 h20)
instance {G : Gt} {o0 o1 o2 : Option Vl} {x17 : Vl} {h18 : Hs} : St (Wp (cf_is_row_0 G o0 o1 o2 x17 h18) Q E) (Wp (((Rs.of (bltV isaT0 .isa [x17, (Vl.ty "bool")] h18) h18).bind fun x23 h24 => Rs.ok x23 h24).bind fun v21 h20 => .ok (some v21) (trunc h18 v21 h20)) Q E) := ⟨fun w => w⟩
theorem x_is_row_0_0 (k : Nat) (cl : CL) (me : ME) (at_ : AT_) (sp : SP) (cm : ME) (o0 o1 o2 : Option Vl) (h : Hs) (kk : Env → Hs → Rt) : evSK (Gc k cl me at_ sp cm) 200 20 d_is_row.st (t_is_row_0_0.headD (.Pass ⟨0, 0, 0, 0⟩)) [o0, o1, o2] h kk = (((nmO o0 h).bind fun x3 h4 => (Rs.of (bltV isaT0 .isa [x3, (Vl.ty "tuple")] h4) h4).bind fun x5 h6 => Rs.ok x5 h6).bind fun x1 h2 => boolK .And x1 h2 fun _ => ((nmO o0 h2).bind fun x9 h10 => (bO (Gc k cl me at_ sp cm) .len x9 h10).bind fun x11 h12 => (nmO o1 h12).bind fun x13 h14 => (cX (Gc k cl me at_ sp cm) .Eq x11 x13 h14).bind fun x15 h16 => Rs.ok x15 h16).bind fun x7 h8 => boolK .And x7 h8 fun _ => (((nmO o0 h8).bind fun x27 h28 => Rs.ok x27 h28).bind fun x25 h26 => Rs.of (walkV x25) h26).bind fun xs29 h30 => (cM (cf_is_row_0 (Gc k cl me at_ sp cm) o0 o1 o2) xs29 [] h30).bind fun ys31 h32 => (Rs.of (bltV isaT0 .all [(Vl.lst ys31)] h32) h32).bind fun x33 h34 => Rs.ok x33 h34).st [o0, o1, o2] fun x35 h36 => Rt.ok (.rt x35) [o0, o1, o2] h36 := by kernel_rfl
instance i_is_row_0_0 {k : Nat} {o0 o1 o2 : Option Vl} {kk : Env → Hs → Rt} : St (WpR (Bk (mkG T0 200 (k + 1)) 20 d_is_row.st t_is_row_0_0 [o0, o1, o2] h kk) T E) (WpR ((((nmO o0 h).bind fun x3 h4 => (Rs.of (bltV isaT0 .isa [x3, (Vl.ty "tuple")] h4) h4).bind fun x5 h6 => Rs.ok x5 h6).bind fun x1 h2 => boolK .And x1 h2 fun _ => ((nmO o0 h2).bind fun x9 h10 => (bO (mkG T0 200 (k + 1)) .len x9 h10).bind fun x11 h12 => (nmO o1 h12).bind fun x13 h14 => (cX (mkG T0 200 (k + 1)) .Eq x11 x13 h14).bind fun x15 h16 => Rs.ok x15 h16).bind fun x7 h8 => boolK .And x7 h8 fun _ => (((nmO o0 h8).bind fun x27 h28 => Rs.ok x27 h28).bind fun x25 h26 => Rs.of (walkV x25) h26).bind fun xs29 h30 => (cM (cf_is_row_0 (mkG T0 200 (k + 1)) o0 o1 o2) xs29 [] h30).bind fun ys31 h32 => (Rs.of (bltV isaT0 .all [(Vl.lst ys31)] h32) h32).bind fun x33 h34 => Rs.ok x33 h34).st [o0, o1, o2] fun x35 h36 => Rt.ok (.rt x35) [o0, o1, o2] h36) T E) := ⟨fun w => by have z := x_is_row_0_0 k (mkG T0 200 (k + 1)).call (mkG T0 200 (k + 1)).meth (mkG T0 200 (k + 1)).attr (mkG T0 200 (k + 1)).spec (mkG T0 200 (k + 1)).clm o0 o1 o2 h kk; rw [Gc_eq] at z; rw [Bk_one (s := t_is_row_0_0.headD (.Pass ⟨0, 0, 0, 0⟩)) (by kernel_rfl)]; exact WpR_cg z w⟩
instance u_is_row {k : Nat} {a0 a1 : Vl} {Q : Vl → Hs → Prop} : Un (Wp (rD (mkG T0 200 (k + 1)) d_is_row [a0, a1] h) Q E) (WpR (Bk (mkG T0 200 (k + 1)) 20 d_is_row.st t_is_row_0_0 [some a0, some a1, none] h fun r h => .ok .nx r h) (retQ h Q) (retE h E)) := ⟨fun w => by
  have e : rD (mkG T0 200 (k + 1)) d_is_row [a0, a1] h = endR h (Bk (mkG T0 200 (k + 1)) 20 d_is_row.st t_is_row_0_0 [some a0, some a1, none] h fun r h => .ok .nx r h) := by
    unfold rD Bk
    rw [runDef_K rfl]
    kernel_rfl
  rw [e, Wp_endS]; exact w⟩

end
end Wd

set_option Elab.async false
set_option linter.all false
set_option maxRecDepth 100000
set_option maxHeartbeats 400000
namespace Wd
open PySem PySem.Spec PyProof.Rows L2
section
variable {E : Vl → Hs → Prop} {T : Fl → Env → Hs → Prop} {h : Hs} {Q : Option Vl → Hs → Prop}
/-! check_rows; slots: 0=rows 1=many 2=index 3=row -/
def b_check_rows_0 : List Stmt := d_check_rows.body
def t_check_rows_0_0 : List Stmt := b_check_rows_0.drop 0
def t_check_rows_0_1 : List Stmt := b_check_rows_0.drop 1
def b_check_rows_1 : List Stmt := bodyS (b_check_rows_0.getD 0 (.Pass ⟨0, 0, 0, 0⟩))
def t_check_rows_1_0 : List Stmt := b_check_rows_1.drop 0
def b_check_rows_2 : List Stmt := bodyS (b_check_rows_0.getD 1 (.Pass ⟨0, 0, 0, 0⟩))
def t_check_rows_2_0 : List Stmt := b_check_rows_2.drop 0
def b_check_rows_3 : List Stmt := bodyS (b_check_rows_2.getD 0 (.Pass ⟨0, 0, 0, 0⟩))
def t_check_rows_3_0 : List Stmt := b_check_rows_3.drop 0
def g_check_rows_0 : Vl → Env → Option Env := fun x r => asgP (Pt.tup [Pt.nm 2, Pt.nm 3]) x r
instance {u0 u1 : Vl} {o0 o1 o2 o3 : Option Vl} : Bd (g_check_rows_0 (Vl.tup [u0, u1]) [o0, o1, o2, o3]) [o0, o1, (some u0), (some u1)] := ⟨by kernel_rfl⟩
theorem x_check_rows_0_0 (k : Nat) (cl : CL) (me : ME) (at_ : AT_) (sp : SP) (cm : ME) (o0 o1 o2 o3 : Option Vl) (h : Hs) (kk : Env → Hs → Rt) : evSK (Gc k cl me at_ sp cm) 200 20 d_check_rows.st (t_check_rows_0_0.headD (.Pass ⟨0, 0, 0, 0⟩)) [o0, o1, o2, o3] h kk = (nmO o0 h).st [o0, o1, o2, o3] fun x101 h102 => (Rs.of (bltV isaT0 .isa [x101, (Vl.ty "tuple")] h102) h102).st [o0, o1, o2, o3] fun x103 h104 => (testOf h104 x103).st [o0, o1, o2, o3] fun b105 h106 => (testOf h106 (Vl.bl (!b105))).st [o0, o1, o2, o3] fun t107 h108 => if t107 then Bk (Gc k cl me at_ sp cm) 19 d_check_rows.st t_check_rows_1_0 [o0, o1, o2, o3] h108 kk else kk [o0, o1, o2, o3] h108 := by kernel_rfl
instance i_check_rows_0_0 {k : Nat} {o0 o1 o2 o3 : Option Vl} {kk : Env → Hs → Rt} : St (WpR (Bk (mkG T0 200 (k + 1)) 20 d_check_rows.st t_check_rows_0_0 [o0, o1, o2, o3] h kk) T E) (WpR ((nmO o0 h).st [o0, o1, o2, o3] fun x101 h102 => (Rs.of (bltV isaT0 .isa [x101, (Vl.ty "tuple")] h102) h102).st [o0, o1, o2, o3] fun x103 h104 => (testOf h104 x103).st [o0, o1, o2, o3] fun b105 h106 => (testOf h106 (Vl.bl (!b105))).st [o0, o1, o2, o3] fun t107 h108 => if t107 then Bk (mkG T0 200 (k + 1)) 19 d_check_rows.st t_check_rows_1_0 [o0, o1, o2, o3] h108 (fun r h => Bk (mkG T0 200 (k + 1)) 20 d_check_rows.st t_check_rows_0_1 r h kk) else Bk (mkG T0 200 (k + 1)) 20 d_check_rows.st t_check_rows_0_1 [o0, o1, o2, o3] h108 kk) T E) := ⟨fun w => by have z := x_check_rows_0_0 k (mkG T0 200 (k + 1)).call (mkG T0 200 (k + 1)).meth (mkG T0 200 (k + 1)).attr (mkG T0 200 (k + 1)).spec (mkG T0 200 (k + 1)).clm o0 o1 o2 o3 h (fun r h => Bk (mkG T0 200 (k + 1)) 20 d_check_rows.st t_check_rows_0_1 r h kk); rw [Gc_eq] at z; rw [Bk_cons (t' := t_check_rows_0_1) (s := t_check_rows_0_0.headD (.Pass ⟨0, 0, 0, 0⟩)) (by kernel_rfl)]; exact WpR_cg z w⟩
theorem x_check_rows_1_0 (k : Nat) (cl : CL) (me : ME) (at_ : AT_) (sp : SP) (cm : ME) (o0 o1 o2 o3 : Option Vl) (h : Hs) (kk : Env → Hs → Rt) : evSK (Gc k cl me at_ sp cm) 200 19 d_check_rows.st (t_check_rows_1_0.headD (.Pass ⟨0, 0, 0, 0⟩)) [o0, o1, o2, o3] h kk = Rt.no := by kernel_rfl
instance i_check_rows_1_0 {k : Nat} {o0 o1 o2 o3 : Option Vl} {kk : Env → Hs → Rt} : St (WpR (Bk (mkG T0 200 (k + 1)) 19 d_check_rows.st t_check_rows_1_0 [o0, o1, o2, o3] h kk) T E) (WpR (Rt.no) T E) := ⟨fun w => by have z := x_check_rows_1_0 k (mkG T0 200 (k + 1)).call (mkG T0 200 (k + 1)).meth (mkG T0 200 (k + 1)).attr (mkG T0 200 (k + 1)).spec (mkG T0 200 (k + 1)).clm o0 o1 o2 o3 h kk; rw [Gc_eq] at z; rw [Bk_one (s := t_check_rows_1_0.headD (.Pass ⟨0, 0, 0, 0⟩)) (by kernel_rfl)]; exact WpR_cg z w⟩
theorem x_check_rows_0_1 (k : Nat) (cl : CL) (me : ME) (at_ : AT_) (sp : SP) (cm : ME) (o0 o1 o2 o3 : Option Vl) (h : Hs) (kk : Env → Hs → Rt) : evSK (Gc k cl me at_ sp cm) 200 20 d_check_rows.st (t_check_rows_0_1.headD (.Pass ⟨0, 0, 0, 0⟩)) [o0, o1, o2, o3] h kk = (((nmO o0 h).bind fun x105 h106 => Rs.ok x105 h106).bind fun x103 h104 => Rs.of ((seqV x103).map (enumV 0)) h104).st [o0, o1, o2, o3] fun xs101 h102 => thenR (fL g_check_rows_0 (fun r h => Bk (Gc k cl me at_ sp cm) 19 d_check_rows.st t_check_rows_2_0 r h (fun r h => .ok .nx r h)) xs101 [o0, o1, o2, o3] h102) (kk) := by kernel_rfl
instance i_check_rows_0_1 {k : Nat} {o0 o1 o2 o3 : Option Vl} {kk : Env → Hs → Rt} : St (WpR (Bk (mkG T0 200 (k + 1)) 20 d_check_rows.st t_check_rows_0_1 [o0, o1, o2, o3] h kk) T E) (WpR ((((nmO o0 h).bind fun x105 h106 => Rs.ok x105 h106).bind fun x103 h104 => Rs.of ((seqV x103).map (enumV 0)) h104).st [o0, o1, o2, o3] fun xs101 h102 => thenR (fL g_check_rows_0 (fun r h => Bk (mkG T0 200 (k + 1)) 19 d_check_rows.st t_check_rows_2_0 r h (fun r h => .ok .nx r h)) xs101 [o0, o1, o2, o3] h102) (kk)) T E) := ⟨fun w => by have z := x_check_rows_0_1 k (mkG T0 200 (k + 1)).call (mkG T0 200 (k + 1)).meth (mkG T0 200 (k + 1)).attr (mkG T0 200 (k + 1)).spec (mkG T0 200 (k + 1)).clm o0 o1 o2 o3 h kk; rw [Gc_eq] at z; rw [Bk_one (s := t_check_rows_0_1.headD (.Pass ⟨0, 0, 0, 0⟩)) (by kernel_rfl)]; exact WpR_cg z w⟩
theorem x_check_rows_2_0 (k : Nat) (cl : CL) (me : ME) (at_ : AT_) (sp : SP) (cm : ME) (o0 o1 o2 o3 : Option Vl) (h : Hs) (kk : Env → Hs → Rt) : evSK (Gc k cl me at_ sp cm) 200 19 d_check_rows.st (t_check_rows_2_0.headD (.Pass ⟨0, 0, 0, 0⟩)) [o0, o1, o2, o3] h kk = (nmO o3 h).st [o0, o1, o2, o3] fun x101 h102 => (nmO o1 h102).st [o0, o1, o2, o3] fun x103 h104 => (cO (Gc k cl me at_ sp cm) "is_row" [x101, x103] [] [] h104).st [o0, o1, o2, o3] fun x105 h106 => (testOf h106 x105).st [o0, o1, o2, o3] fun b107 h108 => (testOf h108 (Vl.bl (!b107))).st [o0, o1, o2, o3] fun t109 h110 => if t109 then Bk (Gc k cl me at_ sp cm) 18 d_check_rows.st t_check_rows_3_0 [o0, o1, o2, o3] h110 kk else kk [o0, o1, o2, o3] h110 := by kernel_rfl
instance i_check_rows_2_0 {k : Nat} {o0 o1 o2 o3 : Option Vl} {kk : Env → Hs → Rt} : St (WpR (Bk (mkG T0 200 (k + 1)) 19 d_check_rows.st t_check_rows_2_0 [o0, o1, o2, o3] h kk) T E) (WpR ((nmO o3 h).st [o0, o1, o2, o3] fun x101 h102 => (nmO o1 h102).st [o0, o1, o2, o3] fun x103 h104 => (cO (mkG T0 200 (k + 1)) "is_row" [x101, x103] [] [] h104).st [o0, o1, o2, o3] fun x105 h106 => (testOf h106 x105).st [o0, o1, o2, o3] fun b107 h108 => (testOf h108 (Vl.bl (!b107))).st [o0, o1, o2, o3] fun t109 h110 => if t109 then Bk (mkG T0 200 (k + 1)) 18 d_check_rows.st t_check_rows_3_0 [o0, o1, o2, o3] h110 kk else kk [o0, o1, o2, o3] h110) T E) := ⟨fun w => by have z := x_check_rows_2_0 k (mkG T0 200 (k + 1)).call (mkG T0 200 (k + 1)).meth (mkG T0 200 (k + 1)).attr (mkG T0 200 (k + 1)).spec (mkG T0 200 (k + 1)).clm o0 o1 o2 o3 h kk; rw [Gc_eq] at z; rw [Bk_one (s := t_check_rows_2_0.headD (.Pass ⟨0, 0, 0, 0⟩)) (by kernel_rfl)]; exact WpR_cg z w⟩
theorem x_check_rows_3_0 (k : Nat) (cl : CL) (me : ME) (at_ : AT_) (sp : SP) (cm : ME) (o0 o1 o2 o3 : Option Vl) (h : Hs) (kk : Env → Hs → Rt) : evSK (Gc k cl me at_ sp cm) 200 18 d_check_rows.st (t_check_rows_3_0.headD (.Pass ⟨0, 0, 0, 0⟩)) [o0, o1, o2, o3] h kk = Rt.no := by kernel_rfl
instance i_check_rows_3_0 {k : Nat} {o0 o1 o2 o3 : Option Vl} {kk : Env → Hs → Rt} : St (WpR (Bk (mkG T0 200 (k + 1)) 18 d_check_rows.st t_check_rows_3_0 [o0, o1, o2, o3] h kk) T E) (WpR (Rt.no) T E) := ⟨fun w => by have z := x_check_rows_3_0 k (mkG T0 200 (k + 1)).call (mkG T0 200 (k + 1)).meth (mkG T0 200 (k + 1)).attr (mkG T0 200 (k + 1)).spec (mkG T0 200 (k + 1)).clm o0 o1 o2 o3 h kk; rw [Gc_eq] at z; rw [Bk_one (s := t_check_rows_3_0.headD (.Pass ⟨0, 0, 0, 0⟩)) (by kernel_rfl)]; exact WpR_cg z w⟩
instance u_check_rows {k : Nat} {a0 a1 : Vl} {Q : Vl → Hs → Prop} : Un (Wp (rD (mkG T0 200 (k + 1)) d_check_rows [a0, a1] h) Q E) (WpR (Bk (mkG T0 200 (k + 1)) 20 d_check_rows.st t_check_rows_0_0 [some a0, some a1, none, none] h fun r h => .ok .nx r h) (retQ h Q) (retE h E)) := ⟨fun w => by
  have e : rD (mkG T0 200 (k + 1)) d_check_rows [a0, a1] h = endR h (Bk (mkG T0 200 (k + 1)) 20 d_check_rows.st t_check_rows_0_0 [some a0, some a1, none, none] h fun r h => .ok .nx r h) := by
    unfold rD Bk
    rw [runDef_K rfl]
    kernel_rfl
  rw [e, Wp_endS]; exact w⟩

end
end Wd

set_option Elab.async false
set_option linter.all false
set_option maxRecDepth 100000
set_option maxHeartbeats 400000
namespace Wd
open PySem PySem.Spec PyProof.Rows L2
section
variable {E : Vl → Hs → Prop} {T : Fl → Env → Hs → Prop} {h : Hs} {Q : Option Vl → Hs → Prop}
/-! _law_source; slots: 0=_law_script 1=_law_k 2=_law_mixed 3=_law_cell -/
def b__law_source_0 : List Stmt := d__law_source.body
def t__law_source_0_0 : List Stmt := b__law_source_0.drop 0
def t__law_source_0_1 : List Stmt := b__law_source_0.drop 1
def t__law_source_0_2 : List Stmt := b__law_source_0.drop 2
def t__law_source_0_3 : List Stmt := b__law_source_0.drop 3
def b__law_source_1 : List Stmt := bodyS (b__law_source_0.getD 1 (.Pass ⟨0, 0, 0, 0⟩))
def t__law_source_1_0 : List Stmt := b__law_source_1.drop 0
def g__law_source_0 : Vl → Env → Option Env := fun x r => asgP (Pt.nm 3) x r
instance {u0 : Vl} {o0 o1 o2 o3 : Option Vl} : Bd (g__law_source_0 u0 [o0, o1, o2, o3]) [o0, o1, o2, (some u0)] := ⟨by kernel_rfl⟩
theorem x__law_source_0_0 (k : Nat) (cl : CL) (me : ME) (at_ : AT_) (sp : SP) (cm : ME) (o0 o1 o2 o3 : Option Vl) (h : Hs) (kk : Env → Hs → Rt) : evSK (Gc k cl me at_ sp cm) 200 20 d__law_source.st (t__law_source_0_0.headD (.Pass ⟨0, 0, 0, 0⟩)) [o0, o1, o2, o3] h kk = (nmO o1 h).st [o0, o1, o2, o3] fun x1 h2 => (Rs.of (binV .Add (Vl.int 88172645463325252) x1) h2).st [o0, o1, o2, o3] fun x3 h4 => kk [o0, o1, (some x3), o3] h4 := by kernel_rfl
instance i__law_source_0_0 {k : Nat} {o0 o1 o2 o3 : Option Vl} {kk : Env → Hs → Rt} : St (WpR (Bk (mkG T0 200 (k + 1)) 20 d__law_source.st t__law_source_0_0 [o0, o1, o2, o3] h kk) T E) (WpR ((nmO o1 h).st [o0, o1, o2, o3] fun x1 h2 => (Rs.of (binV .Add (Vl.int 88172645463325252) x1) h2).st [o0, o1, o2, o3] fun x3 h4 => Bk (mkG T0 200 (k + 1)) 20 d__law_source.st t__law_source_0_1 [o0, o1, (some x3), o3] h4 kk) T E) := ⟨fun w => by have z := x__law_source_0_0 k (mkG T0 200 (k + 1)).call (mkG T0 200 (k + 1)).meth (mkG T0 200 (k + 1)).attr (mkG T0 200 (k + 1)).spec (mkG T0 200 (k + 1)).clm o0 o1 o2 o3 h (fun r h => Bk (mkG T0 200 (k + 1)) 20 d__law_source.st t__law_source_0_1 r h kk); rw [Gc_eq] at z; rw [Bk_cons (t' := t__law_source_0_1) (s := t__law_source_0_0.headD (.Pass ⟨0, 0, 0, 0⟩)) (by kernel_rfl)]; exact WpR_cg z w⟩
theorem x__law_source_0_1 (k : Nat) (cl : CL) (me : ME) (at_ : AT_) (sp : SP) (cm : ME) (o0 o1 o2 o3 : Option Vl) (h : Hs) (kk : Env → Hs → Rt) : evSK (Gc k cl me at_ sp cm) 200 20 d__law_source.st (t__law_source_0_1.headD (.Pass ⟨0, 0, 0, 0⟩)) [o0, o1, o2, o3] h kk = (((nmO o0 h).bind fun x105 h106 => (Rs.of (sliceV x105 none (some 3)) h106).bind fun x107 h108 => (nmO o0 h108).bind fun x109 h110 => (nmO o1 h110).bind fun x111 h112 => (partV x111 h112).bind fun p113 h114 => (nmO o1 h114).bind fun x115 h116 => (Rs.of (binV .Add x115 (Vl.int 1)) h116).bind fun x117 h118 => (partV x117 h118).bind fun p119 h120 => (Rs.of (sliceV x109 p113 p119) h120).bind fun x121 h122 => (Rs.of (binV .Add x107 x121) h122).bind fun x123 h124 => Rs.ok x123 h124).bind fun x103 h104 => Rs.of (walkV x103) h104).st [o0, o1, o2, o3] fun xs101 h102 => thenR (fL g__law_source_0 (fun r h => Bk (Gc k cl me at_ sp cm) 19 d__law_source.st t__law_source_1_0 r h (fun r h => .ok .nx r h)) xs101 [o0, o1, o2, o3] h102) (kk) := by kernel_rfl
instance i__law_source_0_1 {k : Nat} {o0 o1 o2 o3 : Option Vl} {kk : Env → Hs → Rt} : St (WpR (Bk (mkG T0 200 (k + 1)) 20 d__law_source.st t__law_source_0_1 [o0, o1, o2, o3] h kk) T E) (WpR ((((nmO o0 h).bind fun x105 h106 => (Rs.of (sliceV x105 none (some 3)) h106).bind fun x107 h108 => (nmO o0 h108).bind fun x109 h110 => (nmO o1 h110).bind fun x111 h112 => (partV x111 h112).bind fun p113 h114 => (nmO o1 h114).bind fun x115 h116 => (Rs.of (binV .Add x115 (Vl.int 1)) h116).bind fun x117 h118 => (partV x117 h118).bind fun p119 h120 => (Rs.of (sliceV x109 p113 p119) h120).bind fun x121 h122 => (Rs.of (binV .Add x107 x121) h122).bind fun x123 h124 => Rs.ok x123 h124).bind fun x103 h104 => Rs.of (walkV x103) h104).st [o0, o1, o2, o3] fun xs101 h102 => thenR (fL g__law_source_0 (fun r h => Bk (mkG T0 200 (k + 1)) 19 d__law_source.st t__law_source_1_0 r h (fun r h => .ok .nx r h)) xs101 [o0, o1, o2, o3] h102) ((fun r h => Bk (mkG T0 200 (k + 1)) 20 d__law_source.st t__law_source_0_2 r h kk))) T E) := ⟨fun w => by have z := x__law_source_0_1 k (mkG T0 200 (k + 1)).call (mkG T0 200 (k + 1)).meth (mkG T0 200 (k + 1)).attr (mkG T0 200 (k + 1)).spec (mkG T0 200 (k + 1)).clm o0 o1 o2 o3 h (fun r h => Bk (mkG T0 200 (k + 1)) 20 d__law_source.st t__law_source_0_2 r h kk); rw [Gc_eq] at z; rw [Bk_cons (t' := t__law_source_0_2) (s := t__law_source_0_1.headD (.Pass ⟨0, 0, 0, 0⟩)) (by kernel_rfl)]; exact WpR_cg z w⟩
theorem x__law_source_1_0 (k : Nat) (cl : CL) (me : ME) (at_ : AT_) (sp : SP) (cm : ME) (o0 o1 o2 o3 : Option Vl) (h : Hs) (kk : Env → Hs → Rt) : evSK (Gc k cl me at_ sp cm) 200 19 d__law_source.st (t__law_source_1_0.headD (.Pass ⟨0, 0, 0, 0⟩)) [o0, o1, o2, o3] h kk = (nmO o2 h).st [o0, o1, o2, o3] fun x1 h2 => (Rs.of (binV .Mult x1 (Vl.int 6364136223846793005)) h2).st [o0, o1, o2, o3] fun x3 h4 => (nmO o3 h4).st [o0, o1, o2, o3] fun x5 h6 => (Rs.of (binV .Add x3 x5) h6).st [o0, o1, o2, o3] fun x7 h8 => (Rs.of (binV .Add x7 (Vl.int 1442695040888963407)) h8).st [o0, o1, o2, o3] fun x9 h10 => (Rs.of (bltV isaT0 .int [x9] h10) h10).st [o0, o1, o2, o3] fun x11 h12 => (Rs.of (binV .Mod x11 (Vl.int 18446744073709551616)) h12).st [o0, o1, o2, o3] fun x13 h14 => kk [o0, o1, (some x13), o3] h14 := by kernel_rfl
instance i__law_source_1_0 {k : Nat} {o0 o1 o2 o3 : Option Vl} {kk : Env → Hs → Rt} : St (WpR (Bk (mkG T0 200 (k + 1)) 19 d__law_source.st t__law_source_1_0 [o0, o1, o2, o3] h kk) T E) (WpR ((nmO o2 h).st [o0, o1, o2, o3] fun x1 h2 => (Rs.of (binV .Mult x1 (Vl.int 6364136223846793005)) h2).st [o0, o1, o2, o3] fun x3 h4 => (nmO o3 h4).st [o0, o1, o2, o3] fun x5 h6 => (Rs.of (binV .Add x3 x5) h6).st [o0, o1, o2, o3] fun x7 h8 => (Rs.of (binV .Add x7 (Vl.int 1442695040888963407)) h8).st [o0, o1, o2, o3] fun x9 h10 => (Rs.of (bltV isaT0 .int [x9] h10) h10).st [o0, o1, o2, o3] fun x11 h12 => (Rs.of (binV .Mod x11 (Vl.int 18446744073709551616)) h12).st [o0, o1, o2, o3] fun x13 h14 => kk [o0, o1, (some x13), o3] h14) T E) := ⟨fun w => by have z := x__law_source_1_0 k (mkG T0 200 (k + 1)).call (mkG T0 200 (k + 1)).meth (mkG T0 200 (k + 1)).attr (mkG T0 200 (k + 1)).spec (mkG T0 200 (k + 1)).clm o0 o1 o2 o3 h kk; rw [Gc_eq] at z; rw [Bk_one (s := t__law_source_1_0.headD (.Pass ⟨0, 0, 0, 0⟩)) (by kernel_rfl)]; exact WpR_cg z w⟩
theorem x__law_source_0_2 (k : Nat) (cl : CL) (me : ME) (at_ : AT_) (sp : SP) (cm : ME) (o0 o1 o2 o3 : Option Vl) (h : Hs) (kk : Env → Hs → Rt) : evSK (Gc k cl me at_ sp cm) 200 20 d__law_source.st (t__law_source_0_2.headD (.Pass ⟨0, 0, 0, 0⟩)) [o0, o1, o2, o3] h kk = (nmO o1 h).st [o0, o1, o2, o3] fun x1 h2 => (nmO o0 h2).st [o0, o1, o2, o3] fun x3 h4 => (bO (Gc k cl me at_ sp cm) .len x3 h4).st [o0, o1, o2, o3] fun x5 h6 => (Rs.of ((cmpV .Lt h6 x1 x5).map .bl) h6).st [o0, o1, o2, o3] fun x7 h8 => (testOf h8 x7).st [o0, o1, o2, o3] fun t9 h10 => ((if t9 then (nmO o0 h10).bind fun x11 h12 => (nmO o1 h12).bind fun x13 h14 => (iX (Gc k cl me at_ sp cm) x11 x13 h14).bind fun x15 h16 => Rs.ok x15 h16 else Rs.ok (Vl.int 0) h10 : Rs Vl)).st [o0, o1, o2, o3] fun x17 h18 => kk [o0, o1, o2, (some x17)] h18 := by kernel_rfl
instance i__law_source_0_2 {k : Nat} {o0 o1 o2 o3 : Option Vl} {kk : Env → Hs → Rt} : St (WpR (Bk (mkG T0 200 (k + 1)) 20 d__law_source.st t__law_source_0_2 [o0, o1, o2, o3] h kk) T E) (WpR ((nmO o1 h).st [o0, o1, o2, o3] fun x1 h2 => (nmO o0 h2).st [o0, o1, o2, o3] fun x3 h4 => (bO (mkG T0 200 (k + 1)) .len x3 h4).st [o0, o1, o2, o3] fun x5 h6 => (Rs.of ((cmpV .Lt h6 x1 x5).map .bl) h6).st [o0, o1, o2, o3] fun x7 h8 => (testOf h8 x7).st [o0, o1, o2, o3] fun t9 h10 => ((if t9 then (nmO o0 h10).bind fun x11 h12 => (nmO o1 h12).bind fun x13 h14 => (iX (mkG T0 200 (k + 1)) x11 x13 h14).bind fun x15 h16 => Rs.ok x15 h16 else Rs.ok (Vl.int 0) h10 : Rs Vl)).st [o0, o1, o2, o3] fun x17 h18 => Bk (mkG T0 200 (k + 1)) 20 d__law_source.st t__law_source_0_3 [o0, o1, o2, (some x17)] h18 kk) T E) := ⟨fun w => by have z := x__law_source_0_2 k (mkG T0 200 (k + 1)).call (mkG T0 200 (k + 1)).meth (mkG T0 200 (k + 1)).attr (mkG T0 200 (k + 1)).spec (mkG T0 200 (k + 1)).clm o0 o1 o2 o3 h (fun r h => Bk (mkG T0 200 (k + 1)) 20 d__law_source.st t__law_source_0_3 r h kk); rw [Gc_eq] at z; rw [Bk_cons (t' := t__law_source_0_3) (s := t__law_source_0_2.headD (.Pass ⟨0, 0, 0, 0⟩)) (by kernel_rfl)]; exact WpR_cg z w⟩
theorem x__law_source_0_3 (k : Nat) (cl : CL) (me : ME) (at_ : AT_) (sp : SP) (cm : ME) (o0 o1 o2 o3 : Option Vl) (h : Hs) (kk : Env → Hs → Rt) : evSK (Gc k cl me at_ sp cm) 200 20 d__law_source.st (t__law_source_0_3.headD (.Pass ⟨0, 0, 0, 0⟩)) [o0, o1, o2, o3] h kk = (nmO o2 h).st [o0, o1, o2, o3] fun x1 h2 => (nmO o3 h2).st [o0, o1, o2, o3] fun x3 h4 => (Rs.of (bltV isaT0 .abs [x3] h4) h4).st [o0, o1, o2, o3] fun x5 h6 => (Rs.of (binV .Pow (Vl.int 10) (Vl.int 18)) h6).st [o0, o1, o2, o3] fun x7 h8 => (Rs.of ((cmpV .GtE h8 x5 x7).map .bl) h8).st [o0, o1, o2, o3] fun x9 h10 => (testOf h10 x9).st [o0, o1, o2, o3] fun t11 h12 => ((if t11 then (nmO o3 h12).bind fun x13 h14 => (Rs.of (bltV isaT0 .abs [x13] h14) h14).bind fun x15 h16 => Rs.ok x15 h16 else Rs.ok (Vl.int 0) h12 : Rs Vl)).st [o0, o1, o2, o3] fun x17 h18 => (mkK true [x1, x17] h18).st [o0, o1, o2, o3] fun x19 h20 => Rt.ok (.rt x19) [o0, o1, o2, o3] h20 := by kernel_rfl
instance i__law_source_0_3 {k : Nat} {o0 o1 o2 o3 : Option Vl} {kk : Env → Hs → Rt} : St (WpR (Bk (mkG T0 200 (k + 1)) 20 d__law_source.st t__law_source_0_3 [o0, o1, o2, o3] h kk) T E) (WpR ((nmO o2 h).st [o0, o1, o2, o3] fun x1 h2 => (nmO o3 h2).st [o0, o1, o2, o3] fun x3 h4 => (Rs.of (bltV isaT0 .abs [x3] h4) h4).st [o0, o1, o2, o3] fun x5 h6 => (Rs.of (binV .Pow (Vl.int 10) (Vl.int 18)) h6).st [o0, o1, o2, o3] fun x7 h8 => (Rs.of ((cmpV .GtE h8 x5 x7).map .bl) h8).st [o0, o1, o2, o3] fun x9 h10 => (testOf h10 x9).st [o0, o1, o2, o3] fun t11 h12 => ((if t11 then (nmO o3 h12).bind fun x13 h14 => (Rs.of (bltV isaT0 .abs [x13] h14) h14).bind fun x15 h16 => Rs.ok x15 h16 else Rs.ok (Vl.int 0) h12 : Rs Vl)).st [o0, o1, o2, o3] fun x17 h18 => (mkK true [x1, x17] h18).st [o0, o1, o2, o3] fun x19 h20 => Rt.ok (.rt x19) [o0, o1, o2, o3] h20) T E) := ⟨fun w => by have z := x__law_source_0_3 k (mkG T0 200 (k + 1)).call (mkG T0 200 (k + 1)).meth (mkG T0 200 (k + 1)).attr (mkG T0 200 (k + 1)).spec (mkG T0 200 (k + 1)).clm o0 o1 o2 o3 h kk; rw [Gc_eq] at z; rw [Bk_one (s := t__law_source_0_3.headD (.Pass ⟨0, 0, 0, 0⟩)) (by kernel_rfl)]; exact WpR_cg z w⟩
instance u__law_source {k : Nat} {a0 a1 : Vl} {Q : Vl → Hs → Prop} : Un (Wp (rD (mkG T0 200 (k + 1)) d__law_source [a0, a1] h) Q E) (WpR (Bk (mkG T0 200 (k + 1)) 20 d__law_source.st t__law_source_0_0 [some a0, some a1, none, none] h fun r h => .ok .nx r h) (retQ h Q) (retE h E)) := ⟨fun w => by
  have e : rD (mkG T0 200 (k + 1)) d__law_source [a0, a1] h = endR h (Bk (mkG T0 200 (k + 1)) 20 d__law_source.st t__law_source_0_0 [some a0, some a1, none, none] h fun r h => .ok .nx r h) := by
    unfold rD Bk
    rw [runDef_K rfl]
    kernel_rfl
  rw [e, Wp_endS]; exact w⟩

end
end Wd

set_option Elab.async false
set_option linter.all false
set_option maxRecDepth 100000
set_option maxHeartbeats 400000
namespace Wd
open PySem PySem.Spec PyProof.Rows L2
section
variable {E : Vl → Hs → Prop} {T : Fl → Env → Hs → Prop} {h : Hs} {Q : Option Vl → Hs → Prop}
/-! _law_draw; slots: 0=_law_source_here 1=_law_many 2=_law_figure -/
def b__law_draw_0 : List Stmt := d__law_draw.body
def t__law_draw_0_0 : List Stmt := b__law_draw_0.drop 0
def t__law_draw_0_1 : List Stmt := b__law_draw_0.drop 1
def t__law_draw_0_2 : List Stmt := b__law_draw_0.drop 2
def b__law_draw_1 : List Stmt := bodyS (b__law_draw_0.getD 0 (.Pass ⟨0, 0, 0, 0⟩))
def t__law_draw_1_0 : List Stmt := b__law_draw_1.drop 0
def t__law_draw_1_1 : List Stmt := b__law_draw_1.drop 1
def q__law_draw_0 (G : Gt) (v : Vl) (o0 o1 o2 : Option Vl) (h : Hs) (kk : Env → Hs → Rt) : Rt := tupS 2 [fun v9 r10 h11 k => (nmS 0 r10 h11).st r10 fun x13 h14 => itemK (setItemV h14 x13 (Vl.int 1) v9) fun h12 => k r10 h12, fun v15 r16 h17 k => k ((r16).set 2 (some v15)) h17] v [o0, o1, o2] h kk
theorem iq__law_draw_0 (G : Gt) (u0 u1 : Vl) (o0 o1 o2 : Option Vl) (h : Hs) (kk : Env → Hs → Rt) : q__law_draw_0 G (.tup [u0, u1]) o0 o1 o2 h kk = (nmO o0 h).st [o0, o1, o2] fun x19 h20 => itemK (setItemV h20 x19 (Vl.int 1) u0) fun h18 => kk [o0, o1, (some u1)] h18 := by kernel_rfl
instance {G : Gt} {u0 u1 : Vl} {o0 o1 o2 : Option Vl} {kk : Env → Hs → Rt} : St (WpR (q__law_draw_0 G (.tup [u0, u1]) o0 o1 o2 h kk) T E) (WpR ((nmO o0 h).st [o0, o1, o2] fun x19 h20 => itemK (setItemV h20 x19 (Vl.int 1) u0) fun h18 => kk [o0, o1, (some u1)] h18) T E) := ⟨fun w => by rw [iq__law_draw_0]; exact w⟩
theorem x__law_draw_0_0 (k : Nat) (cl : CL) (me : ME) (at_ : AT_) (sp : SP) (cm : ME) (o0 o1 o2 : Option Vl) (h : Hs) (kk : Env → Hs → Rt) : evSK (Gc k cl me at_ sp cm) 200 20 d__law_draw.st (t__law_draw_0_0.headD (.Pass ⟨0, 0, 0, 0⟩)) [o0, o1, o2] h kk = (nmO o0 h).st [o0, o1, o2] fun x101 h102 => (iX (Gc k cl me at_ sp cm) x101 (Vl.int 1) h102).st [o0, o1, o2] fun x103 h104 => (Rs.of ((cmpV .Gt h104 x103 (Vl.int 0)).map .bl) h104).st [o0, o1, o2] fun x105 h106 => (testOf h106 x105).st [o0, o1, o2] fun t107 h108 => if t107 then Bk (Gc k cl me at_ sp cm) 19 d__law_draw.st t__law_draw_1_0 [o0, o1, o2] h108 kk else kk [o0, o1, o2] h108 := by kernel_rfl
instance i__law_draw_0_0 {k : Nat} {o0 o1 o2 : Option Vl} {kk : Env → Hs → Rt} : St (WpR (Bk (mkG T0 200 (k + 1)) 20 d__law_draw.st t__law_draw_0_0 [o0, o1, o2] h kk) T E) (WpR ((nmO o0 h).st [o0, o1, o2] fun x101 h102 => (iX (mkG T0 200 (k + 1)) x101 (Vl.int 1) h102).st [o0, o1, o2] fun x103 h104 => (Rs.of ((cmpV .Gt h104 x103 (Vl.int 0)).map .bl) h104).st [o0, o1, o2] fun x105 h106 => (testOf h106 x105).st [o0, o1, o2] fun t107 h108 => if t107 then Bk (mkG T0 200 (k + 1)) 19 d__law_draw.st t__law_draw_1_0 [o0, o1, o2] h108 (fun r h => Bk (mkG T0 200 (k + 1)) 20 d__law_draw.st t__law_draw_0_1 r h kk) else Bk (mkG T0 200 (k + 1)) 20 d__law_draw.st t__law_draw_0_1 [o0, o1, o2] h108 kk) T E) := ⟨fun w => by have z := x__law_draw_0_0 k (mkG T0 200 (k + 1)).call (mkG T0 200 (k + 1)).meth (mkG T0 200 (k + 1)).attr (mkG T0 200 (k + 1)).spec (mkG T0 200 (k + 1)).clm o0 o1 o2 h (fun r h => Bk (mkG T0 200 (k + 1)) 20 d__law_draw.st t__law_draw_0_1 r h kk); rw [Gc_eq] at z; rw [Bk_cons (t' := t__law_draw_0_1) (s := t__law_draw_0_0.headD (.Pass ⟨0, 0, 0, 0⟩)) (by kernel_rfl)]; exact WpR_cg z w⟩
theorem x__law_draw_1_0 (k : Nat) (cl : CL) (me : ME) (at_ : AT_) (sp : SP) (cm : ME) (o0 o1 o2 : Option Vl) (h : Hs) (kk : Env → Hs → Rt) : evSK (Gc k cl me at_ sp cm) 200 19 d__law_draw.st (t__law_draw_1_0.headD (.Pass ⟨0, 0, 0, 0⟩)) [o0, o1, o2] h kk = (nmO o0 h).st [o0, o1, o2] fun x1 h2 => (iX (Gc k cl me at_ sp cm) x1 (Vl.int 1) h2).st [o0, o1, o2] fun x3 h4 => (nmO o1 h4).st [o0, o1, o2] fun x5 h6 => (Rs.of (bltV isaT0 .divmod [x3, x5] h6) h6).st [o0, o1, o2] fun x7 h8 => q__law_draw_0 (Gc k cl me at_ sp cm) x7 o0 o1 o2 h8 (kk) := by kernel_rfl
instance i__law_draw_1_0 {k : Nat} {o0 o1 o2 : Option Vl} {kk : Env → Hs → Rt} : St (WpR (Bk (mkG T0 200 (k + 1)) 19 d__law_draw.st t__law_draw_1_0 [o0, o1, o2] h kk) T E) (WpR ((nmO o0 h).st [o0, o1, o2] fun x1 h2 => (iX (mkG T0 200 (k + 1)) x1 (Vl.int 1) h2).st [o0, o1, o2] fun x3 h4 => (nmO o1 h4).st [o0, o1, o2] fun x5 h6 => (Rs.of (bltV isaT0 .divmod [x3, x5] h6) h6).st [o0, o1, o2] fun x7 h8 => q__law_draw_0 (mkG T0 200 (k + 1)) x7 o0 o1 o2 h8 ((fun r h => Bk (mkG T0 200 (k + 1)) 19 d__law_draw.st t__law_draw_1_1 r h kk))) T E) := ⟨fun w => by have z := x__law_draw_1_0 k (mkG T0 200 (k + 1)).call (mkG T0 200 (k + 1)).meth (mkG T0 200 (k + 1)).attr (mkG T0 200 (k + 1)).spec (mkG T0 200 (k + 1)).clm o0 o1 o2 h (fun r h => Bk (mkG T0 200 (k + 1)) 19 d__law_draw.st t__law_draw_1_1 r h kk); rw [Gc_eq] at z; rw [Bk_cons (t' := t__law_draw_1_1) (s := t__law_draw_1_0.headD (.Pass ⟨0, 0, 0, 0⟩)) (by kernel_rfl)]; exact WpR_cg z w⟩
theorem x__law_draw_1_1 (k : Nat) (cl : CL) (me : ME) (at_ : AT_) (sp : SP) (cm : ME) (o0 o1 o2 : Option Vl) (h : Hs) (kk : Env → Hs → Rt) : evSK (Gc k cl me at_ sp cm) 200 19 d__law_draw.st (t__law_draw_1_1.headD (.Pass ⟨0, 0, 0, 0⟩)) [o0, o1, o2] h kk = (nmO o2 h).st [o0, o1, o2] fun x1 h2 => Rt.ok (.rt x1) [o0, o1, o2] h2 := by kernel_rfl
instance i__law_draw_1_1 {k : Nat} {o0 o1 o2 : Option Vl} {kk : Env → Hs → Rt} : St (WpR (Bk (mkG T0 200 (k + 1)) 19 d__law_draw.st t__law_draw_1_1 [o0, o1, o2] h kk) T E) (WpR ((nmO o2 h).st [o0, o1, o2] fun x1 h2 => Rt.ok (.rt x1) [o0, o1, o2] h2) T E) := ⟨fun w => by have z := x__law_draw_1_1 k (mkG T0 200 (k + 1)).call (mkG T0 200 (k + 1)).meth (mkG T0 200 (k + 1)).attr (mkG T0 200 (k + 1)).spec (mkG T0 200 (k + 1)).clm o0 o1 o2 h kk; rw [Gc_eq] at z; rw [Bk_one (s := t__law_draw_1_1.headD (.Pass ⟨0, 0, 0, 0⟩)) (by kernel_rfl)]; exact WpR_cg z w⟩
theorem x__law_draw_0_1 (k : Nat) (cl : CL) (me : ME) (at_ : AT_) (sp : SP) (cm : ME) (o0 o1 o2 : Option Vl) (h : Hs) (kk : Env → Hs → Rt) : evSK (Gc k cl me at_ sp cm) 200 20 d__law_draw.st (t__law_draw_0_1.headD (.Pass ⟨0, 0, 0, 0⟩)) [o0, o1, o2] h kk = (nmO o0 h).st [o0, o1, o2] fun x1 h2 => (iX (Gc k cl me at_ sp cm) x1 (Vl.int 0) h2).st [o0, o1, o2] fun x3 h4 => (Rs.of (binV .Mult x3 (Vl.int 6364136223846793005)) h4).st [o0, o1, o2] fun x5 h6 => (Rs.of (binV .Add x5 (Vl.int 1442695040888963407)) h6).st [o0, o1, o2] fun x7 h8 => (Rs.of (bltV isaT0 .int [x7] h8) h8).st [o0, o1, o2] fun x9 h10 => (Rs.of (binV .Mod x9 (Vl.int 18446744073709551616)) h10).st [o0, o1, o2] fun x11 h12 => (nmO o0 h12).st [o0, o1, o2] fun x14 h15 => itemK (setItemV h15 x14 (Vl.int 0) x11) fun h13 => kk [o0, o1, o2] h13 := by kernel_rfl
instance i__law_draw_0_1 {k : Nat} {o0 o1 o2 : Option Vl} {kk : Env → Hs → Rt} : St (WpR (Bk (mkG T0 200 (k + 1)) 20 d__law_draw.st t__law_draw_0_1 [o0, o1, o2] h kk) T E) (WpR ((nmO o0 h).st [o0, o1, o2] fun x1 h2 => (iX (mkG T0 200 (k + 1)) x1 (Vl.int 0) h2).st [o0, o1, o2] fun x3 h4 => (Rs.of (binV .Mult x3 (Vl.int 6364136223846793005)) h4).st [o0, o1, o2] fun x5 h6 => (Rs.of (binV .Add x5 (Vl.int 1442695040888963407)) h6).st [o0, o1, o2] fun x7 h8 => (Rs.of (bltV isaT0 .int [x7] h8) h8).st [o0, o1, o2] fun x9 h10 => (Rs.of (binV .Mod x9 (Vl.int 18446744073709551616)) h10).st [o0, o1, o2] fun x11 h12 => (nmO o0 h12).st [o0, o1, o2] fun x14 h15 => itemK (setItemV h15 x14 (Vl.int 0) x11) fun h13 => Bk (mkG T0 200 (k + 1)) 20 d__law_draw.st t__law_draw_0_2 [o0, o1, o2] h13 kk) T E) := ⟨fun w => by have z := x__law_draw_0_1 k (mkG T0 200 (k + 1)).call (mkG T0 200 (k + 1)).meth (mkG T0 200 (k + 1)).attr (mkG T0 200 (k + 1)).spec (mkG T0 200 (k + 1)).clm o0 o1 o2 h (fun r h => Bk (mkG T0 200 (k + 1)) 20 d__law_draw.st t__law_draw_0_2 r h kk); rw [Gc_eq] at z; rw [Bk_cons (t' := t__law_draw_0_2) (s := t__law_draw_0_1.headD (.Pass ⟨0, 0, 0, 0⟩)) (by kernel_rfl)]; exact WpR_cg z w⟩
theorem x__law_draw_0_2 (k : Nat) (cl : CL) (me : ME) (at_ : AT_) (sp : SP) (cm : ME) (o0 o1 o2 : Option Vl) (h : Hs) (kk : Env → Hs → Rt) : evSK (Gc k cl me at_ sp cm) 200 20 d__law_draw.st (t__law_draw_0_2.headD (.Pass ⟨0, 0, 0, 0⟩)) [o0, o1, o2] h kk = (nmO o0 h).st [o0, o1, o2] fun x1 h2 => (iX (Gc k cl me at_ sp cm) x1 (Vl.int 0) h2).st [o0, o1, o2] fun x3 h4 => (Rs.of (binV .FloorDiv x3 (Vl.int 8589934592)) h4).st [o0, o1, o2] fun x5 h6 => (Rs.of (bltV isaT0 .int [x5] h6) h6).st [o0, o1, o2] fun x7 h8 => (nmO o1 h8).st [o0, o1, o2] fun x9 h10 => (Rs.of (binV .Mod x7 x9) h10).st [o0, o1, o2] fun x11 h12 => Rt.ok (.rt x11) [o0, o1, o2] h12 := by kernel_rfl
instance i__law_draw_0_2 {k : Nat} {o0 o1 o2 : Option Vl} {kk : Env → Hs → Rt} : St (WpR (Bk (mkG T0 200 (k + 1)) 20 d__law_draw.st t__law_draw_0_2 [o0, o1, o2] h kk) T E) (WpR ((nmO o0 h).st [o0, o1, o2] fun x1 h2 => (iX (mkG T0 200 (k + 1)) x1 (Vl.int 0) h2).st [o0, o1, o2] fun x3 h4 => (Rs.of (binV .FloorDiv x3 (Vl.int 8589934592)) h4).st [o0, o1, o2] fun x5 h6 => (Rs.of (bltV isaT0 .int [x5] h6) h6).st [o0, o1, o2] fun x7 h8 => (nmO o1 h8).st [o0, o1, o2] fun x9 h10 => (Rs.of (binV .Mod x7 x9) h10).st [o0, o1, o2] fun x11 h12 => Rt.ok (.rt x11) [o0, o1, o2] h12) T E) := ⟨fun w => by have z := x__law_draw_0_2 k (mkG T0 200 (k + 1)).call (mkG T0 200 (k + 1)).meth (mkG T0 200 (k + 1)).attr (mkG T0 200 (k + 1)).spec (mkG T0 200 (k + 1)).clm o0 o1 o2 h kk; rw [Gc_eq] at z; rw [Bk_one (s := t__law_draw_0_2.headD (.Pass ⟨0, 0, 0, 0⟩)) (by kernel_rfl)]; exact WpR_cg z w⟩
instance u__law_draw {k : Nat} {a0 a1 : Vl} {Q : Vl → Hs → Prop} : Un (Wp (rD (mkG T0 200 (k + 1)) d__law_draw [a0, a1] h) Q E) (WpR (Bk (mkG T0 200 (k + 1)) 20 d__law_draw.st t__law_draw_0_0 [some a0, some a1, none] h fun r h => .ok .nx r h) (retQ h Q) (retE h E)) := ⟨fun w => by
  have e : rD (mkG T0 200 (k + 1)) d__law_draw [a0, a1] h = endR h (Bk (mkG T0 200 (k + 1)) 20 d__law_draw.st t__law_draw_0_0 [some a0, some a1, none] h fun r h => .ok .nx r h) := by
    unfold rD Bk
    rw [runDef_K rfl]
    kernel_rfl
  rw [e, Wp_endS]; exact w⟩

end
end Wd

set_option Elab.async false
set_option linter.all false
set_option maxRecDepth 100000
set_option maxHeartbeats 400000
namespace Wd
open PySem PySem.Spec PyProof.Rows L2
section
variable {E : Vl → Hs → Prop} {T : Fl → Env → Hs → Prop} {h : Hs} {Q : Option Vl → Hs → Prop}
/-! _law_name; slots: 0=_law_source_here 1=_law_sign 2=_law_k -/
def b__law_name_0 : List Stmt := d__law_name.body
def t__law_name_0_0 : List Stmt := b__law_name_0.drop 0
def t__law_name_0_1 : List Stmt := b__law_name_0.drop 1
def cf__law_name_1 (G : Gt) (o0 o1 o2 : Option Vl) : Vl → Hs → Rs (Option Vl) := fun x27 h28 => ((nmO o0 h28).bind fun x33 h34 => (cO G "_law_draw" [x33, (Vl.int 10)] [] [] h34).bind fun x35 h36 => (bO G .str x35 h36).bind fun x37 h38 => Rs.ok x37 h38).bind fun v31 h30 => .ok (some v31) (trunc h28 v31 h30)
instance {G : Gt} {o0 o1 o2 : Option Vl} {x27 : Vl} {h28 : Hs} : St (Wp (cf__law_name_1 G o0 o1 o2 x27 h28) Q E) (Wp (((nmO o0 h28).bind fun x33 h34 => (cO G "_law_draw" [x33, (Vl.int 10)] [] [] h34).bind fun x35 h36 => (bO G .str x35 h36).bind fun x37 h38 => Rs.ok x37 h38).bind fun v31 h30 => .ok (some v31) (trunc h28 v31 h30)) Q E) := ⟨fun w => w⟩
def cf__law_name_0 (G : Gt) (o0 o1 o2 : Option Vl) : Vl → Hs → Rs (Option Vl) := fun x5 h6 => ((nmO o0 h6).bind fun x11 h12 => (cO G "_law_draw" [x11, (Vl.int 10)] [] [] h12).bind fun x13 h14 => (bO G .str x13 h14).bind fun x15 h16 => Rs.ok x15 h16).bind fun v9 h8 => .ok (some v9) (trunc h6 v9 h8)
instance {G : Gt} {o0 o1 o2 : Option Vl} {x5 : Vl} {h6 : Hs} : St (Wp (cf__law_name_0 G o0 o1 o2 x5 h6) Q E) (Wp (((nmO o0 h6).bind fun x11 h12 => (cO G "_law_draw" [x11, (Vl.int 10)] [] [] h12).bind fun x13 h14 => (bO G .str x13 h14).bind fun x15 h16 => Rs.ok x15 h16).bind fun v9 h8 => .ok (some v9) (trunc h6 v9 h8)) Q E) := ⟨fun w => w⟩
theorem x__law_name_0_0 (k : Nat) (cl : CL) (me : ME) (at_ : AT_) (sp : SP) (cm : ME) (o0 o1 o2 : Option Vl) (h : Hs) (kk : Env → Hs → Rt) : evSK (Gc k cl me at_ sp cm) 200 20 d__law_name.st (t__law_name_0_0.headD (.Pass ⟨0, 0, 0, 0⟩)) [o0, o1, o2] h kk = (nmO o0 h).st [o0, o1, o2] fun x1 h2 => (cO (Gc k cl me at_ sp cm) "_law_draw" [x1, (Vl.int 25)] [] [] h2).st [o0, o1, o2] fun x3 h4 => (iX (Gc k cl me at_ sp cm) (Vl.str "abcdefghijklmnopqrstuvwyz") x3 h4).st [o0, o1, o2] fun x5 h6 => kk [o0, (some x5), o2] h6 := by kernel_rfl
instance i__law_name_0_0 {k : Nat} {o0 o1 o2 : Option Vl} {kk : Env → Hs → Rt} : St (WpR (Bk (mkG T0 200 (k + 1)) 20 d__law_name.st t__law_name_0_0 [o0, o1, o2] h kk) T E) (WpR ((nmO o0 h).st [o0, o1, o2] fun x1 h2 => (cO (mkG T0 200 (k + 1)) "_law_draw" [x1, (Vl.int 25)] [] [] h2).st [o0, o1, o2] fun x3 h4 => (iX (mkG T0 200 (k + 1)) (Vl.str "abcdefghijklmnopqrstuvwyz") x3 h4).st [o0, o1, o2] fun x5 h6 => Bk (mkG T0 200 (k + 1)) 20 d__law_name.st t__law_name_0_1 [o0, (some x5), o2] h6 kk) T E) := ⟨fun w => by have z := x__law_name_0_0 k (mkG T0 200 (k + 1)).call (mkG T0 200 (k + 1)).meth (mkG T0 200 (k + 1)).attr (mkG T0 200 (k + 1)).spec (mkG T0 200 (k + 1)).clm o0 o1 o2 h (fun r h => Bk (mkG T0 200 (k + 1)) 20 d__law_name.st t__law_name_0_1 r h kk); rw [Gc_eq] at z; rw [Bk_cons (t' := t__law_name_0_1) (s := t__law_name_0_0.headD (.Pass ⟨0, 0, 0, 0⟩)) (by kernel_rfl)]; exact WpR_cg z w⟩
theorem x__law_name_0_1 (k : Nat) (cl : CL) (me : ME) (at_ : AT_) (sp : SP) (cm : ME) (o0 o1 o2 : Option Vl) (h : Hs) (kk : Env → Hs → Rt) : evSK (Gc k cl me at_ sp cm) 200 20 d__law_name.st (t__law_name_0_1.headD (.Pass ⟨0, 0, 0, 0⟩)) [o0, o1, o2] h kk = (nmO o1 h).st [o0, o1, o2] fun x1 h2 => (mV (Gc k cl me at_ sp cm) "join" [] (Vl.str "") h2 (fun f => (((nmO o0 h2).bind fun x19 h20 => (cO (Gc k cl me at_ sp cm) "_law_draw" [x19, (Vl.int 4)] [] [] h20).bind fun x21 h22 => Rs.ok x21 h22).bind fun x17 h18 => Rs.of (rangeV [x17]) h18).bind fun xs23 h24 => (cM (cf__law_name_0 (Gc k cl me at_ sp cm) o0 o1 o2) xs23 [] h24).bind fun ys25 h26 => f [(Vl.lst ys25)] [] h26) (fun f => (((nmO o0 h2).bind fun x41 h42 => (cO (Gc k cl me at_ sp cm) "_law_draw" [x41, (Vl.int 4)] [] [] h42).bind fun x43 h44 => Rs.ok x43 h44).bind fun x39 h40 => Rs.of (rangeV [x39]) h40).bind fun xs45 h46 => (cM (cf__law_name_1 (Gc k cl me at_ sp cm) o0 o1 o2) xs45 [] h46).bind fun ys47 h48 => f [(Vl.lst ys47)] h48)).st [o0, o1, o2] fun x49 h50 => (Rs.of (binV .Add x1 x49) h50).st [o0, o1, o2] fun x51 h52 => Rt.ok (.rt x51) [o0, o1, o2] h52 := by kernel_rfl
instance i__law_name_0_1 {k : Nat} {o0 o1 o2 : Option Vl} {kk : Env → Hs → Rt} : St (WpR (Bk (mkG T0 200 (k + 1)) 20 d__law_name.st t__law_name_0_1 [o0, o1, o2] h kk) T E) (WpR ((nmO o1 h).st [o0, o1, o2] fun x1 h2 => (mV (mkG T0 200 (k + 1)) "join" [] (Vl.str "") h2 (fun f => (((nmO o0 h2).bind fun x19 h20 => (cO (mkG T0 200 (k + 1)) "_law_draw" [x19, (Vl.int 4)] [] [] h20).bind fun x21 h22 => Rs.ok x21 h22).bind fun x17 h18 => Rs.of (rangeV [x17]) h18).bind fun xs23 h24 => (cM (cf__law_name_0 (mkG T0 200 (k + 1)) o0 o1 o2) xs23 [] h24).bind fun ys25 h26 => f [(Vl.lst ys25)] [] h26) (fun f => (((nmO o0 h2).bind fun x41 h42 => (cO (mkG T0 200 (k + 1)) "_law_draw" [x41, (Vl.int 4)] [] [] h42).bind fun x43 h44 => Rs.ok x43 h44).bind fun x39 h40 => Rs.of (rangeV [x39]) h40).bind fun xs45 h46 => (cM (cf__law_name_1 (mkG T0 200 (k + 1)) o0 o1 o2) xs45 [] h46).bind fun ys47 h48 => f [(Vl.lst ys47)] h48)).st [o0, o1, o2] fun x49 h50 => (Rs.of (binV .Add x1 x49) h50).st [o0, o1, o2] fun x51 h52 => Rt.ok (.rt x51) [o0, o1, o2] h52) T E) := ⟨fun w => by have z := x__law_name_0_1 k (mkG T0 200 (k + 1)).call (mkG T0 200 (k + 1)).meth (mkG T0 200 (k + 1)).attr (mkG T0 200 (k + 1)).spec (mkG T0 200 (k + 1)).clm o0 o1 o2 h kk; rw [Gc_eq] at z; rw [Bk_one (s := t__law_name_0_1.headD (.Pass ⟨0, 0, 0, 0⟩)) (by kernel_rfl)]; exact WpR_cg z w⟩
instance u__law_name {k : Nat} {a0 : Vl} {Q : Vl → Hs → Prop} : Un (Wp (rD (mkG T0 200 (k + 1)) d__law_name [a0] h) Q E) (WpR (Bk (mkG T0 200 (k + 1)) 20 d__law_name.st t__law_name_0_0 [some a0, none, none] h fun r h => .ok .nx r h) (retQ h Q) (retE h E)) := ⟨fun w => by
  have e : rD (mkG T0 200 (k + 1)) d__law_name [a0] h = endR h (Bk (mkG T0 200 (k + 1)) 20 d__law_name.st t__law_name_0_0 [some a0, none, none] h fun r h => .ok .nx r h) := by
    unfold rD Bk
    rw [runDef_K rfl]
    kernel_rfl
  rw [e, Wp_endS]; exact w⟩

end
end Wd

set_option Elab.async false
set_option linter.all false
set_option maxRecDepth 100000
set_option maxHeartbeats 400000
namespace Wd
open PySem PySem.Spec PyProof.Rows L2
section
variable {E : Vl → Hs → Prop} {T : Fl → Env → Hs → Prop} {h : Hs} {Q : Option Vl → Hs → Prop}
/-! _law_atoms; slots: 0=_law_source_here 1=_law_found 2=_law_turn 3=_law_many 4=_law_atom 5=_law_k -/
def b__law_atoms_0 : List Stmt := d__law_atoms.body
def t__law_atoms_0_0 : List Stmt := b__law_atoms_0.drop 0
def t__law_atoms_0_1 : List Stmt := b__law_atoms_0.drop 1
def t__law_atoms_0_2 : List Stmt := b__law_atoms_0.drop 2
def b__law_atoms_1 : List Stmt := bodyS (b__law_atoms_0.getD 1 (.Pass ⟨0, 0, 0, 0⟩))
def t__law_atoms_1_0 : List Stmt := b__law_atoms_1.drop 0
def t__law_atoms_1_1 : List Stmt := b__law_atoms_1.drop 1
def t__law_atoms_1_2 : List Stmt := b__law_atoms_1.drop 2
def cf__law_atoms_0 (G : Gt) (o0 o1 o2 o3 o4 o5 : Option Vl) : Vl → Hs → Rs (Option Vl) := fun x1 h2 => ((nmO o0 h2).bind fun x7 h8 => (cO G "_law_name" [x7] [] [] h8).bind fun x9 h10 => Rs.ok x9 h10).bind fun v5 h4 => .ok (some v5) (trunc h2 v5 h4)
instance {G : Gt} {o0 o1 o2 o3 o4 o5 : Option Vl} {x1 : Vl} {h2 : Hs} : St (Wp (cf__law_atoms_0 G o0 o1 o2 o3 o4 o5 x1 h2) Q E) (Wp (((nmO o0 h2).bind fun x7 h8 => (cO G "_law_name" [x7] [] [] h8).bind fun x9 h10 => Rs.ok x9 h10).bind fun v5 h4 => .ok (some v5) (trunc h2 v5 h4)) Q E) := ⟨fun w => w⟩
def g__law_atoms_0 : Vl → Env → Option Env := fun x r => asgP (Pt.nm 2) x r
instance {u0 : Vl} {o0 o1 o2 o3 o4 o5 : Option Vl} : Bd (g__law_atoms_0 u0 [o0, o1, o2, o3, o4, o5]) [o0, o1, (some u0), o3, o4, o5] := ⟨by kernel_rfl⟩
theorem x__law_atoms_0_0 (k : Nat) (cl : CL) (me : ME) (at_ : AT_) (sp : SP) (cm : ME) (o0 o1 o2 o3 o4 o5 : Option Vl) (h : Hs) (kk : Env → Hs → Rt) : evSK (Gc k cl me at_ sp cm) 200 20 d__law_atoms.st (t__law_atoms_0_0.headD (.Pass ⟨0, 0, 0, 0⟩)) [o0, o1, o2, o3, o4, o5] h kk = kk [o0, (some (Vl.lst [])), o2, o3, o4, o5] h := by kernel_rfl
instance i__law_atoms_0_0 {k : Nat} {o0 o1 o2 o3 o4 o5 : Option Vl} {kk : Env → Hs → Rt} : St (WpR (Bk (mkG T0 200 (k + 1)) 20 d__law_atoms.st t__law_atoms_0_0 [o0, o1, o2, o3, o4, o5] h kk) T E) (WpR (Bk (mkG T0 200 (k + 1)) 20 d__law_atoms.st t__law_atoms_0_1 [o0, (some (Vl.lst [])), o2, o3, o4, o5] h kk) T E) := ⟨fun w => by have z := x__law_atoms_0_0 k (mkG T0 200 (k + 1)).call (mkG T0 200 (k + 1)).meth (mkG T0 200 (k + 1)).attr (mkG T0 200 (k + 1)).spec (mkG T0 200 (k + 1)).clm o0 o1 o2 o3 o4 o5 h (fun r h => Bk (mkG T0 200 (k + 1)) 20 d__law_atoms.st t__law_atoms_0_1 r h kk); rw [Gc_eq] at z; rw [Bk_cons (t' := t__law_atoms_0_1) (s := t__law_atoms_0_0.headD (.Pass ⟨0, 0, 0, 0⟩)) (by kernel_rfl)]; exact WpR_cg z w⟩
theorem x__law_atoms_0_1 (k : Nat) (cl : CL) (me : ME) (at_ : AT_) (sp : SP) (cm : ME) (o0 o1 o2 o3 o4 o5 : Option Vl) (h : Hs) (kk : Env → Hs → Rt) : evSK (Gc k cl me at_ sp cm) 200 20 d__law_atoms.st (t__law_atoms_0_1.headD (.Pass ⟨0, 0, 0, 0⟩)) [o0, o1, o2, o3, o4, o5] h kk = (((nmO o0 h).bind fun x105 h106 => (cO (Gc k cl me at_ sp cm) "_law_draw" [x105, (Vl.int 7)] [] [] h106).bind fun x107 h108 => Rs.ok x107 h108).bind fun x103 h104 => Rs.of (rangeV [x103]) h104).st [o0, o1, o2, o3, o4, o5] fun xs101 h102 => thenR (fL g__law_atoms_0 (fun r h => Bk (Gc k cl me at_ sp cm) 19 d__law_atoms.st t__law_atoms_1_0 r h (fun r h => .ok .nx r h)) xs101 [o0, o1, o2, o3, o4, o5] h102) (kk) := by kernel_rfl
instance i__law_atoms_0_1 {k : Nat} {o0 o1 o2 o3 o4 o5 : Option Vl} {kk : Env → Hs → Rt} : St (WpR (Bk (mkG T0 200 (k + 1)) 20 d__law_atoms.st t__law_atoms_0_1 [o0, o1, o2, o3, o4, o5] h kk) T E) (WpR ((((nmO o0 h).bind fun x105 h106 => (cO (mkG T0 200 (k + 1)) "_law_draw" [x105, (Vl.int 7)] [] [] h106).bind fun x107 h108 => Rs.ok x107 h108).bind fun x103 h104 => Rs.of (rangeV [x103]) h104).st [o0, o1, o2, o3, o4, o5] fun xs101 h102 => thenR (fL g__law_atoms_0 (fun r h => Bk (mkG T0 200 (k + 1)) 19 d__law_atoms.st t__law_atoms_1_0 r h (fun r h => .ok .nx r h)) xs101 [o0, o1, o2, o3, o4, o5] h102) ((fun r h => Bk (mkG T0 200 (k + 1)) 20 d__law_atoms.st t__law_atoms_0_2 r h kk))) T E) := ⟨fun w => by have z := x__law_atoms_0_1 k (mkG T0 200 (k + 1)).call (mkG T0 200 (k + 1)).meth (mkG T0 200 (k + 1)).attr (mkG T0 200 (k + 1)).spec (mkG T0 200 (k + 1)).clm o0 o1 o2 o3 o4 o5 h (fun r h => Bk (mkG T0 200 (k + 1)) 20 d__law_atoms.st t__law_atoms_0_2 r h kk); rw [Gc_eq] at z; rw [Bk_cons (t' := t__law_atoms_0_2) (s := t__law_atoms_0_1.headD (.Pass ⟨0, 0, 0, 0⟩)) (by kernel_rfl)]; exact WpR_cg z w⟩
theorem x__law_atoms_1_0 (k : Nat) (cl : CL) (me : ME) (at_ : AT_) (sp : SP) (cm : ME) (o0 o1 o2 o3 o4 o5 : Option Vl) (h : Hs) (kk : Env → Hs → Rt) : evSK (Gc k cl me at_ sp cm) 200 19 d__law_atoms.st (t__law_atoms_1_0.headD (.Pass ⟨0, 0, 0, 0⟩)) [o0, o1, o2, o3, o4, o5] h kk = (nmO o0 h).st [o0, o1, o2, o3, o4, o5] fun x1 h2 => (nmO o0 h2).st [o0, o1, o2, o3, o4, o5] fun x3 h4 => (cO (Gc k cl me at_ sp cm) "_law_draw" [x3, (Vl.int 4)] [] [] h4).st [o0, o1, o2, o3, o4, o5] fun x5 h6 => (cX (Gc k cl me at_ sp cm) .Eq x5 (Vl.int 0) h6).st [o0, o1, o2, o3, o4, o5] fun x7 h8 => (testOf h8 x7).st [o0, o1, o2, o3, o4, o5] fun t9 h10 => ((if t9 then Rs.ok (Vl.int 30) h10 else Rs.ok (Vl.int 3) h10 : Rs Vl)).st [o0, o1, o2, o3, o4, o5] fun x11 h12 => (cO (Gc k cl me at_ sp cm) "_law_draw" [x1, x11] [] [] h12).st [o0, o1, o2, o3, o4, o5] fun x13 h14 => (Rs.of (binV .Add (Vl.int 1) x13) h14).st [o0, o1, o2, o3, o4, o5] fun x15 h16 => kk [o0, o1, o2, (some x15), o4, o5] h16 := by kernel_rfl
instance i__law_atoms_1_0 {k : Nat} {o0 o1 o2 o3 o4 o5 : Option Vl} {kk : Env → Hs → Rt} : St (WpR (Bk (mkG T0 200 (k + 1)) 19 d__law_atoms.st t__law_atoms_1_0 [o0, o1, o2, o3, o4, o5] h kk) T E) (WpR ((nmO o0 h).st [o0, o1, o2, o3, o4, o5] fun x1 h2 => (nmO o0 h2).st [o0, o1, o2, o3, o4, o5] fun x3 h4 => (cO (mkG T0 200 (k + 1)) "_law_draw" [x3, (Vl.int 4)] [] [] h4).st [o0, o1, o2, o3, o4, o5] fun x5 h6 => (cX (mkG T0 200 (k + 1)) .Eq x5 (Vl.int 0) h6).st [o0, o1, o2, o3, o4, o5] fun x7 h8 => (testOf h8 x7).st [o0, o1, o2, o3, o4, o5] fun t9 h10 => ((if t9 then Rs.ok (Vl.int 30) h10 else Rs.ok (Vl.int 3) h10 : Rs Vl)).st [o0, o1, o2, o3, o4, o5] fun x11 h12 => (cO (mkG T0 200 (k + 1)) "_law_draw" [x1, x11] [] [] h12).st [o0, o1, o2, o3, o4, o5] fun x13 h14 => (Rs.of (binV .Add (Vl.int 1) x13) h14).st [o0, o1, o2, o3, o4, o5] fun x15 h16 => Bk (mkG T0 200 (k + 1)) 19 d__law_atoms.st t__law_atoms_1_1 [o0, o1, o2, (some x15), o4, o5] h16 kk) T E) := ⟨fun w => by have z := x__law_atoms_1_0 k (mkG T0 200 (k + 1)).call (mkG T0 200 (k + 1)).meth (mkG T0 200 (k + 1)).attr (mkG T0 200 (k + 1)).spec (mkG T0 200 (k + 1)).clm o0 o1 o2 o3 o4 o5 h (fun r h => Bk (mkG T0 200 (k + 1)) 19 d__law_atoms.st t__law_atoms_1_1 r h kk); rw [Gc_eq] at z; rw [Bk_cons (t' := t__law_atoms_1_1) (s := t__law_atoms_1_0.headD (.Pass ⟨0, 0, 0, 0⟩)) (by kernel_rfl)]; exact WpR_cg z w⟩
theorem x__law_atoms_1_1 (k : Nat) (cl : CL) (me : ME) (at_ : AT_) (sp : SP) (cm : ME) (o0 o1 o2 o3 o4 o5 : Option Vl) (h : Hs) (kk : Env → Hs → Rt) : evSK (Gc k cl me at_ sp cm) 200 19 d__law_atoms.st (t__law_atoms_1_1.headD (.Pass ⟨0, 0, 0, 0⟩)) [o0, o1, o2, o3, o4, o5] h kk = (((nmO o3 h).bind fun x13 h14 => Rs.ok x13 h14).bind fun x11 h12 => Rs.of (rangeV [x11]) h12).st [o0, o1, o2, o3, o4, o5] fun xs15 h16 => (cM (cf__law_atoms_0 (Gc k cl me at_ sp cm) o0 o1 o2 o3 o4 o5) xs15 [] h16).st [o0, o1, o2, o3, o4, o5] fun ys17 h18 => (Rs.of (bltV isaT0 .tuple [(Vl.lst ys17)] h18) h18).st [o0, o1, o2, o3, o4, o5] fun x19 h20 => kk [o0, o1, o2, o3, (some x19), o5] h20 := by kernel_rfl
instance i__law_atoms_1_1 {k : Nat} {o0 o1 o2 o3 o4 o5 : Option Vl} {kk : Env → Hs → Rt} : St (WpR (Bk (mkG T0 200 (k + 1)) 19 d__law_atoms.st t__law_atoms_1_1 [o0, o1, o2, o3, o4, o5] h kk) T E) (WpR ((((nmO o3 h).bind fun x13 h14 => Rs.ok x13 h14).bind fun x11 h12 => Rs.of (rangeV [x11]) h12).st [o0, o1, o2, o3, o4, o5] fun xs15 h16 => (cM (cf__law_atoms_0 (mkG T0 200 (k + 1)) o0 o1 o2 o3 o4 o5) xs15 [] h16).st [o0, o1, o2, o3, o4, o5] fun ys17 h18 => (Rs.of (bltV isaT0 .tuple [(Vl.lst ys17)] h18) h18).st [o0, o1, o2, o3, o4, o5] fun x19 h20 => Bk (mkG T0 200 (k + 1)) 19 d__law_atoms.st t__law_atoms_1_2 [o0, o1, o2, o3, (some x19), o5] h20 kk) T E) := ⟨fun w => by have z := x__law_atoms_1_1 k (mkG T0 200 (k + 1)).call (mkG T0 200 (k + 1)).meth (mkG T0 200 (k + 1)).attr (mkG T0 200 (k + 1)).spec (mkG T0 200 (k + 1)).clm o0 o1 o2 o3 o4 o5 h (fun r h => Bk (mkG T0 200 (k + 1)) 19 d__law_atoms.st t__law_atoms_1_2 r h kk); rw [Gc_eq] at z; rw [Bk_cons (t' := t__law_atoms_1_2) (s := t__law_atoms_1_1.headD (.Pass ⟨0, 0, 0, 0⟩)) (by kernel_rfl)]; exact WpR_cg z w⟩
theorem x__law_atoms_1_2 (k : Nat) (cl : CL) (me : ME) (at_ : AT_) (sp : SP) (cm : ME) (o0 o1 o2 o3 o4 o5 : Option Vl) (h : Hs) (kk : Env → Hs → Rt) : evSK (Gc k cl me at_ sp cm) 200 19 d__law_atoms.st (t__law_atoms_1_2.headD (.Pass ⟨0, 0, 0, 0⟩)) [o0, o1, o2, o3, o4, o5] h kk = (nmO o4 h).st [o0, o1, o2, o3, o4, o5] fun x1 h2 => (nmO o1 h2).st [o0, o1, o2, o3, o4, o5] fun x3 h4 => (Rs.of ((cmpV .In h4 x1 x3).map .bl) h4).st [o0, o1, o2, o3, o4, o5] fun x5 h6 => (testOf h6 x5).st [o0, o1, o2, o3, o4, o5] fun t7 h8 => ((if t7 then (nmO o1 h8).bind fun x9 h10 => Rs.ok x9 h10 else (nmO o1 h8).bind fun x11 h12 => (nmO o4 h12).bind fun x13 h14 => (Rs.of (binV .Add x11 (Vl.lst [x13])) h14).bind fun x15 h16 => Rs.ok x15 h16 : Rs Vl)).st [o0, o1, o2, o3, o4, o5] fun x17 h18 => kk [o0, (some x17), o2, o3, o4, o5] h18 := by kernel_rfl
instance i__law_atoms_1_2 {k : Nat} {o0 o1 o2 o3 o4 o5 : Option Vl} {kk : Env → Hs → Rt} : St (WpR (Bk (mkG T0 200 (k + 1)) 19 d__law_atoms.st t__law_atoms_1_2 [o0, o1, o2, o3, o4, o5] h kk) T E) (WpR ((nmO o4 h).st [o0, o1, o2, o3, o4, o5] fun x1 h2 => (nmO o1 h2).st [o0, o1, o2, o3, o4, o5] fun x3 h4 => (Rs.of ((cmpV .In h4 x1 x3).map .bl) h4).st [o0, o1, o2, o3, o4, o5] fun x5 h6 => (testOf h6 x5).st [o0, o1, o2, o3, o4, o5] fun t7 h8 => ((if t7 then (nmO o1 h8).bind fun x9 h10 => Rs.ok x9 h10 else (nmO o1 h8).bind fun x11 h12 => (nmO o4 h12).bind fun x13 h14 => (Rs.of (binV .Add x11 (Vl.lst [x13])) h14).bind fun x15 h16 => Rs.ok x15 h16 : Rs Vl)).st [o0, o1, o2, o3, o4, o5] fun x17 h18 => kk [o0, (some x17), o2, o3, o4, o5] h18) T E) := ⟨fun w => by have z := x__law_atoms_1_2 k (mkG T0 200 (k + 1)).call (mkG T0 200 (k + 1)).meth (mkG T0 200 (k + 1)).attr (mkG T0 200 (k + 1)).spec (mkG T0 200 (k + 1)).clm o0 o1 o2 o3 o4 o5 h kk; rw [Gc_eq] at z; rw [Bk_one (s := t__law_atoms_1_2.headD (.Pass ⟨0, 0, 0, 0⟩)) (by kernel_rfl)]; exact WpR_cg z w⟩
theorem x__law_atoms_0_2 (k : Nat) (cl : CL) (me : ME) (at_ : AT_) (sp : SP) (cm : ME) (o0 o1 o2 o3 o4 o5 : Option Vl) (h : Hs) (kk : Env → Hs → Rt) : evSK (Gc k cl me at_ sp cm) 200 20 d__law_atoms.st (t__law_atoms_0_2.headD (.Pass ⟨0, 0, 0, 0⟩)) [o0, o1, o2, o3, o4, o5] h kk = (nmO o1 h).st [o0, o1, o2, o3, o4, o5] fun x1 h2 => (Rs.of (bltV isaT0 .tuple [x1] h2) h2).st [o0, o1, o2, o3, o4, o5] fun x3 h4 => Rt.ok (.rt x3) [o0, o1, o2, o3, o4, o5] h4 := by kernel_rfl
instance i__law_atoms_0_2 {k : Nat} {o0 o1 o2 o3 o4 o5 : Option Vl} {kk : Env → Hs → Rt} : St (WpR (Bk (mkG T0 200 (k + 1)) 20 d__law_atoms.st t__law_atoms_0_2 [o0, o1, o2, o3, o4, o5] h kk) T E) (WpR ((nmO o1 h).st [o0, o1, o2, o3, o4, o5] fun x1 h2 => (Rs.of (bltV isaT0 .tuple [x1] h2) h2).st [o0, o1, o2, o3, o4, o5] fun x3 h4 => Rt.ok (.rt x3) [o0, o1, o2, o3, o4, o5] h4) T E) := ⟨fun w => by have z := x__law_atoms_0_2 k (mkG T0 200 (k + 1)).call (mkG T0 200 (k + 1)).meth (mkG T0 200 (k + 1)).attr (mkG T0 200 (k + 1)).spec (mkG T0 200 (k + 1)).clm o0 o1 o2 o3 o4 o5 h kk; rw [Gc_eq] at z; rw [Bk_one (s := t__law_atoms_0_2.headD (.Pass ⟨0, 0, 0, 0⟩)) (by kernel_rfl)]; exact WpR_cg z w⟩
instance u__law_atoms {k : Nat} {a0 : Vl} {Q : Vl → Hs → Prop} : Un (Wp (rD (mkG T0 200 (k + 1)) d__law_atoms [a0] h) Q E) (WpR (Bk (mkG T0 200 (k + 1)) 20 d__law_atoms.st t__law_atoms_0_0 [some a0, none, none, none, none, none] h fun r h => .ok .nx r h) (retQ h Q) (retE h E)) := ⟨fun w => by
  have e : rD (mkG T0 200 (k + 1)) d__law_atoms [a0] h = endR h (Bk (mkG T0 200 (k + 1)) 20 d__law_atoms.st t__law_atoms_0_0 [some a0, none, none, none, none, none] h fun r h => .ok .nx r h) := by
    unfold rD Bk
    rw [runDef_K rfl]
    kernel_rfl
  rw [e, Wp_endS]; exact w⟩

end
end Wd

set_option Elab.async false
set_option linter.all false
set_option maxRecDepth 100000
set_option maxHeartbeats 400000
namespace Wd
open PySem PySem.Spec PyProof.Rows L2
section
variable {E : Vl → Hs → Prop} {T : Fl → Env → Hs → Prop} {h : Hs} {Q : Option Vl → Hs → Prop}
/-! _law_rows; slots: 0=_law_source_here 1=_law_signs 2=_law_most 3=_law_many 4=_law_j 5=_law_k -/
def b__law_rows_0 : List Stmt := d__law_rows.body
def t__law_rows_0_0 : List Stmt := b__law_rows_0.drop 0
def t__law_rows_0_1 : List Stmt := b__law_rows_0.drop 1
def cf__law_rows_1 (G : Gt) (o0 o1 o2 o3 o4 o5 : Option Vl) : Vl → Hs → Rs (Option Vl) := fun x7 h8 => ((nmO o0 h8).bind fun x13 h14 => (cO G "_law_draw" [x13, (Vl.int 2)] [] [] h14).bind fun x15 h16 => (cX G .Eq x15 (Vl.int 1) h16).bind fun x17 h18 => Rs.ok x17 h18).bind fun v11 h10 => .ok (some v11) (trunc h8 v11 h10)
instance {G : Gt} {o0 o1 o2 o3 o4 o5 : Option Vl} {x7 : Vl} {h8 : Hs} : St (Wp (cf__law_rows_1 G o0 o1 o2 o3 o4 o5 x7 h8) Q E) (Wp (((nmO o0 h8).bind fun x13 h14 => (cO G "_law_draw" [x13, (Vl.int 2)] [] [] h14).bind fun x15 h16 => (cX G .Eq x15 (Vl.int 1) h16).bind fun x17 h18 => Rs.ok x17 h18).bind fun v11 h10 => .ok (some v11) (trunc h8 v11 h10)) Q E) := ⟨fun w => w⟩
def cf__law_rows_0 (G : Gt) (o0 o1 o2 o3 o4 o5 : Option Vl) : Vl → Hs → Rs (Option Vl) := fun x1 h2 => ((((nmO o1 h2).bind fun x21 h22 => Rs.ok x21 h22).bind fun x19 h20 => Rs.of (rangeV [x19]) h20).bind fun xs23 h24 => (cM (cf__law_rows_1 G o0 o1 o2 o3 ((some x1)) o5) xs23 [] h24).bind fun ys25 h26 => (Rs.of (bltV isaT0 .tuple [(Vl.lst ys25)] h26) h26).bind fun x27 h28 => Rs.ok x27 h28).bind fun v5 h4 => .ok (some v5) (trunc h2 v5 h4)
instance {G : Gt} {o0 o1 o2 o3 o4 o5 : Option Vl} {x1 : Vl} {h2 : Hs} : St (Wp (cf__law_rows_0 G o0 o1 o2 o3 o4 o5 x1 h2) Q E) (Wp (((((nmO o1 h2).bind fun x21 h22 => Rs.ok x21 h22).bind fun x19 h20 => Rs.of (rangeV [x19]) h20).bind fun xs23 h24 => (cM (cf__law_rows_1 G o0 o1 o2 o3 ((some x1)) o5) xs23 [] h24).bind fun ys25 h26 => (Rs.of (bltV isaT0 .tuple [(Vl.lst ys25)] h26) h26).bind fun x27 h28 => Rs.ok x27 h28).bind fun v5 h4 => .ok (some v5) (trunc h2 v5 h4)) Q E) := ⟨fun w => w⟩
theorem x__law_rows_0_0 (k : Nat) (cl : CL) (me : ME) (at_ : AT_) (sp : SP) (cm : ME) (o0 o1 o2 o3 o4 o5 : Option Vl) (h : Hs) (kk : Env → Hs → Rt) : evSK (Gc k cl me at_ sp cm) 200 20 d__law_rows.st (t__law_rows_0_0.headD (.Pass ⟨0, 0, 0, 0⟩)) [o0, o1, o2, o3, o4, o5] h kk = (nmO o0 h).st [o0, o1, o2, o3, o4, o5] fun x1 h2 => (nmO o2 h2).st [o0, o1, o2, o3, o4, o5] fun x3 h4 => (Rs.of (binV .Add x3 (Vl.int 1)) h4).st [o0, o1, o2, o3, o4, o5] fun x5 h6 => (cO (Gc k cl me at_ sp cm) "_law_draw" [x1, x5] [] [] h6).st [o0, o1, o2, o3, o4, o5] fun x7 h8 => kk [o0, o1, o2, (some x7), o4, o5] h8 := by kernel_rfl
instance i__law_rows_0_0 {k : Nat} {o0 o1 o2 o3 o4 o5 : Option Vl} {kk : Env → Hs → Rt} : St (WpR (Bk (mkG T0 200 (k + 1)) 20 d__law_rows.st t__law_rows_0_0 [o0, o1, o2, o3, o4, o5] h kk) T E) (WpR ((nmO o0 h).st [o0, o1, o2, o3, o4, o5] fun x1 h2 => (nmO o2 h2).st [o0, o1, o2, o3, o4, o5] fun x3 h4 => (Rs.of (binV .Add x3 (Vl.int 1)) h4).st [o0, o1, o2, o3, o4, o5] fun x5 h6 => (cO (mkG T0 200 (k + 1)) "_law_draw" [x1, x5] [] [] h6).st [o0, o1, o2, o3, o4, o5] fun x7 h8 => Bk (mkG T0 200 (k + 1)) 20 d__law_rows.st t__law_rows_0_1 [o0, o1, o2, (some x7), o4, o5] h8 kk) T E) := ⟨fun w => by have z := x__law_rows_0_0 k (mkG T0 200 (k + 1)).call (mkG T0 200 (k + 1)).meth (mkG T0 200 (k + 1)).attr (mkG T0 200 (k + 1)).spec (mkG T0 200 (k + 1)).clm o0 o1 o2 o3 o4 o5 h (fun r h => Bk (mkG T0 200 (k + 1)) 20 d__law_rows.st t__law_rows_0_1 r h kk); rw [Gc_eq] at z; rw [Bk_cons (t' := t__law_rows_0_1) (s := t__law_rows_0_0.headD (.Pass ⟨0, 0, 0, 0⟩)) (by kernel_rfl)]; exact WpR_cg z w⟩
theorem x__law_rows_0_1 (k : Nat) (cl : CL) (me : ME) (at_ : AT_) (sp : SP) (cm : ME) (o0 o1 o2 o3 o4 o5 : Option Vl) (h : Hs) (kk : Env → Hs → Rt) : evSK (Gc k cl me at_ sp cm) 200 20 d__law_rows.st (t__law_rows_0_1.headD (.Pass ⟨0, 0, 0, 0⟩)) [o0, o1, o2, o3, o4, o5] h kk = (((nmO o3 h).bind fun x31 h32 => Rs.ok x31 h32).bind fun x29 h30 => Rs.of (rangeV [x29]) h30).st [o0, o1, o2, o3, o4, o5] fun xs33 h34 => (cM (cf__law_rows_0 (Gc k cl me at_ sp cm) o0 o1 o2 o3 o4 o5) xs33 [] h34).st [o0, o1, o2, o3, o4, o5] fun ys35 h36 => (Rs.of (bltV isaT0 .tuple [(Vl.lst ys35)] h36) h36).st [o0, o1, o2, o3, o4, o5] fun x37 h38 => Rt.ok (.rt x37) [o0, o1, o2, o3, o4, o5] h38 := by kernel_rfl
instance i__law_rows_0_1 {k : Nat} {o0 o1 o2 o3 o4 o5 : Option Vl} {kk : Env → Hs → Rt} : St (WpR (Bk (mkG T0 200 (k + 1)) 20 d__law_rows.st t__law_rows_0_1 [o0, o1, o2, o3, o4, o5] h kk) T E) (WpR ((((nmO o3 h).bind fun x31 h32 => Rs.ok x31 h32).bind fun x29 h30 => Rs.of (rangeV [x29]) h30).st [o0, o1, o2, o3, o4, o5] fun xs33 h34 => (cM (cf__law_rows_0 (mkG T0 200 (k + 1)) o0 o1 o2 o3 o4 o5) xs33 [] h34).st [o0, o1, o2, o3, o4, o5] fun ys35 h36 => (Rs.of (bltV isaT0 .tuple [(Vl.lst ys35)] h36) h36).st [o0, o1, o2, o3, o4, o5] fun x37 h38 => Rt.ok (.rt x37) [o0, o1, o2, o3, o4, o5] h38) T E) := ⟨fun w => by have z := x__law_rows_0_1 k (mkG T0 200 (k + 1)).call (mkG T0 200 (k + 1)).meth (mkG T0 200 (k + 1)).attr (mkG T0 200 (k + 1)).spec (mkG T0 200 (k + 1)).clm o0 o1 o2 o3 o4 o5 h kk; rw [Gc_eq] at z; rw [Bk_one (s := t__law_rows_0_1.headD (.Pass ⟨0, 0, 0, 0⟩)) (by kernel_rfl)]; exact WpR_cg z w⟩
instance u__law_rows {k : Nat} {a0 a1 a2 : Vl} {Q : Vl → Hs → Prop} : Un (Wp (rD (mkG T0 200 (k + 1)) d__law_rows [a0, a1, a2] h) Q E) (WpR (Bk (mkG T0 200 (k + 1)) 20 d__law_rows.st t__law_rows_0_0 [some a0, some a1, some a2, none, none, none] h fun r h => .ok .nx r h) (retQ h Q) (retE h E)) := ⟨fun w => by
  have e : rD (mkG T0 200 (k + 1)) d__law_rows [a0, a1, a2] h = endR h (Bk (mkG T0 200 (k + 1)) 20 d__law_rows.st t__law_rows_0_0 [some a0, some a1, some a2, none, none, none] h fun r h => .ok .nx r h) := by
    unfold rD Bk
    rw [runDef_K rfl]
    kernel_rfl
  rw [e, Wp_endS]; exact w⟩

end
end Wd

set_option Elab.async false
set_option linter.all false
set_option maxRecDepth 100000
set_option maxHeartbeats 400000
namespace Wd
open PySem PySem.Spec PyProof.Rows L2
section
variable {E : Vl → Hs → Prop} {T : Fl → Env → Hs → Prop} {h : Hs} {Q : Option Vl → Hs → Prop}
/-! _law_bent; slots: 0=_law_source_here 1=_law_signs 2=_law_lines 3=_law_way 4=_law_at 5=_law_place 6=_law_row -/
def b__law_bent_0 : List Stmt := d__law_bent.body
def t__law_bent_0_0 : List Stmt := b__law_bent_0.drop 0
def t__law_bent_0_1 : List Stmt := b__law_bent_0.drop 1
def t__law_bent_0_2 : List Stmt := b__law_bent_0.drop 2
def t__law_bent_0_3 : List Stmt := b__law_bent_0.drop 3
def t__law_bent_0_4 : List Stmt := b__law_bent_0.drop 4
def b__law_bent_1 : List Stmt := bodyS (b__law_bent_0.getD 1 (.Pass ⟨0, 0, 0, 0⟩))
def t__law_bent_1_0 : List Stmt := b__law_bent_1.drop 0
def t__law_bent_1_1 : List Stmt := b__law_bent_1.drop 1
def t__law_bent_1_2 : List Stmt := b__law_bent_1.drop 2
def t__law_bent_1_3 : List Stmt := b__law_bent_1.drop 3
def b__law_bent_2 : List Stmt := bodyS (b__law_bent_0.getD 2 (.Pass ⟨0, 0, 0, 0⟩))
def t__law_bent_2_0 : List Stmt := b__law_bent_2.drop 0
def b__law_bent_3 : List Stmt := bodyS (b__law_bent_0.getD 3 (.Pass ⟨0, 0, 0, 0⟩))
def t__law_bent_3_0 : List Stmt := b__law_bent_3.drop 0
def t__law_bent_3_1 : List Stmt := b__law_bent_3.drop 1
theorem x__law_bent_0_0 (k : Nat) (cl : CL) (me : ME) (at_ : AT_) (sp : SP) (cm : ME) (o0 o1 o2 o3 o4 o5 o6 : Option Vl) (h : Hs) (kk : Env → Hs → Rt) : evSK (Gc k cl me at_ sp cm) 200 20 d__law_bent.st (t__law_bent_0_0.headD (.Pass ⟨0, 0, 0, 0⟩)) [o0, o1, o2, o3, o4, o5, o6] h kk = (nmO o0 h).st [o0, o1, o2, o3, o4, o5, o6] fun x1 h2 => (cO (Gc k cl me at_ sp cm) "_law_draw" [x1, (Vl.int 4)] [] [] h2).st [o0, o1, o2, o3, o4, o5, o6] fun x3 h4 => kk [o0, o1, o2, (some x3), o4, o5, o6] h4 := by kernel_rfl
instance i__law_bent_0_0 {k : Nat} {o0 o1 o2 o3 o4 o5 o6 : Option Vl} {kk : Env → Hs → Rt} : St (WpR (Bk (mkG T0 200 (k + 1)) 20 d__law_bent.st t__law_bent_0_0 [o0, o1, o2, o3, o4, o5, o6] h kk) T E) (WpR ((nmO o0 h).st [o0, o1, o2, o3, o4, o5, o6] fun x1 h2 => (cO (mkG T0 200 (k + 1)) "_law_draw" [x1, (Vl.int 4)] [] [] h2).st [o0, o1, o2, o3, o4, o5, o6] fun x3 h4 => Bk (mkG T0 200 (k + 1)) 20 d__law_bent.st t__law_bent_0_1 [o0, o1, o2, (some x3), o4, o5, o6] h4 kk) T E) := ⟨fun w => by have z := x__law_bent_0_0 k (mkG T0 200 (k + 1)).call (mkG T0 200 (k + 1)).meth (mkG T0 200 (k + 1)).attr (mkG T0 200 (k + 1)).spec (mkG T0 200 (k + 1)).clm o0 o1 o2 o3 o4 o5 o6 h (fun r h => Bk (mkG T0 200 (k + 1)) 20 d__law_bent.st t__law_bent_0_1 r h kk); rw [Gc_eq] at z; rw [Bk_cons (t' := t__law_bent_0_1) (s := t__law_bent_0_0.headD (.Pass ⟨0, 0, 0, 0⟩)) (by kernel_rfl)]; exact WpR_cg z w⟩
theorem x__law_bent_0_1 (k : Nat) (cl : CL) (me : ME) (at_ : AT_) (sp : SP) (cm : ME) (o0 o1 o2 o3 o4 o5 o6 : Option Vl) (h : Hs) (kk : Env → Hs → Rt) : evSK (Gc k cl me at_ sp cm) 200 20 d__law_bent.st (t__law_bent_0_1.headD (.Pass ⟨0, 0, 0, 0⟩)) [o0, o1, o2, o3, o4, o5, o6] h kk = (((nmO o3 h).bind fun x103 h104 => (cX (Gc k cl me at_ sp cm) .Eq x103 (Vl.int 0) h104).bind fun x105 h106 => Rs.ok x105 h106).bind fun x101 h102 => boolK .And x101 h102 fun _ => ((nmO o2 h102).bind fun x109 h110 => (cX (Gc k cl me at_ sp cm) .NotEq x109 (Vl.tup []) h110).bind fun x111 h112 => Rs.ok x111 h112).bind fun x107 h108 => boolK .And x107 h108 fun _ => (nmO o1 h108).bind fun x113 h114 => (cX (Gc k cl me at_ sp cm) .NotEq x113 (Vl.tup []) h114).bind fun x115 h116 => Rs.ok x115 h116).st [o0, o1, o2, o3, o4, o5, o6] fun x117 h118 => (testOf h118 x117).st [o0, o1, o2, o3, o4, o5, o6] fun t119 h120 => if t119 then Bk (Gc k cl me at_ sp cm) 19 d__law_bent.st t__law_bent_1_0 [o0, o1, o2, o3, o4, o5, o6] h120 kk else kk [o0, o1, o2, o3, o4, o5, o6] h120 := by kernel_rfl
instance i__law_bent_0_1 {k : Nat} {o0 o1 o2 o3 o4 o5 o6 : Option Vl} {kk : Env → Hs → Rt} : St (WpR (Bk (mkG T0 200 (k + 1)) 20 d__law_bent.st t__law_bent_0_1 [o0, o1, o2, o3, o4, o5, o6] h kk) T E) (WpR ((((nmO o3 h).bind fun x103 h104 => (cX (mkG T0 200 (k + 1)) .Eq x103 (Vl.int 0) h104).bind fun x105 h106 => Rs.ok x105 h106).bind fun x101 h102 => boolK .And x101 h102 fun _ => ((nmO o2 h102).bind fun x109 h110 => (cX (mkG T0 200 (k + 1)) .NotEq x109 (Vl.tup []) h110).bind fun x111 h112 => Rs.ok x111 h112).bind fun x107 h108 => boolK .And x107 h108 fun _ => (nmO o1 h108).bind fun x113 h114 => (cX (mkG T0 200 (k + 1)) .NotEq x113 (Vl.tup []) h114).bind fun x115 h116 => Rs.ok x115 h116).st [o0, o1, o2, o3, o4, o5, o6] fun x117 h118 => (testOf h118 x117).st [o0, o1, o2, o3, o4, o5, o6] fun t119 h120 => if t119 then Bk (mkG T0 200 (k + 1)) 19 d__law_bent.st t__law_bent_1_0 [o0, o1, o2, o3, o4, o5, o6] h120 (fun r h => Bk (mkG T0 200 (k + 1)) 20 d__law_bent.st t__law_bent_0_2 r h kk) else Bk (mkG T0 200 (k + 1)) 20 d__law_bent.st t__law_bent_0_2 [o0, o1, o2, o3, o4, o5, o6] h120 kk) T E) := ⟨fun w => by have z := x__law_bent_0_1 k (mkG T0 200 (k + 1)).call (mkG T0 200 (k + 1)).meth (mkG T0 200 (k + 1)).attr (mkG T0 200 (k + 1)).spec (mkG T0 200 (k + 1)).clm o0 o1 o2 o3 o4 o5 o6 h (fun r h => Bk (mkG T0 200 (k + 1)) 20 d__law_bent.st t__law_bent_0_2 r h kk); rw [Gc_eq] at z; rw [Bk_cons (t' := t__law_bent_0_2) (s := t__law_bent_0_1.headD (.Pass ⟨0, 0, 0, 0⟩)) (by kernel_rfl)]; exact WpR_cg z w⟩
theorem x__law_bent_1_0 (k : Nat) (cl : CL) (me : ME) (at_ : AT_) (sp : SP) (cm : ME) (o0 o1 o2 o3 o4 o5 o6 : Option Vl) (h : Hs) (kk : Env → Hs → Rt) : evSK (Gc k cl me at_ sp cm) 200 19 d__law_bent.st (t__law_bent_1_0.headD (.Pass ⟨0, 0, 0, 0⟩)) [o0, o1, o2, o3, o4, o5, o6] h kk = (nmO o0 h).st [o0, o1, o2, o3, o4, o5, o6] fun x1 h2 => (nmO o2 h2).st [o0, o1, o2, o3, o4, o5, o6] fun x3 h4 => (bO (Gc k cl me at_ sp cm) .len x3 h4).st [o0, o1, o2, o3, o4, o5, o6] fun x5 h6 => (cO (Gc k cl me at_ sp cm) "_law_draw" [x1, x5] [] [] h6).st [o0, o1, o2, o3, o4, o5, o6] fun x7 h8 => (nmO o0 h8).st [o0, o1, o2, o3, o4, o5, o6] fun x9 h10 => (nmO o1 h10).st [o0, o1, o2, o3, o4, o5, o6] fun x11 h12 => (bO (Gc k cl me at_ sp cm) .len x11 h12).st [o0, o1, o2, o3, o4, o5, o6] fun x13 h14 => (cO (Gc k cl me at_ sp cm) "_law_draw" [x9, x13] [] [] h14).st [o0, o1, o2, o3, o4, o5, o6] fun x15 h16 => kk [o0, o1, o2, o3, (some x7), (some x15), o6] h16 := by kernel_rfl
instance i__law_bent_1_0 {k : Nat} {o0 o1 o2 o3 o4 o5 o6 : Option Vl} {kk : Env → Hs → Rt} : St (WpR (Bk (mkG T0 200 (k + 1)) 19 d__law_bent.st t__law_bent_1_0 [o0, o1, o2, o3, o4, o5, o6] h kk) T E) (WpR ((nmO o0 h).st [o0, o1, o2, o3, o4, o5, o6] fun x1 h2 => (nmO o2 h2).st [o0, o1, o2, o3, o4, o5, o6] fun x3 h4 => (bO (mkG T0 200 (k + 1)) .len x3 h4).st [o0, o1, o2, o3, o4, o5, o6] fun x5 h6 => (cO (mkG T0 200 (k + 1)) "_law_draw" [x1, x5] [] [] h6).st [o0, o1, o2, o3, o4, o5, o6] fun x7 h8 => (nmO o0 h8).st [o0, o1, o2, o3, o4, o5, o6] fun x9 h10 => (nmO o1 h10).st [o0, o1, o2, o3, o4, o5, o6] fun x11 h12 => (bO (mkG T0 200 (k + 1)) .len x11 h12).st [o0, o1, o2, o3, o4, o5, o6] fun x13 h14 => (cO (mkG T0 200 (k + 1)) "_law_draw" [x9, x13] [] [] h14).st [o0, o1, o2, o3, o4, o5, o6] fun x15 h16 => Bk (mkG T0 200 (k + 1)) 19 d__law_bent.st t__law_bent_1_1 [o0, o1, o2, o3, (some x7), (some x15), o6] h16 kk) T E) := ⟨fun w => by have z := x__law_bent_1_0 k (mkG T0 200 (k + 1)).call (mkG T0 200 (k + 1)).meth (mkG T0 200 (k + 1)).attr (mkG T0 200 (k + 1)).spec (mkG T0 200 (k + 1)).clm o0 o1 o2 o3 o4 o5 o6 h (fun r h => Bk (mkG T0 200 (k + 1)) 19 d__law_bent.st t__law_bent_1_1 r h kk); rw [Gc_eq] at z; rw [Bk_cons (t' := t__law_bent_1_1) (s := t__law_bent_1_0.headD (.Pass ⟨0, 0, 0, 0⟩)) (by kernel_rfl)]; exact WpR_cg z w⟩
theorem x__law_bent_1_1 (k : Nat) (cl : CL) (me : ME) (at_ : AT_) (sp : SP) (cm : ME) (o0 o1 o2 o3 o4 o5 o6 : Option Vl) (h : Hs) (kk : Env → Hs → Rt) : evSK (Gc k cl me at_ sp cm) 200 19 d__law_bent.st (t__law_bent_1_1.headD (.Pass ⟨0, 0, 0, 0⟩)) [o0, o1, o2, o3, o4, o5, o6] h kk = (nmO o2 h).st [o0, o1, o2, o3, o4, o5, o6] fun x1 h2 => (nmO o4 h2).st [o0, o1, o2, o3, o4, o5, o6] fun x3 h4 => (iX (Gc k cl me at_ sp cm) x1 x3 h4).st [o0, o1, o2, o3, o4, o5, o6] fun x5 h6 => kk [o0, o1, o2, o3, o4, o5, (some x5)] h6 := by kernel_rfl
instance i__law_bent_1_1 {k : Nat} {o0 o1 o2 o3 o4 o5 o6 : Option Vl} {kk : Env → Hs → Rt} : St (WpR (Bk (mkG T0 200 (k + 1)) 19 d__law_bent.st t__law_bent_1_1 [o0, o1, o2, o3, o4, o5, o6] h kk) T E) (WpR ((nmO o2 h).st [o0, o1, o2, o3, o4, o5, o6] fun x1 h2 => (nmO o4 h2).st [o0, o1, o2, o3, o4, o5, o6] fun x3 h4 => (iX (mkG T0 200 (k + 1)) x1 x3 h4).st [o0, o1, o2, o3, o4, o5, o6] fun x5 h6 => Bk (mkG T0 200 (k + 1)) 19 d__law_bent.st t__law_bent_1_2 [o0, o1, o2, o3, o4, o5, (some x5)] h6 kk) T E) := ⟨fun w => by have z := x__law_bent_1_1 k (mkG T0 200 (k + 1)).call (mkG T0 200 (k + 1)).meth (mkG T0 200 (k + 1)).attr (mkG T0 200 (k + 1)).spec (mkG T0 200 (k + 1)).clm o0 o1 o2 o3 o4 o5 o6 h (fun r h => Bk (mkG T0 200 (k + 1)) 19 d__law_bent.st t__law_bent_1_2 r h kk); rw [Gc_eq] at z; rw [Bk_cons (t' := t__law_bent_1_2) (s := t__law_bent_1_1.headD (.Pass ⟨0, 0, 0, 0⟩)) (by kernel_rfl)]; exact WpR_cg z w⟩
theorem x__law_bent_1_2 (k : Nat) (cl : CL) (me : ME) (at_ : AT_) (sp : SP) (cm : ME) (o0 o1 o2 o3 o4 o5 o6 : Option Vl) (h : Hs) (kk : Env → Hs → Rt) : evSK (Gc k cl me at_ sp cm) 200 19 d__law_bent.st (t__law_bent_1_2.headD (.Pass ⟨0, 0, 0, 0⟩)) [o0, o1, o2, o3, o4, o5, o6] h kk = (nmO o6 h).st [o0, o1, o2, o3, o4, o5, o6] fun x1 h2 => (nmO o5 h2).st [o0, o1, o2, o3, o4, o5, o6] fun x3 h4 => (partV x3 h4).st [o0, o1, o2, o3, o4, o5, o6] fun p5 h6 => (Rs.of (sliceV x1 none p5) h6).st [o0, o1, o2, o3, o4, o5, o6] fun x7 h8 => (nmO o6 h8).st [o0, o1, o2, o3, o4, o5, o6] fun x9 h10 => (nmO o5 h10).st [o0, o1, o2, o3, o4, o5, o6] fun x11 h12 => (iX (Gc k cl me at_ sp cm) x9 x11 h12).st [o0, o1, o2, o3, o4, o5, o6] fun x13 h14 => (testOf h14 x13).st [o0, o1, o2, o3, o4, o5, o6] fun b15 h16 => (Rs.of (binV .Add x7 (Vl.tup [(Vl.bl (!b15))])) h16).st [o0, o1, o2, o3, o4, o5, o6] fun x17 h18 => (nmO o6 h18).st [o0, o1, o2, o3, o4, o5, o6] fun x19 h20 => (nmO o5 h20).st [o0, o1, o2, o3, o4, o5, o6] fun x21 h22 => (Rs.of (binV .Add x21 (Vl.int 1)) h22).st [o0, o1, o2, o3, o4, o5, o6] fun x23 h24 => (partV x23 h24).st [o0, o1, o2, o3, o4, o5, o6] fun p25 h26 => (Rs.of (sliceV x19 p25 none) h26).st [o0, o1, o2, o3, o4, o5, o6] fun x27 h28 => (Rs.of (binV .Add x17 x27) h28).st [o0, o1, o2, o3, o4, o5, o6] fun x29 h30 => kk [o0, o1, o2, o3, o4, o5, (some x29)] h30 := by kernel_rfl
instance i__law_bent_1_2 {k : Nat} {o0 o1 o2 o3 o4 o5 o6 : Option Vl} {kk : Env → Hs → Rt} : St (WpR (Bk (mkG T0 200 (k + 1)) 19 d__law_bent.st t__law_bent_1_2 [o0, o1, o2, o3, o4, o5, o6] h kk) T E) (WpR ((nmO o6 h).st [o0, o1, o2, o3, o4, o5, o6] fun x1 h2 => (nmO o5 h2).st [o0, o1, o2, o3, o4, o5, o6] fun x3 h4 => (partV x3 h4).st [o0, o1, o2, o3, o4, o5, o6] fun p5 h6 => (Rs.of (sliceV x1 none p5) h6).st [o0, o1, o2, o3, o4, o5, o6] fun x7 h8 => (nmO o6 h8).st [o0, o1, o2, o3, o4, o5, o6] fun x9 h10 => (nmO o5 h10).st [o0, o1, o2, o3, o4, o5, o6] fun x11 h12 => (iX (mkG T0 200 (k + 1)) x9 x11 h12).st [o0, o1, o2, o3, o4, o5, o6] fun x13 h14 => (testOf h14 x13).st [o0, o1, o2, o3, o4, o5, o6] fun b15 h16 => (Rs.of (binV .Add x7 (Vl.tup [(Vl.bl (!b15))])) h16).st [o0, o1, o2, o3, o4, o5, o6] fun x17 h18 => (nmO o6 h18).st [o0, o1, o2, o3, o4, o5, o6] fun x19 h20 => (nmO o5 h20).st [o0, o1, o2, o3, o4, o5, o6] fun x21 h22 => (Rs.of (binV .Add x21 (Vl.int 1)) h22).st [o0, o1, o2, o3, o4, o5, o6] fun x23 h24 => (partV x23 h24).st [o0, o1, o2, o3, o4, o5, o6] fun p25 h26 => (Rs.of (sliceV x19 p25 none) h26).st [o0, o1, o2, o3, o4, o5, o6] fun x27 h28 => (Rs.of (binV .Add x17 x27) h28).st [o0, o1, o2, o3, o4, o5, o6] fun x29 h30 => Bk (mkG T0 200 (k + 1)) 19 d__law_bent.st t__law_bent_1_3 [o0, o1, o2, o3, o4, o5, (some x29)] h30 kk) T E) := ⟨fun w => by have z := x__law_bent_1_2 k (mkG T0 200 (k + 1)).call (mkG T0 200 (k + 1)).meth (mkG T0 200 (k + 1)).attr (mkG T0 200 (k + 1)).spec (mkG T0 200 (k + 1)).clm o0 o1 o2 o3 o4 o5 o6 h (fun r h => Bk (mkG T0 200 (k + 1)) 19 d__law_bent.st t__law_bent_1_3 r h kk); rw [Gc_eq] at z; rw [Bk_cons (t' := t__law_bent_1_3) (s := t__law_bent_1_2.headD (.Pass ⟨0, 0, 0, 0⟩)) (by kernel_rfl)]; exact WpR_cg z w⟩
theorem x__law_bent_1_3 (k : Nat) (cl : CL) (me : ME) (at_ : AT_) (sp : SP) (cm : ME) (o0 o1 o2 o3 o4 o5 o6 : Option Vl) (h : Hs) (kk : Env → Hs → Rt) : evSK (Gc k cl me at_ sp cm) 200 19 d__law_bent.st (t__law_bent_1_3.headD (.Pass ⟨0, 0, 0, 0⟩)) [o0, o1, o2, o3, o4, o5, o6] h kk = (nmO o1 h).st [o0, o1, o2, o3, o4, o5, o6] fun x1 h2 => (nmO o2 h2).st [o0, o1, o2, o3, o4, o5, o6] fun x3 h4 => (nmO o4 h4).st [o0, o1, o2, o3, o4, o5, o6] fun x5 h6 => (partV x5 h6).st [o0, o1, o2, o3, o4, o5, o6] fun p7 h8 => (Rs.of (sliceV x3 none p7) h8).st [o0, o1, o2, o3, o4, o5, o6] fun x9 h10 => (nmO o6 h10).st [o0, o1, o2, o3, o4, o5, o6] fun x11 h12 => (Rs.of (binV .Add x9 (Vl.tup [x11])) h12).st [o0, o1, o2, o3, o4, o5, o6] fun x13 h14 => (nmO o2 h14).st [o0, o1, o2, o3, o4, o5, o6] fun x15 h16 => (nmO o4 h16).st [o0, o1, o2, o3, o4, o5, o6] fun x17 h18 => (Rs.of (binV .Add x17 (Vl.int 1)) h18).st [o0, o1, o2, o3, o4, o5, o6] fun x19 h20 => (partV x19 h20).st [o0, o1, o2, o3, o4, o5, o6] fun p21 h22 => (Rs.of (sliceV x15 p21 none) h22).st [o0, o1, o2, o3, o4, o5, o6] fun x23 h24 => (Rs.of (binV .Add x13 x23) h24).st [o0, o1, o2, o3, o4, o5, o6] fun x25 h26 => Rt.ok (.rt (Vl.tup [x1, x25])) [o0, o1, o2, o3, o4, o5, o6] h26 := by kernel_rfl
instance i__law_bent_1_3 {k : Nat} {o0 o1 o2 o3 o4 o5 o6 : Option Vl} {kk : Env → Hs → Rt} : St (WpR (Bk (mkG T0 200 (k + 1)) 19 d__law_bent.st t__law_bent_1_3 [o0, o1, o2, o3, o4, o5, o6] h kk) T E) (WpR ((nmO o1 h).st [o0, o1, o2, o3, o4, o5, o6] fun x1 h2 => (nmO o2 h2).st [o0, o1, o2, o3, o4, o5, o6] fun x3 h4 => (nmO o4 h4).st [o0, o1, o2, o3, o4, o5, o6] fun x5 h6 => (partV x5 h6).st [o0, o1, o2, o3, o4, o5, o6] fun p7 h8 => (Rs.of (sliceV x3 none p7) h8).st [o0, o1, o2, o3, o4, o5, o6] fun x9 h10 => (nmO o6 h10).st [o0, o1, o2, o3, o4, o5, o6] fun x11 h12 => (Rs.of (binV .Add x9 (Vl.tup [x11])) h12).st [o0, o1, o2, o3, o4, o5, o6] fun x13 h14 => (nmO o2 h14).st [o0, o1, o2, o3, o4, o5, o6] fun x15 h16 => (nmO o4 h16).st [o0, o1, o2, o3, o4, o5, o6] fun x17 h18 => (Rs.of (binV .Add x17 (Vl.int 1)) h18).st [o0, o1, o2, o3, o4, o5, o6] fun x19 h20 => (partV x19 h20).st [o0, o1, o2, o3, o4, o5, o6] fun p21 h22 => (Rs.of (sliceV x15 p21 none) h22).st [o0, o1, o2, o3, o4, o5, o6] fun x23 h24 => (Rs.of (binV .Add x13 x23) h24).st [o0, o1, o2, o3, o4, o5, o6] fun x25 h26 => Rt.ok (.rt (Vl.tup [x1, x25])) [o0, o1, o2, o3, o4, o5, o6] h26) T E) := ⟨fun w => by have z := x__law_bent_1_3 k (mkG T0 200 (k + 1)).call (mkG T0 200 (k + 1)).meth (mkG T0 200 (k + 1)).attr (mkG T0 200 (k + 1)).spec (mkG T0 200 (k + 1)).clm o0 o1 o2 o3 o4 o5 o6 h kk; rw [Gc_eq] at z; rw [Bk_one (s := t__law_bent_1_3.headD (.Pass ⟨0, 0, 0, 0⟩)) (by kernel_rfl)]; exact WpR_cg z w⟩
theorem x__law_bent_0_2 (k : Nat) (cl : CL) (me : ME) (at_ : AT_) (sp : SP) (cm : ME) (o0 o1 o2 o3 o4 o5 o6 : Option Vl) (h : Hs) (kk : Env → Hs → Rt) : evSK (Gc k cl me at_ sp cm) 200 20 d__law_bent.st (t__law_bent_0_2.headD (.Pass ⟨0, 0, 0, 0⟩)) [o0, o1, o2, o3, o4, o5, o6] h kk = (((nmO o3 h).bind fun x103 h104 => (cX (Gc k cl me at_ sp cm) .Eq x103 (Vl.int 1) h104).bind fun x105 h106 => Rs.ok x105 h106).bind fun x101 h102 => boolK .And x101 h102 fun _ => (nmO o1 h102).bind fun x107 h108 => (bO (Gc k cl me at_ sp cm) .len x107 h108).bind fun x109 h110 => (Rs.of ((cmpV .Gt h110 x109 (Vl.int 1)).map .bl) h110).bind fun x111 h112 => Rs.ok x111 h112).st [o0, o1, o2, o3, o4, o5, o6] fun x113 h114 => (testOf h114 x113).st [o0, o1, o2, o3, o4, o5, o6] fun t115 h116 => if t115 then Bk (Gc k cl me at_ sp cm) 19 d__law_bent.st t__law_bent_2_0 [o0, o1, o2, o3, o4, o5, o6] h116 kk else kk [o0, o1, o2, o3, o4, o5, o6] h116 := by kernel_rfl
instance i__law_bent_0_2 {k : Nat} {o0 o1 o2 o3 o4 o5 o6 : Option Vl} {kk : Env → Hs → Rt} : St (WpR (Bk (mkG T0 200 (k + 1)) 20 d__law_bent.st t__law_bent_0_2 [o0, o1, o2, o3, o4, o5, o6] h kk) T E) (WpR ((((nmO o3 h).bind fun x103 h104 => (cX (mkG T0 200 (k + 1)) .Eq x103 (Vl.int 1) h104).bind fun x105 h106 => Rs.ok x105 h106).bind fun x101 h102 => boolK .And x101 h102 fun _ => (nmO o1 h102).bind fun x107 h108 => (bO (mkG T0 200 (k + 1)) .len x107 h108).bind fun x109 h110 => (Rs.of ((cmpV .Gt h110 x109 (Vl.int 1)).map .bl) h110).bind fun x111 h112 => Rs.ok x111 h112).st [o0, o1, o2, o3, o4, o5, o6] fun x113 h114 => (testOf h114 x113).st [o0, o1, o2, o3, o4, o5, o6] fun t115 h116 => if t115 then Bk (mkG T0 200 (k + 1)) 19 d__law_bent.st t__law_bent_2_0 [o0, o1, o2, o3, o4, o5, o6] h116 (fun r h => Bk (mkG T0 200 (k + 1)) 20 d__law_bent.st t__law_bent_0_3 r h kk) else Bk (mkG T0 200 (k + 1)) 20 d__law_bent.st t__law_bent_0_3 [o0, o1, o2, o3, o4, o5, o6] h116 kk) T E) := ⟨fun w => by have z := x__law_bent_0_2 k (mkG T0 200 (k + 1)).call (mkG T0 200 (k + 1)).meth (mkG T0 200 (k + 1)).attr (mkG T0 200 (k + 1)).spec (mkG T0 200 (k + 1)).clm o0 o1 o2 o3 o4 o5 o6 h (fun r h => Bk (mkG T0 200 (k + 1)) 20 d__law_bent.st t__law_bent_0_3 r h kk); rw [Gc_eq] at z; rw [Bk_cons (t' := t__law_bent_0_3) (s := t__law_bent_0_2.headD (.Pass ⟨0, 0, 0, 0⟩)) (by kernel_rfl)]; exact WpR_cg z w⟩
theorem x__law_bent_2_0 (k : Nat) (cl : CL) (me : ME) (at_ : AT_) (sp : SP) (cm : ME) (o0 o1 o2 o3 o4 o5 o6 : Option Vl) (h : Hs) (kk : Env → Hs → Rt) : evSK (Gc k cl me at_ sp cm) 200 19 d__law_bent.st (t__law_bent_2_0.headD (.Pass ⟨0, 0, 0, 0⟩)) [o0, o1, o2, o3, o4, o5, o6] h kk = (nmO o1 h).st [o0, o1, o2, o3, o4, o5, o6] fun x1 h2 => (Rs.of (sliceV x1 (some 1) none) h2).st [o0, o1, o2, o3, o4, o5, o6] fun x3 h4 => (nmO o1 h4).st [o0, o1, o2, o3, o4, o5, o6] fun x5 h6 => (Rs.of (sliceV x5 none (some 1)) h6).st [o0, o1, o2, o3, o4, o5, o6] fun x7 h8 => (Rs.of (binV .Add x3 x7) h8).st [o0, o1, o2, o3, o4, o5, o6] fun x9 h10 => (nmO o2 h10).st [o0, o1, o2, o3, o4, o5, o6] fun x11 h12 => Rt.ok (.rt (Vl.tup [x9, x11])) [o0, o1, o2, o3, o4, o5, o6] h12 := by kernel_rfl
instance i__law_bent_2_0 {k : Nat} {o0 o1 o2 o3 o4 o5 o6 : Option Vl} {kk : Env → Hs → Rt} : St (WpR (Bk (mkG T0 200 (k + 1)) 19 d__law_bent.st t__law_bent_2_0 [o0, o1, o2, o3, o4, o5, o6] h kk) T E) (WpR ((nmO o1 h).st [o0, o1, o2, o3, o4, o5, o6] fun x1 h2 => (Rs.of (sliceV x1 (some 1) none) h2).st [o0, o1, o2, o3, o4, o5, o6] fun x3 h4 => (nmO o1 h4).st [o0, o1, o2, o3, o4, o5, o6] fun x5 h6 => (Rs.of (sliceV x5 none (some 1)) h6).st [o0, o1, o2, o3, o4, o5, o6] fun x7 h8 => (Rs.of (binV .Add x3 x7) h8).st [o0, o1, o2, o3, o4, o5, o6] fun x9 h10 => (nmO o2 h10).st [o0, o1, o2, o3, o4, o5, o6] fun x11 h12 => Rt.ok (.rt (Vl.tup [x9, x11])) [o0, o1, o2, o3, o4, o5, o6] h12) T E) := ⟨fun w => by have z := x__law_bent_2_0 k (mkG T0 200 (k + 1)).call (mkG T0 200 (k + 1)).meth (mkG T0 200 (k + 1)).attr (mkG T0 200 (k + 1)).spec (mkG T0 200 (k + 1)).clm o0 o1 o2 o3 o4 o5 o6 h kk; rw [Gc_eq] at z; rw [Bk_one (s := t__law_bent_2_0.headD (.Pass ⟨0, 0, 0, 0⟩)) (by kernel_rfl)]; exact WpR_cg z w⟩
theorem x__law_bent_0_3 (k : Nat) (cl : CL) (me : ME) (at_ : AT_) (sp : SP) (cm : ME) (o0 o1 o2 o3 o4 o5 o6 : Option Vl) (h : Hs) (kk : Env → Hs → Rt) : evSK (Gc k cl me at_ sp cm) 200 20 d__law_bent.st (t__law_bent_0_3.headD (.Pass ⟨0, 0, 0, 0⟩)) [o0, o1, o2, o3, o4, o5, o6] h kk = (((nmO o3 h).bind fun x103 h104 => (cX (Gc k cl me at_ sp cm) .Eq x103 (Vl.int 2) h104).bind fun x105 h106 => Rs.ok x105 h106).bind fun x101 h102 => boolK .And x101 h102 fun _ => (nmO o2 h102).bind fun x107 h108 => (cX (Gc k cl me at_ sp cm) .NotEq x107 (Vl.tup []) h108).bind fun x109 h110 => Rs.ok x109 h110).st [o0, o1, o2, o3, o4, o5, o6] fun x111 h112 => (testOf h112 x111).st [o0, o1, o2, o3, o4, o5, o6] fun t113 h114 => if t113 then Bk (Gc k cl me at_ sp cm) 19 d__law_bent.st t__law_bent_3_0 [o0, o1, o2, o3, o4, o5, o6] h114 kk else kk [o0, o1, o2, o3, o4, o5, o6] h114 := by kernel_rfl
instance i__law_bent_0_3 {k : Nat} {o0 o1 o2 o3 o4 o5 o6 : Option Vl} {kk : Env → Hs → Rt} : St (WpR (Bk (mkG T0 200 (k + 1)) 20 d__law_bent.st t__law_bent_0_3 [o0, o1, o2, o3, o4, o5, o6] h kk) T E) (WpR ((((nmO o3 h).bind fun x103 h104 => (cX (mkG T0 200 (k + 1)) .Eq x103 (Vl.int 2) h104).bind fun x105 h106 => Rs.ok x105 h106).bind fun x101 h102 => boolK .And x101 h102 fun _ => (nmO o2 h102).bind fun x107 h108 => (cX (mkG T0 200 (k + 1)) .NotEq x107 (Vl.tup []) h108).bind fun x109 h110 => Rs.ok x109 h110).st [o0, o1, o2, o3, o4, o5, o6] fun x111 h112 => (testOf h112 x111).st [o0, o1, o2, o3, o4, o5, o6] fun t113 h114 => if t113 then Bk (mkG T0 200 (k + 1)) 19 d__law_bent.st t__law_bent_3_0 [o0, o1, o2, o3, o4, o5, o6] h114 (fun r h => Bk (mkG T0 200 (k + 1)) 20 d__law_bent.st t__law_bent_0_4 r h kk) else Bk (mkG T0 200 (k + 1)) 20 d__law_bent.st t__law_bent_0_4 [o0, o1, o2, o3, o4, o5, o6] h114 kk) T E) := ⟨fun w => by have z := x__law_bent_0_3 k (mkG T0 200 (k + 1)).call (mkG T0 200 (k + 1)).meth (mkG T0 200 (k + 1)).attr (mkG T0 200 (k + 1)).spec (mkG T0 200 (k + 1)).clm o0 o1 o2 o3 o4 o5 o6 h (fun r h => Bk (mkG T0 200 (k + 1)) 20 d__law_bent.st t__law_bent_0_4 r h kk); rw [Gc_eq] at z; rw [Bk_cons (t' := t__law_bent_0_4) (s := t__law_bent_0_3.headD (.Pass ⟨0, 0, 0, 0⟩)) (by kernel_rfl)]; exact WpR_cg z w⟩
theorem x__law_bent_3_0 (k : Nat) (cl : CL) (me : ME) (at_ : AT_) (sp : SP) (cm : ME) (o0 o1 o2 o3 o4 o5 o6 : Option Vl) (h : Hs) (kk : Env → Hs → Rt) : evSK (Gc k cl me at_ sp cm) 200 19 d__law_bent.st (t__law_bent_3_0.headD (.Pass ⟨0, 0, 0, 0⟩)) [o0, o1, o2, o3, o4, o5, o6] h kk = (nmO o0 h).st [o0, o1, o2, o3, o4, o5, o6] fun x1 h2 => (nmO o2 h2).st [o0, o1, o2, o3, o4, o5, o6] fun x3 h4 => (bO (Gc k cl me at_ sp cm) .len x3 h4).st [o0, o1, o2, o3, o4, o5, o6] fun x5 h6 => (cO (Gc k cl me at_ sp cm) "_law_draw" [x1, x5] [] [] h6).st [o0, o1, o2, o3, o4, o5, o6] fun x7 h8 => kk [o0, o1, o2, o3, (some x7), o5, o6] h8 := by kernel_rfl
instance i__law_bent_3_0 {k : Nat} {o0 o1 o2 o3 o4 o5 o6 : Option Vl} {kk : Env → Hs → Rt} : St (WpR (Bk (mkG T0 200 (k + 1)) 19 d__law_bent.st t__law_bent_3_0 [o0, o1, o2, o3, o4, o5, o6] h kk) T E) (WpR ((nmO o0 h).st [o0, o1, o2, o3, o4, o5, o6] fun x1 h2 => (nmO o2 h2).st [o0, o1, o2, o3, o4, o5, o6] fun x3 h4 => (bO (mkG T0 200 (k + 1)) .len x3 h4).st [o0, o1, o2, o3, o4, o5, o6] fun x5 h6 => (cO (mkG T0 200 (k + 1)) "_law_draw" [x1, x5] [] [] h6).st [o0, o1, o2, o3, o4, o5, o6] fun x7 h8 => Bk (mkG T0 200 (k + 1)) 19 d__law_bent.st t__law_bent_3_1 [o0, o1, o2, o3, (some x7), o5, o6] h8 kk) T E) := ⟨fun w => by have z := x__law_bent_3_0 k (mkG T0 200 (k + 1)).call (mkG T0 200 (k + 1)).meth (mkG T0 200 (k + 1)).attr (mkG T0 200 (k + 1)).spec (mkG T0 200 (k + 1)).clm o0 o1 o2 o3 o4 o5 o6 h (fun r h => Bk (mkG T0 200 (k + 1)) 19 d__law_bent.st t__law_bent_3_1 r h kk); rw [Gc_eq] at z; rw [Bk_cons (t' := t__law_bent_3_1) (s := t__law_bent_3_0.headD (.Pass ⟨0, 0, 0, 0⟩)) (by kernel_rfl)]; exact WpR_cg z w⟩
theorem x__law_bent_3_1 (k : Nat) (cl : CL) (me : ME) (at_ : AT_) (sp : SP) (cm : ME) (o0 o1 o2 o3 o4 o5 o6 : Option Vl) (h : Hs) (kk : Env → Hs → Rt) : evSK (Gc k cl me at_ sp cm) 200 19 d__law_bent.st (t__law_bent_3_1.headD (.Pass ⟨0, 0, 0, 0⟩)) [o0, o1, o2, o3, o4, o5, o6] h kk = (nmO o1 h).st [o0, o1, o2, o3, o4, o5, o6] fun x1 h2 => (nmO o2 h2).st [o0, o1, o2, o3, o4, o5, o6] fun x3 h4 => (nmO o4 h4).st [o0, o1, o2, o3, o4, o5, o6] fun x5 h6 => (partV x5 h6).st [o0, o1, o2, o3, o4, o5, o6] fun p7 h8 => (Rs.of (sliceV x3 none p7) h8).st [o0, o1, o2, o3, o4, o5, o6] fun x9 h10 => (nmO o2 h10).st [o0, o1, o2, o3, o4, o5, o6] fun x11 h12 => (nmO o4 h12).st [o0, o1, o2, o3, o4, o5, o6] fun x13 h14 => (Rs.of (binV .Add x13 (Vl.int 1)) h14).st [o0, o1, o2, o3, o4, o5, o6] fun x15 h16 => (partV x15 h16).st [o0, o1, o2, o3, o4, o5, o6] fun p17 h18 => (Rs.of (sliceV x11 p17 none) h18).st [o0, o1, o2, o3, o4, o5, o6] fun x19 h20 => (Rs.of (binV .Add x9 x19) h20).st [o0, o1, o2, o3, o4, o5, o6] fun x21 h22 => Rt.ok (.rt (Vl.tup [x1, x21])) [o0, o1, o2, o3, o4, o5, o6] h22 := by kernel_rfl
instance i__law_bent_3_1 {k : Nat} {o0 o1 o2 o3 o4 o5 o6 : Option Vl} {kk : Env → Hs → Rt} : St (WpR (Bk (mkG T0 200 (k + 1)) 19 d__law_bent.st t__law_bent_3_1 [o0, o1, o2, o3, o4, o5, o6] h kk) T E) (WpR ((nmO o1 h).st [o0, o1, o2, o3, o4, o5, o6] fun x1 h2 => (nmO o2 h2).st [o0, o1, o2, o3, o4, o5, o6] fun x3 h4 => (nmO o4 h4).st [o0, o1, o2, o3, o4, o5, o6] fun x5 h6 => (partV x5 h6).st [o0, o1, o2, o3, o4, o5, o6] fun p7 h8 => (Rs.of (sliceV x3 none p7) h8).st [o0, o1, o2, o3, o4, o5, o6] fun x9 h10 => (nmO o2 h10).st [o0, o1, o2, o3, o4, o5, o6] fun x11 h12 => (nmO o4 h12).st [o0, o1, o2, o3, o4, o5, o6] fun x13 h14 => (Rs.of (binV .Add x13 (Vl.int 1)) h14).st [o0, o1, o2, o3, o4, o5, o6] fun x15 h16 => (partV x15 h16).st [o0, o1, o2, o3, o4, o5, o6] fun p17 h18 => (Rs.of (sliceV x11 p17 none) h18).st [o0, o1, o2, o3, o4, o5, o6] fun x19 h20 => (Rs.of (binV .Add x9 x19) h20).st [o0, o1, o2, o3, o4, o5, o6] fun x21 h22 => Rt.ok (.rt (Vl.tup [x1, x21])) [o0, o1, o2, o3, o4, o5, o6] h22) T E) := ⟨fun w => by have z := x__law_bent_3_1 k (mkG T0 200 (k + 1)).call (mkG T0 200 (k + 1)).meth (mkG T0 200 (k + 1)).attr (mkG T0 200 (k + 1)).spec (mkG T0 200 (k + 1)).clm o0 o1 o2 o3 o4 o5 o6 h kk; rw [Gc_eq] at z; rw [Bk_one (s := t__law_bent_3_1.headD (.Pass ⟨0, 0, 0, 0⟩)) (by kernel_rfl)]; exact WpR_cg z w⟩
theorem x__law_bent_0_4 (k : Nat) (cl : CL) (me : ME) (at_ : AT_) (sp : SP) (cm : ME) (o0 o1 o2 o3 o4 o5 o6 : Option Vl) (h : Hs) (kk : Env → Hs → Rt) : evSK (Gc k cl me at_ sp cm) 200 20 d__law_bent.st (t__law_bent_0_4.headD (.Pass ⟨0, 0, 0, 0⟩)) [o0, o1, o2, o3, o4, o5, o6] h kk = (nmO o1 h).st [o0, o1, o2, o3, o4, o5, o6] fun x1 h2 => (nmO o2 h2).st [o0, o1, o2, o3, o4, o5, o6] fun x3 h4 => (nmO o0 h4).st [o0, o1, o2, o3, o4, o5, o6] fun x5 h6 => (cO (Gc k cl me at_ sp cm) "_law_draw" [x5, (Vl.int 2)] [] [] h6).st [o0, o1, o2, o3, o4, o5, o6] fun x7 h8 => (cX (Gc k cl me at_ sp cm) .Eq x7 (Vl.int 0) h8).st [o0, o1, o2, o3, o4, o5, o6] fun x9 h10 => (nmO o1 h10).st [o0, o1, o2, o3, o4, o5, o6] fun x11 h12 => (bO (Gc k cl me at_ sp cm) .len x11 h12).st [o0, o1, o2, o3, o4, o5, o6] fun x13 h14 => (Rs.of (binV .Mult (Vl.tup [x9]) x13) h14).st [o0, o1, o2, o3, o4, o5, o6] fun x15 h16 => (Rs.of (binV .Add x3 (Vl.tup [x15])) h16).st [o0, o1, o2, o3, o4, o5, o6] fun x17 h18 => Rt.ok (.rt (Vl.tup [x1, x17])) [o0, o1, o2, o3, o4, o5, o6] h18 := by kernel_rfl
instance i__law_bent_0_4 {k : Nat} {o0 o1 o2 o3 o4 o5 o6 : Option Vl} {kk : Env → Hs → Rt} : St (WpR (Bk (mkG T0 200 (k + 1)) 20 d__law_bent.st t__law_bent_0_4 [o0, o1, o2, o3, o4, o5, o6] h kk) T E) (WpR ((nmO o1 h).st [o0, o1, o2, o3, o4, o5, o6] fun x1 h2 => (nmO o2 h2).st [o0, o1, o2, o3, o4, o5, o6] fun x3 h4 => (nmO o0 h4).st [o0, o1, o2, o3, o4, o5, o6] fun x5 h6 => (cO (mkG T0 200 (k + 1)) "_law_draw" [x5, (Vl.int 2)] [] [] h6).st [o0, o1, o2, o3, o4, o5, o6] fun x7 h8 => (cX (mkG T0 200 (k + 1)) .Eq x7 (Vl.int 0) h8).st [o0, o1, o2, o3, o4, o5, o6] fun x9 h10 => (nmO o1 h10).st [o0, o1, o2, o3, o4, o5, o6] fun x11 h12 => (bO (mkG T0 200 (k + 1)) .len x11 h12).st [o0, o1, o2, o3, o4, o5, o6] fun x13 h14 => (Rs.of (binV .Mult (Vl.tup [x9]) x13) h14).st [o0, o1, o2, o3, o4, o5, o6] fun x15 h16 => (Rs.of (binV .Add x3 (Vl.tup [x15])) h16).st [o0, o1, o2, o3, o4, o5, o6] fun x17 h18 => Rt.ok (.rt (Vl.tup [x1, x17])) [o0, o1, o2, o3, o4, o5, o6] h18) T E) := ⟨fun w => by have z := x__law_bent_0_4 k (mkG T0 200 (k + 1)).call (mkG T0 200 (k + 1)).meth (mkG T0 200 (k + 1)).attr (mkG T0 200 (k + 1)).spec (mkG T0 200 (k + 1)).clm o0 o1 o2 o3 o4 o5 o6 h kk; rw [Gc_eq] at z; rw [Bk_one (s := t__law_bent_0_4.headD (.Pass ⟨0, 0, 0, 0⟩)) (by kernel_rfl)]; exact WpR_cg z w⟩
instance u__law_bent {k : Nat} {a0 a1 a2 : Vl} {Q : Vl → Hs → Prop} : Un (Wp (rD (mkG T0 200 (k + 1)) d__law_bent [a0, a1, a2] h) Q E) (WpR (Bk (mkG T0 200 (k + 1)) 20 d__law_bent.st t__law_bent_0_0 [some a0, some a1, some a2, none, none, none, none] h fun r h => .ok .nx r h) (retQ h Q) (retE h E)) := ⟨fun w => by
  have e : rD (mkG T0 200 (k + 1)) d__law_bent [a0, a1, a2] h = endR h (Bk (mkG T0 200 (k + 1)) 20 d__law_bent.st t__law_bent_0_0 [some a0, some a1, some a2, none, none, none, none] h fun r h => .ok .nx r h) := by
    unfold rD Bk
    rw [runDef_K rfl]
    kernel_rfl
  rw [e, Wp_endS]; exact w⟩

end
end Wd

set_option Elab.async false
set_option linter.all false
set_option maxRecDepth 100000
set_option maxHeartbeats 400000
namespace Wd
open PySem PySem.Spec PyProof.Rows L2
section
variable {E : Vl → Hs → Prop} {T : Fl → Env → Hs → Prop} {h : Hs} {Q : Option Vl → Hs → Prop}
/-! _law_right; slots: 0=_law_source_here 1=_law_signs 2=_law_lines 3=_law_other_signs 4=_law_other_lines 5=_law_mine 6=_law_twin 7=_law_other 8=_law_world 9=_law_own_signs 10=_law_own_lines 11=_law_odd -/
def b__law_right_0 : List Stmt := d__law_right.body
def t__law_right_0_0 : List Stmt := b__law_right_0.drop 0
def t__law_right_0_1 : List Stmt := b__law_right_0.drop 1
def t__law_right_0_2 : List Stmt := b__law_right_0.drop 2
def t__law_right_0_3 : List Stmt := b__law_right_0.drop 3
def t__law_right_0_4 : List Stmt := b__law_right_0.drop 4
def t__law_right_0_5 : List Stmt := b__law_right_0.drop 5
def t__law_right_0_6 : List Stmt := b__law_right_0.drop 6
def t__law_right_0_7 : List Stmt := b__law_right_0.drop 7
def b__law_right_1 : List Stmt := bodyS (b__law_right_0.getD 4 (.Pass ⟨0, 0, 0, 0⟩))
def t__law_right_1_0 : List Stmt := b__law_right_1.drop 0
def t__law_right_1_1 : List Stmt := b__law_right_1.drop 1
def t__law_right_1_2 : List Stmt := b__law_right_1.drop 2
def b__law_right_2 : List Stmt := bodyS (b__law_right_1.getD 0 (.Pass ⟨0, 0, 0, 0⟩))
def t__law_right_2_0 : List Stmt := b__law_right_2.drop 0
def b__law_right_3 : List Stmt := bodyS (b__law_right_1.getD 1 (.Pass ⟨0, 0, 0, 0⟩))
def t__law_right_3_0 : List Stmt := b__law_right_3.drop 0
def b__law_right_4 : List Stmt := bodyS (b__law_right_1.getD 2 (.Pass ⟨0, 0, 0, 0⟩))
def t__law_right_4_0 : List Stmt := b__law_right_4.drop 0
def b__law_right_5 : List Stmt := bodyS (b__law_right_0.getD 5 (.Pass ⟨0, 0, 0, 0⟩))
def t__law_right_5_0 : List Stmt := b__law_right_5.drop 0
def q__law_right_0 (G : Gt) (v : Vl) (o0 o1 o2 o3 o4 o5 o6 o7 o8 o9 o10 o11 : Option Vl) (h : Hs) (kk : Env → Hs → Rt) : Rt := tupS 2 [fun v9 r10 h11 k => k ((r10).set 3 (some v9)) h11, fun v12 r13 h14 k => k ((r13).set 4 (some v12)) h14] v [o0, o1, o2, o3, o4, o5, o6, o7, o8, o9, o10, o11] h kk
theorem iq__law_right_0 (G : Gt) (u0 u1 : Vl) (o0 o1 o2 o3 o4 o5 o6 o7 o8 o9 o10 o11 : Option Vl) (h : Hs) (kk : Env → Hs → Rt) : q__law_right_0 G (.tup [u0, u1]) o0 o1 o2 o3 o4 o5 o6 o7 o8 o9 o10 o11 h kk = kk [o0, o1, o2, (some u0), (some u1), o5, o6, o7, o8, o9, o10, o11] h := by kernel_rfl
instance {G : Gt} {u0 u1 : Vl} {o0 o1 o2 o3 o4 o5 o6 o7 o8 o9 o10 o11 : Option Vl} {kk : Env → Hs → Rt} : St (WpR (q__law_right_0 G (.tup [u0, u1]) o0 o1 o2 o3 o4 o5 o6 o7 o8 o9 o10 o11 h kk) T E) (WpR (kk [o0, o1, o2, (some u0), (some u1), o5, o6, o7, o8, o9, o10, o11] h) T E) := ⟨fun w => by rw [iq__law_right_0]; exact w⟩
def g__law_right_0 : Vl → Env → Option Env := fun x r => asgP (Pt.tup [Pt.nm 8, Pt.nm 9, Pt.nm 10]) x r
instance {u0 u1 u2 : Vl} {o0 o1 o2 o3 o4 o5 o6 o7 o8 o9 o10 o11 : Option Vl} : Bd (g__law_right_0 (Vl.tup [u0, u1, u2]) [o0, o1, o2, o3, o4, o5, o6, o7, o8, o9, o10, o11]) [o0, o1, o2, o3, o4, o5, o6, o7, (some u0), (some u1), (some u2), o11] := ⟨by kernel_rfl⟩
theorem x__law_right_0_0 (k : Nat) (cl : CL) (me : ME) (at_ : AT_) (sp : SP) (cm : ME) (o0 o1 o2 o3 o4 o5 o6 o7 o8 o9 o10 o11 : Option Vl) (h : Hs) (kk : Env → Hs → Rt) : evSK (Gc k cl me at_ sp cm) 200 20 d__law_right.st (t__law_right_0_0.headD (.Pass ⟨0, 0, 0, 0⟩)) [o0, o1, o2, o3, o4, o5, o6, o7, o8, o9, o10, o11] h kk = (nmO o0 h).st [o0, o1, o2, o3, o4, o5, o6, o7, o8, o9, o10, o11] fun x1 h2 => (cO (Gc k cl me at_ sp cm) "_law_atoms" [x1] [] [] h2).st [o0, o1, o2, o3, o4, o5, o6, o7, o8, o9, o10, o11] fun x3 h4 => kk [o0, (some x3), o2, o3, o4, o5, o6, o7, o8, o9, o10, o11] h4 := by kernel_rfl
instance i__law_right_0_0 {k : Nat} {o0 o1 o2 o3 o4 o5 o6 o7 o8 o9 o10 o11 : Option Vl} {kk : Env → Hs → Rt} : St (WpR (Bk (mkG T0 200 (k + 1)) 20 d__law_right.st t__law_right_0_0 [o0, o1, o2, o3, o4, o5, o6, o7, o8, o9, o10, o11] h kk) T E) (WpR ((nmO o0 h).st [o0, o1, o2, o3, o4, o5, o6, o7, o8, o9, o10, o11] fun x1 h2 => (cO (mkG T0 200 (k + 1)) "_law_atoms" [x1] [] [] h2).st [o0, o1, o2, o3, o4, o5, o6, o7, o8, o9, o10, o11] fun x3 h4 => Bk (mkG T0 200 (k + 1)) 20 d__law_right.st t__law_right_0_1 [o0, (some x3), o2, o3, o4, o5, o6, o7, o8, o9, o10, o11] h4 kk) T E) := ⟨fun w => by have z := x__law_right_0_0 k (mkG T0 200 (k + 1)).call (mkG T0 200 (k + 1)).meth (mkG T0 200 (k + 1)).attr (mkG T0 200 (k + 1)).spec (mkG T0 200 (k + 1)).clm o0 o1 o2 o3 o4 o5 o6 o7 o8 o9 o10 o11 h (fun r h => Bk (mkG T0 200 (k + 1)) 20 d__law_right.st t__law_right_0_1 r h kk); rw [Gc_eq] at z; rw [Bk_cons (t' := t__law_right_0_1) (s := t__law_right_0_0.headD (.Pass ⟨0, 0, 0, 0⟩)) (by kernel_rfl)]; exact WpR_cg z w⟩
theorem x__law_right_0_1 (k : Nat) (cl : CL) (me : ME) (at_ : AT_) (sp : SP) (cm : ME) (o0 o1 o2 o3 o4 o5 o6 o7 o8 o9 o10 o11 : Option Vl) (h : Hs) (kk : Env → Hs → Rt) : evSK (Gc k cl me at_ sp cm) 200 20 d__law_right.st (t__law_right_0_1.headD (.Pass ⟨0, 0, 0, 0⟩)) [o0, o1, o2, o3, o4, o5, o6, o7, o8, o9, o10, o11] h kk = (nmO o0 h).st [o0, o1, o2, o3, o4, o5, o6, o7, o8, o9, o10, o11] fun x1 h2 => (nmO o1 h2).st [o0, o1, o2, o3, o4, o5, o6, o7, o8, o9, o10, o11] fun x3 h4 => (bO (Gc k cl me at_ sp cm) .len x3 h4).st [o0, o1, o2, o3, o4, o5, o6, o7, o8, o9, o10, o11] fun x5 h6 => (cO (Gc k cl me at_ sp cm) "_law_rows" [x1, x5, (Vl.int 10)] [] [] h6).st [o0, o1, o2, o3, o4, o5, o6, o7, o8, o9, o10, o11] fun x7 h8 => kk [o0, o1, (some x7), o3, o4, o5, o6, o7, o8, o9, o10, o11] h8 := by kernel_rfl
instance i__law_right_0_1 {k : Nat} {o0 o1 o2 o3 o4 o5 o6 o7 o8 o9 o10 o11 : Option Vl} {kk : Env → Hs → Rt} : St (WpR (Bk (mkG T0 200 (k + 1)) 20 d__law_right.st t__law_right_0_1 [o0, o1, o2, o3, o4, o5, o6, o7, o8, o9, o10, o11] h kk) T E) (WpR ((nmO o0 h).st [o0, o1, o2, o3, o4, o5, o6, o7, o8, o9, o10, o11] fun x1 h2 => (nmO o1 h2).st [o0, o1, o2, o3, o4, o5, o6, o7, o8, o9, o10, o11] fun x3 h4 => (bO (mkG T0 200 (k + 1)) .len x3 h4).st [o0, o1, o2, o3, o4, o5, o6, o7, o8, o9, o10, o11] fun x5 h6 => (cO (mkG T0 200 (k + 1)) "_law_rows" [x1, x5, (Vl.int 10)] [] [] h6).st [o0, o1, o2, o3, o4, o5, o6, o7, o8, o9, o10, o11] fun x7 h8 => Bk (mkG T0 200 (k + 1)) 20 d__law_right.st t__law_right_0_2 [o0, o1, (some x7), o3, o4, o5, o6, o7, o8, o9, o10, o11] h8 kk) T E) := ⟨fun w => by have z := x__law_right_0_1 k (mkG T0 200 (k + 1)).call (mkG T0 200 (k + 1)).meth (mkG T0 200 (k + 1)).attr (mkG T0 200 (k + 1)).spec (mkG T0 200 (k + 1)).clm o0 o1 o2 o3 o4 o5 o6 o7 o8 o9 o10 o11 h (fun r h => Bk (mkG T0 200 (k + 1)) 20 d__law_right.st t__law_right_0_2 r h kk); rw [Gc_eq] at z; rw [Bk_cons (t' := t__law_right_0_2) (s := t__law_right_0_1.headD (.Pass ⟨0, 0, 0, 0⟩)) (by kernel_rfl)]; exact WpR_cg z w⟩
theorem x__law_right_0_2 (k : Nat) (cl : CL) (me : ME) (at_ : AT_) (sp : SP) (cm : ME) (o0 o1 o2 o3 o4 o5 o6 o7 o8 o9 o10 o11 : Option Vl) (h : Hs) (kk : Env → Hs → Rt) : evSK (Gc k cl me at_ sp cm) 200 20 d__law_right.st (t__law_right_0_2.headD (.Pass ⟨0, 0, 0, 0⟩)) [o0, o1, o2, o3, o4, o5, o6, o7, o8, o9, o10, o11] h kk = (nmO o0 h).st [o0, o1, o2, o3, o4, o5, o6, o7, o8, o9, o10, o11] fun x1 h2 => (nmO o1 h2).st [o0, o1, o2, o3, o4, o5, o6, o7, o8, o9, o10, o11] fun x3 h4 => (nmO o2 h4).st [o0, o1, o2, o3, o4, o5, o6, o7, o8, o9, o10, o11] fun x5 h6 => (cO (Gc k cl me at_ sp cm) "_law_bent" [x1, x3, x5] [] [] h6).st [o0, o1, o2, o3, o4, o5, o6, o7, o8, o9, o10, o11] fun x7 h8 => q__law_right_0 (Gc k cl me at_ sp cm) x7 o0 o1 o2 o3 o4 o5 o6 o7 o8 o9 o10 o11 h8 (kk) := by kernel_rfl
instance i__law_right_0_2 {k : Nat} {o0 o1 o2 o3 o4 o5 o6 o7 o8 o9 o10 o11 : Option Vl} {kk : Env → Hs → Rt} : St (WpR (Bk (mkG T0 200 (k + 1)) 20 d__law_right.st t__law_right_0_2 [o0, o1, o2, o3, o4, o5, o6, o7, o8, o9, o10, o11] h kk) T E) (WpR ((nmO o0 h).st [o0, o1, o2, o3, o4, o5, o6, o7, o8, o9, o10, o11] fun x1 h2 => (nmO o1 h2).st [o0, o1, o2, o3, o4, o5, o6, o7, o8, o9, o10, o11] fun x3 h4 => (nmO o2 h4).st [o0, o1, o2, o3, o4, o5, o6, o7, o8, o9, o10, o11] fun x5 h6 => (cO (mkG T0 200 (k + 1)) "_law_bent" [x1, x3, x5] [] [] h6).st [o0, o1, o2, o3, o4, o5, o6, o7, o8, o9, o10, o11] fun x7 h8 => q__law_right_0 (mkG T0 200 (k + 1)) x7 o0 o1 o2 o3 o4 o5 o6 o7 o8 o9 o10 o11 h8 ((fun r h => Bk (mkG T0 200 (k + 1)) 20 d__law_right.st t__law_right_0_3 r h kk))) T E) := ⟨fun w => by have z := x__law_right_0_2 k (mkG T0 200 (k + 1)).call (mkG T0 200 (k + 1)).meth (mkG T0 200 (k + 1)).attr (mkG T0 200 (k + 1)).spec (mkG T0 200 (k + 1)).clm o0 o1 o2 o3 o4 o5 o6 o7 o8 o9 o10 o11 h (fun r h => Bk (mkG T0 200 (k + 1)) 20 d__law_right.st t__law_right_0_3 r h kk); rw [Gc_eq] at z; rw [Bk_cons (t' := t__law_right_0_3) (s := t__law_right_0_2.headD (.Pass ⟨0, 0, 0, 0⟩)) (by kernel_rfl)]; exact WpR_cg z w⟩
theorem x__law_right_0_3 (k : Nat) (cl : CL) (me : ME) (at_ : AT_) (sp : SP) (cm : ME) (o0 o1 o2 o3 o4 o5 o6 o7 o8 o9 o10 o11 : Option Vl) (h : Hs) (kk : Env → Hs → Rt) : evSK (Gc k cl me at_ sp cm) 200 20 d__law_right.st (t__law_right_0_3.headD (.Pass ⟨0, 0, 0, 0⟩)) [o0, o1, o2, o3, o4, o5, o6, o7, o8, o9, o10, o11] h kk = (nmO o1 h).st [o0, o1, o2, o3, o4, o5, o6, o7, o8, o9, o10, o11] fun x1 h2 => (nmO o2 h2).st [o0, o1, o2, o3, o4, o5, o6, o7, o8, o9, o10, o11] fun x3 h4 => (cO (Gc k cl me at_ sp cm) "World" [x1, x3] [] [] h4).st [o0, o1, o2, o3, o4, o5, o6, o7, o8, o9, o10, o11] fun x5 h6 => (nmO o2 h6).st [o0, o1, o2, o3, o4, o5, o6, o7, o8, o9, o10, o11] fun x7 h8 => (nmO o1 h8).st [o0, o1, o2, o3, o4, o5, o6, o7, o8, o9, o10, o11] fun x9 h10 => (cO (Gc k cl me at_ sp cm) "World" [] ["rows", "atoms"] [x7, x9] h10).st [o0, o1, o2, o3, o4, o5, o6, o7, o8, o9, o10, o11] fun x11 h12 => (nmO o3 h12).st [o0, o1, o2, o3, o4, o5, o6, o7, o8, o9, o10, o11] fun x13 h14 => (nmO o4 h14).st [o0, o1, o2, o3, o4, o5, o6, o7, o8, o9, o10, o11] fun x15 h16 => (cO (Gc k cl me at_ sp cm) "World" [x13, x15] [] [] h16).st [o0, o1, o2, o3, o4, o5, o6, o7, o8, o9, o10, o11] fun x17 h18 => kk [o0, o1, o2, o3, o4, (some x5), (some x11), (some x17), o8, o9, o10, o11] h18 := by kernel_rfl
instance i__law_right_0_3 {k : Nat} {o0 o1 o2 o3 o4 o5 o6 o7 o8 o9 o10 o11 : Option Vl} {kk : Env → Hs → Rt} : St (WpR (Bk (mkG T0 200 (k + 1)) 20 d__law_right.st t__law_right_0_3 [o0, o1, o2, o3, o4, o5, o6, o7, o8, o9, o10, o11] h kk) T E) (WpR ((nmO o1 h).st [o0, o1, o2, o3, o4, o5, o6, o7, o8, o9, o10, o11] fun x1 h2 => (nmO o2 h2).st [o0, o1, o2, o3, o4, o5, o6, o7, o8, o9, o10, o11] fun x3 h4 => (cO (mkG T0 200 (k + 1)) "World" [x1, x3] [] [] h4).st [o0, o1, o2, o3, o4, o5, o6, o7, o8, o9, o10, o11] fun x5 h6 => (nmO o2 h6).st [o0, o1, o2, o3, o4, o5, o6, o7, o8, o9, o10, o11] fun x7 h8 => (nmO o1 h8).st [o0, o1, o2, o3, o4, o5, o6, o7, o8, o9, o10, o11] fun x9 h10 => (cO (mkG T0 200 (k + 1)) "World" [] ["rows", "atoms"] [x7, x9] h10).st [o0, o1, o2, o3, o4, o5, o6, o7, o8, o9, o10, o11] fun x11 h12 => (nmO o3 h12).st [o0, o1, o2, o3, o4, o5, o6, o7, o8, o9, o10, o11] fun x13 h14 => (nmO o4 h14).st [o0, o1, o2, o3, o4, o5, o6, o7, o8, o9, o10, o11] fun x15 h16 => (cO (mkG T0 200 (k + 1)) "World" [x13, x15] [] [] h16).st [o0, o1, o2, o3, o4, o5, o6, o7, o8, o9, o10, o11] fun x17 h18 => Bk (mkG T0 200 (k + 1)) 20 d__law_right.st t__law_right_0_4 [o0, o1, o2, o3, o4, (some x5), (some x11), (some x17), o8, o9, o10, o11] h18 kk) T E) := ⟨fun w => by have z := x__law_right_0_3 k (mkG T0 200 (k + 1)).call (mkG T0 200 (k + 1)).meth (mkG T0 200 (k + 1)).attr (mkG T0 200 (k + 1)).spec (mkG T0 200 (k + 1)).clm o0 o1 o2 o3 o4 o5 o6 o7 o8 o9 o10 o11 h (fun r h => Bk (mkG T0 200 (k + 1)) 20 d__law_right.st t__law_right_0_4 r h kk); rw [Gc_eq] at z; rw [Bk_cons (t' := t__law_right_0_4) (s := t__law_right_0_3.headD (.Pass ⟨0, 0, 0, 0⟩)) (by kernel_rfl)]; exact WpR_cg z w⟩
theorem x__law_right_0_4 (k : Nat) (cl : CL) (me : ME) (at_ : AT_) (sp : SP) (cm : ME) (o0 o1 o2 o3 o4 o5 o6 o7 o8 o9 o10 o11 : Option Vl) (h : Hs) (kk : Env → Hs → Rt) : evSK (Gc k cl me at_ sp cm) 200 20 d__law_right.st (t__law_right_0_4.headD (.Pass ⟨0, 0, 0, 0⟩)) [o0, o1, o2, o3, o4, o5, o6, o7, o8, o9, o10, o11] h kk = (((nmO o5 h).bind fun x105 h106 => (nmO o1 h106).bind fun x107 h108 => (nmO o2 h108).bind fun x109 h110 => (nmO o7 h110).bind fun x111 h112 => (nmO o3 h112).bind fun x113 h114 => (nmO o4 h114).bind fun x115 h116 => (nmO o6 h116).bind fun x117 h118 => (nmO o1 h118).bind fun x119 h120 => (nmO o2 h120).bind fun x121 h122 => Rs.ok (Vl.lst [(Vl.tup [x105, x107, x109]), (Vl.tup [x111, x113, x115]), (Vl.tup [x117, x119, x121])]) h122).bind fun x103 h104 => Rs.of (walkV x103) h104).st [o0, o1, o2, o3, o4, o5, o6, o7, o8, o9, o10, o11] fun xs101 h102 => thenR (fL g__law_right_0 (fun r h => Bk (Gc k cl me at_ sp cm) 19 d__law_right.st t__law_right_1_0 r h (fun r h => .ok .nx r h)) xs101 [o0, o1, o2, o3, o4, o5, o6, o7, o8, o9, o10, o11] h102) (kk) := by kernel_rfl
instance i__law_right_0_4 {k : Nat} {o0 o1 o2 o3 o4 o5 o6 o7 o8 o9 o10 o11 : Option Vl} {kk : Env → Hs → Rt} : St (WpR (Bk (mkG T0 200 (k + 1)) 20 d__law_right.st t__law_right_0_4 [o0, o1, o2, o3, o4, o5, o6, o7, o8, o9, o10, o11] h kk) T E) (WpR ((((nmO o5 h).bind fun x105 h106 => (nmO o1 h106).bind fun x107 h108 => (nmO o2 h108).bind fun x109 h110 => (nmO o7 h110).bind fun x111 h112 => (nmO o3 h112).bind fun x113 h114 => (nmO o4 h114).bind fun x115 h116 => (nmO o6 h116).bind fun x117 h118 => (nmO o1 h118).bind fun x119 h120 => (nmO o2 h120).bind fun x121 h122 => Rs.ok (Vl.lst [(Vl.tup [x105, x107, x109]), (Vl.tup [x111, x113, x115]), (Vl.tup [x117, x119, x121])]) h122).bind fun x103 h104 => Rs.of (walkV x103) h104).st [o0, o1, o2, o3, o4, o5, o6, o7, o8, o9, o10, o11] fun xs101 h102 => thenR (fL g__law_right_0 (fun r h => Bk (mkG T0 200 (k + 1)) 19 d__law_right.st t__law_right_1_0 r h (fun r h => .ok .nx r h)) xs101 [o0, o1, o2, o3, o4, o5, o6, o7, o8, o9, o10, o11] h102) ((fun r h => Bk (mkG T0 200 (k + 1)) 20 d__law_right.st t__law_right_0_5 r h kk))) T E) := ⟨fun w => by have z := x__law_right_0_4 k (mkG T0 200 (k + 1)).call (mkG T0 200 (k + 1)).meth (mkG T0 200 (k + 1)).attr (mkG T0 200 (k + 1)).spec (mkG T0 200 (k + 1)).clm o0 o1 o2 o3 o4 o5 o6 o7 o8 o9 o10 o11 h (fun r h => Bk (mkG T0 200 (k + 1)) 20 d__law_right.st t__law_right_0_5 r h kk); rw [Gc_eq] at z; rw [Bk_cons (t' := t__law_right_0_5) (s := t__law_right_0_4.headD (.Pass ⟨0, 0, 0, 0⟩)) (by kernel_rfl)]; exact WpR_cg z w⟩
theorem x__law_right_1_0 (k : Nat) (cl : CL) (me : ME) (at_ : AT_) (sp : SP) (cm : ME) (o0 o1 o2 o3 o4 o5 o6 o7 o8 o9 o10 o11 : Option Vl) (h : Hs) (kk : Env → Hs → Rt) : evSK (Gc k cl me at_ sp cm) 200 19 d__law_right.st (t__law_right_1_0.headD (.Pass ⟨0, 0, 0, 0⟩)) [o0, o1, o2, o3, o4, o5, o6, o7, o8, o9, o10, o11] h kk = (nmO o8 h).st [o0, o1, o2, o3, o4, o5, o6, o7, o8, o9, o10, o11] fun x101 h102 => (aV (Gc k cl me at_ sp cm) x101 "atoms" h102).st [o0, o1, o2, o3, o4, o5, o6, o7, o8, o9, o10, o11] fun x103 h104 => (bO (Gc k cl me at_ sp cm) .repr x103 h104).st [o0, o1, o2, o3, o4, o5, o6, o7, o8, o9, o10, o11] fun x105 h106 => (nmO o8 h106).st [o0, o1, o2, o3, o4, o5, o6, o7, o8, o9, o10, o11] fun x107 h108 => (aV (Gc k cl me at_ sp cm) x107 "rows" h108).st [o0, o1, o2, o3, o4, o5, o6, o7, o8, o9, o10, o11] fun x109 h110 => (bO (Gc k cl me at_ sp cm) .repr x109 h110).st [o0, o1, o2, o3, o4, o5, o6, o7, o8, o9, o10, o11] fun x111 h112 => (nmO o9 h112).st [o0, o1, o2, o3, o4, o5, o6, o7, o8, o9, o10, o11] fun x113 h114 => (bO (Gc k cl me at_ sp cm) .repr x113 h114).st [o0, o1, o2, o3, o4, o5, o6, o7, o8, o9, o10, o11] fun x115 h116 => (nmO o10 h116).st [o0, o1, o2, o3, o4, o5, o6, o7, o8, o9, o10, o11] fun x117 h118 => (bO (Gc k cl me at_ sp cm) .repr x117 h118).st [o0, o1, o2, o3, o4, o5, o6, o7, o8, o9, o10, o11] fun x119 h120 => (cX (Gc k cl me at_ sp cm) .NotEq (Vl.lst [x105, x111]) (Vl.lst [x115, x119]) h120).st [o0, o1, o2, o3, o4, o5, o6, o7, o8, o9, o10, o11] fun x121 h122 => (testOf h122 x121).st [o0, o1, o2, o3, o4, o5, o6, o7, o8, o9, o10, o11] fun t123 h124 => if t123 then Bk (Gc k cl me at_ sp cm) 18 d__law_right.st t__law_right_2_0 [o0, o1, o2, o3, o4, o5, o6, o7, o8, o9, o10, o11] h124 kk else kk [o0, o1, o2, o3, o4, o5, o6, o7, o8, o9, o10, o11] h124 := by kernel_rfl
instance i__law_right_1_0 {k : Nat} {o0 o1 o2 o3 o4 o5 o6 o7 o8 o9 o10 o11 : Option Vl} {kk : Env → Hs → Rt} : St (WpR (Bk (mkG T0 200 (k + 1)) 19 d__law_right.st t__law_right_1_0 [o0, o1, o2, o3, o4, o5, o6, o7, o8, o9, o10, o11] h kk) T E) (WpR ((nmO o8 h).st [o0, o1, o2, o3, o4, o5, o6, o7, o8, o9, o10, o11] fun x101 h102 => (aV (mkG T0 200 (k + 1)) x101 "atoms" h102).st [o0, o1, o2, o3, o4, o5, o6, o7, o8, o9, o10, o11] fun x103 h104 => (bO (mkG T0 200 (k + 1)) .repr x103 h104).st [o0, o1, o2, o3, o4, o5, o6, o7, o8, o9, o10, o11] fun x105 h106 => (nmO o8 h106).st [o0, o1, o2, o3, o4, o5, o6, o7, o8, o9, o10, o11] fun x107 h108 => (aV (mkG T0 200 (k + 1)) x107 "rows" h108).st [o0, o1, o2, o3, o4, o5, o6, o7, o8, o9, o10, o11] fun x109 h110 => (bO (mkG T0 200 (k + 1)) .repr x109 h110).st [o0, o1, o2, o3, o4, o5, o6, o7, o8, o9, o10, o11] fun x111 h112 => (nmO o9 h112).st [o0, o1, o2, o3, o4, o5, o6, o7, o8, o9, o10, o11] fun x113 h114 => (bO (mkG T0 200 (k + 1)) .repr x113 h114).st [o0, o1, o2, o3, o4, o5, o6, o7, o8, o9, o10, o11] fun x115 h116 => (nmO o10 h116).st [o0, o1, o2, o3, o4, o5, o6, o7, o8, o9, o10, o11] fun x117 h118 => (bO (mkG T0 200 (k + 1)) .repr x117 h118).st [o0, o1, o2, o3, o4, o5, o6, o7, o8, o9, o10, o11] fun x119 h120 => (cX (mkG T0 200 (k + 1)) .NotEq (Vl.lst [x105, x111]) (Vl.lst [x115, x119]) h120).st [o0, o1, o2, o3, o4, o5, o6, o7, o8, o9, o10, o11] fun x121 h122 => (testOf h122 x121).st [o0, o1, o2, o3, o4, o5, o6, o7, o8, o9, o10, o11] fun t123 h124 => if t123 then Bk (mkG T0 200 (k + 1)) 18 d__law_right.st t__law_right_2_0 [o0, o1, o2, o3, o4, o5, o6, o7, o8, o9, o10, o11] h124 (fun r h => Bk (mkG T0 200 (k + 1)) 19 d__law_right.st t__law_right_1_1 r h kk) else Bk (mkG T0 200 (k + 1)) 19 d__law_right.st t__law_right_1_1 [o0, o1, o2, o3, o4, o5, o6, o7, o8, o9, o10, o11] h124 kk) T E) := ⟨fun w => by have z := x__law_right_1_0 k (mkG T0 200 (k + 1)).call (mkG T0 200 (k + 1)).meth (mkG T0 200 (k + 1)).attr (mkG T0 200 (k + 1)).spec (mkG T0 200 (k + 1)).clm o0 o1 o2 o3 o4 o5 o6 o7 o8 o9 o10 o11 h (fun r h => Bk (mkG T0 200 (k + 1)) 19 d__law_right.st t__law_right_1_1 r h kk); rw [Gc_eq] at z; rw [Bk_cons (t' := t__law_right_1_1) (s := t__law_right_1_0.headD (.Pass ⟨0, 0, 0, 0⟩)) (by kernel_rfl)]; exact WpR_cg z w⟩
theorem x__law_right_2_0 (k : Nat) (cl : CL) (me : ME) (at_ : AT_) (sp : SP) (cm : ME) (o0 o1 o2 o3 o4 o5 o6 o7 o8 o9 o10 o11 : Option Vl) (h : Hs) (kk : Env → Hs → Rt) : evSK (Gc k cl me at_ sp cm) 200 18 d__law_right.st (t__law_right_2_0.headD (.Pass ⟨0, 0, 0, 0⟩)) [o0, o1, o2, o3, o4, o5, o6, o7, o8, o9, o10, o11] h kk = Rt.ok (.rt (Vl.bl false)) [o0, o1, o2, o3, o4, o5, o6, o7, o8, o9, o10, o11] h := by kernel_rfl
instance i__law_right_2_0 {k : Nat} {o0 o1 o2 o3 o4 o5 o6 o7 o8 o9 o10 o11 : Option Vl} {kk : Env → Hs → Rt} : St (WpR (Bk (mkG T0 200 (k + 1)) 18 d__law_right.st t__law_right_2_0 [o0, o1, o2, o3, o4, o5, o6, o7, o8, o9, o10, o11] h kk) T E) (WpR (Rt.ok (.rt (Vl.bl false)) [o0, o1, o2, o3, o4, o5, o6, o7, o8, o9, o10, o11] h) T E) := ⟨fun w => by have z := x__law_right_2_0 k (mkG T0 200 (k + 1)).call (mkG T0 200 (k + 1)).meth (mkG T0 200 (k + 1)).attr (mkG T0 200 (k + 1)).spec (mkG T0 200 (k + 1)).clm o0 o1 o2 o3 o4 o5 o6 o7 o8 o9 o10 o11 h kk; rw [Gc_eq] at z; rw [Bk_one (s := t__law_right_2_0.headD (.Pass ⟨0, 0, 0, 0⟩)) (by kernel_rfl)]; exact WpR_cg z w⟩
theorem x__law_right_1_1 (k : Nat) (cl : CL) (me : ME) (at_ : AT_) (sp : SP) (cm : ME) (o0 o1 o2 o3 o4 o5 o6 o7 o8 o9 o10 o11 : Option Vl) (h : Hs) (kk : Env → Hs → Rt) : evSK (Gc k cl me at_ sp cm) 200 19 d__law_right.st (t__law_right_1_1.headD (.Pass ⟨0, 0, 0, 0⟩)) [o0, o1, o2, o3, o4, o5, o6, o7, o8, o9, o10, o11] h kk = (((nmO o8 h).bind fun x103 h104 => (bO (Gc k cl me at_ sp cm) .len x103 h104).bind fun x105 h106 => (nmO o10 h106).bind fun x107 h108 => (bO (Gc k cl me at_ sp cm) .len x107 h108).bind fun x109 h110 => (cX (Gc k cl me at_ sp cm) .NotEq x105 x109 h110).bind fun x111 h112 => Rs.ok x111 h112).bind fun x101 h102 => boolK .Or x101 h102 fun _ => (nmO o8 h102).bind fun x113 h114 => (bO (Gc k cl me at_ sp cm) .bool x113 h114).bind fun x115 h116 => (nmO o10 h116).bind fun x117 h118 => (cX (Gc k cl me at_ sp cm) .NotEq x117 (Vl.tup []) h118).bind fun x119 h120 => (cX (Gc k cl me at_ sp cm) .NotEq x115 x119 h120).bind fun x121 h122 => Rs.ok x121 h122).st [o0, o1, o2, o3, o4, o5, o6, o7, o8, o9, o10, o11] fun x123 h124 => (testOf h124 x123).st [o0, o1, o2, o3, o4, o5, o6, o7, o8, o9, o10, o11] fun t125 h126 => if t125 then Bk (Gc k cl me at_ sp cm) 18 d__law_right.st t__law_right_3_0 [o0, o1, o2, o3, o4, o5, o6, o7, o8, o9, o10, o11] h126 kk else kk [o0, o1, o2, o3, o4, o5, o6, o7, o8, o9, o10, o11] h126 := by kernel_rfl
instance i__law_right_1_1 {k : Nat} {o0 o1 o2 o3 o4 o5 o6 o7 o8 o9 o10 o11 : Option Vl} {kk : Env → Hs → Rt} : St (WpR (Bk (mkG T0 200 (k + 1)) 19 d__law_right.st t__law_right_1_1 [o0, o1, o2, o3, o4, o5, o6, o7, o8, o9, o10, o11] h kk) T E) (WpR ((((nmO o8 h).bind fun x103 h104 => (bO (mkG T0 200 (k + 1)) .len x103 h104).bind fun x105 h106 => (nmO o10 h106).bind fun x107 h108 => (bO (mkG T0 200 (k + 1)) .len x107 h108).bind fun x109 h110 => (cX (mkG T0 200 (k + 1)) .NotEq x105 x109 h110).bind fun x111 h112 => Rs.ok x111 h112).bind fun x101 h102 => boolK .Or x101 h102 fun _ => (nmO o8 h102).bind fun x113 h114 => (bO (mkG T0 200 (k + 1)) .bool x113 h114).bind fun x115 h116 => (nmO o10 h116).bind fun x117 h118 => (cX (mkG T0 200 (k + 1)) .NotEq x117 (Vl.tup []) h118).bind fun x119 h120 => (cX (mkG T0 200 (k + 1)) .NotEq x115 x119 h120).bind fun x121 h122 => Rs.ok x121 h122).st [o0, o1, o2, o3, o4, o5, o6, o7, o8, o9, o10, o11] fun x123 h124 => (testOf h124 x123).st [o0, o1, o2, o3, o4, o5, o6, o7, o8, o9, o10, o11] fun t125 h126 => if t125 then Bk (mkG T0 200 (k + 1)) 18 d__law_right.st t__law_right_3_0 [o0, o1, o2, o3, o4, o5, o6, o7, o8, o9, o10, o11] h126 (fun r h => Bk (mkG T0 200 (k + 1)) 19 d__law_right.st t__law_right_1_2 r h kk) else Bk (mkG T0 200 (k + 1)) 19 d__law_right.st t__law_right_1_2 [o0, o1, o2, o3, o4, o5, o6, o7, o8, o9, o10, o11] h126 kk) T E) := ⟨fun w => by have z := x__law_right_1_1 k (mkG T0 200 (k + 1)).call (mkG T0 200 (k + 1)).meth (mkG T0 200 (k + 1)).attr (mkG T0 200 (k + 1)).spec (mkG T0 200 (k + 1)).clm o0 o1 o2 o3 o4 o5 o6 o7 o8 o9 o10 o11 h (fun r h => Bk (mkG T0 200 (k + 1)) 19 d__law_right.st t__law_right_1_2 r h kk); rw [Gc_eq] at z; rw [Bk_cons (t' := t__law_right_1_2) (s := t__law_right_1_1.headD (.Pass ⟨0, 0, 0, 0⟩)) (by kernel_rfl)]; exact WpR_cg z w⟩
theorem x__law_right_3_0 (k : Nat) (cl : CL) (me : ME) (at_ : AT_) (sp : SP) (cm : ME) (o0 o1 o2 o3 o4 o5 o6 o7 o8 o9 o10 o11 : Option Vl) (h : Hs) (kk : Env → Hs → Rt) : evSK (Gc k cl me at_ sp cm) 200 18 d__law_right.st (t__law_right_3_0.headD (.Pass ⟨0, 0, 0, 0⟩)) [o0, o1, o2, o3, o4, o5, o6, o7, o8, o9, o10, o11] h kk = Rt.ok (.rt (Vl.bl false)) [o0, o1, o2, o3, o4, o5, o6, o7, o8, o9, o10, o11] h := by kernel_rfl
instance i__law_right_3_0 {k : Nat} {o0 o1 o2 o3 o4 o5 o6 o7 o8 o9 o10 o11 : Option Vl} {kk : Env → Hs → Rt} : St (WpR (Bk (mkG T0 200 (k + 1)) 18 d__law_right.st t__law_right_3_0 [o0, o1, o2, o3, o4, o5, o6, o7, o8, o9, o10, o11] h kk) T E) (WpR (Rt.ok (.rt (Vl.bl false)) [o0, o1, o2, o3, o4, o5, o6, o7, o8, o9, o10, o11] h) T E) := ⟨fun w => by have z := x__law_right_3_0 k (mkG T0 200 (k + 1)).call (mkG T0 200 (k + 1)).meth (mkG T0 200 (k + 1)).attr (mkG T0 200 (k + 1)).spec (mkG T0 200 (k + 1)).clm o0 o1 o2 o3 o4 o5 o6 o7 o8 o9 o10 o11 h kk; rw [Gc_eq] at z; rw [Bk_one (s := t__law_right_3_0.headD (.Pass ⟨0, 0, 0, 0⟩)) (by kernel_rfl)]; exact WpR_cg z w⟩
theorem x__law_right_1_2 (k : Nat) (cl : CL) (me : ME) (at_ : AT_) (sp : SP) (cm : ME) (o0 o1 o2 o3 o4 o5 o6 o7 o8 o9 o10 o11 : Option Vl) (h : Hs) (kk : Env → Hs → Rt) : evSK (Gc k cl me at_ sp cm) 200 19 d__law_right.st (t__law_right_1_2.headD (.Pass ⟨0, 0, 0, 0⟩)) [o0, o1, o2, o3, o4, o5, o6, o7, o8, o9, o10, o11] h kk = (nmO o8 h).st [o0, o1, o2, o3, o4, o5, o6, o7, o8, o9, o10, o11] fun x101 h102 => (bO (Gc k cl me at_ sp cm) .repr x101 h102).st [o0, o1, o2, o3, o4, o5, o6, o7, o8, o9, o10, o11] fun x103 h104 => (nmO o9 h104).st [o0, o1, o2, o3, o4, o5, o6, o7, o8, o9, o10, o11] fun x105 h106 => (bO (Gc k cl me at_ sp cm) .repr x105 h106).st [o0, o1, o2, o3, o4, o5, o6, o7, o8, o9, o10, o11] fun x107 h108 => (Rs.of (binV .Add (Vl.str "World(") x107) h108).st [o0, o1, o2, o3, o4, o5, o6, o7, o8, o9, o10, o11] fun x109 h110 => (Rs.of (binV .Add x109 (Vl.str ", ")) h110).st [o0, o1, o2, o3, o4, o5, o6, o7, o8, o9, o10, o11] fun x111 h112 => (nmO o10 h112).st [o0, o1, o2, o3, o4, o5, o6, o7, o8, o9, o10, o11] fun x113 h114 => (bO (Gc k cl me at_ sp cm) .repr x113 h114).st [o0, o1, o2, o3, o4, o5, o6, o7, o8, o9, o10, o11] fun x115 h116 => (Rs.of (binV .Add x111 x115) h116).st [o0, o1, o2, o3, o4, o5, o6, o7, o8, o9, o10, o11] fun x117 h118 => (Rs.of (binV .Add x117 (Vl.str ")")) h118).st [o0, o1, o2, o3, o4, o5, o6, o7, o8, o9, o10, o11] fun x119 h120 => (cX (Gc k cl me at_ sp cm) .NotEq x103 x119 h120).st [o0, o1, o2, o3, o4, o5, o6, o7, o8, o9, o10, o11] fun x121 h122 => (testOf h122 x121).st [o0, o1, o2, o3, o4, o5, o6, o7, o8, o9, o10, o11] fun t123 h124 => if t123 then Bk (Gc k cl me at_ sp cm) 18 d__law_right.st t__law_right_4_0 [o0, o1, o2, o3, o4, o5, o6, o7, o8, o9, o10, o11] h124 kk else kk [o0, o1, o2, o3, o4, o5, o6, o7, o8, o9, o10, o11] h124 := by kernel_rfl
instance i__law_right_1_2 {k : Nat} {o0 o1 o2 o3 o4 o5 o6 o7 o8 o9 o10 o11 : Option Vl} {kk : Env → Hs → Rt} : St (WpR (Bk (mkG T0 200 (k + 1)) 19 d__law_right.st t__law_right_1_2 [o0, o1, o2, o3, o4, o5, o6, o7, o8, o9, o10, o11] h kk) T E) (WpR ((nmO o8 h).st [o0, o1, o2, o3, o4, o5, o6, o7, o8, o9, o10, o11] fun x101 h102 => (bO (mkG T0 200 (k + 1)) .repr x101 h102).st [o0, o1, o2, o3, o4, o5, o6, o7, o8, o9, o10, o11] fun x103 h104 => (nmO o9 h104).st [o0, o1, o2, o3, o4, o5, o6, o7, o8, o9, o10, o11] fun x105 h106 => (bO (mkG T0 200 (k + 1)) .repr x105 h106).st [o0, o1, o2, o3, o4, o5, o6, o7, o8, o9, o10, o11] fun x107 h108 => (Rs.of (binV .Add (Vl.str "World(") x107) h108).st [o0, o1, o2, o3, o4, o5, o6, o7, o8, o9, o10, o11] fun x109 h110 => (Rs.of (binV .Add x109 (Vl.str ", ")) h110).st [o0, o1, o2, o3, o4, o5, o6, o7, o8, o9, o10, o11] fun x111 h112 => (nmO o10 h112).st [o0, o1, o2, o3, o4, o5, o6, o7, o8, o9, o10, o11] fun x113 h114 => (bO (mkG T0 200 (k + 1)) .repr x113 h114).st [o0, o1, o2, o3, o4, o5, o6, o7, o8, o9, o10, o11] fun x115 h116 => (Rs.of (binV .Add x111 x115) h116).st [o0, o1, o2, o3, o4, o5, o6, o7, o8, o9, o10, o11] fun x117 h118 => (Rs.of (binV .Add x117 (Vl.str ")")) h118).st [o0, o1, o2, o3, o4, o5, o6, o7, o8, o9, o10, o11] fun x119 h120 => (cX (mkG T0 200 (k + 1)) .NotEq x103 x119 h120).st [o0, o1, o2, o3, o4, o5, o6, o7, o8, o9, o10, o11] fun x121 h122 => (testOf h122 x121).st [o0, o1, o2, o3, o4, o5, o6, o7, o8, o9, o10, o11] fun t123 h124 => if t123 then Bk (mkG T0 200 (k + 1)) 18 d__law_right.st t__law_right_4_0 [o0, o1, o2, o3, o4, o5, o6, o7, o8, o9, o10, o11] h124 kk else kk [o0, o1, o2, o3, o4, o5, o6, o7, o8, o9, o10, o11] h124) T E) := ⟨fun w => by have z := x__law_right_1_2 k (mkG T0 200 (k + 1)).call (mkG T0 200 (k + 1)).meth (mkG T0 200 (k + 1)).attr (mkG T0 200 (k + 1)).spec (mkG T0 200 (k + 1)).clm o0 o1 o2 o3 o4 o5 o6 o7 o8 o9 o10 o11 h kk; rw [Gc_eq] at z; rw [Bk_one (s := t__law_right_1_2.headD (.Pass ⟨0, 0, 0, 0⟩)) (by kernel_rfl)]; exact WpR_cg z w⟩
theorem x__law_right_4_0 (k : Nat) (cl : CL) (me : ME) (at_ : AT_) (sp : SP) (cm : ME) (o0 o1 o2 o3 o4 o5 o6 o7 o8 o9 o10 o11 : Option Vl) (h : Hs) (kk : Env → Hs → Rt) : evSK (Gc k cl me at_ sp cm) 200 18 d__law_right.st (t__law_right_4_0.headD (.Pass ⟨0, 0, 0, 0⟩)) [o0, o1, o2, o3, o4, o5, o6, o7, o8, o9, o10, o11] h kk = Rt.ok (.rt (Vl.bl false)) [o0, o1, o2, o3, o4, o5, o6, o7, o8, o9, o10, o11] h := by kernel_rfl
instance i__law_right_4_0 {k : Nat} {o0 o1 o2 o3 o4 o5 o6 o7 o8 o9 o10 o11 : Option Vl} {kk : Env → Hs → Rt} : St (WpR (Bk (mkG T0 200 (k + 1)) 18 d__law_right.st t__law_right_4_0 [o0, o1, o2, o3, o4, o5, o6, o7, o8, o9, o10, o11] h kk) T E) (WpR (Rt.ok (.rt (Vl.bl false)) [o0, o1, o2, o3, o4, o5, o6, o7, o8, o9, o10, o11] h) T E) := ⟨fun w => by have z := x__law_right_4_0 k (mkG T0 200 (k + 1)).call (mkG T0 200 (k + 1)).meth (mkG T0 200 (k + 1)).attr (mkG T0 200 (k + 1)).spec (mkG T0 200 (k + 1)).clm o0 o1 o2 o3 o4 o5 o6 o7 o8 o9 o10 o11 h kk; rw [Gc_eq] at z; rw [Bk_one (s := t__law_right_4_0.headD (.Pass ⟨0, 0, 0, 0⟩)) (by kernel_rfl)]; exact WpR_cg z w⟩
theorem x__law_right_0_5 (k : Nat) (cl : CL) (me : ME) (at_ : AT_) (sp : SP) (cm : ME) (o0 o1 o2 o3 o4 o5 o6 o7 o8 o9 o10 o11 : Option Vl) (h : Hs) (kk : Env → Hs → Rt) : evSK (Gc k cl me at_ sp cm) 200 20 d__law_right.st (t__law_right_0_5.headD (.Pass ⟨0, 0, 0, 0⟩)) [o0, o1, o2, o3, o4, o5, o6, o7, o8, o9, o10, o11] h kk = (((nmO o5 h).bind fun x103 h104 => (nmO o6 h104).bind fun x105 h106 => (cX (Gc k cl me at_ sp cm) .Eq x103 x105 h106).bind fun x107 h108 => (testOf h108 x107).bind fun b109 h110 => Rs.ok (Vl.bl (!b109)) h110).bind fun x101 h102 => boolK .Or x101 h102 fun _ => ((nmO o5 h102).bind fun x113 h114 => (nmO o6 h114).bind fun x115 h116 => (cX (Gc k cl me at_ sp cm) .NotEq x113 x115 h116).bind fun x117 h118 => Rs.ok x117 h118).bind fun x111 h112 => boolK .Or x111 h112 fun _ => ((nmO o5 h112).bind fun x121 h122 => (nmO o7 h122).bind fun x123 h124 => (cX (Gc k cl me at_ sp cm) .Eq x121 x123 h124).bind fun x125 h126 => Rs.ok x125 h126).bind fun x119 h120 => boolK .Or x119 h120 fun _ => (nmO o7 h120).bind fun x127 h128 => (nmO o5 h128).bind fun x129 h130 => (cX (Gc k cl me at_ sp cm) .NotEq x127 x129 h130).bind fun x131 h132 => (testOf h132 x131).bind fun b133 h134 => Rs.ok (Vl.bl (!b133)) h134).st [o0, o1, o2, o3, o4, o5, o6, o7, o8, o9, o10, o11] fun x135 h136 => (testOf h136 x135).st [o0, o1, o2, o3, o4, o5, o6, o7, o8, o9, o10, o11] fun t137 h138 => if t137 then Bk (Gc k cl me at_ sp cm) 19 d__law_right.st t__law_right_5_0 [o0, o1, o2, o3, o4, o5, o6, o7, o8, o9, o10, o11] h138 kk else kk [o0, o1, o2, o3, o4, o5, o6, o7, o8, o9, o10, o11] h138 := by kernel_rfl
instance i__law_right_0_5 {k : Nat} {o0 o1 o2 o3 o4 o5 o6 o7 o8 o9 o10 o11 : Option Vl} {kk : Env → Hs → Rt} : St (WpR (Bk (mkG T0 200 (k + 1)) 20 d__law_right.st t__law_right_0_5 [o0, o1, o2, o3, o4, o5, o6, o7, o8, o9, o10, o11] h kk) T E) (WpR ((((nmO o5 h).bind fun x103 h104 => (nmO o6 h104).bind fun x105 h106 => (cX (mkG T0 200 (k + 1)) .Eq x103 x105 h106).bind fun x107 h108 => (testOf h108 x107).bind fun b109 h110 => Rs.ok (Vl.bl (!b109)) h110).bind fun x101 h102 => boolK .Or x101 h102 fun _ => ((nmO o5 h102).bind fun x113 h114 => (nmO o6 h114).bind fun x115 h116 => (cX (mkG T0 200 (k + 1)) .NotEq x113 x115 h116).bind fun x117 h118 => Rs.ok x117 h118).bind fun x111 h112 => boolK .Or x111 h112 fun _ => ((nmO o5 h112).bind fun x121 h122 => (nmO o7 h122).bind fun x123 h124 => (cX (mkG T0 200 (k + 1)) .Eq x121 x123 h124).bind fun x125 h126 => Rs.ok x125 h126).bind fun x119 h120 => boolK .Or x119 h120 fun _ => (nmO o7 h120).bind fun x127 h128 => (nmO o5 h128).bind fun x129 h130 => (cX (mkG T0 200 (k + 1)) .NotEq x127 x129 h130).bind fun x131 h132 => (testOf h132 x131).bind fun b133 h134 => Rs.ok (Vl.bl (!b133)) h134).st [o0, o1, o2, o3, o4, o5, o6, o7, o8, o9, o10, o11] fun x135 h136 => (testOf h136 x135).st [o0, o1, o2, o3, o4, o5, o6, o7, o8, o9, o10, o11] fun t137 h138 => if t137 then Bk (mkG T0 200 (k + 1)) 19 d__law_right.st t__law_right_5_0 [o0, o1, o2, o3, o4, o5, o6, o7, o8, o9, o10, o11] h138 (fun r h => Bk (mkG T0 200 (k + 1)) 20 d__law_right.st t__law_right_0_6 r h kk) else Bk (mkG T0 200 (k + 1)) 20 d__law_right.st t__law_right_0_6 [o0, o1, o2, o3, o4, o5, o6, o7, o8, o9, o10, o11] h138 kk) T E) := ⟨fun w => by have z := x__law_right_0_5 k (mkG T0 200 (k + 1)).call (mkG T0 200 (k + 1)).meth (mkG T0 200 (k + 1)).attr (mkG T0 200 (k + 1)).spec (mkG T0 200 (k + 1)).clm o0 o1 o2 o3 o4 o5 o6 o7 o8 o9 o10 o11 h (fun r h => Bk (mkG T0 200 (k + 1)) 20 d__law_right.st t__law_right_0_6 r h kk); rw [Gc_eq] at z; rw [Bk_cons (t' := t__law_right_0_6) (s := t__law_right_0_5.headD (.Pass ⟨0, 0, 0, 0⟩)) (by kernel_rfl)]; exact WpR_cg z w⟩
theorem x__law_right_5_0 (k : Nat) (cl : CL) (me : ME) (at_ : AT_) (sp : SP) (cm : ME) (o0 o1 o2 o3 o4 o5 o6 o7 o8 o9 o10 o11 : Option Vl) (h : Hs) (kk : Env → Hs → Rt) : evSK (Gc k cl me at_ sp cm) 200 19 d__law_right.st (t__law_right_5_0.headD (.Pass ⟨0, 0, 0, 0⟩)) [o0, o1, o2, o3, o4, o5, o6, o7, o8, o9, o10, o11] h kk = Rt.ok (.rt (Vl.bl false)) [o0, o1, o2, o3, o4, o5, o6, o7, o8, o9, o10, o11] h := by kernel_rfl
instance i__law_right_5_0 {k : Nat} {o0 o1 o2 o3 o4 o5 o6 o7 o8 o9 o10 o11 : Option Vl} {kk : Env → Hs → Rt} : St (WpR (Bk (mkG T0 200 (k + 1)) 19 d__law_right.st t__law_right_5_0 [o0, o1, o2, o3, o4, o5, o6, o7, o8, o9, o10, o11] h kk) T E) (WpR (Rt.ok (.rt (Vl.bl false)) [o0, o1, o2, o3, o4, o5, o6, o7, o8, o9, o10, o11] h) T E) := ⟨fun w => by have z := x__law_right_5_0 k (mkG T0 200 (k + 1)).call (mkG T0 200 (k + 1)).meth (mkG T0 200 (k + 1)).attr (mkG T0 200 (k + 1)).spec (mkG T0 200 (k + 1)).clm o0 o1 o2 o3 o4 o5 o6 o7 o8 o9 o10 o11 h kk; rw [Gc_eq] at z; rw [Bk_one (s := t__law_right_5_0.headD (.Pass ⟨0, 0, 0, 0⟩)) (by kernel_rfl)]; exact WpR_cg z w⟩
theorem x__law_right_0_6 (k : Nat) (cl : CL) (me : ME) (at_ : AT_) (sp : SP) (cm : ME) (o0 o1 o2 o3 o4 o5 o6 o7 o8 o9 o10 o11 : Option Vl) (h : Hs) (kk : Env → Hs → Rt) : evSK (Gc k cl me at_ sp cm) 200 20 d__law_right.st (t__law_right_0_6.headD (.Pass ⟨0, 0, 0, 0⟩)) [o0, o1, o2, o3, o4, o5, o6, o7, o8, o9, o10, o11] h kk = (nmO o1 h).st [o0, o1, o2, o3, o4, o5, o6, o7, o8, o9, o10, o11] fun x1 h2 => (nmO o2 h2).st [o0, o1, o2, o3, o4, o5, o6, o7, o8, o9, o10, o11] fun x3 h4 => (nmO o1 h4).st [o0, o1, o2, o3, o4, o5, o6, o7, o8, o9, o10, o11] fun x5 h6 => (nmO o5 h6).st [o0, o1, o2, o3, o4, o5, o6, o7, o8, o9, o10, o11] fun x7 h8 => (bO (Gc k cl me at_ sp cm) .repr x7 h8).st [o0, o1, o2, o3, o4, o5, o6, o7, o8, o9, o10, o11] fun x9 h10 => (nmO o2 h10).st [o0, o1, o2, o3, o4, o5, o6, o7, o8, o9, o10, o11] fun x11 h12 => (bO (Gc k cl me at_ sp cm) .len x11 h12).st [o0, o1, o2, o3, o4, o5, o6, o7, o8, o9, o10, o11] fun x13 h14 => (nmO o0 h14).st [o0, o1, o2, o3, o4, o5, o6, o7, o8, o9, o10, o11] fun x15 h16 => (cO (Gc k cl me at_ sp cm) "_law_draw" [x15, (Vl.int 7)] [] [] h16).st [o0, o1, o2, o3, o4, o5, o6, o7, o8, o9, o10, o11] fun x17 h18 => (iX (Gc k cl me at_ sp cm) (Vl.lst [Vl.non, (Vl.tup [x1, x3]), x5, x9, (Vl.lst []), x13, (Vl.dic [])]) x17 h18).st [o0, o1, o2, o3, o4, o5, o6, o7, o8, o9, o10, o11] fun x19 h20 => kk [o0, o1, o2, o3, o4, o5, o6, o7, o8, o9, o10, (some x19)] h20 := by kernel_rfl
instance i__law_right_0_6 {k : Nat} {o0 o1 o2 o3 o4 o5 o6 o7 o8 o9 o10 o11 : Option Vl} {kk : Env → Hs → Rt} : St (WpR (Bk (mkG T0 200 (k + 1)) 20 d__law_right.st t__law_right_0_6 [o0, o1, o2, o3, o4, o5, o6, o7, o8, o9, o10, o11] h kk) T E) (WpR ((nmO o1 h).st [o0, o1, o2, o3, o4, o5, o6, o7, o8, o9, o10, o11] fun x1 h2 => (nmO o2 h2).st [o0, o1, o2, o3, o4, o5, o6, o7, o8, o9, o10, o11] fun x3 h4 => (nmO o1 h4).st [o0, o1, o2, o3, o4, o5, o6, o7, o8, o9, o10, o11] fun x5 h6 => (nmO o5 h6).st [o0, o1, o2, o3, o4, o5, o6, o7, o8, o9, o10, o11] fun x7 h8 => (bO (mkG T0 200 (k + 1)) .repr x7 h8).st [o0, o1, o2, o3, o4, o5, o6, o7, o8, o9, o10, o11] fun x9 h10 => (nmO o2 h10).st [o0, o1, o2, o3, o4, o5, o6, o7, o8, o9, o10, o11] fun x11 h12 => (bO (mkG T0 200 (k + 1)) .len x11 h12).st [o0, o1, o2, o3, o4, o5, o6, o7, o8, o9, o10, o11] fun x13 h14 => (nmO o0 h14).st [o0, o1, o2, o3, o4, o5, o6, o7, o8, o9, o10, o11] fun x15 h16 => (cO (mkG T0 200 (k + 1)) "_law_draw" [x15, (Vl.int 7)] [] [] h16).st [o0, o1, o2, o3, o4, o5, o6, o7, o8, o9, o10, o11] fun x17 h18 => (iX (mkG T0 200 (k + 1)) (Vl.lst [Vl.non, (Vl.tup [x1, x3]), x5, x9, (Vl.lst []), x13, (Vl.dic [])]) x17 h18).st [o0, o1, o2, o3, o4, o5, o6, o7, o8, o9, o10, o11] fun x19 h20 => Bk (mkG T0 200 (k + 1)) 20 d__law_right.st t__law_right_0_7 [o0, o1, o2, o3, o4, o5, o6, o7, o8, o9, o10, (some x19)] h20 kk) T E) := ⟨fun w => by have z := x__law_right_0_6 k (mkG T0 200 (k + 1)).call (mkG T0 200 (k + 1)).meth (mkG T0 200 (k + 1)).attr (mkG T0 200 (k + 1)).spec (mkG T0 200 (k + 1)).clm o0 o1 o2 o3 o4 o5 o6 o7 o8 o9 o10 o11 h (fun r h => Bk (mkG T0 200 (k + 1)) 20 d__law_right.st t__law_right_0_7 r h kk); rw [Gc_eq] at z; rw [Bk_cons (t' := t__law_right_0_7) (s := t__law_right_0_6.headD (.Pass ⟨0, 0, 0, 0⟩)) (by kernel_rfl)]; exact WpR_cg z w⟩
theorem x__law_right_0_7 (k : Nat) (cl : CL) (me : ME) (at_ : AT_) (sp : SP) (cm : ME) (o0 o1 o2 o3 o4 o5 o6 o7 o8 o9 o10 o11 : Option Vl) (h : Hs) (kk : Env → Hs → Rt) : evSK (Gc k cl me at_ sp cm) 200 20 d__law_right.st (t__law_right_0_7.headD (.Pass ⟨0, 0, 0, 0⟩)) [o0, o1, o2, o3, o4, o5, o6, o7, o8, o9, o10, o11] h kk = (((nmO o5 h).bind fun x3 h4 => (nmO o11 h4).bind fun x5 h6 => (cX (Gc k cl me at_ sp cm) .Eq x3 x5 h6).bind fun x7 h8 => (testOf h8 x7).bind fun b9 h10 => Rs.ok (Vl.bl (!b9)) h10).bind fun x1 h2 => boolK .And x1 h2 fun _ => (nmO o5 h2).bind fun x11 h12 => (nmO o11 h12).bind fun x13 h14 => (cX (Gc k cl me at_ sp cm) .NotEq x11 x13 h14).bind fun x15 h16 => Rs.ok x15 h16).st [o0, o1, o2, o3, o4, o5, o6, o7, o8, o9, o10, o11] fun x17 h18 => Rt.ok (.rt x17) [o0, o1, o2, o3, o4, o5, o6, o7, o8, o9, o10, o11] h18 := by kernel_rfl
instance i__law_right_0_7 {k : Nat} {o0 o1 o2 o3 o4 o5 o6 o7 o8 o9 o10 o11 : Option Vl} {kk : Env → Hs → Rt} : St (WpR (Bk (mkG T0 200 (k + 1)) 20 d__law_right.st t__law_right_0_7 [o0, o1, o2, o3, o4, o5, o6, o7, o8, o9, o10, o11] h kk) T E) (WpR ((((nmO o5 h).bind fun x3 h4 => (nmO o11 h4).bind fun x5 h6 => (cX (mkG T0 200 (k + 1)) .Eq x3 x5 h6).bind fun x7 h8 => (testOf h8 x7).bind fun b9 h10 => Rs.ok (Vl.bl (!b9)) h10).bind fun x1 h2 => boolK .And x1 h2 fun _ => (nmO o5 h2).bind fun x11 h12 => (nmO o11 h12).bind fun x13 h14 => (cX (mkG T0 200 (k + 1)) .NotEq x11 x13 h14).bind fun x15 h16 => Rs.ok x15 h16).st [o0, o1, o2, o3, o4, o5, o6, o7, o8, o9, o10, o11] fun x17 h18 => Rt.ok (.rt x17) [o0, o1, o2, o3, o4, o5, o6, o7, o8, o9, o10, o11] h18) T E) := ⟨fun w => by have z := x__law_right_0_7 k (mkG T0 200 (k + 1)).call (mkG T0 200 (k + 1)).meth (mkG T0 200 (k + 1)).attr (mkG T0 200 (k + 1)).spec (mkG T0 200 (k + 1)).clm o0 o1 o2 o3 o4 o5 o6 o7 o8 o9 o10 o11 h kk; rw [Gc_eq] at z; rw [Bk_one (s := t__law_right_0_7.headD (.Pass ⟨0, 0, 0, 0⟩)) (by kernel_rfl)]; exact WpR_cg z w⟩
instance u__law_right {k : Nat} {a0 : Vl} {Q : Vl → Hs → Prop} : Un (Wp (rD (mkG T0 200 (k + 1)) d__law_right [a0] h) Q E) (WpR (Bk (mkG T0 200 (k + 1)) 20 d__law_right.st t__law_right_0_0 [some a0, none, none, none, none, none, none, none, none, none, none, none] h fun r h => .ok .nx r h) (retQ h Q) (retE h E)) := ⟨fun w => by
  have e : rD (mkG T0 200 (k + 1)) d__law_right [a0] h = endR h (Bk (mkG T0 200 (k + 1)) 20 d__law_right.st t__law_right_0_0 [some a0, none, none, none, none, none, none, none, none, none, none, none] h fun r h => .ok .nx r h) := by
    unfold rD Bk
    rw [runDef_K rfl]
    kernel_rfl
  rw [e, Wp_endS]; exact w⟩

end
end Wd

set_option Elab.async false
set_option linter.all false
set_option maxRecDepth 100000
set_option maxHeartbeats 400000
namespace Wd
open PySem PySem.Spec PyProof.Rows L2
section
variable {E : Vl → Hs → Prop} {T : Fl → Env → Hs → Prop} {h : Hs} {Q : Option Vl → Hs → Prop}
/-! law; slots: 0=_law_script 1=_law_k -/
def b_law_0 : List Stmt := d_law.body
def t_law_0_0 : List Stmt := b_law_0.drop 0
def cf_law_0 (G : Gt) (o0 o1 : Option Vl) : Vl → Hs → Rs (Option Vl) := fun x1 h2 => ((nmO o0 h2).bind fun x7 h8 => (cO G "_law_source" [x7, x1] [] [] h8).bind fun x9 h10 => (cO G "_law_right" [x9] [] [] h10).bind fun x11 h12 => Rs.ok x11 h12).bind fun v5 h4 => .ok (some v5) (trunc h2 v5 h4)
instance {G : Gt} {o0 o1 : Option Vl} {x1 : Vl} {h2 : Hs} : St (Wp (cf_law_0 G o0 o1 x1 h2) Q E) (Wp (((nmO o0 h2).bind fun x7 h8 => (cO G "_law_source" [x7, x1] [] [] h8).bind fun x9 h10 => (cO G "_law_right" [x9] [] [] h10).bind fun x11 h12 => Rs.ok x11 h12).bind fun v5 h4 => .ok (some v5) (trunc h2 v5 h4)) Q E) := ⟨fun w => w⟩
theorem x_law_0_0 (k : Nat) (cl : CL) (me : ME) (at_ : AT_) (sp : SP) (cm : ME) (o0 o1 : Option Vl) (h : Hs) (kk : Env → Hs → Rt) : evSK (Gc k cl me at_ sp cm) 200 20 d_law.st (t_law_0_0.headD (.Pass ⟨0, 0, 0, 0⟩)) [o0, o1] h kk = (((nmO o0 h).bind fun x15 h16 => (bO (Gc k cl me at_ sp cm) .len x15 h16).bind fun x17 h18 => (Rs.of (bltV isaT0 .min [x17, (Vl.int 6)] h18) h18).bind fun x19 h20 => (Rs.of (bltV isaT0 .max [(Vl.int 2), x19] h20) h20).bind fun x21 h22 => Rs.ok x21 h22).bind fun x13 h14 => Rs.of (rangeV [x13]) h14).st [o0, o1] fun xs23 h24 => (cM (cf_law_0 (Gc k cl me at_ sp cm) o0 o1) xs23 [] h24).st [o0, o1] fun ys25 h26 => (Rs.of (bltV isaT0 .all [(Vl.lst ys25)] h26) h26).st [o0, o1] fun x27 h28 => Rt.ok (.rt x27) [o0, o1] h28 := by kernel_rfl
instance i_law_0_0 {k : Nat} {o0 o1 : Option Vl} {kk : Env → Hs → Rt} : St (WpR (Bk (mkG T0 200 (k + 1)) 20 d_law.st t_law_0_0 [o0, o1] h kk) T E) (WpR ((((nmO o0 h).bind fun x15 h16 => (bO (mkG T0 200 (k + 1)) .len x15 h16).bind fun x17 h18 => (Rs.of (bltV isaT0 .min [x17, (Vl.int 6)] h18) h18).bind fun x19 h20 => (Rs.of (bltV isaT0 .max [(Vl.int 2), x19] h20) h20).bind fun x21 h22 => Rs.ok x21 h22).bind fun x13 h14 => Rs.of (rangeV [x13]) h14).st [o0, o1] fun xs23 h24 => (cM (cf_law_0 (mkG T0 200 (k + 1)) o0 o1) xs23 [] h24).st [o0, o1] fun ys25 h26 => (Rs.of (bltV isaT0 .all [(Vl.lst ys25)] h26) h26).st [o0, o1] fun x27 h28 => Rt.ok (.rt x27) [o0, o1] h28) T E) := ⟨fun w => by have z := x_law_0_0 k (mkG T0 200 (k + 1)).call (mkG T0 200 (k + 1)).meth (mkG T0 200 (k + 1)).attr (mkG T0 200 (k + 1)).spec (mkG T0 200 (k + 1)).clm o0 o1 h kk; rw [Gc_eq] at z; rw [Bk_one (s := t_law_0_0.headD (.Pass ⟨0, 0, 0, 0⟩)) (by kernel_rfl)]; exact WpR_cg z w⟩
instance u_law {k : Nat} {a0 : Vl} {Q : Vl → Hs → Prop} : Un (Wp (rD (mkG T0 200 (k + 1)) d_law [a0] h) Q E) (WpR (Bk (mkG T0 200 (k + 1)) 20 d_law.st t_law_0_0 [some a0, none] h fun r h => .ok .nx r h) (retQ h Q) (retE h E)) := ⟨fun w => by
  have e : rD (mkG T0 200 (k + 1)) d_law [a0] h = endR h (Bk (mkG T0 200 (k + 1)) 20 d_law.st t_law_0_0 [some a0, none] h fun r h => .ok .nx r h) := by
    unfold rD Bk
    rw [runDef_K rfl]
    kernel_rfl
  rw [e, Wp_endS]; exact w⟩

end
end Wd

set_option Elab.async false
set_option linter.all false
set_option maxRecDepth 100000
set_option maxHeartbeats 400000
namespace Wd
open PySem PySem.Spec PyProof.Rows L2
section
variable {E : Vl → Hs → Prop} {T : Fl → Env → Hs → Prop} {h : Hs} {Q : Option Vl → Hs → Prop}
/-! World_init; slots: 0=self 1=atoms 2=rows -/
def b_World_init_0 : List Stmt := d_World_init.body
def t_World_init_0_0 : List Stmt := b_World_init_0.drop 0
def t_World_init_0_1 : List Stmt := b_World_init_0.drop 1
def t_World_init_0_2 : List Stmt := b_World_init_0.drop 2
theorem x_World_init_0_0 (k : Nat) (cl : CL) (me : ME) (at_ : AT_) (sp : SP) (cm : ME) (o0 o1 o2 : Option Vl) (h : Hs) (kk : Env → Hs → Rt) : evSK (Gc k cl me at_ sp cm) 200 20 d_World_init.st (t_World_init_0_0.headD (.Pass ⟨0, 0, 0, 0⟩)) [o0, o1, o2] h kk = (nmO o1 h).st [o0, o1, o2] fun x1 h2 => (cO (Gc k cl me at_ sp cm) "check_atoms" [x1] [] [] h2).st [o0, o1, o2] fun x3 h4 => kk [o0, o1, o2] h4 := by kernel_rfl
instance i_World_init_0_0 {k : Nat} {o0 o1 o2 : Option Vl} {kk : Env → Hs → Rt} : St (WpR (Bk (mkG T0 200 (k + 1)) 20 d_World_init.st t_World_init_0_0 [o0, o1, o2] h kk) T E) (WpR ((nmO o1 h).st [o0, o1, o2] fun x1 h2 => (cO (mkG T0 200 (k + 1)) "check_atoms" [x1] [] [] h2).st [o0, o1, o2] fun x3 h4 => Bk (mkG T0 200 (k + 1)) 20 d_World_init.st t_World_init_0_1 [o0, o1, o2] h4 kk) T E) := ⟨fun w => by have z := x_World_init_0_0 k (mkG T0 200 (k + 1)).call (mkG T0 200 (k + 1)).meth (mkG T0 200 (k + 1)).attr (mkG T0 200 (k + 1)).spec (mkG T0 200 (k + 1)).clm o0 o1 o2 h (fun r h => Bk (mkG T0 200 (k + 1)) 20 d_World_init.st t_World_init_0_1 r h kk); rw [Gc_eq] at z; rw [Bk_cons (t' := t_World_init_0_1) (s := t_World_init_0_0.headD (.Pass ⟨0, 0, 0, 0⟩)) (by kernel_rfl)]; exact WpR_cg z w⟩
theorem x_World_init_0_1 (k : Nat) (cl : CL) (me : ME) (at_ : AT_) (sp : SP) (cm : ME) (o0 o1 o2 : Option Vl) (h : Hs) (kk : Env → Hs → Rt) : evSK (Gc k cl me at_ sp cm) 200 20 d_World_init.st (t_World_init_0_1.headD (.Pass ⟨0, 0, 0, 0⟩)) [o0, o1, o2] h kk = (nmO o2 h).st [o0, o1, o2] fun x1 h2 => (nmO o1 h2).st [o0, o1, o2] fun x3 h4 => (bO (Gc k cl me at_ sp cm) .len x3 h4).st [o0, o1, o2] fun x5 h6 => (cO (Gc k cl me at_ sp cm) "check_rows" [x1, x5] [] [] h6).st [o0, o1, o2] fun x7 h8 => kk [o0, o1, o2] h8 := by kernel_rfl
instance i_World_init_0_1 {k : Nat} {o0 o1 o2 : Option Vl} {kk : Env → Hs → Rt} : St (WpR (Bk (mkG T0 200 (k + 1)) 20 d_World_init.st t_World_init_0_1 [o0, o1, o2] h kk) T E) (WpR ((nmO o2 h).st [o0, o1, o2] fun x1 h2 => (nmO o1 h2).st [o0, o1, o2] fun x3 h4 => (bO (mkG T0 200 (k + 1)) .len x3 h4).st [o0, o1, o2] fun x5 h6 => (cO (mkG T0 200 (k + 1)) "check_rows" [x1, x5] [] [] h6).st [o0, o1, o2] fun x7 h8 => Bk (mkG T0 200 (k + 1)) 20 d_World_init.st t_World_init_0_2 [o0, o1, o2] h8 kk) T E) := ⟨fun w => by have z := x_World_init_0_1 k (mkG T0 200 (k + 1)).call (mkG T0 200 (k + 1)).meth (mkG T0 200 (k + 1)).attr (mkG T0 200 (k + 1)).spec (mkG T0 200 (k + 1)).clm o0 o1 o2 h (fun r h => Bk (mkG T0 200 (k + 1)) 20 d_World_init.st t_World_init_0_2 r h kk); rw [Gc_eq] at z; rw [Bk_cons (t' := t_World_init_0_2) (s := t_World_init_0_1.headD (.Pass ⟨0, 0, 0, 0⟩)) (by kernel_rfl)]; exact WpR_cg z w⟩
theorem x_World_init_0_2 (k : Nat) (cl : CL) (me : ME) (at_ : AT_) (sp : SP) (cm : ME) (o0 o1 o2 : Option Vl) (h : Hs) (kk : Env → Hs → Rt) : evSK (Gc k cl me at_ sp cm) 200 20 d_World_init.st (t_World_init_0_2.headD (.Pass ⟨0, 0, 0, 0⟩)) [o0, o1, o2] h kk = (nmO o1 h).st [o0, o1, o2] fun x1 h2 => (nmO o2 h2).st [o0, o1, o2] fun x3 h4 => (nmO o0 h4).st [o0, o1, o2] fun x6 h7 => itemK (setFldV (Gc k cl me at_ sp cm) h7 x6 "told" (Vl.tup [x1, x3])) fun h5 => kk [o0, o1, o2] h5 := by kernel_rfl
instance i_World_init_0_2 {k : Nat} {o0 o1 o2 : Option Vl} {kk : Env → Hs → Rt} : St (WpR (Bk (mkG T0 200 (k + 1)) 20 d_World_init.st t_World_init_0_2 [o0, o1, o2] h kk) T E) (WpR ((nmO o1 h).st [o0, o1, o2] fun x1 h2 => (nmO o2 h2).st [o0, o1, o2] fun x3 h4 => (nmO o0 h4).st [o0, o1, o2] fun x6 h7 => itemK (setFldV (mkG T0 200 (k + 1)) h7 x6 "told" (Vl.tup [x1, x3])) fun h5 => kk [o0, o1, o2] h5) T E) := ⟨fun w => by have z := x_World_init_0_2 k (mkG T0 200 (k + 1)).call (mkG T0 200 (k + 1)).meth (mkG T0 200 (k + 1)).attr (mkG T0 200 (k + 1)).spec (mkG T0 200 (k + 1)).clm o0 o1 o2 h kk; rw [Gc_eq] at z; rw [Bk_one (s := t_World_init_0_2.headD (.Pass ⟨0, 0, 0, 0⟩)) (by kernel_rfl)]; exact WpR_cg z w⟩
instance u_World_init {k : Nat} {a0 a1 a2 : Vl} {Q : Vl → Hs → Prop} : Un (Wp (rD (mkG T0 200 (k + 1)) d_World_init [a0, a1, a2] h) Q E) (WpR (Bk (mkG T0 200 (k + 1)) 20 d_World_init.st t_World_init_0_0 [some a0, some a1, some a2] h fun r h => .ok .nx r h) (retQ h Q) (retE h E)) := ⟨fun w => by
  have e : rD (mkG T0 200 (k + 1)) d_World_init [a0, a1, a2] h = endR h (Bk (mkG T0 200 (k + 1)) 20 d_World_init.st t_World_init_0_0 [some a0, some a1, some a2] h fun r h => .ok .nx r h) := by
    unfold rD Bk
    rw [runDef_K rfl]
    kernel_rfl
  rw [e, Wp_endS]; exact w⟩

end
end Wd

set_option Elab.async false
set_option linter.all false
set_option maxRecDepth 100000
set_option maxHeartbeats 400000
namespace Wd
open PySem PySem.Spec PyProof.Rows L2
section
variable {E : Vl → Hs → Prop} {T : Fl → Env → Hs → Prop} {h : Hs} {Q : Option Vl → Hs → Prop}
/-! World_atoms; slots: 0=self -/
def b_World_atoms_0 : List Stmt := d_World_atoms.body
def t_World_atoms_0_0 : List Stmt := b_World_atoms_0.drop 0
theorem x_World_atoms_0_0 (k : Nat) (cl : CL) (me : ME) (at_ : AT_) (sp : SP) (cm : ME) (o0 : Option Vl) (h : Hs) (kk : Env → Hs → Rt) : evSK (Gc k cl me at_ sp cm) 200 20 d_World_atoms.st (t_World_atoms_0_0.headD (.Pass ⟨0, 0, 0, 0⟩)) [o0] h kk = (nmO o0 h).st [o0] fun x1 h2 => (aV (Gc k cl me at_ sp cm) x1 "told" h2).st [o0] fun x3 h4 => (iX (Gc k cl me at_ sp cm) x3 (Vl.int 0) h4).st [o0] fun x5 h6 => Rt.ok (.rt x5) [o0] h6 := by kernel_rfl
instance i_World_atoms_0_0 {k : Nat} {o0 : Option Vl} {kk : Env → Hs → Rt} : St (WpR (Bk (mkG T0 200 (k + 1)) 20 d_World_atoms.st t_World_atoms_0_0 [o0] h kk) T E) (WpR ((nmO o0 h).st [o0] fun x1 h2 => (aV (mkG T0 200 (k + 1)) x1 "told" h2).st [o0] fun x3 h4 => (iX (mkG T0 200 (k + 1)) x3 (Vl.int 0) h4).st [o0] fun x5 h6 => Rt.ok (.rt x5) [o0] h6) T E) := ⟨fun w => by have z := x_World_atoms_0_0 k (mkG T0 200 (k + 1)).call (mkG T0 200 (k + 1)).meth (mkG T0 200 (k + 1)).attr (mkG T0 200 (k + 1)).spec (mkG T0 200 (k + 1)).clm o0 h kk; rw [Gc_eq] at z; rw [Bk_one (s := t_World_atoms_0_0.headD (.Pass ⟨0, 0, 0, 0⟩)) (by kernel_rfl)]; exact WpR_cg z w⟩
instance u_World_atoms {k : Nat} {a0 : Vl} {Q : Vl → Hs → Prop} : Un (Wp (rD (mkG T0 200 (k + 1)) d_World_atoms [a0] h) Q E) (WpR (Bk (mkG T0 200 (k + 1)) 20 d_World_atoms.st t_World_atoms_0_0 [some a0] h fun r h => .ok .nx r h) (retQ h Q) (retE h E)) := ⟨fun w => by
  have e : rD (mkG T0 200 (k + 1)) d_World_atoms [a0] h = endR h (Bk (mkG T0 200 (k + 1)) 20 d_World_atoms.st t_World_atoms_0_0 [some a0] h fun r h => .ok .nx r h) := by
    unfold rD Bk
    rw [runDef_K rfl]
    kernel_rfl
  rw [e, Wp_endS]; exact w⟩

end
end Wd

set_option Elab.async false
set_option linter.all false
set_option maxRecDepth 100000
set_option maxHeartbeats 400000
namespace Wd
open PySem PySem.Spec PyProof.Rows L2
section
variable {E : Vl → Hs → Prop} {T : Fl → Env → Hs → Prop} {h : Hs} {Q : Option Vl → Hs → Prop}
/-! World_rows; slots: 0=self -/
def b_World_rows_0 : List Stmt := d_World_rows.body
def t_World_rows_0_0 : List Stmt := b_World_rows_0.drop 0
theorem x_World_rows_0_0 (k : Nat) (cl : CL) (me : ME) (at_ : AT_) (sp : SP) (cm : ME) (o0 : Option Vl) (h : Hs) (kk : Env → Hs → Rt) : evSK (Gc k cl me at_ sp cm) 200 20 d_World_rows.st (t_World_rows_0_0.headD (.Pass ⟨0, 0, 0, 0⟩)) [o0] h kk = (nmO o0 h).st [o0] fun x1 h2 => (aV (Gc k cl me at_ sp cm) x1 "told" h2).st [o0] fun x3 h4 => (iX (Gc k cl me at_ sp cm) x3 (Vl.int 1) h4).st [o0] fun x5 h6 => Rt.ok (.rt x5) [o0] h6 := by kernel_rfl
instance i_World_rows_0_0 {k : Nat} {o0 : Option Vl} {kk : Env → Hs → Rt} : St (WpR (Bk (mkG T0 200 (k + 1)) 20 d_World_rows.st t_World_rows_0_0 [o0] h kk) T E) (WpR ((nmO o0 h).st [o0] fun x1 h2 => (aV (mkG T0 200 (k + 1)) x1 "told" h2).st [o0] fun x3 h4 => (iX (mkG T0 200 (k + 1)) x3 (Vl.int 1) h4).st [o0] fun x5 h6 => Rt.ok (.rt x5) [o0] h6) T E) := ⟨fun w => by have z := x_World_rows_0_0 k (mkG T0 200 (k + 1)).call (mkG T0 200 (k + 1)).meth (mkG T0 200 (k + 1)).attr (mkG T0 200 (k + 1)).spec (mkG T0 200 (k + 1)).clm o0 h kk; rw [Gc_eq] at z; rw [Bk_one (s := t_World_rows_0_0.headD (.Pass ⟨0, 0, 0, 0⟩)) (by kernel_rfl)]; exact WpR_cg z w⟩
instance u_World_rows {k : Nat} {a0 : Vl} {Q : Vl → Hs → Prop} : Un (Wp (rD (mkG T0 200 (k + 1)) d_World_rows [a0] h) Q E) (WpR (Bk (mkG T0 200 (k + 1)) 20 d_World_rows.st t_World_rows_0_0 [some a0] h fun r h => .ok .nx r h) (retQ h Q) (retE h E)) := ⟨fun w => by
  have e : rD (mkG T0 200 (k + 1)) d_World_rows [a0] h = endR h (Bk (mkG T0 200 (k + 1)) 20 d_World_rows.st t_World_rows_0_0 [some a0] h fun r h => .ok .nx r h) := by
    unfold rD Bk
    rw [runDef_K rfl]
    kernel_rfl
  rw [e, Wp_endS]; exact w⟩

end
end Wd

set_option Elab.async false
set_option linter.all false
set_option maxRecDepth 100000
set_option maxHeartbeats 400000
namespace Wd
open PySem PySem.Spec PyProof.Rows L2
section
variable {E : Vl → Hs → Prop} {T : Fl → Env → Hs → Prop} {h : Hs} {Q : Option Vl → Hs → Prop}
/-! World_len; slots: 0=self -/
def b_World_len_0 : List Stmt := d_World_len.body
def t_World_len_0_0 : List Stmt := b_World_len_0.drop 0
theorem x_World_len_0_0 (k : Nat) (cl : CL) (me : ME) (at_ : AT_) (sp : SP) (cm : ME) (o0 : Option Vl) (h : Hs) (kk : Env → Hs → Rt) : evSK (Gc k cl me at_ sp cm) 200 20 d_World_len.st (t_World_len_0_0.headD (.Pass ⟨0, 0, 0, 0⟩)) [o0] h kk = (nmO o0 h).st [o0] fun x1 h2 => (aV (Gc k cl me at_ sp cm) x1 "told" h2).st [o0] fun x3 h4 => (iX (Gc k cl me at_ sp cm) x3 (Vl.int 1) h4).st [o0] fun x5 h6 => (bO (Gc k cl me at_ sp cm) .len x5 h6).st [o0] fun x7 h8 => Rt.ok (.rt x7) [o0] h8 := by kernel_rfl
instance i_World_len_0_0 {k : Nat} {o0 : Option Vl} {kk : Env → Hs → Rt} : St (WpR (Bk (mkG T0 200 (k + 1)) 20 d_World_len.st t_World_len_0_0 [o0] h kk) T E) (WpR ((nmO o0 h).st [o0] fun x1 h2 => (aV (mkG T0 200 (k + 1)) x1 "told" h2).st [o0] fun x3 h4 => (iX (mkG T0 200 (k + 1)) x3 (Vl.int 1) h4).st [o0] fun x5 h6 => (bO (mkG T0 200 (k + 1)) .len x5 h6).st [o0] fun x7 h8 => Rt.ok (.rt x7) [o0] h8) T E) := ⟨fun w => by have z := x_World_len_0_0 k (mkG T0 200 (k + 1)).call (mkG T0 200 (k + 1)).meth (mkG T0 200 (k + 1)).attr (mkG T0 200 (k + 1)).spec (mkG T0 200 (k + 1)).clm o0 h kk; rw [Gc_eq] at z; rw [Bk_one (s := t_World_len_0_0.headD (.Pass ⟨0, 0, 0, 0⟩)) (by kernel_rfl)]; exact WpR_cg z w⟩
instance u_World_len {k : Nat} {a0 : Vl} {Q : Vl → Hs → Prop} : Un (Wp (rD (mkG T0 200 (k + 1)) d_World_len [a0] h) Q E) (WpR (Bk (mkG T0 200 (k + 1)) 20 d_World_len.st t_World_len_0_0 [some a0] h fun r h => .ok .nx r h) (retQ h Q) (retE h E)) := ⟨fun w => by
  have e : rD (mkG T0 200 (k + 1)) d_World_len [a0] h = endR h (Bk (mkG T0 200 (k + 1)) 20 d_World_len.st t_World_len_0_0 [some a0] h fun r h => .ok .nx r h) := by
    unfold rD Bk
    rw [runDef_K rfl]
    kernel_rfl
  rw [e, Wp_endS]; exact w⟩

end
end Wd

set_option Elab.async false
set_option linter.all false
set_option maxRecDepth 100000
set_option maxHeartbeats 400000
namespace Wd
open PySem PySem.Spec PyProof.Rows L2
section
variable {E : Vl → Hs → Prop} {T : Fl → Env → Hs → Prop} {h : Hs} {Q : Option Vl → Hs → Prop}
/-! World_eq; slots: 0=self 1=other -/
def b_World_eq_0 : List Stmt := d_World_eq.body
def t_World_eq_0_0 : List Stmt := b_World_eq_0.drop 0
theorem x_World_eq_0_0 (k : Nat) (cl : CL) (me : ME) (at_ : AT_) (sp : SP) (cm : ME) (o0 o1 : Option Vl) (h : Hs) (kk : Env → Hs → Rt) : evSK (Gc k cl me at_ sp cm) 200 20 d_World_eq.st (t_World_eq_0_0.headD (.Pass ⟨0, 0, 0, 0⟩)) [o0, o1] h kk = (((nmO o1 h).bind fun x3 h4 => (Rs.of (bltV isaT0 .isa [x3, (Vl.cl "World")] h4) h4).bind fun x5 h6 => Rs.ok x5 h6).bind fun x1 h2 => boolK .And x1 h2 fun _ => (nmO o0 h2).bind fun x7 h8 => (aV (Gc k cl me at_ sp cm) x7 "told" h8).bind fun x9 h10 => (nmO o1 h10).bind fun x11 h12 => (aV (Gc k cl me at_ sp cm) x11 "told" h12).bind fun x13 h14 => (cX (Gc k cl me at_ sp cm) .Eq x9 x13 h14).bind fun x15 h16 => Rs.ok x15 h16).st [o0, o1] fun x17 h18 => Rt.ok (.rt x17) [o0, o1] h18 := by kernel_rfl
instance i_World_eq_0_0 {k : Nat} {o0 o1 : Option Vl} {kk : Env → Hs → Rt} : St (WpR (Bk (mkG T0 200 (k + 1)) 20 d_World_eq.st t_World_eq_0_0 [o0, o1] h kk) T E) (WpR ((((nmO o1 h).bind fun x3 h4 => (Rs.of (bltV isaT0 .isa [x3, (Vl.cl "World")] h4) h4).bind fun x5 h6 => Rs.ok x5 h6).bind fun x1 h2 => boolK .And x1 h2 fun _ => (nmO o0 h2).bind fun x7 h8 => (aV (mkG T0 200 (k + 1)) x7 "told" h8).bind fun x9 h10 => (nmO o1 h10).bind fun x11 h12 => (aV (mkG T0 200 (k + 1)) x11 "told" h12).bind fun x13 h14 => (cX (mkG T0 200 (k + 1)) .Eq x9 x13 h14).bind fun x15 h16 => Rs.ok x15 h16).st [o0, o1] fun x17 h18 => Rt.ok (.rt x17) [o0, o1] h18) T E) := ⟨fun w => by have z := x_World_eq_0_0 k (mkG T0 200 (k + 1)).call (mkG T0 200 (k + 1)).meth (mkG T0 200 (k + 1)).attr (mkG T0 200 (k + 1)).spec (mkG T0 200 (k + 1)).clm o0 o1 h kk; rw [Gc_eq] at z; rw [Bk_one (s := t_World_eq_0_0.headD (.Pass ⟨0, 0, 0, 0⟩)) (by kernel_rfl)]; exact WpR_cg z w⟩
instance u_World_eq {k : Nat} {a0 a1 : Vl} {Q : Vl → Hs → Prop} : Un (Wp (rD (mkG T0 200 (k + 1)) d_World_eq [a0, a1] h) Q E) (WpR (Bk (mkG T0 200 (k + 1)) 20 d_World_eq.st t_World_eq_0_0 [some a0, some a1] h fun r h => .ok .nx r h) (retQ h Q) (retE h E)) := ⟨fun w => by
  have e : rD (mkG T0 200 (k + 1)) d_World_eq [a0, a1] h = endR h (Bk (mkG T0 200 (k + 1)) 20 d_World_eq.st t_World_eq_0_0 [some a0, some a1] h fun r h => .ok .nx r h) := by
    unfold rD Bk
    rw [runDef_K rfl]
    kernel_rfl
  rw [e, Wp_endS]; exact w⟩

end
end Wd

set_option Elab.async false
set_option linter.all false
set_option maxRecDepth 100000
set_option maxHeartbeats 400000
namespace Wd
open PySem PySem.Spec PyProof.Rows L2
section
variable {E : Vl → Hs → Prop} {T : Fl → Env → Hs → Prop} {h : Hs} {Q : Option Vl → Hs → Prop}
/-! World_repr; slots: 0=self -/
def b_World_repr_0 : List Stmt := d_World_repr.body
def t_World_repr_0_0 : List Stmt := b_World_repr_0.drop 0
theorem x_World_repr_0_0 (k : Nat) (cl : CL) (me : ME) (at_ : AT_) (sp : SP) (cm : ME) (o0 : Option Vl) (h : Hs) (kk : Env → Hs → Rt) : evSK (Gc k cl me at_ sp cm) 200 20 d_World_repr.st (t_World_repr_0_0.headD (.Pass ⟨0, 0, 0, 0⟩)) [o0] h kk = (joinL [fun h => (Rs.ok ("World(" : Str) h : Rs Str), fun h => ((nmO o0 h).bind fun x1 h2 => (aV (Gc k cl me at_ sp cm) x1 "told" h2).bind fun x3 h4 => (iX (Gc k cl me at_ sp cm) x3 (Vl.int 0) h4).bind fun x5 h6 => Rs.ok x5 h6).bind fun v h => Rs.of (fmtV (114) v) h, fun h => (Rs.ok (", " : Str) h : Rs Str), fun h => ((nmO o0 h).bind fun x7 h8 => (aV (Gc k cl me at_ sp cm) x7 "told" h8).bind fun x9 h10 => (iX (Gc k cl me at_ sp cm) x9 (Vl.int 1) h10).bind fun x11 h12 => Rs.ok x11 h12).bind fun v h => Rs.of (fmtV (114) v) h, fun h => (Rs.ok (")" : Str) h : Rs Str)] ⟨#[]⟩ h).st [o0] fun s13 h14 => Rt.ok (.rt (Vl.str s13)) [o0] h14 := by kernel_rfl
instance i_World_repr_0_0 {k : Nat} {o0 : Option Vl} {kk : Env → Hs → Rt} : St (WpR (Bk (mkG T0 200 (k + 1)) 20 d_World_repr.st t_World_repr_0_0 [o0] h kk) T E) (WpR ((joinL [fun h => (Rs.ok ("World(" : Str) h : Rs Str), fun h => ((nmO o0 h).bind fun x1 h2 => (aV (mkG T0 200 (k + 1)) x1 "told" h2).bind fun x3 h4 => (iX (mkG T0 200 (k + 1)) x3 (Vl.int 0) h4).bind fun x5 h6 => Rs.ok x5 h6).bind fun v h => Rs.of (fmtV (114) v) h, fun h => (Rs.ok (", " : Str) h : Rs Str), fun h => ((nmO o0 h).bind fun x7 h8 => (aV (mkG T0 200 (k + 1)) x7 "told" h8).bind fun x9 h10 => (iX (mkG T0 200 (k + 1)) x9 (Vl.int 1) h10).bind fun x11 h12 => Rs.ok x11 h12).bind fun v h => Rs.of (fmtV (114) v) h, fun h => (Rs.ok (")" : Str) h : Rs Str)] ⟨#[]⟩ h).st [o0] fun s13 h14 => Rt.ok (.rt (Vl.str s13)) [o0] h14) T E) := ⟨fun w => by have z := x_World_repr_0_0 k (mkG T0 200 (k + 1)).call (mkG T0 200 (k + 1)).meth (mkG T0 200 (k + 1)).attr (mkG T0 200 (k + 1)).spec (mkG T0 200 (k + 1)).clm o0 h kk; rw [Gc_eq] at z; rw [Bk_one (s := t_World_repr_0_0.headD (.Pass ⟨0, 0, 0, 0⟩)) (by kernel_rfl)]; exact WpR_cg z w⟩
instance u_World_repr {k : Nat} {a0 : Vl} {Q : Vl → Hs → Prop} : Un (Wp (rD (mkG T0 200 (k + 1)) d_World_repr [a0] h) Q E) (WpR (Bk (mkG T0 200 (k + 1)) 20 d_World_repr.st t_World_repr_0_0 [some a0] h fun r h => .ok .nx r h) (retQ h Q) (retE h E)) := ⟨fun w => by
  have e : rD (mkG T0 200 (k + 1)) d_World_repr [a0] h = endR h (Bk (mkG T0 200 (k + 1)) 20 d_World_repr.st t_World_repr_0_0 [some a0] h fun r h => .ok .nx r h) := by
    unfold rD Bk
    rw [runDef_K rfl]
    kernel_rfl
  rw [e, Wp_endS]; exact w⟩
end
end Wd


set_option Elab.async false
set_option linter.all false
set_option maxRecDepth 100000
set_option maxHeartbeats 4000000
namespace Wd
open PySem PySem.Spec PyProof.Rows L2
local macro_rules
  | `(tactic| fail "b") => `(tactic| first | assumption | (simp only [Bool.not_eq_true', Bool.not_eq_false', decide_eq_true_eq, decide_eq_false_iff_not]; first | assumption | omega) | decide +kernel)
local macro_rules
  | `(tactic| fail) => `(tactic| first | assumption | omega | (simp only [sizeLine_eq, S_len, str_len_app, List.length_append, List.length_cons, List.length_nil, List.length_map, intsV_length] at *; omega) | decide +kernel)
local macro_rules
  | `(tactic| fail "c") => `(tactic| first | fail | (refine ⟨?_, ?_⟩; (fail "c"); (fail "c")) | (refine .inl ?_; (fail "c")) | (refine .inr ?_; (fail "c")) | exact rfl)
local macro_rules
  | `(tactic| fail "e") => `(tactic| (simp (disch := first | assumption | omega) only [decide_eq_true, decide_eq_false, Bool.not_true, Bool.not_false]; first | assumption | exact rfl))
local macro_rules
  | `(tactic| fail "u") => `(tactic| refine Un.imp ?_)
local macro_rules
  | `(tactic| fail "s") => `(tactic| first
    | refine St.imp ?_
    | refine StC.imp (by fail "c") ?_
    | with_reducible refine i_dTR (by first | assumption | omega | decide +kernel) ?_ | with_reducible refine i_dFR (by first | assumption | omega | decide +kernel) ?_ | with_reducible refine i_dT (by first | assumption | omega | decide +kernel) ?_ | with_reducible refine i_dF (by first | assumption | omega | decide +kernel) ?_
    | with_reducible refine i_bTR (by fail "b") ?_ | with_reducible refine i_bFR (by fail "b") ?_ | with_reducible refine i_bT (by fail "b") ?_ | with_reducible refine i_bF (by fail "b") ?_ | with_reducible refine i_intT (by fail "b") ?_ | with_reducible refine i_intF (by fail "b") ?_
    | with_reducible refine i_orT (by fail "b") ?_ | with_reducible refine i_orF (by fail "b") ?_ | with_reducible refine i_andT (by fail "b") ?_ | with_reducible refine i_andF (by fail "b") ?_
    | ((with_reducible refine i_bO ?_ ?_); exact rfl)
    | ((with_reducible apply i_item); exact rfl)
    | ((with_reducible apply Wp_run); exact rfl)
    | with_reducible refine i_intB (fun _ => ?_) (fun _ => ?_) | with_reducible refine i_dR (fun _ => ?_) (fun _ => ?_) | with_reducible refine i_d (fun _ => ?_) (fun _ => ?_) | with_reducible refine i_orD (fun _ => ?_) (fun _ => ?_) | with_reducible refine i_andD (fun _ => ?_) (fun _ => ?_) | with_reducible refine i_bR (fun _ => ?_) (fun _ => ?_) | with_reducible refine i_b (fun _ => ?_) (fun _ => ?_) | with_reducible refine i_or (fun _ => ?_) (fun _ => ?_) | with_reducible refine i_and (fun _ => ?_) (fun _ => ?_) | with_reducible assumption | intro _)
section
variable {k : Nat} {p : Dz} {t h : Hs} {Q : Vl → Hs → Prop} {E : Vl → Hs → Prop} {T : Fl → Env → Hs → Prop}
theorem cutL_le {xs : List Vl} {lo hi : Option Int} : (cutL xs lo hi).length ≤ xs.length := by
  unfold cutL; rw [List.length_take, List.length_drop]; omega
theorem w_source {ns : List Int} {i : Int} (hn : ns.length ≤ 63) (h0 : 0 ≤ i) (h1 : i ≤ 100) (q : ∀ p : Dz, p.ok → Q (.ref 0) (Dc p [])) : Wp (rD (mkG T0 200 (k + 1)) d__law_source [.lst (ns.map .int), .int i] []) Q E := by
  fail "u"
  have l1 : (cutL (ns.map Vl.int) none (some 3)).length ≤ 63 := Nat.le_trans cutL_le (by rw [List.length_map]; exact hn)
  have l2 : (cutL (ns.map Vl.int) (some i) (some (i + 1))).length ≤ 63 := Nat.le_trans cutL_le (by rw [List.length_map]; exact hn)
  repeat' fail "s"
  refine w_forL (P := fun xs ρ h' => h' = [] ∧ (∃ ms : List Int, xs = ms.map .int) ∧ ∃ (s : Int) (c : Option Vl), 0 ≤ s ∧ s < 18446744073709551616 ∧ ρ = [some (.lst (ns.map .int)), some (.int i), some (.int s), c]) ?_ ?_ ?_
  · refine ⟨rfl, ⟨(ns.drop _).take _ ++ (ns.drop _).take _, by unfold cutL; rw [List.map_append, ← List.map_drop, ← List.map_take, ← List.map_drop, ← List.map_take]⟩, _, _, ?_, ?_, rfl⟩
    · omega
    · omega
  · rintro x r ρ h' ⟨rfl, ⟨ms, hx⟩, s, c, hs0, hs1, rfl⟩
    obtain ⟨m, ms', rfl⟩ : ∃ m r, ms = m :: r := by
      cases ms with
      | nil => cases hx
      | cons l r => exact ⟨l, r, rfl⟩
    simp only [List.map_cons, List.cons.injEq] at hx
    obtain ⟨rfl, rfl⟩ := hx
    refine ⟨_, Bd.eq, ?_⟩
    repeat' fail "s"
    exact ⟨rfl, ⟨ms', rfl⟩, _, _, Int.emod_nonneg _ (by decide), Int.emod_lt_of_pos _ (by decide), rfl⟩
  · rintro ρ h' ⟨rfl, _, s, c, hs0, hs1, rfl⟩
    repeat' fail "s"
    all_goals first
      | exact q ⟨s, _⟩ ⟨hs0, hs1, Int.natCast_nonneg _⟩
      | exact q ⟨s, _⟩ ⟨hs0, hs1, Int.le_refl _⟩
      | trace_state
instance {ns : List Int} {i : Int} : StC (Wp (rD (mkG T0 200 (k + 1)) d__law_source [.lst (ns.map .int), .int i] []) Q E) (ns.length ≤ 63 ∧ 0 ≤ i ∧ i ≤ 100) (∀ p : Dz, p.ok → Q (.ref 0) (Dc p [])) := ⟨fun c => w_source c.1 c.2.1 c.2.2⟩
theorem w_draw1 {m : Int} (hp : p.ok) (m1 : 1 ≤ m) (m2 : m ≤ 1000) (q : ∀ (i : Int) (p' : Dz), p'.ok → 0 ≤ i → i < m → Q (.int i) (Dc p' t)) : Wp (rD (mkG T0 200 (k + 1)) d__law_draw [.ref 0, .int m] (Dc p t)) Q E := by
  fail "u"
  obtain ⟨a, b⟩ := p
  obtain ⟨a0, a1, b0⟩ := hp
  simp only at a0 a1 b0
  repeat' fail "s"
  · exact q _ _ ⟨a0, a1, Int.ediv_nonneg b0 (by omega)⟩ (Int.emod_nonneg _ (by omega)) (Int.emod_lt_of_pos _ (by omega))
  · exact q _ _ ⟨Int.emod_nonneg _ (by omega), Int.emod_lt_of_pos _ (by omega), b0⟩ (Int.emod_nonneg _ (by omega)) (Int.emod_lt_of_pos _ (by omega))
instance {m : Int} : StC (Wp (rD (mkG T0 200 (k + 1)) d__law_draw [.ref 0, .int m] (Dc p t)) Q E) (p.ok ∧ 1 ≤ m ∧ m ≤ 1000) (∀ (i : Int) (p' : Dz), p'.ok → 0 ≤ i → i < m → Q (.int i) (Dc p' t)) := ⟨fun c => w_draw1 c.1 c.2.1 c.2.2⟩
theorem dig_tx {i : Int} (h0 : 0 ≤ i) (h1 : i < 10) : ∃ d ∈ DIG, txI i = S [d] := by
  have : i = 0 ∨ i = 1 ∨ i = 2 ∨ i = 3 ∨ i = 4 ∨ i = 5 ∨ i = 6 ∨ i = 7 ∨ i = 8 ∨ i = 9 := by omega
  rcases this with rfl | rfl | rfl | rfl | rfl | rfl | rfl | rfl | rfl | rfl
  · exact ⟨48, by decide, by decide +kernel⟩
  · exact ⟨49, by decide, by decide +kernel⟩
  · exact ⟨50, by decide, by decide +kernel⟩
  · exact ⟨51, by decide, by decide +kernel⟩
  · exact ⟨52, by decide, by decide +kernel⟩
  · exact ⟨53, by decide, by decide +kernel⟩
  · exact ⟨54, by decide, by decide +kernel⟩
  · exact ⟨55, by decide, by decide +kernel⟩
  · exact ⟨56, by decide, by decide +kernel⟩
  · exact ⟨57, by decide, by decide +kernel⟩
theorem w_name (hp : p.ok) (q : ∀ (l : List Nat) (p' : Dz), p'.ok → IsN l → Q (sL l) (Dc p' t)) : Wp (rD (mkG T0 200 (k + 2)) d__law_name [.ref 0] (Dc p t)) Q E := by
  fail "u"
  repeat' fail "s"
  refine i_sidx (by omega) (by show _ < (25 : Int); omega) (by decide +kernel) fun c _ hc => ?_
  rw [let_cps] at hc
  repeat' fail "s"
  refine w_drawD (enc := fun d => .str (S [d])) (P := fun d => d ∈ DIG) (by assumption) (by fail) ?_ ?_
  · intro x hx p' hp'
    repeat' fail "s"
    rename_i i p2 hp2 hi0 hi1
    obtain ⟨d, hd, e⟩ := dig_tx hi0 hi1
    rw [e]
    exact ⟨d, _, rfl, hd, hp2, rfl⟩
  · intro ds p' hp' hl hd
    rw [intsV_length] at hl
    repeat' fail "s"
    exact q (c :: ds) _ (by assumption) (.mk hc (by omega) hd)
instance : StC (Wp (rD (mkG T0 200 (k + 2)) d__law_name [.ref 0] (Dc p t)) Q E) p.ok (∀ (l : List Nat) (p' : Dz), p'.ok → IsN l → Q (sL l) (Dc p' t)) := ⟨w_name⟩
/-- truths of an entry -/
abbrev rowV (r : List Bool) : Vl := .tup (r.map .bl)
theorem w_rows {n : Nat} {m : Int} (hp : p.ok) (hn : n ≤ 100) (h0 : 0 ≤ m) (h1 : m ≤ 100) (q : ∀ (rs : List (List Bool)) (p' : Dz), p'.ok → rs.length ≤ m.toNat → (∀ r ∈ rs, r.length = n) → Q (.tup (rs.map rowV)) (Dc p' t)) :
    Wp (rD (mkG T0 200 (k + 2)) d__law_rows [.ref 0, .int n, .int m] (Dc p t)) Q E := by
  fail "u"
  repeat' fail "s"
  refine w_drawD (enc := rowV) (P := fun r => r.length = n) (by assumption) (by fail) ?_ ?_
  · intro x hx p' hp'
    repeat' fail "s"
    refine w_drawD (enc := Vl.bl) (P := fun _ => True) (by assumption) (by fail) ?_ ?_
    · intro x hx p' hp'
      repeat' fail "s"
      exact ⟨_, _, rfl, trivial, by assumption, rfl⟩
    · intro bs p' hp' hl _
      rw [intsV_length, Int.toNat_natCast] at hl
      repeat' fail "s"
      exact ⟨bs, _, rfl, hl, by assumption, rfl⟩
  · intro rs p' hp' hl hr
    rw [intsV_length] at hl
    repeat' fail "s"
    exact q rs _ hp' (by omega) hr
instance {n : Nat} {m : Int} : StC (Wp (rD (mkG T0 200 (k + 2)) d__law_rows [.ref 0, .int n, .int m] (Dc p t)) Q E) (p.ok ∧ n ≤ 100 ∧ 0 ≤ m ∧ m ≤ 100) (∀ (rs : List (List Bool)) (p' : Dz), p'.ok → rs.length ≤ m.toNat → (∀ r ∈ rs, r.length = n) → Q (.tup (rs.map rowV)) (Dc p' t)) := ⟨fun c => w_rows c.1 c.2.1 c.2.2.1 c.2.2.2⟩
end
end Wd

set_option Elab.async false
set_option linter.all false
set_option maxRecDepth 100000
set_option maxHeartbeats 4000000
namespace Wd
open PySem PySem.Spec PyProof.Rows L2
local macro_rules
  | `(tactic| fail "b") => `(tactic| first | assumption | (simp only [Bool.not_eq_true', Bool.not_eq_false', decide_eq_true_eq, decide_eq_false_iff_not]; first | assumption | omega) | decide +kernel)
local macro_rules
  | `(tactic| fail) => `(tactic| first | assumption | omega | (simp only [sizeLine_eq, S_len, str_len_app, List.length_append, List.length_cons, List.length_nil, List.length_map, intsV_length] at *; omega) | decide +kernel)
local macro_rules
  | `(tactic| fail "c") => `(tactic| first | fail | (refine ⟨?_, ?_⟩; (fail "c"); (fail "c")) | (refine .inl ?_; (fail "c")) | (refine .inr ?_; (fail "c")) | exact rfl)
local macro_rules
  | `(tactic| fail "e") => `(tactic| (simp (disch := first | assumption | omega) only [decide_eq_true, decide_eq_false, Bool.not_true, Bool.not_false]; first | assumption | exact rfl))
local macro_rules
  | `(tactic| fail "u") => `(tactic| refine Un.imp ?_)
local macro_rules
  | `(tactic| fail "s") => `(tactic| first
    | refine St.imp ?_
    | refine StC.imp (by fail "c") ?_
    | with_reducible refine i_dTR (by first | assumption | omega | decide +kernel) ?_ | with_reducible refine i_dFR (by first | assumption | omega | decide +kernel) ?_ | with_reducible refine i_dT (by first | assumption | omega | decide +kernel) ?_ | with_reducible refine i_dF (by first | assumption | omega | decide +kernel) ?_
    | with_reducible refine i_bTR (by fail "b") ?_ | with_reducible refine i_bFR (by fail "b") ?_ | with_reducible refine i_bT (by fail "b") ?_ | with_reducible refine i_bF (by fail "b") ?_ | with_reducible refine i_intT (by fail "b") ?_ | with_reducible refine i_intF (by fail "b") ?_
    | with_reducible refine i_orT (by fail "b") ?_ | with_reducible refine i_orF (by fail "b") ?_ | with_reducible refine i_andT (by fail "b") ?_ | with_reducible refine i_andF (by fail "b") ?_
    | ((with_reducible refine i_bO ?_ ?_); exact rfl)
    | ((with_reducible apply i_item); exact rfl)
    | ((with_reducible apply Wp_run); exact rfl)
    | with_reducible refine i_intB (fun _ => ?_) (fun _ => ?_) | with_reducible refine i_dR (fun _ => ?_) (fun _ => ?_) | with_reducible refine i_d (fun _ => ?_) (fun _ => ?_) | with_reducible refine i_orD (fun _ => ?_) (fun _ => ?_) | with_reducible refine i_andD (fun _ => ?_) (fun _ => ?_) | with_reducible refine i_bR (fun _ => ?_) (fun _ => ?_) | with_reducible refine i_b (fun _ => ?_) (fun _ => ?_) | with_reducible refine i_or (fun _ => ?_) (fun _ => ?_) | with_reducible refine i_and (fun _ => ?_) (fun _ => ?_) | with_reducible assumption | intro _)
section
variable {k : Nat} {p : Dz} {t h : Hs} {Q : Vl → Hs → Prop} {E : Vl → Hs → Prop} {T : Fl → Env → Hs → Prop}
theorem in_let : ∀ c ∈ LET, inS (S [c]) (Str.ofString "abcdefghijklmnopqrstuvwyz") = true := by decide +kernel
theorem in_dig : ∀ c ∈ DIG, inS (S [c]) (Str.ofString "0123456789") = true := by decide +kernel
theorem w_is_name {l : List Nat} (hl : IsN l) (q : Q (.bl true) h) : Wp (rD (mkG T0 200 (k + 1)) d_is_name [sL l] h) Q E := by
  fail "u"
  obtain ⟨hc, hz, hd⟩ := hl
  unfold sL
  have hin := in_let _ hc
  repeat' fail "s"
  refine w_map (fun _ => .bl true) (by fail) ?_ ?_
  · intro d hm
    have hin := in_dig d (hd d hm)
    repeat' fail "s"
    exact ⟨by rw [hin], rfl⟩
  · repeat' fail "s"
instance {l : List Nat} : StC (Wp (rD (mkG T0 200 (k + 1)) d_is_name [sL l] h) Q E) (IsN l) (Q (.bl true) h) := ⟨w_is_name⟩
theorem w_are_names {w : List (List Nat)} {lo hi : Int} (h1 : lo ≤ w.length) (h2 : w.length ≤ hi) (h3 : hi ≤ 1000) (hw : ∀ l ∈ w, IsN l) (q : Q (.bl true) h) : Wp (rD (mkG T0 200 (k + 2)) d_are_names [.tup (w.map sL), .int lo, .int hi] h) Q E := by
  fail "u"
  repeat' fail "s"
  refine w_map (fun _ => .bl true) (by fail) ?_ ?_
  · intro l hl
    have hn := hw l hl
    repeat' fail "s"
    exact ⟨rfl, rfl⟩
  · repeat' fail "s"
instance {w : List (List Nat)} {lo hi : Int} : StC (Wp (rD (mkG T0 200 (k + 2)) d_are_names [.tup (w.map sL), .int lo, .int hi] h) Q E) (lo ≤ w.length ∧ w.length ≤ hi ∧ hi ≤ 1000 ∧ ∀ l ∈ w, IsN l) (Q (.bl true) h) := ⟨fun c => w_are_names c.1 c.2.1 c.2.2.1 c.2.2.2⟩
/-! names in lists of names -/
def wPD (w : List (List Nat)) : List PyData := w.map fun l => .str (S l)
theorem toPDs_w : ∀ w : List (List Nat), toPDs (w.map sL) = some (wPD w)
  | [] => rfl
  | l :: w => by simp only [List.map_cons, toPDs, sL, toPD, toPDs_w w, wPD]
theorem toPD_w (w : List (List Nat)) : toPD (.tup (w.map sL)) = some (.tuple (wPD w)) := by simp only [toPD, toPDs_w, Option.map_some]
theorem toPDs_ws : ∀ ws : List (List (List Nat)), toPDs (ws.map wordV) = some (ws.map fun w => .tuple (wPD w))
  | [] => rfl
  | w :: ws => by simp only [List.map_cons, toPDs, wordV, toPD_w, toPDs_ws ws]
theorem wPD_lay {w : List (List Nat)} (hw : ∀ l ∈ w, IsN l) : PyData.canLayAll0 (wPD w) = true ∧ PyData.depthAll (wPD w) = 0 := by
  induction w with
  | nil => exact ⟨rfl, rfl⟩
  | cons l w ih =>
    obtain ⟨a, b⟩ := ih fun x hx => hw x (List.mem_cons_of_mem _ hx)
    obtain ⟨c, _⟩ := isN_ok (hw l (by simp))
    constructor
    · show (PyData.canLay0 (.str (S l)) && PyData.canLayAll0 (wPD w)) = true
      rw [a, Bool.and_true]; exact c
    · show max (PyData.depth (.str (S l))) (PyData.depthAll (wPD w)) = 0
      rw [b]; rfl
theorem wPD_sh {w : List (List Nat)} (hw : ∀ l ∈ w, IsN l) : SeqAt.shaped (.tuple (wPD w)) = true ∧ PyData.canLay0 (.tuple (wPD w)) = true ∧ PyData.depth (.tuple (wPD w)) = 1 := by
  obtain ⟨a, b⟩ := wPD_lay hw
  have d : PyData.depth (.tuple (wPD w)) = 1 := by simp only [PyData.depth, b]
  refine ⟨?_, a, d⟩
  show (PyData.canLay0 (.tuple (wPD w)) && decide (PyData.depth (.tuple (wPD w)) ≤ 64)) = true
  rw [d, show PyData.canLay0 (.tuple (wPD w)) = true from a]; rfl
theorem wsPD_sh {ws : List (List (List Nat))} (hw : ∀ w ∈ ws, ∀ l ∈ w, IsN l) : PyData.canLayAll0 (ws.map fun w => .tuple (wPD w)) = true ∧ PyData.depthAll (ws.map fun w => .tuple (wPD w)) ≤ 1 := by
  induction ws with
  | nil => exact ⟨rfl, Nat.zero_le _⟩
  | cons w ws ih =>
    obtain ⟨a, b⟩ := ih fun x hx => hw x (List.mem_cons_of_mem _ hx)
    obtain ⟨_, c, d⟩ := wPD_sh (hw w (by simp))
    constructor
    · show (PyData.canLay0 (.tuple (wPD w)) && _) = true
      rw [c]; exact a
    · show max (PyData.depth (.tuple (wPD w))) _ ≤ 1
      rw [d]; exact Nat.max_le.mpr ⟨Nat.le_refl _, b⟩
theorem wPD_eqv : ∀ v w : List (List Nat), PyData.eqvAll (wPD v) (wPD w) = decide (v = w)
  | [], [] => rfl
  | [], w :: ws => by simp [wPD, PyData.eqvAll]
  | v :: vs, [] => by simp [wPD, PyData.eqvAll]
  | v :: vs, w :: ws => by
    have e : PyData.eqvAll (wPD (v :: vs)) (wPD (w :: ws)) = (PyData.eqv (.str (S v)) (.str (S w)) && PyData.eqvAll (wPD vs) (wPD ws)) := rfl
    have e2 : PyData.eqv (.str (S v)) (.str (S w)) = decide (v = w) := by
      simp only [PyData.eqv]
      by_cases h : v = w
      · subst h; simp
      · have : S v ≠ S w := fun z => h (S_inj.mp z)
        rw [decide_eq_false h]
        simpa using this
    rw [e, e2, wPD_eqv vs ws]
    by_cases h : v = w
    · subst h; simp
    · simp [h]
theorem in_words (w : List (List Nat)) : ∀ ws : List (List (List Nat)), ((ws.map fun w => PyData.tuple (wPD w)).any fun z => PyData.eqv z (.tuple (wPD w))) = decide (w ∈ ws)
  | [] => rfl
  | v :: ws => by
    rw [List.map_cons, List.any_cons, in_words w ws]
    have e : PyData.eqv (.tuple (wPD v)) (.tuple (wPD w)) = decide (v = w) := by rw [PyData.eqv]; exact wPD_eqv v w
    rw [e]
    by_cases h : v = w
    · subst h; simp
    · have h' : ¬ w = v := fun z => h z.symm
      simp [h, h']
theorem inL_words {w : List (List Nat)} {ws : List (List (List Nat))} (hw : ∀ l ∈ w, IsN l) (hs : ∀ w ∈ ws, ∀ l ∈ w, IsN l) : inL (.tup (w.map sL)) (ws.map wordV) = some (decide (w ∈ ws)) := by
  obtain ⟨a, _, _⟩ := wPD_sh hw
  obtain ⟨b, c⟩ := wsPD_sh hs
  have d : SeqAt.shaped (.list (ws.map fun w => PyData.tuple (wPD w))) = true := by
    show (PyData.canLay0 (.list _) && decide (PyData.depth (.list _) ≤ 64)) = true
    rw [show PyData.canLay0 (.list (ws.map fun w => PyData.tuple (wPD w))) = true from b]
    have : PyData.depth (.list (ws.map fun w => PyData.tuple (wPD w))) ≤ 64 := by simp only [PyData.depth]; omega
    rw [decide_eq_true this]; rfl
  unfold inL
  rw [if_neg (by simp [flat])]
  unfold inD
  rw [toPD_w, toPDs_ws]
  simp only [a, d, Bool.and_self, if_true, in_words]
theorem notin_T {w : List (List Nat)} {ws : List (List (List Nat))} {h1 : Hs} (hw : ∀ l ∈ w, IsN l) (hs : ∀ w ∈ ws, ∀ l ∈ w, IsN l) : cmpV .NotIn h1 (.tup (w.map sL)) (.tup (ws.map wordV)) = some (!decide (w ∈ ws)) := by
  show (inVl h1 (.tup (w.map sL)) (.tup (ws.map wordV))).map not = _
  rw [show inVl h1 (.tup (w.map sL)) (.tup (ws.map wordV)) = inL (.tup (w.map sL)) (ws.map wordV) from rfl, inL_words hw hs]; rfl
theorem cutL_hi {α : Type} {f : α → Vl} {xs : List α} {i : Int} (h0 : 0 ≤ i) : cutL (xs.map f) none (some i) = (xs.take i.toNat).map f := by
  obtain ⟨n, rfl⟩ : ∃ n : Nat, i = n := ⟨i.toNat, by omega⟩
  unfold cutL
  rw [HT.sIx_none, HT.sIx_nat, List.length_map, List.drop_zero, Nat.sub_zero, List.map_take, Int.toNat_natCast]
  by_cases h : n ≤ xs.length
  · rw [Nat.min_eq_left h]
  · rw [Nat.min_eq_right (by omega), List.take_of_length_le (by rw [List.length_map]; exact Nat.le_refl _), List.take_of_length_le (by rw [List.length_map]; omega)]
theorem cutL_lo {α : Type} {f : α → Vl} {xs : List α} {i : Int} (h0 : 0 ≤ i) : cutL (xs.map f) (some i) none = (xs.drop i.toNat).map f := by
  obtain ⟨n, rfl⟩ : ∃ n : Nat, i = n := ⟨i.toNat, by omega⟩
  unfold cutL
  rw [HT.sIx_none, HT.sIx_nat, List.length_map, List.map_drop, Int.toNat_natCast]
  by_cases h : n ≤ xs.length
  · rw [Nat.min_eq_left h, List.take_of_length_le (by rw [List.length_drop, List.length_map]; exact Nat.le_refl _)]
  · rw [Nat.min_eq_right (by omega), List.drop_of_length_le (by rw [List.length_map]; exact Nat.le_refl _), List.drop_of_length_le (by rw [List.length_map]; omega), List.take_nil]
instance {i : Int} {Qo : Option Int → Hs → Prop} : St (Wp (partV (.int i) h) Qo E) (Qo (some i) h) := ⟨fun w => by rw [Wp_o]; exact w⟩
instance {α : Type} {f : α → Vl} {xs : List α} {i : Int} : StC (Wp (Rs.of (sliceV (.lst (xs.map f)) none (some i)) h) Q E) (0 ≤ i) (Q (.lst ((xs.take i.toNat).map f)) h) := ⟨fun c w => by rw [show sliceV (.lst (xs.map f)) none (some i) = some (.lst (cutL (xs.map f) none (some i))) from rfl, cutL_hi c, Wp_o]; exact w⟩
instance {α : Type} {f : α → Vl} {xs : List α} {i : Int} : StC (Wp (Rs.of (sliceV (.lst (xs.map f)) (some i) none) h) Q E) (0 ≤ i) (Q (.lst ((xs.drop i.toNat).map f)) h) := ⟨fun c w => by rw [show sliceV (.lst (xs.map f)) (some i) none = some (.lst (cutL (xs.map f) (some i) none)) from rfl, cutL_lo c, Wp_o]; exact w⟩
instance {α : Type} {f : α → Vl} {xs : List α} {i : Int} : StC (Wp (Rs.of (sliceV (.tup (xs.map f)) none (some i)) h) Q E) (0 ≤ i) (Q (.tup ((xs.take i.toNat).map f)) h) := ⟨fun c w => by rw [show sliceV (.tup (xs.map f)) none (some i) = some (.tup (cutL (xs.map f) none (some i))) from rfl, cutL_hi c, Wp_o]; exact w⟩
instance {α : Type} {f : α → Vl} {xs : List α} {i : Int} : StC (Wp (Rs.of (sliceV (.tup (xs.map f)) (some i) none) h) Q E) (0 ≤ i) (Q (.tup ((xs.drop i.toNat).map f)) h) := ⟨fun c w => by rw [show sliceV (.tup (xs.map f)) (some i) none = some (.tup (cutL (xs.map f) (some i) none)) from rfl, cutL_lo c, Wp_o]; exact w⟩
instance {α : Type} {f : α → Vl} {xs : List α} : St (Wp (Rs.of (revV (.lst (xs.map f))) h) Q E) (Q (.lst (xs.reverse.map f)) h) := ⟨fun w => by
  rw [show revV (.lst (xs.map f)) = some (.lst (xs.reverse.map f)) by simp only [revV, List.map_reverse], Wp_o]; exact w⟩
theorem in_T {w : List (List Nat)} {ws : List (List (List Nat))} {h1 : Hs} (hw : ∀ l ∈ w, IsN l) (hs : ∀ w ∈ ws, ∀ l ∈ w, IsN l) : cmpV .In h1 (.tup (w.map sL)) (.tup (ws.map wordV)) = some (decide (w ∈ ws)) := by
  show inVl h1 (.tup (w.map sL)) (.tup (ws.map wordV)) = _
  rw [show inVl h1 (.tup (w.map sL)) (.tup (ws.map wordV)) = inL (.tup (w.map sL)) (ws.map wordV) from rfl, inL_words hw hs]
theorem in_Ls {w : List (List Nat)} {ws : List (List (List Nat))} {h1 : Hs} (hw : ∀ l ∈ w, IsN l) (hs : ∀ w ∈ ws, ∀ l ∈ w, IsN l) : cmpV .In h1 (.tup (w.map sL)) (.lst (ws.map wordV)) = some (decide (w ∈ ws)) := by
  show inVl h1 (.tup (w.map sL)) (.lst (ws.map wordV)) = _
  rw [show inVl h1 (.tup (w.map sL)) (.lst (ws.map wordV)) = inL (.tup (w.map sL)) (ws.map wordV) from rfl, inL_words hw hs]
instance {w : List (List Nat)} {ws : List (List (List Nat))} {h1 : Hs} : StC (Wp (Rs.of ((cmpV .In h1 (.tup (w.map sL)) (.tup (ws.map wordV))).map .bl) h) Q E) ((∀ l ∈ w, IsN l) ∧ ∀ w ∈ ws, ∀ l ∈ w, IsN l) (Q (.bl (decide (w ∈ ws))) h) := ⟨fun c => i_cmp (in_T c.1 c.2)⟩
instance {w : List (List Nat)} {ws : List (List (List Nat))} {h1 : Hs} : StC (Wp (Rs.of ((cmpV .In h1 (.tup (w.map sL)) (.lst (ws.map wordV))).map .bl) h) Q E) ((∀ l ∈ w, IsN l) ∧ ∀ w ∈ ws, ∀ l ∈ w, IsN l) (Q (.bl (decide (w ∈ ws))) h) := ⟨fun c => i_cmp (in_Ls c.1 c.2)⟩
/-- atoms of a world -/
structure AOk (ws : List (List (List Nat))) : Prop where
  n : ∀ w ∈ ws, isWd 1 30 w
  d : ws.Nodup
  l : ws.length ≤ 6
theorem AOk.ns {ws : List (List (List Nat))} (h : AOk ws) : ∀ w ∈ ws, ∀ l ∈ w, IsN l := fun w hw => (h.n w hw).2.2
theorem nodup_snoc {α : Type} {xs : List α} {x : α} (h : xs.Nodup) (hx : ¬ x ∈ xs) : (xs ++ [x]).Nodup := by
  rw [List.nodup_append]
  refine ⟨h, by simp, fun a ha b hb => ?_⟩
  rw [List.mem_singleton.mp hb]
  exact fun z => hx (z ▸ ha)
theorem w_atoms (hp : p.ok) (q : ∀ (ws : List (List (List Nat))) (p' : Dz), p'.ok → AOk ws → Q (.tup (ws.map wordV)) (Dc p' t)) : Wp (rD (mkG T0 200 (k + 3)) d__law_atoms [.ref 0] (Dc p t)) Q E := by
  fail "u"
  repeat' fail "s"
  rename_i i p2 hp2 hi0 hi1
  refine w_forL (P := fun xs ρ h' => ∃ (p' : Dz) (ws : List (List (List Nat))) (a b c d : Option Vl), p'.ok ∧ h' = Dc p' t ∧ (∀ w ∈ ws, isWd 1 30 w) ∧ ws.Nodup ∧ ws.length + xs.length ≤ 6 ∧ ρ = [some (.ref 0), some (.lst (ws.map wordV)), a, b, c, d]) ?_ ?_ ?_
  · refine ⟨p2, [], _, _, _, _, hp2, rfl, (fun _ z => nomatch z), List.nodup_nil, ?_, rfl⟩
    rw [intsV_length]; simp only [List.length_nil]; omega
  · rintro x r ρ h' ⟨p', ws, a, b, c, d, hp', rfl, hw, hd, hl, rfl⟩
    have hns : ∀ w ∈ ws, ∀ l ∈ w, IsN l := fun w h => (hw w h).2.2
    simp only [List.length_cons] at hl
    refine ⟨_, Bd.eq, ?_⟩
    repeat' fail "s"
    all_goals
      refine w_drawD (β := List Nat) (enc := sL) (P := IsN) (by assumption) (by fail) ?_ ?_
      · intro x hx p' hp'
        repeat' fail "s"
        exact ⟨_, _, rfl, by assumption, by assumption, rfl⟩
      · intro w p' hp' hlw hww
        rw [intsV_length] at hlw
        have hwd : isWd 1 30 w := ⟨by omega, by omega, hww⟩
        repeat' fail "s"
        · exact ⟨p', ws, _, _, _, _, hp', rfl, hw, hd, by omega, rfl⟩
        · rename_i hni
          refine ⟨p', ws ++ [w], _, _, _, _, hp', rfl, ?_, nodup_snoc hd hni, by rw [List.length_append, List.length_singleton]; omega, by rw [List.map_append]; rfl⟩
          intro v hv
          rcases List.mem_append.mp hv with z | z
          · exact hw v z
          · rw [List.mem_singleton.mp z]; exact hwd
  · rintro ρ h' ⟨p', ws, a, b, c, d, hp', rfl, hw, hd, hl, rfl⟩
    repeat' fail "s"
    exact q ws _ hp' ⟨hw, hd, by omega⟩
instance : StC (Wp (rD (mkG T0 200 (k + 3)) d__law_atoms [.ref 0] (Dc p t)) Q E) p.ok (∀ (ws : List (List (List Nat))) (p' : Dz), p'.ok → AOk ws → Q (.tup (ws.map wordV)) (Dc p' t)) := ⟨w_atoms⟩
/-! a world -/
structure Wl where
  ws : List (List (List Nat))
  rs : List (List Bool)
  deriving DecidableEq
structure Wl.ok (W : Wl) : Prop where
  a : AOk W.ws
  r : ∀ r ∈ W.rs, r.length = W.ws.length
  m : W.rs.length ≤ 11
def Wl.A (W : Wl) : Vl := .tup (W.ws.map wordV)
def Wl.R (W : Wl) : Vl := .tup (W.rs.map rowV)
def Wl.tV (W : Wl) : Vl := .tup [W.A, W.R]
def Wl.v (W : Wl) : Vl := .ins "World" [("told", W.tV)]
theorem w_check_atoms {ws : List (List (List Nat))} (ha : AOk ws) (q : Q .non h) : Wp (rD (mkG T0 200 (k + 3)) d_check_atoms [.tup (ws.map wordV)] h) Q E := by
  fail "u"
  repeat' fail "s"
  refine w_forL (P := fun xs ρ h' => h' = h ∧ ∃ (i : Nat) (a b : Option Vl), xs = enumV i ((ws.drop i).map wordV) ∧ ρ = [some (.tup (ws.map wordV)), a, b]) ?_ ?_ ?_
  · exact ⟨rfl, 0, _, _, rfl, rfl⟩
  · rintro x r ρ h' ⟨rfl, i, a, b, hx, rfl⟩
    have hi : i < ws.length := by
      apply Classical.byContradiction
      intro z
      rw [List.drop_of_length_le (by omega)] at hx
      cases hx
    rw [List.drop_eq_getElem_cons hi] at hx
    simp only [List.map_cons, enumV, List.cons.injEq] at hx
    obtain ⟨rfl, rfl⟩ := hx
    obtain ⟨w, hw⟩ : ∃ w, w = ws[i] := ⟨_, rfl⟩
    have hm : w ∈ ws := by rw [hw]; exact List.getElem_mem hi
    obtain ⟨h1, h2, h3⟩ := ha.n w hm
    have hns := ha.ns
    have hl := ha.l
    have hts : ∀ v ∈ ws.take (Int.toNat i), ∀ l ∈ v, IsN l := fun v hv => hns v (List.mem_of_mem_take hv)
    have hni : ¬ w ∈ ws.take (Int.toNat i) := by
      rw [Int.toNat_natCast]
      intro z
      obtain ⟨j, hj, e⟩ := List.mem_take_iff_getElem.mp z
      have e2 : ws[j] = ws[i] := by rw [e, hw]
      exact (List.pairwise_iff_getElem.mp ha.d) j i (by omega) hi (by omega) e2
    rw [← hw]
    refine ⟨_, Bd.eq, ?_⟩
    rw [show wordV w = .tup (w.map sL) from rfl]
    repeat' fail "s"
    exact ⟨rfl, i + 1, _, _, rfl, rfl⟩
  · rintro ρ h' ⟨rfl, i, a, b, hx, rfl⟩
    repeat' fail "s"
instance {ws : List (List (List Nat))} : StC (Wp (rD (mkG T0 200 (k + 3)) d_check_atoms [.tup (ws.map wordV)] h) Q E) (AOk ws) (Q .non h) := ⟨w_check_atoms⟩
theorem w_is_row {r : List Bool} (hr : r.length ≤ 1000) (q : Q (.bl true) h) : Wp (rD (mkG T0 200 (k + 1)) d_is_row [rowV r, .int r.length] h) Q E := by
  fail "u"
  unfold rowV
  repeat' fail "s"
  all_goals first
    | (refine w_map (enc := Vl.bl) (fun _ => .bl true) (by fail) ?_ ?_
       · intro b _
         repeat' fail "s"
         exact ⟨rfl, rfl⟩
       · repeat' fail "s")
    | exact absurd rfl (by assumption)
    | trace_state
instance {r : List Bool} : StC (Wp (rD (mkG T0 200 (k + 1)) d_is_row [rowV r, .int r.length] h) Q E) (r.length ≤ 1000) (Q (.bl true) h) := ⟨w_is_row⟩
theorem w_check_rows {rs : List (List Bool)} {n : Nat} (hn : n ≤ 1000) (hr : ∀ r ∈ rs, r.length = n) (q : Q .non h) : Wp (rD (mkG T0 200 (k + 3)) d_check_rows [.tup (rs.map rowV), .int n] h) Q E := by
  fail "u"
  repeat' fail "s"
  refine w_forL (P := fun xs ρ h' => h' = h ∧ ∃ (i : Int) (ss : List (List Bool)) (a b : Option Vl), xs = enumV i (ss.map rowV) ∧ (∀ r ∈ ss, r.length = n) ∧ ρ = [some (.tup (rs.map rowV)), some (.int n), a, b]) ?_ ?_ ?_
  · exact ⟨rfl, 0, rs, _, _, rfl, hr, rfl⟩
  · rintro x r ρ h' ⟨rfl, i, ss, a, b, hx, hs, rfl⟩
    obtain ⟨s, ss', rfl⟩ : ∃ l r, ss = l :: r := by
      cases ss with
      | nil => cases hx
      | cons l r => exact ⟨l, r, rfl⟩
    simp only [List.map_cons, enumV, List.cons.injEq] at hx
    obtain ⟨rfl, rfl⟩ := hx
    have hsn := hs s (by simp)
    refine ⟨_, Bd.eq, ?_⟩
    rw [← hsn] at hn
    repeat' fail "s"
    rw [← hsn]
    repeat' fail "s"
    exact ⟨rfl, i + 1, ss', _, _, rfl, fun r h => (hs r (List.mem_cons_of_mem _ h)).trans hsn.symm, rfl⟩
  · rintro ρ h' ⟨rfl, i, ss, a, b, hx, hs, rfl⟩
    repeat' fail "s"
instance {rs : List (List Bool)} {n : Nat} : StC (Wp (rD (mkG T0 200 (k + 3)) d_check_rows [.tup (rs.map rowV), .int n] h) Q E) (n ≤ 1000 ∧ ∀ r ∈ rs, r.length = n) (Q .non h) := ⟨fun c => w_check_rows c.1 c.2⟩
theorem w_World_init {W : Wl} (hW : W.ok) (q : Q .non (h ++ [some (.ins "World" [("told", W.tV)])])) : Wp (rD (mkG T0 200 (k + 4)) d_World_init [.ref h.length, .tup (W.ws.map wordV), .tup (W.rs.map rowV)] (h ++ [some (.ins "World" [])])) Q E := by
  fail "u"
  have ha := hW.a
  have hr := hW.r
  have hl : W.ws.length ≤ 1000 := by have := ha.l; omega
  repeat' fail "s"
  exact q
theorem ok_ws (n : Nat) : ∀ ws : List (List (List Nat)), okL n (ws.map wordV) = true
  | [] => rfl
  | a :: r => by
    have hw : ∀ w : List (List Nat), okL n (w.map sL) = true := by
      intro w
      induction w with
      | nil => rfl
      | cons a r ih => simp only [List.map_cons, okL, sL, okV, ih, Bool.and_self]
    simp only [List.map_cons, okL, wordV, okV, hw, ok_ws n r, Bool.and_self]
theorem ok_rs (n : Nat) : ∀ rs : List (List Bool), okL n (rs.map rowV) = true
  | [] => rfl
  | a :: r => by
    have hw : ∀ w : List Bool, okL n (w.map Vl.bl) = true := by
      intro w
      induction w with
      | nil => rfl
      | cons a r ih => simp only [List.map_cons, okL, okV, ih, Bool.and_self]
    simp only [List.map_cons, okL, rowV, okV, hw, ok_rs n r, Bool.and_self]
theorem w_mkWorld {W : Wl} {vs ws : List Vl} {ks : List Str} (hW : W.ok) (hb : bindV d_World_init (.ref h.length :: vs) ks ws = some [.ref h.length, .tup (W.ws.map wordV), .tup (W.rs.map rowV)]) (q : Q W.v h) : Wp (mO (mkG T0 200 (k + 4)) c_World vs ks ws h) Q E :=
  i_make (c := c_World) rfl rfl hb (w_World_init hW ⟨rfl, _, rfl, by simp only [okF, okP, Wl.tV, Wl.A, Wl.R, okV, okL, ok_ws, ok_rs, Bool.and_self], q⟩)
theorem w_mkW {W : Wl} (hW : W.ok) (q : Q W.v h) : Wp (mO (mkG T0 200 (k + 4)) c_World [.tup (W.ws.map wordV), .tup (W.rs.map rowV)] [] [] h) Q E := w_mkWorld hW (by kernel_rfl) q
theorem w_mkWk {W : Wl} (hW : W.ok) (q : Q W.v h) : Wp (mO (mkG T0 200 (k + 4)) c_World [] ["rows", "atoms"] [.tup (W.rs.map rowV), .tup (W.ws.map wordV)] h) Q E := w_mkWorld hW (by kernel_rfl) q
end
end Wd

set_option Elab.async false
set_option linter.all false
set_option maxRecDepth 100000
set_option maxHeartbeats 4000000
namespace Wd
open PySem PySem.Spec PyProof.Rows L2
open PySem.Builtin PySem.Builtin.Str
/-! data of plain texts and digits are told by their repr -/
def cl (s : Str) : List Nat := s.cps.toList
theorem cl_app (a b : Str) : cl (a ++ b) = cl a ++ cl b := by
  show (a.cps ++ b.cps).toList = _
  rw [Array.toList_append]; rfl
theorem cl_inj {a b : Str} (h : cl a = cl b) : a = b := by
  have e : S (cl a) = S (cl b) := by rw [h]
  unfold cl at e
  rw [S_list, S_list] at e
  exact e
/-- a text without quotes, backslashes, of signs that are shown as they are -/
def plS (x : Str) : Bool := (cl x).all fun c => decide (32 ≤ c) && decide (c < 127) && decide (c ≠ 39) && decide (c ≠ 92)
mutual
def plD : PyData → Bool
  | .none => true
  | .bool _ => true
  | .int i => decide (0 ≤ i) && decide (i ≤ 9)
  | .str x => plS x
  | .list xs => plDs xs
  | .tuple xs => plDs xs
  | .dict _ => false
def plDs : List PyData → Bool
  | [] => true
  | x :: xs => plD x && plDs xs
end
theorem rpc_plain {c : Nat} (h1 : 32 ≤ c) (h2 : c < 127) (h3 : c ≠ 39) (h4 : c ≠ 92) : reprChar 39 c = [c] := by
  have : ∀ c : _root_.Fin 127, 32 ≤ c.val → c.val ≠ 39 → c.val ≠ 92 → reprChar 39 c.val = [c.val] := by decide +kernel
  exact this ⟨c, h2⟩ h1 h3 h4
theorem pl_repr {x : Str} (h : plS x = true) : cl (reprText x) = 39 :: (cl x ++ [39]) := by
  have hq : reprQuote x = 39 := by
    unfold reprQuote
    have : x.cps.contains 39 = false := by
      rw [Bool.eq_false_iff]
      intro z
      rw [Array.contains_iff_mem] at z
      have z2 : 39 ∈ cl x := Array.mem_toList_iff.mpr z
      have := List.all_eq_true.mp h 39 z2
      simp at this
    rw [this]; rfl
  have key : ∀ (l : List Nat) (acc : Array Nat), (l.all fun c => decide (32 ≤ c) && decide (c < 127) && decide (c ≠ 39) && decide (c ≠ 92)) = true → (l.foldl (fun out c => out ++ (reprChar 39 c).toArray) acc).toList = acc.toList ++ l := by
    intro l
    induction l with
    | nil => intro acc _; simp
    | cons c r ih =>
      intro acc h
      simp only [List.all_cons, Bool.and_eq_true, decide_eq_true_eq] at h
      rw [List.foldl_cons, ih _ h.2, rpc_plain h.1.1.1.1 h.1.1.1.2 h.1.1.2 h.1.2]
      simp
  unfold reprText
  rw [hq]
  show ((x.cps.foldl (fun out c => out ++ (reprChar 39 c).toArray) #[39]).push 39).toList = _
  rw [Array.toList_push, ← Array.foldl_toList]
  have z := key (cl x) #[39] h
  unfold cl at z ⊢
  rw [z]
  simp
/-- behind an item -/
def dlm (r : List Nat) : Bool := match r with
  | [] => true
  | c :: _ => c == 44 || c == 41 || c == 93
theorem cl_none : cl (PyData.shown .none) = [78, 111, 110, 101] := by decide +kernel
theorem cl_true : cl (PyData.shown (.bool true)) = [84, 114, 117, 101] := by decide +kernel
theorem cl_false : cl (PyData.shown (.bool false)) = [70, 97, 108, 115, 101] := by decide +kernel
theorem cl_int {i : Int} (h0 : 0 ≤ i) (h1 : i ≤ 9) : cl (PyData.shown (.int i)) = [48 + i.toNat] := by
  have : i = 0 ∨ i = 1 ∨ i = 2 ∨ i = 3 ∨ i = 4 ∨ i = 5 ∨ i = 6 ∨ i = 7 ∨ i = 8 ∨ i = 9 := by omega
  rcases this with rfl | rfl | rfl | rfl | rfl | rfl | rfl | rfl | rfl | rfl <;> decide +kernel
/-- what stands behind the bracket of a tuple, between its items -/
def tU : List PyData → List Nat
  | [] => [41]
  | [x] => cl x.shown ++ [41]
  | x :: y :: r => cl x.shown ++ (44 :: 32 :: tU (y :: r))
def uT : List PyData → List Nat
  | [] => [41]
  | [x] => cl x.shown ++ [44, 41]
  | xs => tU xs
def lT : List PyData → List Nat
  | [] => [93]
  | [x] => cl x.shown ++ [93]
  | x :: y :: r => cl x.shown ++ (44 :: 32 :: lT (y :: r))
theorem cl_join : ∀ (x y : PyData) (r : List PyData), cl (Str.join ", " (PyData.shownAll (x :: y :: r))) ++ [41] = tU (x :: y :: r)
  | x, y, [] => by
    have e : Str.join ", " (PyData.shownAll [x, y]) = x.shown ++ (", " : Str) ++ y.shown := rfl
    rw [e, cl_app, cl_app, show cl (", " : Str) = [44, 32] from by decide +kernel]
    simp [tU]
  | x, y, z :: r => by
    have e : Str.join ", " (PyData.shownAll (x :: y :: z :: r)) = x.shown ++ (", " : Str) ++ Str.join ", " (PyData.shownAll (y :: z :: r)) := rfl
    rw [e, cl_app, cl_app, show cl (", " : Str) = [44, 32] from by decide +kernel, List.append_assoc, cl_join y z r]
    simp [tU]
theorem cl_tup : ∀ xs : List PyData, cl (PyData.shown (.tuple xs)) = 40 :: uT xs
  | [] => by decide +kernel
  | [x] => by
    have e : PyData.shown (.tuple [x]) = ("(" : Str) ++ x.shown ++ (",)" : Str) := rfl
    rw [e, cl_app, cl_app, show cl ("(" : Str) = [40] from by decide +kernel, show cl (",)" : Str) = [44, 41] from by decide +kernel]
    simp [uT]
  | x :: y :: r => by
    have e : PyData.shown (.tuple (x :: y :: r)) = ("(" : Str) ++ Str.join ", " (PyData.shownAll (x :: y :: r)) ++ (")" : Str) := rfl
    rw [e, cl_app, cl_app, show cl ("(" : Str) = [40] from by decide +kernel, show cl (")" : Str) = [41] from by decide +kernel, List.append_assoc, cl_join]
    simp [uT]
/-- how an item begins -/
def hdD : PyData → List Nat
  | .none => [78] | .bool true => [84] | .bool false => [70] | .int i => [48 + i.toNat] | .str _ => [39] | .tuple _ => [40] | _ => []
def noL : PyData → Bool
  | .list _ => false
  | .tuple xs => noLs xs
  | .dict _ => false
  | _ => true
where noLs : List PyData → Bool
  | [] => true
  | x :: xs => noL x && noLs xs
theorem quote_inj : ∀ {a b : List Nat} {r s : List Nat}, (∀ c ∈ a, c ≠ 39) → (∀ c ∈ b, c ≠ 39) → a ++ 39 :: r = b ++ 39 :: s → a = b ∧ r = s
  | [], [], r, s, _, _, h => by simpa using h
  | [], c :: b, r, s, _, hb, h => by
    simp only [List.nil_append, List.cons_append, List.cons.injEq] at h
    exact absurd h.1.symm (hb c (by simp))
  | c :: a, [], r, s, ha, _, h => by
    simp only [List.nil_append, List.cons_append, List.cons.injEq] at h
    exact absurd h.1 (ha c (by simp))
  | c :: a, d :: b, r, s, ha, hb, h => by
    simp only [List.cons_append, List.cons.injEq] at h
    obtain ⟨e1, e2⟩ := quote_inj (fun x hx => ha x (List.mem_cons_of_mem _ hx)) (fun x hx => hb x (List.mem_cons_of_mem _ hx)) h.2
    exact ⟨by rw [h.1, e1], e2⟩
theorem pl_no39 {x : Str} (h : plS x = true) : ∀ c ∈ cl x, c ≠ 39 := fun c hc => by
  have := List.all_eq_true.mp h c hc
  simp only [Bool.and_eq_true, decide_eq_true_eq] at this
  exact this.1.2
theorem cl_str {x : Str} (h : plD (.str x) = true) : cl (PyData.shown (.str x)) = 39 :: (cl x ++ [39]) := pl_repr h
theorem hd_ne {d : PyData} (h : plD d = true) (hl : noL d = true) : ∃ c r, cl d.shown = c :: r ∧ c ≠ 41 := by
  cases d with
  | none => exact ⟨_, _, cl_none, by decide⟩
  | bool b => cases b with
    | true => exact ⟨_, _, cl_true, by decide⟩
    | false => exact ⟨_, _, cl_false, by decide⟩
  | int i =>
    simp only [plD, Bool.and_eq_true, decide_eq_true_eq] at h
    exact ⟨_, _, cl_int h.1 h.2, by omega⟩
  | str x => exact ⟨_, _, cl_str h, by decide⟩
  | list _ => cases hl
  | tuple xs => exact ⟨_, _, cl_tup xs, by decide⟩
  | dict _ => cases hl
mutual
theorem sh_inj : ∀ (d e : PyData) (r s : List Nat), plD d = true → plD e = true → noL d = true → noL e = true → cl d.shown ++ r = cl e.shown ++ s → d = e ∧ r = s
  | .tuple xs, e, r, s, hd, he, ld, le, h => by
    cases e with
    | tuple ys =>
      rw [cl_tup, cl_tup, List.cons_append, List.cons_append, List.cons.injEq] at h
      obtain ⟨e1, e2⟩ := uT_inj xs ys r s hd he ld le h.2
      exact ⟨by rw [e1], e2⟩
    | none => rw [cl_tup, cl_none] at h; simp at h
    | bool b => cases b <;> simp only [cl_tup, cl_true, cl_false] at h <;> simp at h
    | int j => simp only [plD, Bool.and_eq_true, decide_eq_true_eq] at he; rw [cl_tup, cl_int he.1 he.2] at h; simp at h; omega
    | str y => rw [cl_tup, cl_str he] at h; simp at h
    | list _ => cases le
    | dict _ => cases le
  | .none, e, r, s, hd, he, ld, le, h => by
    cases e with
    | none => rw [cl_none] at h; exact ⟨rfl, List.append_cancel_left h⟩
    | tuple ys => rw [cl_tup, cl_none] at h; simp at h
    | bool b => cases b <;> simp only [cl_none, cl_true, cl_false] at h <;> simp at h
    | int j => simp only [plD, Bool.and_eq_true, decide_eq_true_eq] at he; rw [cl_none, cl_int he.1 he.2] at h; simp at h; omega
    | str y => rw [cl_none, cl_str he] at h; simp at h
    | list _ => cases le
    | dict _ => cases le
  | .bool b, e, r, s, hd, he, ld, le, h => by
    cases e with
    | bool c =>
      cases b <;> cases c <;> simp only [cl_true, cl_false] at h
      · exact ⟨rfl, List.append_cancel_left h⟩
      · simp at h
      · simp at h
      · exact ⟨rfl, List.append_cancel_left h⟩
    | none => cases b <;> simp only [cl_none, cl_true, cl_false] at h <;> simp at h
    | tuple ys => cases b <;> simp only [cl_tup, cl_true, cl_false] at h <;> simp at h
    | int j => simp only [plD, Bool.and_eq_true, decide_eq_true_eq] at he; cases b <;> simp only [cl_int he.1 he.2, cl_true, cl_false] at h <;> simp at h <;> omega
    | str y => cases b <;> simp only [cl_str he, cl_true, cl_false] at h <;> simp at h
    | list _ => cases le
    | dict _ => cases le
  | .int i, e, r, s, hd, he, ld, le, h => by
    simp only [plD, Bool.and_eq_true, decide_eq_true_eq] at hd
    cases e with
    | int j =>
      simp only [plD, Bool.and_eq_true, decide_eq_true_eq] at he
      rw [cl_int hd.1 hd.2, cl_int he.1 he.2] at h
      simp only [List.cons_append, List.nil_append, List.cons.injEq] at h
      exact ⟨by have : i = j := by omega
                rw [this], h.2⟩
    | none => rw [cl_none, cl_int hd.1 hd.2] at h; simp at h; omega
    | tuple ys => rw [cl_tup, cl_int hd.1 hd.2] at h; simp at h; omega
    | bool b => cases b <;> simp only [cl_int hd.1 hd.2, cl_true, cl_false] at h <;> simp at h <;> omega
    | str y => rw [cl_str he, cl_int hd.1 hd.2] at h; simp at h; omega
    | list _ => cases le
    | dict _ => cases le
  | .str x, e, r, s, hd, he, ld, le, h => by
    cases e with
    | str y =>
      rw [cl_str hd, cl_str he] at h
      simp only [List.cons_append, List.append_assoc, List.nil_append, List.cons.injEq, true_and] at h
      obtain ⟨e1, e2⟩ := quote_inj (pl_no39 hd) (pl_no39 he) h
      exact ⟨by rw [cl_inj e1], e2⟩
    | none => rw [cl_none, cl_str hd] at h; simp at h
    | tuple ys => rw [cl_tup, cl_str hd] at h; simp at h
    | bool b => cases b <;> simp only [cl_str hd, cl_true, cl_false] at h <;> simp at h
    | int j => simp only [plD, Bool.and_eq_true, decide_eq_true_eq] at he; rw [cl_str hd, cl_int he.1 he.2] at h; simp at h; omega
    | list _ => cases le
    | dict _ => cases le
  | .list _, _, _, _, _, _, ld, _, _ => by cases ld
  | .dict _, _, _, _, _, _, ld, _, _ => by cases ld
theorem uU_inj : ∀ (xs ys : List PyData) (r s : List Nat), xs ≠ [] → ys ≠ [] → plDs xs = true → plDs ys = true → noL.noLs xs = true → noL.noLs ys = true → tU xs ++ r = tU ys ++ s → xs = ys ∧ r = s
  | [], _, _, _, h, _, _, _, _, _, _ => absurd rfl h
  | _, [], _, _, _, h, _, _, _, _, _ => absurd rfl h
  | [x], [y], r, s, _, _, hx, hy, lx, ly, h => by
    simp only [plDs, Bool.and_true] at hx hy
    simp only [noL.noLs, Bool.and_true] at lx ly
    simp only [tU, List.append_assoc] at h
    obtain ⟨e1, e2⟩ := sh_inj x y _ _ hx hy lx ly h
    simp only [List.cons_append, List.nil_append, List.cons.injEq, true_and] at e2
    exact ⟨by rw [e1], e2⟩
  | [x], y :: z :: w, r, s, _, _, hx, hy, lx, ly, h => by
    simp only [plDs, Bool.and_true, Bool.and_eq_true] at hx hy
    simp only [noL.noLs, Bool.and_true, Bool.and_eq_true] at lx ly
    simp only [tU, List.append_assoc] at h
    obtain ⟨_, e2⟩ := sh_inj x y _ _ hx hy.1 lx ly.1 h
    simp at e2
  | x :: z :: w, [y], r, s, _, _, hx, hy, lx, ly, h => by
    simp only [plDs, Bool.and_true, Bool.and_eq_true] at hx hy
    simp only [noL.noLs, Bool.and_true, Bool.and_eq_true] at lx ly
    simp only [tU, List.append_assoc] at h
    obtain ⟨_, e2⟩ := sh_inj x y _ _ hx.1 hy lx.1 ly h
    simp at e2
  | x :: z :: w, y :: u :: v, r, s, _, _, hx, hy, lx, ly, h => by
    rw [plDs, Bool.and_eq_true] at hx hy
    rw [noL.noLs, Bool.and_eq_true] at lx ly
    simp only [tU, List.append_assoc] at h
    obtain ⟨e1, e2⟩ := sh_inj x y _ _ hx.1 hy.1 lx.1 ly.1 h
    simp only [List.cons_append, List.cons.injEq, true_and] at e2
    obtain ⟨e3, e4⟩ := uU_inj (z :: w) (u :: v) r s (by simp) (by simp) hx.2 hy.2 lx.2 ly.2 e2
    exact ⟨by rw [e1, e3], e4⟩
theorem uT_inj : ∀ (xs ys : List PyData) (r s : List Nat), plDs xs = true → plDs ys = true → noL.noLs xs = true → noL.noLs ys = true → uT xs ++ r = uT ys ++ s → xs = ys ∧ r = s
  | [], [], r, s, _, _, _, _, h => ⟨rfl, List.append_cancel_left h⟩
  | [], y :: v, r, s, _, hy, _, ly, h => by
    rw [plDs, Bool.and_eq_true] at hy
    rw [noL.noLs, Bool.and_eq_true] at ly
    obtain ⟨c, q, e, hc⟩ := hd_ne hy.1 ly.1
    cases v with
    | nil => simp only [uT, e, List.cons_append, List.cons.injEq] at h; exact absurd h.1.symm hc
    | cons a b => simp only [uT, tU, e, List.cons_append, List.cons.injEq] at h; exact absurd h.1.symm hc
  | x :: w, [], r, s, hx, _, lx, _, h => by
    rw [plDs, Bool.and_eq_true] at hx
    rw [noL.noLs, Bool.and_eq_true] at lx
    obtain ⟨c, q, e, hc⟩ := hd_ne hx.1 lx.1
    cases w with
    | nil => simp only [uT, e, List.cons_append, List.cons.injEq] at h; exact absurd h.1 hc
    | cons a b => simp only [uT, tU, e, List.cons_append, List.cons.injEq] at h; exact absurd h.1 hc
  | [x], [y], r, s, hx, hy, lx, ly, h => by
    simp only [plDs, Bool.and_true] at hx hy
    simp only [noL.noLs, Bool.and_true] at lx ly
    simp only [uT, List.append_assoc] at h
    obtain ⟨e1, e2⟩ := sh_inj x y _ _ hx hy lx ly h
    simp only [List.cons_append, List.nil_append, List.cons.injEq, true_and] at e2
    exact ⟨by rw [e1], e2⟩
  | [x], y :: z :: w, r, s, hx, hy, lx, ly, h => by
    simp only [plDs, Bool.and_true, Bool.and_eq_true] at hx hy
    simp only [noL.noLs, Bool.and_true, Bool.and_eq_true] at lx ly
    simp only [uT, tU, List.append_assoc] at h
    obtain ⟨_, e2⟩ := sh_inj x y _ _ hx hy.1 lx ly.1 h
    simp at e2
  | x :: z :: w, [y], r, s, hx, hy, lx, ly, h => by
    simp only [plDs, Bool.and_true, Bool.and_eq_true] at hx hy
    simp only [noL.noLs, Bool.and_true, Bool.and_eq_true] at lx ly
    simp only [uT, tU, List.append_assoc] at h
    obtain ⟨_, e2⟩ := sh_inj x y _ _ hx.1 hy lx.1 ly h
    simp at e2
  | x :: z :: w, y :: u :: v, r, s, hx, hy, lx, ly, h => by
    rw [plDs, Bool.and_eq_true] at hx hy
    rw [noL.noLs, Bool.and_eq_true] at lx ly
    simp only [uT, tU, List.append_assoc] at h
    obtain ⟨e1, e2⟩ := sh_inj x y _ _ hx.1 hy.1 lx.1 ly.1 h
    simp only [List.cons_append, List.cons.injEq, true_and] at e2
    obtain ⟨e3, e4⟩ := uU_inj (z :: w) (u :: v) r s (by simp) (by simp) hx.2 hy.2 lx.2 ly.2 e2
    exact ⟨by rw [e1, e3], e4⟩
end
/-- repr tells the data -/
theorem shown_inj {d e : PyData} (hd : plD d = true) (he : plD e = true) (ld : noL d = true) (le : noL e = true) (h : d.shown = e.shown) : d = e :=
  (sh_inj d e [] [] hd he ld le (by rw [h])).1
end Wd

set_option Elab.async false
set_option linter.all false
set_option maxRecDepth 100000
set_option maxHeartbeats 4000000
namespace Wd
open PySem PySem.Spec PyProof.Rows L2
local macro_rules
  | `(tactic| fail "b") => `(tactic| first | assumption | (simp only [Bool.not_eq_true', Bool.not_eq_false', decide_eq_true_eq, decide_eq_false_iff_not]; first | assumption | omega) | decide +kernel)
local macro_rules
  | `(tactic| fail) => `(tactic| first | assumption | omega | (simp only [sizeLine_eq, S_len, str_len_app, List.length_append, List.length_cons, List.length_nil, List.length_map, intsV_length] at *; omega) | decide +kernel)
local macro_rules
  | `(tactic| fail "c") => `(tactic| first | fail | (refine ⟨?_, ?_⟩; (fail "c"); (fail "c")) | (refine .inl ?_; (fail "c")) | (refine .inr ?_; (fail "c")) | exact rfl)
local macro_rules
  | `(tactic| fail "e") => `(tactic| (simp (disch := first | assumption | omega) only [decide_eq_true, decide_eq_false, Bool.not_true, Bool.not_false]; first | assumption | exact rfl))
local macro_rules
  | `(tactic| fail "u") => `(tactic| refine Un.imp ?_)
local macro_rules
  | `(tactic| fail "s") => `(tactic| first
    | refine St.imp ?_
    | refine StC.imp (by fail "c") ?_
    | with_reducible refine i_dTR (by first | assumption | omega | decide +kernel) ?_ | with_reducible refine i_dFR (by first | assumption | omega | decide +kernel) ?_ | with_reducible refine i_dT (by first | assumption | omega | decide +kernel) ?_ | with_reducible refine i_dF (by first | assumption | omega | decide +kernel) ?_
    | with_reducible refine i_bTR (by fail "b") ?_ | with_reducible refine i_bFR (by fail "b") ?_ | with_reducible refine i_bT (by fail "b") ?_ | with_reducible refine i_bF (by fail "b") ?_ | with_reducible refine i_intT (by fail "b") ?_ | with_reducible refine i_intF (by fail "b") ?_
    | with_reducible refine i_orT (by fail "b") ?_ | with_reducible refine i_orF (by fail "b") ?_ | with_reducible refine i_andT (by fail "b") ?_ | with_reducible refine i_andF (by fail "b") ?_
    | ((with_reducible refine i_bO ?_ ?_); exact rfl)
    | ((with_reducible apply i_item); exact rfl)
    | ((with_reducible apply Wp_run); exact rfl)
    | with_reducible refine i_intB (fun _ => ?_) (fun _ => ?_) | with_reducible refine i_dR (fun _ => ?_) (fun _ => ?_) | with_reducible refine i_d (fun _ => ?_) (fun _ => ?_) | with_reducible refine i_orD (fun _ => ?_) (fun _ => ?_) | with_reducible refine i_andD (fun _ => ?_) (fun _ => ?_) | with_reducible refine i_bR (fun _ => ?_) (fun _ => ?_) | with_reducible refine i_b (fun _ => ?_) (fun _ => ?_) | with_reducible refine i_or (fun _ => ?_) (fun _ => ?_) | with_reducible refine i_and (fun _ => ?_) (fun _ => ?_) | with_reducible assumption | intro _)
section
variable {k : Nat} {p : Dz} {t h : Hs} {Q : Vl → Hs → Prop} {E : Vl → Hs → Prop} {T : Fl → Env → Hs → Prop}
theorem ws_gd {ws : List (List (List Nat))} {m : Nat} (hw : ∀ w ∈ ws, ∀ l ∈ w, IsN l) (hl : ∀ w ∈ ws, w.length ≤ m) : gdL (ws.map wordV) = true ∧ mzL (ws.map wordV) ≤ (5 * m + 1) * ws.length ∧ dpL (ws.map wordV) ≤ 1 := by
  induction ws with
  | nil => exact ⟨rfl, Nat.zero_le _, Nat.zero_le _⟩
  | cons w ws ih =>
    obtain ⟨a, b, c⟩ := ih (fun x hx => hw x (List.mem_cons_of_mem _ hx)) (fun x hx => hl x (List.mem_cons_of_mem _ hx))
    obtain ⟨d, e, f⟩ := word_gd (hw w (by simp))
    have hlw := hl w (by simp)
    refine ⟨?_, ?_, ?_⟩
    · simp only [List.map_cons, gdL, wordV, gdV, d, a, Bool.and_self]
    · simp only [List.map_cons, mzL, wordV, mzV, List.length_cons]
      rw [Nat.mul_succ]; omega
    · simp only [List.map_cons, dpL, wordV, dpV, f]; omega
theorem wPD_pl {w : List (List Nat)} (h : ∀ l ∈ w, IsN l) : plDs (wPD w) = true ∧ noL.noLs (wPD w) = true := by
  induction w with
  | nil => exact ⟨rfl, rfl⟩
  | cons l w ih =>
    obtain ⟨a, b⟩ := ih fun x hx => h x (List.mem_cons_of_mem _ hx)
    have hl : plS (S l) = true := by
      obtain ⟨hc, hz, hd⟩ := h l (by simp)
      rename_i c ds
      unfold plS cl
      rw [S_cps]
      have e1 : ∀ c ∈ LET, (decide (32 ≤ c) && decide (c < 127) && decide (c ≠ 39) && decide (c ≠ 92)) = true := by decide +kernel
      have e2 : ∀ c ∈ DIG, (decide (32 ≤ c) && decide (c < 127) && decide (c ≠ 39) && decide (c ≠ 92)) = true := by decide +kernel
      rw [List.all_cons, e1 c hc, Bool.true_and, List.all_eq_true]
      exact fun x hx => e2 x (hd x hx)
    constructor
    · show (plS (S l) && plDs (wPD w)) = true
      rw [hl, a]; rfl
    · exact b
theorem eq_self {v : Vl} {h1 : Hs} (g : gdV v = true) (d : dpV v ≤ 60) (hn : ∀ x, v ≠ .int x) (hs : ∀ x, v ≠ .str x) (hb : ∀ x, v ≠ .bl x) : cmpV .NotEq h1 v v = some false := by
  obtain ⟨e, ge⟩ := gd_ok v g
  have sh : SeqAt.shaped e = true := by
    show (e.canLay0 && decide (e.depth ≤ 64)) = true
    have := ge.dp
    rw [ge.cl, decide_eq_true (by omega)]; rfl
  have z : eqVl v v = eqD v v := by
    cases v <;> first | rfl | exact absurd rfl (hn _) | exact absurd rfl (hs _) | exact absurd rfl (hb _)
  show (eqVl v v).map not = some false
  rw [z]
  unfold eqD
  rw [ge.pd]
  simp only [sh, Bool.and_self, if_true, Option.map_some, SeqAt.eqv_refl e ge.cl, Bool.not_true]
mutual
theorem shown_lt : ∀ d : PyData, plD d = true → noL d = true → ∀ c ∈ cl d.shown, c < 127
  | .none, _, _, c, h => by rw [cl_none] at h; revert c; decide
  | .bool true, _, _, c, h => by rw [cl_true] at h; revert c; decide
  | .bool false, _, _, c, h => by rw [cl_false] at h; revert c; decide
  | .int i, hp, _, c, h => by
    simp only [plD, Bool.and_eq_true, decide_eq_true_eq] at hp
    rw [cl_int hp.1 hp.2] at h
    have := List.mem_singleton.mp h
    omega
  | .str x, hp, _, c, h => by
    rw [cl_str hp] at h
    rcases List.mem_cons.mp h with z | z
    · omega
    · rcases List.mem_append.mp z with z | z
      · have := List.all_eq_true.mp hp c z
        simp only [Bool.and_eq_true, decide_eq_true_eq] at this
        omega
      · have := List.mem_singleton.mp z
        omega
  | .tuple xs, hp, hl, c, h => by
    rw [cl_tup] at h
    rcases List.mem_cons.mp h with z | z
    · omega
    · exact uT_lt xs hp hl c z
  | .list _, _, hl, _, _ => by cases hl
  | .dict _, _, hl, _, _ => by cases hl
theorem tU_lt : ∀ xs : List PyData, plDs xs = true → noL.noLs xs = true → ∀ c ∈ tU xs, c < 127
  | [], _, _, c, h => by have := List.mem_singleton.mp h; omega
  | [x], hp, hl, c, h => by
    rw [plDs, Bool.and_eq_true] at hp
    rw [noL.noLs, Bool.and_eq_true] at hl
    rcases List.mem_append.mp h with z | z
    · exact shown_lt x hp.1 hl.1 c z
    · have := List.mem_singleton.mp z; omega
  | x :: y :: r, hp, hl, c, h => by
    rw [plDs, Bool.and_eq_true] at hp
    rw [noL.noLs, Bool.and_eq_true] at hl
    rcases List.mem_append.mp h with z | z
    · exact shown_lt x hp.1 hl.1 c z
    · rcases List.mem_cons.mp z with z | z
      · omega
      · rcases List.mem_cons.mp z with z | z
        · omega
        · exact tU_lt (y :: r) hp.2 hl.2 c z
theorem uT_lt : ∀ xs : List PyData, plDs xs = true → noL.noLs xs = true → ∀ c ∈ uT xs, c < 127
  | [], _, _, c, h => by have := List.mem_singleton.mp h; omega
  | [x], hp, hl, c, h => by
    rw [plDs, Bool.and_eq_true] at hp
    rw [noL.noLs, Bool.and_eq_true] at hl
    rcases List.mem_append.mp h with z | z
    · exact shown_lt x hp.1 hl.1 c z
    · simp only [List.mem_cons, List.not_mem_nil, or_false] at z; omega
  | x :: y :: r, hp, hl, c, h => by
    rw [plDs, Bool.and_eq_true] at hp
    rw [noL.noLs, Bool.and_eq_true] at hl
    rcases List.mem_append.mp h with z | z
    · exact shown_lt x hp.1 hl.1 c z
    · rcases List.mem_cons.mp z with z | z
      · omega
      · rcases List.mem_cons.mp z with z | z
        · omega
        · exact tU_lt (y :: r) hp.2 hl.2 c z
end
theorem shown_ok {d : PyData} (hp : plD d = true) (hl : noL d = true) : PyData.strOk d.shown = true := by
  have e : d.shown = S (cl d.shown) := (S_list _).symm
  rw [e]
  exact S_ok fun c hc => by have := shown_lt d hp hl c hc; omega
theorem shw_len {v : Vl} (g : gdV v = true) : (shw v).length ≤ 15 * mzV v + 13 := by
  obtain ⟨e, ge⟩ := gd_ok v g
  unfold shw
  rw [ge.pd]
  have z := PyData.shown_le 13 (by decide) e (PyData.leavesShort_of_canLay0 13 e ge.cl ge.is)
  have := ge.wt
  show e.shown.length ≤ _
  omega
/-! data of a world -/
theorem eqvAll_map {α : Type} [DecidableEq α] {f : α → PyData} (hf : ∀ a b, PyData.eqv (f a) (f b) = decide (a = b)) : ∀ xs ys : List α, PyData.eqvAll (xs.map f) (ys.map f) = decide (xs = ys)
  | [], [] => rfl
  | [], y :: ys => by simp [PyData.eqvAll]
  | x :: xs, [] => by simp [PyData.eqvAll]
  | x :: xs, y :: ys => by
    rw [List.map_cons, List.map_cons, show PyData.eqvAll (f x :: xs.map f) (f y :: ys.map f) = (PyData.eqv (f x) (f y) && PyData.eqvAll (xs.map f) (ys.map f)) from rfl, hf, eqvAll_map hf xs ys]
    by_cases h : x = y <;> simp [h]
def aPD (w : List (List Nat)) : PyData := .tuple (wPD w)
def rPD (r : List Bool) : PyData := .tuple (r.map .bool)
theorem aPD_eqv (v w : List (List Nat)) : PyData.eqv (aPD v) (aPD w) = decide (v = w) := wPD_eqv v w
theorem rPD_eqv (v w : List Bool) : PyData.eqv (rPD v) (rPD w) = decide (v = w) := eqvAll_map (f := PyData.bool) (fun a b => by cases a <;> cases b <;> rfl) v w
theorem toPDs_b : ∀ r : List Bool, toPDs (r.map .bl) = some (r.map .bool)
  | [] => rfl
  | b :: r => by simp only [List.map_cons, toPDs, toPD, toPDs_b r]
theorem toPDs_rs : ∀ rs : List (List Bool), toPDs (rs.map rowV) = some (rs.map rPD)
  | [] => rfl
  | r :: rs => by simp only [List.map_cons, toPDs, rowV, toPD, toPDs_b, Option.map_some, toPDs_rs rs, rPD]
def Wl.pA (W : Wl) : PyData := .tuple (W.ws.map aPD)
def Wl.pR (W : Wl) : PyData := .tuple (W.rs.map rPD)
def Wl.pd (W : Wl) : PyData := .tuple [W.pA, W.pR]
theorem Wl.pA_ok (W : Wl) : toPD W.A = some W.pA := by
  show (toPDs (W.ws.map wordV)).map PyData.tuple = _
  rw [toPDs_ws]; rfl
theorem Wl.pR_ok (W : Wl) : toPD W.R = some W.pR := by
  show (toPDs (W.rs.map rowV)).map PyData.tuple = _
  rw [toPDs_rs]; rfl
theorem Wl.pd_ok (W : Wl) : toPD W.tV = some W.pd := by
  simp only [Wl.tV, toPD, toPDs, W.pA_ok, W.pR_ok, Option.map_some, Wl.pd]
theorem Wl.eqv (W V : Wl) : PyData.eqv W.pd V.pd = decide (W = V) := by
  have e : PyData.eqv W.pd V.pd = (PyData.eqvAll (W.ws.map aPD) (V.ws.map aPD) && (PyData.eqvAll (W.rs.map rPD) (V.rs.map rPD) && true)) := rfl
  rw [e, eqvAll_map aPD_eqv, eqvAll_map rPD_eqv, Bool.and_true]
  obtain ⟨a, b⟩ := W
  obtain ⟨c, d⟩ := V
  by_cases h1 : a = c <;> by_cases h2 : b = d <;> simp [h1, h2]
theorem row_gd (r : List Bool) : gdL (r.map Vl.bl) = true ∧ mzL (r.map Vl.bl) = r.length ∧ dpL (r.map Vl.bl) = 0 := by
  induction r with
  | nil => exact ⟨rfl, rfl, rfl⟩
  | cons b r ih =>
    obtain ⟨x, y, z⟩ := ih
    refine ⟨?_, ?_, ?_⟩
    · simp only [List.map_cons, gdL, gdV, x, Bool.and_self]
    · simp only [List.map_cons, mzL, mzV, y, List.length_cons]; omega
    · simp only [List.map_cons, dpL, dpV, z]; rfl
theorem rs_gd {rs : List (List Bool)} {n : Nat} (h : ∀ r ∈ rs, r.length = n) : gdL (rs.map rowV) = true ∧ mzL (rs.map rowV) ≤ (n + 1) * rs.length ∧ dpL (rs.map rowV) ≤ 1 := by
  induction rs with
  | nil => exact ⟨rfl, Nat.zero_le _, Nat.zero_le _⟩
  | cons w ws ih =>
    obtain ⟨a, b, c⟩ := ih fun x hx => h x (List.mem_cons_of_mem _ hx)
    obtain ⟨d, e, f⟩ := row_gd w
    have hlw := h w (by simp)
    refine ⟨?_, ?_, ?_⟩
    · simp only [List.map_cons, gdL, rowV, gdV, d, a, Bool.and_self]
    · simp only [List.map_cons, mzL, rowV, mzV, List.length_cons, e]
      rw [Nat.mul_succ]; omega
    · simp only [List.map_cons, dpL, rowV, dpV, f]; omega
theorem Wl.gdA {W : Wl} (h : AOk W.ws) : gdV W.A = true ∧ mzV W.A ≤ 906 ∧ dpV W.A ≤ 2 := by
  obtain ⟨a, b, c⟩ := ws_gd (ws := W.ws) (m := 30) h.ns (fun w hw => (h.n w hw).2.1)
  have := h.l
  refine ⟨a, ?_, ?_⟩
  · show mzL (W.ws.map wordV) ≤ 906
    have : (5 * 30 + 1) * W.ws.length ≤ (5 * 30 + 1) * 6 := Nat.mul_le_mul_left _ h.l
    omega
  · show dpL (W.ws.map wordV) + 1 ≤ 2
    omega
theorem Wl.gdR {W : Wl} (h : W.ok) : gdV W.R = true ∧ mzV W.R ≤ 77 ∧ dpV W.R ≤ 2 := by
  obtain ⟨a, b, c⟩ := rs_gd h.r
  refine ⟨a, ?_, ?_⟩
  · show mzL (W.rs.map rowV) ≤ 77
    have := h.a.l
    have z : (W.ws.length + 1) * W.rs.length ≤ 7 * 11 := Nat.mul_le_mul (by omega) h.m
    omega
  · show dpL (W.rs.map rowV) + 1 ≤ 2
    omega
theorem ws_pl {ws : List (List (List Nat))} (h : ∀ w ∈ ws, ∀ l ∈ w, IsN l) : plDs (ws.map aPD) = true ∧ noL.noLs (ws.map aPD) = true := by
  induction ws with
  | nil => exact ⟨rfl, rfl⟩
  | cons w ws ih =>
    obtain ⟨a, b⟩ := ih fun x hx => h x (List.mem_cons_of_mem _ hx)
    obtain ⟨c, d⟩ := wPD_pl (h w (by simp))
    constructor
    · show (plDs (wPD w) && plDs (ws.map aPD)) = true
      rw [c, a]; rfl
    · show (noL.noLs (wPD w) && noL.noLs (ws.map aPD)) = true
      rw [d, b]; rfl
theorem rs_pl (rs : List (List Bool)) : plDs (rs.map rPD) = true ∧ noL.noLs (rs.map rPD) = true := by
  induction rs with
  | nil => exact ⟨rfl, rfl⟩
  | cons r rs ih =>
    have z : plDs (r.map PyData.bool) = true ∧ noL.noLs (r.map PyData.bool) = true := by
      induction r with
      | nil => exact ⟨rfl, rfl⟩
      | cons b r ih =>
        constructor
        · show (true && plDs (r.map PyData.bool)) = true
          rw [ih.1]; rfl
        · show (true && noL.noLs (r.map PyData.bool)) = true
          rw [ih.2]; rfl
    constructor
    · show (plDs (r.map PyData.bool) && plDs (rs.map rPD)) = true
      rw [z.1, ih.1]; rfl
    · show (noL.noLs (r.map PyData.bool) && noL.noLs (rs.map rPD)) = true
      rw [z.2, ih.2]; rfl
theorem Wl.sA {W : Wl} (h : AOk W.ws) : PyData.strOk (shw W.A) = true := by
  unfold shw
  rw [W.pA_ok]
  obtain ⟨a, b⟩ := ws_pl h.ns
  exact shown_ok (d := W.pA) a b
theorem Wl.sR {W : Wl} : PyData.strOk (shw W.R) = true := by
  unfold shw
  rw [W.pR_ok]
  obtain ⟨a, b⟩ := rs_pl W.rs
  exact shown_ok (d := W.pR) a b
theorem Wl.lay {W : Wl} (h : W.ok) : SeqAt.shaped W.pd = true := by
  obtain ⟨a1, a2, a3⟩ := Wl.gdA h.a
  obtain ⟨b1, b2, b3⟩ := Wl.gdR h
  have g : gdV W.tV = true := by
    simp only [Wl.tV, gdV, gdL]
    rw [a1, b1]; rfl
  have gd : dpV W.tV ≤ 3 := by
    simp only [Wl.tV, dpV, dpL]
    omega
  obtain ⟨d, ge⟩ := gd_ok W.tV g
  have e : d = W.pd := Option.some.inj (ge.pd.symm.trans W.pd_ok)
  subst e
  show (W.pd.canLay0 && decide (W.pd.depth ≤ 64)) = true
  have := ge.dp
  rw [ge.cl, decide_eq_true (by omega)]; rfl
theorem eq_W {W V : Wl} {h1 : Hs} (hW : W.ok) (hV : V.ok) : cmpV .Eq h1 W.tV V.tV = some (decide (W = V)) := by
  show eqD W.tV V.tV = _
  unfold eqD
  rw [W.pd_ok, V.pd_ok]
  simp only [Wl.lay hW, Wl.lay hV, Bool.and_self, if_true]
  rw [Wl.eqv]
end
end Wd

set_option Elab.async false
set_option linter.all false
set_option maxRecDepth 100000
set_option maxHeartbeats 4000000
namespace Wd
open PySem PySem.Spec PyProof.Rows L2
local macro_rules
  | `(tactic| fail "b") => `(tactic| first | assumption | (simp only [Bool.not_eq_true', Bool.not_eq_false', decide_eq_true_eq, decide_eq_false_iff_not]; first | assumption | omega) | decide +kernel)
local macro_rules
  | `(tactic| fail) => `(tactic| first | assumption | omega | (simp only [sizeLine_eq, S_len, str_len_app, List.length_append, List.length_cons, List.length_nil, List.length_map, intsV_length] at *; omega) | decide +kernel)
local macro_rules
  | `(tactic| fail "c") => `(tactic| first | fail | (refine ⟨?_, ?_⟩; (fail "c"); (fail "c")) | (refine .inl ?_; (fail "c")) | (refine .inr ?_; (fail "c")) | exact rfl)
local macro_rules
  | `(tactic| fail "e") => `(tactic| (simp (disch := first | assumption | omega) only [decide_eq_true, decide_eq_false, Bool.not_true, Bool.not_false]; first | assumption | exact rfl))
local macro_rules
  | `(tactic| fail "u") => `(tactic| refine Un.imp ?_)
local macro_rules
  | `(tactic| fail "s") => `(tactic| first
    | refine St.imp ?_
    | refine StC.imp (by fail "c") ?_
    | with_reducible refine i_dTR (by first | assumption | omega | decide +kernel) ?_ | with_reducible refine i_dFR (by first | assumption | omega | decide +kernel) ?_ | with_reducible refine i_dT (by first | assumption | omega | decide +kernel) ?_ | with_reducible refine i_dF (by first | assumption | omega | decide +kernel) ?_
    | with_reducible refine i_bTR (by fail "b") ?_ | with_reducible refine i_bFR (by fail "b") ?_ | with_reducible refine i_bT (by fail "b") ?_ | with_reducible refine i_bF (by fail "b") ?_ | with_reducible refine i_intT (by fail "b") ?_ | with_reducible refine i_intF (by fail "b") ?_
    | with_reducible refine i_orT (by fail "b") ?_ | with_reducible refine i_orF (by fail "b") ?_ | with_reducible refine i_andT (by fail "b") ?_ | with_reducible refine i_andF (by fail "b") ?_
    | ((with_reducible refine i_bO ?_ ?_); exact rfl)
    | ((with_reducible apply i_item); exact rfl)
    | ((with_reducible apply Wp_run); exact rfl)
    | with_reducible refine i_intB (fun _ => ?_) (fun _ => ?_) | with_reducible refine i_dR (fun _ => ?_) (fun _ => ?_) | with_reducible refine i_d (fun _ => ?_) (fun _ => ?_) | with_reducible refine i_orD (fun _ => ?_) (fun _ => ?_) | with_reducible refine i_andD (fun _ => ?_) (fun _ => ?_) | with_reducible refine i_bR (fun _ => ?_) (fun _ => ?_) | with_reducible refine i_b (fun _ => ?_) (fun _ => ?_) | with_reducible refine i_or (fun _ => ?_) (fun _ => ?_) | with_reducible refine i_and (fun _ => ?_) (fun _ => ?_) | with_reducible assumption | intro _)
section
variable {k : Nat} {p : Dz} {t h : Hs} {Q : Vl → Hs → Prop} {E : Vl → Hs → Prop} {T : Fl → Env → Hs → Prop}
theorem w_World_atoms {W : Wl} (q : Q W.A h) : Wp (rD (mkG T0 200 (k + 1)) d_World_atoms [W.v] h) Q E := by
  fail "u"
  unfold Wl.v Wl.tV
  repeat' fail "s"
theorem w_atomsP {W : Wl} (q : Q W.A h) : Wp (aV (mkG T0 200 (k + 2)) W.v "atoms" h) Q E :=
  i_prop (d := d_World_atoms) (G' := mkG T0 200 (k + 1)) (by unfold aV rD; kernel_rfl) (w_World_atoms q)
instance {W : Wl} : St (Wp (aV (mkG T0 200 (k + 2)) W.v "atoms" h) Q E) (Q W.A h) := ⟨w_atomsP⟩
theorem w_World_rows {W : Wl} (q : Q W.R h) : Wp (rD (mkG T0 200 (k + 1)) d_World_rows [W.v] h) Q E := by
  fail "u"
  unfold Wl.v Wl.tV
  repeat' fail "s"
theorem w_rowsP {W : Wl} (q : Q W.R h) : Wp (aV (mkG T0 200 (k + 2)) W.v "rows" h) Q E :=
  i_prop (d := d_World_rows) (G' := mkG T0 200 (k + 1)) (by unfold aV rD; kernel_rfl) (w_World_rows q)
instance {W : Wl} : St (Wp (aV (mkG T0 200 (k + 2)) W.v "rows" h) Q E) (Q W.R h) := ⟨w_rowsP⟩
theorem w_World_len {W : Wl} (q : Q (.int W.rs.length) h) : Wp (rD (mkG T0 200 (k + 1)) d_World_len [W.v] h) Q E := by
  fail "u"
  unfold Wl.v Wl.tV Wl.R
  repeat' fail "s"
theorem w_lenW {W : Wl} (hl : W.rs.length ≤ 1000) (q : Q (.int W.rs.length) h) : Wp (bO (mkG T0 200 (k + 2)) .len W.v h) Q E := by
  refine i_bOS (nm := "__len__") (d := d_World_len) rfl rfl (by kernel_rfl) ?_
  refine w_World_len (W := W) ?_
  repeat' fail "s"
  all_goals first | exact q | omega
instance {W : Wl} : StC (Wp (bO (mkG T0 200 (k + 2)) .len W.v h) Q E) (W.rs.length ≤ 1000) (Q (.int W.rs.length) h) := ⟨w_lenW⟩
theorem w_boolW {W : Wl} (hl : W.rs.length ≤ 1000) (q : Q (.bl (!W.rs.isEmpty)) h) : Wp (bO (mkG T0 200 (k + 2)) .bool W.v h) Q E := by
  refine i_bOS (nm := "__len__") (d := d_World_len) rfl rfl (by kernel_rfl) ?_
  refine w_World_len (W := W) ?_
  have e : ((W.rs.length : Int) != 0) = !W.rs.isEmpty := by cases W.rs <;> simp; omega
  repeat' fail "s"
  rw [e]; exact q
instance {W : Wl} : StC (Wp (bO (mkG T0 200 (k + 2)) .bool W.v h) Q E) (W.rs.length ≤ 1000) (Q (.bl (!W.rs.isEmpty)) h) := ⟨w_boolW⟩
theorem w_World_eq {W V : Wl} (hW : W.ok) (hV : V.ok) (q : Q (.bl (decide (W = V))) h) : Wp (rD (mkG T0 200 (k + 1)) d_World_eq [W.v, V.v] h) Q E := by
  fail "u"
  unfold Wl.v
  repeat' fail "s"
  refine i_cXo rfl (i_cmp (eq_W hW hV) ?_)
  repeat' fail "s"
  all_goals exact q
/-- no world -/
structure OddW (h : Hs) (y : Vl) : Prop where
  i : isaV isaT0 h y (.cl "World") = some false
  s : ∀ k, sideOk (mkG T0 200 (k + 1)) h "World" y = true
theorem w_World_no {W : Wl} {y : Vl} (o : OddW h y) (q : Q (.bl false) h) : Wp (rD (mkG T0 200 (k + 1)) d_World_eq [W.v, y] h) Q E := by
  fail "u"
  repeat' fail "s"
  rw [show bltV isaT0 .isa [y, .cl "World"] h = some (.bl false) by show (isaV isaT0 h y (.cl "World")).map Vl.bl = _; rw [o.i]; rfl]
  repeat' fail "s"
  all_goals exact q
theorem cw_eq {W V : Wl} (hW : W.ok) (hV : V.ok) (q : Q (.bl (decide (W = V))) h) : Wp (cX (mkG T0 200 (k + 2)) .Eq W.v V.v h) Q E := by
  unfold Wl.v
  refine i_cXS (d := d_World_eq) rfl rfl rfl (by kernel_rfl) (w_World_eq (W := W) (V := V) hW hV ?_)
  repeat' fail "s"
  all_goals exact q
theorem cw_ne {W V : Wl} (hW : W.ok) (hV : V.ok) (q : Q (.bl (!decide (W = V))) h) : Wp (cX (mkG T0 200 (k + 2)) .NotEq W.v V.v h) Q E := by
  unfold Wl.v
  refine i_cXS (d := d_World_eq) rfl rfl rfl (by kernel_rfl) (w_World_eq (W := W) (V := V) hW hV ?_)
  repeat' fail "s"
  all_goals exact q
theorem cw_eqN {W : Wl} {y : Vl} (o : OddW h y) (q : Q (.bl false) h) : Wp (cX (mkG T0 200 (k + 2)) .Eq W.v y h) Q E := by
  unfold Wl.v
  refine i_cXS (d := d_World_eq) rfl rfl (o.s _) (by kernel_rfl) (w_World_no (W := W) o ?_)
  repeat' fail "s"
  all_goals exact q
theorem cw_neN {W : Wl} {y : Vl} (o : OddW h y) (q : Q (.bl true) h) : Wp (cX (mkG T0 200 (k + 2)) .NotEq W.v y h) Q E := by
  unfold Wl.v
  refine i_cXS (d := d_World_eq) rfl rfl (o.s _) (by kernel_rfl) (w_World_no (W := W) o ?_)
  repeat' fail "s"
  all_goals exact q
instance {W V : Wl} : StC (Wp (cX (mkG T0 200 (k + 2)) .Eq W.v V.v h) Q E) (W.ok ∧ V.ok) (Q (.bl (decide (W = V))) h) := ⟨fun c => cw_eq c.1 c.2⟩
instance {W V : Wl} : StC (Wp (cX (mkG T0 200 (k + 2)) .NotEq W.v V.v h) Q E) (W.ok ∧ V.ok) (Q (.bl (!decide (W = V))) h) := ⟨fun c => cw_ne c.1 c.2⟩
/-- the text of a world -/
def Wl.tx (W : Wl) : Str := Str.ofString "World(" ++ shw W.A ++ Str.ofString ", " ++ shw W.R ++ Str.ofString ")"
theorem w_World_repr {W : Wl} (hW : W.ok) (q : Q (.str W.tx) h) : Wp (rD (mkG T0 200 (k + 1)) d_World_repr [W.v] h) Q E := by
  fail "u"
  obtain ⟨a1, a2, a3⟩ := Wl.gdA hW.a
  obtain ⟨b1, b2, b3⟩ := Wl.gdR hW
  have la := shw_len a1
  have lb := shw_len b1
  have e1 : (Str.ofString "World(").length = 6 := by decide +kernel
  have e2 : (Str.ofString ", ").length = 2 := by decide +kernel
  have e3 : (Str.ofString ")").length = 1 := by decide +kernel
  have m1 : mzV W.A ≤ 1048576 := by omega
  have m2 : mzV W.R ≤ 1048576 := by omega
  have d1 : dpV W.A ≤ 64 := by omega
  have d2 : dpV W.R ≤ 64 := by omega
  have h1 : ((⟨#[]⟩ : Str) ++ Str.ofString "World(").length ≤ sizeLine := by simp only [Str.length_append, nil_len, sizeLine_eq]; omega
  have h2 : ((⟨#[]⟩ : Str) ++ Str.ofString "World(" ++ shw W.A).length ≤ sizeLine := by simp only [Str.length_append, nil_len, sizeLine_eq]; omega
  have h3 : ((⟨#[]⟩ : Str) ++ Str.ofString "World(" ++ shw W.A ++ Str.ofString ", ").length ≤ sizeLine := by simp only [Str.length_append, nil_len, sizeLine_eq]; omega
  have h4 : ((⟨#[]⟩ : Str) ++ Str.ofString "World(" ++ shw W.A ++ Str.ofString ", " ++ shw W.R).length ≤ sizeLine := by simp only [Str.length_append, nil_len, sizeLine_eq]; omega
  have h5 : ((⟨#[]⟩ : Str) ++ Str.ofString "World(" ++ shw W.A ++ Str.ofString ", " ++ shw W.R ++ Str.ofString ")").length ≤ sizeLine := by simp only [Str.length_append, nil_len, sizeLine_eq]; omega
  unfold Wl.v Wl.tV
  repeat' fail "s"
  rw [nil_app]
  exact q
theorem w_reprW {W : Wl} (hW : W.ok) (q : Q (.str W.tx) h) : Wp (bO (mkG T0 200 (k + 2)) .repr W.v h) Q E := by
  refine i_bOS (nm := "__repr__") (d := d_World_repr) rfl rfl (by kernel_rfl) ?_
  refine w_World_repr (W := W) hW ?_
  repeat' fail "s"
instance {W : Wl} : StC (Wp (bO (mkG T0 200 (k + 2)) .repr W.v h) Q E) W.ok (Q (.str W.tx) h) := ⟨w_reprW⟩
theorem neT_nil {xs : List Vl} {h1 : Hs} (g : gdL xs = true) (d : dpL xs ≤ 60) : cmpV .NotEq h1 (.tup xs) (.tup []) = some (!xs.isEmpty) := by
  obtain ⟨e, ge⟩ := gdL_ok xs g
  have sh : SeqAt.shaped (.tuple e) = true := by
    show ((PyData.tuple e).canLay0 && decide ((PyData.tuple e).depth ≤ 64)) = true
    have := ge.dp
    rw [show (PyData.tuple e).canLay0 = true from ge.cl, decide_eq_true (by simp only [PyData.depth]; omega)]; rfl
  have s0 : SeqAt.shaped (.tuple []) = true := by decide +kernel
  show (eqD (.tup xs) (.tup [])).map not = _
  unfold eqD
  simp only [toPD, ge.pd, toPDs, Option.map_some, sh, s0, Bool.and_self, if_true, Option.some.injEq, PyData.eqv]
  cases xs with
  | nil =>
    have : e = [] := by have := ge.pd; simp only [toPDs, Option.some.injEq] at this; exact this.symm
    subst this; rfl
  | cons x r =>
    cases e with
    | nil =>
      have := ge.pd
      simp only [toPDs] at this
      split at this
      · cases this
      · cases this
    | cons a b => rfl
theorem neA {ws : List (List (List Nat))} {h1 : Hs} (ha : AOk ws) : cmpV .NotEq h1 (.tup (ws.map wordV)) (.tup []) = some (!ws.isEmpty) := by
  obtain ⟨a, b, c⟩ := Wl.gdA (W := ⟨ws, []⟩) ha
  have c' : dpL (ws.map wordV) + 1 ≤ 2 := c
  rw [neT_nil (xs := ws.map wordV) a (by omega)]
  cases ws <;> rfl
theorem neR {rs : List (List Bool)} {n : Nat} {h1 : Hs} (hr : ∀ r ∈ rs, r.length = n) : cmpV .NotEq h1 (.tup (rs.map rowV)) (.tup []) = some (!rs.isEmpty) := by
  obtain ⟨a, b, c⟩ := rs_gd hr
  rw [neT_nil a (by omega)]
  cases rs <;> rfl
instance {ws : List (List (List Nat))} {h1 : Hs} : StC (Wp (Rs.of ((cmpV .NotEq h1 (.tup (ws.map wordV)) (.tup [])).map .bl) h) Q E) (AOk ws) (Q (.bl (!ws.isEmpty)) h) := ⟨fun c => i_cmp (neA c)⟩
instance {rs : List (List Bool)} {h1 : Hs} : StC (Wp (Rs.of ((cmpV .NotEq h1 (.tup (rs.map rowV)) (.tup [])).map .bl) h) Q E) (∃ n, ∀ r ∈ rs, r.length = n) (Q (.bl (!rs.isEmpty)) h) := ⟨fun ⟨_, c⟩ => i_cmp (neR c)⟩
instance {α : Type} {f : α → Vl} {xs ys : List α} : StC (Wp (Rs.of (binV .Add (.tup (xs.map f)) (.tup (ys.map f))) h) Q E) (xs.length + ys.length ≤ 1000) (Q (.tup ((xs ++ ys).map f)) h) := ⟨fun c w => by
  refine Wp_run (a := .tup ((xs ++ ys).map f)) (h' := h) ?_ w
  simp only [binV]
  rw [if_pos (by rw [List.length_map, List.length_map, sizeLine_eq]; omega), List.map_append]; rfl⟩
instance {α : Type} {f : α → Vl} {xs : List α} {y : α} : StC (Wp (Rs.of (binV .Add (.tup (xs.map f)) (.tup [f y])) h) Q E) (xs.length ≤ 999) (Q (.tup ((xs ++ [y]).map f)) h) := ⟨fun c w => by
  refine Wp_run (a := .tup ((xs ++ [y]).map f)) (h' := h) ?_ w
  simp only [binV]
  rw [if_pos (by rw [List.length_map, List.length_singleton, sizeLine_eq]; omega), List.map_append]; rfl⟩
theorem rep_b (b : Bool) : ∀ n : Nat, (List.replicate n [Vl.bl b]).flatten = (List.replicate n b).map Vl.bl
  | 0 => rfl
  | n + 1 => by rw [List.replicate_succ, List.flatten_cons, rep_b b n, List.replicate_succ]; rfl
theorem put_get {α : Type} {xs : List α} {n m : Nat} {x y : α} (h : xs[n]? = some x) (e : xs.take n ++ [y] ++ xs.drop m = xs) : y = x := by
  have hn := (List.getElem?_eq_some_iff.mp h).1
  have e1 : (xs.take n ++ [y] ++ xs.drop m)[n]? = some y := by
    rw [List.append_assoc, List.getElem?_append_right (by rw [List.length_take]; omega), List.length_take, Nat.min_eq_left (by omega), Nat.sub_self]
    rfl
  rw [e, h] at e1
  exact (Option.some.inj e1).symm
theorem put_len {α : Type} {xs : List α} {n : Nat} {x y : α} (h : xs[n]? = some x) : (xs.take n ++ [y] ++ xs.drop (n + 1)).length = xs.length := by
  have hn := (List.getElem?_eq_some_iff.mp h).1
  rw [List.length_append, List.length_append, List.length_take, List.length_drop, List.length_singleton]
  omega
theorem not_ne (b : Bool) : (!b) ≠ b := by cases b <;> decide
local macro_rules
  | `(tactic| fail) => `(tactic| first | assumption | omega | (simp only [List.length_append, List.length_cons, List.length_nil, List.length_singleton, List.length_take, List.length_drop, List.length_replicate, List.length_map, List.length_reverse, intsV_length, sizeLine_eq]; omega) | decide +kernel)
theorem w_bent {W : Wl} (hp : p.ok) (hW : W.ok) (hm : W.rs.length ≤ 10) (q : ∀ (V : Wl) (p' : Dz), p'.ok → V.ok → V ≠ W → Q (.tup [V.A, V.R]) (Dc p' t)) : Wp (rD (mkG T0 200 (k + 2)) d__law_bent [.ref 0, W.A, W.R] (Dc p t)) Q E := by
  fail "u"
  have ha := hW.a
  have hr := hW.r
  have hl := ha.l
  have hre : ∃ n, ∀ r ∈ W.rs, r.length = n := ⟨_, hr⟩
  have more : ∀ (b : Bool) (p' : Dz), p'.ok → Q (.tup [.tup (W.ws.map wordV), .tup (W.rs.map rowV ++ [.tup (List.replicate (W.ws.length : Int).toNat [Vl.bl b]).flatten])]) (Dc p' t) := by
    intro b p' hp'
    rw [rep_b, Int.toNat_natCast, show W.rs.map rowV ++ [Vl.tup ((List.replicate W.ws.length b).map Vl.bl)] = (W.rs ++ [List.replicate W.ws.length b]).map rowV by simp]
    refine q ⟨W.ws, W.rs ++ [List.replicate W.ws.length b]⟩ p' hp' ⟨ha, ?_, ?_⟩ ?_
    · intro r h
      rcases List.mem_append.mp h with z | z
      · exact hr r z
      · rw [List.mem_singleton.mp z]; exact List.length_replicate
    · show (W.rs ++ [List.replicate W.ws.length b]).length ≤ 11
      rw [List.length_append, List.length_singleton]; omega
    · intro z
      have := congrArg (fun V : Wl => V.rs.length) z
      simp only [List.length_append, List.length_singleton] at this
      omega
  have hz1 : (!W.rs.isEmpty) = true → (1 : Int) ≤ W.rs.length := by
    intro h
    cases e : W.rs with
    | nil => rw [e] at h; cases h
    | cons a r => rw [List.length_cons]; omega
  have hz2 : (!W.ws.isEmpty) = true → (1 : Int) ≤ W.ws.length := by
    intro h
    cases e : W.ws with
    | nil => rw [e] at h; cases h
    | cons a r => rw [List.length_cons]; omega
  unfold Wl.A Wl.R
  repeat' fail "s"
  all_goals first | exact more _ _ (by assumption) | skip
  · rename_i he
    have z := hz1 (by rw [he]; rfl)
    repeat' fail "s"
    rename_i j p3 hp3 hj0 hj1
    refine q ⟨W.ws, W.rs.take j.toNat ++ W.rs.drop (j + 1).toNat⟩ _ hp3 ⟨ha, ?_, ?_⟩ ?_
    · intro r h
      rcases List.mem_append.mp h with z | z
      · exact hr r (List.mem_of_mem_take z)
      · exact hr r (List.mem_of_mem_drop z)
    · show (W.rs.take j.toNat ++ W.rs.drop (j + 1).toNat).length ≤ 11
      rw [List.length_append, List.length_take, List.length_drop]; omega
    · intro z
      have := congrArg (fun V : Wl => V.rs.length) z
      simp only [List.length_append, List.length_take, List.length_drop] at this
      omega
  · have e1 : Int.toNat 1 = 1 := rfl
    rw [e1]
    obtain ⟨w0, w1, r, e⟩ : ∃ w0 w1 r, W.ws = w0 :: w1 :: r := by
      cases e : W.ws with
      | nil => rename_i h; rw [e] at h; simp at h
      | cons a l =>
        cases e2 : l with
        | nil => rename_i h; rw [e, e2] at h; simp at h
        | cons b r => exact ⟨a, b, r, rfl⟩
    have hd := ha.d
    rw [e] at hd
    have hnd := List.nodup_cons.mp hd
    have h01 : w0 ≠ w1 := fun z => hnd.1 (by rw [z]; exact List.mem_cons_self)
    have e3 : W.ws.drop 1 ++ W.ws.take 1 = (w1 :: r) ++ [w0] := by rw [e]; rfl
    rw [e3]
    have hlen : ((w1 :: r) ++ [w0]).length = W.ws.length := by rw [e]; simp
    refine q ⟨(w1 :: r) ++ [w0], W.rs⟩ _ (by assumption) ⟨⟨?_, nodup_snoc hnd.2 hnd.1, by rw [hlen]; exact hl⟩, fun r' h => (hr r' h).trans hlen.symm, hW.m⟩ ?_
    · intro w h
      refine ha.n w ?_
      rw [e]
      rcases List.mem_append.mp h with z | z
      · exact List.mem_cons_of_mem _ z
      · rw [List.mem_singleton.mp z]; exact List.mem_cons_self
    · intro z
      have z2 := congrArg (fun V : Wl => V.ws[0]?) z
      simp only [e] at z2
      exact h01 (Option.some.inj z2).symm
  · rename_i he
    have z := hz1 (by assumption)
    have z2 := hz2 (by rw [he]; rfl)
    repeat' fail "s"
    rename_i i p3 hp3 hi0 hi1 j p4 hp4 hj0 hj1 r hri hrm
    have hrl := hr r hrm
    have hj2 : j < r.length := by rw [hrl]; exact hj1
    repeat' fail "s"
    rename_i b hb hbm
    rw [show (i + 1).toNat = i.toNat + 1 by omega, show (j + 1).toNat = j.toNat + 1 by omega]
    refine q ⟨W.ws, W.rs.take i.toNat ++ [r.take j.toNat ++ [!b] ++ r.drop (j.toNat + 1)] ++ W.rs.drop (i.toNat + 1)⟩ p4 hp4 ⟨ha, ?_, ?_⟩ ?_
    · intro r' h
      rcases List.mem_append.mp h with z | z
      · rcases List.mem_append.mp z with z | z
        · exact hr r' (List.mem_of_mem_take z)
        · rw [List.mem_singleton.mp z, put_len hb]; exact hrl
      · exact hr r' (List.mem_of_mem_drop z)
    · show (W.rs.take i.toNat ++ [r.take j.toNat ++ [!b] ++ r.drop (j.toNat + 1)] ++ W.rs.drop (i.toNat + 1)).length ≤ 11
      rw [put_len hri]; omega
    · intro z
      exact not_ne b (put_get hb (put_get hri (congrArg Wl.rs z)))
instance {W : Wl} : StC (Wp (rD (mkG T0 200 (k + 2)) d__law_bent [.ref 0, .tup (W.ws.map wordV), .tup (W.rs.map rowV)] (Dc p t)) Q E) (p.ok ∧ W.ok ∧ W.rs.length ≤ 10) (∀ (V : Wl) (p' : Dz), p'.ok → V.ok → V ≠ W → Q (.tup [V.A, V.R]) (Dc p' t)) := ⟨fun c => w_bent c.1 c.2.1 c.2.2⟩
end
end Wd

set_option Elab.async false
set_option linter.all false
set_option maxRecDepth 100000
set_option maxHeartbeats 4000000
namespace Wd
open PySem PySem.Spec PyProof.Rows L2
local macro_rules
  | `(tactic| fail "b") => `(tactic| first | assumption | (simp only [Bool.not_eq_true', Bool.not_eq_false', decide_eq_true_eq, decide_eq_false_iff_not]; first | assumption | omega) | decide +kernel)
local macro_rules
  | `(tactic| fail) => `(tactic| first | assumption | omega | (simp only [sizeLine_eq, S_len, str_len_app, List.length_append, List.length_cons, List.length_nil, List.length_map, intsV_length] at *; omega) | decide +kernel)
local macro_rules
  | `(tactic| fail "c") => `(tactic| first | fail | (refine ⟨?_, ?_⟩; (fail "c"); (fail "c")) | (refine .inl ?_; (fail "c")) | (refine .inr ?_; (fail "c")) | exact rfl)
local macro_rules
  | `(tactic| fail "e") => `(tactic| (simp (disch := first | assumption | omega) only [decide_eq_true, decide_eq_false, Bool.not_true, Bool.not_false]; first | assumption | exact rfl))
local macro_rules
  | `(tactic| fail "u") => `(tactic| refine Un.imp ?_)
local macro_rules
  | `(tactic| fail "s") => `(tactic| first
    | refine St.imp ?_
    | refine StC.imp (by fail "c") ?_
    | with_reducible refine i_dTR (by first | assumption | omega | decide +kernel) ?_ | with_reducible refine i_dFR (by first | assumption | omega | decide +kernel) ?_ | with_reducible refine i_dT (by first | assumption | omega | decide +kernel) ?_ | with_reducible refine i_dF (by first | assumption | omega | decide +kernel) ?_
    | with_reducible refine i_bTR (by fail "b") ?_ | with_reducible refine i_bFR (by fail "b") ?_ | with_reducible refine i_bT (by fail "b") ?_ | with_reducible refine i_bF (by fail "b") ?_ | with_reducible refine i_intT (by fail "b") ?_ | with_reducible refine i_intF (by fail "b") ?_
    | with_reducible refine i_orT (by fail "b") ?_ | with_reducible refine i_orF (by fail "b") ?_ | with_reducible refine i_andT (by fail "b") ?_ | with_reducible refine i_andF (by fail "b") ?_
    | ((with_reducible refine i_bO ?_ ?_); exact rfl)
    | ((with_reducible apply i_item); exact rfl)
    | ((with_reducible apply Wp_run); exact rfl)
    | with_reducible refine i_intB (fun _ => ?_) (fun _ => ?_) | with_reducible refine i_dR (fun _ => ?_) (fun _ => ?_) | with_reducible refine i_d (fun _ => ?_) (fun _ => ?_) | with_reducible refine i_orD (fun _ => ?_) (fun _ => ?_) | with_reducible refine i_andD (fun _ => ?_) (fun _ => ?_) | with_reducible refine i_bR (fun _ => ?_) (fun _ => ?_) | with_reducible refine i_b (fun _ => ?_) (fun _ => ?_) | with_reducible refine i_or (fun _ => ?_) (fun _ => ?_) | with_reducible refine i_and (fun _ => ?_) (fun _ => ?_) | with_reducible assumption | intro _)
local macro_rules
  | `(tactic| fail "b") => `(tactic| first | assumption | (simp only [decide_true, Bool.not_true, Bool.not_false]; done))
section
variable {k : Nat} {p : Dz} {t h : Hs} {Q : Vl → Hs → Prop} {E : Vl → Hs → Prop} {T : Fl → Env → Hs → Prop}
instance {W : Wl} : NI h W.A := ⟨rfl⟩
instance {W : Wl} : NI h W.R := ⟨rfl⟩
instance {W : Wl} : StC (Wp (rD (mkG T0 200 (k + 2)) d__law_bent [.ref 0, W.A, W.R] (Dc p t)) Q E) (p.ok ∧ W.ok ∧ W.rs.length ≤ 10) (∀ (V : Wl) (p' : Dz), p'.ok → V.ok → V ≠ W → Q (.tup [V.A, V.R]) (Dc p' t)) := ⟨fun c => w_bent c.1 c.2.1 c.2.2⟩
instance {W : Wl} : StC (Wp (mO (mkG T0 200 (k + 4)) c_World [W.A, W.R] [] [] h) Q E) W.ok (Q W.v h) := ⟨w_mkW⟩
instance {W : Wl} : StC (Wp (mO (mkG T0 200 (k + 4)) c_World [] ["rows", "atoms"] [W.R, W.A] h) Q E) W.ok (Q W.v h) := ⟨w_mkWk⟩
instance {W : Wl} : St (Wp (bO (mkG T0 200 k) .len W.R h) Q E) (Q (.int W.rs.length) h) := ⟨fun q => i_bO rfl (by unfold Wl.R; repeat' fail "s")⟩
instance {W : Wl} : StC (Wp (bO (mkG T0 200 k) .repr W.A h) Q E) W.ok (Q (.str (shw W.A)) h) := ⟨fun c q => i_bO rfl (by
  obtain ⟨a1, a2, a3⟩ := Wl.gdA c.a
  exact i_repr a1 (by omega) (by omega) q)⟩
instance {W : Wl} : StC (Wp (bO (mkG T0 200 k) .repr W.R h) Q E) W.ok (Q (.str (shw W.R)) h) := ⟨fun c q => i_bO rfl (by
  obtain ⟨a1, a2, a3⟩ := Wl.gdR c
  exact i_repr a1 (by omega) (by omega) q)⟩
instance {W : Wl} {h1 : Hs} : StC (Wp (Rs.of ((cmpV .NotEq h1 W.R (.tup [])).map .bl) h) Q E) W.ok (Q (.bl (!W.rs.isEmpty)) h) := ⟨fun c => i_cmp (neR c.r)⟩
instance {s r : Str} {h1 : Hs} : StC (Wp (Rs.of ((cmpV .NotEq h1 (.lst [.str s, .str r]) (.lst [.str s, .str r])).map .bl) h) Q E) (PyData.strOk s = true ∧ PyData.strOk r = true) (Q (.bl false) h) := ⟨fun c => i_cmp (eq_self (v := .lst [.str s, .str r]) (by simp only [gdV, gdL, c.1, c.2, Bool.and_self]) (by simp only [dpV, dpL]; decide) (fun _ z => nomatch z) (fun _ z => nomatch z) (fun _ z => nomatch z))⟩
instance {a b : Bool} {h1 : Hs} : St (Wp (Rs.of ((cmpV .NotEq h1 (.bl a) (.bl b)).map .bl) h) Q E) (Q (.bl (!decide (a = b))) h) := ⟨fun w => by rw [Wp_o]; exact w⟩
theorem odd_non : OddW h .non := ⟨rfl, fun _ => rfl⟩
theorem odd_tup {xs : List Vl} : OddW h (.tup xs) := ⟨rfl, fun _ => rfl⟩
theorem odd_str {s : Str} : OddW h (.str s) := ⟨rfl, fun _ => rfl⟩
theorem odd_lst {xs : List Vl} : OddW h (.lst xs) := ⟨rfl, fun _ => rfl⟩
theorem odd_int {i : Int} : OddW h (.int i) := ⟨rfl, fun _ => rfl⟩
theorem odd_dic : OddW h (.dic []) := ⟨rfl, fun _ => rfl⟩
theorem w_right (hp : p.ok) (q : ∀ p' : Dz, p'.ok → Q (.bl true) (Dc p' [])) : Wp (rD (mkG T0 200 (k + 9 + 1)) d__law_right [.ref 0] (Dc p [])) Q E := by
  fail "u"
  repeat' fail "s"
  rename_i ws p1 hp1 ha
  have hl := ha.l
  have hl1 : ws.length ≤ 100 := by omega
  refine w_rows hp1 hl1 (by omega) (by omega) fun rs p2 hp2 hlr hr => ?_
  have hm : rs.length ≤ 10 := by have := hlr; omega
  obtain ⟨W, hA, hB⟩ : ∃ W : Wl, ws = W.ws ∧ rs = W.rs := ⟨⟨ws, rs⟩, rfl, rfl⟩
  subst hA hB
  have hW : W.ok := ⟨ha, hr, by omega⟩
  rw [show Vl.tup (W.ws.map wordV) = W.A from rfl, show Vl.tup (W.rs.map rowV) = W.R from rfl]
  repeat' fail "s"
  rename_i V p3 hp3 hV hne
  repeat' fail "s"
  refine w_forL (P := fun xs ρ h' => h' = Dc p3 [] ∧ (∀ x ∈ xs, ∃ U : Wl, U.ok ∧ x = .tup [U.v, U.A, U.R]) ∧ ∃ a b c, ρ = [some (.ref 0), some W.A, some W.R, some V.A, some V.R, some W.v, some W.v, some V.v, a, b, c, none]) ?_ ?_ ?_
  · refine ⟨rfl, ?_, _, _, _, rfl⟩
    intro x hx
    simp only [List.mem_cons, List.not_mem_nil, or_false] at hx
    rcases hx with rfl | rfl | rfl
    · exact ⟨W, hW, rfl⟩
    · exact ⟨V, hV, rfl⟩
    · exact ⟨W, hW, rfl⟩
  · rintro x r ρ h' ⟨rfl, hx, a, b, c, rfl⟩
    obtain ⟨U, hU, rfl⟩ := hx x (by simp)
    have hr' : ∀ x ∈ r, ∃ U : Wl, U.ok ∧ x = .tup [U.v, U.A, U.R] := fun x h => hx x (List.mem_cons_of_mem _ h)
    have sA := Wl.sA hU.a
    have sR := Wl.sR (W := U)
    have hlU : U.rs.length ≤ 1000 := by have := hU.m; omega
    have htx : U.tx = Str.ofString "World(" ++ shw U.A ++ Str.ofString ", " ++ shw U.R ++ Str.ofString ")" := rfl
    obtain ⟨a1, a2, a3⟩ := Wl.gdA hU.a
    obtain ⟨b1, b2, b3⟩ := Wl.gdR hU
    have la := shw_len a1
    have lb := shw_len b1
    have e1 : (Str.ofString "World(").length = 6 := by decide +kernel
    have e2 : (Str.ofString ", ").length = 2 := by decide +kernel
    have e3 : (Str.ofString ")").length = 1 := by decide +kernel
    have l1 : (Str.ofString "World(").length + (shw U.A).length ≤ sizeLine := by rw [sizeLine_eq]; omega
    have l2 : (Str.ofString "World(" ++ shw U.A).length + (Str.ofString ", ").length ≤ sizeLine := by simp only [Str.length_append, sizeLine_eq]; omega
    have l3 : (Str.ofString "World(" ++ shw U.A ++ Str.ofString ", ").length + (shw U.R).length ≤ sizeLine := by simp only [Str.length_append, sizeLine_eq]; omega
    have l4 : (Str.ofString "World(" ++ shw U.A ++ Str.ofString ", " ++ shw U.R).length + (Str.ofString ")").length ≤ sizeLine := by simp only [Str.length_append, sizeLine_eq]; omega
    refine ⟨_, Bd.eq, ?_⟩
    repeat' fail "s"
    exact ⟨rfl, hr', _, _, _, rfl⟩
  · rintro ρ h' ⟨rfl, hx, a, b, c, rfl⟩
    have hWW : W = W := rfl
    have hne' : ¬ W = V := fun z => hne z.symm
    have hne2 : ¬ V = W := hne
    have tail : ∀ (y : Vl) (p' : Dz), p'.ok → OddW (Dc p' []) y → WpR (Bk (mkG T0 200 (k + 9 + 1)) 20 d__law_right.st t__law_right_0_7 [some (.ref 0), some W.A, some W.R, some V.A, some V.R, some W.v, some W.v, some V.v, a, b, c, some y] (Dc p' []) fun r h => .ok .nx r h) (retQ (Dc p []) Q) (retE (Dc p []) E) := by
      intro y p' hp' o
      repeat' fail "s"
      refine cw_eqN o ?_
      repeat' fail "s"
      refine cw_neN o ?_
      repeat' fail "s"
      exact q _ hp'
    repeat' fail "s"
    rename_i i p4 hp4 hi0 hi1
    have : i = 0 ∨ i = 1 ∨ i = 2 ∨ i = 3 ∨ i = 4 ∨ i = 5 ∨ i = 6 := by omega
    rcases this with rfl | rfl | rfl | rfl | rfl | rfl | rfl
    · exact Wp_run rfl (tail _ _ hp4 odd_non)
    · exact Wp_run rfl (tail _ _ hp4 odd_tup)
    · exact Wp_run rfl (tail _ _ hp4 odd_tup)
    · exact Wp_run rfl (tail _ _ hp4 odd_str)
    · exact Wp_run rfl (tail _ _ hp4 odd_lst)
    · exact Wp_run rfl (tail _ _ hp4 odd_int)
    · exact Wp_run rfl (tail _ _ hp4 odd_dic)
instance : StC (Wp (rD (mkG T0 200 (k + 9 + 1)) d__law_right [.ref 0] (Dc p [])) Q E) p.ok (∀ p' : Dz, p'.ok → Q (.bl true) (Dc p' [])) := ⟨w_right⟩
theorem w_law {ns : List Int} (hn : ns.length ≤ 63) (q : Q (.bl true) []) : Wp (rD (mkG T0 200 (k + 12)) d_law [.lst (ns.map .int)] []) Q E := by
  fail "u"
  repeat' fail "s"
  refine w_comp (f := fun _ => .bl true) (fun x hx => ?_) (by fail) ?_
  · obtain ⟨i, rfl, h0, h1⟩ := intsV_mem _ _ hx
    repeat' fail "s"
    exact ⟨rfl, trunc_nil rfl⟩
  · repeat' fail "s"
theorem run21 : ∀ ns : List Int, ns.length ≤ 63 → ∃ h1, runDef (mkG T0 200 14) 200 d_law [.lst (ns.map .int)] [] = .ok (.bl true) h1 := by
  intro ns hn
  have w := w_law (k := 2) (Q := fun v _ => v = .bl true) (E := noE) hn rfl
  rw [Wp_o] at w
  unfold rD at w
  cases e : runDef (mkG T0 200 (2 + 12)) 200 d_law [.lst (ns.map .int)] [] with
  | ok v h1 => rw [e] at w; exact ⟨h1, by rw [show v = .bl true from w]⟩
  | rz _ _ => rw [e] at w; exact w.elim
  | no => rw [e] at w; exact w.elim
end
end Wd

set_option Elab.async false
set_option linter.all false
set_option maxRecDepth 100000
/-! the end over the head's facts -/
namespace Wd
open PySem PySem.Spec PyProof.Rows L2 He

section
variable {l : PySem.W.OpenLaw} {n N Wf : Nat} {q : Program} {loose : List Str} {XP : (Str → Option Value) → Heap → Prop} {YP : World → Heap → Prop} {d : DefRec} {x : Str} {T : Txt} {dL : DefI}
theorem end_ofK (hn : l.most = some n) (hn2 : n ≤ sizeLine) (hdf : d.params.defaults = []) (rm : Room (4 * N + 1) callerA)
    (F : ∀ (w : World) (mg : Str → Option Value) (fa : Addr) (h : Heap), YP w h → h.Ns mainGlobals mg → mg d.name = some (.ref fa) →
      ∃ (K : PySem.W.Frag) (cls : Str → Option Addr) (fd : FuncData), K.In h ∧ TxtOk K mg cls T ∧ DefOk K cls fa fd dL ∧ ∀ (s : Shared) (u : Value), BindsTo s fd ⟨[u], []⟩ [(x, u)])
    (hps : dL.ps = [x]) (run : ∀ ns : List Int, ns.length ≤ n → ∃ h1, runDef (mkG T Wf N) Wf dL [.lst (ns.map .int)] [] = .ok (.bl true) h1) : PySem.W.WalkO q loose XP YP l.row.toRowW d [] (fun f vs => PySem.call f vs) := by
  refine Att.attach_call hn hdf ?_
  intro w s₀ t0 mg mb fa o pm cd doc a vs ns G Y ho hd hcd hmg hobj hints hlen hg
  obtain ⟨K, cls, fd, KX, TO, DO, bnd⟩ := F w mg fa _ Y G.T.g hmg
  obtain ⟨h1, ev⟩ := run ns hlen
  refine go_law (cls := cls) (D := runDef (mkG T Wf N) Wf dL) ⟨KX, G.T.g, G.T.b, G.T.builtins, G.T.nolimit, hg, hobj, hints, Nat.le_trans hlen hn2⟩ rm (fun base _ _ => ?_) bnd ev
  rw [← hps]
  exact DO.fn (prOk TO N)
end
end Wd

set_option Elab.async false
set_option linter.all false
set_option maxRecDepth 100000
set_option maxHeartbeats 0
namespace Wd
open PySem PySem.Spec PyProof.Rows L2
theorem factsK {K : PySem.W.Frag} {h : Heap} {mg : Str → Option Value} {fa : Addr} (X : K.In h) (G : h.Ns mainGlobals mg) (hfa : mg "law" = some (.ref fa)) (c : SaysW fsT fnT K) :
    ∃ (cls : Str → Option Addr) (fd : FuncData), TxtOk K mg cls T0 ∧ DefOk K cls fa fd d_law ∧ ∀ (s : Shared) (u : Value), BindsTo s fd ⟨[u], []⟩ [("_law_script", u)] := by
  obtain ⟨_, _, _, _, _, _, _, _, _, _, l_is_name, c_is_name, k_is_name, rfl, _⟩ := c.dfn 0 rfl
  obtain ⟨_, _, _, _, _, _, _, _, _, _, l_are_names, c_are_names, k_are_names, rfl, _⟩ := c.dfn 1 rfl
  obtain ⟨_, _, _, _, _, _, _, _, _, _, l_check_atoms, c_check_atoms, k_check_atoms, rfl, _⟩ := c.dfn 2 rfl
  obtain ⟨_, _, _, _, _, _, _, _, _, _, l_is_row, c_is_row, k_is_row, rfl, _⟩ := c.dfn 3 rfl
  obtain ⟨_, _, _, _, _, _, _, _, _, _, l_check_rows, c_check_rows, k_check_rows, rfl, _⟩ := c.dfn 4 rfl
  obtain ⟨_, _, _, _, _, _, _, _, _, _, l__law_source, c__law_source, k__law_source, rfl, _⟩ := c.dfn 5 rfl
  obtain ⟨_, _, _, _, _, _, _, _, _, _, l__law_draw, c__law_draw, k__law_draw, rfl, _⟩ := c.dfn 6 rfl
  obtain ⟨_, _, _, _, _, _, _, _, _, _, l__law_name, c__law_name, k__law_name, rfl, _⟩ := c.dfn 7 rfl
  obtain ⟨_, _, _, _, _, _, _, _, _, _, l__law_atoms, c__law_atoms, k__law_atoms, rfl, _⟩ := c.dfn 8 rfl
  obtain ⟨_, _, _, _, _, _, _, _, _, _, l__law_rows, c__law_rows, k__law_rows, rfl, _⟩ := c.dfn 9 rfl
  obtain ⟨_, _, _, _, _, _, _, _, _, _, l__law_bent, c__law_bent, k__law_bent, rfl, _⟩ := c.dfn 10 rfl
  obtain ⟨_, _, _, _, _, _, _, _, _, _, l__law_right, c__law_right, k__law_right, rfl, _⟩ := c.dfn 11 rfl
  obtain ⟨_, _, _, _, _, _, _, _, _, _, l_law, c_law, k_law, rfl, _⟩ := c.dfn 12 rfl
  obtain ⟨_, _, _, _, _, _, _, _, _, _, l_World_init, c_World_init, k_World_init, rfl, _⟩ := c.dfn 13 rfl
  obtain ⟨_, _, _, _, _, _, _, _, _, _, l_World_atoms, c_World_atoms, k_World_atoms, rfl, _⟩ := c.dfn 14 rfl
  obtain ⟨_, _, _, _, _, _, _, _, _, _, l_World_rows, c_World_rows, k_World_rows, rfl, _⟩ := c.dfn 15 rfl
  obtain ⟨_, _, _, _, _, _, _, _, _, _, l_World_len, c_World_len, k_World_len, rfl, _⟩ := c.dfn 16 rfl
  obtain ⟨_, _, _, _, _, _, _, _, _, _, l_World_eq, c_World_eq, k_World_eq, rfl, _⟩ := c.dfn 17 rfl
  obtain ⟨_, _, _, _, _, _, _, _, _, _, l_World_repr, c_World_repr, k_World_repr, rfl, _⟩ := c.dfn 18 rfl
  obtain ⟨_, r_World_atoms⟩ := recP_ok (c.fact 39 rfl)
  obtain ⟨_, r_World_rows⟩ := recP_ok (c.fact 43 rfl)
  obtain ⟨_, g_LETTERS⟩ := strG_ok (c.fact 54 rfl)
  obtain ⟨_, g_DIGITS⟩ := strG_ok (c.fact 55 rfl)
  obtain ⟨_, g_MOST_DIGITS⟩ := intG_ok (c.fact 56 rfl)
  obtain ⟨_, g_MOST_WORLD_ATOMS⟩ := intG_ok (c.fact 57 rfl)
  obtain ⟨_, g_MOST_ATOM_NAMES⟩ := intG_ok (c.fact 58 rfl)
  exact facts X G hfa
    (of_decide_eq_true (c.fact 0 rfl))
    l_is_name
    c_is_name
    k_is_name
    (of_decide_eq_true (c.fact 1 rfl))
    l_are_names
    c_are_names
    k_are_names
    (of_decide_eq_true (c.fact 2 rfl))
    l_check_atoms
    c_check_atoms
    k_check_atoms
    (of_decide_eq_true (c.fact 3 rfl))
    l_is_row
    c_is_row
    k_is_row
    (of_decide_eq_true (c.fact 4 rfl))
    l_check_rows
    c_check_rows
    k_check_rows
    (of_decide_eq_true (c.fact 5 rfl))
    l__law_source
    c__law_source
    k__law_source
    (of_decide_eq_true (c.fact 6 rfl))
    l__law_draw
    c__law_draw
    k__law_draw
    (of_decide_eq_true (c.fact 7 rfl))
    l__law_name
    c__law_name
    k__law_name
    (of_decide_eq_true (c.fact 8 rfl))
    l__law_atoms
    c__law_atoms
    k__law_atoms
    (of_decide_eq_true (c.fact 9 rfl))
    l__law_rows
    c__law_rows
    k__law_rows
    (of_decide_eq_true (c.fact 10 rfl))
    l__law_bent
    c__law_bent
    k__law_bent
    (of_decide_eq_true (c.fact 11 rfl))
    l__law_right
    c__law_right
    k__law_right
    (of_decide_eq_true (c.fact 12 rfl))
    l_law
    c_law
    k_law
    (of_decide_eq_true (c.fact 13 rfl))
    (of_decide_eq_true (c.fact 14 rfl))
    (of_decide_eq_true (c.fact 15 rfl))
    (of_decide_eq_true (c.fact 16 rfl))
    (of_decide_eq_true (c.fact 17 rfl))
    (of_decide_eq_true (c.fact 18 rfl))
    (of_decide_eq_true (c.fact 19 rfl))
    (of_decide_eq_true (c.fact 20 rfl))
    (of_decide_eq_true (c.fact 21 rfl))
    (of_decide_eq_true (c.fact 22 rfl))
    (of_decide_eq_true (c.fact 23 rfl))
    (of_decide_eq_true (c.fact 24 rfl))
    (of_decide_eq_true (c.fact 25 rfl))
    (of_decide_eq_true (c.fact 26 rfl))
    (of_decide_eq_true (c.fact 27 rfl))
    (of_decide_eq_true (c.fact 28 rfl))
    (of_decide_eq_true (c.fact 29 rfl))
    (of_decide_eq_true (c.fact 30 rfl))
    (of_decide_eq_true (c.fact 31 rfl))
    (of_decide_eq_true (c.fact 32 rfl))
    (of_decide_eq_true (c.fact 33 rfl))
    (of_decide_eq_true (c.fact 34 rfl))
    (of_decide_eq_true (c.fact 35 rfl))
    l_World_init
    c_World_init
    k_World_init
    (of_decide_eq_true (c.fact 36 rfl))
    (of_decide_eq_true (c.fact 37 rfl))
    (of_decide_eq_true (c.fact 38 rfl))
    r_World_atoms
    l_World_atoms
    c_World_atoms
    k_World_atoms
    (of_decide_eq_true (c.fact 40 rfl))
    (of_decide_eq_true (c.fact 41 rfl))
    (of_decide_eq_true (c.fact 42 rfl))
    r_World_rows
    l_World_rows
    c_World_rows
    k_World_rows
    (of_decide_eq_true (c.fact 44 rfl))
    (of_decide_eq_true (c.fact 45 rfl))
    l_World_len
    c_World_len
    k_World_len
    (of_decide_eq_true (c.fact 46 rfl))
    (of_decide_eq_true (c.fact 47 rfl))
    (of_decide_eq_true (c.fact 48 rfl))
    l_World_eq
    c_World_eq
    k_World_eq
    (of_decide_eq_true (c.fact 49 rfl))
    (of_decide_eq_true (c.fact 50 rfl))
    (of_decide_eq_true (c.fact 51 rfl))
    l_World_repr
    c_World_repr
    k_World_repr
    (of_decide_eq_true (c.fact 52 rfl))
    (of_decide_eq_true (c.fact 53 rfl))
    g_LETTERS
    g_DIGITS
    g_MOST_DIGITS
    g_MOST_WORLD_ATOMS
    g_MOST_ATOM_NAMES
    (of_decide_eq_true (c.fact 59 rfl))
    (of_decide_eq_true (c.fact 60 rfl))
    (of_decide_eq_true (c.fact 61 rfl))
    (of_decide_eq_true (c.fact 62 rfl))
    (of_decide_eq_true (c.fact 63 rfl))
    (of_decide_eq_true (c.fact 64 rfl))
    (of_decide_eq_true (c.fact 65 rfl))
    (of_decide_eq_true (c.fact 66 rfl))
    (of_decide_eq_true (c.fact 67 rfl))
    (of_decide_eq_true (c.fact 68 rfl))
    (of_decide_eq_true (c.fact 69 rfl))
    (of_decide_eq_true (c.fact 70 rfl))
    (of_decide_eq_true (c.fact 71 rfl))
    (of_decide_eq_true (c.fact 72 rfl))
    (of_decide_eq_true (c.fact 73 rfl))
    (of_decide_eq_true (c.fact 74 rfl))
    (of_decide_eq_true (c.fact 75 rfl))
-- law at 26

end Wd

set_option Elab.async false
set_option linter.all false
set_option maxRecDepth 100000
set_option maxHeartbeats 0
open PySem PySem.W PySem.Calls PyProof.Rows
theorem PySem.Challenge.cw_callflows_k21_worlds_made_holds : PySem.Challenge.rw_callflows_k21_worlds_made.Holds := by
  w_on; o_law
  refine HandSHeadRun.head_any (r := OpenLaw.row PySem.Challenge.rw_callflows_k21_worlds_made) (q := view (OpenLaw.row PySem.Challenge.rw_callflows_k21_worlds_made).prog [26]) (H := Wd.hkR) (ob := Wd.obR) (M := 60000) (loose := Wd.loose) (d := HandSHeadRun.topDef (OpenLaw.row PySem.Challenge.rw_callflows_k21_worlds_made).prog 26) (kwd := []) Wd.obR_eq
    (by kernel_rfl) (fun s => by kernel_rfl) Wd.runR (by kernel_rfl) (by kernel_rfl) (by kernel_rfl) (by rfl) (by first | assumption | decide +kernel) (by decide +kernel) ⟨rfl, rfl, rfl, rfl, rfl, by decide +kernel⟩ ?hw ?hc
  case hw => w_witness2
  case hc =>
    refine Wd.end_ofK (l := PySem.Challenge.rw_callflows_k21_worlds_made) (T := Wd.T0) (dL := Wd.d_law) rfl (by decide) (by kernel_rfl) ⟨rfl, by decide, by decide⟩ ?F rfl Wd.run21
    intro w mg fa h Y G hmg0
    obtain ⟨K, KX, c⟩ := Y
    have hmg : mg ("law" : PySem.Str) = some (.ref fa) := by
      have e : (HandSHeadRun.topDef (OpenLaw.row PySem.Challenge.rw_callflows_k21_worlds_made).prog 26).name = ("law" : PySem.Str) := by kernel_rfl
      rw [← e]
      exact hmg0
    obtain ⟨cls, fd, TO, DO, b⟩ := Wd.factsK KX G hmg c
    exact ⟨K, cls, fd, KX, TO, DO, b⟩

