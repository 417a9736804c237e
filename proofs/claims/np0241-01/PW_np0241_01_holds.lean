import PyProof.Rows.All
import Wide.All
import OpenK.AllK
import Wide.FinOn
import PyProof.AttrMissHeap
import Lean
import PySem.Challenge.RW_np0241_01
open PySem PySem.W PyProof.Rows PySem.Calls
set_option Elab.async false
set_option maxRecDepth 1000000
set_option maxHeartbeats 0
namespace Mine
noncomputable section
set_option tactic.hygienic false

set_option linter.all false
set_option genSizeOf false
set_option genInjectivity false
section
theorem byc {P : Prop} (h : (P → False) → False) : P := Classical.byContradiction h
theorem nosome {α : Type} {x : α} {P : Prop} (h : (none : Option α) = some x) : P := nomatch h
theorem nosome' {α : Type} {x : α} {P : Prop} (h : some x = (none : Option α)) : P := nomatch h
theorem noft {P : Prop} (h : false = true) : P := nomatch h
theorem notf {P : Prop} (h : true = false) : P := nomatch h
theorem obEEAA {α0 α1 : Type} {P0 P1 P2 : α0 → α1 → Prop} {G : Prop} (h : ∃ a0, ∃ a1, P0 a0 a1 ∧ P1 a0 a1 ∧ P2 a0 a1) (k : ∀ a0, ∀ a1, P0 a0 a1 → P1 a0 a1 → P2 a0 a1 → G) : G := h.elim fun a0 h0 => h0.elim fun a1 h1 => k a0 a1 h1.1 h1.2.1 h1.2.2
theorem obEA {α0 : Type} {P0 P1 : α0 → Prop} {G : Prop} (h : ∃ a0, P0 a0 ∧ P1 a0) (k : ∀ a0, P0 a0 → P1 a0 → G) : G := h.elim fun a0 h0 => k a0 h0.1 h0.2
theorem obEEA {α0 α1 : Type} {P0 P1 : α0 → α1 → Prop} {G : Prop} (h : ∃ a0, ∃ a1, P0 a0 a1 ∧ P1 a0 a1) (k : ∀ a0, ∀ a1, P0 a0 a1 → P1 a0 a1 → G) : G := h.elim fun a0 h0 => h0.elim fun a1 h1 => k a0 a1 h1.1 h1.2
theorem obEEEA {α0 α1 α2 : Type} {P0 P1 : α0 → α1 → α2 → Prop} {G : Prop} (h : ∃ a0, ∃ a1, ∃ a2, P0 a0 a1 a2 ∧ P1 a0 a1 a2) (k : ∀ a0, ∀ a1, ∀ a2, P0 a0 a1 a2 → P1 a0 a1 a2 → G) : G := h.elim fun a0 h0 => h0.elim fun a1 h1 => h1.elim fun a2 h2 => k a0 a1 a2 h2.1 h2.2
theorem obEAA {α0 : Type} {P0 P1 P2 : α0 → Prop} {G : Prop} (h : ∃ a0, P0 a0 ∧ P1 a0 ∧ P2 a0) (k : ∀ a0, P0 a0 → P1 a0 → P2 a0 → G) : G := h.elim fun a0 h0 => k a0 h0.1 h0.2.1 h0.2.2
theorem obEAAA {α0 : Type} {P0 P1 P2 P3 : α0 → Prop} {G : Prop} (h : ∃ a0, P0 a0 ∧ P1 a0 ∧ P2 a0 ∧ P3 a0) (k : ∀ a0, P0 a0 → P1 a0 → P2 a0 → P3 a0 → G) : G := h.elim fun a0 h0 => k a0 h0.1 h0.2.1 h0.2.2.1 h0.2.2.2
theorem obAEEAA {α0 α1 : Type} {P0 : Prop} {P1 P2 P3 : α0 → α1 → Prop} {G : Prop} (h : P0 ∧ ∃ a0, ∃ a1, P1 a0 a1 ∧ P2 a0 a1 ∧ P3 a0 a1) (k : P0 → ∀ a0, ∀ a1, P1 a0 a1 → P2 a0 a1 → P3 a0 a1 → G) : G := h.2.elim fun a0 h1 => h1.elim fun a1 h2 => k h.1 a0 a1 h2.1 h2.2.1 h2.2.2
theorem obEAAAAAAA {α0 : Type} {P0 P1 P2 P3 P4 P5 P6 P7 : α0 → Prop} {G : Prop} (h : ∃ a0, P0 a0 ∧ P1 a0 ∧ P2 a0 ∧ P3 a0 ∧ P4 a0 ∧ P5 a0 ∧ P6 a0 ∧ P7 a0) (k : ∀ a0, P0 a0 → P1 a0 → P2 a0 → P3 a0 → P4 a0 → P5 a0 → P6 a0 → P7 a0 → G) : G := h.elim fun a0 h0 => k a0 h0.1 h0.2.1 h0.2.2.1 h0.2.2.2.1 h0.2.2.2.2.1 h0.2.2.2.2.2.1 h0.2.2.2.2.2.2.1 h0.2.2.2.2.2.2.2
theorem obEEAAA {α0 α1 : Type} {P0 P1 P2 P3 : α0 → α1 → Prop} {G : Prop} (h : ∃ a0, ∃ a1, P0 a0 a1 ∧ P1 a0 a1 ∧ P2 a0 a1 ∧ P3 a0 a1) (k : ∀ a0, ∀ a1, P0 a0 a1 → P1 a0 a1 → P2 a0 a1 → P3 a0 a1 → G) : G := h.elim fun a0 h0 => h0.elim fun a1 h1 => k a0 a1 h1.1 h1.2.1 h1.2.2.1 h1.2.2.2
theorem obEEEAA {α0 α1 α2 : Type} {P0 P1 P2 : α0 → α1 → α2 → Prop} {G : Prop} (h : ∃ a0, ∃ a1, ∃ a2, P0 a0 a1 a2 ∧ P1 a0 a1 a2 ∧ P2 a0 a1 a2) (k : ∀ a0, ∀ a1, ∀ a2, P0 a0 a1 a2 → P1 a0 a1 a2 → P2 a0 a1 a2 → G) : G := h.elim fun a0 h0 => h0.elim fun a1 h1 => h1.elim fun a2 h2 => k a0 a1 a2 h2.1 h2.2.1 h2.2.2
theorem obEEEAAAA {α0 α1 α2 : Type} {P0 P1 P2 P3 P4 : α0 → α1 → α2 → Prop} {G : Prop} (h : ∃ a0, ∃ a1, ∃ a2, P0 a0 a1 a2 ∧ P1 a0 a1 a2 ∧ P2 a0 a1 a2 ∧ P3 a0 a1 a2 ∧ P4 a0 a1 a2) (k : ∀ a0, ∀ a1, ∀ a2, P0 a0 a1 a2 → P1 a0 a1 a2 → P2 a0 a1 a2 → P3 a0 a1 a2 → P4 a0 a1 a2 → G) : G := h.elim fun a0 h0 => h0.elim fun a1 h1 => h1.elim fun a2 h2 => k a0 a1 a2 h2.1 h2.2.1 h2.2.2.1 h2.2.2.2.1 h2.2.2.2.2
theorem obAEEAAA {α0 α1 : Type} {P0 : Prop} {P1 P2 P3 P4 : α0 → α1 → Prop} {G : Prop} (h : P0 ∧ ∃ a0, ∃ a1, P1 a0 a1 ∧ P2 a0 a1 ∧ P3 a0 a1 ∧ P4 a0 a1) (k : P0 → ∀ a0, ∀ a1, P1 a0 a1 → P2 a0 a1 → P3 a0 a1 → P4 a0 a1 → G) : G := h.2.elim fun a0 h1 => h1.elim fun a1 h2 => k h.1 a0 a1 h2.1 h2.2.1 h2.2.2.1 h2.2.2.2
theorem obEEEAAAAA {α0 α1 α2 : Type} {P0 P1 P2 P3 P4 P5 : α0 → α1 → α2 → Prop} {G : Prop} (h : ∃ a0, ∃ a1, ∃ a2, P0 a0 a1 a2 ∧ P1 a0 a1 a2 ∧ P2 a0 a1 a2 ∧ P3 a0 a1 a2 ∧ P4 a0 a1 a2 ∧ P5 a0 a1 a2) (k : ∀ a0, ∀ a1, ∀ a2, P0 a0 a1 a2 → P1 a0 a1 a2 → P2 a0 a1 a2 → P3 a0 a1 a2 → P4 a0 a1 a2 → P5 a0 a1 a2 → G) : G := h.elim fun a0 h0 => h0.elim fun a1 h1 => h1.elim fun a2 h2 => k a0 a1 a2 h2.1 h2.2.1 h2.2.2.1 h2.2.2.2.1 h2.2.2.2.2.1 h2.2.2.2.2.2
theorem obAA {P0 P1 P2 : Prop} {G : Prop} (h : P0 ∧ P1 ∧ P2) (k : P0 → P1 → P2 → G) : G := k h.1 h.2.1 h.2.2
theorem obEEEEAAA {α0 α1 α2 α3 : Type} {P0 P1 P2 P3 : α0 → α1 → α2 → α3 → Prop} {G : Prop} (h : ∃ a0, ∃ a1, ∃ a2, ∃ a3, P0 a0 a1 a2 a3 ∧ P1 a0 a1 a2 a3 ∧ P2 a0 a1 a2 a3 ∧ P3 a0 a1 a2 a3) (k : ∀ a0, ∀ a1, ∀ a2, ∀ a3, P0 a0 a1 a2 a3 → P1 a0 a1 a2 a3 → P2 a0 a1 a2 a3 → P3 a0 a1 a2 a3 → G) : G := h.elim fun a0 h0 => h0.elim fun a1 h1 => h1.elim fun a2 h2 => h2.elim fun a3 h3 => k a0 a1 a2 a3 h3.1 h3.2.1 h3.2.2.1 h3.2.2.2
theorem obEEAAAA {α0 α1 : Type} {P0 P1 P2 P3 P4 : α0 → α1 → Prop} {G : Prop} (h : ∃ a0, ∃ a1, P0 a0 a1 ∧ P1 a0 a1 ∧ P2 a0 a1 ∧ P3 a0 a1 ∧ P4 a0 a1) (k : ∀ a0, ∀ a1, P0 a0 a1 → P1 a0 a1 → P2 a0 a1 → P3 a0 a1 → P4 a0 a1 → G) : G := h.elim fun a0 h0 => h0.elim fun a1 h1 => k a0 a1 h1.1 h1.2.1 h1.2.2.1 h1.2.2.2.1 h1.2.2.2.2
theorem obAEA {α0 : Type} {P0 : Prop} {P1 P2 : α0 → Prop} {G : Prop} (h : P0 ∧ ∃ a0, P1 a0 ∧ P2 a0) (k : P0 → ∀ a0, P1 a0 → P2 a0 → G) : G := h.2.elim fun a0 h1 => k h.1 a0 h1.1 h1.2
theorem obAAEA {α0 : Type} {P0 P1 : Prop} {P2 P3 : α0 → Prop} {G : Prop} (h : P0 ∧ P1 ∧ ∃ a0, P2 a0 ∧ P3 a0) (k : P0 → P1 → ∀ a0, P2 a0 → P3 a0 → G) : G := h.2.2.elim fun a0 h2 => k h.1 h.2.1 a0 h2.1 h2.2
theorem obEE {α0 α1 : Type} {P0 : α0 → α1 → Prop} {G : Prop} (h : ∃ a0, ∃ a1, P0 a0 a1) (k : ∀ a0, ∀ a1, P0 a0 a1 → G) : G := h.elim fun a0 h0 => h0.elim fun a1 h1 => k a0 a1 h1
theorem obEEEAAA {α0 α1 α2 : Type} {P0 P1 P2 P3 : α0 → α1 → α2 → Prop} {G : Prop} (h : ∃ a0, ∃ a1, ∃ a2, P0 a0 a1 a2 ∧ P1 a0 a1 a2 ∧ P2 a0 a1 a2 ∧ P3 a0 a1 a2) (k : ∀ a0, ∀ a1, ∀ a2, P0 a0 a1 a2 → P1 a0 a1 a2 → P2 a0 a1 a2 → P3 a0 a1 a2 → G) : G := h.elim fun a0 h0 => h0.elim fun a1 h1 => h1.elim fun a2 h2 => k a0 a1 a2 h2.1 h2.2.1 h2.2.2.1 h2.2.2.2
theorem obAAAAAAAA {P0 P1 P2 P3 P4 P5 P6 P7 P8 : Prop} {G : Prop} (h : P0 ∧ P1 ∧ P2 ∧ P3 ∧ P4 ∧ P5 ∧ P6 ∧ P7 ∧ P8) (k : P0 → P1 → P2 → P3 → P4 → P5 → P6 → P7 → P8 → G) : G := k h.1 h.2.1 h.2.2.1 h.2.2.2.1 h.2.2.2.2.1 h.2.2.2.2.2.1 h.2.2.2.2.2.2.1 h.2.2.2.2.2.2.2.1 h.2.2.2.2.2.2.2.2
theorem obAAA {P0 P1 P2 P3 : Prop} {G : Prop} (h : P0 ∧ P1 ∧ P2 ∧ P3) (k : P0 → P1 → P2 → P3 → G) : G := k h.1 h.2.1 h.2.2.1 h.2.2.2
theorem obAAAAAA {P0 P1 P2 P3 P4 P5 P6 : Prop} {G : Prop} (h : P0 ∧ P1 ∧ P2 ∧ P3 ∧ P4 ∧ P5 ∧ P6) (k : P0 → P1 → P2 → P3 → P4 → P5 → P6 → G) : G := k h.1 h.2.1 h.2.2.1 h.2.2.2.1 h.2.2.2.2.1 h.2.2.2.2.2.1 h.2.2.2.2.2.2
theorem obAEAAA {α0 : Type} {P0 : Prop} {P1 P2 P3 P4 : α0 → Prop} {G : Prop} (h : P0 ∧ ∃ a0, P1 a0 ∧ P2 a0 ∧ P3 a0 ∧ P4 a0) (k : P0 → ∀ a0, P1 a0 → P2 a0 → P3 a0 → P4 a0 → G) : G := h.2.elim fun a0 h1 => k h.1 a0 h1.1 h1.2.1 h1.2.2.1 h1.2.2.2
theorem obAAAA {P0 P1 P2 P3 P4 : Prop} {G : Prop} (h : P0 ∧ P1 ∧ P2 ∧ P3 ∧ P4) (k : P0 → P1 → P2 → P3 → P4 → G) : G := k h.1 h.2.1 h.2.2.1 h.2.2.2.1 h.2.2.2.2
theorem obEEAAAAAAAAAAA {α0 α1 : Type} {P0 P1 P2 P3 P4 P5 P6 P7 P8 P9 P10 P11 : α0 → α1 → Prop} {G : Prop} (h : ∃ a0, ∃ a1, P0 a0 a1 ∧ P1 a0 a1 ∧ P2 a0 a1 ∧ P3 a0 a1 ∧ P4 a0 a1 ∧ P5 a0 a1 ∧ P6 a0 a1 ∧ P7 a0 a1 ∧ P8 a0 a1 ∧ P9 a0 a1 ∧ P10 a0 a1 ∧ P11 a0 a1) (k : ∀ a0, ∀ a1, P0 a0 a1 → P1 a0 a1 → P2 a0 a1 → P3 a0 a1 → P4 a0 a1 → P5 a0 a1 → P6 a0 a1 → P7 a0 a1 → P8 a0 a1 → P9 a0 a1 → P10 a0 a1 → P11 a0 a1 → G) : G := h.elim fun a0 h0 => h0.elim fun a1 h1 => k a0 a1 h1.1 h1.2.1 h1.2.2.1 h1.2.2.2.1 h1.2.2.2.2.1 h1.2.2.2.2.2.1 h1.2.2.2.2.2.2.1 h1.2.2.2.2.2.2.2.1 h1.2.2.2.2.2.2.2.2.1 h1.2.2.2.2.2.2.2.2.2.1 h1.2.2.2.2.2.2.2.2.2.2.1 h1.2.2.2.2.2.2.2.2.2.2.2
theorem obAAAAA {P0 P1 P2 P3 P4 P5 : Prop} {G : Prop} (h : P0 ∧ P1 ∧ P2 ∧ P3 ∧ P4 ∧ P5) (k : P0 → P1 → P2 → P3 → P4 → P5 → G) : G := k h.1 h.2.1 h.2.2.1 h.2.2.2.1 h.2.2.2.2.1 h.2.2.2.2.2
inductive Bi where
  | len | range | isinstance | list | dict | tuple | sorted | zip | max | int | str
noncomputable def Bi.value : Bi → Value
  | .len => .builtin "len" | .range => .type "range" | .isinstance => .builtin "isinstance" | .list => .type "list" | .dict => .type "dict"
  | .tuple => .type "tuple" | .sorted => .builtin "sorted" | .zip => .type "zip" | .max => .builtin "max" | .int => .type "int" | .str => .type "str"
inductive PV where
  | none
  | bool (b : Bool)
  | int (i : Int)
  | str (s : Str)
  | tup (l : List PV)
  | lst (l : List PV)
  | dct (l : List (Str × PV))
  | dci (l : List (Int × PV))
  | ins (C : Addr) (l : List (Str × PV))
  | fn (a : Addr)
  | bi (b : Bi)
  | lam (ps : Arguments) (body : Expr) (scope : Scope) (caps : List (Str × PV))
  | cel (k : Nat)
noncomputable def ownCls (K : Frag) (C : Addr) : Bool :=
  plainGet K C "__class__" && hasDictIn K C && (findIn K (.ref C) "__class__" == some (some (.builtin "object.__class__"))) && (specialIn K (.builtin "object.__class__") "__get__" == some (some (.builtin "getset_descriptor.__get__"))) &&
  (takesIn K (.builtin "object.__class__") == some true) && (mroIn K C (.type "object") == some true) && (findIn K (.ref C) "__eq__" == some (some (.builtin "object.__eq__"))) && (subIn K (.type "str") (.ref C) == some false) && (subIn K (.ref C) (.type "object") == some true)
structure Wd where
  prog : Program
  w : World
  K : Frag
  p : Program
  loose : List Str
  mean : ExcName → Option Value
  mg : Str → Option Value
  mb : Str → Option Value
  tabs : List (Addr × Addr × Str)
  cls : Addr → Bool
  clsOk : ∀ C, cls C = true → ownCls K C = true
noncomputable abbrev Wd.sk (W : Wd) : KeyKind W.prog W.w Str := PySem.strKind W.prog W.w
noncomputable abbrev Wd.ik (W : Wd) : KeyKind W.prog W.w Int := PySem.intKind W.prog W.w
noncomputable def DictObj {prog : Program} {w : World} {K : Type} [DecidableEq K] (knd : KeyKind prog w K) (o : Obj) (kvs : List (K × Value)) : Prop :=
  o.ExactDict ∧ ∃ es ep, o.data = .dict es ep ∧ KeysOf knd es ∧ Pairs knd es.toList kvs ∧ (kvs.map (·.1)).Nodup
noncomputable abbrev IH := Addr → Option Obj
noncomputable def CodeRecF (H : IH) (cd : Value) (q : Str) : Prop := ∃ c o vs t, cd = .ref c ∧ H c = some o ∧ o.data = .fields vs ∧ vs[1]? = some (.str q t)
mutual
inductive Rep (W : Wd) (H : IH) (ca : List Addr) : Value → PV → Prop where
  | none : Rep W H ca .none .none
  | bool {b : Bool} : Rep W H ca (.bool b) (.bool b)
  | int {i : Int} {t : Tok} : Rep W H ca (.int i t) (.int i)
  | str {x : Str} {t : Tok} : Rep W H ca (.str x t) (.str x)
  | tup {a : Addr} {vs : List Value} {n : Nat} {l : List PV} : H a = some { cls := .type "tuple", data := .seq vs.toArray n } → Reps W H ca vs l → Rep W H ca (.ref a) (.tup l)
  | lst {a : Addr} {vs : List Value} {n : Nat} {l : List PV} : H a = some (listOf vs.toArray n) → Reps W H ca vs l → Rep W H ca (.ref a) (.lst l)
  | dct {a : Addr} {o : Obj} {kvs : List (Str × Value)} {l : List (Str × PV)} : (a == sysModules) = false → H a = some o → DictObj W.sk o kvs → Ents W H ca kvs l → Rep W H ca (.ref a) (.dct l)
  | dci {a : Addr} {o : Obj} {kvs : List (Int × Value)} {l : List (Int × PV)} : (a == sysModules) = false → H a = some o → DictObj W.ik o kvs → EntsI W H ca kvs l → Rep W H ca (.ref a) (.dci l)
  | ins {a d C : Addr} {o : Obj} {kvs : List (Str × Value)} {l : List (Str × PV)} : W.cls C = true → H a = some (instObj C d) → H d = some o → DictObj W.sk o kvs → Ents W H ca kvs l → Rep W H ca (.ref a) (.ins C l)
  | fn {a : Addr} : Rep W H ca (.ref a) (.fn a)
  | bi {b : Bi} : Rep W H ca b.value (.bi b)
  | lam {a : Addr} {o : Obj} {fd : FuncData} {ps : Arguments} {body : Expr} {scope : Scope} {caps : List (Str × PV)} : H a = some o → o.cls = .type "function" → o.data = .func fd → fd.params = ps → fd.body = .expr body → fd.scope = scope →
      fd.globals = mainGlobals → fd.builtins = builtinsNs → fd.defaults = .none → fd.kwdefaults = .none → CodeRecF H fd.code fd.qualname → Caps W H ca fd.closure caps → Rep W H ca (.ref a) (.lam ps body scope caps)
  | cel {a : Addr} {k : Nat} : ca[k]? = some a → Rep W H ca (.ref a) (.cel k)
inductive Reps (W : Wd) (H : IH) (ca : List Addr) : List Value → List PV → Prop where
  | nil : Reps W H ca [] []
  | cons {v : Value} {p : PV} {vs : List Value} {ps : List PV} : Rep W H ca v p → Reps W H ca vs ps → Reps W H ca (v :: vs) (p :: ps)
inductive Ents (W : Wd) (H : IH) (ca : List Addr) : List (Str × Value) → List (Str × PV) → Prop where
  | nil : Ents W H ca [] []
  | cons {x : Str} {v : Value} {p : PV} {es : List (Str × Value)} {l : List (Str × PV)} : Rep W H ca v p → Ents W H ca es l → Ents W H ca ((x, v) :: es) ((x, p) :: l)
inductive EntsI (W : Wd) (H : IH) (ca : List Addr) : List (Int × Value) → List (Int × PV) → Prop where
  | nil : EntsI W H ca [] []
  | cons {x : Int} {v : Value} {p : PV} {es : List (Int × Value)} {l : List (Int × PV)} : Rep W H ca v p → EntsI W H ca es l → EntsI W H ca ((x, v) :: es) ((x, p) :: l)
inductive Caps (W : Wd) (H : IH) (ca : List Addr) : List (Str × Addr) → List (Str × PV) → Prop where
  | nil : Caps W H ca [] []
  | cons {x : Str} {c : Addr} {o : Obj} {v : Value} {p : PV} {cs : List (Str × Addr)} {l : List (Str × PV)} : H c = some o → o.data = .cell (some v) → Rep W H ca v p → Caps W H ca cs l → Caps W H ca ((x, c) :: cs) ((x, p) :: l)
end
section
variable {W : Wd} {H H' : IH} {ca ca' : List Addr}
theorem CodeRecF.mono {cd : Value} {q : Str} (x : CodeRecF H cd q) (hH : ∀ (a : Addr) (o : Obj), H a = some o → H' a = some o) : CodeRecF H' cd q :=
  x.elim fun c x => x.elim fun o x => x.elim fun vs x => x.elim fun t x => ⟨c, o, vs, t, x.1, hH _ _ x.2.1, x.2.2⟩
theorem Rep.mono (hH : ∀ (a : Addr) (o : Obj), H a = some o → H' a = some o) (hc : ∀ (k : Nat) (a : Addr), ca[k]? = some a → ca'[k]? = some a) {v : Value} {p : PV} (r : Rep W H ca v p) : Rep W H' ca' v p :=
  Rep.rec (motive_1 := fun v p u_ => Rep W H' ca' v p) (motive_2 := fun v p u_ => Reps W H' ca' v p) (motive_3 := fun v p u_ => Ents W H' ca' v p) (motive_4 := fun v p u_ => EntsI W H' ca' v p) (motive_5 := fun v p u_ => Caps W H' ca' v p) .none .bool .int .str (fun h u_ r => .tup (hH _ _ h) r) (fun h u_ r => .lst (hH _ _ h) r) (fun z h d u_ r => .dct z (hH _ _ h) d r) (fun z h d u_ r => .dci z (hH _ _ h) d r) (fun c h d o u_ r => .ins c (hH _ _ h) (hH _ _ d) o r) .fn .bi (fun h h1 h2 h3 h4 h5 h6 h7 h8 h9 cr u_ cs => .lam (hH _ _ h) h1 h2 h3 h4 h5 h6 h7 h8 h9 (cr.mono hH) cs) (fun h => .cel (hc _ _ h)) .nil (fun u_ u_ a r => .cons a r) .nil (fun u_ u_ a r => .cons a r) .nil (fun u_ u_ a r => .cons a r) .nil (fun h1 h2 u_ u_ a r => .cons (hH _ _ h1) h2 a r) r
theorem Reps.mono (hH : ∀ (a : Addr) (o : Obj), H a = some o → H' a = some o) (hc : ∀ (k : Nat) (a : Addr), ca[k]? = some a → ca'[k]? = some a) {v : List Value} {p : List PV} (r : Reps W H ca v p) : Reps W H' ca' v p :=
  Reps.rec (motive_1 := fun v p u_ => Rep W H' ca' v p) (motive_2 := fun v p u_ => Reps W H' ca' v p) (motive_3 := fun v p u_ => Ents W H' ca' v p) (motive_4 := fun v p u_ => EntsI W H' ca' v p) (motive_5 := fun v p u_ => Caps W H' ca' v p) .none .bool .int .str (fun h u_ r => .tup (hH _ _ h) r) (fun h u_ r => .lst (hH _ _ h) r) (fun z h d u_ r => .dct z (hH _ _ h) d r) (fun z h d u_ r => .dci z (hH _ _ h) d r) (fun c h d o u_ r => .ins c (hH _ _ h) (hH _ _ d) o r) .fn .bi (fun h h1 h2 h3 h4 h5 h6 h7 h8 h9 cr u_ cs => .lam (hH _ _ h) h1 h2 h3 h4 h5 h6 h7 h8 h9 (cr.mono hH) cs) (fun h => .cel (hc _ _ h)) .nil (fun u_ u_ a r => .cons a r) .nil (fun u_ u_ a r => .cons a r) .nil (fun u_ u_ a r => .cons a r) .nil (fun h1 h2 u_ u_ a r => .cons (hH _ _ h1) h2 a r) r
theorem Ents.mono (hH : ∀ (a : Addr) (o : Obj), H a = some o → H' a = some o) (hc : ∀ (k : Nat) (a : Addr), ca[k]? = some a → ca'[k]? = some a) {v : List (Str × Value)} {p : List (Str × PV)} (r : Ents W H ca v p) : Ents W H' ca' v p :=
  Ents.rec (motive_1 := fun v p u_ => Rep W H' ca' v p) (motive_2 := fun v p u_ => Reps W H' ca' v p) (motive_3 := fun v p u_ => Ents W H' ca' v p) (motive_4 := fun v p u_ => EntsI W H' ca' v p) (motive_5 := fun v p u_ => Caps W H' ca' v p) .none .bool .int .str (fun h u_ r => .tup (hH _ _ h) r) (fun h u_ r => .lst (hH _ _ h) r) (fun z h d u_ r => .dct z (hH _ _ h) d r) (fun z h d u_ r => .dci z (hH _ _ h) d r) (fun c h d o u_ r => .ins c (hH _ _ h) (hH _ _ d) o r) .fn .bi (fun h h1 h2 h3 h4 h5 h6 h7 h8 h9 cr u_ cs => .lam (hH _ _ h) h1 h2 h3 h4 h5 h6 h7 h8 h9 (cr.mono hH) cs) (fun h => .cel (hc _ _ h)) .nil (fun u_ u_ a r => .cons a r) .nil (fun u_ u_ a r => .cons a r) .nil (fun u_ u_ a r => .cons a r) .nil (fun h1 h2 u_ u_ a r => .cons (hH _ _ h1) h2 a r) r
theorem EntsI.mono (hH : ∀ (a : Addr) (o : Obj), H a = some o → H' a = some o) (hc : ∀ (k : Nat) (a : Addr), ca[k]? = some a → ca'[k]? = some a) {v : List (Int × Value)} {p : List (Int × PV)} (r : EntsI W H ca v p) : EntsI W H' ca' v p :=
  EntsI.rec (motive_1 := fun v p u_ => Rep W H' ca' v p) (motive_2 := fun v p u_ => Reps W H' ca' v p) (motive_3 := fun v p u_ => Ents W H' ca' v p) (motive_4 := fun v p u_ => EntsI W H' ca' v p) (motive_5 := fun v p u_ => Caps W H' ca' v p) .none .bool .int .str (fun h u_ r => .tup (hH _ _ h) r) (fun h u_ r => .lst (hH _ _ h) r) (fun z h d u_ r => .dct z (hH _ _ h) d r) (fun z h d u_ r => .dci z (hH _ _ h) d r) (fun c h d o u_ r => .ins c (hH _ _ h) (hH _ _ d) o r) .fn .bi (fun h h1 h2 h3 h4 h5 h6 h7 h8 h9 cr u_ cs => .lam (hH _ _ h) h1 h2 h3 h4 h5 h6 h7 h8 h9 (cr.mono hH) cs) (fun h => .cel (hc _ _ h)) .nil (fun u_ u_ a r => .cons a r) .nil (fun u_ u_ a r => .cons a r) .nil (fun u_ u_ a r => .cons a r) .nil (fun h1 h2 u_ u_ a r => .cons (hH _ _ h1) h2 a r) r
theorem Caps.mono (hH : ∀ (a : Addr) (o : Obj), H a = some o → H' a = some o) (hc : ∀ (k : Nat) (a : Addr), ca[k]? = some a → ca'[k]? = some a) {v : List (Str × Addr)} {p : List (Str × PV)} (r : Caps W H ca v p) : Caps W H' ca' v p :=
  Caps.rec (motive_1 := fun v p u_ => Rep W H' ca' v p) (motive_2 := fun v p u_ => Reps W H' ca' v p) (motive_3 := fun v p u_ => Ents W H' ca' v p) (motive_4 := fun v p u_ => EntsI W H' ca' v p) (motive_5 := fun v p u_ => Caps W H' ca' v p) .none .bool .int .str (fun h u_ r => .tup (hH _ _ h) r) (fun h u_ r => .lst (hH _ _ h) r) (fun z h d u_ r => .dct z (hH _ _ h) d r) (fun z h d u_ r => .dci z (hH _ _ h) d r) (fun c h d o u_ r => .ins c (hH _ _ h) (hH _ _ d) o r) .fn .bi (fun h h1 h2 h3 h4 h5 h6 h7 h8 h9 cr u_ cs => .lam (hH _ _ h) h1 h2 h3 h4 h5 h6 h7 h8 h9 (cr.mono hH) cs) (fun h => .cel (hc _ _ h)) .nil (fun u_ u_ a r => .cons a r) .nil (fun u_ u_ a r => .cons a r) .nil (fun u_ u_ a r => .cons a r) .nil (fun h1 h2 u_ u_ a r => .cons (hH _ _ h1) h2 a r) r
noncomputable def RepV (W : Wd) (H : IH) (ca : List Addr) (v : Value) : PV → Prop
  | .none => v = .none
  | .bool b => v = .bool b
  | .int i => ∃ t, v = .int i t
  | .str x => ∃ t, v = .str x t
  | .tup l => ∃ a vs n, v = .ref a ∧ H a = some { cls := .type "tuple", data := .seq vs.toArray n } ∧ Reps W H ca vs l
  | .lst l => ∃ a vs n, v = .ref a ∧ H a = some (listOf vs.toArray n) ∧ Reps W H ca vs l
  | .dct l => ∃ a o kvs, v = .ref a ∧ (a == sysModules) = false ∧ H a = some o ∧ DictObj W.sk o kvs ∧ Ents W H ca kvs l
  | .dci l => ∃ a o kvs, v = .ref a ∧ (a == sysModules) = false ∧ H a = some o ∧ DictObj W.ik o kvs ∧ EntsI W H ca kvs l
  | .ins C l => ∃ a d o kvs, v = .ref a ∧ W.cls C = true ∧ H a = some (instObj C d) ∧ H d = some o ∧ DictObj W.sk o kvs ∧ Ents W H ca kvs l
  | .fn a => v = .ref a
  | .bi b => v = b.value
  | .lam ps body scope caps => ∃ a o fd, v = .ref a ∧ H a = some o ∧ o.cls = .type "function" ∧ o.data = .func fd ∧ fd.params = ps ∧ fd.body = .expr body ∧ fd.scope = scope ∧ fd.globals = mainGlobals ∧ fd.builtins = builtinsNs ∧ fd.defaults = .none ∧ fd.kwdefaults = .none ∧ CodeRecF H fd.code fd.qualname ∧ Caps W H ca fd.closure caps
  | .cel k => ∃ a, v = .ref a ∧ ca[k]? = some a
theorem Rep.inv {v : Value} {p : PV} (r : Rep W H ca v p) : RepV W H ca v p :=
  Rep.casesOn (motive_1 := fun v p u_ => RepV W H ca v p) r rfl rfl ⟨_, rfl⟩ ⟨_, rfl⟩ (fun e r => ⟨_, _, _, rfl, e, r⟩) (fun e r => ⟨_, _, _, rfl, e, r⟩) (fun z e d r => ⟨_, _, _, rfl, z, e, d, r⟩) (fun z e d r => ⟨_, _, _, rfl, z, e, d, r⟩) (fun c e f d r => ⟨_, _, _, _, rfl, c, e, f, d, r⟩) rfl rfl
    (fun h h1 h2 h3 h4 h5 h6 h7 h8 h9 c r => ⟨_, _, _, rfl, h, h1, h2, h3, h4, h5, h6, h7, h8, h9, c, r⟩) (fun e => ⟨_, rfl, e⟩)
noncomputable def RepsV (W : Wd) (H : IH) (ca : List Addr) (vs : List Value) : List PV → Prop
  | [] => vs = []
  | p :: ps => ∃ v us, vs = v :: us ∧ Rep W H ca v p ∧ Reps W H ca us ps
noncomputable def EntsV (W : Wd) (H : IH) (ca : List Addr) (vs : List (Str × Value)) : List (Str × PV) → Prop
  | [] => vs = []
  | e :: ps => ∃ v us, vs = (e.1, v) :: us ∧ Rep W H ca v e.2 ∧ Ents W H ca us ps
theorem Reps.inv {vs : List Value} {ps : List PV} (r : Reps W H ca vs ps) : RepsV W H ca vs ps := Reps.casesOn (motive_2 := fun vs ps u_ => RepsV W H ca vs ps) r rfl fun a r => ⟨_, _, rfl, a, r⟩
theorem Ents.inv {vs : List (Str × Value)} {ps : List (Str × PV)} (r : Ents W H ca vs ps) : EntsV W H ca vs ps := Ents.casesOn (motive_3 := fun vs ps u_ => EntsV W H ca vs ps) r rfl fun a r => ⟨_, _, rfl, a, r⟩
theorem Reps.inil {vs : List Value} (r : Reps W H ca vs []) : vs = [] := r.inv
theorem Reps.icons {vs : List Value} {p : PV} {ps : List PV} (r : Reps W H ca vs (p :: ps)) : ∃ v us, vs = v :: us ∧ Rep W H ca v p ∧ Reps W H ca us ps := r.inv
theorem Reps.one {vs : List Value} {p : PV} (r : Reps W H ca vs [p]) : ∃ v, vs = [v] ∧ Rep W H ca v p := by
  (refine obEEAA r.icons ?_; rintro v us rfl a r)
  rw [r.inil]; exact ⟨v, rfl, a⟩
theorem Reps.two {vs : List Value} {p q : PV} (r : Reps W H ca vs [p, q]) : ∃ v u, vs = [v, u] ∧ Rep W H ca v p ∧ Rep W H ca u q := by
  (refine obEEAA r.icons ?_; rintro v us rfl a r)
  (refine obEA r.one ?_; rintro u rfl b)
  exact ⟨v, u, rfl, a, b⟩
theorem Ents.inil {vs : List (Str × Value)} (r : Ents W H ca vs []) : vs = [] := r.inv
theorem Ents.icons {vs : List (Str × Value)} {x : Str} {p : PV} {ps : List (Str × PV)} (r : Ents W H ca vs ((x, p) :: ps)) : ∃ v us, vs = (x, v) :: us ∧ Rep W H ca v p ∧ Ents W H ca us ps := r.inv
end
end
section
inductive Tag where
  | var (x : Str) | cell (k : Nat) | tmp
inductive MC where
  | ns (m : Str → Option Value)
  | vcell (x : Str) (v : Option Value)
  | cont (t : Tag) (p : PV)
  | tab (c : Addr) (q : Str)
  | is (P : Obj → Prop)
  | lock (o : Obj)
noncomputable def MC.loc : MC → Bool
  | .ns _ => true | .vcell .. => true | .cont (.var _) _ => true | .cont .tmp _ => true | .cont (.cell _) _ => false | .tab .. => false | .is _ => true | .lock _ => true
noncomputable def MC.isTmp : MC → Bool
  | .cont .tmp _ => true | .is _ => true | _ => false
noncomputable def MC.stay : MC → Bool
  | .cont .tmp _ => true | .is _ => true | .lock _ => true | _ => false
noncomputable def Le (H : IH) (h : Heap) : Prop := ∀ (a : Addr) (o : Obj), H a = some o → h.get? a = some o
noncomputable def HLe (H H' : IH) : Prop := ∀ (a : Addr) (o : Obj), H a = some o → H' a = some o
noncomputable def CLe (ca ca' : List Addr) : Prop := ∀ (k : Nat) (a : Addr), ca[k]? = some a → ca'[k]? = some a
theorem HLe.refl {H : IH} : HLe H H := fun u_ u_ e => e
theorem HLe.trans {H H' H'' : IH} (x : HLe H H') (y : HLe H' H'') : HLe H H'' := fun a o e => y a o (x a o e)
theorem CLe.refl {c : List Addr} : CLe c c := fun u_ u_ e => e
theorem CLe.trans {H H' H'' : List Addr} (x : CLe H H') (y : CLe H' H'') : CLe H H'' := fun a o e => y a o (x a o e)
noncomputable def ContObj (W : Wd) (H : IH) (ca : List Addr) (o : Obj) : PV → Prop
  | .lst l => ∃ vs n, o = listOf vs n ∧ Reps W H ca vs.toList l
  | .dct l => ∃ kvs, DictObj W.sk o kvs ∧ Ents W H ca kvs l
  | .dci l => ∃ kvs, DictObj W.ik o kvs ∧ EntsI W H ca kvs l
  | _ => False
noncomputable def MC.At (W : Wd) (H : IH) (ca : List Addr) (h : Heap) (a : Addr) : MC → Prop
  | .ns m => h.Ns a m
  | .vcell _ v => h.IsCell a v
  | .cont _ p => ∃ o, h.get? a = some o ∧ ContObj W H ca o p ∧ (a == sysModules) = false
  | .tab c q => ∃ ps : Array Value, h.get? a = some (tabObj ps) ∧ TriplesOk ps.toList ∧ (∀ pos v, codeAmong pos ps.toList = some v → CodeRecF H v q) ∧ ∀ h', Le H h' → CodeHd h' c a
  | .is P => ∃ o, h.get? a = some o ∧ P o
  | .lock o => h.get? a = some o
section
variable {W : Wd} {H H' : IH} {ca ca' : List Addr} {h h' : Heap} {a : Addr} {c : MC}
theorem ContObj.mono {o : Obj} {p : PV} (x : ContObj W H ca o p) (hH : HLe H H') (hc : CLe ca ca') : ContObj W H' ca' o p := by
  induction p using PV.casesOn <;> simp only [ContObj] at x ⊢
  · (refine obEEA x fun vs n e r => ?_; try clear x); exact ⟨vs, n, e, Reps.mono hH hc r⟩
  · (refine obEA x fun vs e r => ?_; try clear x); exact ⟨vs, e, Ents.mono hH hc r⟩
  · (refine obEA x fun vs e r => ?_; try clear x); exact ⟨vs, e, EntsI.mono hH hc r⟩
theorem MC.At.there (x : c.At W H ca h a) : ∃ o, h.get? a = some o := by
  cases c with
  | ns m => (refine obEEEA x fun o u_ u_ e u_ => ?_; try clear x); exact ⟨o, e⟩
  | vcell n v => (refine obEA x fun o e u_ => ?_; try clear x); exact ⟨o, e⟩
  | cont t p => (refine obEA x fun o e u_ => ?_; try clear x); exact ⟨o, e⟩
  | tab k q => (refine obEA x fun ps e u_ => ?_; try clear x); exact ⟨_, e⟩
  | is P => (refine obEA x fun o e u_ => ?_; try clear x); exact ⟨o, e⟩
  | lock o => exact ⟨o, x⟩
theorem MC.At.mono (x : c.At W H ca h a) (hH : HLe H H') (hc : CLe ca ca') (hk : ∀ o, h.get? a = some o → h'.get? a = some o) : c.At W H' ca' h' a := by
  cases c with
  | ns m => (refine obEEEA x fun o es ep e r => ?_; try clear x); exact ⟨o, es, ep, hk _ e, r⟩
  | vcell n v => (refine obEA x fun o e r => ?_; try clear x); exact ⟨o, hk _ e, r⟩
  | cont t p => (refine obEAA x fun o e r z => ?_; try clear x); exact ⟨o, hk _ e, r.mono hH hc, z⟩
  | tab k q => (refine obEAAA x fun ps e t r g => ?_; try clear x); exact ⟨ps, hk _ e, t, fun pos v q => (r pos v q).mono hH, fun h' l => g h' fun a o e => l a o (hH a o e)⟩
  | is P => (refine obEA x fun o e r => ?_; try clear x); exact ⟨o, hk _ e, r⟩
  | lock o => exact hk _ x
end
noncomputable abbrev RM := Addr → Option MC
noncomputable def RM.set (R : RM) (a : Addr) (c : Option MC) : RM := fun b => if b = a then c else R b
noncomputable def IH.put (H : IH) (a : Addr) (o : Obj) : IH := fun b => if b = a then some o else H b
theorem RM.set_self {R : RM} {a : Addr} {c : Option MC} : R.set a c a = c := if_pos rfl
theorem RM.set_ne {R : RM} {a b : Addr} {c : Option MC} (h : b ≠ a) : R.set a c b = R b := if_neg h
theorem IH.put_self {H : IH} {a : Addr} {o : Obj} : H.put a o a = some o := if_pos rfl
theorem IH.put_ne {H : IH} {a b : Addr} {o : Obj} (h : b ≠ a) : H.put a o b = H b := if_neg h
structure Core (W : Wd) (H : IH) (ca : List Addr) (R : RM) (h : Heap) : Prop where
  le : Le H h
  hid : ∀ a c, R a = some c → H a = none
  reg : ∀ a c, R a = some c → c.At W H ca h a
structure Ext (H : IH) (R : RM) (h : Heap) (ca : List Addr) (H' : IH) (R' : RM) (h' : Heap) (ca' : List Addr) : Prop where
  imm : HLe H H'
  ca : CLe ca ca'
  pres : ∀ b o, h.get? b = some o → R b = none → h'.get? b = some o
  newH : ∀ b, H' b ≠ none → H b ≠ none ∨ R b ≠ none ∨ h.get? b = none
  newR : ∀ b, R' b ≠ none → R b ≠ none ∨ h.get? b = none
  tmp : ∀ a c, R a = some c → c.stay = true → R' a = some c
  live : ∀ b, h'.get? b = none → h.get? b = none
structure SEq (s s' : Shared) : Prop where
  gens : s'.gens = s.gens
  drawn : s'.drawn = s.drawn
  os : s'.os = s.os
theorem SEq.refl {s : Shared} : SEq s s := ⟨rfl, rfl, rfl⟩
theorem SEq.trans {s s' s'' : Shared} (x : SEq s s') (y : SEq s' s'') : SEq s s'' := ⟨y.gens.trans x.gens, y.drawn.trans x.drawn, y.os.trans x.os⟩
theorem SEq.mk' {s : Shared} {h : Heap} {t : Nat} : SEq s { s with heap := h, toks := t } := ⟨rfl, rfl, rfl⟩
section
variable {W : Wd} {H H' H'' : IH} {ca ca' ca'' : List Addr} {h h' h'' : Heap} {R R' R'' : RM} {a : Addr} {c : MC}
theorem live_of (k : ∀ b o, h.get? b = some o → h'.get? b = some o) : ∀ b, h'.get? b = none → h.get? b = none := fun b e => by
  cases q : h.get? b with
  | none => rfl
  | some o => rw [k b o q] at e; exact nosome' e
theorem live_but {a : Addr} (k : ∀ b o, b ≠ a → h.get? b = some o → h'.get? b = some o) (x : ∃ o, h'.get? a = some o) : ∀ b, h'.get? b = none → h.get? b = none := fun b e => by
  cases q : h.get? b with
  | none => rfl
  | some o =>
    by_cases hb : b = a
    · subst hb; obtain ⟨o, eo⟩ := x; rw [eo] at e; exact nosome' e
    · rw [k b o hb q] at e; exact nosome' e
theorem Ext.refl : Ext H R h ca H R h ca := ⟨HLe.refl, CLe.refl, fun u_ u_ e u_ => e, fun u_ e => .inl e, fun u_ e => .inl e, fun u_ u_ e u_ => e, fun u_ e => e⟩
theorem Core.someR (C : Core W H ca R h) {b : Addr} (e : R b ≠ none) : h.get? b ≠ none := by
  cases q : R b with
  | none => exact absurd q e
  | some c => obtain ⟨o, eo⟩ := (C.reg b c q).there; rw [eo]; exact Option.some_ne_none _
theorem Ext.trans (x : Ext H R h ca H' R' h' ca') (y : Ext H' R' h' ca' H'' R'' h'' ca'') : Ext H R h ca H'' R'' h'' ca'' := by
  refine ⟨x.imm.trans y.imm, x.ca.trans y.ca, fun b o e r => y.pres b o (x.pres b o e r) ?_, fun b e => ?_, fun b e => ?_, fun a c e t => y.tmp a c (x.tmp a c e t) t, fun b e => x.live b (y.live b e)⟩
  · cases q : R' b with
    | none => rfl
    | some c =>
      rcases x.newR b (by rw [q]; exact Option.some_ne_none _) with z | z
      · exact absurd r z
      · rw [z] at e; exact nosome e
  · rcases y.newH b e with z | z | z
    · exact x.newH b z
    · rcases x.newR b z with u | u
      · exact .inr (.inl u)
      · exact .inr (.inr u)
    · exact .inr (.inr (x.live b z))
  · rcases y.newR b e with z | z
    · exact x.newR b z
    · exact .inr (x.live b z)
theorem Core.grow (C : Core W H ca R h) (k : ∀ b o, h.get? b = some o → (H b ≠ none ∨ R b ≠ none) → h'.get? b = some o) : Core W H ca R h' :=
  ⟨fun a o e => k a o (C.le a o e) (.inl (by rw [e]; exact Option.some_ne_none _)), C.hid, fun a c e => (C.reg a c e).mono HLe.refl CLe.refl fun o q => k a o q (.inr (by rw [e]; exact Option.some_ne_none _))⟩
theorem Ext.grow (k : ∀ b o, h.get? b = some o → h'.get? b = some o) : Ext H R h ca H R h' ca := ⟨HLe.refl, CLe.refl, fun b o e u_ => k b o e, fun u_ e => .inl e, fun u_ e => .inl e, fun u_ u_ e u_ => e, live_of k⟩
theorem Ext.updNew (x : Ext H R h ca H' R' h' ca') (ha : h.get? a = none) {c' : Option MC} (k : ∀ b o, b ≠ a → h'.get? b = some o → h''.get? b = some o) (hr : R a = none) : Ext H R h ca H' (R'.set a c') h'' ca' := by
  refine ⟨x.imm, x.ca, fun b o q r => k b o (fun z => by rw [z, ha] at q; exact nosome q) (x.pres b o q r), x.newH, fun b z => ?_, fun b d q t => ?_, fun b e => ?_⟩
  · by_cases hb : b = a
    · subst hb; exact .inr ha
    · rw [RM.set_ne hb] at z; exact x.newR b z
  · rw [RM.set_ne fun z => by rw [z, hr] at q; exact nosome q]; exact x.tmp b d q t
  · by_cases hb : b = a
    · subst hb; exact ha
    · refine x.live b ?_
      cases q : h'.get? b with
      | none => rfl
      | some o => rw [k b o hb q] at e; exact nosome' e
theorem Core.upd (C : Core W H ca R h) (e : R a = some c) {c' : MC} (k : ∀ b o, b ≠ a → h.get? b = some o → h'.get? b = some o) (x : c'.At W H ca h' a) : Core W H ca (R.set a (some c')) h' := by
  have hn := (C.hid a c e)
  refine ⟨fun b o q => k b o (fun z => by rw [z, hn] at q; exact nosome q) (C.le b o q), fun b d q => ?_, fun b d q => ?_⟩
  · by_cases hb : b = a
    · subst hb; exact hn
    · rw [RM.set_ne hb] at q; exact C.hid b d q
  · by_cases hb : b = a
    · subst hb; rw [RM.set_self] at q; (replace q := Option.some.inj q; subst q); exact x
    · rw [RM.set_ne hb] at q
      exact (C.reg b d q).mono HLe.refl CLe.refl fun o z => k b o hb z
theorem Ext.upd (e : R a = some c) (ht : c.stay = false) {c' : MC} (k : ∀ b o, b ≠ a → h.get? b = some o → h'.get? b = some o) (x : c'.At W H ca h' a) : Ext H R h ca H (R.set a (some c')) h' ca := by
  have hr : R a ≠ none := by rw [e]; exact Option.some_ne_none _
  refine ⟨HLe.refl, CLe.refl, fun b o q r => k b o (fun z => by rw [z] at r; exact hr r) q, fun u_ z => .inl z, fun b z => ?_, fun b d q t => ?_, live_but k x.there⟩
  · by_cases hb : b = a
    · subst hb; exact .inl hr
    · rw [RM.set_ne hb] at z; exact .inl z
  · by_cases hb : b = a
    · subst hb; rw [e] at q; (replace q := Option.some.inj q; subst q); rw [ht] at t; exact noft t
    · rw [RM.set_ne hb]; exact q
theorem Core.newReg (C : Core W H ca R h) (hf : h.get? a = none) (k : ∀ b o, h.get? b = some o → h'.get? b = some o) (x : c.At W H ca h' a) : Core W H ca (R.set a (some c)) h' := by
  refine ⟨fun b o q => k b o (C.le b o q), fun b d q => ?_, fun b d q => ?_⟩
  · by_cases hb : b = a
    · subst hb
      cases z : H b with
      | none => rfl
      | some o => have := C.le b o z; rw [hf] at this; exact nosome this
    · rw [RM.set_ne hb] at q; exact C.hid b d q
  · by_cases hb : b = a
    · subst hb; rw [RM.set_self] at q; (replace q := Option.some.inj q; subst q); exact x
    · rw [RM.set_ne hb] at q
      exact (C.reg b d q).mono HLe.refl CLe.refl fun o z => k b o z
theorem Core.freshR (C : Core W H ca R h) (hf : h.get? a = none) : R a = none := by
  cases q : R a with
  | none => rfl
  | some c => exact absurd hf (C.someR (by rw [q]; exact Option.some_ne_none _))
theorem Core.freshH (C : Core W H ca R h) (hf : h.get? a = none) : H a = none := by
  cases q : H a with
  | none => rfl
  | some c => have := C.le a c q; rw [hf] at this; exact nosome this
theorem Ext.newReg (C : Core W H ca R h) (hf : h.get? a = none) (k : ∀ b o, h.get? b = some o → h'.get? b = some o) : Ext H R h ca H (R.set a (some c)) h' ca := by
  have hR := C.freshR hf
  refine ⟨HLe.refl, CLe.refl, fun b o q u_ => k b o q, fun u_ z => .inl z, fun b z => ?_, fun b d q t => ?_, live_of k⟩
  · by_cases hb : b = a
    · subst hb; exact .inr hf
    · rw [RM.set_ne hb] at z; exact .inl z
  · by_cases hb : b = a
    · subst hb; rw [hR] at q; exact nosome q
    · rw [RM.set_ne hb]; exact q
theorem HLe.put {o : Obj} (hn : H a = none) : HLe H (H.put a o) := fun b q e => by
  by_cases hb : b = a
  · subst hb; rw [hn] at e; exact nosome e
  · rw [IH.put_ne hb]; exact e
theorem Core.newImm {o : Obj} (C : Core W H ca R h) (hf : h.get? a = none) (k : ∀ b o, h.get? b = some o → h'.get? b = some o) (x : h'.get? a = some o) : Core W (H.put a o) ca R h' := by
  have hR := C.freshR hf
  have hH := C.freshH hf
  refine ⟨fun b q e => ?_, fun b d q => ?_, fun b d q => ?_⟩
  · by_cases hb : b = a
    · subst hb; rw [IH.put_self] at e; (replace e := Option.some.inj e; subst e); exact x
    · rw [IH.put_ne hb] at e; exact k b q (C.le b q e)
  · have hb : b ≠ a := fun z => by rw [z, hR] at q; exact nosome q
    exact (IH.put_ne hb).trans (C.hid b d q)
  · exact (C.reg b d q).mono (HLe.put hH) CLe.refl fun o z => k b o z
theorem Ext.newImm {o : Obj} (C : Core W H ca R h) (hf : h.get? a = none) (k : ∀ b o, h.get? b = some o → h'.get? b = some o) : Ext H R h ca (H.put a o) R h' ca := by
  have hH := C.freshH hf
  refine ⟨HLe.put hH, CLe.refl, fun b o q u_ => k b o q, fun b z => ?_, fun u_ z => .inl z, fun u_ u_ e u_ => e, live_of k⟩
  by_cases hb : b = a
  · subst hb; exact .inr (.inr hf)
  · rw [IH.put_ne hb] at z; exact .inl z
theorem Core.freeze {o : Obj} (C : Core W H ca R h) (e : R a = some c) (x : h.get? a = some o) : Core W (H.put a o) ca (R.set a none) h := by
  have hH := (C.hid a c e)
  refine ⟨fun b q e => ?_, fun b d q => ?_, fun b d q => ?_⟩
  · by_cases hb : b = a
    · subst hb; rw [IH.put_self] at e; (replace e := Option.some.inj e; subst e); exact x
    · rw [IH.put_ne hb] at e; exact C.le b q e
  · have hb : b ≠ a := fun z => by rw [z, RM.set_self] at q; exact nosome q
    rw [RM.set_ne hb] at q
    exact (IH.put_ne hb).trans (C.hid b d q)
  · have hb : b ≠ a := fun z => by rw [z, RM.set_self] at q; exact nosome q
    rw [RM.set_ne hb] at q
    exact (C.reg b d q).mono (HLe.put hH) CLe.refl fun o z => z
theorem Ext.freeze {o : Obj} (C : Core W H ca R h) (e : R a = some c) (ht : c.stay = false) : Ext H R h ca (H.put a o) (R.set a none) h ca := by
  have hH := (C.hid a c e)
  have hr : R a ≠ none := by rw [e]; exact Option.some_ne_none _
  refine ⟨HLe.put hH, CLe.refl, fun b o q u_ => q, fun b z => ?_, fun b z => ?_, fun b d q t => ?_, fun u_ e => e⟩
  · by_cases hb : b = a
    · subst hb; exact .inr (.inl hr)
    · rw [IH.put_ne hb] at z; exact .inl z
  · by_cases hb : b = a
    · subst hb; exact .inl hr
    · rw [RM.set_ne hb] at z; exact .inl z
  · by_cases hb : b = a
    · subst hb; rw [e] at q; (replace q := Option.some.inj q; subst q); rw [ht] at t; exact noft t
    · rw [RM.set_ne hb]; exact q
end
end
section
inductive Mode where
  | plain | own | froz
structure Bind where
  m : Mode
  p : PV
structure St where
  fr : List (Str × Bind)
  cs : List PV
noncomputable def fget (fr : List (Str × Bind)) (x : Str) : Option Bind := fr.lookup x
noncomputable def fset : List (Str × Bind) → Str → Bind → List (Str × Bind)
  | [], x, b => [(x, b)]
  | (y, c) :: r, x, b => if y = x then (y, b) :: r else (y, c) :: fset r x b
theorem fget_fset (fr : List (Str × Bind)) (x y : Str) (b : Bind) : fget (fset fr x b) y = if y = x then some b else fget fr y := by
  induction fr with
  | nil =>
    simp only [fset, fget, List.lookup_cons, List.lookup_nil]
    by_cases h : y = x
    · simp [h]
    · have : (y == x) = false := by simpa using h
      simp [h, this]
  | cons p r ih =>
    obtain ⟨z, c⟩ := p
    unfold fset
    by_cases hz : z = x
    · rw [if_pos hz]
      simp only [fget, List.lookup_cons]
      by_cases h : y = x
      · subst h; simp [hz]
      · have : (y == z) = false := by simp; exact fun e => h (e.trans hz)
        simp [h, this]
    · rw [if_neg hz]
      simp only [fget, List.lookup_cons] at ih ⊢
      by_cases hy : y = z
      · subst hy; simp [hz]
      · have : (y == z) = false := by simpa using hy
        rw [this]; exact ih
noncomputable def dget {α : Type} [DecidableEq α] : List (α × PV) → α → Option PV
  | [], _ => none
  | (y, c) :: r, x => if y = x then some c else dget r x
noncomputable def dset {α : Type} [DecidableEq α] : List (α × PV) → α → PV → List (α × PV)
  | [], x, b => [(x, b)]
  | (y, c) :: r, x, b => if y = x then (y, b) :: r else (y, c) :: dset r x b
structure FnI where
  name : Str
  qual : Str
  params : Arguments
  body : List Stmt
  scope : Scope
  lam : Bool
structure Tb where
  glob : Str → Option PV
  
  keep : Addr → Bool
  fun_ : Addr → Option FnI
  
  init : Addr → Option Addr
  meth : Addr → Str → Option Addr
  
  attr : Addr → Str → Bool
  cellAt : Pos → Bool
  
  turns : Nat
  
  inl : PV → Bool
structure SC where
  names : List (Str × NameKind)
  lam : Bool
noncomputable abbrev Oracle := PV → List PV → List PV → (PV → List PV → Prop) → Prop
noncomputable def fits (i : Int) : Bool := Nat.blt i.natAbs.log2 2000000
noncomputable def sfits (n : Nat) : Bool := Nat.blt n 1048576
noncomputable def idx : Int → Bool
  | .ofNat n => Nat.blt n 1099511627776
  | _ => false
noncomputable def posi : Int → Bool
  | .ofNat (_ + 1) => true
  | _ => false
noncomputable def req (b : Bool) (P : Prop) : Prop := match b with
  | true => P
  | false => False
theorem req_iff {b : Bool} {P : Prop} : req b P ↔ b = true ∧ P := by induction b using Bool.casesOn <;> simp [req]
inductive BR where
  | val (p : PV)
  | own (x : Str)
noncomputable def isCont : PV → Bool
  | .lst _ | .dct _ | .dci _ => true
  | _ => false
noncomputable def BR.cont (σ : St) : BR → Option PV
  | .val (.cel k) => σ.cs[k]?
  | .val p => some p
  | .own x => match fget σ.fr x with
    | some ⟨.own, p⟩ => if isCont p then some p else none
    | _ => none
noncomputable def truth : PV → Option Bool
  | .bool b => some b
  | _ => none
mutual
noncomputable def pd : PV → Option PyData
  | .none => some .none
  | .bool b => some (.bool b)
  | .int i => some (.int i)
  | .str x => some (.str x)
  | .tup l => (pds l).map .tuple
  | .lst l => (pds l).map .list
  | _ => none
noncomputable def pds : List PV → Option (List PyData)
  | [] => some []
  | p :: r => match pd p, pds r with
    | some d, some ds => some (d :: ds)
    | _, _ => none
end
noncomputable def peq1 (p q : PV) : Option Bool := match p with
  | .str x => (match q with
    | .str y => some (x == y)
    | _ => none)
  | .int x => (match q with
    | .int y => some (x == y)
    | _ => none)
  | _ => none
noncomputable def peqT : List PV → List PV → Option Bool
  | [], [] => some true
  | [], _ :: _ => some false
  | _ :: _, [] => some false
  | p :: a, q :: b => match peq1 p q with
    | some k => (peqT a b).map (k && ·)
    | none => none
noncomputable def okL (x : Str) : Bool := x.cps.toList.all fun c => Nat.blt c 0x110000
noncomputable def peq0 : PV → PV → Option Bool
  | .int a, .int b => some (a == b)
  | .str a, .str b => some (a == b)
  | .ins _ _, .str _ => some false
  | .int _, .str y => (match okL y with | true => some false | false => none)
  | .lst [], .lst (_ :: _) => some false
  | .lst (_ :: _), .lst [] => some false
  | .dct (_ :: _), .dct [] => some false
  | .dct [], .dct [] => some true
  | a, b => match pd a, pd b with
    | some x, some y => if SeqAt.shaped x && SeqAt.shaped y then some (PyData.eqv x y) else none
    | _, _ => none
noncomputable def peq (a b : PV) : Option Bool := match a, b with
  | .tup x, .tup y => (match peqT x y with
    | some r => some r
    | none => peq0 (.tup x) (.tup y))
  | a, b => peq0 a b
noncomputable def isStrs : List PV → Option (List Str)
  | [] => some []
  | .str x :: r => (isStrs r).map (x :: ·)
  | _ => none
noncomputable def dkeys {α : Type} (l : List (α × PV)) : List α := l.map (·.1)
noncomputable def pisin (x c : PV) : Option Bool := match c, x with
  | .dct l, .str k => some (dget l k).isSome
  | .dci l, .int k => some (dget l k).isSome
  | .lst l, .str k => (isStrs l).bind fun ks => if PyData.strOk k && ks.all PyData.strOk then some (ks.contains k) else none
  | _, _ => none
noncomputable def isNone : PV → Bool
  | .none => true
  | _ => false
noncomputable def noNe : PV → Bool
  | .ins _ _ => true
  | .dct _ => true
  | _ => false
noncomputable def cmp (op : CmpOp) (a b : PV) : Option Bool := match op with
  | .Eq => peq a b
  | .NotEq => if noNe a then none else (peq0 a b).map (!·)
  | .Lt => match a, b with | .int x, .int y => some (decide (x < y)) | _, _ => none
  | .Gt => match a, b with | .int x, .int y => some (decide (y < x)) | _, _ => none
  | .GtE => match a, b with | .int x, .int y => some (decide (y ≤ x)) | _, _ => none
  | .Is => match b with | .none => some (isNone a) | _ => none
  | .IsNot => match b with | .none => some (!isNone a) | _ => none
  | .In => pisin a b
  | .NotIn => (pisin a b).map (!·)
  | _ => none
noncomputable def binop (op : Operator) (a b : PV) (K : PV → Prop) : Prop := match op, a, b with
  | .Add, .int x, .int y => K (.int (x + y))
  | .Sub, .int x, .int y => K (.int (x - y))
  | .Mult, .int x, .int y => req (fits x) (req (fits y) (K (.int (x * y))))
  | .FloorDiv, .int x, .int y => req (posi y) (req (Nat.blt y.natAbs.log2 9000) (K (.int (Int.fdiv x y))))
  | .Mod, .int x, .int y => req (posi y) (req (Nat.blt y.natAbs.log2 9000) (K (.int (Int.fmod x y))))
  | .Pow, .int x, .int y => req (decide (x = 10)) (req (decide (y = 18)) (K (.int 1000000000000000000)))
  | .Add, .str x, .str y => req (sfits (x.length + y.length)) (K (.str (x ++ y)))
  | .Add, .lst x, .lst y => req (sfits (x.length + y.length)) (K (.lst (x ++ y)))
  | .Mult, .lst [p], .int n => req (idx n) (req (sfits n.toNat) (K (.lst (List.replicate n.toNat p))))
  | _, _, _ => False
noncomputable def instOf (cl : Addr → Bool) : PV → PV → Option Bool
  | .ins C _, .fn D => if cl C && cl D then some (decide (C = D)) else none
  | .int _, .bi .int => some true
  | .int _, .bi .str => some false
  | .int _, .bi .tuple => some false
  | .str _, .bi .int => some false
  | .str _, .bi .str => some true
  | .str _, .bi .tuple => some false
  | .tup _, .bi .int => some false
  | .tup _, .bi .str => some false
  | .tup _, .bi .tuple => some true
  | _, _ => none
noncomputable def instAny (cl : Addr → Bool) (p : PV) : List PV → Option Bool
  | [] => some false
  | t :: r => match instOf cl p t with
    | some true => some true
    | some false => instAny cl p r
    | none => none
noncomputable def pairsOf : List PV → List (Str × PV) → Option (List (Str × PV))
  | [], acc => some acc
  | .tup [.str k, p] :: r, acc => pairsOf r (dset acc k p)
  | _, _ => none
noncomputable def plen : PV → Option Nat
  | .lst l => some l.length
  | .tup l => some l.length
  | _ => none
noncomputable def strOfInt (i : Int) : Str := Str.ofString (toString i)
noncomputable def vcBi (cl : Addr → Bool) (b : Bi) (args : List PV) (K : Bool → PV → Prop) : Prop := match b, args with
  | .len, [p] => match plen p with | some n => req (sfits n) (K false (.int n)) | none => False
  | .isinstance, [p, .tup (t :: ts)] => match instAny cl p (t :: ts) with | some r => K false (.bool r) | none => False
  | .isinstance, [p, t] => match instOf cl p t with | some r => K false (.bool r) | none => False
  | .list, [.lst l] => req (sfits l.length) (K false (.lst l))
  | .dict, [.dct l] => req (sfits l.length) (K true (.dct l))
  | .dict, [.lst l] => req (sfits l.length) (match pairsOf l [] with | some d => K true (.dct d) | none => False)
  | .tuple, [.lst l] => req (sfits l.length) (K false (.tup l))
  | .sorted, [.dct []] => K false (.lst [])
  | .sorted, [.dct [(x, _)]] => K false (.lst [.str x])
  | .max, [.int x, .int y] => K false (.int (if x < y then y else x))
  | .int, [.int x] => K false (.int x)
  | .int, [.bool x] => K false (.int (if x then 1 else 0))
  | .str, [.int x] => req (Nat.blt x.natAbs 1000000000) (K false (.str (strOfInt x)))
  | _, _ => False
noncomputable def rfindSign (c : Nat) : List Nat → Int → Int → Int
  | [], _, r => r
  | d :: l, i, r => rfindSign c l (i + 1) (if d = c then i else r)
noncomputable def digitsOnly (l : List Nat) : Bool := !l.isEmpty && l.all fun d => decide (48 ≤ d ∧ d ≤ 57)
noncomputable def asciiOnly (l : List Nat) : Bool := l.all fun d => decide (d < 128)
noncomputable def getK (d : PV) (K : PV → Prop) : Option PV → Prop
  | some p => K p
  | none => K d
theorem getK_eq {d : PV} {K : PV → Prop} {o : Option PV} (h : getK d K o) : K (o.getD d) := by
  induction o using Option.casesOn <;> exact h
noncomputable def vcMeth (p : PV) (name : Str) (args : List PV) (K : PV → Prop) : Prop := match p, args with
  | .dct l, [.str k] => req (name == "get") (getK .none K (dget l k))
  | .dct l, [.str k, d] => req (name == "get") (getK d K (dget l k))
  | .str x, [.str y] => req (name == "rfind") (req (decide (y = Str.mk #[46])) (req (asciiOnly x.cps.toList) (req (sfits x.length) (K (.int (rfindSign 46 x.cps.toList 0 (-1)))))))
  | .str x, [] => req (name == "isdigit") (req (asciiOnly x.cps.toList) (req (sfits x.length) (K (.bool (digitsOnly x.cps.toList)))))
  | _, _ => False
noncomputable def vcTurn (p : PV) (name : Str) (args : List PV) (K : PV → PV → Prop) : Prop := match p, args with
  | .lst l, [q] => if name = "append" then req (sfits (l.length + 1)) (K (.lst (l ++ [q])) .none)
      else req (name == "extend") (match q with | .lst m => req (sfits (l.length + m.length)) (K (.lst (l ++ m)) .none) | _ => False)
  | .lst l, [] => req (name == "pop") (req (sfits l.length) (match l.getLast? with | some q => K (.lst l.dropLast) q | none => False))
  | .dct l, [.dct m] => req (name == "update") (req (sfits (l.length + m.length)) (K (.dct (m.foldl (fun d e => dset d e.1 e.2) l)) .none))
  | _, _ => False
noncomputable def mkind : PV → Nat
  | .lst _ => 1
  | .dct _ => 2
  | .str _ => 3
  | _ => 0
noncomputable def turnOk (c : PV) (name : Str) : Bool := match c with
  | .lst _ => name == "append" || (name == "extend" || name == "pop")
  | .dct _ => name == "update"
  | _ => false
noncomputable def methOk (c : PV) (name : Str) : Bool := match c with
  | .dct _ => name == "get"
  | .str _ => name == "rfind" || name == "isdigit"
  | _ => false
noncomputable def vcItem (c i : PV) (K : PV → Prop) : Prop := match c, i with
  | .lst l, .int k => req (idx k) (match l[k.toNat]? with | some p => K p | none => False)
  | .tup l, .int k => req (idx k) (match l[k.toNat]? with | some p => K p | none => False)
  | .dct l, .str k => match dget l k with | some p => K p | none => False
  | .dci l, .int k => match dget l k with | some p => K p | none => False
  | _, _ => False
noncomputable def vcSetItem (c i p : PV) (K : PV → Prop) : Prop := match c, i with
  | .lst l, .int k => req (idx k) (req (Nat.blt k.toNat l.length) (K (.lst (l.set k.toNat p))))
  | .dct l, .str k => req (sfits (l.length + 1)) (K (.dct (dset l k p)))
  | _, _ => False
noncomputable def isInt (i : Int) : Const → Bool
  | .int j => decide (j = i)
  | _ => false
noncomputable def isIntE (i : Int) : Expr → Bool
  | .Constant c _ _ => isInt i c
  | _ => false
noncomputable def isUSub : UnaryOp → Bool
  | .USub => true
  | _ => false
noncomputable def isMinusOne : Expr → Bool
  | .UnaryOp op x _ => isUSub op && isIntE 1 x
  | e => isIntE (-1) e
noncomputable def plainArgs (a : Arguments) : Bool := a.posonlyargs.isEmpty && a.vararg.isNone && a.kwonlyargs.isEmpty && a.kw_defaults.isEmpty && a.kwarg.isNone && a.defaults.isEmpty
noncomputable def signsOf (x : Str) : List PV := x.cps.toList.map fun c => .str ⟨#[c]⟩
noncomputable def freesOf (sc : SC) (fr : List (Str × Bind)) : List (Str × NameKind) → Option (List (Str × PV))
  | [] => some []
  | (x, k) :: r => if k = .free then (match fget fr x with
      | some ⟨.own, _⟩ => none
      | some b => if sc.names.lookup x = some .cell ∨ sc.names.lookup x = some .free then (freesOf sc fr r).map ((x, b.p) :: ·) else none
      | none => none) else freesOf sc fr r
noncomputable def relab (scope : Scope) (sc : SC) : SC := ⟨scope.names.map fun (n, k) => if k = .free ∧ sc.names.lookup n = some .cell then (n, .cell) else (n, k), false⟩
noncomputable def innerFr (sc : SC) (fr : List (Str × Bind)) (scope : Scope) : Option (List (Str × Bind)) := (freesOf sc fr scope.names).map fun l => l.map fun e => (e.1, ⟨.froz, e.2⟩)
noncomputable def compOk (scope : Scope) : Bool := decide (scope.kind = .function) && scope.names.all fun e => !decide (e.2 = .cell) && decide (scope.names.lookup e.1 = some e.2)
noncomputable def plainT (e : Expr) : Bool := Nat.beq e.ctorIdx 23 || (Nat.beq e.ctorIdx 20 || Nat.beq e.ctorIdx 21)
noncomputable def isSl (e : Expr) : Bool := Nat.beq e.ctorIdx 26
noncomputable def notComp (e : Expr) : Bool := Nat.blt e.ctorIdx 8 || Nat.blt 10 e.ctorIdx
noncomputable def swapNames (sc : SC) (ts vs : List Expr) : Option (List Str) :=
  if !(ts.length == 2 || ts.length == 3) || vs.length != ts.length then none
  else
    let line := (ts.head?.map (·.pos.line)).getD 0
    let names := ts.filterMap fun
      | .Name id pos => if sc.names.lookup id == some .local && pos.line == line then some id else none
      | _ => none
    if names.length != ts.length || names.eraseDups.length != names.length then none
    else if vs.all (foldedForSure 8) then none else some names
noncomputable def freezeAll (fr : List (Str × Bind)) : List (Str × PV) → List (Str × Bind)
  | [] => fr
  | (x, p) :: r => freezeAll (fset fr x ⟨.froz, p⟩) r
inductive Out where
  | next
  | ret (p : PV)
noncomputable abbrev Evl := Expr → St → (PV → St → Prop) → Prop
noncomputable abbrev EvO := SC → Expr → Oracle → St → (Bool → PV → St → Prop) → Prop
noncomputable abbrev KtV := PV → St → Prop
noncomputable abbrev KtO := Bool → PV → St → Prop
noncomputable abbrev KtS := Out → St → Prop
noncomputable abbrev KtB := Bool → St → Prop
noncomputable def onSome {α : Type} (k : α → Prop) : Option α → Prop
  | some x => k x
  | none => False
theorem onSome_inv {α : Type} {k : α → Prop} {o : Option α} (h : onSome k o) : ∃ x, o = some x ∧ k x := by
  induction o using Option.casesOn with
  | some x => exact ⟨x, rfl, h⟩
  | none => exact h.elim
noncomputable def asInt : PV → Option Int
  | .int i => some i
  | _ => none
noncomputable def asLst : PV → Option (List PV)
  | .lst l => some l
  | _ => none
theorem asInt_inv {p : PV} {i : Int} (h : asInt p = some i) : p = .int i := by
  induction p using PV.casesOn with
  | int j => exact congrArg PV.int (Option.some.inj h)
  | _ => exact nosome h
theorem asLst_inv {p : PV} {l : List PV} (h : asLst p = some l) : p = .lst l := by
  induction p using PV.casesOn with
  | lst j => exact congrArg PV.lst (Option.some.inj h)
  | _ => exact nosome h
noncomputable def one? {α : Type} : List α → Option α
  | [x] => some x
  | _ => none
theorem one_inv {α : Type} {l : List α} {x : α} (h : one? l = some x) : l = [x] := by
  induction l using List.casesOn with
  | nil => exact nosome h
  | cons a l => induction l using List.casesOn with
    | nil => (replace h := Option.some.inj h; subst h); rfl
    | cons _ _ => exact nosome h
noncomputable def dropO (K : KtV) : KtO := fun u_ p σ => K p σ
noncomputable def evO (f : Expr → Oracle → St → KtO → Prop) (C : Oracle) : Evl := fun e σ k => f e C σ (dropO k)
noncomputable def setFr (x : Str) (b : Bind) (K : St → Prop) : St → Prop
  | ⟨fr, cs⟩ => K ⟨fset fr x b, cs⟩
noncomputable def isGlob : Option NameKind → Bool
  | some .globalImplicit => true
  | _ => false
noncomputable def vcName (T : Tb) (sc : SC) (x : Str) (σ : St) (K : KtV) : Prop := match isGlob (sc.names.lookup x) with
  | true => onSome (fun p => K p σ) (T.glob x)
  | false => (match fget σ.fr x with
    | some b => (match b.m with
      | .own => setFr x ⟨.plain, b.p⟩ (K b.p) σ
      | .plain => K b.p σ
      | .froz => K b.p σ)
    | none => False)
noncomputable def vcStoreName (sc : SC) (x : Str) (own : Bool) (p : PV) (σ : St) (K : St → Prop) : Prop :=
  match sc.names.lookup x with
  | some .local => setFr x ⟨if own then .own else .plain, p⟩ K σ
  | some .cell => (match fget σ.fr x with | some ⟨.froz, _⟩ => False | _ => if own then False else setFr x ⟨.plain, p⟩ K σ)
  | _ => False
noncomputable def notSuper : Expr → Bool
  | .Call (.Name ..) [] [] _ => false
  | _ => true
noncomputable def notStar (e : Expr) : Bool := !(Nat.beq e.ctorIdx 22)
noncomputable def kEs2 (p : PV) (K : List PV → St → Prop) : List PV → St → Prop := fun ps σ => K (p :: ps) σ
noncomputable def kEs1 (rest : Evl → St → (List PV → St → Prop) → Prop) (ev : Evl) (K : List PV → St → Prop) : KtV := fun p σ => rest ev σ (kEs2 p K)
noncomputable def vcEs : List Expr → Evl → St → (List PV → St → Prop) → Prop
  | [], _, σ, K => K [] σ
  | e :: r, ev, σ, K => ev e σ (kEs1 (vcEs r) ev K)
noncomputable def kPairs3 (x : Str) (p : PV) (K : List (Str × PV) → St → Prop) : List (Str × PV) → St → Prop := fun l σ => K ((x, p) :: l) σ
noncomputable def kPairs2 (rest : Evl → St → (List (Str × PV) → St → Prop) → Prop) (kp : PV) (ev : Evl) (K : List (Str × PV) → St → Prop) : KtV := fun p σ => match kp with
  | .str x => rest ev σ (kPairs3 x p K)
  | _ => False
noncomputable def kPairs1 (rest : Evl → St → (List (Str × PV) → St → Prop) → Prop) (e : Expr) (ev : Evl) (K : List (Str × PV) → St → Prop) : KtV := fun kp σ => ev e σ (kPairs2 rest kp ev K)
noncomputable def vcPairs : List (Option Expr) → List Expr → Evl → St → (List (Str × PV) → St → Prop) → Prop
  | [], [], _, σ, K => K [] σ
  | some k :: r, e :: q, ev, σ, K => ev k σ (kPairs1 (vcPairs r q) e ev K)
  | _, _, _, _, _ => False
noncomputable def ownCont : Option Bind → Bool
  | some ⟨.own, .lst _⟩ => true
  | some ⟨.own, .dct _⟩ => true
  | some ⟨.own, .dci _⟩ => true
  | _ => false
noncomputable def kVal (K : BR → St → Prop) : KtV := fun p σ => K (.val p) σ
noncomputable def vcBR (e : Expr) (ev : Evl) (σ : St) (K : BR → St → Prop) : Prop := match e with
  | .Name x pos => (match ownCont (fget σ.fr x) with
    | true => req (!(x == "__debug__")) (K (.own x) σ)
    | false => ev (.Name x pos) σ (kVal K))
  | e => ev e σ (kVal K)
noncomputable def BR.put (σ : St) (p : PV) : BR → Option St
  | .val (.cel k) => if k < σ.cs.length then some { σ with cs := σ.cs.set k p } else none
  | .val _ => none
  | .own x => some { σ with fr := fset σ.fr x ⟨.own, p⟩ }
noncomputable def putK (c' : PV) (K : St → Prop) (σ : St) : BR → Prop
  | .val (.cel k) => (match σ with | ⟨fr, cs⟩ => (match Nat.blt k cs.length with | true => K ⟨fr, cs.set k c'⟩ | false => False))
  | .val _ => False
  | .own x => setFr x ⟨.own, c'⟩ K σ
noncomputable def kCmp2 (op : CmpOp) (a : BR) (K : KtB) : BR → St → Prop := fun b σ => onSome (fun x => onSome (fun y => onSome (fun v => K v σ) (cmp op x y)) (b.cont σ)) (a.cont σ)
noncomputable def kCmp1 (op : CmpOp) (r : Expr) (ev : Evl) (K : KtB) : BR → St → Prop := fun a σ => vcBR r ev σ (kCmp2 op a K)
noncomputable def vcCmp (l : Expr) (op : CmpOp) (r : Expr) (ev : Evl) (σ : St) (K : KtB) : Prop :=
  req (!behindInMarks op r) (vcBR l ev σ (kCmp1 op r ev K))
noncomputable def vcCmpL (l : Expr) (ops : List CmpOp) (rs : List Expr) (ev : Evl) (σ : St) (K : KtB) : Prop := match one? ops, one? rs with
  | some op, some r => vcCmp l op r ev σ K
  | _, _ => False
noncomputable def kTruth (K : KtB) : KtV := fun p σ => onSome (fun b => K b σ) (truth p)
noncomputable def kNotT (K : KtB) : KtB := fun b σ => K (!b) σ
noncomputable def kAll (op : BoolOp) (rest : Evl → St → KtB → Prop) (ev : Evl) (K : KtB) : KtB := fun b σ => match op with
  | .And => (match b with | true => rest ev σ K | false => K false σ)
  | .Or => (match b with | true => K true σ | false => rest ev σ K)
mutual
noncomputable def vcT : Nat → Expr → Evl → St → KtB → Prop
  | 0, _, _, _, _ => False
  | n + 1, e, ev, σ, K => match e with
    | .UnaryOp op x p => (match op with
      | .Not => vcT n x ev σ (kNotT K)
      | op => ev (.UnaryOp op x p) σ (kTruth K))
    | .BoolOp op vs _ => vcAll n op vs ev σ K
    | .IfExp .. => False
    | .Compare l ops rs _ => vcCmpL l ops rs ev σ K
    | e => ev e σ (kTruth K)
noncomputable def vcAll : Nat → BoolOp → List Expr → Evl → St → KtB → Prop
  | 0, _, _, _, _, _ => False
  | _ + 1, op, [], _, σ, K => K (op == .And) σ
  | n + 1, op, x :: r, ev, σ, K => vcT n x ev σ (kAll op (vcAll n op r) ev K)
end
noncomputable def kBool2 (op : BoolOp) (rest : Evl → St → KtV → Prop) (ev : Evl) (K : KtV) (p : PV) (σ : St) (b : Bool) : Prop := match op with
  | .And => (match b with | true => rest ev σ K | false => K p σ)
  | .Or => (match b with | true => K p σ | false => rest ev σ K)
noncomputable def kBool (op : BoolOp) (rest : Evl → St → KtV → Prop) (ev : Evl) (K : KtV) : KtV := fun p σ => onSome (kBool2 op rest ev K p σ) (truth p)
noncomputable def vcBool (op : BoolOp) : List Expr → Evl → St → KtV → Prop
  | [], _, _, _ => False
  | x :: r, ev, σ, K => match r with
    | [] => ev x σ K
    | _ :: _ => ev x σ (kBool op (vcBool op r) ev K)
noncomputable def isTupT (e : Expr) : Bool := Nat.beq e.ctorIdx 25
noncomputable def kIter (K : List PV → St → Prop) : KtV := fun p σ => match p with
  | .lst l => K l σ
  | .dct l => K (l.map fun e => .str e.1) σ
  | .str x => K (signsOf x) σ
  | _ => False
noncomputable def kRange2 (K : List PV → St → Prop) : List PV → St → Prop := fun ps σ => onSome (fun p => onSome (fun n => req (idx n) (req (sfits n.toNat) (K ((List.range n.toNat).map fun (i : Nat) => .int (i : Int)) σ))) (asInt p)) (one? ps)
noncomputable def kRange1 (args : List Expr) (ev : Evl) (K : List PV → St → Prop) : KtV := fun p σ => match p with
  | .bi .range => vcEs args ev σ (kRange2 K)
  | _ => False
noncomputable def kZip2 (K : List PV → St → Prop) : List PV → St → Prop := fun ps σ => match ps with
  | p :: r => onSome (fun q => onSome (fun l => onSome (fun m => K ((l.zip m).map fun e => .tup [e.1, e.2]) σ) (asLst q)) (asLst p)) (one? r)
  | [] => False
noncomputable def kZip1 (args : List Expr) (ev : Evl) (K : List PV → St → Prop) : KtV := fun p σ => match p with
  | .bi .zip => vcEs args ev σ (kZip2 K)
  | _ => False
noncomputable def vcIter (tgt : Expr) (e : Expr) (ev : Evl) (σ : St) (K : List PV → St → Prop) : Prop :=
  match e with
  | .Call (.Name f fp) args [] _ => if f = "range" then req (args.all notStar) (ev (.Name f fp) σ (kRange1 args ev K))
      else if f = "zip" then req (args.all notStar && isTupT tgt) (ev (.Name f fp) σ (kZip1 args ev K))
      else ev e σ (kIter K)
  | _ => ev e σ (kIter K)
noncomputable def nm? : Expr → Option (Str × Pos)
  | .Name x p => some (x, p)
  | _ => none
noncomputable def kTgt (rest : List PV → St → (St → Prop) → Prop) (q : List PV) (K : St → Prop) : St → Prop := fun σ => rest q σ K
noncomputable def vcTargets (sc : SC) : List Expr → List PV → St → (St → Prop) → Prop
  | [], [], σ, K => K σ
  | t :: r, p :: q, σ, K => (match nm? t with
    | some x => vcStoreName sc x.1 false p σ (kTgt (vcTargets sc r) q K)
    | none => False)
  | _, _, _, _ => False
noncomputable def vcTarget (sc : SC) (t : Expr) (p : PV) (σ : St) (K : St → Prop) : Prop := match t with
  | .Name x _ => vcStoreName sc x false p σ K
  | .Tuple ts _ _ => match p with
    | .tup ps => vcTargets sc ts ps σ K
    | _ => False
  | _ => False
noncomputable def kNext (ih : St → KtS → Prop) (K : KtS) : KtS := fun o σ => match o with
  | .next => ih σ K
  | .ret q => K (.ret q) σ
noncomputable def kTurn (body : Oracle → St → KtS → Prop) (C : Oracle) (ih : St → KtS → Prop) (K : KtS) : St → Prop := fun σ => body C σ (kNext ih K)
noncomputable def turnStep (tgt : PV → St → (St → Prop) → Prop) (body : Oracle → St → KtS → Prop) (C : Oracle) : PV → List PV → (St → KtS → Prop) → St → KtS → Prop := fun p u_ ih σ K => tgt p σ (kTurn body C ih K)
noncomputable def turnEnd : St → KtS → Prop := fun σ K => K .next σ
noncomputable def vcTurns (tgt : PV → St → (St → Prop) → Prop) (body : Oracle → St → KtS → Prop) (C : Oracle) (its : List PV) : St → KtS → Prop :=
  List.rec (motive := fun u_ => St → KtS → Prop) turnEnd (turnStep tgt body C) its
noncomputable def kWl (body : Oracle → St → KtS → Prop) (C : Oracle) (ih : St → KtS → Prop) (K : KtS) : KtB := fun c σ => match c with
  | true => body C σ (kNext ih K)
  | false => K .next σ
noncomputable def wlStep (tst : Evl → St → KtB → Prop) (body : Oracle → St → KtS → Prop) (ev : Evl) (C : Oracle) : Nat → (St → KtS → Prop) → St → KtS → Prop := fun u_ ih σ K => tst ev σ (kWl body C ih K)
noncomputable def wlEnd : St → KtS → Prop := fun u_ u_ => False
noncomputable def vcWl (tst : Evl → St → KtB → Prop) (body : Oracle → St → KtS → Prop) (ev : Evl) (C : Oracle) (n : Nat) : St → KtS → Prop :=
  Nat.rec (motive := fun u_ => St → KtS → Prop) wlEnd (wlStep tst body ev C) n
noncomputable def turnsC : Nat := Classical.choose (⟨150, rfl⟩ : ∃ n : Nat, n = 150)
theorem turns_eq : turnsC = 150 := Classical.choose_spec (⟨150, rfl⟩ : ∃ n : Nat, n = 150)
noncomputable def kIfs (stop : Bool) (rest : Evl → St → KtB → Prop) (ev : Evl) (K : KtB) : KtB := fun b σ => match b with
  | true => rest ev σ K
  | false => (match stop with | true => K false σ | false => False)
noncomputable def vcIfs (n : Nat) : List Expr → Evl → St → KtB → Prop
  | [], _, σ, K => K true σ
  | c :: r, ev, σ, K => vcT n c ev σ (kIfs r.isEmpty (vcIfs n r) ev K)
noncomputable def kComp2 {α : Type} (emit : Evl → α → St → (α → St → Prop) → Prop) (ev : Evl) (ih : α → St → (α → St → Prop) → Prop) (acc : α) (K : α → St → Prop) : KtB := fun ok σ => match ok with
  | true => emit ev acc σ (fun acc σ => ih acc σ K)
  | false => ih acc σ K
noncomputable def kComp1 {α : Type} (tests : Evl → St → KtB → Prop) (emit : Evl → α → St → (α → St → Prop) → Prop) (ev : Evl) (ih : α → St → (α → St → Prop) → Prop) (acc : α) (K : α → St → Prop) : St → Prop := fun σ => tests ev σ (kComp2 emit ev ih acc K)
noncomputable def compStep {α : Type} (tgt : PV → St → (St → Prop) → Prop) (tests : Evl → St → KtB → Prop) (emit : Evl → α → St → (α → St → Prop) → Prop) (ev : Evl) : PV → List PV → (α → St → (α → St → Prop) → Prop) → α → St → (α → St → Prop) → Prop := fun p u_ ih acc σ K => tgt p σ (kComp1 tests emit ev ih acc K)
noncomputable def compEnd {α : Type} : α → St → (α → St → Prop) → Prop := fun acc σ K => K acc σ
noncomputable def vcComp {α : Type} (tgt : PV → St → (St → Prop) → Prop) (tests : Evl → St → KtB → Prop) (emit : Evl → α → St → (α → St → Prop) → Prop) (ev : Evl) (its : List PV) : α → St → (α → St → Prop) → Prop :=
  List.rec (motive := fun u_ => α → St → (α → St → Prop) → Prop) compEnd (compStep tgt tests emit ev) its
noncomputable def atSt (K : KtV) (σ : St) : PV → Prop := fun p => K p σ
noncomputable def kBin2 (op : Operator) (a : PV) (K : KtV) : KtV := fun b σ => binop op a b (atSt K σ)
noncomputable def kBin1 (op : Operator) (r : Expr) (ev : Evl) (K : KtV) : KtV := fun a σ => ev r σ (kBin2 op a K)
noncomputable def kNot (K : KtV) : KtV := fun p σ => onSome (fun b => K (.bool !b) σ) (truth p)
noncomputable def kNeg (K : KtV) : KtV := fun p σ => onSome (fun i => K (.int (-i)) σ) (asInt p)
noncomputable def kIfE (a b : Expr) (ev : Evl) (K : KtV) : KtB := fun c σ => match c with
  | true => ev a σ K
  | false => ev b σ K
noncomputable def newCell (p : PV) (K : KtO) : St → Prop
  | ⟨fr, cs⟩ => K false (.cel cs.length) ⟨fr, cs ++ [p]⟩
noncomputable def kList (c : Bool) (K : KtO) : List PV → St → Prop := fun ps σ => req (sfits ps.length) (match c with
  | true => newCell (.lst ps) K σ
  | false => K true (.lst ps) σ)
noncomputable def kTup (K : KtV) : List PV → St → Prop := fun ps σ => req (sfits ps.length) (K (.tup ps) σ)
noncomputable def dof (l : List (Str × PV)) : List (Str × PV) := l.foldl (fun d e => dset d e.1 e.2) []
noncomputable def kDict (c : Bool) (K : KtO) : List (Str × PV) → St → Prop := fun l σ => match c with
  | true => newCell (.dct (dof l)) K σ
  | false => K true (.dct (dof l)) σ
noncomputable def kB (K : KtV) : KtB := fun b σ => K (.bool b) σ
noncomputable def kAttr (T : Tb) (a : Str) (K : KtV) : KtV := fun p σ => match p with
  | .ins D l => req (T.attr D a) (onSome (fun q => K q σ) (dget l a))
  | _ => False
noncomputable def kRev (K : KtV) : KtV := fun p σ => match p with
  | .lst l => req (sfits l.length) (K (.lst l.reverse) σ)
  | _ => False
noncomputable def kFrom2 (p : PV) (K : KtV) : KtV := fun k σ => onSome (fun k => match p with
  | .lst l => req (idx k) (req (sfits l.length) (K (.lst (l.drop k.toNat)) σ))
  | .str x => req (sfits x.length) (K (.str (Txt.slice x (some k) none)) σ)
  | _ => False) (asInt k)
noncomputable def kFrom1 (lo : Expr) (ev : Evl) (K : KtV) : KtV := fun p σ => ev lo σ (kFrom2 p K)
noncomputable def kTo2 (p : PV) (K : KtV) : KtV := fun k σ => onSome (fun k => match p with
  | .str x => req (sfits x.length) (K (.str (Txt.slice x none (some k))) σ)
  | _ => False) (asInt k)
noncomputable def kTo1 (hi : Expr) (ev : Evl) (K : KtV) : KtV := fun p σ => ev hi σ (kTo2 p K)
noncomputable def hSlice (lo hi st : Option Expr) (o : Expr) (ev : Evl) (σ : St) (K : KtV) : Prop := match lo with
  | none => (match hi with
    | none => onSome (fun st => req (isMinusOne st) (ev o σ (kRev K))) st
    | some hi => (match st with | none => ev o σ (kTo1 hi ev K) | some _ => False))
  | some lo => (match hi with
    | none => (match st with | none => ev o σ (kFrom1 lo ev K) | some _ => False)
    | some _ => False)
noncomputable def kItem2 (b : BR) (K : KtV) : KtV := fun k σ => onSome (fun c => vcItem c k (atSt K σ)) (b.cont σ)
noncomputable def kItem1 (i : Expr) (ev : Evl) (K : KtV) : BR → St → Prop := fun b σ => ev i σ (kItem2 b K)
noncomputable def hSub (i o : Expr) (ev : Evl) (σ : St) (K : KtV) : Prop := match i with
  | .Slice lo hi st _ => hSlice lo hi st o ev σ K
  | i => vcBR o ev σ (kItem1 i ev K)
noncomputable def hLam (args : Arguments) (body : Expr) (scope : Scope) (sc : SC) (σ : St) (K : KtV) : Prop := match σ with
  | ⟨fr, cs⟩ => req (plainArgs args && sc.lam) (onSome (fun caps => K (.lam args body scope caps.reverse) ⟨freezeAll fr caps, cs⟩) (freesOf sc fr scope.names))
noncomputable def kRet (fr : List (Str × Bind)) (K : KtV) : PV → List PV → Prop := fun r cs => K r ⟨fr, cs⟩
noncomputable def callK (f : PV) (ps : List PV) (C : Oracle) (σ : St) (K : KtV) : Prop := match σ with
  | ⟨fr, cs⟩ => C f ps cs (kRet fr K)
noncomputable def kPut (x : Str) (σ : St) (K : KtV) : PV → PV → Prop := fun c' r => setFr x ⟨.own, c'⟩ (K r) σ
noncomputable def kTurnM (x : Str) (c0 : PV) (name : Str) (K : KtV) : List PV → St → Prop := fun ps σ => match fget σ.fr x with
  | some ⟨.own, c⟩ => req (mkind c0 == mkind c) (vcTurn c name ps (kPut x σ K))
  | _ => False
noncomputable def kMCall (f : Addr) (p : PV) (C : Oracle) (K : KtV) : List PV → St → Prop := fun ps σ => callK (.fn f) (p :: ps) C σ K
noncomputable def kMethV (p c0 : PV) (name : Str) (K : KtV) : List PV → St → Prop := fun ps σ => onSome (fun c => req (mkind c0 == mkind c) (vcMeth c name ps (atSt K σ))) (BR.cont σ (.val p))
noncomputable def hMethV (p : PV) (name : Str) (args : List Expr) (ev : Evl) (σ : St) (K : KtV) : Prop := onSome (fun c0 => req (methOk c0 name) (vcEs args ev σ (kMethV p c0 name K))) (BR.cont σ (.val p))
noncomputable def hMethI (T : Tb) (name : Str) (args : List Expr) (D : Addr) (l : List (Str × PV)) (ev : Evl) (C : Oracle) (σ : St) (K : KtV) : Prop :=
  req (!(dget l name).isSome) (onSome (fun f => vcEs args ev σ (kMCall f (.ins D l) C K)) (T.meth D name))
noncomputable def kMeth (T : Tb) (name : Str) (args : List Expr) (ev : Evl) (C : Oracle) (K : KtV) : BR → St → Prop := fun b σ => match b with
  | .own x => (match fget σ.fr x with
    | some ⟨.own, c0⟩ => req (turnOk c0 name) (vcEs args ev σ (kTurnM x c0 name K))
    | _ => False)
  | .val p => (match p with
    | .ins D l => hMethI T name args D l ev C σ K
    | p => hMethV p name args ev σ K)
noncomputable def hMeth (T : Tb) (o : Expr) (name : Str) (apos : Pos) (args : List Expr) (pos : Pos) (ev : Evl) (C : Oracle) (σ : St) (K : KtV) : Prop :=
  req (notSuper o && (args.all notStar && (Nat.blt args.length 15 && apos.endLine == pos.line))) (vcBR o ev σ (kMeth T name args ev C K))
noncomputable def atStO (K : KtO) (σ : St) : Bool → PV → Prop := fun o p => K o p σ
noncomputable def kCall2 (T : Tb) (p : PV) (C : Oracle) (K : KtO) : List PV → St → Prop := fun ps σ => match p with
  | .bi b => vcBi (fun a => (T.init a).isSome) b ps (atStO K σ)
  | .fn a => req (T.keep a) (callK (.fn a) ps C σ (K false))
  | .lam as bd scp cp => callK (.lam as bd scp cp) ps C σ (K false)
  | _ => False
noncomputable def kCall1 (T : Tb) (args : List Expr) (ev : Evl) (C : Oracle) (K : KtO) : KtV := fun p σ => vcEs args ev σ (kCall2 T p C K)
noncomputable def hCall (T : Tb) (f : Expr) (args : List Expr) (pos : Pos) (ev : Evl) (C : Oracle) (σ : St) (K : KtO) : Prop := match f with
  | .Name f p => req (args.all notStar) (ev (.Name f p) σ (kCall1 T args ev C K))
  | .Attribute o name apos => hMeth T o name apos args pos ev C σ (K false)
  | _ => False
noncomputable def emitL (elt : Expr) (ev : Evl) (acc : List PV) (σ : St) (k : List PV → St → Prop) : Prop := ev elt σ fun p σ => req (sfits (acc.length + 1)) (k (acc ++ [p]) σ)
noncomputable def emitN (n : Nat) (sc : SC) (elt : Expr) (g : Comprehension) (ev : Evl) (acc : List PV) (σ : St) (k : List PV → St → Prop) : Prop :=
  vcIter g.target g.iter ev σ fun its σ => vcComp (vcTarget sc g.target) (vcIfs n g.ifs) (emitL elt) ev its acc σ k
noncomputable def dput (acc kp p : PV) (k : PV → Prop) : Prop := match kp with
  | .str x => (match acc with
    | .dct l => req (sfits (l.length + 1)) (k (.dct (dset l x p)))
    | _ => False)
  | .int x => (match acc with
    | .dct [] => k (.dci [(x, p)])
    | .dci l => req (sfits (l.length + 1)) (k (.dci (dset l x p)))
    | _ => False)
  | _ => False
noncomputable def emitD (key val : Expr) (ev : Evl) (acc : PV) (σ : St) (k : PV → St → Prop) : Prop := ev key σ fun kp σ => ev val σ fun p σ => dput acc kp p fun d => k d σ
noncomputable def kCompL (fr : List (Str × Bind)) (K : KtV) : List PV → St → Prop := fun acc σ' => K (.lst acc) ⟨fr, σ'.cs⟩
noncomputable def kCompD (fr : List (Str × Bind)) (K : KtV) : PV → St → Prop := fun acc σ' => K acc ⟨fr, σ'.cs⟩
noncomputable def kLC (n : Nat) (f : EvO) (sc : SC) (elt : Expr) (g : Comprehension) (gs : List Comprehension) (scope : Scope) (C : Oracle) (K : KtV) : List PV → St → Prop := fun its σ => match σ with
  | ⟨fr, cs⟩ => onSome (fun fr' => match gs with
    | [] => vcComp (vcTarget (relab scope sc) g.target) (vcIfs n g.ifs) (emitL elt) (evO (f (relab scope sc)) C) its [] ⟨fr', cs⟩ (kCompL fr K)
    | g2 :: gs2 => (match gs2 with
      | [] => vcComp (vcTarget (relab scope sc) g.target) (vcIfs n g.ifs) (emitN n (relab scope sc) elt g2) (evO (f (relab scope sc)) C) its [] ⟨fr', cs⟩ (kCompL fr K)
      | _ :: _ => False)) (innerFr sc fr scope)
noncomputable def kDC (n : Nat) (f : EvO) (sc : SC) (key val : Expr) (g : Comprehension) (scope : Scope) (C : Oracle) (K : KtV) : List PV → St → Prop := fun its σ => match σ with
  | ⟨fr, cs⟩ => onSome (fun fr' => vcComp (vcTarget (relab scope sc) g.target) (vcIfs n g.ifs) (emitD key val) (evO (f (relab scope sc)) C) its (.dct []) ⟨fr', cs⟩ (kCompD fr K)) (innerFr sc fr scope)
noncomputable def hLC (n : Nat) (f : EvO) (sc : SC) (elt : Expr) (gens : List Comprehension) (scope : Scope) (C : Oracle) (σ : St) (K : KtV) : Prop :=
  req (compOk scope && (Nat.blt gens.length 3 && gens.all fun g => decide (g.is_async = 0))) (match gens with
    | g :: gs => onSome (fun u_ => vcIter g.target g.iter (evO (f sc) C) σ (kLC n f sc elt g gs scope C K)) (innerFr sc σ.fr scope)
    | [] => False)
noncomputable def hDC (n : Nat) (f : EvO) (sc : SC) (key val : Expr) (gens : List Comprehension) (scope : Scope) (C : Oracle) (σ : St) (K : KtV) : Prop :=
  req (compOk scope && gens.all fun g => decide (g.is_async = 0)) (onSome (fun g => onSome (fun u_ => vcIter g.target g.iter (evO (f sc) C) σ (kDC n f sc key val g scope C K)) (innerFr sc σ.fr scope)) (one? gens))
noncomputable def vcOF (T : Tb) (n : Nat) (f : EvO) (sc : SC) (e : Expr) (C : Oracle) (σ : St) (K : KtO) : Prop := match e with
    | .Constant c _ _ => (match c with
      | .none => K false .none σ
      | .bool b => K false (.bool b) σ
      | .int i => K false (.int i) σ
      | .str s => K false (.str s) σ
      | _ => False)
    | .Name x _ => req (!(x == "__debug__") && !(x == "__classdict__")) (vcName T sc x σ (K false))
    | .BinOp l op r _ => evO (f sc) C l σ (kBin1 op r (evO (f sc) C) (K false))
    | .UnaryOp op x _ => (match op with
      | .Not => evO (f sc) C x σ (kNot (K false))
      | .USub => evO (f sc) C x σ (kNeg (K false))
      | _ => False)
    | .BoolOp op vs _ => vcBool op vs (evO (f sc) C) σ (K false)
    | .IfExp t a b _ => vcT n t (evO (f sc) C) σ (kIfE a b (evO (f sc) C) (K false))
    | .List es pos => vcEs es (evO (f sc) C) σ (kList (T.cellAt pos) K)
    | .Tuple es _ _ => vcEs es (evO (f sc) C) σ (kTup (K false))
    | .Dict ks vs pos => req (Nat.ble ks.length 15 && (ks.all (·.isSome) && decide (ks.length = vs.length))) (vcPairs ks vs (evO (f sc) C) σ (kDict (T.cellAt pos) K))
    | .Compare l ops rs _ => vcCmpL l ops rs (evO (f sc) C) σ (kB (K false))
    | .Attribute o a _ => req (notSuper o) (evO (f sc) C o σ (kAttr T a (K false)))
    | .Subscript o i _ => hSub i o (evO (f sc) C) σ (K false)
    | .Lambda args body scope _ => hLam args body scope sc σ (K false)
    | .Call f' args kws pos => (match kws with
      | [] => hCall T f' args pos (evO (f sc) C) C σ K
      | _ :: _ => False)
    | .ListComp elt gens scope _ => hLC n f sc elt gens scope C σ (K false)
    | .DictComp key val gens scope _ => hDC n f sc key val gens scope C σ (K false)
    | _ => False
noncomputable def vcO0 : EvO := fun u_ u_ u_ u_ u_ => False
noncomputable def vcO (T : Tb) (n : Nat) : EvO := Nat.rec (motive := fun u_ => EvO) vcO0 (vcOF T) n
noncomputable abbrev vcE (T : Tb) (n : Nat) (sc : SC) (C : Oracle) : Evl := evO (vcO T n sc) C
noncomputable def isCell (sc : SC) (x : Str) : Bool := match sc.names.lookup x with
  | some .cell => true
  | _ => false
noncomputable def kSt1 (b : BR) (p : PV) (K : St → Prop) : KtV := fun k σ => onSome (fun c => vcSetItem c k p fun c' => match b.put σ c' with
  | some σ => K σ
  | none => False) (b.cont σ)
noncomputable def kSt0 (i : Expr) (ev : Evl) (p : PV) (K : St → Prop) : BR → St → Prop := fun b σ => ev i σ (kSt1 b p K)
noncomputable def hStA (T : Tb) (x a : Str) (p : PV) (σ : St) (K : St → Prop) : Prop := match σ with
  | ⟨fr, cs⟩ => req (!(x == "__debug__")) (match fget fr x with
    | some ⟨.own, .ins D l⟩ => req (sfits (l.length + 1) && T.attr D a) (onSome (fun u_ => K ⟨fset fr x ⟨.own, .ins D (dset l a p)⟩, cs⟩) (T.init D))
    | _ => False)
noncomputable def vcStore (T : Tb) (n : Nat) (sc : SC) (t : Expr) (own : Bool) (p : PV) (C : Oracle) (σ : St) (K : St → Prop) : Prop := match t with
  | .Name x _ => (match isCell sc x with
    | true => vcStoreName sc x false p σ K
    | false => vcStoreName sc x own p σ K)
  | .Attribute o a _ => (match nm? o with
    | some x => hStA T x.1 a p σ K
    | none => False)
  | .Subscript o i _ => req (!isSl i) (vcBR o (vcE T n sc C) σ (kSt0 i (vcE T n sc C) p K))
  | _ => False
noncomputable def kStores (rest : List (Bool × PV) → Oracle → St → (St → Prop) → Prop) (q : List (Bool × PV)) (C : Oracle) (K : St → Prop) : St → Prop := fun σ => rest q C σ K
noncomputable def vcStores (T : Tb) (n : Nat) (sc : SC) : List Expr → List (Bool × PV) → Oracle → St → (St → Prop) → Prop
  | [], [], _, σ, K => K σ
  | t :: r, e :: q, C, σ, K => vcStore T n sc t e.1 e.2 C σ (kStores (vcStores T n sc r) q C K)
  | _, _, _, _, _ => False
noncomputable def kOs2 (own : Bool) (p : PV) (K : List (Bool × PV) → St → Prop) : List (Bool × PV) → St → Prop := fun l σ => K ((own, p) :: l) σ
noncomputable def kOs1 (rest : Oracle → St → (List (Bool × PV) → St → Prop) → Prop) (C : Oracle) (K : List (Bool × PV) → St → Prop) : KtO := fun own p σ => rest C σ (kOs2 own p K)
noncomputable def vcOs (T : Tb) (n : Nat) (sc : SC) : List Expr → Oracle → St → (List (Bool × PV) → St → Prop) → Prop
  | [], _, σ, K => K [] σ
  | e :: r, C, σ, K => vcO T n sc e C σ (kOs1 (vcOs T n sc r) C K)
noncomputable def kAssTT (T : Tb) (n : Nat) (sc : SC) (ts es : List Expr) (C : Oracle) (K : KtS) : List (Bool × PV) → St → Prop := fun l σ => match swapNames sc ts es with
  | some _ => vcStores T n sc ts.reverse l.reverse C σ (K .next)
  | none => vcStores T n sc ts l C σ (K .next)
noncomputable def hAssTT (T : Tb) (n : Nat) (sc : SC) (ts es : List Expr) (C : Oracle) (σ : St) (K : KtS) : Prop :=
  req (es.all notStar && (ts.all notStar && (Nat.blt es.length 15 && (decide (ts.length = es.length) && !es.all (constantsAlone 8))))) (vcOs T n sc es C σ (kAssTT T n sc ts es C K))
noncomputable def kAssT (T : Tb) (n : Nat) (sc : SC) (ts : List Expr) (C : Oracle) (K : KtS) : KtV := fun p σ => match p with
  | .tup ps => req (decide (ts.length = ps.length)) (vcStores T n sc ts (ps.map fun p => (false, p)) C σ (K .next))
  | _ => False
noncomputable def hAssT (T : Tb) (n : Nat) (sc : SC) (ts : List Expr) (e : Expr) (C : Oracle) (σ : St) (K : KtS) : Prop := match e with
  | .Tuple es _ _ => hAssTT T n sc ts es C σ K
  | e => req (ts.all notStar) (vcE T n sc C e σ (kAssT T n sc ts C K))
noncomputable def kAss1 (T : Tb) (n : Nat) (sc : SC) (t : Expr) (C : Oracle) (K : KtS) : KtO := fun own p σ => vcStore T n sc t own p C σ (K .next)
noncomputable def hAss (T : Tb) (n : Nat) (sc : SC) (t : Expr) (e : Expr) (C : Oracle) (σ : St) (K : KtS) : Prop := match t with
  | .Tuple ts _ _ => hAssT T n sc ts e C σ K
  | t => req (plainT t) (vcO T n sc e C σ (kAss1 T n sc t C K))
noncomputable def kAug (sc : SC) (x : Str) (i : Int) (K : KtS) : KtV := fun p σ => onSome (fun j => vcStoreName sc x false (.int (i + j)) σ (K .next)) (asInt p)
noncomputable def hAug (T : Tb) (n : Nat) (sc : SC) (x : Str) (e : Expr) (C : Oracle) (σ : St) (K : KtS) : Prop := req (decide (sc.names.lookup x = some .local)) (match fget σ.fr x with
  | some ⟨.plain, .int i⟩ => vcE T n sc C e σ (kAug sc x i K)
  | _ => False)
noncomputable def isAdd : Operator → Bool
  | .Add => true
  | _ => false
noncomputable def kExpr (K : KtS) : KtV := fun u_ σ => K .next σ
noncomputable def kRetS (K : KtS) : KtV := fun p σ => K (.ret p) σ
noncomputable def kIf (a b : Oracle → St → KtS → Prop) (C : Oracle) (K : KtS) : KtB := fun c σ => match c with
  | true => a C σ K
  | false => b C σ K
noncomputable def kFor (sc : SC) (t : Expr) (body : Oracle → St → KtS → Prop) (C : Oracle) (K : KtS) : List PV → St → Prop := fun its σ => vcTurns (vcTarget sc t) body C its σ K
noncomputable abbrev EvS := SC → List Stmt → Oracle → St → KtS → Prop
noncomputable def vcSF (T : Tb) (n : Nat) (f : EvS) (sc : SC) (s : Stmt) (C : Oracle) (σ : St) (K : KtS) : Prop := match s with
    | .Assign ts e _ => onSome (fun t => hAss T n sc t e C σ K) (one? ts)
    | .AugAssign t op e _ => req (isAdd op) (onSome (fun x => hAug T n sc x.1 e C σ K) (nm? t))
    | .Expr e _ => req (notComp e) (vcE T n sc C e σ (kExpr K))
    | .Return e _ => (match e with
      | some e => vcE T n sc C e σ (kRetS K)
      | none => K (.ret .none) σ)
    | .If t a b _ => vcT n t (vcE T n sc C) σ (kIf (f sc a) (f sc b) C K)
    | .For t e body els _ => req els.isEmpty (vcIter t e (vcE T n sc C) σ (kFor sc t (f sc body) C K))
    | .While t body els _ => req els.isEmpty (vcWl (vcT n t) (f sc body) (vcE T n sc C) C T.turns σ K)
    | _ => False
noncomputable def vcSsF (T : Tb) (n : Nat) (f : EvS) (sc : SC) (l : List Stmt) (C : Oracle) (σ : St) (K : KtS) : Prop := match l with
  | [] => K .next σ
  | s :: r => vcSF T n f sc s C σ (kNext (f sc r C) K)
noncomputable def vcSs0 : EvS := fun u_ u_ u_ u_ u_ => False
noncomputable def vcSs (T : Tb) (n : Nat) : EvS := Nat.rec (motive := fun u_ => EvS) vcSs0 (vcSsF T) n
noncomputable def bindPs : List Arg → List PV → Option (List (Str × Bind))
  | [], [] => some []
  | a :: r, p :: q => (bindPs r q).map ((a.arg, ⟨.plain, p⟩) :: ·)
  | _, _ => none
noncomputable def posArgs (a : Arguments) : Bool := a.posonlyargs.isEmpty && (a.vararg.isNone && (a.kwonlyargs.isEmpty && a.kwarg.isNone))
noncomputable def nodupS : List Str → Bool
  | [] => true
  | x :: r => !r.contains x && nodupS r
noncomputable def fnOk (fi : FnI) : Bool := posArgs fi.params && (nodupS (fi.params.args.map (·.arg)) && (decide (fi.scope.kind = .function) && (!fi.scope.isCoroutine && (!fi.scope.isGenerator && (nodupS (fi.scope.names.map (·.1)) &&
  (fi.params.args.map (·.arg)).all fun x => decide (fi.scope.names.lookup x = some .local) || decide (fi.scope.names.lookup x = some .cell))))))
noncomputable def lamOk (ps : Arguments) (scope : Scope) (caps : List (Str × PV)) : Bool := posArgs ps && (nodupS (ps.args.map (·.arg)) && (decide (scope.kind = .function) && (!scope.isCoroutine && (!scope.isGenerator && (nodupS (caps.map (·.1)) && ((scope.names.all fun e => !decide (e.2 = .cell)) &&
  ((ps.args.map (·.arg)).all (fun x => decide (scope.names.lookup x = some .local)) && caps.all fun e => decide (scope.names.lookup e.1 = some .free))))))))
noncomputable def initBody (l : List Stmt) : Bool := l.all fun
  | .Assign [.Attribute ..] _ _ => true
  | .Expr .. => true
  | _ => false
noncomputable def kEnd (K : PV → List PV → Prop) : KtS := fun o σ => match σ with
  | ⟨_, cs⟩ => (match o with
    | .ret p => K p cs
    | .next => K .none cs)
noncomputable def runFn (T : Tb) (N : Nat) (fi : FnI) (args : List PV) (C : Oracle) (cs : List PV) (K : PV → List PV → Prop) : Prop := match bindPs fi.params.args args with
  | some fr => vcSs T N ⟨fi.scope.names, fi.lam⟩ fi.body C ⟨fr, cs⟩ (kEnd K)
  | none => False
noncomputable def kInit (x : Str) (a : Addr) (K : PV → List PV → Prop) : KtS := fun o σ => match o with
  | .next => (match fget σ.fr x with
    | some ⟨_, .ins b l⟩ => req (decide (b = a)) (K (.ins a l) σ.cs)
    | _ => False)
  | .ret _ => False
noncomputable def runInit (T : Tb) (N : Nat) (a : Addr) (fi : FnI) (args : List PV) (C : Oracle) (cs : List PV) (K : PV → List PV → Prop) : Prop := match fi.params.args with
  | self :: ps => req (initBody fi.body && decide (fi.scope.names.lookup self.arg = some .local)) (match bindPs ps args with
    | some fr => vcSs T N ⟨fi.scope.names, fi.lam⟩ fi.body C ⟨(self.arg, ⟨.own, .ins a []⟩) :: fr, cs⟩ (kInit self.arg a K)
    | none => False)
  | [] => False
noncomputable def kLam (K : PV → List PV → Prop) : KtV := fun p σ => match σ with
  | ⟨_, cs⟩ => K p cs
noncomputable def frz (e : Str × PV) : Str × Bind := (e.1, ⟨.froz, e.2⟩)
noncomputable def runLam (T : Tb) (N : Nat) (ps : Arguments) (body : Expr) (scope : Scope) (caps : List (Str × PV)) (args : List PV) (C : Oracle) (cs : List PV) (K : PV → List PV → Prop) : Prop :=
  req (lamOk ps scope caps) (match bindPs ps.args args with
    | some fr => vcE T N ⟨scope.names, false⟩ C body ⟨fr ++ caps.map frz, cs⟩ (kLam K)
    | none => False)
noncomputable def Enter (T : Tb) (N : Nat) (C : Oracle) : Oracle := fun f args cs K => match f with
  | .fn a => (match T.fun_ a with
    | some fi => runFn T N fi args C cs K
    | none => (match T.init a with
      | some ci => (match T.fun_ ci with
        | some fi => runInit T N a fi args C cs K
        | none => False)
      | none => False))
  | .lam ps body scope caps => runLam T N ps body scope caps args C cs K
  | _ => False
noncomputable def CI (T : Tb) (N : Nat) (C : Nat → Oracle) : Nat → Nat → Oracle
  | 0, i => C i
  | m + 1, i => fun f args cs K => match T.inl f with
    | true => Enter T N (CI T N C m (i + 1)) f args cs K
    | false => C i f args cs K
noncomputable def Sq (T : Tb) (N : Nat) : Nat → Nat → Oracle
  | 0, _ => fun u_ u_ u_ u_ => False
  | d + 1, 0 => Enter T N (CI T N (Sq T N d) 4 0)
  | d + 1, j + 1 => Sq T N d j
noncomputable abbrev Call (T : Tb) (N d : Nat) : Oracle := Sq T N d 0
noncomputable def bis : List (Str × Bi) := [("len", .len), ("range", .range), ("isinstance", .isinstance), ("list", .list), ("dict", .dict), ("tuple", .tuple), ("sorted", .sorted), ("zip", .zip), ("max", .max), ("int", .int), ("str", .str)]
structure ClI where
  at_ : Addr
  init : Addr
  meths : List (Str × Addr)
  attrs : List Str
noncomputable def tbOf (funOf : Addr → Option FnI) (globs : List (Str × Addr)) (clss : List ClI) (cells : List (Nat × Nat)) (inl : PV → Bool) : Tb where
  glob x := match globs.lookup x with
    | some a => some (.fn a)
    | none => (bis.lookup x).map .bi
  keep a := (globs.any fun e => e.2 == a) || (clss.any fun c => c.meths.any fun e => e.2 == a)
  fun_ := funOf
  init C := (clss.find? fun c => c.at_ == C).map (·.init)
  meth C x := (clss.find? fun c => c.at_ == C).bind fun c => c.meths.lookup x
  attr C x := (clss.find? fun c => c.at_ == C).any fun c => c.attrs.contains x
  cellAt p := cells.contains (p.line, p.col)
  turns := turnsC
  inl := inl
end
section
noncomputable def globs1 : List (Str × Addr) := [("_wall", 21), ("hopeful", 422), ("both", 429), ("either", 434), ("without", 439), ("extended", 446), ("needed", 453), ("prim_needs", 460), ("call_needs", 467), ("case_needs", 474), ("signature_of", 479), ("functions_in", 484), ("settled", 489), ("bound_env", 494), ("with_binds", 499), ("let_needs", 506), ("signatures", 513), ("is_alone", 541), ("scrutinised", 546), ("splits_of", 551), ("worker_of", 556), ("wrapper_of", 561), ("workers", 568), ("base_of", 596), ("_law_pool", 640), ("_law_take", 647), ("_law_one", 654)]
noncomputable def globs2 : List (Str × Addr) := [("_law_new", 661), ("_law_open", 668), ("_law_leaf", 675), ("_law_inner", 682), ("_law_sure", 689), ("_law_function", 696), ("_law_counted", 703), ("_law_with", 710), ("_law_value", 715), ("_law_chosen", 722), ("_law_is_parted", 727), ("law", 732), ("Var", 59), ("Lit", 101), ("App", 141), ("Lam", 183), ("Let", 221), ("Alt", 242), ("Case", 282), ("Con", 322), ("Prim", 362), ("CoreProgram", 383), ("Signature", 411), ("Split", 530), ("ConInfo", 585), ("Fresh", 629)]
noncomputable def globs : List (Str × Addr) := globs1 ++ globs2
noncomputable def clss : List ClI := [
  ⟨59, 35, [("groups", 42), ("parts", 49), ("rebuilt", 56)], ["name"]⟩,
  ⟨101, 77, [("groups", 84), ("parts", 91), ("rebuilt", 98)], ["kind", "value"]⟩,
  ⟨141, 119, [("groups", 126), ("parts", 131), ("rebuilt", 138)], ["fun", "args"]⟩,
  ⟨183, 159, [("groups", 166), ("parts", 173), ("rebuilt", 180)], ["params", "body"]⟩,
  ⟨221, 201, [("groups", 206), ("parts", 211), ("rebuilt", 218)], ["binds", "body", "is_rec"]⟩,
  ⟨242, 239, [], ["key", "names", "body"]⟩,
  ⟨282, 260, [("groups", 265), ("parts", 272), ("rebuilt", 279)], ["value", "name", "alts", "other"]⟩,
  ⟨322, 300, [("groups", 307), ("parts", 312), ("rebuilt", 319)], ["name", "args"]⟩,
  ⟨362, 340, [("groups", 347), ("parts", 352), ("rebuilt", 359)], ["op", "args"]⟩,
  ⟨383, 380, [], ["binds", "cons", "main"]⟩,
  ⟨411, 401, [("row", 408)], ["flags", "free", "diverges"]⟩,
  ⟨530, 527, [], ["place", "con", "fields"]⟩,
  ⟨585, 582, [], ["name", "tag", "arity", "stricts", "type_name", "scheme", "siblings", "is_newtype"]⟩,
  ⟨629, 612, [("avoid", 619), ("next", 626)], ["avoided", "numbers"]⟩]
noncomputable def fns : List (Addr × Nat) := [(21, 0), (422, 14), (429, 15), (434, 16), (439, 17), (446, 18), (453, 19), (460, 20), (467, 21), (474, 22), (479, 23), (484, 24), (489, 25), (494, 26), (499, 27), (506, 28), (513, 30), (541, 33), (546, 34), (551, 35), (556, 36), (561, 37), (568, 38), (596, 42), (640, 45), (647, 46), (654, 47), (661, 48), (668, 49), (675, 50), (682, 51), (689, 52), (696, 53), (703, 54), (710, 55), (715, 56), (722, 57), (727, 58), (732, 59)]
noncomputable def meths : List (Addr × Nat × Nat) := [(35, 2, 0), (42, 2, 1), (49, 2, 2), (56, 2, 3), (77, 3, 0), (84, 3, 1), (91, 3, 2), (98, 3, 3), (119, 4, 0), (126, 4, 1), (131, 4, 2), (138, 4, 3), (159, 5, 0), (166, 5, 1), (173, 5, 2), (180, 5, 3), (201, 6, 0), (206, 6, 1), (211, 6, 2), (218, 6, 3), (239, 7, 0), (260, 8, 0), (265, 8, 1), (272, 8, 2), (279, 8, 3), (300, 9, 0), (307, 9, 1), (312, 9, 2), (319, 9, 3), (340, 10, 0), (347, 10, 1), (352, 10, 2), (359, 10, 3), (380, 11, 0), (401, 13, 0), (408, 13, 1), (527, 32, 0), (582, 40, 0), (612, 43, 0), (619, 43, 1), (626, 43, 2)]
noncomputable def lams : List Addr := [682, 696, 703]
noncomputable def tops : List Stmt := PySem.Challenge.pw_np0241_01.main.body
noncomputable def fnOfS (a : Addr) : Stmt → Option FnI
  | .FunctionDef name ps body _ _ _ sc _ _ _ => some ⟨name, name, ps, body, sc, lams.contains a⟩
  | _ => none
noncomputable def bodyOfC : Stmt → List Stmt
  | .ClassDef _ _ _ body _ _ _ _ _ _ _ => body
  | _ => []
noncomputable def funOf (a : Addr) : Option FnI := match fns.lookup a with
  | some i => tops[i]?.bind (fnOfS a)
  | none => match meths.lookup a with
    | some (i, j) => tops[i]?.bind fun s => (bodyOfC s)[j]?.bind (fnOfS a)
    | none => none
noncomputable def inls : List Addr := [59, 101, 141, 183, 221, 242, 282, 322, 362, 383, 411, 530, 585, 668, 722, 460, 467, 474, 49, 91, 131, 173, 211, 272, 312, 352, 541]
noncomputable def inl : PV → Bool
  | .lam .. => true
  | .fn a => inls.contains a
  | _ => false
noncomputable def TT : Tb := tbOf funOf globs clss [(358,11), (467,41), (489,48), (490,51), (336,23), (337,23)] inl
noncomputable def At (n : Nat) (C : Oracle) : Prop := ∃ e, n ≤ e ∧ C = Call TT 40 e
theorem Sq_sub (T : Tb) (N : Nat) : ∀ d j, Sq T N d j = Sq T N (d - j) 0
  | 0, 0 => rfl
  | 0, j + 1 => by rw [Nat.zero_sub]; rfl
  | d + 1, 0 => rfl
  | d + 1, j + 1 => by
    have := Sq_sub T N d j
    rw [Nat.succ_sub_succ]
    exact this
noncomputable def Ats (n : Nat) (C : Nat → Oracle) : Prop := ∀ j, At (n - j) (C j)
theorem At.up {n : Nat} {C : Oracle} {f : PV} {args cs : List PV} {K : PV → List PV → Prop} (h : At (n + 1) C) (k : ∀ C : Nat → Oracle, Ats n C → Enter TT 40 (CI TT 40 C 4 0) f args cs K) : C f args cs K := by
  (refine obEA h ?_; try clear h; rintro e h1 rfl)
  cases e with
  | zero => exact absurd h1 (Nat.not_succ_le_zero _)
  | succ e => exact k (Sq TT 40 e) fun j => ⟨e - j, Nat.sub_le_sub_right (Nat.le_of_succ_le_succ h1) j, Sq_sub _ _ _ _⟩
theorem At.le {n m : Nat} {C : Oracle} (h : At n C) (k : m ≤ n) : At m C := by
  (refine obEA h ?_; try clear h; rintro e h1 rfl)
  exact ⟨e, Nat.le_trans k h1, rfl⟩
theorem Ats.le {n m : Nat} {C : Nat → Oracle} (h : Ats n C) (j : Nat) (k : Nat.ble m (n - j) = true) : At m (C j) := (h j).le (Nat.le_of_ble_eq_true k)
theorem dec_f {p : Prop} {i : Decidable p} {F : ¬ p → Prop} {G : p → Prop} (h : ¬ p) (k : F h) : Decidable.rec (motive := fun u_ => Prop) F G i := by
  cases i with
  | isTrue q => exact absurd q h
  | isFalse q => exact k
theorem dec_t {p : Prop} {i : Decidable p} {F : ¬ p → Prop} {G : p → Prop} (h : p) (k : G h) : Decidable.rec (motive := fun u_ => Prop) F G i := by
  cases i with
  | isTrue q => exact k
  | isFalse q => exact absurd h q
theorem opt_t {α : Type} {o : Option α} {v : α} {F : Prop} {G : α → Prop} (h : o = some v) (k : G v) : Option.rec (motive := fun u_ => Prop) F G o := by
  subst h; exact k
theorem opt_f {α : Type} {o : Option α} {F : Prop} {G : α → Prop} (h : o = none) (k : F) : Option.rec (motive := fun u_ => Prop) F G o := by
  subst h; exact k
theorem bool_t {b : Bool} {F G : Prop} (h : b = true) (k : G) : Bool.rec (motive := fun u_ => Prop) F G b := by
  subst h; exact k
theorem bool_f {b : Bool} {F G : Prop} (h : b = false) (k : F) : Bool.rec (motive := fun u_ => Prop) F G b := by
  subst h; exact k
end
section
noncomputable def Wd.Base (W : Wd) (H : IH) : Prop := ∀ h : Heap, Le H h → W.K.In h ∧ Top W.p W.loose W.mean W.mg W.mb h
noncomputable abbrev Wd.M (W : Wd) : Model := model W.prog W.w
noncomputable def BindRel (W : Wd) (H : IH) (ca : List Addr) (R : RM) (x : Str) (v : Value) (b : Bind) : Prop := match b.m with
  | .own => (∃ a, v = .ref a ∧ R a = some (.cont (.var x) b.p)) ∨ (∃ a D d l, b.p = .ins D l ∧ W.cls D = true ∧ v = .ref a ∧ H a = some (instObj D d) ∧ R d = some (.cont (.var x) (.dct l)))
  | _ => Rep W H ca v b.p
noncomputable def CellRel (lam : Bool) (H : IH) (R : RM) (x : Str) (c : Addr) (v : Value) (b : Bind) : Prop :=
  (b.m = .froz ∧ ∃ o, H c = some o ∧ o.data = .cell (some v)) ∨ (b.m = .plain ∧ R c = some (.vcell x (some v))) ∨ (lam = false ∧ b.m = .froz ∧ ∃ o, R c = some (.lock o) ∧ o.data = .cell (some v))
structure FR (W : Wd) (H : IH) (ca : List Addr) (R : RM) (env : Env) (sc : SC) (fr : List (Str × Bind)) : Prop where
  kind : env.scope.kind = .function
  names : env.scope.names = sc.names
  glob : env.globals = mainGlobals
  blt : env.builtins = builtinsNs
  lam : sc.lam = true → ∃ t ∈ W.tabs, env.code = .ref t.1 ∧ t.2.2 = env.qual ++ "<lambda>"
  ns : ∃ m, R env.locals = some (.ns m) ∧ ∀ x b, fget fr x = some b → sc.names.lookup x = some .local → ∃ v, m x = some v ∧ BindRel W H ca R x v b
  far : ∀ x b, fget fr x = some b → sc.names.lookup x ≠ some .local → (sc.names.lookup x = some .cell ∨ sc.names.lookup x = some .free) ∧
    ∃ c v, env.cells.lookup x = some c ∧ Rep W H ca v b.p ∧ CellRel sc.lam H R x c v b
  cells : ∀ x, sc.names.lookup x = some .cell → (∃ c v, env.cells.lookup x = some c ∧ R c = some (.vcell x v)) ∨ (∃ b, fget fr x = some b ∧ b.m = .froz)
structure GR (W : Wd) (R : RM) (ca : List Addr) (cs : List PV) : Prop where
  len : ca.length = cs.length
  cell : ∀ (k : Nat) (a : Addr) (p : PV), ca[k]? = some a → cs[k]? = some p → R a = some (.cont (.cell k) p)
  tabs : ∀ t ∈ W.tabs, R t.2.1 = some (.tab t.1 t.2.2)
structure Inv (W : Wd) (env : Env) (sc : SC) (σ : St) (H : IH) (R : RM) (ca : List Addr) (s : Shared) : Prop where
  base : W.Base H
  core : Core W H ca R s.heap
  fr : FR W H ca R env sc σ.fr
  gr : GR W R ca σ.cs
structure Amb (A : Around) (d : Nat) : Prop where
  handled : A.handled = none
  depth : A.depth + 2 * d + 4 < recursionLimit
  units : A.units + 10 * d + 200 < cLine
section
variable {W : Wd} {H H' : IH} {ca ca' : List Addr} {R R' : RM} {env : Env} {sc : SC} {fr : List (Str × Bind)} {cs : List PV} {σ : St} {s s' : Shared}
theorem Wd.Base.mono (B : W.Base H) (hH : HLe H H') : W.Base H' := fun h l => B h fun a o e => l a o (hH a o e)
theorem BindRel.mono {x : Str} {v : Value} {b : Bind} (B : BindRel W H ca R x v b) (hH : HLe H H') (hc : CLe ca ca') (hR : ∀ b c, R b = some c → c.loc = true → c.isTmp = false → R' b = some c) : BindRel W H' ca' R' x v b := by
  obtain ⟨m, p⟩ := b
  induction m using Mode.casesOn with
  | own =>
    rcases B with ⟨a, e1, e2⟩ | ⟨a, D, d, l, e1, e0, e2, e3, e4⟩
    · exact .inl ⟨a, e1, hR _ _ e2 rfl rfl⟩
    · exact .inr ⟨a, D, d, l, e1, e0, e2, hH _ _ e3, hR _ _ e4 rfl rfl⟩
  | plain => exact Rep.mono hH hc B
  | froz => exact Rep.mono hH hc B
theorem FR.mono (F : FR W H ca R env sc fr) (hH : HLe H H') (hc : CLe ca ca') (hR : ∀ b c, R b = some c → c.loc = true → c.isTmp = false → R' b = some c) : FR W H' ca' R' env sc fr where
  kind := F.kind
  names := F.names
  glob := F.glob
  blt := F.blt
  lam := F.lam
  ns := let ⟨m, e, k⟩ := F.ns; ⟨m, hR _ _ e rfl rfl, fun x b q r => let ⟨v, e1, e2⟩ := k x b q r; ⟨v, e1, e2.mono hH hc hR⟩⟩
  far := fun x b q r => by
    refine obAEEAA (F.far x b q r) fun k c v e1 e2 e3 => ?_
    refine ⟨k, c, v, e1, Rep.mono hH hc e2, ?_⟩
    rcases e3 with ⟨e3, o, e4, e5⟩ | ⟨e3, e4⟩ | ⟨e0, e3, o, e4, e5⟩
    · exact .inl ⟨e3, o, hH _ _ e4, e5⟩
    · exact .inr (.inl ⟨e3, hR _ _ e4 rfl rfl⟩)
    · exact .inr (.inr ⟨e0, e3, o, hR _ _ e4 rfl rfl, e5⟩)
  cells := fun x q => by
    rcases F.cells x q with ⟨c, v, e1, e2⟩ | z
    · exact .inl ⟨c, v, e1, hR _ _ e2 rfl rfl⟩
    · exact .inr z
theorem GR.mono (G : GR W R ca cs) (hR : ∀ b c, R b = some c → c.isTmp = false → R' b = some c) : GR W R' ca cs where
  len := G.len
  cell := fun k a p e1 e2 => hR _ _ (G.cell k a p e1 e2) rfl
  tabs := fun t ht => hR _ _ (G.tabs t ht) rfl
theorem Inv.grow (I : Inv W env sc σ H R ca s) (k : ∀ b o, s.heap.get? b = some o → s'.heap.get? b = some o) : Inv W env sc σ H R ca s' :=
  ⟨I.base, I.core.grow fun b o e u_ => k b o e, I.fr, I.gr⟩
theorem Inv.newImm {a : Addr} {o : Obj} (I : Inv W env sc σ H R ca s) (hf : s.heap.get? a = none) (k : ∀ b o, s.heap.get? b = some o → s'.heap.get? b = some o) (x : s'.heap.get? a = some o) : Inv W env sc σ (H.put a o) R ca s' :=
  ⟨I.base.mono (HLe.put (I.core.freshH hf)), I.core.newImm hf k x, I.fr.mono (HLe.put (I.core.freshH hf)) CLe.refl fun u_ u_ e u_ u_ => e, I.gr⟩
theorem RM.keep {a : Addr} {c : Option MC} (h : R a = none ∨ ∃ c, R a = some c ∧ c.isTmp = true) : ∀ b d, R b = some d → d.isTmp = false → R.set a c b = some d := fun b d e t => by
  rw [RM.set_ne fun z => ?_]; exact e
  subst z
  rcases h with h | ⟨c, h, q⟩
  · rw [h] at e; exact nosome e
  · rw [h] at e; (replace e := Option.some.inj e; subst e); rw [q] at t; exact notf t
theorem Inv.newReg {a : Addr} {c : MC} (I : Inv W env sc σ H R ca s) (hf : s.heap.get? a = none) (k : ∀ b o, s.heap.get? b = some o → s'.heap.get? b = some o) (x : c.At W H ca s'.heap a) : Inv W env sc σ H (R.set a (some c)) ca s' :=
  have hR := I.core.freshR hf
  ⟨I.base, I.core.newReg hf k x, I.fr.mono HLe.refl CLe.refl fun b d e u_ t => RM.keep (.inl hR) b d e t, I.gr.mono fun b d e t => RM.keep (.inl hR) b d e t⟩
theorem ContObj.rep {o : Obj} {p : PV} {a : Addr} (x : ContObj W H ca o p) (e : H a = some o) (z : (a == sysModules) = false) : Rep W H ca (.ref a) p := by
  induction p using PV.casesOn <;> simp only [ContObj] at x
  · (refine obEEA x ?_; try clear x; rintro vs n rfl r)
    exact .lst (vs := vs.toList) (n := n) (by simpa using e) r
  · (refine obEA x fun es d r => ?_; try clear x); exact .dct z e d r
  · (refine obEA x fun es d r => ?_; try clear x); exact .dci z e d r
theorem Ext.freezeNew {h h' : Heap} {a : Addr} {o : Obj} (C : Core W H ca R h) (x : Ext H R h ca H' R' h' ca') (hn : h.get? a = none) (hH : H' a = none) : Ext H R h ca (H'.put a o) (R'.set a none) h' ca' := by
  have hR := C.freshR hn
  refine ⟨x.imm.trans (HLe.put hH), x.ca, x.pres, fun b z => ?_, fun b z => ?_, fun b d q t => ?_, x.live⟩
  · by_cases hb : b = a
    · subst hb; exact .inr (.inr hn)
    · rw [IH.put_ne hb] at z; exact x.newH b z
  · by_cases hb : b = a
    · subst hb; rw [RM.set_self] at z; exact absurd rfl z
    · rw [RM.set_ne hb] at z; exact x.newR b z
  · by_cases hb : b = a
    · subst hb; rw [hR] at q; exact nosome q
    · rw [RM.set_ne hb]; exact x.tmp b d q t
theorem Inv.freezeTmp {a : Addr} {p : PV} (I : Inv W env sc σ H R ca s) (e : R a = some (.cont .tmp p)) : ∃ o, s.heap.get? a = some o ∧ H a = none ∧ Inv W env sc σ (H.put a o) (R.set a none) ca s ∧ Rep W (H.put a o) ca (.ref a) p := by
  have hH := I.core.hid a _ e
  refine obEAA (I.core.reg a _ e) fun o eo x z => ?_
  refine ⟨o, eo, hH, ⟨I.base.mono (HLe.put hH), I.core.freeze e eo, I.fr.mono (HLe.put hH) CLe.refl fun b d q u_ t => RM.keep (.inr ⟨_, e, rfl⟩) b d q t, I.gr.mono fun b d q t => RM.keep (.inr ⟨_, e, rfl⟩) b d q t⟩, ?_⟩
  exact (x.mono (HLe.put hH) CLe.refl).rep IH.put_self z
end
noncomputable def PostE (W : Wd) (env : Env) (sc : SC) (H : IH) (R : RM) (ca : List Addr) (s : Shared) (K : PV → St → Prop) (Q : Value → Shared → Prop) : Prop :=
  ∀ v p σ' H' R' ca' s', K p σ' → Inv W env sc σ' H' R' ca' s' → Rep W H' ca' v p → Ext H R s.heap ca H' R' s'.heap ca' → SEq s s' → R' env.locals = R env.locals → Q v s'
noncomputable def PostO (W : Wd) (env : Env) (sc : SC) (H : IH) (R : RM) (ca : List Addr) (s : Shared) (K : Bool → PV → St → Prop) (Q : Value → Shared → Prop) : Prop :=
  ∀ v own p σ' H' R' ca' s', K own p σ' → Inv W env sc σ' H' R' ca' s' → (own = false → Rep W H' ca' v p) → (own = true → ∃ a, v = .ref a ∧ s.heap.get? a = none ∧ R' a = some (.cont .tmp p)) →
    Ext H R s.heap ca H' R' s'.heap ca' → SEq s s' → R' env.locals = R env.locals → Q v s'
noncomputable def SndO (W : Wd) (d : Nat) (vc : Expr → St → (Bool → PV → St → Prop) → Prop) (sc : SC) : Prop :=
  ∀ e σ K, vc e σ K → ∀ A env H R ca s Q E, Amb A d → Inv W env sc σ H R ca s → PostO W env sc H R ca s K Q → wpAny W.M A (eval e env) Q E s
noncomputable def SndE (W : Wd) (d : Nat) (vc : Expr → St → (PV → St → Prop) → Prop) (sc : SC) : Prop :=
  ∀ e σ K, vc e σ K → ∀ A env H R ca s Q E, Amb A d → Inv W env sc σ H R ca s → PostE W env sc H R ca s K Q → wpAny W.M A (eval e env) Q E s
theorem SndO.toE {W : Wd} {d : Nat} {vc : Expr → St → (Bool → PV → St → Prop) → Prop} {sc : SC} (S : SndO W d vc sc) : SndE W d (fun e σ K => vc e σ fun u_ p σ => K p σ) sc := by
  intro e σ K h A env H R ca s Q E a I P
  refine S e σ _ h A env H R ca s Q E a I fun v own p σ' H' R' ca' s' k I' r o x q l => ?_
  induction own using Bool.casesOn with
  | false => exact P v p σ' H' R' ca' s' k I' (r rfl) x q l
  | true =>
    (refine obEAA (o rfl) ?_; rintro b rfl hn e)
    refine obEAAA (I'.freezeTmp e) fun ob eo hH I'' r'' => ?_
    refine P _ p σ' _ _ ca' s' k I'' r'' (x.freezeNew I.core hn hH) q ?_
    rw [RM.set_ne fun z => ?_]; exact l
    refine obEA I.fr.ns fun m em u_ => ?_
    rw [← z] at hn
    exact I.core.someR (by rw [em]; exact Option.some_ne_none _) hn
section
variable {W : Wd} {H H' : IH} {ca ca' : List Addr} {R R' : RM} {env : Env} {sc : SC} {fr : List (Str × Bind)}
noncomputable def MC.own : MC → Option Str
  | .vcell x _ => some x
  | .cont (.var x) _ => some x
  | _ => none
noncomputable def MC.isNs : MC → Bool
  | .ns _ => true
  | _ => false
noncomputable def Keeps (R R' : RM) (x : Str) : Prop := ∀ b c, R b = some c → c.isNs = false → c.isTmp = false → c.own ≠ some x → R' b = some c
theorem RM.set_of {a b : Addr} {c d : MC} {oc : Option MC} (e : R a = some d) (q : R b = some c) (n : c ≠ d) : R.set a oc b = some c := (RM.set_ne fun z => n (Option.some.inj (q.symm.trans ((congrArg R z).trans e)))).trans q
theorem Keeps.set {x : Str} {a : Addr} {d : MC} {oc : Option MC} (e : R a = some d) (h : d.own = some x) : Keeps R (R.set a oc) x := fun u_ u_ q u_ u_ n => RM.set_of e q fun z => n (z ▸ h)
theorem RM.set_ns {a b : Addr} {m : Str → Option Value} {d : MC} {oc : Option MC} (e : R a = some d) (q : R b = some (.ns m)) (h : d.isNs = false) : R.set a oc b = some (.ns m) := RM.set_of e q fun z => absurd (z ▸ h : (MC.ns m).isNs = false) Bool.noConfusion
theorem GR.mono2 {cs : List PV} (G : GR W R ca cs) (hR : ∀ b c, R b = some c → c.loc = false → R' b = some c) : GR W R' ca cs where
  len := G.len
  cell := fun k a p e1 e2 => hR _ _ (G.cell k a p e1 e2) rfl
  tabs := fun t ht => hR _ _ (G.tabs t ht) rfl
theorem GR.set {cs : List PV} {a : Addr} {d : MC} {oc : Option MC} (G : GR W R ca cs) (e : R a = some d) (h : d.loc = true) : GR W (R.set a oc) ca cs := G.mono2 fun u_ u_ q l => RM.set_of e q fun z => absurd ((z ▸ l : d.loc = false).symm.trans h) Bool.noConfusion
theorem nox {x y : Str} (h : y ≠ x) : some y ≠ some x := fun z => h (Option.some.inj z)
theorem BindRel.keep {x y : Str} {v : Value} {b : Bind} (B : BindRel W H ca R y v b) (hH : HLe H H') (hk : Keeps R R' x) (hy : y ≠ x) : BindRel W H' ca R' y v b := by
  obtain ⟨m, p⟩ := b
  induction m using Mode.casesOn with
  | own =>
    rcases B with ⟨a, e, q⟩ | ⟨a, D, d, l, e1, e0, e2, e3, e4⟩
    · exact .inl ⟨a, e, hk _ _ q rfl rfl (nox hy)⟩
    · exact .inr ⟨a, D, d, l, e1, e0, e2, hH _ _ e3, hk _ _ e4 rfl rfl (nox hy)⟩
  | plain => exact Rep.mono hH CLe.refl B
  | froz => exact Rep.mono hH CLe.refl B
theorem CellRel.keep {lam : Bool} {x y : Str} {c : Addr} {v : Value} {b : Bind} (B : CellRel lam H R y c v b) (hH : HLe H H') (hk : Keeps R R' x) (hy : y ≠ x) : CellRel lam H' R' y c v b := by
  rcases B with ⟨e, o, q, d⟩ | ⟨e, q⟩ | ⟨e0, e, o, q, d⟩
  · exact .inl ⟨e, o, hH _ _ q, d⟩
  · exact .inr (.inl ⟨e, hk _ _ q rfl rfl (nox hy)⟩)
  · exact .inr (.inr ⟨e0, e, o, hk _ _ q rfl rfl fun z => nosome z, d⟩)
theorem FR.put {x : Str} {b' : Bind} {m m' : Str → Option Value} (F : FR W H ca R env sc fr) (hH : HLe H H') (hk : Keeps R R' x) (hm : R env.locals = some (.ns m)) (hm' : R' env.locals = some (.ns m')) (hy : ∀ y, y ≠ x → m' y = m y)
    (h1 : sc.names.lookup x = some .local → ∃ v, m' x = some v ∧ BindRel W H' ca R' x v b')
    (h2 : sc.names.lookup x ≠ some .local → (sc.names.lookup x = some .cell ∨ sc.names.lookup x = some .free) ∧ ∃ c v, env.cells.lookup x = some c ∧ Rep W H' ca v b'.p ∧ CellRel sc.lam H' R' x c v b')
    (h3 : sc.names.lookup x = some .cell → (∃ c v, env.cells.lookup x = some c ∧ R' c = some (.vcell x v)) ∨ b'.m = .froz) : FR W H' ca R' env sc (fset fr x b') := by
  refine ⟨F.kind, F.names, F.glob, F.blt, F.lam, ⟨m', hm', fun y b q l => ?_⟩, fun y b q l => ?_, fun y l => ?_⟩
  · rw [fget_fset] at q
    by_cases h : y = x
    · subst h; rw [if_pos rfl] at q; exact Option.some.inj q ▸ h1 l
    · rw [if_neg h] at q
      refine obEA F.ns fun m0 e0 k => ?_
      refine obEA (k y b q l) fun u e1 e2 => ?_
      have e3 : MC.ns m = .ns m0 := Option.some.inj (hm.symm.trans e0)
      injection e3 with e3
      exact ⟨u, (hy y h).trans (e3 ▸ e1), e2.keep hH hk h⟩
  · rw [fget_fset] at q
    by_cases h : y = x
    · subst h; rw [if_pos rfl] at q; exact Option.some.inj q ▸ h2 l
    · rw [if_neg h] at q
      refine obAEEAA (F.far y b q l) fun k c u e1 e2 e3 => ?_
      exact ⟨k, c, u, e1, Rep.mono hH CLe.refl e2, e3.keep hH hk h⟩
  · by_cases h : y = x
    · subst h
      exact (h3 l).imp id fun e => ⟨b', by rw [fget_fset, if_pos rfl], e⟩
    · rcases F.cells y l with ⟨c, u, e1, e2⟩ | ⟨b, e1, e2⟩
      · exact .inl ⟨c, u, e1, hk _ _ e2 rfl rfl (nox h)⟩
      · exact .inr ⟨b, by rw [fget_fset, if_neg h]; exact e1, e2⟩
theorem FR.putL {x : Str} {b' : Bind} {m m' : Str → Option Value} {v : Value} (F : FR W H ca R env sc fr) (hl : sc.names.lookup x = some .local) (hH : HLe H H') (hk : Keeps R R' x) (hm : R env.locals = some (.ns m)) (hm' : R' env.locals = some (.ns m')) (hy : ∀ y, y ≠ x → m' y = m y)
    (hx : m' x = some v) (B : BindRel W H' ca R' x v b') : FR W H' ca R' env sc (fset fr x b') :=
  F.put hH hk hm hm' hy (fun u_ => ⟨v, hx, B⟩) (fun h => absurd hl h) fun h => absurd (hl.symm.trans h) (fun z => nomatch z)
end
end
section
noncomputable def methIn (K : Frag) (D : Addr) (x : Str) (f : Addr) : Bool :=
  (findIn K (.ref D) "__getattribute__" == some (some (.builtin "object.__getattribute__"))) && (findIn K (.ref D) "__getattr__" == some none) && (findIn K (.ref D) x == some (some (.ref f))) && (typeIn K (.ref f) == some (.type "function")) && keepIn K (.ref f)
noncomputable def plainAttr (K : Frag) (C : Addr) (name : Str) : Bool :=
  (match clsIn K C with | some cd => cd.hasDict && !(copiedNames.contains name) | none => false) && findIn K (.ref C) "__getattribute__" == some (some (.builtin "object.__getattribute__")) && findIn K (.ref C) name == some none
noncomputable def plainSet (K : Frag) (C : Addr) (name : Str) : Bool := (findIn K (.ref C) "__setattr__" == some (some (.builtin "object.__setattr__"))) && plainOver K C && (takerIn K C name == some none) && hasDictIn K C
noncomputable def codeIn (K : Frag) (cd : Value) (q : Str) : Bool := match cd with
  | .ref c => (match K.lookup c with
    | some ⟨_, _, .fields vs, _⟩ => (match vs[1]? with
      | some (Value.str x _) => x == q
      | _ => false)
    | _ => false)
  | _ => false
noncomputable def defsIn (K : Frag) (v : Value) : Bool := match v with
  | .none => true
  | .ref c => (match K.lookup c with
    | some ⟨_, _, .seq _ _, _⟩ => true
    | _ => false)
  | _ => false
noncomputable def FnOk (W : Wd) (a : Addr) (fi : FnI) : Prop := ∃ o fd, W.K.lookup a = some o ∧ o.data = .func fd ∧ fd.params = fi.params ∧ fd.body = .stmts fi.body ∧ fd.scope = fi.scope ∧ fd.closure = [] ∧ fd.globals = mainGlobals ∧ fd.builtins = builtinsNs ∧
  codeIn W.K fd.code fd.qualname = true ∧ defsIn W.K fd.defaults = true ∧ fnOk fi = true ∧ (fi.lam = true → ∃ t ∈ W.tabs, fd.code = .ref t.1 ∧ t.2.2 = fd.qualname ++ ".<locals>." ++ "<lambda>")
structure TbOk (W : Wd) (T : Tb) : Prop where
  inst : ∀ C D, W.cls C = true → (T.init D).isSome = true → kitOne W.K (.ref C) (.ref D) = some (decide (C = D))
  meth : ∀ D x f, T.meth D x = some f → methIn W.K D x f = true
  keep : ∀ a, T.keep a = true → keepIn W.K (.ref a) = true
  fn : ∀ a fi, T.fun_ a = some fi → FnOk W a fi
  make : ∀ D ci, T.init D = some ci → W.cls D = true ∧ makesIn W.K D = true ∧ findIn W.K (.ref D) "__init__" = some (some (.ref ci)) ∧ typeIn W.K (.ref ci) = some (.type "function")
  attr : ∀ D a, T.attr D a = true → plainAttr W.K D a = true ∧ plainSet W.K D a = true
  glob : ∀ x p, T.glob x = some p → (∃ a, p = .fn a ∧ nsIn W.K mainGlobals x = some (some (.ref a))) ∨ (∃ b, p = .bi b ∧ nsIn W.K mainGlobals x = some none ∧ bootBuiltins x = some b.value ∧ x ≠ "__name__")
section
variable {W : Wd} {T : Tb} {H : IH} {ca : List Addr} {R : RM} {env : Env} {sc : SC} {σ : St} {s : Shared} {A : Around} {E : Value → Shared → Prop} {K : PV → St → Prop} {Q : Value → Shared → Prop} {d : Nat}
theorem beq_false_of {x y : Str} (h : ¬ x = y) : (x == y) = false := by simpa using h
theorem Inv.tok {t : Nat} (I : Inv W env sc σ H R ca s) : Inv W env sc σ H R ca { s with toks := t } := ⟨I.base, I.core, I.fr, I.gr⟩
theorem freeze_own {x : Str} {p : PV} (I : Inv W env sc σ H R ca s) (hb : fget σ.fr x = some ⟨.own, p⟩) {m : Str → Option Value} (hm : R env.locals = some (.ns m)) {v : Value} (hl : sc.names.lookup x = some .local) (hv : m x = some v) (B : BindRel W H ca R x v ⟨.own, p⟩)
    (hall : ∀ y b, fget σ.fr y = some b → sc.names.lookup y = some .local → ∃ v, m y = some v ∧ BindRel W H ca R y v b) :
    ∃ H' R', Inv W env sc { σ with fr := fset σ.fr x ⟨.plain, p⟩ } H' R' ca s ∧ Rep W H' ca v p ∧ Ext H R s.heap ca H' R' s.heap ca ∧ R' env.locals = R env.locals := by
  have key : ∀ (a : Addr) (q : PV), R a = some (.cont (.var x) q) → ∃ o, s.heap.get? a = some o ∧ ContObj W H ca o q ∧ (a == sysModules) = false ∧ HLe H (H.put a o) ∧ Core W (H.put a o) ca (R.set a none) s.heap ∧ Ext H R s.heap ca (H.put a o) (R.set a none) s.heap ca ∧ (R.set a none) env.locals = R env.locals ∧
      (Rep W (H.put a o) ca v p → Inv W env sc { σ with fr := fset σ.fr x ⟨.plain, p⟩ } (H.put a o) (R.set a none) ca s) := by
    intro a q e
    have hH := I.core.hid a _ e
    refine obEAA (I.core.reg a _ e) fun o eo xo zo => ?_
    have hloc : (R.set a none) env.locals = R env.locals := (RM.set_ns e hm rfl).trans hm.symm
    exact ⟨o, eo, xo, zo, HLe.put hH, I.core.freeze e eo, Ext.freeze I.core e rfl, hloc, fun r => ⟨I.base.mono (HLe.put hH), I.core.freeze e eo, I.fr.putL hl (HLe.put hH) (.set e rfl) hm (RM.set_ns e hm rfl) (fun u_ u_ => rfl) hv r, I.gr.set e rfl⟩⟩
  rcases B with ⟨a, rfl, e⟩ | ⟨a, D, k, l, e0, ec, rfl, e2, e⟩
  · refine obEAAAAAAA (key a p e) fun o eo xo zo hle C X hloc rest => ?_
    have r := (xo.mono hle CLe.refl).rep IH.put_self zo
    exact ⟨_, _, rest r, r, X, hloc⟩
  · subst e0
    refine obEAAAAAAA (key k (.dct l) e) fun o eo xo zo hle C X hloc rest => ?_
    refine obEA (xo.mono hle CLe.refl) fun es d r => ?_
    have r : Rep W (H.put k o) ca (.ref a) (.ins D l) := .ins ec (hle _ _ e2) IH.put_self d r
    exact ⟨_, _, rest r, r, X, hloc⟩
theorem isGlob_iff {o : Option NameKind} (h : isGlob o = true) : o = some .globalImplicit := by
  induction o using Option.casesOn with
  | none => exact noft h
  | some k => induction k using PySem.NameKind.casesOn <;> first | rfl | exact noft h
theorem vcName_inv {T : Tb} {x : Str} {K : KtV} (h : vcName T sc x σ K) : (sc.names.lookup x = some .globalImplicit ∧ ∃ p, T.glob x = some p ∧ K p σ) ∨ ∃ b, fget σ.fr x = some b ∧ (b.m = .own → K b.p ⟨fset σ.fr x ⟨.plain, b.p⟩, σ.cs⟩) ∧ (b.m ≠ .own → K b.p σ) := by
  unfold vcName at h
  cases e : isGlob (sc.names.lookup x) with
  | true =>
    rw [e] at h
    exact .inl ⟨isGlob_iff e, onSome_inv h⟩
  | false =>
    rw [e] at h
    cases hb : fget σ.fr x with
    | none => rw [hb] at h; exact h.elim
    | some b =>
      rw [hb] at h
      obtain ⟨bm, bp⟩ := b
      refine .inr ⟨_, rfl, ?_⟩
      induction bm using Mode.casesOn with
      | own => exact ⟨fun u_ => h, fun n => absurd rfl n⟩
      | plain => exact ⟨(fun e => nomatch e), fun u_ => h⟩
      | froz => exact ⟨(fun e => nomatch e), fun u_ => h⟩
theorem snd_name (hT : TbOk W T) {x : Str} {pos : Pos} (hd' : (x == ("__debug__" : Str)) = false) (hd'' : (x == ("__classdict__" : Str)) = false) (h : vcName T sc x σ K) (I : Inv W env sc σ H R ca s) (P : PostE W env sc H R ca s K Q) : wpAny W.M A (eval (.Name x pos) env) Q E s := by
  have F := I.fr
  have hk : ∀ k, sc.names.lookup x = some k → env.kindOf x = some k := fun k e => by show env.scope.names.lookup x = _; rw [F.names]; exact e
  rcases vcName_inv h with ⟨hg, p, hp, h⟩ | ⟨b, hb, h⟩
  · obtain ⟨KI, TP⟩ := I.base s.heap I.core.le
    have g : s.heap.Ns env.globals W.mg := by rw [F.glob]; exact TP.g
    rcases hT.glob x p hp with ⟨a, rfl, e⟩ | ⟨b, rfl, e1, e2, e3⟩
    · refine Name_function_global F.kind (hk _ hg) (loadGlobal_global g (mg_of KI TP.g e) ?_) hd'
      exact P _ _ _ _ _ _ _ h I .fn .refl .refl rfl
    · refine Name_function_global F.kind (hk _ hg) (loadGlobal_builtin g (mg_none_of KI TP.g e1) (mb := W.mb) ?_ ((TP.builtins x e3).trans e2) ?_) hd'
      · rw [F.blt]; exact TP.b
      · exact P _ _ _ _ _ _ _ h I .bi .refl .refl rfl
  · by_cases hl : sc.names.lookup x = some .local
    · refine obEA F.ns fun m hm hall => ?_
      refine obEA (hall x b hb hl) fun v hv B => ?_
      have N : s.heap.Ns env.locals m := I.core.reg _ _ hm
      refine wpAny_Name (wpAny_loadName_local F.kind (hk _ hl) N hv ?_) hd'
      obtain ⟨bm, bp⟩ := b
      induction bm using Mode.casesOn with
      | own =>
        refine obEEAAA (freeze_own I hb hm hl hv B hall) fun H' R' I' r X l => ?_
        exact P _ _ _ _ _ _ _ (h.1 rfl) I' r X .refl l
      | plain => exact P _ _ _ _ _ _ _ (h.2 fun e => nomatch e) I B .refl .refl rfl
      | froz => exact P _ _ _ _ _ _ _ (h.2 fun e => nomatch e) I B .refl .refl rfl
    · refine obAEEAA (F.far x b hb hl) fun kk c v ec r cr => ?_
      have hc : s.heap.IsCell c (some v) := by
        rcases cr with ⟨_, o, e1, e2⟩ | ⟨_, e1⟩ | ⟨_, _, o, e1, e2⟩
        · exact ⟨o, I.core.le _ _ e1, e2⟩
        · exact I.core.reg _ _ e1
        · exact ⟨o, I.core.reg _ _ e1, e2⟩
      have h' : K b.p σ := by
        rcases cr with ⟨e, _⟩ | ⟨e, _⟩ | ⟨_, e, _⟩ <;> (obtain ⟨bm, bp⟩ := b; subst e; exact h.2 fun e => nomatch e)
      have fin : Q v s := P _ _ _ _ _ _ _ h' I r .refl .refl rfl
      rcases kk with kk | kk
      · exact wpAny_Name (wpAny_loadName_cell F.kind (hk _ kk) ec hc fin) hd'
      · refine wpAny_Name (wpAny_loadName_free F.kind (hk _ kk) ec hc fin hd'') hd'
end
end
section
noncomputable def PostG {α : Type} {β : Type} (W : Wd) (env : Env) (sc : SC) (H : IH) (R : RM) (ca : List Addr) (s : Shared) (K : α → St → Prop) (Rel : IH → RM → List Addr → Shared → β → α → Prop) (Q : β → Shared → Prop) : Prop :=
  ∀ v p σ' H' R' ca' s', K p σ' → Inv W env sc σ' H' R' ca' s' → Rel H' R' ca' s' v p → Ext H R s.heap ca H' R' s'.heap ca' → SEq s s' → R' env.locals = R env.locals → Q v s'
section
variable {W : Wd} {T : Tb} {H : IH} {ca : List Addr} {R : RM} {env : Env} {sc : SC} {σ : St} {s : Shared} {A : Around} {E : Value → Shared → Prop} {d : Nat}
variable {ev : Expr → St → (PV → St → Prop) → Prop}
theorem PostE.after {K K' : PV → St → Prop} {Q : Value → Shared → Prop} {H' : IH} {R' : RM} {ca' : List Addr} {s' : Shared} (P : PostE W env sc H R ca s K Q) (x : Ext H R s.heap ca H' R' s'.heap ca') (q : SEq s s') (l : R' env.locals = R env.locals) (k : ∀ p σ, K' p σ → K p σ) : PostE W env sc H' R' ca' s' K' Q :=
  fun v p σ'' H'' R'' ca'' s'' h I r x' q' l' => P v p σ'' H'' R'' ca'' s'' (k _ _ h) I r (x.trans x') (q.trans q') (l'.trans l)
theorem PostO.after {K K' : Bool → PV → St → Prop} {Q : Value → Shared → Prop} {H' : IH} {R' : RM} {ca' : List Addr} {s' : Shared} (P : PostO W env sc H R ca s K Q) (x : Ext H R s.heap ca H' R' s'.heap ca') (q : SEq s s') (l : R' env.locals = R env.locals) (k : ∀ o p σ, K' o p σ → K o p σ) : PostO W env sc H' R' ca' s' K' Q :=
  fun v own p σ'' H'' R'' ca'' s'' h I r o x' q' l' => P v own p σ'' H'' R'' ca'' s'' (k _ _ _ h) I r (fun e => let ⟨a, e1, e2, e3⟩ := o e; ⟨a, e1, x.live a e2, e3⟩) (x.trans x') (q.trans q') (l'.trans l)
theorem PostO.ofVal {K : Bool → PV → St → Prop} {Q : Value → Shared → Prop} (P : PostO W env sc H R ca s K Q) : PostE W env sc H R ca s (K false) Q :=
  fun v p σ' H' R' ca' s' h I r x q l => P v false p σ' H' R' ca' s' h I (fun u_ => r) (fun e => nomatch e) x q l
noncomputable def NoStar (ev : Expr → St → (PV → St → Prop) → Prop) : Prop := ∀ e p σ K, ¬ ev (.Starred e p) σ K
theorem starEach_cons {e : Expr} {r : List Expr} (h : ∀ x p, e ≠ .Starred x p) : starEach (e :: r) env = (false, eval e env) :: starEach r env := by
  induction e using PySem.Expr.casesOn <;> first | rfl | exact absurd rfl (h _ _)
theorem snd_es (S : SndE W d ev sc) (hst : NoStar ev) : ∀ (es : List Expr) (σ : St) (K : List PV → St → Prop), vcEs es ev σ K → ∀ (A : Around) (H : IH) (R : RM) (ca : List Addr) (s : Shared) (Q : List Value → Shared → Prop) (E : Value → Shared → Prop) (pos : Pos), Amb A d → Inv W env sc σ H R ca s →
    (∀ vs ps σ' H' R' ca' s', K ps σ' → Inv W env sc σ' H' R' ca' s' → Reps W H' ca' vs ps → Ext H R s.heap ca H' R' s'.heap ca' → SEq s s' → R' env.locals = R env.locals → Q vs s') → wpAny W.M A (spliced (backTo pos (starEach es env))) Q E s := by
  intro es
  induction es with
  | nil => exact fun σ K h A H R ca s Q E pos a I P => wpAny_items_nil (P [] [] σ H R ca s h I .nil .refl .refl rfl)
  | cons e r ih =>
    intro σ K h A H R ca s Q E pos a I P
    refine wpAny_items_cons ?_ (starEach_cons fun x p z => ?_)
    · refine S e σ _ h A env H R ca s _ E a I fun v p σ' H' R' ca' s' k I' rp x q l => ?_
      refine ih σ' _ k A H' R' ca' s' _ E pos a I' fun vs ps σ'' H'' R'' ca'' s'' k' I'' rs x' q' l' => ?_
      exact P _ _ _ _ _ _ _ k' I'' (.cons (Rep.mono x'.imm x'.ca rp) rs) (x.trans x') (q.trans q') (l'.trans l)
    · subst z; exact hst _ _ _ _ h
theorem PostE.now {K : PV → St → Prop} {Q : Value → Shared → Prop} (P : PostE W env sc H R ca s K Q) {p : PV} {v : Value} {t : Nat} (h : K p σ) (I : Inv W env sc σ H R ca s) (r : Rep W H ca v p) : Q v { s with toks := t } :=
  P v p σ H R ca _ h ⟨I.base, I.core, I.fr, I.gr⟩ r .refl ⟨rfl, rfl, rfl⟩ rfl
theorem PostE.new {K : PV → St → Prop} {Q : Value → Shared → Prop} (P : PostE W env sc H R ca s K Q) {p : PV} {a : Addr} {o : Obj} {h' : Heap} {t : Nat} (h : K p σ) (I : Inv W env sc σ H R ca s) (hf : s.heap.get? a = none)
    (k : ∀ b o, s.heap.get? b = some o → h'.get? b = some o) (x : h'.get? a = some o) (r : ∀ H' : IH, HLe H H' → H' a = some o → Rep W H' ca (.ref a) p) : Q (.ref a) { s with heap := h', toks := t } := by
  have I' : Inv W env sc σ (H.put a o) R ca { s with heap := h', toks := t } := I.newImm hf k x
  exact P _ p σ _ R ca _ h I' (r _ (HLe.put (I.core.freshH hf)) IH.put_self) (Ext.newImm I.core hf k) ⟨rfl, rfl, rfl⟩ rfl
theorem get_size_none (h : Heap) : h.get? h.objs.size = none := by
  cases q : h.get? h.objs.size with
  | none => rfl
  | some o => exact absurd (Heap.lt_size q) (Nat.lt_irrefl _)
theorem Reps.length {vs : List Value} {l : List PV} (r : Reps W H ca vs l) : vs.length = l.length := by
  induction l generalizing vs with
  | nil => cases r; rfl
  | cons p l ih => cases r with | cons _ r => simp [ih r]
theorem sfits_le {n : Nat} (h : sfits n = true) : n < 1048576 := Nat.le_of_ble_eq_true h
theorem sfits_line {n : Nat} (h : sfits n = true) : n ≤ sizeLine := by
  have := sfits_le h
  rw [sizeLine_eq]; omega
end
end
section
section
variable {W : Wd} {T : Tb} {H : IH} {ca : List Addr} {R : RM} {env : Env} {sc : SC} {σ : St} {s : Shared} {A : Around} {E : Value → Shared → Prop} {d : Nat}
theorem posi_pos {y : Int} (h : posi y = true) : 0 < y := by
  cases y with
  | ofNat n => cases n with
    | zero => exact noft h
    | succ n => show (0 : Int) < ((n + 1 : Nat) : Int); omega
  | negSucc n => exact noft h
theorem idx_lt {k : Int} (h : idx k = true) : 0 ≤ k ∧ k < 1099511627776 := by
  cases k with
  | ofNat n =>
    have : n < 1099511627776 := Nat.le_of_ble_eq_true h
    show (0 : Int) ≤ (n : Int) ∧ (n : Int) < _
    omega
  | negSucc n => exact noft h
theorem fits_mul {x y : Int} (hx : fits x = true) (hy : fits y = true) : IntMulOk x y := by
  have bits : ∀ z : Int, fits z = true → Builtin.Int.intBits z ≤ 2000000 := fun z hz => by
    have : z.natAbs.log2 < 2000000 := Nat.le_of_ble_eq_true hz
    unfold Builtin.Int.intBits
    split <;> omega
  have a := bits x hx
  have b := bits y hy
  unfold IntMulOk
  have : Builtin.Int.intTooBig (Builtin.Int.intBits x + Builtin.Int.intBits y) = false := by
    unfold Builtin.Int.intTooBig bitsLine
    simp only [decide_eq_false_iff_not]
    omega
  rw [this]; simp
theorem snd_add_lst {l b : Addr} {vs ws : List Value} {n n2 : Nat} {Q : Value → Shared → Prop} (hl : s.heap.get? l = some (listOf vs.toArray n)) (hb : s.heap.get? b = some (listOf ws.toArray n2)) (hsz : vs.length + ws.length ≤ sizeLine)
    (h : Q (.ref s.heap.objs.size) { s with heap := s.heap.push (listOf (vs ++ ws).toArray 0) }) : wpAny W.M A (binaryOp .Add (.ref l) (.ref b)) Q E s := by
  refine concat_meets ⟨_, hl, rfl⟩ ⟨_, hb, rfl⟩ noFill_list_add seq_list_add PySem.F.slot_list_add PySem.F.entry_list_add (PySem.F.args_list_add_2 _ _) (list_addW l b vs.toArray ws.toArray n n2 _ _ _ _ (by simpa using hsz)) ⟨hl, hb, ?_⟩
  have e : vs.toArray ++ ws.toArray = (vs ++ ws).toArray := by simp
  rw [e]; exact h
theorem reps_app {vs ws : List Value} {l m : List PV} (r : Reps W H ca vs l) (q : Reps W H ca ws m) : Reps W H ca (vs ++ ws) (l ++ m) := by
  induction l generalizing vs with
  | nil => cases r; exact q
  | cons p l ih => cases r with | cons a r => exact .cons a (ih r)
theorem reps_repl {v : Value} {p : PV} (r : Rep W H ca v p) (n : Nat) : Reps W H ca (List.replicate n v) (List.replicate n p) := by
  induction n with
  | zero => exact .nil
  | succ n ih => exact .cons r ih
theorem foldl_repl (v : Value) (n : Nat) (acc : Array Value) : List.foldl (fun x1 x2 => x1 ++ x2) acc (List.replicate n #[v]) = acc ++ (List.replicate n v).toArray := by
  induction n generalizing acc with
  | zero => simp
  | succ n ih => rw [List.replicate_succ, List.foldl_cons, ih, List.replicate_succ]; apply Array.ext'; simp
theorem snd_binop {op : Operator} {a b : PV} {va vb : Value} {K : PV → St → Prop} {Q : Value → Shared → Prop} (h : binop op a b fun p => K p σ) (I : Inv W env sc σ H R ca s) (ra : Rep W H ca va a) (rb : Rep W H ca vb b) (P : PostE W env sc H R ca s K Q) :
    wpAny W.M A (binaryOp op va vb) Q E s := by
  cases op with
  | Add =>
    induction a using PV.casesOn with
    | int x => induction b using PV.casesOn with
      | int y =>
        have h : K (.int (x + y)) σ := h
        obtain ⟨_, rfl⟩ := ra.inv; obtain ⟨_, rfl⟩ := rb.inv
        exact PyProof.Rows.add_int (P.now h I .int)
      | _ => exact False.elim h
    | str x => induction b using PV.casesOn with
      | str y =>
        have h : req (sfits (x.length + y.length)) (K (.str (x ++ y)) σ) := h
        obtain ⟨_, rfl⟩ := ra.inv; obtain ⟨_, rfl⟩ := rb.inv
        obtain ⟨h1, h⟩ := req_iff.mp h
        exact PyProof.Rows.add_str (fun t' tk => P.now h I .str) (sfits_line h1)
      | _ => exact False.elim h
    | lst x => induction b using PV.casesOn with
      | lst y =>
        have h : req (sfits (x.length + y.length)) (K (.lst (x ++ y)) σ) := h
        (refine obEEEAA ra.inv ?_; rintro _ vs n1 rfl hl rl)
        (refine obEEEAA rb.inv ?_; rintro _ us n2 rfl hb rr)
        obtain ⟨h1, h⟩ := req_iff.mp h
        refine snd_add_lst (I.core.le _ _ hl) (I.core.le _ _ hb) (by rw [rl.length, rr.length]; exact sfits_line h1) ?_
        exact P.new (t := s.toks) h I (get_size_none _) (fun b o e => Heap.get?_push_of_some _ e) (Heap.get?_push_size _ rfl) fun H' hH e => .lst e (reps_app (Reps.mono hH CLe.refl rl) (Reps.mono hH CLe.refl rr))
      | _ => exact False.elim h
    | _ => exact False.elim h
  | Sub =>
    induction a using PV.casesOn with
    | int x => induction b using PV.casesOn with
      | int y =>
        have h : K (.int (x - y)) σ := h
        obtain ⟨_, rfl⟩ := ra.inv; obtain ⟨_, rfl⟩ := rb.inv
        exact PyProof.Rows.sub_int (P.now h I .int)
      | _ => exact False.elim h
    | _ => exact False.elim h
  | Mult =>
    induction a using PV.casesOn with
    | int x => induction b using PV.casesOn with
      | int y =>
        have h : req (fits x) (req (fits y) (K (.int (x * y)) σ)) := h
        obtain ⟨_, rfl⟩ := ra.inv; obtain ⟨_, rfl⟩ := rb.inv
        obtain ⟨h1, h⟩ := req_iff.mp h
        obtain ⟨h2, h⟩ := req_iff.mp h
        exact PyProof.Rows.mul_int (P.now h I .int) (fits_mul h1 h2)
      | _ => exact False.elim h
    | lst x => induction b using PV.casesOn with
      | int n =>
        induction x using List.casesOn with
        | nil => exact False.elim h
        | cons p x => induction x using List.casesOn with
          | cons _ _ => exact False.elim h
          | nil =>
            have h : req (idx n) (req (sfits n.toNat) (K (.lst (List.replicate n.toNat p)) σ)) := h
            (refine obEEEAA ra.inv ?_; rintro _ vs n1 rfl hl rl)
            obtain ⟨_, rfl⟩ := rb.inv
            (refine obEEAA rl.icons ?_; rintro vp us rfl rp rn)
            obtain rfl := rn.inil
            obtain ⟨h1, h⟩ := req_iff.mp h
            obtain ⟨h2, h⟩ := req_iff.mp h
            have hn := idx_lt h1
            have h3 := sfits_le h2
            have hl' := I.core.le _ _ hl
            refine wpAny_binaryOp_repeat_ref (T := "list") (U := "int") (by decide) ⟨_, hl', rfl⟩ (fun s' => typeIs_int s' _ _) noFill_list_mul PySem.F.fills_int_mul PySem.F.slot_int_rmul repeat_list PySem.F.slot_int_index.lookup
              (call_meets PySem.F.slot_int_rmul (typeIs_int s _ _) PySem.F.entry_int_rmul (PySem.F.args_int_rmul_2 _ _) (int___rmul___int_list _ _ _ _ _)
                ⟨hl', rfl, ⟨_, hl', rfl⟩, call_meets PySem.F.slot_list_mul ⟨_, hl', rfl⟩ PySem.F.entry_list_mul (PySem.F.args_list_mul_2 _ _)
                  (AutoListH.list___mul___list_int_3 _ _ _ _ _ (by simp [Builtin.List.listFitsIndex]; omega) (by simp only [List.size_toArray, List.length_cons, List.length_nil]; omega) (by simp only [Builtin.List.listTooLong, List.size_toArray, List.length_cons, List.length_nil]; rw [decide_eq_true_eq, sizeLine_eq]; omega))
                  ⟨hl', ?_⟩⟩)
            have e0 : ([vp].toArray.isEmpty = true) = False := by simp
            rw [if_neg (by simp), foldl_repl]
            refine P.new (t := s.toks) h I (get_size_none _) (fun b o e => Heap.get?_push_of_some _ e) (Heap.get?_push_size _ rfl) fun H' hH e => ?_
            refine .lst (vs := List.replicate n.toNat vp) (n := 0) (by rw [e]; simp) (reps_repl (Rep.mono hH CLe.refl rp) _)
      | _ => induction x using List.casesOn with
        | nil => exact False.elim h
        | cons p x => induction x using List.casesOn <;> exact False.elim h
    | _ => exact False.elim h
  | FloorDiv =>
    induction a using PV.casesOn with
    | int x => induction b using PV.casesOn with
      | int y =>
        have h : req (posi y) (req (Nat.blt y.natAbs.log2 9000) (K (.int (Int.fdiv x y)) σ)) := h
        obtain ⟨_, rfl⟩ := ra.inv; obtain ⟨_, rfl⟩ := rb.inv
        obtain ⟨h1, h⟩ := req_iff.mp h
        obtain ⟨h2, h⟩ := req_iff.mp h
        have := posi_pos h1
        exact PyProof.Rows.floordiv_int (by omega) (P.now h I .int) (.inl (PyProof.noPylong_of_log2 (Nat.le_of_ble_eq_true h2)))
      | _ => exact False.elim h
    | _ => exact False.elim h
  | Mod =>
    induction a using PV.casesOn with
    | int x => induction b using PV.casesOn with
      | int y =>
        have h : req (posi y) (req (Nat.blt y.natAbs.log2 9000) (K (.int (Int.fmod x y)) σ)) := h
        obtain ⟨_, rfl⟩ := ra.inv; obtain ⟨_, rfl⟩ := rb.inv
        obtain ⟨h1, h⟩ := req_iff.mp h
        obtain ⟨h2, h⟩ := req_iff.mp h
        have := posi_pos h1
        exact PyProof.Rows.mod_int' (by omega) (P.now h I .int)
      | _ => exact False.elim h
    | _ => exact False.elim h
  | Pow =>
    induction a using PV.casesOn with
    | int x => induction b using PV.casesOn with
      | int y =>
        have h : req (decide (x = 10)) (req (decide (y = 18)) (K (.int 1000000000000000000) σ)) := h
        obtain ⟨_, rfl⟩ := ra.inv; obtain ⟨_, rfl⟩ := rb.inv
        obtain ⟨h1, h⟩ := req_iff.mp h
        obtain ⟨h2, h⟩ := req_iff.mp h
        have h1 := of_decide_eq_true h1
        have h2 := of_decide_eq_true h2
        subst h1 h2
        exact PyProof.Rows.pow_int (by decide) (by decide +kernel) (P.now h I .int)
      | _ => exact False.elim h
    | _ => exact False.elim h
  | _ => exact False.elim h
end
end
section
section
variable {W : Wd} {T : Tb} {H : IH} {ca : List Addr} {R : RM} {env : Env} {sc : SC} {σ : St} {s : Shared} {A : Around} {E : Value → Shared → Prop} {d : Nat}
inductive View (W : Wd) (H : IH) (ca : List Addr) (h : Heap) : Value → PV → Prop where
  | rep {v : Value} {p : PV} : Rep W H ca v p → View W H ca h v p
  | cont {a : Addr} {o : Obj} {p : PV} : h.get? a = some o → ContObj W H ca o p → (a == sysModules) = false → View W H ca h (.ref a) p
theorem View.plain {h : Heap} {v : Value} {p : PV} (V : View W H ca h v p) (hp : isCont p = false) : Rep W H ca v p := by
  cases V with
  | rep r => exact r
  | cont e c z => induction p using PV.casesOn <;> first | exact c.elim | exact notf hp
theorem View.lst {h : Heap} {v : Value} {l : List PV} (V : View W H ca h v (.lst l)) (le : Le H h) : ∃ a vs n, v = .ref a ∧ h.get? a = some (listOf vs.toArray n) ∧ Reps W H ca vs l := by
  cases V with
  | rep r => (refine obEEEAA r.inv ?_; rintro a vs n rfl e r); exact ⟨_, _, _, rfl, le _ _ e, r⟩
  | cont e c z => (refine obEEA c ?_; try clear c; rintro vs n rfl r); exact ⟨_, vs.toList, n, rfl, by simpa using e, r⟩
theorem View.dct {h : Heap} {v : Value} {l : List (Str × PV)} (V : View W H ca h v (.dct l)) (le : Le H h) : ∃ a o kvs, v = .ref a ∧ (a == sysModules) = false ∧ h.get? a = some o ∧ DictObj W.sk o kvs ∧ Ents W H ca kvs l := by
  cases V with
  | rep r => (refine obEEEAAAA r.inv ?_; rintro a o kvs rfl z e d r); exact ⟨_, _, _, rfl, z, le _ _ e, d, r⟩
  | cont e c z => (refine obEA c fun kvs d r => ?_; try clear c); exact ⟨_, _, kvs, rfl, z, e, d, r⟩
theorem View.dci {h : Heap} {v : Value} {l : List (Int × PV)} (V : View W H ca h v (.dci l)) (le : Le H h) : ∃ a o kvs, v = .ref a ∧ (a == sysModules) = false ∧ h.get? a = some o ∧ DictObj W.ik o kvs ∧ EntsI W H ca kvs l := by
  cases V with
  | rep r => (refine obEEEAAAA r.inv ?_; rintro a o kvs rfl z e d r); exact ⟨_, _, _, rfl, z, le _ _ e, d, r⟩
  | cont e c z => (refine obEA c fun kvs d r => ?_; try clear c); exact ⟨_, _, kvs, rfl, z, e, d, r⟩
theorem DictObj.of {prog : Program} {w : World} {K : Type} [DecidableEq K] {knd : KeyKind prog w K} {o : Obj} {kvs : List (K × Value)} {h : Heap} {a : Addr} (x : DictObj knd o kvs) (e : h.get? a = some o) : h.DictOf knd a kvs :=
  by (refine obAEEAAA x fun c es ep d k p n => ?_; try clear x); exact ⟨o, es, ep, e, c, d, k, p, n⟩
theorem dict_obj {prog : Program} {w : World} {K : Type} [DecidableEq K] {knd : KeyKind prog w K} {kvs : List (K × Value)} {h : Heap} {a : Addr} (x : h.DictOf knd a kvs) : ∃ o, h.get? a = some o ∧ DictObj knd o kvs :=
  by (refine obEEEAAAAA x fun o es ep e c d k p n => ?_; try clear x); exact ⟨o, e, c, es, ep, d, k, p, n⟩
theorem Ents.get {kvs : List (Str × Value)} {l : List (Str × PV)} (r : Ents W H ca kvs l) (x : Str) : (∀ v, valueAt kvs x = some v → ∃ p, dget l x = some p ∧ Rep W H ca v p) ∧ (valueAt kvs x = none → dget l x = none) := by
  induction l generalizing kvs with
  | nil => cases r; exact ⟨fun v e => (by exact nosome e), fun u_ => rfl⟩
  | cons q l ih =>
    cases r with
    | @cons y v p es _ a r =>
      by_cases h : y = x
      · have e1 : valueAt ((y, v) :: es) x = some v := by simp [valueAt, h]
        have e2 : dget ((y, p) :: l) x = some p := by simp [dget, h]
        rw [e1, e2]
        exact ⟨fun u e => ⟨p, rfl, (by (replace e := Option.some.inj e; subst e); exact a)⟩, fun e => (by exact nosome' e)⟩
      · have e1 : valueAt ((y, v) :: es) x = valueAt es x := by simp [valueAt, h]
        have e2 : dget ((y, p) :: l) x = dget l x := by simp [dget, h]
        rw [e1, e2]; exact ih r
theorem EntsI.get {kvs : List (Int × Value)} {l : List (Int × PV)} (r : EntsI W H ca kvs l) (x : Int) : (∀ v, valueAt kvs x = some v → ∃ p, dget l x = some p ∧ Rep W H ca v p) ∧ (valueAt kvs x = none → dget l x = none) := by
  induction l generalizing kvs with
  | nil => cases r; exact ⟨fun v e => (by exact nosome e), fun u_ => rfl⟩
  | cons q l ih =>
    cases r with
    | @cons y v p es _ a r =>
      by_cases h : y = x
      · have e1 : valueAt ((y, v) :: es) x = some v := by simp [valueAt, h]
        have e2 : dget ((y, p) :: l) x = some p := by simp [dget, h]
        rw [e1, e2]
        exact ⟨fun u e => ⟨p, rfl, (by (replace e := Option.some.inj e; subst e); exact a)⟩, fun e => (by exact nosome' e)⟩
      · have e1 : valueAt ((y, v) :: es) x = valueAt es x := by simp [valueAt, h]
        have e2 : dget ((y, p) :: l) x = dget l x := by simp [dget, h]
        rw [e1, e2]; exact ih r
theorem some_mk {α β : Type} {f : α → β} {o : Option α} {x : β} (h : o.map f = some x) : ∃ d, o = some d ∧ f d = x := Option.map_eq_some_iff.mp h
theorem pds_cons {p : PV} {l : List PV} {xs : List PyData} (h : pds (p :: l) = some xs) : ∃ x r, pd p = some x ∧ pds l = some r ∧ xs = x :: r := by
  unfold pds at h
  cases e1 : pd p with
  | none => rw [e1] at h; exact nosome h
  | some x =>
    cases e2 : pds l with
    | none => rw [e1, e2] at h; exact nosome h
    | some r => rw [e1, e2] at h; exact ⟨x, r, rfl, rfl, (Option.some.inj h).symm⟩
mutual
theorem reads_of {h : Heap} (le : Le H h) : ∀ (p : PV) {v : Value} {x : PyData}, Rep W H ca v p → pd p = some x → ∃ as, Reads h v x as
  | .none, v, x, r, e => by
    obtain rfl : v = .none := r.inv
    obtain rfl : PyData.none = x := Option.some.inj e
    exact ⟨_, .none⟩
  | .bool b, v, x, r, e => by
    obtain rfl : v = .bool b := r.inv
    obtain rfl : PyData.bool b = x := Option.some.inj e
    exact ⟨_, .bool _⟩
  | .int i, v, x, r, e => by
    obtain ⟨t, rfl⟩ : ∃ t, v = .int i t := r.inv
    obtain rfl : PyData.int i = x := Option.some.inj e
    exact ⟨_, .int _ _⟩
  | .str i, v, x, r, e => by
    obtain ⟨t, rfl⟩ : ∃ t, v = .str i t := r.inv
    obtain rfl : PyData.str i = x := Option.some.inj e
    exact ⟨_, .str _ _⟩
  | .tup l, v, x, r, e => by
    (refine obEEEAA r.inv ?_; rintro a vs n rfl g r)
    (refine obEA (some_mk e) ?_; rintro ds e1 rfl)
    obtain ⟨as, q⟩ := readsAll_of le l r e1
    exact ⟨_, .tuple (le _ _ g) rfl rfl (by simpa using q)⟩
  | .lst l, v, x, r, e => by
    (refine obEEEAA r.inv ?_; rintro a vs n rfl g r)
    (refine obEA (some_mk e) ?_; rintro ds e1 rfl)
    obtain ⟨as, q⟩ := readsAll_of le l r e1
    exact ⟨_, .list (le _ _ g) rfl rfl (by simpa using q)⟩
  | .dct _, _, _, _, e => nosome e
  | .dci _, _, _, _, e => nosome e
  | .ins _ _, _, _, _, e => nosome e
  | .fn _, _, _, _, e => nosome e
  | .bi _, _, _, _, e => nosome e
  | .lam .., _, _, _, e => nosome e
  | .cel _, _, _, _, e => nosome e
theorem readsAll_of {h : Heap} (le : Le H h) : ∀ (l : List PV) {vs : List Value} {xs : List PyData}, Reps W H ca vs l → pds l = some xs → ∃ as, ReadsAll h vs xs as
  | [], vs, xs, r, e => by
    obtain rfl := r.inil
    obtain rfl : [] = xs := Option.some.inj e
    exact ⟨_, .nil⟩
  | p :: l, vs, xs, r, e => by
    (refine obEEAA r.icons ?_; rintro v us rfl a r)
    (refine obEEAA (pds_cons e) ?_; rintro x rest e1 e2 rfl)
    obtain ⟨as, q⟩ := reads_of le p a e1
    obtain ⟨bs, q'⟩ := readsAll_of le l r e2
    exact ⟨_, .cons q q'⟩
end
theorem view_reads {h : Heap} (le : Le H h) {v : Value} {p : PV} {x : PyData} (V : View W H ca h v p) (e : pd p = some x) : ∃ as, Reads h v x as := by
  cases V with
  | rep r => exact reads_of le p r e
  | cont g c z =>
    induction p using PV.casesOn with
    | lst l =>
      (refine obEEA c ?_; try clear c; rintro vs n rfl r)
      (refine obEA (some_mk e) ?_; rintro ds e1 rfl)
      obtain ⟨as, q⟩ := readsAll_of le _ r e1
      exact ⟨_, .list g rfl rfl q⟩
    | dct => exact nosome e
    | dci => exact nosome e
    | _ => exact False.elim c
theorem ne_list_lengths {l b : Addr} {items items2 : Array Value} {n n2 : Nat} {Q : Value → Shared → Prop} (hl : s.heap.get? l = some (listOf items n)) (hb : s.heap.get? b = some (listOf items2 n2)) (hsz : (items.size != items2.size) = true) (hu : A.units < cLine) (h : Q (.bool true) s) :
    wpAny W.M A (compareOp .NotEq (.ref l) (.ref b)) Q E s := by
  have g : Meets (Builtin.«list.__ne__» ⟨[.ref l, .ref b], []⟩) (fun u_ R s => s.heap.get? l = some { cls := .type "list", dict := none, data := .seq items n, slots := #[] } ∧ s.heap.get? b = some { cls := .type "list", dict := none, data := .seq items2 n2, slots := #[] } ∧ R (.ok (.ret (Value.bool (CmpOp.NotEq == CmpOp.NotEq)))) { s with heap := s.heap, toks := s.toks }) :=
    .of_wp fun prog w A R s h => by obtain ⟨hp, g, d, tk, os⟩ := s; (refine obAA h ?_; try clear h; rintro hl hb h); have f3 := AutoSeq1.sub_list_list; wp_walk using wpAny_loadPart' hl, wpAny_loadPart' hb; exact ⟨_, rfl, h⟩
  exact richCompare_meets_room (op := .NotEq) ⟨_, hl, rfl⟩ ⟨_, hb, rfl⟩ PySem.F.slot_list_ne PySem.F.entry_list_ne (PySem.F.args_list_ne_2 _ _) g ⟨hl, hb, show Value.bool true ≠ Value.notImplemented ∧ Q (.bool true) s from ⟨(fun x => nomatch x), h⟩⟩ hu
theorem Ents.length {kvs : List (Str × Value)} {l : List (Str × PV)} (r : Ents W H ca kvs l) : kvs.length = l.length := by
  induction l generalizing kvs with
  | nil => cases r; rfl
  | cons p l ih => cases r with | cons _ r => simp [ih r]
theorem EntsI.length {kvs : List (Int × Value)} {l : List (Int × PV)} (r : EntsI W H ca kvs l) : kvs.length = l.length := by
  induction l generalizing kvs with
  | nil => cases r; rfl
  | cons p l ih => cases r with | cons _ r => simp [ih r]
theorem eq_ins_str {a C dx : Addr} {x : Str} {t : Tok} {Q : Value → Shared → Prop} (hc : W.cls C = true) (KI : W.K.In s.heap) (e : s.heap.get? a = some (instObj C dx)) (hu : A.units + 64 < cLine) (h : Q (.bool false) s) :
    wpAny W.M A (compareOp .Eq (.ref a) (.str x t)) Q E s := by
  have ok := W.clsOk C hc
  simp only [ownCls, Bool.and_eq_true, beq_iff_eq] at ok
  obtain ⟨⟨⟨⟨⟨⟨⟨⟨h1, h2⟩, h3⟩, h4⟩, h5⟩, h6⟩, h7⟩, h8⟩, h9⟩ := ok
  have same : ∀ (A : Around) (s : Shared) (Q : Bool → Shared → Prop), Q false s → wpAny W.M A (isSame (.ref a) (.str x t)) Q E s := fun A s Q q => wpAny_pure q
  have LT : Looks W.M s.heap (typeOf (.ref a)) (.ref C) := (Looks.ld e).andThen .now
  have hob : Looks W.M s.heap (isInstance (.ref a) (.type "object")) true := LT.andThen (looks_mroIn KI h6)
  have LE : Looks W.M s.heap (specialOf (.ref a) "__eq__") (some (.builtin "object.__eq__")) := LT.andThen (looks_findIn KI h7)
  have LS : Looks W.M s.heap (isSubtype (.type "str") (.ref C)) false := looks_subIn KI h8
  have try1 : ∀ (Q : Option Value → Shared → Prop), Q none s → wpAny W.M A (tryCompare (.ref a) "__eq__" (.str x t)) Q E s := fun Q q => by
    unfold tryCompare
    refine wpAny_bind ?_
    simp only [callSpecialIfBound?, bindSpecialIfBound?]
    refine wpAny_holding (wpAny_bind (wpAny_bind ?_))
    obtain ⟨hp, g, dd, tk, os⟩ := s
    refine LE.at ?_
    simp only [PySem.F.cmp_object.eq.bind]
    have fin : ∀ (Q : Option Value → Shared → Prop), Q (some .notImplemented) ⟨hp, g, dd, tk, os⟩ → wpAny W.M A (call (.builtin "object.__eq__") ([.ref a] ++ [.str x t]) >>= fun v => pure (some v)) Q E ⟨hp, g, dd, tk, os⟩ := fun Q q => by
      refine wpAny_bind (wpAny_call (codeAny_call_builtin PySem.F.cmp_object.eq.plain PySem.F.cmpEntry_eq ?_))
      simp only [checkBuiltinCall, PySem.F.cmpKind_eq, PySem.F.cmpSplit_eq]
      refine wpAny_bind (hob.at ?_)
      simp only [Bool.not_true, Bool.false_eq_true, if_false]
      have body : ∀ (P : PySem.Fin → Shared → Prop) (E' : Value → Shared → Prop), P (.done (.ret .notImplemented)) ⟨hp, g, dd, tk, os⟩ → wpAny W.M A.in1 (Builtin.«object.__eq__» ⟨[.ref a, .str x t], []⟩) P E' ⟨hp, g, dd, tk, os⟩ := fun P E' q => by
        unfold Builtin.«object.__eq__»
        wp_walk
        exact q
      cases hsig : Manifest.signature? "object.__eq__" with
      | none => exact wpAny_pure (body _ _ (wpAny_pure q))
      | some sig =>
        have ha := PySem.F.cmpArgs_eq (.ref a) (.str x t)
        simp only [argsOk, hsig] at ha
        have h2 : Bind.checkArgs "object.__eq__" sig ⟨.ref a :: [.str x t], []⟩ = pure () := ha
        show wpAny W.M _ (Bind.checkArgs "object.__eq__" sig ⟨.ref a :: [.str x t], []⟩) _ _ _
        rw [h2]; exact wpAny_pure (body _ _ (wpAny_pure q))
    refine wpAny_bind (wpAny_askSetting (wpAny_ite ?_))
    split
    · exact wpAny_bind (wpAny_pure (wpAny_pure (fin _ (wpAny_pure q))))
    · exact wpAny_tryCatch (wpAny_bind (wpAny_pure (wpAny_pure (fin _ (wpAny_pure q)))))
  have try2 : ∀ (Q : Option Value → Shared → Prop), Q none s → wpAny W.M A (tryCompare (.str x t) "__eq__" (.ref a)) Q E s := fun Q q => by
    have m : Meets (Builtin.«str.__eq__» ⟨[.str x t, .ref a], []⟩) (fun u_ R s => s.heap.get? a = some (instObj C dx) ∧ R (.ok (.ret .notImplemented)) s) := by
      intro prog w A R s hs
      obtain ⟨e, h⟩ := hs
      obtain ⟨hp, g, d, tk, os⟩ := s
      unfold Builtin.«str.__eq__» Builtin.Str.strCompare Builtin.Str.strSlot
      wp_walk using wpAny_loadPart' e
      exact h
    refine wpAny_tryCompare_declines (typeIs_str _ _ _) PySem.F.slot_str_eq ?_
    exact call_meets PySem.F.slot_str_eq (typeIs_str _ _ _) PySem.F.entry_str_eq (PySem.F.args_str_eq_2 _ _) m ⟨e, ⟨rfl, q⟩⟩
  show wpAny W.M A (richCompare .Eq (.ref a) (.str x t)) Q E s
  unfold richCompare
  refine wpAny_holding (wpAny_bind (wpAny_cRoomFor (by omega) ?_))
  show wpAny W.M A (typeOf (.ref a) >>= _) Q E s
  obtain ⟨hp, g, dd, tk, os⟩ := s
  refine wpAny_bind (LT.at ?_)
  refine wpAny_bind (wpAny_typeOf (T := "str") (typeIs_str _ _ _) ?_)
  simp only [show ((Value.ref C != Value.type "str") = true) by rfl, if_true]
  refine wpAny_bind (LS.at ?_)
  simp only [Bool.false_eq_true, if_false, Bool.not_false, if_true]
  refine wpAny_bind (try1 _ ?_)
  refine wpAny_bind (try2 _ ?_)
  exact wpAny_bind (wpAny_rule (wpAny_bind (same _ _ _ (wpAny_pure h))))
noncomputable def pdEq (a b : PV) : Option Bool := match pd a, pd b with
  | some x, some y => if SeqAt.shaped x && SeqAt.shaped y then some (PyData.eqv x y) else none
  | _, _ => none
theorem pd_both {a b : PV} {r : Bool} (h : pdEq a b = some r) : ∃ x y, pd a = some x ∧ pd b = some y ∧ SeqAt.shaped x = true ∧ SeqAt.shaped y = true ∧ PyData.eqv x y = r := by
  unfold pdEq at h
  cases e1 : pd a with
  | none => rw [e1] at h; exact nosome h
  | some x =>
    cases e2 : pd b with
    | none => rw [e1, e2] at h; exact nosome h
    | some y =>
      rw [e1, e2] at h
      cases hs : SeqAt.shaped x && SeqAt.shaped y with
      | false => simp only [hs, Bool.false_eq_true, if_false] at h; exact nosome h
      | true =>
        obtain ⟨h1, h2⟩ := Bool.and_eq_true_iff.mp hs
        simp only [hs, if_true] at h
        exact ⟨x, y, rfl, rfl, h1, h2, Option.some.inj h⟩
inductive P0 : PV → PV → Bool → Prop where
  | int {x y : Int} : P0 (.int x) (.int y) (x == y)
  | str {x y : Str} : P0 (.str x) (.str y) (x == y)
  | ins {C : Addr} {l : List (Str × PV)} {y : Str} : P0 (.ins C l) (.str y) false
  | lst {x y : List PV} : x.length ≠ y.length → P0 (.lst x) (.lst y) false
  | dct {x : List (Str × PV)} : P0 (.dct x) (.dct []) x.isEmpty
  | data {a b : PV} {r : Bool} : pdEq a b = some r → P0 a b r
theorem nil_cons {p : PV} {l : List PV} : ([] : List PV).length ≠ (p :: l).length := fun h => nomatch h
theorem okL_ok {y : Str} (h : okL y = true) : SeqAt.shaped (.str y) = true := by
  have h1 : PyData.strOk y = true := by
    unfold PyData.strOk
    rw [← Array.all_toList]
    refine List.all_eq_true.mpr fun c hc => ?_
    exact decide_eq_true (Nat.le_of_ble_eq_true (List.all_eq_true.mp h c hc))
  show (PyData.strOk y && decide ((PyData.str y).depth ≤ 64)) = true
  rw [h1]; rfl
theorem int_str {x : Int} {y : Str} {r : Bool} (h : peq0 (.int x) (.str y) = some r) : pdEq (.int x) (.str y) = some r := by
  have h : (match okL y with | true => some false | false => none) = some r := h
  cases e : okL y with
  | false => rw [e] at h; exact nosome h
  | true =>
    rw [e] at h
    (replace h := Option.some.inj h; subst h)
    show (if SeqAt.shaped (.int x) && SeqAt.shaped (.str y) then some (PyData.eqv (.int x) (.str y)) else none) = _
    rw [okL_ok e]; rfl
theorem peq0_int {x : Int} {b : PV} {r : Bool} (h : peq0 (.int x) b = some r) : P0 (.int x) b r := by
  induction b using PV.casesOn with
  | int y => (replace h := Option.some.inj h; subst h); exact .int
  | str y => exact .data (int_str h)
  | _ => exact .data h
theorem peq0_str {x : Str} {b : PV} {r : Bool} (h : peq0 (.str x) b = some r) : P0 (.str x) b r := by
  induction b using PV.casesOn with
  | str y => (replace h := Option.some.inj h; subst h); exact .str
  | _ => exact .data h
theorem peq0_ins {C : Addr} {l : List (Str × PV)} {b : PV} {r : Bool} (h : peq0 (.ins C l) b = some r) : P0 (.ins C l) b r := by
  induction b using PV.casesOn with
  | str y => (replace h := Option.some.inj h; subst h); exact .ins
  | _ => exact .data h
theorem peq0_lst {x : List PV} {b : PV} {r : Bool} (h : peq0 (.lst x) b = some r) : P0 (.lst x) b r := by
  induction b using PV.casesOn with
  | lst y =>
    induction x using List.casesOn with
    | nil => induction y using List.casesOn with
      | nil => exact .data h
      | cons q y => (replace h := Option.some.inj h; subst h); exact .lst nil_cons
    | cons p x => induction y using List.casesOn with
      | nil => (replace h := Option.some.inj h; subst h); exact .lst nil_cons.symm
      | cons q y => exact .data h
  | _ => induction x using List.casesOn <;> exact .data h
theorem peq0_dct {x : List (Str × PV)} {b : PV} {r : Bool} (h : peq0 (.dct x) b = some r) : P0 (.dct x) b r := by
  induction b using PV.casesOn with
  | dct y =>
    induction y using List.casesOn with
    | nil => induction x using List.casesOn <;> ((replace h := Option.some.inj h; subst h); exact .dct)
    | cons q y => induction x using List.casesOn <;> exact .data h
  | _ => induction x using List.casesOn <;> exact .data h
theorem peq0_inv {a b : PV} {r : Bool} (h : peq0 a b = some r) : P0 a b r := by
  induction a using PV.casesOn with
  | int x => exact peq0_int h
  | str x => exact peq0_str h
  | ins C l => exact peq0_ins h
  | lst x => exact peq0_lst h
  | dct x => exact peq0_dct h
  | _ => exact .data h
theorem lens_ne {vs ws : List Value} {a b : List PV} (r1 : Reps W H ca vs a) (r2 : Reps W H ca ws b) (h : a.length ≠ b.length) : (vs.toArray.size != ws.toArray.size) = true := by
  have := r1.length; have := r2.length
  simp only [List.size_toArray, bne_iff_ne]
  omega
theorem snd_eq0 {a b : PV} {va vb : Value} {r : Bool} {Q : Value → Shared → Prop} (h : peq0 a b = some r) (KI : W.K.In s.heap) (le : Le H s.heap) (Va : View W H ca s.heap va a) (Vb : View W H ca s.heap vb b) (hu : A.units + 64 < cLine) (hQ : Q (.bool r) s) : wpAny W.M A (compareOp .Eq va vb) Q E s := by
  cases peq0_inv h with
  | int =>
    obtain ⟨_, rfl⟩ := (Va.plain rfl).inv; obtain ⟨_, rfl⟩ := (Vb.plain rfl).inv
    exact PyProof.Rows.eq_int hQ
  | str =>
    obtain ⟨_, rfl⟩ := (Va.plain rfl).inv; obtain ⟨_, rfl⟩ := (Vb.plain rfl).inv
    exact PyProof.Rows.eq_str hQ
  | ins =>
    (refine obEEEEAAA ((Va.plain rfl).inv) ?_; rintro _ _ _ _ rfl e0 e1 _); obtain ⟨_, rfl⟩ := (Vb.plain rfl).inv
    exact eq_ins_str e0 KI (le _ _ e1) hu hQ
  | lst hn =>
    (refine obEEEAA (Va.lst le) ?_; rintro x vs n rfl g1 r1)
    (refine obEEEAA (Vb.lst le) ?_; rintro y ws m rfl g2 r2)
    exact P.eq_list_lengths g1 g2 (lens_ne r1 r2 hn) (by omega) hQ
  | @dct x =>
    (refine obEEEAAAA (Va.dct le) ?_; rintro _ o1 k1 rfl z1 g1 d1 r1)
    (refine obEEEAAAA (Vb.dct le) ?_; rintro _ o2 k2 rfl z2 g2 d2 r2)
    obtain rfl := r2.inil
    induction x using List.casesOn with
    | nil =>
      obtain rfl := r1.inil
      exact keq_eq (r := true) z1 z2 (d1.of g1) (d2.of g2) (by omega) (fun e => .nil) hQ
    | cons p x =>
      (refine obEEAA r1.icons ?_; rintro _ _ rfl _ _)
      exact keq_eq (r := true) z1 z2 (d1.of g1) (d2.of g2) (by omega) (fun e => nomatch e) hQ
  | data h =>
    (refine obEEAAAA (pd_both h) ?_; rintro x y hx hy h1 h2 rfl)
    obtain ⟨as, ra⟩ := view_reads le Va hx
    obtain ⟨bs, rb⟩ := view_reads le Vb hy
    exact eq_dataH ra rb h1 h2 hu hQ
inductive PC : PV → PV → Bool → Prop where
  | str {x y : Str} : PC (.str x) (.str y) (x == y)
  | int {x y : Int} : PC (.int x) (.int y) (x == y)
theorem peq1_str {x : Str} {q : PV} {k : Bool} (h : peq1 (.str x) q = some k) : PC (.str x) q k := by
  induction q using PV.casesOn with
  | str y => (replace h := Option.some.inj h; subst h); exact .str
  | _ => exact nosome h
theorem peq1_int {x : Int} {q : PV} {k : Bool} (h : peq1 (.int x) q = some k) : PC (.int x) q k := by
  induction q using PV.casesOn with
  | int y => (replace h := Option.some.inj h; subst h); exact .int
  | _ => exact nosome h
theorem peq1_inv {p q : PV} {k : Bool} (h : peq1 p q = some k) : PC p q k := by
  induction p using PV.casesOn with
  | str x => exact peq1_str h
  | int x => exact peq1_int h
  | _ => exact nosome h
theorem peqT_cons {p q : PV} {a b : List PV} {r : Bool} (h : peqT (p :: a) (q :: b) = some r) : ∃ k r', peqT a b = some r' ∧ r = (k && r') ∧ PC p q k := by
  have h : (match peq1 p q with
    | some k => (peqT a b).map (k && ·)
    | none => none) = some r := h
  cases e : peq1 p q with
  | none => rw [e] at h; exact nosome h
  | some k =>
    rw [e] at h
    (refine obEA (Option.map_eq_some_iff.mp h) ?_; rintro r' e1 rfl)
    exact ⟨k, r', e1, rfl, peq1_inv e⟩
theorem PC.at {p q : PV} {k : Bool} {v u : Value} (h : PC p q k) (rv : Rep W H ca v p) (ru : Rep W H ca u q) : SeqAt.EqAt A s v u k := by
  cases h with
  | str => obtain ⟨_, rfl⟩ := rv.inv; obtain ⟨_, rfl⟩ := ru.inv; exact SeqAt.EqAt.str_str _ _ _ _
  | int => obtain ⟨_, rfl⟩ := rv.inv; obtain ⟨_, rfl⟩ := ru.inv; exact SeqAt.EqAt.int_int _ _ _ _
theorem min_cons {k : Bool} {e : Nat → Bool} {n m : Nat} : ((List.range (min (n + 1) (m + 1))).all (fun j => match j with | 0 => k | j + 1 => e j) && (n + 1 == m + 1)) = (k && ((List.range (min n m)).all e && n == m)) := by
  rw [Nat.succ_min_succ, List.range_succ_eq_map, List.all_cons, List.all_map, Bool.and_assoc]
  have : (n + 1 == m + 1) = (n == m) := by simp
  rw [this]
  rfl
theorem peqT_at {a b : List PV} {vs ws : List Value} {r : Bool} (h : peqT a b = some r) (ra : Reps W H ca vs a) (rb : Reps W H ca ws b) : ∃ e : Nat → Bool, (∀ j (h1 : j < vs.length) (h2 : j < ws.length), SeqAt.EqAt A s vs[j] ws[j] (e j)) ∧ ((List.range (min vs.length ws.length)).all e && vs.length == ws.length) = r := by
  induction a generalizing b vs ws r with
  | nil =>
    obtain rfl := ra.inil
    induction b using List.casesOn with
    | nil => obtain rfl := rb.inil; (replace h := Option.some.inj h; subst h); exact ⟨fun u_ => true, fun j h1 u_ => absurd h1 (Nat.not_lt_zero _), rfl⟩
    | cons q b => (refine obEEAA rb.icons ?_; rintro _ _ rfl _ _); (replace h := Option.some.inj h; subst h); exact ⟨fun u_ => true, fun j h1 u_ => absurd h1 (Nat.not_lt_zero _), by simp⟩
  | cons p a ih =>
    (refine obEEAA ra.icons ?_; rintro v vs rfl rv ra)
    induction b using List.casesOn with
    | nil => obtain rfl := rb.inil; (replace h := Option.some.inj h; subst h); exact ⟨fun u_ => true, fun j u_ h2 => absurd h2 (Nat.not_lt_zero _), by simp⟩
    | cons q b =>
      (refine obEEAA rb.icons ?_; rintro u ws rfl ru rb)
      (refine obEEAA (peqT_cons h) ?_; rintro k r' h1 rfl hc)
      refine obEA (ih h1 ra rb) fun e e1 e2 => ?_
      refine ⟨fun j => match j with | 0 => k | j + 1 => e j, fun j h1 h2 => ?_, ?_⟩
      · cases j with
        | zero => exact hc.at rv ru
        | succ j => exact e1 j (Nat.lt_of_succ_lt_succ h1) (Nat.lt_of_succ_lt_succ h2)
      · rw [← e2]
        exact min_cons
set_option tactic.hygienic true in
theorem snd_eq {a b : PV} {va vb : Value} {r : Bool} {Q : Value → Shared → Prop} (h : peq a b = some r) (KI : W.K.In s.heap) (le : Le H s.heap) (Va : View W H ca s.heap va a) (Vb : View W H ca s.heap vb b) (hu : A.units + 64 < cLine) (hQ : Q (.bool r) s) : wpAny W.M A (compareOp .Eq va vb) Q E s := by
  unfold peq at h
  split at h
  · rename_i x y
    split at h
    · rename_i r' hr
      (replace h := Option.some.inj h; subst h)
      have ra := Va.plain rfl; have rb := Vb.plain rfl
      (refine obEEEAA ra.inv ?_; rintro l vs n rfl g1 r1)
      (refine obEEEAA rb.inv ?_; rintro m ws n2 rfl g2 r2)
      refine obEA (peqT_at (A := A.in1) (s := s) hr r1 r2) fun e e1 e2 => ?_
      refine SeqAt.eq_tupleAt (e := e) ⟨_, le _ _ g1, rfl, n, rfl⟩ ⟨_, le _ _ g2, rfl, n2, rfl⟩ (by omega) (fun j h1 h2 => ?_) ?_
      · simp only [List.size_toArray] at h1 h2
        have := e1 j h1 h2
        simpa using this
      · have e3 : (vs.toArray.size == ws.toArray.size) = (vs.length == ws.length) := by simp
        have e4 : min vs.toArray.size ws.toArray.size = min vs.length ws.length := by simp
        rw [e3, e4, e2]; exact hQ
    · exact snd_eq0 h KI le Va Vb hu hQ
  · exact snd_eq0 h KI le Va Vb hu hQ
theorem snd_ne {a b : PV} {va vb : Value} {r : Bool} {Q : Value → Shared → Prop} (h : peq0 a b = some r) (hn : ∀ C l, a ≠ .ins C l) (hd : ∀ l, a ≠ .dct l) (le : Le H s.heap) (Va : View W H ca s.heap va a) (Vb : View W H ca s.heap vb b) (hu : A.units + 64 < cLine) (hQ : Q (.bool !r) s) : wpAny W.M A (compareOp .NotEq va vb) Q E s := by
  cases peq0_inv h with
  | int =>
    obtain ⟨_, rfl⟩ := (Va.plain rfl).inv; obtain ⟨_, rfl⟩ := (Vb.plain rfl).inv
    exact PyProof.Rows.ne_int hQ
  | str =>
    obtain ⟨_, rfl⟩ := (Va.plain rfl).inv; obtain ⟨_, rfl⟩ := (Vb.plain rfl).inv
    exact PyProof.Rows.ne_str hQ
  | ins => exact absurd rfl (hn _ _)
  | lst hne =>
    (refine obEEEAA (Va.lst le) ?_; rintro x vs n rfl g1 r1)
    (refine obEEEAA (Vb.lst le) ?_; rintro y ws m rfl g2 r2)
    exact ne_list_lengths g1 g2 (lens_ne r1 r2 hne) (by omega) hQ
  | dct => exact absurd rfl (hd _)
  | data h =>
    (refine obEEAAAA (pd_both h) ?_; rintro x y hx hy h1 h2 rfl)
    obtain ⟨as, ra⟩ := view_reads le Va hx
    obtain ⟨bs, rb⟩ := view_reads le Vb hy
    exact ne_dataH ra rb h1 h2 hu hQ
set_option tactic.hygienic true in
theorem isNone_eq {v : Value} {p : PV} (V : View W H ca s.heap v p) : (v == Value.none) = isNone p := by
  cases V with
  | rep r => cases r <;> first | rfl | (rename_i b; induction b using Bi.casesOn <;> rfl)
  | cont e c z => induction p using PV.casesOn <;> first | exact c.elim | rfl
theorem strs_data {l : List PV} {ks : List Str} (h : isStrs l = some ks) : pds l = some (ks.map PyData.str) := by
  induction l generalizing ks with
  | nil => (replace h := Option.some.inj h; subst h); rfl
  | cons p l ih =>
    induction p using PV.casesOn with
    | str x =>
      (refine obEA (some_mk h) ?_; rintro r e rfl)
      show (match some (PyData.str x), pds l with | some d, some ds => some (d :: ds) | _, _ => none) = _
      rw [ih e]
      rfl
    | _ => exact nosome h
theorem strs_any (ks : List Str) (k : Str) : ((ks.map PyData.str).any fun y => PyData.eqv y (.str k)) = ks.contains k := by
  induction ks with
  | nil => rfl
  | cons a r ih =>
    rw [List.map_cons, List.any_cons, ih, List.contains_cons]
    have : PyData.eqv (.str a) (.str k) = (k == a) := by
      show (a == k) = (k == a)
      exact Bool.beq_comm
    rw [this]
theorem depth_strs (ks : List Str) : PyData.depthAll (ks.map PyData.str) ≤ 1 := by
  induction ks with
  | nil => simp [PyData.depthAll]
  | cons a r ih => simp [PyData.depthAll, PyData.depth]; omega
theorem get_isSome {α : Type} [DecidableEq α] {o : Option Value} {q : Option PV} (h : (∀ v, o = some v → ∃ p, q = some p ∧ Rep W H ca v p) ∧ (o = none → q = none)) : o.isSome = q.isSome := by
  induction o using Option.casesOn with
  | none => rw [h.2 rfl]; rfl
  | some v => refine obEA (h.1 v rfl) fun p e u_ => ?_; rw [e]; rfl
inductive PIn : PV → PV → Bool → Prop where
  | dct {l : List (Str × PV)} {k : Str} : PIn (.str k) (.dct l) (dget l k).isSome
  | dci {l : List (Int × PV)} {k : Int} : PIn (.int k) (.dci l) (dget l k).isSome
  | lst {l : List PV} {k : Str} {ks : List Str} : isStrs l = some ks → PyData.strOk k = true → ks.all PyData.strOk = true → PIn (.str k) (.lst l) (ks.contains k)
theorem pisin_inv {x c : PV} {r : Bool} (h : pisin x c = some r) : PIn x c r := by
  induction c using PV.casesOn with
  | dct l => induction x using PV.casesOn with
    | str k => exact Option.some.inj h ▸ .dct
    | _ => exact nosome h
  | dci l => induction x using PV.casesOn with
    | int k => exact Option.some.inj h ▸ .dci
    | _ => exact nosome h
  | lst l => induction x using PV.casesOn with
    | str k =>
      refine obEA (Option.bind_eq_some_iff.mp h) fun ks hk h => ?_
      by_cases e : (PyData.strOk k && ks.all PyData.strOk) = true
      · rw [if_pos e] at h
        obtain ⟨h1, h2⟩ := Bool.and_eq_true_iff.mp e
        exact Option.some.inj h ▸ .lst hk h1 h2
      · rw [if_neg e] at h; exact nosome h
    | _ => exact nosome h
  | _ => exact nosome h
theorem strs_lay {ks : List Str} (h2 : ks.all PyData.strOk = true) : PyData.canLayAll0 (ks.map PyData.str) = true := by
  induction ks with
  | nil => rfl
  | cons a r ih =>
    rw [List.all_cons, Bool.and_eq_true] at h2
    rw [List.map_cons, PyData.canLayAll0, ih h2.2, Bool.and_true]; exact h2.1
theorem snd_in {x c : PV} {vx vc : Value} {r neg : Bool} {Q : Value → Shared → Prop} (h : pisin x c = some r) (le : Le H s.heap) (Vx : View W H ca s.heap vx x) (Vc : View W H ca s.heap vc c) (hu : A.units + 64 < cLine) (hQ : ∀ t, Q (.bool (if neg then !r else r)) { s with toks := t }) :
    wpAny W.M A (compareOp (if neg then .NotIn else .In) vx vc) Q E s := by
  replace h := pisin_inv h
  cases h with
  | @dct l k =>
    obtain ⟨t, rfl⟩ := (Vx.plain rfl).inv
    (refine obEEEAAAA (Vc.dct le) ?_; rintro a o kvs rfl z g d r1)
    have e := get_isSome (α := Str) (r1.get k)
    have km : W.sk.is k (.str k t) = true := strKind_is W.prog W.w k t
    induction neg using Bool.casesOn
    · exact wpAny_in_of (knd := W.sk) km z (d.of g).mapOf (by rw [e]; exact hQ _)
    · exact wpAny_notIn_of (knd := W.sk) km z (d.of g).mapOf (by rw [e]; exact hQ _)
  | @dci l k =>
    obtain ⟨t, rfl⟩ := (Vx.plain rfl).inv
    (refine obEEEAAAA (Vc.dci le) ?_; rintro a o kvs rfl z g d r1)
    have e := get_isSome (α := Int) (r1.get k)
    have km : W.ik.is k (.int k t) = true := intKind_is W.prog W.w k t
    induction neg using Bool.casesOn
    · exact wpAny_in_of (knd := W.ik) km z (d.of g).mapOf (by rw [e]; exact hQ _)
    · exact wpAny_notIn_of (knd := W.ik) km z (d.of g).mapOf (by rw [e]; exact hQ _)
  | @lst l k ks hk h1 h2 =>
    obtain ⟨t, rfl⟩ := (Vx.plain rfl).inv
    obtain ⟨as, rc⟩ := view_reads le Vc (x := .list (ks.map PyData.str)) (congrArg (Option.map PyData.list) (strs_data hk))
    have hm : min (PyData.depthAll (ks.map PyData.str)) (PyData.depth (.str k)) ≤ 1 := Nat.le_trans (Nat.min_le_left _ _) (depth_strs ks)
    induction neg using Bool.casesOn
    · exact SeqAt.in_list_reads rc (.str k t) (strs_lay h2) h1 (by omega) (by rw [strs_any]; exact hQ _)
    · exact SeqAt.notIn_list_reads rc (.str k t) (strs_lay h2) h1 (by omega) (by rw [strs_any]; exact hQ _)
theorem int2 {F : Int → Int → Bool} {a b : PV} {r : Bool} (h : (match a, b with | .int x, .int y => some (F x y) | _, _ => none) = some r) : ∃ x y, a = .int x ∧ b = .int y ∧ F x y = r := by
  induction a using PV.casesOn with
  | int x => induction b using PV.casesOn with
    | int y => exact ⟨x, y, rfl, rfl, Option.some.inj h⟩
    | _ => exact nosome h
  | _ => exact nosome h
theorem none2 {b : PV} {x r : Bool} (h : (match b with | .none => some x | _ => none) = some r) : b = .none ∧ x = r := by
  induction b using PV.casesOn with
  | none => exact ⟨rfl, Option.some.inj h⟩
  | _ => exact nosome h
theorem no_ne {a : PV} {o : Option Bool} {r : Bool} (h : (if noNe a then none else o) = some r) : noNe a = false ∧ o = some r := by
  cases e : noNe a with
  | true => rw [e] at h; exact nosome h
  | false => rw [e] at h; exact ⟨rfl, h⟩
theorem snd_cmp {op : CmpOp} {a b : PV} {va vb : Value} {r : Bool} {Q : Value → Shared → Prop} (h : cmp op a b = some r) (KI : W.K.In s.heap) (le : Le H s.heap) (Va : View W H ca s.heap va a) (Vb : View W H ca s.heap vb b) (hu : A.units + 64 < cLine)
    (hQ : ∀ t, Q (.bool r) { s with toks := t }) : wpAny W.M A (compareOp op va vb) Q E s := by
  cases op with
  | Eq => exact snd_eq h KI le Va Vb hu (hQ _)
  | NotEq =>
    obtain ⟨hno, h⟩ := no_ne h
    (refine obEA (Option.map_eq_some_iff.mp h) ?_; rintro x e rfl)
    exact snd_ne e (fun C l z => noft (hno.symm.trans (congrArg noNe z))) (fun l z => noft (hno.symm.trans (congrArg noNe z))) le Va Vb hu (hQ _)
  | Lt =>
    (refine obEEAA (int2 (F := fun x y => decide (x < y)) h) ?_; rintro x y rfl rfl rfl)
    obtain ⟨_, rfl⟩ := (Va.plain rfl).inv; obtain ⟨_, rfl⟩ := (Vb.plain rfl).inv
    exact PyProof.Rows.lt_int (hQ _)
  | Gt =>
    (refine obEEAA (int2 (F := fun x y => decide (y < x)) h) ?_; rintro x y rfl rfl rfl)
    obtain ⟨_, rfl⟩ := (Va.plain rfl).inv; obtain ⟨_, rfl⟩ := (Vb.plain rfl).inv
    exact PyProof.Rows.gt_int (hQ _)
  | GtE =>
    (refine obEEAA (int2 (F := fun x y => decide (y ≤ x)) h) ?_; rintro x y rfl rfl rfl)
    obtain ⟨_, rfl⟩ := (Va.plain rfl).inv; obtain ⟨_, rfl⟩ := (Vb.plain rfl).inv
    exact PyProof.Rows.ge_int (hQ _)
  | Is =>
    obtain ⟨rfl, rfl⟩ := none2 h
    obtain rfl : vb = .none := (Vb.plain rfl).inv
    exact PyProof.Rows.is_none_gen (by rw [isNone_eq Va]; exact hQ _)
  | IsNot =>
    obtain ⟨rfl, rfl⟩ := none2 h
    obtain rfl : vb = .none := (Vb.plain rfl).inv
    exact PyProof.Rows.isnot_none_gen (by rw [isNone_eq Va]; exact hQ _)
  | In => exact snd_in (neg := false) h le Va Vb hu hQ
  | NotIn =>
    (refine obEA (Option.map_eq_some_iff.mp h) ?_; rintro x e rfl)
    exact snd_in (neg := true) e le Va Vb hu hQ
  | _ => exact nosome h
end
end
section
section
variable {W : Wd} {T : Tb} {H H' : IH} {ca ca' : List Addr} {R R' : RM} {env : Env} {sc : SC} {σ : St} {s s' : Shared} {A : Around} {E : Value → Shared → Prop} {d : Nat}
variable {ev : Expr → St → (PV → St → Prop) → Prop}
noncomputable def BRel (W : Wd) (H : IH) (ca : List Addr) (R : RM) (env : Env) (sc : SC) (v : Value) : BR → Prop
  | .val p => Rep W H ca v p
  | .own x => sc.names.lookup x = some .local ∧ ∃ m, R env.locals = some (.ns m) ∧ m x = some v
theorem BRel.mono {v : Value} {b : BR} (r : BRel W H ca R env sc v b) (hH : HLe H H') (hc : CLe ca ca') (l : R' env.locals = R env.locals) : BRel W H' ca' R' env sc v b := by
  induction b using BR.casesOn with
  | val p => exact Rep.mono hH hc r
  | own x => (refine obAEA r fun e m e1 e2 => ?_; try clear r); exact ⟨e, m, l.trans e1, e2⟩
theorem own_at (I : Inv W env sc σ H R ca s) {x : Str} {p : PV} {m : Str → Option Value} {v : Value} (hx : fget σ.fr x = some ⟨.own, p⟩) (hl : sc.names.lookup x = some .local) (hm : R env.locals = some (.ns m)) (hv : m x = some v) :
    (∃ a, v = .ref a ∧ R a = some (.cont (.var x) p)) ∨ (∃ a D d l, p = .ins D l ∧ W.cls D = true ∧ v = .ref a ∧ H a = some (instObj D d) ∧ R d = some (.cont (.var x) (.dct l))) := by
  refine obEA I.fr.ns fun m' e1 k => ?_
  rw [hm] at e1; cases e1
  refine obEA (k x _ hx hl) fun v' e2 B => ?_
  rw [hv] at e2; (replace e2 := Option.some.inj e2; subst e2)
  exact B
theorem View.of_some {v : Value} {p c : PV} {h : Heap} (e : some p = some c) (r : Rep W H ca v p) : View W H ca h v c := Option.some.inj e ▸ .rep r
theorem own_view (I : Inv W env sc σ H R ca s) {x : Str} {v : Value} {c : PV} (r : BRel W H ca R env sc v (.own x)) (h : BR.cont σ (.own x) = some c) : fget σ.fr x = some ⟨.own, c⟩ ∧ isCont c = true ∧ ∃ a, v = .ref a ∧ R a = some (.cont (.var x) c) := by
  (refine obAEA r fun hl m hm hv => ?_; try clear r)
  have h : (match fget σ.fr x with
    | some ⟨.own, p⟩ => if isCont p then some p else none
    | _ => none) = some c := h
  cases hx : fget σ.fr x with
  | none => rw [hx] at h; exact nosome h
  | some b =>
    obtain ⟨bm, q⟩ := b
    rw [hx] at h
    induction bm using Mode.casesOn with
    | own =>
      cases hq : isCont q with
      | false => simp only [hq, Bool.false_eq_true, if_false] at h; exact nosome h
      | true =>
        simp only [hq, if_true] at h
        (replace h := Option.some.inj h; subst h)
        refine ⟨rfl, hq, ?_⟩
        rcases own_at I hx hl hm hv with z | ⟨a, D, k, l, rfl, _, rfl, e1, e2⟩
        · exact z
        · exact noft hq
    | _ => exact nosome h
theorem br_view {b : BR} {v : Value} {c : PV} (I : Inv W env sc σ H R ca s) (r : BRel W H ca R env sc v b) (h : b.cont σ = some c) : View W H ca s.heap v c := by
  induction b using BR.casesOn with
  | own x =>
    (refine obAAEA (own_view I r h) ?_; rintro _ _ a rfl e)
    refine obEAA (I.core.reg _ _ e) fun o e1 e2 e3 => ?_
    exact .cont e1 e2 e3
  | val p =>
    have r : Rep W H ca v p := r
    induction p using PV.casesOn with
    | cel k =>
      (refine obEA r.inv ?_; rintro a rfl e)
      refine obEAA (I.core.reg _ _ (I.gr.cell k a c e h)) fun o e1 e2 e3 => ?_
      exact .cont e1 e2 e3
    | _ => exact View.of_some h r
theorem vcBR_inv {e : Expr} {K : BR → St → Prop} (h : vcBR e ev σ K) : ev e σ (kVal K) ∨ ∃ x pos, e = .Name x pos ∧ ownCont (fget σ.fr x) = true ∧ (x == ("__debug__" : Str)) = false ∧ K (.own x) σ := by
  induction e using PySem.Expr.casesOn with
  | Name x pos =>
    have h : (match ownCont (fget σ.fr x) with
      | true => req (!(x == "__debug__")) (K (.own x) σ)
      | false => ev (.Name x pos) σ (kVal K)) := h
    cases ho : ownCont (fget σ.fr x) with
    | false => rw [ho] at h; exact .inl h
    | true =>
      rw [ho] at h
      obtain ⟨hd, h⟩ := req_iff.mp h
      exact .inr ⟨x, pos, rfl, ho, by simpa using hd, h⟩
  | _ => exact .inl h
theorem ownCont_inv {b : Option Bind} (h : ownCont b = true) : ∃ p, b = some ⟨.own, p⟩ ∧ isCont p = true := by
  induction b using Option.casesOn with
  | none => exact noft h
  | some b =>
    obtain ⟨m, p⟩ := b
    induction m using Mode.casesOn with
    | own => induction p using PV.casesOn <;> first | exact ⟨_, rfl, rfl⟩ | exact noft h
    | _ => exact noft h
theorem own_local (I : Inv W env sc σ H R ca s) {x : Str} {p : PV} (hx : fget σ.fr x = some ⟨.own, p⟩) : sc.names.lookup x = some .local := by
  by_cases hl : sc.names.lookup x = some .local
  · exact hl
  · refine obAEEAA (I.fr.far x _ hx hl) fun u_ c v u_ u_ cr => ?_
    rcases cr with ⟨z, _⟩ | ⟨z, _⟩ | ⟨_, z, _⟩ <;> cases z
theorem snd_br (S : SndE W d ev sc) {e : Expr} {K : BR → St → Prop} {Q : Value → Shared → Prop} (h : vcBR e ev σ K) (a : Amb A d) (I : Inv W env sc σ H R ca s)
    (P : ∀ v b σ' H' R' ca' s', K b σ' → Inv W env sc σ' H' R' ca' s' → BRel W H' ca' R' env sc v b → Ext H R s.heap ca H' R' s'.heap ca' → SEq s s' → R' env.locals = R env.locals → Q v s') : wpAny W.M A (eval e env) Q E s := by
  rcases vcBR_inv h with h | ⟨x, pos, rfl, ho, hd', h⟩
  · exact S e σ _ h A env H R ca s Q E a I fun v p σ' H' R' ca' s' k I' r x q l => P v (.val p) σ' H' R' ca' s' k I' r x q l
  · refine obEA (ownCont_inv ho) fun p hb u_ => ?_
    have hl := own_local I hb
    refine obEA I.fr.ns fun m em hall => ?_
    refine obEA (hall x _ hb hl) fun v hv u_ => ?_
    refine wpAny_Name (wpAny_loadName_local I.fr.kind (by show env.scope.names.lookup x = _; rw [I.fr.names]; exact hl) (I.core.reg _ _ em) hv ?_) hd'
    exact P v (.own x) σ H R ca s h I ⟨hl, m, em, hv⟩ .refl .refl rfl
theorem Inv.in_ (I : Inv W env sc σ H R ca s) : W.K.In s.heap := (I.base s.heap I.core.le).1
theorem Inv.top (I : Inv W env sc σ H R ca s) : Top W.p W.loose W.mean W.mg W.mb s.heap := (I.base s.heap I.core.le).2
theorem Amb.eq (a : Amb A d) : A.units + 64 < cLine := by have := a.units; omega
theorem snd_compare (S : SndE W d ev sc) {l r : Expr} {op : CmpOp} {K : Bool → St → Prop} {Q : Value → Shared → Prop} (h : vcCmp l op r ev σ K) (a : Amb A d) (I : Inv W env sc σ H R ca s)
    (P : ∀ b σ' H' R' ca' s', K b σ' → Inv W env sc σ' H' R' ca' s' → Ext H R s.heap ca H' R' s'.heap ca' → SEq s s' → R' env.locals = R env.locals → Q (.bool b) s') :
    behindInMarks op r = false ∧ wpAny W.M A (eval l env) (fun x s₁ => wpAny W.M A (eval r env) (fun y s₂ => wpAny W.M A (compareOp op x y) Q E s₂) E s₁) E s := by
  obtain ⟨hm, h⟩ := req_iff.mp h
  refine ⟨by simpa using hm, ?_⟩
  refine snd_br S h a I fun v b σ' H' R' ca' s' h I' rb x q l' => ?_
  refine snd_br S h a I' fun v2 b2 σ'' H'' R'' ca'' s'' h I'' rb2 x2 q2 l2 => ?_
  refine obEA (onSome_inv h) fun c1 e1 h => ?_
  refine obEA (onSome_inv h) fun c2 e2 h => ?_
  refine obEA (onSome_inv h) fun v hv h => ?_
  exact snd_cmp hv I''.in_ I''.core.le (br_view I'' (rb.mono x2.imm x2.ca l2) e1) (br_view I'' rb2 e2) a.eq fun t => P v _ _ _ _ { s'' with toks := t } h ⟨I''.base, I''.core, I''.fr, I''.gr⟩ (x.trans x2) ((q.trans q2).trans ⟨rfl, rfl, rfl⟩) (l2.trans l')
theorem vcCmpL_inv {l : Expr} {ops : List CmpOp} {rs : List Expr} {K : Bool → St → Prop} (h : vcCmpL l ops rs ev σ K) : ∃ op r, ops = [op] ∧ rs = [r] ∧ vcCmp l op r ev σ K := by
  unfold vcCmpL at h
  cases e1 : one? ops with
  | none => rw [e1] at h; exact h.elim
  | some op =>
    cases e2 : one? rs with
    | none => rw [e1, e2] at h; exact h.elim
    | some r =>
      rw [e1, e2] at h
      exact ⟨op, r, one_inv e1, one_inv e2, h⟩
noncomputable def PostT (W : Wd) (env : Env) (sc : SC) (H : IH) (R : RM) (ca : List Addr) (s : Shared) (K : Bool → St → Prop) (Q : Bool → Shared → Prop) : Prop :=
  ∀ b σ' H' R' ca' s', K b σ' → Inv W env sc σ' H' R' ca' s' → Ext H R s.heap ca H' R' s'.heap ca' → SEq s s' → R' env.locals = R env.locals → Q b s'
theorem truth_inv {p : PV} {b : Bool} (h : truth p = some b) : p = .bool b := by
  induction p using PV.casesOn with
  | bool c => exact congrArg PV.bool (Option.some.inj h)
  | _ => exact nosome h
theorem truth_of {p : PV} {b : Bool} {v : Value} (h : truth p = some b) (r : Rep W H ca v p) : v = .bool b := by
  obtain rfl := truth_inv h
  exact r.inv
theorem truth_K {K : Bool → St → Prop} {p : PV} {v : Value} (h : kTruth K p σ) (r : Rep W H ca v p) : ∃ b, v = .bool b ∧ K b σ := by
  refine obEA (onSome_inv h) fun b e h => ?_
  exact ⟨b, truth_of e r, h⟩
inductive VT (ev : Evl) (n : Nat) (σ : St) (K : KtB) : Expr → Prop where
  | not {x : Expr} {p : Pos} : vcT n x ev σ (kNotT K) → VT ev n σ K (.UnaryOp .Not x p)
  | bool {op : BoolOp} {vs : List Expr} {p : Pos} : vcAll n op vs ev σ K → VT ev n σ K (.BoolOp op vs p)
  | cmp {l : Expr} {ops : List CmpOp} {rs : List Expr} {p : Pos} : vcCmpL l ops rs ev σ K → VT ev n σ K (.Compare l ops rs p)
  | val {e : Expr} : (∀ env whole, isTrue e env whole = (do let v ← whole; standAt e.pos; holding [v] (truthy v))) → ev e σ (kTruth K) → VT ev n σ K e
theorem vcT_inv {n : Nat} {e : Expr} {K : KtB} (h : vcT (n + 1) e ev σ K) : VT ev n σ K e := by
  induction e using PySem.Expr.casesOn with
  | UnaryOp op x p => cases op with
    | Not => exact .not h
    | _ => exact .val (fun u_ u_ => rfl) h
  | BoolOp op vs p => exact .bool h
  | IfExp _ _ _ _ => exact h.elim
  | Compare l ops rs p => exact .cmp h
  | _ => exact .val (fun u_ u_ => rfl) h
theorem vcAll_nil {n : Nat} {op : BoolOp} {K : KtB} (h : vcAll (n + 1) op [] ev σ K) : K (op == .And) σ := h
theorem vcAll_cons {n : Nat} {op : BoolOp} {x : Expr} {r : List Expr} {K : KtB} (h : vcAll (n + 1) op (x :: r) ev σ K) : vcT n x ev σ (kAll op (vcAll n op r) ev K) := h
noncomputable def SndT (W : Wd) (d : Nat) (env : Env) (sc : SC) (vt : St → KtB → Prop) (m : Sem Bool) : Prop := ∀ (σ : St) (K : KtB), vt σ K → ∀ (A : Around) (H : IH) (R : RM) (ca : List Addr) (s : Shared) (Q : Bool → Shared → Prop) (E : Value → Shared → Prop), Amb A d → Inv W env sc σ H R ca s → PostT W env sc H R ca s K Q → wpAny W.M A m Q E s
theorem PostT.after {K : KtB} {Q : Bool → Shared → Prop} (P : PostT W env sc H R ca s K Q) (x : Ext H R s.heap ca H' R' s'.heap ca') (q : SEq s s') (l : R' env.locals = R env.locals) : PostT W env sc H' R' ca' s' K Q :=
  fun b σ'' H'' R'' ca'' s'' k I x' q' l' => P b σ'' H'' R'' ca'' s'' k I (x.trans x') (q.trans q') (l'.trans l)
theorem snd_tn (S : SndE W d ev sc) : ∀ n, (∀ e, SndT W d env sc (vcT n e ev) (isTrue e env (eval e env))) ∧ ∀ op vs, SndT W d env sc (vcAll n op vs ev) (allTrue op vs env) := by
  intro n
  induction n with
  | zero => exact ⟨fun e σ K h => False.elim h, fun op vs σ K h => False.elim h⟩
  | succ n ih =>
    refine ⟨fun e σ K h A H R ca s Q E a I P => ?_, fun op vs σ K h A H R ca s Q E a I P => ?_⟩
    · cases vcT_inv h with
      | not h => exact wpAny_isTrue_Not (ih.1 _ σ _ h A H R ca s _ E a I fun b σ' H' R' ca' s' k I' x q l => P (!b) σ' H' R' ca' s' k I' x q l)
      | bool h => exact wpAny_isTrue_BoolOp (ih.2 _ _ σ K h A H R ca s Q E a I P)
      | cmp h =>
        (refine obEEAA (vcCmpL_inv h) ?_; rintro op r rfl rfl h)
        have z := snd_compare (E := E) (Q := fun c s₃ => wpAny W.M A (truthy c) Q E s₃) S h a I fun b σ' H' R' ca' s' k I' x q l => wpAny_truthy_bool (P b σ' H' R' ca' s' k I' x q l)
        exact wpAny_isTrue_Compare1 z.2 z.1
      | val hv h =>
        refine wpAny_isTrue_value (S _ σ _ h A env H R ca s _ E a I fun v p σ' H' R' ca' s' k I' r x q l => ?_) (hv _ _)
        (refine obEA (truth_K k r) ?_; rintro b rfl k)
        exact wpAny_truthy_bool (P b σ' H' R' ca' s' k I' x q l)
    · induction vs using List.casesOn with
      | nil => exact wpAny_pure (P _ σ H R ca s (vcAll_nil h) I .refl .refl rfl)
      | cons x r =>
        have h := vcAll_cons h
        cases op with
        | And =>
          refine wpAny_allTrue_And_cons (ih.1 x σ _ h A H R ca s _ E a I fun b σ' H' R' ca' s' k I' x q l => ?_)
          induction b using Bool.casesOn with
          | true => exact ih.2 .And r σ' K k A H' R' ca' s' Q E a I' (P.after x q l)
          | false => exact P false σ' H' R' ca' s' k I' x q l
        | Or =>
          refine wpAny_allTrue_Or_cons (ih.1 x σ _ h A H R ca s _ E a I fun b σ' H' R' ca' s' k I' x q l => ?_)
          induction b using Bool.casesOn with
          | false => exact ih.2 .Or r σ' K k A H' R' ca' s' Q E a I' (P.after x q l)
          | true => exact P true σ' H' R' ca' s' k I' x q l
theorem snd_t (S : SndE W d ev sc) (n : Nat) (e : Expr) : SndT W d env sc (vcT n e ev) (isTrue e env (eval e env)) := (snd_tn S n).1 e
theorem snd_bool (S : SndE W d ev sc) (op : BoolOp) : ∀ (vs : List Expr) (σ : St) (K : PV → St → Prop), vcBool op vs ev σ K → ∀ (A : Around) (H : IH) (R : RM) (ca : List Addr) (s : Shared) (Q : Value → Shared → Prop) (E : Value → Shared → Prop) (pos : Pos), Amb A d → Inv W env sc σ H R ca s → PostE W env sc H R ca s K Q →
    wpAny W.M A (boolOp pos op (evalEach vs env)) Q E s := by
  intro vs
  induction vs with
  | nil => intro σ K h; exact h.elim
  | cons x r ih =>
    intro σ K h A H R ca s Q E pos a I P
    induction r using List.casesOn with
    | nil => exact S x σ K h A env H R ca s Q E a I P
    | cons y r =>
      show wpAny W.M A (do
        let v ← eval x env
        standAt pos
        let t ← holding [v] (truthy v)
        match op, t with
        | .And, false | .Or, true => pure v
        | _, _ => boolOp pos op (evalEach (y :: r) env)) Q E s
      refine wpAny_bind (S x σ _ h A env H R ca s _ E a I fun v p σ' H' R' ca' s' k I' rp x q l => ?_)
      refine obEA (onSome_inv k) fun b e k => ?_
      obtain rfl := truth_of e rp
      refine wpAny_bind (wpAny_standAt (wpAny_bind (wpAny_holding (wpAny_truthy_bool ?_))))
      have rest : vcBool op (y :: r) ev σ' K → wpAny W.M A (boolOp pos op (evalEach (y :: r) env)) Q E s' := fun k =>
        ih σ' K k A H' R' ca' s' Q E pos a I' (P.after x q l fun u_ u_ k => k)
      cases op with
      | And => induction b using Bool.casesOn with
        | false => exact wpAny_pure (P _ p σ' H' R' ca' s' k I' rp x q l)
        | true => exact rest k
      | Or => induction b using Bool.casesOn with
        | false => exact rest k
        | true => exact wpAny_pure (P _ p σ' H' R' ca' s' k I' rp x q l)
end
end
section
section
variable {W : Wd} {T : Tb} {H H' : IH} {ca ca' : List Addr} {R R' : RM} {env : Env} {sc : SC} {σ : St} {s s' : Shared} {A : Around} {E : Value → Shared → Prop} {d : Nat}
variable {ev : Expr → St → (PV → St → Prop) → Prop}
set_option tactic.hygienic true in
theorem attributeBase_of {o : Expr} {attr : Str} {whole : Sem Value} (h : notSuper o = true) : attributeBase o attr env whole = whole := by
  induction o using PySem.Expr.casesOn <;> try rfl
  rename_i f args kws pos
  induction f using PySem.Expr.casesOn <;> try rfl
  induction args using List.casesOn <;> try rfl
  induction kws using List.casesOn <;> first | rfl | exact noft h
theorem lookIn_of {h : Heap} {a : Addr} {o : Obj} {kvs : List (Str × Value)} {x : Str} {v : Value} (g : h.get? a = some o) (d : DictObj W.sk o kvs) (e : valueAt kvs x = some v) : lookIn x o = some (some v) := by
  refine obEEEAAAA ((d.of g).mapOf) fun o' es ep e1 u_ hdat u_ f => ?_
  rw [g] at e1; (replace e1 := Option.some.inj e1; subst e1)
  have key : findBy Value.isStrOf es x = some v := by rw [← e, ← f x]; rfl
  unfold lookIn
  rw [hdat]
  unfold findBy at key
  refine obEA (Option.map_eq_some_iff.mp key) fun en h1 h2 => ?_
  have q : (fun d : DictEntry => d.key.isStr x) = fun d => Value.isStrOf x d.key := funext fun d => isStr_of x d.key
  dsimp only
  rw [q, Array.find?_toList, h1]
  exact congrArg (fun u => some (some u)) h2
set_option tactic.hygienic true in
theorem handed_rep {v : Value} {p : PV} (r : Rep W H ca v p) : handedIn v = true := by
  cases r <;> try rfl
  rename_i b; induction b using Bi.casesOn <;> first | rfl | decide +kernel
set_option tactic.hygienic true in
theorem snd_getAttr {C : Addr} {l : List (Str × PV)} {a : Str} {q : PV} {v : Value} {x : Bool} {Q : Value → Shared → Prop} (I : Inv W env sc σ H R ca s) (r : Rep W H ca v (.ins C l)) (hg : dget l a = some q) (hp : plainAttr W.K C a = true)
    (h : ∀ u t, Rep W H ca u q → Q u { s with toks := t }) : wpAny W.M A (getAttr v a x) Q E s := by
  cases r with
  | @ins ad dd _ o kvs _ e0 e1 e2 e3 e4 =>
    simp only [plainAttr, Bool.and_eq_true, beq_iff_eq] at hp
    obtain ⟨⟨h1, h2⟩, h3⟩ := hp
    split at h1
    · rename_i cd hcd
      obtain ⟨h4, h5⟩ := Bool.and_eq_true_iff.mp h1
      have gx := I.core.le _ _ e1
      have gd := I.core.le _ _ e2
      have IA : InstAt s.heap ad (instObj C dd) C (some o) := ⟨gx, rfl, rfl, gd⟩
      obtain ⟨u, hu, ru⟩ : ∃ u, valueAt kvs a = some u ∧ Rep W H ca u q := by
        cases z : valueAt kvs a with
        | none => rw [(e4.get a).2 z] at hg; exact nosome hg
        | some u => refine obEA ((e4.get a).1 u z) fun p e5 e6 => ?_; rw [hg] at e5; (replace e5 := Option.some.inj e5; subst e5); exact ⟨u, rfl, e6⟩
      have own : PySem.W.ownOf cd (some o) a = some (some u) := by
        unfold PySem.W.ownOf; rw [if_pos h4]; exact lookIn_of gd e3 hu
      have fo : findObj W.K C (some o) a = some (.value u) := by
        unfold findObj
        rw [hcd, h3]
        simp only [Option.bind_some]
        rw [own]
        rfl
      exact get_value I.in_ IA h2 fo (handed_rep ru) (h u _ ru)
    · exact noft h1
theorem reps_get {vs : List Value} {l : List PV} (r : Reps W H ca vs l) : ∀ {k : Nat} {p : PV}, l[k]? = some p → ∃ v, vs[k]? = some v ∧ Rep W H ca v p := by
  induction l generalizing vs with
  | nil => intro k p e; exact nosome e
  | cons q l ih =>
    intro k p e
    cases r with
    | cons a r => cases k with
      | zero => (replace e := Option.some.inj e; subst e); exact ⟨_, rfl, a⟩
      | succ k => exact ih r e
noncomputable def isSlice (e : Expr) : Bool := isSl e
theorem sub_plain {slice : Expr} (h : isSlice slice = false) (o i : Value) : subscripted slice false o i = operate [o, i] (getItem o i) := by
  induction slice using PySem.Expr.casesOn <;> first | rfl | exact notf h
inductive VItm (K : PV → Prop) : PV → PV → Prop where
  | lst {l : List PV} {k : Int} {p : PV} : idx k = true → l[k.toNat]? = some p → K p → VItm K (.lst l) (.int k)
  | tup {l : List PV} {k : Int} {p : PV} : idx k = true → l[k.toNat]? = some p → K p → VItm K (.tup l) (.int k)
  | dct {l : List (Str × PV)} {k : Str} {p : PV} : dget l k = some p → K p → VItm K (.dct l) (.str k)
  | dci {l : List (Int × PV)} {k : Int} {p : PV} : dget l k = some p → K p → VItm K (.dci l) (.int k)
theorem vcItem_inv {c i : PV} {K : PV → Prop} (h : vcItem c i K) : VItm K c i := by
  induction c using PV.casesOn with
  | lst l => induction i using PV.casesOn with
    | int k =>
      obtain ⟨h1, h⟩ := req_iff.mp h
      cases e : l[k.toNat]? with
      | none => rw [e] at h; exact False.elim h
      | some p => rw [e] at h; exact .lst h1 e h
    | _ => exact False.elim h
  | tup l => induction i using PV.casesOn with
    | int k =>
      obtain ⟨h1, h⟩ := req_iff.mp h
      cases e : l[k.toNat]? with
      | none => rw [e] at h; exact False.elim h
      | some p => rw [e] at h; exact .tup h1 e h
    | _ => exact False.elim h
  | dct l => induction i using PV.casesOn with
    | str k =>
      replace h : (match dget l k with | some p => K p | none => False) := h
      cases e : dget l k with
      | none => rw [e] at h; exact False.elim h
      | some p => rw [e] at h; exact .dct e h
    | _ => exact False.elim h
  | dci l => induction i using PV.casesOn with
    | int k =>
      replace h : (match dget l k with | some p => K p | none => False) := h
      cases e : dget l k with
      | none => rw [e] at h; exact False.elim h
      | some p => rw [e] at h; exact .dci e h
    | _ => exact False.elim h
  | _ => exact False.elim h
theorem Ents.at {kvs : List (Str × Value)} {l : List (Str × PV)} {k : Str} {p : PV} (r : Ents W H ca kvs l) (hp : dget l k = some p) : ∃ v, valueAt kvs k = some v ∧ Rep W H ca v p := by
  cases y : valueAt kvs k with
  | none => rw [(r.get k).2 y] at hp; exact nosome hp
  | some v => refine obEA ((r.get k).1 v y) fun p' e5 e6 => ?_; exact ⟨v, rfl, Option.some.inj (hp.symm.trans e5) ▸ e6⟩
theorem EntsI.at {kvs : List (Int × Value)} {l : List (Int × PV)} {k : Int} {p : PV} (r : EntsI W H ca kvs l) (hp : dget l k = some p) : ∃ v, valueAt kvs k = some v ∧ Rep W H ca v p := by
  cases y : valueAt kvs k with
  | none => rw [(r.get k).2 y] at hp; exact nosome hp
  | some v => refine obEA ((r.get k).1 v y) fun p' e5 e6 => ?_; exact ⟨v, rfl, Option.some.inj (hp.symm.trans e5) ▸ e6⟩
theorem some_lt {l : List Value} {j : Nat} {v : Value} (h : l[j]? = some v) : j < l.length := by
  rcases Nat.lt_or_ge j l.length with z | z
  · exact z
  · rw [List.getElem?_eq_none z] at h; exact nosome h
theorem seq_idx {k : Int} {n : Nat} (h0 : 0 ≤ k) (h : k.toNat < n) : seqIndex? k n = some k.toNat := by
  unfold seqIndex?
  rw [if_neg (show ¬ k < 0 by omega)]
  simp only
  rw [if_pos (by simp; omega)]
theorem snd_item {c i : PV} {vc vi : Value} {value slice : Expr} {K : PV → St → Prop} {Q : Value → Shared → Prop} (h : vcItem c i fun p => K p σ) (hs : isSlice slice = false) (I : Inv W env sc σ H R ca s) (Vc : View W H ca s.heap vc c) (ri : Rep W H ca vi i) (P : PostE W env sc H R ca s K Q) :
    wpAny W.M A (subscriptTail value slice vc vi) Q E s := by
  have le := I.core.le
  replace h := vcItem_inv h
  cases h with
  | lst h1 hp h =>
    obtain ⟨_, rfl⟩ := ri.inv
    have hk := idx_lt h1
    (refine obEEEAA (Vc.lst le) ?_; rintro a vs n rfl g r)
    refine obEA (reps_get r hp) fun v hv rv => ?_
    have hL : s.heap.IsList a vs.toArray := ⟨_, g, rfl, n, rfl⟩
    exact tail_any hL.typeIs slot_list_getitem.lookup (wpAny_getItem_list hL hk.1 (by omega) (by simpa using hv) (P v _ σ H R ca s h I rv .refl .refl rfl)) (sub_plain hs _ _)
  | @tup l k p h1 hp h =>
    obtain ⟨_, rfl⟩ := ri.inv
    have hk := idx_lt h1
    (refine obEEEAA ((Vc.plain rfl).inv) ?_; rintro a vs n rfl g r)
    refine obEA (reps_get r hp) fun v hv rv => ?_
    have hT : IsTup s.heap a vs.toArray := ⟨_, le _ _ g, rfl, n, rfl⟩
    have hj : seqIndex? k vs.length = some k.toNat := seq_idx hk.1 (some_lt hv)
    exact tail_any hT.typeIs slot_tuple_getitem.lookup (PyProof.Rows.getItem_tuple hT (by omega) (by omega) (by simpa using hj) (by simpa using hv) (P v p σ H R ca s h I rv .refl .refl rfl)) (sub_plain hs _ _)
  | @dct l k p hp h =>
    obtain ⟨t, rfl⟩ := ri.inv
    (refine obEEEAAAA (Vc.dct le) ?_; rintro a o kvs rfl z g d r)
    refine obEA (r.at hp) fun v hv rv => ?_
    exact tail_any (d.of g).mapOf.typeIs slot_dict_getitem.lookup (wpAny_getItem_of (knd := W.sk) (strKind_is W.prog W.w k t) (d.of g).mapOf hv (P.now (show K p σ from h) I rv)) (sub_plain hs _ _)
  | @dci l k p hp h =>
    obtain ⟨t, rfl⟩ := ri.inv
    (refine obEEEAAAA (Vc.dci le) ?_; rintro a o kvs rfl z g d r)
    refine obEA (r.at hp) fun v hv rv => ?_
    exact tail_any (d.of g).mapOf.typeIs slot_dict_getitem.lookup (wpAny_getItem_of (knd := W.ik) (intKind_is W.prog W.w k t) (d.of g).mapOf hv (P.now (show K p σ from h) I rv)) (sub_plain hs _ _)
end
end
section
section
variable {W : Wd} {T : Tb} {H H' : IH} {ca ca' : List Addr} {R R' : RM} {env : Env} {sc : SC} {σ : St} {s s' : Shared} {A : Around} {E : Value → Shared → Prop} {d : Nat}
variable {ev : Expr → St → (PV → St → Prop) → Prop}
theorem min_cast (k n : Nat) : max 0 (min (k : Int) (n : Int)) = ((min k n : Nat) : Int) := by
  rcases Nat.le_total k n with h | h
  · rw [Int.min_eq_left (Int.ofNat_le.mpr h), Nat.min_eq_left h, Int.max_eq_right (Int.natCast_nonneg _)]
  · rw [Int.min_eq_right (Int.ofNat_le.mpr h), Nat.min_eq_right h, Int.max_eq_right (Int.natCast_nonneg _)]
theorem pick_drop (vs : List Value) {x : Int} (h : 0 ≤ x) : slicePick vs.toArray (some x) none none = (vs.drop x.toNat).toArray := by
  obtain ⟨k, rfl⟩ := Int.eq_ofNat_of_zero_le h
  have e : sliceBounds (some (k : Int)) none none vs.toArray.size = (((min k vs.toArray.size : Nat) : Int), ((vs.toArray.size : Nat) : Int), 1) := by
    simp only [sliceBounds, Option.getD_none, show (1 : Int) > 0 by decide, if_true, if_neg (show ¬ ((k : Int) < 0) from Int.not_lt.mpr (Int.natCast_nonneg k))]
    congr 1
    exact min_cast _ _
  rw [kmk_pick_nat _ e]
  show ((vs.drop (min k vs.toArray.size)).take (vs.toArray.size - min k vs.toArray.size)).toArray = (vs.drop k).toArray
  rw [List.size_toArray, kmk_drop_min, List.take_of_length_le (by rw [List.length_drop]; exact Nat.sub_le_sub_left (Nat.min_le_left ..) _)]
theorem reps_drop {vs : List Value} {l : List PV} (r : Reps W H ca vs l) : ∀ k, Reps W H ca (vs.drop k) (l.drop k) := by
  induction l generalizing vs with
  | nil => intro k; cases r; simp; exact .nil
  | cons p l ih =>
    intro k
    cases r with
    | cons a r => cases k with
      | zero => exact .cons a r
      | succ k => exact ih r k
theorem reps_rev {vs : List Value} {l : List PV} (r : Reps W H ca vs l) : Reps W H ca vs.reverse l.reverse := by
  induction l generalizing vs with
  | nil => cases r; exact .nil
  | cons p l ih =>
    cases r with
    | cons a r => rw [List.reverse_cons, List.reverse_cons]; exact reps_app (ih r) (.cons a .nil)
theorem isIntE_inv {i : Int} {e : Expr} (h : isIntE i e = true) : ∃ k p, e = .Constant (.int i) k p := by
  induction e using PySem.Expr.casesOn with
  | Constant c k p => cases c with
    | int j =>
      obtain rfl : j = i := of_decide_eq_true h
      exact ⟨k, p, rfl⟩
    | _ => exact absurd h Bool.false_ne_true
  | _ => exact absurd h Bool.false_ne_true
theorem minus_inv {e : Expr} (h : isMinusOne e = true) : (∃ k p p', e = .UnaryOp .USub (.Constant (.int 1) k p) p') ∨ ∃ k p, e = .Constant (.int (-1)) k p := by
  induction e using PySem.Expr.casesOn with
  | UnaryOp op x p =>
    obtain ⟨a, b⟩ := Bool.and_eq_true_iff.mp h
    (refine obEE (isIntE_inv b) ?_; rintro k q rfl)
    cases op with
    | USub => exact .inl ⟨k, q, p, rfl⟩
    | _ => exact absurd a Bool.false_ne_true
  | _ => exact .inr (isIntE_inv h)
theorem eval_minus_one {e : Expr} {Q : Value → Shared → Prop} (h : isMinusOne e = true) (hq : ∀ t k, Q (.int (-1) t) { s with toks := k }) : wpAny W.M A (eval e env) Q E s := by
  rcases minus_inv h with ⟨_, _, _, rfl⟩ | ⟨_, _, rfl⟩
  · exact wpAny_UnaryOp (wpAny_Constant_int (PyProof.Rows.neg_int (hq _ _)))
  · exact wpAny_Constant_int (hq _ _)
theorem snd_lslice {value slice : Expr} {l : Addr} {vs : List Value} {n : Nat} {vl vu vk : Value} {lo hi st : Option Int} {ws : List Value} {ps : List PV} {K : PV → St → Prop} {Q : Value → Shared → Prop}
    (hs : ∃ ops : Value → Value → List Value, ∀ o i, subscripted slice false o i = operate (ops o i) (getItem o i)) (I : Inv W env sc σ H R ca s) (g : H l = some (listOf vs.toArray n)) (hsz : vs.length ≤ sizeLine) (pl : IsPart vl lo) (pu : IsPart vu hi) (pk : IsPart vk st) (h0 : st ≠ some 0)
    (e : slicePick vs.toArray lo hi st = ws.toArray) (r : Reps W H ca ws ps) (h : K (.lst ps) σ) (P : PostE W env sc H R ca s K Q) :
    wpAny W.M A (subscriptTail value slice (.ref l) (.ref s.heap.objs.size)) Q E { s with heap := s.heap.push { cls := .type "slice", data := .fields #[vl, vu, vk] } } := by
  obtain ⟨ops, hs⟩ := hs
  have k0 : ∀ (o : Obj) b x, s.heap.get? b = some x → (s.heap.push o).get? b = some x := fun o b x e => Heap.get?_push_of_some _ e
  have g1 : (s.heap.push { cls := .type "slice", data := .fields #[vl, vu, vk] }).IsList l vs.toArray := ⟨_, k0 _ _ _ (I.core.le _ _ g), rfl, n, rfl⟩
  refine tail_any (T := "list") ⟨_, k0 _ _ _ (I.core.le _ _ g), rfl⟩ slot_list_getitem.lookup (wpAny_getItem_list_slice g1 (Heap.IsSliceOf.new _ _ _ _) pl pu pk h0 ?_ (by simpa using hsz)) (hs _ _)
  rw [e]
  refine P.new (t := s.toks) (o := listOf ws.toArray 0) h I ?_ (fun b x e => Heap.get?_push_of_some _ (Heap.get?_push_of_some _ e)) (Heap.get?_push_size _ rfl) fun H' hH e => .lst e (Reps.mono hH CLe.refl r)
  rw [Heap.size_push]
  cases q : s.heap.get? (s.heap.objs.size + 1) with
  | none => rfl
  | some o => exact absurd (Heap.lt_size q) (Nat.not_lt.mpr (Nat.le_succ _))
theorem kRev_inv {K : KtV} {p : PV} (h : kRev K p σ) : ∃ l, p = .lst l ∧ sfits l.length = true ∧ K (.lst l.reverse) σ := by
  induction p using PV.casesOn with
  | lst l => obtain ⟨a, b⟩ := req_iff.mp h; exact ⟨l, rfl, a, b⟩
  | _ => exact False.elim h
theorem kFrom2_inv {K : KtV} {p k : PV} (h : kFrom2 p K k σ) : ∃ i, k = .int i ∧ ((∃ l, p = .lst l ∧ idx i = true ∧ sfits l.length = true ∧ K (.lst (l.drop i.toNat)) σ) ∨ ∃ x, p = .str x ∧ sfits x.length = true ∧ K (.str (Txt.slice x (some i) none)) σ) := by
  refine obEA (onSome_inv h) fun i e h => ?_
  refine ⟨i, asInt_inv e, ?_⟩
  induction p using PV.casesOn with
  | lst l =>
    obtain ⟨a, h⟩ := req_iff.mp h
    obtain ⟨b, h⟩ := req_iff.mp h
    exact .inl ⟨l, rfl, a, b, h⟩
  | str x =>
    obtain ⟨a, h⟩ := req_iff.mp h
    exact .inr ⟨x, rfl, a, h⟩
  | _ => exact False.elim h
theorem kTo2_inv {K : KtV} {p k : PV} (h : kTo2 p K k σ) : ∃ i x, k = .int i ∧ p = .str x ∧ sfits x.length = true ∧ K (.str (Txt.slice x none (some i))) σ := by
  refine obEA (onSome_inv h) fun i e h => ?_
  induction p using PV.casesOn with
  | str x =>
    obtain ⟨a, h⟩ := req_iff.mp h
    exact ⟨i, x, asInt_inv e, rfl, a, h⟩
  | _ => exact False.elim h
theorem snd_slice_all (S : SndE W d ev sc) {o st : Expr} {p pos : Pos} {K : PV → St → Prop} {Q : Value → Shared → Prop}
    (h : req (isMinusOne st) (ev o σ (kRev K))) (a : Amb A d) (I : Inv W env sc σ H R ca s) (P : PostE W env sc H R ca s K Q) :
    wpAny W.M A (eval (.Subscript o (.Slice none none (some st) p) pos) env) Q E s := by
  obtain ⟨hm, h⟩ := req_iff.mp h
  refine Subscript_ (S o σ _ h A env H R ca s _ E a I fun v p σ' H' R' ca' s' k I' r x q l => ?_)
  (refine obEAA (kRev_inv k) ?_; rintro ps rfl hz k)
  (refine obEEEAA r.inv ?_; rintro b vs n rfl g r)
  refine wpAny_Slice (wpAny_evalPart_none (wpAny_evalPart_none (wpAny_evalPart_some (eval_minus_one hm fun t tk => ?_))))
  refine snd_lslice (s := { s' with toks := tk }) (ws := vs.reverse) (hs := ⟨fun o i => [o, i], fun o i => rfl⟩) I'.tok g (by rw [r.length]; exact sfits_line hz) .none .none (.int (-1) t) (by decide) (by rw [krv_pick]) (reps_rev r) k (P.after x (q.trans ⟨rfl, rfl, rfl⟩) l fun u_ u_ k => k)
theorem snd_tslice {value slice : Expr} {x : Str} {t : Nat} {lo hi : Option (Int × Tok)} {K : PV → St → Prop} {Q : Value → Shared → Prop} (hs : ∃ ops : Value → Value → List Value, ∀ o i, subscripted slice false o i = operate (ops o i) (getItem o i)) (I : Inv W env sc σ H R ca s) (hz : sfits x.length = true)
    (h : K (.str (Txt.slice x (lo.map (·.1)) (hi.map (·.1)))) σ) (P : PostE W env sc H R ca s K Q) :
    wpAny W.M A (subscriptTail value slice (.str x t) (.ref s.heap.objs.size)) Q E { s with heap := s.heap.push { cls := .type "slice", data := .fields #[partValue lo, partValue hi, partValue none] } } := by
  obtain ⟨ops, hs⟩ := hs
  refine tail_any (T := "str") rfl PySem.F.slot_str_getitem.lookup (wpAny_getItem_str_slice (l := lo) (u := hi) (st := none) ⟨_, Heap.get?_push_size _ rfl, rfl, rfl⟩ rfl
      (post_val_or_str ⟨Nat.le_trans (Txt.slice_le _ _ _) (sfits_line hz), fun t' tk => ?_⟩)) (hs _ _)
  exact P _ _ σ H R ca _ h ⟨I.base, I.core.grow fun b o e u_ => Heap.get?_push_of_some _ e, I.fr, I.gr⟩ .str (Ext.grow fun b o e => Heap.get?_push_of_some _ e) ⟨rfl, rfl, rfl⟩ rfl
theorem snd_slice_from (S : SndE W d ev sc) {o lo : Expr} {p pos : Pos} {K : PV → St → Prop} {Q : Value → Shared → Prop}
    (h : ev o σ (kFrom1 lo ev K)) (a : Amb A d) (I : Inv W env sc σ H R ca s) (P : PostE W env sc H R ca s K Q) :
    wpAny W.M A (eval (.Subscript o (.Slice (some lo) none none p) pos) env) Q E s := by
  refine Subscript_ (S o σ _ h A env H R ca s _ E a I fun v p σ' H' R' ca' s' k I' r x q l => ?_)
  refine wpAny_Slice (wpAny_evalPart_some (S lo σ' _ k A env H' R' ca' s' _ E a I' fun v2 p2 σ2 H2 R2 ca2 s2 k I2 r2 x2 q2 l2 => ?_))
  refine wpAny_evalPart_none (wpAny_evalPart_none ?_)
  have P2 := P.after (x.trans x2) (q.trans q2) (l2.trans l) fun _ _ (k : K _ _) => k
  have r := Rep.mono x2.imm x2.ca r
  (refine obEA (kFrom2_inv k) ?_; rintro i rfl (⟨ps, rfl, h1, hz, k⟩ | ⟨x, rfl, hz, k⟩))
  · obtain ⟨t, rfl⟩ := r2.inv
    (refine obEEEAA r.inv ?_; rintro b vs n rfl g r)
    exact snd_lslice (hs := ⟨fun o i => [i, o], fun o i => rfl⟩) I2 g (by rw [r.length]; exact sfits_line hz) (.int _ _) .none .none (by decide) (pick_drop vs (idx_lt h1).1) (reps_drop r _) k P2
  · obtain ⟨t, rfl⟩ := r2.inv
    obtain ⟨u, rfl⟩ := r.inv
    exact snd_tslice (lo := some (i, t)) (hi := none) (hs := ⟨fun o i => [i, o], fun o i => rfl⟩) I2 hz k P2
theorem snd_slice_to (S : SndE W d ev sc) {o hi : Expr} {p pos : Pos} {K : PV → St → Prop} {Q : Value → Shared → Prop}
    (h : ev o σ (kTo1 hi ev K)) (a : Amb A d) (I : Inv W env sc σ H R ca s) (P : PostE W env sc H R ca s K Q) :
    wpAny W.M A (eval (.Subscript o (.Slice none (some hi) none p) pos) env) Q E s := by
  refine Subscript_ (S o σ _ h A env H R ca s _ E a I fun v p σ' H' R' ca' s' k I' r x q l => ?_)
  refine wpAny_Slice (wpAny_evalPart_none (wpAny_evalPart_some (S hi σ' _ k A env H' R' ca' s' _ E a I' fun v2 p2 σ2 H2 R2 ca2 s2 k I2 r2 x2 q2 l2 => ?_)))
  refine wpAny_evalPart_none ?_
  (refine obEEAAA (kTo2_inv k) ?_; rintro i y rfl rfl hz k)
  obtain ⟨t, rfl⟩ := r2.inv
  obtain ⟨u, rfl⟩ := (Rep.mono x2.imm x2.ca r).inv
  exact snd_tslice (lo := none) (hi := some (i, t)) (hs := ⟨fun o i => [i, o], fun o i => rfl⟩) I2 hz k (P.after (x.trans x2) (q.trans q2) (l2.trans l) fun u_ u_ k => k)
end
end
section
section
variable {W : Wd} {T : Tb} {H H' : IH} {ca ca' : List Addr} {R R' : RM} {env : Env} {sc : SC} {σ : St} {s s' : Shared} {A : Around} {E : Value → Shared → Prop} {d : Nat}
variable {ev : Expr → St → (PV → St → Prop) → Prop}
theorem Core.caMono (C : Core W H ca R s.heap) (hc : CLe ca ca') : Core W H ca' R s.heap :=
  ⟨C.le, C.hid, fun a c e => (C.reg a c e).mono HLe.refl hc fun u_ z => z⟩
theorem Inv.sys (I : Inv W env sc σ H R ca s) : sysModules < s.heap.objs.size := Nat.lt_trans (by decide) I.top.g.lt
theorem Inv.notSys (I : Inv W env sc σ H R ca s) : (s.heap.objs.size == sysModules) = false := by
  have := I.sys
  exact beq_false_of_ne (Nat.ne_of_gt this)
theorem PostO.newOwn {K : Bool → PV → St → Prop} {Q : Value → Shared → Prop} (P : PostO W env sc H R ca s K Q) {p : PV} {a : Addr} {o : Obj} {h' : Heap} {t : Nat} (h : K true p σ) (I : Inv W env sc σ H R ca s) (hf : s.heap.get? a = none)
    (k : ∀ b o, s.heap.get? b = some o → h'.get? b = some o) (x : h'.get? a = some o) (r : ContObj W H ca o p) (z : (a == sysModules) = false) : Q (.ref a) { s with heap := h', toks := t } := by
  have hat : MC.At W H ca h' a (.cont .tmp p) := ⟨o, x, r, z⟩
  refine P _ true p σ H (R.set a (some (.cont .tmp p))) ca _ h (I.newReg (s' := { s with heap := h', toks := t }) hf k hat) (fun e => nomatch e) (fun u_ => ⟨a, rfl, hf, RM.set_self⟩) (Ext.newReg I.core hf k) ⟨rfl, rfl, rfl⟩ ?_
  refine obEA I.fr.ns fun m em u_ => ?_
  exact RM.set_ne fun q => I.core.someR (by rw [em]; exact Option.some_ne_none _) (q ▸ hf)
theorem PostO.newCell {K : Bool → PV → St → Prop} {Q : Value → Shared → Prop} (P : PostO W env sc H R ca s K Q) {p : PV} {a : Addr} {o : Obj} {h' : Heap} {t : Nat} (h : K false (.cel σ.cs.length) { σ with cs := σ.cs ++ [p] }) (I : Inv W env sc σ H R ca s) (hf : s.heap.get? a = none)
    (k : ∀ b o, s.heap.get? b = some o → h'.get? b = some o) (x : h'.get? a = some o) (r : ContObj W H ca o p) (z : (a == sysModules) = false) : Q (.ref a) { s with heap := h', toks := t } := by
  have hat : MC.At W H ca h' a (.cont (.cell ca.length) p) := ⟨o, x, r, z⟩
  have hc : CLe ca (ca ++ [a]) := fun i b e => by
    rw [List.getElem?_append_left (by rcases Nat.lt_or_ge i ca.length with q | q; exact q; rw [List.getElem?_eq_none q] at e; exact nosome e)]; exact e
  have hR := I.core.freshR hf
  have I1 := I.newReg (s' := { s with heap := h', toks := t }) hf k hat
  have keep : ∀ b c, R b = some c → (R.set a (some (.cont (.cell ca.length) p))) b = some c := fun b c e => by
    rw [RM.set_ne fun q => ?_]; exact e
    subst q; rw [hR] at e; exact nosome e
  have G : GR W (R.set a (some (.cont (.cell ca.length) p))) (ca ++ [a]) (σ.cs ++ [p]) := by
    refine ⟨by simp [I.gr.len], fun i b q e1 e2 => ?_, fun t ht => keep _ _ (I.gr.tabs t ht)⟩
    rcases Nat.lt_or_ge i ca.length with l | l
    · rw [List.getElem?_append_left l] at e1
      rw [List.getElem?_append_left (by rw [← I.gr.len]; exact l)] at e2
      exact keep _ _ (I.gr.cell i b q e1 e2)
    · rw [List.getElem?_append_right l] at e1
      rw [List.getElem?_append_right (by rw [← I.gr.len]; exact l)] at e2
      have hi : i = ca.length := by
        rcases Nat.eq_or_lt_of_le l with q | q
        · exact q.symm
        · rw [List.getElem?_eq_none (by simp; omega)] at e1; exact nosome e1
      subst hi
      rw [Nat.sub_self] at e1
      rw [I.gr.len, Nat.sub_self] at e2
      (replace e1 := Option.some.inj e1; subst e1); (replace e2 := Option.some.inj e2; subst e2)
      exact RM.set_self
  have x1 : Ext H R s.heap ca H (R.set a (some (.cont (.cell ca.length) p))) h' (ca ++ [a]) := by
    have y := Ext.newReg (c := .cont (.cell ca.length) p) I.core hf k
    exact ⟨y.imm, hc, y.pres, y.newH, y.newR, y.tmp, y.live⟩
  refine P _ false _ { σ with cs := σ.cs ++ [p] } H _ (ca ++ [a]) _ h ⟨I1.base, Core.caMono (s := { s with heap := h', toks := t }) I1.core hc, I1.fr.mono HLe.refl hc fun u_ u_ e u_ u_ => e, G⟩ (fun u_ => .cel ?_) (fun e => nomatch e) x1 ⟨rfl, rfl, rfl⟩ ?_
  · rw [← I.gr.len, List.getElem?_append_right (Nat.le_refl _), Nat.sub_self]; rfl
  · refine obEA I.fr.ns fun m em u_ => ?_
    exact RM.set_ne fun q => I.core.someR (by rw [em]; exact Option.some_ne_none _) (q ▸ hf)
theorem snd_list (S : SndE W d ev sc) (hst : NoStar ev) {es : List Expr} {pos : Pos} {c : Bool} {K : Bool → PV → St → Prop} {Q : Value → Shared → Prop}
    (h : vcEs es ev σ (kList c K)) (a : Amb A d) (I : Inv W env sc σ H R ca s) (P : PostO W env sc H R ca s K Q) :
    wpAny W.M A (eval (.List es pos) env) Q E s := by
  refine wpAny_List_spliced (snd_es S hst es σ _ h A H R ca s _ E pos a I fun vs ps σ' H' R' ca' s' k I' r x q l => ?_)
  obtain ⟨hz, k⟩ := req_iff.mp k
  refine ⟨by rw [r.length]; exact sfits_line hz, ?_⟩
  have P' := P.after x q l fun _ _ _ (k : K _ _ _) => k
  have ro : ContObj W H' ca' (listOf vs.toArray 0) (.lst ps) := ⟨vs.toArray, 0, rfl, by simpa using r⟩
  induction c using Bool.casesOn with
  | true => exact P'.newCell (t := s'.toks) (o := listOf vs.toArray 0) k I' (get_size_none _) (fun b o e => Heap.get?_push_of_some _ e) (Heap.get?_push_size _ rfl) ro I'.notSys
  | false => exact P'.newOwn (t := s'.toks) (o := listOf vs.toArray 0) k I' (get_size_none _) (fun b o e => Heap.get?_push_of_some _ e) (Heap.get?_push_size _ rfl) ro I'.notSys
theorem snd_tuple (S : SndE W d ev sc) (hst : NoStar ev) {es : List Expr} {n : Nat} {pos : Pos} {K : PV → St → Prop} {Q : Value → Shared → Prop}
    (h : vcEs es ev σ (kTup K)) (a : Amb A d) (I : Inv W env sc σ H R ca s) (P : PostE W env sc H R ca s K Q) :
    wpAny W.M A (eval (.Tuple es n pos) env) Q E s := by
  refine wpAny_Tuple_spliced (snd_es S hst es σ _ h A H R ca s _ E pos a I fun vs ps σ' H' R' ca' s' k I' r x q l => ?_)
  obtain ⟨hz, k⟩ := req_iff.mp k
  refine ⟨by rw [r.length]; exact sfits_line hz, ?_⟩
  have P' := P.after x q l fun _ _ (k : K _ _) => k
  exact P'.new (t := s'.toks) (o := { cls := .type "tuple", data := .seq vs.toArray }) k I' (get_size_none _) (fun b o e => Heap.get?_push_of_some _ e) (Heap.get?_push_size _ rfl) fun H'' hH e => .tup e (Reps.mono hH CLe.refl r)
theorem stored_cons_eq {kvs : List (Str × Value)} {y : Str} {u v : Value} (hn : y ∉ kvs.map (·.1)) : stored ((y, u) :: kvs) y v = (y, v) :: kvs := by
  have : kvs.map (fun kv => if kv.1 = y then (kv.1, v) else kv) = kvs := by
    rw [List.map_congr_left (g := id) fun e he => ?_, List.map_id]
    rw [if_neg fun (q : e.1 = y) => hn (by rw [← q]; exact List.mem_map_of_mem he)]; rfl
  simp [stored, this]
theorem stored_cons_ne {α : Type} [DecidableEq α] {kvs : List (α × Value)} {y k : α} {u v : Value} (h : ¬ y = k) : stored ((y, u) :: kvs) k v = (y, u) :: stored kvs k v := by
  unfold stored
  simp only [List.any_cons, decide_eq_false h, Bool.false_or, List.map_cons, if_neg h, List.cons_append]
  split <;> rfl
theorem Ents.set {kvs : List (Str × Value)} {l : List (Str × PV)} (r : Ents W H ca kvs l) (hn : (kvs.map (·.1)).Nodup) {k : Str} {v : Value} {p : PV} (rv : Rep W H ca v p) : Ents W H ca (stored kvs k v) (dset l k p) := by
  induction l generalizing kvs with
  | nil => cases r; exact .cons rv .nil
  | cons q l ih =>
    cases r with
    | @cons y u p' es _ a r =>
      rw [List.map_cons, List.nodup_cons] at hn
      by_cases h : y = k
      · subst h
        rw [stored_cons_eq hn.1]
        simp only [dset, if_pos]
        exact .cons rv r
      · rw [stored_cons_ne h]
        simp only [dset, if_neg h]
        exact .cons a (ih r hn.2)
set_option tactic.hygienic true in
theorem stored_nodup {α : Type} [DecidableEq α] {kvs : List (α × Value)} (hn : (kvs.map (·.1)).Nodup) (k : α) (v : Value) : ((stored kvs k v).map (·.1)).Nodup := by
  unfold stored
  split
  · rename_i h
    have : (kvs.map (fun kv => if kv.1 = k then (kv.1, v) else kv)).map (·.1) = kvs.map (·.1) := by
      rw [List.map_map]; apply List.map_congr_left; intro e _; simp only [Function.comp_apply]; split <;> rfl
    rw [this]; exact hn
  · rename_i h
    rw [List.map_append, List.nodup_append]
    refine ⟨hn, by simp, fun a ha b hb e => ?_⟩
    simp only [List.map_cons, List.map_nil, List.mem_singleton] at hb
    subst hb; subst e
    (refine obEA (List.mem_map.mp ha) ?_; rintro x hx rfl)
    exact h (List.any_eq_true.mpr ⟨x, hx, by simp⟩)
theorem Ents.merge {more : List (Str × Value)} {m : List (Str × PV)} (rm : Ents W H ca more m) : ∀ {kvs : List (Str × Value)} {l : List (Str × PV)}, Ents W H ca kvs l → (kvs.map (·.1)).Nodup → Ents W H ca (merged kvs more) (m.foldl (fun d e => dset d e.1 e.2) l) := by
  induction m generalizing more with
  | nil => intro kvs l r hn; cases rm; exact r
  | cons q m ih =>
    intro kvs l r hn
    cases rm with
    | cons a rm => exact ih rm (r.set hn a) (stored_nodup hn _ _)
theorem merged_nodup {more : List (Str × Value)} : ∀ {kvs : List (Str × Value)}, (kvs.map (·.1)).Nodup → ((merged kvs more).map (·.1)).Nodup := by
  induction more with
  | nil => intro kvs h; exact h
  | cons q m ih => intro kvs h; exact ih (stored_nodup h _ _)
theorem kPairs2_inv {rest : Evl → St → (List (Str × PV) → St → Prop) → Prop} {kp p : PV} {K : List (Str × PV) → St → Prop} (h : kPairs2 rest kp ev K p σ) : ∃ x, kp = .str x ∧ rest ev σ (kPairs3 x p K) := by
  induction kp using PV.casesOn with
  | str x => exact ⟨x, rfl, h⟩
  | _ => exact False.elim h
theorem snd_pairs (S : SndE W d ev sc) {pos : Pos} : ∀ (ks : List (Option Expr)) (vs : List Expr) (σ : St) (K : List (Str × PV) → St → Prop), vcPairs ks vs ev σ K → ∀ (A : Around) (H : IH) (R : RM) (ca : List Addr) (s : Shared) (Q : List (Value × Value) → Shared → Prop) (E : Value → Shared → Prop), Amb A d → Inv W env sc σ H R ca s →
    (∀ vals kvs l σ' H' R' ca' s', K l σ' → Inv W env sc σ' H' R' ca' s' → Carries W.sk vals kvs → Ents W H' ca' kvs l → Ext H R s.heap ca H' R' s'.heap ca' → SEq s s' → R' env.locals = R env.locals → Q vals s') →
    wpAny W.M A (evalPairs (pairTrees ks vs env pos)) Q E s := by
  intro ks
  induction ks with
  | nil =>
    intro vs σ K h A H R ca s Q E a I P
    induction vs using List.casesOn with
    | nil => exact evalPairs_nil (P [] [] [] σ H R ca s h I trivial .nil .refl .refl rfl)
    | cons _ _ => exact False.elim h
  | cons k ks ih =>
    intro vs σ K h A H R ca s Q E a I P
    induction k using Option.casesOn with
    | none => exact False.elim h
    | some k =>
      induction vs using List.casesOn with
      | nil => exact False.elim h
      | cons e vs =>
        refine evalPairs_cons (S k σ _ h A env H R ca s _ E a I fun kv kp σ1 H1 R1 ca1 s1 h I1 rk x1 q1 l1 => ?_)
        refine wpAny_bind (S e σ1 _ h A env H1 R1 ca1 s1 _ E a I1 fun v p σ2 H2 R2 ca2 s2 h I2 rv x2 q2 l2 => wpAny_bind (wpAny_standAt (wpAny_pure ?_)))
        (refine obEA (kPairs2_inv h) ?_; rintro y rfl h)
        obtain ⟨t, rfl⟩ := rk.inv
        refine ih vs σ2 _ h A H2 R2 ca2 s2 _ E a I2 fun vals kvs l σ3 H3 R3 ca3 s3 h I3 c r x3 q3 l3 => ?_
        exact P _ ((y, v) :: kvs) _ σ3 H3 R3 ca3 s3 h I3 ⟨strKind_is W.prog W.w y _, rfl, c⟩ (.cons (Rep.mono x3.imm x3.ca rv) r) ((x1.trans x2).trans x3) ((q1.trans q2).trans q3) ((l3.trans l2).trans l1)
theorem Inv.tmpUpd {a : Addr} {p p' : PV} (I : Inv W env sc σ H R ca s) (e : R a = some (.cont .tmp p)) {s' : Shared} (k : ∀ b o, b ≠ a → s.heap.get? b = some o → s'.heap.get? b = some o) (x : MC.At W H ca s'.heap a (.cont .tmp p')) :
    Inv W env sc σ H (R.set a (some (.cont .tmp p'))) ca s' :=
  ⟨I.base, I.core.upd e k x, I.fr.mono HLe.refl CLe.refl fun b d q u_ t => RM.keep (.inr ⟨_, e, rfl⟩) b d q t, I.gr.mono fun b d q t => RM.keep (.inr ⟨_, e, rfl⟩) b d q t⟩
theorem Inv.tmpCell {a : Addr} {p : PV} (I : Inv W env sc σ H R ca s) (e : R a = some (.cont .tmp p)) : Inv W env sc { σ with cs := σ.cs ++ [p] } H (R.set a (some (.cont (.cell ca.length) p))) (ca ++ [a]) s ∧ CLe ca (ca ++ [a]) := by
  have hc : CLe ca (ca ++ [a]) := fun i b e => by
    rw [List.getElem?_append_left (by rcases Nat.lt_or_ge i ca.length with q | q; exact q; rw [List.getElem?_eq_none q] at e; exact nosome e)]; exact e
  have keep := RM.keep (R := R) (a := a) (c := some (.cont (.cell ca.length) p)) (.inr ⟨_, e, rfl⟩)
  refine ⟨⟨I.base, (I.core.upd e (c' := .cont (.cell ca.length) p) (fun u_ u_ u_ q => q) (let y : MC.At W H ca s.heap a (.cont .tmp p) := I.core.reg a _ e; y)).caMono hc, I.fr.mono HLe.refl hc fun b d q u_ t => keep b d q t, ?_⟩, hc⟩
  refine ⟨by simp [I.gr.len], fun i b q e1 e2 => ?_, fun t ht => keep _ _ (I.gr.tabs t ht) rfl⟩
  rcases Nat.lt_or_ge i ca.length with l | l
  · rw [List.getElem?_append_left l] at e1
    rw [List.getElem?_append_left (by rw [← I.gr.len]; exact l)] at e2
    exact keep _ _ (I.gr.cell i b q e1 e2) rfl
  · rw [List.getElem?_append_right l] at e1
    rw [List.getElem?_append_right (by rw [← I.gr.len]; exact l)] at e2
    have hi : i = ca.length := by
      rcases Nat.eq_or_lt_of_le l with q | q
      · exact q.symm
      · rw [List.getElem?_eq_none (by simp; omega)] at e1; exact nosome e1
    subst hi
    rw [Nat.sub_self] at e1
    rw [I.gr.len, Nat.sub_self] at e2
    (replace e1 := Option.some.inj e1; subst e1); (replace e2 := Option.some.inj e2; subst e2)
    exact RM.set_self
theorem snd_dict (S : SndE W d ev sc) {ks : List (Option Expr)} {vs : List Expr} {pos : Pos} {c : Bool} {K : Bool → PV → St → Prop} {Q : Value → Shared → Prop}
    (h : req (Nat.ble ks.length 15 && (ks.all (·.isSome) && decide (ks.length = vs.length))) (vcPairs ks vs ev σ (kDict c K))) (a : Amb A d) (I : Inv W env sc σ H R ca s) (P : PostO W env sc H R ca s K Q) :
    wpAny W.M A (eval (.Dict ks vs pos) env) Q E s := by
  obtain ⟨hk, h⟩ := req_iff.mp h
  simp only [Bool.and_eq_true, decide_eq_true_eq] at hk
  (refine obAA hk fun h15 hall hlen => ?_; try clear hk)
  have h15 : ks.length ≤ 15 := Nat.le_of_ble_eq_true h15
  induction ks using List.casesOn with
  | nil =>
    induction vs using List.casesOn with
    | cons _ _ => cases hlen
    | nil =>
      refine wpAny_Dict_empty ?_
      have ro : ContObj W H ca (dictOf [] 0) (.dct []) := ⟨[], (dict_obj (knd := W.sk) (Heap.DictOf.new s.heap)).elim fun o z => by
        have := (Heap.get?_push_size s.heap (o := { cls := .type "dict", data := .dict #[] }) rfl).symm.trans z.1
        (replace this := Option.some.inj this; subst this); exact z.2, .nil⟩
      induction c using Bool.casesOn with
      | true => exact P.newCell (t := s.toks) (o := dictOf [] 0) h I (get_size_none _) (fun b o e => Heap.get?_push_of_some _ e) (Heap.get?_push_size _ rfl) ro I.notSys
      | false => exact P.newOwn (t := s.toks) (o := dictOf [] 0) h I (get_size_none _) (fun b o e => Heap.get?_push_of_some _ e) (Heap.get?_push_size _ rfl) ro I.notSys
  | cons k0 ks =>
    refine wpAny_Dict_walk (knd := W.sk) hall hlen (by simp) h15 ?_
    have hd0 : MC.At W H ca (s.heap.push { cls := .type "dict", data := .dict #[] }) s.heap.objs.size (.cont .tmp (.dct [])) := by
      refine obEA (dict_obj (knd := W.sk) (Heap.DictOf.new s.heap)) fun o e x => ?_
      exact ⟨o, e, ⟨[], x, .nil⟩, I.notSys⟩
    have hf := get_size_none s.heap
    have kp : ∀ b o, s.heap.get? b = some o → (s.heap.push { cls := .type "dict", data := .dict #[] }).get? b = some o := fun b o e => Heap.get?_push_of_some _ e
    have I0 := I.newReg (s' := { s with heap := s.heap.push { cls := .type "dict", data := .dict #[] } }) hf kp hd0
    have x0 := Ext.newReg (c := .cont .tmp (.dct [])) I.core hf kp
    refine snd_pairs S _ vs σ _ h A H _ ca _ _ E a I0 fun vals kvs l σ1 H1 R1 ca1 s1 h I1 cr r x1 q1 l1 => ?_
    have e1 : R1 s.heap.objs.size = some (.cont .tmp (.dct [])) := x1.tmp _ _ RM.set_self rfl
    (refine obEAA (I1.core.reg _ _ e1) ?_; rintro o1 g1 ⟨kvs0, d1, r0⟩ z1)
    cases r0
    refine ⟨kvs, cr, d1.of g1, fun h' hd' hs' => ?_⟩
    refine obEA (dict_obj hd') fun o2 g2 d2 => ?_
    have rm : Ents W H1 ca1 (merged [] kvs) (l.foldl (fun d e => dset d e.1 e.2) []) := Ents.merge r .nil (by simp)
    have hat : MC.At W H1 ca1 h' s.heap.objs.size (.cont .tmp (.dct (l.foldl (fun d e => dset d e.1 e.2) []))) := ⟨o2, g2, ⟨_, d2, rm⟩, z1⟩
    have kb : ∀ b o, b ≠ s.heap.objs.size → s1.heap.get? b = some o → h'.get? b = some o := fun b o n e => (hs'.2 b n).trans e
    have I2 := I1.tmpUpd (s' := { s1 with heap := h', toks := s1.toks + vals.length }) e1 kb hat
    have hRn := I.core.freshR hf
    have x2 : Ext H R s.heap ca H1 (R1.set s.heap.objs.size (some (.cont .tmp (.dct (l.foldl (fun d e => dset d e.1 e.2) []))))) h' ca1 := Ext.updNew (x0.trans x1) hf kb hRn
    have q2 : SEq s { s1 with heap := h', toks := s1.toks + vals.length } := ⟨q1.gens, q1.drawn, q1.os⟩
    have hne : env.locals ≠ s.heap.objs.size := by
      refine obEA I.fr.ns fun m em u_ => ?_
      exact fun q => I.core.someR (by rw [em]; exact Option.some_ne_none _) (q ▸ hf)
    have hl : ∀ c, (R1.set s.heap.objs.size c) env.locals = R env.locals := fun c => by rw [RM.set_ne hne, l1, RM.set_ne hne]
    induction c using Bool.casesOn with
    | false => exact P _ true _ σ1 H1 _ ca1 _ h I2 (fun e => nomatch e) (fun u_ => ⟨_, rfl, hf, RM.set_self⟩) x2 q2 (hl _)
    | true =>
      obtain ⟨I3, hc⟩ := I2.tmpCell RM.set_self
      refine P _ false _ _ H1 _ _ _ h I3 (fun u_ => .cel ?_) (fun e => nomatch e) ?_ q2 ?_
      · rw [← I2.gr.len, List.getElem?_append_right (Nat.le_refl _), Nat.sub_self]; rfl
      · have x3 : Ext H R s.heap ca H1 ((R1.set s.heap.objs.size (some (.cont .tmp (.dct (l.foldl (fun d e => dset d e.1 e.2) []))))).set s.heap.objs.size (some (.cont (.cell ca1.length) (.dct (l.foldl (fun d e => dset d e.1 e.2) []))))) h' ca1 := Ext.updNew x2 hf (fun u_ u_ u_ q => q) hRn
        exact ⟨x3.imm, x3.ca.trans hc, x3.pres, x3.newH, x3.newR, x3.tmp, x3.live⟩
      · rw [RM.set_ne hne]; exact hl _
end
end
section
section
variable {W : Wd} {T : Tb} {H H' : IH} {ca ca' : List Addr} {R R' : RM} {env : Env} {sc : SC} {σ : St} {s s' : Shared} {A : Around} {E : Value → Shared → Prop} {d : Nat}
variable {ev : Expr → St → (PV → St → Prop) → Prop}
theorem BindRel.at' {x : Str} {v : Value} {b : Bind} (B : BindRel W H ca R x v b) (hR : ∀ a q, R a = some (.cont (.var x) q) → R' a = some (.cont (.var x) q)) : BindRel W H ca R' x v b := by
  obtain ⟨m, p⟩ := b
  induction m using Mode.casesOn with
  | own =>
    rcases B with ⟨a, e, q⟩ | ⟨a, D, d, l, e1, e0, e2, e3, e4⟩
    · exact .inl ⟨a, e, hR _ _ q⟩
    · exact .inr ⟨a, D, d, l, e1, e0, e2, e3, hR _ _ e4⟩
  | plain => exact B
  | froz => exact B
theorem FR.store {fr : List (Str × Bind)} (F : FR W H ca R env sc fr) {m m' : Str → Option Value} {x : Str} {v : Value} {b : Bind} (hm : R env.locals = some (.ns m)) (hm' : R' env.locals = some (.ns m')) (hy : ∀ y, y ≠ x → m' y = m y) (hx : m' x = some v) (B : BindRel W H ca R' x v b)
    (hR : ∀ b c, R b = some c → b ≠ env.locals → c.isTmp = false → R' b = some c) (hl : sc.names.lookup x = some .local) : FR W H ca R' env sc (fset fr x b) := by
  exact F.putL hl HLe.refl (fun b c e n t u_ => hR b c e (fun z => absurd ((Option.some.inj (e.symm.trans (z ▸ hm))) ▸ n : (MC.ns m).isNs = false) Bool.noConfusion) t) hm hm' hy hx B
theorem FR.storeC {fr : List (Str × Bind)} (F : FR W H ca R env sc fr) {x : Str} {c : Addr} {v0 : Option Value} {v : Value} {p : PV} (hl : sc.names.lookup x = some .cell) (hc : env.cells.lookup x = some c) (e : R c = some (.vcell x v0)) (r : Rep W H ca v p) :
    FR W H ca (R.set c (some (.vcell x (some v)))) env sc (fset fr x ⟨.plain, p⟩) := by
  refine obEA F.ns fun m em u_ => ?_
  exact F.put HLe.refl (.set e rfl) em (RM.set_ns e em rfl) (fun u_ u_ => rfl) (fun l => absurd (hl.symm.trans l) (fun z => nomatch z)) (fun u_ => ⟨.inl hl, c, v, hc, r, .inr (.inl ⟨rfl, RM.set_self⟩)⟩) fun u_ => .inl ⟨c, _, hc, RM.set_self⟩
noncomputable def Held (W : Wd) (H : IH) (ca : List Addr) (R : RM) (own : Bool) (v : Value) (p : PV) : Prop := if own then ∃ a, v = .ref a ∧ R a = some (.cont .tmp p) else Rep W H ca v p
theorem store_inv {x : Str} {own : Bool} {p : PV} {K : St → Prop} (h : vcStoreName sc x own p σ K) : (sc.names.lookup x = some .local ∧ setFr x ⟨if own then .own else .plain, p⟩ K σ) ∨ (sc.names.lookup x = some .cell ∧ (∀ q, fget σ.fr x ≠ some ⟨.froz, q⟩) ∧ own = false ∧ setFr x ⟨.plain, p⟩ K σ) := by
  unfold vcStoreName at h
  cases e : sc.names.lookup x with
  | none => rw [e] at h; exact False.elim h
  | some k =>
    rw [e] at h
    induction k using PySem.NameKind.casesOn with
    | «local» => exact .inl ⟨rfl, h⟩
    | cell =>
      have oh : ∀ {G : Prop}, (if own = true then False else G) → own = false ∧ G := fun {G} z => by
        induction own using Bool.casesOn with
        | true => exact False.elim z
        | false => exact ⟨rfl, z⟩
      cases e2 : fget σ.fr x with
      | none =>
        rw [e2] at h
        exact .inr ⟨rfl, fun q z => nosome z, oh h⟩
      | some b =>
        rw [e2] at h
        obtain ⟨m, q⟩ := b
        induction m using Mode.casesOn with
        | froz => exact False.elim h
        | own => exact .inr ⟨rfl, (fun q z => by injection z with z; injection z with z; cases z), oh h⟩
        | plain => exact .inr ⟨rfl, (fun q z => by injection z with z; injection z with z; cases z), oh h⟩
    | _ => exact False.elim h
theorem snd_store {x : Str} {own : Bool} {p : PV} {v : Value} {K : St → Prop} {Q : Unit → Shared → Prop} (h : vcStoreName sc x own p σ K) (I : Inv W env sc σ H R ca s) (hv : Held W H ca R own v p)
    (P : ∀ σ' R' s', K σ' → Inv W env sc σ' H R' ca s' → (∀ H0 R0 h0 ca0, Ext H0 R0 h0 ca0 H R s.heap ca → (own = true → ∀ a, v = .ref a → h0.get? a = none ∧ R0 a = none) → Ext H0 R0 h0 ca0 H R' s'.heap ca) →
      (∀ b c, R b = some c → c.stay = true → (own = true → v ≠ .ref b) → R' b = some c) → SEq s s' → Q () s') : wpAny W.M A (bindName env x v) Q E s := by
  refine wpAny_bindName ?_
  have F := I.fr
  have hkind : ∀ k, sc.names.lookup x = some k → env.kindOf x = some k := fun k e => by show env.scope.names.lookup x = _; rw [F.names]; exact e
  replace h := store_inv h
  rcases h with ⟨hl, h⟩ | ⟨hl, hnf, rfl, h⟩
  · refine obEA F.ns fun m em hall => ?_
    refine wpAny_storeName_local (hkind _ hl) (I.core.reg _ _ em) (fun h' hn hs => ?_) (by rw [F.kind]; rfl)
    have kb : ∀ b o, b ≠ env.locals → s.heap.get? b = some o → h'.get? b = some o := fun b o n e => (hs.2 b n).trans e
    have C1 : Core W H ca (R.set env.locals (some (.ns fun y => if y = x then some v else m y))) h' := I.core.upd em kb hn
    have X1 : ∀ H0 R0 h0 ca0, Ext H0 R0 h0 ca0 H R s.heap ca → Ext H0 R0 h0 ca0 H (R.set env.locals (some (.ns fun y => if y = x then some v else m y))) h' ca := fun u_ u_ u_ u_ z => z.trans (Ext.upd (W := W) em rfl kb hn)
    have k1 : ∀ b c, R b = some c → b ≠ env.locals → (R.set env.locals (some (.ns fun y => if y = x then some v else m y))) b = some c := fun b c e n => (RM.set_ne n).trans e
    have tl : ∀ b c, R b = some c → c.stay = true → b ≠ env.locals := fun b c e t z => by subst z; rw [em] at e; (replace e := Option.some.inj e; subst e); exact noft t
    induction own using Bool.casesOn with
    | false =>
      have hv : Rep W H ca v p := hv
      refine P _ _ { s with heap := h', toks := s.toks + 1 } h ⟨I.base, C1, ?_, ?_⟩ (fun u_ u_ u_ u_ z u_ => X1 _ _ _ _ z) (fun b c e t u_ => k1 b c e (tl b c e t)) ⟨rfl, rfl, rfl⟩
      · exact F.store em RM.set_self (fun y hy => if_neg hy) (if_pos rfl) (by exact hv) (fun b c e n u_ => k1 b c e n) hl
      · exact I.gr.mono2 fun b c e t => k1 b c e fun z => by subst z; rw [em] at e; (replace e := Option.some.inj e; subst e); exact notf t
    | true =>
      (refine obEA (show ∃ a, v = .ref a ∧ R a = some (.cont .tmp p) from hv) ?_; rintro a rfl ea)
      have hal : a ≠ env.locals := tl a _ ea rfl
      have ea1 := k1 a _ ea hal
      have C2 : Core W H ca ((R.set env.locals (some (.ns fun y => if y = x then some (.ref a) else m y))).set a (some (.cont (.var x) p))) h' :=
        C1.upd ea1 (fun u_ u_ u_ q => q) (let y : MC.At W H ca h' a (.cont .tmp p) := C1.reg a _ ea1; y)
      have k2 : ∀ b c, R b = some c → b ≠ env.locals → b ≠ a → ((R.set env.locals (some (.ns fun y => if y = x then some (.ref a) else m y))).set a (some (.cont (.var x) p))) b = some c := fun b c e n n2 => (RM.set_ne n2).trans (k1 b c e n)
      refine P _ _ { s with heap := h', toks := s.toks + 1 } h ⟨I.base, C2, ?_, ?_⟩ (fun u_ u_ u_ u_ z g => ?_) (fun b c e t n => k2 b c e (tl b c e t) fun z => n rfl (by rw [z])) ⟨rfl, rfl, rfl⟩
      · refine F.store em ((RM.set_ne (Ne.symm hal)).trans RM.set_self) (fun y hy => if_neg hy) (if_pos rfl) (.inl ⟨a, rfl, RM.set_self⟩) (fun b c e n t => k2 b c e n fun z => ?_) hl
        subst z; rw [ea] at e; (replace e := Option.some.inj e; subst e); exact notf t
      · exact I.gr.mono2 fun b c e t => k2 b c e (fun z => by subst z; rw [em] at e; (replace e := Option.some.inj e; subst e); exact notf t) fun z => by subst z; rw [ea] at e; (replace e := Option.some.inj e; subst e); exact notf t
      · obtain ⟨g1, g2⟩ := g rfl a rfl
        exact Ext.updNew (X1 _ _ _ _ z) g1 (fun u_ u_ u_ q => q) g2
  · have hv : Rep W H ca v p := hv
    obtain ⟨c, v0, hc, ec⟩ : ∃ c v, env.cells.lookup x = some c ∧ R c = some (.vcell x v) := by
      rcases F.cells x hl with z | ⟨b, e1, e2⟩
      · exact z
      · obtain ⟨bm, bp⟩ := b
        subst e2
        exact absurd e1 (hnf _)
    refine wpAny_storeName_cell F.kind (hkind _ hl) hc (I.core.reg _ _ ec) fun h' hn hs => ?_
    have kb : ∀ b o, b ≠ c → s.heap.get? b = some o → h'.get? b = some o := fun b o n e => (hs.2 b n).trans e
    have hat : MC.At W H ca h' c (.vcell x (some v)) := hn
    refine P _ (R.set c (some (.vcell x (some v)))) { s with heap := h' } h ⟨I.base, I.core.upd ec kb hat, F.storeC hl hc ec hv, ?_⟩ (fun u_ u_ u_ u_ z u_ => z.trans (Ext.upd (W := W) ec rfl kb hat)) (fun b d e t u_ => ?_) ⟨rfl, rfl, rfl⟩
    · exact I.gr.mono2 fun b d e t => (RM.set_ne fun z => by subst z; rw [ec] at e; (replace e := Option.some.inj e; subst e); exact notf t).trans e
    · exact (RM.set_ne fun z => by subst z; rw [ec] at e; (replace e := Option.some.inj e; subst e); exact noft t).trans e
end
end
section
structure CExt (H : IH) (R : RM) (h : Heap) (ca : List Addr) (H' : IH) (R' : RM) (h' : Heap) (ca' : List Addr) : Prop where
  imm : HLe H H'
  ca : CLe ca ca'
  pres : ∀ b o, h.get? b = some o → (∀ c, R b = some c → c.loc = true) → h'.get? b = some o
  regL : ∀ a c, R a = some c → c.loc = true → R' a = some c
  newH : ∀ b, H' b ≠ none → H b ≠ none ∨ R b ≠ none ∨ h.get? b = none
  newR : ∀ b, R' b ≠ none → R b ≠ none ∨ h.get? b = none
  live : ∀ b, h'.get? b = none → h.get? b = none
theorem tmp_loc {c : MC} (h : c.stay = true) : c.loc = true := by
  cases c with
  | cont t p => cases t <;> first | rfl | exact noft h
  | is P => rfl
  | lock o => rfl
  | _ => exact noft h
noncomputable def SndC (W : Wd) (d : Nat) (C : Oracle) : Prop :=
  ∀ f args cs K, C f args cs K → ∀ (A : Around) (H : IH) (R : RM) (ca : List Addr) (s : Shared) (vf : Value) (vs : List Value) (Q : Value → Shared → Prop) (E : Value → Shared → Prop), Amb A d → W.Base H → Core W H ca R s.heap → GR W R ca cs → Rep W H ca vf f → Reps W H ca vs args →
    (∀ v p cs' H' R' ca' s', K p cs' → W.Base H' → Core W H' ca' R' s'.heap → GR W R' ca' cs' → Rep W H' ca' v p → CExt H R s.heap ca H' R' s'.heap ca' → SEq s s' → Q v s') → wpAny W.M A (call vf vs) Q E s
section
variable {W : Wd} {T : Tb} {H H' : IH} {ca ca' : List Addr} {R R' : RM} {env : Env} {sc : SC} {σ : St} {s s' : Shared} {A : Around} {E : Value → Shared → Prop} {d : Nat}
variable {ev : Expr → St → (PV → St → Prop) → Prop}
theorem CExt.ext {h h' : Heap} (x : CExt H R h ca H' R' h' ca') : Ext H R h ca H' R' h' ca' :=
  ⟨x.imm, x.ca, fun b o e r => x.pres b o e fun c z => (by rw [r] at z; exact nosome z), x.newH, x.newR, fun a c e t => x.regL a c e (tmp_loc t), x.live⟩
theorem CExt.inv {cs' : List PV} (x : CExt H R s.heap ca H' R' s'.heap ca') (I : Inv W env sc σ H R ca s) (B : W.Base H') (C : Core W H' ca' R' s'.heap) (G : GR W R' ca' cs') : Inv W env sc { σ with cs := cs' } H' R' ca' s' ∧ R' env.locals = R env.locals := by
  refine ⟨⟨B, C, I.fr.mono x.imm x.ca fun b c e l u_ => x.regL b c e l, G⟩, ?_⟩
  refine obEA I.fr.ns fun m em u_ => ?_
  rw [em]; exact x.regL _ _ em rfl
theorem stars_any {pos : Pos} : ∀ {es : List Expr}, es.all notStar = true → (backTo pos (starEach es env)).any (·.1) = false
  | [], _ => rfl
  | e :: r, h => by
    rw [List.all_cons, Bool.and_eq_true] at h
    rw [starEach_cons fun x p z => by subst z; cases h.1]
    show (false || (backTo pos (starEach r env)).any (·.1)) = false
    rw [stars_any h.2]; rfl
theorem callWith_go {pos : Pos} {f : Value} {first : List Value} {es : List Expr} {P : Heap → Prop} {Q : Value → Shared → Prop} (hst : es.all notStar = true)
    (hk : ∀ h, P h → ∃ k, (k = Keeper.frame ∨ k = Keeper.machine ∨ k = Keeper.boundFrame) ∧ Looks W.M h (keeperOf f) k)
    (h : wpAny W.M A (spliced (backTo pos (starEach es env))) (fun vs s₁ => P s₁.heap ∧ wpAny W.M A (call f (first ++ vs)) Q E s₁) E s) : wpAny W.M A (callWith pos f first (backTo pos (starEach es env)) []) Q E s := by
  induction es using List.casesOn with
  | nil =>
    refine callWith_of (by rw [stars_any hst]; rfl) hk ?_
    unfold evalArgs
    show wpAny W.M A (spliced [] >>= _) _ E s
    refine wpAny_bind (wpAny_mono h (fun vs s' h' => ?_) fun u_ u_ x => x)
    refine wpAny_bind (wpAny_pure ?_)
    refine wpAny_holding ?_
    exact wpAny_bind (wpAny_pure (wpAny_bind (wpAny_pure (wpAny_pure h'))))
  | cons e r =>
    have hs := stars_any (env := env) (pos := pos) hst
    rw [List.all_cons, Bool.and_eq_true] at hst
    have he : starEach (e :: r) env = (false, eval e env) :: starEach r env := starEach_cons fun x p z => by subst z; cases hst.1
    rw [he] at h hs ⊢
    exact callWith_of (by rw [hs]; rfl) hk (evalArgs_plain h)
theorem keep_bi {b : Bi} (h : Heap) (_ : True) : ∃ k, (k = Keeper.frame ∨ k = Keeper.machine ∨ k = Keeper.boundFrame) ∧ Looks W.M h (keeperOf b.value) k :=
  ⟨.machine, .inr (.inl rfl), by induction b using Bi.casesOn <;> exact Looks.now⟩
end
end
section
section
variable {prog : Program} {w : World} {A : Around} {E : Value → Shared → Prop} {s : Shared}
theorem sort_few {a : Addr} {vs : List Value} {n : Nat} {P : PySem.Fin → Shared → Prop} (ho : s.heap.get? a = some (seqObj "list" vs.toArray n)) (h1 : vs.length ≤ 1) (h : P (.done (.ret .none)) { s with heap := sortedHeap s.heap a vs vs.toArray }) :
    wpAny (model prog w) A (Builtin.«list.sort» ⟨[.ref a], []⟩) P E s := by
  rw [list_sort_plain]
  have ha : a < s.heap.objs.size := Heap.lt_size ho
  have hz : vs.toArray.size = vs.length := by simp
  have hl : (1 : Nat) ≤ sizeLine := by rw [sizeLine_eq]; omega
  refine wpAny_bind (listItems_at ho rfl ?_)
  refine wpAny_bind (listUpdate_at ho rfl ?_ (by rw [hz]; omega) (Nat.zero_le _))
  obtain ⟨e1, ho1⟩ : ∃ e1, (s.heap.update a (Obj.mapSeq fun u_ => #[])).get? a = some (seqObj "list" #[] e1) := ⟨_, get?_update_seq ho (fun u_ => #[])⟩
  refine wpAny_bind (seqEpoch_at ho1 rfl ?_)
  refine wpAny_bind (wpAny_newTuple ?_ (by show vs.length ≤ _; omega))
  refine wpAny_bind (wpAny_newList ?_ (Nat.zero_le _))
  refine wpAny_holding ?_
  have ho6 : (((s.heap.update a (Obj.mapSeq fun u_ => #[])).push (seqObj "tuple" vs.toArray 0)).push (seqObj "list" #[] 0)).get? a = some (seqObj "list" #[] e1) := by
    rw [Heap.get?_push_ne _ _ _ (by rw [size_push', Heap.size_update]; exact Nat.ne_of_lt (Nat.lt_succ_of_lt ha)), Heap.get?_push_ne _ _ _ (by rw [Heap.size_update]; exact Nat.ne_of_lt ha)]
    exact ho1
  show wpAny (model prog w) A _ P E { s with heap := ((s.heap.update a (Obj.mapSeq fun u_ => #[])).push (seqObj "tuple" vs.toArray 0)).push (seqObj "list" #[] 0) }
  dsimp only
  have h2 : vs.toArray.size < 2 := by omega
  rw [if_pos h2, if_pos h2]
  refine wpAny_bind (wpAny_pure ?_)
  rw [StateT.run_pure]
  refine wpAny_bind (wpAny_pure ?_)
  dsimp only
  have e : (arrOf (SortSt.mk' general' (vs.toArray.zip vs.toArray) #[] 7 none)).map (·.2) = vs.toArray := by
    show (vs.toArray.zip vs.toArray).map (·.2) = vs.toArray
    apply Array.toList_inj.mp
    simp
    exact List.map_snd_zip (Nat.le_refl _)
  refine wpAny_bind (seqEpoch_at ho6 rfl ?_)
  rw [e]
  refine wpAny_bind (listUpdate_at ho6 rfl ?_ (Nat.zero_le _) (by rw [hz]; omega))
  simp only [bne_self_eq_false, Bool.false_eq_true, if_false]
  exact wpAny_pure h
theorem sorted_few_at {h : Heap} {a : Addr} {vs : List Value} {n : Nat} (ho : h.get? a = some (seqObj "list" vs.toArray n)) : (∃ c, (sortedHeap h a vs vs.toArray).get? a = some (listOf vs.toArray c)) ∧ ∀ b o, b ≠ a → h.get? b = some o → (sortedHeap h a vs vs.toArray).get? b = some o := by
  have ha : a < h.objs.size := Heap.lt_size ho
  obtain ⟨e1, ho1⟩ : ∃ e1, (h.update a (Obj.mapSeq fun u_ => #[])).get? a = some (seqObj "list" #[] e1) := ⟨_, get?_update_seq ho (fun u_ => #[])⟩
  have ho6 : (((h.update a (Obj.mapSeq fun u_ => #[])).push (seqObj "tuple" vs.toArray 0)).push (seqObj "list" #[] 0)).get? a = some (seqObj "list" #[] e1) := by
    rw [Heap.get?_push_ne _ _ _ (by rw [size_push', Heap.size_update]; exact Nat.ne_of_lt (Nat.lt_succ_of_lt ha)), Heap.get?_push_ne _ _ _ (by rw [Heap.size_update]; exact Nat.ne_of_lt ha)]
    exact ho1
  refine ⟨⟨_, get?_update_seq ho6 fun u_ => vs.toArray⟩, fun b o hb e => ?_⟩
  unfold sortedHeap
  rw [Heap.get?_update_other _ _ (Ne.symm hb)]
  exact Heap.get?_push_of_some _ (Heap.get?_push_of_some _ ((Heap.get?_update_other _ _ (Ne.symm hb)).trans e))
end
section
variable {W : Wd} {T : Tb} {H H' : IH} {ca ca' : List Addr} {R R' : RM} {env : Env} {sc : SC} {σ : St} {s s' : Shared} {A : Around} {E : Value → Shared → Prop} {d : Nat}
theorem bi_sorted {l : List (Str × PV)} {a : Addr} {o : Obj} {kvs : List (Str × Value)} {K : Bool → PV → St → Prop} {Q : Value → Shared → Prop} (hz : l.length ≤ 1) (k : K false (.lst (l.map fun e => .str e.1)) σ)
    (am : Amb A d) (I : Inv W env sc σ H R ca s) (hs : (a == sysModules) = false) (e : H a = some o) (dd : DictObj W.sk o kvs) (r : Ents W H ca kvs l) (P : PostO W env sc H R ca s K Q) : wpAny W.M A (call (.builtin "sorted") [.ref a]) Q E s := by
  obtain ⟨ep, hat⟩ := (dd.of (I.core.le _ _ e)).dictAt
  have hl1 : (1 : Nat) ≤ sizeLine := by rw [sizeLine_eq]; omega
  refine call_function_entry kind_sorted plain_sorted entry_sorted (args_sorted1 _) ?_
  unfold Builtin.«sorted»
  refine wpAny_bind (m := checkCount "sorted" 1 1 _) (wpAny_pure ?_)
  refine wpAny_bind (kdu_collect (A := A.in1) (kdl_dict (knd := W.sk) (kvs := kvs) (ep := ep) hs) am.handled hat (by rw [r.length]; omega) fun h' tk acc hk hacc => ?_)
  have hlen : acc.toList.length ≤ 1 := by rw [Array.length_toList, hacc.1, r.length]; exact hz
  have items : Reps W H ca acc.toList (l.map fun e => PV.str e.1) := by
    have hl : acc.toList.length = l.length := by rw [Array.length_toList, hacc.1, r.length]
    have hI : ∀ (i : Nat) (v : Value), acc.toList[i]? = some v → ∃ k x, kvs[i]? = some (k, x) ∧ W.sk.is k v = true := fun i v e => hacc.2 i v (by rw [← Array.getElem?_toList]; exact e)
    revert hI hl
    generalize acc.toList = xs
    intro hl hI
    induction l using List.casesOn with
    | nil => rw [List.eq_nil_of_length_eq_zero hl]; exact .nil
    | cons q l =>
      induction l using List.casesOn with
      | cons _ _ => exact absurd hz (by simp)
      | nil =>
        cases r with
        | cons rv rn =>
          cases rn
          induction xs using List.casesOn with
          | nil => cases hl
          | cons u xs =>
            induction xs using List.casesOn with
            | cons _ _ => simp at hl
            | nil =>
              refine obEEA (hI 0 u rfl) fun k x' e1 e2 => ?_
              simp only [List.getElem?_cons_zero, Option.some.injEq, Prod.mk.injEq] at e1
              obtain ⟨rfl, rfl⟩ := e1
              obtain ⟨t, rfl⟩ := Value.isStrOf_shape e2
              exact .cons .str .nil
  refine wpAny_bind (wpAny_newList ?_ (by omega))
  have g0 : (h'.push { cls := .type "list", data := .seq acc.toList.toArray }).get? h'.objs.size = some (seqObj "list" acc.toList.toArray 0) := Heap.get?_push_size _ rfl
  obtain ⟨⟨c, g1⟩, g2⟩ := sorted_few_at g0
  refine wpAny_bind (wpAny_holding (wpAny_call_entry slot_list_sort ⟨_, g0, rfl⟩ entry_list_sort (sort_few g0 hlen ⟨_, rfl, ?_⟩) (args_list_sort _)))
  refine wpAny_pure ⟨_, rfl, ?_⟩
  have hn : s.heap.get? h'.objs.size = none := by
    cases q : s.heap.get? h'.objs.size with
    | none => rfl
    | some o => exact absurd (Heap.lt_size (hk _ _ q)) (Nat.lt_irrefl _)
  exact P.ofVal.new (t := tk) (o := listOf acc.toList.toArray c) k I hn (fun b o e => g2 b o (fun z => by rw [z, hn] at e; exact nosome e) (Heap.get?_push_of_some _ (hk b o e))) g1 fun H'' hH e => .lst e (Reps.mono hH CLe.refl items)
end
end
section
section
variable {prog : Program} {w : World} {A : Around} {E : Value → Shared → Prop} {s : Shared}
theorem list_no_keys {a : Addr} {xs : Array Value} {k : Nat} {Q : Option Value → Shared → Prop} (hx : s.heap.get? a = some (listOf xs k)) (hA : A.handled = none)
    (h : ∀ h' tk, (∀ b o, s.heap.get? b = some o → h'.get? b = some o) → Q none { s with heap := h', toks := tk }) : wpAny (model prog w) A (getAttr? (.ref a) "keys") Q E s := by
  obtain ⟨hp, g, d, tk, os⟩ := s
  have hT : ∀ tk', (⟨hp, g, d, tk', os⟩ : Shared).TypeIs (.ref a) "list" := fun u_ => ⟨_, hx, rfl⟩
  have f1 := sub_AttributeError
  have f3 := PySem.F.slot_list_getattribute.lookup
  have f4 := PySem.F.slot_list_getattribute.bind (.ref a)
  have f5 := am_list_getattr_none
  have hmiss : typeLookup (.type "list") "keys" = pure none := by rw [typeLookup_type, builtinLookup_eq_fast]; kernel_rfl
  unfold getAttr? getAttrBy? getAttrBy
  repeat (any_goals (first | assumption | exact hT _ | ((with_reducible show wpAny _ _ (call (Value.builtin "list.__getattribute__") _ _) _ _ _); refine call_meets PySem.F.slot_list_getattribute (hT _) am_entry_list_getattribute (PySem.F.args_list_getattribute_2 _ _) (meets_getattribute_miss_list a xs k #[] "keys" _ hmiss (by decide +kernel)) ⟨hx, hA, fun h' tk' e hx' => ?_⟩) | wp_step))
  refine obEE hx'.there fun t' u' he => ?_
  have hk := hx'.of
  show wpAny _ _ (getattributeRaised _ _ _ _ _ _ _) _ _ _
  unfold getattributeRaised
  repeat (any_goals (first | assumption | wp_step))
  exact h _ _ hx'.keeps
theorem entry_update_loop : entryFor table "dict.update.loop" = some Builtin.«dict.update.loop» := entryFor_of_tree (by kernel_rfl)
theorem plain_update_loop : plainId "dict.update.loop" = true := by decide +kernel
noncomputable def PairAt (h : Heap) (v : Value) (kx : Str × Value) (I D : Addr) : Prop := ∃ t n tok, v = .ref t ∧ t ≠ I ∧ t ≠ D ∧ h.get? t = some { cls := .type "tuple", data := .seq #[.str kx.1 tok, kx.2] n }
theorem pairs_loop {a I D : Addr} {items : List Value} {more : List (Str × Value)} {res : Value} {R : Result → Shared → Prop} (hh : A.handled = none) (hIa : a ≠ I) (hID : I ≠ D) (hDa : a ≠ D) (hl : items.length = more.length) :
    ∀ (k i : Nat) (s : Shared) (acc : List (Str × Value)) (j : Int) (tk : Tok), i + k = items.length → s.heap.IsListIter I a i → s.heap.IsList a items.toArray → (∀ (n : Nat) (v : Value) (kx : Str × Value), items[n]? = some v → more[n]? = some kx → PairAt s.heap v kx I D) → s.heap.DictOf (PySem.strKind prog w) D acc → acc.length + k ≤ sizeLine →
    (∀ h' tk, h'.DictOf (PySem.strKind prog w) D (merged acc (more.drop i)) → (∀ b o, b ≠ I → b ≠ D → s.heap.get? b = some o → h'.get? b = some o) → R (.ok (.ret res)) { s with heap := h', toks := tk }) →
    codeAny (model prog w) A (.builtin "dict.update.loop" ⟨[.ref D, .ref I, .int j tk, res], []⟩) R s := by
  have W := Walks.list (prog := prog) (w := w) (A := A.in1) hh I a hIa items.toArray
  intro k
  induction k with
  | zero =>
    intro i s acc j tk hi h1 h2 h3 h4 h5 hR
    have hin : i = items.length := hi
    subst hin
    refine codeAny_builtin entry_update_loop ?_
    rw [Around.under_plainId plain_update_loop _]
    show wpAny _ A.in1 (pyNext (.ref I) >>= _) _ _ s
    refine wpAny_bind (W.done s _ _ (by rw [List.size_toArray]; exact ⟨h1, h2⟩) fun h' tk' hm => ?_)
    refine wpAny_bind (m := Builtin.Dict.addKeywords D []) (wpAny_pure (wpAny_pure ?_))
    refine hR h' tk' ?_ fun b o hb u_ e => hm b o (by simpa using hb) e
    rw [List.drop_eq_nil_of_le (Nat.le_of_eq hl.symm)]
    refine obEA (dict_obj h4) fun o e x => ?_
    exact x.of (hm D o (by simpa using hID.symm) e)
  | succ k ih =>
    intro i s acc j tk hi h1 h2 h3 h4 h5 hR
    have hlt : i < items.length := hi ▸ Nat.lt_add_of_pos_right (Nat.succ_pos k)
    refine codeAny_builtin entry_update_loop ?_
    rw [Around.under_plainId plain_update_loop _]
    show wpAny _ A.in1 (pyNext (.ref I) >>= _) _ _ s
    refine wpAny_bind (W.item i s _ _ (by rw [List.size_toArray]; exact hlt) ⟨h1, h2⟩ fun v h' tk' hP hst' hm => ?_)
    have hm' : ∀ b o, b ≠ I → s.heap.get? b = some o → h'.get? b = some o := fun b o hb e => hm b o (by simpa using hb) e
    have hv : items[i]? = some v := by simpa using hP
    obtain ⟨kx, hkx⟩ : ∃ kx, more[i]? = some kx := ⟨_, List.getElem?_eq_getElem (hl ▸ hlt)⟩
    (refine obEEEAAA (h3 i v kx hv hkx) ?_; rintro t n tok rfl htI htD hto)
    have hto' := hm' t _ htI hto
    have h4' : h'.DictOf (PySem.strKind prog w) D acc := by
      refine obEA (dict_obj h4) fun o e x => ?_
      exact x.of (hm' D o hID.symm e)
    refine wpAny_bind ?_
    refine wpAny_holding (wpAny_bind (wpAny_tryCatch ?_))
    unfold Builtin.Dict.pairItems
    refine wpAny_bind (wpAny_typeOf (T := "tuple") ⟨_, hto', rfl⟩ ?_)
    rw [if_pos (by decide)]
    refine wpAny_bind (m := seqItems? (.ref t)) (wpAny_bind (wpAny_loadPart' hto' (wpAny_pure (wpAny_pure ?_))))
    dsimp only
    refine wpAny_holding (wpAny_dictSet_pairs (knd := PySem.strKind prog w) (hsz := by omega) (strKind_is prog w kx.1 tok) h4' fun h'' hd hs => ?_)
    have keep : ∀ b o, b ≠ I → b ≠ D → s.heap.get? b = some o → h''.get? b = some o := fun b o hb hd e => (hs.2 b hd).trans (hm' b o hb e)
    refine wpAny_pure ⟨plainId_quiet plain_update_loop _, ?_⟩
    refine ih (i + 1) { s with heap := h'', toks := tk' + 1 } (stored acc kx.1 kx.2) (j + 1) 0 ((Nat.succ_add_eq_add_succ i k).trans hi) ?_ ?_ ?_ hd ?_ ?_
    · exact (W.frame _ _ _ hst' fun b hb o e => (hs.2 b (by rcases List.mem_cons.mp hb with rfl | hb; exact hID; rw [List.mem_singleton.mp hb]; exact hDa)).trans e).1
    · exact (W.frame _ _ _ hst' fun b hb o e => (hs.2 b (by rcases List.mem_cons.mp hb with rfl | hb; exact hID; rw [List.mem_singleton.mp hb]; exact hDa)).trans e).2
    · intro m u kx' e1 e2
      (refine obEEEAAA (h3 m u kx' e1 e2) ?_; rintro t' n' tok' rfl q1 q2 q3)
      exact ⟨t', n', tok', rfl, q1, q2, keep t' _ q1 q2 q3⟩
    · exact Nat.le_trans (Nat.add_le_add_right (stored_length_le acc kx.1 kx.2) k) (by rw [Nat.add_assoc, Nat.add_comm 1]; exact h5)
    · intro h3' tk3 hd3 hk3
      refine hR h3' tk3 ?_ fun b o hb hd e => hk3 b o hb hd (keep b o hb hd e)
      have hdrop : more.drop i = kx :: more.drop (i + 1) := by
        obtain ⟨hlt', hx⟩ := List.getElem?_eq_some_iff.mp hkx
        rw [List.drop_eq_getElem_cons hlt', hx]
      rw [hdrop]
      exact hd3
end
section
variable {W : Wd} {T : Tb} {H H' : IH} {ca ca' : List Addr} {R R' : RM} {env : Env} {sc : SC} {σ : St} {s s' : Shared} {A : Around} {E : Value → Shared → Prop} {d : Nat}
noncomputable def PairIn (H : IH) (v : Value) (kx : Str × Value) : Prop := ∃ t n tok, v = .ref t ∧ H t = some { cls := .type "tuple", data := .seq #[.str kx.1 tok, kx.2] n }
noncomputable def PIt (l : List PV) (acc dd : List (Str × PV)) (p : PV) : Prop := ∃ k x, p = .tup [.str k, x] ∧ pairsOf l (dset acc k x) = some dd
theorem pairs_cons {l : List PV} {acc dd : List (Str × PV)} {p : PV} (h : pairsOf (p :: l) acc = some dd) : PIt l acc dd p := by
  induction p using PV.casesOn with
  | tup q => induction q using List.casesOn with
    | nil => exact nosome h
    | cons k q => induction k using PV.casesOn with
      | str k => induction q using List.casesOn with
        | nil => exact nosome h
        | cons x q => induction q using List.casesOn with
          | nil => exact ⟨k, x, rfl, h⟩
          | cons => exact nosome h
      | _ => exact nosome h
  | _ => exact nosome h
theorem pairs_of : ∀ (l : List PV) (vs : List Value) (acc dd : List (Str × PV)), Reps W H ca vs l → pairsOf l acc = some dd → ∃ more : List (Str × Value), vs.length = more.length ∧ (∀ (n : Nat) (v : Value) (kx : Str × Value), vs[n]? = some v → more[n]? = some kx → PairIn H v kx) ∧
    ∀ kvs, Ents W H ca kvs acc → (kvs.map (·.1)).Nodup → Ents W H ca (merged kvs more) dd := by
  intro l
  induction l with
  | nil =>
    intro vs acc dd r e
    rw [r.inil, ← Option.some.inj e]
    exact ⟨[], rfl, fun n v kx e => nosome e, fun kvs r u_ => r⟩
  | cons p l ih =>
    intro vs acc dd r e
    (refine obEEA (pairs_cons e) ?_; rintro k x rfl e)
    (refine obEEAA r.icons ?_; rintro v us rfl rp rs)
    (refine obEEEAA rp.inv ?_; rintro t ws n rfl g rw')
    (refine obEEAA rw'.icons ?_; rintro vk w1 rfl rk rw')
    (refine obEEAA rw'.icons ?_; rintro vx w2 rfl rx rw')
    obtain rfl := rw'.inil
    obtain ⟨tok, rfl⟩ := rk.inv
    refine obEAA (ih _ _ _ rs e) fun more h1 h2 h3 => ?_
    refine ⟨(k, vx) :: more, congrArg (· + 1) h1, fun m v kx e1 e2 => ?_, fun kvs rr hn => h3 _ (rr.set hn rx) (stored_nodup hn _ _)⟩
    cases m with
    | zero => exact ⟨t, n, tok, (Option.some.inj e1).symm, by rw [← Option.some.inj e2]; exact g⟩
    | succ m => exact h2 m v kx e1 e2
theorem bi_dict_pairs {l : List PV} {dd : List (Str × PV)} {a : Addr} {vs : List Value} {n : Nat} {K : Bool → PV → St → Prop} {Q : Value → Shared → Prop} (hz : sfits l.length = true) (hp : pairsOf l [] = some dd) (k : K true (.dct dd) σ)
    (am : Amb A d) (I : Inv W env sc σ H R ca s) (e : H a = some (listOf vs.toArray n)) (r : Reps W H ca vs l) (P : PostO W env sc H R ca s K Q) : wpAny W.M A (call (.type "dict") [.ref a]) Q E s := by
  refine obEAA (pairs_of l vs [] dd r hp) fun more hl hpi hm => ?_
  have hmm := hm [] .nil (by simp)
  have ea := I.core.le _ _ e
  refine callType_codes (Q₁ := fun obj s₁ => obj = .ref s.heap.objs.size ∧ s₁ = { s with heap := s.heap.push { cls := .type "dict", data := .dict #[] } }) PySem.F.kt_called_dict (PySem.F.kt_typeCall_dict_1 _) PySem.F.entry_dict_init (kt_code_dict_new _ ⟨rfl, rfl⟩) ?_
  rintro obj s₁ ⟨rfl, rfl⟩
  have hnew : (s.heap.push { cls := .type "dict", data := .dict #[] }).DictOf W.sk s.heap.objs.size [] := Heap.DictOf.new s.heap
  have ea' : (s.heap.push { cls := .type "dict", data := .dict #[] }).get? a = some (listOf vs.toArray n) := Heap.get?_push_of_some _ ea
  have hDa : a ≠ s.heap.objs.size := Nat.ne_of_lt (Heap.lt_size ea)
  refine ⟨hnew.typeIs, PySem.F.args_dict_init_2 _ _, ?_⟩
  unfold Builtin.«dict.__init__»
  refine wpAny_bind ?_
  unfold Builtin.Dict.selfAndRest
  refine wpAny_bind (wpAny_notOrdered_dict hnew.typeIs ?_)
  show wpAny _ _ (pure (s.heap.objs.size, [Value.ref a])) _ _ _
  refine wpAny_pure ?_
  show wpAny _ _ (Builtin.Dict.updateFrom "dict.__init__" s.heap.objs.size (.ref a) [] .none) _ _ _
  unfold Builtin.Dict.updateFrom
  refine wpAny_bind (wpAny_typeOf (T := "list") ⟨_, ea', rfl⟩ ?_)
  rw [if_pos (by decide)]
  refine wpAny_bind (list_no_keys ea' (by exact am.handled) fun h1 tk1 k1 => ?_)
  rw [if_pos (by rfl)]
  refine wpAny_bind (wpAny_rule ?_)
  have ea1 := k1 _ _ ea'
  have hD1 : h1.DictOf W.sk s.heap.objs.size [] := by
    refine obEA (dict_obj hnew) fun o g x => ?_
    exact x.of (k1 _ _ g)
  refine wpAny_bind (wpAny_pyIter_list (items := vs.toArray) ⟨_, ea1, rfl, n, rfl⟩ ?_)
  refine wpAny_pure ⟨plainId_quiet plain_update_loop _, ?_⟩
  have hlt1 : s.heap.objs.size < h1.objs.size := by
    refine obEA (dict_obj hD1) fun o g x => ?_
    exact Heap.lt_size g
  have kp : ∀ b o, h1.get? b = some o → (h1.push { cls := .type "list_iterator", data := .fields #[.ref a, .int 0 0] }).get? b = some o := fun b o e => Heap.get?_push_of_some _ e
  have kall : ∀ b o, s.heap.get? b = some o → (h1.push { cls := .type "list_iterator", data := .fields #[.ref a, .int 0 0] }).get? b = some o := fun b o e => kp b o (k1 b o (Heap.get?_push_of_some _ e))
  refine pairs_loop (prog := W.prog) (w := W.w) (A := A.in1) (I := h1.objs.size) (D := s.heap.objs.size) (a := a) (items := vs) (more := more) (by exact am.handled) (Nat.ne_of_lt (Heap.lt_size ea1)) (Nat.ne_of_gt hlt1) hDa hl vs.length 0 { s with heap := h1.push { cls := .type "list_iterator", data := .fields #[.ref a, .int 0 0] }, toks := tk1 } [] 0 0 (Nat.zero_add _) ?_ ⟨listOf vs.toArray n, kp _ _ ea1, rfl, n, rfl⟩ ?_ ?_ ?_ ?_
  · refine ⟨{ cls := .type "list_iterator", data := .fields #[.ref a, .int 0 0] }, ?_, rfl, rfl⟩
    exact Heap.get?_push_size _ rfl
  · intro m v kx e1 e2
    (refine obEEEA (hpi m v kx e1 e2) ?_; rintro t n' tok rfl g)
    have gs := I.core.le _ _ g
    refine ⟨t, n', tok, rfl, ?_, Nat.ne_of_lt (Heap.lt_size gs), kall _ _ gs⟩
    exact Nat.ne_of_lt (Nat.lt_trans (Heap.lt_size gs) hlt1)
  · refine obEA (dict_obj hD1) fun o g x => ?_
    exact x.of (kp _ _ g)
  · rw [List.length_nil, Nat.zero_add, r.length]; exact sfits_line hz
  · intro h' tk hd hk
    refine obEA (dict_obj hd) fun o' g' d' => ?_
    refine ⟨rfl, ?_⟩
    refine P.newOwn (t := tk) k I (get_size_none _) (fun b o e => ?_) g' ⟨_, d', hmm⟩ I.notSys
    have hb := Heap.lt_size e
    exact hk b o (Nat.ne_of_lt (Nat.lt_trans hb hlt1)) (Nat.ne_of_lt hb) (kall b o e)
end
end
section
theorem rs_none {c : Nat} : ∀ (l : List Nat) (i r : Int), (∀ j : Nat, l[j]? ≠ some c) → rfindSign c l i r = r
  | [], _, _, _ => rfl
  | d :: l, i, r, h => by
    have hd : ¬ d = c := fun e => h 0 (by rw [e]; rfl)
    rw [rfindSign, if_neg hd]
    exact rs_none l _ _ fun j e => h (j + 1) e
theorem rs_last {c : Nat} : ∀ (l : List Nat) (j : Nat) (i r : Int), l[j]? = some c → (∀ k : Nat, j < k → l[k]? ≠ some c) → rfindSign c l i r = i + j
  | [], j, i, r, h, _ => by exact nosome h
  | d :: l, 0, i, r, h, hk => by
    have hd : d = c := by simpa using h
    rw [rfindSign, if_pos hd, rs_none l _ _ fun j e => hk (j + 1) (by omega) e]
    simp
  | d :: l, j + 1, i, r, h, hk => by
    rw [rfindSign, rs_last l j _ _ h fun k q e => hk (k + 1) (by omega) e]
    omega
theorem at_dot {x : Str} {c i : Nat} : StrLaws.At x (Str.mk #[c]) x.length i ↔ x.cps.toList[i]? = some c := by
  unfold StrLaws.At Builtin.Str.subAt
  have e1 : (Str.mk #[c]).length = 1 := rfl
  have e2 : x.length = x.cps.size := rfl
  rw [e1, e2]
  constructor
  · rintro ⟨h1, h2⟩
    have h2 := eq_of_beq h2
    have h3 : (x.cps.extract i (i + 1)).toList = [c] := by rw [h2]
    have : x.cps[i]? = some c := by
      have h4 : (x.cps.extract i (i + 1))[0]? = some c := by rw [h2]; rfl
      rw [Array.getElem?_extract] at h4
      split at h4
      · simpa using h4
      · exact nosome h4
    simpa using this
  · intro h
    have h' : x.cps[i]? = some c := by simpa using h
    obtain ⟨hi, hx⟩ := Array.getElem?_eq_some_iff.mp h'
    refine ⟨by omega, ?_⟩
    have : x.cps.extract i (i + 1) = #[c] := by
      apply Array.ext
      · simp; omega
      · intro j h1 h2
        have : j = 0 := by simp at h2; omega
        subst this
        simp [hx]
    rw [this]; exact beq_self_eq_true _
theorem rfind_dot (x : Str) (c : Nat) : Txt.rfind x (Str.mk #[c]) = rfindSign c x.cps.toList 0 (-1) := by
  unfold Txt.rfind
  rcases StrLaws.last_spec x (Str.mk #[c]) with ⟨e, h⟩ | ⟨i, e, h, hk⟩
  · rw [e]
    exact (rs_none _ _ _ fun j q => h j (at_dot.mpr q)).symm
  · rw [e]
    rw [rs_last _ i _ _ (at_dot.mp h) fun k q z => hk k q (at_dot.mpr z)]
    simp
theorem digit_ascii : ∀ c, c < 128 → Unicode.isDigit c = decide (48 ≤ c ∧ c ≤ 57) := by decide +kernel
theorem isdigit_eq (x : Str) (h : asciiOnly x.cps.toList = true) : Txt.isdigit x = digitsOnly x.cps.toList := by
  unfold Txt.isdigit digitsOnly
  have e1 : decide (x.length > 0) = !x.cps.toList.isEmpty := by
    have : x.length = x.cps.toList.length := by simp [Str.length]
    rw [this]
    induction x.cps.toList using List.casesOn <;> simp
  rw [e1]
  congr 1
  rw [← Array.all_toList]
  unfold asciiOnly at h
  rw [List.all_eq_true] at h
  rw [Bool.eq_iff_iff, List.all_eq_true, List.all_eq_true]
  constructor <;> intro k d hd
  · rw [← digit_ascii d (by simpa using h d hd)]; exact k d hd
  · rw [digit_ascii d (by simpa using h d hd)]; exact k d hd
end
section
section
variable {W : Wd} {T : Tb} {H H' : IH} {ca ca' : List Addr} {R R' : RM} {env : Env} {sc : SC} {σ : St} {s s' : Shared} {A : Around} {E : Value → Shared → Prop} {d : Nat}
noncomputable def kitTy : PV → Option Value
  | .ins C _ => some (.ref C)
  | .int _ => some (.type "int")
  | .str _ => some (.type "str")
  | .tup _ => some (.type "tuple")
  | _ => none
set_option tactic.hygienic true in
theorem kit_of_rep {p : PV} {v t : Value} {h : Heap} (le : Le H h) (r : Rep W H ca v p) (e : kitTy p = some t) : ∃ P : Heap → Prop, KitX W.K v t P ∧ P h ∧ v ≠ .builtin "__main__.__loader__#opaque" := by
  cases r <;> (first | (replace e := Option.some.inj e; subst e) | exact nosome e)
  · exact ⟨_, kitx_int, trivial, fun q => nomatch q⟩
  · exact ⟨_, kitx_str, trivial, fun q => nomatch q⟩
  · rename_i g r
    exact ⟨_, kitx_tuple, ⟨_, le _ _ g, rfl⟩, fun q => nomatch q⟩
  · rename_i e0 e1 e2 e3 e4
    have ok := W.clsOk _ e0
    simp only [ownCls, Bool.and_eq_true, beq_iff_eq] at ok
    obtain ⟨⟨⟨⟨⟨⟨⟨⟨h1, h2⟩, h3⟩, h4⟩, h5⟩, h6⟩, h7⟩, h8⟩, h9⟩ := ok
    exact ⟨_, kitx_own h1 h2 h3 h4 h5 h6, ⟨le _ _ e1, rfl, rfl, le _ _ e2⟩, fun q => nomatch q⟩
theorem kit_tt {K : Frag} : kitOne K (.type "int") (.type "int") = some true ∧ kitOne K (.type "int") (.type "str") = some false ∧ kitOne K (.type "int") (.type "tuple") = some false ∧ kitOne K (.type "str") (.type "int") = some false ∧
    kitOne K (.type "str") (.type "str") = some true ∧ kitOne K (.type "str") (.type "tuple") = some false ∧ kitOne K (.type "tuple") (.type "int") = some false ∧ kitOne K (.type "tuple") (.type "str") = some false ∧ kitOne K (.type "tuple") (.type "tuple") = some true := by
  refine ⟨?_, ?_, ?_, ?_, ?_, ?_, ?_, ?_, ?_⟩ <;> kernel_rfl
inductive IO (cl : Addr → Bool) : PV → PV → Bool → Prop where
  | ins {C D : Addr} {l : List (Str × PV)} : cl C = true → cl D = true → IO cl (.ins C l) (.fn D) (decide (C = D))
  | ii {i : Int} : IO cl (.int i) (.bi .int) true
  | is {i : Int} : IO cl (.int i) (.bi .str) false
  | it {i : Int} : IO cl (.int i) (.bi .tuple) false
  | si {x : Str} : IO cl (.str x) (.bi .int) false
  | ss {x : Str} : IO cl (.str x) (.bi .str) true
  | st {x : Str} : IO cl (.str x) (.bi .tuple) false
  | ti {l : List PV} : IO cl (.tup l) (.bi .int) false
  | ts {l : List PV} : IO cl (.tup l) (.bi .str) false
  | tt {l : List PV} : IO cl (.tup l) (.bi .tuple) true
theorem io_ins {cl : Addr → Bool} {C : Addr} {l : List (Str × PV)} {q : PV} {b : Bool} (e : instOf cl (.ins C l) q = some b) : IO cl (.ins C l) q b := by
  induction q using PV.casesOn with
  | fn D =>
    have e : (if cl C && cl D then some (decide (C = D)) else none) = some b := e
    cases z : (cl C && cl D) with
    | false => rw [z] at e; exact nosome e
    | true =>
      rw [z] at e
      (replace e := Option.some.inj e; subst e)
      exact .ins (Bool.and_eq_true_iff.mp z).1 (Bool.and_eq_true_iff.mp z).2
  | _ => exact nosome e
theorem io_int {cl : Addr → Bool} {i : Int} {q : PV} {b : Bool} (e : instOf cl (.int i) q = some b) : IO cl (.int i) q b := by
  induction q using PV.casesOn with
  | bi k => induction k using Bi.casesOn <;> first | ((first | (replace e := Option.some.inj e; subst e) | exact nosome e); constructor) | exact nosome e
  | _ => exact nosome e
theorem io_str {cl : Addr → Bool} {i : Str} {q : PV} {b : Bool} (e : instOf cl (.str i) q = some b) : IO cl (.str i) q b := by
  induction q using PV.casesOn with
  | bi k => induction k using Bi.casesOn <;> first | ((first | (replace e := Option.some.inj e; subst e) | exact nosome e); constructor) | exact nosome e
  | _ => exact nosome e
theorem io_tup {cl : Addr → Bool} {i : List PV} {q : PV} {b : Bool} (e : instOf cl (.tup i) q = some b) : IO cl (.tup i) q b := by
  induction q using PV.casesOn with
  | bi k => induction k using Bi.casesOn <;> first | ((first | (replace e := Option.some.inj e; subst e) | exact nosome e); constructor) | exact nosome e
  | _ => exact nosome e
theorem io_inv {cl : Addr → Bool} {p q : PV} {b : Bool} (e : instOf cl p q = some b) : IO cl p q b := by
  induction p using PV.casesOn with
  | ins C l => exact io_ins e
  | int i => exact io_int e
  | str i => exact io_str e
  | tup i => exact io_tup e
  | _ => exact nosome e
theorem kit_one {p q : PV} {v c : Value} {b : Bool} (hT : TbOk W T) (r : Rep W H ca v p) (rc : Rep W H ca c q) (e : instOf (fun a => (T.init a).isSome) p q = some b) : ∃ t, kitTy p = some t ∧ kitOne W.K t c = some b := by
  refine obAAAAAAAA (kit_tt (K := W.K)) fun t1 t2 t3 t4 t5 t6 t7 t8 t9 => ?_
  cases io_inv e with
  | ins h1 h2 =>
    obtain rfl := rc.inv
    (refine obEE r.inv ?_; rintro _ _ ⟨_, _, rfl, e0, _⟩)
    exact ⟨_, rfl, hT.inst _ _ e0 h2⟩
  | _ => obtain rfl := rc.inv; exact ⟨_, rfl, by assumption⟩
theorem kit_any {p : PV} {v : Value} (hT : TbOk W T) (r : Rep W H ca v p) : ∀ {ts : List PV} {cs : List Value} {b : Bool}, Reps W H ca cs ts → instAny (fun a => (T.init a).isSome) p ts = some b → ∀ t, kitTy p = some t → kitAny W.K t cs = some b := by
  intro ts
  induction ts with
  | nil => intro cs b rs e t ht; rw [rs.inil]; exact e
  | cons q ts ih =>
    intro cs b rs e t ht
    (refine obEEAA rs.icons ?_; rintro c cs' rfl rc rs)
    have e : (match instOf (fun a => (T.init a).isSome) p q with | some true => some true | some false => instAny (fun a => (T.init a).isSome) p ts | none => none) = some b := e
    show (match kitOne W.K t c with | some true => some true | some false => kitAny W.K t cs' | none => none) = some b
    cases e1 : instOf (fun a => (T.init a).isSome) p q with
    | none => rw [e1] at e; exact nosome e
    | some b1 =>
      refine obEA (kit_one hT r rc e1) fun t' e2 e3 => ?_
      rw [e1] at e
      rw [Option.some.inj (ht.symm.trans e2), e3]
      induction b1 using Bool.casesOn with
      | true => exact e
      | false => exact ih rs e t' e2
theorem inst_ty {p : PV} {b : Bool} {f : Addr → Bool} : ∀ {ts : List PV}, ts ≠ [] → instAny f p ts = some b → ∃ t, kitTy p = some t
  | [], h, _ => absurd rfl h
  | q :: ts, _, e => by
    induction p using PV.casesOn <;> first | exact ⟨_, rfl⟩ | (unfold instAny instOf at e; exact nosome e)
theorem log2_mono {a b : Nat} (h : a ≤ b) : a.log2 ≤ b.log2 := by
  by_cases ha : a = 0
  · subst ha; simp
  · exact (Nat.le_log2 (by omega)).mpr (Nat.le_trans (Nat.log2_self_le ha) h)
inductive VB (cl : Addr → Bool) : Bi → List PV → (Bool → PV → Prop) → Prop where
  | len {p : PV} {n : Nat} {K : Bool → PV → Prop} : plen p = some n → sfits n = true → K false (.int n) → VB cl .len [p] K
  | isT {p t : PV} {ts : List PV} {r : Bool} {K : Bool → PV → Prop} : instAny cl p (t :: ts) = some r → K false (.bool r) → VB cl .isinstance [p, .tup (t :: ts)] K
  | is1 {p t : PV} {r : Bool} {K : Bool → PV → Prop} : instOf cl p t = some r → K false (.bool r) → VB cl .isinstance [p, t] K
  | list {l : List PV} {K : Bool → PV → Prop} : sfits l.length = true → K false (.lst l) → VB cl .list [.lst l] K
  | dict {l : List (Str × PV)} {K : Bool → PV → Prop} : sfits l.length = true → K true (.dct l) → VB cl .dict [.dct l] K
  | dictL {l : List PV} {d : List (Str × PV)} {K : Bool → PV → Prop} : sfits l.length = true → pairsOf l [] = some d → K true (.dct d) → VB cl .dict [.lst l] K
  | tuple {l : List PV} {K : Bool → PV → Prop} : sfits l.length = true → K false (.tup l) → VB cl .tuple [.lst l] K
  | srt0 {K : Bool → PV → Prop} : K false (.lst []) → VB cl .sorted [.dct []] K
  | srt1 {x : Str} {p : PV} {K : Bool → PV → Prop} : K false (.lst [.str x]) → VB cl .sorted [.dct [(x, p)]] K
  | max {x y : Int} {K : Bool → PV → Prop} : K false (.int (if x < y then y else x)) → VB cl .max [.int x, .int y] K
  | int {x : Int} {K : Bool → PV → Prop} : K false (.int x) → VB cl .int [.int x] K
  | intB {x : Bool} {K : Bool → PV → Prop} : K false (.int (if x then 1 else 0)) → VB cl .int [.bool x] K
  | str {x : Int} {K : Bool → PV → Prop} : Nat.blt x.natAbs 1000000000 = true → K false (.str (strOfInt x)) → VB cl .str [.int x] K
section
variable {cl : Addr → Bool} {K : Bool → PV → Prop} {ps : List PV} {p q : PV}
theorem vb_len (h : vcBi cl .len [p] K) : VB cl .len [p] K := by
  have h : (match plen p with | some n => req (sfits n) (K false (.int n)) | none => False) := h
  cases e : plen p with
  | none => rw [e] at h; exact h.elim
  | some n => rw [e] at h; exact .len e (req_iff.mp h).1 (req_iff.mp h).2
theorem vb_isT {t : PV} {ts : List PV} (h : vcBi cl .isinstance [p, .tup (t :: ts)] K) : VB cl .isinstance [p, .tup (t :: ts)] K := by
  have h : (match instAny cl p (t :: ts) with | some r => K false (.bool r) | none => False) := h
  cases e : instAny cl p (t :: ts) with
  | none => rw [e] at h; exact h.elim
  | some n => rw [e] at h; exact .isT e h
theorem vb_is1 (h : (match instOf cl p q with | some r => K false (.bool r) | none => False)) : VB cl .isinstance [p, q] K := by
  cases e : instOf cl p q with
  | none => rw [e] at h; exact h.elim
  | some n => rw [e] at h; exact .is1 e h
theorem vb_is (h : vcBi cl .isinstance [p, q] K) : VB cl .isinstance [p, q] K := by
  induction q using PV.casesOn with
  | tup l => induction l using List.casesOn with
    | nil => exact vb_is1 h
    | cons t ts => exact vb_isT h
  | _ => exact vb_is1 h
theorem vb_list (h : vcBi cl .list [p] K) : VB cl .list [p] K := by
  induction p using PV.casesOn with
  | lst l => exact .list (req_iff.mp h).1 (req_iff.mp h).2
  | _ => exact False.elim h
theorem vb_dict (h : vcBi cl .dict [p] K) : VB cl .dict [p] K := by
  induction p using PV.casesOn with
  | dct l => exact .dict (req_iff.mp h).1 (req_iff.mp h).2
  | lst l =>
    obtain ⟨h1, h⟩ := req_iff.mp (show req (sfits l.length) (match pairsOf l [] with | some d => K true (.dct d) | none => False) from h)
    cases e : pairsOf l [] with
    | none => rw [e] at h; exact h.elim
    | some n => rw [e] at h; exact .dictL h1 e h
  | _ => exact False.elim h
theorem vb_tuple (h : vcBi cl .tuple [p] K) : VB cl .tuple [p] K := by
  induction p using PV.casesOn with
  | lst l => exact .tuple (req_iff.mp h).1 (req_iff.mp h).2
  | _ => exact False.elim h
theorem vb_sorted (h : vcBi cl .sorted [p] K) : VB cl .sorted [p] K := by
  induction p using PV.casesOn with
  | dct l => induction l using List.casesOn with
    | nil => exact .srt0 h
    | cons e l => induction l using List.casesOn with
      | nil => exact .srt1 h
      | cons _ _ => exact False.elim h
  | _ => exact False.elim h
theorem vb_max (h : vcBi cl .max [p, q] K) : VB cl .max [p, q] K := by
  induction p using PV.casesOn with
  | int x => induction q using PV.casesOn with
    | int y => exact .max h
    | _ => exact False.elim h
  | _ => exact False.elim h
theorem vb_int (h : vcBi cl .int [p] K) : VB cl .int [p] K := by
  induction p using PV.casesOn with
  | int x => exact .int h
  | bool x => exact .intB h
  | _ => exact False.elim h
theorem vb_str (h : vcBi cl .str [p] K) : VB cl .str [p] K := by
  induction p using PV.casesOn with
  | int x => exact .str (req_iff.mp h).1 (req_iff.mp h).2
  | _ => exact False.elim h
theorem vcBi_len {b : Bi} (h : vcBi cl b ps K) : (∃ p, ps = [p]) ∨ ∃ p q, ps = [p, q] := by
  match ps with
  | [p] => exact .inl ⟨_, rfl⟩
  | [p, q] => exact .inr ⟨_, _, rfl⟩
  | [] => exact False.elim (by induction b using Bi.casesOn <;> exact h)
  | p :: q :: r :: l => exact False.elim (by
      induction b using Bi.casesOn with
      | isinstance => induction q using PV.casesOn with
        | tup l => induction l using List.casesOn <;> exact h
        | _ => exact h
      | sorted => induction p using PV.casesOn with
        | dct l => induction l using List.casesOn with
          | nil => exact h
          | cons _ l => induction l using List.casesOn <;> exact h
        | _ => exact h
      | _ => first | exact h | (induction p using PV.casesOn <;> first | exact h | (induction q using PV.casesOn <;> exact h)))
theorem vcBi_inv {b : Bi} (h : vcBi cl b ps K) : VB cl b ps K := by
  rcases vcBi_len h with ⟨p, rfl⟩ | ⟨p, q, rfl⟩
  · induction b using Bi.casesOn with
    | len => exact vb_len h
    | list => exact vb_list h
    | dict => exact vb_dict h
    | tuple => exact vb_tuple h
    | sorted => exact vb_sorted h
    | int => exact vb_int h
    | str => exact vb_str h
    | _ => first | exact False.elim h | (exact False.elim (by induction p using PV.casesOn <;> exact h))
  · induction b using Bi.casesOn with
    | isinstance => exact vb_is h
    | max => exact vb_max h
    | sorted => exact False.elim (by
        induction p using PV.casesOn with
        | dct l => induction l using List.casesOn with
          | nil => exact h
          | cons _ l => induction l using List.casesOn <;> exact h
        | _ => exact h)
    | _ => first | exact False.elim h | (exact False.elim (by induction p using PV.casesOn <;> first | exact h | (cases q <;> exact h)))
end
theorem snd_bi (hT : TbOk W T) {b : Bi} {ps : List PV} {vs : List Value} {K : Bool → PV → St → Prop} {Q : Value → Shared → Prop} (h : vcBi (fun a => (T.init a).isSome) b ps fun o p => K o p σ) (am : Amb A d) (I : Inv W env sc σ H R ca s) (r : Reps W H ca vs ps) (P : PostO W env sc H R ca s K Q) :
    wpAny W.M A (call b.value vs) Q E s := by
  have le := I.core.le
  cases vcBi_inv h with
  | @len p n _ hn hz h =>
    (refine obEA r.one ?_; rintro _ rfl rr)
    have hz := sfits_le hz
    induction p using PV.casesOn with
    | tup l =>
      obtain rfl : l.length = n := Option.some.inj hn
      (refine obEEEAA rr.inv ?_; rintro a ws m rfl e r')
      refine PyProof.Rows.len_tuple (items := ws.toArray) ⟨_, le _ _ e, rfl, m, rfl⟩ ?_ ?_
      · rw [List.size_toArray, r'.length]; omega
      · rw [List.size_toArray, r'.length]; exact P.ofVal.now h I .int
    | lst l =>
      obtain rfl : l.length = n := Option.some.inj hn
      (refine obEEEAA rr.inv ?_; rintro a ws m rfl e r')
      refine PyProof.Rows.len_list (items := ws.toArray) ⟨_, le _ _ e, rfl, m, rfl⟩ ?_ ?_
      · rw [List.size_toArray, r'.length]; omega
      · rw [List.size_toArray, r'.length]; exact P.ofVal.now h I .int
    | _ => exact nosome hn
  | isT hb h =>
    (refine obEEAA r.two ?_; rintro _ _ rfl rr rt)
    (refine obEEEAA rt.inv ?_; rintro a ws m rfl e rs)
    obtain ⟨t, ht⟩ := inst_ty (List.cons_ne_nil _ _) hb
    refine obEAA (kit_of_rep le rr ht) fun Pk kx hp hx => ?_
    exact kia_tup kx I.in_ hp (le _ _ e) (kit_any hT rr rs hb t ht) hx fun tk => P.ofVal.now h I .bool
  | is1 hb h =>
    (refine obEEAA r.two ?_; rintro _ _ rfl rr rt)
    refine obEA (kit_one hT rr rt hb) fun t ht ho => ?_
    refine obEAA (kit_of_rep le rr ht) fun Pk kx hp hx => ?_
    exact kia_one kx I.in_ hp ho hx fun tk => P.ofVal.now h I .bool
  | list hz h =>
    (refine obEA r.one ?_; rintro _ rfl rr)
    (refine obEEEAA rr.inv ?_; rintro a ws m rfl e r')
    refine call_list_seq a (.inl rfl) (le _ _ e) rfl rfl (fun h' c' k g => ?_) (by rw [List.size_toArray, r'.length]; exact sfits_line hz)
    exact P.ofVal.new (t := s.toks) (o := listOf ws.toArray c') h I (get_size_none _) k g fun H'' hH e => .lst e (Reps.mono hH CLe.refl r')
  | dict hz h =>
    (refine obEA r.one ?_; rintro _ rfl rr)
    (refine obEEEAAAA rr.inv ?_; rintro a o kvs rfl z e dd re)
    refine PySem.kt_call_dict (knd := W.sk) z (dd.of (le _ _ e)) (by rw [re.length]; exact sfits_line hz) fun h' hd hs => ?_
    refine obEA (dict_obj hd) fun o' g' d' => ?_
    have k : ∀ b o, s.heap.get? b = some o → h'.get? b = some o := fun b o e => (hs.2 b (Nat.ne_of_lt (Heap.lt_size e))).trans (Heap.get?_push_of_some _ e)
    exact P.newOwn (t := s.toks) h I (get_size_none _) k g' ⟨_, d', re⟩ I.notSys
  | dictL hz hdd h =>
    (refine obEA r.one ?_; rintro _ rfl rr)
    (refine obEEEAA rr.inv ?_; rintro a ws m rfl e r')
    exact bi_dict_pairs hz hdd h am I e r' P
  | tuple hz h =>
    (refine obEA r.one ?_; rintro _ rfl rr)
    (refine obEEEAA rr.inv ?_; rintro a ws m rfl e r')
    refine call_tuple_list (items := ws.toArray) ⟨_, le _ _ e, rfl, m, rfl⟩ (fun h' k => ?_) (by rw [List.size_toArray, r'.length]; exact sfits_line hz)
    have hn : s.heap.get? h'.objs.size = none := by
      cases q : s.heap.get? h'.objs.size with
      | none => rfl
      | some o => exact absurd (Heap.lt_size (k _ _ q)) (Nat.lt_irrefl _)
    exact P.ofVal.new (t := s.toks) (o := { cls := .type "tuple", data := .seq ws.toArray }) h I hn (fun b o e => Heap.get?_push_of_some _ (k b o e)) (Heap.get?_push_size _ rfl) fun H'' hH e => .tup e (Reps.mono hH CLe.refl r')
  | srt0 h =>
    (refine obEA r.one ?_; rintro _ rfl rr)
    (refine obEEEAAAA rr.inv ?_; rintro a o kvs rfl z e dd re)
    exact bi_sorted (l := []) (by decide) h am I z e dd re P
  | @srt1 x p _ h =>
    (refine obEA r.one ?_; rintro _ rfl rr)
    (refine obEEEAAAA rr.inv ?_; rintro a o kvs rfl z e dd re)
    exact bi_sorted (l := [(x, p)]) (by simp) h am I z e dd re P
  | @max x y _ h =>
    (refine obEEAA r.icons ?_; rintro _ _ rfl rr rn)
    (refine obEEAA rn.icons ?_; rintro _ _ rfl r' rn2)
    obtain rfl := rn2.inil
    obtain ⟨_, rfl⟩ := rr.inv
    obtain ⟨_, rfl⟩ := r'.inv
    refine max_two_ints am.handled fun h' tk k => ?_
    have I' : Inv W env sc σ H R ca { s with heap := h', toks := tk } := (I.grow (s' := { s with heap := h' }) k).tok
    have P' := P.ofVal.after (H' := H) (R' := R) (ca' := ca) (s' := { s with heap := h', toks := tk }) (Ext.grow k) ⟨rfl, rfl, rfl⟩ rfl fun p σ (k : K false p σ) => k
    by_cases c : x < y
    · rw [if_pos c]; rw [if_pos c] at h; exact P'.now (s := { s with heap := h', toks := tk }) h I' .int
    · rw [if_neg c]; rw [if_neg c] at h; exact P'.now (s := { s with heap := h', toks := tk }) h I' .int
  | int h =>
    (refine obEA r.one ?_; rintro _ rfl rr)
    obtain ⟨_, rfl⟩ := rr.inv
    exact call_int_int (P.ofVal.now (t := s.toks) h I .int)
  | intB h =>
    (refine obEA r.one ?_; rintro _ rfl rr)
    obtain rfl := rr.inv
    exact call_int_bool (P.ofVal.now h I .int)
  | @str x _ hz h =>
    (refine obEA r.one ?_; rintro _ rfl rr)
    obtain ⟨t, rfl⟩ := rr.inv
    refine PySem.P.str_of_int ?_ (PostE.now P.ofVal h I .str)
    have hz : x.natAbs < 1000000000 := Nat.le_of_ble_eq_true hz
    exact Nat.lt_of_le_of_lt (log2_mono (Nat.le_of_lt hz)) (by decide)
end
end
section
section
variable {W : Wd} {T : Tb} {H H' : IH} {ca ca' : List Addr} {R R' : RM} {env : Env} {sc : SC} {σ : St} {s s' : Shared} {A : Around} {E : Value → Shared → Prop} {d : Nat}
variable {ev : Expr → St → (PV → St → Prop) → Prop}
theorem GR.cellPut {cs : List PV} {k : Nat} {a : Addr} {c c' : PV} (G : GR W R ca cs) (e : ca[k]? = some a) (ec : R a = some (.cont (.cell k) c)) (hk : k < cs.length) : GR W (R.set a (some (.cont (.cell k) c'))) ca (cs.set k c') := by
  refine ⟨by rw [List.length_set]; exact G.len, fun i b q e1 e2 => ?_, fun t ht => RM.set_of ec (G.tabs t ht) fun z => nomatch z⟩
  by_cases hi : i = k
  · subst hi
    rw [List.getElem?_set_self hk] at e2
    exact Option.some.inj (e.symm.trans e1) ▸ Option.some.inj e2 ▸ RM.set_self
  · rw [List.getElem?_set_ne (Ne.symm hi)] at e2
    refine RM.set_of ec (G.cell i b q e1 e2) fun z => hi ?_
    injection z with z
    injection z
set_option tactic.hygienic true in
theorem br_put {b : BR} {v : Value} {c c' : PV} {σ' : St} (I : Inv W env sc σ H R ca s) (r : BRel W H ca R env sc v b) (hc : b.cont σ = some c) (hp : b.put σ c' = some σ') :
    ∃ a, v = .ref a ∧ H a = none ∧ (∃ o, s.heap.get? a = some o ∧ ContObj W H ca o c ∧ (a == sysModules) = false) ∧ ∀ (s' : Shared) (o' : Obj), (∀ b o, b ≠ a → s.heap.get? b = some o → s'.heap.get? b = some o) → s'.heap.get? a = some o' → ContObj W H ca o' c' →
      ∃ R', Inv W env sc σ' H R' ca s' ∧ Ext H R s.heap ca H R' s'.heap ca ∧ R' env.locals = R env.locals := by
  induction b using BR.casesOn with
  | val p =>
    induction p using PV.casesOn with
    | cel k =>
      (refine obEA r.inv ?_; rintro a rfl e)
      have hp : (if k < σ.cs.length then some { σ with cs := σ.cs.set k c' } else none) = some σ' := hp
      have hk : k < σ.cs.length := by
        rcases Nat.lt_or_ge k σ.cs.length with q | q
        · exact q
        · rw [if_neg (Nat.not_lt.mpr q)] at hp; exact nosome hp
      rw [if_pos hk] at hp
      (replace hp := Option.some.inj hp; subst hp)
      have hc : σ.cs[k]? = some c := hc
      have ec := I.gr.cell k a c e hc
      refine ⟨a, rfl, I.core.hid _ _ ec, I.core.reg _ _ ec, fun s' o' k1 g x => ?_⟩
      have hat : MC.At W H ca s'.heap a (.cont (.cell k) c') := ⟨o', g, x, (I.core.reg _ _ ec).elim fun o q => q.2.2⟩
      refine obEA I.fr.ns fun m em u_ => ?_
      exact ⟨_, ⟨I.base, I.core.upd ec k1 hat, I.fr.mono HLe.refl CLe.refl fun b d q l u_ => RM.set_of ec q fun z => absurd (z ▸ l : (MC.cont (.cell k) c).loc = true) (fun z => nomatch z), I.gr.cellPut e ec hk⟩, Ext.upd (W := W) ec rfl k1 hat, (RM.set_ns ec em rfl).trans em.symm⟩
    | _ => exact nosome hp
  | own x =>
    (refine obAAEA (own_view I r hc) ?_; rintro _ _ a rfl e)
    (refine obAEA r fun hl m em hv => ?_; try clear r)
    have hp : some { σ with fr := fset σ.fr x ⟨.own, c'⟩ } = some σ' := hp
    (replace hp := Option.some.inj hp; subst hp)
    refine ⟨a, rfl, I.core.hid _ _ e, I.core.reg _ _ e, fun s' o' k1 g x' => ?_⟩
    have hat : MC.At W H ca s'.heap a (.cont (.var x) c') := ⟨o', g, x', (I.core.reg _ _ e).elim fun o q => q.2.2⟩
    have em' := RM.set_ns (oc := some (.cont (.var x) c')) e em rfl
    exact ⟨_, ⟨I.base, I.core.upd e k1 hat, I.fr.putL hl HLe.refl (.set e rfl) em em' (fun u_ u_ => rfl) hv (.inl ⟨a, rfl, RM.set_self⟩), I.gr.set e rfl⟩, Ext.upd (W := W) e rfl k1 hat, em'.trans em.symm⟩
theorem meth_go {o : Expr} {name : Str} {apos pos : Pos} {args : List Expr} {Q : Value → Shared → Prop} (hb : notSuper o = true) (hst : args.all notStar = true) (hfew : Nat.blt args.length 15 = true) (hline : (apos.endLine == pos.line) = true)
    (h : wpAny W.M A (eval o env) (fun ov s₁ => ∀ pl, wpAny W.M A (getMethod ov name pl) (fun fx s₂ => wpAny W.M A (callWith pos fx.1 fx.2 (backTo pos (starEach args env)) []) Q E s₂) E s₁) E s) :
    wpAny W.M A (eval (.Call (.Attribute o name apos) args [] pos) env) Q E s := by
  rw [arm_eval_Call, attributeBase_of hb]
  refine wpAny_bind (wpAny_mono h (fun ov s₁ h₁ => ?_) fun u_ u_ e => e)
  refine wpAny_bind (wpAny_standAt ?_)
  have hlt : args.length < 15 := Nat.le_of_ble_eq_true hfew
  have hall : (backTo pos (starEach args env)).all (fun x => !x.1) = true := by
    have := stars_any (env := env) (pos := pos) hst
    rw [List.all_eq_not_any_not]
    simp only [Bool.not_not]
    rw [show (fun x : Bool × Sem Value => x.1) = (·.1) from rfl, this]; rfl
  have hform : methodCallForm (args.length + ([] : List Keyword).length) (backTo pos (starEach args env)) (backToKw pos (keywordEach [] env)) = true := by
    unfold methodCallForm
    rw [hall, show backToKw pos (keywordEach [] env) = [] from rfl]
    simp
    omega
  have hpos : methodCallPos true o env apos pos = pure pos := by unfold methodCallPos; simp [hline]
  unfold methodCall
  rw [hform]
  refine wpAny_bind (wpAny_holding ?_)
  refine wpAny_mono (h₁ _) (fun fx s₂ h₂ => ?_) fun u_ u_ e => e
  exact wpAny_bind (wpAny_of_eq hpos h₂)
theorem keep_id {id : String} (h : Heap) (_ : True) : ∃ k, (k = Keeper.frame ∨ k = Keeper.machine ∨ k = Keeper.boundFrame) ∧ Looks W.M h (keeperOf (.builtin id)) k := ⟨.machine, .inr (.inl rfl), Looks.now⟩
noncomputable def MId (k : Nat) (name : Str) (id : String) : Prop := (k = 1 ∧ ((name = "append" ∧ id = "list.append") ∨ (name = "extend" ∧ id = "list.extend") ∨ (name = "pop" ∧ id = "list.pop"))) ∨ (k = 2 ∧ ((name = "update" ∧ id = "dict.update") ∨ (name = "get" ∧ id = "dict.get"))) ∨ (k = 3 ∧ ((name = "rfind" ∧ id = "str.rfind") ∨ (name = "isdigit" ∧ id = "str.isdigit")))
noncomputable def Bm (Ty : String) (name : Str) (id : String) : Prop := PlainAttrs Ty ∧ Slot Ty name id ∧ typeOf (.builtin id) = pure (.type "method_descriptor")
noncomputable def Vty (h : Heap) (v : Value) (Ty : String) : Prop := (∀ s : Shared, s.heap = h → s.TypeIs v Ty) ∧ ∀ a, v = .ref a → ∃ o, h.get? a = some o ∧ o.dict = none
theorem or2 {x a b : Str} (h : (x == a || x == b) = true) : x = a ∨ x = b := (Bool.or_eq_true_iff.mp h).imp eq_of_beq eq_of_beq
theorem or3 {x a b c : Str} (h : (x == a || (x == b || x == c)) = true) : x = a ∨ x = b ∨ x = c := (Bool.or_eq_true_iff.mp h).imp eq_of_beq or2
theorem bm_list {name : Str} (h : name = "append" ∨ name = "extend" ∨ name = "pop") : ∃ id, Bm "list" name id ∧ MId 1 name id := by
  rcases h with rfl | rfl | rfl
  · exact ⟨_, ⟨PySem.F.plainAttrs_list, PySem.F.slot_list_append, PySem.F.type_list_append⟩, .inl ⟨rfl, .inl ⟨rfl, rfl⟩⟩⟩
  · exact ⟨_, ⟨PySem.F.plainAttrs_list, PySem.F.slot_list_extend, PySem.F.type_list_extend⟩, .inl ⟨rfl, .inr (.inl ⟨rfl, rfl⟩)⟩⟩
  · exact ⟨_, ⟨PySem.F.plainAttrs_list, PySem.F.slot_list_pop, PySem.F.type_list_pop⟩, .inl ⟨rfl, .inr (.inr ⟨rfl, rfl⟩)⟩⟩
theorem bm_dict {name : Str} (h : name = "update" ∨ name = "get") : ∃ id, Bm "dict" name id ∧ MId 2 name id := by
  rcases h with rfl | rfl
  · exact ⟨_, ⟨PySem.F.plainAttrs_dict, PySem.F.slot_dict_update, PySem.F.type_dict_update⟩, .inr (.inl ⟨rfl, .inl ⟨rfl, rfl⟩⟩)⟩
  · exact ⟨_, ⟨PySem.F.plainAttrs_dict, PySem.F.slot_dict_get, PySem.F.type_dict_get⟩, .inr (.inl ⟨rfl, .inr ⟨rfl, rfl⟩⟩)⟩
theorem bm_str {name : Str} (h : name = "rfind" ∨ name = "isdigit") : ∃ id, Bm "str" name id ∧ MId 3 name id := by
  rcases h with rfl | rfl
  · exact ⟨_, ⟨PySem.F.plainAttrs_str, PySem.F.slot_str_rfind, PySem.F.type_str_rfind⟩, .inr (.inr ⟨rfl, .inl ⟨rfl, rfl⟩⟩)⟩
  · exact ⟨_, ⟨PySem.F.plainAttrs_str, PySem.F.slot_str_isdigit, PySem.F.type_str_isdigit⟩, .inr (.inr ⟨rfl, .inr ⟨rfl, rfl⟩⟩)⟩
theorem vty_ref {h : Heap} {a : Addr} {o : Obj} {Ty : String} (g : h.get? a = some o) (n : o.dict = none) (hT : ∀ s : Shared, s.heap = h → s.TypeIs (.ref a) Ty) : Vty h (.ref a) Ty := ⟨hT, fun b e => ⟨o, (Value.ref.inj e) ▸ g, n⟩⟩
theorem view_method {v : Value} {c : PV} {name : Str} {h : Heap} (le : Le H h) (V : View W H ca h v c) (hn : turnOk c name = true ∨ methOk c name = true) : ∃ Ty id, Vty h v Ty ∧ Bm Ty name id ∧ MId (mkind c) name id := by
  induction c using PV.casesOn with
  | lst l =>
    (refine obEEEAA (V.lst le) ?_; rintro a vs n rfl g r)
    obtain ⟨id, q⟩ := bm_list (or3 (hn.elim id fun z => absurd z Bool.false_ne_true))
    exact ⟨_, id, vty_ref g rfl fun s e => ⟨_, e ▸ g, rfl⟩, q⟩
  | dct l =>
    (refine obEEEAAAA (V.dct le) ?_; rintro a o kvs rfl z g dd r)
    obtain ⟨id, q⟩ := bm_dict (hn.imp eq_of_beq eq_of_beq)
    exact ⟨_, id, vty_ref g dd.1.2.1 fun s e => (dd.of (e ▸ g : s.heap.get? a = some o)).typeIs, q⟩
  | str x =>
    obtain ⟨t, rfl⟩ := (V.plain rfl).inv
    obtain ⟨id, q⟩ := bm_str (or2 (hn.elim (fun z => absurd z Bool.false_ne_true) id))
    exact ⟨_, id, ⟨fun s e => typeIs_str _ _ _, fun a e => nomatch e⟩, q⟩
  | _ => exact absurd (hn.elim id id) Bool.false_ne_true
end
end
section
section
variable {W : Wd} {T : Tb} {H H' : IH} {ca ca' : List Addr} {R R' : RM} {env : Env} {sc : SC} {σ : St} {s s' : Shared} {A : Around} {E : Value → Shared → Prop} {d : Nat}
variable {ev : Expr → St → (PV → St → Prop) → Prop}
noncomputable def IdOf (k : Nat) (name : Str) (id : String) : Prop :=
  (k = 1 ∧ ((name = "append" ∧ id = "list.append") ∨ (name = "extend" ∧ id = "list.extend") ∨ (name = "pop" ∧ id = "list.pop"))) ∨ (k = 2 ∧ ((name = "update" ∧ id = "dict.update") ∨ (name = "get" ∧ id = "dict.get"))) ∨ (k = 3 ∧ ((name = "rfind" ∧ id = "str.rfind") ∨ (name = "isdigit" ∧ id = "str.isdigit")))
theorem reps_push {vs : List Value} {l : List PV} {v : Value} {p : PV} (r : Reps W H ca vs l) (rv : Rep W H ca v p) : Reps W H ca (vs ++ [v]) (l ++ [p]) := reps_app r (.cons rv .nil)
theorem reps_last {vs : List Value} {l : List PV} {p : PV} (r : Reps W H ca vs l) (h : l.getLast? = some p) : ∃ ws v, vs = ws ++ [v] ∧ Rep W H ca v p ∧ Reps W H ca ws l.dropLast := by
  induction l generalizing vs with
  | nil => exact nosome h
  | cons q l ih =>
    cases r with
    | cons rv r =>
      induction l using List.casesOn with
      | nil => cases r; (replace h := Option.some.inj h; subst h); exact ⟨[], _, rfl, rv, .nil⟩
      | cons q2 l =>
        refine obEEAA (ih r (by simpa using h)) fun ws v e r1 r2 => ?_
        exact ⟨_ :: ws, v, by rw [e]; rfl, r1, .cons rv r2⟩
theorem nms_ne : ("append" : Str) ≠ "extend" ∧ ("append" : Str) ≠ "pop" ∧ ("extend" : Str) ≠ "pop" ∧ ("update" : Str) ≠ "get" ∧ ("rfind" : Str) ≠ "isdigit" := by decide +kernel
theorem IdOf.one {name : Str} {id : String} (h : IdOf 1 name id) : (name = "append" ∧ id = "list.append") ∨ (name = "extend" ∧ id = "list.extend") ∨ (name = "pop" ∧ id = "list.pop") := by
  rcases h with h | ⟨k, _⟩ | ⟨k, _⟩
  · exact h.2
  · cases k
  · cases k
theorem IdOf.two {name : Str} {id : String} (h : IdOf 2 name id) : (name = "update" ∧ id = "dict.update") ∨ (name = "get" ∧ id = "dict.get") := by
  rcases h with ⟨k, _⟩ | h | ⟨k, _⟩
  · cases k
  · exact h.2
  · cases k
theorem IdOf.three {name : Str} {id : String} (h : IdOf 3 name id) : (name = "rfind" ∧ id = "str.rfind") ∨ (name = "isdigit" ∧ id = "str.isdigit") := by
  rcases h with ⟨k, _⟩ | ⟨k, _⟩ | h
  · cases k
  · cases k
  · exact h.2
theorem id_append {id : String} (h : IdOf 1 "append" id) : id = "list.append" := by
  rcases h.one with ⟨_, e⟩ | ⟨e, _⟩ | ⟨e, _⟩
  · exact e
  · exact absurd e nms_ne.1
  · exact absurd e nms_ne.2.1
theorem id_extend {id : String} (h : IdOf 1 "extend" id) : id = "list.extend" := by
  rcases h.one with ⟨e, _⟩ | ⟨_, e⟩ | ⟨e, _⟩
  · exact absurd e.symm nms_ne.1
  · exact e
  · exact absurd e nms_ne.2.2.1
theorem id_pop {id : String} (h : IdOf 1 "pop" id) : id = "list.pop" := by
  rcases h.one with ⟨e, _⟩ | ⟨e, _⟩ | ⟨_, e⟩
  · exact absurd e.symm nms_ne.2.1
  · exact absurd e.symm nms_ne.2.2.1
  · exact e
theorem id_update {id : String} (h : IdOf 2 "update" id) : id = "dict.update" := by
  rcases h.two with ⟨_, e⟩ | ⟨e, _⟩
  · exact e
  · exact absurd e nms_ne.2.2.2.1
theorem id_get {id : String} (h : IdOf 2 "get" id) : id = "dict.get" := by
  rcases h.two with ⟨e, _⟩ | ⟨_, e⟩
  · exact absurd e.symm nms_ne.2.2.2.1
  · exact e
theorem id_rfind {id : String} (h : IdOf 3 "rfind" id) : id = "str.rfind" := by
  rcases h.three with ⟨_, e⟩ | ⟨e, _⟩
  · exact e
  · exact absurd e nms_ne.2.2.2.2
theorem id_isdigit {id : String} (h : IdOf 3 "isdigit" id) : id = "str.isdigit" := by
  rcases h.three with ⟨e, _⟩ | ⟨_, e⟩
  · exact absurd e.symm nms_ne.2.2.2.2
  · exact e
inductive VTn (K : PV → PV → Prop) : PV → Str → List PV → Prop where
  | append {l : List PV} {q : PV} : sfits (l.length + 1) = true → K (.lst (l ++ [q])) .none → VTn K (.lst l) "append" [q]
  | extend {l m : List PV} : sfits (l.length + m.length) = true → K (.lst (l ++ m)) .none → VTn K (.lst l) "extend" [.lst m]
  | pop {l : List PV} {q : PV} : sfits l.length = true → l.getLast? = some q → K (.lst l.dropLast) q → VTn K (.lst l) "pop" []
  | update {l m : List (Str × PV)} : sfits (l.length + m.length) = true → K (.dct (m.foldl (fun d e => dset d e.1 e.2) l)) .none → VTn K (.dct l) "update" [.dct m]
theorem VTn.mono {K K' : PV → PV → Prop} {c : PV} {name : Str} {ps : List PV} (hk : ∀ c r, K c r → K' c r) (h : VTn K c name ps) : VTn K' c name ps := by
  cases h with
  | append a b => exact .append a (hk _ _ b)
  | extend a b => exact .extend a (hk _ _ b)
  | pop a b c => exact .pop a b (hk _ _ c)
  | update a b => exact .update a (hk _ _ b)
theorem beq_name {x y : Str} (h : (x == y) = true) : x = y := by simpa using h
theorem turn1 {K : PV → PV → Prop} {l : List PV} {name : Str} {q : PV} (h : vcTurn (.lst l) name [q] K) : VTn K (.lst l) name [q] := by
  have h : (if name = "append" then req (sfits (l.length + 1)) (K (.lst (l ++ [q])) .none)
      else req (name == "extend") (match (generalizing := false) q with | .lst m => req (sfits (l.length + m.length)) (K (.lst (l ++ m)) .none) | _ => False)) := h
  by_cases e : name = "append"
  · rw [if_pos e] at h
    subst e
    obtain ⟨a, b⟩ := req_iff.mp h
    exact .append a b
  · rw [if_neg e] at h
    obtain ⟨a, h1⟩ := req_iff.mp h
    clear h
    obtain rfl := beq_name a
    induction q using PV.casesOn with
    | lst m => obtain ⟨b, c⟩ := req_iff.mp h1; exact .extend b c
    | _ => exact False.elim h1
theorem turn0 {K : PV → PV → Prop} {l : List PV} {name : Str} (h : vcTurn (.lst l) name [] K) : VTn K (.lst l) name [] := by
  obtain ⟨a, h1⟩ := req_iff.mp h
  obtain ⟨b, h2⟩ := req_iff.mp h1
  clear h h1
  obtain rfl := beq_name a
  cases e : l.getLast? with
  | none => rw [e] at h2; exact False.elim h2
  | some q => rw [e] at h2; exact .pop b e h2
theorem turn2 {K : PV → PV → Prop} {l : List (Str × PV)} {name : Str} {q : PV} (h : vcTurn (.dct l) name [q] K) : VTn K (.dct l) name [q] := by
  induction q using PV.casesOn with
  | dct m =>
    obtain ⟨a, h1⟩ := req_iff.mp h
    obtain ⟨b, h2⟩ := req_iff.mp h1
    obtain rfl := beq_name a
    exact .update b h2
  | _ => exact False.elim h
theorem vcTurn_inv {K : PV → PV → Prop} {c : PV} {name : Str} {ps : List PV} (h : vcTurn c name ps K) : VTn K c name ps := by
  induction c using PV.casesOn with
  | lst l => induction ps using List.casesOn with
    | nil => exact turn0 h
    | cons q ps => induction ps using List.casesOn with
      | nil => exact turn1 h
      | cons _ _ => exact False.elim h
  | dct l => induction ps using List.casesOn with
    | nil => exact False.elim h
    | cons q ps => induction ps using List.casesOn with
      | nil => exact turn2 h
      | cons r ps => induction q using PV.casesOn <;> exact False.elim h
  | _ => exact False.elim h
theorem reps_one {vs : List Value} {p : PV} (r : Reps W H ca vs [p]) : ∃ v, vs = [v] ∧ Rep W H ca v p := by
  (refine obEEAA r.icons ?_; rintro v ws rfl a r)
  obtain rfl := r.inil
  exact ⟨v, rfl, a⟩
theorem seq_up {h : Heap} {a : Addr} {xs : Array Value} {n : Nat} (f : Array Value → Array Value) (g : h.get? a = some (listOf xs n)) : (∃ m, (h.update a (Obj.mapSeq f)).get? a = some (listOf (f xs) m)) ∧ ∀ b o, b ≠ a → h.get? b = some o → (h.update a (Obj.mapSeq f)).get? b = some o :=
  ⟨⟨_, get?_update_seq g f⟩, fun b o hb e => (Heap.get?_update_other _ _ (Ne.symm hb)).trans e⟩
noncomputable def TurnFin (W : Wd) (H : IH) (ca : List Addr) (s : Shared) (v : Value) (Q : Value → Shared → Prop) (K : PV → PV → Prop) : Prop :=
  ∀ (c' p : PV) (u : Value) (a : Addr) (o' : Obj) (h' : Heap), K c' p → v = .ref a → (∀ b o, b ≠ a → s.heap.get? b = some o → h'.get? b = some o) → h'.get? a = some o' → ContObj W H ca o' c' → Rep W H ca u p → Q u { s with heap := h' }
theorem snd_append {K : PV → PV → Prop} {l : List PV} {q : PV} {a : Addr} {ws vs : List Value} {n : Nat} {Q : Value → Shared → Prop} (fin : TurnFin W H ca s (.ref a) Q K) (hz : sfits (l.length + 1) = true) (k : K (.lst (l ++ [q])) .none) (g : s.heap.get? a = some (listOf ws.toArray n)) (rw' : Reps W H ca ws l) (rs : Reps W H ca vs [q]) : wpAny W.M A (call (.builtin "list.append") (.ref a :: vs)) Q E s := by
  (refine obEA (reps_one rs) ?_; rintro u rfl rq)
  have hz := sfits_line hz
  have hs : ws.toArray.size ≤ sizeLine := by rw [List.size_toArray, rw'.length]; exact Nat.le_of_succ_le hz
  obtain ⟨⟨m, g1⟩, k1⟩ := seq_up (fun x => x.push u) g
  exact call_meets PySem.F.slot_list_append ⟨_, g, rfl⟩ PySem.F.entry_list_append (PySem.F.args_list_append_2 _ _) (AutoListH.list_append_list_val_0 a ws.toArray n _ hs) ⟨g, fin _ _ _ a _ _ k rfl k1 g1 ⟨_, m, rfl, by simpa using reps_push rw' rq⟩ .none⟩
theorem snd_extend {K : PV → PV → Prop} {l m : List PV} {a : Addr} {ws vs : List Value} {n : Nat} {Q : Value → Shared → Prop} (fin : TurnFin W H ca s (.ref a) Q K) (le : Le H s.heap) (hz : sfits (l.length + m.length) = true) (k : K (.lst (l ++ m)) .none) (g : s.heap.get? a = some (listOf ws.toArray n)) (rw' : Reps W H ca ws l) (rs : Reps W H ca vs [.lst m]) : wpAny W.M A (call (.builtin "list.extend") (.ref a :: vs)) Q E s := by
  (refine obEA (reps_one rs) ?_; rintro u rfl rq)
  (refine obEEEAA rq.inv ?_; rintro b2 us n2 rfl e2 r2)
  have hz := sfits_line hz
  have hs : ws.toArray.size + us.toArray.size ≤ sizeLine := by rw [List.size_toArray, List.size_toArray, rw'.length, r2.length]; exact hz
  obtain ⟨⟨m', g1⟩, k1⟩ := seq_up (fun x => x ++ us.toArray) g
  exact call_meets PySem.F.slot_list_extend ⟨_, g, rfl⟩ PySem.F.entry_list_extend (PySem.F.args_list_extend_2 _ _) (AutoSeq1.list_extend_list_list_0 a ws.toArray n b2 us.toArray n2 (by simp [Builtin.List.listTooLong]; intro _; simpa using hs) (by omega) (by omega)) ⟨g, le _ _ e2, fin _ _ _ a _ _ k rfl k1 g1 ⟨_, m', rfl, by simpa using reps_app rw' r2⟩ .none⟩
theorem snd_pop {K : PV → PV → Prop} {l : List PV} {q : PV} {a : Addr} {ws vs : List Value} {n : Nat} {Q : Value → Shared → Prop} (fin : TurnFin W H ca s (.ref a) Q K) (hz : sfits l.length = true) (hq : l.getLast? = some q) (k : K (.lst l.dropLast) q) (g : s.heap.get? a = some (listOf ws.toArray n)) (rw' : Reps W H ca ws l) (rs : Reps W H ca vs []) : wpAny W.M A (call (.builtin "list.pop") (.ref a :: vs)) Q E s := by
  obtain rfl := rs.inil
  (refine obEEAA (reps_last rw' hq) ?_; rintro us u rfl ru rus)
  have hk : (us ++ [u]).toArray.size - 1 = us.length := by rw [List.size_toArray, List.length_append]; rfl
  have hy : (us ++ [u]).toArray[(us ++ [u]).toArray.size - 1]? = some u := by rw [hk]; simp
  obtain ⟨⟨m, g1⟩, k1⟩ := seq_up (fun xs => xs.eraseIdxIfInBounds ((us ++ [u]).toArray.size - 1)) g
  have he : (us ++ [u]).toArray.eraseIdxIfInBounds ((us ++ [u]).toArray.size - 1) = us.toArray := by rw [hk, kl_erase, List.append_nil]
  rw [he] at g1
  exact call_meets PySem.F.slot_list_pop ⟨_, g, rfl⟩ PySem.F.entry_list_pop (PySem.F.args_list_pop_1 _) (PySem.MeetsSeq.list_pop_last a _ n u hy (by rw [List.size_toArray, rw'.length]; exact sfits_line hz)) ⟨g, fin _ _ _ a _ _ k rfl k1 g1 ⟨_, m, rfl, by simpa using rus⟩ ru⟩
theorem snd_update {K : PV → PV → Prop} {l m : List (Str × PV)} {a : Addr} {o : Obj} {kvs : List (Str × Value)} {vs : List Value} {Q : Value → Shared → Prop} (fin : TurnFin W H ca s (.ref a) Q K) (le : Le H s.heap) (hn : H a = none) (hz : sfits (l.length + m.length) = true) (k : K (.dct (m.foldl (fun d e => dset d e.1 e.2) l)) .none) (g : s.heap.get? a = some o) (dd : DictObj W.sk o kvs) (re : Ents W H ca kvs l) (rs : Reps W H ca vs [.dct m]) : wpAny W.M A (call (.builtin "dict.update") (.ref a :: vs)) Q E s := by
  (refine obEA (reps_one rs) ?_; rintro u rfl rq)
  (refine obEEEAAAA rq.inv ?_; rintro b2 o2 kvs2 rfl z2 e2 d2 r2)
  have hne : a ≠ b2 := fun q => by rw [← q, hn] at e2; exact nosome e2
  refine call_meetsIn PySem.F.slot_dict_update (dd.of g).typeIs PySem.F.entry_dict_update (PySem.F.args_dict_update_2 _ _) (meets_dict_update W.sk a b2 hne z2) ⟨kvs, kvs2, dd.of g, d2.of (le _ _ e2), by rw [re.length, r2.length]; exact sfits_line hz, fun h' hd' u_ hs' => ?_⟩
  refine obEA (dict_obj hd') fun o' g' d' => ?_
  refine obEEEAAAAA (dd.of g) fun u_ u_ u_ u_ u_ u_ u_ u_ nd => ?_
  exact fin _ _ _ a o' h' k rfl (fun b o hb e => (hs'.2 b hb).trans e) g' ⟨_, d', Ents.merge r2 re nd⟩ .none
theorem snd_turn {b : BR} {v : Value} {c : PV} {name : Str} {id : String} {ps : List PV} {vs : List Value} {K : PV → St → Prop} {Q : Value → Shared → Prop} (h : VTn (fun c' r => ∀ σ', b.put σ c' = some σ' → K r σ') c name ps) (hput : ∀ c', ∃ σ', b.put σ c' = some σ') (I : Inv W env sc σ H R ca s)
    (r : BRel W H ca R env sc v b) (hc : b.cont σ = some c) (rs : Reps W H ca vs ps) (hid : IdOf (mkind c) name id) (P : PostE W env sc H R ca s K Q) : wpAny W.M A (call (.builtin id) (v :: vs)) Q E s := by
  have fin : TurnFin W H ca s v Q fun c' r => ∀ σ', b.put σ c' = some σ' → K r σ' := by
    intro c' p u a o' h' hK hv k g x ru
    obtain ⟨σ', hp⟩ := hput c'
    refine obEAAA (br_put I r hc hp) fun a' e u_ u_ rest => ?_
    rw [hv] at e; cases e
    refine obEAA (rest { s with heap := h' } o' k g x) fun R' I' X l => ?_
    exact P u p σ' H R' ca _ (hK σ' hp) I' ru X ⟨rfl, rfl, rfl⟩ l
  have V := br_view I r hc
  cases h with
  | append hz k =>
    obtain rfl := id_append hid
    (refine obEEEAA (V.lst I.core.le) ?_; rintro a ws n rfl g rw')
    exact snd_append fin hz k g rw' rs
  | extend hz k =>
    obtain rfl := id_extend hid
    (refine obEEEAA (V.lst I.core.le) ?_; rintro a ws n rfl g rw')
    exact snd_extend fin I.core.le hz k g rw' rs
  | pop hz hq k =>
    obtain rfl := id_pop hid
    (refine obEEEAA (V.lst I.core.le) ?_; rintro a ws n rfl g rw')
    exact snd_pop fin hz hq k g rw' rs
  | @update l m hz k =>
    obtain rfl := id_update hid
    (refine obEEEAAAA (V.dct I.core.le) ?_; rintro a o kvs rfl z g dd re)
    obtain ⟨σ', hp⟩ := hput (.dct l)
    refine obEAA (br_put I r hc hp) fun a' e hn u_ => ?_
    cases e
    exact snd_update fin I.core.le hn hz k g dd re rs
inductive VMe (K : PV → Prop) : PV → Str → List PV → Prop where
  | get {l : List (Str × PV)} {k : Str} : K ((dget l k).getD .none) → VMe K (.dct l) "get" [.str k]
  | getD {l : List (Str × PV)} {k : Str} {d : PV} : K ((dget l k).getD d) → VMe K (.dct l) "get" [.str k, d]
  | rfind {x : Str} : asciiOnly x.cps.toList = true → sfits x.length = true → K (.int (rfindSign 46 x.cps.toList 0 (-1))) → VMe K (.str x) "rfind" [.str ⟨#[46]⟩]
  | digit {x : Str} : asciiOnly x.cps.toList = true → sfits x.length = true → K (.bool (digitsOnly x.cps.toList)) → VMe K (.str x) "isdigit" []
theorem meth_d {K : PV → Prop} {l : List (Str × PV)} {name : Str} {k : Str} {r : List PV} (h : vcMeth (.dct l) name (.str k :: r) K) : VMe K (.dct l) name (.str k :: r) := by
  induction r using List.casesOn with
  | nil =>
    obtain ⟨a, h1⟩ := req_iff.mp h
    obtain rfl := beq_name a
    exact .get (getK_eq h1)
  | cons d r => induction r using List.casesOn with
    | nil =>
      obtain ⟨a, h1⟩ := req_iff.mp h
      obtain rfl := beq_name a
      exact .getD (getK_eq h1)
    | cons _ _ => exact False.elim h
theorem meth_s {K : PV → Prop} {x : Str} {name : Str} {q : PV} (h : vcMeth (.str x) name [q] K) : VMe K (.str x) name [q] := by
  induction q using PV.casesOn with
  | str y =>
    obtain ⟨a, h1⟩ := req_iff.mp h
    obtain ⟨b, h2⟩ := req_iff.mp h1
    obtain ⟨c, h3⟩ := req_iff.mp h2
    obtain ⟨d, h4⟩ := req_iff.mp h3
    obtain rfl := beq_name a
    obtain rfl := of_decide_eq_true b
    exact .rfind c d h4
  | _ => exact False.elim h
theorem meth_0 {K : PV → Prop} {x : Str} {name : Str} (h : vcMeth (.str x) name [] K) : VMe K (.str x) name [] := by
  obtain ⟨a, h1⟩ := req_iff.mp h
  obtain ⟨c, h2⟩ := req_iff.mp h1
  obtain ⟨d, h3⟩ := req_iff.mp h2
  obtain rfl := beq_name a
  exact .digit c d h3
theorem vcMeth_inv {K : PV → Prop} {c : PV} {name : Str} {ps : List PV} (h : vcMeth c name ps K) : VMe K c name ps := by
  induction c using PV.casesOn with
  | dct l => induction ps using List.casesOn with
    | nil => exact False.elim h
    | cons q r => induction q using PV.casesOn with
      | str k => exact meth_d h
      | _ => induction r using List.casesOn with
        | nil => exact False.elim h
        | cons _ r => induction r using List.casesOn <;> exact False.elim h
  | str x => induction ps using List.casesOn with
    | nil => exact meth_0 h
    | cons q r => induction r using List.casesOn with
      | nil => exact meth_s h
      | cons _ _ => induction q using PV.casesOn <;> exact False.elim h
  | _ => exact False.elim h
theorem ents_getD {kvs : List (Str × Value)} {l : List (Str × PV)} (re : Ents W H ca kvs l) (k : Str) {u : Value} {p : PV} (r0 : Rep W H ca u p) : Rep W H ca ((valueAt kvs k).getD u) ((dget l k).getD p) := by
  obtain ⟨e1, e2⟩ := re.get k
  cases q : valueAt kvs k with
  | none => rw [e2 q]; exact r0
  | some u => refine obEA (e1 u q) fun p e3 e4 => ?_; rw [e3]; exact e4
theorem snd_methv {v : Value} {c : PV} {name : Str} {id : String} {ps : List PV} {vs : List Value} {K : PV → St → Prop} {Q : Value → Shared → Prop} (h : vcMeth c name ps (atSt K σ)) (I : Inv W env sc σ H R ca s)
    (V : View W H ca s.heap v c) (rs : Reps W H ca vs ps) (hid : IdOf (mkind c) name id) (P : PostE W env sc H R ca s K Q) : wpAny W.M A (call (.builtin id) (v :: vs)) Q E s := by
  cases vcMeth_inv h with
  | @get l k k0 =>
    obtain rfl := id_get hid
    (refine obEA (reps_one rs) ?_; rintro u rfl rq)
    obtain ⟨t, rfl⟩ := rq.inv
    (refine obEEEAAAA (V.dct I.core.le) ?_; rintro a o kvs rfl z g dd re)
    exact call_meetsIn PySem.F.slot_dict_get (dd.of g).typeIs PySem.F.entry_dict_get (PySem.F.args_dict_get_2 _ _) (meets_dict_get W.sk a (strKind_is W.prog W.w k _) z) ⟨_, (dd.of g).mapOf, P.now k0 I (ents_getD re k .none)⟩
  | @getD l k dflt k0 =>
    obtain rfl := id_get hid
    (refine obEEAA rs.icons ?_; rintro u us rfl rq rs)
    (refine obEA (reps_one rs) ?_; rintro w rfl rd)
    obtain ⟨t, rfl⟩ := rq.inv
    (refine obEEEAAAA (V.dct I.core.le) ?_; rintro a o kvs rfl z g dd re)
    exact call_meetsIn PySem.F.slot_dict_get (dd.of g).typeIs PySem.F.entry_dict_get (PySem.F.args_dict_get_3 _ _ _) (meets_dict_get_default W.sk a (strKind_is W.prog W.w k _) z _) ⟨_, (dd.of g).mapOf, P.now k0 I (ents_getD re k rd)⟩
  | rfind ha hz k0 =>
    obtain rfl := id_rfind hid
    (refine obEA (reps_one rs) ?_; rintro u rfl rq)
    obtain ⟨t, rfl⟩ := rq.inv
    obtain ⟨t2, rfl⟩ := (V.plain rfl).inv
    refine PySem.SC.rfind ?_
    rw [rfind_dot]
    exact P.now k0 I .int
  | @digit x ha hz k0 =>
    obtain rfl := id_isdigit hid
    obtain rfl := rs.inil
    obtain ⟨t2, rfl⟩ := (V.plain rfl).inv
    refine PySem.SC.isdigit ?_
    rw [isdigit_eq x ha]
    exact P.now (t := s.toks) k0 I .bool
end
end
section
section
variable {W : Wd} {T : Tb} {H H' : IH} {ca ca' : List Addr} {R R' : RM} {env : Env} {sc : SC} {σ : St} {s s' : Shared} {A : Around} {E : Value → Shared → Prop} {d : Nat}
variable {ev : Expr → St → (PV → St → Prop) → Prop} {C : Oracle}
theorem lookIn_none {h : Heap} {a : Addr} {o : Obj} {kvs : List (Str × Value)} {x : Str} (g : h.get? a = some o) (d : DictObj W.sk o kvs) (e : valueAt kvs x = none) : lookIn x o = some none := by
  refine obEEEAAAA ((d.of g).mapOf) fun o' es ep e1 u_ hdat hk f => ?_
  rw [g] at e1; (replace e1 := Option.some.inj e1; subst e1)
  have key : findBy Value.isStrOf es x = none := by rw [← e, ← f x]; rfl
  unfold lookIn
  rw [hdat]
  unfold findBy at key
  have key := Option.map_eq_none_iff.mp key
  have q : (fun d : DictEntry => d.key.isStr x) = fun d => Value.isStrOf x d.key := funext fun d => isStr_of x d.key
  dsimp only
  rw [q, Array.find?_toList, key]
  dsimp only
  have hno : es.toList.any (·.refKey) = false := by
    rw [List.any_eq_false]
    intro e he
    refine obEA (hk e (by simpa using he)) fun k h1 u_ => ?_
    obtain ⟨t, ht⟩ := Value.isStrOf_shape h1
    unfold DictEntry.refKey
    rw [ht]; exact Bool.false_ne_true
  rw [hno]; rfl
theorem turn_kind {c : PV} {name : Str} (h : turnOk c name = true) : mkind c = 1 ∨ mkind c = 2 := by
  induction c using PV.casesOn with
  | lst _ => exact .inl rfl
  | dct _ => exact .inr rfl
  | _ => exact absurd h Bool.false_ne_true
theorem kind_cont {c : PV} (h : mkind c = 1 ∨ mkind c = 2) : isCont c = true := by
  induction c using PV.casesOn with
  | lst _ => rfl
  | dct _ => rfl
  | str _ => rcases h with h | h <;> cases h
  | _ => rcases h with h | h <;> cases h
theorem cont_own {x : Str} {c : PV} (hx : fget σ.fr x = some ⟨.own, c⟩) (h : isCont c = true) : BR.cont σ (.own x) = some c := by
  show (match fget σ.fr x with
    | some ⟨.own, p⟩ => if isCont p then some p else none
    | _ => none) = some c
  rw [hx]
  exact if_pos h
theorem own_inv {o : Option Bind} {G : PV → Prop} (h : match o with
    | some ⟨.own, c0⟩ => G c0
    | _ => False) : ∃ c, o = some ⟨.own, c⟩ ∧ G c := by
  induction o using Option.casesOn with
  | none => exact False.elim h
  | some b =>
    obtain ⟨m, c⟩ := b
    induction m using Mode.casesOn with
    | own => exact ⟨c, rfl, h⟩
    | _ => exact False.elim h
theorem kTurnM_inv {x : Str} {c0 : PV} {name : Str} {K : KtV} {ps : List PV} (h : kTurnM x c0 name K ps σ) : ∃ c, fget σ.fr x = some ⟨.own, c⟩ ∧ mkind c0 = mkind c ∧ vcTurn c name ps (kPut x σ K) := by
  refine obEA (own_inv (G := fun c => req (mkind c0 == mkind c) (vcTurn c name ps (kPut x σ K))) h) fun c e h => ?_
  obtain ⟨a, h⟩ := req_iff.mp h
  exact ⟨c, e, by simpa using a, h⟩
theorem snd_callK (SC' : SndC W d C) {f : PV} {v : Value} {vs : List Value} {ps : List PV} {K : KtV} {Q : Value → Shared → Prop} (k : callK f ps C σ K) (a : Amb A d) (I : Inv W env sc σ H R ca s) (rs : Reps W H ca vs ps) (rv : Rep W H ca v f) (P : PostE W env sc H R ca s K Q) : wpAny W.M A (call v vs) Q E s := by
  refine SC' _ _ _ _ k A H R ca s _ _ Q E a I.base I.core I.gr rv rs fun u p cs' H3 R3 ca3 s3 k3 B3 C3 G3 ru X3 q3 => ?_
  obtain ⟨I3, l3⟩ := X3.inv I B3 C3 G3
  exact P _ _ _ H3 R3 ca3 s3 k3 I3 ru X3.ext q3 l3
section
variable {o : Expr} {name : Str} {apos pos : Pos} {args : List Expr} {K : KtV} {Q : Value → Shared → Prop} {v : Value}
theorem snd_mown (S : SndE W d ev sc) (hst : NoStar ev) (hstar : args.all notStar = true) {pl : Sem Bool} {x : Str} (k : kMeth T name args ev C K (.own x) σ) (a : Amb A d) (I : Inv W env sc σ H R ca s) (rb : BRel W H ca R env sc v (.own x)) (P : PostE W env sc H R ca s K Q) : wpAny W.M A (getMethod v name pl) (fun fx s₂ => wpAny W.M A (callWith pos fx.1 fx.2 (backTo pos (starEach args env)) []) Q E s₂) E s := by
  refine obEA (own_inv (G := fun c0 => req (turnOk c0 name) (vcEs args ev σ (kTurnM x c0 name K))) k) fun c0 hx k => ?_
  obtain ⟨hok, k⟩ := req_iff.mp k
  (refine obEEAA (view_method I.core.le (br_view I rb (cont_own hx (kind_cont (turn_kind hok)))) (.inl hok)) ?_; rintro Ty id ⟨hTy, hd⟩ ⟨pa, slot, hty⟩ hid)
  refine getMethod_builtin (hTy s rfl) pa slot hty hd ?_
  refine callWith_go (P := fun u_ => True) hstar keep_id ?_
  refine snd_es S hst args σ _ k A H R ca s _ E pos a I fun vs ps σ2 H2 R2 ca2 s2 k I2 rs x2 q2 l2 => ⟨trivial, ?_⟩
  refine obEAA (kTurnM_inv k) fun c hx2 hk k => ?_
  refine snd_turn (b := .own x) (K := K) ((vcTurn_inv k).mono fun c' r k σ' e => ?_) (fun c' => ⟨_, rfl⟩) I2 (rb.mono x2.imm x2.ca l2) (cont_own hx2 (kind_cont (hk ▸ turn_kind hok))) rs (hk ▸ hid) (P.after x2 q2 l2 fun u_ u_ k => k)
  rw [← Option.some.inj e]
  exact k
theorem snd_mval (S : SndE W d ev sc) (hst : NoStar ev) (hstar : args.all notStar = true) {pl : Sem Bool} {p : PV} (k : hMethV p name args ev σ K) (a : Amb A d) (I : Inv W env sc σ H R ca s) (rb : BRel W H ca R env sc v (.val p)) (P : PostE W env sc H R ca s K Q) : wpAny W.M A (getMethod v name pl) (fun fx s₂ => wpAny W.M A (callWith pos fx.1 fx.2 (backTo pos (starEach args env)) []) Q E s₂) E s := by
  refine obEA (onSome_inv k) fun c0 hc0 k => ?_
  obtain ⟨hok, k⟩ := req_iff.mp k
  (refine obEEAA (view_method I.core.le (br_view I rb hc0) (.inr hok)) ?_; rintro Ty id ⟨hTy, hd⟩ ⟨pa, slot, hty⟩ hid)
  refine getMethod_builtin (hTy s rfl) pa slot hty hd ?_
  refine callWith_go (P := fun u_ => True) hstar keep_id ?_
  refine snd_es S hst args σ _ k A H R ca s _ E pos a I fun vs ps σ2 H2 R2 ca2 s2 k I2 rs x2 q2 l2 => ⟨trivial, ?_⟩
  refine obEA (onSome_inv k) fun c hc k => ?_
  obtain ⟨hk, k⟩ := req_iff.mp k
  have hk : mkind c0 = mkind c := by simpa using hk
  exact snd_methv (K := K) k I2 (br_view I2 (rb.mono x2.imm x2.ca l2) hc) rs (hk ▸ hid) (P.after x2 q2 l2 fun u_ u_ k => k)
theorem snd_mins (hT : TbOk W T) (S : SndE W d ev sc) (hst : NoStar ev) (SC' : SndC W d C) (hstar : args.all notStar = true) {pl : Sem Bool} {D : Addr} {l : List (Str × PV)} (k : hMethI T name args D l ev C σ K) (a : Amb A d) (I : Inv W env sc σ H R ca s) (rb : Rep W H ca v (.ins D l)) (P : PostE W env sc H R ca s K Q) : wpAny W.M A (getMethod v name pl) (fun fx s₂ => wpAny W.M A (callWith pos fx.1 fx.2 (backTo pos (starEach args env)) []) Q E s₂) E s := by
  obtain ⟨hn, k⟩ := req_iff.mp k
  refine obEA (onSome_inv k) fun f hf k => ?_
  have hm := hT.meth _ _ _ hf
  simp only [methIn, Bool.and_eq_true, beq_iff_eq] at hm
  obtain ⟨⟨⟨⟨m1, m2⟩, m3⟩, m4⟩, m5⟩ := hm
  (refine obEEEEAAA rb.inv ?_; rintro ad dd od kvs rfl e0 e1 ⟨e2, e3, e4⟩)
  have gd := I.core.le _ _ e2
  have IA : InstAt s.heap ad (instObj D dd) D (some od) := ⟨I.core.le _ _ e1, rfl, rfl, gd⟩
  have hv : valueAt kvs name = none := by
    cases z : valueAt kvs name with
    | none => rfl
    | some u => refine obEA ((e4.get name).1 u z) fun p e5 u_ => ?_; rw [e5] at hn; exact absurd hn Bool.false_ne_true
  have hsh : shadowIn (some od) name = some false := by
    show (lookIn name od).map (·.isSome) = some false
    rw [lookIn_none gd e3 hv]; rfl
  refine method_fn I.in_ IA m1 m2 m3 m4 hsh ?_
  refine callWith_go (P := W.K.In) hstar (fun h X => keeps_K m5 h X) ?_
  refine snd_es S hst args σ _ k A H R ca s _ E pos a I fun vs ps σ2 H2 R2 ca2 s2 k I2 rs x2 q2 l2 => ⟨I2.in_, ?_⟩
  exact snd_callK SC' k a I2 (.cons (Rep.mono x2.imm x2.ca rb) rs) .fn (P.after x2 q2 l2 fun u_ u_ k => k)
theorem kMeth_val {p : PV} (k : kMeth T name args ev C K (.val p) σ) : (∃ D l, p = .ins D l ∧ hMethI T name args D l ev C σ K) ∨ hMethV p name args ev σ K := by
  induction p using PV.casesOn with
  | ins D l => exact .inl ⟨D, l, rfl, k⟩
  | _ => exact .inr k
theorem snd_mcall (hT : TbOk W T) (S : SndE W d ev sc) (hst : NoStar ev) (SC' : SndC W d C) (h : hMeth T o name apos args pos ev C σ K) (a : Amb A d) (I : Inv W env sc σ H R ca s) (P : PostE W env sc H R ca s K Q) : wpAny W.M A (eval (.Call (.Attribute o name apos) args [] pos) env) Q E s := by
  obtain ⟨h0, h⟩ := req_iff.mp h
  simp only [Bool.and_eq_true] at h0
  (refine obAAA h0 fun hs hstar hfew hline => ?_; try clear h0)
  refine meth_go hs hstar hfew hline (snd_br S h a I fun v b σ1 H1 R1 ca1 s1 k I1 rb x1 q1 l1 pl => ?_)
  have P1 := P.after x1 q1 l1 fun u_ u_ k => k
  induction b using BR.casesOn with
  | own x => exact snd_mown S hst hstar k a I1 rb P1
  | val p =>
    rcases kMeth_val k with ⟨D, l, rfl, k⟩ | k
    · exact snd_mins hT S hst SC' hstar k a I1 rb P1
    · exact snd_mval S hst hstar k a I1 rb P1
end
inductive VC (T : Tb) (C : Oracle) (ps : List PV) (σ : St) (K : KtO) : PV → Prop where
  | bi {b : Bi} : vcBi (fun a => (T.init a).isSome) b ps (atStO K σ) → VC T C ps σ K (.bi b)
  | fn {a : Addr} : T.keep a = true → callK (.fn a) ps C σ (K false) → VC T C ps σ K (.fn a)
  | lam {as : Arguments} {bd : Expr} {scp : Scope} {cp : List (Str × PV)} : callK (.lam as bd scp cp) ps C σ (K false) → VC T C ps σ K (.lam as bd scp cp)
theorem kCall2_inv {p : PV} {K : KtO} {ps : List PV} (h : kCall2 T p C K ps σ) : VC T C ps σ K p := by
  induction p using PV.casesOn with
  | bi b => exact .bi h
  | fn a => obtain ⟨x, y⟩ := req_iff.mp h; exact .fn x y
  | lam as bd scp cp => exact .lam h
  | _ => exact False.elim h
noncomputable def KeptIn (W : Wd) (T : Tb) (v : Value) : PV → Heap → Prop
  | .bi _, _ => True
  | .fn a, h => T.keep a = true ∧ W.K.In h
  | .lam _ _ _ _, h => ∃ a o, v = .ref a ∧ h.get? a = some o ∧ ∃ fd, o.data = .func fd
  | _, _ => False
theorem kept_looks (hT : TbOk W T) {v : Value} {p : PV} (r : Rep W H ca v p) (h : Heap) (k : KeptIn W T v p h) : ∃ k, (k = Keeper.frame ∨ k = Keeper.machine ∨ k = Keeper.boundFrame) ∧ Looks W.M h (keeperOf v) k := by
  induction p using PV.casesOn with
  | bi b => obtain rfl := r.inv; exact keep_bi h k
  | fn a => obtain rfl := r.inv; exact keeps_K (hT.keep _ k.1) h k.2
  | lam as bd scp cp =>
    (refine obEEAA k ?_; try clear k; rintro fa o' rfl g ⟨fd', h2⟩)
    refine ⟨.frame, .inl rfl, ?_⟩
    intro A' Q' E' s' k q
    unfold keeperOf
    refine wpAny_bind (wpAny_load (k _ _ g) ?_)
    rw [h2]; exact wpAny_pure q
  | _ => exact False.elim k
theorem kept_in {v : Value} {p : PV} {K : KtO} {ps : List PV} (le : Le H s.heap) (KI : W.K.In s.heap) (r : Rep W H ca v p) (h : VC T C ps σ K p) : KeptIn W T v p s.heap := by
  cases h with
  | bi _ => exact True.intro
  | fn a _ => exact ⟨a, KI⟩
  | lam _ =>
    (refine obEEEAAAA r.inv ?_; rintro a o fd rfl g _ h2 _)
    exact ⟨a, o, rfl, le _ _ g, fd, h2⟩
theorem snd_ncall (hT : TbOk W T) (S : SndE W d ev sc) (hst : NoStar ev) (SC' : SndC W d C) {f : Str} {npos pos : Pos} {args : List Expr} {K : KtO} {Q : Value → Shared → Prop}
    (h : req (args.all notStar) (ev (.Name f npos) σ (kCall1 T args ev C K))) (a : Amb A d) (I : Inv W env sc σ H R ca s) (P : PostO W env sc H R ca s K Q) : wpAny W.M A (eval (.Call (.Name f npos) args [] pos) env) Q E s := by
  obtain ⟨hstar, h⟩ := req_iff.mp h
  show wpAny W.M A (eval (.Name f npos) env >>= fun fv => callWith pos fv [] (backTo pos (starEach args env)) (backToKw pos (keywordEach [] env))) Q E s
  refine wpAny_bind (S _ σ _ h A env H R ca s _ E a I fun v p σ1 H1 R1 ca1 s1 k I1 rv x1 q1 l1 => ?_)
  refine callWith_go (P := KeptIn W T v p) hstar (kept_looks hT rv) ?_
  refine snd_es S hst args σ1 _ k A H1 R1 ca1 s1 _ E pos a I1 fun vs ps σ2 H2 R2 ca2 s2 k I2 rs x2 q2 l2 => ?_
  rw [List.nil_append]
  have rv := Rep.mono x2.imm x2.ca rv
  have P2 := P.after (x1.trans x2) (q1.trans q2) (l2.trans l1) fun u_ u_ u_ k => k
  have kk := kCall2_inv k
  clear k
  refine ⟨kept_in I2.core.le I2.in_ rv kk, ?_⟩
  cases kk with
  | bi k' => obtain rfl := rv.inv; exact snd_bi hT k' a I2 rs P2
  | fn _ k' => exact snd_callK SC' k' a I2 rs rv P2.ofVal
  | lam k' => exact snd_callK SC' k' a I2 rs rv P2.ofVal
end
end
section
section
variable {W : Wd} {T : Tb} {H H' : IH} {ca ca' : List Addr} {R R' : RM} {env : Env} {sc : SC} {σ : St} {s s' : Shared} {A : Around} {E : Value → Shared → Prop} {d : Nat}
variable {ev : Expr → St → (PV → St → Prop) → Prop} {C : Oracle}
theorem FR.ext {fr fr' : List (Str × Bind)} (F : FR W H ca R env sc fr) (h : ∀ x, fget fr' x = fget fr x) : FR W H ca R env sc fr' where
  kind := F.kind
  names := F.names
  glob := F.glob
  blt := F.blt
  lam := F.lam
  ns := let ⟨m, e, k⟩ := F.ns; ⟨m, e, fun x b q r => k x b (by rw [← h]; exact q) r⟩
  far := fun x b q r => F.far x b (by rw [← h]; exact q) r
  cells := fun x q => by rw [h]; exact F.cells x q
structure Frz (W : Wd) (env : Env) (sc : SC) (σ : St) (H : IH) (R : RM) (ca : List Addr) (s : Shared) (H' : IH) (R' : RM) : Prop where
  inv : Inv W env sc σ H' R' ca s
  le : HLe H H'
  ext : Ext H R s.heap ca H' R' s.heap ca
  loc : R' env.locals = R env.locals
theorem Frz.trans {σ' : St} {H1 H2 : IH} {R1 R2 : RM} (x : Frz W env sc σ H R ca s H1 R1) (y : Frz W env sc σ' H1 R1 ca s H2 R2) : Frz W env sc σ' H R ca s H2 R2 := ⟨y.inv, x.le.trans y.le, x.ext.trans y.ext, y.loc.trans x.loc⟩
theorem frees_if {c : Prop} [Decidable c] {o : Option (List (Str × PV))} {e : Str × PV} {caps : List (Str × PV)} (h : (if c then o.map (e :: ·) else none) = some caps) : c ∧ ∃ caps', o = some caps' ∧ caps = e :: caps' := by
  by_cases q : c
  · rw [if_pos q] at h
    refine obEA (Option.map_eq_some_iff.mp h) fun caps' e1 e2 => ?_
    exact ⟨q, caps', e1, e2.symm⟩
  · rw [if_neg q] at h; exact nosome h
theorem frees_free {x : Str} {l : List (Str × NameKind)} {fr : List (Str × Bind)} {caps : List (Str × PV)} (h : freesOf sc fr ((x, .free) :: l) = some caps) : ∃ b caps', fget fr x = some b ∧ b.m ≠ .own ∧ (sc.names.lookup x = some .cell ∨ sc.names.lookup x = some .free) ∧ freesOf sc fr l = some caps' ∧ caps = (x, b.p) :: caps' := by
  rw [freesOf, if_pos rfl] at h
  cases e : fget fr x with
  | none => rw [e] at h; exact nosome h
  | some b =>
    rw [e] at h
    obtain ⟨m, p⟩ := b
    induction m using Mode.casesOn with
    | own => exact nosome h
    | plain =>
      refine obAEA (frees_if h) fun q caps' e1 e2 => ?_
      exact ⟨_, caps', rfl, (fun z => nomatch z), q, e1, e2⟩
    | froz =>
      refine obAEA (frees_if h) fun q caps' e1 e2 => ?_
      exact ⟨_, caps', rfl, (fun z => nomatch z), q, e1, e2⟩
theorem frees_skip {x : Str} {k : NameKind} {l : List (Str × NameKind)} {fr : List (Str × Bind)} {caps : List (Str × PV)} (hk : k ≠ .free) (h : freesOf sc fr ((x, k) :: l) = some caps) : freesOf sc fr l = some caps := by
  rw [freesOf, if_neg hk] at h; exact h
set_option tactic.hygienic true in
theorem freeze_one {x : Str} {b : Bind} (I : Inv W env sc σ H R ca s) (hb : fget σ.fr x = some b) (hm : b.m ≠ .own) (hlam : sc.lam = true) (hk : sc.names.lookup x = some .cell ∨ sc.names.lookup x = some .free) :
    ∃ H' R', Frz W env sc { σ with fr := fset σ.fr x ⟨.froz, b.p⟩ } H R ca s H' R' ∧ ∃ c o v, env.cells.lookup x = some c ∧ H' c = some o ∧ o.data = .cell (some v) ∧ Rep W H' ca v b.p := by
  have F := I.fr
  have hl : sc.names.lookup x ≠ some .local := by rcases hk with e | e <;> rw [e] <;> exact fun q => nomatch q
  refine obAEEAA (F.far x b hb hl) fun u_ c v ec r cr => ?_
  rcases cr with ⟨e0, o, e4, e5⟩ | ⟨e0, e4⟩ | ⟨e0, _⟩
  case inr.inr => rw [hlam] at e0; exact notf e0
  · refine ⟨H, R, ⟨⟨I.base, I.core, F.ext fun y => ?_, I.gr⟩, HLe.refl, .refl, rfl⟩, c, o, v, ec, e4, e5, r⟩
    rw [fget_fset]
    split
    · rename_i e; subst e; rw [hb, ← e0]
    · rfl
  · have hH := I.core.hid c _ e4
    refine obEA (I.core.reg c _ e4) fun o eo hdo => ?_
    refine obEA F.ns fun m em u_ => ?_
    have em' := RM.set_ns (oc := none) e4 em rfl
    exact ⟨H.put c o, R.set c none, ⟨⟨I.base.mono (HLe.put hH), I.core.freeze e4 eo, F.put (HLe.put hH) (.set e4 rfl) em em' (fun u_ u_ => rfl) (fun l => absurd l hl) (fun u_ => ⟨hk, c, v, ec, Rep.mono (HLe.put hH) CLe.refl r, .inl ⟨rfl, o, IH.put_self, hdo⟩⟩) fun u_ => .inr rfl, I.gr.set e4 rfl⟩,
      HLe.put hH, Ext.freeze I.core e4 rfl, em'.trans em.symm⟩, c, o, v, ec, IH.put_self, hdo, Rep.mono (HLe.put hH) CLe.refl r⟩
noncomputable def closOf (env : Env) : List (Str × NameKind) → List (Str × Addr)
  | [] => []
  | (x, k) :: r => if k = .free then (match env.cells.lookup x with | some c => (x, c) :: closOf env r | none => closOf env r) else closOf env r
theorem caps_snoc {cl : List (Str × Addr)} {l : List (Str × PV)} {x : Str} {c : Addr} {o : Obj} {v : Value} {p : PV} (r : Caps W H ca cl l) (h1 : H c = some o) (h2 : o.data = .cell (some v)) (h3 : Rep W H ca v p) : Caps W H ca (cl ++ [(x, c)]) (l ++ [(x, p)]) := by
  induction l generalizing cl with
  | nil => cases r; exact .cons h1 h2 h3 .nil
  | cons q l ih => cases r with | cons a1 a2 a3 r => exact .cons a1 a2 a3 (ih r)
theorem clos_free {x : Str} {c : Addr} {l : List (Str × NameKind)} (ec : env.cells.lookup x = some c) : closOf env ((x, .free) :: l) = (x, c) :: closOf env l := by rw [closOf, if_pos rfl, ec]
theorem clos_skip {x : Str} {k : NameKind} {l : List (Str × NameKind)} (hk : k ≠ .free) : closOf env ((x, k) :: l) = closOf env l := if_neg hk
theorem freeze_caps (hlam : sc.lam = true) (fr0 : List (Str × Bind)) : ∀ (l : List (Str × NameKind)) (caps : List (Str × PV)) (σ : St) (H : IH) (R : RM) (s : Shared), freesOf sc fr0 l = some caps → (∀ x b, fget fr0 x = some b → b.m ≠ .own → ∃ b', fget σ.fr x = some b' ∧ b'.p = b.p ∧ b'.m ≠ .own) → Inv W env sc σ H R ca s →
    ∃ H' R', Frz W env sc { σ with fr := freezeAll σ.fr caps } H R ca s H' R' ∧ Caps W H' ca (closOf env l).reverse caps.reverse ∧ ∀ x k, (x, k) ∈ l → k = .free → (env.cells.lookup x).isSome := by
  intro l
  induction l with
  | nil =>
    intro caps σ H R s h _ I
    (replace h := Option.some.inj h; subst h)
    exact ⟨H, R, ⟨I, HLe.refl, .refl, rfl⟩, .nil, fun x k q => absurd q List.not_mem_nil⟩
  | cons q l ih =>
    intro caps σ H R s h hb I
    obtain ⟨x, k⟩ := q
    by_cases hk : k = .free
    · subst hk
      (refine obEEAAAA (frees_free h) ?_; rintro b caps' hx hno hkk e1 rfl)
      refine obEAA (hb x b hx hno) fun b' f1 f2 f3 => ?_
      (refine obEEA (freeze_one I f1 f3 hlam hkk) ?_; rintro H1 R1 F1 ⟨c, o, v, ec, hc, hd, rv⟩)
      rw [f2] at F1 rv
      have h2 : ∀ y b2, fget fr0 y = some b2 → b2.m ≠ .own → ∃ b', fget (fset σ.fr x ⟨.froz, b.p⟩) y = some b' ∧ b'.p = b2.p ∧ b'.m ≠ .own := fun y b2 e n => by
        by_cases hy : y = x
        · subst hy
          exact ⟨⟨.froz, b.p⟩, by rw [fget_fset, if_pos rfl], (show b.p = b2.p from congrArg Bind.p (Option.some.inj (hx.symm.trans e))), fun z => nomatch z⟩
        · rw [fget_fset, if_neg hy]; exact hb y b2 e n
      refine obEEAA (ih caps' _ H1 R1 s e1 h2 F1.inv) fun H2 R2 F2 cp hs => ?_
      refine ⟨H2, R2, F1.trans F2, ?_, fun y k' hm e => ?_⟩
      · rw [clos_free ec, List.reverse_cons, List.reverse_cons]
        exact caps_snoc cp (F2.le _ _ hc) hd (Rep.mono F2.le CLe.refl rv)
      · rcases List.mem_cons.mp hm with q | q
        · injection q with q _; rw [q, ec]; rfl
        · exact hs y k' q e
    · refine obEEAA (ih caps σ H R s (frees_skip hk h) hb I) fun H2 R2 F2 cp hs => ?_
      refine ⟨H2, R2, F2, ?_, fun y k' hm e => ?_⟩
      · rw [clos_skip hk]; exact cp
      · rcases List.mem_cons.mp hm with q | q
        · injection q with _ q; exact absurd (q.symm.trans e) hk
        · exact hs y k' q e
theorem closureFor_go (env : Env) : ∀ (l : List (Str × NameKind)) (acc : List (Str × Addr)), (∀ x k, (x, k) ∈ l → k = .free → (env.cells.lookup x).isSome) →
    (forIn l acc fun (p : Str × NameKind) (cs : List (Str × Addr)) => (if (p.2 == NameKind.free) = true then do let c ← cellOf env p.1; pure (ForInStep.yield ((p.1, c) :: cs)) else pure (ForInStep.yield cs) : Sem (ForInStep (List (Str × Addr))))) = pure ((closOf env l).reverse ++ acc)
  | [], acc, _ => rfl
  | (x, k) :: l, acc, h => by
    rw [List.forIn_cons]
    by_cases hk : k = .free
    · subst hk
      have hs := h x _ (.head _) rfl
      obtain ⟨c, hc⟩ := Option.isSome_iff_exists.mp hs
      rw [clos_free hc, List.reverse_cons, List.append_assoc, List.singleton_append]
      rw [if_pos (by rfl)]
      have hcell : cellOf env x = pure c := by unfold cellOf; rw [hc]
      simp only [hcell, pure_bind]
      exact closureFor_go env l _ fun y k' hm => h y k' (.tail _ hm)
    · rw [clos_skip hk]
      rw [if_neg (by simpa using hk)]
      simp only [pure_bind]
      exact closureFor_go env l _ fun y k' hm => h y k' (.tail _ hm)
theorem closureFor_eq {env : Env} {scope : Scope} (h : ∀ x k, (x, k) ∈ scope.names → k = .free → (env.cells.lookup x).isSome) : closureFor scope env = pure (closOf env scope.names).reverse := by
  have := closureFor_go env scope.names [] h
  rw [List.append_nil] at this
  have e := congrArg (fun t : Sem (List (Str × Addr)) => t >>= fun s => pure s) this
  exact e
theorem trip_ind {P : List Value → Prop} (h0 : P []) (h1 : ∀ (x : Int) (tx : Tok) (y : Int) (ty : Tok) (z : Value) (l : List Value), P l → P (.int x tx :: .int y ty :: z :: l)) : ∀ l, TriplesOk l → P l
  | [], _ => h0
  | .int x tx :: .int y ty :: z :: l, h => h1 x tx y ty z l (trip_ind h0 h1 l h)
theorem codeAmong_app {pos : Pos} {a b : Int} {ta tb : Tok} {c : Value} : ∀ (l : List Value), TriplesOk l → ∀ v, codeAmong pos (l ++ [.int a ta, .int b tb, c]) = some v → codeAmong pos l = some v ∨ v = c := by
  refine trip_ind (fun v h => ?_) fun x tx y ty z l ih v h => ?_
  · replace h : (if (a == pos.line && b == pos.col) = true then some c else none) = some v := h
    by_cases e : (a == pos.line && b == pos.col) = true
    · rw [if_pos e] at h; exact .inr (Option.some.inj h).symm
    · rw [if_neg e] at h; exact nosome h
  · replace h : (if (x == pos.line && y == pos.col) = true then some z else codeAmong pos (l ++ [.int a ta, .int b tb, c])) = some v := h
    show (if (x == pos.line && y == pos.col) = true then some z else codeAmong pos l) = some v ∨ v = c
    by_cases e : (x == pos.line && y == pos.col) = true
    · rw [if_pos e] at h ⊢; exact .inl h
    · rw [if_neg e] at h ⊢; exact ih v h
theorem triples_app {a b : Int} {ta tb : Tok} {c : Value} : ∀ (l : List Value), TriplesOk l → TriplesOk (l ++ [.int a ta, .int b tb, c]) := trip_ind trivial fun u_ u_ u_ u_ u_ u_ ih => ih
theorem RM.set_same {a : Addr} {c : MC} (h : R a = some c) : R.set a (some c) = R := by
  funext b
  by_cases hb : b = a
  · subst hb; rw [RM.set_self, h]
  · rw [RM.set_ne hb]
theorem snd_lambda {args : Arguments} {body : Expr} {scope : Scope} {pos : Pos} {K : PV → St → Prop} {Q : Value → Shared → Prop}
    (h : hLam args body scope sc σ K) (I0 : Inv W env sc σ H R ca s) (P : PostE W env sc H R ca s K Q) : wpAny W.M A (eval (.Lambda args body scope pos) env) Q E s := by
  obtain ⟨h1, h⟩ := req_iff.mp h
  simp only [Bool.and_eq_true] at h1
  obtain ⟨hpl, hlam⟩ := h1
  refine obEA (onSome_inv h) fun caps hcaps h => ?_
  (refine obEEAA (freeze_caps hlam σ.fr scope.names caps σ H R s hcaps (fun x b e n => ⟨b, e, rfl, n⟩) I0) ?_; rintro H1 R1 ⟨I, le1, X1, l1⟩ cp hs)
  have hclos := closureFor_eq (scope := scope) hs
  refine obEAA (I.fr.lam hlam) fun t ht hcode hq => ?_
  obtain ⟨c, Pt, q⟩ := t
  have hR := I.gr.tabs _ ht
  dsimp only at hR hcode hq
  have hHP := I.core.hid _ _ hR
  refine obEAAA (I.core.reg _ _ hR) fun ps gP tr cam chd => ?_
  have hC := chd s.heap I.core.le
  have TP := I.top
  (refine obEEAAAA TP.bmain ?_; rintro bm ob b1 b2 b3 b4 ⟨b5, b6⟩)
  have hg := TP.g
  have hgP : mainGlobals ≠ Pt := fun u => by
    (refine obEEEAA hg fun o es ep e hd u_ => ?_; try clear hg)
    rw [u, gP] at e; (replace e := Option.some.inj e; subst e); cases hd
  have hbP : bm ≠ Pt := fun u => by rw [u, gP] at b3; (replace b3 := Option.some.inj b3; subst b3); cases b4
  have hbG : bm ≠ mainGlobals := fun u => by
    (refine obEEEAA hg fun o es ep e hd u_ => ?_; try clear hg)
    rw [u, e] at b3; (replace b3 := Option.some.inj b3; subst b3); rw [hd] at b6; cases b6
  have hda : args.defaults = [] ∧ args.kw_defaults = [] := by
    simp only [plainArgs, Bool.and_eq_true] at hpl
    exact ⟨List.isEmpty_iff.mp hpl.2, List.isEmpty_iff.mp hpl.1.1.2⟩
  have hdo : defaultsOf args env = ([], []) := by
    obtain ⟨a1, a2, a3, a4, a5, a6, a7⟩ := args
    obtain ⟨e1, e2⟩ := hda
    dsimp only at e1 e2
    subst e1; subst e2; rfl
  have start : wpAny W.M A (makeFunction "<lambda>" (env.qual ++ "<lambda>") args (.expr body) scope env [] [] [] pos pos.line) Q E s → wpAny W.M A (eval (.Lambda args body scope pos) env) Q E s := by
    intro z
    show wpAny W.M A (match defaultsOf args env with | (d, kd) => evalAll d >>= fun dv => holding dv (evalAllOpt kd) >>= fun kdv => makeFunction "<lambda>" (env.qual ++ "<lambda>") args (.expr body) scope env dv kdv [] pos pos.line) Q E s
    rw [hdo]
    refine wpAny_bind (m := evalAll []) (wpAny_pure (wpAny_bind (wpAny_holding (m := evalAllOpt []) (wpAny_pure ?_))))
    exact z
  refine start ?_
  have fin : ∀ (cv ctv : Value) (h' : Heap) (tk : Tok) (H2 : IH) (R2 : RM), Inv W env sc { σ with fr := freezeAll σ.fr caps } H2 R2 ca { s with heap := h', toks := tk } → HLe H1 H2 → CodeRecF H2 cv (env.qual ++ "<lambda>") → Ext H R s.heap ca H2 R2 h' ca → R2 env.locals = R env.locals →
      Q (.ref h'.objs.size) { s with heap := h'.push { cls := .type "function", data := .func (kla_fn "<lambda>" (env.qual ++ "<lambda>") args body scope (closOf env scope.names).reverse ((W.mg "__name__").getD .none) cv ctv) }, toks := tk } := by
    intro cv ctv h' tk H2 R2 I2 le2 hcr X2 l2
    have P2 : PostE W env sc H2 R2 ca { s with heap := h', toks := tk } K Q := P.after (s' := { s with heap := h', toks := tk }) X2 ⟨rfl, rfl, rfl⟩ l2 fun u_ u_ k => k
    refine P2.new (t := tk) (o := { cls := .type "function", data := .func (kla_fn "<lambda>" (env.qual ++ "<lambda>") args body scope (closOf env scope.names).reverse ((W.mg "__name__").getD .none) cv ctv) }) h I2 (get_size_none _) (fun b o e => Heap.get?_push_of_some _ e) (Heap.get?_push_size _ rfl) fun H3 hH e => ?_
    exact .lam e rfl rfl rfl rfl rfl rfl rfl rfl rfl (hcr.mono hH) (Caps.mono (fun a o e => hH a o (le2 a o e)) CLe.refl cp)
  cases hf : codeAmong pos ps.toList with
  | some cv =>
    refine kla_makeFunctionHit (mg := W.mg) hclos I.fr.glob hg hcode hC gP tr hf ⟨bm, ob, b1, b2, hbG, hbP, b3, b4, b5, b6⟩ fun ctv h' tk k u_ => ?_
    have I2 : Inv W env sc { σ with fr := freezeAll σ.fr caps } H1 R1 ca { s with heap := h', toks := tk } := (I.grow (s' := { s with heap := h' }) k).tok
    refine fin cv ctv h' tk H1 R1 I2 HLe.refl ?_ (X1.trans (Ext.grow k)) l1
    have := cam pos cv hf
    rw [hq] at this; exact this
  | none =>
    refine kla_makeFunction (mg := W.mg) hclos I.fr.glob hg hcode hC gP tr hf hgP ⟨bm, ob, b1, b2, hbG, hbP, b3, b4, b5, b6⟩ fun c' ctv h' tk hx hge hlt hrec htb => ?_
    (refine obEEEEAAA hrec fun c2 oc vs tt e2 hoc hd hv => ?_; try clear hrec)
    cases e2
    have hn : s.heap.get? c' = none := Heap.get?_none_of_le hge
    have hRc := I.core.freshR hn
    have hHc := I.core.freshH hn
    have leH := HLe.put (o := oc) hHc
    have hcP : c' ≠ Pt := fun u => by rw [u, gP] at hn; exact nosome' hn
    have core : Core W (H1.put c' oc) ca R1 h' := by
      refine ⟨fun b o e => ?_, fun b d e => ?_, fun b d e => ?_⟩
      · by_cases hb : b = c'
        · subst hb; rw [IH.put_self] at e; (replace e := Option.some.inj e; subst e); exact hoc
        · rw [IH.put_ne hb] at e
          exact hx b o (fun u => by rw [u, hHP] at e; exact nosome e) (I.core.le b o e)
      · have hb : b ≠ c' := fun u => by rw [u, hRc] at e; exact nosome e
        exact (IH.put_ne hb).trans (I.core.hid b d e)
      · by_cases hb : b = Pt
        · subst hb
          rw [hR] at e; (replace e := Option.some.inj e; subst e)
          refine ⟨_, htb, ?_, fun p v e => ?_, fun h2 l2 => chd h2 fun a o e => l2 a o (leH a o e)⟩
          · have := triples_app (a := pos.line) (b := pos.col) (ta := 0) (tb := 0) (c := .ref c') ps.toList tr
            simpa [rawInt] using this
          · have e' : codeAmong p (ps.toList ++ [.int pos.line 0, .int pos.col 0, .ref c']) = some v := by simpa [rawInt] using e
            rcases codeAmong_app ps.toList tr v e' with e3 | rfl
            · exact (cam p v e3).mono leH
            · exact ⟨c', oc, vs, tt, rfl, IH.put_self, hd, by rw [hq]; exact hv⟩
        · exact (I.core.reg b d e).mono leH CLe.refl fun o z => hx b o hb z
    have I2 : Inv W env sc { σ with fr := freezeAll σ.fr caps } (H1.put c' oc) R1 ca { s with heap := h', toks := tk } := ⟨I.base.mono leH, core, I.fr.mono leH CLe.refl fun u_ u_ e u_ u_ => e, I.gr⟩
    refine fin (.ref c') ctv h' tk _ R1 I2 leH ⟨c', oc, vs, tt, rfl, IH.put_self, hd, hv⟩ (X1.trans ⟨leH, CLe.refl, fun b o e r => hx b o (fun u => by rw [u, hR] at r; exact nosome' r) e, fun b z => ?_, fun b z => .inl z, fun u_ u_ e u_ => e, ?_⟩) l1
    · by_cases hb : b = c'
      · subst hb; exact .inr (.inr hn)
      · rw [IH.put_ne hb] at z; exact .inl z
    · exact live_but (a := Pt) (fun b o hb e => hx b o hb e) ⟨_, htb⟩
end
end
section
section
variable {W : Wd} {T : Tb} {H H' : IH} {ca ca' : List Addr} {R R' : RM} {env : Env} {sc : SC} {σ : St} {s s' : Shared} {A : Around} {E : Value → Shared → Prop} {d : Nat}
variable {ev : Expr → St → (PV → St → Prop) → Prop} {C : Oracle}
noncomputable def NewRep (W : Wd) (H : IH) (ca : List Addr) (own : List Addr) (h h' : Heap) (v : Value) (p : PV) : Prop :=
  (∀ H', HLe H H' → Rep W H' ca v p) ∨ ∃ a o, v = .ref a ∧ h.get? a = none ∧ h'.get? a = some o ∧ a ∉ own ∧ ∀ H', HLe H H' → H' a = some o → Rep W H' ca v p
noncomputable def ItNext (W : Wd) (I : Addr) (H : IH) (ca : List Addr) (own : List Addr) (tgt : Expr) (St : Heap → Prop) (A : Around) (p : PV) (s : Shared) (Q : Option Value → Shared → Prop) : Prop :=
  ∀ v h' tk, (∀ b o, b ∉ own → s.heap.get? b = some o → h'.get? b = some o) → (∀ b ∈ own, ∃ o, h'.get? b = some o) → NewRep W H ca own s.heap h' v p →
      (∀ (E' : Value → Shared → Prop) (Q' : Unit → Shared → Prop), (∀ h'', St h'' → (∀ b o, b ∉ own → h'.get? b = some o → h''.get? b = some o) → Q' () { s with heap := h'', toks := tk }) → wpAny W.M A (letOwnedTupleGo tgt (.ref I) v) Q' E' { s with heap := h', toks := tk }) →
      Q (some v) { s with heap := h', toks := tk }
noncomputable def ItEnd (own : List Addr) (s : Shared) (Q : Option Value → Shared → Prop) : Prop := ∀ h' tk, (∀ b o, b ∉ own → s.heap.get? b = some o → h'.get? b = some o) → Q none { s with heap := h', toks := tk }
structure It (W : Wd) (I : Addr) (H : IH) (ca : List Addr) (its : List PV) (own : List Addr) (tgt : Expr) (St : Nat → Heap → Prop) : Prop where
  mem : I ∈ own
  live : ∀ i h, St i h → ∀ b ∈ own, ∃ o, h.get? b = some o
  frame : ∀ i h h', St i h → Le H h → Le H h' → (∀ b ∈ own, ∀ o, h.get? b = some o → h'.get? b = some o) → St i h'
  item : ∀ (A : Around) (i : Nat) (p : PV) (s : Shared) (Q : Option Value → Shared → Prop) (E : Value → Shared → Prop), A.handled = none → its[i]? = some p → St i s.heap → Le H s.heap → (∀ b ∈ own, H b = none) → ItNext W I H ca own tgt (St (i + 1)) A p s Q → wpAny W.M A (pyNext (.ref I)) Q E s
  done : ∀ (A : Around) (s : Shared) (Q : Option Value → Shared → Prop) (E : Value → Shared → Prop), A.handled = none → St its.length s.heap → Le H s.heap → (∀ b ∈ own, H b = none) → ItEnd own s Q → wpAny W.M A (pyNext (.ref I)) Q E s
  self : ∀ (A : Around) (i : Nat) (s : Shared) (Q : Value → Shared → Prop) (E : Value → Shared → Prop), A.handled = none → St i s.heap → Q (.ref I) s → wpAny W.M A (pyIter (.ref I)) Q E s
noncomputable def goNames : List String := ["enumerate", "zip", "dict_itemiterator", "dict_reverseitemiterator", "odict_iterator", "itertools.zip_longest", "itertools.pairwise"]
set_option tactic.hygienic true in
theorem let_go {tgt : Expr} {I : Addr} {v : Value} {o : Obj} {n : String} {Q : Unit → Shared → Prop} (ho : s.heap.get? I = some o) (hc : o.cls = .type n) (hn : goNames.contains n = false) (hQ : Q () s) : wpAny W.M A (letOwnedTupleGo tgt (.ref I) v) Q E s := by
  have key : ∀ a : Addr, wpAny W.M A (do
      let o ← load I
      match o.cls, o.data with
      | .type n, .fields vs =>
        if ["enumerate", "zip", "dict_itemiterator", "dict_reverseitemiterator", "odict_iterator", "itertools.zip_longest", "itertools.pairwise"].contains n && vs[0]? == some (rawInt a) then
          rule "for.unpacks-the-owned-tuple"
          updateField I 0 .none
      | _, _ => pure ()) Q E s := fun a => by
    refine wpAny_bind (wpAny_load ho ?_)
    rw [hc]
    split
    · rename_i e1 e2
      cases e1
      have hn' : ["enumerate", "zip", "dict_itemiterator", "dict_reverseitemiterator", "odict_iterator", "itertools.zip_longest", "itertools.pairwise"].contains n = false := hn
      rw [if_neg (by rw [hn', Bool.false_and]; exact Bool.false_ne_true)]
      exact wpAny_pure hQ
    · exact wpAny_pure hQ
  unfold letOwnedTupleGo
  induction tgt using PySem.Expr.casesOn <;> first
    | exact wpAny_pure hQ
    | (induction v using PySem.Value.casesOn <;> first | exact key _ | exact wpAny_pure hQ)
theorem sz_size (x : Str) : x.cps.toList.length = x.cps.size := by simp
theorem It.ofWalks {I : Addr} {fp : List Addr} {n : Nat} {Pt : Nat → Value → Prop} {St : Nat → Heap → Prop} {its : List PV} {tgt : Expr} {ty : String} (wk : ∀ A : Around, A.handled = none → Walks W.prog W.w A I fp [I] n Pt St) (hn : its.length = n)
    (hfp : ∀ b ∈ fp, b = I ∨ H b ≠ none) (hit : ∀ i h, St i h → ∃ o, h.get? I = some o ∧ o.cls = .type ty) (hty : goNames.contains ty = false) (hP : ∀ i v p, its[i]? = some p → Pt i v → ∀ H', HLe H H' → Rep W H' ca v p) : It W I H ca its [I] tgt St where
  mem := .head _
  live := fun i h st b hb => by rw [List.mem_singleton.mp hb]; refine obEA (hit i h st) fun o e u_ => ?_; exact ⟨o, e⟩
  frame := fun i h h' st le le' k => (wk { callerA with handled := none } rfl).frame i h h' st fun b hb o g => by
    rcases hfp b hb with rfl | hH
    · exact k b (.head _) o g
    · cases q : H b with
      | none => exact absurd q hH
      | some o' => rw [le _ _ q] at g; (replace g := Option.some.inj g; subst g); exact le' _ _ q
  item := fun A i p s Q E hh hp st le hown h => by
    have hlt : i < n := by
      rw [← hn]
      rcases Nat.lt_or_ge i its.length with z | z
      · exact z
      · rw [List.getElem?_eq_none z] at hp; exact nosome hp
    refine (wk A hh).item i s Q E hlt st fun u h' tk hu st' k => ?_
    refine obEA (hit _ _ st') fun oI gI cI => ?_
    refine h u h' tk (fun b o hb g => k b o hb g) (fun b hb => by rw [List.mem_singleton.mp hb]; exact ⟨oI, gI⟩) (.inl fun H' hle => hP i u p hp hu H' hle) fun E' Q' q => ?_
    exact let_go gI cI hty (q h' st' fun b o u_ g => g)
  done := fun A s Q E hh st le hown h => by
    refine (wk A hh).done s Q E (by rw [← hn]; exact st) fun h' tk k => ?_
    exact h h' tk k
  self := fun A i s Q E hh st q => (wk A hh).self i s Q E st q
theorem It.list {a I : Addr} {vs : List Value} {n : Nat} {l : List PV} {tgt : Expr} (e : H a = some (listOf vs.toArray n)) (r : Reps W H ca vs l) (hne : a ≠ I) : It W I H ca l [I] tgt (fun i h => h.IsListIter I a i ∧ h.IsList a vs.toArray) :=
  It.ofWalks (n := vs.toArray.size) (fun A hh => Walks.list hh I a hne vs.toArray) (by rw [List.size_toArray, r.length]) (fun b hb => by
    rcases List.mem_cons.mp hb with rfl | hb
    · exact .inl rfl
    · rw [List.mem_singleton.mp hb, e]; exact .inr (Option.some_ne_none _)) (fun i h st => by refine obEAA st.1 fun o e c u_ => ?_; exact ⟨o, e, c⟩) (ty := "list_iterator") (by decide) fun i v p hp hv H' hle => by
      refine obEA (reps_get r hp) fun u hu ru => ?_
      have : vs[i]? = some v := by simpa using hv
      rw [hu] at this; (replace this := Option.some.inj this; subst this)
      exact Rep.mono hle CLe.refl ru
theorem It.dict {a I : Addr} {o : Obj} {kvs : List (Str × Value)} {ep : Nat} {l : List (Str × PV)} {tgt : Expr} (e : H a = some o) (r : Ents W H ca kvs l) (hne : a ≠ I) : It W I H ca (l.map fun e => .str e.1) [I] tgt (fun i h => h.IsKeyIter I a i kvs.length ep ∧ h.DictAt W.sk a kvs ep) :=
  It.ofWalks (n := kvs.length) (fun A hh => Walks.dictKeys hh I a hne kvs ep) (by rw [List.length_map, r.length]) (fun b hb => by
    rcases List.mem_cons.mp hb with rfl | hb
    · exact .inl rfl
    · rw [List.mem_singleton.mp hb, e]; exact .inr (Option.some_ne_none _)) (fun i h st => by refine obEAA st.1 fun o e c u_ => ?_; exact ⟨o, e, c⟩) (ty := "dict_keyiterator") (by decide) fun i v p hp hv H' hle => by
      (refine obEEA hv fun k x e1 e2 => ?_; try clear hv)
      obtain ⟨t, rfl⟩ := Value.isStrOf_shape e2
      have : ∀ {kvs : List (Str × Value)} {l : List (Str × PV)}, Ents W H ca kvs l → ∀ {i : Nat}, kvs[i]? = some (k, x) → (l.map fun e => PV.str e.1)[i]? = some (.str k) := by
        intro kvs l r
        induction l generalizing kvs with
        | nil => cases r; intro i e; exact nosome e
        | cons q l ih =>
          cases r with
          | cons a r =>
            intro i e
            cases i with
            | zero => cases e; rfl
            | succ i => exact ih r e
      have := this r e1
      rw [hp] at this; (replace this := Option.some.inj this; subst this)
      exact .str
theorem It.range {I : Addr} {n : Nat} {tgt : Expr} : It W I H ca ((List.range n).map fun (i : Nat) => .int (i : Int)) [I] tgt (fun i h => IsRangeIter h I (0 + (i : Nat) * 1) ((n : Int) - (i : Nat)) 1) :=
  It.ofWalks (n := n) (fun A hh => Walks.range hh I 0 1 n) (by simp) (fun b hb => .inl (List.mem_singleton.mp hb)) (fun i h st => ⟨_, st, rfl⟩) (ty := "range_iterator") (by decide) fun i v p hp hv H' hle => by
    obtain ⟨t, rfl⟩ := hv
    have : p = .int (i : Int) := by
      rw [List.getElem?_map] at hp
      refine obEA (Option.map_eq_some_iff.mp hp) fun j e1 e2 => ?_
      rw [List.getElem?_range (by
        rcases Nat.lt_or_ge i n with z | z
        · exact z
        · rw [List.getElem?_eq_none (by simpa using z)] at e1; exact nosome e1)] at e1
      (replace e1 := Option.some.inj e1; subst e1); exact e2.symm
    subst this
    have e : (0 + (i : Int) * 1) = (i : Int) := by omega
    rw [e]; exact .int
theorem It.str {I : Addr} {x : Str} {t : Tok} {ty : String} {tgt : Expr} (hty : goNames.contains ty = false) (wk : ∀ A : Around, A.handled = none → Walks W.prog W.w A I [I] [I] x.cps.size (SignAt x) (fun i h => h.IsStrIter I ty x t i)) : It W I H ca (signsOf x) [I] tgt (fun i h => h.IsStrIter I ty x t i) :=
  It.ofWalks wk (by unfold signsOf; rw [List.length_map]; exact sz_size x) (fun b hb => .inl (List.mem_singleton.mp hb)) (fun i h st => by (refine obEAA st fun o e c u_ => ?_; try clear st); exact ⟨o, e, c⟩) hty fun i v p hp hv H' hle => by
    (refine obEEA hv ?_; try clear hv; rintro c u e1 rfl)
    unfold signsOf at hp
    rw [List.getElem?_map] at hp
    refine obEA (Option.map_eq_some_iff.mp hp) fun d e2 e3 => ?_
    have : x.cps[i]? = some d := by simpa using e2
    rw [e1] at this; (replace this := Option.some.inj this; subst this)
    subst e3
    exact .str
noncomputable abbrev ZipSt (z TI TO i1 i2 l1 l2 : Addr) (xs ys : Array Value) (i : Nat) (h : Heap) : Prop := IsZip h z TI TO .none ∧ IsPair h TI (.ref i1) (.ref i2) ∧ (∃ a b, IsPair h TO a b) ∧ h.IsListIter i1 l1 i ∧ h.IsListIter i2 l2 i ∧ h.IsList l1 xs ∧ h.IsList l2 ys
theorem tup_of {e : Expr} (h : isTupT e = true) : ∃ es k p, e = .Tuple es k p := by
  induction e using PySem.Expr.casesOn with
  | Tuple es k p => exact ⟨es, k, p, rfl⟩
  | _ => exact noft h
theorem It.zip {z TI TO i1 i2 l1 l2 : Addr} {vs ws : List Value} {n1 n2 : Nat} {l m : List PV} {tgt : Expr} (ht : isTupT tgt = true) (D : ZipApart z TI TO i1 i2 l1 l2) (e1 : H l1 = some (listOf vs.toArray n1)) (e2 : H l2 = some (listOf ws.toArray n2)) (r1 : Reps W H ca vs l) (r2 : Reps W H ca ws m) (h1TI : l1 ≠ TI) (h2TI : l2 ≠ TI) :
    It W z H ca ((l.zip m).map fun e => .tup [e.1, e.2]) [z, TI, TO, i1, i2] tgt (ZipSt z TI TO i1 i2 l1 l2 vs.toArray ws.toArray) where
  mem := .head _
  live := fun i h st b hb => by
    (refine obAAAAAA st ?_; try clear st; rintro hz hTI ⟨a, c, hTO⟩ ⟨o1, g1, _⟩ ⟨o2, g2, _⟩ _ _)
    simp only [List.mem_cons, List.not_mem_nil, or_false] at hb
    rcases hb with rfl | rfl | rfl | rfl | rfl
    · exact ⟨_, hz⟩
    · exact ⟨_, hTI⟩
    · exact ⟨_, hTO⟩
    · exact ⟨_, g1⟩
    · exact ⟨_, g2⟩
  frame := fun i h h' st le le' k => by
    (refine obAAAAAA st ?_; try clear st; rintro hz hTI ⟨a, c, hTO⟩ g1 g2 _ _)
    refine ⟨k z (by simp) _ hz, k TI (by simp) _ hTI, ⟨a, c, k TO (by simp) _ hTO⟩, g1.at fun o e => k i1 (by simp) o e, g2.at fun o e => k i2 (by simp) o e, ⟨listOf vs.toArray n1, le' _ _ e1, rfl, n1, rfl⟩, ⟨listOf ws.toArray n2, le' _ _ e2, rfl, n2, rfl⟩⟩
  item := fun A i p s Q E hh hp st le hown h => by
    (refine obAAAAAA st ?_; try clear st; rintro hz hTI ⟨a, b, hTO⟩ g1 g2 hl1 hl2)
    rw [List.getElem?_map] at hp
    (refine obEA (Option.map_eq_some_iff.mp hp) ?_; rintro ⟨p1, p2⟩ ez rfl)
    obtain ⟨ea, eb⟩ := List.getElem?_zip_eq_some.mp ez
    refine obEA (reps_get r1 ea) fun x hx rx => ?_
    refine obEA (reps_get r2 eb) fun y hy ry => ?_
    refine wpAny_pyNext_zip_item D hz hTI hTO g1 g2 hl1 hl2 (x := x) (y := y) (by simpa using hx) (by simpa using hy) fun h' a1 a2 a3 a4 a5 a6 hk => ?_
    have lt : ∀ {c o}, s.heap.get? c = some o → s.heap.objs.size ≠ c := fun e => Nat.ne_of_gt (Heap.lt_size e)
    have kTI := hk _ _ D.TIz D.TITO D.TIi1 D.TIi2 hTI
    (refine obEA g1 fun o1 q1 u_ => ?_; try clear g1)
    (refine obEA g2 fun o2 q2 u_ => ?_; try clear g2)
    refine obEA (id a3) fun o3 q3 u_ => ?_
    refine obEA (id a4) fun o4 q4 u_ => ?_
    refine h (.ref s.heap.objs.size) h' s.toks (fun c o hc e => hk c o (fun q => hc (by simp [q])) (fun q => hc (by simp [q])) (fun q => hc (by simp [q])) (fun q => hc (by simp [q])) e) (fun c hc => ?_) (.inr ⟨_, _, rfl, get_size_none _, a5, ?_, fun H' hle e => ?_⟩) fun E' Q' q => ?_
    · simp only [List.mem_cons, List.not_mem_nil, or_false] at hc
      rcases hc with rfl | rfl | rfl | rfl | rfl
      · exact ⟨_, a1⟩
      · exact ⟨_, kTI⟩
      · exact ⟨_, a2⟩
      · exact ⟨_, q3⟩
      · exact ⟨_, q4⟩
    · simp only [List.mem_cons, List.not_mem_nil, or_false, not_or]
      exact ⟨lt hz, lt hTI, lt hTO, lt q1, lt q2⟩
    · exact .tup (vs := [x, y]) (n := 0) e (.cons (Rep.mono hle CLe.refl rx) (.cons (Rep.mono hle CLe.refl ry) .nil))
    · (refine obEE (tup_of ht) ?_; rintro _ _ ⟨_, rfl⟩)
      refine wpAny_letOwnedTupleGo_zip a1 fun h'' hz' hs' => q h'' ⟨hz', hs'.extBut _ _ D.TIz kTI, ⟨_, _, hs'.extBut _ _ D.TOz a2⟩, a3.extBut hs'.extBut D.i1z, a4.extBut hs'.extBut D.i2z, ?_, ?_⟩ fun c o hc e => hs'.extBut _ _ (fun x => hc (by simp [x])) e
      · exact (hl1.at fun o e => hk _ o D.l1z D.l1TO D.l1i1 D.l1i2 e).extBut hs'.extBut D.l1z
      · exact (hl2.at fun o e => hk _ o D.l2z D.l2TO D.l2i1 D.l2i2 e).extBut hs'.extBut D.l2z
  done := fun A s Q E hh st le hown h => by
    (refine obAAAAAA st ?_; try clear st; rintro hz hTI ⟨a, b, hTO⟩ g1 g2 hl1 hl2)
    refine wpAny_pyNext_zip_end hh D hz hTI hTO g1 g2 hl1 hl2 ?_ fun h' hk => h h' s.toks fun c o hc e => hk c o (fun q => hc (by simp [q])) (fun q => hc (by simp [q])) (fun q => hc (by simp [q])) (fun q => hc (by simp [q])) e
    rw [List.length_map, List.length_zip]
    have e1 : vs.toArray.size = l.length := by rw [List.size_toArray, r1.length]
    have e2 : ws.toArray.size = m.length := by rw [List.size_toArray, r2.length]
    rcases Nat.le_total l.length m.length with z | z
    · left; rw [Nat.min_eq_left z]; exact Array.getElem?_eq_none (by omega)
    · right; rw [Nat.min_eq_right z]; exact Array.getElem?_eq_none (by omega)
  self := fun A i s Q E hh st q => wpAny_pyIter_zip st.1 q
end
end
section
section
variable {W : Wd} {T : Tb} {H H' : IH} {ca ca' : List Addr} {R R' : RM} {env : Env} {sc : SC} {σ : St} {s s' : Shared} {A : Around} {E : Value → Shared → Prop} {d : Nat}
variable {ev : Expr → St → (PV → St → Prop) → Prop} {C : Oracle}
noncomputable def RM.iter (R : RM) (own : List Addr) (h : Heap) : RM := fun b => if b ∈ own then (h.get? b).map (fun o => .is (· = o)) else R b
theorem RM.iter_in {own : List Addr} {h : Heap} {b : Addr} {o : Obj} (hb : b ∈ own) (e : h.get? b = some o) : R.iter own h b = some (.is (· = o)) := by
  unfold RM.iter; rw [if_pos hb, e]; rfl
theorem RM.iter_ne {own : List Addr} {h : Heap} {b : Addr} (hb : b ∉ own) : R.iter own h b = R b := if_neg hb
noncomputable def OwnOk (H : IH) (R : RM) (own : List Addr) : Prop := ∀ b ∈ own, (R b = none ∧ H b = none) ∨ ∃ o, R b = some (.is (· = o))
theorem iter_core {own : List Addr} {h h' : Heap} (C : Core W H ca R h) (ho : OwnOk H R own) (k : ∀ b o, b ∉ own → h.get? b = some o → h'.get? b = some o) : Core W H ca (R.iter own h') h' := by
  have hH : ∀ b ∈ own, H b = none := fun b hb => (ho b hb).elim (fun z => z.2) fun ⟨o, e⟩ => C.hid b _ e
  refine ⟨fun a o e => k a o (fun q => by rw [hH a q] at e; exact nosome e) (C.le a o e), fun a c e => ?_, fun a c e => ?_⟩
  · by_cases hb : a ∈ own
    · exact hH a hb
    · rw [RM.iter_ne hb] at e; exact C.hid a c e
  · by_cases hb : a ∈ own
    · unfold RM.iter at e
      rw [if_pos hb] at e
      (refine obEA (Option.map_eq_some_iff.mp e) ?_; rintro o e1 rfl)
      exact ⟨o, e1, rfl⟩
    · rw [RM.iter_ne hb] at e
      exact (C.reg a c e).mono HLe.refl CLe.refl fun o q => k a o hb q
theorem iter_keep {own : List Addr} {h' : Heap} (ho : OwnOk H R own) : ∀ b d, R b = some d → d.isTmp = false → R.iter own h' b = some d := fun b d e t => by
  rw [RM.iter_ne fun hb => ?_]; exact e
  rcases ho b hb with ⟨z, _⟩ | ⟨o, z⟩
  · rw [z] at e; exact nosome e
  · rw [z] at e; (replace e := Option.some.inj e; subst e); exact notf t
theorem iter_inv {own : List Addr} (I : Inv W env sc σ H R ca s) (ho : OwnOk H R own) (k : ∀ b o, b ∉ own → s.heap.get? b = some o → s'.heap.get? b = some o) : Inv W env sc σ H (R.iter own s'.heap) ca s' ∧ (R.iter own s'.heap) env.locals = R env.locals := by
  refine ⟨⟨I.base, iter_core I.core ho k, I.fr.mono HLe.refl CLe.refl fun b d e u_ t => iter_keep ho b d e t, I.gr.mono (iter_keep ho)⟩, ?_⟩
  refine obEA I.fr.ns fun m em u_ => ?_
  rw [em]; exact iter_keep ho _ _ em rfl
theorem iter_ext {own : List Addr} {H0 : IH} {R0 : RM} {h0 h h' : Heap} {ca0 : List Addr} (X : Ext H0 R0 h0 ca0 H R h ca) (hf : ∀ b ∈ own, h0.get? b = none ∧ R0 b = none) (k : ∀ b o, b ∉ own → h.get? b = some o → h'.get? b = some o) : Ext H0 R0 h0 ca0 H (R.iter own h') h' ca := by
  refine ⟨X.imm, X.ca, fun b o e r => k b o (fun q => by rw [(hf b q).1] at e; exact nosome e) (X.pres b o e r), X.newH, fun b z => ?_, fun b d q t => ?_, fun b e => ?_⟩
  · by_cases hb : b ∈ own
    · exact .inr (hf b hb).1
    · rw [RM.iter_ne hb] at z; exact X.newR b z
  · rw [RM.iter_ne fun hb => ?_]
    · exact X.tmp b d q t
    · rw [(hf b hb).2] at q; exact nosome q
  · by_cases hb : b ∈ own
    · exact (hf b hb).1
    · refine X.live b ?_
      cases q : h.get? b with
      | none => rfl
      | some o => rw [k b o hb q] at e; exact nosome' e
theorem Core.addImm {h : Heap} {a : Addr} {o : Obj} (C : Core W H ca R h) (x : h.get? a = some o) (hR : R a = none) (hH : H a = none) : Core W (H.put a o) ca R h := by
  refine ⟨fun b q e => ?_, fun b d q => ?_, fun b d q => (C.reg b d q).mono (HLe.put hH) CLe.refl fun o z => z⟩
  · by_cases hb : b = a
    · subst hb; rw [IH.put_self] at e; (replace e := Option.some.inj e; subst e); exact x
    · rw [IH.put_ne hb] at e; exact C.le b q e
  · have hb : b ≠ a := fun z => by rw [z, hR] at q; exact nosome q
    exact (IH.put_ne hb).trans (C.hid b d q)
theorem Inv.addImm {a : Addr} {o : Obj} (I : Inv W env sc σ H R ca s) (x : s.heap.get? a = some o) (hR : R a = none) (hH : H a = none) : Inv W env sc σ (H.put a o) R ca s :=
  ⟨I.base.mono (HLe.put hH), I.core.addImm x hR hH, I.fr.mono (HLe.put hH) CLe.refl fun u_ u_ e u_ u_ => e, I.gr⟩
theorem Ext.addImm {H0 : IH} {R0 : RM} {h0 h : Heap} {ca0 : List Addr} {a : Addr} {o : Obj} (X : Ext H0 R0 h0 ca0 H R h ca) (hn : h0.get? a = none) (hH : H a = none) : Ext H0 R0 h0 ca0 (H.put a o) R h ca := by
  refine ⟨X.imm.trans (HLe.put hH), X.ca, X.pres, fun b z => ?_, X.newR, X.tmp, X.live⟩
  by_cases hb : b = a
  · subst hb; exact .inr (.inr hn)
  · rw [IH.put_ne hb] at z; exact X.newH b z
theorem isTup_of {a : Addr} {h : Heap} {vs : List Value} {n : Nat} (e : h.get? a = some { cls := .type "tuple", data := .seq vs.toArray n }) : h.IsTuple a vs.toArray := ⟨_, e, rfl, n, rfl⟩
noncomputable def IterPost (W : Wd) (env : Env) (sc : SC) (H : IH) (R : RM) (ca : List Addr) (s : Shared) (tgt : Expr) (K : List PV → St → Prop) (Q : Value → Shared → Prop) : Prop :=
  ∀ its I own St' σ' H' R' ca' s', K its σ' → Inv W env sc σ' H' R' ca' s' → It W I H' ca' its own tgt St' → St' 0 s'.heap → (∀ b ∈ own, s.heap.get? b = none ∧ ∃ o, s'.heap.get? b = some o ∧ R' b = some (.is (· = o))) →
    Ext H R s.heap ca H' R' s'.heap ca' → SEq s s' → R' env.locals = R env.locals → Q (.ref I) s'
theorem IterPost.go {tgt : Expr} {K : List PV → St → Prop} {Q : Value → Shared → Prop} {H1 : IH} {R1 : RM} {ca1 : List Addr} {s1 s2 : Shared} {own : List Addr} {I : Addr} {its : List PV} {St' : Nat → Heap → Prop} (P : IterPost W env sc H R ca s tgt K Q) (k : K its σ) (I1 : Inv W env sc σ H1 R1 ca1 s1) (X : Ext H R s.heap ca H1 R1 s1.heap ca1) (q : SEq s s1) (l : R1 env.locals = R env.locals)
    (hn : ∀ b ∈ own, s1.heap.get? b = none) (kp : ∀ b o, s1.heap.get? b = some o → s2.heap.get? b = some o) (q2 : SEq s1 s2) (it : It W I H1 ca1 its own tgt St') (st : St' 0 s2.heap) : Q (.ref I) s2 := by
  have ho : OwnOk H1 R1 own := fun b hb => .inl ⟨I1.core.freshR (hn b hb), I1.core.freshH (hn b hb)⟩
  obtain ⟨I2, l2⟩ := iter_inv (s' := s2) I1 ho fun b o u_ e => kp b o e
  refine P its I own St' σ H1 _ ca1 s2 k I2 it st (fun b hb => ?_) (X.trans (iter_ext .refl (fun b hb => ⟨hn b hb, I1.core.freshR (hn b hb)⟩) fun b o u_ e => kp b o e)) (q.trans q2) (l2.trans l)
  obtain ⟨o, e⟩ := it.live 0 _ st b hb
  exact ⟨X.live b (hn b hb), o, e, RM.iter_in hb e⟩
inductive VI (K : List PV → St → Prop) (σ : St) : PV → Prop where
  | lst {l : List PV} : K l σ → VI K σ (.lst l)
  | dct {l : List (Str × PV)} : K (l.map fun e => .str e.1) σ → VI K σ (.dct l)
  | str {x : Str} : K (signsOf x) σ → VI K σ (.str x)
theorem kIter_inv {K : List PV → St → Prop} {p : PV} (h : kIter K p σ) : VI K σ p := by
  induction p using PV.casesOn with
  | lst l => exact .lst h
  | dct l => exact .dct h
  | str x => exact .str h
  | _ => exact False.elim h
theorem size_none (s : Shared) : ∀ b ∈ [s.heap.objs.size], s.heap.get? b = none := fun b hb => by rw [List.mem_singleton.mp hb]; exact get_size_none _
theorem iter_lst {tgt : Expr} {K : List PV → St → Prop} {Q : Value → Shared → Prop} {H1 : IH} {R1 : RM} {ca1 : List Addr} {s1 : Shared} {σ1 : St} {l : List PV} {v : Value} (k : K l σ1) (I1 : Inv W env sc σ1 H1 R1 ca1 s1) (rv : Rep W H1 ca1 v (.lst l)) (x1 : Ext H R s.heap ca H1 R1 s1.heap ca1) (q1 : SEq s s1) (l1 : R1 env.locals = R env.locals) (P : IterPost W env sc H R ca s tgt K Q) : wpAny W.M A (pyIter v) Q E s1 := by
  (refine obEEEAA rv.inv ?_; rintro a vs n rfl e r)
  have g := I1.core.le _ _ e
  refine wpAny_pyIter_list (items := vs.toArray) ⟨_, g, rfl, n, rfl⟩ ?_
  have kp : ∀ b o, s1.heap.get? b = some o → (s1.heap.push { cls := .type "list_iterator", data := .fields #[.ref a, .int 0 0] }).get? b = some o := fun b o e => Heap.get?_push_of_some _ e
  exact P.go (own := [s1.heap.objs.size]) (s2 := { s1 with heap := s1.heap.push { cls := .type "list_iterator", data := .fields #[.ref a, .int 0 0] } }) k I1 x1 q1 l1 (size_none _) kp ⟨rfl, rfl, rfl⟩ (It.list e r (Nat.ne_of_lt (Heap.lt_size g))) ⟨⟨_, Heap.get?_push_size _ rfl, rfl, rfl⟩, ⟨_, kp _ _ g, rfl, n, rfl⟩⟩
theorem iter_dct {tgt : Expr} {K : List PV → St → Prop} {Q : Value → Shared → Prop} {H1 : IH} {R1 : RM} {ca1 : List Addr} {s1 : Shared} {σ1 : St} {l : List (Str × PV)} {v : Value} (k : K (l.map fun e => .str e.1) σ1) (I1 : Inv W env sc σ1 H1 R1 ca1 s1) (rv : Rep W H1 ca1 v (.dct l)) (x1 : Ext H R s.heap ca H1 R1 s1.heap ca1) (q1 : SEq s s1) (l1 : R1 env.locals = R env.locals) (P : IterPost W env sc H R ca s tgt K Q) : wpAny W.M A (pyIter v) Q E s1 := by
  (refine obEEEAAAA rv.inv ?_; rintro a o kvs rfl z e dd r)
  have g := I1.core.le _ _ e
  obtain ⟨ep, hat⟩ := (dd.of g).dictAt
  refine wpAny_pyIter_dict z hat ?_
  have kp : ∀ b o, s1.heap.get? b = some o → (s1.heap.push { cls := .type "dict_keyiterator", data := .fields #[.ref a, .int 0 0, .int kvs.length 0, .int ep 0] }).get? b = some o := fun b o e => Heap.get?_push_of_some _ e
  refine P.go (own := [s1.heap.objs.size]) (s2 := { s1 with heap := s1.heap.push { cls := .type "dict_keyiterator", data := .fields #[.ref a, .int 0 0, .int kvs.length 0, .int ep 0] } }) k I1 x1 q1 l1 (size_none _) kp ⟨rfl, rfl, rfl⟩ (It.dict (ep := ep) e r (Nat.ne_of_lt (Heap.lt_size g))) ?_
  refine (Walks.dictKeys (prog := W.prog) (w := W.w) (A := { callerA with handled := none }) rfl s1.heap.objs.size a (Nat.ne_of_lt (Heap.lt_size g)) kvs ep).frame 0 _ _ (?_ : Heap.IsKeyIter _ _ _ _ _ _ ∧ _) fun u_ u_ u_ e => e
  refine ⟨⟨_, Heap.get?_push_size _ rfl, rfl, rfl⟩, ?_⟩
  (refine obEEA hat fun o' es e1 r1 => ?_; try clear hat)
  exact ⟨o', es, kp _ _ e1, r1⟩
theorem iter_str {tgt : Expr} {K : List PV → St → Prop} {Q : Value → Shared → Prop} {H1 : IH} {R1 : RM} {ca1 : List Addr} {s1 : Shared} {σ1 : St} {x : Str} {v : Value} (k : K (signsOf x) σ1) (I1 : Inv W env sc σ1 H1 R1 ca1 s1) (rv : Rep W H1 ca1 v (.str x)) (x1 : Ext H R s.heap ca H1 R1 s1.heap ca1) (q1 : SEq s s1) (l1 : R1 env.locals = R env.locals) (P : IterPost W env sc H R ca s tgt K Q) : wpAny W.M A (pyIter v) Q E s1 := by
  obtain ⟨t, rfl⟩ := rv.inv
  cases ha : x.cps.all (· < 128)
  · refine wpAny_pyIter_wide ha ?_
    exact P.go (own := [s1.heap.objs.size]) (s2 := { s1 with heap := s1.heap.push { cls := .type "str_iterator", data := .fields #[.str x t, .int 0 0] } }) k I1 x1 q1 l1 (size_none _) (fun b o e => Heap.get?_push_of_some _ e) ⟨rfl, rfl, rfl⟩ (It.str (ty := "str_iterator") (by decide) fun A' hA => Walks.strWide hA _ x t) ⟨_, Heap.get?_push_size _ rfl, rfl, rfl⟩
  · refine wpAny_pyIter_ascii ha ?_
    exact P.go (own := [s1.heap.objs.size]) (s2 := { s1 with heap := s1.heap.push { cls := .type "str_ascii_iterator", data := .fields #[.str x t, .int 0 0] } }) k I1 x1 q1 l1 (size_none _) (fun b o e => Heap.get?_push_of_some _ e) ⟨rfl, rfl, rfl⟩ (It.str (ty := "str_ascii_iterator") (by decide) fun A' hA => Walks.strAscii hA _ x t) ⟨_, Heap.get?_push_size _ rfl, rfl, rfl⟩
theorem iter_usual (S : SndE W d ev sc) {tgt e : Expr} {K : List PV → St → Prop} {Q : Value → Shared → Prop} (h : ev e σ (kIter K)) (a : Amb A d) (I : Inv W env sc σ H R ca s) (P : IterPost W env sc H R ca s tgt K Q) : wpAny W.M A (eval e env) (fun x s₁ => wpAny W.M A (pyIter x) Q E s₁) E s := by
  refine S e σ _ h A env H R ca s _ E a I fun v p σ1 H1 R1 ca1 s1 k I1 rv x1 q1 l1 => ?_
  cases kIter_inv k with
  | lst k' => exact iter_lst k' I1 rv x1 q1 l1 P
  | dct k' => exact iter_dct k' I1 rv x1 q1 l1 P
  | str k' => exact iter_str k' I1 rv x1 q1 l1 P
theorem kRange1_inv {args : List Expr} {K : List PV → St → Prop} {p : PV} (h : kRange1 args ev K p σ) : p = .bi .range ∧ vcEs args ev σ (kRange2 K) := by
  induction p using PV.casesOn with
  | bi b => induction b using Bi.casesOn with
    | range => exact ⟨rfl, h⟩
    | _ => exact False.elim h
  | _ => exact False.elim h
theorem kRange2_inv {K : List PV → St → Prop} {ps : List PV} (h : kRange2 K ps σ) : ∃ n, ps = [.int n] ∧ idx n = true ∧ sfits n.toNat = true ∧ K ((List.range n.toNat).map fun (i : Nat) => .int (i : Int)) σ := by
  refine obEA (onSome_inv h) fun p e1 h => ?_
  refine obEA (onSome_inv h) fun n e2 h => ?_
  obtain ⟨a, h⟩ := req_iff.mp h
  obtain ⟨b, h⟩ := req_iff.mp h
  exact ⟨n, asInt_inv e2 ▸ one_inv e1, a, b, h⟩
theorem kZip1_inv {args : List Expr} {K : List PV → St → Prop} {p : PV} (h : kZip1 args ev K p σ) : p = .bi .zip ∧ vcEs args ev σ (kZip2 K) := by
  induction p using PV.casesOn with
  | bi b => induction b using Bi.casesOn with
    | zip => exact ⟨rfl, h⟩
    | _ => exact False.elim h
  | _ => exact False.elim h
theorem kZip2_inv {K : List PV → St → Prop} {ps : List PV} (h : kZip2 K ps σ) : ∃ l m, ps = [.lst l, .lst m] ∧ K ((l.zip m).map fun e => .tup [e.1, e.2]) σ := by
  induction ps using List.casesOn with
  | nil => exact False.elim h
  | cons p r =>
    refine obEA (onSome_inv h) fun q e1 h => ?_
    refine obEA (onSome_inv h) fun l e2 h => ?_
    refine obEA (onSome_inv h) fun m e3 h => ?_
    exact ⟨l, m, by rw [asLst_inv e2, one_inv e1, asLst_inv e3], h⟩
inductive VIt (ev : Evl) (tgt : Expr) (σ : St) (K : List PV → St → Prop) : Expr → Prop where
  | usual {e : Expr} : ev e σ (kIter K) → VIt ev tgt σ K e
  | range {f : Str} {fp pos : Pos} {args : List Expr} : args.all notStar = true → ev (.Name f fp) σ (kRange1 args ev K) → VIt ev tgt σ K (.Call (.Name f fp) args [] pos)
  | zip {f : Str} {fp pos : Pos} {args : List Expr} : args.all notStar = true → isTupT tgt = true → ev (.Name f fp) σ (kZip1 args ev K) → VIt ev tgt σ K (.Call (.Name f fp) args [] pos)
theorem vcIter_call {tgt : Expr} {f : Str} {fp pos : Pos} {args : List Expr} {K : List PV → St → Prop} (h : vcIter tgt (.Call (.Name f fp) args [] pos) ev σ K) : VIt ev tgt σ K (.Call (.Name f fp) args [] pos) := by
  have h : (if f = "range" then req (args.all notStar) (ev (.Name f fp) σ (kRange1 args ev K))
      else if f = "zip" then req (args.all notStar && isTupT tgt) (ev (.Name f fp) σ (kZip1 args ev K))
      else ev (.Call (.Name f fp) args [] pos) σ (kIter K)) := h
  by_cases e1 : f = "range"
  · rw [if_pos e1] at h
    obtain ⟨a, h⟩ := req_iff.mp h
    exact .range a h
  · rw [if_neg e1] at h
    by_cases e2 : f = "zip"
    · rw [if_pos e2] at h
      obtain ⟨a, h⟩ := req_iff.mp h
      obtain ⟨a, b⟩ := Bool.and_eq_true_iff.mp a
      exact .zip a b h
    · rw [if_neg e2] at h
      exact .usual h
theorem vcIter_inv {tgt e : Expr} {K : List PV → St → Prop} (h : vcIter tgt e ev σ K) : VIt ev tgt σ K e := by
  induction e using PySem.Expr.casesOn with
  | Call f args kws pos => induction f using PySem.Expr.casesOn with
    | Name f fp => induction kws using List.casesOn with
      | nil => exact vcIter_call h
      | cons _ _ => exact .usual h
    | _ => exact .usual h
  | _ => exact .usual h
theorem iter_range {tgt : Expr} {K : List PV → St → Prop} {Q : Value → Shared → Prop} {H2 : IH} {R2 : RM} {ca2 : List Addr} {s2 : Shared} {σ2 : St} {n : Int} {t : Nat} (h1 : idx n = true) (h2 : sfits n.toNat = true) (k : K ((List.range n.toNat).map fun (i : Nat) => .int (i : Int)) σ2) (I2 : Inv W env sc σ2 H2 R2 ca2 s2) (x2 : Ext H R s.heap ca H2 R2 s2.heap ca2) (q2 : SEq s s2) (l2 : R2 env.locals = R env.locals) (P : IterPost W env sc H R ca s tgt K Q) :
    wpAny W.M A (call (.type "range") [.int n t]) (fun x s₁ => wpAny W.M A (pyIter x) Q E s₁) E s2 := by
  have hk := idx_lt h1
  have hz := sfits_le h2
  refine call_range_1 ?_
  obtain ⟨m, rfl⟩ : ∃ m : Nat, n = (m : Int) := ⟨n.toNat, by omega⟩
  have hm : (m : Int).toNat = m := by simp
  rw [hm] at hz
  have hsz : Builtin.Range.rangeSize 0 (m : Int) 1 = (m : Int) := by
    unfold Builtin.Range.rangeSize
    rw [if_pos (by decide)]
    split
    · omega
    · omega
  have hlong : ∀ z : Int, 0 ≤ z → z < 1048577 → Builtin.Range.rangeFitsLong z = true := fun z h1 h2 => by
    unfold Builtin.Range.rangeFitsLong
    simp
    omega
  have hsmall : Builtin.Range.small 0 (m : Int) 1 = true := by
    unfold Builtin.Range.small
    rw [hsz, hlong 0 (by omega) (by omega), hlong (m : Int) (by omega) (by omega), hlong 1 (by omega) (by omega)]
    simp only [Bool.true_and]
    rw [if_pos (by decide), hlong _ (by omega) (by omega)]
    simp
  refine wpAny_pyIter_range (Heap.get?_push_size _ rfl) hsmall ?_
  rw [hsz]
  have kp1 : ∀ b o, s2.heap.get? b = some o → (s2.heap.push { cls := .type "range", data := .fields #[.int 0 s2.toks, .int (m : Int) t, .int 1 (s2.toks + 1)] }).get? b = some o := fun b o e => Heap.get?_push_of_some _ e
  have I3 : Inv W env sc σ2 H2 R2 ca2 { s2 with heap := s2.heap.push { cls := .type "range", data := .fields #[.int 0 s2.toks, .int (m : Int) t, .int 1 (s2.toks + 1)] }, toks := s2.toks + 1 + 1 } := (I2.grow (s' := { s2 with heap := s2.heap.push { cls := .type "range", data := .fields #[.int 0 s2.toks, .int (m : Int) t, .int 1 (s2.toks + 1)] } }) kp1).tok
  rw [hm] at k
  refine P.go (own := [(s2.heap.push { cls := .type "range", data := .fields #[.int 0 s2.toks, .int (m : Int) t, .int 1 (s2.toks + 1)] }).objs.size]) k I3 (x2.trans (Ext.grow kp1)) (q2.trans ⟨rfl, rfl, rfl⟩) l2 (fun b hb => by rw [List.mem_singleton.mp hb]; exact get_size_none _) (fun b o e => Heap.get?_push_of_some _ e) ⟨rfl, rfl, rfl⟩ It.range ?_
  have e1 : (0 + ((0 : Nat) : Int) * 1) = 0 := by decide
  have e2 : (m : Int) - ((0 : Nat) : Int) = (m : Int) := by omega
  show IsRangeIter _ _ (0 + ((0 : Nat) : Int) * 1) ((m : Int) - ((0 : Nat) : Int)) 1
  rw [e1, e2]
  exact Heap.get?_push_size _ rfl
theorem iter_zip {tgt : Expr} {K : List PV → St → Prop} {Q : Value → Shared → Prop} {H2 : IH} {R2 : RM} {ca2 : List Addr} {s2 : Shared} {σ2 : St} {l m : List PV} {b1 b2 : Addr} {us ws : List Value} {n1 n2 : Nat} (htup : isTupT tgt = true) (e1 : H2 b1 = some (listOf us.toArray n1)) (r1 : Reps W H2 ca2 us l) (e2 : H2 b2 = some (listOf ws.toArray n2)) (r2 : Reps W H2 ca2 ws m) (k : K ((l.zip m).map fun e => .tup [e.1, e.2]) σ2) (I2 : Inv W env sc σ2 H2 R2 ca2 s2) (x2 : Ext H R s.heap ca H2 R2 s2.heap ca2) (q2 : SEq s s2) (l2 : R2 env.locals = R env.locals) (P : IterPost W env sc H R ca s tgt K Q) :
    wpAny W.M A (call (.type "zip") [.ref b1, .ref b2]) (fun x s₁ => wpAny W.M A (pyIter x) Q E s₁) E s2 := by
  have g1 := I2.core.le _ _ e1
  have g2 := I2.core.le _ _ e2
  have lt1 := Heap.lt_size g1
  have lt2 := Heap.lt_size g2
  refine call_zip_2 (xs := us.toArray) (ys := ws.toArray) ⟨_, g1, rfl, n1, rfl⟩ ⟨_, g2, rfl, n2, rfl⟩ fun h' z1 z2 z3 z4 z5 z6 kp => ?_
  refine wpAny_pyIter_zip z1 ?_
  have D : ZipApart (s2.heap.objs.size + 4) (s2.heap.objs.size + 2) (s2.heap.objs.size + 3) s2.heap.objs.size (s2.heap.objs.size + 1) b1 b2 := by
    have n1 : @LT.lt Nat instLTNat b1 s2.heap.objs.size := lt1
    have n2 : @LT.lt Nat instLTNat b2 s2.heap.objs.size := lt2
    constructor <;> (show @Ne Nat _ _; omega)
  refine P.go (own := [s2.heap.objs.size + 4, s2.heap.objs.size + 2, s2.heap.objs.size + 3, s2.heap.objs.size, s2.heap.objs.size + 1]) (s1 := s2) (s2 := { s2 with heap := h' }) k I2 x2 q2 l2 (fun b hb => ?_) kp ⟨rfl, rfl, rfl⟩
    (It.zip htup D e1 e2 r1 r2 (Nat.ne_of_lt (Nat.lt_of_lt_of_le lt1 (by omega))) (Nat.ne_of_lt (Nat.lt_of_lt_of_le lt2 (by omega)))) ⟨z1, z2, ⟨_, _, z3⟩, z4, z5, ⟨_, kp _ _ g1, rfl, n1, rfl⟩, ⟨_, kp _ _ g2, rfl, n2, rfl⟩⟩
  refine Heap.get?_none_of_le ?_
  simp only [List.mem_cons, List.not_mem_nil, or_false] at hb
  rcases hb with rfl | rfl | rfl | rfl | rfl
  · exact Nat.le_add_right _ _
  · exact Nat.le_add_right _ _
  · exact Nat.le_add_right _ _
  · exact Nat.le_refl _
  · exact Nat.le_add_right _ _
theorem snd_iter (S : SndE W d ev sc) (hst : NoStar ev) {tgt e : Expr} {K : List PV → St → Prop} {Q : Value → Shared → Prop} (h : vcIter tgt e ev σ K) (a : Amb A d) (I : Inv W env sc σ H R ca s) (P : IterPost W env sc H R ca s tgt K Q) :
    wpAny W.M A (eval e env) (fun x s₁ => wpAny W.M A (pyIter x) Q E s₁) E s := by
  cases vcIter_inv h with
  | usual h => exact iter_usual S h a I P
  | @range f fp pos args hs h' =>
    show wpAny W.M A (eval (.Name f fp) env >>= fun fv => callWith pos fv [] (backTo pos (starEach args env)) (backToKw pos (keywordEach [] env))) _ E s
    refine wpAny_bind (S _ σ _ h' A env H R ca s _ E a I fun v p σ1 H1 R1 ca1 s1 k I1 rv x1 q1 l1 => ?_)
    obtain ⟨rfl, k⟩ := kRange1_inv k
    obtain rfl := rv.inv
    refine callWith_go (P := fun u_ => True) hs (keep_bi (b := .range)) ?_
    refine snd_es S hst args σ1 _ k A H1 R1 ca1 s1 _ E pos a I1 fun vs ps σ2 H2 R2 ca2 s2 k I2 rs x2 q2 l2 => ⟨trivial, ?_⟩
    (refine obEAAA (kRange2_inv k) ?_; rintro n rfl h1 h2 k)
    (refine obEA (reps_one rs) ?_; rintro u rfl r)
    obtain ⟨t, rfl⟩ := r.inv
    exact iter_range h1 h2 k I2 (x1.trans x2) (q1.trans q2) (l2.trans l1) P
  | @zip f fp pos args hs htup h' =>
    show wpAny W.M A (eval (.Name f fp) env >>= fun fv => callWith pos fv [] (backTo pos (starEach args env)) (backToKw pos (keywordEach [] env))) _ E s
    refine wpAny_bind (S _ σ _ h' A env H R ca s _ E a I fun v p σ1 H1 R1 ca1 s1 k I1 rv x1 q1 l1 => ?_)
    obtain ⟨rfl, k⟩ := kZip1_inv k
    obtain rfl := rv.inv
    refine callWith_go (P := fun u_ => True) hs (keep_bi (b := .zip)) ?_
    refine snd_es S hst args σ1 _ k A H1 R1 ca1 s1 _ E pos a I1 fun vs ps σ2 H2 R2 ca2 s2 k I2 rs x2 q2 l2 => ⟨trivial, ?_⟩
    (refine obEEA (kZip2_inv k) ?_; rintro l m rfl k)
    (refine obEEAA rs.icons ?_; rintro u us' rfl r rs)
    (refine obEA (reps_one rs) ?_; rintro w rfl r')
    (refine obEEEAA r.inv ?_; rintro b1 us n1 rfl e1 r1)
    (refine obEEEAA r'.inv ?_; rintro b2 ws n2 rfl e2 r2)
    exact iter_zip htup e1 r1 e2 r2 k I2 (x1.trans x2) (q1.trans q2) (l2.trans l1) P
end
end
section
section
variable {W : Wd} {T : Tb} {H H' H'' : IH} {ca ca' ca'' : List Addr} {R R' R'' : RM} {env : Env} {sc : SC} {σ : St} {s s' : Shared} {A : Around} {E : Value → Shared → Prop} {d : Nat} {h h' h'' : Heap}
variable {ev : Expr → St → (PV → St → Prop) → Prop} {C : Oracle}
structure ExtX (X : List Addr) (H : IH) (R : RM) (h : Heap) (ca : List Addr) (H' : IH) (R' : RM) (h' : Heap) (ca' : List Addr) : Prop where
  imm : HLe H H'
  ca : CLe ca ca'
  pres : ∀ b o, b ∉ X → h.get? b = some o → R b = none → h'.get? b = some o
  newH : ∀ b, b ∉ X → H' b ≠ none → H b ≠ none ∨ R b ≠ none ∨ h.get? b = none
  newR : ∀ b, b ∉ X → R' b ≠ none → R b ≠ none ∨ h.get? b = none
  tmp : ∀ a c, a ∉ X → R a = some c → c.stay = true → R' a = some c
  live : ∀ b, b ∉ X → h'.get? b = none → h.get? b = none
theorem Ext.toX {X : List Addr} (x : Ext H R h ca H' R' h' ca') : ExtX X H R h ca H' R' h' ca' :=
  ⟨x.imm, x.ca, fun b o u_ => x.pres b o, fun b u_ => x.newH b, fun b u_ => x.newR b, fun a c u_ => x.tmp a c, fun b u_ => x.live b⟩
theorem ExtX.trans {X : List Addr} (x : ExtX X H R h ca H' R' h' ca') (y : ExtX X H' R' h' ca' H'' R'' h'' ca'') : ExtX X H R h ca H'' R'' h'' ca'' := by
  refine ⟨x.imm.trans y.imm, x.ca.trans y.ca, fun b o hb e r => y.pres b o hb (x.pres b o hb e r) ?_, fun b hb e => ?_, fun b hb e => ?_, fun a c hb e t => y.tmp a c hb (x.tmp a c hb e t) t, fun b hb e => x.live b hb (y.live b hb e)⟩
  · cases q : R' b with
    | none => rfl
    | some c =>
      rcases x.newR b hb (by rw [q]; exact Option.some_ne_none _) with z | z
      · exact absurd r z
      · rw [z] at e; exact nosome e
  · rcases y.newH b hb e with z | z | z
    · exact x.newH b hb z
    · rcases x.newR b hb z with u | u
      · exact .inr (.inl u)
      · exact .inr (.inr u)
    · exact .inr (.inr (x.live b hb z))
  · rcases y.newR b hb e with z | z
    · exact x.newR b hb z
    · exact .inr (x.live b hb z)
theorem ExtX.wid {X Y : List Addr} (x : ExtX X H R h ca H' R' h' ca') (hs : ∀ b ∈ X, b ∈ Y) : ExtX Y H R h ca H' R' h' ca' :=
  ⟨x.imm, x.ca, fun b o n => x.pres b o fun z => n (hs b z), fun b n => x.newH b fun z => n (hs b z), fun b n => x.newR b fun z => n (hs b z), fun a c n => x.tmp a c fun z => n (hs a z), fun b n => x.live b fun z => n (hs b z)⟩
theorem ExtX.cut {X Y : List Addr} (x : ExtX X H R h ca H' R' h' ca') (hs : ∀ b ∈ X, b ∈ Y ∨ (h.get? b = none ∧ R b = none)) : ExtX Y H R h ca H' R' h' ca' := by
  have k : ∀ b, b ∉ Y → b ∈ X → h.get? b = none ∧ R b = none := fun b n z => (hs b z).resolve_left n
  refine ⟨x.imm, x.ca, fun b o n e r => ?_, fun b n z => ?_, fun b n z => ?_, fun a c n e t => ?_, fun b n e => ?_⟩
  · by_cases hb : b ∈ X
    · rw [(k b n hb).1] at e; exact nosome e
    · exact x.pres b o hb e r
  · by_cases hb : b ∈ X
    · exact .inr (.inr (k b n hb).1)
    · exact x.newH b hb z
  · by_cases hb : b ∈ X
    · exact .inr (k b n hb).1
    · exact x.newR b hb z
  · by_cases hb : a ∈ X
    · rw [(k a n hb).2] at e; exact nosome e
    · exact x.tmp a c hb e t
  · by_cases hb : b ∈ X
    · exact (k b n hb).1
    · exact x.live b hb e
theorem ExtX.toExt (x : ExtX [] H R h ca H' R' h' ca') : Ext H R h ca H' R' h' ca' :=
  ⟨x.imm, x.ca, fun b o => x.pres b o List.not_mem_nil, fun b => x.newH b List.not_mem_nil, fun b => x.newR b List.not_mem_nil, fun a c => x.tmp a c List.not_mem_nil, fun b => x.live b List.not_mem_nil⟩
theorem ExtX.refl {X : List Addr} : ExtX X H R h ca H R h ca := Ext.refl.toX
noncomputable def OwnIs (R : RM) (h : Heap) (own : List Addr) : Prop := ∀ b ∈ own, ∃ o, h.get? b = some o ∧ R b = some (.is (· = o))
theorem OwnIs.ok {own : List Addr} (x : OwnIs R h own) : OwnOk H R own := fun b hb => .inr (let ⟨o, _, e⟩ := x b hb; ⟨o, e⟩)
theorem OwnIs.keep {own X : List Addr} (x : OwnIs R h own) (C : Core W H' ca' R' h') (e : ExtX X H R h ca H' R' h' ca') (hd : ∀ b ∈ own, b ∉ X) : OwnIs R' h' own ∧ ∀ b ∈ own, ∀ o, h.get? b = some o → h'.get? b = some o := by
  have k : ∀ b ∈ own, ∃ o, h.get? b = some o ∧ h'.get? b = some o ∧ R' b = some (.is (· = o)) := fun b hb => by
    refine obEA (x b hb) fun o e1 e2 => ?_
    have e3 := e.tmp b _ (hd b hb) e2 rfl
    refine obEA (C.reg b _ e3) fun o' e4 e5 => ?_
    have e5 : o' = o := e5
    exact ⟨o, e1, e5 ▸ e4, e3⟩
  refine ⟨fun b hb => ?_, fun b hb o z => ?_⟩
  · refine obEAA (k b hb) fun o e1 e2 e3 => ?_; exact ⟨o, e2, e3⟩
  · refine obEAA (k b hb) fun o' e1 e2 e3 => ?_
    rw [e1] at z; (replace z := Option.some.inj z; subst z); exact e2
theorem iterX {own : List Addr} {h h' : Heap} (k : ∀ b o, b ∉ own → h.get? b = some o → h'.get? b = some o) : ExtX own H R h ca H (R.iter own h') h' ca := by
  refine ⟨HLe.refl, CLe.refl, fun b o n e u_ => k b o n e, fun b u_ z => .inl z, fun b n z => ?_, fun a c n e u_ => ?_, fun b n e => ?_⟩
  · rw [RM.iter_ne n] at z; exact .inl z
  · rw [RM.iter_ne n]; exact e
  · cases q : h.get? b with
    | none => rfl
    | some o => rw [k b o n q] at e; exact nosome' e
theorem addImmX {X : List Addr} {a : Addr} {o : Obj} {h0 : Heap} {H0 : IH} {R0 : RM} {ca0 : List Addr} (x : ExtX X H0 R0 h0 ca0 H R h ca) (hn : h0.get? a = none) (hH : H a = none) : ExtX X H0 R0 h0 ca0 (H.put a o) R h ca := by
  refine ⟨x.imm.trans (HLe.put hH), x.ca, x.pres, fun b n z => ?_, x.newR, x.tmp, x.live⟩
  by_cases hb : b = a
  · subst hb; exact .inr (.inr hn)
  · rw [IH.put_ne hb] at z; exact x.newH b n z
theorem it_step {Ia : Addr} {H0 : IH} {ca0 : List Addr} {its : List PV} {own : List Addr} {tgt : Expr} {St' : Nat → Heap → Prop} (it : It W Ia H0 ca0 its own tgt St') (hle : HLe H0 H) (hcl : CLe ca0 ca) (I : Inv W env sc σ H R ca s) {i : Nat} (st : St' i s.heap) (hown : OwnIs R s.heap own) {p : PV} (hp : its[i]? = some p) (hA : A.handled = none) {Qn : Option Value → Shared → Prop}
    (P : ∀ v s1, (∀ (E' : Value → Shared → Prop) (Q' : Unit → Shared → Prop), (∀ H2 R2 s2, Inv W env sc σ H2 R2 ca s2 → St' (i + 1) s2.heap → OwnIs R2 s2.heap own → Rep W H2 ca v p → ExtX own H R s.heap ca H2 R2 s2.heap ca → SEq s s2 → HLe H H2 → Q' () s2) → wpAny W.M A (letOwnedTupleGo tgt (.ref Ia) v) Q' E' s1) → Qn (some v) s1) :
    wpAny W.M A (pyNext (.ref Ia)) Qn E s := by
  have le0 : ∀ {H' : IH} {h : Heap}, HLe H H' → Le H' h → Le H0 h := fun x y a o e => y a o (x a o (hle a o e))
  have hH : ∀ b ∈ own, H b = none := fun b hb => by refine obEA (hown b hb) fun o u_ e => ?_; exact I.core.hid b _ e
  have hH0 : ∀ b ∈ own, H0 b = none := fun b hb => by
    cases q : H0 b with
    | none => rfl
    | some o => have := hle b o q; rw [hH b hb] at this; exact nosome this
  refine it.item A i p s Qn E hA hp st (le0 HLe.refl I.core.le) hH0 fun v h1 tk k1 lv nr cont => ?_
  refine P v _ fun E' Q' q => cont E' Q' fun h2 st2 k2 => ?_
  obtain ⟨I1, _⟩ := iter_inv (s' := { s with heap := h1, toks := tk }) I hown.ok k1
  have x1 : ExtX own H R s.heap ca H (R.iter own h1) h1 ca := iterX k1
  have own1 : OwnIs (R.iter own h1) h1 own := fun b hb => by obtain ⟨o, e⟩ := lv b hb; exact ⟨o, e, RM.iter_in hb e⟩
  have lv2 : ∀ b ∈ own, ∃ o, h2.get? b = some o := it.live _ _ st2
  rcases nr with nr | ⟨a, o, rfl, hn, ho, hno, nr⟩
  · obtain ⟨I2, _⟩ := iter_inv (s' := { s with heap := h2, toks := tk }) I1 own1.ok k2
    exact q H _ { s with heap := h2, toks := tk } I2 st2 (fun b hb => by obtain ⟨o, e⟩ := lv2 b hb; exact ⟨o, e, RM.iter_in hb e⟩) (Rep.mono HLe.refl hcl (nr H hle)) (x1.trans (iterX k2)) ⟨rfl, rfl, rfl⟩ HLe.refl
  · have hR1 : (R.iter own h1) a = none := by rw [RM.iter_ne hno]; exact I.core.freshR hn
    have hHa := I.core.freshH hn
    have I1' := I1.addImm ho hR1 hHa
    obtain ⟨I2, _⟩ := iter_inv (s' := { s with heap := h2, toks := tk }) I1' own1.ok k2
    exact q (H.put a o) _ { s with heap := h2, toks := tk } I2 st2 (fun b hb => by obtain ⟨o, e⟩ := lv2 b hb; exact ⟨o, e, RM.iter_in hb e⟩) (Rep.mono HLe.refl hcl (nr (H.put a o) (hle.trans (HLe.put hHa)) IH.put_self)) ((addImmX x1 hn hHa).trans (iterX k2)) ⟨rfl, rfl, rfl⟩ (HLe.put hHa)
theorem it_done {Ia : Addr} {H0 : IH} {ca0 : List Addr} {its : List PV} {own : List Addr} {tgt : Expr} {St' : Nat → Heap → Prop} (it : It W Ia H0 ca0 its own tgt St') (hle : HLe H0 H) (I : Inv W env sc σ H R ca s) (st : St' its.length s.heap) (hown : OwnIs R s.heap own) (hA : A.handled = none) {Qn : Option Value → Shared → Prop}
    (P : ∀ R2 s2, Inv W env sc σ H R2 ca s2 → ExtX own H R s.heap ca H R2 s2.heap ca → SEq s s2 → (∀ b ∈ own, ∀ c, R2 b = some c → c.loc = true) → Qn none s2) : wpAny W.M A (pyNext (.ref Ia)) Qn E s := by
  have hH : ∀ b ∈ own, H b = none := fun b hb => by refine obEA (hown b hb) fun o u_ e => ?_; exact I.core.hid b _ e
  have hH0 : ∀ b ∈ own, H0 b = none := fun b hb => by
    cases q : H0 b with
    | none => rfl
    | some o => have := hle b o q; rw [hH b hb] at this; exact nosome this
  refine it.done A s Qn E hA st (fun a o e => I.core.le a o (hle a o e)) hH0 fun h1 tk k1 => ?_
  obtain ⟨I1, _⟩ := iter_inv (s' := { s with heap := h1, toks := tk }) I hown.ok k1
  refine P _ { s with heap := h1, toks := tk } I1 (iterX k1) ⟨rfl, rfl, rfl⟩ fun b hb c e => ?_
  unfold RM.iter at e
  rw [if_pos hb] at e
  (refine obEA (Option.map_eq_some_iff.mp e) ?_; rintro o _ rfl)
  rfl
theorem snd_store_plain {x : Str} {p : PV} {v : Value} {K : St → Prop} {Q : Unit → Shared → Prop} (h : vcStoreName sc x false p σ K) (I : Inv W env sc σ H R ca s) (hv : Rep W H ca v p)
    (P : ∀ σ' R' s', K σ' → Inv W env sc σ' H R' ca s' → Ext H R s.heap ca H R' s'.heap ca → SEq s s' → Q () s') : wpAny W.M A (bindName env x v) Q E s :=
  snd_store h I (own := false) hv fun σ' R' s' k I' x t q => P σ' R' s' k I' (x _ _ _ _ .refl fun z => nomatch z) q
theorem assign_Name' {x : Str} {pos : Pos} {v : Value} {Q : Unit → Shared → Prop} (h : wpAny W.M A (bindName env x v) Q E s) : wpAny W.M A (assign (.Name x pos) env v) Q E s :=
  wpAny_bind (m := standAt pos) (wpAny_standAt h)
theorem nm_inv {t : Expr} {x : Str × Pos} (h : nm? t = some x) : t = .Name x.1 x.2 := by
  induction t using PySem.Expr.casesOn with
  | Name y p => (replace h := Option.some.inj h; subst h); rfl
  | _ => exact nosome h
theorem go_cons {t : Expr} {ts : List Expr} {p : PV} {ps : List PV} {K : St → Prop} (h : vcTargets sc (t :: ts) (p :: ps) σ K) : ∃ x pos, t = .Name x pos ∧ vcStoreName sc x false p σ (kTgt (vcTargets sc ts) ps K) := by
  have h : (match nm? t with
    | some x => vcStoreName sc x.1 false p σ (kTgt (vcTargets sc ts) ps K)
    | none => False) := h
  cases e : nm? t with
  | none => rw [e] at h; exact h.elim
  | some x => rw [e] at h; exact ⟨x.1, x.2, nm_inv e, h⟩
theorem store_some {x : Str} {p : PV} {K : St → Prop} (h : vcStoreName sc x false p σ K) : ∃ σ', K σ' := by
  rcases store_inv h with ⟨_, h⟩ | ⟨_, _, _, h⟩
  · exact ⟨_, h⟩
  · exact ⟨_, h⟩
theorem tgt_len {ts : List Expr} {ps : List PV} {K : St → Prop} (h : vcTargets sc ts ps σ K) : (assignEach ts env).length = ps.length ∧ (assignEach ts env).findIdx? (·.1) = none := by
  induction ts generalizing ps σ with
  | nil => induction ps using List.casesOn with
    | nil => exact ⟨rfl, rfl⟩
    | cons p ps => exact h.elim
  | cons t ts ih => induction ps using List.casesOn with
    | nil => exact h.elim
    | cons p ps =>
      (refine obEEA (go_cons h) ?_; rintro x pos rfl hs)
      obtain ⟨σ', k⟩ := store_some hs
      obtain ⟨e1, e2⟩ := ih k
      refine ⟨congrArg (· + 1) e1, ?_⟩
      show ((false, assign (.Name x pos) env) :: assignEach ts env).findIdx? (·.1) = none
      rw [List.findIdx?_cons, e2]
      rfl
theorem tgt_go {ts : List Expr} : ∀ {ps : List PV} {vs : List Value} {σ : St} {K : St → Prop}, vcTargets sc ts ps σ K → ∀ (H : IH) (R : RM) (ca : List Addr) (s : Shared) (Q : Unit → Shared → Prop) (E : Value → Shared → Prop), Inv W env sc σ H R ca s → Reps W H ca vs ps →
    (∀ σ' R' s', K σ' → Inv W env sc σ' H R' ca s' → Ext H R s.heap ca H R' s'.heap ca → SEq s s' → Q () s') → wpAny W.M A (assignInOrder ((assignEach ts env).map (·.2)) vs) Q E s := by
  induction ts with
  | nil =>
    intro ps vs σ K h H R ca s Q E I r P
    induction ps using List.casesOn with
    | nil => obtain rfl := r.inil; exact wpAny_pure (P σ R s h I .refl .refl)
    | cons p ps => exact h.elim
  | cons t ts ih =>
    intro ps vs σ K h H R ca s Q E I r P
    induction ps using List.casesOn with
    | nil => exact h.elim
    | cons p ps =>
      (refine obEEA (go_cons h) ?_; rintro x pos rfl hs)
      (refine obEEAA r.icons ?_; rintro v vs rfl rv r)
      show wpAny W.M A (do holding vs (assign (.Name x pos) env v); assignInOrder ((assignEach ts env).map (·.2)) vs) Q E s
      refine wpAny_bind (wpAny_holding (assign_Name' (snd_store_plain hs I rv fun σ' R' s' k I' x q => ?_)))
      exact ih k H R' ca s' Q E I' r fun σ'' R'' s'' k' I'' x' q' => P σ'' R'' s'' k' I'' (x.trans x') (q.trans q')
noncomputable def TgtV (sc : SC) (t : Expr) (p : PV) (σ : St) (K : St → Prop) : Prop := (∃ x pos, t = .Name x pos ∧ vcStoreName sc x false p σ K) ∨ ∃ ts k pos ps, t = .Tuple ts k pos ∧ p = .tup ps ∧ vcTargets sc ts ps σ K
theorem target_inv {t : Expr} {p : PV} {K : St → Prop} (h : vcTarget sc t p σ K) : TgtV sc t p σ K := by
  induction t using PySem.Expr.casesOn with
  | Name x pos => exact .inl ⟨x, pos, rfl, h⟩
  | Tuple ts k pos => induction p using PV.casesOn with
    | tup ps => exact .inr ⟨ts, k, pos, ps, rfl, rfl, h⟩
    | _ => exact False.elim h
  | _ => exact False.elim h
theorem snd_target {t : Expr} {p : PV} {v : Value} {K : St → Prop} {Q : Unit → Shared → Prop} (h : vcTarget sc t p σ K) (hA : A.handled = none) (I : Inv W env sc σ H R ca s) (hv : Rep W H ca v p)
    (P : ∀ σ' R' s', K σ' → Inv W env sc σ' H R' ca s' → Ext H R s.heap ca H R' s'.heap ca → SEq s s' → Q () s') : wpAny W.M A (assign t env v) Q E s := by
  rcases target_inv h with ⟨x, pos, rfl, h⟩ | ⟨ts, k, pos, ps, rfl, rfl, h⟩
  · exact assign_Name' (snd_store_plain h I hv P)
  · (refine obEEEAA hv.inv ?_; rintro a vs n rfl e r)
    have g := I.core.le _ _ e
    obtain ⟨e1, e2⟩ := tgt_len (env := env) h
    refine wpAny_assign_Tuple hA (items := vs.toArray) (isTup_of g) (by rw [e1, ← r.length]; simp) e2 fun h' hx => ?_
    have kp : ∀ b o, s.heap.get? b = some o → h'.get? b = some o := fun b o e => hx b o (Nat.ne_of_lt (Heap.lt_size e)) e
    refine tgt_go h H R ca { s with heap := h' } Q E (I.grow (s' := { s with heap := h' }) kp) r fun σ' R' s' k I' x q => ?_
    exact P σ' R' s' k I' ((Ext.grow kp).trans x) (SEq.trans (s' := { s with heap := h' }) ⟨rfl, rfl, rfl⟩ q)
end
end
section
section
variable {W : Wd} {T : Tb} {H H' H'' : IH} {ca ca' ca'' : List Addr} {R R' R'' : RM} {env cenv : Env} {sc : SC} {σ : St} {s s' : Shared} {A : Around} {E : Value → Shared → Prop} {d : Nat} {h h' h'' : Heap}
variable {ev : Expr → St → (PV → St → Prop) → Prop} {C : Oracle}
theorem snd_ifs (S : SndE W d ev sc) {n : Nat} : ∀ (ifs : List Expr), SndT W d cenv sc (vcIfs n ifs ev) (forIn ifs true fun c r => if r = true then do let ok ← isTrue c cenv (eval c cenv); pure (ForInStep.yield ok) else pure (ForInStep.yield r)) := by
  intro ifs
  induction ifs with
  | nil => intro σ K h A H R ca s Q E a I P; exact wpAny_pure (P true σ H R ca s h I .refl .refl rfl)
  | cons c r ih =>
    intro σ K h A H R ca s Q E a I P
    rw [List.forIn_cons, if_pos rfl]
    refine wpAny_bind (wpAny_bind (snd_t S n c σ _ h A H R ca s _ E a I fun b σ' H' R' ca' s' k I' x q l => wpAny_pure ?_))
    induction b using Bool.casesOn with
    | true => exact ih σ' K k A H' R' ca' s' Q E a I' (P.after x q l)
    | false =>
      induction r using List.casesOn with
      | nil => exact wpAny_pure (P false σ' H' R' ca' s' k I' x q l)
      | cons _ _ => exact k.elim
noncomputable def turnTree (p : Pos) (tgt : Expr) (ifs : List Expr) (it : Value) (env : Env) (t : Sem Unit) (c : Code) : Sem PySem.Fin := do
  standAt p
  match ← pyNext it with
  | none => pure (.done .next)
  | some v =>
    letOwnedTupleGo tgt it v
    assign tgt env v
    let mut ok := true
    for c in ifs do
      if ok then ok ← isTrue c env (eval c env)
    if ok then
      t
    again c
noncomputable def SndEmit {α : Type} (W : Wd) (cenv : Env) (sc : SC) (d : Nat) (D : Addr) (wrap : α → PV) (emit : α → St → (α → St → Prop) → Prop) (t : Sem Unit) : Prop :=
  ∀ acc σ K, emit acc σ K → ∀ A H R ca s (Q : Unit → Shared → Prop) E, Amb A d → Inv W cenv sc σ H R ca s → R D = some (.cont .tmp (wrap acc)) →
    (∀ acc' σ' H' R' ca' s', K acc' σ' → Inv W cenv sc σ' H' R' ca' s' → R' D = some (.cont .tmp (wrap acc')) → ExtX [D] H R s.heap ca H' R' s'.heap ca' → SEq s s' → Q () s') → wpAny W.M A t Q E s
theorem comp_loop {α : Type} (S : SndE W d ev sc) {n : Nat} {p : Pos} {tgt : Expr} {ifs : List Expr} {t : Sem Unit} {c : Code} {Ia D : Addr} {wrap : α → PV} {emit : Evl → α → St → (α → St → Prop) → Prop} {H0 : IH} {ca0 : List Addr} {its : List PV} {own : List Addr} {St' : Nat → Heap → Prop}
    (hq : c.quiet = true) (hu : ∀ A : Around, A.under c = A) (hden : W.M.den c = (turnTree p tgt ifs (.ref Ia) cenv t c).onRaise (fun x => do noteFrame x cenv; theTreesLotGoes x)) (hem : SndEmit W cenv sc d D wrap (emit ev) t) (it : It W Ia H0 ca0 its own tgt St') (hD : D ∉ own) :
    ∀ (rest : List PV) (i : Nat) (σ : St) (acc : α) (K : α → St → Prop), its.drop i = rest → i ≤ its.length → vcComp (vcTarget sc tgt) (vcIfs n ifs) emit ev rest acc σ K → ∀ (A : Around) (H : IH) (R : RM) (ca : List Addr) (s : Shared) (Rr : Result → Shared → Prop), Amb A d → Inv W cenv sc σ H R ca s → HLe H0 H → CLe ca0 ca → St' i s.heap → OwnIs R s.heap own →
      R D = some (.cont .tmp (wrap acc)) → (∀ acc' σ' H' R' ca' s', K acc' σ' → Inv W cenv sc σ' H' R' ca' s' → R' D = some (.cont .tmp (wrap acc')) → ExtX (D :: own) H R s.heap ca H' R' s'.heap ca' → SEq s s' → (∀ b ∈ own, ∀ c, R' b = some c → c.loc = true) → Rr (.ok .next) s') → codeAny W.M A c Rr s := by
  have hw : ∀ b ∈ own, b ∈ D :: own := fun b hb => .tail _ hb
  have hDn : ∀ b ∈ own, b ∉ [D] := fun b hb z => by rw [List.mem_singleton] at z; exact hD (z ▸ hb)
  intro rest
  induction rest with
  | nil =>
    intro i σ acc K hr hi h A H R ca s Rr a I hle hcl st ho eD P
    have hi' : i = its.length := by
      have := congrArg List.length hr
      rw [List.length_drop, List.length_nil] at this; omega
    subst hi'
    refine codeAny_of_tree ?_
    rw [hu A, hden]
    refine wpAny_noted ?_
    unfold turnTree
    refine wpAny_bind (wpAny_standAt (wpAny_bind (it_done it hle I st ho a.handled fun R2 s2 I2 x q ol => wpAny_pure ?_)))
    exact P acc σ H R2 ca s2 h I2 (x.tmp D _ hD eD rfl) (x.wid hw) q ol
  | cons p0 rest ih =>
    intro i σ acc K hr hi h A H R ca s Rr a I hle hcl st ho eD P
    have hp : its[i]? = some p0 := by
      have := congrArg (·[0]?) hr
      simpa using this
    have hr' : its.drop (i + 1) = rest := by
      have := congrArg List.tail hr
      simpa using this
    have hi' : i + 1 ≤ its.length := by
      rcases Nat.lt_or_ge i its.length with z | z
      · exact z
      · rw [List.getElem?_eq_none z] at hp; exact nosome hp
    refine codeAny_of_tree ?_
    rw [hu A, hden]
    refine wpAny_noted ?_
    unfold turnTree
    refine wpAny_bind (wpAny_standAt (wpAny_bind (it_step it hle hcl I st ho hp a.handled fun v s1 cont => ?_)))
    refine wpAny_bind (cont _ _ fun H2 R2 s2 I2 st2 ho2 rv x2 q2 le2 => ?_)
    have eD2 := x2.tmp D _ hD eD rfl
    refine wpAny_bind (snd_target h a.handled I2 rv fun σ3 R3 s3 h3 I3 x3 q3 => ?_)
    have eD3 := x3.tmp D _ eD2 rfl
    obtain ⟨ho3, k3⟩ := ho2.keep I3.core (X := []) x3.toX fun b u_ z => nomatch z
    refine wpAny_bind (snd_ifs S ifs σ3 _ h3 A H2 R3 ca s3 _ _ a I3 fun ok σ4 H4 R4 ca4 s4 h4 I4 x4 q4 l4 => ?_)
    have eD4 := x4.tmp D _ eD3 rfl
    obtain ⟨ho4, k4⟩ := ho3.keep I4.core (X := []) x4.toX fun b u_ z => nomatch z
    have le4 : HLe H0 H4 := (hle.trans le2).trans x4.imm
    have st4 : St' (i + 1) s4.heap := it.frame _ s2.heap s4.heap st2 (fun a o e => I2.core.le a o ((hle.trans le2) a o e)) (fun a o e => I4.core.le a o (le4 a o e)) fun b hb o e => k4 b hb o (k3 b hb o e)
    have x14 : ExtX (D :: own) H R s.heap ca H4 R4 s4.heap ca4 := ((x2.wid hw).trans x3.toX).trans x4.toX
    have q14 := (q2.trans q3).trans q4
    induction ok using Bool.casesOn with
    | false =>
      refine wpAny_pure ⟨hq, ?_⟩
      exact ih (i + 1) σ4 acc K hr' hi' h4 A H4 R4 ca4 s4 Rr a I4 le4 (hcl.trans x4.ca) st4 ho4 eD4 fun acc' σ' H' R' ca' s' k I' e x q ol => P acc' σ' H' R' ca' s' k I' e (x14.trans x) (q14.trans q) ol
    | true =>
      refine wpAny_bind (hem acc σ4 _ h4 A H4 R4 ca4 s4 _ _ a I4 eD4 fun acc5 σ5 H5 R5 ca5 s5 h5 I5 eD5 x5 q5 => wpAny_pure ⟨hq, ?_⟩)
      obtain ⟨ho5, k5⟩ := ho4.keep I5.core x5 hDn
      have le5 := le4.trans x5.imm
      have st5 : St' (i + 1) s5.heap := it.frame _ s4.heap s5.heap st4 (fun a o e => I4.core.le a o (le4 a o e)) (fun a o e => I5.core.le a o (le5 a o e)) k5
      exact ih (i + 1) σ5 acc5 K hr' hi' h5 A H5 R5 ca5 s5 Rr a I5 le5 ((hcl.trans x4.ca).trans x5.ca) st5 ho5 eD5 fun acc' σ' H' R' ca' s' k I' e x q ol => P acc' σ' H' R' ca' s' k I' e ((x14.trans (x5.wid fun b hb => by rw [List.mem_singleton.mp hb]; exact .head _)).trans x) ((q14.trans q5).trans q) ol
theorem codeAny_compStart' {e : Expr} {k : Nat} {g : Comprehension} {it acc : Value} {env : Env} {Rr : Result → Shared → Prop} (hg : (clausesOf e)[k]? = some g) (h0 : g.is_async = 0) (hu : ∀ A : Around, A.under (.compStart e k it acc env) = A) (hden : W.M.den (.compStart e k it acc env) = (compStart e k it acc env).onRaise (fun x => do noteFrame x env; standAt theWindowsPlace)) (hq : (Code.compLoop e k it acc env).quiet = true := by rfl)
    (h1 : codeAny W.M A (.compLoop e k it acc env) Rr s)
    (h : wpAny W.M A (pyIter it) (fun it' s' => it' = it ∧ codeAny W.M A (.compLoop e k it acc env) Rr s') (notedBy W.M A env fun x s' => Rr (.error x) s') s) :
    codeAny W.M A (.compStart e k it acc env) Rr s := by
  refine codeAny_of_tree ?_
  rw [hu A, hden]
  refine wpAny_notedAt ?_
  unfold compStart
  rw [hg]
  have e0 : ((some g).elim false fun x => x.is_async != 0) = false := by simp [h0]
  rw [e0, if_neg Bool.false_ne_true]
  show wpAny _ _ (ask >>= _) _ _ s
  refine wpAny_bind (wpAny_askSetting (wpAny_ite ?_))
  split
  · exact wpAny_pure ⟨rfl, h1⟩
  · refine wpAny_bind (wpAny_rule ?_)
    refine wpAny_bind (m := standAt g.iter.pos) (wpAny_standAt ?_)
    refine wpAny_bind (wpAny_mono h (fun it' s' h' => ?_) fun u_ u_ x => x)
    obtain ⟨rfl, h'⟩ := h'
    exact wpAny_pure ⟨rfl, h'⟩
end
end
section
section
variable {W : Wd} {T : Tb} {H H' H'' : IH} {ca ca' ca'' : List Addr} {R R' R'' : RM} {env cenv : Env} {sc : SC} {σ : St} {s s' : Shared} {A : Around} {E : Value → Shared → Prop} {d : Nat} {h h' h'' : Heap}
variable {ev : Expr → St → (PV → St → Prop) → Prop} {C : Oracle}
noncomputable def RM.inner (R : RM) (cl kp : List Addr) (h : Heap) : RM := fun a => match R a with
  | none => none
  | some c => if c.loc = false ∨ a ∈ kp then some c else if a ∈ cl then (h.get? a).map .lock else none
noncomputable def RM.outer (R R' : RM) (Z : List Addr) : RM := fun a => if a ∈ Z then none else match R a with
  | some c => if c.loc = true then some c else R' a
  | none => R' a
set_option tactic.hygienic true in
theorem inner_some {cl kp : List Addr} {a : Addr} {c : MC} (e : R.inner cl kp h a = some c) : ∃ c0, R a = some c0 ∧ ((c = c0 ∧ (c0.loc = false ∨ a ∈ kp)) ∨ (c0.loc = true ∧ a ∈ cl ∧ ∃ o, h.get? a = some o ∧ c = .lock o)) := by
  unfold RM.inner at e
  split at e
  · exact nosome e
  · rename_i c0 q
    refine ⟨c0, q, ?_⟩
    split at e
    · rename_i z; (replace e := Option.some.inj e; subst e); exact .inl ⟨rfl, z⟩
    · rename_i z
      have z : c0.loc = true := by
        cases y : c0.loc with
        | true => rfl
        | false => exact absurd (.inl y) z
      split at e
      · rename_i y
        refine obEA (Option.map_eq_some_iff.mp e) fun o e1 e2 => ?_
        exact .inr ⟨z, y, o, e1, e2.symm⟩
      · exact nosome e
set_option tactic.hygienic true in
theorem inner_kp {cl kp : List Addr} {a : Addr} (hk : a ∈ kp) : R.inner cl kp h a = R a := by
  unfold RM.inner
  split
  · rename_i q; exact q.symm
  · rename_i c q; rw [if_pos (.inr hk)]; exact q.symm
theorem inner_far {cl kp : List Addr} {a : Addr} {c : MC} (e : R a = some c) (hl : c.loc = false) : R.inner cl kp h a = some c := by
  unfold RM.inner; rw [e]; dsimp only; rw [if_pos (.inl hl)]
theorem inner_none {cl kp : List Addr} {a : Addr} (e : R a = none) : R.inner cl kp h a = none := by
  unfold RM.inner; rw [e]
theorem inner_hid {cl kp : List Addr} {a : Addr} {c : MC} (e : R a = some c) (hl : c.loc = true) (h1 : a ∉ kp) (h2 : a ∉ cl) : R.inner cl kp h a = none := by
  unfold RM.inner; rw [e]; dsimp only
  rw [if_neg (fun z => z.elim (fun y => by rw [hl] at y; exact notf y) h1), if_neg h2]
theorem inner_lock {cl kp : List Addr} {a : Addr} {c : MC} {o : Obj} (e : R a = some c) (hl : c.loc = true) (h1 : a ∉ kp) (h2 : a ∈ cl) (g : h.get? a = some o) : R.inner cl kp h a = some (.lock o) := by
  unfold RM.inner; rw [e]; dsimp only
  rw [if_neg (fun z => z.elim (fun y => by rw [hl] at y; exact notf y) h1), if_pos h2, g]; rfl
theorem Core.inner {cl kp : List Addr} (C : Core W H ca R h) : Core W H ca (R.inner cl kp h) h := by
  refine ⟨C.le, fun a c e => ?_, fun a c e => ?_⟩
  · refine obEA (inner_some e) fun c0 q u_ => ?_; exact C.hid a _ q
  · (refine obEA (inner_some e) ?_; rintro c0 q (⟨rfl, _⟩ | ⟨_, _, o, g, rfl⟩))
    · exact C.reg a _ q
    · exact g
theorem outer_Z {Z : List Addr} {a : Addr} (hz : a ∈ Z) : R.outer R' Z a = none := if_pos hz
theorem outer_loc {Z : List Addr} {a : Addr} {c : MC} (hz : a ∉ Z) (e : R a = some c) (hl : c.loc = true) : R.outer R' Z a = some c := by
  unfold RM.outer; rw [if_neg hz, e]; exact if_pos hl
set_option tactic.hygienic true in
theorem outer_back {cl kp Z : List Addr} (C0 : Core W H ca R h) (C1 : Core W H' ca' R' h') (x : ExtX kp H (R.inner cl kp h) h ca H' R' h' ca') (hkp : ∀ b ∈ kp, b ∈ Z) (hZ : ∀ b ∈ Z, b ∈ kp ∨ h.get? b = none) (hZl : ∀ b ∈ Z, ∀ c, R' b = some c → c.loc = true) :
    Core W H' ca' (R.outer R' Z) h' ∧ ExtX kp H R h ca H' (R.outer R' Z) h' ca' ∧ (∀ b c, R b = some c → c.loc = true → b ∉ Z → (R.outer R' Z) b = some c) ∧ (∀ b c, R' b = some c → c.loc = false → (R.outer R' Z) b = some c) ∧
      (∀ b o, b ∉ kp → h.get? b = some o → (∀ c, R b = some c → c.loc = true) → h'.get? b = some o) := by
  have zk : ∀ b c, R b = some c → b ∉ kp → b ∉ Z := fun b c e n z => (hZ b z).elim n fun y => absurd y (C0.someR (by rw [e]; exact Option.some_ne_none _))
  have hp : ∀ b o, b ∉ kp → h.get? b = some o → (∀ c, R b = some c → c.loc = true) → h'.get? b = some o := by
    intro b o n g hl
    cases q : R b with
    | none => exact x.pres b o n g (inner_none q)
    | some c =>
      have hl := hl c q
      by_cases hc : b ∈ cl
      · have e1 := inner_lock (R := R) (h := h) (kp := kp) q hl n hc g
        exact C1.reg b _ (x.tmp b _ n e1 rfl)
      · exact x.pres b o n g (inner_hid q hl n hc)
  have hH' : ∀ b c, R b = some c → c.loc = true → b ∉ kp → H' b = none ∧ (∀ c', R' b = some c' → ∃ o, c' = .lock o) := by
    intro b c q hl n
    by_cases hc : b ∈ cl
    · obtain ⟨o, g⟩ := (C0.reg b c q).there
      have e1 := inner_lock (R := R) (h := h) (kp := kp) q hl n hc g
      have e2 := x.tmp b _ n e1 rfl
      exact ⟨C1.hid b _ e2, fun c' e => ⟨o, by rw [e2] at e; (replace e := Option.some.inj e; subst e); rfl⟩⟩
    · have e1 := inner_hid (R := R) (h := h) q hl n hc
      obtain ⟨o, g⟩ := (C0.reg b c q).there
      refine ⟨?_, fun c' e => ?_⟩
      · cases y : H' b with
        | none => rfl
        | some o' =>
          rcases x.newH b n (by rw [y]; exact Option.some_ne_none _) with z | z | z
          · exact absurd (C0.hid b c q) z
          · exact absurd e1 z
          · rw [g] at z; exact nosome' z
      · rcases x.newR b n (by rw [e]; exact Option.some_ne_none _) with z | z
        · exact absurd e1 z
        · rw [g] at z; exact nosome' z
  have out : ∀ b c, (R.outer R' Z) b = some c → b ∉ Z ∧ ((∃ _ : R b = some c, c.loc = true) ∨ (R' b = some c ∧ ∀ c0, R b = some c0 → c0.loc = false)) := by
    intro b c e
    unfold RM.outer at e
    split at e
    · exact nosome e
    · rename_i hz
      refine ⟨hz, ?_⟩
      split at e
      · rename_i c0 q
        split at e
        · rename_i hl; (replace e := Option.some.inj e; subst e); exact .inl ⟨q, hl⟩
        · rename_i hl
          refine .inr ⟨e, fun c1 q1 => ?_⟩
          rw [q] at q1; (replace q1 := Option.some.inj q1; subst q1)
          cases y : c0.loc with
          | false => rfl
          | true => exact absurd y hl
      · rename_i q; exact .inr ⟨e, fun c1 q1 => by rw [q] at q1; exact nosome q1⟩
  refine ⟨⟨C1.le, fun b c e => ?_, fun b c e => ?_⟩, ⟨x.imm, x.ca, fun b o n g r => hp b o n g fun c q => by (rw [r] at q; exact nosome q), fun b n z => ?_, fun b n z => ?_, fun b c n e t => ?_, x.live⟩, fun b c e hl hz => outer_loc hz e hl, fun b c e hl => ?_, hp⟩
  · obtain ⟨hz, ⟨q, hl⟩ | ⟨q, _⟩⟩ := out b c e
    · exact (hH' b c q hl fun y => hz (hkp b y)).1
    · exact C1.hid b c q
  · obtain ⟨hz, ⟨q, hl⟩ | ⟨q, _⟩⟩ := out b c e
    · exact (C0.reg b c q).mono x.imm x.ca fun o g => hp b o (fun y => hz (hkp b y)) g fun c1 q1 => by rw [q] at q1; (replace q1 := Option.some.inj q1; subst q1); exact hl
    · exact C1.reg b c q
  · rcases x.newH b n z with y | y | y
    · exact .inl y
    · refine .inr (.inl fun q => y (inner_none q))
    · exact .inr (.inr y)
  · cases q : (R.outer R' Z) b with
    | none => exact absurd q z
    | some c =>
      obtain ⟨hz, ⟨q, hl⟩ | ⟨q, _⟩⟩ := out b c q
      · exact .inl (by rw [q]; exact Option.some_ne_none _)
      · rcases x.newR b n (by rw [q]; exact Option.some_ne_none _) with y | y
        · exact .inl fun q => y (inner_none q)
        · exact .inr y
  · have hl : c.loc = true := tmp_loc t
    exact outer_loc (zk b c e n) e hl
  · have hz : b ∉ Z := fun z => by have := hZl b z c e; rw [hl] at this; exact noft this
    unfold RM.outer
    rw [if_neg hz]
    split
    · rename_i c0 q
      split
      · rename_i hl0
        obtain ⟨o, rfl⟩ := (hH' b c0 q hl0 fun y => hz (hkp b y)).2 c e
        exact notf hl
      · exact e
    · exact e
end
end
section
section
variable {W : Wd} {T : Tb} {H H' H'' : IH} {ca ca' ca'' : List Addr} {R R' R'' : RM} {env cenv : Env} {sc : SC} {σ : St} {s s' : Shared} {A : Around} {E : Value → Shared → Prop} {d : Nat} {h h' h'' : Heap}
variable {ev : Expr → St → (PV → St → Prop) → Prop} {C : Oracle}
noncomputable def Fcap (sc : SC) (fr : List (Str × Bind)) (x : Str) (p : PV) : Prop := ∃ b, fget fr x = some b ∧ b.p = p ∧ b.m ≠ .own ∧ (sc.names.lookup x = some .cell ∨ sc.names.lookup x = some .free)
theorem frees_of {fr : List (Str × Bind)} {l : List (Str × NameKind)} : ∀ {caps : List (Str × PV)}, freesOf sc fr l = some caps →
    (∀ x p, (x, p) ∈ caps → (x, NameKind.free) ∈ l ∧ Fcap sc fr x p) ∧ (∀ x, (x, NameKind.free) ∈ l → ∃ p, (x, p) ∈ caps) := by
  induction l with
  | nil => intro caps e; (replace e := Option.some.inj e; subst e); exact ⟨fun u_ u_ z => absurd z List.not_mem_nil, fun u_ z => absurd z List.not_mem_nil⟩
  | cons q l ih =>
    intro caps e
    obtain ⟨x, k⟩ := q
    by_cases hk : k = .free
    · subst hk
      (refine obEEAAAA (frees_free e) ?_; rintro b caps' hx hno hkk e1 rfl)
      obtain ⟨a1, a2⟩ := ih e1
      refine ⟨fun y p hm => ?_, fun y hm => ?_⟩
      · rcases List.mem_cons.mp hm with z | z
        · injection z with z1 z2
          subst z1; subst z2
          exact ⟨.head _, b, hx, rfl, hno, hkk⟩
        · obtain ⟨b1, b2⟩ := a1 y p z; exact ⟨.tail _ b1, b2⟩
      · rcases List.mem_cons.mp hm with z | z
        · injection z with z1 _; exact ⟨b.p, z1 ▸ .head _⟩
        · obtain ⟨p, hp⟩ := a2 y z; exact ⟨p, .tail _ hp⟩
    · obtain ⟨a1, a2⟩ := ih (frees_skip hk e)
      refine ⟨fun y p hm => ?_, fun y hm => ?_⟩
      · obtain ⟨b1, b2⟩ := a1 y p hm; exact ⟨.tail _ b1, b2⟩
      · rcases List.mem_cons.mp hm with z | z
        · injection z with _ z2; exact absurd z2.symm hk
        · exact a2 y z
set_option tactic.hygienic true in
theorem fget_map {l : List (Str × PV)} {x : Str} {b : Bind} (e : fget (l.map fun e => (e.1, (⟨.froz, e.2⟩ : Bind))) x = some b) : ∃ p, (x, p) ∈ l ∧ b = ⟨.froz, p⟩ := by
  induction l with
  | nil => exact nosome e
  | cons q l ih =>
    obtain ⟨y, p⟩ := q
    simp only [fget, List.map_cons, List.lookup_cons] at e ih
    split at e
    · rename_i z
      (replace e := Option.some.inj e; subst e)
      have : x = y := by simpa using z
      subst this
      exact ⟨p, .head _, rfl⟩
    · refine obEA (ih e) fun p h1 h2 => ?_; exact ⟨p, .tail _ h1, h2⟩
set_option tactic.hygienic true in
theorem fget_map' {l : List (Str × PV)} {x : Str} {p : PV} (e : (x, p) ∈ l) : ∃ p, fget (l.map fun e => (e.1, (⟨.froz, e.2⟩ : Bind))) x = some ⟨.froz, p⟩ := by
  induction l with
  | nil => cases e
  | cons q l ih =>
    obtain ⟨y, r⟩ := q
    simp only [fget, List.map_cons, List.lookup_cons] at ih ⊢
    split
    · exact ⟨_, rfl⟩
    · rename_i z
      rcases List.mem_cons.mp e with u | u
      · cases u; simp at z
      · exact ih u
set_option tactic.hygienic true in
theorem clos_cons {env : Env} {y : Str} {k : NameKind} {l : List (Str × NameKind)} {z : Str × Addr} (h : z ∈ closOf env ((y, k) :: l)) : (∃ c, env.cells.lookup y = some c ∧ z = (y, c)) ∨ z ∈ closOf env l := by
  by_cases hk : k = .free
  · subst hk
    cases e : env.cells.lookup y with
    | none => rw [closOf, if_pos rfl, e] at h; exact .inr h
    | some c => rw [clos_free e] at h; exact (List.mem_cons.mp h).imp (fun z => ⟨c, rfl, z⟩) id
  · rw [clos_skip hk] at h; exact .inr h
theorem clos_tail {env : Env} {y : Str} {k : NameKind} {l : List (Str × NameKind)} {z : Str × Addr} (h : z ∈ closOf env l) : z ∈ closOf env ((y, k) :: l) := by
  by_cases hk : k = .free
  · subst hk
    cases e : env.cells.lookup y with
    | none => rw [closOf, if_pos rfl, e]; exact h
    | some c => rw [clos_free e]; exact .tail _ h
  · rw [clos_skip hk]; exact h
theorem clos_lookup {x : Str} : ∀ {l : List (Str × NameKind)}, (x, NameKind.free) ∈ l → ∀ c, env.cells.lookup x = some c → (closOf env l).reverse.lookup x = some c ∧ ∀ y c', (y, c') ∈ closOf env l → env.cells.lookup y = some c' := by
  have all : ∀ {l : List (Str × NameKind)} y c', (y, c') ∈ closOf env l → env.cells.lookup y = some c' := by
    intro l
    induction l with
    | nil => intro y c' z; exact absurd z List.not_mem_nil
    | cons q l ih =>
      intro y c' z
      rcases clos_cons (y := q.1) (k := q.2) z with ⟨c, e, u⟩ | z
      · injection u with u1 u2; rw [u1, u2]; exact e
      · exact ih y c' z
  intro l hm c e
  have hin : (x, c) ∈ closOf env l := by
    induction l with
    | nil => exact absurd hm List.not_mem_nil
    | cons q l ih =>
      rcases List.mem_cons.mp hm with u | u
      · rw [← u, clos_free e]; exact .head _
      · exact clos_tail (y := q.1) (k := q.2) (ih u)
  refine ⟨?_, all⟩
  have key : ∀ (m : List (Str × Addr)), (∀ y c', (y, c') ∈ m → env.cells.lookup y = some c') → (x, c) ∈ m → m.lookup x = some c := by
    intro m hm hx
    induction m with
    | nil => cases hx
    | cons q m ih =>
      obtain ⟨y, c1⟩ := q
      rw [List.lookup_cons]
      split
      · rename_i z
        have : x = y := by simpa using z
        subst this
        have := hm x c1 (.head _)
        rw [e] at this; exact this.symm
      · rename_i z
        rcases List.mem_cons.mp hx with u | u
        · cases u; simp at z
        · exact ih (fun y c' q => hm y c' (.tail _ q)) u
  exact key _ (fun y c' z => all y c' (List.mem_reverse.mp z)) (List.mem_reverse.mpr hin)
theorem comp_ok {scope : Scope} (h : compOk scope = true) : scope.kind = .function ∧ (∀ x k, (x, k) ∈ scope.names → k ≠ .cell ∧ scope.names.lookup x = some k) := by
  unfold compOk at h
  simp only [Bool.and_eq_true, decide_eq_true_eq, List.all_eq_true, Bool.not_eq_true', decide_eq_false_iff_not] at h
  exact ⟨h.1, fun x k hm => ⟨(h.2 _ hm).1, (h.2 _ hm).2⟩⟩
theorem relab_eq {fr : List (Str × Bind)} (F : FR W H ca R env sc fr) (scope : Scope) : (relab scope sc).names = (relabel scope env).names := by
  unfold relab relabel
  have hk : env.scope.kind = .function := F.kind
  have hn : env.scope.names = sc.names := F.names
  apply List.map_congr_left
  intro e _
  obtain ⟨n, k⟩ := e
  have : env.kindOf n = sc.names.lookup n := by show env.scope.names.lookup n = _; rw [hn]
  simp only [this, hk, beq_self_eq_true, Bool.and_true, Bool.and_eq_true, beq_iff_eq]
set_option tactic.hygienic true in
theorem lookup_map {f : NameKind → Str → NameKind} {x : Str} : ∀ {l : List (Str × NameKind)}, (l.map fun e => (e.1, f e.2 e.1)).lookup x = (l.lookup x).map fun k => f k x
  | [] => rfl
  | (y, k) :: l => by
    simp only [List.map_cons, List.lookup_cons]
    split
    · rename_i z
      have : x = y := by simpa using z
      subst this; rfl
    · exact lookup_map
theorem relab_lookup (scope : Scope) (x : Str) : (relab scope sc).names.lookup x = (scope.names.lookup x).map fun k => if k = .free ∧ sc.names.lookup x = some .cell then .cell else k := by
  have e : (relab scope sc).names = scope.names.map fun e => (e.1, (fun (k : NameKind) (n : Str) => if k = .free ∧ sc.names.lookup n = some .cell then NameKind.cell else k) e.2 e.1) := by
    unfold relab
    apply List.map_congr_left
    intro e _
    obtain ⟨n, k⟩ := e
    dsimp only
    split <;> rfl
  rw [e]
  exact lookup_map (f := fun (k : NameKind) (n : Str) => if k = .free ∧ sc.names.lookup n = some .cell then NameKind.cell else k)
noncomputable def capAddrs (env : Env) (scope : Scope) : List Addr := (closOf env scope.names).map (·.2)
set_option tactic.hygienic true in
theorem inner_fr {scope : Scope} {fr fr' : List (Str × Bind)} {kp : List Addr} {Ca : Addr} (C0 : Core W H ca R h) (F : FR W H ca R env sc fr) (hok : compOk scope = true) (hi : innerFr sc fr scope = some fr') {R1 : RM} (hR1 : ∀ b c, R.inner (capAddrs env scope) kp h b = some c → R1 b = some c) (hCa : R1 Ca = some (.ns fun u_ => none)) (hkp : ∀ b ∈ kp, ∀ c, R b = some c → c.isTmp = true) :
    FR W H ca R1 (compEnvC scope (closOf env scope.names).reverse Ca env) (relab scope sc) fr' ∧ ∀ x k, (x, k) ∈ scope.names → k = .free → (env.cells.lookup x).isSome := by
  obtain ⟨hk, hn⟩ := comp_ok hok
  unfold innerFr at hi
  (refine obEA (Option.map_eq_some_iff.mp hi) ?_; rintro caps e1 rfl)
  obtain ⟨a1, a2⟩ := frees_of e1
  have far : ∀ x b, fget (caps.map fun e => (e.1, (⟨.froz, e.2⟩ : Bind))) x = some b → scope.names.lookup x = some .free ∧ ((relab scope sc).names.lookup x = some .cell ∨ (relab scope sc).names.lookup x = some .free) ∧
      ∃ c v, env.cells.lookup x = some c ∧ (compEnvC scope (closOf env scope.names).reverse Ca env).cells.lookup x = some c ∧ Rep W H ca v b.p ∧ CellRel false H R1 x c v b := by
    intro x b q
    (refine obEA (fget_map q) ?_; rintro p hp rfl)
    refine obAEAAA (a1 x p hp) fun b1 b0 b2 b3 b4 b5 => ?_
    have hfree := (hn x _ b1).2
    have hnl : sc.names.lookup x ≠ some .local := by rcases b5 with e | e <;> rw [e] <;> exact fun z => nomatch z
    refine obAEEAA (F.far x b0 b2 hnl) fun u_ c v ec rv cr => ?_
    refine ⟨hfree, ?_, c, v, ec, (clos_lookup b1 c ec).1, b3 ▸ rv, ?_⟩
    · rw [relab_lookup, hfree]
      rcases b5 with e | e
      · left; simp [e]
      · right; simp [e]
    · rcases cr with ⟨_, o, z1, z2⟩ | ⟨_, z1⟩ | ⟨_, _, o, z1, z2⟩
      · exact .inl ⟨rfl, o, z1, z2⟩
      · refine obEA (C0.reg c _ z1) fun o g hd => ?_
        have hc : c ∈ capAddrs env scope := by
          have : (x, c) ∈ (closOf env scope.names).reverse := by
            have := (clos_lookup b1 c ec).1
            exact mem_of_lookup (by exact this)
          exact List.mem_map.mpr ⟨(x, c), List.mem_reverse.mp this, rfl⟩
        exact .inr (.inr ⟨rfl, rfl, o, hR1 _ _ (inner_lock z1 rfl (fun z => by have := hkp c z _ z1; exact noft this) hc g), hd⟩)
      · have g := C0.reg c _ z1
        have hc : c ∈ capAddrs env scope := by
          have : (x, c) ∈ (closOf env scope.names).reverse := by
            have := (clos_lookup b1 c ec).1
            exact mem_of_lookup (by exact this)
          exact List.mem_map.mpr ⟨(x, c), List.mem_reverse.mp this, rfl⟩
        exact .inr (.inr ⟨rfl, rfl, o, hR1 _ _ (inner_lock z1 rfl (fun z => by have := hkp c z _ z1; exact noft this) hc g), z2⟩)
  refine ⟨⟨?_, ?_, F.glob, F.blt, fun z => (by exact noft z), ⟨_, hCa, fun x b q l => ?_⟩, fun x b q l => ?_, fun x l => ?_⟩, fun x k hm e => ?_⟩
  · show (relabel scope env).kind = .function; exact hk
  · exact (relab_eq F scope).symm
  · obtain ⟨f, _⟩ := far x b q
    rw [relab_lookup, f] at l
    simp only [Option.map_some, Option.some.injEq] at l
    split at l <;> cases l
  · (refine obAA (far x b q) ?_; rintro _ f2 ⟨c, v, _, f3, f4, f5⟩)
    exact ⟨f2, c, v, f3, f4, f5⟩
  · rw [relab_lookup] at l
    cases z : scope.names.lookup x with
    | none => rw [z] at l; exact nosome l
    | some k =>
      rw [z] at l
      have hm := mem_of_lookup z
      simp only [Option.map_some, Option.some.injEq] at l
      split at l
      · rename_i y
        obtain ⟨rfl, _⟩ := y
        obtain ⟨p, hp⟩ := a2 x hm
        obtain ⟨p', e⟩ := fget_map' hp
        exact .inr ⟨_, e, rfl⟩
      · exact absurd l (hn x k hm).1
  · subst e
    obtain ⟨p, hp⟩ := a2 x hm
    obtain ⟨p', e⟩ := fget_map' hp
    (refine obAA (far x _ e) ?_; rintro _ _ ⟨c, v, f3, _⟩)
    rw [f3]; rfl
end
end
section
section
variable {W : Wd} {T : Tb} {H H' H'' : IH} {ca ca' ca'' : List Addr} {R R' R'' : RM} {env cenv : Env} {sc : SC} {σ : St} {s s' : Shared} {A : Around} {E : Value → Shared → Prop} {d : Nat} {h h' h'' : Heap}
variable {ev ev' : Expr → St → (PV → St → Prop) → Prop} {C : Oracle}
theorem updX {D : Addr} {c' : MC} (k : ∀ b o, b ≠ D → h.get? b = some o → h'.get? b = some o) : ExtX [D] H R h ca H (R.set D (some c')) h' ca := by
  refine ⟨HLe.refl, CLe.refl, fun b o n g u_ => k b o (fun z => n (by simp [z])) g, fun b u_ z => .inl z, fun b n z => ?_, fun a c n g u_ => ?_, fun b n g => ?_⟩
  · rw [RM.set_ne fun z => n (by simp [z])] at z; exact .inl z
  · rw [RM.set_ne fun z => n (by simp [z])]; exact g
  · cases q : h.get? b with
    | none => rfl
    | some o => rw [k b o (fun z => n (by simp [z])) q] at g; exact nosome' g
theorem emit_list (S : SndE W d ev sc) {elt : Expr} {D : Addr} : SndEmit W cenv sc d D PV.lst (emitL elt ev) (do let _ ← call (.builtin "list.append") [.ref D, ← eval elt cenv]) := by
  intro acc σ K h A H R ca s Q E a I eD P
  refine wpAny_bind (S elt σ _ h A cenv H R ca s _ E a I fun v p σ1 H1 R1 ca1 s1 k I1 rv x1 q1 l1 => ?_)
  obtain ⟨hz, k⟩ := req_iff.mp k
  have e1 := x1.tmp D _ eD rfl
  (refine obEAA (I1.core.reg D _ e1) ?_; rintro o g ⟨vs, n, rfl, r⟩ z)
  have hs : vs.size ≤ sizeLine := by
    have := sfits_line hz
    have hl := r.length
    have : vs.toList.length = vs.size := by simp
    omega
  have g1 : ∃ m, (s1.heap.update D (Obj.mapSeq (·.push v))).get? D = some (listOf (vs.push v) m) := ⟨_, get?_update_seq g _⟩
  have k1 : ∀ b o, b ≠ D → s1.heap.get? b = some o → (s1.heap.update D (Obj.mapSeq (·.push v))).get? b = some o := fun b o hb e => (Heap.get?_update_other _ _ (Ne.symm hb)).trans e
  refine wpAny_bind (call_meets PySem.F.slot_list_append ⟨_, g, rfl⟩ PySem.F.entry_list_append (PySem.F.args_list_append_2 _ _) (AutoListH.list_append_list_val_0 D vs n v hs) ⟨g, wpAny_pure ?_⟩)
  obtain ⟨m, g1⟩ := g1
  have hat : MC.At W H1 ca1 (s1.heap.update D (Obj.mapSeq (·.push v))) D (.cont .tmp (.lst (acc ++ [p]))) := ⟨_, g1, ⟨_, m, rfl, by simpa using reps_push r rv⟩, z⟩
  have I2 := I1.tmpUpd (s' := { s1 with heap := s1.heap.update D (Obj.mapSeq (·.push v)) }) e1 k1 hat
  exact P (acc ++ [p]) σ1 H1 _ ca1 _ k I2 RM.set_self (x1.toX.trans (updX k1)) (q1.trans ⟨rfl, rfl, rfl⟩)
theorem dict_sk_ik {o : Obj} (x : DictObj W.sk o []) : DictObj W.ik o [] := by
  (refine obAEEAAA x fun e es ep hd hk hp hn => ?_; try clear x)
  have : es = #[] := by
    have e1 := hp.length
    have : es.toList.length = es.size := by simp
    exact Array.eq_empty_of_size_eq_zero (by simp at e1; simpa using e1)
  subst this
  exact ⟨e, _, ep, hd, fun u_ h => (by simp at h), .nil, by simp⟩
theorem EntsI.set {kvs : List (Int × Value)} {l : List (Int × PV)} (r : EntsI W H ca kvs l) (hn : (kvs.map (·.1)).Nodup) {k : Int} {v : Value} {p : PV} (rv : Rep W H ca v p) : EntsI W H ca (stored kvs k v) (dset l k p) := by
  induction l generalizing kvs with
  | nil => cases r; exact .cons rv .nil
  | cons q l ih =>
    cases r with
    | @cons y u p' es _ a r =>
      rw [List.map_cons, List.nodup_cons] at hn
      by_cases h : y = k
      · subst h
        have : stored ((y, u) :: es) y v = (y, v) :: es := by
          have : es.map (fun kv => if kv.1 = y then (kv.1, v) else kv) = es := by
            rw [List.map_congr_left (g := id) fun e he => ?_, List.map_id]
            rw [if_neg fun (q : e.1 = y) => hn.1 (by rw [← q]; exact List.mem_map.mpr ⟨e, he, rfl⟩)]; rfl
          simp [stored, this]
        rw [this]
        simp only [dset, if_pos]
        exact .cons rv r
      · rw [stored_cons_ne h]
        simp only [dset, if_neg h]
        exact .cons a (ih r hn.2)
inductive VDp (k : PV → Prop) (p : PV) : PV → PV → Prop where
  | dct {l : List (Str × PV)} {x : Str} : sfits (l.length + 1) = true → k (.dct (dset l x p)) → VDp k p (.dct l) (.str x)
  | new {x : Int} : k (.dci [(x, p)]) → VDp k p (.dct []) (.int x)
  | dci {l : List (Int × PV)} {x : Int} : sfits (l.length + 1) = true → k (.dci (dset l x p)) → VDp k p (.dci l) (.int x)
theorem dput_inv {acc kp p : PV} {k : PV → Prop} (h : dput acc kp p k) : VDp k p acc kp := by
  induction kp using PV.casesOn with
  | str x => induction acc using PV.casesOn with
    | dct l => obtain ⟨a, h⟩ := req_iff.mp h; exact .dct a h
    | _ => exact False.elim h
  | int x => induction acc using PV.casesOn with
    | dct l => induction l using List.casesOn with
      | nil => exact .new h
      | cons _ _ => exact False.elim h
    | dci l => obtain ⟨a, h⟩ := req_iff.mp h; exact .dci a h
    | _ => exact False.elim h
  | _ => exact False.elim h
theorem emit_dict (S : SndE W d ev sc) {key val : Expr} {D : Addr} : SndEmit W cenv sc d D id (emitD key val ev) (do
        let kv ← eval key cenv
        let vv ← holding [kv] (eval val cenv)
        standAt { key.pos with endLine := val.pos.endLine, endCol := val.pos.endCol }
        holding [kv, vv] (dictSet D kv vv)) := by
  intro acc σ K h A H R ca s Q E a I eD P
  refine wpAny_bind (S key σ _ h A cenv H R ca s _ E a I fun vk kp σ1 H1 R1 ca1 s1 k I1 rk x1 q1 l1 => ?_)
  refine wpAny_bind (wpAny_holding (S val σ1 _ k A cenv H1 R1 ca1 s1 _ E a I1 fun v p σ2 H2 R2 ca2 s2 k I2 rv x2 q2 l2 => wpAny_bind (wpAny_standAt (wpAny_holding ?_))))
  have e2 := x2.tmp D _ (x1.tmp D _ eD rfl) rfl
  refine obEAA (I2.core.reg D _ e2) fun o g co z => ?_
  have fin : ∀ (acc' : PV) (h' : Heap) (o' : Obj) (tk : Nat), K acc' σ2 → h'.get? D = some o' → ContObj W H2 ca2 o' acc' → (∀ b o, b ≠ D → s2.heap.get? b = some o → h'.get? b = some o) → Q () { s2 with heap := h', toks := tk } := by
    intro acc' h' o' tk k g' co' k2
    have hat : MC.At W H2 ca2 h' D (.cont .tmp acc') := ⟨o', g', co', z⟩
    have I3 := I2.tmpUpd (s' := { s2 with heap := h', toks := tk }) e2 k2 hat
    exact P acc' σ2 H2 _ ca2 _ k I3 RM.set_self ((x1.trans x2).toX.trans (updX k2)) ((q1.trans q2).trans ⟨rfl, rfl, rfl⟩)
  cases dput_inv k with
  | @dct l x hz k' =>
    (refine obEA co fun kvs dd r => ?_; try clear co)
    obtain ⟨t, rfl⟩ := rk.inv
    refine wpAny_dictSet_pairs (knd := W.sk) (strKind_is W.prog W.w x _) (dd.of g) (fun h' hd' hs' => ?_) (by rw [r.length]; exact Nat.le_of_succ_le (sfits_line hz))
    refine obEA (dict_obj hd') fun o' g' d' => ?_
    (refine obAEEAAA dd fun u_ u_ u_ u_ u_ u_ nd => ?_; try clear dd)
    exact fin _ h' o' _ k' g' ⟨_, d', r.set nd rv⟩ fun b o hb e => (hs'.2 b hb).trans e
  | @new x k' =>
    (refine obEA co fun kvs dd r => ?_; try clear co)
    obtain rfl := r.inil
    obtain ⟨t, rfl⟩ := rk.inv
    refine wpAny_dictSet_pairs (knd := W.ik) (intKind_is W.prog W.w x _) ((dict_sk_ik dd).of g) (fun h' hd' hs' => ?_) (by exact Nat.zero_le _)
    refine obEA (dict_obj hd') fun o' g' d' => ?_
    exact fin _ h' o' _ k' g' ⟨_, d', .cons rv .nil⟩ fun b o hb e => (hs'.2 b hb).trans e
  | @dci l x hz k' =>
    (refine obEA co fun kvs dd r => ?_; try clear co)
    obtain ⟨t, rfl⟩ := rk.inv
    refine wpAny_dictSet_pairs (knd := W.ik) (intKind_is W.prog W.w x _) (dd.of g) (fun h' hd' hs' => ?_) (by rw [r.length]; exact Nat.le_of_succ_le (sfits_line hz))
    refine obEA (dict_obj hd') fun o' g' d' => ?_
    (refine obAEEAAA dd fun u_ u_ u_ u_ u_ u_ nd => ?_; try clear dd)
    exact fin _ h' o' _ k' g' ⟨_, d', r.set nd rv⟩ fun b o hb e => (hs'.2 b hb).trans e
end
end
section
section
variable {W : Wd} {T : Tb} {H H' H'' : IH} {ca ca' ca'' : List Addr} {R R' R'' : RM} {env cenv : Env} {sc : SC} {σ : St} {s s' : Shared} {A : Around} {E : Value → Shared → Prop} {d : Nat} {h h' h'' : Heap}
variable {ev ev' : Expr → St → (PV → St → Prop) → Prop} {C : Oracle}
noncomputable def NoSet (ev : Expr → St → (PV → St → Prop) → Prop) : Prop := ∀ es k p σ K, ¬ ev (.Set es k p) σ K
theorem iter_set (hn : NoSet ev) {tgt e : Expr} {K : List PV → St → Prop} (h : vcIter tgt e ev σ K) (x : Value) : foldedSetIterable e env x = pure x := by
  induction e using PySem.Expr.casesOn with
  | Set es k p => exact absurd h (hn _ _ _ _ _)
  | _ => rfl
structure CompCode (W : Wd) (e : Expr) (p : Pos) (tgt : Expr) (ifs : List Expr) (t : Env → Addr → Sem Unit) : Prop where
  ql : ∀ Ia D cenv, (Code.compLoop e 0 (.ref Ia) (.ref D) cenv).quiet = true
  ul : ∀ Ia D cenv (A : Around), A.under (.compLoop e 0 (.ref Ia) (.ref D) cenv) = A
  dl : ∀ Ia D cenv, W.M.den (.compLoop e 0 (.ref Ia) (.ref D) cenv) = (turnTree p tgt ifs (.ref Ia) cenv (t cenv D) (.compLoop e 0 (.ref Ia) (.ref D) cenv)).onRaise (fun x => do noteFrame x cenv; theTreesLotGoes x)
  us : ∀ Ia D cenv (A : Around), A.under (.compStart e 0 (.ref Ia) (.ref D) cenv) = A
  ds : ∀ Ia D cenv, W.M.den (.compStart e 0 (.ref Ia) (.ref D) cenv) = (compStart e 0 (.ref Ia) (.ref D) cenv).onRaise (fun x => do noteFrame x cenv; standAt theWindowsPlace)
noncomputable def CompP (W : Wd) (env : Env) (sc : SC) (H : IH) (R : RM) (ca : List Addr) (s : Shared) (A : Around) (E : Value → Shared → Prop) (use : Option (Value → Sem Unit)) (Kf : PV → St → Prop) (Q : Value → Shared → Prop) : Prop :=
  ∀ D p σ' H' R' ca' s' Ca, Kf p σ' → Inv W env sc σ' H' R' ca' s' → Rep W H' ca' (.ref D) p → Ext H R s.heap ca H' R' s'.heap ca' → SEq s s' → R' env.locals = R env.locals → R' Ca = none → H' Ca = none → s.heap.get? Ca = none → (∃ m, s'.heap.Ns Ca m) → compPost W.M A E use Q (.ref D) Ca (.ok .next) s'
set_option tactic.hygienic true in
theorem snd_comp {α : Type} (S : SndE W d ev sc) (hst : NoStar ev) (hns : NoSet ev) (S' : SndE W d ev' (relab scope sc)) {n : Nat} {e tgt iter : Expr} {ifs : List Expr} {gs : List Comprehension} {pos : Pos} {newAcc : Sem Value} {wrap : α → PV} {acc0 : α} {emit : Evl → α → St → (α → St → Prop) → Prop} {t : Env → Addr → Sem Unit} {use : Option (Value → Sem Unit)} {Q : Value → Shared → Prop} {Kf : PV → St → Prop} {Kit : List PV → St → Prop}
    (hcl : clausesOf e = ⟨tgt, iter, ifs, 0⟩ :: gs) (hok : compOk scope = true)
    (hnew : ∀ (s : Shared) (Q : Value → Shared → Prop) (E : Value → Shared → Prop), (∀ o, (∀ (H : IH) (ca : List Addr), ContObj W H ca o (wrap acc0)) → o.isFreed = false → Q (.ref s.heap.objs.size) { s with heap := s.heap.push o }) → wpAny W.M A newAcc Q E s)
    (hc : CompCode W e iter.pos tgt ifs t) (hem : ∀ cenv D, SndEmit W cenv (relab scope sc) d D wrap (emit ev') (t cenv D))
    (hi0 : ∃ fr, innerFr sc σ.fr scope = some fr)
    (h : vcIter tgt iter ev σ Kit) (hK : ∀ its σ, Kit its σ → ∃ fr', innerFr sc σ.fr scope = some fr' ∧ vcComp (vcTarget (relab scope sc) tgt) (vcIfs n ifs) emit ev' its acc0 ⟨fr', σ.cs⟩ fun acc σ' => Kf (wrap acc) ⟨σ.fr, σ'.cs⟩)
    (a : Amb A d) (I : Inv W env sc σ H R ca s) (P : CompP W env sc H R ca s A E use Kf Q) : wpAny W.M A (comprehension e scope env pos newAcc false (eval iter env) use) Q E s := by
  obtain ⟨fr0, hfr0⟩ := hi0
  obtain ⟨hkind, hnm⟩ := comp_ok hok
  have hclos : closureFor scope env = pure (closOf env scope.names).reverse := by
    have hx := frees_of (sc := sc) (fr := σ.fr) (l := scope.names) (caps := (freesOf sc σ.fr scope.names).getD []) (by
      unfold innerFr at hfr0
      refine obEA (Option.map_eq_some_iff.mp hfr0) fun c e u_ => ?_
      rw [e]; rfl)
    refine closureFor_eq fun x k hm hk => ?_
    subst hk
    obtain ⟨p, hp⟩ := hx.2 x hm
    refine obAEAAA (hx.1 x p hp) fun u_ b b1 u_ u_ b5 => ?_
    have hnl : sc.names.lookup x ≠ some .local := by rcases b5 with e | e <;> rw [e] <;> exact fun z => nomatch z
    obtain ⟨_, c, v, ec, _⟩ := I.fr.far x b b1 hnl
    rw [ec]; rfl
  refine wpAny_comprehension_free hcl (iter_set hns h) hclos hkind (fun x hx q => by have := (hnm x.1 x.2 hx).2; rw [← q]; exact this) ?_
  refine snd_iter S hst h a I fun its Ia own St' σ2 H2 R2 ca2 s2 k I2 it st own2 x2 q2 l2 => ?_
  refine obEA (hK its σ2 k) fun fr' hfr' hcomp => ?_
  refine hnew s2 _ E fun o0 hco hof => ?_
  have hD := get_size_none s2.heap
  have kD : ∀ b o, s2.heap.get? b = some o → (s2.heap.push o0).get? b = some o := fun b o e => Heap.get?_push_of_some _ e
  generalize hDe : s2.heap.objs.size = D at hD ⊢
  have gD : (s2.heap.push o0).get? D = some o0 := hDe ▸ Heap.get?_push_size _ hof
  have hsys : (D == sysModules) = false := hDe ▸ I2.notSys
  have hatD : MC.At W H2 ca2 (s2.heap.push o0) D (.cont .tmp (wrap acc0)) := ⟨o0, gD, hco _ _, hsys⟩
  generalize hs3 : ({ s2 with heap := s2.heap.push o0 } : Shared) = s3
  have h3 : s3.heap = s2.heap.push o0 := by rw [← hs3]
  have I3 : Inv W env sc σ2 H2 (R2.set D (some (.cont .tmp (wrap acc0)))) ca2 s3 := I2.newReg (s' := s3) hD (h3 ▸ kD) (h3 ▸ hatD)
  have x3 : Ext H2 R2 s2.heap ca2 H2 (R2.set D (some (.cont .tmp (wrap acc0)))) s3.heap ca2 := Ext.newReg I2.core hD (h3 ▸ kD)
  have hR2D := I2.core.freshR hD
  have q3 : SEq s2 s3 := by rw [← hs3]; exact ⟨rfl, rfl, rfl⟩
  have hownD : D ∉ own := fun z => by
    refine obAEA (own2 D z) fun u_ o g u_ => ?_
    rw [hD] at g; exact nosome g
  generalize hR3 : R2.set D (some (.cont .tmp (wrap acc0))) = R3 at I3 x3
  have eD3 : R3 D = some (.cont .tmp (wrap acc0)) := by rw [← hR3]; exact RM.set_self
  have own3 : OwnIs R3 s3.heap own := fun b hb => by
    refine obAEA (own2 b hb) fun u_ o g e => ?_
    refine ⟨o, by rw [h3]; exact kD b o g, ?_⟩
    rw [← hR3, RM.set_ne (show b ≠ D from fun z => hownD (z ▸ hb))]; exact e
  have hkpt : ∀ b ∈ D :: own, ∀ c, R3 b = some c → c.isTmp = true := fun b hb c e => by
    rcases List.mem_cons.mp hb with rfl | hb
    · rw [eD3] at e; (replace e := Option.some.inj e; subst e); rfl
    · refine obEA (own3 b hb) fun o u_ e' => ?_; rw [e'] at e; (replace e := Option.some.inj e; subst e); rfl
  refine wpAny_newFunctionEnv (fun y hy => (hnm y.1 y.2 hy).1) (fun y hy => nomatch hy) (fun h4 hn4 hs4 => ?_) hkind
  have hCn := get_size_none s3.heap
  generalize hCe : s3.heap.objs.size = Ca at hCn hn4 hs4 ⊢
  have k4 : ∀ b o, s3.heap.get? b = some o → h4.get? b = some o := fun b o e => hs4.extBut b o (fun z => by rw [z, hCn] at e; exact nosome e) (Heap.get?_push_of_some _ e)
  have hn4 : h4.Ns Ca (fun u_ => none) := hn4
  have C3 := I3.core.inner (cl := capAddrs env scope) (kp := D :: own)
  have eC3 : R3 Ca = none := I3.core.freshR hCn
  have hatC : MC.At W H2 ca2 h4 Ca (.ns fun u_ => none) := hn4
  have C4 := C3.newReg hCn k4 hatC
  have x4 : Ext H2 (R3.inner (capAddrs env scope) (D :: own) s3.heap) s3.heap ca2 H2 _ h4 ca2 := Ext.newReg (c := .ns fun u_ => none) C3 hCn k4
  generalize hs5 : ({ s3 with heap := h4, toks := s3.toks + ([] : List (Str × Value)).length } : Shared) = s4
  have h4e : s4.heap = h4 := by rw [← hs5]
  have keepR : ∀ b c, R3.inner (capAddrs env scope) (D :: own) s3.heap b = some c → ((R3.inner (capAddrs env scope) (D :: own) s3.heap).set Ca (some (.ns fun u_ => none))) b = some c := fun b c e => by
    rw [RM.set_ne fun z => ?_]; exact e
    refine obEA (inner_some e) fun c0 q u_ => ?_
    rw [z, eC3] at q; exact nosome q
  generalize hR4 : (R3.inner (capAddrs env scope) (D :: own) s3.heap).set Ca (some (.ns fun u_ => none)) = R4 at C4 x4 keepR
  have eC4 : R4 Ca = some (.ns fun u_ => none) := by rw [← hR4]; exact RM.set_self
  obtain ⟨F4, _⟩ := inner_fr I3.core I3.fr hok hfr' keepR eC4 hkpt
  have I4 : Inv W (compEnvC scope (closOf env scope.names).reverse Ca env) (relab scope sc) ⟨fr', σ2.cs⟩ H2 R4 ca2 s4 :=
    ⟨I3.base, h4e ▸ C4, F4, ⟨I3.gr.len, fun i b p e1 e2 => keepR _ _ (inner_far (I3.gr.cell i b p e1 e2) rfl), fun t ht => keepR _ _ (inner_far (I3.gr.tabs t ht) rfl)⟩⟩
  have own4 : OwnIs R4 s4.heap own := fun b hb => by
    refine obEA (own3 b hb) fun o g e => ?_
    exact ⟨o, by rw [h4e]; exact k4 b o g, keepR _ _ ((inner_kp (.tail _ hb)).trans e)⟩
  have eD4 : R4 D = some (.cont .tmp (wrap acc0)) := keepR _ _ ((inner_kp (.head _)).trans eD3)
  have st4 : St' 0 s4.heap := it.frame 0 s2.heap s4.heap st (fun a o e => I2.core.le a o e) (fun a o e => I4.core.le a o e) fun b hb o g => by rw [h4e]; exact k4 b o (by rw [h3]; exact kD b o g)
  show codeAny W.M A (.compStart e 0 (.ref Ia) (.ref D) (compEnvC scope (closOf env scope.names).reverse Ca env)) _ s4
  have loop : codeAny W.M A (.compLoop e 0 (.ref Ia) (.ref D) (compEnvC scope (closOf env scope.names).reverse Ca env)) (compPost W.M A E use Q (.ref D) Ca) s4 := by
    refine comp_loop S' (hc.ql _ _ _) (hc.ul _ _ _) (hc.dl _ _ _) (hem _ D) it hownD its 0 _ acc0 _ (by simp) (Nat.zero_le _) hcomp A H2 R4 ca2 s4 _ a I4 HLe.refl CLe.refl st4 own4 eD4 fun acc' σ' H' R' ca' s' k' I' eD' x5 q5 ol => ?_
    refine obEAAA (I'.freezeTmp eD') fun o eo hHD I6 rD => ?_
    have x5' : ExtX (D :: own) H2 (R3.inner (capAddrs env scope) (D :: own) s3.heap) s3.heap ca2 (H'.put D o) (R'.set D none) s'.heap ca' := by
      have y := (h4e ▸ x4.toX (X := D :: own)).trans x5
      refine ⟨y.imm.trans (HLe.put hHD), y.ca, y.pres, fun b n z => ?_, fun b n z => ?_, fun b c n e t => ?_, y.live⟩
      · rw [IH.put_ne fun q => n (by simp [q])] at z; exact y.newH b n z
      · rw [RM.set_ne fun q => n (by simp [q])] at z; exact y.newR b n z
      · rw [RM.set_ne fun q => n (by simp [q])]; exact y.tmp b c n e t
    refine obEA I'.fr.ns fun mC eC u_ => ?_
    have eC : R' Ca = some (.ns mC) := eC
    have hDC : Ca ≠ D := fun z => by rw [z, eD'] at eC; cases eC
    have eC6 : (R'.set D none) Ca = some (.ns mC) := (RM.set_ne hDC).trans eC
    refine obAAAA (outer_back (Z := Ca :: D :: own) I3.core I6.core x5' (fun b hb => .tail _ hb) (fun b hb => by
      rcases List.mem_cons.mp hb with rfl | hb
      · exact .inr hCn
      · exact .inl hb) (fun b hb c e => by
        rcases List.mem_cons.mp hb with rfl | hb
        · rw [eC6] at e; (replace e := Option.some.inj e; subst e); rfl
        · by_cases hbD : b = D
          · subst hbD; rw [RM.set_self] at e; exact nosome e
          · rw [RM.set_ne hbD] at e
            rcases List.mem_cons.mp hb with z | hb
            · exact absurd z hbD
            · exact ol b hb c e)) fun b1 b2 b3 b4 b5 => ?_
    have hzk : ∀ b c, R3 b = some c → c.isTmp = false → b ∉ Ca :: D :: own := fun b c e ht z => by
      rcases List.mem_cons.mp z with rfl | z
      · rw [eC3] at e; exact nosome e
      · rw [hkpt b z c e] at ht; exact notf ht
    have I7 : Inv W env sc ⟨σ2.fr, σ'.cs⟩ (H'.put D o) (R3.outer (R'.set D none) (Ca :: D :: own)) ca' s' :=
      ⟨I6.base, b1, I3.fr.mono x5'.imm x5'.ca fun b c e hl ht => b3 b c e hl (hzk b c e ht), ⟨I6.gr.len, fun i b p e1 e2 => b4 _ _ (I6.gr.cell i b p e1 e2) rfl, fun t ht => b4 _ _ (I6.gr.tabs t ht) rfl⟩⟩
    have hnew0 : ∀ b ∈ D :: own, s.heap.get? b = none := fun b hb => by
      rcases List.mem_cons.mp hb with rfl | hb
      · exact x2.live _ hD
      · exact (own2 b hb).1
    have x8 : Ext H R s.heap ca (H'.put D o) (R3.outer (R'.set D none) (Ca :: D :: own)) s'.heap ca' := by
      have y : ExtX (D :: own) H R s.heap ca (H'.put D o) (R3.outer (R'.set D none) (Ca :: D :: own)) s'.heap ca' := (x2.toX.trans x3.toX).trans b2
      exact (y.cut (Y := []) fun b hb => .inr ⟨hnew0 b hb, I.core.freshR (hnew0 b hb)⟩).toExt
    refine obEA I.fr.ns fun mL eL u_ => ?_
    have eL3 : R3 env.locals = some (.ns mL) := by
      rw [← hR3, RM.set_ne fun z => ?_]
      · exact l2.trans eL
      · have := l2.trans eL; rw [z, hR2D] at this; exact nosome this
    have l8 : (R3.outer (R'.set D none) (Ca :: D :: own)) env.locals = R env.locals := (b3 _ _ eL3 rfl (hzk _ _ eL3 rfl)).trans eL.symm
    have hs0C : s.heap.get? Ca = none := x2.live _ (by
      cases z : s2.heap.get? Ca with
      | none => rfl
      | some o => have := kD Ca o z; rw [← h3, hCn] at this; exact nosome this)
    refine P D (wrap acc') ⟨σ2.fr, σ'.cs⟩ _ _ ca' s' Ca k' I7 rD x8 ((q2.trans q3).trans (SEq.trans (by rw [← hs5]; exact ⟨rfl, rfl, rfl⟩) q5)) l8 (outer_Z (.head _)) ?_ hs0C ?_
    · rw [IH.put_ne hDC]; exact I'.core.hid _ _ eC
    · exact ⟨mC, I'.core.reg _ _ eC⟩
  exact codeAny_compStart' (g := ⟨tgt, iter, ifs, 0⟩) (by rw [hcl]; rfl) rfl (hc.us _ _ _) (hc.ds _ _ _) (hc.ql _ _ _) loop (it.self A 0 s4 _ _ a.handled st4 ⟨rfl, loop⟩)
end
end
section
section
variable {W : Wd} {T : Tb} {H H' H'' : IH} {ca ca' ca'' : List Addr} {R R' R'' : RM} {env cenv : Env} {sc : SC} {σ : St} {s s' : Shared} {A : Around} {E : Value → Shared → Prop} {d : Nat} {h h' h'' : Heap}
variable {ev ev' : Expr → St → (PV → St → Prop) → Prop} {C : Oracle}
theorem Inv.away {Ca : Addr} (I : Inv W env sc σ H R ca s) (hR : R Ca = none) (hH : H Ca = none) {h' : Heap} (hs : Heap.SameBut Ca s.heap h') : Inv W env sc σ H R ca { s with heap := h' } :=
  ⟨I.base, I.core.grow fun b o e z => hs.extBut b o (fun q => by subst q; rcases z with z | z <;> contradiction) e, I.fr, I.gr⟩
theorem Ext.away {Ca : Addr} {h0 : Heap} {H0 : IH} {R0 : RM} {ca0 : List Addr} (x : Ext H0 R0 h0 ca0 H R h ca) (h0n : h0.get? Ca = none) (hs : Heap.SameBut Ca h h') : Ext H0 R0 h0 ca0 H R h' ca := by
  refine ⟨x.imm, x.ca, fun b o e r => hs.extBut b o (fun q => by subst q; rw [h0n] at e; exact nosome e) (x.pres b o e r), x.newH, x.newR, x.tmp, fun b e => ?_⟩
  by_cases hb : b = Ca
  · subst hb; exact h0n
  · refine x.live b ?_
    rw [← hs.2 b hb]; exact e
theorem compP_none {Kf : PV → St → Prop} {Q : Value → Shared → Prop} (P : PostE W env sc H R ca s Kf Q) : CompP W env sc H R ca s A E none Kf Q := by
  intro D p σ' H' R' ca' s' Ca k I' r x q l hR hH h0 hm
  obtain ⟨m, hn⟩ := hm
  exact ⟨m, hn, fun h' hs => P _ p σ' H' R' ca' { s' with heap := h' } k (I'.away hR hH hs) r (x.away h0 hs) (q.trans ⟨rfl, rfl, rfl⟩) l⟩
theorem compP_store {x : Str} {px : Pos} {K : St → Prop} {Q : Unit → Shared → Prop} (P : ∀ σ' H' R' ca' s', K σ' → Inv W env sc σ' H' R' ca' s' → Ext H R s.heap ca H' R' s'.heap ca' → SEq s s' → Q () s') :
    CompP W env sc H R ca s A E (some (assign (.Name x px) env)) (fun p σ => vcStoreName sc x false p σ K) (fun u_ => Q ()) := by
  intro D p σ' H' R' ca' s' Ca k I' r x q l hR hH h0 hm
  obtain ⟨m, hn⟩ := hm
  show wpAny W.M A (assign _ env (.ref D)) _ E s'
  refine assign_Name' (snd_store_plain k I' r fun σ2 R2 s2 k2 I2 x2 q2 => ?_)
  have hR2 : R2 Ca = none := by
    cases z : R2 Ca with
    | none => rfl
    | some c =>
      rcases x2.newR Ca (by rw [z]; exact Option.some_ne_none _) with y | y
      · exact absurd hR y
      · (refine obEEEA hn fun o u_ u_ e u_ => ?_; try clear hn); rw [y] at e; exact nosome e
  refine ⟨m, hn.at' fun o e => x2.pres Ca o e hR, fun h' hs => ?_⟩
  exact P σ2 H' R2 ca' { s2 with heap := h' } k2 (I2.away hR2 hH hs) ((x.trans x2).away h0 hs) ((q.trans q2).trans ⟨rfl, rfl, rfl⟩)
theorem new_list (s : Shared) (Q : Value → Shared → Prop) (E : Value → Shared → Prop) (h : ∀ o, (∀ (H : IH) (ca : List Addr), ContObj W H ca o (.lst [])) → o.isFreed = false → Q (.ref s.heap.objs.size) { s with heap := s.heap.push o }) : wpAny W.M A (newList []) Q E s :=
  wpAny_newList (h (listOf #[] 0) (fun H ca => ⟨#[], 0, rfl, .nil⟩) rfl) (by simp)
theorem new_dict (s : Shared) (Q : Value → Shared → Prop) (E : Value → Shared → Prop) (h : ∀ o, (∀ (H : IH) (ca : List Addr), ContObj W H ca o (.dct [])) → o.isFreed = false → Q (.ref s.heap.objs.size) { s with heap := s.heap.push o }) : wpAny W.M A newDict Q E s := by
  refine wpAny_newObj_type ?_ (by show (#[] : Array DictEntry).size ≤ _; simp)
  refine h (dictOf [] 0) (fun H ca => ⟨[], ?_, .nil⟩) rfl
  refine obEA (dict_obj (knd := W.sk) (Heap.DictOf.new s.heap)) fun o g x => ?_
  have := (Heap.get?_push_size s.heap (o := { cls := .type "dict", data := .dict #[] }) rfl).symm.trans g
  (replace this := Option.some.inj this; subst this); exact x
noncomputable abbrev listT (elt : Expr) (cenv : Env) (D : Addr) : Sem Unit := do let _ ← call (.builtin "list.append") [.ref D, ← eval elt cenv]
theorem code_list1 {elt tgt iter : Expr} {ifs : List Expr} {scope : Scope} {pos : Pos} : CompCode W (.ListComp elt [⟨tgt, iter, ifs, 0⟩] scope pos) iter.pos tgt ifs (listT elt) :=
  ⟨fun u_ u_ u_ => rfl, fun u_ u_ u_ u_ => rfl, fun u_ u_ u_ => rfl, fun u_ u_ u_ u_ => rfl, fun u_ u_ u_ => rfl⟩
noncomputable abbrev dictT (key val : Expr) (cenv : Env) (D : Addr) : Sem Unit := do
        let kv ← eval key cenv
        let vv ← holding [kv] (eval val cenv)
        standAt { key.pos with endLine := val.pos.endLine, endCol := val.pos.endCol }
        holding [kv, vv] (dictSet D kv vv)
theorem code_dict1 {key val tgt iter : Expr} {ifs : List Expr} {scope : Scope} {pos : Pos} : CompCode W (.DictComp key val [⟨tgt, iter, ifs, 0⟩] scope pos) iter.pos tgt ifs (dictT key val) :=
  ⟨fun u_ u_ u_ => rfl, fun u_ u_ u_ u_ => rfl, fun u_ u_ u_ => rfl, fun u_ u_ u_ u_ => rfl, fun u_ u_ u_ => rfl⟩
noncomputable abbrev nestT (e iter : Expr) (cenv : Env) (D : Addr) : Sem Unit := do
  let x ← eval iter cenv
  standAt iter.pos
  let x ← foldedSetIterable iter cenv x
  let _ ← runOwn (.compStart e 1 (← holding [x] (pyIter x)) (.ref D) cenv) cenv
theorem code_list2 {elt tgt iter tgt2 iter2 : Expr} {ifs ifs2 : List Expr} {scope : Scope} {pos : Pos} : CompCode W (.ListComp elt [⟨tgt, iter, ifs, 0⟩, ⟨tgt2, iter2, ifs2, 0⟩] scope pos) iter.pos tgt ifs (nestT (.ListComp elt [⟨tgt, iter, ifs, 0⟩, ⟨tgt2, iter2, ifs2, 0⟩] scope pos) iter2) :=
  ⟨fun u_ u_ u_ => rfl, fun u_ u_ u_ u_ => rfl, fun Ia D cenv => by
    show (compTurn _ 0 (.ref Ia) (.ref D) cenv).onRaise (fun x => do noteFrame x cenv; theTreesLotGoes x) = _
    congr 1
    unfold compTurn turnTree nestT
    simp only [bind_assoc, pure_bind]
    rfl, fun u_ u_ u_ u_ => rfl, fun u_ u_ u_ => rfl⟩
theorem emit_nest (S : SndE W d ev sc) (hst : NoStar ev) (hns : NoSet ev) {n : Nat} {elt tgt iter tgt2 iter2 : Expr} {ifs ifs2 : List Expr} {scope : Scope} {pos : Pos} {D : Addr}
    (hem : SndEmit W cenv sc d D PV.lst (emitL elt ev) (listT elt cenv D)) :
    SndEmit W cenv sc d D PV.lst (emitN n sc elt ⟨tgt2, iter2, ifs2, 0⟩ ev) (nestT (.ListComp elt [⟨tgt, iter, ifs, 0⟩, ⟨tgt2, iter2, ifs2, 0⟩] scope pos) iter2 cenv D) := by
  intro acc σ K h A H R ca s Q E a I eD P
  have hm : A.mark none = A := Around.mark_none A
  unfold nestT
  refine wpAny_bind (wpAny_mono (snd_iter S hst h a I (Q := fun it s2 => wpAny W.M A (runOwn (.compStart (.ListComp elt [⟨tgt, iter, ifs, 0⟩, ⟨tgt2, iter2, ifs2, 0⟩] scope pos) 1 it (.ref D) cenv) cenv) (fun u_ => Q ()) E s2) fun its Ia own St' σ2 H2 R2 ca2 s2 k I2 it st own2 x2 q2 l2 => ?_) (fun x s1 h1 => wpAny_bind (wpAny_standAt (wpAny_bind (wpAny_of_eq (iter_set hns h x) (wpAny_bind (wpAny_holding (wpAny_mono h1 (fun it s2 h2 => wpAny_bind (wpAny_mono h2 (fun u_ s3 h3 => wpAny_pure h3) fun u_ u_ y => y)) fun u_ u_ y => y))))))) fun u_ u_ y => y)
  refine wpAny_runOwn ?_
  rw [hm]
  have hDl : s.heap.get? D ≠ none := I.core.someR (by rw [eD]; exact Option.some_ne_none _)
  have hDo : D ∉ own := fun z => hDl (own2 D z).1
  have eD2 := x2.tmp D _ eD rfl
  have oi : OwnIs R2 s2.heap own := fun b hb => (own2 b hb).2
  have loop : codeAny W.M A (.compLoop (.ListComp elt [⟨tgt, iter, ifs, 0⟩, ⟨tgt2, iter2, ifs2, 0⟩] scope pos) 1 (.ref Ia) (.ref D) cenv) (fun r s' => match r with | .ok _ => Q () s' | .error e => cameBackBy W.M A cenv E e s') s2 := by
    refine comp_loop S rfl (fun u_ => rfl) (p := iter2.pos) (t := listT elt cenv D) rfl hem it hDo its 0 σ2 acc _ (by simp) (Nat.zero_le _) k A H2 R2 ca2 s2 _ a I2 HLe.refl CLe.refl st oi eD2 fun acc' σ' H' R' ca' s' k' I' e' x q u_ => ?_
    refine P acc' σ' H' R' ca' s' k' I' e' ?_ (q2.trans q)
    exact (x2.toX.trans x).cut fun b hb => by
      rcases List.mem_cons.mp hb with rfl | hb
      · exact .inl (.head _)
      · exact .inr ⟨(own2 b hb).1, I.core.freshR (own2 b hb).1⟩
  exact codeAny_compStart' (g := ⟨tgt2, iter2, ifs2, 0⟩) rfl rfl (fun u_ => rfl) rfl rfl loop (it.self A 0 s2 _ _ a.handled st ⟨rfl, loop⟩)
end
end
section
section
variable {W : Wd} {T : Tb} {H H' H'' : IH} {ca ca' ca'' : List Addr} {R R' R'' : RM} {env cenv : Env} {sc : SC} {σ : St} {s s' : Shared} {A : Around} {E : Value → Shared → Prop} {d : Nat} {h h' h'' : Heap}
variable {C : Oracle}
theorem nostar_vcO (n : Nat) (sc : SC) : NoStar (vcE T n sc C) := fun e p σ K h => by
  cases n <;> exact False.elim h
theorem noset_vcO (n : Nat) (sc : SC) : NoSet (vcE T n sc C) := fun es k p σ K h => by
  cases n <;> exact False.elim h
theorem SndO.toV {n : Nat} (S : SndO W d (fun e => vcO T n sc e C) sc) : SndE W d (vcE T n sc C) sc := S.toE
theorem snd_constant {c : Const} {k : Nat} {pos : Pos} {n : Nat} {f : EvO} {K : Bool → PV → St → Prop} {Q : Value → Shared → Prop} (h : vcOF T n f sc (.Constant c k pos) C σ K) (I : Inv W env sc σ H R ca s) (P : PostO W env sc H R ca s K Q) : wpAny W.M A (eval (.Constant c k pos) env) Q E s := by
  cases c with
  | none => exact wpAny_Constant_none (P.ofVal.now (t := s.toks) h I .none)
  | bool b => exact wpAny_Constant_bool (P.ofVal.now (t := s.toks) h I .bool)
  | int i => exact wpAny_Constant_int (P.ofVal.now h I .int)
  | str x => exact wpAny_Constant_str (P.ofVal.now h I .str)
  | _ => exact False.elim h
theorem kAttr_inv {a : Str} {K : KtV} {p : PV} (h : kAttr T a K p σ) : ∃ D l q, p = .ins D l ∧ T.attr D a = true ∧ dget l a = some q ∧ K q σ := by
  induction p using PV.casesOn with
  | ins D l =>
    obtain ⟨x, h⟩ := req_iff.mp h
    refine obEA (onSome_inv h) fun q e h => ?_
    exact ⟨D, l, q, rfl, x, e, h⟩
  | _ => exact False.elim h
section
variable {ev : Evl} {n : Nat} {K : KtV} {Q : Value → Shared → Prop}
theorem snd_attr (hT : TbOk W T) (S : SndE W d ev sc) {o : Expr} {a : Str} {pos : Pos}
    (h : req (notSuper o) (ev o σ (kAttr T a K))) (am : Amb A d) (I : Inv W env sc σ H R ca s) (P : PostE W env sc H R ca s K Q) : wpAny W.M A (eval (.Attribute o a pos) env) Q E s := by
  obtain ⟨hs, h⟩ := req_iff.mp h
  rw [arm_eval_Attribute, attributeBase_of hs]
  refine wpAny_bind (S o σ _ h A env H R ca s _ E am I fun v p σ1 H1 R1 ca1 s1 k I1 rv x1 q1 l1 => ?_)
  (refine obEEEAAA (kAttr_inv k) ?_; rintro D l q rfl ha hq k)
  refine wpAny_bind (wpAny_standAt (wpAny_bind (wpAny_holding (snd_getAttr I1 rv hq (hT.attr _ _ ha).1 fun u t ru => wpAny_bind (wpAny_letTemporaryGo (wpAny_pure ?_))))))
  exact (P.after x1 q1 l1 fun u_ u_ k => k).now k I1 ru
theorem async0 {g : Comprehension} (h : decide (g.is_async = 0) = true) : g = ⟨g.target, g.iter, g.ifs, 0⟩ := by
  obtain ⟨a, b, c, d⟩ := g
  obtain rfl : d = 0 := of_decide_eq_true h
  rfl
theorem snd_listcomp {f : EvO} (S : ∀ sc, SndE W d (evO (f sc) C) sc) (hst : ∀ sc, NoStar (evO (f sc) C)) (hns : ∀ sc, NoSet (evO (f sc) C)) {elt : Expr} {gens : List Comprehension} {scope : Scope} {pos : Pos} {use : Option (Value → Sem Unit)}
    (h : hLC n f sc elt gens scope C σ K) (a : Amb A d) (I : Inv W env sc σ H R ca s) (P : CompP W env sc H R ca s A E use K Q) :
    wpAny W.M A (comprehension (.ListComp elt gens scope pos) scope env (firstIterPos gens pos) (newList []) (firstAsync gens) (firstIter gens env) use) Q E s := by
  obtain ⟨h0, h⟩ := req_iff.mp h
  obtain ⟨hok, h0⟩ := Bool.and_eq_true_iff.mp h0
  obtain ⟨hfew, hasync⟩ := Bool.and_eq_true_iff.mp h0
  induction gens using List.casesOn with
  | nil => exact False.elim h
  | cons g gs =>
    refine obEA (onSome_inv h) fun fr0 hfr0 h => ?_
    obtain ⟨ha, hb⟩ := Bool.and_eq_true_iff.mp hasync
    rw [async0 ha] at h ⊢
    induction gs using List.casesOn with
    | nil => exact snd_comp (S sc) (hst sc) (hns sc) (S (relab scope sc)) (n := n) (wrap := PV.lst) (acc0 := []) (t := listT elt) (Kf := K) rfl hok (fun s Q E => new_list s Q E) code_list1 (fun cenv D => emit_list (S _)) ⟨fr0, hfr0⟩ h (fun its σ k => onSome_inv k) a I P
    | cons g2 gs =>
      induction gs using List.casesOn with
      | nil =>
        obtain ⟨hb, _⟩ := Bool.and_eq_true_iff.mp hb
        rw [async0 hb] at h ⊢
        exact snd_comp (S sc) (hst sc) (hns sc) (S (relab scope sc)) (n := n) (wrap := PV.lst) (acc0 := []) (t := nestT _ g2.iter) (Kf := K) rfl hok (fun s Q E => new_list s Q E) code_list2
          (fun cenv D => emit_nest (S _) (hst _) (hns _) (n := n) (emit_list (S _))) ⟨fr0, hfr0⟩ h (fun its σ k => onSome_inv k) a I P
      | cons g3 gs => exact absurd hfew Bool.false_ne_true
theorem snd_dictcomp {f : EvO} (S : ∀ sc, SndE W d (evO (f sc) C) sc) (hst : ∀ sc, NoStar (evO (f sc) C)) (hns : ∀ sc, NoSet (evO (f sc) C)) {key val : Expr} {gens : List Comprehension} {scope : Scope} {pos : Pos} {use : Option (Value → Sem Unit)}
    (h : hDC n f sc key val gens scope C σ K) (a : Amb A d) (I : Inv W env sc σ H R ca s) (P : CompP W env sc H R ca s A E use K Q) :
    wpAny W.M A (comprehension (.DictComp key val gens scope pos) scope env (firstIterPos gens pos) newDict (firstAsync gens) (firstIter gens env) use) Q E s := by
  obtain ⟨h0, h⟩ := req_iff.mp h
  obtain ⟨hok, hasync⟩ := Bool.and_eq_true_iff.mp h0
  refine obEA (onSome_inv h) fun g e h1 => ?_
  refine obEA (onSome_inv h1) fun fr0 hfr0 h2 => ?_
  clear h h1
  obtain rfl := one_inv e
  obtain ⟨ha, _⟩ := Bool.and_eq_true_iff.mp hasync
  rw [async0 ha] at h2 ⊢
  exact snd_comp (S sc) (hst sc) (hns sc) (S (relab scope sc)) (n := n) (wrap := id) (acc0 := .dct []) (t := dictT key val) (Kf := K) rfl hok (fun s Q E => new_dict s Q E) code_dict1 (fun cenv D => emit_dict (S _)) ⟨fr0, hfr0⟩ h2 (fun its σ k => onSome_inv k) a I P
inductive VSub (i o : Expr) (ev : Evl) (σ : St) (K : KtV) : Prop where
  | all {st : Expr} {p : Pos} : i = .Slice none none (some st) p → req (isMinusOne st) (ev o σ (kRev K)) → VSub i o ev σ K
  | from {lo : Expr} {p : Pos} : i = .Slice (some lo) none none p → ev o σ (kFrom1 lo ev K) → VSub i o ev σ K
  | to {hi : Expr} {p : Pos} : i = .Slice none (some hi) none p → ev o σ (kTo1 hi ev K) → VSub i o ev σ K
  | item : isSlice i = false → vcBR o ev σ (kItem1 i ev K) → VSub i o ev σ K
theorem hSlice_inv {lo hi st : Option Expr} {p : Pos} {o : Expr} (h : hSlice lo hi st o ev σ K) : VSub (.Slice lo hi st p) o ev σ K := by
  induction lo using Option.casesOn with
  | none => induction hi using Option.casesOn with
    | none =>
      refine obEA (onSome_inv h) fun x e h => ?_
      subst e
      exact .all rfl h
    | some hi => induction st using Option.casesOn with
      | none => exact .to rfl h
      | some _ => exact False.elim h
  | some lo => induction hi using Option.casesOn with
    | none => induction st using Option.casesOn with
      | none => exact .from rfl h
      | some _ => exact False.elim h
    | some _ => exact False.elim h
theorem hSub_inv {i o : Expr} (h : hSub i o ev σ K) : VSub i o ev σ K := by
  induction i using PySem.Expr.casesOn with
  | Slice lo hi st p => exact hSlice_inv h
  | _ => exact .item rfl h
theorem snd_sub (S : SndE W d ev sc) {o i : Expr} {pos : Pos} (h : hSub i o ev σ K) (a : Amb A d) (I : Inv W env sc σ H R ca s) (P : PostE W env sc H R ca s K Q) : wpAny W.M A (eval (.Subscript o i pos) env) Q E s := by
  cases hSub_inv h with
  | all e h => subst e; exact snd_slice_all S h a I P
  | «from» e h => subst e; exact snd_slice_from S h a I P
  | to e h => subst e; exact snd_slice_to S h a I P
  | item hi h =>
    refine Subscript_ (snd_br S h a I fun v b σ1 H1 R1 ca1 s1 k I1 rb x1 q1 l1 => ?_)
    refine S i σ1 _ k A env H1 R1 ca1 s1 _ E a I1 fun v2 p2 σ2 H2 R2 ca2 s2 k I2 rv2 x2 q2 l2 => ?_
    refine obEA (onSome_inv k) fun c hc k => ?_
    exact snd_item k hi I2 (br_view I2 (rb.mono x2.imm x2.ca l2) hc) rv2 (P.after (x1.trans x2) (q1.trans q2) (l2.trans l1) fun u_ u_ k => k)
theorem snd_unary (S : SndE W d ev sc) {op : UnaryOp} {x : Expr} {pos : Pos} (h : match op with
      | .Not => ev x σ (kNot K)
      | .USub => ev x σ (kNeg K)
      | _ => False) (a : Amb A d) (I : Inv W env sc σ H R ca s) (P : PostE W env sc H R ca s K Q) : wpAny W.M A (eval (.UnaryOp op x pos) env) Q E s := by
  cases op with
  | Not =>
    refine wpAny_UnaryOp (S x σ _ h A env H R ca s _ E a I fun v p σ1 H1 R1 ca1 s1 k I1 rv x1 q1 l1 => ?_)
    refine obEA (onSome_inv k) fun b hb k => ?_
    obtain rfl := truth_of hb rv
    exact not_value (wpAny_truthy_bool ((P.after x1 q1 l1 fun u_ u_ k => k).now (t := s1.toks) k I1 .bool))
  | USub =>
    refine wpAny_UnaryOp (S x σ _ h A env H R ca s _ E a I fun v p σ1 H1 R1 ca1 s1 k I1 rv x1 q1 l1 => ?_)
    refine obEA (onSome_inv k) fun i e k => ?_
    obtain rfl := asInt_inv e
    obtain ⟨t, rfl⟩ := rv.inv
    exact neg_int ((P.after x1 q1 l1 fun u_ u_ k => k).now k I1 .int)
  | _ => exact False.elim h
end
theorem snd_hcall {ev : Evl} (hT : TbOk W T) (S : SndE W d ev sc) (hst : NoStar ev) (SC' : SndC W d C) {f : Expr} {args : List Expr} {pos : Pos} {K : KtO} {Q : Value → Shared → Prop} (h : hCall T f args pos ev C σ K) (a : Amb A d) (I : Inv W env sc σ H R ca s) (P : PostO W env sc H R ca s K Q) : wpAny W.M A (eval (.Call f args [] pos) env) Q E s := by
  induction f using PySem.Expr.casesOn with
  | Name x p => exact snd_ncall hT S hst SC' h a I P
  | Attribute o x p => exact snd_mcall hT S hst SC' h a I P.ofVal
  | _ => exact False.elim h
theorem snd_vcO (hT : TbOk W T) (SC' : SndC W d C) : ∀ (n : Nat) (sc : SC), SndO W d (fun e => vcO T n sc e C) sc := by
  intro n
  induction n with
  | zero => intro sc e σ K h; exact False.elim h
  | succ n ih =>
    intro sc e σ K h A env H R ca s Q E a I P
    have S := fun sc => (ih sc).toV
    have hst := fun sc => nostar_vcO (T := T) (C := C) n sc
    have hns := fun sc => noset_vcO (T := T) (C := C) n sc
    have PV := P.ofVal
    induction e using PySem.Expr.casesOn with
    | Constant c k pos => exact snd_constant (T := T) (C := C) (n := n) (f := vcO T n) h I P
    | Name x pos =>
      obtain ⟨h1, h⟩ := req_iff.mp h
      simp only [Bool.and_eq_true, Bool.not_eq_true'] at h1
      exact snd_name hT h1.1 h1.2 h I PV
    | BinOp l op r pos =>
      refine wpAny_BinOp (S sc l σ _ h A env H R ca s _ E a I fun v p σ1 H1 R1 ca1 s1 k I1 rv x1 q1 l1 => ?_)
      refine S sc r σ1 _ k A env H1 R1 ca1 s1 _ E a I1 fun v2 p2 σ2 H2 R2 ca2 s2 k I2 rv2 x2 q2 l2 => ?_
      exact snd_binop k I2 (Rep.mono x2.imm x2.ca rv) rv2 (PV.after (x1.trans x2) (q1.trans q2) (l2.trans l1) fun u_ u_ k => k)
    | UnaryOp op x pos => exact snd_unary (S sc) (by cases op <;> exact h) a I PV
    | BoolOp op vs pos => rw [arm_eval_BoolOp]; exact snd_bool (S sc) op vs σ _ h A H R ca s Q E pos a I PV
    | IfExp t x y pos =>
      refine wpAny_IfExp (snd_t (S sc) n t σ _ h A H R ca s _ E a I fun b σ1 H1 R1 ca1 s1 k I1 x1 q1 l1 => ?_)
      have P1 := PV.after x1 q1 l1 fun u_ u_ k => k
      induction b using Bool.casesOn with
      | true => exact S sc x σ1 _ k A env H1 R1 ca1 s1 Q E a I1 P1
      | false => exact S sc y σ1 _ k A env H1 R1 ca1 s1 Q E a I1 P1
    | List es pos => exact snd_list (S sc) (hst sc) h a I P
    | Tuple es k pos => exact snd_tuple (S sc) (hst sc) h a I PV
    | Dict ks vs pos => exact snd_dict (S sc) h a I P
    | Compare l ops rs pos =>
      (refine obEEAA (vcCmpL_inv h) ?_; rintro op r rfl rfl h)
      obtain ⟨hm, hw⟩ := snd_compare (A := A) (E := E) (Q := Q) (S sc) h a I fun b σ' H' R' ca' s' k I' x q l => PV (.bool b) (.bool b) σ' H' R' ca' s' k I' .bool x q l
      exact wpAny_Compare1 hw hm
    | Attribute o x pos => exact snd_attr hT (S sc) h a I PV
    | Lambda args body scope pos => exact snd_lambda h I PV
    | Subscript o i pos => exact snd_sub (S sc) h a I PV
    | Call f args kws pos =>
      induction kws using List.casesOn with
      | cons _ _ => exact False.elim h
      | nil => exact snd_hcall hT (S sc) (hst sc) SC' h a I P
    | ListComp elt gens scope pos => exact snd_listcomp S hst hns h a I (compP_none PV)
    | DictComp key val gens scope pos => exact snd_dictcomp S hst hns h a I (compP_none PV)
    | _ => exact False.elim h
end
end
section
section
variable {W : Wd} {T : Tb} {H H' H'' : IH} {ca ca' ca'' : List Addr} {R R' R'' : RM} {env cenv : Env} {sc : SC} {σ : St} {s s' : Shared} {A : Around} {E : Value → Shared → Prop} {d : Nat} {h h' h'' : Heap}
variable {C : Oracle}
theorem dict_put {o : Obj} {kvs : List (Str × Value)} {k : Str} {t : Tok} {v : Value} (x : DictObj W.sk o kvs) : DictObj W.sk (Obj.putName k (PyData.keyHash W.w.params k) (.str k t) v o) (stored kvs k v) := by
  rw [Obj.putName_eq]
  (refine obAEEAAA x fun hc es ep hd hk hp hn => ?_; try clear x)
  have hkey : W.sk.is k (.str k t) = true := strKind_is W.prog W.w k t
  have q : (fun d : DictEntry => d.key.isStr k) = fun d => W.sk.is k d.key := funext fun d => isStr_of k d.key
  obtain ⟨c, dd, dt, sl⟩ := o
  dsimp only at hd
  subst hd
  unfold Obj.putNameByArray
  dsimp only
  rw [q]
  have hidx : (es.findIdx? fun e => W.sk.is k e.key) = kvs.findIdx? fun kv => decide (kv.1 = k) := by
    rw [← hp.findIdx k]; obtain ⟨l⟩ := es; simp
  cases hi : es.findIdx? fun e => W.sk.is k e.key with
  | some i =>
    dsimp only
    refine ⟨hc, _, ep, rfl, hk.modify _ _, ?_, ?_⟩
    · rw [stored, if_pos (any_of_findIdx_some (hidx ▸ hi))]
      have hl : (es.toList.findIdx? fun e => W.sk.is k e.key) = some i := by rw [← hi]; obtain ⟨l⟩ := es; simp
      have := hp.modify hn hl v
      obtain ⟨l⟩ := es
      simpa using this
    · rw [stored, if_pos (any_of_findIdx_some (hidx ▸ hi)), keys_map_store]; exact hn
  | none =>
    dsimp only
    have hnot : k ∉ kvs.map (·.1) := not_mem_of_findIdx_none (hidx ▸ hi)
    have hany : ¬ (kvs.any fun kv => decide (kv.1 = k)) = true := by
      rw [List.any_eq_true]; rintro ⟨kv, hkv, he⟩
      exact hnot (List.mem_map.mpr ⟨kv, hkv, of_decide_eq_true he⟩)
    refine ⟨hc, _, ep + 1, rfl, hk.push hkey _, ?_, ?_⟩
    · rw [stored, if_neg hany]
      have := hp.append hkey (PyData.keyHash W.w.params k) v
      obtain ⟨l⟩ := es
      simpa using this
    · rw [stored, if_neg hany, List.map_append, List.nodup_append]
      refine ⟨hn, by simp, ?_⟩
      intro a ha b hb
      simp only [List.map_cons, List.map_nil, List.mem_singleton] at hb
      subst hb
      exact fun e => hnot (e ▸ ha)
theorem look_str {o : Obj} {kvs : List (Str × Value)} (x : Str) {dd : Addr} (g : h.get? dd = some o) (dd' : DictObj W.sk o kvs) : (lookIn x o).isSome = true := by
  cases q : valueAt kvs x with
  | none => rw [lookIn_none g dd' q]; rfl
  | some v => rw [lookIn_of g dd' q]; rfl
set_option tactic.hygienic true in
theorem osa_mine {D ad dd : Addr} {od : Obj} {kvs : List (Str × Value)} {name : Str} {v : Value} {tk : Tok} {Rr : Result → Shared → Prop} (KI : W.K.In s.heap) (h2 : plainOver W.K D = true) (h3 : takerIn W.K D name = some none) (h4 : hasDictIn W.K D = true) (gi : s.heap.get? ad = some (instObj D dd)) (gd : s.heap.get? dd = some od) (x : DictObj W.sk od kvs) (hz : kvs.length + 1 ≤ sizeLine)
    (h : ∀ h' od' tk, h'.get? dd = some od' → DictObj W.sk od' (stored kvs name v) → (∀ b o, b ≠ dd → s.heap.get? b = some o → h'.get? b = some o) → Rr (.ok (.ret .none)) { s with heap := h', toks := tk }) : codeAny W.M A (.call (.builtin "object.__setattr__") ⟨[.ref ad, .str name tk, v], []⟩) Rr s := by
  have IA : InstAt s.heap ad (instObj D dd) D (some od) := ⟨gi, rfl, rfl, gd⟩
  refine osa_open KI IA h2 h3 fun b => ?_
  refine obEA (any_some h4) fun cd hc hd' => ?_
  have hl := look_str name gd x
  have X' := dict_put (k := name) (t := s.toks) (v := v) x
  have xd := x
  (refine obAEEAAA x fun hce es ep hdat hk hpp hn => ?_; try clear x)
  have gd' : (s.heap.update dd (Obj.putName name (PyData.keyHash W.w.params name) (.str name s.toks) v)).get? dd = some (Obj.putName name (PyData.keyHash W.w.params name) (.str name s.toks) v od) := by
    refine Heap.get?_update_self _ gd ?_
    obtain ⟨_, es', _, e, _⟩ := X'
    generalize Obj.putName name (PyData.keyHash W.w.params name) (.str name s.toks) v od = o2 at e
    obtain ⟨_, _, dd2, _⟩ := o2
    subst e; rfl
  refine wpAny_bind (wpAny_pure (wpAny_bind (wpAny_bind (wpAny_loadPart gi (wpAny_bind ((looks_clsIn KI hc).here ?_))))))
  rw [hd']
  refine wpAny_pure (a := some dd) (wpAny_bind (wpAny_pure (wpAny_bind ?_)))
  unfold nsSet
  refine wpAny_bind (wpAny_bind (wpAny_askSetting (wpAny_pure (wpAny_bind (wpAny_mkText (wpAny_bind (wpAny_loadPart gd ?_)))))))
  unfold lookIn at hl
  rw [hdat] at hl ⊢
  dsimp only at hl ⊢
  have c : (!es.any (·.key.isStr name) && es.any (·.refKey)) = false := by
    rw [← Array.any_toList, ← Array.any_toList]
    split at hl
    · rename_i en he
      rw [List.any_eq_true.mpr ⟨en, List.mem_of_find?_eq_some he, List.find?_some he⟩]; rfl
    · split at hl
      · exact noft hl
      · rename_i z; rw [Bool.not_eq_true] at z; rw [z, Bool.and_false]
  rw [aRefKeyMayBeTheName_at, c]
  refine wpAny_updatePart gd ?_
  refine obAEEAAA (id X') fun u_ es' ep' e' hk' hp' u_ => ?_
  refine wpAny_bind (wpAny_lookBehind gd' (by
    rw [e']
    refine pastItsLine_dict ?_
    have e1 := hp'.length
    have e2 : es'.toList.length = es'.size := by simp
    have : (stored kvs name v).length ≤ kvs.length + 1 := by
      unfold stored; split <;> simp
    omega) ?_)
  exact wpAny_pure (h _ _ _ gd' X' fun b o hb e => (Heap.get?_update_other _ _ (Ne.symm hb)).trans e)
theorem snd_setAttr {D ad dd : Addr} {od : Obj} {kvs : List (Str × Value)} {name : Str} {v : Value} {Q : Unit → Shared → Prop} (KI : W.K.In s.heap) (hp : plainSet W.K D name = true) (gi : s.heap.get? ad = some (instObj D dd)) (gd : s.heap.get? dd = some od) (x : DictObj W.sk od kvs) (hz : kvs.length + 1 ≤ sizeLine)
    (h : ∀ h' od' tk, h'.get? dd = some od' → DictObj W.sk od' (stored kvs name v) → (∀ b o, b ≠ dd → s.heap.get? b = some o → h'.get? b = some o) → Q () { s with heap := h', toks := tk }) : wpAny W.M A (setAttr (.ref ad) name v) Q E s := by
  unfold plainSet at hp
  simp only [Bool.and_eq_true, beq_iff_eq] at hp
  obtain ⟨⟨⟨h1, h2⟩, h3⟩, h4⟩ := hp
  have IA : InstAt s.heap ad (instObj D dd) D (some od) := ⟨gi, rfl, rfl, gd⟩
  exact set_plain KI IA h1 (osa_mine (s := { s with toks := s.toks + 1 }) KI h2 h3 h4 gi gd x hz fun h' od' tk g x' k => h h' od' tk g x' k)
end
end
section
section
variable {W : Wd} {T : Tb} {H H' H'' : IH} {ca ca' ca'' : List Addr} {R R' R'' : RM} {env cenv : Env} {sc : SC} {σ : St} {s s' : Shared} {A : Around} {E : Value → Shared → Prop} {d : Nat} {h h' h'' : Heap}
variable {C : Oracle}
theorem own_upd {x : Str} {p1 q0 q : PV} {a : Addr} {v : Value} {m : Str → Option Value} (I : Inv W env sc σ H R ca s) (hl : sc.names.lookup x = some .local) (hm : R env.locals = some (.ns m)) (hv : m x = some v) (e : R a = some (.cont (.var x) q0))
    {o' : Obj} (k1 : ∀ b o, b ≠ a → s.heap.get? b = some o → s'.heap.get? b = some o) (g : s'.heap.get? a = some o') (x' : ContObj W H ca o' q) (B : BindRel W H ca (R.set a (some (.cont (.var x) q))) x v ⟨.own, p1⟩) :
    Inv W env sc { σ with fr := fset σ.fr x ⟨.own, p1⟩ } H (R.set a (some (.cont (.var x) q))) ca s' ∧ Ext H R s.heap ca H (R.set a (some (.cont (.var x) q))) s'.heap ca ∧ (R.set a (some (.cont (.var x) q))) env.locals = R env.locals := by
  have hat : MC.At W H ca s'.heap a (.cont (.var x) q) := ⟨o', g, x', (I.core.reg _ _ e).elim fun o q => q.2.2⟩
  have hne : env.locals ≠ a := fun q => by rw [← q, hm] at e; cases e
  exact ⟨⟨I.base, I.core.upd e k1 hat, I.fr.putL hl HLe.refl (.set e rfl) hm (RM.set_ns e hm rfl) (fun u_ u_ => rfl) hv B, I.gr.set e rfl⟩, Ext.upd (W := W) e rfl k1 hat, RM.set_ne hne⟩
theorem setItem_lst {l : Addr} {items : Array Value} {n : Nat} {k : Int} {t : Tok} {v : Value} {Q : Unit → Shared → Prop} (g : s.heap.get? l = some (listOf items n)) (h0 : 0 ≤ k) (hk : k < items.size) (hf : k < 2 ^ 63)
    (h : ∀ m h', h'.get? l = some (listOf (items.setIfInBounds k.toNat v) m) → (∀ b o, b ≠ l → s.heap.get? b = some o → h'.get? b = some o) → Q () { s with heap := h' }) : wpAny W.M A (setItem (.ref l) (.int k t) v) Q E s := by
  have hl : s.heap.IsList l items := ⟨_, g, rfl, n, rfl⟩
  have hd : (listOf items n).data = .seq items n := rfl
  unfold setItem
  try with_reducible refine wpAny_holding ?_
  first | refine wpAny_bind (wpAny_pure ?_) | skip
  refine wpAny_bind (wpAny_sequenceKey hl.typeIs (by decide) ?_)
  refine wpAny_bind (wpAny_callSpecial?_slot (name := Str.ofString "__setitem__") hl.typeIs slot_list_setitem
    (wpAny_call_entry slot_list_setitem hl.typeIs entry_list_setitem ?_ (args_list_setitem _ _ _)))
  show wpAny _ _ (Builtin.List.listSubscript? (.int k t) >>= _) _ _ s
  refine wpAny_bind (wpAny_listSubscript_int (fitsIndex_of h0 hf) ?_)
  clear hf
  obtain ⟨j, rfl⟩ := Int.eq_ofNat_of_zero_le h0
  have hj : j < items.size := by omega
  have hx : items[j]? = some items[j] := Array.getElem?_eq_getElem hj
  show wpAny _ _ ((seqItemAt l j >>= fun r => pure (r.map (j, ·))) >>= _) _ _ s
  refine wpAny_bind (wpAny_bind (wpAny_seqItemAt g hd (wpAny_pure ?_)))
  rw [hx]
  show wpAny _ _ (setSeqItemAt l j v >>= _) _ _ s
  have g1 := get?_update_seq g (fun x => x.setIfInBounds j v)
  refine wpAny_bind (wpAny_setSeqItemAt g hd ?_)
  have fin := h _ _ g1 fun b o hb e => (Heap.get?_update_other _ _ (Ne.symm hb)).trans e
  first
    | exact wpAny_bind (wpAny_pure (wpAny_pure ⟨.none, rfl, wpAny_pure fin⟩))
    | exact wpAny_pure ⟨.none, rfl, wpAny_pure fin⟩
theorem reps_set {vs : List Value} {l : List PV} (r : Reps W H ca vs l) {v : Value} {p : PV} (rv : Rep W H ca v p) : ∀ k, Reps W H ca (vs.set k v) (l.set k p) := by
  induction l generalizing vs with
  | nil => intro k; cases r; exact .nil
  | cons q l ih =>
    intro k
    cases r with
    | cons a r =>
      cases k with
      | zero => exact .cons rv r
      | succ k => exact .cons a (ih r k)
noncomputable def Fresh0 (own : Bool) (v : Value) (h0 : Heap) (R0 : RM) : Prop := own = true → ∀ a, v = .ref a → h0.get? a = none ∧ R0 a = none
noncomputable def StoreP (W : Wd) (env : Env) (sc : SC) (H : IH) (R : RM) (ca : List Addr) (s : Shared) (nm : Bool) (own : Bool) (v : Value) (K : St → Prop) (Q : Unit → Shared → Prop) : Prop :=
  ∀ σ' H' R' ca' s', K σ' → Inv W env sc σ' H' R' ca' s' → (∀ H0 R0 h0 ca0, Ext H0 R0 h0 ca0 H R s.heap ca → Fresh0 own v h0 R0 → Ext H0 R0 h0 ca0 H' R' s'.heap ca') →
    (∀ b c, R b = some c → c.stay = true → (own = true → v ≠ .ref b) → R' b = some c) → HLe H H' → CLe ca ca' → SEq s s' → (nm = false → R' env.locals = R env.locals) → Q () s'
theorem StoreP.after {nm own : Bool} {v : Value} {K : St → Prop} {Q : Unit → Shared → Prop} {H1 : IH} {R1 : RM} {ca1 : List Addr} {s1 : Shared} (P : StoreP W env sc H R ca s nm own v K Q) (b1 : ∀ H0 R0 h0 ca0, Ext H0 R0 h0 ca0 H R s.heap ca → Fresh0 own v h0 R0 → Ext H0 R0 h0 ca0 H1 R1 s1.heap ca1)
    (b2 : ∀ b c, R b = some c → c.stay = true → (own = true → v ≠ .ref b) → R1 b = some c) (b3 : HLe H H1) (b4 : CLe ca ca1) (b5 : SEq s s1) (b6 : R1 env.locals = R env.locals) : StoreP W env sc H1 R1 ca1 s1 nm false v K Q :=
  fun σ' H' R' ca' s' k I x t hH hc q l => P σ' H' R' ca' s' k I (fun H0 R0 h0 ca0 e f => x H0 R0 h0 ca0 (b1 H0 R0 h0 ca0 e f) fun z => nomatch z) (fun b c e1 e2 e3 => t b c (b2 b c e1 e2 e3) e2 fun z => nomatch z) (b3.trans hH) (b4.trans hc) (b5.trans q) (fun e => (l e).trans b6)
theorem held_plain {nm own : Bool} {v : Value} {p : PV} {K : St → Prop} {Q : Unit → Shared → Prop} (I : Inv W env sc σ H R ca s) (hv : Held W H ca R own v p) (P : StoreP W env sc H R ca s nm own v K Q) :
    ∃ H1 R1, Inv W env sc σ H1 R1 ca s ∧ Rep W H1 ca v p ∧ R1 env.locals = R env.locals ∧ StoreP W env sc H1 R1 ca s nm false v K Q := by
  induction own using Bool.casesOn with
  | false => exact ⟨H, R, I, hv, rfl, P⟩
  | true =>
    (refine obEA (show ∃ a, v = .ref a ∧ R a = some (.cont .tmp p) from hv) ?_; rintro a rfl ea)
    refine obEAAA (I.freezeTmp ea) fun o eo hH I' r' => ?_
    have hloc : (R.set a none) env.locals = R env.locals := by
      refine obEA I.fr.ns fun m em u_ => ?_
      rw [RM.set_ne fun z => ?_]
      rw [← z, em] at ea; cases ea
    refine ⟨_, _, I', r', hloc, P.after (s1 := s) (fun H0 R0 h0 ca0 x f => ?_) (fun b c e1 e2 e3 => ?_) (HLe.put hH) CLe.refl .refl hloc⟩
    · obtain ⟨f1, f2⟩ := f rfl a rfl
      refine ⟨x.imm.trans (HLe.put hH), x.ca, x.pres, fun b z => ?_, fun b z => ?_, fun b c e t => ?_, x.live⟩
      · by_cases hb : b = a
        · subst hb; exact .inr (.inr f1)
        · rw [IH.put_ne hb] at z; exact x.newH b z
      · by_cases hb : b = a
        · subst hb; exact .inr f1
        · rw [RM.set_ne hb] at z; exact x.newR b z
      · have hb : b ≠ a := fun z => by rw [z, f2] at e; exact nosome e
        rw [RM.set_ne hb]; exact x.tmp b c e t
    · rw [RM.set_ne fun z => e3 rfl (by rw [z])]; exact e1
theorem snd_storeN {x : Str} {own : Bool} {p : PV} {v : Value} {K : St → Prop} {Q : Unit → Shared → Prop} (h : (match isCell sc x with
    | true => vcStoreName sc x false p σ K
    | false => vcStoreName sc x own p σ K)) (I : Inv W env sc σ H R ca s) (hv : Held W H ca R own v p) (P : StoreP W env sc H R ca s true own v K Q) : wpAny W.M A (bindName env x v) Q E s := by
  cases hc : isCell sc x with
  | false =>
    rw [hc] at h
    exact snd_store h I hv fun σ' R' s' k I' x t q => P σ' H R' ca s' k I' (fun H0 R0 h0 ca0 e f => x H0 R0 h0 ca0 e f) t HLe.refl CLe.refl q fun z => nomatch z
  | true =>
    rw [hc] at h
    refine obEEAAA (held_plain I hv P) fun H1 R1 I1 rv l1 P1 => ?_
    exact snd_store (own := false) h I1 rv fun σ' R' s' k I' x t q => P1 σ' H1 R' ca s' k I' (fun H0 R0 h0 ca0 e f => x H0 R0 h0 ca0 e f) t HLe.refl CLe.refl q fun z => nomatch z
theorem hStA_inv {x a : Str} {p : PV} {K : St → Prop} (h : hStA T x a p σ K) : (x == ("__debug__" : Str)) = false ∧ ∃ D l, fget σ.fr x = some ⟨.own, .ins D l⟩ ∧ sfits (l.length + 1) = true ∧ T.attr D a = true ∧ K ⟨fset σ.fr x ⟨.own, .ins D (dset l a p)⟩, σ.cs⟩ := by
  obtain ⟨hd, h⟩ := req_iff.mp h
  refine ⟨by simpa using hd, ?_⟩
  have h : (match fget σ.fr x with
    | some ⟨.own, .ins D l⟩ => req (sfits (l.length + 1) && T.attr D a) (onSome (fun u_ => K ⟨fset σ.fr x ⟨.own, .ins D (dset l a p)⟩, σ.cs⟩) (T.init D))
    | _ => False) := h
  cases hx : fget σ.fr x with
  | none => rw [hx] at h; exact False.elim h
  | some b =>
    obtain ⟨m, c⟩ := b
    rw [hx] at h
    induction m using Mode.casesOn with
    | own => induction c using PV.casesOn with
      | ins D l =>
        obtain ⟨z, h⟩ := req_iff.mp h
        refine obEA (onSome_inv h) fun u_ u_ h => ?_
        obtain ⟨z, z2⟩ := Bool.and_eq_true_iff.mp z
        exact ⟨D, l, rfl, z, z2, h⟩
      | _ => exact False.elim h
    | _ => exact False.elim h
theorem snd_storeA (hT : TbOk W T) {x a : Str} {px pa : Pos} {nm : Bool} {p : PV} {v : Value} {K : St → Prop} {Q : Unit → Shared → Prop} (h : hStA T x a p σ K) (I : Inv W env sc σ H R ca s) (rv : Rep W H ca v p) (P : StoreP W env sc H R ca s nm false v K Q) : wpAny W.M A (assign (.Attribute (.Name x px) a pa) env v) Q E s := by
  refine obAEEAAA (hStA_inv h) fun hd D l hx hz hat h => ?_
  have hl := own_local I hx
  refine obEA I.fr.ns fun m em hall => ?_
  refine obEA (hall x _ hx hl) fun u hu B => ?_
  rcases B with ⟨a0, rfl, e⟩ | ⟨a0, D', dd, l', e0, ec, rfl, e2, e⟩
  · refine obEAA (I.core.reg _ _ e) fun o u_ xo u_ => ?_
    exact False.elim xo
  · injection e0 with q1 q2; subst q1; subst q2
    (refine obEAA (I.core.reg _ _ e) ?_; rintro od gd ⟨kvs, dx, re⟩ hsys)
    rw [assign_Attribute]
    have hk : env.kindOf x = some .local := by show env.scope.names.lookup x = _; rw [I.fr.names]; exact hl
    refine wpAny_bind (wpAny_holding (wpAny_Name (wpAny_loadName_local I.fr.kind hk (I.core.reg _ _ em) hu ?_) hd))
    refine wpAny_bind (wpAny_standAt (wpAny_bind (wpAny_holding ?_)))
    refine snd_setAttr I.in_ (hT.attr _ _ hat).2 (I.core.le _ _ e2) gd dx (by rw [re.length]; exact sfits_line hz) fun h' od' tk g' dx' k' => ?_
    refine wpAny_release ?_
    (refine obAEEAAA dx fun u_ u_ u_ u_ u_ u_ nd => ?_; try clear dx)
    have co : ContObj W H ca od' (.dct (dset l a p)) := ⟨_, dx', re.set nd rv⟩
    refine obAA (own_upd (s' := { s with heap := h', toks := tk }) (p1 := .ins D (dset l a p)) I hl em hu e k' g' co (.inr ⟨a0, D, dd, _, rfl, ec, rfl, e2, RM.set_self⟩)) fun I2 X2 l2 => ?_
    exact P _ H _ ca _ h I2 (fun H0 R0 h0 ca0 y u_ => y.trans X2) (fun b c e1 e3 u_ => X2.tmp b c e1 e3) HLe.refl CLe.refl ⟨rfl, rfl, rfl⟩ fun u_ => l2
inductive VSi (p : PV) (K : PV → Prop) : PV → PV → Prop where
  | lst {l : List PV} {k : Int} : idx k = true → Nat.blt k.toNat l.length = true → K (.lst (l.set k.toNat p)) → VSi p K (.lst l) (.int k)
  | dct {l : List (Str × PV)} {k : Str} : sfits (l.length + 1) = true → K (.dct (dset l k p)) → VSi p K (.dct l) (.str k)
theorem vcSetItem_inv {c i p : PV} {K : PV → Prop} (h : vcSetItem c i p K) : VSi p K c i := by
  induction c using PV.casesOn with
  | lst l => induction i using PV.casesOn with
    | int k =>
      obtain ⟨a, h⟩ := req_iff.mp h
      obtain ⟨b, h⟩ := req_iff.mp h
      exact .lst a b h
    | _ => exact False.elim h
  | dct l => induction i using PV.casesOn with
    | str k =>
      obtain ⟨a, h⟩ := req_iff.mp h
      exact .dct a h
    | _ => exact False.elim h
  | _ => exact False.elim h
noncomputable def SetFin (W : Wd) (H : IH) (ca : List Addr) (s : Shared) (u : Value) (Q : Unit → Shared → Prop) (K : PV → Prop) : Prop :=
  ∀ (c' : PV) (a : Addr) (o' : Obj) (h' : Heap) (tk : Nat), K c' → u = .ref a → (∀ b o, b ≠ a → s.heap.get? b = some o → h'.get? b = some o) → h'.get? a = some o' → ContObj W H ca o' c' → Q () { s with heap := h', toks := tk }
theorem snd_setitem {c i p : PV} {u iv v : Value} {K : PV → Prop} {Q : Unit → Shared → Prop} (ks : vcSetItem c i p K) (le : Le H s.heap) (V : View W H ca s.heap u c) (ri : Rep W H ca iv i) (rv : Rep W H ca v p) (fin : SetFin W H ca s u Q K) : wpAny W.M A (setItem u iv v) Q E s := by
  cases vcSetItem_inv ks with
  | @lst l k h1 h2 k3 =>
    obtain ⟨tk, rfl⟩ := ri.inv
    have hk := idx_lt h1
    (refine obEEEAA (V.lst le) ?_; rintro a vs m rfl g r)
    have hlt : k.toNat < vs.length := by rw [r.length]; exact Nat.le_of_ble_eq_true h2
    obtain ⟨j, rfl⟩ := Int.eq_ofNat_of_zero_le hk.1
    refine setItem_lst g hk.1 (by simpa using hlt) (by omega) fun m' h' g' k' => ?_
    exact fin _ a _ h' s.toks k3 rfl k' g' ⟨_, m', rfl, by simpa using reps_set r rv j⟩
  | @dct l k h1 k3 =>
    obtain ⟨tk, rfl⟩ := ri.inv
    (refine obEEEAAAA (V.dct le) ?_; rintro a o1 kvs rfl z g dd re)
    refine wpAny_setItem_pairs (knd := W.sk) (strKind_is W.prog W.w k _) (dd.of g) (fun h' hd' hs' => ?_) (by rw [re.length]; exact Nat.le_of_succ_le (sfits_line h1))
    refine obEA (dict_obj hd') fun o' g' d' => ?_
    (refine obAEEAAA dd fun u_ u_ u_ u_ u_ u_ nd => ?_; try clear dd)
    exact fin _ a o' h' _ k3 rfl (fun b o hb e => (hs'.2 b hb).trans e) g' ⟨_, d', re.set nd rv⟩
theorem put_some {b : BR} {c' : PV} {K : St → Prop} (h : match b.put σ c' with | some σ => K σ | none => False) : ∃ σ', b.put σ c' = some σ' ∧ K σ' := by
  cases e : b.put σ c' with
  | none => rw [e] at h; exact False.elim h
  | some σ' => rw [e] at h; exact ⟨σ', rfl, h⟩
theorem snd_storeS {ev : Evl} (S : SndE W d ev sc) {o i : Expr} {pos : Pos} {nm : Bool} {p : PV} {v : Value} {K : St → Prop} {Q : Unit → Shared → Prop} (h : vcBR o ev σ (kSt0 i ev p K)) (am : Amb A d) (I : Inv W env sc σ H R ca s) (rv : Rep W H ca v p) (P : StoreP W env sc H R ca s nm false v K Q) : wpAny W.M A (assign (.Subscript o i pos) env v) Q E s := by
  rw [arm_assign_Subscript]
  refine wpAny_bind (wpAny_holding (snd_br S h am I fun u b σ2 H2 R2 ca2 s2 k2 I2 rb x2 q2 l2 => ?_))
  refine wpAny_bind (wpAny_holding (S i σ2 _ k2 A env H2 R2 ca2 s2 _ E am I2 fun iv kp σ3 H3 R3 ca3 s3 k3 I3 ri x3 q3 l3 => ?_))
  refine wpAny_bind (wpAny_standAt (wpAny_bind (wpAny_holding ?_)))
  have rb3 := rb.mono x3.imm x3.ca l3
  refine obEA (onSome_inv k3) fun c hc k3 => ?_
  refine snd_setitem k3 I3.core.le (br_view I3 rb3 hc) ri (Rep.mono x3.imm x3.ca (Rep.mono x2.imm x2.ca rv)) fun c' a o' h' tk hK hu k g x => wpAny_release ?_
  refine obEA (put_some hK) fun σ' hp hK => ?_
  refine obEAAA (br_put I3 rb3 hc hp) fun a' e u_ u_ rest => ?_
  rw [hu] at e; cases e
  refine obEAA (rest { s3 with heap := h', toks := tk } o' k g x) fun R' I' X l => ?_
  exact P σ' H3 R' ca3 _ hK I' (fun H0 R0 h0 ca0 y u_ => ((y.trans x2).trans x3).trans X) (fun b c e1 e3 u_ => X.tmp b c (x3.tmp b c (x2.tmp b c e1 e3) e3) e3) (x2.imm.trans x3.imm) (x2.ca.trans x3.ca) ((q2.trans q3).trans ⟨rfl, rfl, rfl⟩) fun u_ => (l.trans l3).trans l2
inductive VSt (T : Tb) (n : Nat) (sc : SC) (own : Bool) (p : PV) (C : Oracle) (σ : St) (K : St → Prop) : Expr → Prop where
  | name {x : Str} {px : Pos} : (match isCell sc x with
    | true => vcStoreName sc x false p σ K
    | false => vcStoreName sc x own p σ K) → VSt T n sc own p C σ K (.Name x px)
  | attr {x a : Str} {px pa : Pos} : hStA T x a p σ K → VSt T n sc own p C σ K (.Attribute (.Name x px) a pa)
  | sub {o i : Expr} {pos : Pos} : vcBR o (vcE T n sc C) σ (kSt0 i (vcE T n sc C) p K) → VSt T n sc own p C σ K (.Subscript o i pos)
theorem vcStore_inv {n : Nat} {t : Expr} {own : Bool} {p : PV} {K : St → Prop} (h : vcStore T n sc t own p C σ K) : VSt T n sc own p C σ K t := by
  induction t using PySem.Expr.casesOn with
  | Name x px => exact .name h
  | Attribute o a pa => induction o using PySem.Expr.casesOn with
    | Name x px => exact .attr h
    | _ => exact False.elim h
  | Subscript o i pos => exact .sub (req_iff.mp h).2
  | _ => exact False.elim h
theorem snd_store1 (hT : TbOk W T) {n : Nat} (S : SndE W d (vcE T n sc C) sc) {t : Expr} {nm own : Bool} {p : PV} {v : Value} {K : St → Prop} {Q : Unit → Shared → Prop} (h : vcStore T n sc t own p C σ K) (am : Amb A d) (I : Inv W env sc σ H R ca s) (hv : Held W H ca R own v p) (hnm : ∀ x px, t = .Name x px → nm = true) (P : StoreP W env sc H R ca s nm own v K Q) :
    wpAny W.M A (assign t env v) Q E s := by
  cases vcStore_inv h with
  | name h1 =>
    obtain rfl := hnm _ _ rfl
    exact assign_Name' (snd_storeN h1 I hv P)
  | attr h1 =>
    refine obEEAAA (held_plain I hv P) fun H1 R1 I1 rv l1 P1 => ?_
    exact snd_storeA hT h1 I1 rv P1
  | sub h1 =>
    refine obEEAAA (held_plain I hv P) fun H1 R1 I1 rv l1 P1 => ?_
    exact snd_storeS S h1 am I1 rv P1
end
end
section
section
variable {W : Wd} {T : Tb} {H H' H'' : IH} {ca ca' ca'' : List Addr} {R R' R'' : RM} {env cenv : Env} {sc : SC} {σ : St} {s s' : Shared} {A : Around} {E : Value → Shared → Prop} {d : Nat} {h h' h'' : Heap}
variable {C : Oracle}
noncomputable abbrev Z := Value × (Bool × PV)
noncomputable def HeldAll (W : Wd) (H : IH) (ca : List Addr) (R : RM) (z : List Z) : Prop := (∀ e ∈ z, Held W H ca R e.2.1 e.1 e.2.2) ∧ z.Pairwise fun e f => e.2.1 = true → f.2.1 = true → e.1 ≠ f.1
theorem Held.mono {own : Bool} {v : Value} {p : PV} (x : Held W H ca R own v p) (hH : HLe H H') (hc : CLe ca ca') (hR : own = true → ∀ a, v = .ref a → R a = some (.cont .tmp p) → R' a = some (.cont .tmp p)) : Held W H' ca' R' own v p := by
  induction own using Bool.casesOn with
  | false => exact Rep.mono hH hc x
  | true => refine obEA (show ∃ a, v = .ref a ∧ R a = some (.cont .tmp p) from x) fun a e1 e2 => ?_; exact (⟨a, e1, hR rfl a e1 e2⟩ : ∃ a, v = .ref a ∧ R' a = some (.cont .tmp p))
theorem snd_os {n : Nat} (S : SndO W d (fun e => vcO T n sc e C) sc) : ∀ (es : List Expr) (σ : St) (K : List (Bool × PV) → St → Prop), vcOs T n sc es C σ K → es.all notStar = true → ∀ (A : Around) (H : IH) (R : RM) (ca : List Addr) (s : Shared) (Q : List Value → Shared → Prop) (E : Value → Shared → Prop) (pos : Pos), Amb A d → Inv W env sc σ H R ca s →
    (∀ (z : List Z) σ' H' R' ca' s', K (z.map (·.2)) σ' → z.length = es.length → Inv W env sc σ' H' R' ca' s' → HeldAll W H' ca' R' z → (∀ e ∈ z, e.2.1 = true → ∃ a, e.1 = .ref a ∧ s.heap.get? a = none) → Ext H R s.heap ca H' R' s'.heap ca' → SEq s s' → R' env.locals = R env.locals → Q (z.map (·.1)) s') → wpAny W.M A (spliced (backTo pos (starEach es env))) Q E s := by
  intro es
  induction es with
  | nil => exact fun σ K h u_ A H R ca s Q E pos a I P => wpAny_items_nil (P [] σ H R ca s h rfl I ⟨fun u_ z => absurd z List.not_mem_nil, List.Pairwise.nil⟩ (fun u_ z => absurd z List.not_mem_nil) .refl .refl rfl)
  | cons e r ih =>
    intro σ K h hs A H R ca s Q E pos a I P
    rw [List.all_cons, Bool.and_eq_true] at hs
    refine wpAny_items_cons ?_ (starEach_cons fun x p z => by subst z; cases hs.1)
    refine S e σ _ h A env H R ca s _ E a I fun v own p σ1 H1 R1 ca1 s1 k I1 r1 o1 x1 q1 l1 => ?_
    refine ih σ1 _ k hs.2 A H1 R1 ca1 s1 _ E pos a I1 fun z σ2 H2 R2 ca2 s2 k2 hlen I2 hz hf x2 q2 l2 => ?_
    have h1 : Held W H1 ca1 R1 own v p := by
      induction own using Bool.casesOn with
      | false => exact r1 rfl
      | true => refine obEAA (o1 rfl) fun b e1 u_ e3 => ?_; exact (⟨b, e1, e3⟩ : ∃ a, v = .ref a ∧ R1 a = some (.cont .tmp p))
    refine P ((v, own, p) :: z) σ2 H2 R2 ca2 s2 k2 (by simp [hlen]) I2 ⟨fun e he => ?_, List.Pairwise.cons (fun f hf' e1 e2 e3 => ?_) hz.2⟩ (fun e he eo => ?_) (x1.trans x2) (q1.trans q2) (l2.trans l1)
    · rcases List.mem_cons.mp he with rfl | he
      · exact h1.mono x2.imm x2.ca fun u_ a u_ e => x2.tmp a _ e rfl
      · exact hz.1 e he
    · refine obEA (hf f hf' e2) fun b eb gb => ?_
      subst e1
      refine obEAA (o1 rfl) fun b1 eb1 u_ er => ?_
      have : b = b1 := by
        have e3 : v = f.1 := e3
        rw [eb1, eb] at e3; cases e3; rfl
      subst this
      exact I1.core.someR (by rw [er]; exact Option.some_ne_none _) gb
    · rcases List.mem_cons.mp he with rfl | he
      · refine obEAA (o1 eo) fun b e1 e2 u_ => ?_; exact ⟨b, e1, e2⟩
      · refine obEA (hf e he eo) fun b e1 e2 => ?_; exact ⟨b, e1, x1.live b e2⟩
noncomputable def StoreSpec (W : Wd) (T : Tb) (C : Oracle) (n : Nat) (env : Env) (sc : SC) (A : Around) (E : Value → Shared → Prop) (t : Expr) (f : Value → Sem Unit) : Prop :=
  ∀ own p v σ H R ca s K Q, vcStore T n sc t own p C σ K → Inv W env sc σ H R ca s → Held W H ca R own v p → StoreP W env sc H R ca s true own v K Q → wpAny W.M A (f v) Q E s
theorem snd_stores {n : Nat} : ∀ (ts : List Expr) (fs : List (Value → Sem Unit)), ts.length = fs.length → (∀ (i : Nat) (t : Expr) (f : Value → Sem Unit), ts[i]? = some t → fs[i]? = some f → StoreSpec W T C n env sc A E t f) → ∀ (z : List Z) (σ : St) (K : St → Prop), vcStores T n sc ts (z.map (·.2)) C σ K → ∀ (H : IH) (R : RM) (ca : List Addr) (s : Shared) (Q : Unit → Shared → Prop), Inv W env sc σ H R ca s → HeldAll W H ca R z →
    (∀ σ' H' R' ca' s', K σ' → Inv W env sc σ' H' R' ca' s' → (∀ H0 R0 h0 ca0, Ext H0 R0 h0 ca0 H R s.heap ca → (∀ e ∈ z, Fresh0 e.2.1 e.1 h0 R0) → Ext H0 R0 h0 ca0 H' R' s'.heap ca') → SEq s s' → Q () s') → wpAny W.M A (assignInOrder fs (z.map (·.1))) Q E s := by
  intro ts
  induction ts with
  | nil =>
    intro fs hl _ z σ K h H R ca s Q I hz P
    obtain rfl := List.length_eq_zero_iff.mp hl.symm
    induction z using List.casesOn with
    | nil => exact wpAny_pure (P σ H R ca s h I (fun u_ u_ u_ u_ x u_ => x) .refl)
    | cons => exact h.elim
  | cons t ts ih =>
    intro fs hl hf z σ K h H R ca s Q I hz P
    induction fs using List.casesOn with
    | nil => exact absurd hl (Nat.succ_ne_zero _)
    | cons f fs =>
    induction z using List.casesOn with
    | nil => exact h.elim
    | cons e z =>
    obtain ⟨v, own, p⟩ := e
    show wpAny W.M A (do holding (z.map (·.1)) (f v); assignInOrder fs (z.map (·.1))) Q E s
    refine wpAny_bind (wpAny_holding (hf 0 t f rfl rfl own p v σ H R ca s _ _ h I (hz.1 _ (.head _)) fun σ1 H1 R1 ca1 s1 k I1 b1 t1 hH hc q1 u_ => ?_))
    have hp := List.pairwise_cons.mp hz.2
    refine ih fs (Nat.succ.inj hl) (fun i t f e1 e2 => hf (i + 1) t f e1 e2) z σ1 K k H1 R1 ca1 s1 Q I1 ⟨fun e he => ?_, hp.2⟩ fun σ2 H2 R2 ca2 s2 k2 I2 b2 q2 => ?_
    · exact (hz.1 e (.tail _ he)).mono hH hc fun eo a ea er => t1 a _ er rfl fun ow z => hp.1 e he ow eo (z.trans ea.symm)
    · exact P σ2 H2 R2 ca2 s2 k2 I2 (fun H0 R0 h0 ca0 x fr => b2 H0 R0 h0 ca0 (b1 H0 R0 h0 ca0 x (fr _ (.head _))) fun e he => fr e (.tail _ he)) (q1.trans q2)
theorem assignEach_star : ∀ {ts : List Expr}, ts.all notStar = true → assignEach ts env = ts.map fun t => (false, assign t env)
  | [], _ => rfl
  | t :: ts, h => by
    rw [List.all_cons, Bool.and_eq_true] at h
    rw [List.map_cons, ← assignEach_star h.2]
    induction t using PySem.Expr.casesOn <;> first | rfl | cases h.1
theorem find_star : ∀ (ts : List Expr), (ts.map fun t => (false, assign t env)).findIdx? (·.1) = none
  | [] => rfl
  | t :: ts => by simp only [List.map_cons, List.findIdx?_cons, find_star ts]; rfl
theorem not_comp_swaps {e : Expr} (h : notComp e = true) (t : Option Expr) (l : Nat) : swapsWith e t l env = pure false := by
  induction e using PySem.Expr.casesOn <;> first | rfl | exact noft h
end
end
section
section
variable {W : Wd} {T : Tb} {H H' H'' : IH} {ca ca' ca'' : List Addr} {R R' R'' : RM} {env cenv : Env} {sc : SC} {σ : St} {s s' : Shared} {A : Around} {E : Value → Shared → Prop} {d : Nat} {h h' h'' : Heap}
variable {C : Oracle}
noncomputable def OutRel (W : Wd) (H : IH) (ca : List Addr) : Flow → Out → Prop
  | .next, .next => True
  | .ret v, .ret p => Rep W H ca v p
  | _, _ => False
noncomputable def PostS (W : Wd) (env : Env) (sc : SC) (H : IH) (R : RM) (ca : List Addr) (s : Shared) (K : Out → St → Prop) (Q : Flow → Shared → Prop) : Prop :=
  ∀ o f σ' H' R' ca' s', K o σ' → Inv W env sc σ' H' R' ca' s' → OutRel W H' ca' f o → Ext H R s.heap ca H' R' s'.heap ca' → SEq s s' → Q f s'
theorem PostS.after {K K' : Out → St → Prop} {Q : Flow → Shared → Prop} {H' : IH} {R' : RM} {ca' : List Addr} {s' : Shared} (P : PostS W env sc H R ca s K Q) (x : Ext H R s.heap ca H' R' s'.heap ca') (q : SEq s s') (k : ∀ o σ, K' o σ → K o σ) : PostS W env sc H' R' ca' s' K' Q :=
  fun o f σ'' H'' R'' ca'' s'' h I r x' q' => P o f σ'' H'' R'' ca'' s'' (k _ _ h) I r (x.trans x') (q.trans q')
theorem spec_assign (hT : TbOk W T) {n : Nat} (S : SndE W d (vcE T n sc C) sc) (am : Amb A d) (t : Expr) : StoreSpec W T C n env sc A E t (assign t env) :=
  fun u_ u_ u_ u_ u_ u_ u_ u_ u_ u_ h I hv P => snd_store1 hT S h am I hv (fun u_ u_ u_ => rfl) P
theorem spec_bind {n : Nat} {x : Str} {pos : Pos} : StoreSpec W T C n env sc A E (.Name x pos) (bindName env x) :=
  fun u_ u_ u_ σ H R ca s K Q h I hv P => snd_storeN h I hv P
theorem filterMap_all {α β : Type} {f : α → Option β} : ∀ {l : List α}, (l.filterMap f).length = l.length → ∀ (i : Nat) (a : α) (b : β), l[i]? = some a → (l.filterMap f)[i]? = some b → f a = some b
  | [], _, i, a, b, e, _ => by exact nosome e
  | x :: l, hl, i, a, b, e1, e2 => by
    cases q : f x with
    | none =>
      rw [List.filterMap_cons_none q] at hl
      have := List.length_filterMap_le f l
      simp at hl; omega
    | some y =>
      rw [List.filterMap_cons_some q] at hl e2
      cases i with
      | zero => (replace e1 := Option.some.inj e1; subst e1); (replace e2 := Option.some.inj e2; subst e2); exact q
      | succ i => exact filterMap_all (by simpa using hl) i a b e1 e2
theorem pure_ite {α : Type} {c : Prop} [Decidable c] {m : Sem α} {a b : α} (h : m = pure b) : (if c then pure a else m) = (pure (if c then a else b) : Sem α) := by
  by_cases q : c
  · rw [if_pos q, if_pos q]
  · rw [if_neg q, if_neg q]; exact h
set_option tactic.hygienic true in
theorem swapped_eq {fr : List (Str × Bind)} (F : FR W H ca R env sc fr) {ts es : List Expr} {k k' : Nat} {p p' : Pos} (h1 : es.all notStar = true) (h2 : (!es.all (constantsAlone 8)) = true) : swappedStores [.Tuple ts k p] (.Tuple es k' p') env = pure (swapNames sc ts es) := by
  have hb : env.blockKind = .function := by
    unfold Env.blockKind
    rw [F.kind]; rfl
  have hk : env.kindOf = fun x => sc.names.lookup x := funext fun x => by show env.scope.names.lookup x = _; rw [F.names]
  have hst : (es.any fun x => match x with | .Starred .. => true | _ => false) = false := by
    rw [List.any_eq_false]
    intro e he
    have := List.all_eq_true.mp h1 e he
    induction e using PySem.Expr.casesOn <;> first | exact Bool.false_ne_true | exact noft this
  have h2 : es.all (constantsAlone 8) = false := by simpa using h2
  unfold swappedStores swapNames
  rw [hb, hk]
  dsimp only
  have e1 : (ScopeKind.function != ScopeKind.function) = false := by decide
  rw [e1, Bool.or_false]
  refine pure_ite ?_
  refine (if_neg fun z => Bool.false_ne_true (hst.symm.trans z)).trans ?_
  refine pure_ite ?_
  refine pure_ite ?_
  exact (if_neg (by rw [h2]; exact Bool.false_ne_true)).trans rfl
theorem tuple_after {n : Nat} {es : List Expr} {k : Nat} {pos : Pos} {K : List (Bool × PV) → St → Prop} {Q : Value → Shared → Prop} (S : SndO W d (fun e => vcO T n sc e C) sc) (h : vcOs T n sc es C σ K) (hs : es.all notStar = true) (hl : es.length < 15) (a : Amb A d) (I : Inv W env sc σ H R ca s)
    (P : ∀ (z : List Z) t σ' H' R' ca' s', K (z.map (·.2)) σ' → z.length = es.length → Inv W env sc σ' H' R' ca' s' → HeldAll W H' ca' R' z → (∀ e ∈ z, e.2.1 = true → ∃ a, e.1 = .ref a ∧ s.heap.get? a = none) → s'.heap.IsTuple t (z.map (·.1)).toArray → Ext H R s.heap ca H' R' s'.heap ca' → SEq s s' → R' env.locals = R env.locals → Q (.ref t) s') :
    wpAny W.M A (eval (.Tuple es k pos) env) Q E s := by
  refine wpAny_Tuple_spliced (snd_os S es σ K h hs A H R ca s _ E pos a I fun z σ' H' R' ca' s' k hlen I' hz hf x q l => ⟨?_, ?_⟩)
  · rw [List.length_map, hlen, sizeLine_eq]; omega
  · have kp : ∀ b o, s'.heap.get? b = some o → (s'.heap.push { cls := .type "tuple", data := .seq (z.map (·.1)).toArray }).get? b = some o := fun b o e => Heap.get?_push_of_some _ e
    exact P z _ σ' H' R' ca' { s' with heap := _ } k hlen (I'.grow (s' := { s' with heap := _ }) kp) hz hf ⟨_, Heap.get?_push_size _ rfl, rfl, 0, rfl⟩ (x.trans (Ext.grow kp)) (q.trans ⟨rfl, rfl, rfl⟩) l
theorem kAssTT_none {n : Nat} {ts es : List Expr} {K : KtS} {l : List (Bool × PV)} (h : kAssTT T n sc ts es C K l σ) (e : swapNames sc ts es = none) : vcStores T n sc ts l C σ (K .next) := by
  unfold kAssTT at h; rw [e] at h; exact h
theorem kAssTT_some {n : Nat} {ts es : List Expr} {K : KtS} {l : List (Bool × PV)} {x : List Str} (h : kAssTT T n sc ts es C K l σ) (e : swapNames sc ts es = some x) : vcStores T n sc ts.reverse l.reverse C σ (K .next) := by
  unfold kAssTT at h; rw [e] at h; exact h
set_option tactic.hygienic true in
theorem snd_assign_tt (hT : TbOk W T) {n : Nat} (S : SndO W d (fun e => vcO T n sc e C) sc) {ts es : List Expr} {k k' : Nat} {p p' pos : Pos} {K : Out → St → Prop} {Q : Flow → Shared → Prop}
    (h : hAssTT T n sc ts es C σ K) (a : Amb A d) (I : Inv W env sc σ H R ca s) (P : PostS W env sc H R ca s K Q) : wpAny W.M A (exec (.Assign [.Tuple ts k p] (.Tuple es k' p') pos) env) Q E s := by
  obtain ⟨hq, h⟩ := req_iff.mp h
  simp only [Bool.and_eq_true] at hq
  (refine obAAAA hq fun h1 h2 h3 hle h4 => ?_; try clear hq)
  have hle : ts.length = es.length := by simpa using hle
  have h3 : es.length < 15 := Nat.le_of_ble_eq_true h3
  have hS : SndE W d (vcE T n sc C) sc := S.toE
  rw [exec_Assign_arm]
  refine wpAny_bind (wpAny_standAt ?_)
  have hs : swapsWithSole [.Tuple ts k p] (.Tuple es k' p') pos.line env = pure false := rfl
  rw [hs]
  refine wpAny_bind (wpAny_pure ?_)
  rw [if_neg (by decide), swapped_eq I.fr h1 h4]
  refine wpAny_bind (tuple_after S h h1 h3 a I fun z t σ1 H1 R1 ca1 s1 k1 hlen I1 hz hf ht x1 q1 l1 => ?_)
  refine wpAny_bind (wpAny_pure ?_)
  have fin : ∀ (fs : List (Value → Sem Unit)) (ts' : List Expr) (z' : List Z) (s2 : Shared), ts'.length = fs.length → (∀ (i : Nat) (t : Expr) (f : Value → Sem Unit), ts'[i]? = some t → fs[i]? = some f → StoreSpec W T C n env sc A E t f) → vcStores T n sc ts' (z'.map (·.2)) C σ1 (K .next) → HeldAll W H1 ca1 R1 z' → (∀ e ∈ z', e ∈ z) → (∀ b o, s1.heap.get? b = some o → s2.heap.get? b = some o) → SEq s1 s2 → wpAny W.M A (assignInOrder fs (z'.map (·.1))) (fun u_ => Q .next) E s2 := by
    intro fs ts' z' s2 hl hfs hst hz' hsub kp q2
    refine snd_stores ts' fs hl hfs z' σ1 _ hst H1 R1 ca1 s2 _ (I1.grow kp) hz' fun σ3 H3 R3 ca3 s3 k3 I3 b3 q3 => ?_
    refine P .next .next σ3 H3 R3 ca3 s3 k3 I3 trivial (b3 H R s.heap ca (x1.trans (Ext.grow kp)) fun e he eo a ea => ?_) ((q1.trans q2).trans q3)
    refine obEA (hf e (hsub e he) eo) fun b e1 e2 => ?_
    rw [ea] at e1; cases e1
    exact ⟨e2, I.core.freshR e2⟩
  cases hsw : swapNames sc ts es with
  | none =>
    have k1 := kAssTT_none k1 hsw
    unfold assignStores
    have ea : (assignEach [.Tuple ts k p] env).map (·.2) = [assign (.Tuple ts k p) env] := rfl
    rw [ea]
    show wpAny W.M A (do assign (.Tuple ts k p) env (.ref t); pure .next) Q E s1
    refine wpAny_bind ?_
    have hts : ts.length = z.length := hle.trans hlen.symm
    refine wpAny_assign_Tuple a.handled ht (by rw [assignEach_star h2]; simpa using hts) (by rw [assignEach_star h2]; exact find_star ts) fun h' hx => ?_
    have ez : ((assignEach ts env).map (·.2)) = ts.map fun t => assign t env := by rw [assignEach_star h2, List.map_map]; rfl
    rw [ez]
    have el : (z.map (·.1)).toArray.toList = z.map (·.1) := by simp
    rw [el]
    refine wpAny_mono (fin (ts.map fun t => assign t env) ts z { s1 with heap := h' } (by simp) (fun i t f e1 e2 => ?_) k1 hz (fun e he => he) (fun b o e => hx b o (Nat.ne_of_lt (Heap.lt_size e)) e) ⟨rfl, rfl, rfl⟩) (fun u_ s' q => wpAny_pure q) fun u_ u_ x => x
    rw [List.getElem?_map, e1] at e2
    (replace e2 := Option.some.inj e2; subst e2)
    exact spec_assign hT hS a t
  | some names =>
    have k1 := kAssTT_some k1 hsw
    unfold assignStores
    have hsw' := hsw
    unfold swapNames at hsw'
    split at hsw'
    · exact nosome hsw'
    · rename_i hc1
      dsimp only at hsw'
      split at hsw'
      · exact nosome hsw'
      · rename_i hc2
        split at hsw'
        · exact nosome hsw'
        · have hnm := (Option.some.inj hsw').symm
          clear hsw'
          simp only [Bool.or_eq_true, bne_iff_ne, ne_eq, not_or, Decidable.not_not] at hc1 hc2
          have hn := hc2.1
          have hnl : names.length = ts.length := (congrArg List.length hnm).trans hn
          have hlen2 : z.length = ts.length := by rw [hlen]; exact hc1.2
          show wpAny W.M A (do rule "assign.swapped-stores"; let items ← unpackItems (.ref t) names.length none; assignInOrder (names.reverse.map fun n => bindName env n) items.reverse; pure .next) Q E s1
          refine wpAny_bind (wpAny_rule ?_)
          have hsz : (z.map (·.1)).toArray.size = names.length := by rw [hnl]; simp [hlen2]
          rw [← hsz]
          refine wpAny_bind (wpAny_unpackItems_tuple a.handled ht fun h' hx => ?_)
          have el : (z.map (·.1)).toArray.toList.reverse = z.reverse.map (·.1) := by simp
          rw [el]
          refine wpAny_bind (wpAny_mono (fin _ ts.reverse z.reverse { s1 with heap := h' } (by simp [hnl]) (fun i t f e1 e2 => ?_) (by simpa using k1) ⟨fun e he => hz.1 e (List.mem_reverse.mp he), ?_⟩ (fun e he => List.mem_reverse.mp he) (fun b o e => hx b o (Nat.ne_of_lt (Heap.lt_size e)) e) ⟨rfl, rfl, rfl⟩) (fun u_ s' q => wpAny_pure q) fun u_ u_ x => x)
          · rw [List.getElem?_map] at e2
            (refine obEA (Option.map_eq_some_iff.mp e2) ?_; rintro nm e3 rfl)
            have hi : i < ts.length := by
              rcases Nat.lt_or_ge i ts.reverse.length with q | q
              · simpa using q
              · rw [List.getElem?_eq_none q] at e1; exact nosome e1
            rw [List.getElem?_reverse hi] at e1
            rw [List.getElem?_reverse (by rw [hnl]; exact hi), hnl, hnm] at e3
            have := filterMap_all hn _ _ _ e1 e3
            split at this
            · split at this
              · (replace this := Option.some.inj this; subst this); exact spec_bind
              · exact nosome this
            · exact nosome this
          · rw [List.pairwise_reverse]
            exact hz.2.imp fun {e f} q e1 e2 e3 => q e2 e1 e3.symm
end
end
section
section
variable {W : Wd} {T : Tb} {H H' H'' : IH} {ca ca' ca'' : List Addr} {R R' R'' : RM} {env cenv : Env} {sc : SC} {σ : St} {s s' : Shared} {A : Around} {E : Value → Shared → Prop} {d : Nat} {h h' h'' : Heap}
variable {C : Oracle}
theorem reps_z {vs : List Value} {ps : List PV} (r : Reps W H ca vs ps) (R : RM) : ∃ z : List Z, z.map (·.1) = vs ∧ z.map (·.2) = ps.map (fun p => (false, p)) ∧ HeldAll W H ca R z := by
  induction ps generalizing vs with
  | nil => cases r; exact ⟨[], rfl, rfl, fun u_ z => absurd z List.not_mem_nil, .nil⟩
  | cons p ps ih =>
    cases r with
    | @cons v _ vs _ a r =>
      refine obEAAA (ih r) fun z e1 e2 h1 h2 => ?_
      refine ⟨(v, false, p) :: z, by simp [e1], by simp [e2], fun e he => ?_, List.Pairwise.cons (fun f u_ e1 => nomatch e1) h2⟩
      rcases List.mem_cons.mp he with rfl | he
      · exact a
      · exact h1 e he
theorem kAssT_inv {n : Nat} {ts : List Expr} {K : KtS} {p : PV} (h : kAssT T n sc ts C K p σ) : ∃ ps, p = .tup ps ∧ ts.length = ps.length ∧ vcStores T n sc ts (ps.map fun p => (false, p)) C σ (K .next) := by
  induction p using PV.casesOn with
  | tup ps => obtain ⟨a, h⟩ := req_iff.mp h; exact ⟨ps, rfl, of_decide_eq_true a, h⟩
  | _ => exact False.elim h
theorem snd_assign_t (hT : TbOk W T) {n : Nat} (S : SndE W d (vcE T n sc C) sc) {ts : List Expr} {e : Expr} {k : Nat} {p pos : Pos} {K : Out → St → Prop} {Q : Flow → Shared → Prop} (hne : ∀ es k' p', e ≠ .Tuple es k' p')
    (h : req (ts.all notStar) (vcE T n sc C e σ (kAssT T n sc ts C K))) (a : Amb A d) (I : Inv W env sc σ H R ca s) (P : PostS W env sc H R ca s K Q) : wpAny W.M A (exec (.Assign [.Tuple ts k p] e pos) env) Q E s := by
  obtain ⟨h2, h⟩ := req_iff.mp h
  refine wpAny_Assign_stores (S e σ _ h A env H R ca s _ E a I fun v q σ1 H1 R1 ca1 s1 k1 I1 r1 x1 q1 l1 => ?_) (by induction e using PySem.Expr.casesOn <;> rfl) (by induction e using PySem.Expr.casesOn <;> first | rfl | exact absurd rfl (hne _ _ _))
  show wpAny W.M A (assign (.Tuple ts k p) env v) (fun u_ => Q .next) E s1
  (refine obEAA (kAssT_inv k1) ?_; rintro ps rfl hl k1)
  (refine obEEEAA r1.inv ?_; rintro t vs m rfl e1 r)
  have g := I1.core.le _ _ e1
  refine obEAA (reps_z r R1) fun z z1 z2 hz => ?_
  refine wpAny_assign_Tuple a.handled (items := vs.toArray) (isTup_of g) (by rw [assignEach_star h2]; simp [hl, r.length]) (by rw [assignEach_star h2]; exact find_star ts) fun h' hx => ?_
  have ez : ((assignEach ts env).map (·.2)) = ts.map fun t => assign t env := by rw [assignEach_star h2, List.map_map]; rfl
  have el : vs.toArray.toList = z.map (·.1) := by rw [z1]
  rw [ez, el]
  have kp : ∀ b o, s1.heap.get? b = some o → h'.get? b = some o := fun b o e => hx b o (Nat.ne_of_lt (Heap.lt_size e)) e
  rw [← z2] at k1
  refine snd_stores ts _ (by simp) (fun i t f e1 e2 => ?_) z σ1 _ k1 H1 R1 ca1 { s1 with heap := h' } _ (I1.grow (s' := { s1 with heap := h' }) kp) hz fun σ3 H3 R3 ca3 s3 k3 I3 b3 q3 => ?_
  · rw [List.getElem?_map, e1] at e2
    (replace e2 := Option.some.inj e2; subst e2)
    exact spec_assign hT S a t
  · refine P .next .next σ3 H3 R3 ca3 s3 k3 I3 trivial (b3 H R s.heap ca (x1.trans (Ext.grow kp)) fun e he eo => ?_) (q1.trans (SEq.trans (s' := { s1 with heap := h' }) ⟨rfl, rfl, rfl⟩ q3))
    have : e.2 ∈ z.map (·.2) := List.mem_map_of_mem he
    rw [z2] at this
    refine obEA (List.mem_map.mp this) fun q u_ e5 => ?_
    rw [← e5] at eo; exact noft eo
theorem plain_side {t e : Expr} (hp : plainT t = true) : swappedStores [t] e env = pure none ∧ [t].all notStar = true := by
  induction t using PySem.Expr.casesOn with
  | Name _ _ => exact ⟨rfl, rfl⟩
  | Attribute _ _ _ => exact ⟨rfl, rfl⟩
  | Subscript _ _ _ => exact ⟨rfl, rfl⟩
  | _ => exact absurd hp Bool.false_ne_true
section
variable {n : Nat} {t e : Expr} {pos : Pos} {K : Out → St → Prop} {Q : Flow → Shared → Prop}
theorem ass_usual (hT : TbOk W T) (S0 : SndO W d (fun e => vcO T n sc e C) sc) (hp : plainT t = true) (h : vcO T n sc e C σ (kAss1 T n sc t C K)) (a : Amb A d) (I : Inv W env sc σ H R ca s) (P : PostS W env sc H R ca s K Q) (hs : swapsWithSole [t] e pos.line env = pure false) : wpAny W.M A (exec (.Assign [t] e pos) env) Q E s := by
  refine wpAny_Assign_stores (S0 e σ _ h A env H R ca s _ E a I fun v own p σ1 H1 R1 ca1 s1 k1 I1 r1 o1 x1 q1 l1 => ?_) hs (plain_side hp).1
  rw [assignEach_star (plain_side (env := env) (e := e) hp).2]
  show wpAny W.M A (assign t env v) (fun u_ => Q .next) E s1
  have hv : Held W H1 ca1 R1 own v p := by
    induction own using Bool.casesOn with
    | false => exact r1 rfl
    | true => refine obEAA (o1 rfl) fun b e1 u_ e3 => ?_; exact (⟨b, e1, e3⟩ : ∃ a, v = .ref a ∧ R1 a = some (.cont .tmp p))
  refine snd_store1 (nm := true) hT S0.toE k1 a I1 hv (fun u_ u_ u_ => rfl) fun σ2 H2 R2 ca2 s2 k2 I2 b2 u_ u_ u_ q2 u_ => P .next .next σ2 H2 R2 ca2 s2 k2 I2 trivial (b2 H R s.heap ca x1 fun eo a' ea => ?_) (q1.trans q2)
  refine obEAA (o1 eo) fun b e1 e2 u_ => ?_
  rw [ea] at e1; cases e1
  exact ⟨e2, I.core.freshR e2⟩
theorem ass_used {x : Str} {px : Pos} (hs : swapsWith e (some (.Name x px)) pos.line env = pure true) (hw : wpAny W.M A (evalThenUse e env (assign (.Name x px) env)) (fun u_ => Q .next) E s) : wpAny W.M A (exec (.Assign [.Name x px] e pos) env) Q E s := by
  rw [exec_Assign_Name_used _ _ _ _ hs]
  exact wpAny_bind (wpAny_standAt (wpAny_bind (wpAny_mono hw (fun u_ s' q => wpAny_pure q) fun u_ u_ x => x)))
theorem ass_compP {x : Str} {px : Pos} (P : PostS W env sc H R ca s K Q) : CompP W env sc H R ca s A E (some (assign (.Name x px) env)) (kAss1 T n sc (.Name x px) C K false) (fun u_ => Q .next) := by
  have e1 : kAss1 T n sc (.Name x px) C K false = fun p σ => vcStoreName sc x false p σ (K .next) := funext fun p => funext fun σ => by
    show (match isCell sc x with
      | true => vcStoreName sc x false p σ _
      | false => vcStoreName sc x false p σ _) = _
    cases isCell sc x <;> rfl
  rw [e1]
  exact compP_store (K := K .next) (Q := fun u_ => Q .next) fun σ' H' R' ca' s' k I' x q => P .next .next σ' H' R' ca' s' k I' trivial x q
theorem ass_comp (hT : TbOk W T) (S0 : SndO W d (fun e => vcO T n sc e C) sc) (S1 : n = 0 ∨ ∃ m, n = m + 1 ∧ ∀ sc, SndE W d (vcE T m sc C) sc) {x : Str} {px : Pos} (h : vcO T n sc e C σ (kAss1 T n sc (.Name x px) C K)) (a : Amb A d) (I : Inv W env sc σ H R ca s) (P : PostS W env sc H R ca s K Q) (he : (∃ elt gens scope p, e = .ListComp elt gens scope p) ∨ ∃ key val gens scope p, e = .DictComp key val gens scope p) : wpAny W.M A (exec (.Assign [.Name x px] e pos) env) Q E s := by
  have hb : ∃ b : Bool, swapsWith e (some (.Name x px)) pos.line env = pure b := by
    rcases he with ⟨_, _, _, _, rfl⟩ | ⟨_, _, _, _, _, rfl⟩ <;> exact ⟨_, rfl⟩
  obtain ⟨b, hb⟩ := hb
  induction b using Bool.casesOn with
  | false => exact ass_usual hT S0 rfl h a I P hb
  | true =>
    rcases S1 with rfl | ⟨m, rfl, S1⟩
    · exact False.elim h
    · rcases he with ⟨elt, gens, scope, p, rfl⟩ | ⟨key, val, gens, scope, p, rfl⟩
      · exact ass_used hb (wpAny_bind (wpAny_mono (snd_listcomp S1 (nostar_vcO m) (noset_vcO m) h a I (ass_compP P)) (fun u_ s' q => wpAny_pure q) fun u_ u_ x => x))
      · exact ass_used hb (wpAny_bind (wpAny_mono (snd_dictcomp S1 (nostar_vcO m) (noset_vcO m) h a I (ass_compP P)) (fun u_ s' q => wpAny_pure q) fun u_ u_ x => x))
theorem comp_or (e : Expr) : (∀ t l, swapsWithSole [t] e l env = pure false) ∨ ((∃ elt gens scope p, e = .ListComp elt gens scope p) ∨ ∃ key val gens scope p, e = .DictComp key val gens scope p) ∨ ∃ elt gens scope p, e = .SetComp elt gens scope p := by
  induction e using PySem.Expr.casesOn with
  | ListComp elt gens scope p => exact .inr (.inl (.inl ⟨_, _, _, _, rfl⟩))
  | DictComp key val gens scope p => exact .inr (.inl (.inr ⟨_, _, _, _, _, rfl⟩))
  | SetComp elt gens scope p => exact .inr (.inr ⟨_, _, _, _, rfl⟩)
  | _ => exact .inl fun u_ u_ => rfl
theorem name_or {t : Expr} (hp : plainT t = true) (hc : (∃ elt gens scope p, e = .ListComp elt gens scope p) ∨ ∃ key val gens scope p, e = .DictComp key val gens scope p) : (∃ x px, t = .Name x px) ∨ ∀ l, swapsWithSole [t] e l env = pure false := by
  induction t using PySem.Expr.casesOn with
  | Name x px => exact .inl ⟨x, px, rfl⟩
  | Attribute _ _ _ => exact .inr fun l => by rcases hc with ⟨_, _, _, _, rfl⟩ | ⟨_, _, _, _, _, rfl⟩ <;> rfl
  | Subscript _ _ _ => exact .inr fun l => by rcases hc with ⟨_, _, _, _, rfl⟩ | ⟨_, _, _, _, _, rfl⟩ <;> rfl
  | _ => exact absurd hp Bool.false_ne_true
theorem snd_assign_1 (hT : TbOk W T) (S0 : SndO W d (fun e => vcO T n sc e C) sc) (S1 : n = 0 ∨ ∃ m, n = m + 1 ∧ ∀ sc, SndE W d (vcE T m sc C) sc)
    (h : req (plainT t) (vcO T n sc e C σ (kAss1 T n sc t C K))) (a : Amb A d) (I : Inv W env sc σ H R ca s) (P : PostS W env sc H R ca s K Q) : wpAny W.M A (exec (.Assign [t] e pos) env) Q E s := by
  obtain ⟨hp, h⟩ := req_iff.mp h
  rcases comp_or (env := env) e with hc | hc | ⟨_, _, _, _, rfl⟩
  · exact ass_usual hT S0 hp h a I P (hc _ _)
  · rcases name_or (env := env) hp hc with ⟨x, px, rfl⟩ | hn
    · exact ass_comp hT S0 S1 h a I P hc
    · exact ass_usual hT S0 hp h a I P (hn _)
  · cases n <;> exact False.elim h
end
end
end
section
section
variable {W : Wd} {T : Tb} {H H' H'' : IH} {ca ca' ca'' : List Addr} {R R' R'' : RM} {env cenv : Env} {sc : SC} {σ : St} {s s' : Shared} {A : Around} {E : Value → Shared → Prop} {d : Nat} {h h' h'' : Heap}
variable {C : Oracle}
noncomputable def SndSs (W : Wd) (d : Nat) (sc : SC) (vs : List Stmt → St → (Out → St → Prop) → Prop) : Prop :=
  ∀ l σ K, vs l σ K → ∀ A env H R ca s Q E, Amb A d → Inv W env sc σ H R ca s → PostS W env sc H R ca s K Q → wpAny W.M A (execs l env) Q E s
noncomputable def SndS (W : Wd) (d : Nat) (sc : SC) (vs : Stmt → St → (Out → St → Prop) → Prop) : Prop :=
  ∀ l σ K, vs l σ K → ∀ A env H R ca s Q E, Amb A d → Inv W env sc σ H R ca s → PostS W env sc H R ca s K Q → wpAny W.M A (exec l env) Q E s
theorem for_loop {body : List Stmt} {vb : List Stmt → Oracle → St → KtS → Prop} (S : SndSs W d sc fun l => vb l C) {tgt : Expr} {Ia : Addr} {H0 : IH} {ca0 : List Addr} {its : List PV} {own : List Addr} {St' : Nat → Heap → Prop} (it : It W Ia H0 ca0 its own tgt St') :
    ∀ (rest : List PV) (i : Nat) (σ : St) (K : Out → St → Prop), its.drop i = rest → i ≤ its.length → vcTurns (vcTarget sc tgt) (vb body) C rest σ K → ∀ (A : Around) (H : IH) (R : RM) (ca : List Addr) (s : Shared) (Rr : Result → Shared → Prop), Amb A d → Inv W env sc σ H R ca s → HLe H0 H → CLe ca0 ca → St' i s.heap → OwnIs R s.heap own →
      (∀ o f σ' H' R' ca' s', K o σ' → Inv W env sc σ' H' R' ca' s' → OutRel W H' ca' f o → ExtX own H R s.heap ca H' R' s'.heap ca' → SEq s s' → Rr (.ok f) s') → codeAny W.M A (.forLoop tgt (.ref Ia) body [] env) Rr s := by
  intro rest
  induction rest with
  | nil =>
    intro i σ K hr hi h A H R ca s Rr a I hle hcl st ho P
    have hi' : i = its.length := by
      have := congrArg List.length hr
      rw [List.length_drop, List.length_nil] at this; omega
    subst hi'
    refine codeAny_of_tree ?_
    show wpAny _ A ((forTurn tgt (.ref Ia) body [] env).onRaise (fun x => do noteFrame x env; theTreesLotGoes x)) _ _ s
    refine wpAny_noted ?_
    simp only [forTurn]
    refine wpAny_bind (wpAny_standAt (wpAny_bind (wpAny_onRaise (it_done it hle I st ho a.handled fun R2 s2 I2 x q u_ => wpAny_pure ⟨rfl, ?_⟩))))
    exact codeAny_block (wpAny_execs_nil (P .next .next σ H R2 ca s2 h I2 trivial x q))
  | cons p0 rest ih =>
    intro i σ K hr hi h A H R ca s Rr a I hle hcl st ho P
    have hp : its[i]? = some p0 := by
      have := congrArg (·[0]?) hr
      simpa using this
    have hr' : its.drop (i + 1) = rest := by
      have := congrArg List.tail hr
      simpa using this
    have hi' : i + 1 ≤ its.length := by
      rcases Nat.lt_or_ge i its.length with z | z
      · exact z
      · rw [List.getElem?_eq_none z] at hp; exact nosome hp
    refine codeAny_of_tree ?_
    show wpAny _ A ((forTurn tgt (.ref Ia) body [] env).onRaise (fun x => do noteFrame x env; theTreesLotGoes x)) _ _ s
    refine wpAny_noted ?_
    simp only [forTurn]
    refine wpAny_bind (wpAny_standAt (wpAny_bind (wpAny_onRaise (it_step it hle hcl I st ho hp a.handled fun v s1 cont => ?_))))
    refine wpAny_bind (cont _ _ fun H2 R2 s2 I2 st2 ho2 rv x2 q2 le2 => ?_)
    refine wpAny_bind (snd_target h a.handled I2 rv fun σ3 R3 s3 h3 I3 x3 q3 => ?_)
    obtain ⟨ho3, k3⟩ := ho2.keep I3.core (X := []) x3.toX fun b u_ z => nomatch z
    refine wpAny_bind (S body σ3 _ h3 A env H2 R3 ca s3 _ _ a I3 fun o f σ4 H4 R4 ca4 s4 h4 I4 r4 x4 q4 => ?_)
    obtain ⟨ho4, k4⟩ := ho3.keep I4.core (X := []) x4.toX fun b u_ z => nomatch z
    have le4 : HLe H0 H4 := (hle.trans le2).trans x4.imm
    have x14 : ExtX own H R s.heap ca H4 R4 s4.heap ca4 := (x2.trans x3.toX).trans x4.toX
    have q14 := (q2.trans q3).trans q4
    cases o with
    | next =>
      cases f with
      | next =>
        have st4 : St' (i + 1) s4.heap := it.frame _ s2.heap s4.heap st2 (fun a o e => I2.core.le a o ((hle.trans le2) a o e)) (fun a o e => I4.core.le a o (le4 a o e)) fun b hb o e => k4 b hb o (k3 b hb o e)
        refine wpAny_pure ⟨rfl, ?_⟩
        exact ih (i + 1) σ4 K hr' hi' h4 A H4 R4 ca4 s4 Rr a I4 le4 (hcl.trans x4.ca) st4 ho4 fun o f σ' H' R' ca' s' k I' r x q => P o f σ' H' R' ca' s' k I' r (x14.trans x) (q14.trans q)
      | _ => exact r4.elim
    | ret p =>
      cases f with
      | ret v => exact wpAny_pure (P (.ret p) (.ret v) σ4 H4 R4 ca4 s4 h4 I4 r4 x14 q14)
      | _ => exact r4.elim
theorem while_turn {t : Expr} {body : List Stmt} {Rr : Result → Shared → Prop}
    (h : wpAny W.M A (isTrue t env (eval t env)) (fun b s₂ => if b then wpAny W.M A (execs body env) (fun f s₃ => match f with
            | .next | .cont => codeAny W.M A (.whileLoop t body [] env) Rr s₃
            | .brk => Rr (.ok .next) s₃
            | .ret v => Rr (.ok (.ret v)) s₃) (notedBy W.M A env fun e s' => Rr (.error e) s') s₂
        else Rr (.ok .next) s₂) (notedBy W.M A env fun e s' => Rr (.error e) s') s) : codeAny W.M A (.whileLoop t body [] env) Rr s := by
  refine codeAny_of_tree ?_
  show wpAny _ A ((whileTurn t body [] env).onRaise (fun x => do noteFrame x env; theTreesLotGoes x)) _ _ s
  refine wpAny_noted ?_
  simp only [whileTurn]
  refine wpAny_bind (wpAny_mono h (fun b s₂ h₂ => ?_) fun u_ u_ h' => h')
  induction b using Bool.casesOn with
  | false =>
    simp only [Bool.false_eq_true, if_false] at h₂ ⊢
    exact wpAny_bind (wpAny_execs_nil (wpAny_pure h₂))
  | true =>
    simp only [if_true] at h₂ ⊢
    refine wpAny_bind (wpAny_mono h₂ (fun f s₃ h₃ => ?_) fun u_ u_ h' => h')
    cases f with
    | next => exact wpAny_pure ⟨rfl, h₃⟩
    | cont => exact wpAny_pure ⟨rfl, h₃⟩
    | brk => exact wpAny_pure h₃
    | ret v => exact wpAny_pure h₃
theorem hAug_inv {n : Nat} {x : Str} {e : Expr} {K : KtS} (h : hAug T n sc x e C σ K) : sc.names.lookup x = some .local ∧ ∃ i, fget σ.fr x = some ⟨.plain, .int i⟩ ∧ vcE T n sc C e σ (kAug sc x i K) := by
  obtain ⟨hl, h⟩ := req_iff.mp h
  refine ⟨of_decide_eq_true hl, ?_⟩
  cases hx : fget σ.fr x with
  | none => rw [hx] at h; exact False.elim h
  | some b =>
    obtain ⟨m, p⟩ := b
    rw [hx] at h
    induction m using Mode.casesOn with
    | plain => induction p using PV.casesOn with
      | int i => exact ⟨i, rfl, h⟩
      | _ => exact False.elim h
    | _ => exact False.elim h
theorem snd_aug {n : Nat} (S : SndE W d (vcE T n sc C) sc) {x : Str} {px pos : Pos} {e : Expr} {K : Out → St → Prop} {Q : Flow → Shared → Prop}
    (h : hAug T n sc x e C σ K) (a : Amb A d) (I : Inv W env sc σ H R ca s) (P : PostS W env sc H R ca s K Q) : wpAny W.M A (exec (.AugAssign (.Name x px) .Add e pos) env) Q E s := by
  refine obAEA (hAug_inv h) fun hl i hx h => ?_
  refine obEA I.fr.ns fun m em hall => ?_
  refine obEA (hall x _ hx hl) fun u hu B => ?_
  have B : Rep W H ca u (.int i) := B
  obtain ⟨t, rfl⟩ := B.inv
  have hk : env.kindOf x = some .local := by show env.scope.names.lookup x = _; rw [I.fr.names]; exact hl
  refine wpAny_AugAssign_Name (wpAny_loadName_local I.fr.kind hk (I.core.reg _ _ em) hu ?_)
  refine S e σ _ h A env H R ca s _ E a I fun v p σ1 H1 R1 ca1 s1 k1 I1 r1 x1 q1 l1 => ?_
  refine obEA (onSome_inv k1) fun j e1 k1 => ?_
  obtain rfl := asInt_inv e1
  obtain ⟨t1, rfl⟩ := r1.inv
  refine wpAny_iadd_int ?_
  have key : wpAny W.M A (bindName env x (.int (i + j) s1.toks)) (fun u_ => Q .next) E { s1 with toks := s1.toks + 1 } := snd_store_plain k1 I1.tok .int fun σ2 R2 s2 k2 I2 x2 q2 => P .next .next σ2 H1 R2 ca1 s2 k2 I2 trivial (x1.trans x2) (q1.trans (SEq.trans (s' := { s1 with toks := s1.toks + 1 }) ⟨rfl, rfl, rfl⟩ q2))
  exact fun Γ p hΓ => by rw [← Sem.wp_bindName]; exact key Γ p hΓ
end
end
section
section
variable {W : Wd} {T : Tb} {H H' H'' : IH} {ca ca' ca'' : List Addr} {R R' R'' : RM} {env cenv : Env} {sc : SC} {σ : St} {s s' : Shared} {A : Around} {E : Value → Shared → Prop} {d : Nat} {h h' h'' : Heap}
variable {C : Oracle}
theorem while_loop {t : Expr} {body : List Stmt} {n : Nat} (S : SndE W d (vcE T n sc C) sc) {vb : Oracle → St → KtS → Prop} (SB : ∀ (σ : St) (K : Out → St → Prop), vb C σ K → ∀ A env H R ca s Q E, Amb A d → Inv W env sc σ H R ca s → PostS W env sc H R ca s K Q → wpAny W.M A (execs body env) Q E s) : ∀ (k : Nat) (σ : St) (K : Out → St → Prop), vcWl (vcT n t) vb (vcE T n sc C) C k σ K →
    ∀ A H R ca s Rr, Amb A d → Inv W env sc σ H R ca s → (∀ o f σ' H' R' ca' s', K o σ' → Inv W env sc σ' H' R' ca' s' → OutRel W H' ca' f o → Ext H R s.heap ca H' R' s'.heap ca' → SEq s s' → Rr (.ok f) s') → codeAny W.M A (.whileLoop t body [] env) Rr s := by
  intro k
  induction k with
  | zero => intro σ K h; exact False.elim h
  | succ k ih =>
    intro σ K h A H R ca s Rr a I P
    refine while_turn (snd_t S n t σ _ h A H R ca s _ _ a I fun b σ1 H1 R1 ca1 s1 k1 I1 x1 q1 l1 => ?_)
    induction b using Bool.casesOn with
    | false => exact P .next .next σ1 H1 R1 ca1 s1 k1 I1 trivial x1 q1
    | true =>
      refine SB σ1 _ k1 A env H1 R1 ca1 s1 _ _ a I1 fun o f σ2 H2 R2 ca2 s2 k2 I2 r2 x2 q2 => ?_
      cases o with
      | next =>
        cases f with
        | next => exact ih σ2 K k2 A H2 R2 ca2 s2 Rr a I2 fun o f σ' H' R' ca' s' k' I' r x q => P o f σ' H' R' ca' s' k' I' r ((x1.trans x2).trans x) ((q1.trans q2).trans q)
        | _ => exact r2.elim
      | ret p =>
        cases f with
        | ret v => exact P (.ret p) (.ret v) σ2 H2 R2 ca2 s2 k2 I2 r2 (x1.trans x2) (q1.trans q2)
        | _ => exact r2.elim
theorem empty_of {α : Type} {l : List α} (h : l.isEmpty = true) : l = [] := by
  induction l using List.casesOn with
  | nil => rfl
  | cons _ _ => exact noft h
theorem add_of {op : Operator} (h : isAdd op = true) : op = .Add := by
  cases op <;> first | rfl | exact noft h
section
variable {n : Nat} {K : Out → St → Prop} {Q : Flow → Shared → Prop}
theorem not_tup {e : Expr} (h : isTupT e = false) (es : List Expr) (k : Nat) (p : Pos) : e ≠ .Tuple es k p := fun z => noft (h.symm.trans (congrArg isTupT z))
theorem ass_or (e : Expr) : (∃ es k p, e = .Tuple es k p) ∨ ∀ ts C σ K, hAssT T n sc ts e C σ K → (∀ es k p, e ≠ .Tuple es k p) ∧ req (ts.all notStar) (vcE T n sc C e σ (kAssT T n sc ts C K)) := by
  induction e using PySem.Expr.casesOn with
  | Tuple es k p => exact .inl ⟨es, k, p, rfl⟩
  | _ => exact .inr fun ts C σ K h => ⟨not_tup rfl, h⟩
theorem tgt_or (t : Expr) : (∃ ts k p, t = .Tuple ts k p) ∨ ∀ e C σ K, hAss T n sc t e C σ K → req (plainT t) (vcO T n sc e C σ (kAss1 T n sc t C K)) := by
  induction t using PySem.Expr.casesOn with
  | Tuple ts k p => exact .inl ⟨ts, k, p, rfl⟩
  | _ => exact .inr fun e C σ K h => h
theorem snd_ass (hT : TbOk W T) (S0 : SndO W d (fun e => vcO T n sc e C) sc) (S1 : n = 0 ∨ ∃ m, n = m + 1 ∧ ∀ sc, SndE W d (vcE T m sc C) sc) {t e : Expr} {pos : Pos} (h : hAss T n sc t e C σ K) (a : Amb A d) (I : Inv W env sc σ H R ca s) (P : PostS W env sc H R ca s K Q) : wpAny W.M A (exec (.Assign [t] e pos) env) Q E s := by
  rcases tgt_or (T := T) (n := n) (sc := sc) t with ⟨ts, k, p, rfl⟩ | ht
  · rcases ass_or (T := T) (n := n) (sc := sc) e with ⟨es, k', p', rfl⟩ | he
    · exact snd_assign_tt hT S0 h a I P
    · obtain ⟨hne, h⟩ := he _ _ _ _ h
      exact snd_assign_t hT S0.toE hne h a I P
  · exact snd_assign_1 hT S0 S1 (ht _ _ _ _ h) a I P
end
theorem snd_stmt {n : Nat} {K : KtS} {Q : Flow → Shared → Prop} {st : Stmt} (hT : TbOk W T) (SC' : SndC W d C) (ih : ∀ sc, SndSs W d sc fun l => vcSs T n sc l C) (h : vcSF T n (vcSs T n) sc st C σ K) (a : Amb A d) (I : Inv W env sc σ H R ca s) (P : PostS W env sc H R ca s K Q) : wpAny W.M A (exec st env) Q E s := by
  have S0 := snd_vcO hT SC' n sc
  have S : SndE W d (vcE T n sc C) sc := S0.toE
  induction st using PySem.Stmt.casesOn with
  | Assign ts e pos =>
    refine obEA (onSome_inv h) fun t e1 h => ?_
    obtain rfl := one_inv e1
    refine snd_ass hT S0 ?_ h a I P
    cases n with
    | zero => exact .inl rfl
    | succ m => exact .inr ⟨m, rfl, fun sc => (snd_vcO hT SC' m sc).toE⟩
  | AugAssign t op e pos =>
    obtain ⟨h0, h⟩ := req_iff.mp h
    obtain rfl := add_of h0
    refine obEA (onSome_inv h) fun x e1 h => ?_
    obtain rfl := nm_inv e1
    exact snd_aug S h a I P
  | Expr e pos =>
    obtain ⟨hc, h⟩ := req_iff.mp h
    refine wpAny_Expr_any (S e σ _ h A env H R ca s _ E a I fun v p σ1 H1 R1 ca1 s1 k1 I1 r1 x1 q1 l1 => P .next .next σ1 H1 R1 ca1 s1 k1 I1 trivial x1 q1) ?_ (not_comp_swaps hc _ _)
    unfold interactive
    rw [I.fr.kind]; rfl
  | Return e pos =>
    induction e using Option.casesOn with
    | some e => exact wpAny_Return_some (S e σ _ h A env H R ca s _ E a I fun v p σ1 H1 R1 ca1 s1 k1 I1 r1 x1 q1 l1 => P (.ret p) (.ret v) σ1 H1 R1 ca1 s1 k1 I1 r1 x1 q1)
    | none => exact wpAny_Return_none (P (.ret .none) (.ret .none) σ H R ca s h I .none .refl .refl)
  | If t x y pos =>
    refine wpAny_If (snd_t S n t σ _ h A H R ca s _ E a I fun b σ1 H1 R1 ca1 s1 k I1 x1 q1 l1 => ?_)
    induction b using Bool.casesOn with
    | true => exact ih sc x σ1 K k A env H1 R1 ca1 s1 Q E a I1 (P.after x1 q1 fun u_ u_ k => k)
    | false => exact ih sc y σ1 K k A env H1 R1 ca1 s1 Q E a I1 (P.after x1 q1 fun u_ u_ k => k)
  | For t e body els pos =>
    obtain ⟨h0, h⟩ := req_iff.mp h
    obtain rfl := empty_of h0
    refine wpAny_For (snd_iter S (nostar_vcO n sc) h a I fun its Ia own St' σ2 H2 R2 ca2 s2 k I2 it st own2 x2 q2 l2 => ?_) (iter_set (noset_vcO n sc) h)
    refine for_loop (vb := fun l => vcSs T n sc l) (ih sc) it its 0 σ2 K rfl (Nat.zero_le _) k A H2 R2 ca2 s2 _ a I2 HLe.refl CLe.refl st (fun b hb => (own2 b hb).2) fun o f σ' H' R' ca' s' k' I' r x q => ?_
    refine P o f σ' H' R' ca' s' k' I' r ?_ (q2.trans q)
    exact ((x2.toX.trans x).cut (Y := []) fun b hb => .inr ⟨(own2 b hb).1, I.core.freshR (own2 b hb).1⟩).toExt
  | While t body els pos =>
    obtain ⟨h0, h⟩ := req_iff.mp h
    obtain rfl := empty_of h0
    refine wpAny_While ?_
    exact while_loop S (ih sc body) T.turns σ K h A H R ca s _ a I fun o f σ' H' R' ca' s' k' I' r x q => P o f σ' H' R' ca' s' k' I' r x q
  | _ => exact False.elim h
theorem snd_stmts (hT : TbOk W T) (SC' : SndC W d C) : ∀ n sc, SndSs W d sc fun l => vcSs T n sc l C := by
  intro n
  induction n with
  | zero => intro sc l σ K h; exact False.elim h
  | succ n ih =>
    intro sc l σ K h A env H R ca s Q E a I P
    induction l using List.casesOn with
    | nil => exact wpAny_execs_nil (P .next .next σ H R ca s h I trivial .refl .refl)
    | cons st r =>
      have P1 : PostS W env sc H R ca s (kNext (vcSs T n sc r C) K) (fun f s' => match f with
          | .next => wpAny W.M A (execs r env) Q E s'
          | f => Q f s') := fun o f σ1 H1 R1 ca1 s1 k I1 r1 x1 q1 => by
        cases o with
        | next =>
          cases f with
          | next => exact ih sc r σ1 K k A env H1 R1 ca1 s1 Q E a I1 (P.after x1 q1 fun u_ u_ k => k)
          | _ => exact False.elim r1
        | ret p =>
          cases f with
          | ret v => exact P (.ret p) (.ret v) σ1 H1 R1 ca1 s1 k I1 r1 x1 q1
          | _ => exact False.elim r1
      exact wpAny_execs_cons (snd_stmt hT SC' ih h a I P1)
end
end
section
set_option tactic.hygienic true in
theorem zip_lookup {names : List Str} {vals : List Value} : names.length = vals.length → ∀ n ∈ names, ((names.zip vals).lookup n).isSome = true := by
  induction names generalizing vals with
  | nil => intro _ n h; cases h
  | cons m names ih =>
    intro hl n hn
    induction vals using List.casesOn with
    | nil => cases hl
    | cons v vals =>
      rw [List.zip_cons_cons, List.lookup_cons]
      split
      · rfl
      · rename_i q
        rcases List.mem_cons.mp hn with z | z
        · subst z; simp at q
        · exact ih (by simpa using hl) n z
theorem zip_filterMap {names : List Str} {vals : List Value} : names.Nodup → names.length = vals.length → (names.filterMap fun n => ((names.zip vals).lookup n).map (n, ·)) = names.zip vals := by
  have key : ∀ (names : List Str) (vals : List Value) (l : List (Str × Value)), (∀ n ∈ names, l.lookup n = (names.zip vals).lookup n) → names.Nodup → names.length = vals.length → (names.filterMap fun n => (l.lookup n).map (n, ·)) = names.zip vals := by
    intro names
    induction names with
    | nil => intro vals l _ _ _; rfl
    | cons m names ih =>
      intro vals l h hn hl
      induction vals using List.casesOn with
      | nil => cases hl
      | cons v vals =>
        rw [List.nodup_cons] at hn
        have e0 : l.lookup m = some v := by rw [h m (.head _), List.zip_cons_cons, List.lookup_cons]; simp
        rw [List.filterMap_cons, e0, List.zip_cons_cons]
        dsimp only [Option.map_some]
        rw [ih vals l (fun n hm => ?_) hn.2 (by simpa using hl)]
        rw [h n (.tail _ hm), List.zip_cons_cons, List.lookup_cons]
        have : (n == m) = false := by simp; exact fun e => hn.1 (e ▸ hm)
        rw [this]
  intro hn hl
  exact key names vals _ (fun u_ u_ => rfl) hn hl
section
variable {M : Model} {A : Around} {E : Value → Shared → Prop} {s : Shared}
theorem binds_go {fd : FuncData} {vals : List Value} {ds : Option (Array Value)} {Q : List (Str × Value) → Shared → Prop} (hp : posArgs fd.params = true) (hn : (fd.params.args.map (·.arg)).Nodup) (hl : fd.params.args.length = vals.length)
    (hd : ∀ (Q : Option (Array Value) → Shared → Prop), Q ds s → wpAny M A (seqItems? fd.defaults) Q E s) (h : Q ((fd.params.args.map (·.arg)).zip vals) s) : wpAny M A (bindArgs fd ⟨vals, []⟩) Q E s := by
  obtain ⟨fname, fq, ⟨po, ar, va, ko, kd, kw, df⟩, fb, fs, fg, fc, fdef, fkd, fdoc, fpm, fan, fcode, fct, fbl⟩ := fd
  simp only [posArgs, Bool.and_eq_true] at hp
  (refine obAAA hp fun h1 h2 h3 h4 => ?_; try clear hp)
  dsimp only at h1 h2 h3 h4 hn hl hd h
  have e1 := List.isEmpty_iff.mp h1
  have e3 := List.isEmpty_iff.mp h3
  have e2 := Option.isNone_iff_eq_none.mp h2
  have e4 := Option.isNone_iff_eq_none.mp h4
  subst e1 e2 e3 e4
  generalize hnm : ar.map (·.arg) = names at hn h
  have hl2 : names.length = vals.length := by rw [← hnm]; simpa using hl
  unfold bindArgs
  dsimp only
  have hn0 : List.map (fun x : Arg => x.arg) [] = [] := rfl
  rw [hn0, hnm]
  simp only [↓List.forIn_nil, ↓pure_bind, List.nil_append, List.append_nil]
  refine wpAny_bind (hd _ ?_)
  generalize ds.getD #[] = ds
  have hall : ∀ n ∈ names, (List.lookup n (names.zip vals)).isNone = false := fun n hm => by
    have := zip_lookup hl2 n hm
    cases q : List.lookup n (names.zip vals) with
    | none => rw [q] at this; exact noft this
    | some v => rfl
  have hmiss : ∀ k, (List.filter (fun n => (List.lookup n (names.zip vals)).isNone) (List.take k names)).isEmpty = true := fun k => by
    rw [List.isEmpty_iff, List.filter_eq_nil_iff]
    intro n hm
    rw [hall n (List.mem_of_mem_take hm)]; exact Bool.false_ne_true
  have hfor : ∀ (l : List (Str × Value)), (∀ e ∈ l, e.1 ∈ names) → (forIn l (names.zip vals) fun x __s => if (List.lookup x.fst __s).isNone = true then pure (ForInStep.yield (__s ++ [(x.fst, x.snd)])) else (pure (ForInStep.yield __s) : Sem (ForInStep (List (Str × Value))))) = pure (names.zip vals) := by
    intro l hm
    induction l with
    | nil => rfl
    | cons e l ih =>
      rw [List.forIn_cons, if_neg (by rw [hall _ (hm e (.head _))]; exact Bool.false_ne_true), pure_bind]
      exact ih fun e he => hm e (.tail _ he)
  rw [if_neg (by rw [decide_eq_false (by omega)]; exact Bool.false_ne_true), if_neg (by rw [hmiss]; exact Bool.false_ne_true), hfor _ (fun e he => by
    have := (List.of_mem_zip he).1
    exact List.mem_of_mem_drop this), pure_bind]
  rw [if_neg (by exact Bool.false_ne_true), zip_filterMap hn hl2]
  exact wpAny_pure h
theorem seq_none {Q : Option (Array Value) → Shared → Prop} (h : Q none s) : wpAny M A (seqItems? .none) Q E s := by
  unfold seqItems?
  exact wpAny_pure h
end
end
section
theorem bindL_not {k : Str → Option NameKind} {n : Str} : ∀ {r : List (Str × Value)} {m : Str → Option Value}, n ∉ r.map (·.1) → bindL k r m n = m n
  | [], m, _ => rfl
  | (y, v) :: r, m, h => by
    rw [List.map_cons, List.mem_cons, not_or] at h
    unfold bindL
    rw [bindL_not h.2]
    split
    · exact if_neg h.1
    · rfl
theorem bindL_in {k : Str → Option NameKind} {n : Str} {v : Value} : ∀ {r : List (Str × Value)} {m : Str → Option Value}, (r.map (·.1)).Nodup → (n, v) ∈ r → k n = some .local → bindL k r m n = some v
  | (y, u) :: r, m, hn, h, hk => by
    rw [List.map_cons, List.nodup_cons] at hn
    unfold bindL
    rcases List.mem_cons.mp h with e | h
    · cases e
      rw [bindL_not hn.1, if_pos hk]; exact if_pos rfl
    · exact bindL_in hn.2 h hk
theorem bindC_not {k : Str → Option NameKind} {n : Str} : ∀ {r : List (Str × Value)} {m : Str → Option Value}, n ∉ r.map (·.1) → bindC k r m n = m n
  | [], m, _ => rfl
  | (y, v) :: r, m, h => by
    rw [List.map_cons, List.mem_cons, not_or] at h
    unfold bindC
    rw [bindC_not h.2]
    split
    · rfl
    · exact if_neg h.1
theorem bindC_in {k : Str → Option NameKind} {n : Str} {v : Value} : ∀ {r : List (Str × Value)} {m : Str → Option Value}, (r.map (·.1)).Nodup → (n, v) ∈ r → k n ≠ some .local → bindC k r m n = some v
  | (y, u) :: r, m, hn, h, hk => by
    rw [List.map_cons, List.nodup_cons] at hn
    unfold bindC
    rcases List.mem_cons.mp h with e | h
    · cases e
      rw [bindC_not hn.1, if_neg hk]; exact if_pos rfl
    · exact bindC_in hn.2 h hk
noncomputable def cellR (cm : Str → Option Value) : List (Str × Addr) → Addr → Option MC
  | [], _ => none
  | (n, c) :: r, a => if a = c then some (.vcell n (cm n)) else cellR cm r a
theorem cellR_at {cm : Str → Option Value} {n : Str} {c : Addr} : ∀ {cs : List (Str × Addr)}, (cs.Pairwise fun x y => x.2 ≠ y.2) → (n, c) ∈ cs → cellR cm cs c = some (.vcell n (cm n))
  | (y, e) :: cs, hp, h => by
    obtain ⟨h1, h2⟩ := List.pairwise_cons.mp hp
    unfold cellR
    rcases List.mem_cons.mp h with z | h
    · cases z; rw [if_pos rfl]
    · rw [if_neg (fun z => h1 _ h z.symm)]; exact cellR_at h2 h
set_option tactic.hygienic true in
theorem cellR_some {cm : Str → Option Value} {a : Addr} {d : MC} : ∀ {cs : List (Str × Addr)}, cellR cm cs a = some d → ∃ n, (n, a) ∈ cs ∧ d = .vcell n (cm n)
  | [], h => nomatch h
  | (y, e) :: cs, h => by
    unfold cellR at h
    split at h
    · rename_i z; subst z; (replace h := Option.some.inj h; subst h); exact ⟨y, .head _, rfl⟩
    · refine obEA (cellR_some h) fun n h1 h2 => ?_; exact ⟨n, .tail _ h1, h2⟩
theorem cells_key : ∀ {names : List (Str × NameKind)} {acc : List (Str × Addr)} {k : Nat}, (names.map (·.1)).Nodup → (acc.map (·.1)).Nodup → (∀ x ∈ names.map (·.1), x ∉ acc.map (·.1)) → ((cellsFrom k names acc).map (·.1)).Nodup
  | [], acc, k, _, h, _ => h
  | (x, kd) :: names, acc, k, h1, h2, h3 => by
    rw [List.map_cons, List.nodup_cons] at h1
    unfold cellsFrom
    split
    · refine cells_key h1.2 ?_ fun y hy => ?_
      · rw [List.map_cons, List.nodup_cons]; exact ⟨h3 x (.head _), h2⟩
      · rw [List.map_cons, List.mem_cons, not_or]
        exact ⟨fun e => h1.1 (e ▸ hy), h3 y (.tail _ hy)⟩
    · exact cells_key h1.2 h2 fun y hy => h3 y (.tail _ hy)
set_option tactic.hygienic true in
theorem cells_in {x : Str} : ∀ {names : List (Str × NameKind)} {acc : List (Str × Addr)} {k : Nat}, (x, NameKind.cell) ∈ names ∨ x ∈ acc.map (·.1) → x ∈ (cellsFrom k names acc).map (·.1)
  | [], acc, k, h => h.elim (fun z => absurd z List.not_mem_nil) id
  | (y, kd) :: names, acc, k, h => by
    unfold cellsFrom
    split
    · rename_i hk
      refine cells_in ?_
      rcases h with h | h
      · rcases List.mem_cons.mp h with e | h
        · cases e; exact .inr (by simp)
        · exact .inl h
      · exact .inr (by rw [List.map_cons]; exact .tail _ h)
    · rename_i hk
      refine cells_in ?_
      rcases h with h | h
      · rcases List.mem_cons.mp h with e | h
        · cases e; exact absurd rfl hk
        · exact .inl h
      · exact .inr h
theorem lookup_of_mem {α : Type} {x : Str} {c : α} : ∀ {l : List (Str × α)}, (l.map (·.1)).Nodup → (x, c) ∈ l → l.lookup x = some c
  | (y, e) :: l, hn, h => by
    rw [List.map_cons, List.nodup_cons] at hn
    rw [List.lookup_cons]
    rcases List.mem_cons.mp h with z | h
    · cases z; simp
    · have : (x == y) = false := by
        simp
        exact fun e => hn.1 (e ▸ List.mem_map.mpr ⟨_, h, rfl⟩)
      rw [this]
      exact lookup_of_mem hn.2 h
theorem lookup_some_of {α : Type} {x : Str} {l : List (Str × α)} (h : x ∈ l.map (·.1)) (hn : (l.map (·.1)).Nodup) : ∃ c, l.lookup x = some c ∧ (x, c) ∈ l := by
  (refine obEA (List.mem_map.mp h) ?_; rintro e he rfl)
  exact ⟨e.2, lookup_of_mem hn he, he⟩
inductive BindAll (W : Wd) (H : IH) (ca : List Addr) (R : RM) (names : List (Str × NameKind)) : List (Str × Bind) → List (Str × Value) → Prop where
  | nil : BindAll W H ca R names [] []
  | cons {x : Str} {b : Bind} {v : Value} {fr : List (Str × Bind)} {bs : List (Str × Value)} : (b.m = .plain ∧ Rep W H ca v b.p ∧ (names.lookup x = some .local ∨ names.lookup x = some .cell)) ∨ (names.lookup x = some .local ∧ BindRel W H ca R x v b) → BindAll W H ca R names fr bs → BindAll W H ca R names ((x, b) :: fr) ((x, v) :: bs)
section
variable {W : Wd} {T : Tb} {H H' H'' : IH} {ca ca' ca'' : List Addr} {R R' R'' : RM} {env cenv : Env} {sc : SC} {σ : St} {s s' s₁ : Shared} {A : Around} {E : Value → Shared → Prop} {d : Nat} {h h' h'' : Heap}
theorem BindAll.keys {names : List (Str × NameKind)} {fr : List (Str × Bind)} {bs : List (Str × Value)} (x : BindAll W H ca R names fr bs) : fr.map (·.1) = bs.map (·.1) := by
  induction x with
  | nil => rfl
  | cons _ _ ih => simp [ih]
set_option tactic.hygienic true in
theorem BindAll.get {names : List (Str × NameKind)} {fr : List (Str × Bind)} {bs : List (Str × Value)} (x : BindAll W H ca R names fr bs) {y : Str} {b : Bind} (e : fget fr y = some b) : ∃ v, (y, v) ∈ bs ∧ ((b.m = .plain ∧ Rep W H ca v b.p ∧ (names.lookup y = some .local ∨ names.lookup y = some .cell)) ∨ (names.lookup y = some .local ∧ BindRel W H ca R y v b)) := by
  induction x with
  | nil => exact nosome e
  | @cons z b' v fr bs h _ ih =>
    unfold fget at e ih
    rw [List.lookup_cons] at e
    split at e
    · rename_i q
      have : y = z := by simpa using q
      subst this
      (replace e := Option.some.inj e; subst e)
      exact ⟨v, .head _, h⟩
    · refine obEA (ih e) fun v h1 h2 => ?_; exact ⟨v, .tail _ h1, h2⟩
set_option tactic.hygienic true in
theorem enter {scope : Scope} {binds : List (Str × Value)} {fr : List (Str × Bind)} {kp : List Addr} {cs : List PV} {lam : Bool} (B : W.Base H) (C : Core W H ca R s.heap) (G : GR W R ca cs) (hkp : ∀ b ∈ kp, ∀ c, R b = some c → c.loc = true)
    (hk : env.scope.kind = .function) (hes : env.scope = scope) (hg : env.globals = mainGlobals) (hbl : env.builtins = builtinsNs) (hl : lam = true → ∃ t ∈ W.tabs, env.code = .ref t.1 ∧ t.2.2 = env.qual ++ "<lambda>") (hcl : env.cells = cellsFrom (s.heap.objs.size + 1) scope.names [])
    (hnn : (scope.names.map (·.1)).Nodup) (hbn : (binds.map (·.1)).Nodup) (hb : BindAll W H ca (R.inner [] kp s.heap) scope.names fr binds) (hL : env.locals = s.heap.objs.size)
    (x : InCallC s env.locals (bindL env.kindOf binds fun u_ => none) env.cells (bindC env.kindOf binds fun u_ => none) s₁) :
    ∃ R1 m, Inv W env ⟨scope.names, lam⟩ ⟨fr, cs⟩ H R1 ca s₁ ∧ Ext H (R.inner [] kp s.heap) s.heap ca H R1 s₁.heap ca ∧ SEq s s₁ ∧ R1 env.locals = some (.ns m) ∧ ∀ n v, (n, v) ∈ binds → scope.names.lookup n = some .local → m n = some v := by
  obtain ⟨xi, xc, xa, xab⟩ := x
  obtain ⟨same, ns, keep, fresh⟩ := xi
  have hLn : s.heap.get? env.locals = none := Heap.get?_none_of_le fresh
  have hcn : ∀ n c, (n, c) ∈ env.cells → s.heap.get? c = none ∧ c ≠ env.locals := fun n c hm => by
    have := xab n c hm
    exact ⟨Heap.get?_none_of_le (Nat.le_of_lt (Nat.lt_of_le_of_lt fresh this)), Nat.ne_of_gt this⟩
  have hkn : (env.cells.map (·.1)).Nodup := by rw [hcl]; exact cells_key hnn (by simp) fun u_ u_ => by simp
  have C0 := C.inner (cl := []) (kp := kp)
  generalize hR0 : R.inner [] kp s.heap = R0 at hb C0
  generalize hm : bindL env.kindOf binds (fun u_ => none) = m at ns
  generalize hcm : bindC env.kindOf binds (fun u_ => none) = cm at xc
  let R1 : RM := fun a => if a = env.locals then some (.ns m) else match cellR cm env.cells a with | some c => some c | none => R0 a
  have r1L : R1 env.locals = some (.ns m) := if_pos rfl
  have r1c : ∀ n c, (n, c) ∈ env.cells → R1 c = some (.vcell n (cm n)) := fun n c hm => by
    show (if c = env.locals then _ else _) = _
    rw [if_neg (hcn n c hm).2, cellR_at xa hm]
  have r1o : ∀ b c, R0 b = some c → R1 b = some c := fun b c e => by
    have hlive := C0.someR (b := b) (by rw [e]; exact Option.some_ne_none _)
    show (if b = env.locals then _ else _) = _
    rw [if_neg (show b ≠ env.locals from fun z => hlive (z ▸ hLn))]
    cases q : cellR cm env.cells b with
    | none => exact e
    | some d => refine obEA (cellR_some q) fun n h1 u_ => ?_; exact absurd (hcn n b h1).1 hlive
  have r1i : ∀ b c, R1 b = some c → (b = env.locals ∧ c = .ns m) ∨ (∃ n, (n, b) ∈ env.cells ∧ c = .vcell n (cm n)) ∨ R0 b = some c := fun b c e => by
    have e : (if b = env.locals then some (.ns m) else match cellR cm env.cells b with | some c => some c | none => R0 b) = some c := e
    split at e
    · rename_i z; (replace e := Option.some.inj e; subst e); exact .inl ⟨z, rfl⟩
    · split at e
      · rename_i d q
        (replace e := Option.some.inj e; subst e)
        exact .inr (.inl (cellR_some q))
      · exact .inr (.inr e)
  have kof : ∀ y, env.kindOf y = scope.names.lookup y := fun y => by show env.scope.names.lookup y = _; rw [hes]
  refine ⟨R1, m, ⟨B, ⟨fun a o e => keep a o (C.le a o e), fun a c e => ?_, fun a c e => ?_⟩, ⟨hk, by rw [hes], hg, hbl, hl, ⟨m, r1L, fun y b q l => ?_⟩, fun y b q l => ?_, fun y l => ?_⟩, ⟨G.len, fun k a p e1 e2 => ?_, fun t ht => ?_⟩⟩, ⟨HLe.refl, CLe.refl, fun b o e u_ => keep b o e, fun b z => .inl z, fun b z => ?_, fun a c e u_ => r1o a c e, live_of keep⟩, ?_, r1L, fun n v hn hl => ?_⟩
  · rcases r1i a c e with ⟨rfl, _⟩ | ⟨n, h1, _⟩ | h1
    · exact C.freshH hLn
    · exact C.freshH (hcn n a h1).1
    · exact C0.hid a c h1
  · rcases r1i a c e with ⟨rfl, rfl⟩ | ⟨n, h1, rfl⟩ | h1
    · exact ns
    · exact xc n a (lookup_of_mem hkn h1)
    · exact (C0.reg a c h1).mono HLe.refl CLe.refl fun o g => keep a o g
  · (refine obEA (hb.get q) ?_; rintro v hv (⟨b1, b2, _⟩ | ⟨_, b2⟩))
    · refine ⟨v, ?_, ?_⟩
      · rw [← hm]; exact bindL_in hbn hv ((kof y).trans l)
      · unfold BindRel; rw [b1]; exact b2
    · exact ⟨v, by rw [← hm]; exact bindL_in hbn hv ((kof y).trans l), b2.at' fun a q e => r1o a _ e⟩
  · (refine obEA (hb.get q) ?_; rintro v hv (⟨b1, b2, b3⟩ | ⟨b1, _⟩))
    · have hc : scope.names.lookup y = some .cell := b3.resolve_left l
      refine obEA (lookup_some_of (by rw [hcl]; exact cells_in (.inl (mem_of_lookup hc))) hkn) fun c e1 e2 => ?_
      have hcmv : cm y = some v := by
        rw [← hcm]
        exact bindC_in hbn hv (by rw [kof, hc]; exact fun z => nomatch z)
      refine ⟨.inl hc, c, v, e1, b2, .inr (.inl ⟨b1, ?_⟩)⟩
      rw [r1c y c e2, hcmv]
    · exact absurd b1 l
  · refine obEA (lookup_some_of (by rw [hcl]; exact cells_in (.inl (mem_of_lookup l))) hkn) fun c e1 e2 => ?_
    exact .inl ⟨c, _, e1, r1c y c e2⟩
  · exact r1o _ _ (hR0 ▸ inner_far (G.cell k a p e1 e2) rfl)
  · exact r1o _ _ (hR0 ▸ inner_far (G.tabs t ht) rfl)
  · cases q : R1 b with
    | none => exact absurd q z
    | some c =>
      rcases r1i b c q with ⟨rfl, _⟩ | ⟨n, h1, _⟩ | h1
      · exact .inr hLn
      · exact .inr (hcn n b h1).1
      · exact .inl (by rw [h1]; exact Option.some_ne_none _)
  · (refine obEE same ?_; try clear same; rintro h1 tk rfl)
    exact ⟨rfl, rfl, rfl⟩
  · rw [← hm]; exact bindL_in hbn hn ((kof n).trans hl)
end
end
section
theorem nodupS_iff : ∀ {l : List Str}, nodupS l = true → l.Nodup
  | [], _ => .nil
  | x :: r, h => by
    unfold nodupS at h
    simp only [Bool.and_eq_true, Bool.not_eq_true', List.contains_eq_mem, decide_eq_false_iff_not] at h
    exact List.nodup_cons.mpr ⟨h.1, nodupS_iff h.2⟩
section
variable {W : Wd} {T : Tb} {H H' H'' : IH} {ca ca' ca'' : List Addr} {R R' R'' : RM} {env cenv : Env} {sc : SC} {σ : St} {s s' s₁ : Shared} {A : Around} {E : Value → Shared → Prop} {d : Nat} {h h' h'' : Heap}
variable {C : Oracle}
theorem bindPs_nil {ps : List PV} {fr : List (Str × Bind)} (h : bindPs [] ps = some fr) : ps = [] ∧ fr = [] := by
  induction ps using List.casesOn with
  | nil => exact ⟨rfl, (Option.some.inj h).symm⟩
  | cons => exact nosome h
theorem bindPs_cons {a : Arg} {as : List Arg} {ps : List PV} {fr : List (Str × Bind)} (h : bindPs (a :: as) ps = some fr) : ∃ p q fr', ps = p :: q ∧ bindPs as q = some fr' ∧ fr = (a.arg, ⟨.plain, p⟩) :: fr' := by
  induction ps using List.casesOn with
  | nil => exact nosome h
  | cons p q =>
    refine obEA (Option.map_eq_some_iff.mp (show (bindPs as q).map ((a.arg, ⟨.plain, p⟩) :: ·) = some fr from h)) fun fr' e e2 => ?_
    exact ⟨p, q, fr', rfl, e, e2.symm⟩
theorem bind_ps {names : List (Str × NameKind)} {R0 : RM} : ∀ {as : List Arg} {ps : List PV} {vs : List Value} {fr : List (Str × Bind)}, bindPs as ps = some fr → Reps W H ca vs ps → (∀ x ∈ as.map (·.arg), names.lookup x = some .local ∨ names.lookup x = some .cell) →
    as.length = vs.length ∧ BindAll W H ca R0 names fr ((as.map (·.arg)).zip vs) := by
  intro as
  induction as with
  | nil =>
    intro ps vs fr h r _
    obtain ⟨rfl, rfl⟩ := bindPs_nil h
    rw [r.inil]
    exact ⟨rfl, .nil⟩
  | cons a as ih =>
    intro ps vs fr h r hn
    (refine obEEEAA (bindPs_cons h) ?_; rintro p q fr' rfl e rfl)
    (refine obEEAA r.icons ?_; rintro v us rfl rv r)
    obtain ⟨h1, h2⟩ := ih e r fun x hx => hn x (.tail _ hx)
    exact ⟨congrArg (· + 1) h1, .cons (.inl ⟨rfl, rv, hn a.arg (.head _)⟩) h2⟩
theorem defs_go {v : Value} (KI : W.K.In s.heap) (hd : defsIn W.K v = true) : ∃ ds, ∀ (A : Around) (E : Value → Shared → Prop) (Q : Option (Array Value) → Shared → Prop), Q ds s → wpAny W.M A (seqItems? v) Q E s := by
  induction v using PySem.Value.casesOn with
  | none => exact ⟨none, fun A E Q q => seq_none q⟩
  | ref c =>
    replace hd : (match W.K.lookup c with | some ⟨_, _, .seq _ _, _⟩ => true | _ => false) = true := hd
    cases e : W.K.lookup c with
    | none => rw [e] at hd; exact noft hd
    | some o =>
      rw [e] at hd
      obtain ⟨cl, dd, da, sl⟩ := o
      induction da using PySem.Data.casesOn with
      | seq xs n => exact ⟨some xs, fun A E Q q => wpAny_seqItems (KI _ _ e) rfl q⟩
      | _ => exact noft hd
  | _ => exact noft hd
theorem code_go {cd : Value} {q : Str} (KI : W.K.In s.heap) (hd : codeIn W.K cd q = true) : s.heap.CodeRec cd q := by
  induction cd using PySem.Value.casesOn with
  | ref c =>
    replace hd : (match W.K.lookup c with | some ⟨_, _, .fields vs, _⟩ => (match vs[1]? with | some (Value.str x _) => x == q | _ => false) | _ => false) = true := hd
    cases e : W.K.lookup c with
    | none => rw [e] at hd; exact noft hd
    | some o =>
      rw [e] at hd
      obtain ⟨cl, dd, da, sl⟩ := o
      induction da using PySem.Data.casesOn with
      | fields vs =>
        cases ex : vs[1]? with
        | none => dsimp only at hd; rw [ex] at hd; exact noft hd
        | some u =>
          dsimp only at hd
          rw [ex] at hd
          induction u using PySem.Value.casesOn with
          | str x t => exact ⟨c, _, vs, t, rfl, KI _ _ e, rfl, by rw [ex, eq_of_beq (show (x == q) = true from hd)]⟩
          | _ => exact noft hd
      | _ => exact noft hd
  | _ => exact noft hd
theorem fn_enter {a : Addr} {fi : FnI} {vs : List Value} {fr : List (Str × Bind)} {kp : List Addr} {cs : List PV} {Rr : Result → Shared → Prop} (hF : FnOk W a fi) (B : W.Base H) (C0 : Core W H ca R s.heap) (G : GR W R ca cs) (hroom : A.depth < recursionLimit) (hkp : ∀ b ∈ kp, ∀ c, R b = some c → c.loc = true)
    (hl : fi.params.args.length = vs.length) (hb : BindAll W H ca (R.inner [] kp s.heap) fi.scope.names fr ((fi.params.args.map (·.arg)).zip vs))
    (h : ∀ env R1 m s₁, Inv W env ⟨fi.scope.names, fi.lam⟩ ⟨fr, cs⟩ H R1 ca s₁ → Ext H (R.inner [] kp s.heap) s.heap ca H R1 s₁.heap ca → SEq s s₁ → R1 env.locals = some (.ns m) → (∀ n v, (n, v) ∈ (fi.params.args.map (·.arg)).zip vs → fi.scope.names.lookup n = some .local → m n = some v) →
      ∀ E', wpAny W.M (A.deeper env) (execs fi.body env) (fun f s' => Rr (.ok (.ret (match f with | .ret v => v | _ => .none))) s') E' s₁) : codeAny W.M A (.call (.ref a) ⟨vs, []⟩) Rr s := by
  (refine obEEAAAAAAAAAAA hF fun o fd e1 e2 e3 e4 e5 e6 e7 e8 e9 e10 e11 e12 => ?_; try clear hF)
  obtain ⟨KI, TP⟩ := B s.heap C0.le
  unfold fnOk at e11
  simp only [Bool.and_eq_true, Bool.not_eq_true', decide_eq_true_eq, List.all_eq_true] at e11
  (refine obAAAAAA e11 fun p1 p2 p3 p4 p5 p6 p7 => ?_; try clear e11)
  obtain ⟨ds, hds⟩ := defs_go KI e10
  have hbn : (((fi.params.args.map (·.arg)).zip vs).map (·.1)).Nodup := by
    rw [List.map_fst_zip (by simp [hl])]; exact nodupS_iff p2
  refine codeAny_call_function hroom (KI _ _ e1) e2 (by rw [e5]; exact p4) (by rw [e5]; exact p5) e4 (code_go KI e9) (binds_go (by rw [e3]; exact p1) (by rw [e3]; exact nodupS_iff p2) (by rw [e3]; exact hl) (fun Q q => hds _ _ Q q) ?_)
  rw [e6, e5, e3]
  refine wpAny_newFunctionEnv_cells p3 (fun x hx => ?_) fun env he s' x => ?_
  · have hx1 : x.1 ∈ fi.params.args.map (·.arg) := (List.of_mem_zip (show (x.1, x.2) ∈ _ from hx)).1
    have := p7 _ hx1
    simp only [Bool.or_eq_true, decide_eq_true_eq] at this
    rcases this with z | z
    · exact .inl z
    · refine .inr ⟨z, ?_⟩
      refine obEA (lookup_some_of (cells_in (k := s.heap.objs.size + 1) (acc := []) (.inl (mem_of_lookup z))) (cells_key (nodupS_iff p6) (by simp) fun u_ u_ => by simp)) fun c q1 u_ => ?_
      rw [q1]; rfl
  · have hsc : env.scope = fi.scope := by rw [he]; rfl
    refine obEEAAAA (enter (lam := fi.lam) (fr := fr) (kp := kp) (env := env) B C0 G hkp (by rw [hsc]; exact p3) hsc (by rw [he]; exact e7) (by rw [he]; exact e8) (fun z => by
      refine obEAA (e12 z) fun t ht t1 t2 => ?_
      exact ⟨t, ht, by rw [he]; exact t1, by rw [he]; exact t2⟩) (by rw [he]; rfl) (nodupS_iff p6) hbn hb (by rw [he]; rfl) x) fun R1 m I1 X1 q1 r1 m1 => ?_
    refine ⟨TP.nolimit.keeps x.toInCall.keep, codeAny_func ?_⟩
    exact h env R1 m s' I1 X1 q1 r1 m1 _
end
end
section
section
variable {W : Wd} {T : Tb} {H H' H'' : IH} {ca ca' ca'' : List Addr} {R R' R'' : RM} {env cenv : Env} {sc : SC} {σ : St} {s s' s₁ : Shared} {A : Around} {E : Value → Shared → Prop} {d : Nat} {h h' h'' : Heap}
variable {C : Oracle}
noncomputable def InitOk (st : Stmt) : Prop := (∃ o x p e pos, st = .Assign [.Attribute o x p] e pos) ∨ ∃ e pos, st = .Expr e pos
theorem init_inv {st : Stmt} {r : List Stmt} (h : initBody (st :: r) = true) : initBody r = true ∧ InitOk st := by
  obtain ⟨h1, h2⟩ := Bool.and_eq_true_iff.mp h
  refine ⟨h2, ?_⟩
  induction st using PySem.Stmt.casesOn with
  | Assign ts e pos =>
    induction ts using List.casesOn with
    | nil => exact noft h1
    | cons t ts => induction ts using List.casesOn with
      | nil => induction t using PySem.Expr.casesOn with
        | Attribute o x p => exact .inl ⟨o, x, p, e, pos, rfl⟩
        | _ => exact noft h1
      | cons u us => induction t using PySem.Expr.casesOn <;> exact noft h1
  | Expr e pos => exact .inr ⟨e, pos, rfl⟩
  | _ => exact noft h1
theorem snd_init (hT : TbOk W T) (SC' : SndC W d C) : ∀ (l : List Stmt) (n : Nat) (σ : St) (K : KtS), initBody l = true → vcSs T n sc l C σ K → ∀ (A : Around) (H : IH) (R : RM) (ca : List Addr) (s : Shared) (Q : Flow → Shared → Prop) (E : Value → Shared → Prop), Amb A d → Inv W env sc σ H R ca s →
    (∀ o f σ' H' R' ca' s', K o σ' → Inv W env sc σ' H' R' ca' s' → OutRel W H' ca' f o → Ext H R s.heap ca H' R' s'.heap ca' → SEq s s' → R' env.locals = R env.locals → Q f s') → wpAny W.M A (execs l env) Q E s := by
  intro l
  induction l with
  | nil =>
    intro n σ K hi h A H R ca s Q E a I P
    cases n with
    | zero => exact False.elim h
    | succ n => exact wpAny_execs_nil (P .next .next σ H R ca s h I trivial .refl .refl rfl)
  | cons st r ih =>
    intro n σ K hi h A H R ca s Q E a I P
    cases n with
    | zero => exact False.elim h
    | succ n =>
      obtain ⟨hi2, hi1⟩ := init_inv hi
      have go : ∀ o f σ1 H1 R1 ca1 s1, kNext (vcSs T n sc r C) K o σ1 → Inv W env sc σ1 H1 R1 ca1 s1 → OutRel W H1 ca1 f o → Ext H R s.heap ca H1 R1 s1.heap ca1 → SEq s s1 → R1 env.locals = R env.locals → (match f with | .next => wpAny W.M A (execs r env) Q E s1 | f => Q f s1) := by
        intro o f σ1 H1 R1 ca1 s1 k I1 r1 x1 q1 l1
        cases o with
        | next =>
          cases f with
          | next => exact ih n σ1 K hi2 k A H1 R1 ca1 s1 Q E a I1 fun o f σ' H' R' ca' s' k' I' r' x q l => P o f σ' H' R' ca' s' k' I' r' (x1.trans x) (q1.trans q) (l.trans l1)
          | _ => exact False.elim r1
        | ret p =>
          cases f with
          | ret v => exact P (.ret p) (.ret v) σ1 H1 R1 ca1 s1 k I1 r1 x1 q1 l1
          | _ => exact False.elim r1
      have SO := snd_vcO hT SC' n sc
      have S : SndE W d (vcE T n sc C) sc := SO.toE
      refine wpAny_execs_cons ?_
      rcases hi1 with ⟨o, x, pa, e, pos, rfl⟩ | ⟨e, pos, rfl⟩
      · have h : req true (vcO T n sc e C σ (kAss1 T n sc (.Attribute o x pa) C (kNext (vcSs T n sc r C) K))) := h
        refine wpAny_Assign_stores (SO e σ _ h A env H R ca s _ E a I fun v own p σ1 H1 R1 ca1 s1 k1 I1 r1 o1 x1 q1 l1 => ?_) (by induction e using PySem.Expr.casesOn <;> rfl) rfl
        show wpAny W.M A (assign (.Attribute o x pa) env v) _ E s1
        have hv : Held W H1 ca1 R1 own v p := by
          induction own using Bool.casesOn with
          | false => exact r1 rfl
          | true => refine obEAA (o1 rfl) fun b e1 u_ e3 => ?_; exact (⟨b, e1, e3⟩ : ∃ a, v = .ref a ∧ R1 a = some (.cont .tmp p))
        refine snd_store1 (nm := false) hT S k1 a I1 hv (fun u_ u_ z => nomatch z) fun σ2 H2 R2 ca2 s2 k2 I2 b2 u_ u_ u_ q2 l2 => go .next .next σ2 H2 R2 ca2 s2 k2 I2 trivial (b2 H R s.heap ca x1 fun eo a' ea => ?_) (q1.trans q2) ((l2 rfl).trans l1)
        refine obEAA (o1 eo) fun b e1 e2 u_ => ?_
        rw [ea] at e1; cases e1
        exact ⟨e2, I.core.freshR e2⟩
      · have h : req (notComp e) (vcE T n sc C e σ (kExpr (kNext (vcSs T n sc r C) K))) := h
        obtain ⟨hc, h⟩ := req_iff.mp h
        refine wpAny_Expr_any (S e σ _ h A env H R ca s _ E a I fun v p σ1 H1 R1 ca1 s1 k1 I1 r1 x1 q1 l1 => go .next .next σ1 H1 R1 ca1 s1 k1 I1 trivial x1 q1 l1) ?_ (not_comp_swaps hc _ _)
        unfold interactive
        rw [I.fr.kind]; rfl
theorem amb_deep (a : Amb A (d + 1)) (env : Env) : Amb (A.deeper env) d := ⟨a.handled, by have := a.depth; show A.depth + 1 + 2 * d + 4 < _; omega, by have := a.units; show A.units + 3 + 10 * d + 200 < _; omega⟩
theorem amb_make (a : Amb A (d + 1)) (env : Env) (C : Addr) (vs : List Value) : Amb ((A.under (.builtin "type.__call__" ⟨.ref C :: vs, []⟩)).deeper env) d :=
  ⟨a.handled, by
    have := a.depth
    show (A.under (.builtin "type.__call__" ⟨.ref C :: vs, []⟩)).depth + 1 + 2 * d + 4 < _
    rw [depth_under_make]; omega, by
    have := a.units
    show (A.under (.builtin "type.__call__" ⟨.ref C :: vs, []⟩)).units + 3 + 10 * d + 200 < _
    rw [units_under_make]; omega⟩
theorem cext_back {kp : List Addr} {cs : List PV} (C0 : Core W H ca R h) (hkp : ∀ b ∈ kp, ∀ c, R b = some c → c.loc = true) (C1 : Core W H' ca' R' h') (G1 : GR W R' ca' cs) (x : Ext H (R.inner [] kp h) h ca H' R' h' ca') (hk : ∀ b ∈ kp, R' b = none) :
    Core W H' ca' (R.outer R' kp) h' ∧ GR W (R.outer R' kp) ca' cs ∧ ExtX kp H R h ca H' (R.outer R' kp) h' ca' ∧ (∀ b c, R b = some c → c.loc = true → b ∉ kp → (R.outer R' kp) b = some c) ∧ (∀ b o, b ∉ kp → h.get? b = some o → (∀ c, R b = some c → c.loc = true) → h'.get? b = some o) := by
  refine obAAAA (outer_back (Z := kp) C0 C1 x.toX (fun b hb => hb) (fun b hb => .inl hb) fun b hb c e => by rw [hk b hb] at e; exact nosome e) fun b1 b2 b3 b4 b5 => ?_
  exact ⟨b1, ⟨G1.len, fun i b p e1 e2 => b4 _ _ (G1.cell i b p e1 e2) rfl, fun t ht => b4 _ _ (G1.tabs t ht) rfl⟩, b2, b3, b5⟩
theorem runFn_inv {N : Nat} {fi : FnI} {args : List PV} {cs : List PV} {K : PV → List PV → Prop} (h : runFn T N fi args C cs K) : ∃ fr, bindPs fi.params.args args = some fr ∧ vcSs T N ⟨fi.scope.names, fi.lam⟩ fi.body C ⟨fr, cs⟩ (kEnd K) := by
  unfold runFn at h
  cases e : bindPs fi.params.args args with
  | none => rw [e] at h; exact False.elim h
  | some fr => rw [e] at h; exact ⟨fr, rfl, h⟩
theorem snd_fn (hT : TbOk W T) {N : Nat} (SC' : SndC W d C) {a : Addr} {fi : FnI} {args : List PV} {cs : List PV} {K : PV → List PV → Prop} {vs : List Value} {Q : Value → Shared → Prop} (hF : FnOk W a fi) (hh : runFn T N fi args C cs K) (am : Amb A (d + 1)) (B : W.Base H) (C0 : Core W H ca R s.heap) (G : GR W R ca cs) (rs : Reps W H ca vs args)
    (P : ∀ v p cs' H' R' ca' s', K p cs' → W.Base H' → Core W H' ca' R' s'.heap → GR W R' ca' cs' → Rep W H' ca' v p → CExt H R s.heap ca H' R' s'.heap ca' → SEq s s' → Q v s') : wpAny W.M A (call (.ref a) vs) Q E s := by
  have hok : fnOk fi = true := by (refine obEEAAAAAAAAAAA hF fun u_ u_ u_ u_ u_ u_ u_ u_ u_ u_ u_ u_ z u_ => ?_; try clear hF); exact z
  have hpl : ∀ x ∈ fi.params.args.map (·.arg), fi.scope.names.lookup x = some .local ∨ fi.scope.names.lookup x = some .cell := by
    unfold fnOk at hok
    simp only [Bool.and_eq_true, Bool.or_eq_true, decide_eq_true_eq, List.all_eq_true] at hok
    exact hok.2.2.2.2.2.2
  refine obEA (runFn_inv hh) fun fr hfr hh => ?_
  obtain ⟨hl, hb⟩ := bind_ps (R0 := R.inner [] [] s.heap) hfr rs hpl
  refine wpAny_call (fn_enter (kp := []) hF B C0 G (by have := am.depth; omega) (fun b hb => absurd hb List.not_mem_nil) hl hb fun env R1 m s₁ I1 x1 q1 r1 u_ E' => ?_)
  refine snd_stmts hT SC' N _ fi.body _ _ hh _ env H R1 ca s₁ _ E' (amb_deep am env) I1 fun o f σ' H' R' ca' s' k I' r x q => ?_
  refine obAAAA (cext_back (kp := []) C0 (fun b hb => absurd hb List.not_mem_nil) I'.core I'.gr (x1.trans x) fun b hb => absurd hb List.not_mem_nil) fun b1 b2 b3 b4 b5 => ?_
  have fin : ∀ v p, K p σ'.cs → Rep W H' ca' v p → Q v s' := fun v p k r => P v p σ'.cs H' _ ca' s' k I'.base b1 b2 r ⟨b3.imm, b3.ca, fun b o e1 e2 => b5 b o List.not_mem_nil e1 e2, fun b c e1 e2 => b4 b c e1 e2 List.not_mem_nil, fun b => b3.newH b List.not_mem_nil, fun b => b3.newR b List.not_mem_nil, fun b => b3.live b List.not_mem_nil⟩ (q1.trans q)
  cases o with
  | next =>
    cases f with
    | next => exact fin _ .none k .none
    | _ => exact False.elim r
  | ret p =>
    cases f with
    | ret v => exact fin v p k r
    | _ => exact False.elim r
end
end
section
section
variable {W : Wd} {T : Tb} {H H' H'' : IH} {ca ca' ca'' : List Addr} {R R' R'' : RM} {env cenv : Env} {sc : SC} {σ : St} {s s' s₁ : Shared} {A : Around} {E : Value → Shared → Prop} {d : Nat} {h h' h'' : Heap}
variable {C : Oracle}
theorem lookup_app {α : Type} {x : Str} : ∀ {a b : List (Str × α)} {c : α}, (a ++ b).lookup x = some c → a.lookup x = some c ∨ (a.lookup x = none ∧ b.lookup x = some c)
  | [], b, c, h => .inr ⟨rfl, h⟩
  | (y, e) :: a, b, c, h => by
    rw [List.cons_append, List.lookup_cons] at h
    rw [List.lookup_cons]
    split at h
    · exact .inl h
    · exact lookup_app h
theorem caps_get {cl : List (Str × Addr)} {caps : List (Str × PV)} (r : Caps W H ca cl caps) : cl.map (·.1) = caps.map (·.1) ∧ ∀ x p, (x, p) ∈ caps → ∃ c o v, (x, c) ∈ cl ∧ H c = some o ∧ o.data = .cell (some v) ∧ Rep W H ca v p := by
  induction caps generalizing cl with
  | nil => cases r; exact ⟨rfl, fun u_ u_ z => absurd z List.not_mem_nil⟩
  | cons q caps ih =>
    cases r with
    | @cons x c o v p cs _ h1 h2 h3 r =>
      obtain ⟨a1, a2⟩ := ih r
      refine ⟨by simp [a1], fun y q hm => ?_⟩
      rcases List.mem_cons.mp hm with z | z
      · cases z; exact ⟨c, o, v, .head _, h1, h2, h3⟩
      · refine obEEEA (a2 y q z) fun c o v b1 b2 => ?_; exact ⟨c, o, v, .tail _ b1, b2⟩
theorem plain_ps : ∀ {as : List Arg} {ps : List PV} {fr : List (Str × Bind)}, bindPs as ps = some fr → ∀ y b, fget fr y = some b → b.m = .plain := by
  intro as
  induction as with
  | nil =>
    intro ps fr h y b e
    obtain ⟨_, rfl⟩ := bindPs_nil h
    exact nosome e
  | cons a as ih =>
    intro ps fr h y b e
    (refine obEEEAA (bindPs_cons h) ?_; rintro p q fr' rfl e' rfl)
    by_cases hy : y = a.arg
    · rw [fget, hy, List.lookup_cons_self] at e
      rw [← Option.some.inj e]
    · rw [fget, List.lookup_cons, beq_false_of_ne hy] at e
      exact ih e' y b e
theorem runLam_inv {N : Nat} {ps : Arguments} {body : Expr} {scope : Scope} {caps : List (Str × PV)} {args : List PV} {cs : List PV} {K : PV → List PV → Prop} (h : runLam T N ps body scope caps args C cs K) : lamOk ps scope caps = true ∧ ∃ fr, bindPs ps.args args = some fr ∧ vcE T N ⟨scope.names, false⟩ C body ⟨fr ++ caps.map frz, cs⟩ (kLam K) := by
  obtain ⟨h0, h⟩ := req_iff.mp h
  refine ⟨h0, ?_⟩
  cases e : bindPs ps.args args with
  | none => rw [e] at h; exact False.elim h
  | some fr => rw [e] at h; exact ⟨fr, rfl, h⟩
theorem snd_lamcall (hT : TbOk W T) {N : Nat} (SC' : SndC W d C) {ps : Arguments} {body : Expr} {scope : Scope} {caps : List (Str × PV)} {args : List PV} {cs : List PV} {K : PV → List PV → Prop} {vf : Value} {vs : List Value} {Q : Value → Shared → Prop} (hh : runLam T N ps body scope caps args C cs K) (am : Amb A (d + 1)) (B : W.Base H) (C0 : Core W H ca R s.heap) (G : GR W R ca cs) (rf : Rep W H ca vf (.lam ps body scope caps)) (rs : Reps W H ca vs args)
    (P : ∀ v p cs' H' R' ca' s', K p cs' → W.Base H' → Core W H' ca' R' s'.heap → GR W R' ca' cs' → Rep W H' ca' v p → CExt H R s.heap ca H' R' s'.heap ca' → SEq s s' → Q v s') : wpAny W.M A (call vf vs) Q E s := by
  refine obAEA (runLam_inv hh) fun hok fr hfr hh => ?_
  obtain ⟨KI, TP⟩ := B s.heap C0.le
  unfold lamOk at hok
  simp only [Bool.and_eq_true, Bool.not_eq_true', decide_eq_true_eq, List.all_eq_true, decide_eq_false_iff_not] at hok
  (refine obAAAAAAAA hok fun p1 p2 p3 p4 p5 p6 p7 p8 p9 => ?_; try clear hok)
  obtain ⟨hl, hb⟩ := bind_ps (R0 := R.inner [] [] s.heap) (names := scope.names) hfr rs fun x hx => .inl (p8 x hx)
  cases rf with
  | @lam a o fd _ _ _ _ g0 g1 g2 g3 g4 g5 g6 g7 g8 g9 cr cp =>
    have go := C0.le _ _ g0
    (refine obEEEEAAA cr fun c oc cvs t c1 c2 c3 c4 => ?_; try clear cr)
    have hbn : (((ps.args.map (·.arg)).zip vs).map (·.1)).Nodup := by
      rw [List.map_fst_zip (by simp [hl])]; exact nodupS_iff p2
    refine wpAny_call (kla_callFunE (by have := am.depth; omega) go g2 (by rw [g5]; exact p4) (by rw [g5]; exact p5) g4 ⟨c, oc, cvs, t, c1, C0.le _ _ c2, c3, c4⟩ (binds_go (by rw [g3]; exact p1) (by rw [g3]; exact nodupS_iff p2) (by rw [g3]; exact hl) (fun Q q => by rw [g8]; exact seq_none q) ?_))
    rw [g3, g5, g6, g7]
    refine wpAny_newFunctionEnv (fun y hy => p7 y hy) (fun y hy => p8 _ (List.of_mem_zip (show (y.1, y.2) ∈ _ from hy)).1) (fun h1 hn1 hs1 => ?_) p3
    have hLn := get_size_none s.heap
    generalize hL : s.heap.objs.size = L at hLn hn1 hs1 ⊢
    have keep : ∀ b o, s.heap.get? b = some o → h1.get? b = some o := fun b o e => hs1.extBut b o (fun z => by rw [z, hLn] at e; exact nosome e) (Heap.get?_push_of_some _ e)
    generalize hs2 : ({ s with heap := h1, toks := s.toks + ((ps.args.map (·.arg)).zip vs).length } : Shared) = s1
    have hh1 : s1.heap = h1 := by rw [← hs2]
    have q1 : SEq s s1 := by rw [← hs2]; exact ⟨rfl, rfl, rfl⟩
    refine ⟨TP.nolimit.keeps (by rw [hh1]; exact keep), kla_codeExpr ?_⟩
    generalize he : newEnv scope L mainGlobals fd.closure (fd.qualname ++ ".<locals>.") (some a) fd.code none builtinsNs = env
    have e1 : env.scope = scope := by rw [← he]; rfl
    have e2 : env.locals = L := by rw [← he]; rfl
    have e3 : env.cells = fd.closure := by rw [← he]; rfl
    have C1 := C0.inner (cl := []) (kp := [])
    have hatL : MC.At W H ca h1 L (.ns fun x => ((ps.args.map (·.arg)).zip vs).reverse.lookup x) := hn1
    have C2 := C1.newReg hLn keep hatL
    have x2 : Ext H (R.inner [] [] s.heap) s.heap ca H _ h1 ca := Ext.newReg (c := .ns fun x => ((ps.args.map (·.arg)).zip vs).reverse.lookup x) C1 hLn keep
    have hRL := C1.freshR hLn
    have r1o : ∀ b c, (R.inner [] [] s.heap) b = some c → ((R.inner [] [] s.heap).set L (some (.ns fun x => ((ps.args.map (·.arg)).zip vs).reverse.lookup x))) b = some c := fun b c e => by
      rw [RM.set_ne fun z => ?_]; exact e
      rw [z, hRL] at e; exact nosome e
    have r1L : ((R.inner [] [] s.heap).set L (some (.ns fun x => ((ps.args.map (·.arg)).zip vs).reverse.lookup x))) L = some (.ns fun x => ((ps.args.map (·.arg)).zip vs).reverse.lookup x) := RM.set_self
    generalize (R.inner [] [] s.heap).set L (some (.ns fun x => ((ps.args.map (·.arg)).zip vs).reverse.lookup x)) = R1 at C2 x2 r1o r1L
    obtain ⟨k1, k2⟩ := caps_get cp
    have getb : ∀ y b, fget (fr ++ caps.map frz) y = some b → (scope.names.lookup y = some .local ∧ ∃ v, (y, v) ∈ (ps.args.map (·.arg)).zip vs ∧ b.m = .plain ∧ Rep W H ca v b.p) ∨ (scope.names.lookup y = some .free ∧ b.m = .froz ∧ ∃ c o v, (y, c) ∈ fd.closure ∧ H c = some o ∧ o.data = .cell (some v) ∧ Rep W H ca v b.p) := by
      intro y b q
      rcases lookup_app q with q | ⟨_, q⟩
      · have hp : b.m = .plain := plain_ps hfr y b q
        (refine obEA (hb.get q) ?_; rintro v hv (⟨b1, b2, b3⟩ | ⟨_, b2⟩))
        · exact .inl ⟨p8 y (List.of_mem_zip hv).1, v, hv, b1, b2⟩
        · refine .inl ⟨p8 y (List.of_mem_zip hv).1, v, hv, hp, ?_⟩
          unfold BindRel at b2
          rw [hp] at b2
          exact b2
      · (refine obEA (fget_map q) ?_; rintro p hp rfl)
        refine obEEEAAA (k2 y p hp) fun c o v d1 d2 d3 d4 => ?_
        exact .inr ⟨p9 (y, p) hp, rfl, c, o, v, d1, d2, d3, d4⟩
    have hkn : (fd.closure.map (·.1)).Nodup := by rw [k1]; exact nodupS_iff p6
    have kof : ∀ y, env.kindOf y = scope.names.lookup y := fun y => by show env.scope.names.lookup y = _; rw [e1]
    have I1 : Inv W env ⟨scope.names, false⟩ ⟨fr ++ caps.map frz, cs⟩ H R1 ca s1 := by
      refine ⟨B, hh1 ▸ C2, ⟨by rw [e1]; exact p3, by rw [e1], by rw [← he]; rfl, by rw [← he]; rfl, (fun z => nomatch z), ⟨_, by rw [e2]; exact r1L, fun y b q l => ?_⟩, fun y b q l => ?_, fun y l => ?_⟩, ⟨G.len, fun i b p z1 z2 => r1o _ _ (inner_far (G.cell i b p z1 z2) rfl), fun t ht => r1o _ _ (inner_far (G.tabs t ht) rfl)⟩⟩
      · rcases getb y b q with ⟨_, v, hv, hp, rv⟩ | ⟨f1, _⟩
        · refine ⟨v, ?_, ?_⟩
          · refine lookup_of_mem ?_ (List.mem_reverse.mpr hv)
            rw [List.map_reverse]
            exact List.pairwise_reverse.mpr (hbn.imp fun h => Ne.symm h)
          · unfold BindRel; rw [hp]; exact rv
        · have l : scope.names.lookup y = some .local := l
          rw [f1] at l; cases l
      · rcases getb y b q with ⟨f1, _⟩ | ⟨f1, f2, c, o, v, d1, d2, d3, d4⟩
        · exact absurd f1 l
        · refine ⟨.inr f1, c, v, ?_, d4, .inl ⟨f2, o, d2, d3⟩⟩
          rw [e3]; exact lookup_of_mem hkn d1
      · exact absurd rfl (p7 _ (mem_of_lookup l))
    refine (snd_vcO hT SC' N _).toE body _ _ hh _ env H R1 ca s1 _ _ (amb_deep am env) I1 fun v p σ' H' R' ca' s' k I' r x q l => ?_
    refine obAAAA (cext_back (kp := []) C0 (fun b hb => absurd hb List.not_mem_nil) I'.core I'.gr ((hh1 ▸ x2).trans x) fun b hb => absurd hb List.not_mem_nil) fun b1 b2 b3 b4 b5 => ?_
    exact P v p σ'.cs H' _ ca' s' k I'.base b1 b2 r ⟨b3.imm, b3.ca, fun b o e1 e2 => b5 b o List.not_mem_nil e1 e2, fun b c e1 e2 => b4 b c e1 e2 List.not_mem_nil, fun b => b3.newH b List.not_mem_nil, fun b => b3.newR b List.not_mem_nil, fun b => b3.live b List.not_mem_nil⟩ (q1.trans q)
end
end
section
section
variable {W : Wd} {T : Tb} {H H' H'' : IH} {ca ca' ca'' : List Addr} {R R' R'' : RM} {env cenv : Env} {sc : SC} {σ : St} {s s' s₁ : Shared} {A : Around} {E : Value → Shared → Prop} {d : Nat} {h h' h'' : Heap}
variable {C : Oracle}
theorem empty_dict : DictObj W.sk emptyDict [] := by
  refine obEA (dict_obj (knd := W.sk) (Heap.DictOf.new (default : Heap))) fun o g x => ?_
  have := (Heap.get?_push_size (default : Heap) (o := emptyDict) rfl).symm.trans g
  (replace this := Option.some.inj this; subst this); exact x
theorem ins_inv {v : Value} {b : Addr} {l : List (Str × PV)} (r : Rep W H ca v (.ins b l)) : ∃ a d o, v = .ref a ∧ H a = some (instObj b d) ∧ H d = some o := by
  cases r with
  | ins e0 e1 e2 e3 e4 => exact ⟨_, _, _, rfl, e1, e2⟩
theorem kInit_inv {x : Str} {a : Addr} {K : PV → List PV → Prop} (h : kInit x a K .next σ) : ∃ m l, fget σ.fr x = some ⟨m, .ins a l⟩ ∧ K (.ins a l) σ.cs := by
  have h : (match fget σ.fr x with
    | some ⟨_, .ins b l⟩ => req (decide (b = a)) (K (.ins a l) σ.cs)
    | _ => False) := h
  cases e : fget σ.fr x with
  | none => rw [e] at h; exact False.elim h
  | some b =>
    obtain ⟨m, p⟩ := b
    rw [e] at h
    induction p using PV.casesOn with
    | ins b l =>
      obtain ⟨h0, h⟩ := req_iff.mp h
      obtain rfl := of_decide_eq_true h0
      exact ⟨m, l, rfl, h⟩
    | _ => exact False.elim h
theorem runInit_inv {N : Nat} {a : Addr} {fi : FnI} {args : List PV} {cs : List PV} {K : PV → List PV → Prop} (h : runInit T N a fi args C cs K) : ∃ self as fr, fi.params.args = self :: as ∧ bindPs as args = some fr ∧ initBody fi.body = true ∧ fi.scope.names.lookup self.arg = some .local ∧ vcSs T N ⟨fi.scope.names, fi.lam⟩ fi.body C ⟨(self.arg, ⟨.own, .ins a []⟩) :: fr, cs⟩ (kInit self.arg a K) := by
  unfold runInit at h
  cases e : fi.params.args with
  | nil => rw [e] at h; exact False.elim h
  | cons self as =>
    rw [e] at h
    obtain ⟨h0, h⟩ := req_iff.mp h
    obtain ⟨h1, h2⟩ := Bool.and_eq_true_iff.mp h0
    cases e2 : bindPs as args with
    | none => rw [e2] at h; exact False.elim h
    | some fr => rw [e2] at h; exact ⟨self, as, fr, rfl, e2, h1, of_decide_eq_true h2, h⟩
theorem snd_make (hT : TbOk W T) {N : Nat} (SC' : SndC W d C) {D ci : Addr} {fi : FnI} {args : List PV} {cs : List PV} {K : PV → List PV → Prop} {vs : List Value} {Q : Value → Shared → Prop} (hin : T.init D = some ci) (hF : FnOk W ci fi) (hh : runInit T N D fi args C cs K) (am : Amb A (d + 1)) (B : W.Base H) (C0 : Core W H ca R s.heap) (G : GR W R ca cs) (rs : Reps W H ca vs args)
    (P : ∀ v p cs' H' R' ca' s', K p cs' → W.Base H' → Core W H' ca' R' s'.heap → GR W R' ca' cs' → Rep W H' ca' v p → CExt H R s.heap ca H' R' s'.heap ca' → SEq s s' → Q v s') : wpAny W.M A (call (.ref D) vs) Q E s := by
  refine obEEEAAAA (runInit_inv hh) fun self as fr hpar hfr hib hsl hh => ?_
  refine obAAA (hT.make D ci hin) fun hcls hmk hfi hty => ?_
  obtain ⟨KI, TP⟩ := B s.heap C0.le
  have hok : fnOk fi = true := by (refine obEEAAAAAAAAAAA hF fun u_ u_ u_ u_ u_ u_ u_ u_ u_ u_ u_ u_ z u_ => ?_; try clear hF); exact z
  have hpl : ∀ x ∈ fi.params.args.map (·.arg), fi.scope.names.lookup x = some .local ∨ fi.scope.names.lookup x = some .cell := by
    unfold fnOk at hok
    simp only [Bool.and_eq_true, Bool.or_eq_true, decide_eq_true_eq, List.all_eq_true] at hok
    exact hok.2.2.2.2.2.2
  obtain ⟨hh0, g, dr, tk, os⟩ := s
  refine wpAny_call (make_core (makes_of KI hmk) (looks_findIn KI hfi) (fun self => bind_fn KI self hty) (.inl rfl) ?_)
  have hn1 := get_size_none hh0
  have k1 : ∀ b o, hh0.get? b = some o → (hh0.push emptyDict).get? b = some o := fun b o e => Heap.get?_push_of_some _ e
  have g1 : (hh0.push emptyDict).get? hh0.objs.size = some emptyDict := Heap.get?_push_size _ rfl
  have hn2 : (hh0.push emptyDict).get? (hh0.objs.size + 1) = none := by
    have := get_size_none (hh0.push emptyDict)
    rwa [Heap.size_push] at this
  have g2 : ((hh0.push emptyDict).push (instObj D hh0.objs.size)).get? (hh0.objs.size + 1) = some (instObj D hh0.objs.size) := by
    have := Heap.get?_push_size (hh0.push emptyDict) (o := instObj D hh0.objs.size) rfl
    rwa [Heap.size_push] at this
  have hsys : (hh0.objs.size == sysModules) = false := by
    have : sysModules < hh0.objs.size := Nat.lt_trans (by decide) TP.g.lt
    exact beq_false_of_ne (Nat.ne_of_gt this)
  have k2 : ∀ b o, (hh0.push emptyDict).get? b = some o → ((hh0.push emptyDict).push (instObj D hh0.objs.size)).get? b = some o := fun b o e => Heap.get?_push_of_some _ e
  have hxd : hh0.objs.size ≠ hh0.objs.size + 1 := Nat.ne_of_lt (Nat.lt_succ_self _)
  generalize hdx : hh0.objs.size = dx at hn1 g1 hn2 g2 hsys k2 hxd ⊢
  generalize hx : dx + 1 = x at hn2 g2 hxd ⊢
  generalize hh2 : (hh0.push emptyDict).push (instObj D dx) = h2 at g2 k2 ⊢
  have C0 : Core W H ca R hh0 := C0
  have hat : MC.At W H ca (hh0.push emptyDict) dx (.cont (.var self.arg) (.dct [])) := ⟨emptyDict, g1, ⟨[], empty_dict, .nil⟩, hsys⟩
  have C1 := C0.newReg hn1 k1 hat
  have x1 : Ext H R hh0 ca H (R.set dx (some (.cont (.var self.arg) (.dct [])))) (hh0.push emptyDict) ca := Ext.newReg (c := .cont (.var self.arg) (.dct [])) C0 hn1 k1
  have hRdx := C0.freshR hn1
  have C2 := C1.newImm hn2 k2 g2
  have x2 : Ext H (R.set dx (some (.cont (.var self.arg) (.dct [])))) (hh0.push emptyDict) ca (H.put x (instObj D dx)) (R.set dx (some (.cont (.var self.arg) (.dct [])))) h2 ca := Ext.newImm C1 hn2 k2
  have hHx : H x = none := C1.freshH hn2
  have le2 : HLe H (H.put x (instObj D dx)) := HLe.put hHx
  have R2dx : (R.set dx (some (.cont (.var self.arg) (.dct [])))) dx = some (.cont (.var self.arg) (.dct [])) := RM.set_self
  have R2o : ∀ b c, R b = some c → (R.set dx (some (.cont (.var self.arg) (.dct [])))) b = some c := fun b c e => by
    rw [RM.set_ne fun z => ?_]; exact e
    rw [z, hRdx] at e; exact nosome e
  have R2i : ∀ b c, (R.set dx (some (.cont (.var self.arg) (.dct [])))) b = some c → b = dx ∨ R b = some c := fun b c e => by
    by_cases hb : b = dx
    · exact .inl hb
    · rw [RM.set_ne hb] at e; exact .inr e
  generalize R.set dx (some (.cont (.var self.arg) (.dct []))) = R2 at C2 x1 x2 R2dx R2o R2i
  have G2 : GR W R2 ca cs := ⟨G.len, fun i b p e1 e2 => R2o _ _ (G.cell i b p e1 e2), fun t ht => R2o _ _ (G.tabs t ht)⟩
  generalize hH2 : H.put x (instObj D dx) = H2 at C2 x2 le2
  have H2x : H2 x = some (instObj D dx) := by rw [← hH2]; exact IH.put_self
  have hkp : ∀ b ∈ [dx], ∀ c, R2 b = some c → c.loc = true := fun b hb c e => by
    rw [List.mem_singleton.mp hb, R2dx] at e; (replace e := Option.some.inj e; subst e); rfl
  rw [hpar] at hpl
  obtain ⟨hl, hb⟩ := bind_ps (R0 := R2.inner [] [dx] h2) (names := fi.scope.names) hfr (Reps.mono le2 CLe.refl rs) fun y hy => hpl y (.tail _ hy)
  have hroom : (A.under (.builtin "type.__call__" ⟨.ref D :: vs, []⟩)).depth < recursionLimit := by
    rw [depth_under_make]; have := am.depth; omega
  refine fn_enter (s := ⟨h2, g, dr, tk, os⟩) (vs := .ref x :: vs) (kp := [dx]) (fr := (self.arg, ⟨.own, .ins D []⟩) :: fr) hF (B.mono le2) C2 G2 hroom hkp (by rw [hpar]; simp [hl]) (by
    rw [hpar]
    refine .cons (.inr ⟨hsl, .inr ⟨x, D, dx, [], rfl, hcls, rfl, H2x, ?_⟩⟩) hb
    exact (inner_kp (.head _)).trans R2dx) fun env R1 m s₁ I1 x3 q3 r1 m1 E' => ?_
  have mself : m self.arg = some (.ref x) := m1 _ _ (by rw [hpar]; exact .head _) hsl
  refine snd_init hT SC' fi.body N _ _ hib hh _ H2 R1 ca s₁ _ E' (amb_make am env D vs) I1 fun o f σ' H' R' ca' s' k I' r x4 q4 l4 => ?_
  cases o with
  | ret p => exact False.elim k
  | next =>
  cases f with
  | next =>
    refine ⟨rfl, ?_⟩
    refine obEEA (kInit_inv k) fun md l hfg k => ?_
    refine obEA I'.fr.ns fun m' em' hall => ?_
    rw [l4, r1] at em'
    cases em'
    refine obEA (hall _ _ hfg hsl) fun v hv Bv => ?_
    rw [mself] at hv; (replace hv := Option.some.inj hv; subst hv)
    have H'x : H' x = some (instObj D dx) := x4.imm _ _ H2x
    have fin : ∀ H3 R3, W.Base H3 → Core W H3 ca' R3 s'.heap → GR W R3 ca' σ'.cs → Rep W H3 ca' (.ref x) (.ins D l) → ExtX [dx] H2 (R2.inner [] [dx] h2) h2 ca H3 R3 s'.heap ca' → R3 dx = none → Q (.ref x) s' := by
      intro H3 R3 B3 C3 G3 r3 x5 hd3
      refine obAAAA (outer_back (Z := [dx]) C2 C3 x5 (fun b hb => hb) (fun b hb => .inl hb) fun b hb c e => by rw [List.mem_singleton.mp hb, hd3] at e; exact nosome e) fun b1 b2 b3 b4 b5 => ?_
      have y : Ext H R hh0 ca H3 (R2.outer R3 [dx]) s'.heap ca' := (((x1.trans x2).toX.trans b2).cut (Y := []) fun b hb => by rw [List.mem_singleton.mp hb]; exact .inr ⟨hn1, hRdx⟩).toExt
      have hdx1 : ∀ b c, R b = some c → b ∉ [dx] := fun b c e z => by rw [List.mem_singleton.mp z, hRdx] at e; exact nosome e
      refine P (.ref x) (.ins D l) σ'.cs H3 _ ca' s' k B3 b1 ⟨G3.len, fun i b p e1 e2 => b4 _ _ (G3.cell i b p e1 e2) rfl, fun t ht => b4 _ _ (G3.tabs t ht) rfl⟩ r3 ⟨y.imm, y.ca, fun b o e1 e2 => ?_, fun b c e1 e2 => b3 b c (R2o b c e1) e2 (hdx1 b c e1), y.newH, y.newR, y.live⟩ (SEq.trans (s' := ⟨h2, g, dr, tk, os⟩) ⟨rfl, rfl, rfl⟩ (q3.trans q4))
      have hbd : b ∉ [dx] := fun z => by rw [List.mem_singleton.mp z] at e1; exact nomatch (hn1.symm.trans e1)
      exact b5 b o hbd (k2 _ _ (k1 _ _ e1)) fun c q => by
        rcases R2i b c q with z | z
        · exact absurd (by simp [z]) hbd
        · exact e2 c z
    induction md using Mode.casesOn with
    | own =>
      rcases Bv with ⟨a0, e1, e2⟩ | ⟨a0, D', d', l', e0, ec, e1, e2, e3⟩
      · refine obEAA (I'.core.reg _ _ e2) fun o u_ xo u_ => ?_
        exact xo.elim
      · cases e0; cases e1
        rw [H'x] at e2; cases e2
        (refine obEAA (I'.core.reg _ _ e3) ?_; rintro o eo ⟨kvs, dd, re⟩ _)
        have hHd := I'.core.hid _ _ e3
        have leH := HLe.put (o := o) hHd
        refine fin (H'.put dx o) (R'.set dx none) (I'.base.mono leH) (I'.core.freeze e3 eo) ⟨I'.gr.len, fun i b p z1 z2 => ?_, fun t ht => ?_⟩ (.ins ec (leH _ _ H'x) IH.put_self dd (Ents.mono leH CLe.refl re)) ?_ RM.set_self
        · have := I'.gr.cell i b p z1 z2
          rw [RM.set_ne fun z => ?_]; exact this
          rw [z, e3] at this; cases this
        · have := I'.gr.tabs t ht
          rw [RM.set_ne fun z => ?_]; exact this
          rw [z, e3] at this; cases this
        · have y := (x3.trans x4).toX (X := [dx])
          refine ⟨y.imm.trans leH, y.ca, y.pres, fun b n z => ?_, fun b n z => ?_, fun b c n e t => ?_, y.live⟩
          · rw [IH.put_ne fun q => n (by simp [q])] at z; exact y.newH b n z
          · rw [RM.set_ne fun q => n (by simp [q])] at z; exact y.newR b n z
          · rw [RM.set_ne fun q => n (by simp [q])]; exact y.tmp b c n e t
    | plain =>
      have Bv : Rep W H' ca' (.ref x) (.ins D l) := Bv
      refine fin H' R' I'.base I'.core I'.gr Bv (x3.trans x4).toX ?_
      refine obEEEAA (ins_inv Bv) fun a3 d3 o3 e0 e1 e2 => ?_
      cases e0
      rw [H'x] at e1; cases e1
      cases q : R' dx with
      | none => rfl
      | some c => rw [I'.core.hid _ _ q] at e2; exact nosome e2
    | froz =>
      have Bv : Rep W H' ca' (.ref x) (.ins D l) := Bv
      refine fin H' R' I'.base I'.core I'.gr Bv (x3.trans x4).toX ?_
      refine obEEEAA (ins_inv Bv) fun a3 d3 o3 e0 e1 e2 => ?_
      cases e0
      rw [H'x] at e1; cases e1
      cases q : R' dx with
      | none => rfl
      | some c => rw [I'.core.hid _ _ q] at e2; exact nosome e2
  | _ => exact r.elim
theorem fn_inv {v : Value} {a : Addr} (r : Rep W H ca v (.fn a)) : v = .ref a := by
  cases r; rfl
theorem snd_enter (hT : TbOk W T) (N : Nat) (S : SndC W d C) : SndC W (d + 1) (Enter T N C) := by
  intro f args cs K h A H R ca s vf vs Q E am B C0 G rf rs P
  induction f using PV.casesOn with
  | fn a =>
    obtain rfl := fn_inv rf
    have h : (match T.fun_ a with
    | some fi => runFn T N fi args C cs K
    | none => (match T.init a with
      | some ci => (match T.fun_ ci with
        | some fi => runInit T N a fi args C cs K
        | none => False)
      | none => False)) := h
    cases e : T.fun_ a with
    | some fi => rw [e] at h; exact snd_fn hT S (hT.fn _ _ e) h am B C0 G rs P
    | none =>
      rw [e] at h
      cases e1 : T.init a with
      | none => rw [e1] at h; exact False.elim h
      | some ci =>
        rw [e1] at h
        cases e2 : T.fun_ ci with
        | none => have h := h; simp only [e2] at h
        | some fi => simp only [e2] at h; exact snd_make hT S e1 (hT.fn _ _ e2) h am B C0 G rs P
  | lam ps body scope caps => exact snd_lamcall hT S h am B C0 G rf rs P
  | _ => exact False.elim h
theorem snd_ci (hT : TbOk W T) (N : Nat) {e : Nat} {O : Nat → Oracle} (S : ∀ i, SndC W (e + 4 - i) (O i)) : ∀ m i, i + m ≤ 4 → SndC W (e + 4 - i) (CI T N O m i)
  | 0, i, _ => S i
  | m + 1, i, hm => by
    have ih := snd_enter hT N (snd_ci hT N S m (i + 1) (by omega))
    have le : i + 1 ≤ e + 4 := Nat.le_trans (Nat.le_trans (Nat.add_le_add_left (Nat.succ_le_succ (Nat.zero_le m)) i) hm) (Nat.le_add_left 4 e)
    rw [show e + 4 - (i + 1) + 1 = e + 4 - i from (congrArg (· + 1) (Nat.sub_add_eq (e + 4) i 1)).trans (Nat.sub_add_cancel (Nat.le_sub_of_add_le (Nat.add_comm 1 i ▸ le)))] at ih
    intro f args cs K h
    have h : (match T.inl f with
      | true => Enter T N (CI T N O m (i + 1)) f args cs K
      | false => O i f args cs K) := h
    cases e : T.inl f with
    | true => rw [e] at h; exact ih f args cs K h
    | false => rw [e] at h; exact S i f args cs K h
theorem snd_sq (hT : TbOk W T) (N : Nat) : ∀ d i, SndC W (d + 4 - i) (Sq T N d i)
  | 0, _ => fun u_ u_ u_ u_ h => False.elim h
  | d + 1, 0 => by
    have := snd_enter hT N (snd_ci hT N (snd_sq hT N d) 4 0 (Nat.le_refl _))
    rw [Nat.sub_zero] at this
    show SndC W (d + 1 + 4) _
    rw [Nat.add_right_comm]; exact this
  | d + 1, i + 1 => by
    have := snd_sq hT N d i
    rw [Nat.add_right_comm, Nat.add_sub_add_right]; exact this
end
end
section
noncomputable def tabl : List (Addr × Addr × Str) := [(702, 698, "_law_counted.<locals>.<lambda>"), (681, 677, "_law_inner.<locals>.<lambda>"), (695, 691, "_law_function.<locals>.<lambda>")]
noncomputable def isCls (C : Addr) : Bool := clss.any fun c => c.at_ == C
noncomputable def fnAts : List Addr := fns.map (·.1) ++ meths.map (·.1)
noncomputable def viewO : Option Obj → Option (Arguments × List Stmt × Scope)
  | some ⟨_, _, .func fd, _⟩ => (match fd.body with
    | .stmts b => some (fd.params, b, fd.scope)
    | _ => none)
  | _ => none
noncomputable def fnChk (K : Frag) (a : Addr) : Bool := match K.lookup a with
  | some ⟨_, _, .func fd, _⟩ => fd.closure.isEmpty && ((fd.globals == mainGlobals) && ((fd.builtins == builtinsNs) && (codeIn K fd.code fd.qualname && (defsIn K fd.defaults && (fnOk ⟨"", "", fd.params, [], fd.scope, false⟩ &&
      (!lams.contains a || tabl.any fun t => fd.code == .ref t.1 && t.2.2 == fd.qualname ++ ".<locals>." ++ "<lambda>"))))))
  | _ => false
structure KitOk (K : Frag) : Prop where
  cls : (clss.all fun c => ownCls K c.at_) = true
  inst : (clss.all fun c => clss.all fun d => kitOne K (.ref c.at_) (.ref d.at_) == some (decide (c.at_ = d.at_))) = true
  meth : (clss.all fun c => c.meths.all fun m => methIn K c.at_ m.1 m.2) = true
  attr : (clss.all fun c => c.attrs.all fun m => plainAttr K c.at_ m && plainSet K c.at_ m) = true
  make : (clss.all fun c => makesIn K c.at_ && (findIn K (.ref c.at_) "__init__" == some (some (.ref c.init)) && typeIn K (.ref c.init) == some (.type "function"))) = true
  keep : (globs.all fun g => keepIn K (.ref g.2)) = true
  keep2 : (clss.all fun c => c.meths.all fun m => keepIn K (.ref m.2)) = true
  glob : (globs.all fun g => nsIn K mainGlobals g.1 == some (some (.ref g.2))) = true
  bi : (bis.all fun g => nsIn K mainGlobals g.1 == some none && (bootBuiltins g.1 == some g.2.value && !(g.1 == "__name__"))) = true
  fn : (fnAts.all fun a => fnChk K a) = true
  view : (fnAts.map fun a => viewO (K.lookup a)) = fnAts.map fun a => (funOf a).map fun fi => (fi.params, fi.body, fi.scope)
  tabs : noTabs K = true
noncomputable abbrev WW {K : Frag} (hK : KitOk K) (w : World) (p : Program) (loose : List Str) (mean : ExcName → Option Value) (mg mb : Str → Option Value) : Wd where
  prog := PySem.Challenge.rw_np0241_01.row.prog
  w := w
  K := K
  p := p
  loose := loose
  mean := mean
  mg := mg
  mb := mb
  tabs := tabl
  cls := isCls
  clsOk := fun C h => by
    refine obEA (List.any_eq_true.mp h) fun c hc e => ?_
    obtain rfl := eq_of_beq e
    exact List.all_eq_true.mp hK.cls c hc
theorem find_cls {C : Addr} {c : ClI} (h : clss.find? (fun c => c.at_ == C) = some c) : c ∈ clss ∧ c.at_ = C := ⟨List.mem_of_find?_eq_some h, eq_of_beq (List.find?_some (p := fun c : ClI => c.at_ == C) h)⟩
theorem fnOfS_lam {a : Addr} {st : Stmt} {fi : FnI} (h : fnOfS a st = some fi) : fi.lam = lams.contains a := by
  induction st using PySem.Stmt.casesOn with
  | FunctionDef => (replace h := Option.some.inj h; subst h); rfl
  | _ => exact nosome h
theorem lookup_key {α β : Type} [BEq α] [LawfulBEq α] {x : α} {c : β} {l : List (α × β)} (h : l.lookup x = some c) : x ∈ l.map (·.1) := by
  induction l with
  | nil => exact nosome h
  | cons q l ih =>
    rw [List.lookup_cons] at h
    rw [List.map_cons]
    cases e : x == q.1 with
    | true => rw [eq_of_beq e]; exact .head _
    | false => rw [e] at h; exact .tail _ (ih h)
theorem funOf_inv {a : Addr} {fi : FnI} (h : funOf a = some fi) : a ∈ fnAts ∧ fi.lam = lams.contains a := by
  unfold funOf at h
  cases e : fns.lookup a with
  | some i =>
    rw [e] at h
    refine obEA (Option.bind_eq_some_iff.mp h) fun st u_ h => ?_
    exact ⟨List.mem_append.mpr (.inl (lookup_key e)), fnOfS_lam h⟩
  | none =>
    rw [e] at h
    cases e2 : meths.lookup a with
    | none => rw [e2] at h; exact nosome h
    | some q =>
      rw [e2] at h
      refine obEA (Option.bind_eq_some_iff.mp h) fun s u_ h => ?_
      refine obEA (Option.bind_eq_some_iff.mp h) fun st u_ h => ?_
      exact ⟨List.mem_append.mpr (.inr (lookup_key e2)), fnOfS_lam h⟩
theorem view_inv {o : Option Obj} {x : Arguments × List Stmt × Scope} (h : viewO o = some x) : ∃ c dd fd sl, o = some ⟨c, dd, .func fd, sl⟩ ∧ fd.params = x.1 ∧ fd.body = .stmts x.2.1 ∧ fd.scope = x.2.2 := by
  induction o using Option.casesOn with
  | none => exact nosome h
  | some o =>
    obtain ⟨c, dd, da, sl⟩ := o
    induction da using PySem.Data.casesOn with
    | func fd =>
      have h : (match fd.body with
        | .stmts b => some (fd.params, b, fd.scope)
        | _ => none) = some x := h
      cases e : fd.body with
      | stmts b => rw [e] at h; (replace h := Option.some.inj h; subst h); exact ⟨c, dd, fd, sl, rfl, rfl, e, rfl⟩
      | _ => rw [e] at h; exact nosome h
    | _ => exact nosome h
theorem tb_ok {K : Frag} (hK : KitOk K) (w : World) (p : Program) (loose : List Str) (mean : ExcName → Option Value) (mg mb : Str → Option Value) : TbOk (WW hK w p loose mean mg mb) TT where
  inst := fun C D h h2 => by
    refine obEA (List.any_eq_true.mp h) fun c hc e => ?_
    obtain rfl := eq_of_beq e
    obtain ⟨ci, hci⟩ := Option.isSome_iff_exists.mp h2
    refine obEA (Option.map_eq_some_iff.mp hci) fun d hd u_ => ?_
    obtain ⟨h3, rfl⟩ := find_cls hd
    exact eq_of_beq (List.all_eq_true.mp (List.all_eq_true.mp hK.inst c hc) d h3)
  meth := fun D x f h => by
    refine obEA (Option.bind_eq_some_iff.mp h) fun c hc hx => ?_
    obtain ⟨h3, rfl⟩ := find_cls hc
    exact List.all_eq_true.mp (List.all_eq_true.mp hK.meth c h3) _ (mem_of_lookup hx)
  keep := fun a h => by
    rcases Bool.or_eq_true_iff.mp h with h | h
    · refine obEA (List.any_eq_true.mp h) fun g hg e => ?_
      obtain rfl := eq_of_beq e
      exact List.all_eq_true.mp hK.keep g hg
    · refine obEA (List.any_eq_true.mp h) fun c hc h => ?_
      refine obEA (List.any_eq_true.mp h) fun g hg e => ?_
      obtain rfl := eq_of_beq e
      exact List.all_eq_true.mp (List.all_eq_true.mp hK.keep2 c hc) g hg
  fn := fun a fi h => by
    obtain ⟨hm, hl⟩ := funOf_inv h
    have v := List.map_inj_left.mp hK.view a hm
    rw [show funOf a = some fi from h] at v
    refine obEEEEAAA (view_inv v) fun c dd fd sl e e1 e2 e3 => ?_
    have t := List.all_eq_true.mp hK.fn a hm
    unfold fnChk at t
    rw [e] at t
    simp only [Bool.and_eq_true, beq_iff_eq, List.isEmpty_iff] at t
    (refine obAAAAAA t fun t1 t2 t3 t4 t5 t6 t7 => ?_; try clear t)
    rw [e1, e3] at t6
    refine ⟨_, fd, e, rfl, e1, e2, e3, t1, t2, t3, t4, t5, t6, fun z => ?_⟩
    rw [← hl, z] at t7
    refine obEA (List.any_eq_true.mp t7) fun t ht et => ?_
    obtain ⟨et1, et2⟩ := Bool.and_eq_true_iff.mp et
    exact ⟨t, ht, eq_of_beq et1, eq_of_beq et2⟩
  make := fun D ci h => by
    (refine obEA (Option.map_eq_some_iff.mp h) ?_; rintro c hc rfl)
    obtain ⟨h3, rfl⟩ := find_cls hc
    obtain ⟨t1, t⟩ := Bool.and_eq_true_iff.mp (List.all_eq_true.mp hK.make c h3)
    obtain ⟨t2, t3⟩ := Bool.and_eq_true_iff.mp t
    exact ⟨List.any_eq_true.mpr ⟨c, h3, beq_self_eq_true _⟩, t1, eq_of_beq t2, eq_of_beq t3⟩
  attr := fun D a h => by
    have g : (clss.find? fun c => c.at_ == D).any (fun c => c.attrs.contains a) = true := h
    cases hc : clss.find? (fun c => c.at_ == D) with
    | none => rw [hc] at g; exact noft g
    | some c =>
      rw [hc] at g
      obtain ⟨h3, rfl⟩ := find_cls hc
      exact Bool.and_eq_true_iff.mp (List.all_eq_true.mp (List.all_eq_true.mp hK.attr c h3) a (List.contains_iff_mem.mp g))
  glob := fun x q h => by
    have h : (match globs.lookup x with | some a => some (.fn a) | none => (bis.lookup x).map .bi) = some q := h
    cases e : globs.lookup x with
    | some a =>
      rw [e] at h
      (replace h := Option.some.inj h; subst h)
      exact .inl ⟨a, rfl, eq_of_beq (List.all_eq_true.mp hK.glob _ (mem_of_lookup e))⟩
    | none =>
      rw [e] at h
      (refine obEA (Option.map_eq_some_iff.mp h) ?_; rintro b hb rfl)
      obtain ⟨t1, t⟩ := Bool.and_eq_true_iff.mp (List.all_eq_true.mp hK.bi _ (mem_of_lookup hb))
      obtain ⟨t2, t3⟩ := Bool.and_eq_true_iff.mp t
      exact .inr ⟨b, rfl, eq_of_beq t1, eq_of_beq t2, fun z => by rw [z] at t3; exact noft t3⟩
end
section
open PySem.Spec in
theorem reps_ints {W : Wd} {H : IH} {ca : List Addr} {P : Params} {h : Heap} : ∀ {vs : List Value} {ns : List Int}, WellAll P h vs (ofPys (ns.map PyData.int)) → Reps W H ca vs (ns.map .int) := by
  intro vs ns
  induction ns generalizing vs with
  | nil => intro x; cases x; exact .nil
  | cons n ns ih =>
    intro x
    rw [List.map_cons] at x
    unfold ofPys ofPy at x
    cases x with
    | cons a r =>
      cases a with
      | int i t => exact .cons .int (ih r)
noncomputable abbrev tabs3 : List (Addr × Addr) := [(702, 698), (681, 677), (695, 691)]
noncomputable def RT : RM := fun b => (tabl.find? fun t => t.2.1 == b).map fun t => .tab t.1 t.2.2
theorem join_ {K : Frag} (hK : KitOk K) {w : World} {p : Program} {loose : List Str} {mean : ExcName → Option Value} {mg mb : Str → Option Value} {s₁ : Shared} {fa a2 : Addr} {ns : List Int} {Q : Value → Shared → Prop} {E : Value → Shared → Prop} (KX : K.In s₁.heap) (T : Top p loose mean mg mb s₁.heap) (hT : TabsAt tabs3 s₁.heap) (hfa : mg "law" = some (.ref fa))
    (hw : Well w.params s₁.heap (.ref a2) (ofPy (.list (ns.map .int)))) (hlaw : Call TT 40 343 (.fn 732) [.lst (ns.map .int)] [] fun p u_ => p = .bool true)
    (hQ : ∀ s', s'.os = s₁.os → s'.gens = s₁.gens → (∀ b o, (ghostOf s₁.heap tabs3).get? b = some o → s'.heap.get? b = some o) → GrownAll tabs3 s'.heap → Q (.bool true) s') : wpAny (model PySem.Challenge.rw_np0241_01.row.prog w) callerA (call (.ref fa) [.ref a2]) Q E s₁ := by
  have e732 : mg "law" = some (.ref 732) := mg_of KX T.g (by
    have := List.all_eq_true.mp (hK.glob) ("law", 732) (by decide +kernel)
    simpa using this)
  rw [e732] at hfa
  cases hfa
  have KG := ghost_K hT KX (hK.tabs)
  have TG := ghost_top hT T
  have hk := tb_ok hK w topProg (loose ++ (recsOf p).map (·.name) ++ (litsOf p).map (·.1) ++ (clssOf p loose).map (·.name)) mean mg mb
  have gle : ∀ (a : Addr) (o : Obj), (ghostOf s₁.heap tabs3).get? a = some o → s₁.heap.get? a = some o := fun a o e => of_hideAll _ e
  have rt : ∀ a c, RT a = some c → ∃ t ∈ tabl, t.2.1 = a ∧ c = .tab t.1 t.2.2 := by
    intro a c e
    refine obEA (Option.map_eq_some_iff.mp e) fun t h1 h2 => ?_
    have h3 := List.find?_some h1
    exact ⟨t, List.mem_of_find?_eq_some h1, by simpa using h3, h2.symm⟩
  have tt : ∀ t ∈ tabl, (t.1, t.2.1) ∈ tabs3 := by decide +kernel
  have rt2 : ∀ t ∈ tabl, RT t.2.1 = some (.tab t.1 t.2.2) := by
    intro t ht
    simp only [tabl, List.mem_cons, List.not_mem_nil, or_false] at ht
    rcases ht with rfl | rfl | rfl <;> rfl
  have C0 : Core (WW hK w topProg (loose ++ (recsOf p).map (·.name) ++ (litsOf p).map (·.1) ++ (clssOf p loose).map (·.name)) mean mg mb) (fun a => (ghostOf s₁.heap tabs3).get? a) [] RT s₁.heap := by
    refine ⟨gle, fun a c e => ?_, fun a c e => ?_⟩
    · refine obEAA (rt a c e) fun t h1 h2 h3 => ?_
      refine hideAll_none _ ?_
      exact List.mem_map.mpr ⟨_, tt t h1, h2⟩
    · (refine obEAA (rt a c e) ?_; rintro t h1 h2 rfl)
      subst h2
      have h4 := hT _ (tt t h1)
      refine ⟨#[], h4.2, ?_, fun pos v e => ?_, fun h' l => ?_⟩
      · exact True.intro
      · exact nosome e
      · (refine obEE h4.1 ?_; rintro o vs ⟨file, tf, flags, tg, inF, text, tt', e1, r1, r2⟩)
        exact ⟨o, vs, file, tf, flags, tg, inF, text, tt', l _ _ (ghost_get hT e1 (fun q => by rw [q] at r1; cases r1)), r1, r2⟩
  have B0 : (WW hK w topProg (loose ++ (recsOf p).map (·.name) ++ (litsOf p).map (·.1) ++ (clssOf p loose).map (·.name)) mean mg mb).Base fun a => (ghostOf s₁.heap tabs3).get? a := fun h l => ⟨KG.keeps l, TG.keeps l⟩
  unfold ofPy at hw
  cases hw with
  | @list _ vs _ hg hall =>
    refine snd_sq hk 40 343 0 (.fn 732) _ _ _ hlaw callerA _ RT [] s₁ (.ref 732) [.ref a2] Q E ⟨rfl, by decide +kernel, by decide +kernel⟩ B0 C0 ⟨rfl, fun k a p e => by simp at e, rt2⟩ .fn (.cons (.lst (n := 0) ?_ (reps_ints hall)) .nil) ?_
    · refine ghost_ne hg fun hm => ?_
      refine obEA (List.mem_map.mp hm) fun q hq e => ?_
      have h5 := (hT q hq).2
      rw [e, hg] at h5
      cases h5
    · intro v p cs' H' R' ca' s' hp B C G r x q
      subst hp
      cases r
      refine hQ s' q.os q.gens (fun b o e => x.pres b o (gle b o e) fun c ec => ?_) ?_
      · have := C0.hid b c ec
        rw [e] at this
        exact nosome' this
      · have g : ∀ t ∈ tabl, GrownAt t.2.1 s'.heap := fun t ht => by
          refine obEA (C.reg _ _ (G.tabs t ht)) fun ps h6 u_ => ?_
          exact ⟨ps, h6⟩
        exact ⟨g _ (.head _), g _ (.tail _ (.head _)), g _ (.tail _ (.tail _ (.head _))), trivial⟩
theorem good_ {c : ClaimW} {cl : Str → Option Addr} {mean : ExcName → Option Value} {args : List WData} {s₁ s' : Shared} (hT : TabsAt tabs3 s₁.heap) (hg0 : s₁.gens = #[]) (h1 : s'.os = s₁.os) (h2 : s'.gens = s₁.gens) (h3 : ∀ b o, (ghostOf s₁.heap tabs3).get? b = some o → s'.heap.get? b = some o) (h4 : GrownAll tabs3 s'.heap)
    (hr : ∀ x, c.raises args x = false) (hp : c.post args (.bool true) args = true) : GoodWG c cl mean args s₁ (.ok (.ret (.bool true))) s' := by
  have keep : ∀ b o, b ∉ tabs3.map (·.2) → s₁.heap.get? b = some o → s'.heap.get? b = some o := fun b o hb e => h3 b o (ghost_ne e hb)
  have grown : ∀ b o, b ∈ tabs3.map (·.2) → s₁.heap.get? b = some o → isCodeTable s₁.heap b ∧ o = tabObj #[] ∧ ∃ ps, s'.heap.get? b = some (tabObj ps) := fun b o hb e => by
    (refine obEA (List.mem_map.mp hb) ?_; rintro q hq rfl)
    have e2 := (hT q hq).2
    rw [e] at e2
    exact ⟨((hT q hq).1.tab (hT q hq).2).isCodeTable, Option.some.inj e2, h4.get q hq⟩
  refine ⟨.inl ⟨.bool true, .bool true, [], rfl, hr, .bool _, hp, fun u_ => ⟨.nil, fun a h => nomatch h⟩⟩, ⟨fun b o e => ?_, fun b o e => ?_⟩, h1, .of_eq (h2.trans hg0)⟩
  · by_cases hb : b ∈ tabs3.map (·.2)
    · (refine obAA (grown b o hb e) ?_; rintro ht rfl ⟨ps, hP⟩)
      exact .inr (.inl ⟨ht, rfl, #[], ps, rfl, by rw [Array.empty_append]; exact hP⟩)
    · exact .inl (keep b o hb e)
  · by_cases hb : b ∈ tabs3.map (·.2)
    · (refine obAA (grown b o hb e) ?_; rintro _ _ ⟨ps, hP⟩)
      exact ⟨_, hP⟩
    · exact ⟨o, keep b o hb e⟩
theorem bits_ok {ns : List Int} (h : PyData.layable0 (.list (ns.map .int)) = true) : ∀ n ∈ ns, n.natAbs.log2 < 1999990 := by
  intro n hn
  have h2 : Builtin.Int.intBits n ≤ 2 ^ 20 := PyData.bits_item_of_ints h hn
  by_cases h0 : n.natAbs = 0
  · rw [h0]; decide +kernel
  · have h3 : Builtin.Int.intBits n ≤ 1048576 := h2
    unfold Builtin.Int.intBits at h3
    split at h3 <;> first | omega | (exfalso; simp_all; done)
end
section
inductive Ex where
  | var (x : Str)
  | lit (n : Int)
  | err
  | add (a b : Ex)
  | con1 (c : Str) (a : Ex)
  | con2 (c : Str) (a b : Ex)
  | app3 (f : Str) (a b c : Ex)
  | app4 (f : Str) (a b c d : Ex)
  | opn (x n l r : Str) (b : Ex)
  | zer (x n : Str) (a b : Ex)
  | two (x n u : Str) (a : Ex) (v : Str) (b : Ex)
  | lett (x : Str) (e b : Ex)
noncomputable abbrev Dct := List (Str × PV)
noncomputable abbrev pvar (x : Str) : PV := .ins 59 [("name", .str x)]
noncomputable abbrev plit (n : Int) : PV := .ins 101 [("kind", .str "int"), ("value", .int n)]
noncomputable abbrev palt (key : PV) (names : List PV) (body : PV) : PV := .ins 242 [("key", key), ("names", .lst names), ("body", body)]
noncomputable abbrev keyCon (c : Str) : PV := .tup [.str "con", .str c]
noncomputable abbrev keyZero : PV := .tup [.str "lit", .str "int", .int 0]
noncomputable abbrev pcase (x n : Str) (alts : List PV) (other : PV) : PV := .ins 282 [("value", pvar x), ("name", .str n), ("alts", .lst alts), ("other", other)]
noncomputable def pv : Ex → PV
  | .var x => pvar x
  | .lit n => plit n
  | .err => .ins 362 [("op", .str "error"), ("args", .lst [plit 0])]
  | .add a b => .ins 362 [("op", .str "intAdd"), ("args", .lst [pv a, pv b])]
  | .con1 c a => .ins 322 [("name", .str c), ("args", .lst [pv a])]
  | .con2 c a b => .ins 322 [("name", .str c), ("args", .lst [pv a, pv b])]
  | .app3 f a b c => .ins 141 [("fun", pvar f), ("args", .lst [pv a, pv b, pv c])]
  | .app4 f a b c d => .ins 141 [("fun", pvar f), ("args", .lst [pv a, pv b, pv c, pv d])]
  | .opn x n l r b => pcase x n [palt (keyCon "P") [.str l, .str r] (pv b)] .none
  | .zer x n a b => pcase x n [palt keyZero [] (pv a)] (pv b)
  | .two x n u a v b => pcase x n [palt (keyCon "C") [.str u] (pv a), palt (keyCon "D") [.str v] (pv b)] .none
  | .lett x e b => .ins 221 [("binds", .lst [.tup [.str x, pv e]]), ("body", pv b), ("is_rec", .bool false)]
theorem pv_ins (e : Ex) : ∃ C l, pv e = .ins C l := by cases e <;> exact ⟨_, _, rfl⟩
noncomputable abbrev plam (ps : List PV) (b : Ex) : PV := .ins 183 [("params", .lst ps), ("body", pv b)]
noncomputable abbrev th (e : Ex) (ρ : Dct) : PV := .tup [pv e, .dct ρ]
noncomputable abbrev kn (v : PV) : PV := .tup [.str "known", v]
inductive Ev (tops : Dct) : Ex → Dct → Nat → PV → Prop where
  | lit {n : Int} {ρ : Dct} : Ev tops (.lit n) ρ 1 (.int n)
  | err {ρ : Dct} : Ev tops .err ρ 1 (.str "error")
  | con1 {c : Str} {a : Ex} {ρ : Dct} : Ev tops (.con1 c a) ρ 1 (.tup [.str c, .lst [th a ρ]])
  | con2 {c : Str} {a b : Ex} {ρ : Dct} : Ev tops (.con2 c a b) ρ 1 (.tup [.str c, .lst [th a ρ, th b ρ]])
  | var {x : Str} {e : Ex} {ρ ρ' : Dct} {k : Nat} {r : PV} : dget ρ x = some (th e ρ') → Ev tops e ρ' k r → Ev tops (.var x) ρ (k + 1) r
  | known {x : Str} {v : PV} {ρ : Dct} : dget ρ x = some (kn v) → Ev tops (.var x) ρ 1 v
  | app3 {f p q s : Str} {a b c e : Ex} {ρ : Dct} {k : Nat} {r : PV} : dget tops f = some (plam [.str p, .str q, .str s] e) → Ev tops e (dset (dset (dset [] p (th a ρ)) q (th b ρ)) s (th c ρ)) k r → Ev tops (.app3 f a b c) ρ (k + 1) r
  | app4 {f p q s t : Str} {a b c d e : Ex} {ρ : Dct} {k : Nat} {r : PV} : dget tops f = some (plam [.str p, .str q, .str s, .str t] e) → Ev tops e (dset (dset (dset (dset [] p (th a ρ)) q (th b ρ)) s (th c ρ)) t (th d ρ)) k r → Ev tops (.app4 f a b c d) ρ (k + 1) r
  | opn {x n l r : Str} {b : Ex} {ρ : Dct} {k k' : Nat} {ta tb res : PV} : ρ.length ≤ 100 → Ev tops (.var x) ρ k (.tup [.str "P", .lst [ta, tb]]) → Ev tops b (dset (dset (dset ρ n (kn (.tup [.str "P", .lst [ta, tb]]))) l ta) r tb) k' res → Ev tops (.opn x n l r b) ρ (k + k' + 1) res
  | opnE {x n l r : Str} {b : Ex} {ρ : Dct} {k : Nat} : Ev tops (.var x) ρ k (.str "error") → Ev tops (.opn x n l r b) ρ (k + 1) (.str "error")
  | zer0 {x n : Str} {a b : Ex} {ρ : Dct} {k k' : Nat} {res : PV} : ρ.length ≤ 100 → Ev tops (.var x) ρ k (.int 0) → Ev tops a (dset ρ n (kn (.int 0))) k' res → Ev tops (.zer x n a b) ρ (k + k' + 1) res
  | zer1 {x n : Str} {a b : Ex} {ρ : Dct} {k k' : Nat} {i : Int} {res : PV} : i ≠ 0 → ρ.length ≤ 100 → Ev tops (.var x) ρ k (.int i) → Ev tops b (dset ρ n (kn (.int i))) k' res → Ev tops (.zer x n a b) ρ (k + k' + 1) res
  | zerE {x n : Str} {a b : Ex} {ρ : Dct} {k : Nat} : Ev tops (.var x) ρ k (.str "error") → Ev tops (.zer x n a b) ρ (k + 1) (.str "error")
  | twoC {x n u v : Str} {a b : Ex} {ρ : Dct} {k k' : Nat} {t res : PV} : ρ.length ≤ 100 → Ev tops (.var x) ρ k (.tup [.str "C", .lst [t]]) → Ev tops a (dset (dset ρ n (kn (.tup [.str "C", .lst [t]]))) u t) k' res → Ev tops (.two x n u a v b) ρ (k + k' + 1) res
  | twoD {x n u v : Str} {a b : Ex} {ρ : Dct} {k k' : Nat} {t res : PV} : ρ.length ≤ 100 → Ev tops (.var x) ρ k (.tup [.str "D", .lst [t]]) → Ev tops b (dset (dset ρ n (kn (.tup [.str "D", .lst [t]]))) v t) k' res → Ev tops (.two x n u a v b) ρ (k + k' + 1) res
  | lett {x : Str} {e b : Ex} {ρ : Dct} {k : Nat} {res : PV} : ρ.length ≤ 100 → Ev tops b (dset ρ x (th e ρ)) k res → Ev tops (.lett x e b) ρ (k + 1) res
  | add {a b : Ex} {ρ : Dct} {k k' : Nat} {i j : Int} : Ev tops a ρ k (.int i) → Ev tops b ρ k' (.int j) → Ev tops (.add a b) ρ (k + k' + 1) (.int (i + j))
  | addE1 {a b : Ex} {ρ : Dct} {k : Nat} : Ev tops a ρ k (.str "error") → Ev tops (.add a b) ρ (k + 1) (.str "error")
  | addE2 {a b : Ex} {ρ : Dct} {k k' : Nat} {i : Int} : Ev tops a ρ k (.int i) → Ev tops b ρ k' (.str "error") → Ev tops (.add a b) ρ (k + k' + 1) (.str "error")
theorem bc_val {fr : List (Str × Bind)} {pre : List PV} {c : PV} : BR.cont ⟨fr, pre ++ [c]⟩ (.val (.cel pre.length)) = some c := by
  show (pre ++ [c])[pre.length]? = some c
  simp
theorem bp_val {fr : List (Str × Bind)} {pre : List PV} {c c' : PV} : BR.put ⟨fr, pre ++ [c]⟩ c' (.val (.cel pre.length)) = some ⟨fr, pre ++ [c']⟩ := by
  show (if pre.length < (pre ++ [c]).length then some (St.mk fr ((pre ++ [c]).set pre.length c')) else none) = _
  rw [if_pos (by simp)]
  simp
theorem sfits_of {n : Nat} (h : n ≤ 1000) : sfits n = true := Nat.ble_eq_true_of_le (Nat.le_trans (Nat.succ_le_succ h) (show 1001 ≤ 1048576 from Nat.le_of_ble_eq_true rfl))
theorem dset_len {α : Type} [DecidableEq α] (l : List (α × PV)) (k : α) (p : PV) : (dset l k p).length ≤ l.length + 1 := by
  induction l with
  | nil => simp [dset]
  | cons e l ih =>
    show (if _ then _ else _ : List (α × PV)).length ≤ _
    by_cases h : e.1 = k
    · rw [if_pos h]; exact Nat.le_succ _
    · rw [if_neg h]; exact Nat.succ_le_succ ih
end
section
theorem dget_dset {α : Type} [DecidableEq α] (l : List (α × PV)) (x y : α) (p : PV) : dget (dset l x p) y = if x = y then some p else dget l y := by
  induction l with
  | nil =>
    simp only [dset, dget]
  | cons e l ih =>
    obtain ⟨z, q⟩ := e
    unfold dset
    by_cases h : z = x
    · subst h
      rw [if_pos rfl]
      simp only [dget]
      split <;> rfl
    · rw [if_neg h]
      simp only [dget]
      rw [ih]
      by_cases h2 : z = y
      · subst h2; rw [if_pos rfl, if_neg (fun q => h q.symm), if_pos rfl]
      · rw [if_neg h2, if_neg h2]
inductive Ty where
  | pair | two | int
noncomputable def EB (tops : Dct) (e : Ex) (ρ : Dct) (n : Nat) (r : PV) : Prop := ∃ k, k ≤ n ∧ Ev tops e ρ k r
noncomputable def L (ρ : Dct) (m : Nat) : Prop := ρ.length + m ≤ 100
section
variable {tops : Dct} {ρ ρ' : Dct} {e a b : Ex} {n n' m m' : Nat} {r t res : PV} {x : Str}
theorem L.nil : L [] 100 := Nat.le_refl 100
theorem L.le (h : L ρ m) : ρ.length ≤ 100 := Nat.le_trans (Nat.le_add_right ..) h
theorem L.wk (h : L ρ m) (k : n ≤ m) : L ρ n := Nat.le_trans (Nat.add_le_add_left k _) h
theorem L.set (h : L ρ (m + 1)) : L (dset ρ x t) m := Nat.le_trans (Nat.add_le_add_right (dset_len ρ x t) m) (by rw [Nat.add_assoc, Nat.add_comm 1]; exact h)
theorem L.p (h : L ρ (max n m)) : L ρ n := h.wk (Nat.le_max_left ..)
theorem L.q (h : L ρ (max n m)) : L ρ m := h.wk (Nat.le_max_right ..)
theorem EB.wk (h : EB tops e ρ n r) (l : n ≤ m) : EB tops e ρ m r := h.elim fun u_ x => ⟨_, Nat.le_trans x.1 l, x.2⟩
theorem EB.lit {i : Int} : EB tops (.lit i) ρ 1 (.int i) := ⟨1, Nat.le_refl _, .lit⟩
theorem EB.err : EB tops .err ρ 1 (.str "error") := ⟨1, Nat.le_refl _, .err⟩
theorem EB.con1 {c : Str} : EB tops (.con1 c a) ρ 1 (.tup [.str c, .lst [th a ρ]]) := ⟨1, Nat.le_refl _, .con1⟩
theorem EB.con2 {c : Str} : EB tops (.con2 c a b) ρ 1 (.tup [.str c, .lst [th a ρ, th b ρ]]) := ⟨1, Nat.le_refl _, .con2⟩
theorem EB.var (h : dget ρ x = some (th e ρ')) (v : EB tops e ρ' n r) : EB tops (.var x) ρ (n + 1) r := v.elim fun u_ y => ⟨_, Nat.succ_le_succ y.1, .var h y.2⟩
theorem EB.known (h : dget ρ x = some (kn r)) : EB tops (.var x) ρ (n + 1) r := ⟨1, Nat.succ_le_succ (Nat.zero_le _), .known h⟩
theorem EB.app3 {f p q s : Str} {d : Ex} (h : dget tops f = some (plam [.str p, .str q, .str s] e)) (v : EB tops e (dset (dset (dset [] p (th a ρ)) q (th b ρ)) s (th d ρ)) n r) : EB tops (.app3 f a b d) ρ (n + 1) r := v.elim fun u_ y => ⟨_, Nat.succ_le_succ y.1, .app3 h y.2⟩
theorem EB.app4 {f p q s u : Str} {d g : Ex} (h : dget tops f = some (plam [.str p, .str q, .str s, .str u] e)) (v : EB tops e (dset (dset (dset (dset [] p (th a ρ)) q (th b ρ)) s (th d ρ)) u (th g ρ)) n r) : EB tops (.app4 f a b d g) ρ (n + 1) r := v.elim fun u_ y => ⟨_, Nat.succ_le_succ y.1, .app4 h y.2⟩
theorem EB.lett (l : L ρ m) (v : EB tops b (dset ρ x (th e ρ)) n r) : EB tops (.lett x e b) ρ (n + 1) r := v.elim fun u_ y => ⟨_, Nat.succ_le_succ y.1, .lett l.le y.2⟩
theorem le_s {k k' n n' : Nat} (h : k ≤ n) (h' : k' ≤ n') : k + k' + 1 ≤ n + n' + 1 := Nat.succ_le_succ (Nat.add_le_add h h')
theorem le_e {k n n' : Nat} (h : k ≤ n) : k + 1 ≤ n + n' + 1 := Nat.succ_le_succ (Nat.le_trans h (Nat.le_add_right ..))
theorem EB.opn {y l rr : Str} {ta tb : PV} (k : L ρ m) (v : EB tops (.var x) ρ n (.tup [.str "P", .lst [ta, tb]])) (w : EB tops b (dset (dset (dset ρ y (kn (.tup [.str "P", .lst [ta, tb]]))) l ta) rr tb) n' res) : EB tops (.opn x y l rr b) ρ (n + n' + 1) res := v.elim fun u_ v => w.elim fun u_ w => ⟨_, le_s v.1 w.1, .opn k.le v.2 w.2⟩
theorem EB.opnE {y l rr : Str} (v : EB tops (.var x) ρ n (.str "error")) : EB tops (.opn x y l rr b) ρ (n + n' + 1) (.str "error") := v.elim fun u_ v => ⟨_, le_e v.1, .opnE v.2⟩
theorem EB.zer0 {y : Str} (k : L ρ m) (v : EB tops (.var x) ρ n (.int 0)) (w : EB tops a (dset ρ y (kn (.int 0))) n' res) : EB tops (.zer x y a b) ρ (n + n' + 1) res := v.elim fun u_ v => w.elim fun u_ w => ⟨_, le_s v.1 w.1, .zer0 k.le v.2 w.2⟩
theorem EB.zer1 {y : Str} {i : Int} (hi : i ≠ 0) (k : L ρ m) (v : EB tops (.var x) ρ n (.int i)) (w : EB tops b (dset ρ y (kn (.int i))) n' res) : EB tops (.zer x y a b) ρ (n + n' + 1) res := v.elim fun u_ v => w.elim fun u_ w => ⟨_, le_s v.1 w.1, .zer1 hi k.le v.2 w.2⟩
theorem EB.zerE {y : Str} (v : EB tops (.var x) ρ n (.str "error")) : EB tops (.zer x y a b) ρ (n + n' + 1) (.str "error") := v.elim fun u_ v => ⟨_, le_e v.1, .zerE v.2⟩
theorem EB.twoC {y u z : Str} (k : L ρ m) (v : EB tops (.var x) ρ n (.tup [.str "C", .lst [t]])) (w : EB tops a (dset (dset ρ y (kn (.tup [.str "C", .lst [t]]))) u t) n' res) : EB tops (.two x y u a z b) ρ (n + n' + 1) res := v.elim fun u_ v => w.elim fun u_ w => ⟨_, le_s v.1 w.1, .twoC k.le v.2 w.2⟩
theorem EB.twoD {y u z : Str} (k : L ρ m) (v : EB tops (.var x) ρ n (.tup [.str "D", .lst [t]])) (w : EB tops b (dset (dset ρ y (kn (.tup [.str "D", .lst [t]]))) z t) n' res) : EB tops (.two x y u a z b) ρ (n + n' + 1) res := v.elim fun u_ v => w.elim fun u_ w => ⟨_, le_s v.1 w.1, .twoD k.le v.2 w.2⟩
theorem EB.add {i j : Int} (v : EB tops a ρ n (.int i)) (w : EB tops b ρ n' (.int j)) : EB tops (.add a b) ρ (n + n' + 1) (.int (i + j)) := v.elim fun u_ v => w.elim fun u_ w => ⟨_, le_s v.1 w.1, .add v.2 w.2⟩
theorem EB.addE1 (v : EB tops a ρ n (.str "error")) : EB tops (.add a b) ρ (n + n' + 1) (.str "error") := v.elim fun u_ v => ⟨_, le_e v.1, .addE1 v.2⟩
theorem EB.addE2 {i : Int} (v : EB tops a ρ n (.int i)) (w : EB tops b ρ n' (.str "error")) : EB tops (.add a b) ρ (n + n' + 1) (.str "error") := v.elim fun u_ v => w.elim fun u_ w => ⟨_, le_s v.1 w.1, .addE2 v.2 w.2⟩
theorem dg0 {l : Dct} {x : Str} {p : PV} : dget (dset l x p) x = some p := by rw [dget_dset, if_pos rfl]
theorem dg {l : Dct} {x y : Str} {p : PV} {o : Option PV} (h : dget l y = o) (n : x ≠ y) : dget (dset l x p) y = o := by rw [dget_dset, if_neg n]; exact h
end
noncomputable def Side (tops : Dct) (c : Nat) (t r : PV) : Prop := (∃ e ρ, t = th e ρ ∧ EB tops e ρ c r) ∨ t = kn r
noncomputable def RI (r r' : PV) : Prop := (∃ i, r = .int i ∧ r' = .int i) ∨ (r = .str "error" ∧ r' = .str "error")
section
variable (tops tops' : Dct)
noncomputable def TI (c c' : Nat) (t t' : PV) : Prop := ∃ r r', Side tops c t r ∧ Side tops' c' t' r' ∧ RI r r'
noncomputable def RR (c c' : Nat) : Ty → PV → PV → Prop
  | .int, r, r' => RI r r'
  | .pair, r, r' => (∃ ta tb ta' tb', r = .tup [.str "P", .lst [ta, tb]] ∧ r' = .tup [.str "P", .lst [ta', tb']] ∧ TI tops tops' c c' ta ta' ∧ TI tops tops' c c' tb tb') ∨ (r = .str "error" ∧ r' = .str "error")
  | .two, r, r' => ∃ t t', TI tops tops' c c' t t' ∧ ((r = .tup [.str "C", .lst [t]] ∧ r' = .tup [.str "C", .lst [t']]) ∨ (r = .tup [.str "D", .lst [t]] ∧ r' = .tup [.str "D", .lst [t']]))
noncomputable def TR (c c' : Nat) (τ : Ty) (t t' : PV) : Prop := ∃ r r', Side tops c t r ∧ Side tops' c' t' r' ∧ RR tops tops' c c' τ r r'
noncomputable abbrev Ctx := List (Str × Ty)
noncomputable def Has (c c' : Nat) (ρ ρ' : Dct) (x : Str) (τ : Ty) : Prop := ∃ t t', dget ρ x = some t ∧ dget ρ' x = some t' ∧ TR tops tops' c c' τ t t'
noncomputable def ER (c c' : Nat) (Γ : Ctx) (ρ ρ' : Dct) : Prop := ∀ x τ, Γ.lookup x = some τ → Has tops tops' c c' ρ ρ' x τ
end
inductive Wt (Φ : Str → Prop) : Ctx → Ex → Ty → Prop where
  | var {Γ : Ctx} {x : Str} {τ : Ty} : Γ.lookup x = some τ → Wt Φ Γ (.var x) τ
  | lit {Γ : Ctx} {n : Int} : Wt Φ Γ (.lit n) .int
  | err {Γ : Ctx} : Wt Φ Γ .err .int
  | errP {Γ : Ctx} : Wt Φ Γ .err .pair
  | add {Γ : Ctx} {a b : Ex} : Wt Φ Γ a .int → Wt Φ Γ b .int → Wt Φ Γ (.add a b) .int
  | con1 {Γ : Ctx} {c : Str} {a : Ex} : (c = "C" ∨ c = "D") → Wt Φ Γ a .int → Wt Φ Γ (.con1 c a) .two
  | con2 {Γ : Ctx} {a b : Ex} : Wt Φ Γ a .int → Wt Φ Γ b .int → Wt Φ Γ (.con2 "P" a b) .pair
  | app3 {Γ : Ctx} {f : Str} {a b c : Ex} : Φ f → Wt Φ Γ a .pair → Wt Φ Γ b .two → Wt Φ Γ c .int → Wt Φ Γ (.app3 f a b c) .int
  | opn {Γ : Ctx} {x n l r : Str} {b : Ex} : Γ.lookup x = some .pair → Wt Φ ((r, .int) :: (l, .int) :: (n, .pair) :: Γ) b .int → Wt Φ Γ (.opn x n l r b) .int
  | zer {Γ : Ctx} {x n : Str} {a b : Ex} : Γ.lookup x = some .int → Wt Φ ((n, .int) :: Γ) a .int → Wt Φ ((n, .int) :: Γ) b .int → Wt Φ Γ (.zer x n a b) .int
  | two {Γ : Ctx} {x n u v : Str} {a b : Ex} : Γ.lookup x = some .two → Wt Φ ((u, .int) :: (n, .two) :: Γ) a .int → Wt Φ ((v, .int) :: (n, .two) :: Γ) b .int → Wt Φ Γ (.two x n u a v b) .int
noncomputable def cs (F : Nat → Nat) (c : Nat) : Ex → Nat × Nat
  | .var _ => (c + 1, c + 1)
  | .add a b => ((cs F c a).1 + (cs F c b).1 + 1, (cs F c a).1 + (cs F c b).1 + 1)
  | .con1 _ a => (1, max 1 (cs F c a).1)
  | .con2 _ a b => (1, max 1 (max (cs F c a).1 (cs F c b).1))
  | .app3 _ a b d => (F ((cs F c a).2 + (cs F c b).2 + (cs F c d).2), F ((cs F c a).2 + (cs F c b).2 + (cs F c d).2))
  | .opn _ _ _ _ b => ((c + 1) + (cs F c b).1 + 1, (c + 1) + (cs F c b).1 + 1)
  | .zer _ _ a b => ((c + 1) + max (cs F c a).1 (cs F c b).1 + 1, (c + 1) + max (cs F c a).1 (cs F c b).1 + 1)
  | .two _ _ _ a _ b => ((c + 1) + max (cs F c a).1 (cs F c b).1 + 1, (c + 1) + max (cs F c a).1 (cs F c b).1 + 1)
  | _ => (1, 1)
noncomputable abbrev cost (F : Nat → Nat) (e : Ex) (c : Nat) : Nat := (cs F c e).1
noncomputable abbrev sub (F : Nat → Nat) (e : Ex) (c : Nat) : Nat := (cs F c e).2
noncomputable def bd : Ex → Nat
  | .opn _ _ _ _ b => bd b + 3
  | .zer _ _ a b => max (bd a) (bd b) + 1
  | .two _ _ _ a _ b => max (bd a) (bd b) + 2
  | .add a b => max (bd a) (bd b)
  | .con1 _ a => bd a
  | .con2 _ a b => max (bd a) (bd b)
  | .app3 _ a b c => max (bd a) (max (bd b) (bd c))
  | _ => 0
noncomputable def Runs (tops tops' : Dct) (e : Ex) (ρ : Dct) (e' : Ex) (ρ' : Dct) (n n' : Nat) (R : PV → PV → Prop) : Prop := ∃ r r', (EB tops e ρ n r ∧ EB tops' e' ρ' n' r') ∧ R r r'
noncomputable def Contract (tops tops' : Dct) (f : Str) (F F' : Nat → Nat) : Prop := ∀ c c' a b d ρ a' b' d' ρ', TR tops tops' c c' .pair (th a ρ) (th a' ρ') → TR tops tops' c c' .two (th b ρ) (th b' ρ') → TR tops tops' c c' .int (th d ρ) (th d' ρ') →
  Runs tops tops' (.app3 f a b d) ρ (.app3 f a' b' d') ρ' (F c) (F' c') RI
section
variable {tops tops' : Dct} {c c' d d' n n' m m' : Nat} {Γ : Ctx} {ρ ρ' : Dct} {τ : Ty} {t t' r r' : PV} {e e' : Ex}
theorem Side.mono (x : Side tops c t r) (h : c ≤ d) : Side tops d t r := x.imp (fun ⟨e, ρ, h1, h2⟩ => ⟨e, ρ, h1, h2.wk h⟩) id
theorem TI.mono (x : TI tops tops' c c' t t') (h : c ≤ d) (h' : c' ≤ d') : TI tops tops' d d' t t' := x.elim fun r x => x.elim fun r' x => ⟨r, r', x.1.mono h, x.2.1.mono h', x.2.2⟩
theorem RR.mono (x : RR tops tops' c c' τ r r') (h : c ≤ d) (h' : c' ≤ d') : RR tops tops' d d' τ r r' := by
  cases τ with
  | int => exact x
  | pair =>
    rcases x with ⟨ta, tb, ta', tb', e1, e2, x1, x2⟩ | x
    · exact .inl ⟨ta, tb, ta', tb', e1, e2, x1.mono h h', x2.mono h h'⟩
    · exact .inr x
  | two => (refine obEEA x ?_; try clear x; rintro t t' x e); exact ⟨t, t', x.mono h h', e⟩
theorem TR.mono (x : TR tops tops' c c' τ t t') (h : c ≤ d) (h' : c' ≤ d') : TR tops tops' d d' τ t t' := x.elim fun r x => x.elim fun r' x => ⟨r, r', x.1.mono h, x.2.1.mono h', x.2.2.mono h h'⟩
theorem ER.cons {y : Str} (z : Has tops tops' c c' ρ ρ' y τ) (x : ER tops tops' c c' Γ ρ ρ') : ER tops tops' c c' ((y, τ) :: Γ) ρ ρ' := by
  intro u σ e
  by_cases h : u = y
  · subst h
    rw [List.lookup_cons_self] at e
    (replace e := Option.some.inj e; subst e)
    exact z
  · rw [List.lookup_cons, beq_false_of_ne h] at e
    exact x u σ e
theorem ER.nil : ER tops tops' c c' [] ρ ρ' := fun u_ u_ e => nomatch e
theorem ER.set (x : ER tops tops' c c' Γ ρ ρ') (y : Str) (z : TR tops tops' c c' τ t t') : ER tops tops' c c' ((y, τ) :: Γ) (dset ρ y t) (dset ρ' y t') := by
  intro u σ e
  by_cases h : u = y
  · subst h
    rw [List.lookup_cons_self] at e
    (replace e := Option.some.inj e; subst e)
    exact ⟨t, t', dg0, dg0, z⟩
  · rw [List.lookup_cons, beq_false_of_ne h] at e
    refine obEEAA (x u σ e) fun s s' a b z => ?_
    exact ⟨s, s', dg a (Ne.symm h), dg b (Ne.symm h), z⟩
theorem TI.int (x : TI tops tops' c c' t t') : TR tops tops' c c' .int t t' := x
theorem var_run {x : Str} (e : dget ρ x = some t) (h : Side tops c t r) : EB tops (.var x) ρ (c + 1) r := by
  rcases h with ⟨e1, ρ1, rfl, h⟩ | rfl
  · exact .var e h
  · exact .known e
theorem known_side : Side tops c (kn r) r := .inr rfl
theorem side_of (v : EB tops e ρ n r) (h : n ≤ c) : Side tops c (th e ρ) r := .inl ⟨e, ρ, rfl, v.wk h⟩
theorem ER.run (x : ER tops tops' c c' Γ ρ ρ') {y : Str} (h : Γ.lookup y = some τ) : Runs tops tops' (.var y) ρ (.var y) ρ' (c + 1) (c' + 1) (RR tops tops' c c' τ) := by
  (refine obEEAA (x _ _ h) ?_; rintro t t' e1 e2 ⟨r, r', s1, s2, z⟩)
  exact ⟨r, r', ⟨var_run e1 s1, var_run e2 s2⟩, z⟩
theorem Runs.tr (x : Runs tops tops' e ρ e' ρ' n n' (RR tops tops' m m' τ)) (h1 : n ≤ m) (h2 : n' ≤ m') (h3 : m ≤ c) (h4 : m' ≤ c') : TR tops tops' c c' τ (th e ρ) (th e' ρ') := by
  (refine obEEA x fun r r' v z => ?_; try clear x)
  exact ⟨r, r', side_of v.1 (Nat.le_trans h1 h3), side_of v.2 (Nat.le_trans h2 h4), z.mono h3 h4⟩
theorem Runs.mono {R : PV → PV → Prop} (x : Runs tops tops' e ρ e' ρ' n n' R) (h1 : n ≤ m) (h2 : n' ≤ m') : Runs tops tops' e ρ e' ρ' m m' R := by
  (refine obEEA x fun r r' v z => ?_; try clear x)
  exact ⟨r, r', ⟨v.1.wk h1, v.2.wk h2⟩, z⟩
theorem cost_sub_le {F : Nat → Nat} {e : Ex} {c : Nat} : cost F e c ≤ sub F e c := by
  induction e using Ex.casesOn with
  | con1 => exact Nat.le_max_left ..
  | con2 => exact Nat.le_max_left ..
  | _ => exact Nat.le_refl _
theorem ER.int (x : ER tops tops' c c' Γ ρ ρ') (y : Str) (i : Int) : ER tops tops' c c' ((y, .int) :: Γ) (dset ρ y (kn (.int i))) (dset ρ' y (kn (.int i))) := x.set y (τ := .int) ⟨_, _, known_side, known_side, .inl ⟨i, rfl, rfl⟩⟩
theorem ER.opn (x : ER tops tops' c c' Γ ρ ρ') (y l rr : Str) {ta tb ta' tb' : PV} (x1 : TI tops tops' c c' ta ta') (x2 : TI tops tops' c c' tb tb') : ER tops tops' c c' ((rr, .int) :: (l, .int) :: (y, .pair) :: Γ) (dset (dset (dset ρ y (kn (.tup [.str "P", .lst [ta, tb]]))) l ta) rr tb) (dset (dset (dset ρ' y (kn (.tup [.str "P", .lst [ta', tb']]))) l ta') rr tb') :=
  ((x.set (τ := .pair) y ⟨_, _, known_side, known_side, .inl ⟨ta, tb, ta', tb', rfl, rfl, x1, x2⟩⟩).set l x1.int).set rr x2.int
theorem le3a {a b d : Nat} : a ≤ a + b + d := Nat.le_trans (Nat.le_add_right ..) (Nat.le_add_right ..)
theorem le3b {a b d : Nat} : b ≤ a + b + d := Nat.le_trans (Nat.le_add_left ..) (Nat.le_add_right ..)
theorem le3c {a b d : Nat} : d ≤ a + b + d := Nat.le_add_left ..
theorem RIe : RI (.str "error") (.str "error") := .inr ⟨rfl, rfl⟩
theorem RIi {i : Int} : RI (.int i) (.int i) := .inl ⟨i, rfl, rfl⟩
theorem fund {Φ : Str → Prop} {F F' : Nat → Nat} (hF : ∀ f, Φ f → Contract tops tops' f F F') {e : Ex} (w : Wt Φ Γ e τ) : ∀ {c c' : Nat} {ρ ρ' : Dct}, ER tops tops' c c' Γ ρ ρ' → L ρ (bd e) → L ρ' (bd e) →
    Runs tops tops' e ρ e ρ' (cost F e c) (cost F' e c') (RR tops tops' (sub F e c) (sub F' e c') τ) := by
  induction w with
  | var e =>
    intro c c' ρ ρ' x h h'
    refine obEEA (x.run e) fun r r' v z => ?_
    exact ⟨r, r', v, z.mono (Nat.le_succ _) (Nat.le_succ _)⟩
  | lit => intro c c' ρ ρ' x h h'; exact ⟨_, _, ⟨.lit, .lit⟩, RIi⟩
  | err => intro c c' ρ ρ' x h h'; exact ⟨_, _, ⟨.err, .err⟩, RIe⟩
  | errP => intro c c' ρ ρ' x h h'; exact ⟨_, _, ⟨.err, .err⟩, .inr ⟨rfl, rfl⟩⟩
  | add _ _ ih1 ih2 =>
    intro c c' ρ ρ' x h h'
    refine obEEA (ih1 x h.p h'.p) fun r r' v z => ?_
    rcases z with ⟨i, rfl, rfl⟩ | ⟨rfl, rfl⟩
    · refine obEEA (ih2 x h.q h'.q) fun q q' w y => ?_
      rcases y with ⟨j, rfl, rfl⟩ | ⟨rfl, rfl⟩
      · exact ⟨_, _, ⟨.add v.1 w.1, .add v.2 w.2⟩, RIi⟩
      · exact ⟨_, _, ⟨.addE2 v.1 w.1, .addE2 v.2 w.2⟩, RIe⟩
    · exact ⟨_, _, ⟨.addE1 v.1, .addE1 v.2⟩, RIe⟩
  | @con1 Γ cn a hc _ ih =>
    intro c c' ρ ρ' x h h'
    refine obEEA (ih x h h') fun r r' v z => ?_
    refine ⟨_, _, ⟨.con1, .con1⟩, th a ρ, th a ρ', ⟨r, r', side_of v.1 (Nat.le_max_right ..), side_of v.2 (Nat.le_max_right ..), z⟩, ?_⟩
    rcases hc with rfl | rfl
    · exact .inl ⟨rfl, rfl⟩
    · exact .inr ⟨rfl, rfl⟩
  | @con2 Γ a b _ _ ih1 ih2 =>
    intro c c' ρ ρ' x h h'
    refine obEEA (ih1 x h.p h'.p) fun r r' v z => ?_
    refine obEEA (ih2 x h.q h'.q) fun q q' w y => ?_
    exact ⟨_, _, ⟨.con2, .con2⟩, .inl ⟨th a ρ, th b ρ, th a ρ', th b ρ', rfl, rfl, ⟨r, r', side_of v.1 (Nat.le_trans (Nat.le_max_left ..) (Nat.le_max_right ..)), side_of v.2 (Nat.le_trans (Nat.le_max_left ..) (Nat.le_max_right ..)), z⟩, ⟨q, q', side_of w.1 (Nat.le_trans (Nat.le_max_right ..) (Nat.le_max_right ..)), side_of w.2 (Nat.le_trans (Nat.le_max_right ..) (Nat.le_max_right ..)), y⟩⟩⟩
  | @app3 Γ f a b d hf _ _ _ ih1 ih2 ih3 =>
    intro c c' ρ ρ' x h h'
    exact hF f hf (sub F a c + sub F b c + sub F d c) (sub F' a c' + sub F' b c' + sub F' d c') a b d ρ a b d ρ' ((ih1 x h.p h'.p).tr cost_sub_le cost_sub_le le3a le3a) ((ih2 x h.q.p h'.q.p).tr cost_sub_le cost_sub_le le3b le3b) ((ih3 x h.q.q h'.q.q).tr cost_sub_le cost_sub_le le3c le3c)
  | @opn Γ y n l rr b e _ ih =>
    intro c c' ρ ρ' x h h'
    refine obEEA (x.run e) fun r r' v z => ?_
    rcases z with ⟨ta, tb, ta', tb', rfl, rfl, x1, x2⟩ | ⟨rfl, rfl⟩
    · refine obEEA (ih (x.opn n l rr x1 x2) h.set.set.set h'.set.set.set) fun q q' w y => ?_
      exact ⟨q, q', ⟨.opn h v.1 w.1, .opn h' v.2 w.2⟩, y⟩
    · exact ⟨_, _, ⟨.opnE v.1, .opnE v.2⟩, RIe⟩
  | @zer Γ y n a b e _ _ ih1 ih2 =>
    intro c c' ρ ρ' x h h'
    refine obEEA (x.run e) fun r r' v z => ?_
    rcases z with ⟨i, rfl, rfl⟩ | ⟨rfl, rfl⟩
    · by_cases hi : i = 0
      · subst hi
        refine obEEA (ih1 (x.int n 0) h.set.p h'.set.p) fun q q' w y => ?_
        exact ⟨q, q', ⟨.zer0 h v.1 (w.1.wk (Nat.le_max_left ..)), .zer0 h' v.2 (w.2.wk (Nat.le_max_left ..))⟩, y⟩
      · refine obEEA (ih2 (x.int n i) h.set.q h'.set.q) fun q q' w y => ?_
        exact ⟨q, q', ⟨.zer1 hi h v.1 (w.1.wk (Nat.le_max_right ..)), .zer1 hi h' v.2 (w.2.wk (Nat.le_max_right ..))⟩, y⟩
    · exact ⟨_, _, ⟨.zerE v.1, .zerE v.2⟩, RIe⟩
  | @two Γ y n u v a b e _ _ ih1 ih2 =>
    intro c c' ρ ρ' x h h'
    (refine obEEA (x.run e) ?_; rintro r r' vv ⟨s, s', hs, z⟩)
    rcases z with ⟨rfl, rfl⟩ | ⟨rfl, rfl⟩
    · refine obEEA (ih1 ((x.set (τ := .two) n (t := kn (.tup [.str "C", .lst [s]])) (t' := kn (.tup [.str "C", .lst [s']])) ⟨_, _, known_side, known_side, ⟨s, s', hs, .inl ⟨rfl, rfl⟩⟩⟩).set u hs.int) h.set.set.p h'.set.set.p) fun q q' w y => ?_
      exact ⟨q, q', ⟨.twoC h vv.1 (w.1.wk (Nat.le_max_left ..)), .twoC h' vv.2 (w.2.wk (Nat.le_max_left ..))⟩, y⟩
    · refine obEEA (ih2 ((x.set (τ := .two) n (t := kn (.tup [.str "D", .lst [s]])) (t' := kn (.tup [.str "D", .lst [s']])) ⟨_, _, known_side, known_side, ⟨s, s', hs, .inr ⟨rfl, rfl⟩⟩⟩).set v hs.int) h.set.set.q h'.set.set.q) fun q q' w y => ?_
      exact ⟨q, q', ⟨.twoD h vv.1 (w.1.wk (Nat.le_max_right ..)), .twoD h' vv.2 (w.2.wk (Nat.le_max_right ..))⟩, y⟩
end
end
section
section
variable {tops tops' : Dct} {c c' : Nat} {Φ : Str → Prop} {F F' : Nat → Nat} {p e n : Str} {b : Ex}
noncomputable abbrev Γ3 (p e n : Str) : Ctx := [(n, .int), (e, .two), (p, .pair)]
noncomputable abbrev args3 (p e n : Str) (a b d : PV) : Dct := dset (dset (dset [] p a) e b) n d
theorem args_L {p e n : Str} {a b d : PV} : L (args3 p e n a b d) 97 := L.nil.set.set.set
theorem args_er {a b d a' b' d' : PV} (h1 : TR tops tops' c c' .pair a a') (h2 : TR tops tops' c c' .two b b') (h3 : TR tops tops' c c' .int d d') : ER tops tops' c c' (Γ3 p e n) (args3 p e n a b d) (args3 p e n a' b' d') :=
  ((ER.set (Γ := []) ER.nil p h1).set e h2).set n h3
theorem contract_same {f : Str} (h : dget tops f = some (plam [.str p, .str e, .str n] b)) (h' : dget tops' f = some (plam [.str p, .str e, .str n] b)) (hF : ∀ f, Φ f → Contract tops tops' f F F') (w : Wt Φ (Γ3 p e n) b .int) (hb : bd b ≤ 90) :
    Contract tops tops' f (fun c => cost F b c + 1) (fun c => cost F' b c + 1) := by
  intro c c' a b1 d ρ a' b' d' ρ' h1 h2 h3
  have l : bd b ≤ 97 := Nat.le_trans hb (Nat.le_of_ble_eq_true rfl)
  refine obEEA (fund hF w (args_er (p := p) (e := e) (n := n) h1 h2 h3) (args_L.wk l) (args_L.wk l)) fun r r' v z => ?_
  exact ⟨r, r', ⟨.app3 h v.1, .app3 h' v.2⟩, z⟩
noncomputable def Strict (tops : Dct) (F : Nat → Nat) (p n : Str) (b : Ex) : Prop := ∀ c ρ t u r, L ρ (bd b) → dget ρ p = some t → Side tops c t (.str "error") → dget ρ n = some u → Side tops c u r → ((∃ i, r = .int i) ∨ r = .str "error") → EB tops b ρ (cost F b c) (.str "error")
structure Nms (p e n p' e' n' cN u1 u2 v1 v2 : Str) : Prop where
  pe : p ≠ e
  pn : p ≠ n
  en : e ≠ n
  pe' : p' ≠ e'
  pn' : p' ≠ n'
  en' : e' ≠ n'
  u12 : u1 ≠ u2
  e'c : e' ≠ cN
  e'u : e' ≠ u1
  e'u2 : e' ≠ u2
  n'c : n' ≠ cN
  n'u : n' ≠ u1
  n'u2 : n' ≠ u2
  v12 : v1 ≠ v2
  v1e : v1 ≠ e
  v1n : v1 ≠ n
  v2e : v2 ≠ e
  v2n : v2 ≠ n
theorem wrapped {f w p' e' n' cN u1 u2 v1 v2 : Str} (N : Nms p e n p' e' n' cN u1 u2 v1 v2) (h : dget tops f = some (plam [.str p, .str e, .str n] b)) (h' : dget tops' f = some (plam [.str p', .str e', .str n'] (.opn p' cN u1 u2 (.app4 w (.var u1) (.var u2) (.var e') (.var n')))))
    (hw : dget tops' w = some (plam [.str v1, .str v2, .str e, .str n] (.lett p (.con2 "P" (.var v1) (.var v2)) b))) {a b1 d a' b' d' : Ex} {ρ ρ' : Dct} {m m' : Nat} (h1 : TR tops tops' c c' .pair (th a ρ) (th a' ρ')) (h2 : TR tops tops' c c' .two (th b1 ρ) (th b' ρ')) {q q' : PV} (hq : Side tops c (th d ρ) q) (hq' : Side tops' c' (th d' ρ') q') (hqq : RI q q')
    (herr : Side tops c (th a ρ) (.str "error") → EB tops b (args3 p e n (th a ρ) (th b1 ρ) (th d ρ)) m (.str "error"))
    (hbody : ∀ ρb, L ρb 95 → ER tops tops' c (c' + 3) (Γ3 p e n) (args3 p e n (th a ρ) (th b1 ρ) (th d ρ)) ρb → (∃ u, dget ρb n = some u ∧ Side tops' (c' + 3) u q') → Runs tops tops' b (args3 p e n (th a ρ) (th b1 ρ) (th d ρ)) b ρb m m' RI) :
    Runs tops tops' (.app3 f a b1 d) ρ (.app3 f a' b' d') ρ' (m + 1) (c' + 1 + (m' + 1 + 1) + 1 + 1) RI := by
  have gp : dget (args3 p' e' n' (th a' ρ') (th b' ρ') (th d' ρ')) p' = some (th a' ρ') := dg (dg dg0 N.pe'.symm) N.pn'.symm
  (refine obEEAA h1 fun r r' s1 s2 z => ?_; try clear h1)
  have w2 := var_run gp s2
  rcases z with ⟨ta, tb, ta', tb', rfl, rfl, x1, x2⟩ | ⟨rfl, rfl⟩
  case inr => exact ⟨_, _, ⟨.app3 h (herr s1), .app3 h' (.opnE w2)⟩, RIe⟩
  obtain ⟨ρw, hρw⟩ : ∃ ρw, ρw = dset (dset (dset (args3 p' e' n' (th a' ρ') (th b' ρ') (th d' ρ')) cN (kn (.tup [.str "P", .lst [ta', tb']]))) u1 ta') u2 tb' := ⟨_, rfl⟩
  have gu1 : dget ρw u1 = some ta' := by rw [hρw]; exact dg dg0 N.u12.symm
  have gu2 : dget ρw u2 = some tb' := by rw [hρw]; exact dg0
  have gwe : dget ρw e' = some (th b' ρ') := by rw [hρw]; exact dg (dg (dg (dg dg0 N.en'.symm) N.e'c.symm) N.e'u.symm) N.e'u2.symm
  have gwn : dget ρw n' = some (th d' ρ') := by rw [hρw]; exact dg (dg (dg dg0 N.n'c.symm) N.n'u.symm) N.n'u2.symm
  obtain ⟨ρk, hρk⟩ : ∃ ρk, ρk = dset (dset (dset (dset [] v1 (th (.var u1) ρw)) v2 (th (.var u2) ρw)) e (th (.var e') ρw)) n (th (.var n') ρw) := ⟨_, rfl⟩
  have gv1 : dget ρk v1 = some (th (.var u1) ρw) := by rw [hρk]; exact dg (dg (dg dg0 N.v12.symm) N.v1e.symm) N.v1n.symm
  have gv2 : dget ρk v2 = some (th (.var u2) ρw) := by rw [hρk]; exact dg (dg dg0 N.v2e.symm) N.v2n.symm
  have gke : dget ρk e = some (th (.var e') ρw) := by rw [hρk]; exact dg dg0 N.en.symm
  have gkn : dget ρk n = some (th (.var n') ρw) := by rw [hρk]; exact dg0
  have lk : L ρk 96 := by rw [hρk]; exact L.nil.set.set.set.set
  have lift : ∀ {x : Str} {t r : PV}, dget ρw x = some t → Side tops' c' t r → Side tops' (c' + 1) (th (.var x) ρw) r := fun e s => side_of (var_run e s) (Nat.le_refl _)
  have i13 : c' + 1 ≤ c' + 3 := Nat.le_add_right (c' + 1) 2
  have ti : ∀ {ti ti' : PV} {u v : Str}, TI tops tops' c c' ti ti' → dget ρw u = some ti' → dget ρk v = some (th (.var u) ρw) → TI tops tops' c (c' + 3) ti (th (.var v) ρk) := fun x gu gv => x.elim fun r x => x.elim fun r' x => ⟨r, r', x.1, side_of (var_run gv (lift gu x.2.1)) (Nat.le_succ _), x.2.2⟩
  have sn := (lift gwn hq').mono i13
  (refine obEEAA h2 fun y y' y1 y2 y3 => ?_; try clear h2)
  refine obEEA (hbody (dset ρk p (th (.con2 "P" (.var v1) (.var v2)) ρk)) lk.set (.cons ⟨_, _, dg0, dg gkn N.pn, q, q', hq, sn, hqq⟩ (.cons ⟨_, _, dg dg0 N.en.symm, dg gke N.pe, y, y', y1, (lift gwe y2).mono i13, y3.mono (Nat.le_refl _) (Nat.le_add_right ..)⟩
    (.cons ⟨_, _, dg (dg dg0 N.pe.symm) N.pn.symm, dg0, _, _, s1, side_of .con2 (Nat.succ_le_succ (Nat.zero_le _)), .inl ⟨ta, tb, _, _, rfl, rfl, ti x1 gu1 gv1, ti x2 gu2 gv2⟩⟩ .nil))) ⟨_, dg gkn N.pn, sn⟩) fun z z' v zz => ?_
  subst hρk; subst hρw
  exact ⟨z, z', ⟨.app3 h v.1, .app3 h' (.opn args_L w2 (.app4 hw (.lett lk v.2)))⟩, zz⟩
theorem contract_split {f w p' e' n' cN u1 u2 v1 v2 : Str} (N : Nms p e n p' e' n' cN u1 u2 v1 v2) (h : dget tops f = some (plam [.str p, .str e, .str n] b)) (h' : dget tops' f = some (plam [.str p', .str e', .str n'] (.opn p' cN u1 u2 (.app4 w (.var u1) (.var u2) (.var e') (.var n')))))
    (hw : dget tops' w = some (plam [.str v1, .str v2, .str e, .str n] (.lett p (.con2 "P" (.var v1) (.var v2)) b))) (hF : ∀ f, Φ f → Contract tops tops' f F F') (wt : Wt Φ (Γ3 p e n) b .int) (hb : bd b ≤ 90) (hs : Strict tops F p n b) :
    Contract tops tops' f (fun c => cost F b c + 1) (fun c => c + 1 + (cost F' b (c + 3) + 1 + 1) + 1 + 1) := by
  intro c c' a b1 d ρ a' b' d' ρ' h1 h2 h3
  (refine obEEAA h3 fun q q' hq hq' hqq => ?_; try clear h3)
  refine wrapped N h h' hw h1 h2 hq hq' hqq (fun se => ?_) fun ρb lb er u_ => fund hF wt er (args_L.wk (Nat.le_trans hb (Nat.le_of_ble_eq_true rfl))) (lb.wk (Nat.le_trans hb (Nat.le_of_ble_eq_true rfl)))
  refine hs c _ (th a ρ) (th d ρ) q (args_L.wk (Nat.le_trans hb (Nat.le_of_ble_eq_true rfl))) (dg (dg dg0 N.pe.symm) N.pn.symm) se dg0 hq ?_
  exact hqq.imp (fun x => x.elim fun i x => ⟨i, x.1⟩) (·.1)
end
end
section
noncomputable abbrev less (n : Str) : Ex := .add (.var n) (.lit (-1))
noncomputable abbrev callH (q : Ex) (e n : Str) : Ex := .app3 "h" q (.var e) (less n)
inductive Again (p e n cN : Str) : Ex → Prop where
  | a {leaf : Ex} : Wt (fun u_ => False) ((cN, .int) :: Γ3 p e n) leaf .int → bd leaf = 0 → (∀ F c, cost F leaf c ≤ c + 3) → Again p e n cN (callH (.con2 "P" (.add (.var n) (.lit 2)) leaf) e n)
  | b {cB l r : Str} : cB ≠ n → l ≠ n → r ≠ n → cB ≠ e → l ≠ e → r ≠ e → l ≠ r → Again p e n cN (.opn p cB l r (callH (.con2 "P" (.var r) (.var l)) e n))
structure HB (p e n : Str) (b : Ex) : Prop where
  pe : p ≠ e
  pn : p ≠ n
  en : e ≠ n
  shape : ∃ cN cD l r leaf ag, b = .zer n cN (.opn p cD l r leaf) ag ∧ cN ≠ p ∧ cN ≠ e ∧ cN ≠ n ∧ Wt (fun u_ => False) ((r, .int) :: (l, .int) :: (cD, .pair) :: (cN, .int) :: Γ3 p e n) leaf .int ∧ bd leaf = 0 ∧ (∀ F c, cost F leaf c ≤ c + 3) ∧ Again p e n cN ag
noncomputable def HC (tops tops' : Dct) (j : Nat) (K K' : Nat → Nat) : Prop := ∀ c c' a b d ρ a' b' d' ρ', TR tops tops' c c' .pair (th a ρ) (th a' ρ') → TR tops tops' c c' .two (th b ρ) (th b' ρ') → Side tops c (th d ρ) (.int j) → Side tops' c' (th d' ρ') (.int j) → Runs tops tops' (.app3 "h" a b d) ρ (.app3 "h" a' b' d') ρ' (K c) (K' c') RI
noncomputable def hb (K : Nat → Nat → Nat) : Nat → Nat → Nat
  | 0, c => c + 1 + (c + 1 + (c + 3) + 1) + 1
  | j + 1, c => c + 1 + (c + 1 + K j (c + 3) + 1) + 1
theorem look1 {x : Str} {τ : Ty} {Γ : Ctx} : List.lookup x ((x, τ) :: Γ) = some τ := List.lookup_cons_self
theorem look0 {x y : Str} {τ : Ty} {Γ : Ctx} {o : Option Ty} (e : List.lookup x Γ = o) (h : x ≠ y) : List.lookup x ((y, τ) :: Γ) = o := by
  rw [List.lookup_cons, beq_false_of_ne h]; exact e
section
variable {tops tops' : Dct} {c c' : Nat} {p e n : Str} {b : Ex}
theorem less_ev {ρ : Dct} {u : PV} {j : Nat} (h : dget ρ n = some u) (s : Side tops c u (.int ((j + 1 : Nat) : Int))) : Side tops (c + 3) (th (less n) ρ) (.int j) := by
  have := EB.add (var_run h s) (EB.lit (i := -1))
  have e : ((j + 1 : Nat) : Int) + -1 = (j : Int) := by omega
  rw [e] at this
  exact side_of this (Nat.le_refl _)
theorem ER.trv {Γ : Ctx} {ρ ρ' : Dct} {τ : Ty} {y : Str} (x : ER tops tops' c c' Γ ρ ρ') (h : Γ.lookup y = some τ) : TR tops tops' (c + 3) (c' + 3) τ (th (.var y) ρ) (th (.var y) ρ') := by
  refine obEEA (x.run h) fun r r' v z => ?_
  exact ⟨r, r', side_of v.1 (Nat.le_add_right (c + 1) 2), side_of v.2 (Nat.le_add_right (c' + 1) 2), z.mono (Nat.le_add_right ..) (Nat.le_add_right ..)⟩
theorem noF {tops tops' : Dct} : ∀ f, (fun u_ => False) f → Contract tops tops' f id id := fun u_ h => h.elim
theorem hcall {Γ : Ctx} {ρ ρ' : Dct} {q : Ex} {j : Nat} {u u' : PV} {K K' : Nat → Nat} (hc : HC tops tops' j K K') (er : ER tops tops' c c' Γ ρ ρ') (hl : L ρ (bd q)) (hl' : L ρ' (bd q)) (w : Wt (fun u_ => False) Γ q .pair) (hq : ∀ F c, sub F q c ≤ c + 3) (he : Γ.lookup e = some .two) (hn : dget ρ n = some u) (sn : Side tops c u (.int ((j + 1 : Nat) : Int))) (hn' : dget ρ' n = some u') (sn' : Side tops' c' u' (.int ((j + 1 : Nat) : Int))) :
    Runs tops tops' (callH q e n) ρ (callH q e n) ρ' (K (c + 3)) (K' (c' + 3)) RI :=
  hc (c + 3) (c' + 3) q (.var e) (less n) ρ q (.var e) (less n) ρ' ((fund noF w er hl hl').tr cost_sub_le cost_sub_le (hq _ _) (hq _ _)) (er.trv he) (less_ev hn sn) (less_ev hn' sn')
theorem le_in {a b : Nat} : b ≤ a + b + 1 := Nat.le_trans (Nat.le_add_left ..) (Nat.le_succ _)
theorem le_mid {a b d : Nat} (h : b ≤ d) : a + b + 1 ≤ a + d + 1 := Nat.succ_le_succ (Nat.add_le_add_left h _)
theorem hbody (B : HB p e n b) {ρ ρ' : Dct} {j : Nat} {u u' : PV} {K K' : Nat → Nat → Nat} (hc : ∀ i, j = i + 1 → HC tops tops' i (K i) (K' i)) (er : ER tops tops' c c' (Γ3 p e n) ρ ρ') (hl : L ρ 50) (hl' : L ρ' 50) (hn : dget ρ n = some u) (sn : Side tops c u (.int j)) (hn' : dget ρ' n = some u') (sn' : Side tops' c' u' (.int j)) :
    Runs tops tops' b ρ b ρ' (hb K j c) (hb K' j c') RI := by
  obtain ⟨pe, pn, en, cN, cD, l, r, leaf, ag, rfl, cp, ce, cn, wl, bl, cl, hag⟩ := B
  have v := var_run hn sn
  have v' := var_run hn' sn'
  have er1 := er.int cN j
  have hl1 : L (dset ρ cN (kn (.int j))) 49 := hl.set
  have hl1' : L (dset ρ' cN (kn (.int j))) 49 := hl'.set
  have hlp : ((cN, Ty.int) :: Γ3 p e n).lookup p = some .pair := look0 (look0 (look0 look1 pe) pn) cp.symm
  cases j with
  | zero =>
    have b3 : bd (.opn p cD l r leaf) ≤ 49 := by show bd leaf + 3 ≤ 49; rw [bl]; exact Nat.le_of_ble_eq_true rfl
    refine obEEA (fund noF (Wt.opn hlp wl) er1 (hl1.wk b3) (hl1'.wk b3)) fun q q' w y => ?_
    exact ⟨q, q', ⟨.zer0 hl v (w.1.wk (le_mid (cl _ _))), .zer0 hl' v' (w.2.wk (le_mid (cl _ _)))⟩, y⟩
  | succ j =>
    have hj : ((j + 1 : Nat) : Int) ≠ 0 := Int.ofNat_ne_zero.mpr (Nat.succ_ne_zero j)
    have gn := dg (x := cN) (p := kn (.int ((j + 1 : Nat) : Int))) hn cn
    have gn' := dg (x := cN) (p := kn (.int ((j + 1 : Nat) : Int))) hn' cn
    have hle : ((cN, Ty.int) :: Γ3 p e n).lookup e = some .two := look0 (look0 look1 en) ce.symm
    have key : Runs tops tops' ag (dset ρ cN (kn (.int ((j + 1 : Nat) : Int)))) ag (dset ρ' cN (kn (.int ((j + 1 : Nat) : Int)))) (c + 1 + K j (c + 3) + 1) (c' + 1 + K' j (c' + 3) + 1) RI := by
      cases hag with
      | @a leaf2 w2 b2 c2 =>
        have b0 : bd (.con2 "P" (.add (.var n) (.lit 2)) leaf2) ≤ 49 := by show max (max 0 0) (bd leaf2) ≤ 49; rw [b2]; exact Nat.le_of_ble_eq_true rfl
        exact (hcall (hc j rfl) er1 (hl1.wk b0) (hl1'.wk b0) (Wt.con2 (Wt.add (.var (look0 look1 cn.symm)) .lit) w2) (fun F c => Nat.max_le.mpr ⟨Nat.succ_le_succ (Nat.zero_le _), Nat.max_le.mpr ⟨Nat.le_refl _, c2 F c⟩⟩) hle gn sn gn' sn').mono le_in le_in
      | @b cB l2 r2 h1 h2 h3 h4 h5 h6 h7 =>
        refine obEEA (er1.run hlp) fun t t' v3 z => ?_
        rcases z with ⟨ta, tb, ta', tb', rfl, rfl, x1, x2⟩ | ⟨rfl, rfl⟩
        · refine obEEA (hcall (q := .con2 "P" (.var r2) (.var l2)) (hc j rfl) (er1.opn cB l2 r2 x1 x2) (hl1.set.set.set.wk (Nat.zero_le _)) (hl1'.set.set.set.wk (Nat.zero_le _)) (Wt.con2 (.var look1) (.var (look0 look1 h7))) (fun F c => Nat.max_le.mpr ⟨Nat.succ_le_succ (Nat.zero_le _), Nat.max_le.mpr ⟨Nat.le_add_right (c + 1) 2, Nat.le_add_right (c + 1) 2⟩⟩) (look0 (look0 (look0 hle h4.symm) h5.symm) h6.symm) (dg (dg (dg gn h1) h2) h3) sn (dg (dg (dg gn' h1) h2) h3) sn') fun q q' w y => ?_
          exact ⟨q, q', ⟨.opn hl1 v3.1 w.1, .opn hl1' v3.2 w.2⟩, y⟩
        · exact ⟨_, _, ⟨.opnE v3.1, .opnE v3.2⟩, RIe⟩
    (refine obEEA key fun q q' w y => ?_; try clear key)
    exact ⟨q, q', ⟨.zer1 hj hl v w.1, .zer1 hj hl' v' w.2⟩, y⟩
noncomputable def KO : Nat → Nat → Nat
  | 0, c => c + 1 + (c + 1 + (c + 3) + 1) + 1 + 1
  | j + 1, c => c + 1 + (c + 1 + KO j (c + 3) + 1) + 1 + 1
noncomputable def KT : Nat → Nat → Nat
  | 0, c => c + 1 + (c + 3 + 1 + (c + 3 + 1 + (c + 3 + 3) + 1) + 1 + 1 + 1) + 1 + 1
  | j + 1, c => c + 1 + (c + 3 + 1 + (c + 3 + 1 + KT j (c + 3 + 3) + 1) + 1 + 1 + 1) + 1 + 1
theorem hb_KO (j c : Nat) : KO j c = hb KO j c + 1 := by cases j <;> rfl
theorem hb_KT (j c : Nat) : KT j c = c + 1 + (hb KT j (c + 3) + 1 + 1) + 1 + 1 := by cases j <;> rfl
theorem by_pred {P : Nat → Prop} (one : ∀ j, (∀ i, j = i + 1 → P i) → P j) : ∀ j, P j
  | 0 => one 0 fun u_ z => nomatch z
  | j + 1 => one (j + 1) fun i z => Nat.succ.inj z ▸ by_pred one j
theorem h_same (B : HB p e n b) (h : dget tops "h" = some (plam [.str p, .str e, .str n] b)) (h' : dget tops' "h" = some (plam [.str p, .str e, .str n] b)) : ∀ j, HC tops tops' j (KO j) (KO j) := by
  refine by_pred fun j ih c c' a b1 d ρ a' b' d' ρ' h1 h2 s s' => ?_
  rw [hb_KO, hb_KO]
  refine obEEA (hbody B ih (args_er (p := p) (e := e) (n := n) h1 h2 ⟨_, _, s, s', RIi⟩) (args_L.wk (Nat.le_of_ble_eq_true rfl)) (args_L.wk (Nat.le_of_ble_eq_true rfl)) dg0 s dg0 s') fun q q' w y => ?_
  exact ⟨q, q', ⟨.app3 h w.1, .app3 h' w.2⟩, y⟩
theorem h_split {w p' e' n' cN u1 u2 v1 v2 : Str} (N : Nms p e n p' e' n' cN u1 u2 v1 v2) (B : HB p e n b) (hB : ∃ cM d1 cB l r, b = .zer n cM d1 (.opn p cB l r (callH (.con2 "P" (.var r) (.var l)) e n)) ∧ cM ≠ p) (h : dget tops "h" = some (plam [.str p, .str e, .str n] b)) (h' : dget tops' "h" = some (plam [.str p', .str e', .str n'] (.opn p' cN u1 u2 (.app4 w (.var u1) (.var u2) (.var e') (.var n')))))
    (hw : dget tops' w = some (plam [.str v1, .str v2, .str e, .str n] (.lett p (.con2 "P" (.var v1) (.var v2)) b))) : ∀ j, HC tops tops' j (KO j) (KT j) := by
  refine by_pred fun j ih c c' a b1 d ρ a' b' d' ρ' h1 h2 s s' => ?_
  rw [hb_KO, hb_KT]
  refine wrapped N h h' hw h1 h2 s s' RIi (fun se => ?_) fun ρb lb er ⟨u, hu, su⟩ => hbody B ih er (args_L.wk (Nat.le_of_ble_eq_true rfl)) (lb.wk (Nat.le_of_ble_eq_true rfl)) dg0 s hu su
  have v := var_run (dg0 (l := dset (dset [] p (th a ρ)) e (th b1 ρ)) (x := n) (p := th d ρ)) s
  (refine obEE hB ?_; try clear hB; rintro cM d1 ⟨cB, l, r, hb1, hcp⟩)
  obtain ⟨_, _, _, cN2, cD, l2, r2, leaf, ag, hb2, _⟩ := B
  rw [hb1] at hb2
  injection hb2 with _ _ e1 _
  rw [hb1, e1]
  have gp1 : ∀ x, dget (dset (args3 p e n (th a ρ) (th b1 ρ) (th d ρ)) cM x) p = some (th a ρ) := fun x => dg (dg (dg dg0 N.pe.symm) N.pn.symm) hcp
  cases j with
  | zero => exact .zer0 args_L v ((EB.opnE (n' := c + 3) (var_run (gp1 _) se)))
  | succ j => exact .zer1 (Int.ofNat_ne_zero.mpr (Nat.succ_ne_zero j)) args_L v (.opnE (var_run (gp1 _) se))
end
end
section
set_option smartUnfolding false
theorem sfl {l b : Nat} (h : l ≤ b) (k : Nat.ble b 1000 = true) : sfits l = true := sfits_of (Nat.le_trans h (Nat.le_of_ble_eq_true k))
theorem sfl1 {l b : Nat} (h : l ≤ b) (k : Nat.ble (b + 1) 1000 = true) : sfits (l + 1) = true := sfl (Nat.succ_le_succ h) k
theorem dset_le {α : Type} [DecidableEq α] {l : List (α × PV)} {k : α} {p : PV} {n : Nat} (h : l.length ≤ n) : (dset l k p).length ≤ n + 1 := Nat.le_trans (dset_len l k p) (Nat.succ_le_succ h)
section
variable {C : Oracle} {cs pre : List PV} {K : PV → List PV → Prop}
theorem with1 {ρ : Dct} {n : Str} {t : PV} (hC : At 1 C) (h : ρ.length ≤ 105) (k : K (.dct (dset ρ n t)) cs) : C (.fn 710) [.dct ρ, .lst [.str n], .lst [t]] cs K := by
  refine hC.up fun C hC => ?_
  conv => whnf
  refine bool_t (sfl h rfl) ?_
  conv => whnf
  refine bool_t (sfl1 h rfl) ?_
  exact k
theorem with2 {ρ : Dct} {n n2 : Str} {t t2 : PV} (hC : At 1 C) (h : ρ.length ≤ 105) (k : K (.dct (dset (dset ρ n t) n2 t2)) cs) : C (.fn 710) [.dct ρ, .lst [.str n, .str n2], .lst [t, t2]] cs K := by
  refine hC.up fun C hC => ?_
  have h1 := dset_le (k := n) (p := t) h
  conv => whnf
  refine bool_t (sfl h rfl) ?_
  conv => whnf
  refine bool_t (sfl1 h rfl) ?_
  conv => whnf
  refine bool_t (sfl1 h1 rfl) ?_
  exact k
theorem with3 {n n2 n3 : Str} {t t2 t3 : PV} (hC : At 1 C) (k : K (.dct (dset (dset (dset [] n t) n2 t2) n3 t3)) cs) : C (.fn 710) [.dct [], .lst [.str n, .str n2, .str n3], .lst [t, t2, t3]] cs K := by
  refine hC.up fun C hC => ?_
  have h1 := dset_le (k := n) (p := t) (l := ([] : Dct)) (n := 0) (Nat.le_refl _)
  have h2 := dset_le (k := n2) (p := t2) h1
  conv => whnf
  refine bool_t (sfl1 h2 rfl) ?_
  exact k
theorem with4 {n n2 n3 n4 : Str} {t t2 t3 t4 : PV} (hC : At 1 C) (k : K (.dct (dset (dset (dset (dset [] n t) n2 t2) n3 t3) n4 t4)) cs) : C (.fn 710) [.dct [], .lst [.str n, .str n2, .str n3, .str n4], .lst [t, t2, t3, t4]] cs K := by
  refine hC.up fun C hC => ?_
  have h1 := dset_le (k := n) (p := t) (l := ([] : Dct)) (n := 0) (Nat.le_refl _)
  have h2 := dset_le (k := n2) (p := t2) h1
  have h3 := dset_le (k := n3) (p := t3) h2
  conv => whnf
  refine bool_t (sfl1 h2 rfl) ?_
  conv => whnf
  refine bool_t (sfl1 h3 rfl) ?_
  exact k
noncomputable def bodyOf (a : Addr) : List Stmt := match funOf a with
  | some fi => fi.body
  | none => []
noncomputable def scOf (a : Addr) : SC := match funOf a with
  | some fi => ⟨fi.scope.names, fi.lam⟩
  | none => ⟨[], false⟩
noncomputable abbrev pn (x : Str) (p : PV) : Str × Bind := (x, ⟨.plain, p⟩)
theorem cell_at {pre : List PV} {c : PV} : (pre ++ [c])[pre.length]? = some c := by simp
theorem cell_lt {pre : List PV} {c : PV} : pre.length < (pre ++ [c]).length := by simp
theorem cell_set {pre : List PV} {c c' : PV} : (pre ++ [c]).set pre.length c' = pre ++ [c'] := by simp
theorem pred_cast {m : Nat} : ((m + 1 : Nat) : Int) - 1 = (m : Int) := by omega
theorem val_in {x : PV} {ρ tops : Dct} {m : Nat} {C : Oracle}
  (k : vcSs TT 38 (scOf 715) ((bodyOf 715).drop 2) C ⟨[pn "expr" x, pn "env" (.dct ρ), pn "tops" (.dct tops), pn "fuel" (.cel pre.length)], pre ++ [.lst [.int (m : Nat)]]⟩ (kEnd K)) : Enter TT 40 C (.fn 715) [x, .dct ρ, .dct tops, .cel pre.length] (pre ++ [.lst [.int (m + 1 : Nat)]]) K := by
  conv => whnf
  refine opt_t cell_at ?_
  conv => whnf
  refine opt_t cell_at ?_
  conv => whnf
  refine opt_t bp_val ?_
  conv => whnf
  refine opt_t cell_at ?_
  conv => whnf
  refine bool_f (decide_eq_false (by omega)) ?_
  rw [← pred_cast] at k
  conv => whnf
  conv at k => whnf
  exact k
noncomputable def Dp (k : Nat) (C : Oracle) : Prop := At (2 * k + 2) C
theorem Dp.up {k : Nat} {C : Oracle} {f : PV} {args cs : List PV} {K : PV → List PV → Prop} (h : Dp (k + 1) C) (k : ∀ C : Nat → Oracle, Dp k (C 0) → Dp k (C 1) → Enter TT 40 (CI TT 40 C 4 0) f args cs K) : C f args cs K :=
  At.up h fun C hC => k C ((hC 0).le (Nat.le_succ _)) (hC 1)
theorem Dp.l {k k' : Nat} {C : Oracle} (h : Dp (k + k') C) : Dp k C := At.le h (by omega)
theorem Dp.r {k k' : Nat} {C : Oracle} (h : Dp (k + k') C) : Dp k' C := At.le h (by omega)
theorem Dp.one {k : Nat} {C : Oracle} (h : Dp k C) : At 1 C := At.le h (by omega)
noncomputable def Vw (tops : Dct) (e : Ex) (ρ : Dct) (k : Nat) (r : PV) : Prop := ∀ (C : Oracle) (pre : List PV) (m : Nat) (K : PV → List PV → Prop), Dp k C → K r (pre ++ [.lst [.int (m : Nat)]]) → C (.fn 715) [pv e, .dct ρ, .dct tops, .cel pre.length] (pre ++ [.lst [.int (m + k : Nat)]]) K
variable {tops ρ : Dct}
theorem vw_lit {n : Int} : Vw tops (.lit n) ρ 1 (.int n) := by
  intro C pre m K hC k
  refine hC.up fun C h0 h1 => val_in ?_
  exact k
theorem vw_err : Vw tops .err ρ 1 (.str "error") := by
  intro C pre m K hC k
  refine hC.up fun C h0 h1 => val_in ?_
  exact k
theorem vw_con1 {c : Str} {a : Ex} : Vw tops (.con1 c a) ρ 1 (.tup [.str c, .lst [th a ρ]]) := by
  intro C pre m K hC k
  refine hC.up fun C h0 h1 => val_in ?_
  exact k
theorem vw_con2 {c : Str} {a b : Ex} : Vw tops (.con2 c a b) ρ 1 (.tup [.str c, .lst [th a ρ, th b ρ]]) := by
  intro C pre m K hC k
  refine hC.up fun C h0 h1 => val_in ?_
  exact k
theorem vw_var {x : Str} {e : Ex} {ρ' : Dct} {n : Nat} {r : PV} (hx : dget ρ x = some (th e ρ')) (ih : Vw tops e ρ' n r) : Vw tops (.var x) ρ (n + 1) r := by
  intro C pre m K hC k
  refine obEE (pv_ins e) fun D l hD => ?_
  rw [th, hD] at hx
  rw [Vw, hD] at ih
  refine hC.up fun C h0 h1 => val_in ?_
  conv => whnf
  refine opt_t hx ?_
  exact ih (C 0) pre m _ h0 k
theorem vw_known {x : Str} {v : PV} (hx : dget ρ x = some (kn v)) : Vw tops (.var x) ρ 1 v := by
  intro C pre m K hC k
  refine hC.up fun C h0 h1 => val_in ?_
  conv => whnf
  refine opt_t hx ?_
  exact k
theorem vw_app3 {f p q s : Str} {a b c e : Ex} {n : Nat} {r : PV} (hf : dget tops f = some (plam [.str p, .str q, .str s] e)) (ih : Vw tops e (dset (dset (dset [] p (th a ρ)) q (th b ρ)) s (th c ρ)) n r) : Vw tops (.app3 f a b c) ρ (n + 1) r := by
  intro C pre m K hC k
  refine hC.up fun C h0 h1 => val_in ?_
  conv => whnf
  refine opt_t hf ?_
  refine with3 (C := C 0) h0.one ?_
  exact ih (C 0) pre m _ h0 k
theorem vw_app4 {f p q s t : Str} {a b c c4 e : Ex} {n : Nat} {r : PV} (hf : dget tops f = some (plam [.str p, .str q, .str s, .str t] e)) (ih : Vw tops e (dset (dset (dset (dset [] p (th a ρ)) q (th b ρ)) s (th c ρ)) t (th c4 ρ)) n r) : Vw tops (.app4 f a b c c4) ρ (n + 1) r := by
  intro C pre m K hC k
  refine hC.up fun C h0 h1 => val_in ?_
  conv => whnf
  refine opt_t hf ?_
  refine with4 (C := C 0) h0.one ?_
  exact ih (C 0) pre m _ h0 k
theorem ask {a : Ex} {k1 k2 : Nat} {C : Oracle} {v : PV} {m : Nat} (ih : Vw tops a ρ k1 v) (h1 : Dp (k1 + k2) C) (k : K v (pre ++ [.lst [.int (m + k2 : Nat)]])) : C (.fn 715) [pv a, .dct ρ, .dct tops, .cel pre.length] (pre ++ [.lst [.int (m + (k1 + k2) : Nat)]]) K := by
  have := ih C pre (m + k2) K h1.l k
  rw [Nat.add_assoc, Nat.add_comm k2] at this
  exact this
theorem l105 {n m : Nat} (h : n ≤ m) (k : Nat.ble m 105 = true) : n ≤ 105 := Nat.le_trans h (Nat.le_of_ble_eq_true k)
theorem vw_opn {x n l r : Str} {b : Ex} {k1 k2 : Nat} {ta tb res : PV} (hl : ρ.length ≤ 100) (ih1 : Vw tops (.var x) ρ k1 (.tup [.str "P", .lst [ta, tb]])) (ih2 : Vw tops b (dset (dset (dset ρ n (kn (.tup [.str "P", .lst [ta, tb]]))) l ta) r tb) k2 res) : Vw tops (.opn x n l r b) ρ (k1 + k2 + 1) res := by
  intro C pre m K hC k
  refine hC.up fun C h0 h1 => val_in ?_
  refine ask (C := C 1) ih1 h1 ?_
  refine with1 (C := C 1) h1.one (l105 hl rfl) ?_
  refine with2 (C := C 1) h1.one (l105 (dset_le hl) rfl) ?_
  exact ih2 (C 1) pre m _ h1.r k
theorem vw_opnE {x n l r : Str} {b : Ex} {k1 : Nat} (ih1 : Vw tops (.var x) ρ k1 (.str "error")) : Vw tops (.opn x n l r b) ρ (k1 + 1) (.str "error") := by
  intro C pre m K hC k
  refine hC.up fun C h0 h1 => val_in ?_
  exact ih1 (C 1) pre m _ h1 k
theorem vw_zerE {x n : Str} {a b : Ex} {k1 : Nat} (ih1 : Vw tops (.var x) ρ k1 (.str "error")) : Vw tops (.zer x n a b) ρ (k1 + 1) (.str "error") := by
  intro C pre m K hC k
  refine hC.up fun C h0 h1 => val_in ?_
  exact ih1 (C 1) pre m _ h1 k
theorem vw_zer0 {x n : Str} {a b : Ex} {k1 k2 : Nat} {res : PV} (hl : ρ.length ≤ 100) (ih1 : Vw tops (.var x) ρ k1 (.int 0)) (ih2 : Vw tops a (dset ρ n (kn (.int 0))) k2 res) : Vw tops (.zer x n a b) ρ (k1 + k2 + 1) res := by
  intro C pre m K hC k
  refine hC.up fun C h0 h1 => val_in ?_
  refine ask (C := C 1) ih1 h1 ?_
  refine with1 (C := C 1) h1.one (l105 hl rfl) ?_
  exact ih2 (C 1) pre m _ h1.r k
theorem vw_zer1 {x n : Str} {a b : Ex} {k1 k2 : Nat} {i : Int} {res : PV} (hi : i ≠ 0) (hl : ρ.length ≤ 100) (ih1 : Vw tops (.var x) ρ k1 (.int i)) (ih2 : Vw tops b (dset ρ n (kn (.int i))) k2 res) : Vw tops (.zer x n a b) ρ (k1 + k2 + 1) res := by
  intro C pre m K hC k
  refine hC.up fun C h0 h1 => val_in ?_
  refine ask (C := C 1) ih1 h1 ?_
  refine with1 (C := C 1) h1.one (l105 hl rfl) ?_
  conv => whnf
  refine bool_f (by simpa using hi.symm) ?_
  exact ih2 (C 1) pre m _ h1.r k
theorem vw_twoC {x n u v : Str} {a b : Ex} {k1 k2 : Nat} {t res : PV} (hl : ρ.length ≤ 100) (ih1 : Vw tops (.var x) ρ k1 (.tup [.str "C", .lst [t]])) (ih2 : Vw tops a (dset (dset ρ n (kn (.tup [.str "C", .lst [t]]))) u t) k2 res) : Vw tops (.two x n u a v b) ρ (k1 + k2 + 1) res := by
  intro C pre m K hC k
  refine hC.up fun C h0 h1 => val_in ?_
  refine ask (C := C 1) ih1 h1 ?_
  refine with1 (C := C 1) h1.one (l105 hl rfl) ?_
  refine with1 (C := C 1) h1.one (l105 (dset_le hl) rfl) ?_
  exact ih2 (C 1) pre m _ h1.r k
theorem vw_twoD {x n u v : Str} {a b : Ex} {k1 k2 : Nat} {t res : PV} (hl : ρ.length ≤ 100) (ih1 : Vw tops (.var x) ρ k1 (.tup [.str "D", .lst [t]])) (ih2 : Vw tops b (dset (dset ρ n (kn (.tup [.str "D", .lst [t]]))) v t) k2 res) : Vw tops (.two x n u a v b) ρ (k1 + k2 + 1) res := by
  intro C pre m K hC k
  refine hC.up fun C h0 h1 => val_in ?_
  refine ask (C := C 1) ih1 h1 ?_
  refine with1 (C := C 1) h1.one (l105 hl rfl) ?_
  refine with1 (C := C 1) h1.one (l105 (dset_le hl) rfl) ?_
  exact ih2 (C 1) pre m _ h1.r k
theorem vw_lett {x : Str} {e b : Ex} {k1 : Nat} {res : PV} (hl : ρ.length ≤ 100) (ih : Vw tops b (dset ρ x (th e ρ)) k1 res) : Vw tops (.lett x e b) ρ (k1 + 1) res := by
  intro C pre m K hC k
  refine hC.up fun C h0 h1 => val_in ?_
  refine with1 (C := C 0) h0.one (l105 hl rfl) ?_
  exact ih (C 0) pre m _ h0 k
theorem vw_add {a b : Ex} {k1 k2 : Nat} {i j : Int} (ih1 : Vw tops a ρ k1 (.int i)) (ih2 : Vw tops b ρ k2 (.int j)) : Vw tops (.add a b) ρ (k1 + k2 + 1) (.int (i + j)) := by
  intro C pre m K hC k
  refine hC.up fun C h0 h1 => val_in ?_
  refine ask (C := C 0) ih1 h0 ?_
  refine ih2 (C 0) pre m _ h0.r ?_
  conv => whnf
  rw [Int.zero_add]
  exact k
theorem vw_addE1 {a b : Ex} {k1 : Nat} (ih1 : Vw tops a ρ k1 (.str "error")) : Vw tops (.add a b) ρ (k1 + 1) (.str "error") := by
  intro C pre m K hC k
  refine hC.up fun C h0 h1 => val_in ?_
  exact ih1 (C 0) pre m _ h0 k
theorem vw_addE2 {a b : Ex} {k1 k2 : Nat} {i : Int} (ih1 : Vw tops a ρ k1 (.int i)) (ih2 : Vw tops b ρ k2 (.str "error")) : Vw tops (.add a b) ρ (k1 + k2 + 1) (.str "error") := by
  intro C pre m K hC k
  refine hC.up fun C h0 h1 => val_in ?_
  refine ask (C := C 0) ih1 h0 ?_
  exact ih2 (C 0) pre m _ h0.r k
theorem ev_vw {e : Ex} {n : Nat} {r : PV} (h : Ev tops e ρ n r) : Vw tops e ρ n r := by
  induction h with
  | lit => exact vw_lit
  | err => exact vw_err
  | con1 => exact vw_con1
  | con2 => exact vw_con2
  | var hx _ ih => exact vw_var hx ih
  | known hx => exact vw_known hx
  | app3 hf _ ih => exact vw_app3 hf ih
  | app4 hf _ ih => exact vw_app4 hf ih
  | opn hl _ _ ih1 ih2 => exact vw_opn hl ih1 ih2
  | opnE _ ih => exact vw_opnE ih
  | zer0 hl _ _ ih1 ih2 => exact vw_zer0 hl ih1 ih2
  | zer1 hi hl _ _ ih1 ih2 => exact vw_zer1 hi hl ih1 ih2
  | zerE _ ih => exact vw_zerE ih
  | twoC hl _ _ ih1 ih2 => exact vw_twoC hl ih1 ih2
  | twoD hl _ _ ih1 ih2 => exact vw_twoD hl ih1 ih2
  | lett hl _ ih => exact vw_lett hl ih
  | add _ _ ih1 ih2 => exact vw_add ih1 ih2
  | addE1 _ ih => exact vw_addE1 ih
  | addE2 _ _ ih1 ih2 => exact vw_addE2 ih1 ih2
end
end
section
section
variable {C : Oracle} {cs pre : List PV} {K : PV → List PV → Prop}
noncomputable abbrev tkl (l : List Str) : Dct := l.map fun x => (x, .bool true)
noncomputable abbrev tk (l : List Str) : PV := .dct (tkl l)
noncomputable abbrev sl (l : List Str) : PV := .lst (l.map .str)
theorem comp_fl {α β γ : Type} {tgt : PV → St → (St → Prop) → Prop} {tests : Evl → St → KtB → Prop} {emit : Evl → α → St → (α → St → Prop) → Prop} {ev : Evl} (enc : β → PV) (en : γ → α) (f : γ → β → γ) (I : Nat → γ → St → Prop) {l0 : List β} {K : α → St → Prop}
   (step : ∀ n x acc σ (ih : α → St → (α → St → Prop) → Prop), x ∈ l0 → I (n + 1) acc σ → (∀ σ, I n (f acc x) σ → ih (en (f acc x)) σ K) → tgt (enc x) σ (kComp1 tests emit ev ih (en acc) K)) : ∀ (l : List β) acc σ, (∀ x ∈ l, x ∈ l0) → I l.length acc σ → (∀ σ, I 0 (l.foldl f acc) σ → K (en (l.foldl f acc)) σ) → vcComp tgt tests emit ev (l.map enc) (en acc) σ K := by
  intro l
  induction l with
  | nil => intro acc σ _ h k; exact k σ h
  | cons x l ih =>
    intro acc σ h1 h k
    exact step l.length x acc σ (fun acc σ K => vcComp tgt tests emit ev (l.map enc) acc σ K) (h1 x (List.mem_cons_self ..)) h fun σ hσ => ih _ σ (fun y hy => h1 y (List.mem_cons_of_mem _ hy)) hσ k
theorem tgt_name {sc : SC} {x : Str} {pos : Pos} {p : PV} {fr fr' : List (Str × Bind)} {K : St → Prop} (hl : sc.names.lookup x = some .local) (e : fset fr x ⟨.plain, p⟩ = fr') (k : K ⟨fr', cs⟩) : vcTarget sc (.Name x pos) p ⟨fr, cs⟩ K := by
  subst e
  show vcStoreName sc x false p ⟨fr, cs⟩ K
  unfold vcStoreName
  rw [hl]
  exact k
theorem isStrs_sl (l : List Str) : isStrs (l.map .str) = some l := by
  induction l with
  | nil => rfl
  | cons x l ih =>
    show (isStrs (l.map .str)).map (x :: ·) = _
    rw [ih]; rfl
noncomputable abbrev fz (x : Str) (p : PV) : Str × Bind := (x, ⟨.froz, p⟩)
noncomputable def ins (l : List Str) (x : Str) : List Str := if x ∈ l then l else l ++ [x]
set_option tactic.hygienic true in
theorem mem_ins {l : List Str} {x y : Str} : y ∈ ins l x ↔ y ∈ l ∨ y = x := by
  unfold ins
  split
  · rename_i h
    constructor
    · exact .inl
    · rintro (h | rfl)
      · exact h
      · assumption
  · simp
theorem dset_tk (l : List Str) (x : Str) : dset (tkl l) x (.bool true) = tkl (ins l x) := by
  induction l with
  | nil => rfl
  | cons y l ih =>
    show (if y = x then (y, PV.bool true) :: tkl l else (y, PV.bool true) :: dset (tkl l) x (.bool true)) = _
    by_cases h : y = x
    · subst h
      rw [if_pos rfl]
      simp [ins]
    · rw [if_neg h, ih]
      unfold ins
      have : ¬ x = y := fun q => h q.symm
      by_cases hx : x ∈ l
      · rw [if_pos hx, if_pos (List.mem_cons_of_mem _ hx)]; rfl
      · rw [if_neg hx, if_neg (by simp [this, hx])]; rfl
noncomputable def okS (l : List Str) : Prop := ∀ x ∈ l, PyData.strOk x = true
theorem cmp_notin {x : Str} {l : List Str} (h : PyData.strOk x = true) (hl : okS l) : cmp .NotIn (.str x) (sl l) = some (!l.contains x) := by
  have : l.all PyData.strOk = true := List.all_eq_true.mpr hl
  show (((isStrs (l.map .str)).bind fun ks => if PyData.strOk x && ks.all PyData.strOk then some (ks.contains x) else none).map (!·)) = _
  rw [isStrs_sl, Option.bind_some, h, this]
  rfl
theorem ins_len (l : List Str) (x : Str) : (ins l x).length ≤ l.length + 1 := by
  unfold ins
  split <;> simp
noncomputable def fl1 (p : Str → Bool) (a : List Str) (x : Str) : List Str := if p x then ins a x else a
noncomputable def flt (p : Str → Bool) (l : List Str) : List Str := l.foldl (fl1 p) []
theorem fl1_len {p : Str → Bool} (l : List Str) (x : Str) : (fl1 p l x).length ≤ l.length + 1 := by
  unfold fl1
  split
  · exact ins_len l x
  · omega
theorem fl1_t {p : Str → Bool} {a : List Str} {x : Str} (h : p x = true) : fl1 p a x = ins a x := if_pos h
theorem fl1_f {p : Str → Bool} {a : List Str} {x : Str} (h : p x = false) : fl1 p a x = a := if_neg (by simp [h])
noncomputable def un (l m : List Str) : List Str := m.foldl ins l
theorem upd_tk (l m : List Str) : (tkl m).foldl (fun d e => dset d e.1 e.2) (tkl l) = tkl (un l m) := by
  induction m generalizing l with
  | nil => rfl
  | cons x m ih =>
    show (tkl m).foldl _ (dset (tkl l) x (.bool true)) = _
    rw [dset_tk, ih]
    rfl
theorem un_len (l m : List Str) : (un l m).length ≤ l.length + m.length := by
  induction m generalizing l with
  | nil => exact Nat.le_refl _
  | cons x m ih =>
    have := ih (ins l x)
    have := ins_len l x
    simp only [un, List.foldl_cons, List.length_cons] at *
    omega
theorem mem_un {l m : List Str} {y : Str} : y ∈ un l m ↔ y ∈ l ∨ y ∈ m := by
  induction m generalizing l with
  | nil => simp [un]
  | cons x m ih =>
    have := ih (l := ins l x)
    simp only [un, List.foldl_cons] at *
    rw [this, mem_ins, List.mem_cons, or_assoc]
set_option tactic.hygienic true in
theorem mem_fl1 {p : Str → Bool} {a : List Str} {x y : Str} : y ∈ fl1 p a x ↔ y ∈ a ∨ (y = x ∧ p x = true) := by
  unfold fl1
  split
  · rename_i h
    rw [mem_ins]; simp [h]
  · rename_i h
    simp [h]
theorem mem_flt0 {p : Str → Bool} {l a : List Str} {y : Str} : y ∈ l.foldl (fl1 p) a ↔ y ∈ a ∨ (y ∈ l ∧ p y = true) := by
  induction l generalizing a with
  | nil => simp
  | cons x l ih =>
    rw [List.foldl_cons, ih, mem_fl1, List.mem_cons]
    constructor
    · rintro ((h | ⟨rfl, h⟩) | ⟨h, g⟩)
      · exact .inl h
      · exact .inr ⟨.inl rfl, h⟩
      · exact .inr ⟨.inr h, g⟩
    · rintro (h | ⟨rfl | h, g⟩)
      · exact .inl (.inl h)
      · exact .inl (.inr ⟨rfl, g⟩)
      · exact .inr ⟨h, g⟩
theorem mem_flt {p : Str → Bool} {l : List Str} {y : Str} : y ∈ flt p l ↔ y ∈ l ∧ p y = true := by
  unfold flt; rw [mem_flt0]; simp
theorem dget_tk {l : List Str} {x : Str} : (dget (tkl l) x).isSome = l.contains x := by
  induction l with
  | nil => rfl
  | cons y l ih =>
    show (if y = x then some (PV.bool true) else dget (tkl l) x).isSome = _
    rw [List.contains_cons]
    by_cases h : y = x
    · subst h; simp
    · rw [if_neg h, ih]
      have : (x == y) = false := by simp; exact fun q => h q.symm
      rw [this]; rfl
theorem cmp_in {x : Str} {l : List Str} : cmp .In (.str x) (tk l) = some (l.contains x) := by
  exact congrArg some dget_tk
set_option smartUnfolding false
theorem keys_tk {l : List Str} : List.map (fun e => PV.str e.fst) (tkl l) = l.map .str := by rw [List.map_map]; rfl
theorem tkl_len {l : List Str} : (tkl l).length = l.length := List.length_map _
theorem sft {l : List Str} {b : Nat} (h : l.length ≤ b) (k : Nat.ble b 1000 = true) : sfits (tkl l).length = true := by rw [tkl_len]; exact sfl h k
theorem sft1 {l : List Str} {b n : Nat} (h : l.length + n ≤ b) (k : Nat.ble (b + 1) 1000 = true) : sfits ((tkl l).length + 1) = true := by rw [tkl_len]; exact sfl1 (Nat.le_trans (Nat.le_add_right _ _) h) k
theorem step_len {a a' n b : Nat} (h : a + (n + 1) ≤ b) (g : a' ≤ a + 1) : a' + n ≤ b := by omega
theorem without_ {l ns : List Str} (hC : At 1 C) (hl : okS l) (hn : okS ns) (hs : l.length ≤ 100) (k : K (tk (flt (fun x => !ns.contains x) l)) cs) : C (.fn 439) [tk l, sl ns] cs K := by
  refine hC.up fun C hC => ?_
  conv => whnf
  show vcComp _ _ _ _ (List.map (fun e => PV.str e.fst) (tkl l)) (tk []) _ _
  rw [keys_tk]
  refine comp_fl .str tk (fl1 fun x => !ns.contains x) (fun n a σ => a.length + n ≤ 100 ∧ σ.cs = cs ∧ ∀ p, fset σ.fr "name" ⟨.plain, p⟩ = [fz "names" (sl ns), pn "name" p]) (l0 := l) ?_ l _ _ (fun u_ h => h) ⟨(Nat.zero_add _).symm ▸ hs, rfl, fun u_ => rfl⟩ ?_
  · rintro n x a ⟨fr, _⟩ ih hx ⟨h1, rfl, hf⟩ kk
    refine tgt_name rfl (hf _) ?_
    have g := fl1_len (p := fun x => !ns.contains x) a x
    conv => whnf
    refine opt_t (cmp_notin (hl x hx) hn) ?_
    cases q : ns.contains x
    · rw [fl1_t (by rw [q]; rfl)] at kk g
      conv => whnf
      refine bool_t (sft1 h1 rfl) ?_
      rw [dset_tk]
      exact kk _ ⟨step_len h1 g, rfl, fun u_ => rfl⟩
    · rw [fl1_f (by rw [q]; rfl)] at kk g
      exact kk _ ⟨step_len h1 g, rfl, fun u_ => rfl⟩
  · rintro ⟨fr, _⟩ ⟨_, rfl, _⟩
    exact k
theorem without_none {ns : List Str} (hC : At 1 C) (k : K .none cs) : C (.fn 439) [.none, sl ns] cs K := hC.up fun C u_ => k
theorem both_ {l m : List Str} (hC : At 1 C) (hl : l.length ≤ 100) (hm : m.length ≤ 100) (k : K (tk (un l m)) cs) : C (.fn 429) [tk l, tk m] cs K := by
  refine hC.up fun C hC => ?_
  conv => whnf
  refine bool_t (sft hl rfl) ?_
  conv => whnf
  refine bool_t (by rw [tkl_len, tkl_len]; exact sfl (Nat.add_le_add hl hm) rfl) ?_
  have k : K (.dct ((tkl m).foldl (fun d e => dset d e.1 e.2) (tkl l))) cs := by rw [upd_tk]; exact k
  exact k
theorem both_n1 {p : PV} (hC : At 1 C) (k : K .none cs) : C (.fn 429) [.none, p] cs K := hC.up fun C u_ => k
theorem both_n2 {l : List Str} (hC : At 1 C) (k : K .none cs) : C (.fn 429) [tk l, .none] cs K := hC.up fun C u_ => k
theorem extended_ {l m : Dct} (hC : At 1 C) (hl : l.length ≤ 100) (hm : m.length ≤ 100) (k : K (.dct (m.foldl (fun d e => dset d e.1 e.2) l)) cs) : C (.fn 446) [.dct l, .dct m] cs K := by
  refine hC.up fun C hC => ?_
  conv => whnf
  refine bool_t (sfl hl rfl) ?_
  conv => whnf
  refine bool_t (sfl (Nat.add_le_add hl hm) rfl) ?_
  exact k
theorem either_nn (hC : At 1 C) (k : K .none cs) : C (.fn 434) [.lst [.none, .none]] cs K := hC.up fun C u_ => k
theorem either_n (hC : At 1 C) (k : K .none cs) : C (.fn 434) [.lst [.none]] cs K := hC.up fun C u_ => k
theorem either_1 {l : List Str} (hC : At 1 C) (hs : l.length ≤ 100) (k : K (tk l) cs) : C (.fn 434) [.lst [tk l]] cs K := by
  refine hC.up fun C hC => ?_
  conv => whnf
  exact bool_t (sft hs rfl) k
theorem either_1n {l : List Str} (hC : At 1 C) (hs : l.length ≤ 100) (k : K (tk l) cs) : C (.fn 434) [.lst [tk l, .none]] cs K := by
  refine hC.up fun C hC => ?_
  conv => whnf
  exact bool_t (sft hs rfl) k
theorem either_n1 {l : List Str} (hC : At 1 C) (hs : l.length ≤ 100) (k : K (tk l) cs) : C (.fn 434) [.lst [.none, tk l]] cs K := by
  refine hC.up fun C hC => ?_
  conv => whnf
  exact bool_t (sft hs rfl) k
theorem either_2 {l m : List Str} (hC : At 1 C) (hs : l.length ≤ 100) (k : K (tk (flt m.contains l)) cs) : C (.fn 434) [.lst [tk l, tk m]] cs K := by
  refine hC.up fun C hC => ?_
  conv => whnf
  refine bool_t (sft hs rfl) ?_
  conv => whnf
  show vcComp _ _ _ _ (List.map (fun e => PV.str e.fst) (tkl l)) (tk []) _ _
  rw [keys_tk]
  refine comp_fl .str tk (fl1 m.contains) (fun n a σ => a.length + n ≤ 100 ∧ σ.cs = cs ∧ ∀ p, fset σ.fr "name" ⟨.plain, p⟩ = [fz "needs" (tk m), pn "name" p]) (l0 := l) ?_ l _ _ (fun u_ h => h) ⟨(Nat.zero_add _).symm ▸ hs, rfl, fun u_ => rfl⟩ ?_
  · rintro n x a ⟨fr, _⟩ ih hx ⟨h1, rfl, hf⟩ kk
    refine tgt_name rfl (hf _) ?_
    have g := fl1_len (p := m.contains) a x
    conv => whnf
    cases q : m.contains x
    · rw [fl1_f q] at kk g
      refine bool_f (by rw [dget_tk, q]) ?_
      exact kk _ ⟨step_len h1 g, rfl, fun u_ => rfl⟩
    · rw [fl1_t q] at kk g
      refine bool_t (by rw [dget_tk, q]) ?_
      conv => whnf
      refine bool_t (sft1 h1 rfl) ?_
      rw [dset_tk]
      exact kk _ ⟨step_len h1 g, rfl, fun u_ => rfl⟩
  · rintro ⟨fr, _⟩ ⟨_, rfl, _⟩
    exact k
set_option smartUnfolding true
inductive Sg where
  | dv
  | mk (a b c : Bool) (fr : Option Str)
  deriving DecidableEq
noncomputable def Sg.flags : Sg → List PV
  | .dv => [.bool true, .bool true, .bool true]
  | .mk a b c _ => [.bool a, .bool b, .bool c]
noncomputable def Sg.fre : Sg → List Str
  | .dv => []
  | .mk _ _ _ f => f.toList
noncomputable def Sg.div : Sg → Bool
  | .dv => true
  | _ => false
noncomputable abbrev sgo (fl : List PV) (fr : List Str) (dv : Bool) : PV := .ins 411 [("flags", .lst fl), ("free", tk fr), ("diverges", .bool dv)]
noncomputable def Sg.pv (s : Sg) : PV := sgo s.flags s.fre s.div
noncomputable def Sg.row (s : Sg) : PV := .tup [.tup s.flags, .tup (s.fre.map .str), .bool s.div]
set_option smartUnfolding false
theorem hopeful_ (hC : At 1 C) (k : K Sg.dv.pv cs) : C (.fn 422) [.int 3] cs K := hC.up fun C u_ => k
theorem row_ {s : Sg} (hC : At 1 C) (k : K s.row cs) : C (.fn 408) [s.pv] cs K := by
  refine hC.up fun C hC => ?_
  rcases s with _ | ⟨a, b, c, _ | f⟩ <;>
  · conv => whnf
    exact k
end
end
section
noncomputable def bo : Option (List Str) → Option (List Str) → Option (List Str)
  | some l, some m => some (un l m)
  | _, _ => none
noncomputable def wo (ns : List Str) : Option (List Str) → Option (List Str) := Option.map (flt fun x => !ns.contains x)
noncomputable def ei : Option (List Str) → Option (List Str) → Option (List Str)
  | none, m => m
  | l, none => l
  | some l, some m => some (flt m.contains l)
noncomputable def oflag (b : Bool) (found more : Option (List Str)) : Option (List Str) := if b then bo found more else found
noncomputable def nd (σ : Str → Sg) : Ex → Option (List Str)
  | .var x => some [x]
  | .lit _ => some []
  | .err => none
  | .add a b => bo (bo (some []) (nd σ a)) (nd σ b)
  | .con1 _ _ => some []
  | .con2 _ _ _ => some []
  | .app3 f a b c => match σ f with
    | .dv => none
    | .mk p q r fr => oflag r (oflag q (oflag p (bo (some [f]) (some fr.toList)) (nd σ a)) (nd σ b)) (nd σ c)
  | .app4 _ _ _ _ _ => none
  | .opn x n l r b => bo (some [x]) (wo [l, r, n] (nd σ b))
  | .zer x n a b => bo (some [x]) (ei (wo [n] (nd σ a)) (wo [n] (nd σ b)))
  | .two x n u a v b => bo (some [x]) (ei (wo [u, n] (nd σ a)) (wo [v, n] (nd σ b)))
  | .lett _ _ _ => none
noncomputable abbrev opv : Option (List Str) → PV
  | none => .none
  | some l => tk l
noncomputable def nsz : Ex → Nat
  | .var _ => 1
  | .add a b => nsz a + nsz b
  | .app3 _ a b c => 2 + nsz a + nsz b + nsz c
  | .opn _ _ _ _ b => 1 + nsz b
  | .zer _ _ a b => 1 + nsz a + nsz b
  | .two _ _ _ a _ b => 1 + nsz a + nsz b
  | _ => 0
noncomputable abbrev sOk (x : Str) : Prop := PyData.strOk x = true
noncomputable def nok : Ex → Prop
  | .var x => sOk x
  | .add a b => nok a ∧ nok b
  | .app3 f a b c => sOk f ∧ nok a ∧ nok b ∧ nok c
  | .opn x n l r b => sOk x ∧ sOk n ∧ sOk l ∧ sOk r ∧ nok b
  | .zer x n a b => sOk x ∧ sOk n ∧ nok a ∧ nok b
  | .two x n u a v b => sOk x ∧ sOk n ∧ sOk u ∧ sOk v ∧ nok a ∧ nok b
  | .app4 _ _ _ _ _ => False
  | .lett _ _ _ => False
  | _ => True
noncomputable def ndq : Ex → Nat
  | .add a b => ndq a + ndq b + 2
  | .app3 _ a b c => ndq a + (ndq b + ndq c) + 2
  | .opn _ _ _ _ b => ndq b + 2
  | .zer _ _ a b => ndq a + ndq b + 2
  | .two _ _ _ a _ b => ndq a + ndq b + 2
  | _ => 2
theorem ndq2 (e : Ex) : 2 ≤ ndq e := by induction e using Ex.casesOn <;> exact Nat.le_add_left 2 _
noncomputable def Fine (n : Nat) : Option (List Str) → Prop
  | none => True
  | some l => okS l ∧ l.length ≤ n
section
variable {σ : Str → Sg} {m n : Nat} {o o' : Option (List Str)}
theorem Fine.mono (h : Fine m o) (e : m ≤ n) : Fine n o := by
  induction o using Option.casesOn with
  | none => trivial
  | some l => exact ⟨h.1, Nat.le_trans h.2 e⟩
theorem Fine.bo (h : Fine m o) (h' : Fine n o') : Fine (m + n) (bo o o') := by
  induction o using Option.casesOn with
  | none => trivial
  | some l =>
    induction o' using Option.casesOn with
    | none => trivial
    | some l' =>
      refine ⟨fun x hx => ?_, Nat.le_trans (un_len l l') (Nat.add_le_add h.2 h'.2)⟩
      rcases mem_un.mp hx with hx | hx
      · exact h.1 x hx
      · exact h'.1 x hx
theorem flt_len (p : Str → Bool) (l : List Str) : (flt p l).length ≤ l.length := by
  have : ∀ (l a : List Str), (l.foldl (fl1 p) a).length ≤ a.length + l.length := by
    intro l
    induction l with
    | nil => intro a; exact Nat.le_refl _
    | cons x l ih =>
      intro a
      have h1 := ih (fl1 p a x)
      have h2 := fl1_len (p := p) a x
      simp only [List.foldl_cons, List.length_cons]
      omega
  have := this l []
  simp only [List.length_nil] at this
  unfold flt
  omega
theorem Fine.wo (h : Fine m o) (ns : List Str) : Fine m (wo ns o) := by
  induction o using Option.casesOn with
  | none => trivial
  | some l => exact ⟨fun x hx => h.1 x (mem_flt.mp hx).1, Nat.le_trans (flt_len _ l) h.2⟩
theorem Fine.ei (h : Fine m o) (h' : Fine n o') : Fine (m + n) (ei o o') := by
  induction o using Option.casesOn with
  | none => exact h'.mono (by omega)
  | some l =>
    induction o' using Option.casesOn with
    | none => exact h.mono (by omega)
    | some l' => exact ⟨fun x hx => h.1 x (mem_flt.mp hx).1, Nat.le_trans (flt_len _ l) (by have := h.2; omega)⟩
theorem Fine.oflag (h : Fine m o) (h' : Fine n o') (b : Bool) : Fine (m + n) (oflag b o o') := by
  induction b using Bool.casesOn with
  | true => exact h.bo h'
  | false => exact h.mono (by omega)
theorem fine0 : Fine n (some []) := ⟨fun u_ h => (nomatch h), Nat.zero_le _⟩
theorem fine1 {x : Str} (h : sOk x) : Fine 1 (some [x]) := ⟨fun y hy => by rw [List.mem_singleton.mp hy]; exact h, Nat.le_refl _⟩
theorem fine (hσ : ∀ f, okS (σ f).fre) (e : Ex) (h : nok e) : Fine (nsz e) (nd σ e) := by
  induction e with
  | var x => exact fine1 h
  | lit n => exact fine0
  | err => trivial
  | add a b ih1 ih2 => exact (Fine.bo (Fine.bo (m := 0) fine0 (ih1 h.1)) (ih2 h.2)).mono (Nat.le_of_eq (congrArg (· + nsz b) (Nat.zero_add (nsz a))))
  | con1 _ _ _ => exact fine0
  | con2 _ _ _ _ _ => exact fine0
  | app3 f a b c ih1 ih2 ih3 =>
    have hf := hσ f
    show Fine _ (match σ f with | .dv => none | .mk p q r fr => _)
    cases hs : σ f with
    | dv => trivial
    | mk p q r fr =>
      rw [hs] at hf
      exact ((((Fine.bo (m := 1) (n := 1) (fine1 h.1) (show Fine 1 (some fr.toList) from ⟨hf, by induction fr using Option.casesOn <;> simp⟩)).oflag (ih1 h.2.1) p).oflag (ih2 h.2.2.1) q).oflag (ih3 h.2.2.2) r).mono (Nat.le_refl _)
  | app4 _ _ _ _ _ _ _ _ _ => exact h.elim
  | opn x n l r b ih => exact (Fine.bo (m := 1) (fine1 h.1) ((ih h.2.2.2.2).wo _)).mono (Nat.le_refl _)
  | zer x n a b ih1 ih2 => exact (Fine.bo (m := 1) (fine1 h.1) (((ih1 h.2.2.1).wo _).ei ((ih2 h.2.2.2).wo _))).mono (Nat.le_of_eq (Nat.add_assoc 1 (nsz a) (nsz b)).symm)
  | two x n u a v b ih1 ih2 => exact (Fine.bo (m := 1) (fine1 h.1) (((ih1 h.2.2.2.2.1).wo _).ei ((ih2 h.2.2.2.2.2).wo _))).mono (Nat.le_of_eq (Nat.add_assoc 1 (nsz a) (nsz b)).symm)
  | lett _ _ _ _ _ => exact h.elim
end
end
section
theorem Fine.up {m n : Nat} {o : Option (List Str)} (h : Fine m o) (k : Nat.ble m n = true) : Fine n o := h.mono (Nat.le_of_ble_eq_true k)
theorem okS1 {x : Str} (h : sOk x) : okS [x] := fun y hy => by rw [List.mem_singleton.mp hy]; exact h
theorem okSc {x : Str} {l : List Str} (h : sOk x) (hl : okS l) : okS (x :: l) := fun y hy => by
  rcases List.mem_cons.mp hy with rfl | hy
  · exact h
  · exact hl y hy
theorem At.l {n m : Nat} {C : Oracle} (h : At (n + m) C) : At n C := h.le (Nat.le_add_right _ _)
theorem At.r {n m : Nat} {C : Oracle} (h : At (n + m) C) : At m C := h.le (Nat.le_add_left _ _)
theorem At.nd {e : Ex} {C : Oracle} (h : At (ndq e) C) : At 2 C := h.le (ndq2 e)
theorem At.one {e : Ex} {C : Oracle} (h : At (ndq e) C) : At 1 C := h.le (Nat.le_trans (Nat.le_succ 1) (ndq2 e))
set_option smartUnfolding false
section
variable {C : Oracle} {cs : List PV} {K : PV → List PV → Prop} {σ : Str → Sg} {E : Dct}
theorem both_o {o o' : Option (List Str)} (hC : At 1 C) (h : Fine 100 o) (h' : Fine 100 o') (k : K (opv (bo o o')) cs) : C (.fn 429) [opv o, opv o'] cs K := by
  induction o using Option.casesOn with
  | none => exact both_n1 hC k
  | some l =>
    induction o' using Option.casesOn with
    | none => exact both_n2 hC k
    | some l' => exact both_ hC h.2 h'.2 k
theorem without_o {o : Option (List Str)} {ns : List Str} (hC : At 1 C) (h : Fine 100 o) (hn : okS ns) (k : K (opv (wo ns o)) cs) : C (.fn 439) [opv o, sl ns] cs K := by
  induction o using Option.casesOn with
  | none => exact without_none hC k
  | some l => exact without_ hC h.1 hn h.2 k
theorem either_o1 {o : Option (List Str)} (hC : At 1 C) (h : Fine 100 o) (k : K (opv o) cs) : C (.fn 434) [.lst [opv o]] cs K := by
  induction o using Option.casesOn with
  | none => exact either_n hC k
  | some l => exact either_1 hC h.2 k
theorem either_o2 {o o' : Option (List Str)} (hC : At 1 C) (h : Fine 100 o) (h' : Fine 100 o') (k : K (opv (ei o o')) cs) : C (.fn 434) [.lst [opv o, opv o']] cs K := by
  induction o using Option.casesOn with
  | none =>
    induction o' using Option.casesOn with
    | none => exact either_nn hC k
    | some l' => exact either_n1 hC h'.2 k
  | some l =>
    induction o' using Option.casesOn with
    | none => exact either_1n hC h.2 k
    | some l' => exact either_2 hC h.2 k
noncomputable def Needs (σ : Str → Sg) (E : Dct) (e : Ex) : Prop := ∀ (C : Oracle) (cs : List PV) (K : PV → List PV → Prop), At (ndq e) C → K (opv (nd σ e)) cs → C (.fn 453) [pv e, .dct E] cs K
theorem needs_var {x : Str} : Needs σ E (.var x) := fun C cs K hC k => hC.up fun C hC => k
theorem needs_lit {x : Int} : Needs σ E (.lit x) := fun C cs K hC k => hC.up fun C hC => k
theorem needs_con1 {c : Str} {a : Ex} : Needs σ E (.con1 c a) := fun C cs K hC k => hC.up fun C hC => k
theorem needs_con2 {c : Str} {a b : Ex} : Needs σ E (.con2 c a b) := fun C cs K hC k => hC.up fun C hC => k
theorem needs_err : Needs σ E .err := fun C cs K hC k => hC.up fun C hC => k
theorem needs_add {a b : Ex} (ih1 : Needs σ E a) (ih2 : Needs σ E b) (f1 : Fine 50 (nd σ a)) (f2 : Fine 50 (nd σ b)) : Needs σ E (.add a b) := by
  intro C cs K hC k
  refine hC.up fun C hC => ?_
  have h1 : At (ndq a + ndq b) (C 1) := hC 1
  refine ih1 (C 1) cs _ h1.l ?_
  refine both_o (C := C 1) (o := some []) h1.l.one fine0 (f1.up rfl) ?_
  refine ih2 (C 1) cs _ h1.r ?_
  exact both_o (C := C 1) h1.l.one ((Fine.bo (m := 0) fine0 f1).up rfl) (f2.up rfl) k
theorem needs_opn {x n l r : Str} {b : Ex} (h : nok (.opn x n l r b)) (ih : Needs σ E b) (f : Fine 50 (nd σ b)) : Needs σ E (.opn x n l r b) := by
  intro C cs K hC k
  (refine obAAAA h fun h1 h2 h4 h5 u_ => ?_; try clear h)
  refine hC.up fun C hC => ?_
  have hb : At (ndq b) (C 1) := hC 1
  refine ih (C 1) cs _ hb ?_
  refine without_o (C := C 1) (o := nd σ b) (ns := [l, r, n]) hb.one (f.up rfl) (okSc h4 (okSc h5 (okS1 h2))) ?_
  refine needs_var (σ := σ) (E := E) (C 1) cs _ hb.nd ?_
  refine either_o1 (C := C 1) hb.one ((f.wo [l, r, n]).up rfl) ?_
  exact both_o (C := C 1) (o := some [x]) hb.one ((fine1 h1).up rfl) ((f.wo [l, r, n]).up rfl) k
theorem needs_zer {x n : Str} {a b : Ex} (h : nok (.zer x n a b)) (ih1 : Needs σ E a) (ih2 : Needs σ E b) (f1 : Fine 50 (nd σ a)) (f2 : Fine 50 (nd σ b)) : Needs σ E (.zer x n a b) := by
  intro C cs K hC k
  (refine obAAA h fun h1 h2 u_ u_ => ?_; try clear h)
  refine obEE (pv_ins b) fun D l hD => ?_
  have ih2 : ∀ (C : Oracle) (cs : List PV) (K : PV → List PV → Prop), At (ndq b) C → K (opv (nd σ b)) cs → C (.fn 453) [pv b, .dct E] cs K := ih2
  show C (.fn 453) [pcase x n [palt keyZero [] (pv a)] (pv b), .dct E] cs K
  rw [hD] at ih2 ⊢
  refine hC.up fun C hC => ?_
  have hb : At (ndq a + ndq b) (C 1) := hC 1
  refine ih1 (C 1) cs _ hb.l ?_
  refine without_o (C := C 1) (o := nd σ a) (ns := [n]) hb.l.one (f1.up rfl) (okS1 h2) ?_
  refine ih2 (C 1) cs _ hb.r ?_
  refine without_o (C := C 1) (o := nd σ b) (ns := [n]) hb.l.one (f2.up rfl) (okS1 h2) ?_
  refine needs_var (σ := σ) (E := E) (C 1) cs _ hb.l.nd ?_
  refine either_o2 (C := C 1) hb.l.one ((f1.wo [n]).up rfl) ((f2.wo [n]).up rfl) ?_
  exact both_o (C := C 1) (o := some [x]) hb.l.one ((fine1 h1).up rfl) (((f1.wo [n]).ei (f2.wo [n])).up rfl) k
theorem needs_two {x n u v : Str} {a b : Ex} (h : nok (.two x n u a v b)) (ih1 : Needs σ E a) (ih2 : Needs σ E b) (f1 : Fine 50 (nd σ a)) (f2 : Fine 50 (nd σ b)) : Needs σ E (.two x n u a v b) := by
  intro C cs K hC k
  (refine obAAAAA h fun h1 h2 h5 h6 u_ u_ => ?_; try clear h)
  refine hC.up fun C hC => ?_
  have hb : At (ndq a + ndq b) (C 1) := hC 1
  refine ih1 (C 1) cs _ hb.l ?_
  refine without_o (C := C 1) (o := nd σ a) (ns := [u, n]) hb.l.one (f1.up rfl) (okSc h5 (okS1 h2)) ?_
  refine ih2 (C 1) cs _ hb.r ?_
  refine without_o (C := C 1) (o := nd σ b) (ns := [v, n]) hb.l.one (f2.up rfl) (okSc h6 (okS1 h2)) ?_
  refine needs_var (σ := σ) (E := E) (C 1) cs _ hb.l.nd ?_
  refine either_o2 (C := C 1) hb.l.one ((f1.wo [u, n]).up rfl) ((f2.wo [v, n]).up rfl) ?_
  exact both_o (C := C 1) (o := some [x]) hb.l.one ((fine1 h1).up rfl) (((f1.wo [u, n]).ei (f2.wo [v, n])).up rfl) k
end
end
section
set_option smartUnfolding false
section
variable {cs : List PV} {K : PV → List PV → Prop} {σ : Str → Sg} {E : Dct}
theorem needs_app_dv {f : Str} {a b c : Ex} (hf : dget E f = some (σ f).pv) (hs : σ f = .dv) : Needs σ E (.app3 f a b c) := by
  intro C cs K hC k
  have e : nd σ (.app3 f a b c) = none := by show (match σ f with | .dv => none | .mk p q r fr => _) = none; rw [hs]
  rw [e] at k
  rw [hs] at hf
  refine hC.up fun C hC => ?_
  conv => whnf
  refine opt_t hf ?_
  exact k
theorem fre_ok {fr : Option Str} (h : okS fr.toList) : Fine 1 (some fr.toList) := ⟨h, by induction fr using Option.casesOn <;> exact Nat.le_of_ble_eq_true rfl⟩
theorem needs_app_mk {f : Str} {a b c : Ex} {p q r : Bool} {fr : Option Str} (hf : dget E f = some (σ f).pv) (hs : σ f = .mk p q r fr) (h0 : sOk f) (h1 : okS fr.toList) (ih1 : Needs σ E a) (ih2 : Needs σ E b) (ih3 : Needs σ E c) (f1 : Fine 20 (nd σ a)) (f2 : Fine 20 (nd σ b)) (f3 : Fine 20 (nd σ c)) : Needs σ E (.app3 f a b c) := by
  intro C cs K hC k
  have e : nd σ (.app3 f a b c) = oflag r (oflag q (oflag p (bo (some [f]) (some fr.toList)) (nd σ a)) (nd σ b)) (nd σ c) := by show (match σ f with | .dv => none | .mk p q r fr => _) = _; rw [hs]; rfl
  rw [e] at k
  rw [hs] at hf
  have g0 : Fine 2 (bo (some [f]) (some fr.toList)) := Fine.bo (m := 1) (n := 1) (fine1 h0) (fre_ok h1)
  have g1 := g0.oflag f1 p
  have g2 := g1.oflag f2 q
  refine hC.up fun C hC => ?_
  have hb : At (ndq a + (ndq b + ndq c)) (C 1) := hC 1
  have h1' := hb.l.one
  conv => whnf
  refine opt_t hf ?_
  refine both_o (C := C 1) (o := some [f]) (o' := some fr.toList) h1' ((fine1 h0).up rfl) ((fre_ok h1).up rfl) ?_
  have st3 : ∀ (K' : PV → List PV → Prop), K' (opv (bo (oflag q (oflag p (bo (some [f]) (some fr.toList)) (nd σ a)) (nd σ b)) (nd σ c))) cs → C 1 (.fn 429) [opv (oflag q (oflag p (bo (some [f]) (some fr.toList)) (nd σ a)) (nd σ b)), opv (nd σ c)] cs K' := fun K' k => both_o h1' (g2.up rfl) (f3.up rfl) k
  have st2 : ∀ (K' : PV → List PV → Prop), K' (opv (bo (oflag p (bo (some [f]) (some fr.toList)) (nd σ a)) (nd σ b))) cs → C 1 (.fn 429) [opv (oflag p (bo (some [f]) (some fr.toList)) (nd σ a)), opv (nd σ b)] cs K' := fun K' k => both_o h1' (g1.up rfl) (f2.up rfl) k
  have st1 : ∀ (K' : PV → List PV → Prop), K' (opv (bo (bo (some [f]) (some fr.toList)) (nd σ a))) cs → C 1 (.fn 429) [opv (bo (some [f]) (some fr.toList)), opv (nd σ a)] cs K' := fun K' k => both_o h1' (g0.up rfl) (f1.up rfl) k
  have ih1 := fun K' => ih1 (C 1) cs K' hb.l
  have ih2 := fun K' => ih2 (C 1) cs K' hb.r.l
  have ih3 := fun K' => ih3 (C 1) cs K' hb.r.r
  clear g0 g1 g2 f1 f2 f3 h0 h1 h1' hb hC e hf
  induction p using Bool.casesOn
  · induction q using Bool.casesOn
    · induction r using Bool.casesOn
      · exact k
      · refine ih3 _ ?_
        refine st3 _ ?_
        exact k
    · refine ih2 _ ?_
      refine st2 _ ?_
      induction r using Bool.casesOn
      · exact k
      · refine ih3 _ ?_
        refine st3 _ ?_
        exact k
  · refine ih1 _ ?_
    refine st1 _ ?_
    induction q using Bool.casesOn
    · induction r using Bool.casesOn
      · exact k
      · refine ih3 _ ?_
        refine st3 _ ?_
        exact k
    · refine ih2 _ ?_
      refine st2 _ ?_
      induction r using Bool.casesOn
      · exact k
      · refine ih3 _ ?_
        refine st3 _ ?_
        exact k
end
end
section
section
variable {C : Oracle} {cs : List PV} {K : PV → List PV → Prop} {σ : Str → Sg} {E : Dct}
noncomputable def cok (G : Str → Prop) : Ex → Prop
  | .add a b => cok G a ∧ cok G b
  | .app3 f a b c => G f ∧ cok G a ∧ cok G b ∧ cok G c
  | .opn _ _ _ _ b => cok G b
  | .zer _ _ a b => cok G a ∧ cok G b
  | .two _ _ _ a _ b => cok G a ∧ cok G b
  | _ => True
theorem up20 {m n : Nat} (h : m ≤ 20) (k : Nat.ble 20 n = true) : m ≤ n := Nat.le_trans h (Nat.le_of_ble_eq_true k)
theorem needs {G : Str → Prop} (hσ : ∀ f, okS (σ f).fre) (hE : ∀ f, G f → dget E f = some (σ f).pv) (e : Ex) (h : nok e) (hc : cok G e) (hz : nsz e ≤ 20) : Needs σ E e := by
  induction e with
  | var x => exact needs_var
  | lit n => exact needs_lit
  | err => exact needs_err
  | add a b ih1 ih2 =>
    have za : nsz a ≤ 20 := Nat.le_trans (Nat.le_add_right ..) hz
    have zb : nsz b ≤ 20 := Nat.le_trans (Nat.le_add_left ..) hz
    exact needs_add (ih1 h.1 hc.1 za) (ih2 h.2 hc.2 zb) ((fine hσ a h.1).mono (up20 za rfl)) ((fine hσ b h.2).mono (up20 zb rfl))
  | con1 _ _ _ => exact needs_con1
  | con2 _ _ _ _ _ => exact needs_con2
  | app3 f a b c ih1 ih2 ih3 =>
    have zab : 2 + nsz a + nsz b ≤ 20 := Nat.le_trans (Nat.le_add_right ..) hz
    have zc : nsz c ≤ 20 := Nat.le_trans (Nat.le_add_left ..) hz
    have zb : nsz b ≤ 20 := Nat.le_trans (Nat.le_add_left ..) zab
    have za : nsz a ≤ 20 := Nat.le_trans (Nat.le_add_left ..) (Nat.le_trans (Nat.le_add_right ..) zab)
    cases hs : σ f with
    | dv => exact needs_app_dv (hE f hc.1) hs
    | mk p q r fr =>
      have hf := hσ f
      rw [hs] at hf
      exact needs_app_mk (hE f hc.1) hs h.1 hf (ih1 h.2.1 hc.2.1 za) (ih2 h.2.2.1 hc.2.2.1 zb) (ih3 h.2.2.2 hc.2.2.2 zc) ((fine hσ a h.2.1).mono (up20 za rfl)) ((fine hσ b h.2.2.1).mono (up20 zb rfl)) ((fine hσ c h.2.2.2).mono (up20 zc rfl))
  | app4 _ _ _ _ _ _ _ _ _ => exact h.elim
  | opn x n l r b ih =>
    have zb : nsz b ≤ 20 := Nat.le_trans (Nat.le_add_left ..) hz
    exact needs_opn h (ih h.2.2.2.2 hc zb) ((fine hσ b h.2.2.2.2).mono (up20 zb rfl))
  | zer x n a b ih1 ih2 =>
    have zb : nsz b ≤ 20 := Nat.le_trans (Nat.le_add_left ..) hz
    have za : nsz a ≤ 20 := Nat.le_trans (Nat.le_add_left ..) (Nat.le_trans (Nat.le_add_right ..) hz)
    exact needs_zer h (ih1 h.2.2.1 hc.1 za) (ih2 h.2.2.2 hc.2 zb) ((fine hσ a h.2.2.1).mono (up20 za rfl)) ((fine hσ b h.2.2.2).mono (up20 zb rfl))
  | two x n u a v b ih1 ih2 =>
    have zb : nsz b ≤ 20 := Nat.le_trans (Nat.le_add_left ..) hz
    have za : nsz a ≤ 20 := Nat.le_trans (Nat.le_add_left ..) (Nat.le_trans (Nat.le_add_right ..) hz)
    exact needs_two h (ih1 h.2.2.2.2.1 hc.1 za) (ih2 h.2.2.2.2.2 hc.2 zb) ((fine hσ a h.2.2.2.2.1).mono (up20 za rfl)) ((fine hσ b h.2.2.2.2.2).mono (up20 zb rfl))
  | lett _ _ _ _ _ => exact h.elim
noncomputable def sgOf (p e n : Str) : Option (List Str) → Sg
  | none => .dv
  | some l => .mk (l.contains p) (l.contains e) (l.contains n) (flt (fun x => ![p, e, n].contains x) l).head?
theorem head_list {l : List Str} (h : l.length ≤ 1) : l = l.head?.toList := by
  match l, h with
  | [], _ => rfl
  | [_], _ => rfl
set_option smartUnfolding false
theorem sig_ {p e n : Str} {b : Ex} (h : Needs σ E b) (f : Fine 50 (nd σ b)) (hp : sOk p) (he : sOk e) (hn : sOk n) (hfr : ∀ l, nd σ b = some l → (flt (fun x => ![p, e, n].contains x) l).length ≤ 1) (hC : At (ndq b + 1) C) (k : K (sgOf p e n (nd σ b)).pv cs) : C (.fn 479) [plam [.str p, .str e, .str n] b, .dct E] cs K := by
  refine hC.up fun C hC => ?_
  have hb : At (ndq b) (C 0) := hC 0
  refine h (C 0) cs _ hb ?_
  cases q : nd σ b with
  | none =>
    rw [q] at k
    exact hopeful_ (C := C 0) hb.one k
  | some l =>
    rw [q] at k f
    have hfr := hfr l q
    have e1 : (sgOf p e n (some l)).pv = sgo [.bool (dget (tkl l) p).isSome, .bool (dget (tkl l) e).isSome, .bool (dget (tkl l) n).isSome] (flt (fun x => ![p, e, n].contains x) l) false := by
      rw [dget_tk, dget_tk, dget_tk, head_list hfr]
      rfl
    rw [e1] at k
    refine without_ (C := C 0) (l := l) (ns := [p, e, n]) hb.one f.1 (okSc hp (okSc he (okS1 hn))) (Nat.le_trans f.2 (Nat.le_of_ble_eq_true rfl)) ?_
    exact k
end
end
section
noncomputable def Sg.ok : Sg → Prop
  | .dv => True
  | .mk _ _ _ fr => fr = none ∨ fr = some "f"
noncomputable def Sg.all : List Sg := .dv :: ([true, false].flatMap fun a => [true, false].flatMap fun b => [true, false].flatMap fun c => [Sg.mk a b c none, Sg.mk a b c (some "f")])
theorem Sg.mem_all {s : Sg} (h : s.ok) : s ∈ Sg.all := by
  rcases s with _ | ⟨a, b, c, fr⟩
  · exact List.mem_cons_self ..
  · rcases h with rfl | rfl <;> induction a using Bool.casesOn <;> induction b using Bool.casesOn <;> induction c using Bool.casesOn <;> decide
theorem cmp_row {s t : Sg} (hs : s.ok) (ht : t.ok) : cmp .Eq s.row t.row = some (decide (s = t)) := by
  have : ∀ s ∈ Sg.all, ∀ t ∈ Sg.all, cmp .Eq s.row t.row = some (decide (s = t)) := by decide +kernel
  exact this s (Sg.mem_all hs) t (Sg.mem_all ht)
end
section
noncomputable abbrev E3 (a b c : Sg) : Dct := [("f", a.pv), ("g", b.pv), ("h", c.pv)]
structure Fn where
  p : Str
  e : Str
  n : Str
  b : Ex
noncomputable abbrev Fn.pv (f : Fn) : PV := plam [.str f.p, .str f.e, .str f.n] f.b
noncomputable abbrev F3 (f g h : Fn) : Dct := [("f", f.pv), ("g", g.pv), ("h", h.pv)]
noncomputable def SigOf (D : Nat) (f : Fn) (E : Dct) (s : Sg) : Prop := s.ok ∧ ∀ C cs K, At D C → K s.pv cs → C (.fn 479) [f.pv, .dct E] cs K
noncomputable def whP : Option Stmt → Expr × List Stmt
  | some (.While t b _ _) => (t, b)
  | _ => (.Constant .none 0 ⟨0, 0, 0, 0⟩, [])
noncomputable abbrev whT (s : Option Stmt) : Expr := (whP s).1
noncomputable abbrev whB (s : Option Stmt) : List Stmt := (whP s).2
noncomputable abbrev on (x : Str) (p : PV) : Str × Bind := (x, ⟨.own, p⟩)
noncomputable abbrev pbo (x : Str) (b : Bool) : Str × Bind := pn x (.bool b)
section
variable {C : Oracle} {D : Nat} {cs : List PV} {K : PV → List PV → Prop} {f g h : Fn}
noncomputable def stFr (f g h : Fn) (a b c : Sg) (s : Bool) (r : List (Str × Bind)) : List (Str × Bind) := pn "functions" (.dct (F3 f g h)) :: pn "env" (.dct []) :: pn "found" (.dct (E3 a b c)) :: pbo "is_same" s :: r
noncomputable def stWl (C : Oracle) (n : Nat) : St → KtS → Prop := vcWl (vcT 37 (whT (bodyOf 489)[2]?)) (vcSs TT 37 (scOf 489) (whB (bodyOf 489)[2]?)) (vcE TT 37 (scOf 489) C) C n
theorem cmp_row' {s t : Sg} (hs : s.ok) (ht : t.ok) {b : Bool} (q : decide (s = t) = b) : cmp .Eq s.row t.row = some b := by rw [cmp_row hs ht, q]
set_option smartUnfolding false
theorem st_turn {a b c sa sb sc : Sg} {C : Nat → Oracle} {n : Nat} {r : List (Str × Bind)} {KS : KtS} (hC : Ats (D + 1) C) (oa : a.ok) (ob : b.ok) (oc : c.ok) (ha : SigOf D f (E3 a b c) sa) (hb : SigOf D g (E3 a b c) sb) (hc : SigOf D h (E3 a b c) sc) (hr : r = [] ∨ ∃ x y z : Bind, r = ([("known", x), ("later", y), ("name", z)] : List (Str × Bind)))
  (k : ∀ x y z : Bind, stWl (CI TT 40 C 4 0) n ⟨stFr f g h sa sb sc (decide (sa = a) && (decide (sb = b) && decide (sc = c))) ([("known", x), ("later", y), ("name", z)] : List (Str × Bind)), cs⟩ KS) : stWl (CI TT 40 C 4 0) (n + 1) ⟨stFr f g h a b c false r, cs⟩ KS := by
  have h0 : At (D + 1) (C 0) := hC 0
  have h1 := h0.r
  have hD := h0.l
  rcases hr with rfl | ⟨x, y, z, rfl⟩
  · refine extended_ (C := C 0) (l := []) (m := E3 a b c) h1 (Nat.le_of_ble_eq_true rfl) (Nat.le_of_ble_eq_true rfl) ?_
    refine ha.2 (C 0) cs _ hD ?_
    refine row_ (C := C 0) (s := sa) h1 ?_
    refine row_ (C := C 0) (s := a) h1 ?_
    conv => whnf
    cases q1 : decide (sa = a)
    · refine opt_t (cmp_row' ha.1 oa q1) ?_
      refine hb.2 (C 0) cs _ hD ?_
      refine hc.2 (C 0) cs _ hD ?_
      rw [q1] at k
      exact k _ _ _
    · refine opt_t (cmp_row' ha.1 oa q1) ?_
      refine hb.2 (C 0) cs _ hD ?_
      refine row_ (C := C 0) (s := sb) h1 ?_
      refine row_ (C := C 0) (s := b) h1 ?_
      conv => whnf
      cases q2 : decide (sb = b)
      · refine opt_t (cmp_row' hb.1 ob q2) ?_
        refine hc.2 (C 0) cs _ hD ?_
        rw [q1, q2] at k
        exact k _ _ _
      · refine opt_t (cmp_row' hb.1 ob q2) ?_
        refine hc.2 (C 0) cs _ hD ?_
        refine row_ (C := C 0) (s := sc) h1 ?_
        refine row_ (C := C 0) (s := c) h1 ?_
        conv => whnf
        refine opt_t (cmp_row' hc.1 oc rfl) ?_
        rw [q1, q2] at k
        exact k _ _ _
  · refine extended_ (C := C 0) (l := []) (m := E3 a b c) h1 (Nat.le_of_ble_eq_true rfl) (Nat.le_of_ble_eq_true rfl) ?_
    refine ha.2 (C 0) cs _ hD ?_
    refine row_ (C := C 0) (s := sa) h1 ?_
    refine row_ (C := C 0) (s := a) h1 ?_
    conv => whnf
    cases q1 : decide (sa = a)
    · refine opt_t (cmp_row' ha.1 oa q1) ?_
      refine hb.2 (C 0) cs _ hD ?_
      refine hc.2 (C 0) cs _ hD ?_
      rw [q1] at k
      exact k _ _ _
    · refine opt_t (cmp_row' ha.1 oa q1) ?_
      refine hb.2 (C 0) cs _ hD ?_
      refine row_ (C := C 0) (s := sb) h1 ?_
      refine row_ (C := C 0) (s := b) h1 ?_
      conv => whnf
      cases q2 : decide (sb = b)
      · refine opt_t (cmp_row' hb.1 ob q2) ?_
        refine hc.2 (C 0) cs _ hD ?_
        rw [q1, q2] at k
        exact k _ _ _
      · refine opt_t (cmp_row' hb.1 ob q2) ?_
        refine hc.2 (C 0) cs _ hD ?_
        refine row_ (C := C 0) (s := sc) h1 ?_
        refine row_ (C := C 0) (s := c) h1 ?_
        conv => whnf
        refine opt_t (cmp_row' hc.1 oc rfl) ?_
        rw [q1, q2] at k
        exact k _ _ _
theorem st_end {a b c : Sg} {C : Nat → Oracle} {n : Nat} {r : List (Str × Bind)} {KS : KtS} (k : KS .next ⟨stFr f g h a b c true r, cs⟩) : stWl (CI TT 40 C 4 0) (n + 1) ⟨stFr f g h a b c true r, cs⟩ KS := k
theorem settled_ {φ γ0 γ1 η0 η1 : Sg} (hf : ∀ a b c, SigOf D f (E3 a b c) φ) (hg0 : ∀ b c, SigOf D g (E3 .dv b c) γ0) (hg1 : ∀ b c, SigOf D g (E3 φ b c) γ1) (hh0 : ∀ a b, SigOf D h (E3 a b .dv) η0) (hh1 : ∀ a b, SigOf D h (E3 a b η0) η1) (hh2 : ∀ a b, SigOf D h (E3 a b η1) η1)
    (eg : φ = .dv → γ0 = γ1) (eh : η0 = .dv → η0 = η1) (hC : At (D + 2) C) (k : K (.dct (E3 φ γ1 η1)) cs) : C (.fn 489) [.dct (F3 f g h), .dct []] cs K := by
  have oφ := (hf .dv .dv .dv).1
  have oγ0 := (hg0 .dv .dv).1
  have oγ1 := (hg1 .dv .dv).1
  have oη0 := (hh0 .dv .dv).1
  have oη1 := (hh1 .dv .dv).1
  refine hC.up fun C hC => ?_
  have h0 : At (D + 1) (C 0) := hC 0
  refine hopeful_ (C := C 0) h0.r ?_
  refine hopeful_ (C := C 0) h0.r ?_
  refine hopeful_ (C := C 0) h0.r ?_
  refine (?_ : stWl (CI TT 40 C 4 0) turnsC ⟨stFr f g h .dv .dv .dv false [], cs⟩ (kNext (vcSs TT 37 (scOf 489) ((bodyOf 489).drop 3) (CI TT 40 C 4 0)) (kEnd K)))
  rw [turns_eq]
  refine st_turn (n := 149) hC trivial trivial trivial (hf _ _ _) (hg0 _ _) (hh0 _ _) (.inl rfl) fun x1 x2 x3 => ?_
  have fin : ∀ {n : Nat} {r : List (Str × Bind)}, stWl (CI TT 40 C 4 0) (n + 1) ⟨stFr f g h φ γ1 η1 true r, cs⟩ (kNext (vcSs TT 37 (scOf 489) ((bodyOf 489).drop 3) (CI TT 40 C 4 0)) (kEnd K)) := st_end k
  by_cases q : φ = .dv ∧ γ0 = .dv ∧ η0 = .dv
  · (refine obAA q ?_; try clear q; rintro rfl rfl rfl)
    obtain rfl := eg rfl
    obtain rfl := eh rfl
    exact fin (n := 148)
  · rw [show (decide (φ = .dv) && (decide (γ0 = .dv) && decide (η0 = .dv))) = false by simpa using q]
    refine st_turn (n := 148) hC oφ oγ0 oη0 (hf _ _ _) (hg1 _ _) (hh1 _ _) (.inr ⟨x1, x2, x3, rfl⟩) fun x1 x2 x3 => ?_
    by_cases q : γ1 = γ0 ∧ η1 = η0
    · obtain ⟨rfl, rfl⟩ := q
      rw [decide_eq_true rfl, decide_eq_true rfl, decide_eq_true rfl]
      exact fin (n := 147)
    · rw [show (decide (φ = φ) && (decide (γ1 = γ0) && decide (η1 = η0))) = false by simpa using q]
      refine st_turn (n := 147) hC oφ oγ1 oη1 (hf _ _ _) (hg1 _ _) (hh2 _ _) (.inr ⟨x1, x2, x3, rfl⟩) fun x1 x2 x3 => ?_
      rw [decide_eq_true rfl, decide_eq_true rfl, decide_eq_true rfl]
      exact fin (n := 146)
end
end
section
set_option smartUnfolding false
noncomputable abbrev ent (x : Str) (p : PV) : PV := .tup [.str x, p]
noncomputable abbrev bindsL (f g h : Fn) (q1 r1 s1 q2 r2 s2 q3 r3 s3 : Ex) : List PV := [ent "f" f.pv, ent "g" g.pv, ent "h" h.pv, ent "fs" (pv (.app3 "f" q1 r1 s1)), ent "gs" (pv (.app3 "g" q2 r2 s2)), ent "hs" (pv (.app3 "h" q3 r3 s3))]
noncomputable abbrev conInfo (x : Str) (tag ar : Int) (st : List PV) (ty : Str) (sib : Int) : PV := .ins 585 [("name", .str x), ("tag", .int tag), ("arity", .int ar), ("stricts", .lst st), ("type_name", .str ty), ("scheme", .none), ("siblings", .int sib), ("is_newtype", .bool false)]
noncomputable abbrev consD : Dct := [("P", conInfo "P" 0 2 [.bool false, .bool false] "T" 1), ("C", conInfo "C" 0 1 [.bool false] "E" 2), ("D", conInfo "D" 1 1 [.bool false] "E" 2)]
noncomputable abbrev progV (bs : List PV) : PV := .ins 383 [("binds", .lst bs), ("cons", .dct consD), ("main", .str "fs")]
section
variable {C : Oracle} {D : Nat} {cs : List PV} {K : PV → List PV → Prop} {f g h : Fn} {q1 r1 s1 q2 r2 s2 q3 r3 s3 : Ex}
theorem functions_in_ (hC : At 1 C) (k : K (.dct (F3 f g h)) cs) : C (.fn 484) [.lst (bindsL f g h q1 r1 s1 q2 r2 s2 q3 r3 s3)] cs K := hC.up fun C u_ => k
theorem signatures_ {φ γ0 γ1 η0 η1 : Sg} (hf : ∀ a b c, SigOf D f (E3 a b c) φ) (hg0 : ∀ b c, SigOf D g (E3 .dv b c) γ0) (hg1 : ∀ b c, SigOf D g (E3 φ b c) γ1) (hh0 : ∀ a b, SigOf D h (E3 a b .dv) η0) (hh1 : ∀ a b, SigOf D h (E3 a b η0) η1) (hh2 : ∀ a b, SigOf D h (E3 a b η1) η1)
    (eg : φ = .dv → γ0 = γ1) (eh : η0 = .dv → η0 = η1) (hC : At (D + 3) C) (k : K (.dct (E3 φ γ1 η1)) cs) : C (.fn 513) [progV (bindsL f g h q1 r1 s1 q2 r2 s2 q3 r3 s3)] cs K := by
  refine hC.up fun C hC => ?_
  have h0 : At (D + 2) (C 0) := hC 0
  refine functions_in_ (C := C 0) (h0.r.le (Nat.le_succ 1)) ?_
  exact settled_ (C := C 0) hf hg0 hg1 hh0 hh1 hh2 eg eh h0 k
end
end
section
theorem wl_ind {tst : Evl → St → KtB → Prop} {body : Oracle → St → KtS → Prop} {ev : Evl} {C : Oracle} {K : KtS} (I : Nat → St → Prop)
    (step : ∀ i σ (ih : St → KtS → Prop), I i σ → (∀ j σ', j < i → I j σ' → ih σ' K) → tst ev σ (kWl body C ih K)) :
    ∀ k i σ, i < k → I i σ → vcWl tst body ev C k σ K := by
  intro k
  induction k with
  | zero => intro i σ h; exact absurd h (Nat.not_lt_zero _)
  | succ k ih =>
    intro i σ h hI
    exact step i σ (vcWl tst body ev C k) hI fun j σ' hj hI' => ih j σ' (Nat.lt_of_lt_of_le hj (Nat.le_of_lt_succ h)) hI'
noncomputable def hasO : Ex → Bool
  | .var _ => false
  | .lit _ => false
  | .err => false
  | .add a b => hasO a || hasO b
  | .con1 _ a => hasO a
  | .con2 _ a b => hasO a || hasO b
  | .app3 _ a b c => hasO a || (hasO b || hasO c)
  | .app4 _ _ _ _ _ => false
  | .opn _ _ _ _ _ => true
  | .zer _ _ a b => hasO a || hasO b
  | .two _ _ _ a _ b => hasO a || hasO b
  | .lett _ _ _ => false
noncomputable def sz : Ex → Nat
  | .var _ => 1
  | .lit _ => 1
  | .err => 2
  | .add a b => 1 + sz a + sz b
  | .con1 _ a => 1 + sz a
  | .con2 _ a b => 1 + sz a + sz b
  | .app3 _ a b c => 2 + sz a + sz b + sz c
  | .app4 _ _ _ _ _ => 1
  | .opn _ _ _ _ b => 2 + sz b
  | .zer _ _ a b => 2 + sz a + sz b
  | .two _ _ _ a _ b => 2 + sz a + sz b
  | .lett _ _ _ => 1
noncomputable def okO (p : Str) : Ex → Prop
  | .var _ => True
  | .lit _ => True
  | .err => True
  | .add a b => okO p a ∧ okO p b
  | .con1 _ a => okO p a
  | .con2 _ a b => okO p a ∧ okO p b
  | .app3 _ a b c => okO p a ∧ okO p b ∧ okO p c
  | .app4 _ _ _ _ _ => False
  | .opn x _ _ _ b => x = p ∧ okO p b
  | .zer _ _ a b => okO p a ∧ okO p b
  | .two _ _ _ a _ b => okO p a ∧ okO p b
  | .lett _ _ _ => False
noncomputable def szs (l : List Ex) : Nat := (l.map sz).sum
theorem szs_app {l m : List Ex} : szs (l ++ m) = szs l + szs m := by simp [szs]
theorem one_le {a b : Nat} : 1 ≤ 1 + a + b := Nat.le_trans (Nat.le_add_right 1 a) (Nat.le_add_right ..)
theorem one_le2 {a b : Nat} : 1 ≤ 2 + a + b := Nat.le_trans (Nat.le_trans (Nat.le_add_right 1 1) (Nat.le_add_right 2 a)) (Nat.le_add_right ..)
theorem sz_pos (e : Ex) : 1 ≤ sz e := by
  induction e using Ex.casesOn with
  | err => exact Nat.le_succ 1
  | add => exact one_le
  | con1 => exact Nat.le_add_right ..
  | con2 => exact one_le
  | app3 => exact Nat.le_trans one_le2 (Nat.le_add_right ..)
  | opn => exact Nat.le_trans (Nat.le_succ 1) (Nat.le_add_right ..)
  | zer => exact one_le2
  | two => exact one_le2
  | _ => exact Nat.le_refl _
theorem szs_len (l : List Ex) : l.length ≤ szs l := by
  induction l with
  | nil => exact Nat.zero_le _
  | cons e l ih =>
    have := sz_pos e
    simp only [szs, List.map_cons, List.sum_cons, List.length_cons] at *
    omega
noncomputable def fb (p : Str) : Bool → Dct
  | true => [(p, .str "P")]
  | false => []
noncomputable def subs : Ex → List Ex
  | .var _ => []
  | .lit _ => []
  | .err => [.lit 0]
  | .add a b => [a, b]
  | .con1 _ a => [a]
  | .con2 _ a b => [a, b]
  | .app3 f a b c => [.var f, a, b, c]
  | .app4 _ _ _ _ _ => []
  | .opn x _ _ _ b => [.var x, b]
  | .zer x _ a b => [.var x, a, b]
  | .two x _ _ a _ b => [.var x, a, b]
  | .lett _ _ _ => []
noncomputable def isO : Ex → Bool
  | .opn _ _ _ _ _ => true
  | _ => false
theorem lt_2 {a b : Nat} : a + (b + 0) < 1 + a + b := by omega
theorem lt_4 {a b : Nat} : 1 + (a + (b + 0)) < 2 + a + b := by omega
theorem subs_sz (e : Ex) : szs (subs e) < sz e := by
  induction e using Ex.casesOn with
  | err => exact Nat.lt_succ_self 1
  | add => exact lt_2
  | con1 _ a => exact (show sz a + 0 < 1 + sz a by omega)
  | con2 => exact lt_2
  | app3 _ a b c => exact (show 1 + (sz a + (sz b + (sz c + 0))) < 2 + sz a + sz b + sz c by omega)
  | opn _ _ _ _ a => exact (show 1 + (sz a + 0) < 2 + sz a by omega)
  | zer => exact lt_4
  | two => exact lt_4
  | _ => exact Nat.zero_lt_one
theorem subs_len (e : Ex) : (subs e).length ≤ 4 := by induction e using Ex.casesOn <;> exact Nat.le_of_ble_eq_true rfl
theorem subs_ok {p : Str} {e : Ex} (h : okO p e) : ∀ x ∈ subs e, okO p x := by
  have nl : ∀ x ∈ ([] : List Ex), okO p x := fun u_ m => absurd m List.not_mem_nil
  induction e using Ex.casesOn with
  | err => exact List.forall_mem_cons.mpr ⟨trivial, nl⟩
  | add => exact List.forall_mem_cons.mpr ⟨h.1, List.forall_mem_cons.mpr ⟨h.2, nl⟩⟩
  | con1 => exact List.forall_mem_cons.mpr ⟨h, nl⟩
  | con2 => exact List.forall_mem_cons.mpr ⟨h.1, List.forall_mem_cons.mpr ⟨h.2, nl⟩⟩
  | app3 => exact List.forall_mem_cons.mpr ⟨trivial, List.forall_mem_cons.mpr ⟨h.1, List.forall_mem_cons.mpr ⟨h.2.1, List.forall_mem_cons.mpr ⟨h.2.2, nl⟩⟩⟩⟩
  | opn => exact List.forall_mem_cons.mpr ⟨trivial, List.forall_mem_cons.mpr ⟨h.2, nl⟩⟩
  | zer => exact List.forall_mem_cons.mpr ⟨trivial, List.forall_mem_cons.mpr ⟨h.1, List.forall_mem_cons.mpr ⟨h.2, nl⟩⟩⟩
  | two => exact List.forall_mem_cons.mpr ⟨trivial, List.forall_mem_cons.mpr ⟨h.1, List.forall_mem_cons.mpr ⟨h.2, nl⟩⟩⟩
  | _ => exact nl
theorem subs_o (e : Ex) : hasO e = (isO e || (subs e).any hasO) := by
  induction e using Ex.casesOn with
  | add a b => exact (show (hasO a || hasO b) = (hasO a || (hasO b || false)) by rw [Bool.or_false])
  | con1 _ a => exact (Bool.or_false (hasO a)).symm
  | con2 _ a b => exact (show (hasO a || hasO b) = (hasO a || (hasO b || false)) by rw [Bool.or_false])
  | app3 _ a b c => exact (show (hasO a || (hasO b || hasO c)) = (hasO a || (hasO b || (hasO c || false))) by rw [Bool.or_false])
  | zer _ _ a b => exact (show (hasO a || hasO b) = (hasO a || (hasO b || false)) by rw [Bool.or_false])
  | two _ _ _ a _ b => exact (show (hasO a || hasO b) = (hasO a || (hasO b || false)) by rw [Bool.or_false])
  | _ => rfl
theorem fb_t {p : Str} : dset [(p, PV.str "P")] p (.str "P") = fb p true := by simp [dset, fb]
theorem ne_nil_t {l : List PV} {x : PV} : cmp .NotEq (.lst (l ++ [x])) (.lst []) = some true := by induction l using List.casesOn <;> rfl
theorem gl_t {l : List PV} {x : PV} : (l ++ [x]).getLast? = some x := by simp
set_option smartUnfolding false
section
variable {C : Nat → Oracle} {cs : List PV} {K : PV → List PV → Prop} {KS : KtS} {ih : St → KtS → Prop}
noncomputable def scrFr (e : Ex) (p : Str) (b : Bool) (l : List PV) (r : List (Str × Bind)) : List (Str × Bind) := pn "expr" (pv e) :: pn "cons" (.dct consD) :: on "waiting" (.lst l) :: on "found" (.dct (fb p b)) :: r
noncomputable def scrB : List Stmt := whB (bodyOf 546)[1]?
noncomputable def Tl (x : Str) (r : List (Str × Bind)) : Prop := r = [] ∨ ∃ y, r = ([pn x y] : List (Str × Bind))
theorem scr_rest {e : Ex} {p : Str} {b : Bool} {x : Ex} {l : List Ex} {r : List (Str × Bind)} (hr : Tl "alt" r) (hl : l.length ≤ 100) (hox : okO p x)
    (k : ∀ r, Tl "alt" r → ih ⟨scrFr e p (b || isO x) ((l ++ subs x).map pv) (pn "here" (pv x) :: r), cs⟩ KS) : vcSs TT 37 (scOf 546) (scrB.drop 1) (CI TT 40 C 4 0) ⟨scrFr e p b (l.map pv) (pn "here" (pv x) :: r), cs⟩ (kNext ih KS) := by
  have sf2 : ∀ m : List PV, m.length ≤ 4 → sfits ((List.map pv l).length + m.length) = true := fun m hm => by rw [List.length_map]; exact sfl (Nat.add_le_add hl hm) rfl
  rw [List.map_append] at k
  have non : isO x = false → ih ⟨scrFr e p b (l.map pv ++ (subs x).map pv) (pn "here" (pv x) :: r), cs⟩ KS := fun h => by
    have := k r hr
    rw [h, Bool.or_false] at this
    exact this
  induction x using Ex.casesOn with
  | var x => conv => whnf
             exact bool_t (sf2 [] (Nat.le_of_ble_eq_true rfl)) (non rfl)
  | lit n => conv => whnf
             exact bool_t (sf2 [] (Nat.le_of_ble_eq_true rfl)) (non rfl)
  | err => conv => whnf
           exact bool_t (sf2 [plit 0] (Nat.le_of_ble_eq_true rfl)) (non rfl)
  | add a c => conv => whnf
               exact bool_t (sf2 [pv a, pv c] (Nat.le_of_ble_eq_true rfl)) (non rfl)
  | con1 m a => conv => whnf
                exact bool_t (sf2 [pv a] (Nat.le_of_ble_eq_true rfl)) (non rfl)
  | con2 m a c => conv => whnf
                  exact bool_t (sf2 [pv a, pv c] (Nat.le_of_ble_eq_true rfl)) (non rfl)
  | app3 f a c q => conv => whnf
                    exact bool_t (sf2 [pvar f, pv a, pv c, pv q] (Nat.le_of_ble_eq_true rfl)) (non rfl)
  | app4 f a c q r => exact hox.elim
  | lett x a c => exact hox.elim
  | opn x n u v c =>
    obtain ⟨rfl, _⟩ := hox
    have kk := k [pn "alt" (palt (keyCon "P") [.str u, .str v] (pv c))] (.inr ⟨_, rfl⟩)
    rw [isO, Bool.or_true] at kk
    have k2 : ih ⟨pn "expr" (pv e) :: pn "cons" (.dct consD) :: on "waiting" (.lst (l.map pv ++ [pvar x, pv c])) :: on "found" (.dct (dset [(x, .str "P")] x (.str "P"))) :: [pn "here" (pv (.opn x n u v c)), pn "alt" (palt (keyCon "P") [.str u, .str v] (pv c))], cs⟩ KS := by rw [fb_t]; exact kk
    rcases hr with rfl | ⟨y, rfl⟩
    · induction b using Bool.casesOn
      · conv => whnf
        exact bool_t (sf2 [pvar x, pv c] (Nat.le_of_ble_eq_true rfl)) kk
      · conv => whnf
        exact bool_t (sf2 [pvar x, pv c] (Nat.le_of_ble_eq_true rfl)) k2
    · induction b using Bool.casesOn
      · conv => whnf
        exact bool_t (sf2 [pvar x, pv c] (Nat.le_of_ble_eq_true rfl)) kk
      · conv => whnf
        exact bool_t (sf2 [pvar x, pv c] (Nat.le_of_ble_eq_true rfl)) k2
  | zer x n a c =>
    have kk := k [pn "alt" (palt keyZero [] (pv a))] (.inr ⟨_, rfl⟩)
    rw [show (b || isO (.zer x n a c)) = b from Bool.or_false b] at kk
    refine obEE (pv_ins c) fun D m hD => ?_
    have hp : pv (.zer x n a c) = pcase x n [palt keyZero [] (pv a)] (.ins D m) := by rw [← hD]; rfl
    have hs : (subs (.zer x n a c)).map pv = [pvar x, pv a, .ins D m] := by rw [← hD]; rfl
    rw [hp, hs] at kk
    rw [hp]
    rcases hr with rfl | ⟨y, rfl⟩
    · conv => whnf
      exact bool_t (sf2 [pvar x, pv a, .ins D m] (Nat.le_of_ble_eq_true rfl)) kk
    · conv => whnf
      exact bool_t (sf2 [pvar x, pv a, .ins D m] (Nat.le_of_ble_eq_true rfl)) kk
  | two x n u a v c =>
    have kk := k [pn "alt" (palt (keyCon "D") [.str v] (pv c))] (.inr ⟨_, rfl⟩)
    rw [show (b || isO (.two x n u a v c)) = b from Bool.or_false b] at kk
    rcases hr with rfl | ⟨y, rfl⟩
    · conv => whnf
      exact bool_t (sf2 [pvar x, pv a, pv c] (Nat.le_of_ble_eq_true rfl)) kk
    · conv => whnf
      exact bool_t (sf2 [pvar x, pv a, pv c] (Nat.le_of_ble_eq_true rfl)) kk
noncomputable def scrW (C : Oracle) (n : Nat) : St → KtS → Prop := vcWl (vcT 38 (whT (bodyOf 546)[1]?)) (vcSs TT 38 (scOf 546) scrB) (vcE TT 38 (scOf 546) C) C n
theorem scrutinised_ {C : Oracle} {p : Str} {e : Ex} (hC : At 1 C) (ho : okO p e) (hz : sz e ≤ 100) (k : K (.dct (fb p (hasO e))) cs) : C (.fn 546) [pv e, .dct consD] cs K := by
  refine hC.up fun C hC => ?_
  refine (?_ : scrW (CI TT 40 C 4 0) turnsC ⟨scrFr e p false [pv e] [], cs⟩ (kNext (vcSs TT 38 (scOf 546) ((bodyOf 546).drop 2) (CI TT 40 C 4 0)) (kEnd K)))
  rw [turns_eq]
  refine wl_ind (fun i σ => ∃ b l r, σ = ⟨scrFr e p b (l.map pv) r, cs⟩ ∧ (r = [] ∨ ∃ x s, r = pn "here" x :: s ∧ Tl "alt" s) ∧ szs l = i ∧ i ≤ 100 ∧ (∀ x ∈ l, okO p x) ∧ (b || l.any hasO) = hasO e) ?_ 150 (sz e) _ (Nat.lt_of_le_of_lt hz (Nat.le_of_ble_eq_true rfl)) ⟨false, [e], [], rfl, .inl rfl, by simp [szs], hz, by simpa using ho, by simp⟩
  rintro i _ ih ⟨b, l, r, rfl, hr, hi, h100, hok, hb⟩ hW
  rcases List.eq_nil_or_concat l with rfl | ⟨l, x, rfl⟩
  · rw [List.any_nil, Bool.or_false] at hb
    subst hb
    exact k
  · rw [List.concat_eq_append] at *
    have hlen : l.length ≤ 100 := Nat.le_trans (Nat.le_trans (by simp) (szs_len (l ++ [x]))) (hi ▸ h100)
    have hx : szs (l ++ subs x) < szs (l ++ [x]) := by
      rw [szs_app, szs_app]
      exact Nat.add_lt_add_left (by simpa [szs] using subs_sz x) _
    have rest : ∀ s, Tl "alt" s → vcSs TT 37 (scOf 546) (scrB.drop 1) (CI TT 40 C 4 0) ⟨scrFr e p b (l.map pv) (pn "here" (pv x) :: s), cs⟩ (kNext ih (kNext (vcSs TT 38 (scOf 546) ((bodyOf 546).drop 2) (CI TT 40 C 4 0)) (kEnd K))) := fun s hs => by
      refine scr_rest hs hlen (hok x (by simp)) fun r hr => ?_
      refine hW (szs (l ++ subs x)) _ (hi ▸ hx) ⟨_, l ++ subs x, _, rfl, .inr ⟨_, r, rfl, hr⟩, rfl, Nat.le_trans (Nat.le_of_lt hx) (hi ▸ h100), fun y hy => ?_, ?_⟩
      · rcases List.mem_append.mp hy with hy | hy
        · exact hok y (List.mem_append_left _ hy)
        · exact subs_ok (hok x (by simp)) y hy
      · rw [← hb, List.any_append, List.any_append, List.any_cons, List.any_nil, Bool.or_false, subs_o x]
        induction b using Bool.casesOn <;> cases isO x <;> simp
    have sf : sfits (List.map pv l ++ [pv x]).length = true := by rw [List.length_append, List.length_map]; exact sfl1 hlen rfl
    rw [List.map_append]
    have dl : (List.map pv l ++ [pv x]).dropLast = List.map pv l := List.dropLast_concat
    have go : ∀ s, Tl "alt" s → vcSs TT 37 (scOf 546) (scrB.drop 1) (CI TT 40 C 4 0) ⟨scrFr e p b ((List.map pv l ++ [pv x]).dropLast) (pn "here" (pv x) :: s), cs⟩ (kNext ih (kNext (vcSs TT 38 (scOf 546) ((bodyOf 546).drop 2) (CI TT 40 C 4 0)) (kEnd K))) := fun s hs => by rw [dl]; exact rest s hs
    rcases hr with rfl | ⟨y, s, rfl, hs⟩
    · conv => whnf
      refine opt_t ne_nil_t ?_
      conv => whnf
      refine bool_t sf ?_
      conv => whnf
      refine opt_t gl_t ?_
      have g := go [] (.inl rfl)
      conv at g => whnf
      conv => whnf
      exact g
    · conv => whnf
      refine opt_t ne_nil_t ?_
      conv => whnf
      refine bool_t sf ?_
      conv => whnf
      refine opt_t gl_t ?_
      have g := go s hs
      conv at g => whnf
      conv => whnf
      exact g
end
end
section
noncomputable abbrev nm (b : Str) (k : Nat) : Str := (b ++ ".") ++ strOfInt k
noncomputable def bases : List Str := ["p", "e", "n", "c", "u"]
noncomputable def AV0 : List Str := ["f", "g", "h", "fs", "gs", "hs"]
noncomputable def AV : List Str := AV0 ++ bases.flatMap fun b => (List.range 90).map fun k => nm b k
noncomputable def numOf (x : Str) : Nat := (Txt.slice x (some 2) none).cps.toList.foldl (fun a c => 10 * a + (c - 48)) 0
noncomputable def nmChk (b : Str) (k : Nat) : Bool := decide (rfindSign 46 (nm b k).cps.toList 0 (-1) = 1) && (asciiOnly (nm b k).cps.toList && (decide ((nm b k).length ≤ 5) && (decide (3 ≤ (nm b k).length) && (decide (Txt.slice (nm b k) none (some 1) = b) && (decide (Txt.slice (nm b k) (some 2) none = strOfInt k) && (digitsOnly (strOfInt k).cps.toList && (asciiOnly (strOfInt k).cps.toList && (decide ((strOfInt k).length ≤ 3) && (decide (numOf (nm b k) = k) && PyData.strOk (nm b k))))))))))
theorem nm_chk : (bases.all fun b => (List.range 120).all fun k => nmChk b k) = true := by decide +kernel
structure NmOk (b : Str) (k : Nat) : Prop where
  rf : rfindSign 46 (nm b k).cps.toList 0 (-1) = 1
  asc : asciiOnly (nm b k).cps.toList = true
  l5 : (nm b k).length ≤ 5
  l3 : 3 ≤ (nm b k).length
  base : Txt.slice (nm b k) none (some 1) = b
  dig : Txt.slice (nm b k) (some 2) none = strOfInt k
  dg : digitsOnly (strOfInt k).cps.toList = true
  da : asciiOnly (strOfInt k).cps.toList = true
  dl : (strOfInt k).length ≤ 3
  num : numOf (nm b k) = k
  ok : PyData.strOk (nm b k) = true
theorem nm_ok {b : Str} {k : Nat} (hb : b ∈ bases) (hk : k < 120) : NmOk b k := by
  have h := List.all_eq_true.mp (List.all_eq_true.mp nm_chk b hb) k (List.mem_range.mpr hk)
  simp only [nmChk, Bool.and_eq_true, decide_eq_true_eq] at h
  (refine obAAAAAAAA h ?_; try clear h; rintro h1 h2 h3 h4 h5 h6 h7 h8 ⟨h9, h10, h11⟩)
  exact ⟨h1, h2, h3, h4, h5, h6, h7, h8, h9, h10, h11⟩
theorem nm_inj {b b' : Str} {k k' : Nat} (hb : b ∈ bases) (hb' : b' ∈ bases) (hk : k < 120) (hk' : k' < 120) (h : nm b k = nm b' k') : b = b' ∧ k = k' := by
  have a := nm_ok hb hk; have a' := nm_ok hb' hk'
  exact ⟨by rw [← a.base, ← a'.base, h], by rw [← a.num, ← a'.num, h]⟩
theorem mem_AV {x : Str} : x ∈ AV ↔ x ∈ AV0 ∨ ∃ b ∈ bases, ∃ k, k < 90 ∧ x = nm b k := by
  simp only [AV, List.mem_append, List.mem_flatMap, List.mem_map, List.mem_range]
  constructor
  · rintro (h | ⟨b, hb, k, hk, rfl⟩)
    · exact .inl h
    · exact .inr ⟨b, hb, k, hk, rfl⟩
  · rintro (h | ⟨b, hb, k, hk, rfl⟩)
    · exact .inl h
    · exact .inr ⟨b, hb, k, hk, rfl⟩
theorem av0_len : (AV0.all fun x => decide (x.length < 3)) = true := by decide +kernel
theorem av_in {b : Str} {k : Nat} (hb : b ∈ bases) (hk : k < 90) : nm b k ∈ AV := mem_AV.mpr (.inr ⟨b, hb, k, hk, rfl⟩)
theorem av_out {b : Str} {k : Nat} (hb : b ∈ bases) (h9 : 90 ≤ k) (hk : k < 120) : nm b k ∉ AV := fun h => by
  rcases mem_AV.mp h with h | ⟨b', hb', k', hk', e⟩
  · have := List.all_eq_true.mp av0_len _ h
    have := (nm_ok hb hk).l3
    simp_all
    omega
  · have := (nm_inj hb hb' hk (by omega) e).2
    omega
theorem av_fn : (["f", "g", "h"].all fun b => !AV.contains (nm b 1)) = true := by decide +kernel
noncomputable def AVd : List Str := un [] AV
theorem mem_AVd {x : Str} : x ∈ AVd ↔ x ∈ AV := by simp [AVd, mem_un]
end
section
set_option smartUnfolding false
theorem getK_of {d v : PV} {K : PV → Prop} {o : Option PV} (h : o.getD d = v) (k : K v) : getK d K o := by
  subst h
  induction o using Option.casesOn <;> exact k
section
variable {C : Oracle} {cs : List PV} {K : PV → List PV → Prop} {b : Str} {k n0 : Nat} {s0 s1 : PV} {N : Dct}
theorem base_of_nm (hC : At 1 C) (hb : b ∈ bases) (hk : k < 120) (kk : K (.str b) cs) : C (.fn 596) [.str (nm b k)] cs K := by
  refine hC.up fun C hC => ?_
  have h := nm_ok hb hk
  have sf : sfits (nm b k).length = true := sfl h.l5 rfl
  conv => whnf
  refine bool_t h.asc ?_
  conv => whnf
  refine bool_t sf ?_
  rw [h.rf]
  conv => whnf
  refine bool_t sf ?_
  conv => whnf
  rw [show Txt.slice (nm b k) (some (1 + 1)) none = strOfInt k from h.dig]
  refine bool_t h.da ?_
  conv => whnf
  refine bool_t (sfl h.dl rfl) ?_
  rw [h.dg]
  conv => whnf
  refine bool_t sf ?_
  have kk : K (.str (Txt.slice (nm b k) none (some 1))) cs := by rw [h.base]; exact kk
  exact kk
theorem base_of_f (hC : At 1 C) (kk : K (.str "f") cs) : C (.fn 596) [.str "f"] cs K := hC.up fun C u_ => kk
theorem b_len {b : Str} (hb : b ∈ bases) : b.length ≤ 1 ∧ (b ++ ".").length ≤ 2 := by
  have : (bases.all fun b => decide (b.length ≤ 1) && decide ((b ++ ".").length ≤ 2)) = true := by decide +kernel
  have := List.all_eq_true.mp this b hb
  simpa using this
noncomputable abbrev FrV : PV := .ins 629 [("avoided", .cel 2), ("numbers", .cel 3)]
noncomputable abbrev st4 (s0 s1 : PV) (A : List Str) (N : Dct) : List PV := [s0, s1, tk A, .dct N]
structure AvOk (A : List Str) : Prop where
  inn : ∀ {b : Str} {k : Nat}, b ∈ bases → k < 90 → A.contains (nm b k) = true
  out : ∀ {b : Str} {k : Nat}, b ∈ bases → 90 ≤ k → k < 120 → A.contains (nm b k) ≠ true
  fn : ∀ {b : Str}, b ∈ (["f", "g", "h"] : List Str) → A.contains (nm b 1) ≠ true
noncomputable def nx (n0 : Nat) : Nat := max (n0 + 1) 90
theorem nx_le {n : Nat} : n + 1 ≤ nx n := Nat.le_max_left _ _
theorem nx_lt {n : Nat} (h : n < 118) : nx n < 119 := Nat.max_lt.mpr ⟨Nat.succ_lt_succ h, Nat.le_of_ble_eq_true rfl⟩
theorem nx_90 {n : Nat} : 90 ≤ nx n := Nat.le_max_right _ _
theorem nx_cut {n k : Nat} (h : k < nx n) (h0 : n + 1 ≤ k) : k < 90 := by unfold nx at h; omega
theorem ne_f {b : Bool} (h : b ≠ true) : b = false := by induction b using Bool.casesOn <;> simp_all
theorem sb_of {k : Nat} (h : k < 120) : Nat.blt ((k : Int).natAbs) 1000000000 = true := Nat.ble_eq_true_of_le (Nat.le_trans h (Nat.le_of_ble_eq_true rfl))
noncomputable def nxW (C : Oracle) (n : Nat) : St → KtS → Prop := vcWl (vcT 37 (whT (bodyOf 626)[2]?)) (vcSs TT 37 (scOf 626) (whB (bodyOf 626)[2]?)) (vcE TT 37 (scOf 626) C) C n
theorem next_b {A : List Str} {x : Str} {C : Nat → Oracle} (hA : AvOk A) (hx : ∀ cs K, K (.str b) cs → C 0 (.fn 596) [.str x] cs K) (hb : b ∈ bases) (hN : (dget N b).getD (.int 0) = .int n0) (hn : n0 < 118) (hl : N.length ≤ 50) (kk : K (.str (nm b (nx n0))) (st4 s0 s1 A (dset N b (.int (nx n0))))) : Enter TT 40 (CI TT 40 C 4 0) (.fn 626) [FrV, .str x] (st4 s0 s1 A N) K := by
  refine hx _ _ ?_
  refine getK_of hN ?_
  refine (?_ : nxW (CI TT 40 C 4 0) turnsC ⟨[pn "self" FrV, pn "base" (.str x), pn "told" (.str b), pn "number" (.int (n0 + 1 : Nat))], st4 s0 s1 A N⟩ (kNext (vcSs TT 37 (scOf 626) ((bodyOf 626).drop 3) (CI TT 40 C 4 0)) (kEnd K)))
  rw [turns_eq]
  refine wl_ind (fun i σ => ∃ k : Nat, σ = ⟨[pn "self" FrV, pn "base" (.str x), pn "told" (.str b), pn "number" (.int k)], st4 s0 s1 A N⟩ ∧ k + i = nx n0 ∧ n0 + 1 ≤ k) ?_ 150 (nx n0 - (n0 + 1)) _ (Nat.lt_of_le_of_lt (Nat.sub_le _ _) (Nat.lt_trans (nx_lt hn) (Nat.le_of_ble_eq_true rfl))) ⟨n0 + 1, rfl, Nat.add_sub_cancel' nx_le, Nat.le_refl _⟩
  rintro i σ ih ⟨k, rfl, h1, h0⟩ hW
  have hk : k < 120 := Nat.lt_of_le_of_lt (h1 ▸ Nat.le_add_right k i) (Nat.lt_trans (nx_lt hn) (Nat.le_refl _))
  obtain ⟨b1, b2⟩ := b_len hb
  have h := nm_ok hb hk
  have s1' : sfits (b.length + (Str.ofString ".").length) = true := sfl1 b1 rfl
  have s2' : sfits ((b ++ ".").length + (strOfInt k).length) = true := sfl (Nat.add_le_add b2 h.dl) rfl
  conv => whnf
  refine bool_t s1' ?_
  conv => whnf
  refine bool_t (sb_of hk) ?_
  conv => whnf
  refine bool_t s2' ?_
  conv => whnf
  cases i with
  | succ i =>
    have h9 : k < 90 := nx_cut (h1 ▸ Nat.lt_add_of_pos_right (Nat.succ_pos i)) h0
    refine bool_t (by rw [dget_tk]; exact hA.inn hb h9) ?_
    exact hW i _ (Nat.lt_succ_self i) ⟨k + 1, rfl, by rw [← h1, Nat.add_assoc, Nat.add_comm 1], Nat.le_succ_of_le h0⟩
  | zero =>
    obtain rfl : k = nx n0 := h1
    refine bool_f (by rw [dget_tk]; exact ne_f (hA.out hb nx_90 hk)) ?_
    conv => whnf
    refine bool_t (sfl1 hl rfl) ?_
    conv => whnf
    refine bool_t s1' ?_
    conv => whnf
    refine bool_t (sb_of hk) ?_
    conv => whnf
    refine bool_t s2' ?_
    exact kk
noncomputable abbrev fgh : List Str := ["f", "g", "h"]
theorem fgh_or {b : Str} (hb : b ∈ fgh) : b = "f" ∨ b = "g" ∨ b = "h" := by simpa [fgh] using hb
theorem base_of_fn (hC : At 1 C) (hb : b ∈ fgh) (kk : K (.str b) cs) : C (.fn 596) [.str b] cs K := by
  refine hC.up fun C u_ => ?_
  rcases fgh_or hb with rfl | rfl | rfl <;> exact kk
theorem next_fn {A : List Str} (hC : At 2 C) (hA : AvOk A) (hb : b ∈ fgh) (hN : dget N b = none) (hl : N.length ≤ 50) (kk : K (.str (nm b 1)) (st4 s0 s1 A (dset N b (.int 1)))) : C (.fn 626) [FrV, .str b] (st4 s0 s1 A N) K := by
  have h := hA.fn hb
  have hlen : b.length ≤ 1 ∧ ((b ++ ".") ++ strOfInt 1).length ≤ 3 ∧ (b ++ ".").length ≤ 2 := by
    have : (fgh.all fun b => decide (b.length ≤ 1) && (decide (((b ++ ".") ++ strOfInt 1).length ≤ 3) && decide ((b ++ ".").length ≤ 2))) = true := by decide +kernel
    simpa using List.all_eq_true.mp this b hb
  have s1' : sfits (b.length + (Str.ofString ".").length) = true := sfl1 hlen.1 rfl
  have s2' : sfits ((b ++ ".").length + (strOfInt 1).length) = true := sfl1 hlen.2.2 rfl
  refine hC.up fun C hC => ?_
  refine base_of_fn (C := C 0) (hC.le 0 rfl) hb ?_
  refine getK_of (v := .int 0) (by rw [hN]; rfl) ?_
  refine (?_ : nxW (CI TT 40 C 4 0) turnsC ⟨[pn "self" FrV, pn "base" (.str b), pn "told" (.str b), pn "number" (.int (0 + 1))], st4 s0 s1 A N⟩ (kNext (vcSs TT 37 (scOf 626) ((bodyOf 626).drop 3) (CI TT 40 C 4 0)) (kEnd K)))
  rw [turns_eq]
  conv => whnf
  refine bool_t s1' ?_
  conv => whnf
  refine bool_t s2' ?_
  conv => whnf
  refine bool_f (by rw [dget_tk]; exact ne_f h) ?_
  conv => whnf
  refine bool_t (sfl1 hl rfl) ?_
  conv => whnf
  refine bool_t s1' ?_
  conv => whnf
  refine bool_t s2' ?_
  exact kk
end
end
section
set_option smartUnfolding false
set_option smartUnfolding true
theorem nm_ne {b b' : Str} {k k' : Nat} (hb : b ∈ bases) (hb' : b' ∈ bases) (hk : k < 120) (hk' : k' < 120) (h : b = b' → k ≠ k') : nm b k ≠ nm b' k' := fun q => let ⟨x, y⟩ := nm_inj hb hb' hk hk' q; h x y
theorem bp : ("p" : Str) ∈ bases := by decide +kernel
theorem be : ("e" : Str) ∈ bases := by decide +kernel
theorem bn : ("n" : Str) ∈ bases := by decide +kernel
theorem bc : ("c" : Str) ∈ bases := by decide +kernel
theorem bu : ("u" : Str) ∈ bases := by decide +kernel
inductive Leaf (xs : List Str) : Ex → Prop where
  | err : Leaf xs .err
  | lit {i : Int} : Leaf xs (.lit i)
  | add {x : Str} : x ∈ xs → Leaf xs (.add (.var x) (.lit 1))
inductive Inn (calls xs : List Str) (p : Str) : Nat → Nat → Ex → Prop where
  | leaf {k : Nat} {e : Ex} : Leaf xs e → Inn calls xs p k k e
  | opn {k : Nat} {e : Ex} : Leaf (xs ++ [nm "u" (k + 1), nm "u" (k + 2)]) e → Inn calls xs p k (k + 3) (.opn p (nm "c" (k + 3)) (nm "u" (k + 1)) (nm "u" (k + 2)) e)
  | call {k : Nat} {f c : Str} {a b : Ex} : f ∈ calls → (c = "C" ∨ c = "D") → Leaf xs a → Leaf xs b → Inn calls xs p k k (.app3 f (.var p) (.con1 c a) b)
inductive Form where
  | head | way | not
noncomputable def Form.s : Form → Str
  | .head => "head"
  | .way => "way"
  | .not => "not"
inductive FunS (calls : List Str) : Nat → Nat → Form → Fn → Prop where
  | head {k k' : Nat} {e : Ex} : Inn calls [nm "u" (k + 4), nm "u" (k + 5), nm "n" (k + 3)] (nm "p" (k + 1)) (k + 6) k' e → FunS calls k (k' + 1) .head ⟨nm "p" (k + 1), nm "e" (k + 2), nm "n" (k + 3), .opn (nm "p" (k + 1)) (nm "c" (k + 6)) (nm "u" (k + 4)) (nm "u" (k + 5)) (.zer (nm "n" (k + 3)) (nm "c" (k' + 1)) (.lit 1) e)⟩
  | way {k k' : Nat} {d e : Ex} : Leaf [nm "n" (k + 3)] d → Inn calls [nm "n" (k + 3)] (nm "p" (k + 1)) (k + 4) k' e → FunS calls k k' .way ⟨nm "p" (k + 1), nm "e" (k + 2), nm "n" (k + 3), .zer (nm "n" (k + 3)) (nm "c" (k + 4)) d e⟩
  | not {k : Nat} {d e : Ex} : Leaf [nm "n" (k + 3), nm "u" (k + 4)] d → Leaf [nm "n" (k + 3)] e → FunS calls k (k + 6) .not ⟨nm "p" (k + 1), nm "e" (k + 2), nm "n" (k + 3), .two (nm "e" (k + 2)) (nm "c" (k + 6)) (nm "u" (k + 4)) d (nm "u" (k + 5)) e⟩
inductive CntS : Nat → Nat → Fn → Prop where
  | a {k : Nat} {d e : Ex} : Leaf [nm "u" (k + 4), nm "u" (k + 5)] d → Leaf [nm "n" (k + 3)] e → CntS k (k + 7) ⟨nm "p" (k + 1), nm "e" (k + 2), nm "n" (k + 3), .zer (nm "n" (k + 3)) (nm "c" (k + 7)) (.opn (nm "p" (k + 1)) (nm "c" (k + 6)) (nm "u" (k + 4)) (nm "u" (k + 5)) d) (callH (.con2 "P" (.add (.var (nm "n" (k + 3))) (.lit 2)) e) (nm "e" (k + 2)) (nm "n" (k + 3)))⟩
  | b {k : Nat} {d : Ex} : Leaf [nm "u" (k + 4), nm "u" (k + 5)] d → CntS k (k + 10) ⟨nm "p" (k + 1), nm "e" (k + 2), nm "n" (k + 3), .zer (nm "n" (k + 3)) (nm "c" (k + 10)) (.opn (nm "p" (k + 1)) (nm "c" (k + 6)) (nm "u" (k + 4)) (nm "u" (k + 5)) d) (.opn (nm "p" (k + 1)) (nm "c" (k + 9)) (nm "u" (k + 7)) (nm "u" (k + 8)) (callH (.con2 "P" (.var (nm "u" (k + 8))) (.var (nm "u" (k + 7)))) (nm "e" (k + 2)) (nm "n" (k + 3))))⟩
theorem lt_ {k m i : Nat} (hk : k ≤ m) (h : Nat.blt (m + i) 120 = true) : k + i < 120 := Nat.lt_of_le_of_lt (Nat.add_le_add_right hk i) (Nat.le_of_ble_eq_true h)
theorem le_ {k m i n : Nat} (hk : k ≤ m) (h : Nat.ble (m + i) n = true) : k + i ≤ n := Nat.le_trans (Nat.add_le_add_right hk i) (Nat.le_of_ble_eq_true h)
theorem ble_ {m n : Nat} (h : Nat.ble m n = true) : m ≤ n := Nat.le_of_ble_eq_true h
theorem Inn.le {calls xs : List Str} {p : Str} {k k' : Nat} {e : Ex} (h : Inn calls xs p k k' e) : k ≤ k' ∧ k' ≤ k + 3 := by
  cases h with
  | leaf => exact ⟨Nat.le_refl _, Nat.le_add_right ..⟩
  | opn => exact ⟨Nat.le_add_right .., Nat.le_refl _⟩
  | call => exact ⟨Nat.le_refl _, Nat.le_add_right ..⟩
theorem FunS.le {calls : List Str} {k k' : Nat} {m : Form} {f : Fn} (h : FunS calls k k' m f) : k ≤ k' ∧ k' ≤ k + 10 := by
  cases h with
  | head h => exact ⟨Nat.le_trans (Nat.le_add_right k 6) (Nat.le_succ_of_le h.le.1), Nat.succ_le_succ h.le.2⟩
  | way _ h => exact ⟨Nat.le_trans (Nat.le_add_right k 4) h.le.1, Nat.le_trans h.le.2 (Nat.le_add_right (k + 7) 3)⟩
  | not _ _ => exact ⟨Nat.le_add_right .., Nat.le_add_right (k + 6) 4⟩
theorem CntS.le {k k' : Nat} {f : Fn} (h : CntS k k' f) : k ≤ k' ∧ k' ≤ k + 10 := by
  cases h with
  | a => exact ⟨Nat.le_add_right .., Nat.le_add_right (k + 7) 3⟩
  | b => exact ⟨Nat.le_add_right .., Nat.le_refl _⟩
theorem looks {x y : Str} {τ : Ty} {Γ : Ctx} (h : List.lookup x Γ = some τ) : List.lookup x ((y, τ) :: Γ) = some τ := by
  by_cases q : x = y
  · subst q; exact look1
  · exact look0 h q
noncomputable def NC (x : Str) : Prop := ∃ b k, x = nm b k ∧ b ∈ (["p", "e", "n", "u"] : List Str) ∧ k < 120
theorem nc_mem {b : Str} (h : b ∈ (["p", "e", "n", "u"] : List Str)) : b ∈ bases ∧ b ≠ "c" := by
  have : ((["p", "e", "n", "u"] : List Str).all fun b => bases.contains b && !decide (b = "c")) = true := by decide +kernel
  have := List.all_eq_true.mp this b h
  simpa using this
theorem NC.sok {x : Str} (h : NC x) : sOk x := by
  (refine obEEAA h ?_; try clear h; rintro b k rfl hb hk)
  exact (nm_ok (nc_mem hb).1 hk).ok
theorem NC.ne {x : Str} {k : Nat} (h : NC x) (hk : k < 120) : x ≠ nm "c" k := by
  (refine obEEAA h ?_; try clear h; rintro b j rfl hb hj)
  exact nm_ne (nc_mem hb).1 bc hj hk fun q => absurd q (nc_mem hb).2
theorem nc_p {k : Nat} (h : k < 120) : NC (nm "p" k) := ⟨_, _, rfl, by decide +kernel, h⟩
theorem nc_e {k : Nat} (h : k < 120) : NC (nm "e" k) := ⟨_, _, rfl, by decide +kernel, h⟩
theorem nc_n {k : Nat} (h : k < 120) : NC (nm "n" k) := ⟨_, _, rfl, by decide +kernel, h⟩
theorem nc_u {k : Nat} (h : k < 120) : NC (nm "u" k) := ⟨_, _, rfl, by decide +kernel, h⟩
theorem c_sok {k : Nat} (h : k < 120) : sOk (nm "c" k) := (nm_ok bc h).ok
structure Wgt (e : Ex) (a b c d : Nat) : Prop where
  bd : Mine.bd e ≤ a
  nsz : Mine.nsz e ≤ b
  ndq : Mine.ndq e ≤ c
  sz : Mine.sz e ≤ d
section
variable {e f g : Ex} {a b c d a' b' c' d' a2 b2 c2 d2 : Nat} {x y z u v : Str}
theorem Wgt.wk (h : Wgt e a b c d) (k : (Nat.ble a a' && (Nat.ble b b' && (Nat.ble c c' && Nat.ble d d'))) = true) : Wgt e a' b' c' d' := by
  obtain ⟨k1, k⟩ := Bool.and_eq_true_iff.mp k
  obtain ⟨k2, k⟩ := Bool.and_eq_true_iff.mp k
  obtain ⟨k3, k4⟩ := Bool.and_eq_true_iff.mp k
  exact ⟨Nat.le_trans h.bd (ble_ k1), Nat.le_trans h.nsz (ble_ k2), Nat.le_trans h.ndq (ble_ k3), Nat.le_trans h.sz (ble_ k4)⟩
theorem Wgt.var : Wgt (.var x) 0 1 2 1 := ⟨Nat.le_refl _, Nat.le_refl _, Nat.le_refl _, Nat.le_refl _⟩
theorem Wgt.lit {i : Int} : Wgt (.lit i) 0 0 2 1 := ⟨Nat.le_refl _, Nat.le_refl _, Nat.le_refl _, Nat.le_refl _⟩
theorem Wgt.err : Wgt .err 0 0 2 2 := ⟨Nat.le_refl _, Nat.le_refl _, Nat.le_refl _, Nat.le_refl _⟩
theorem max_le2 {m n m' n' : Nat} (h : m ≤ m') (k : n ≤ n') : max m n ≤ max m' n' := Nat.max_le.mpr ⟨Nat.le_trans h (Nat.le_max_left ..), Nat.le_trans k (Nat.le_max_right ..)⟩
theorem Wgt.add (h : Wgt e a b c d) (k : Wgt f a' b' c' d') : Wgt (.add e f) (max a a') (b + b') (c + c' + 2) (1 + d + d') := ⟨max_le2 h.bd k.bd, Nat.add_le_add h.nsz k.nsz, Nat.add_le_add_right (Nat.add_le_add h.ndq k.ndq) 2, Nat.add_le_add (Nat.add_le_add_left h.sz 1) k.sz⟩
theorem Wgt.con1 (h : Wgt e a b c d) : Wgt (.con1 x e) a 0 2 (1 + d) := ⟨h.bd, Nat.le_refl _, Nat.le_refl _, Nat.add_le_add_left h.sz 1⟩
theorem Wgt.con2 (h : Wgt e a b c d) (k : Wgt f a' b' c' d') : Wgt (.con2 x e f) (max a a') 0 2 (1 + d + d') := ⟨max_le2 h.bd k.bd, Nat.le_refl _, Nat.le_refl _, Nat.add_le_add (Nat.add_le_add_left h.sz 1) k.sz⟩
theorem Wgt.app3 (h : Wgt e a b c d) (k : Wgt f a' b' c' d') (l : Wgt g a2 b2 c2 d2) : Wgt (.app3 x e f g) (max a (max a' a2)) (2 + b + b' + b2) (c + (c' + c2) + 2) (2 + d + d' + d2) := ⟨max_le2 h.bd (max_le2 k.bd l.bd), Nat.add_le_add (Nat.add_le_add (Nat.add_le_add_left h.nsz 2) k.nsz) l.nsz, Nat.add_le_add_right (Nat.add_le_add h.ndq (Nat.add_le_add k.ndq l.ndq)) 2, Nat.add_le_add (Nat.add_le_add (Nat.add_le_add_left h.sz 2) k.sz) l.sz⟩
theorem Wgt.opn (h : Wgt e a b c d) : Wgt (.opn x y z u e) (a + 3) (1 + b) (c + 2) (2 + d) := ⟨Nat.add_le_add_right h.bd 3, Nat.add_le_add_left h.nsz 1, Nat.add_le_add_right h.ndq 2, Nat.add_le_add_left h.sz 2⟩
theorem Wgt.zer (h : Wgt e a b c d) (k : Wgt f a' b' c' d') : Wgt (.zer x y e f) (max a a' + 1) (1 + b + b') (c + c' + 2) (2 + d + d') := ⟨Nat.add_le_add_right (max_le2 h.bd k.bd) 1, Nat.add_le_add (Nat.add_le_add_left h.nsz 1) k.nsz, Nat.add_le_add_right (Nat.add_le_add h.ndq k.ndq) 2, Nat.add_le_add (Nat.add_le_add_left h.sz 2) k.sz⟩
theorem Wgt.two (h : Wgt e a b c d) (k : Wgt f a' b' c' d') : Wgt (.two x y u e v f) (max a a' + 2) (1 + b + b') (c + c' + 2) (2 + d + d') := ⟨Nat.add_le_add_right (max_le2 h.bd k.bd) 2, Nat.add_le_add (Nat.add_le_add_left h.nsz 1) k.nsz, Nat.add_le_add_right (Nat.add_le_add h.ndq k.ndq) 2, Nat.add_le_add (Nat.add_le_add_left h.sz 2) k.sz⟩
end
section
variable {xs calls : List Str} {e : Ex} {Φ G : Str → Prop} {Γ : Ctx} {p : Str} {F : Nat → Nat} {c k k' : Nat}
theorem Leaf.wt (h : Leaf xs e) (hx : ∀ x ∈ xs, List.lookup x Γ = some .int) : Wt Φ Γ e .int := by
  cases h with
  | err => exact .err
  | lit => exact .lit
  | add m => exact .add (.var (hx _ m)) .lit
theorem Leaf.w (h : Leaf xs e) : Wgt e 0 1 6 3 := by
  cases h with
  | err => exact Wgt.err.wk rfl
  | lit => exact Wgt.lit.wk rfl
  | add m => exact Wgt.add .var .lit
theorem Leaf.bd0 (h : Leaf xs e) : bd e = 0 := Nat.le_zero.mp h.w.bd
theorem Leaf.cost (h : Leaf xs e) : Mine.cost F e c ≤ c + 3 := by
  cases h with
  | add m => exact Nat.le_refl _
  | _ => exact Nat.succ_le_succ (Nat.zero_le _)
theorem Leaf.sub (h : Leaf xs e) : Mine.sub F e c ≤ c + 3 := by
  cases h with
  | add m => exact Nat.le_refl _
  | _ => exact Nat.succ_le_succ (Nat.zero_le _)
theorem Leaf.nok (h : Leaf xs e) (hx : ∀ x ∈ xs, NC x) : Mine.nok e := by
  cases h with
  | err => trivial
  | lit => trivial
  | add m => exact ⟨(hx _ m).sok, trivial⟩
theorem Leaf.cok (h : Leaf xs e) : Mine.cok G e := by
  cases h with
  | add m => exact ⟨trivial, trivial⟩
  | _ => trivial
theorem Leaf.hasO (h : Leaf xs e) : Mine.hasO e = false := by cases h <;> rfl
theorem Leaf.okO (h : Leaf xs e) : Mine.okO p e := by
  cases h with
  | add m => exact ⟨trivial, trivial⟩
  | _ => trivial
structure Good (Φ G : Str → Prop) (p : Str) (Γ : Ctx) (e : Ex) : Prop where
  wt : Wt Φ Γ e .int
  w : Wgt e 20 10 24 30
  nok : nok e
  cok : cok G e
  okO : okO p e
structure GoodI (Φ G : Str → Prop) (p : Str) (Γ : Ctx) (e : Ex) : Prop where
  wt : Wt Φ Γ e .int
  w : Wgt e 3 5 12 10
  nok : Mine.nok e
  cok : Mine.cok G e
  okO : Mine.okO p e
theorem mem2 {x a b : Str} (m : x ∈ [a, b]) : x = a ∨ x = b := (List.mem_cons.mp m).imp id List.mem_singleton.mp
theorem ble_3 : 1 ≤ c + 3 := Nat.succ_le_succ (Nat.zero_le _)
theorem Inn.good (h : Inn calls xs p k k' e) (hc : ∀ f ∈ calls, Φ f ∧ G f ∧ sOk f) (hx : ∀ x ∈ xs, List.lookup x Γ = some .int ∧ NC x) (hp : List.lookup p Γ = some .pair) (np : NC p) (hk : k ≤ 110) : GoodI Φ G p Γ e := by
  cases h with
  | leaf h => exact ⟨h.wt fun x m => (hx x m).1, h.w.wk rfl, h.nok fun x m => (hx x m).2, h.cok, h.okO⟩
  | @opn e h =>
    have hx2 : ∀ x ∈ xs ++ [nm "u" (k + 1), nm "u" (k + 2)], List.lookup x ((nm "u" (k + 2), Ty.int) :: (nm "u" (k + 1), .int) :: (nm "c" (k + 3), .pair) :: Γ) = some .int ∧ NC x := by
      intro x m
      rcases List.mem_append.mp m with m | m
      · exact ⟨looks (looks (look0 (hx x m).1 ((hx x m).2.ne (lt_ hk rfl)))), (hx x m).2⟩
      · rcases mem2 m with rfl | rfl
        · exact ⟨looks look1, nc_u (lt_ hk rfl)⟩
        · exact ⟨look1, nc_u (lt_ hk rfl)⟩
    exact ⟨.opn hp (h.wt fun x m => (hx2 x m).1), (Wgt.opn h.w).wk rfl, ⟨np.sok, c_sok (lt_ hk rfl), (nc_u (lt_ hk rfl)).sok, (nc_u (lt_ hk rfl)).sok, h.nok fun x m => (hx2 x m).2⟩, h.cok, rfl, h.okO⟩
  | @call f c a b hf hcc ha hb =>
    exact ⟨.app3 (hc f hf).1 (.var hp) (.con1 hcc (ha.wt fun x m => (hx x m).1)) (hb.wt fun x m => (hx x m).1), (Wgt.app3 .var (.con1 ha.w) hb.w).wk rfl, ⟨(hc f hf).2.2, np.sok, trivial, hb.nok fun x m => (hx x m).2⟩, ⟨(hc f hf).2.1, trivial, trivial, hb.cok⟩, trivial, ha.okO, hb.okO⟩
noncomputable def mI (F : Nat → Nat) (c : Nat) : Nat := max (2 * c + 5) (F (3 * c + 7))
theorem mI_l : 2 * c + 5 ≤ mI F c := Nat.le_max_left ..
theorem mI_3 : c + 3 ≤ mI F c := Nat.le_trans (Nat.add_le_add (by rw [Nat.two_mul]; exact Nat.le_add_right ..) (ble_ rfl)) mI_l
theorem Inn.cost (hF : ∀ a b, a ≤ b → F a ≤ F b) (h : Inn calls xs p k k' e) : Mine.cost F e c ≤ mI F c := by
  cases h with
  | leaf h => exact Nat.le_trans h.cost mI_3
  | opn h => exact Nat.le_trans (le_mid h.cost) (Nat.le_trans (Nat.le_of_eq (by rw [Nat.two_mul]; ac_rfl)) mI_l)
  | @call f cn a b hf hcc ha hb =>
    have h5 := hF _ (3 * c + 7) (Nat.le_trans (Nat.add_le_add (Nat.add_le_add_left (Nat.max_le.mpr ⟨ble_3, ha.cost (F := F) (c := c)⟩) (c + 1)) (hb.sub (F := F) (c := c))) (Nat.le_of_eq (by rw [show 3 * c = c + c + c by rw [Nat.succ_mul, Nat.two_mul]]; ac_rfl)))
    exact Nat.le_trans h5 (Nat.le_max_right ..)
structure GoodF (Φ G : Str → Prop) (f : Fn) : Prop where
  g : Good Φ G f.p (Γ3 f.p f.e f.n) f.b
  cp : NC f.p
  ce : NC f.e
  cn : NC f.n
  pe : f.p ≠ f.e
  pn : f.p ≠ f.n
  en : f.e ≠ f.n
theorem ne_pe {a b : Nat} (ha : a < 120) (hb : b < 120) : nm "p" a ≠ nm "e" b := nm_ne bp be ha hb fun q => absurd q (by decide +kernel)
theorem ne_pn {a b : Nat} (ha : a < 120) (hb : b < 120) : nm "p" a ≠ nm "n" b := nm_ne bp bn ha hb fun q => absurd q (by decide +kernel)
theorem ne_en {a b : Nat} (ha : a < 120) (hb : b < 120) : nm "e" a ≠ nm "n" b := nm_ne be bn ha hb fun q => absurd q (by decide +kernel)
theorem ne_pu {a b : Nat} (ha : a < 120) (hb : b < 120) : nm "p" a ≠ nm "u" b := nm_ne bp bu ha hb fun q => absurd q (by decide +kernel)
theorem ne_eu {a b : Nat} (ha : a < 120) (hb : b < 120) : nm "e" a ≠ nm "u" b := nm_ne be bu ha hb fun q => absurd q (by decide +kernel)
theorem ne_nu {a b : Nat} (ha : a < 120) (hb : b < 120) : nm "n" a ≠ nm "u" b := nm_ne bn bu ha hb fun q => absurd q (by decide +kernel)
theorem ne_uu {a b : Nat} (ha : a < 120) (hb : b < 120) (h : a ≠ b) : nm "u" a ≠ nm "u" b := nm_ne bu bu ha hb fun u_ => h
theorem ne_pp {a b : Nat} (ha : a < 120) (hb : b < 120) (h : a ≠ b) : nm "p" a ≠ nm "p" b := nm_ne bp bp ha hb fun u_ => h
theorem look3p (hk : k ≤ 100) : List.lookup (nm "p" (k + 1)) (Γ3 (nm "p" (k + 1)) (nm "e" (k + 2)) (nm "n" (k + 3))) = some .pair := look0 (look0 look1 (ne_pe (lt_ hk rfl) (lt_ hk rfl))) (ne_pn (lt_ hk rfl) (lt_ hk rfl))
theorem look3e (hk : k ≤ 100) : List.lookup (nm "e" (k + 2)) (Γ3 (nm "p" (k + 1)) (nm "e" (k + 2)) (nm "n" (k + 3))) = some .two := look0 look1 (ne_en (lt_ hk rfl) (lt_ hk rfl))
theorem goodF {b : Ex} (hk : k ≤ 100) (g : Good Φ G (nm "p" (k + 1)) (Γ3 (nm "p" (k + 1)) (nm "e" (k + 2)) (nm "n" (k + 3))) b) : GoodF Φ G ⟨nm "p" (k + 1), nm "e" (k + 2), nm "n" (k + 3), b⟩ :=
  ⟨g, nc_p (lt_ hk rfl), nc_e (lt_ hk rfl), nc_n (lt_ hk rfl), ne_pe (lt_ hk rfl) (lt_ hk rfl), ne_pn (lt_ hk rfl) (lt_ hk rfl), ne_en (lt_ hk rfl) (lt_ hk rfl)⟩
theorem FunS.good {m : Form} {f : Fn} (h : FunS calls k k' m f) (hc : ∀ f ∈ calls, Φ f ∧ G f ∧ sOk f) (hk : k ≤ 100) : GoodF Φ G f := by
  have se : sOk (nm "e" (k + 2)) := (nc_e (lt_ hk rfl)).sok
  have nn := nc_n (k := k + 3) (lt_ hk rfl)
  have np := nc_p (k := k + 1) (lt_ hk rfl)
  have nu4 := nc_u (k := k + 4) (lt_ hk rfl)
  have nu5 := nc_u (k := k + 5) (lt_ hk rfl)
  cases h with
  | @head k' e h =>
    have hk' : k' ≤ 109 := Nat.le_trans h.le.2 (show k + 9 ≤ 109 from le_ hk rfl)
    have nn2 := nn.ne (k := k' + 1) (lt_ hk' rfl)
    have g := h.good (Φ := Φ) (G := G) (Γ := (nm "c" (k' + 1), .int) :: (nm "u" (k + 5), .int) :: (nm "u" (k + 4), .int) :: (nm "c" (k + 6), .pair) :: Γ3 (nm "p" (k + 1)) (nm "e" (k + 2)) (nm "n" (k + 3))) hc (by
      intro x m
      rcases List.mem_cons.mp m with rfl | m
      · exact ⟨looks (looks look1), nu4⟩
      · rcases mem2 m with rfl | rfl
        · exact ⟨looks look1, nu5⟩
        · exact ⟨looks (looks (looks (look0 look1 (nn.ne (lt_ hk rfl))))), nn⟩) (look0 (look0 (look0 (looks (look3p hk)) (ne_pu (lt_ hk rfl) (lt_ hk rfl))) (ne_pu (lt_ hk rfl) (lt_ hk rfl))) (np.ne (lt_ hk' rfl))) np (le_ hk rfl)
    exact goodF hk ⟨.opn (look3p hk) (.zer (looks (looks (look0 look1 (nn.ne (lt_ hk rfl))))) .lit g.wt), (Wgt.opn (.zer .lit g.w)).wk rfl, ⟨np.sok, c_sok (lt_ hk rfl), nu4.sok, nu5.sok, nn.sok, c_sok (lt_ hk' rfl), trivial, g.nok⟩, ⟨trivial, g.cok⟩, ⟨rfl, trivial, g.okO⟩⟩
  | @way _ d e hd h =>
    have hx : ∀ x ∈ [nm "n" (k + 3)], List.lookup x ((nm "c" (k + 4), .int) :: Γ3 (nm "p" (k + 1)) (nm "e" (k + 2)) (nm "n" (k + 3))) = some .int ∧ NC x := fun x m => by
      rw [List.mem_singleton.mp m]
      exact ⟨looks look1, nn⟩
    have g := h.good (Φ := Φ) (G := G) hc hx (look0 (look3p hk) (np.ne (lt_ hk rfl))) np (le_ hk rfl)
    exact goodF hk ⟨.zer look1 (hd.wt fun x m => (hx x m).1) g.wt, (Wgt.zer hd.w g.w).wk rfl, ⟨nn.sok, c_sok (lt_ hk rfl), hd.nok fun x m => (hx x m).2, g.nok⟩, ⟨hd.cok, g.cok⟩, ⟨hd.okO, g.okO⟩⟩
  | @not d e hd he =>
    have hx : ∀ x ∈ [nm "n" (k + 3), nm "u" (k + 4)], List.lookup x ((nm "u" (k + 4), .int) :: (nm "c" (k + 6), .two) :: Γ3 (nm "p" (k + 1)) (nm "e" (k + 2)) (nm "n" (k + 3))) = some .int ∧ NC x := fun x m => by
      rcases mem2 m with rfl | rfl
      · exact ⟨looks (look0 look1 (nn.ne (lt_ hk rfl))), nn⟩
      · exact ⟨look1, nu4⟩
    have hx2 : ∀ x ∈ [nm "n" (k + 3)], List.lookup x ((nm "u" (k + 5), .int) :: (nm "c" (k + 6), .two) :: Γ3 (nm "p" (k + 1)) (nm "e" (k + 2)) (nm "n" (k + 3))) = some .int ∧ NC x := fun x m => by
      rw [List.mem_singleton.mp m]
      exact ⟨looks (look0 look1 (nn.ne (lt_ hk rfl))), nn⟩
    exact goodF hk ⟨.two (look3e hk) (hd.wt fun x m => (hx x m).1) (he.wt fun x m => (hx2 x m).1), (Wgt.two hd.w he.w).wk rfl, ⟨se, c_sok (lt_ hk rfl), nu4.sok, nu5.sok, hd.nok fun x m => (hx x m).2, he.nok fun x m => (hx2 x m).2⟩, ⟨hd.cok, he.cok⟩, ⟨hd.okO, he.okO⟩⟩
noncomputable def mI2 (F : Nat → Nat) (c : Nat) : Nat := c + 1 + (c + 1 + mI F c + 1) + 1
theorem FunS.cost {m : Form} {f : Fn} (hF : ∀ a b, a ≤ b → F a ≤ F b) (h : FunS calls k k' m f) : Mine.cost F f.b c ≤ mI2 F c := by
  cases h with
  | head h => exact le_mid (le_mid (Nat.max_le.mpr ⟨Nat.le_trans (Nat.succ_le_succ (Nat.zero_le _)) mI_3, h.cost hF⟩))
  | way hd h => exact le_mid (Nat.max_le.mpr ⟨Nat.le_trans hd.cost (Nat.le_trans mI_3 le_in), Nat.le_trans (h.cost hF) le_in⟩)
  | not hd he => exact le_mid (Nat.max_le.mpr ⟨Nat.le_trans hd.cost (Nat.le_trans mI_3 le_in), Nat.le_trans he.cost (Nat.le_trans mI_3 le_in)⟩)
theorem CntS.good {f : Fn} (h : CntS k k' f) (hk : k ≤ 100) : GoodF (· = "h") (· = "h") f ∧ HB f.p f.e f.n f.b := by
  have ne := nc_e (k := k + 2) (lt_ hk rfl)
  have nn := nc_n (k := k + 3) (lt_ hk rfl)
  have np := nc_p (k := k + 1) (lt_ hk rfl)
  have nu4 := nc_u (k := k + 4) (lt_ hk rfl)
  have nu5 := nc_u (k := k + 5) (lt_ hk rfl)
  have sh : sOk "h" := by decide +kernel
  have en := ne_en (a := k + 2) (b := k + 3) (lt_ hk rfl) (lt_ hk rfl)
  have pe := ne_pe (a := k + 1) (b := k + 2) (lt_ hk rfl) (lt_ hk rfl)
  have pn := ne_pn (a := k + 1) (b := k + 3) (lt_ hk rfl) (lt_ hk rfl)
  have hu : ∀ {Γ : Ctx}, ∀ x ∈ [nm "u" (k + 4), nm "u" (k + 5)], List.lookup x ((nm "u" (k + 5), .int) :: (nm "u" (k + 4), .int) :: Γ) = some .int ∧ NC x := fun x m => by
    rcases mem2 m with rfl | rfl
    · exact ⟨looks look1, nu4⟩
    · exact ⟨look1, nu5⟩
  cases h with
  | @a d e hd he =>
    have hx2 : ∀ x ∈ [nm "n" (k + 3)], List.lookup x ((nm "c" (k + 7), .int) :: Γ3 (nm "p" (k + 1)) (nm "e" (k + 2)) (nm "n" (k + 3))) = some .int ∧ NC x := fun x m => by
      rw [List.mem_singleton.mp m]
      exact ⟨looks look1, nn⟩
    have lp := look0 (τ := .int) (look3p hk) (np.ne (k := k + 7) (lt_ hk rfl))
    have le := look0 (τ := .int) (look3e hk) (ne.ne (k := k + 7) (lt_ hk rfl))
    have ln := (hx2 _ (List.mem_singleton_self _)).1
    exact ⟨goodF hk ⟨.zer look1 (.opn lp (hd.wt fun x m => (hu x m).1)) (.app3 rfl (.con2 (.add (.var ln) .lit) (he.wt fun x m => (hx2 x m).1)) (.var le) (.add (.var ln) .lit)), (Wgt.zer (.opn hd.w) (.app3 (.con2 (.add .var .lit) he.w) .var (.add .var .lit))).wk rfl, ⟨nn.sok, c_sok (lt_ hk rfl), ⟨np.sok, c_sok (lt_ hk rfl), nu4.sok, nu5.sok, hd.nok fun x m => (hu (Γ := []) x m).2⟩, ⟨sh, trivial, ne.sok, nn.sok, trivial⟩⟩, ⟨hd.cok, ⟨rfl, trivial, trivial, trivial, trivial⟩⟩, ⟨⟨rfl, hd.okO⟩, ⟨⟨trivial, trivial⟩, he.okO⟩, trivial, trivial, trivial⟩⟩,
      pe, pn, en, _, _, _, _, _, _, rfl, (np.ne (lt_ hk rfl)).symm, (ne.ne (lt_ hk rfl)).symm, (nn.ne (lt_ hk rfl)).symm, hd.wt fun x m => (hu x m).1, hd.bd0, fun F c => hd.cost, .a (he.wt fun x m => (hx2 x m).1) he.bd0 fun F c => he.cost⟩
  | @b d hd =>
    have nu7 := nc_u (k := k + 7) (lt_ hk rfl)
    have nu8 := nc_u (k := k + 8) (lt_ hk rfl)
    have lp := look0 (τ := .int) (look3p hk) (np.ne (k := k + 10) (lt_ hk rfl))
    have le := look0 (τ := .int) (look0 (τ := .int) (look0 (τ := .pair) (look0 (τ := .int) (look3e hk) (ne.ne (k := k + 10) (lt_ hk rfl))) (ne.ne (k := k + 9) (lt_ hk rfl))) (ne_eu (b := k + 7) (lt_ hk rfl) (lt_ hk rfl))) (ne_eu (b := k + 8) (lt_ hk rfl) (lt_ hk rfl))
    have ln : List.lookup (nm "n" (k + 3)) ((nm "u" (k + 8), .int) :: (nm "u" (k + 7), .int) :: (nm "c" (k + 9), .pair) :: (nm "c" (k + 10), .int) :: Γ3 (nm "p" (k + 1)) (nm "e" (k + 2)) (nm "n" (k + 3))) = some .int := looks (looks (look0 (looks look1) (nn.ne (lt_ hk rfl))))
    exact ⟨goodF hk ⟨.zer look1 (.opn lp (hd.wt fun x m => (hu x m).1)) (.opn lp (.app3 rfl (.con2 (.var look1) (.var (looks look1))) (.var le) (.add (.var ln) .lit))), (Wgt.zer (.opn hd.w) (.opn (.app3 (.con2 .var .var) .var (.add .var .lit)))).wk rfl, ⟨nn.sok, c_sok (lt_ hk rfl), ⟨np.sok, c_sok (lt_ hk rfl), nu4.sok, nu5.sok, hd.nok fun x m => (hu (Γ := []) x m).2⟩, ⟨np.sok, c_sok (lt_ hk rfl), nu7.sok, nu8.sok, sh, trivial, ne.sok, nn.sok, trivial⟩⟩, ⟨hd.cok, ⟨rfl, trivial, trivial, trivial, trivial⟩⟩, ⟨⟨rfl, hd.okO⟩, ⟨rfl, ⟨trivial, trivial⟩, trivial, trivial, trivial⟩⟩⟩,
      pe, pn, en, _, _, _, _, _, _, rfl, (np.ne (lt_ hk rfl)).symm, (ne.ne (lt_ hk rfl)).symm, (nn.ne (lt_ hk rfl)).symm, hd.wt fun x m => (hu x m).1, hd.bd0, fun F c => hd.cost, .b (nn.ne (lt_ hk rfl)).symm (ne_nu (lt_ hk rfl) (lt_ hk rfl)).symm (ne_nu (lt_ hk rfl) (lt_ hk rfl)).symm (ne.ne (lt_ hk rfl)).symm (ne_eu (lt_ hk rfl) (lt_ hk rfl)).symm (ne_eu (lt_ hk rfl) (lt_ hk rfl)).symm (ne_uu (lt_ hk rfl) (lt_ hk rfl) (Nat.ne_of_lt (Nat.lt_succ_self _)))⟩
end
end
section
set_option smartUnfolding false
set_option smartUnfolding true
noncomputable def Sub (S : Str → Prop) (o : Option (List Str)) : Prop := ∀ l, o = some l → ∀ x ∈ l, S x
theorem Sub.mono {S T : Str → Prop} {o : Option (List Str)} (h : Sub S o) (hS : ∀ x, S x → T x) : Sub T o := fun l e x m => hS x (h l e x m)
theorem Sub.nothing {S : Str → Prop} : Sub S none := fun u_ e => nomatch e
theorem Sub.nil {S : Str → Prop} : Sub S (some []) := fun u_ e x m => by (replace e := Option.some.inj e; subst e); cases m
theorem Sub.one {S : Str → Prop} {x : Str} (h : S x) : Sub S (some [x]) := fun u_ e y m => by (replace e := Option.some.inj e; subst e); rw [List.mem_singleton.mp m]; exact h
theorem Sub.bo {S : Str → Prop} {o o' : Option (List Str)} (h : Sub S o) (h' : Sub S o') : Sub S (bo o o') := by
  intro l e x m
  induction o using Option.casesOn with
  | none => exact nosome e
  | some a =>
    induction o' using Option.casesOn with
    | none => exact nosome e
    | some b =>
      (replace e := Option.some.inj e; subst e)
      rcases mem_un.mp m with m | m
      · exact h a rfl x m
      · exact h' b rfl x m
theorem Sub.wo {S : Str → Prop} {ns : List Str} {o : Option (List Str)} (h : Sub (fun x => S x ∨ x ∈ ns) o) : Sub S (wo ns o) := by
  intro l e x m
  induction o using Option.casesOn with
  | none => exact nosome e
  | some a =>
    (replace e := Option.some.inj e; subst e)
    obtain ⟨m1, m2⟩ := mem_flt.mp m
    rcases h a rfl x m1 with q | q
    · exact q
    · simp [q] at m2
theorem Sub.ei {S : Str → Prop} {o o' : Option (List Str)} (h : Sub S o) (h' : Sub S o') : Sub S (ei o o') := by
  intro l e x m
  induction o using Option.casesOn with
  | none => exact h' l e x m
  | some a =>
    induction o' using Option.casesOn with
    | none => exact h l e x m
    | some b =>
      (replace e := Option.some.inj e; subst e)
      exact h a rfl x (mem_flt.mp m).1
theorem Sub.oflag {S : Str → Prop} {o o' : Option (List Str)} (h : Sub S o) (h' : Sub S o') (b : Bool) : Sub S (oflag b o o') := by
  induction b using Bool.casesOn with
  | true => exact h.bo h'
  | false => exact h
theorem Sub.ei1 {S : Str → Prop} {a : List Str} {o' : Option (List Str)} (h : Sub S (some a)) : Sub S (Mine.ei (some a) o') := by
  intro l e x m
  induction o' using Option.casesOn with
  | none => exact h l e x m
  | some b =>
    (replace e := Option.some.inj e; subst e)
    exact h a rfl x (mem_flt.mp m).1
section
variable {xs calls : List Str} {e : Ex} {Φ G : Str → Prop} {Γ : Ctx} {p : Str} {F : Nat → Nat} {c k k' : Nat} {σ : Str → Sg} {s : Sg}
theorem Leaf.nd (h : Leaf xs e) : (nd σ e = none ∧ e = .err) ∨ nd σ e = some [] ∨ ∃ x ∈ xs, nd σ e = some [x] := by
  cases h with
  | err => exact .inl ⟨rfl, rfl⟩
  | lit => exact .inr (.inl rfl)
  | @add x m => exact .inr (.inr ⟨x, m, rfl⟩)
theorem Leaf.sub_nd (h : Leaf xs e) : Sub (· ∈ xs) (Mine.nd σ e) := by
  rcases h.nd (σ := σ) with ⟨q, _⟩ | q | ⟨x, m, q⟩ <;> rw [q]
  · exact .nothing
  · exact .nil
  · exact .one m
theorem Sg.fre_f (h : s.ok) : ∀ x ∈ s.fre, x = "f" := by
  rcases s with _ | ⟨a, b, c, fr⟩
  · intro x m; cases m
  · rcases h with rfl | rfl
    · intro x m; cases m
    · intro x m; exact List.mem_singleton.mp m
theorem Inn.sub_nd (h : Inn calls xs p k k' e) (hc : ∀ f ∈ calls, f = "f") (hs : s.ok) : Sub (fun x => x ∈ xs ∨ x = p ∨ x = "f") (Mine.nd (fun u_ => s) e) := by
  cases h with
  | leaf h => exact h.sub_nd.mono fun x m => .inl m
  | opn h =>
    refine Sub.bo (.one (.inr (.inl rfl))) (.wo (h.sub_nd.mono fun x m => ?_))
    rcases List.mem_append.mp m with m | m
    · exact .inl (.inl m)
    · refine .inr ?_
      simp only [List.mem_cons, List.not_mem_nil, or_false] at m ⊢
      rcases m with rfl | rfl
      · exact .inl rfl
      · exact .inr (.inl rfl)
  | @call f c a b hf hcc ha hb =>
    have q := hc f hf
    have hr := Sg.fre_f hs
    rcases s with _ | ⟨a', b', c', fr⟩
    · exact .nothing
    · show Sub _ (oflag c' (oflag b' (oflag a' (Mine.bo (some [f]) (some fr.toList)) (some [p])) (some [])) (Mine.nd _ b))
      refine ((Sub.bo (.one (.inr (.inr q))) ?_).oflag (.one (.inr (.inl rfl))) _ |>.oflag .nil _).oflag (hb.sub_nd.mono fun x m => .inl m) _
      intro l el x m
      (replace el := Option.some.inj el; subst el)
      exact .inr (.inr (hr x m))
noncomputable def Sub3 (s : Sg) (f : Fn) : Prop := Sub (fun x => x = f.p ∨ x = f.e ∨ x = f.n ∨ x = "f") (Mine.nd (fun u_ => s) f.b)
theorem FunS.sub_nd {m : Form} {f : Fn} (h : FunS calls k k' m f) (hc : ∀ f ∈ calls, f = "f") (hs : s.ok) : Sub3 s f := by
  cases h with
  | @head k' e h =>
    refine Sub.bo (.one (.inl rfl)) (.wo ?_)
    refine Sub.bo (.one (.inl (.inr (.inr (.inl rfl))))) ?_
    exact Sub.ei1 (a := []) .nil
  | @way _ d e hd h =>
    refine Sub.bo (.one (.inr (.inr (.inl rfl)))) (Sub.ei (.wo (hd.sub_nd.mono ?_)) (.wo ((h.sub_nd hc hs).mono ?_)))
    · intro x m
      rw [List.mem_singleton] at m
      exact .inl (.inr (.inr (.inl m)))
    · rintro x (m | m | m)
      · rw [List.mem_singleton] at m
        exact .inl (.inr (.inr (.inl m)))
      · exact .inl (.inl m)
      · exact .inl (.inr (.inr (.inr m)))
  | @not d e hd he =>
    refine Sub.bo (.one (.inr (.inl rfl))) (Sub.ei (.wo (hd.sub_nd.mono ?_)) (.wo (he.sub_nd.mono ?_)))
    · intro x m
      simp only [List.mem_cons, List.not_mem_nil, or_false] at m ⊢
      rcases m with rfl | rfl
      · exact .inl (.inr (.inr (.inl rfl)))
      · exact .inr (.inl rfl)
    · intro x m
      rw [List.mem_singleton] at m
      exact .inl (.inr (.inr (.inl m)))
theorem only_f {q : Str → Bool} {l : List Str} (h : ∀ x ∈ l, q x = true → x = "f") : flt q l = [] ∨ flt q l = (["f"] : List Str) := by
  have : ∀ (l a : List Str), (∀ x ∈ l, q x = true → x = "f") → (a = [] ∨ a = (["f"] : List Str)) → l.foldl (fl1 q) a = [] ∨ l.foldl (fl1 q) a = (["f"] : List Str) := by
    intro l
    induction l with
    | nil => intro a _ ha; exact ha
    | cons x l ih =>
      intro a h ha
      refine ih _ (fun y m => h y (List.mem_cons_of_mem _ m)) ?_
      cases hq : q x with
      | false => rw [fl1_f hq]; exact ha
      | true =>
        have := h x (List.mem_cons_self ..) hq
        subst this
        rw [fl1_t hq]
        rcases ha with rfl | rfl
        · exact .inr (by simp [ins])
        · exact .inr (by simp [ins])
  exact this l [] h (.inl rfl)
noncomputable abbrev sgF (s : Sg) (f : Fn) : Sg := sgOf f.p f.e f.n (Mine.nd (fun u_ => s) f.b)
theorem free_f {f : Fn} {l : List Str} (h : Sub3 s f) (e : Mine.nd (fun u_ => s) f.b = some l) : flt (fun x => ![f.p, f.e, f.n].contains x) l = [] ∨ flt (fun x => ![f.p, f.e, f.n].contains x) l = (["f"] : List Str) := by
  refine only_f fun x m hx => ?_
  rcases h l e x m with q | q | q | q
  · simp [q] at hx
  · simp [q] at hx
  · simp [q] at hx
  · exact q
theorem sg_ok {f : Fn} (h : Sub3 s f) : (sgF s f).ok := by
  unfold sgF
  cases e : Mine.nd (fun u_ => s) f.b with
  | none => trivial
  | some l =>
    rcases free_f h e with q | q
    · exact .inl (by rw [q]; rfl)
    · exact .inr (by rw [q]; rfl)
theorem okS_f (hs : s.ok) : okS s.fre := fun x m => by rw [Sg.fre_f hs x m]; decide +kernel
theorem sigOf_ {f : Fn} {E : Dct} (g : GoodF Φ G f) (hs : s.ok) (hE : ∀ x, G x → dget E x = some s.pv) (hsub : Sub3 s f) : SigOf 25 f E (sgF s f) := by
  refine ⟨sg_ok hsub, fun C cs K hC k => ?_⟩
  have hn : Mine.nsz f.b ≤ 10 := g.g.w.nsz
  have hdp := Nat.succ_le_succ g.g.w.ndq
  refine sig_ (needs (σ := fun u_ => s) (fun u_ => okS_f hs) hE f.b g.g.nok g.g.cok (Nat.le_trans hn (ble_ rfl))) ((fine (fun u_ => okS_f hs) f.b g.g.nok).mono (Nat.le_trans hn (ble_ rfl))) g.cp.sok g.ce.sok g.cn.sok ?_ (hC.le hdp) k
  intro l e
  rcases free_f hsub e with q | q <;> rw [q] <;> simp
noncomputable def spl : Sg → Fn → Bool
  | .mk true _ _ _, f => Mine.hasO f.b
  | _, _ => false
theorem un_nil {l : List Str} : un l [] = l := rfl
theorem un_11 {a b : Str} (h : a ≠ b) : un [a] [b] = [a, b] := by simp [un, ins, h.symm]
theorem flt_nil {q : Str → Bool} : flt q [] = [] := rfl
theorem flt_1t {q : Str → Bool} {a : Str} (h : q a = true) : flt q [a] = [a] := by simp [flt, fl1, ins, h]
theorem flt_1f {q : Str → Bool} {a : Str} (h : q a = false) : flt q [a] = [] := by simp [flt, fl1, h]
theorem flt_2tt {q : Str → Bool} {a b : Str} (h : q a = true) (h2 : q b = true) (n : a ≠ b) : flt q [a, b] = [a, b] := by simp [flt, fl1, ins, h, h2, n.symm]
theorem ei_nil {o : Option (List Str)} : ei (some []) o = some [] := by induction o using Option.casesOn <;> rfl
theorem not_in {x : Str} {l : List Str} (h : ∀ y ∈ l, x ≠ y) : (!l.contains x) = true := by
  simp only [Bool.not_eq_true', ← Bool.not_eq_true, List.contains_iff_mem]
  exact fun m => h x m rfl
theorem FunS.head_sg {f : Fn} (h : FunS calls k k' .head f) (hk : k ≤ 80) : sgF s f = .mk true false true none ∧ Mine.hasO f.b = true := by
  cases h with
  | @head k' e h =>
    refine ⟨?_, rfl⟩
    have pn := ne_pn (a := k + 1) (b := k + 3) (lt_ hk rfl) (lt_ hk rfl)
    have pe := ne_pe (a := k + 1) (b := k + 2) (lt_ hk rfl) (lt_ hk rfl)
    have en := ne_en (a := k + 2) (b := k + 3) (lt_ hk rfl) (lt_ hk rfl)
    have hl := h.le
    have a1 : Mine.nd (fun u_ => s) (.zer (nm "n" (k + 3)) (nm "c" (k' + 1)) (.lit 1) e) = some [nm "n" (k + 3)] := by
      show bo (some [_]) (ei (some []) _) = _
      rw [ei_nil]; rfl
    have a2 : Mine.nd (fun u_ => s) (.opn (nm "p" (k + 1)) (nm "c" (k + 6)) (nm "u" (k + 4)) (nm "u" (k + 5)) (.zer (nm "n" (k + 3)) (nm "c" (k' + 1)) (.lit 1) e)) = some [nm "p" (k + 1), nm "n" (k + 3)] := by
      show bo (some [_]) (wo [_, _, _] (Mine.nd _ _)) = _
      rw [a1]
      show some (un [_] (flt _ [_])) = _
      rw [flt_1t, un_11 pn]
      refine not_in fun y m => ?_
      simp only [List.mem_cons, List.not_mem_nil, or_false] at m
      rcases m with rfl | rfl | rfl
      · exact ne_nu (lt_ hk rfl) (lt_ hk rfl)
      · exact ne_nu (lt_ hk rfl) (lt_ hk rfl)
      · exact (nc_n (lt_ hk rfl)).ne (lt_ hk rfl)
    show sgOf _ _ _ (Mine.nd _ _) = _
    rw [a2]
    simp [sgOf, flt, fl1, pe.symm, en, pn, pn.symm, en.symm]
theorem FunS.not_o {f : Fn} (h : FunS calls k k' .not f) : Mine.hasO f.b = false := by
  cases h with
  | @not d e hd he =>
    show (Mine.hasO d || Mine.hasO e) = false
    rw [hd.hasO, he.hasO]
    rfl
theorem Inn.hasO_opn (h : Inn calls xs p k k' e) (o : Mine.hasO e = true) : ∃ x y z b, e = .opn p x y z b := by
  cases h with
  | leaf h => rw [h.hasO] at o; exact noft o
  | opn h => exact ⟨_, _, _, _, rfl⟩
  | @call f c a b _ _ ha hb =>
    have o : (false || (Mine.hasO a || Mine.hasO b)) = true := o
    rw [ha.hasO, hb.hasO] at o
    exact noft o
theorem spl_mk {f : Fn} (h : spl s f = true) : (∃ q r fr, s = .mk true q r fr) ∧ Mine.hasO f.b = true := by
  rcases s with _ | ⟨a, b, c, fr⟩
  · exact noft h
  · induction a using Bool.casesOn with
    | false => exact noft h
    | true => exact ⟨⟨_, _, _, rfl⟩, h⟩
theorem FunS.strict {tops : Dct} {m : Form} {f : Fn} (h : FunS calls k k' m f) (hk : k ≤ 80) (hs : spl (sgF s f) f = true) : Strict tops F f.p f.n f.b := by
  obtain ⟨⟨q, r, fr, e1⟩, ho⟩ := spl_mk hs
  cases h with
  | @head k' e h =>
    intro c ρ t u r hl gp sp gn sn hr
    exact .opnE (var_run gp sp)
  | @not d e hd he =>
    have ho : (Mine.hasO d || Mine.hasO e) = true := ho
    rw [hd.hasO, he.hasO] at ho
    exact noft ho
  | @way _ d e hd h =>
    have oe : Mine.hasO e = true := by
      have ho : (Mine.hasO d || Mine.hasO e) = true := ho
      rw [hd.hasO] at ho
      exact ho
    (refine obEE (h.hasO_opn oe) ?_; rintro x y ⟨z, b, rfl⟩)
    have pn := ne_pn (a := k + 1) (b := k + 3) (lt_ hk rfl) (lt_ hk rfl)
    have hde : d = .err := by
      have key : ∀ l, Mine.nd (fun u_ => s) d = some l → (∀ x ∈ l, x = nm "n" (k + 3)) → False := by
        intro l hl hx
        have hsub : Sub (fun x => x = nm "n" (k + 3)) (Mine.nd (fun u_ => s) (.zer (nm "n" (k + 3)) (nm "c" (k + 4)) d (.opn (nm "p" (k + 1)) x y z b))) := by
          refine Sub.bo (.one rfl) ?_
          show Sub _ (ei (wo _ (Mine.nd _ d)) _)
          rw [hl]
          refine Sub.ei1 (fun l' e' x m => ?_)
          (replace e' := Option.some.inj e'; subst e')
          exact hx x (mem_flt.mp m).1
        unfold sgF at e1
        cases e2 : Mine.nd (fun u_ => s) (.zer (nm "n" (k + 3)) (nm "c" (k + 4)) d (.opn (nm "p" (k + 1)) x y z b)) with
        | none => dsimp only at e1; rw [e2] at e1; cases e1
        | some l2 =>
          dsimp only at e1
          rw [e2] at e1
          injection e1 with e3
          exact pn (hsub _ e2 _ (by simpa using e3))
      rcases hd.nd (σ := fun u_ => s) with ⟨_, q⟩ | q | ⟨w, m, q⟩
      · exact q
      · exact (key _ q fun u_ m => by cases m).elim
      · exact (key _ q fun w' m' => by rw [List.mem_singleton.mp m']; exact List.mem_singleton.mp m).elim
    subst hde
    intro c ρ t u r hl gp sp gn sn hr
    have v1 := var_run gn sn
    rcases hr with ⟨i, rfl⟩ | rfl
    · by_cases hi : i = 0
      · subst hi
        exact .zer0 hl v1 (EB.err.wk (Nat.le_max_left ..))
      · exact .zer1 hi hl v1 ((EB.opnE (var_run (dg gp ((nc_p (lt_ hk rfl)).ne (lt_ hk rfl)).symm) sp)).wk (Nat.le_max_right ..))
    · exact .zerE v1
structure CntSg (f : Fn) (η0 η1 : Sg) : Prop where
  e0 : sgF .dv f = η0
  e1 : sgF η0 f = η1
  e2 : sgF η1 f = η1
  s0 : Sub3 .dv f
  s1 : Sub3 η0 f
  s2 : Sub3 η1 f
  ok0 : η0.ok
  ok1 : η1.ok
  split : spl η1 f = true → ∃ cM d1 cB l r, f.b = .zer f.n cM d1 (.opn f.p cB l r (callH (.con2 "P" (.var r) (.var l)) f.e f.n)) ∧ cM ≠ f.p
theorem zer_nd {x n : Str} {a b : Ex} : Mine.nd σ (.zer x n a b) = bo (some [x]) (ei (wo [n] (Mine.nd σ a)) (wo [n] (Mine.nd σ b))) := rfl
theorem opn_nd {x n l r : Str} {b : Ex} : Mine.nd σ (.opn x n l r b) = bo (some [x]) (wo [l, r, n] (Mine.nd σ b)) := rfl
theorem done_nd {d : Ex} {p n l r : Str} (h : Leaf [l, r] d) : (Mine.nd σ (.opn p n l r d) = none ∧ d = .err) ∨ Mine.nd σ (.opn p n l r d) = some [p] := by
  rw [opn_nd]
  rcases h.nd (σ := σ) with ⟨q, e⟩ | q | ⟨x, m, q⟩
  · rw [q]; exact .inl ⟨rfl, e⟩
  · rw [q]; exact .inr rfl
  · rw [q]
    refine .inr ?_
    show some (un [p] (flt _ [x])) = _
    rw [flt_1f, un_nil]
    simp only [List.mem_cons, List.not_mem_nil, or_false] at m
    rcases m with rfl | rfl <;> simp
theorem call_dv {q : Ex} {e n : Str} : Mine.nd (fun u_ => Sg.dv) (callH q e n) = none := rfl
theorem less_nd {n : Str} : Mine.nd σ (less n) = some [n] := by
  show bo (bo (some []) (some [n])) (some []) = _
  simp [bo, un, ins]
theorem call_nd {a b : Ex} {e n : Str} {p : Bool} (hn : n ≠ "h") : Mine.nd (fun u_ => Sg.mk p false true none) (callH (.con2 "P" a b) e n) = some (["h", n] : List Str) := by
  show oflag true (oflag false (oflag p (bo (some (["h"] : List Str)) (some [])) (some [])) _) (Mine.nd _ (less n)) = _
  rw [less_nd]
  induction p using Bool.casesOn <;> simp [oflag, bo, un, ins, hn]
theorem nm_h {b : Str} {k : Nat} (hb : b ∈ bases) (hk : k < 120) : nm b k ≠ "h" := fun e => by
  have := (nm_ok hb hk).l3
  rw [e] at this
  exact absurd this (by decide +kernel)
theorem CntS.sg {f : Fn} (h : CntS k k' f) (hk : k ≤ 80) : ∃ η0 η1, CntSg f η0 η1 := by
  have pn := ne_pn (a := k + 1) (b := k + 3) (lt_ hk rfl) (lt_ hk rfl)
  have pe := ne_pe (a := k + 1) (b := k + 2) (lt_ hk rfl) (lt_ hk rfl)
  have en := ne_en (a := k + 2) (b := k + 3) (lt_ hk rfl) (lt_ hk rfl)
  have nh := nm_h (k := k + 3) bn (lt_ hk rfl)
  have ph := nm_h (k := k + 1) bp (lt_ hk rfl)
  have sg1 : sgOf (nm "p" (k + 1)) (nm "e" (k + 2)) (nm "n" (k + 3)) (some [nm "n" (k + 3), nm "p" (k + 1)]) = .mk true false true none := by
    simp [sgOf, flt, fl1, pe.symm, en, pn, pn.symm, en.symm]
  have sg2 : sgOf (nm "p" (k + 1)) (nm "e" (k + 2)) (nm "n" (k + 3)) (some [nm "n" (k + 3)]) = .mk false false true none := by
    simp [sgOf, flt, fl1, pe.symm, en, pn, pn.symm, en.symm]
  have sub2 : Sub (fun x => x = nm "p" (k + 1) ∨ x = nm "e" (k + 2) ∨ x = nm "n" (k + 3) ∨ x = "f") (some [nm "n" (k + 3), nm "p" (k + 1)]) := by
    intro l e x m
    (replace e := Option.some.inj e; subst e)
    simp only [List.mem_cons, List.not_mem_nil, or_false] at m
    rcases m with rfl | rfl
    · exact .inr (.inr (.inl rfl))
    · exact .inl rfl
  have sub1 : Sub (fun x => x = nm "p" (k + 1) ∨ x = nm "e" (k + 2) ∨ x = nm "n" (k + 3) ∨ x = "f") (some [nm "n" (k + 3)]) := .one (.inr (.inr (.inl rfl)))
  have all : ∀ (f : Fn) (η0 η1 : Sg) (o0 o1 o2 : Option (List Str)), f.p = nm "p" (k + 1) → f.e = nm "e" (k + 2) → f.n = nm "n" (k + 3) → Mine.nd (fun u_ => .dv) f.b = o0 → Mine.nd (fun u_ => η0) f.b = o1 → Mine.nd (fun u_ => η1) f.b = o2 → sgOf (nm "p" (k + 1)) (nm "e" (k + 2)) (nm "n" (k + 3)) o0 = η0 → sgOf (nm "p" (k + 1)) (nm "e" (k + 2)) (nm "n" (k + 3)) o1 = η1 → sgOf (nm "p" (k + 1)) (nm "e" (k + 2)) (nm "n" (k + 3)) o2 = η1 →
      Sub (fun x => x = nm "p" (k + 1) ∨ x = nm "e" (k + 2) ∨ x = nm "n" (k + 3) ∨ x = "f") o0 → Sub (fun x => x = nm "p" (k + 1) ∨ x = nm "e" (k + 2) ∨ x = nm "n" (k + 3) ∨ x = "f") o1 → Sub (fun x => x = nm "p" (k + 1) ∨ x = nm "e" (k + 2) ∨ x = nm "n" (k + 3) ∨ x = "f") o2 → (spl η1 f = true → ∃ cM d1 cB l r, f.b = .zer f.n cM d1 (.opn f.p cB l r (callH (.con2 "P" (.var r) (.var l)) f.e f.n)) ∧ cM ≠ f.p) → CntSg f η0 η1 := by
    intro f η0 η1 o0 o1 o2 hp he hn n0 n1 n2 q0 q1 q2 b0 b1 b2 hsp
    have s0 : Sub3 .dv f := by unfold Sub3; rw [n0, hp, he, hn]; exact b0
    have s1 : Sub3 η0 f := by unfold Sub3; rw [n1, hp, he, hn]; exact b1
    have s2 : Sub3 η1 f := by unfold Sub3; rw [n2, hp, he, hn]; exact b2
    have e0 : sgF .dv f = η0 := by unfold sgF; rw [n0, hp, he, hn]; exact q0
    have e1 : sgF η0 f = η1 := by unfold sgF; rw [n1, hp, he, hn]; exact q1
    have e2 : sgF η1 f = η1 := by unfold sgF; rw [n2, hp, he, hn]; exact q2
    exact ⟨e0, e1, e2, s0, s1, s2, e0 ▸ sg_ok s0, e1 ▸ sg_ok s1, hsp⟩
  have wp : ∀ j, j < 120 → wo [nm "c" j] (some [nm "p" (k + 1)]) = some [nm "p" (k + 1)] := by
    intro j hj
    show some (flt _ [_]) = _
    rw [flt_1t]
    exact not_in fun y m => by rw [List.mem_singleton.mp m]; exact (nc_p (lt_ hk rfl)).ne hj
  cases h with
  | @a d e hd he =>
    rcases done_nd (σ := fun u_ => Sg.dv) (p := nm "p" (k + 1)) (n := nm "c" (k + 6)) hd with ⟨q, rfl⟩ | q
    · exact ⟨.dv, .dv, all _ _ _ none none none rfl rfl rfl rfl rfl rfl rfl rfl rfl .nothing .nothing .nothing fun h => nomatch h⟩
    · have q' : ∀ s, Mine.nd (fun u_ => s) (.opn (nm "p" (k + 1)) (nm "c" (k + 6)) (nm "u" (k + 4)) (nm "u" (k + 5)) d) = some [nm "p" (k + 1)] := by
        intro s
        rcases done_nd (σ := fun u_ => s) (p := nm "p" (k + 1)) (n := nm "c" (k + 6)) hd with ⟨_, rfl⟩ | q2
        · exact nosome q
        · exact q2
      have hc : ∀ p, wo [nm "c" (k + 7)] (Mine.nd (fun u_ => Sg.mk p false true none) (callH (.con2 "P" (.add (.var (nm "n" (k + 3))) (.lit 2)) e) (nm "e" (k + 2)) (nm "n" (k + 3)))) = some (["h", nm "n" (k + 3)] : List Str) := by
        intro p
        rw [call_nd nh]
        show some (flt _ [_, _]) = _
        rw [flt_2tt _ _ nh.symm]
        · exact not_in fun y m => by rw [List.mem_singleton.mp m]; exact (nm_h bc (lt_ hk rfl)).symm
        · exact not_in fun y m => by rw [List.mem_singleton.mp m]; exact (nc_n (lt_ hk rfl)).ne (lt_ hk rfl)
      have two : ∀ p, Mine.nd (fun u_ => Sg.mk p false true none) (.zer (nm "n" (k + 3)) (nm "c" (k + 7)) (.opn (nm "p" (k + 1)) (nm "c" (k + 6)) (nm "u" (k + 4)) (nm "u" (k + 5)) d) (callH (.con2 "P" (.add (.var (nm "n" (k + 3))) (.lit 2)) e) (nm "e" (k + 2)) (nm "n" (k + 3)))) = some [nm "n" (k + 3)] := by
        intro p
        rw [zer_nd, q', wp _ (lt_ hk rfl), hc]
        show some (un [_] (flt _ [_])) = _
        rw [flt_1f, un_nil]
        simp [pn, ph]
      refine ⟨.mk true false true none, .mk false false true none, all _ _ _ (some [nm "n" (k + 3), nm "p" (k + 1)]) (some [nm "n" (k + 3)]) (some [nm "n" (k + 3)]) rfl rfl rfl ?_ (two _) (two _) sg1 sg2 sg2 sub2 sub1 sub1 fun h => nomatch h⟩
      dsimp only
      rw [zer_nd, q', wp _ (lt_ hk rfl), call_dv]
      show some (un [_] [_]) = _
      rw [un_11 pn.symm]
  | @b d hd =>
    rcases done_nd (σ := fun u_ => Sg.dv) (p := nm "p" (k + 1)) (n := nm "c" (k + 6)) hd with ⟨q, rfl⟩ | q
    · exact ⟨.dv, .dv, all _ _ _ none none none rfl rfl rfl rfl rfl rfl rfl rfl rfl .nothing .nothing .nothing fun h => nomatch h⟩
    · have q' : ∀ s, Mine.nd (fun u_ => s) (.opn (nm "p" (k + 1)) (nm "c" (k + 6)) (nm "u" (k + 4)) (nm "u" (k + 5)) d) = some [nm "p" (k + 1)] := by
        intro s
        rcases done_nd (σ := fun u_ => s) (p := nm "p" (k + 1)) (n := nm "c" (k + 6)) hd with ⟨_, rfl⟩ | q2
        · exact nosome q
        · exact q2
      have pin : ∀ l, Mine.nd (fun u_ => Sg.mk true false true none) (.opn (nm "p" (k + 1)) (nm "c" (k + 9)) (nm "u" (k + 7)) (nm "u" (k + 8)) (callH (.con2 "P" (.var (nm "u" (k + 8))) (.var (nm "u" (k + 7)))) (nm "e" (k + 2)) (nm "n" (k + 3)))) = some l → nm "p" (k + 1) ∈ l := by
        intro l hl
        rw [opn_nd, call_nd nh] at hl
        injection hl with hl
        rw [← hl]
        exact mem_un.mpr (.inl (List.mem_singleton_self _))
      have two : Mine.nd (fun u_ => Sg.mk true false true none) (.zer (nm "n" (k + 3)) (nm "c" (k + 10)) (.opn (nm "p" (k + 1)) (nm "c" (k + 6)) (nm "u" (k + 4)) (nm "u" (k + 5)) d) (.opn (nm "p" (k + 1)) (nm "c" (k + 9)) (nm "u" (k + 7)) (nm "u" (k + 8)) (callH (.con2 "P" (.var (nm "u" (k + 8))) (.var (nm "u" (k + 7)))) (nm "e" (k + 2)) (nm "n" (k + 3))))) = some [nm "n" (k + 3), nm "p" (k + 1)] := by
        rw [zer_nd, q', wp _ (lt_ hk rfl)]
        cases e : Mine.nd (fun u_ => Sg.mk true false true none) (.opn (nm "p" (k + 1)) (nm "c" (k + 9)) (nm "u" (k + 7)) (nm "u" (k + 8)) (callH (.con2 "P" (.var (nm "u" (k + 8))) (.var (nm "u" (k + 7)))) (nm "e" (k + 2)) (nm "n" (k + 3)))) with
        | none =>
          show some (un [_] [_]) = _
          rw [un_11 pn.symm]
        | some l =>
          show some (un [_] (flt _ [_])) = _
          rw [flt_1t, un_11 pn.symm]
          rw [List.contains_iff_mem]
          refine mem_flt.mpr ⟨pin l e, ?_⟩
          exact not_in fun y m => by rw [List.mem_singleton.mp m]; exact (nc_p (lt_ hk rfl)).ne (lt_ hk rfl)
      refine ⟨.mk true false true none, .mk true false true none, all _ _ _ (some [nm "n" (k + 3), nm "p" (k + 1)]) (some [nm "n" (k + 3), nm "p" (k + 1)]) (some [nm "n" (k + 3), nm "p" (k + 1)]) rfl rfl rfl ?_ two two sg1 sg1 sg1 sub2 sub2 sub2 fun u_ => ⟨_, _, _, _, _, rfl, ((nc_p (lt_ hk rfl)).ne (lt_ hk rfl)).symm⟩⟩
      dsimp only
      rw [zer_nd, q', wp _ (lt_ hk rfl)]
      show some (un [_] [_]) = _
      rw [un_11 pn.symm]
end
end
section
set_option smartUnfolding false
section
variable {C : Oracle} {k : Nat} {a b : Int} {K : PV → List PV → Prop}
noncomputable abbrev gs (a b : Int) (k : Nat) : List PV := [.lst [.int a, .int b], .dct [("many", .int k)]]
noncomputable def Bok (b : Int) : Prop := 0 ≤ b ∧ b < 2147483647
theorem lgb {i : Int} {n : Nat} (h : 0 ≤ i) (h2 : i < 2 ^ n) : i.natAbs.log2 ≤ n := by
  by_cases hb : i.natAbs = 0
  · rw [hb]; exact Nat.zero_le _
  · refine Nat.le_of_lt ((Nat.log2_lt hb).mpr ?_)
    have h3 : ((i.natAbs : Int)) < ((2 ^ n : Nat) : Int) := by rw [Int.natAbs_of_nonneg h]; simpa using h2
    exact Int.ofNat_lt.mp h3
theorem blt_b (h : Bok b) : Nat.blt b.natAbs.log2 2000000 = true := Nat.ble_eq_true_of_le (Nat.succ_le_succ (Nat.le_trans (lgb (n := 31) h.1 (Int.lt_trans h.2 (by decide))) (Nat.le_of_ble_eq_true rfl)))
theorem posi_of {i : Int} (h : 0 < i) : posi i = true := by
  match i, h with
  | .ofNat (_ + 1), _ => rfl
theorem fm {x y : Int} (h : 0 < y) : 0 ≤ Int.fmod x y ∧ Int.fmod x y < y := ⟨Int.fmod_nonneg_of_pos x h, Int.fmod_lt_of_pos x h⟩
theorem bok_fm {x : Int} : Bok (Int.fmod x 2147483647) := fm (by decide)
theorem blt_top {top : Int} (h0 : 0 < top) (h6 : top ≤ 6) : Nat.blt top.natAbs.log2 9000 = true := Nat.ble_eq_true_of_le (Nat.succ_le_succ (Nat.le_trans (lgb (n := 3) (Int.le_of_lt h0) (Int.lt_of_le_of_lt h6 (by decide))) (Nat.le_of_ble_eq_true rfl)))
theorem take_ (hC : At 1 C) {top : Int} (h0 : 0 < top) (h6 : top ≤ 6) (h : Bok b) (kk : ∀ a' b' r : Int, Bok b' → 0 ≤ r ∧ r < top → K (.int r) (gs a' b' k)) : C (.fn 647) [.cel 0, .int top] (gs a b k) K := by
  refine hC.up fun C hC => ?_
  have hp := posi_of h0
  have hb := blt_top h0 h6
  conv => whnf
  by_cases ha : 0 < a
  · refine bool_t (decide_eq_true ha) ?_
    conv => whnf
    refine bool_t hp ?_
    conv => whnf
    refine bool_t hb ?_
    conv => whnf
    refine bool_t hp ?_
    conv => whnf
    refine bool_t hb ?_
    exact kk _ _ _ h (fm h0)
  · refine bool_f (decide_eq_false ha) ?_
    conv => whnf
    refine bool_t (blt_b h) ?_
    conv => whnf
    refine bool_t (blt_b bok_fm) ?_
    conv => whnf
    refine bool_t (blt_b bok_fm) ?_
    conv => whnf
    refine bool_t hp ?_
    conv => whnf
    refine bool_t hb ?_
    exact kk _ _ _ bok_fm (fm h0)
theorem new_ (hC : At 1 C) {x : Str} (hx : x ∈ bases) (hk : k < 118) (kk : K (.str (nm x (k + 1))) (gs a b (k + 1))) : C (.fn 661) [.cel 1, .str x] (gs a b k) K := by
  obtain ⟨b1, b2⟩ := b_len hx
  have hk : k + 1 < 120 := Nat.lt_succ_of_lt (Nat.succ_lt_succ hk)
  have h := nm_ok hx hk
  refine hC.up fun C hC => ?_
  conv => whnf
  refine bool_t (sfl1 b1 rfl) ?_
  conv => whnf
  refine bool_t (sb_of hk) ?_
  conv => whnf
  refine bool_t (show sfits ((x ++ ".").length + (strOfInt ((k + 1 : Nat) : Int)).length) = true from sfl (Nat.add_le_add b2 h.dl) rfl) ?_
  exact kk
theorem idx_of {n m : Nat} (h : n < m) (k : Nat.ble m 1099511627776 = true) : Nat.blt n 1099511627776 = true := Nat.ble_eq_true_of_le (Nat.le_trans h (Nat.le_of_ble_eq_true k))
theorem one_ (hC : At 2 C) {l : List PV} (hl : 0 < l.length) (h5 : l.length ≤ 5) (h : Bok b) (kk : ∀ (a' b' : Int) (z : PV), Bok b' → z ∈ l → K z (gs a' b' k)) : C (.fn 654) [.cel 0, .lst l] (gs a b k) K := by
  refine hC.up fun C hC => ?_
  conv => whnf
  refine bool_t (sfl h5 rfl) ?_
  refine take_ (C := C 0) (top := (l.length : Int)) (hC.le 0 rfl) (Int.ofNat_lt.mpr hl) (Int.ofNat_le.mpr (Nat.le_succ_of_le h5)) h fun a' b' r g hr => ?_
  obtain ⟨n, rfl⟩ := Int.eq_ofNat_of_zero_le hr.1
  have hn : n < l.length := Int.ofNat_lt.mp hr.2
  conv => whnf
  refine bool_t (idx_of (Nat.lt_of_lt_of_le hn h5) rfl) ?_
  conv => whnf
  refine opt_t (v := l[n]) (List.getElem?_eq_getElem hn) ?_
  exact kk a' b' _ g (List.getElem_mem hn)
theorem leaf_ (hC : At 3 C) {xs : List Str} (hl : 0 < xs.length) (h5 : xs.length ≤ 5) (h : Bok b) (kk : ∀ (a' b' : Int) (e : Ex), Bok b' → Leaf xs e → K (pv e) (gs a' b' k)) : C (.fn 675) [.cel 0, sl xs] (gs a b k) K := by
  refine hC.up fun C hC => ?_
  refine take_ (C := C 0) (hC.le 0 rfl) (by decide +kernel) (by decide +kernel) h fun a1 b1 r g hr => ?_
  by_cases q : r = 0
  · subst q
    exact kk a1 b1 .err g .err
  · conv => whnf
    refine bool_f (beq_false_of_ne q) ?_
    refine take_ (C := C 0) (hC.le 0 rfl) (by decide +kernel) (by decide +kernel) g fun a1 b1 r g hr => ?_
    by_cases q : r = 0
    · subst q
      refine take_ (C := C 0) (hC.le 0 rfl) (by decide +kernel) (by decide +kernel) g fun a1 b1 r g hr => ?_
      exact kk a1 b1 (.lit r) g .lit
    · conv => whnf
      refine bool_f (beq_false_of_ne q) ?_
      refine one_ (C := C 0) (hC.le 0 rfl) (l := xs.map .str) (by rw [List.length_map]; exact hl) (by rw [List.length_map]; exact h5) g fun a1 b1 z g hz => ?_
      (refine obEA (List.mem_map.mp hz) ?_; rintro x hx rfl)
      exact kk a1 b1 (.add (.var x) (.lit 1)) g (.add hx)
theorem leafA (hC : At 3 C) {xs : List Str} {x y : Str} (h3 : xs.length ≤ 3) (h : Bok b) (kk : ∀ (a' b' : Int) (e : Ex), Bok b' → Leaf (xs ++ [x, y]) e → K (pv e) (gs a' b' k)) : C (.fn 675) [.cel 0, .lst (xs.map .str ++ [.str x, .str y])] (gs a b k) K := by
  have := leaf_ (K := K) (a := a) (k := k) hC (xs := xs ++ [x, y]) (by rw [List.length_append]; exact Nat.succ_pos _) (by rw [List.length_append]; exact Nat.add_le_add_right h3 2) h kk
  rw [sl, List.map_append] at this
  exact this
end
end
section
set_option smartUnfolding false
section
variable {C : Oracle} {k : Nat} {a b : Int} {K : PV → List PV → Prop}
theorem int4 {r : Int} (h : 0 ≤ r ∧ r < 4) : r = 0 ∨ r = 1 ∨ r = 2 ∨ r = 3 := by
  obtain ⟨n, rfl⟩ := Int.eq_ofNat_of_zero_le h.1
  have h := Int.ofNat_lt.mp h.2
  exact match n, h with
    | 0, _ => .inl rfl
    | 1, _ => .inr (.inl rfl)
    | 2, _ => .inr (.inr (.inl rfl))
    | 3, _ => .inr (.inr (.inr rfl))
    | n + 4, h => absurd h (Nat.not_lt.mpr (Nat.le_add_left 4 n))
theorem CorD {z : PV} (hz : z ∈ ([.str "C", .str "D"] : List PV)) : ∃ c : Str, z = .str c ∧ (c = "C" ∨ c = "D") := by
  rcases List.mem_cons.mp hz with rfl | hz
  · exact ⟨_, rfl, .inl rfl⟩
  · obtain rfl := List.mem_singleton.mp hz
    exact ⟨_, rfl, .inr rfl⟩
theorem k118 {k m n : Nat} (h : k ≤ m) (q : Nat.ble (m + n + 1) 118 = true) : k + n < 118 := Nat.lt_of_lt_of_le (Nat.succ_le_succ (Nat.add_le_add_right h n)) (Nat.le_of_ble_eq_true q)
theorem inner_ (hC : At 6 C) {xs calls : List Str} {p : Str} (hc : calls = [] ∨ calls = (["f"] : List Str)) (hl : 0 < xs.length) (h3 : xs.length ≤ 3) (hk : k ≤ 100) (h : Bok b) (kk : ∀ (a' b' : Int) (k' : Nat) (e : Ex), Bok b' → Inn calls xs p k k' e → K (pv e) (gs a' b' k')) : C (.fn 682) [.cel 0, .cel 1, sl xs, .str p, sl calls] (gs a b k) K := by
  refine hC.up fun C hC => ?_
  have leaf : ∀ {a b : Int} {K' : PV → List PV → Prop}, Bok b → (∀ (a' b' : Int) (e : Ex), Bok b' → Leaf xs e → K' (pv e) (gs a' b' k)) → C 0 (.fn 675) [.cel 0, sl xs] (gs a b k) K' := fun g kk => leaf_ (hC.le 0 rfl) hl (Nat.le_trans h3 (Nat.le_of_ble_eq_true rfl)) g kk
  have kl : ∀ (a' b' : Int) (e : Ex), Bok b' → Leaf xs e → K (pv e) (gs a' b' k) := fun a' b' e g he => kk a' b' k e g (.leaf he)
  refine take_ (C := C 0) (hC.le 0 rfl) (by decide +kernel) (by decide +kernel) h fun a1 b1 r g hr => ?_
  rcases int4 hr with rfl | rfl | rfl | rfl
  · rcases hc with rfl | rfl
    · exact leaf g kl
    · refine one_ (C := C 0) (hC.le 0 rfl) (l := [.str "C", .str "D"]) (Nat.le_of_ble_eq_true rfl) (Nat.le_of_ble_eq_true rfl) g fun a1 b1 z g hz => ?_
      (refine obEA (CorD hz) ?_; rintro c rfl hcc)
      refine leaf g fun a1 b1 e1 g he1 => ?_
      refine one_ (C := C 0) (hC.le 0 rfl) (l := [.str "f"]) (Nat.le_of_ble_eq_true rfl) (Nat.le_of_ble_eq_true rfl) g fun a1 b1 z g hz => ?_
      obtain rfl := List.mem_singleton.mp hz
      refine leaf g fun a1 b1 e2 g he2 => ?_
      exact kk a1 b1 k (.app3 "f" (.var p) (.con1 c e1) e2) g (.call (List.mem_singleton_self _) hcc he1 he2)
  · refine new_ (C := C 1) (hC.le 1 rfl) bu (k118 (k := k) (n := 0) hk rfl) ?_
    refine new_ (C := C 1) (hC.le 1 rfl) bu (k118 (k := k) (n := 1) hk rfl) ?_
    refine new_ (C := C 1) (hC.le 1 rfl) bc (k118 (k := k) (n := 2) hk rfl) ?_
    conv => whnf
    refine bool_t (by rw [List.length_map]; exact sfl (Nat.add_le_add_right h3 2) rfl) ?_
    refine leafA (C := C 2) (hC.le 2 rfl) (xs := xs) (x := nm "u" (k + 1)) (y := nm "u" (k + 2)) h3 g fun a1 b1 e g he => ?_
    exact kk a1 b1 (k + 3) (.opn p (nm "c" (k + 3)) (nm "u" (k + 1)) (nm "u" (k + 2)) e) g (.opn he)
  · exact leaf g kl
  · exact leaf g kl
end
end
section
set_option smartUnfolding false
section
variable {C : Oracle} {k : Nat} {a b : Int} {K : PV → List PV → Prop}
theorem sure_ (hC : At 2 C) {x : Str} {e : Ex} (hk : k < 118) (kk : K (pv (.zer x (nm "c" (k + 1)) (.lit 1) e)) (gs a b (k + 1))) : C (.fn 689) [.cel 1, .str x, pv e] (gs a b k) K := by
  refine hC.up fun C hC => ?_
  refine new_ (C := C 0) (hC.le 0 rfl) bc hk ?_
  exact kk
theorem three {z : PV} (hz : z ∈ ([.str "head", .str "head", .str "way", .str "not"] : List PV)) : z = .str "head" ∨ z = .str "way" ∨ z = .str "not" := by
  rcases List.mem_cons.mp hz with h | hz
  · exact .inl h
  · rcases List.mem_cons.mp hz with h | hz
    · exact .inl h
    · rcases List.mem_cons.mp hz with h | hz
      · exact .inr (.inl h)
      · exact .inr (.inr (List.mem_singleton.mp hz))
theorem function_ (hC : At 9 C) {calls : List Str} (hc : calls = [] ∨ calls = (["f"] : List Str)) (hk : k ≤ 80) (h : Bok b) (kk : ∀ (a' b' : Int) (k' : Nat) (m : Form) (f : Fn), Bok b' → FunS calls k k' m f → K (.tup [f.pv, .str m.s]) (gs a' b' k')) : C (.fn 696) [.cel 0, .cel 1, sl calls] (gs a b k) K := by
  refine hC.up fun C hC => ?_
  refine new_ (C := C 0) (hC.le 0 rfl) bp (k118 (k := k) (n := 0) hk rfl) ?_
  refine new_ (C := C 0) (hC.le 0 rfl) be (k118 (k := k) (n := 1) hk rfl) ?_
  refine new_ (C := C 0) (hC.le 0 rfl) bn (k118 (k := k) (n := 2) hk rfl) ?_
  refine one_ (C := C 0) (hC.le 0 rfl) (l := [.str "head", .str "head", .str "way", .str "not"]) (Nat.le_of_ble_eq_true rfl) (Nat.le_of_ble_eq_true rfl) h fun a1 b1 z g hz => ?_
  rcases three hz with rfl | rfl | rfl
  · refine new_ (C := C 1) (hC.le 1 rfl) bu (k118 (k := k) (n := 3) hk rfl) ?_
    refine new_ (C := C 1) (hC.le 1 rfl) bu (k118 (k := k) (n := 4) hk rfl) ?_
    refine new_ (C := C 1) (hC.le 1 rfl) bc (k118 (k := k) (n := 5) hk rfl) ?_
    refine inner_ (C := C 2) (hC.le 2 rfl) (xs := [nm "u" (k + 4), nm "u" (k + 5), nm "n" (k + 3)]) (calls := calls) hc (Nat.le_of_ble_eq_true rfl) (Nat.le_of_ble_eq_true rfl) (Nat.le_trans (Nat.add_le_add_right hk 6) (Nat.le_of_ble_eq_true rfl)) g fun a1 b1 k' e g he => ?_
    refine sure_ (C := C 2) (hC.le 2 rfl) (by have := he.le; omega) ?_
    exact kk a1 b1 _ _ _ g (.head he)
  · refine leaf_ (C := C 0) (hC.le 0 rfl) (xs := [nm "n" (k + 3)]) (Nat.le_of_ble_eq_true rfl) (Nat.le_of_ble_eq_true rfl) g fun a1 b1 e1 g he1 => ?_
    refine new_ (C := C 0) (hC.le 0 rfl) bc (k118 (k := k) (n := 3) hk rfl) ?_
    refine inner_ (C := C 0) (hC.le 0 rfl) (xs := [nm "n" (k + 3)]) (calls := calls) hc (Nat.le_of_ble_eq_true rfl) (Nat.le_of_ble_eq_true rfl) (Nat.le_trans (Nat.add_le_add_right hk 4) (Nat.le_of_ble_eq_true rfl)) g fun a1 b1 k' e g he => ?_
    exact kk a1 b1 _ _ _ g (.way he1 he)
  · refine new_ (C := C 0) (hC.le 0 rfl) bu (k118 (k := k) (n := 3) hk rfl) ?_
    refine new_ (C := C 0) (hC.le 0 rfl) bu (k118 (k := k) (n := 4) hk rfl) ?_
    refine leaf_ (C := C 0) (hC.le 0 rfl) (xs := [nm "n" (k + 3), nm "u" (k + 4)]) (Nat.le_of_ble_eq_true rfl) (Nat.le_of_ble_eq_true rfl) g fun a1 b1 e1 g he1 => ?_
    refine leaf_ (C := C 0) (hC.le 0 rfl) (xs := [nm "n" (k + 3)]) (Nat.le_of_ble_eq_true rfl) (Nat.le_of_ble_eq_true rfl) g fun a1 b1 e2 g he2 => ?_
    refine new_ (C := C 0) (hC.le 0 rfl) bc (k118 (k := k) (n := 5) hk rfl) ?_
    exact kk a1 b1 _ _ _ g (.not he1 he2)
theorem counted_ (hC : At 9 C) (hk : k ≤ 80) (h : Bok b) (kk : ∀ (a' b' : Int) (k' : Nat) (f : Fn), Bok b' → CntS k k' f → K f.pv (gs a' b' k')) : C (.fn 703) [.cel 0, .cel 1, .str "h"] (gs a b k) K := by
  refine hC.up fun C hC => ?_
  refine new_ (C := C 0) (hC.le 0 rfl) bp (k118 (k := k) (n := 0) hk rfl) ?_
  refine new_ (C := C 0) (hC.le 0 rfl) be (k118 (k := k) (n := 1) hk rfl) ?_
  refine new_ (C := C 0) (hC.le 0 rfl) bn (k118 (k := k) (n := 2) hk rfl) ?_
  refine new_ (C := C 1) (hC.le 1 rfl) bu (k118 (k := k) (n := 3) hk rfl) ?_
  refine new_ (C := C 1) (hC.le 1 rfl) bu (k118 (k := k) (n := 4) hk rfl) ?_
  refine new_ (C := C 1) (hC.le 1 rfl) bc (k118 (k := k) (n := 5) hk rfl) ?_
  refine leaf_ (C := C 2) (hC.le 2 rfl) (xs := [nm "u" (k + 4), nm "u" (k + 5)]) (Nat.le_of_ble_eq_true rfl) (Nat.le_of_ble_eq_true rfl) h fun a1 b1 e1 g he1 => ?_
  refine leaf_ (C := C 0) (hC.le 0 rfl) (xs := [nm "n" (k + 3)]) (Nat.le_of_ble_eq_true rfl) (Nat.le_of_ble_eq_true rfl) g fun a1 b1 e2 g he2 => ?_
  refine take_ (C := C 0) (hC.le 0 rfl) (by decide +kernel) (by decide +kernel) g fun a1 b1 r g hr => ?_
  have hr : r = 1 ∨ r = 0 := by omega
  rcases hr with rfl | rfl
  · refine new_ (C := C 0) (hC.le 0 rfl) bc (k118 (k := k) (n := 6) hk rfl) ?_
    exact kk a1 b1 _ _ g (.a he1 he2)
  · refine new_ (C := C 1) (hC.le 1 rfl) bu (k118 (k := k) (n := 6) hk rfl) ?_
    refine new_ (C := C 1) (hC.le 1 rfl) bu (k118 (k := k) (n := 7) hk rfl) ?_
    refine new_ (C := C 1) (hC.le 1 rfl) bc (k118 (k := k) (n := 8) hk rfl) ?_
    refine new_ (C := C 0) (hC.le 0 rfl) bc (k118 (k := k) (n := 9) hk rfl) ?_
    exact kk a1 b1 _ _ g (.b he1)
end
end
section
set_option smartUnfolding false
section
variable {C : Oracle} {k : Nat} {a b : Int} {K : PV → List PV → Prop}
theorem log2_le_of {x y : Nat} (h : x ≤ y) : x.log2 ≤ y.log2 := by
  by_cases hx : x = 0
  · subst hx; exact Nat.zero_le _
  · exact (Nat.le_log2 (by omega)).mpr (Nat.le_trans (Nat.log2_self_le hx) h)
theorem fits01 (w : Bool) : fits (if w = true then 1 else 0) = true := by induction w using Bool.casesOn <;> decide +kernel
theorem big_le {n : Int} : (if n < -1 - n then -1 - n else n).natAbs ≤ n.natAbs := by split <;> omega
theorem bok_17 {x : Int} : Bok (Int.fmod x 2147483629 + 0 + 0 + 17) := by
  have := fm (x := x) (y := 2147483629) (by decide)
  exact ⟨by omega, by omega⟩
theorem pool_ (hC : At 1 C) {ns : List Int} (hl : ns.length ≤ 63) (hb : ∀ n ∈ ns, n.natAbs.log2 < 1999990) (kk : ∀ a b : Int, Bok b → K (.cel 0) [.lst [.int a, .int b]]) : C (.fn 640) [.lst (ns.map .int), .int 0] [] K := by
  refine hC.up fun C hC => ?_
  induction ns using List.casesOn with
  | nil => exact kk _ _ bok_fm
  | cons n ns =>
    conv => whnf
    refine bool_t (show sfits (List.map PV.int (n :: ns)).length = true by rw [List.length_map]; exact sfl hl rfl) ?_
    conv => whnf
    refine bool_t (show decide ((0 : Int) < ((List.map PV.int (n :: ns)).length : Int)) = true from decide_eq_true (Int.ofNat_lt.mpr (Nat.succ_pos _))) ?_
    conv => whnf
    have fb : Nat.blt (if n < -1 - n then -1 - n else n).natAbs.log2 2000000 = true := Nat.ble_eq_true_of_le (Nat.lt_of_le_of_lt (log2_le_of big_le) (Nat.lt_trans (hb n (List.mem_cons_self ..)) (Nat.le_of_ble_eq_true rfl)))
    refine bool_t (show fits (Int.fmod (if n < -1 - n then -1 - n else n) 2147483629 + 0 + 0 + 17) = true from blt_b bok_17) ?_
    conv => whnf
    refine bool_t fb ?_
    conv => whnf
    refine bool_t (fits01 _) ?_
    exact kk _ _ bok_fm
end
end
section
set_option smartUnfolding false
theorem turns_fl {β γ : Type} {tgt : PV → St → (St → Prop) → Prop} {body : Oracle → St → KtS → Prop} {C : Oracle} (enc : β → PV) (f : γ → β → γ) (I : Nat → γ → St → Prop) {K : KtS}
    (step : ∀ n x acc σ (ih : St → KtS → Prop), I (n + 1) acc σ → (∀ σ, I n (f acc x) σ → ih σ K) → tgt (enc x) σ (kTurn body C ih K)) : ∀ (l : List β) acc σ, I l.length acc σ → (∀ σ, I 0 (l.foldl f acc) σ → K .next σ) → vcTurns tgt body C (l.map enc) σ K := by
  intro l
  induction l with
  | nil => intro acc σ h k; exact k σ h
  | cons x l ih =>
    intro acc σ h k
    exact step l.length x acc σ (vcTurns tgt body C (l.map enc)) h fun σ hσ => ih _ σ hσ k
section
variable {C : Oracle} {k : Nat} {K : PV → List PV → Prop} {s0 s1 : PV}
theorem avoid_ (hC : At 1 C) {A : List Str} (hA : A.length ≤ 600) (kk : K .none [s0, s1, tk (un [] A), .dct []]) : C (.fn 619) [FrV, sl A] [s0, s1, .dct [], .dct []] K := by
  refine hC.up fun C hC => ?_
  conv => whnf
  show vcTurns _ _ _ (List.map PV.str A) _ _
  refine turns_fl (γ := List Str) PV.str ins (fun n acc σ => acc.length + n ≤ 600 ∧ σ.cs = [s0, s1, tk acc, .dct []] ∧ ∀ p, fset σ.fr "name" ⟨.plain, p⟩ = [pn "self" FrV, pn "names" (sl A), pn "name" p]) ?_ A [] _ ⟨(Nat.zero_add _).symm ▸ hA, rfl, fun u_ => rfl⟩ ?_
  · rintro n x acc ⟨fr, _⟩ ih ⟨hn, rfl, hf⟩ hK
    refine tgt_name rfl (hf _) ?_
    conv => whnf
    refine bool_t (sft1 hn rfl) ?_
    conv => whnf
    rw [dset_tk]
    exact hK _ ⟨step_len hn (ins_len acc x), rfl, fun u_ => rfl⟩
  · rintro ⟨fr, _⟩ ⟨_, rfl, hf⟩
    exact kk
theorem fresh_ (hC : At 3 C) {A : List Str} (hA : A.length ≤ 600) (kk : K FrV (st4 s0 s1 (un [] A) [])) : C (.fn 629) [sl A] [s0, s1] K := by
  refine hC.up fun C hC => ?_
  refine avoid_ (C := C 0) (hC.le 0 rfl) hA ?_
  exact kk
end
end
section
set_option smartUnfolding false
section
variable {C : Oracle} {k : Nat} {K : PV → List PV → Prop} {s0 s1 : PV} {A : List Str} {N : Dct} {f : Fn} {s : Sg}
noncomputable abbrev spV (u1 u2 : Str) : PV := .ins 530 [("place", .int 0), ("con", .str "P"), ("fields", .lst [.str u1, .str u2])]
structure FnNm (f : Fn) : Prop where
  p : ∃ i, f.p = nm "p" i ∧ i < 120
  e : ∃ i, f.e = nm "e" i ∧ i < 120
  n : ∃ i, f.n = nm "n" i ∧ i < 120
structure Fnk (f : Fn) : Prop where
  nms : FnNm f
  ok : okO f.p f.b
  sz : sz f.b ≤ 100
  pe : f.p ≠ f.e
  pn : f.p ≠ f.n
  en : f.e ≠ f.n
noncomputable abbrev wkV (f : Fn) (v1 v2 : Str) : PV := plam [.str v1, .str v2, .str f.e, .str f.n] (.lett f.p (.con2 "P" (.var v1) (.var v2)) f.b)
theorem worker_of_ (hC : At 1 C) {v1 v2 : Str} {cs : List PV} (kk : K (wkV f v1 v2) cs) : C (.fn 556) [f.pv, .lst [spV v1 v2]] cs K := by
  refine hC.up fun C hC => ?_
  exact kk
theorem next_p (hC : At 2 C) {x b : Str} {n0 : Nat} (hA : AvOk A) (hx : ∃ i, x = nm b i ∧ i < 120) (hb : b ∈ bases) (hN : (dget N b).getD (.int 0) = .int n0) (hn : n0 < 118) (hl : N.length ≤ 50) (kk : K (.str (nm b (nx n0))) (st4 s0 s1 A (dset N b (.int (nx n0))))) : C (.fn 626) [FrV, .str x] (st4 s0 s1 A N) K := by
  (refine obEA hx ?_; try clear hx; rintro i rfl hi)
  exact hC.up fun C hC => next_b hA (fun cs K k => base_of_nm (hC.le 0 rfl) hb hi k) hb hN hn hl kk
theorem nx_110 {n : Nat} (h : n < 110) : nx n < 111 := Nat.max_lt.mpr ⟨Nat.succ_lt_succ h, Nat.le_of_ble_eq_true rfl⟩
theorem lt118 {n m : Nat} (h : n < m) (k : Nat.ble m 118 = true) : n < 118 := Nat.lt_of_lt_of_le h (Nat.le_of_ble_eq_true k)
theorem le50 {n m : Nat} (h : n ≤ m) (k : Nat.ble m 50 = true) : n ≤ 50 := Nat.le_trans h (Nat.le_of_ble_eq_true k)
theorem getD_self {N : Dct} {x : Str} {n : Nat} : (dget (dset N x (.int (n : Nat))) x).getD (.int 0) = .int n := by rw [dget_dset, if_pos rfl]; rfl
theorem getD_ne {N : Dct} {x y : Str} {p v : PV} (h : y ≠ x) (e : (dget N x).getD (.int 0) = v) : (dget (dset N y p) x).getD (.int 0) = v := by rw [dget_dset, if_neg h]; exact e
theorem isn {o : Option PV} (h : o = none) : o.isSome = false := by rw [h]; rfl
theorem splits_yes (hC : At 3 C) {a b c : Bool} {fr : Option Str} {n0 : Nat} (hA : AvOk A) (hf : Fnk f) (ha : a = true) (ho : hasO f.b = true) (hN : (dget N "p").getD (.int 0) = .int n0) (hn : n0 < 110) (hl : N.length ≤ 40) (kk : K (.lst [spV (nm "p" (nx n0)) (nm "p" (nx (nx n0)))]) (st4 s0 s1 A (dset (dset N "p" (.int (nx n0))) "p" (.int (nx (nx n0)))))) : C (.fn 551) [f.pv, (Sg.mk a b c fr).pv, .dct consD, FrV] (st4 s0 s1 A N) K := by
  have hnx := nx_110 hn
  subst ha
  refine hC.up fun C hC => ?_
  refine scrutinised_ (C := C 0) (hC.le 0 rfl) hf.ok hf.sz ?_
  rw [ho]
  have hp : dget (fb f.p true) f.p = some (.str "P") := by simp [fb, dget]
  have he : dget (fb f.p true) f.e = none := by simp [fb, dget, hf.pe]
  have hn' : dget (fb f.p true) f.n = none := by simp [fb, dget, hf.pn]
  conv => whnf
  refine bool_t (by rw [hp]; rfl) ?_
  conv => whnf
  refine opt_t hp ?_
  refine next_p (C := C 0) (hC.le 0 rfl) hA hf.nms.p bp hN (lt118 hn rfl) (le50 hl rfl) ?_
  refine next_p (C := C 0) (hC.le 0 rfl) (n0 := nx n0) hA hf.nms.p bp getD_self (lt118 hnx rfl) (le50 (dset_le hl) rfl) ?_
  conv => whnf
  refine opt_t hp ?_
  clear hp ho hnx hC hN hn hl hA hf
  induction b using Bool.casesOn <;> induction c using Bool.casesOn
  · exact kk
  · conv => whnf
    refine bool_f (isn hn') ?_
    exact kk
  · conv => whnf
    refine bool_f (isn he) ?_
    exact kk
  · conv => whnf
    refine bool_f (isn he) ?_
    conv => whnf
    refine bool_f (isn hn') ?_
    exact kk
theorem splits_no (hC : At 3 C) {a b c : Bool} {fr : Option Str} (hf : Fnk f) (ha : (a && hasO f.b) = false) (kk : K (.lst []) (st4 s0 s1 A N)) : C (.fn 551) [f.pv, (Sg.mk a b c fr).pv, .dct consD, FrV] (st4 s0 s1 A N) K := by
  refine hC.up fun C hC => ?_
  refine scrutinised_ (C := C 0) (hC.le 0 rfl) hf.ok hf.sz ?_
  generalize hasO f.b = w at ha
  have hp : a = true → dget (fb f.p w) f.p = none := fun h => by
    subst h
    have ha : w = false := ha
    subst ha
    rfl
  have he : dget (fb f.p w) f.e = none := by induction w using Bool.casesOn <;> simp [fb, dget, hf.pe]
  have hn' : dget (fb f.p w) f.n = none := by induction w using Bool.casesOn <;> simp [fb, dget, hf.pn]
  clear ha hC hf
  induction a using Bool.casesOn <;> induction b using Bool.casesOn <;> induction c using Bool.casesOn
  · exact kk
  · conv => whnf
    refine bool_f (isn hn') ?_
    exact kk
  · conv => whnf
    refine bool_f (isn he) ?_
    exact kk
  · conv => whnf
    refine bool_f (isn he) ?_
    conv => whnf
    refine bool_f (isn hn') ?_
    exact kk
  · conv => whnf
    refine bool_f (isn (hp rfl)) ?_
    exact kk
  · conv => whnf
    refine bool_f (isn (hp rfl)) ?_
    conv => whnf
    refine bool_f (isn hn') ?_
    exact kk
  · conv => whnf
    refine bool_f (isn (hp rfl)) ?_
    conv => whnf
    refine bool_f (isn he) ?_
    exact kk
  · conv => whnf
    refine bool_f (isn (hp rfl)) ?_
    conv => whnf
    refine bool_f (isn he) ?_
    conv => whnf
    refine bool_f (isn hn') ?_
    exact kk
noncomputable abbrev wrV (p' e' n' cN u1 u2 w : Str) : PV := plam [.str p', .str e', .str n'] (.opn p' cN u1 u2 (.app4 w (.var u1) (.var u2) (.var e') (.var n')))
noncomputable def nx6 (n : Nat) : Nat := nx (nx (nx (nx n)))
noncomputable def nxN (N : Dct) (n0 e0 m0 : Nat) : Dct := dset (dset (dset (dset (dset (dset N "p" (.int (nx n0))) "e" (.int (nx e0))) "n" (.int (nx m0))) "p" (.int (nx (nx n0)))) "p" (.int (nx (nx (nx n0))))) "p" (.int (nx (nx (nx (nx n0)))))
theorem nx_up {n m : Nat} (h : n < m) (k : Nat.ble 91 m = true) : nx n < m + 1 := Nat.max_lt.mpr ⟨Nat.succ_lt_succ h, Nat.lt_succ_of_lt (Nat.lt_of_lt_of_le (Nat.lt_succ_self 90) (Nat.le_of_ble_eq_true k))⟩
theorem pen : ("p" : Str) ≠ "e" ∧ ("p" : Str) ≠ "n" ∧ ("e" : Str) ≠ "n" ∧ ("n" : Str) ≠ "p" ∧ ("e" : Str) ≠ "p" := by decide +kernel
theorem wrapper_of_ (hC : At 3 C) {w v1 v2 : Str} {i1 i2 n0 e0 m0 : Nat} (hA : AvOk A) (hf : FnNm f) (h1 : i1 < 120) (h2 : i2 < 120) (hv1 : v1 = nm "p" i1) (hv2 : v2 = nm "p" i2) (hN : (dget N "p").getD (.int 0) = .int n0) (hE : (dget N "e").getD (.int 0) = .int e0) (hM : (dget N "n").getD (.int 0) = .int m0) (hn : n0 < 110) (he : e0 < 110) (hm : m0 < 110) (hl : N.length ≤ 40) (kk : K (wrV (nm "p" (nx n0)) (nm "e" (nx e0)) (nm "n" (nx m0)) (nm "p" (nx6 n0)) (nm "p" (nx (nx n0))) (nm "p" (nx (nx (nx n0)))) w) (st4 s0 s1 A (nxN N n0 e0 m0))) : C (.fn 561) [f.pv, .lst [spV v1 v2], .str w, FrV] (st4 s0 s1 A N) K := by
  have g1 := nx_up hn rfl
  have g2 := nx_up g1 rfl
  have g3 := nx_up g2 rfl
  have l1 := dset_le (k := ("p" : Str)) (p := .int (nx n0)) hl
  have l2 := dset_le (k := ("e" : Str)) (p := .int (nx e0)) l1
  have l3 := dset_le (k := ("n" : Str)) (p := .int (nx m0)) l2
  have l4 := dset_le (k := ("p" : Str)) (p := .int (nx (nx n0))) l3
  have l5 := dset_le (k := ("p" : Str)) (p := .int (nx (nx (nx n0)))) l4
  refine hC.up fun C hC => ?_
  refine next_p (C := C 0) (hC.le 0 rfl) hA hf.p bp hN (lt118 hn rfl) (le50 hl rfl) ?_
  refine next_p (C := C 0) (hC.le 0 rfl) (n0 := e0) hA hf.e be (getD_ne pen.1 hE) (lt118 he rfl) (le50 l1 rfl) ?_
  refine next_p (C := C 0) (hC.le 0 rfl) (n0 := m0) hA hf.n bn (getD_ne pen.2.2.1 (getD_ne pen.2.1 hM)) (lt118 hm rfl) (le50 l2 rfl) ?_
  refine next_p (C := C 0) (hC.le 0 rfl) (n0 := nx n0) hA ⟨i1, hv1, h1⟩ bp (getD_ne pen.2.2.2.1 (getD_ne pen.2.2.2.2 getD_self)) (lt118 g1 rfl) (le50 l3 rfl) ?_
  refine next_p (C := C 0) (hC.le 0 rfl) (n0 := nx (nx n0)) hA ⟨i2, hv2, h2⟩ bp getD_self (lt118 g2 rfl) (le50 l4 rfl) ?_
  refine next_p (C := C 0) (hC.le 0 rfl) (n0 := nx (nx (nx n0))) hA ⟨nx n0, rfl, Nat.lt_trans g1 (Nat.le_of_ble_eq_true rfl)⟩ bp getD_self (lt118 g3 rfl) (le50 l5 rfl) ?_
  exact kk
end
end
section
inductive Item where
  | fn (x : Str) (f : Fn) (s : Sg)
  | call (x g : Str) (q r t : Ex)
noncomputable def Item.name : Item → Str
  | .fn x _ _ => x
  | .call x _ _ _ _ => x
noncomputable def Item.enc : Item → PV
  | .fn x f _ => ent x f.pv
  | .call x g q r t => ent x (pv (.app3 g q r t))
noncomputable def Item.w : Item → Nat
  | .fn _ _ _ => 6
  | .call _ _ _ _ _ => 0
noncomputable def Item.ok (E : Dct) : Item → Prop
  | .fn x f s => x ∈ (["f", "g", "h"] : List Str) ∧ dget E x = some s.pv ∧ Fnk f
  | .call x _ _ _ _ => x ∈ (["fs", "gs", "hs"] : List Str)
noncomputable def Item.out : Item → List PV → Prop
  | .fn x f s, o => (spl s f = false ∧ o = [ent x f.pv]) ∨ (spl s f = true ∧ ∃ p' e' n' cN u1 u2 v1 v2, Nms f.p f.e f.n p' e' n' cN u1 u2 v1 v2 ∧ (sOk u1 ∧ sOk u2 ∧ sOk e' ∧ sOk n') ∧ o = [ent x (wrV p' e' n' cN u1 u2 (nm x 1)), ent (nm x 1) (wkV f v1 v2)])
  | .call x g q r t, o => o = [ent x (pv (.app3 g q r t))]
theorem out_call {x g : Str} {q r t : Ex} : (Item.call x g q r t).out [ent x (pv (.app3 g q r t))] := rfl
theorem out_same {x : Str} {f : Fn} {s : Sg} (h : spl s f = false) : (Item.fn x f s).out [ent x f.pv] := Or.inl ⟨h, rfl⟩
theorem out_split {x : Str} {f : Fn} {s : Sg} {p' e' n' cN u1 u2 v1 v2 : Str} (h : spl s f = true) (N : Nms f.p f.e f.n p' e' n' cN u1 u2 v1 v2) (so : sOk u1 ∧ sOk u2 ∧ sOk e' ∧ sOk n') : (Item.fn x f s).out [ent x (wrV p' e' n' cN u1 u2 (nm x 1)), ent (nm x 1) (wkV f v1 v2)] := Or.inr ⟨h, p', e', n', cN, u1, u2, v1, v2, N, so, rfl⟩
inductive Outs : List Item → List PV → Prop where
  | nil : Outs [] []
  | snoc {l : List Item} {acc : List PV} {x : Item} {o : List PV} : Outs l acc → x.out o → Outs (l ++ [x]) (acc ++ o)
noncomputable def wsum (l : List Item) : Nat := (l.map Item.w).sum
theorem turns_list {β : Type} {tgt : PV → St → (St → Prop) → Prop} {body : Oracle → St → KtS → Prop} {C : Oracle} (enc : β → PV) (I : List β → St → Prop) {K : KtS}
    (step : ∀ x l σ (ih : St → KtS → Prop), I (x :: l) σ → (∀ σ, I l σ → ih σ K) → tgt (enc x) σ (kTurn body C ih K)) : ∀ (l : List β) σ, I l σ → (∀ σ, I [] σ → K .next σ) → vcTurns tgt body C (l.map enc) σ K := by
  intro l
  induction l with
  | nil => intro σ h k; exact k σ h
  | cons x l ih =>
    intro σ h k
    exact step x l σ (vcTurns tgt body C (l.map enc)) h fun σ hσ => ih σ hσ k
set_option smartUnfolding false
section
variable {C : Oracle} {D : Nat} {K : PV → List PV → Prop} {s0 s1 : PV} {A : List Str} {f g h : Fn} {q1 r1 t1 q2 r2 t2 q3 r3 t3 : Ex} {φ γ0 γ1 η0 η1 : Sg}
noncomputable abbrev items (f g h : Fn) (φ γ η : Sg) (q1 r1 t1 q2 r2 t2 q3 r3 t3 : Ex) : List Item := [.fn "f" f φ, .fn "g" g γ, .fn "h" h η, .call "fs" "f" q1 r1 t1, .call "gs" "g" q2 r2 t2, .call "hs" "h" q3 r3 t3]
theorem ne_bases {x b : Str} (hx : x ∈ (["f", "g", "h"] : List Str)) (hb : b ∈ bases) : x ≠ b := by
  have : ((["f", "g", "h"] : List Str).all fun x => bases.all fun b => !decide (x = b)) = true := by decide +kernel
  have := List.all_eq_true.mp (List.all_eq_true.mp this x hx) b hb
  simpa using this
theorem Item.ok.nm {E : Dct} {y : Item} (h : y.ok E) : ∀ b ∈ bases, y.name ≠ b := by
  intro b hb
  cases y with
  | fn x f s => exact ne_bases h.1 hb
  | call x g q r t =>
    have : ((["fs", "gs", "hs"] : List Str).all fun x => bases.all fun b => !decide (x = b)) = true := by decide +kernel
    have := List.all_eq_true.mp (List.all_eq_true.mp this x h) b hb
    have : x ≠ b := by simpa using this
    exact this
theorem dget_ne {N : Dct} {x y : Str} {p : PV} {o : Option PV} (h : y ≠ x) (e : dget N x = o) : dget (dset N y p) x = o := by rw [dget_dset, if_neg h]; exact e
theorem nxN_p {N : Dct} {n0 e0 m0 : Nat} : (dget (nxN N n0 e0 m0) "p").getD (.int 0) = .int (nx6 n0) ∧ (dget (nxN N n0 e0 m0) "e").getD (.int 0) = .int (nx e0) ∧ (dget (nxN N n0 e0 m0) "n").getD (.int 0) = .int (nx m0) :=
  ⟨getD_self, getD_ne pen.1 (getD_ne pen.1 (getD_ne pen.1 (getD_ne pen.2.2.1.symm getD_self))), getD_ne pen.2.1 (getD_ne pen.2.1 (getD_ne pen.2.1 getD_self))⟩
theorem nxN_other {N : Dct} {n0 e0 m0 : Nat} {x : Str} (hp : x ≠ "p") (he : x ≠ "e") (hn : x ≠ "n") : dget (nxN N n0 e0 m0) x = dget N x := dget_ne hp.symm (dget_ne hp.symm (dget_ne hp.symm (dget_ne hn.symm (dget_ne he.symm (dget_ne hp.symm rfl)))))
theorem nxN_len {N : Dct} {n0 e0 m0 n : Nat} (h : N.length ≤ n) : (nxN N n0 e0 m0).length ≤ n + 6 := dset_le (dset_le (dset_le (dset_le (dset_le (dset_le h)))))
noncomputable def wkFr (L : List Item) (E : Dct) (acc : List PV) (r : List (Str × Bind)) : List (Str × Bind) := pn "program" (progV (L.map Item.enc)) :: pn "cons" (.dct consD) :: pn "fresh" FrV :: on "binds" (.lst acc) :: pn "known" (.dct E) :: r
noncomputable def Tw (s : List (Str × Bind)) : Prop := s = [] ∨ ∃ w : Bind, s = ([("worker_name", w)] : List (Str × Bind))
noncomputable def Tw3 (r : List (Str × Bind)) : Prop := r = [] ∨ ∃ (x y z : Bind) (s : List (Str × Bind)), r = (("name" : Str), x) :: (("expr" : Str), y) :: (("splits" : Str), z) :: s ∧ Tw s
structure Cnt (N : Dct) (n0 e0 m0 B w : Nat) : Prop where
  p : (dget N "p").getD (.int 0) = .int n0
  e : (dget N "e").getD (.int 0) = .int e0
  n : (dget N "n").getD (.int 0) = .int m0
  pB : n0 ≤ B
  eB : e0 ≤ B
  nB : m0 ≤ B
  lo : 89 ≤ B
  hi : B + w ≤ 107
  len : N.length + 2 * w ≤ 36
structure WkI (L : List Item) (rem : List Item) (acc : List PV) (N : Dct) : Prop where
  ex : ∃ don, don ++ rem = L ∧ Outs don acc ∧ acc.length ≤ 2 * don.length
  cnt : ∃ n0 e0 m0 B, Cnt N n0 e0 m0 B (wsum rem)
  new : ∀ x ∈ rem, dget N x.name = none
theorem nx_B {n B : Nat} (h : n ≤ B) (l : 89 ≤ B) : nx n ≤ B + 1 := Nat.max_le.mpr ⟨Nat.succ_le_succ h, Nat.succ_le_succ l⟩
theorem nx_s {n : Nat} (h : 90 ≤ n) : nx n = n + 1 := Nat.max_eq_left (Nat.le_succ_of_le h)
theorem acc_le {d : List Item} {acc : List PV} (h : acc.length ≤ 2 * d.length) (hl : d.length ≤ 5) : acc.length ≤ 10 := Nat.le_trans h (Nat.mul_le_mul_left 2 hl)
theorem len1 {α β : Type} {a : List α} {d : List β} {x : α} {y : β} (h : a.length ≤ 2 * d.length) : (a ++ [x]).length ≤ 2 * (d ++ [y]).length := by simp only [List.length_append, List.length_singleton]; omega
theorem len2 {α β : Type} {a : List α} {d : List β} {x x' : α} {y : β} (h : a.length ≤ 2 * d.length) : (a ++ [x] ++ [x']).length ≤ 2 * (d ++ [y]).length := by simp only [List.length_append, List.length_singleton]; omega
theorem snoc1 {L don l : List Item} {x : Item} {acc : List PV} {o : PV} (h1 : don ++ x :: l = L) (h2 : Outs don acc) (h3 : acc.length ≤ 2 * don.length) (ho : x.out [o]) : ∃ don, don ++ l = L ∧ Outs don (acc ++ [o]) ∧ (acc ++ [o]).length ≤ 2 * don.length :=
  ⟨don ++ [x], by rw [List.append_assoc]; exact h1, .snoc h2 ho, len1 h3⟩
theorem snoc2 {L don l : List Item} {x : Item} {acc : List PV} {o o' : PV} (h1 : don ++ x :: l = L) (h2 : Outs don acc) (h3 : acc.length ≤ 2 * don.length) (ho : x.out [o, o']) : ∃ don, don ++ l = L ∧ Outs don (acc ++ [o] ++ [o']) ∧ (acc ++ [o] ++ [o']).length ≤ 2 * don.length :=
  ⟨don ++ [x], by rw [List.append_assoc]; exact h1, by rw [List.append_assoc]; exact .snoc h2 ho, len2 h3⟩
theorem Cnt.less {N : Dct} {n0 e0 m0 B w w' : Nat} (c : Cnt N n0 e0 m0 B w) (h : w' ≤ w) : Cnt N n0 e0 m0 B w' := ⟨c.p, c.e, c.n, c.pB, c.eB, c.nB, c.lo, Nat.le_trans (Nat.add_le_add_left h B) c.hi, Nat.le_trans (Nat.add_le_add_left (Nat.mul_le_mul_left 2 h) _) c.len⟩
noncomputable def forP : Option Stmt → List Stmt
  | some (.For _ _ b _ _) => b
  | _ => []
noncomputable def wkB : List Stmt := forP (bodyOf 568)[1]?
noncomputable def Item.val : Item → PV
  | .fn _ f _ => f.pv
  | .call _ g q r t => pv (.app3 g q r t)
noncomputable abbrev wkSt (L : List Item) (E : Dct) (acc : List PV) (x : Item) (s : List (Str × Bind)) : List (Str × Bind) := wkFr L E acc (pn "name" (.str x.name) :: pn "expr" x.val :: on "splits" (.lst []) :: s)
noncomputable abbrev wkKs (C : Oracle) (K : PV → List PV → Prop) : KtS := kNext (vcSs TT 38 (scOf 568) ((bodyOf 568).drop 2) C) (kEnd K)
section
variable {C : Nat → Oracle} {L l : List Item} {E : Dct} {acc : List PV} {N : Dct} {s : List (Str × Bind)} {ih : St → KtS → Prop} {KS : KtS}
theorem wk_call {x g : Str} {q r t : Ex} (hs : Tw s) (ha : acc.length ≤ 10) (k : ∀ u, Tw3 u → ih ⟨wkFr L E (acc ++ [ent x (pv (.app3 g q r t))]) u, st4 s0 s1 A N⟩ KS) :
    vcSs TT 37 (scOf 568) (wkB.drop 1) (CI TT 40 C 4 0) ⟨wkSt L E acc (.call x g q r t) s, st4 s0 s1 A N⟩ (kNext ih KS) := by
  conv => whnf
  refine bool_t (sfl1 ha rfl) ?_
  exact k _ (.inr ⟨_, _, _, s, rfl, hs⟩)
theorem wk_same {x : Str} {f : Fn} {s' : Sg} (hC : Ats 5 C) (hs : Tw s) (ha : acc.length ≤ 10) (hE : dget E x = some s'.pv) (hf : Fnk f) (hsp : spl s' f = false) (k : ∀ u, Tw3 u → ih ⟨wkFr L E (acc ++ [ent x f.pv]) u, st4 s0 s1 A N⟩ KS) :
    vcSs TT 37 (scOf 568) (wkB.drop 1) (CI TT 40 C 4 0) ⟨wkSt L E acc (.fn x f s') s, st4 s0 s1 A N⟩ (kNext ih KS) := by
  have k := fun x y z : Bind => k ((("name" : Str), x) :: (("expr" : Str), y) :: (("splits" : Str), z) :: s) (.inr ⟨x, y, z, s, rfl, hs⟩)
  cases s' with
  | dv =>
    conv => whnf
    refine opt_t hE ?_
    conv => whnf
    refine bool_t (sfl1 ha rfl) ?_
    exact k _ _ _
  | mk a b c fr =>
    have ha' : (a && hasO f.b) = false := by
      induction a using Bool.casesOn with
      | false => rfl
      | true => exact hsp
    conv => whnf
    refine opt_t hE ?_
    conv => whnf
    refine opt_t hE ?_
    refine splits_no (C := C 0) (hC.le 0 rfl) hf ha' ?_
    conv => whnf
    refine bool_t (sfl1 ha rfl) ?_
    exact k _ _ _
theorem nextF {C : Oracle} {N : Dct} {x : Str} (hC : At 2 C) (hA : AvOk A) (hx : x ∈ fgh) (hN : dget N x = none) (hl : N.length ≤ 50) (kk : K (.str (nm x 1)) (st4 s0 s1 A (dset N x (.int 1)))) : C (.fn 626) [FrV, .str x] (st4 s0 s1 A N) K := next_fn hC hA hx hN hl kk
noncomputable abbrev spN (N : Dct) (i : Nat) (x : Str) : Dct := dset (dset (dset N "p" (.int i)) "p" (.int (nx i))) x (.int 1)
theorem wk_split {x : Str} {f : Fn} {a b c : Bool} {fr : Option Str} {n0 e0 m0 B w : Nat} (hC : Ats 5 C) (hs : Tw s) (hA : AvOk A) (hx : x ∈ fgh) (ha : acc.length ≤ 10) (hE : dget E x = some (Sg.mk a b c fr).pv) (hf : Fnk f) (hsp : spl (.mk a b c fr) f = true) (hx0 : dget N x = none) (cn : Cnt N n0 e0 m0 B (6 + w))
    (k : ∀ u, Tw3 u → ih ⟨wkFr L E (acc ++ [ent x (wrV (nm "p" (nx (nx (nx n0)))) (nm "e" (nx e0)) (nm "n" (nx m0)) (nm "p" (nx6 (nx (nx n0)))) (nm "p" (nx (nx (nx (nx n0))))) (nm "p" (nx (nx (nx (nx (nx n0)))))) (nm x 1))] ++ [ent (nm x 1) (wkV f (nm "p" (nx n0)) (nm "p" (nx (nx n0))))]) u, st4 s0 s1 A (nxN (spN N (nx n0) x) (nx (nx n0)) e0 m0)⟩ KS) :
    vcSs TT 37 (scOf 568) (wkB.drop 1) (CI TT 40 C 4 0) ⟨wkSt L E acc (.fn x f (.mk a b c fr)) s, st4 s0 s1 A N⟩ (kNext ih KS) := by
  have bl : B ≤ 101 := Nat.le_of_add_le_add_right (Nat.le_trans (Nat.add_le_add_left (Nat.le_add_right 6 w) B) cn.hi)
  have ln : N.length ≤ 24 := Nat.le_of_add_le_add_right (b := 12) (Nat.le_trans (Nat.add_le_add_left (Nat.mul_le_mul_left 2 (Nat.le_add_right 6 w)) _) cn.len)
  have hp := ne_bases hx bp
  have he := ne_bases hx be
  have hn := ne_bases hx bn
  have ha1 := (spl_mk hsp).2
  have ha2 : a = true := by
    obtain ⟨⟨_, _, _, q⟩, _⟩ := spl_mk hsp
    injection q
  have g1 := nx_B cn.pB cn.lo
  have g2 := nx_B g1 (Nat.le_succ_of_le cn.lo)
  have up : ∀ {n m j : Nat}, n ≤ B + j → Nat.blt (101 + j) m = true → n < m := fun h q => Nat.lt_of_le_of_lt (Nat.le_trans h (Nat.add_le_add_right bl _)) (Nat.le_of_ble_eq_true q)
  have k := fun x y z w : Bind => k ((("name" : Str), x) :: (("expr" : Str), y) :: (("splits" : Str), z) :: [("worker_name", w)]) (.inr ⟨x, y, z, _, rfl, .inr ⟨w, rfl⟩⟩)
  have go : ∀ {s}, (s = [] ∨ ∃ w : Bind, s = ([("worker_name", w)] : List (Str × Bind))) → vcSs TT 37 (scOf 568) (wkB.drop 1) (CI TT 40 C 4 0) ⟨wkSt L E acc (.fn x f (.mk a b c fr)) s, st4 s0 s1 A N⟩ (kNext ih KS) := by
    intro s hs
    rcases hs with rfl | ⟨w, rfl⟩
    all_goals
      conv => whnf
      refine opt_t hE ?_
      conv => whnf
      refine opt_t hE ?_
      refine splits_yes (C := C 0) (hC.le 0 rfl) (n0 := n0) hA hf ha2 ha1 cn.p (up (j := 0) cn.pB rfl) (Nat.le_trans ln (Nat.le_of_ble_eq_true rfl)) ?_
      refine nextF (C := C 0) (x := x) (hC.le 0 rfl) hA hx (dget_ne hp.symm (dget_ne hp.symm hx0)) (Nat.le_trans (dset_le (dset_le ln)) (Nat.le_of_ble_eq_true rfl)) ?_
      refine wrapper_of_ (C := C 0) (hC.le 0 rfl) (i1 := nx n0) (i2 := nx (nx n0)) (n0 := nx (nx n0)) (e0 := e0) (m0 := m0) hA hf.nms (up g1 rfl) (up (j := 2) g2 rfl) rfl rfl (getD_ne hp getD_self) (getD_ne he (getD_ne pen.1 (getD_ne pen.1 cn.e))) (getD_ne hn (getD_ne pen.2.1 (getD_ne pen.2.1 cn.n))) (up (j := 2) g2 rfl) (up (j := 0) cn.eB rfl) (up (j := 0) cn.nB rfl) (Nat.le_trans (dset_le (dset_le (dset_le ln))) (Nat.le_of_ble_eq_true rfl)) ?_
      conv => whnf
      refine bool_t (sfl1 ha rfl) ?_
      refine worker_of_ (C := C 0) (hC.le 0 rfl) ?_
      conv => whnf
      refine bool_t (show sfits ((acc ++ [_]).length + 1) = true by rw [List.length_append]; exact sfl1 (Nat.add_le_add_right ha 1) rfl) ?_
      exact k _ _ _ _
  exact go hs
theorem split_nms {f : Fn} {n0 e0 m0 B : Nat} (hf : Fnk f) (p : n0 ≤ B) (e : e0 ≤ B) (n : m0 ≤ B) (lo : 89 ≤ B) (hi : B ≤ 101) :
    Nms f.p f.e f.n (nm "p" (nx (nx (nx n0)))) (nm "e" (nx e0)) (nm "n" (nx m0)) (nm "p" (nx6 (nx (nx n0)))) (nm "p" (nx (nx (nx (nx n0))))) (nm "p" (nx (nx (nx (nx (nx n0)))))) (nm "p" (nx n0)) (nm "p" (nx (nx n0))) ∧ (sOk (nm "p" (nx (nx (nx (nx n0))))) ∧ sOk (nm "p" (nx (nx (nx (nx (nx n0)))))) ∧ sOk (nm "e" (nx e0)) ∧ sOk (nm "n" (nx m0))) := by
  refine obEA hf.nms.e fun ie he he2 => ?_
  refine obEA hf.nms.n fun im hm hm2 => ?_
  obtain ⟨i, hi0⟩ : ∃ i, nx n0 = i := ⟨_, rfl⟩
  have i9 : 90 ≤ i := hi0 ▸ nx_90
  have i1 : i ≤ 102 := hi0 ▸ Nat.le_trans (nx_B p lo) (Nat.succ_le_succ hi)
  have up : ∀ j, Nat.ble j 6 = true → i + j < 120 := fun j hj => Nat.lt_of_le_of_lt (Nat.add_le_add i1 (Nat.le_of_ble_eq_true hj)) (Nat.le_of_ble_eq_true rfl)
  have ee : nx e0 < 120 := Nat.lt_of_le_of_lt (Nat.le_trans (nx_B e lo) (Nat.succ_le_succ hi)) (Nat.le_of_ble_eq_true rfl)
  have nn : nx m0 < 120 := Nat.lt_of_le_of_lt (Nat.le_trans (nx_B n lo) (Nat.succ_le_succ hi)) (Nat.le_of_ble_eq_true rfl)
  have g : ∀ j, 90 ≤ i + j := fun j => Nat.le_trans i9 (Nat.le_add_right i j)
  have e6 : nx6 (nx i) = i + 5 := by
    unfold nx6
    rw [nx_s i9, nx_s (g 1), nx_s (g 2), nx_s (g 3), nx_s (g 4)]
  have ne : ∀ j j', j ≠ j' → i + j ≠ i + j' := fun j j' h q => h (Nat.add_left_cancel q)
  rw [hi0, e6, nx_s i9, nx_s (g 1), nx_s (g 2), nx_s (g 3)]
  have P : ∀ j j', Nat.ble j 6 = true → Nat.ble j' 6 = true → j ≠ j' → nm "p" (i + j) ≠ nm "p" (i + j') := fun j j' a b c => ne_pp (up j a) (up j' b) (ne j j' c)
  have pE : ∀ j, Nat.ble j 6 = true → nm "p" (i + j) ≠ nm "e" (nx e0) := fun j a => ne_pe (up j a) ee
  have pN : ∀ j, Nat.ble j 6 = true → nm "p" (i + j) ≠ nm "n" (nx m0) := fun j a => ne_pn (up j a) nn
  have so : ∀ j, Nat.ble j 6 = true → sOk (nm "p" (i + j)) := fun j a => (nm_ok bp (up j a)).ok
  have ve : ∀ j, Nat.ble j 6 = true → nm "p" (i + j) ≠ f.e := fun j a => by rw [he]; exact ne_pe (up j a) he2
  have vn : ∀ j, Nat.ble j 6 = true → nm "p" (i + j) ≠ f.n := fun j a => by rw [hm]; exact ne_pn (up j a) hm2
  refine ⟨⟨hf.pe, hf.pn, hf.en, pE 2 rfl, pN 2 rfl, ne_en ee nn, P 3 4 rfl rfl (by decide), (pE 5 rfl).symm, (pE 3 rfl).symm, (pE 4 rfl).symm, (pN 5 rfl).symm, (pN 3 rfl).symm, (pN 4 rfl).symm, P 0 1 rfl rfl (by decide), ve 0 rfl, vn 0 rfl, ve 1 rfl, vn 1 rfl⟩, so 3 rfl, so 4 rfl, (nm_ok be ee).ok, (nm_ok bn nn).ok⟩
theorem wsum_fn {x : Str} {f : Fn} {s : Sg} {l : List Item} : wsum (.fn x f s :: l) = 6 + wsum l := rfl
theorem wsum_call {x g : Str} {q r t : Ex} {l : List Item} : wsum (.call x g q r t :: l) = wsum l := Nat.zero_add _
theorem cnt_split {N : Dct} {n0 e0 m0 B w : Nat} {x : Str} (hx : x ∈ fgh) (c : Cnt N n0 e0 m0 B (6 + w)) : Cnt (nxN (spN N (nx n0) x) (nx (nx n0)) e0 m0) (nx6 (nx (nx n0))) (nx e0) (nx m0) (B + 6) w := by
  have lo := c.lo
  have g1 := nx_B c.pB lo
  have g2 := nx_B g1 (Nat.le_succ_of_le lo)
  have l2 : 89 ≤ B + 2 := Nat.le_trans lo (Nat.le_add_right B 2)
  have g3 := nx_B g2 l2
  have g4 := nx_B g3 (Nat.le_succ_of_le l2)
  have l4 : 89 ≤ B + 4 := Nat.le_trans lo (Nat.le_add_right B 4)
  have g5 := nx_B g4 l4
  have g6 := nx_B g5 (Nat.le_succ_of_le l4)
  have lx := nxN_len (N := spN N (nx n0) x) (n0 := nx (nx n0)) (e0 := e0) (m0 := m0) (dset_le (dset_le (dset_le (Nat.le_refl N.length))))
  have hh := c.len
  have hi := c.hi
  exact ⟨nxN_p.1, nxN_p.2.1, nxN_p.2.2, g6, Nat.le_trans (nx_B c.eB lo) (Nat.add_le_add_left (Nat.le_of_ble_eq_true rfl) B), Nat.le_trans (nx_B c.nB lo) (Nat.add_le_add_left (Nat.le_of_ble_eq_true rfl) B), Nat.le_trans lo (Nat.le_add_right B 6), by omega, by omega⟩
theorem workersG {M : Nat} {C : Oracle} (hA : AvOk A) (hL : ∀ x ∈ L, x.ok E) (hn : (L.map Item.name).Nodup) (hw : wsum L ≤ 18) (hl : L.length ≤ 6) (hs : ∀ C cs K, At M C → K (.dct E) cs → C (.fn 513) [progV (L.map Item.enc)] cs K) (hC : At (M + 6) C) (kk : ∀ acc N, Outs L acc → acc.length ≤ 12 → K (.ins 383 [("binds", .lst acc), ("cons", .dct consD), ("main", .str "fs")]) (st4 s0 s1 A N)) :
    C (.fn 568) [progV (L.map Item.enc), .dct consD, FrV] (st4 s0 s1 A []) K := by
  refine hC.up fun C hC => ?_
  have h0 : At (M + 5) (C 0) := hC 0
  have h5 : Ats 5 C := fun j => (hC j).le (Nat.sub_le_sub_right (Nat.le_add_left 5 M) j)
  refine hs (C 0) _ _ h0.l ?_
  conv => whnf
  show vcTurns _ _ _ (List.map Item.enc L) _ _
  refine turns_list Item.enc (fun rem σ => ∃ acc N r, σ = ⟨wkFr L E acc r, st4 s0 s1 A N⟩ ∧ Tw3 r ∧ WkI L rem acc N) ?_ L _ ⟨[], [], [], rfl, .inl rfl, ⟨[], rfl, .nil, Nat.le_refl _⟩, ⟨0, 0, 0, 89, rfl, rfl, rfl, Nat.zero_le _, Nat.zero_le _, Nat.zero_le _, Nat.le_refl _, Nat.add_le_add_left hw 89, (Nat.zero_add _).symm ▸ Nat.mul_le_mul_left 2 hw⟩, fun u_ u_ => rfl⟩ ?_
  · rintro x l _ ih ⟨acc, N, r, rfl, hr, ⟨don, hdon, hout, hacc⟩, ⟨n0, e0, m0, B, cn⟩, hno⟩ hK
    have hx : x.ok E := hL x (by rw [← hdon]; simp)
    have hlen : don.length ≤ 5 := by rw [← hdon, List.length_append, List.length_cons] at hl; exact Nat.le_of_succ_le_succ (Nat.le_trans (Nat.succ_le_succ (Nat.le_add_right _ _)) hl)
    have ha := acc_le hacc hlen
    have hno' : ∀ y ∈ l, dget N y.name = none := fun y hy => hno y (List.mem_cons_of_mem _ hy)
    have rest : ∀ s, Tw s → vcSs TT 37 (scOf 568) (wkB.drop 1) (CI TT 40 C 4 0) ⟨wkSt L E acc x s, st4 s0 s1 A N⟩ (kNext ih (wkKs (CI TT 40 C 4 0) K)) := by
      intro s hs
      cases x with
      | call x g q r2 t => exact wk_call hs ha fun u hu => hK _ ⟨_, N, u, rfl, hu, snoc1 hdon hout hacc out_call, ⟨n0, e0, m0, B, wsum_call ▸ cn⟩, hno'⟩
      | fn x f s' =>
        (refine obAA hx fun hx1 hx2 hx3 => ?_; try clear hx)
        cases hsp : spl s' f with
        | false => exact wk_same h5 hs ha hx2 hx3 hsp fun u hu => hK _ ⟨_, N, u, rfl, hu, snoc1 hdon hout hacc (out_same hsp), ⟨n0, e0, m0, B, cn.less (wsum_fn ▸ Nat.le_add_left _ _)⟩, hno'⟩
        | true =>
          cases s' with
          | dv => exact noft hsp
          | mk a b c fr =>
            have hnm := split_nms hx3 cn.pB cn.eB cn.nB cn.lo (Nat.le_of_add_le_add_right (b := 6) (Nat.le_trans (Nat.add_le_add_left (wsum_fn ▸ Nat.le_add_right 6 _) B) cn.hi))
            refine wk_split h5 hs hA hx1 ha hx2 hx3 hsp (hno _ (List.mem_cons_self ..)) (wsum_fn ▸ cn) fun u hu => hK _ ⟨_, _, u, rfl, hu, snoc2 hdon hout hacc (out_split hsp hnm.1 hnm.2), ⟨_, _, _, _, cnt_split hx1 (wsum_fn ▸ cn)⟩, fun y hy => ?_⟩
            have yok := (hL y (by rw [← hdon]; simp [hy])).nm
            have y1 : x ≠ y.name := by
              intro e
              rw [← hdon, List.map_append, List.map_cons, List.nodup_append] at hn
              exact (List.nodup_cons.mp hn.2.1).1 (by rw [show (Item.fn x f (.mk a b c fr)).name = x from rfl, e]; exact List.mem_map_of_mem hy)
            exact (nxN_other (yok _ bp) (yok _ be) (yok _ bn)).trans (dget_ne y1 (dget_ne (yok _ bp).symm (dget_ne (yok _ bp).symm (hno' y hy))))
    rw [show x.enc = .tup [.str x.name, x.val] by cases x <;> rfl]
    rcases hr with rfl | ⟨u, v, w, s, rfl, hs⟩
    · have g := rest [] (.inl rfl)
      conv at g => whnf
      conv => whnf
      exact g
    · have g := rest s hs
      conv at g => whnf
      conv => whnf
      exact g
  · rintro _ ⟨acc, N, r, rfl, hr, ⟨don, hdon, hout, hacc⟩, _⟩
    rw [List.append_nil] at hdon
    subst hdon
    have kk := kk acc N hout (Nat.le_trans hacc (Nat.mul_le_mul_left 2 hl))
    exact kk
end
end
end
section
set_option smartUnfolding false
theorem strs_ok : ∀ {l : List Str}, okS l → PyData.canLayAll0 (l.map .str) = true
  | [], _ => rfl
  | x :: l, h => by
    show (PyData.strOk x && PyData.canLayAll0 (l.map .str)) = true
    rw [h x (.head _), strs_ok fun y hy => h y (.tail _ hy)]; rfl
theorem cmp_strs {x : Str} {l : List Str} {e : Option Bool} (ho : okS (x :: l)) (he : e = (match some (PyData.list ((x :: l).map .str)), some (PyData.list ((x :: l).map .str)) with | some a, some b => if SeqAt.shaped a && SeqAt.shaped b then some (PyData.eqv a b) else none | _, _ => none)) (hd : (PyData.list ((x :: l).map .str)).depth ≤ 64) : e = some true := by
  have h1 : (PyData.list ((x :: l).map .str)).canLay0 = true := strs_ok ho
  have h2 : SeqAt.shaped (PyData.list ((x :: l).map .str)) = true := by
    show ((PyData.list ((x :: l).map .str)).canLay0 && decide ((PyData.list ((x :: l).map .str)).depth ≤ 64)) = true
    rw [h1, decide_eq_true hd]; rfl
  rw [he]
  show (if SeqAt.shaped _ && SeqAt.shaped _ then some (PyData.eqv _ _) else none) = _
  rw [h2]
  exact congrArg some (SeqAt.eqv_refl _ h1)
theorem cmp_strs4 {a b c d : Str} (ha : sOk a) (hb : sOk b) (hc : sOk c) (hd : sOk d) : cmp .Eq (.lst [.str a, .str b, .str c, .str d]) (.lst [.str a, .str b, .str c, .str d]) = some true :=
  cmp_strs (okSc ha (okSc hb (okSc hc (okS1 hd)))) rfl (Nat.le_of_ble_eq_true rfl)
theorem cmp_strs3 {a b c : Str} (ha : sOk a) (hb : sOk b) (hc : sOk c) : cmp .NotEq (.lst [.str a, .str b, .str c]) (.lst [.str a, .str b, .str c]) = some false := by
  have : peq0 (.lst [.str a, .str b, .str c]) (.lst [.str a, .str b, .str c]) = some true := cmp_strs (okSc ha (okSc hb (okS1 hc))) rfl (Nat.le_of_ble_eq_true rfl)
  show Option.map (!·) (peq0 _ _) = _
  rw [this]; rfl
section
variable {C : Oracle} {K : PV → List PV → Prop} {cs : List PV}
theorem parted_ (hC : At 1 C) {T : Dct} {x w p' e' n' cN u1 u2 v1 v2 e n : Str} {b : Ex} (o1 : sOk u1) (o2 : sOk u2) (o3 : sOk e') (o4 : sOk n') (h1 : dget T x = some (wrV p' e' n' cN u1 u2 w)) (h2 : dget T w = some (plam [.str v1, .str v2, .str e, .str n] b)) (kk : K (.bool true) cs) : C (.fn 727) [.dct T, .str x] cs K := by
  refine hC.up fun C hC => ?_
  conv => whnf
  refine opt_t h1 ?_
  conv => whnf
  refine bool_f (show (!(p' == p')) = false by simp) ?_
  conv => whnf
  refine opt_t (show cmp .NotEq (keyCon "P") (.tup [.str "con", .str "P"]) = some false by decide +kernel) ?_
  conv => whnf
  refine opt_t h2 ?_
  conv => whnf
  refine opt_t (cmp_strs4 o1 o2 o3 o4) ?_
  exact kk
end
end
section
set_option smartUnfolding false
set_option smartUnfolding true
noncomputable def Item.has (T : Dct) : Item → Prop
  | .fn x f s => (spl s f = false ∧ dget T x = some f.pv) ∨ (spl s f = true ∧ ∃ p' e' n' cN u1 u2 v1 v2, Nms f.p f.e f.n p' e' n' cN u1 u2 v1 v2 ∧ (sOk u1 ∧ sOk u2 ∧ sOk e' ∧ sOk n') ∧ dget T x = some (wrV p' e' n' cN u1 u2 (nm x 1)) ∧ dget T (nm x 1) = some (wkV f v1 v2))
  | .call x g q r t => dget T x = some (pv (.app3 g q r t))
noncomputable def Item.keys : Item → List Str
  | .fn x _ _ => [x, nm x 1]
  | .call x _ _ _ _ => [x]
noncomputable def Item.inn (es : Dct) : Item → Prop
  | .fn x f s => (spl s f = false ∧ (x, f.pv) ∈ es) ∨ (spl s f = true ∧ ∃ p' e' n' cN u1 u2 v1 v2, Nms f.p f.e f.n p' e' n' cN u1 u2 v1 v2 ∧ (sOk u1 ∧ sOk u2 ∧ sOk e' ∧ sOk n') ∧ (x, wrV p' e' n' cN u1 u2 (nm x 1)) ∈ es ∧ (nm x 1, wkV f v1 v2) ∈ es)
  | .call x g q r t => (x, pv (.app3 g q r t)) ∈ es
theorem Item.inn.mono {es es' : Dct} {x : Item} (h : x.inn es) (hs : ∀ e ∈ es, e ∈ es') : x.inn es' := by
  cases x with
  | fn x f s =>
    rcases h with ⟨h1, h2⟩ | ⟨h1, p', e', n', cN, u1, u2, v1, v2, h2, h3, h4, h5⟩
    · exact .inl ⟨h1, hs _ h2⟩
    · exact .inr ⟨h1, p', e', n', cN, u1, u2, v1, v2, h2, h3, hs _ h4, hs _ h5⟩
  | call x g q r t => exact hs _ h
noncomputable abbrev entE (e : Str × PV) : PV := ent e.1 e.2
theorem out_es {x : Item} {o : List PV} (h : x.out o) : ∃ es : Dct, o = es.map entE ∧ (es.map (·.1)).Sublist x.keys ∧ x.inn es := by
  cases x with
  | fn x f s =>
    rcases h with ⟨h1, rfl⟩ | ⟨h1, p', e', n', cN, u1, u2, v1, v2, h2, h3, rfl⟩
    · refine ⟨[(x, f.pv)], rfl, ?_, .inl ⟨h1, List.mem_singleton_self _⟩⟩
      simp [Item.keys]
    · refine ⟨[(x, wrV p' e' n' cN u1 u2 (nm x 1)), (nm x 1, wkV f v1 v2)], rfl, .refl _, .inr ⟨h1, p', e', n', cN, u1, u2, v1, v2, h2, h3, by simp, by simp⟩⟩
  | call x g q r t =>
    have h : o = [ent x (pv (.app3 g q r t))] := h
    subst h
    exact ⟨[(x, pv (.app3 g q r t))], rfl, .refl _, List.mem_singleton_self _⟩
theorem outs_es {l : List Item} {acc : List PV} (h : Outs l acc) : ∃ es : Dct, acc = es.map entE ∧ (es.map (·.1)).Sublist (l.flatMap Item.keys) ∧ ∀ x ∈ l, x.inn es := by
  induction h with
  | nil => exact ⟨[], rfl, .refl _, fun u_ h => nomatch h⟩
  | @snoc l acc x o _ ho ih =>
    (refine obEAA ih ?_; try clear ih; rintro es rfl h1 h2)
    (refine obEAA (out_es ho) ?_; rintro es' rfl h3 h4)
    refine ⟨es ++ es', by simp, ?_, fun y hy => ?_⟩
    · rw [List.map_append, List.flatMap_append]
      refine h1.append ?_
      simpa using h3
    · rcases List.mem_append.mp hy with hy | hy
      · exact (h2 y hy).mono fun e he => List.mem_append_left _ he
      · rw [List.mem_singleton.mp hy]; exact h4.mono fun e he => List.mem_append_right _ he
theorem pairsOf_es : ∀ (es acc : Dct), pairsOf (es.map entE) acc = some (es.foldl (fun d e => dset d e.1 e.2) acc)
  | [], acc => rfl
  | e :: es, acc => pairsOf_es es (dset acc e.1 e.2)
theorem dget_fold : ∀ (es acc : Dct) (x : Str) (p : PV), (es.map (·.1)).Nodup → ((x, p) ∈ es ∨ (x ∉ es.map (·.1) ∧ dget acc x = some p)) → dget (es.foldl (fun d e => dset d e.1 e.2) acc) x = some p
  | [], acc, x, p, _, h => by
    rcases h with h | h
    · cases h
    · exact h.2
  | e :: es, acc, x, p, hn, h => by
    obtain ⟨n1, n2⟩ := List.nodup_cons.mp hn
    refine dget_fold es _ x p n2 ?_
    rcases h with h | ⟨h1, h2⟩
    · rcases List.mem_cons.mp h with h | h
      · subst h
        exact .inr ⟨n1, by rw [dget_dset, if_pos rfl]⟩
      · exact .inl h
    · refine .inr ⟨fun q => h1 (List.mem_cons_of_mem _ q), ?_⟩
      rw [dget_dset, if_neg fun q => h1 (by rw [← q]; exact List.mem_cons_self ..)]
      exact h2
theorem later_ {l : List Item} {acc : List PV} (h : Outs l acc) (hn : (l.flatMap Item.keys).Nodup) : ∃ T, pairsOf acc [] = some T ∧ ∀ x ∈ l, x.has T := by
  (refine obEAA (outs_es h) ?_; rintro es rfl h1 h2)
  have hd : (es.map (·.1)).Nodup := hn.sublist h1
  refine ⟨_, pairsOf_es es [], fun x hx => ?_⟩
  have h3 := h2 x hx
  cases x with
  | fn x f s =>
    rcases h3 with ⟨h4, h5⟩ | ⟨h4, p', e', n', cN, u1, u2, v1, v2, h5, h6, h7, h8⟩
    · exact .inl ⟨h4, dget_fold es [] _ _ hd (.inl h5)⟩
    · exact .inr ⟨h4, p', e', n', cN, u1, u2, v1, v2, h5, h6, dget_fold es [] _ _ hd (.inl h7), dget_fold es [] _ _ hd (.inl h8)⟩
  | call x g q r t => exact dget_fold es [] _ _ hd (.inl h3)
theorem items_nodup {f g h : Fn} {φ γ η : Sg} {q1 r1 t1 q2 r2 t2 q3 r3 t3 : Ex} : ((items f g h φ γ η q1 r1 t1 q2 r2 t2 q3 r3 t3).flatMap Item.keys).Nodup := by
  show (["f", nm "f" 1, "g", nm "g" 1, "h", nm "h" 1, "fs", "gs", "hs"] : List Str).Nodup
  decide +kernel
theorem items_names {f g h : Fn} {φ γ η : Sg} {q1 r1 t1 q2 r2 t2 q3 r3 t3 : Ex} : ((items f g h φ γ η q1 r1 t1 q2 r2 t2 q3 r3 t3).map Item.name).Nodup := by
  show (["f", "g", "h", "fs", "gs", "hs"] : List Str).Nodup
  decide +kernel
theorem FunS.nm {calls : List Str} {k k' : Nat} {m : Form} {f : Fn} (h : FunS calls k k' m f) (hk : k ≤ 80) : FnNm f := by
  have g : ∀ b, FnNm ⟨Mine.nm "p" (k + 1), Mine.nm "e" (k + 2), Mine.nm "n" (k + 3), b⟩ := fun b => ⟨⟨_, rfl, lt_ hk rfl⟩, ⟨_, rfl, lt_ hk rfl⟩, ⟨_, rfl, lt_ hk rfl⟩⟩
  cases h <;> exact g _
theorem CntS.nm {k k' : Nat} {f : Fn} (h : CntS k k' f) (hk : k ≤ 80) : FnNm f := by
  have g : ∀ b, FnNm ⟨Mine.nm "p" (k + 1), Mine.nm "e" (k + 2), Mine.nm "n" (k + 3), b⟩ := fun b => ⟨⟨_, rfl, lt_ hk rfl⟩, ⟨_, rfl, lt_ hk rfl⟩, ⟨_, rfl, lt_ hk rfl⟩⟩
  cases h <;> exact g _
theorem GoodF.fnk {Φ G : Str → Prop} {f : Fn} (g : GoodF Φ G f) (n : FnNm f) : Fnk f := ⟨n, g.g.okO, Nat.le_trans g.g.w.sz (ble_ rfl), g.pe, g.pn, g.en⟩
theorem Contract.mono {tops tops' : Dct} {f : Str} {F F' G G' : Nat → Nat} (h : Contract tops tops' f F F') (h1 : ∀ c, F c ≤ G c) (h2 : ∀ c, F' c ≤ G' c) : Contract tops tops' f G G' := fun c c' u_ u_ u_ u_ u_ u_ u_ u_ x y z => (h c c' _ _ _ _ _ _ _ _ x y z).mono (h1 c) (h2 c')
noncomputable abbrev F3D (f g h : Fn) : Dct := F3 f g h
noncomputable def wk2 (F : Nat → Nat) (c : Nat) : Nat := c + 1 + (mI2 F (c + 3) + 1 + 1) + 1 + 1
theorem mI_mono {F : Nat → Nat} (mF : ∀ a b, a ≤ b → F a ≤ F b) {a b : Nat} (h : a ≤ b) : mI F a ≤ mI F b := max_le2 (Nat.add_le_add_right (Nat.mul_le_mul_left 2 h) 5) (mF _ _ (Nat.add_le_add_right (Nat.mul_le_mul_left 3 h) 7))
theorem mI2_mono2 {F : Nat → Nat} (mF : ∀ a b, a ≤ b → F a ≤ F b) {a b : Nat} (h : a ≤ b) : mI2 F a ≤ mI2 F b := Nat.succ_le_succ (Nat.add_le_add (Nat.succ_le_succ h) (Nat.succ_le_succ (Nat.add_le_add (Nat.succ_le_succ h) (mI_mono mF h))))
theorem fun_contract {calls : List Str} {k k' : Nat} {m : Form} {f : Fn} {x : Str} {s : Sg} {tops T : Dct} {Φ : Str → Prop} {F F' : Nat → Nat} (h : FunS calls k k' m f) (hk : k ≤ 80) (mF : ∀ a b, a ≤ b → F a ≤ F b) (mF' : ∀ a b, a ≤ b → F' a ≤ F' b) (hc : ∀ f ∈ calls, Φ f ∧ Φ f ∧ sOk f) (hF : ∀ f, Φ f → Contract tops T f F F') (ht : dget tops x = some f.pv) (hT : (Item.fn x f (sgF s f)).has T) :
    Contract tops T x (fun c => mI2 F c + 1) (wk2 F') := by
  have g := (h.good (Φ := Φ) (G := Φ) hc (Nat.le_trans hk (ble_ rfl))).g
  have hb := Nat.le_trans g.w.bd (ble_ (n := 90) rfl)
  rcases hT with ⟨_, h1⟩ | ⟨hs, p', e', n', cN, u1, u2, v1, v2, hN, _, h1, h2⟩
  · exact (contract_same ht h1 hF g.wt hb).mono (fun c => Nat.succ_le_succ (h.cost mF)) fun c => Nat.succ_le_succ (Nat.le_trans (h.cost mF') (Nat.le_trans (mI2_mono2 mF' (Nat.le_add_right c 3)) (Nat.le_trans (Nat.le_add_right _ 2) (Nat.le_trans (Nat.le_add_left _ (c + 1)) (Nat.le_succ _)))))
  · exact (contract_split hN ht h1 h2 hF g.wt hb (h.strict hk hs)).mono (fun c => Nat.succ_le_succ (h.cost mF)) fun c => Nat.succ_le_succ (Nat.succ_le_succ (Nat.add_le_add_left (Nat.succ_le_succ (Nat.succ_le_succ (h.cost mF'))) _))
inductive ArgQ : Ex → Prop where
  | pair {i : Int} : ArgQ (.con2 "P" (.lit i) (.lit 7))
  | err : ArgQ .err
inductive ArgR : Ex → Prop where
  | mk {c : Str} : (c = "C" ∨ c = "D") → ArgR (.con1 c (.lit 5))
section
variable {tops T : Dct} {q r : Ex}
theorem ev_side {e : Ex} {r : PV} {tops : Dct} (v : EB tops e [] 1 r) : Side tops 1 (th e []) r := side_of v (Nat.le_refl _)
theorem lit_ti {i : Int} : TI tops T 1 1 (th (.lit i) []) (th (.lit i) []) := ⟨.int i, .int i, ev_side .lit, ev_side .lit, RIi⟩
theorem ArgQ.tr (h : ArgQ q) : TR tops T 1 1 .pair (th q []) (th q []) := by
  cases h with
  | pair => exact ⟨_, _, ev_side .con2, ev_side .con2, .inl ⟨_, _, _, _, rfl, rfl, lit_ti, lit_ti⟩⟩
  | err => exact ⟨_, _, ev_side .err, ev_side .err, .inr ⟨rfl, rfl⟩⟩
theorem ArgR.tr (h : ArgR r) : TR tops T 1 1 .two (th r []) (th r []) := by
  cases h with
  | mk hc =>
    refine ⟨_, _, ev_side .con1, ev_side .con1, _, _, lit_ti (i := 5), ?_⟩
    rcases hc with rfl | rfl
    · exact .inl ⟨rfl, rfl⟩
    · exact .inr ⟨rfl, rfl⟩
noncomputable def Both (tops T : Dct) (e : Ex) : Prop := Runs tops T e [] e [] 120 170 RI
noncomputable def FO (c : Nat) : Nat := mI2 (fun u_ => 0) c + 1
noncomputable def FT (c : Nat) : Nat := wk2 (fun u_ => 0) c
theorem wk2_mono {F : Nat → Nat} (mF : ∀ a b, a ≤ b → F a ≤ F b) {a b : Nat} (h : a ≤ b) : wk2 F a ≤ wk2 F b := Nat.succ_le_succ (Nat.succ_le_succ (Nat.add_le_add (Nat.succ_le_succ h) (Nat.succ_le_succ (Nat.succ_le_succ (mI2_mono2 mF (Nat.add_le_add_right h 3))))))
theorem zero_mono (a b : Nat) (_ : a ≤ b) : (fun _ : Nat => 0) a ≤ (fun _ : Nat => 0) b := Nat.le_refl _
theorem Both.of {f : Str} {F F' : Nat → Nat} {d : Ex} (c : Contract tops T f F F') (hq : ArgQ q) (hr : ArgR r) (hd : TI tops T 1 1 (th d []) (th d [])) (h : (Nat.ble (F 1) 120 && Nat.ble (F' 1) 170) = true) : Both tops T (.app3 f q r d) :=
  (c 1 1 q r d [] q r d [] hq.tr hr.tr hd).mono (ble_ (Bool.and_eq_true_iff.mp h).1) (ble_ (Bool.and_eq_true_iff.mp h).2)
theorem both_fg {k0 k1 k2 : Nat} {m1 m2 : Form} {f g : Fn} {s1 s2 : Sg} (hf : FunS [] k0 k1 m1 f) (hg : FunS ["f"] k1 k2 m2 g) (h0 : k0 ≤ 80) (h1 : k1 ≤ 80) (tf : dget tops "f" = some f.pv) (tg : dget tops "g" = some g.pv) (Tf : (Item.fn "f" f (sgF s1 f)).has T) (Tg : (Item.fn "g" g (sgF s2 g)).has T) :
    (∀ q r (j : Int), ArgQ q → ArgR r → Both tops T (.app3 "f" q r (.lit j))) ∧ (∀ q r (j : Int), ArgQ q → ArgR r → Both tops T (.app3 "g" q r (.lit j))) := by
  have cf : Contract tops T "f" FO FT := fun_contract (Φ := fun u_ => False) hf h0 zero_mono zero_mono (fun u_ h => nomatch h) (fun u_ h => h.elim) tf Tf
  have cg := fun_contract (Φ := (· = "f")) (F := FO) (F' := FT) hg h1 (fun a b h => Nat.succ_le_succ (mI2_mono2 zero_mono h)) (fun a b h => wk2_mono zero_mono h) (fun x hx => by rw [List.mem_singleton.mp hx]; exact ⟨rfl, rfl, by decide +kernel⟩) (fun x hx => by rw [hx]; exact cf) tg Tg
  exact ⟨fun q r j hq hr => .of cf hq hr lit_ti rfl, fun q r j hq hr => .of cg hq hr lit_ti rfl⟩
theorem both_h {k k' : Nat} {h : Fn} {η0 η1 : Sg} (hh : CntS k k' h) (hk : k ≤ 80) (sg : CntSg h η0 η1) (ht : dget tops "h" = some h.pv) (hT : (Item.fn "h" h η1).has T) : ∀ q r (j : Int), ArgQ q → ArgR r → 0 ≤ j → j < 3 → Both tops T (.app3 "h" q r (.lit j)) := by
  intro q r j hq hr h0 h3
  obtain ⟨n, rfl⟩ := Int.eq_ofNat_of_zero_le h0
  have HB := (hh.good (Nat.le_trans hk (ble_ rfl))).2
  have side : ∀ tops : Dct, Side tops 1 (th (.lit (n : Int)) []) (.int n) := fun tops => ev_side .lit
  have run : ∀ {K K' : Nat → Nat → Nat}, (∀ j, HC tops T j (K j) (K' j)) → ((Nat.ble (K 0 1) 120 && Nat.ble (K' 0 1) 170) && ((Nat.ble (K 1 1) 120 && Nat.ble (K' 1 1) 170) && (Nat.ble (K 2 1) 120 && Nat.ble (K' 2 1) 170))) = true → Both tops T (.app3 "h" q r (.lit n)) := fun {K K'} c b => by
    obtain ⟨b0, b⟩ := Bool.and_eq_true_iff.mp b
    obtain ⟨b1, b2⟩ := Bool.and_eq_true_iff.mp b
    have bn : (Nat.ble (K n 1) 120 && Nat.ble (K' n 1) 170) = true := match n, Int.ofNat_lt.mp h3 with
      | 0, _ => b0
      | 1, _ => b1
      | 2, _ => b2
      | n + 3, h => absurd h (Nat.not_lt.mpr (Nat.le_add_left ..))
    exact (c n 1 1 q r (.lit n) [] q r (.lit n) [] hq.tr hr.tr (side _) (side _)).mono (ble_ (Bool.and_eq_true_iff.mp bn).1) (ble_ (Bool.and_eq_true_iff.mp bn).2)
  rcases hT with ⟨_, h1⟩ | ⟨hs, p', e', n', cN, u1, u2, v1, v2, hN, _, h1, h2⟩
  · exact run (h_same HB ht h1) rfl
  · exact run (h_split hN HB (sg.split hs) ht h1 h2) rfl
end
end
section
set_option smartUnfolding false
noncomputable abbrev lawB : List Stmt := bodyOf 732
noncomputable abbrev lawSc : SC := scOf 732
noncomputable def stAt : List Stmt → Nat → Option Stmt := fun l i => l[i]?
noncomputable def lawS (C : Oracle) (n i : Nat) (σ : St) (K : KtS) : Prop := onSome (fun s => vcSF TT n (vcSs TT n) lawSc s C σ K) lawB[i]?
theorem law_st {C : Oracle} {n i : Nat} {σ : St} {K : KtS} (h : lawS C n i σ (kNext (vcSs TT n lawSc (lawB.drop (i + 1)) C) K)) : vcSs TT (n + 1) lawSc (lawB.drop i) C σ K := by
  refine obEA (onSome_inv h) fun s e h => ?_
  have : lawB.drop i = s :: lawB.drop (i + 1) := by
    obtain ⟨hi, e⟩ := List.getElem?_eq_some_iff.mp e
    rw [← e]
    exact List.drop_eq_getElem_cons hi
  rw [this]
  exact h
section
variable {C : Nat → Oracle} {K : KtS} {a b : Int} {S : PV}
noncomputable abbrev f0 (S : PV) : List (Str × Bind) := [pn "script" S, pn "box" (.cel 1), pn "source" (.cel 0)]
theorem st0_ (hC : Ats 10 C) {ns : List Int} (hl : ns.length ≤ 63) (hb : ∀ n ∈ ns, n.natAbs.log2 < 1999990) (kk : ∀ a b : Int, Bok b → K .next ⟨f0 (.lst (ns.map .int)), gs a b 0⟩) : lawS (CI TT 40 C 4 0) 39 0 ⟨[pn "script" (.lst (ns.map .int))], []⟩ K := by
  refine pool_ (C := C 0) (hC.le 0 rfl) hl hb fun a b g => ?_
  exact kk a b g
theorem st1_ (hC : Ats 10 C) (h : Bok b) (kk : ∀ (a b : Int) (k1 : Nat) (m1 : Form) (f : Fn), Bok b → FunS [] 0 k1 m1 f → K .next ⟨f0 S ++ [pn "first" f.pv, pn "one" (.str m1.s)], gs a b k1⟩) : lawS (CI TT 40 C 4 0) 38 1 ⟨f0 S, gs a b 0⟩ K := by
  refine function_ (C := C 0) (hC.le 0 rfl) (calls := []) (.inl rfl) (Nat.zero_le _) h fun a b k1 m1 f g hf => ?_
  exact kk a b k1 m1 f g hf
noncomputable abbrev f2 (S : PV) (f g : Fn) (m1 m2 : Form) : List (Str × Bind) := f0 S ++ [pn "first" f.pv, pn "one" (.str m1.s), pn "second" g.pv, pn "two" (.str m2.s)]
theorem st2_ (hC : Ats 10 C) {k1 : Nat} {f : Fn} {m1 : Form} (hk : k1 ≤ 80) (h : Bok b) (kk : ∀ (a b : Int) (k2 : Nat) (m2 : Form) (g : Fn), Bok b → FunS ["f"] k1 k2 m2 g → K .next ⟨f2 S f g m1 m2, gs a b k2⟩) : lawS (CI TT 40 C 4 0) 37 2 ⟨f0 S ++ [pn "first" f.pv, pn "one" (.str m1.s)], gs a b k1⟩ K := by
  refine function_ (C := C 0) (hC.le 0 rfl) (calls := ["f"]) (.inr rfl) hk h fun a b k2 m2 g h hg => ?_
  exact kk a b k2 m2 g h hg
noncomputable abbrev F3L (f g h : Fn) : List PV := [ent "f" f.pv, ent "g" g.pv, ent "h" h.pv]
theorem st3_ (hC : Ats 10 C) {k2 : Nat} {f g : Fn} {m1 m2 : Form} (hk : k2 ≤ 80) (h : Bok b) (kk : ∀ (a b : Int) (k3 : Nat) (h : Fn), Bok b → CntS k2 k3 h → K .next ⟨f2 S f g m1 m2 ++ [on "binds" (.lst (F3L f g h))], gs a b k3⟩) : lawS (CI TT 40 C 4 0) 36 3 ⟨f2 S f g m1 m2, gs a b k2⟩ K := by
  refine counted_ (C := C 0) (hC.le 0 rfl) hk h fun a b k3 h0 h hh => ?_
  exact kk a b k3 h0 h hh
noncomputable abbrev consP : Dct := [("P", conInfo "P" 0 2 [.bool false, .bool false] "T" 1)]
theorem st4_ {f g h : Fn} {m1 m2 : Form} {cs : List PV} (kk : K .next ⟨f2 S f g m1 m2 ++ [on "binds" (.lst (F3L f g h)), on "cons" (.dct consP)], cs⟩) : lawS (CI TT 40 C 4 0) 35 4 ⟨f2 S f g m1 m2 ++ [on "binds" (.lst (F3L f g h))], cs⟩ K := kk
theorem st5_ {f g h : Fn} {m1 m2 : Form} {cs : List PV} (kk : K .next ⟨f2 S f g m1 m2 ++ [on "binds" (.lst (F3L f g h)), on "cons" (.dct consD)], cs⟩) : lawS (CI TT 40 C 4 0) 34 5 ⟨f2 S f g m1 m2 ++ [on "binds" (.lst (F3L f g h)), on "cons" (.dct consP)], cs⟩ K := kk
noncomputable abbrev f6 (S : PV) (f g h : Fn) (m1 m2 : Form) (calls : List PV) (r : List (Str × Bind)) : List (Str × Bind) := f2 S f g m1 m2 ++ (on "binds" (.lst (F3L f g h)) :: on "cons" (.dct consD) :: on "calls" (.lst calls) :: r)
theorem st6_ {f g h : Fn} {m1 m2 : Form} {cs : List PV} (kk : K .next ⟨f6 S f g h m1 m2 [] [], cs⟩) : lawS (CI TT 40 C 4 0) 33 6 ⟨f2 S f g m1 m2 ++ [on "binds" (.lst (F3L f g h)), on "cons" (.dct consD)], cs⟩ K := kk
end
end
section
set_option smartUnfolding false
noncomputable def forTB : Option Stmt → Expr × Expr × List Stmt × Pos
  | some (.For t e b _ p) => (t, e, b, p)
  | _ => (.Constant .none 0 ⟨0, 0, 0, 0⟩, .Constant .none 0 ⟨0, 0, 0, 0⟩, [], ⟨0, 0, 0, 0⟩)
noncomputable def forT (i : Nat) : Expr := (forTB lawB[i]?).1
noncomputable def forE (i : Nat) : Expr := (forTB lawB[i]?).2.1
noncomputable def forB (i : Nat) : List Stmt := (forTB lawB[i]?).2.2.1
theorem law_for {C : Oracle} {n i : Nat} {σ : St} {K : KtS} (e : lawB[i]? = some (.For (forT i) (forE i) (forB i) [] (forTB lawB[i]?).2.2.2)) (h : vcIter (forT i) (forE i) (vcE TT n lawSc C) σ (kFor lawSc (forT i) (vcSs TT n lawSc (forB i)) C K)) : lawS C n i σ K := by
  unfold lawS
  rw [e]
  exact h
noncomputable def lawT (C : Oracle) (n i : Nat) (p : PV) (σ : St) (ih : St → KtS → Prop) (K : KtS) : Prop := vcTarget lawSc (forT i) p σ (kTurn (vcSs TT n lawSc (forB i)) C ih K)
section
variable {C : Nat → Oracle} {k : Nat} {K : KtS} {a b : Int} {S : PV} {f g f3 : Fn} {m1 m2 : Form} {calls : List PV} {x : Str} {ih : St → KtS → Prop}
theorem int3 {j : Int} (h : 0 ≤ j ∧ j < 3) : 0 ≤ j ∧ j < 3 := h
theorem t7_ (hC : Ats 10 C) {r : List (Str × Bind)} (hr : r = [] ∨ ∃ y u v, r = [pn "name" y, pn "pair" u, pn "two_way" v]) (hx : x.length ≤ 10) (hcl : calls.length ≤ 10) (h : Bok b) (kk : ∀ (a b : Int) (q t : Ex) (j : Int) (y u v : PV), Bok b → ArgQ q → ArgR t → (0 ≤ j ∧ j < 3) → ih ⟨f6 S f g f3 m1 m2 (calls ++ [ent (x ++ "s") (pv (.app3 x q t (.lit j)))]) [pn "name" y, pn "pair" u, pn "two_way" v], gs a b k⟩ K) :
    lawT (CI TT 40 C 4 0) 32 7 (.str x) ⟨f6 S f g f3 m1 m2 calls r, gs a b k⟩ ih K := by
  rcases hr with rfl | ⟨y, u, v, rfl⟩
  all_goals
    refine take_ (C := C 0) (hC.le 0 rfl) (by decide +kernel) (by decide +kernel) h fun a b i1 h u_ => ?_
    refine take_ (C := C 0) (hC.le 0 rfl) (by decide +kernel) (by decide +kernel) h fun a b i h u_ => ?_
    by_cases hi : i = 0
    · subst hi
      refine one_ (C := C 0) (hC.le 0 rfl) (l := [.str "C", .str "D"]) (Nat.le_of_ble_eq_true rfl) (Nat.le_of_ble_eq_true rfl) h fun a b z h hz => ?_
      (refine obEA (CorD hz) ?_; rintro c rfl hc)
      conv => whnf
      refine bool_t (sfl1 hx rfl) ?_
      refine take_ (C := C 0) (hC.le 0 rfl) (by decide +kernel) (by decide +kernel) h fun a b j h hj => ?_
      conv => whnf
      refine bool_t (sfl1 hcl rfl) ?_
      exact kk a b .err (.con1 c (.lit 5)) j _ _ _ h .err (.mk hc) hj
    · conv => whnf
      refine bool_f (beq_false_of_ne hi) ?_
      refine one_ (C := C 0) (hC.le 0 rfl) (l := [.str "C", .str "D"]) (Nat.le_of_ble_eq_true rfl) (Nat.le_of_ble_eq_true rfl) h fun a b z h hz => ?_
      (refine obEA (CorD hz) ?_; rintro c rfl hc)
      conv => whnf
      refine bool_t (sfl1 hx rfl) ?_
      refine take_ (C := C 0) (hC.le 0 rfl) (by decide +kernel) (by decide +kernel) h fun a b j h hj => ?_
      conv => whnf
      refine bool_t (sfl1 hcl rfl) ?_
      exact kk a b (.con2 "P" (.lit i1) (.lit 7)) (.con1 c (.lit 5)) j _ _ _ h .pair (.mk hc) hj
end
end
section
set_option smartUnfolding false
section
variable {C : Nat → Oracle} {k : Nat} {K : KtS} {a b : Int} {S : PV} {f g f3 : Fn} {m1 m2 : Form} {calls : List PV} {x : Str}
theorem turns_cons {tgt : PV → St → (St → Prop) → Prop} {body : Oracle → St → KtS → Prop} {C : Oracle} {p : PV} {r : List PV} {σ : St} (h : tgt p σ (kTurn body C (vcTurns tgt body C r) K)) : vcTurns tgt body C (p :: r) σ K := h
theorem turns_nil {tgt : PV → St → (St → Prop) → Prop} {body : Oracle → St → KtS → Prop} {C : Oracle} {σ : St} (h : K .next σ) : vcTurns tgt body C [] σ K := h
noncomputable abbrev callV (x y : Str) (q t : Ex) (j : Int) : PV := ent x (pv (.app3 y q t (.lit j)))
theorem fs_eq : (("f" : Str) ++ "s" = "fs") ∧ (("g" : Str) ++ "s" = "gs") ∧ (("h" : Str) ++ "s" = "hs") ∧ ("f" : Str).length ≤ 10 ∧ ("g" : Str).length ≤ 10 ∧ ("h" : Str).length ≤ 10 := by decide +kernel
theorem it7 {C : Oracle} {σ : St} {KF : List PV → St → Prop} (h : KF [.str "f", .str "g", .str "h"] σ) : vcIter (forT 7) (forE 7) (vcE TT 32 lawSc C) σ KF := h
theorem st7_ (hC : Ats 10 C) (h : Bok b) (kk : ∀ (a b : Int) (q1 t1 q2 t2 q3 t3 : Ex) (j1 j2 j3 : Int) (y u v : PV), ArgQ q1 → ArgR t1 → ArgQ q2 → ArgR t2 → ArgQ q3 → ArgR t3 → (0 ≤ j3 ∧ j3 < 3) →
      K .next ⟨f6 S f g f3 m1 m2 [callV "fs" "f" q1 t1 j1, callV "gs" "g" q2 t2 j2, callV "hs" "h" q3 t3 j3] [pn "name" y, pn "pair" u, pn "two_way" v], gs a b k⟩) : lawS (CI TT 40 C 4 0) 32 7 ⟨f6 S f g f3 m1 m2 [] [], gs a b k⟩ K := by
  refine law_for rfl (it7 ?_)
  (refine obAAAAA fs_eq fun e1 e2 e3 l1 l2 l3 => ?_; try clear fs_eq)
  refine turns_cons (t7_ hC (.inl rfl) l1 (Nat.zero_le _) h fun a b q1 t1 j1 y u v h hq1 ht1 u_ => ?_)
  refine turns_cons (t7_ hC (.inr ⟨_, _, _, rfl⟩) l2 (Nat.le_of_ble_eq_true rfl) h fun a b q2 t2 j2 y u v h hq2 ht2 u_ => ?_)
  refine turns_cons (t7_ hC (.inr ⟨_, _, _, rfl⟩) l3 (Nat.le_of_ble_eq_true rfl) h fun a b q3 t3 j3 y u v h hq3 ht3 hj => ?_)
  refine turns_nil ?_
  rw [e1, e2, e3]
  exact kk a b q1 t1 q2 t2 q3 t3 j1 j2 j3 y u v hq1 ht1 hq2 ht2 hq3 ht3 hj
noncomputable abbrev f8 (S : PV) (f g h : Fn) (m1 m2 : Form) (calls : List PV) (bs : List PV) (y u v : PV) (r : List (Str × Bind)) : List (Str × Bind) := f2 S f g m1 m2 ++ (pn "binds" (.lst (F3L f g h)) :: pn "cons" (.dct consD) :: pn "calls" (.lst calls) :: pn "name" y :: pn "pair" u :: pn "two_way" v :: pn "program" (progV bs) :: r)
theorem st8_ {q1 r1 s1 q2 r2 s2 q3 r3 s3 : Ex} {cs : List PV} {y u v : PV} (kk : K .next ⟨f8 S f g f3 m1 m2 [ent "fs" (pv (.app3 "f" q1 r1 s1)), ent "gs" (pv (.app3 "g" q2 r2 s2)), ent "hs" (pv (.app3 "h" q3 r3 s3))] (bindsL f g f3 q1 r1 s1 q2 r2 s2 q3 r3 s3) y u v [], cs⟩) :
    lawS (CI TT 40 C 4 0) 31 8 ⟨f6 S f g f3 m1 m2 [ent "fs" (pv (.app3 "f" q1 r1 s1)), ent "gs" (pv (.app3 "g" q2 r2 s2)), ent "hs" (pv (.app3 "h" q3 r3 s3))] [pn "name" y, pn "pair" u, pn "two_way" v], cs⟩ K := kk
theorem st9_eq {bs cs : List PV} {y u v : PV} : lawS (CI TT 40 C 4 0) 30 9 ⟨f8 S f g f3 m1 m2 calls bs y u v [], cs⟩ K = C 0 (.fn 629) [sl AV] cs (fun r cs => K .next ⟨f8 S f g f3 m1 m2 calls bs y u v [pn "fresh" r], cs⟩) := by kernel_rfl
end
end
section
set_option smartUnfolding false
theorem av_fn2 : (((["f", "g", "h"] : List Str)).all fun b => !AV.contains (nm b 1)) = true := by decide +kernel
set_option smartUnfolding true in
theorem av_ok : AvOk (un [] AV) := by
  have h : ∀ x, (un [] AV).contains x = true ↔ x ∈ AV := fun x => by rw [List.contains_iff_mem, mem_un]; simp
  refine ⟨fun hb hk => (h _).mpr (av_in hb hk), fun hb h9 hk => fun q => av_out hb h9 hk ((h _).mp q), fun {b} hb => fun q => ?_⟩
  have h1 := List.all_eq_true.mp av_fn2 b hb
  rw [Bool.not_eq_true'] at h1
  have h2 := (h _).mp q
  rw [← List.contains_iff_mem, h1] at h2
  exact noft h2
theorem av_len : AV.length ≤ 600 := by decide +kernel
section
variable {C : Nat → Oracle} {k : Nat} {K : KtS} {a b : Int} {S : PV} {f g f3 : Fn} {m1 m2 : Form} {calls : List PV} {x : Str}
theorem st9_ (hC : Ats 10 C) {bs : List PV} {s0 s1 y u v : PV} (kk : ∀ A, AvOk A → K .next ⟨f8 S f g f3 m1 m2 calls bs y u v [pn "fresh" FrV], st4 s0 s1 A []⟩) : lawS (CI TT 40 C 4 0) 30 9 ⟨f8 S f g f3 m1 m2 calls bs y u v [], [s0, s1]⟩ K := by
  rw [st9_eq]
  exact fresh_ (hC.le 0 rfl) av_len (kk _ av_ok)
set_option smartUnfolding true in
theorem items_enc {φ γ η : Sg} {q1 r1 t1 q2 r2 t2 q3 r3 t3 : Ex} : (items f g f3 φ γ η q1 r1 t1 q2 r2 t2 q3 r3 t3).map Item.enc = bindsL f g f3 q1 r1 t1 q2 r2 t2 q3 r3 t3 := rfl
set_option smartUnfolding true in
theorem items_w {φ γ η : Sg} {q1 r1 t1 q2 r2 t2 q3 r3 t3 : Ex} : wsum (items f g f3 φ γ η q1 r1 t1 q2 r2 t2 q3 r3 t3) ≤ 18 := Nat.le_refl _
set_option smartUnfolding true in
theorem items_ok {φ γ η : Sg} {q1 r1 t1 q2 r2 t2 q3 r3 t3 : Ex} (kf : Fnk f) (kg : Fnk g) (kh : Fnk f3) : ∀ x ∈ items f g f3 φ γ η q1 r1 t1 q2 r2 t2 q3 r3 t3, x.ok (E3 φ γ η) := by
  have nf : ("f" : Str) ∈ (["f", "g", "h"] : List Str) ∧ ("g" : Str) ∈ (["f", "g", "h"] : List Str) ∧ ("h" : Str) ∈ (["f", "g", "h"] : List Str) ∧ ("fs" : Str) ∈ (["fs", "gs", "hs"] : List Str) ∧ ("gs" : Str) ∈ (["fs", "gs", "hs"] : List Str) ∧ ("hs" : Str) ∈ (["fs", "gs", "hs"] : List Str) := by decide +kernel
  have nd : ("f" : Str) ≠ "g" ∧ ("f" : Str) ≠ "h" ∧ ("g" : Str) ≠ "h" := by decide +kernel
  have d1 : dget (E3 φ γ η) "f" = some φ.pv := by simp [dget]
  have d2 : dget (E3 φ γ η) "g" = some γ.pv := by simp [dget, nd.1]
  have d3 : dget (E3 φ γ η) "h" = some η.pv := by simp [dget, nd.2.1, nd.2.2]
  intro x hx
  simp only [List.mem_cons, List.not_mem_nil, or_false] at hx
  rcases hx with rfl | rfl | rfl | rfl | rfl | rfl
  · exact ⟨nf.1, d1, kf⟩
  · exact ⟨nf.2.1, d2, kg⟩
  · exact ⟨nf.2.2.1, d3, kh⟩
  · exact nf.2.2.2.1
  · exact nf.2.2.2.2.1
  · exact nf.2.2.2.2.2
theorem workersS {C : Oracle} {q1 r1 t1 q2 r2 t2 q3 r3 t3 : Ex} {K : PV → List PV → Prop} {s0 s1 : PV} {A : List Str} {D : Nat} {φ γ0 γ1 η0 η1 : Sg} (hA : AvOk A) (kf : Fnk f) (kg : Fnk g) (kh : Fnk f3) (hf : ∀ a b c, SigOf D f (E3 a b c) φ) (hg0 : ∀ b c, SigOf D g (E3 .dv b c) γ0) (hg1 : ∀ b c, SigOf D g (E3 φ b c) γ1) (hh0 : ∀ a b, SigOf D f3 (E3 a b .dv) η0) (hh1 : ∀ a b, SigOf D f3 (E3 a b η0) η1) (hh2 : ∀ a b, SigOf D f3 (E3 a b η1) η1)
    (eg : φ = .dv → γ0 = γ1) (eh : η0 = .dv → η0 = η1) (hC : At (D + 3 + 6) C) (kk : ∀ acc N, Outs (items f g f3 φ γ1 η1 q1 r1 t1 q2 r2 t2 q3 r3 t3) acc → acc.length ≤ 12 → K (.ins 383 [("binds", .lst acc), ("cons", .dct consD), ("main", .str "fs")]) (st4 s0 s1 A N)) :
    C (.fn 568) [progV (bindsL f g f3 q1 r1 t1 q2 r2 t2 q3 r3 t3), .dct consD, FrV] (st4 s0 s1 A []) K := by
  rw [← items_enc (φ := φ) (γ := γ1) (η := η1)]
  refine workersG (M := D + 3) hA (items_ok kf kg kh) items_names items_w (Nat.le_refl _) (fun C cs K hC k => ?_) hC kk
  rw [items_enc]
  exact signatures_ hf hg0 hg1 hh0 hh1 hh2 eg eh hC k
theorem st10_ {q1 r1 t1 q2 r2 t2 q3 r3 t3 : Ex} {s0 s1 y u v : PV} {A : List Str} {D : Nat} {φ γ0 γ1 η0 η1 : Sg} (hA : AvOk A) (kf : Fnk f) (kg : Fnk g) (kh : Fnk f3) (hf : ∀ a b c, SigOf D f (E3 a b c) φ) (hg0 : ∀ b c, SigOf D g (E3 .dv b c) γ0) (hg1 : ∀ b c, SigOf D g (E3 φ b c) γ1) (hh0 : ∀ a b, SigOf D f3 (E3 a b .dv) η0) (hh1 : ∀ a b, SigOf D f3 (E3 a b η0) η1) (hh2 : ∀ a b, SigOf D f3 (E3 a b η1) η1)
    (eg : φ = .dv → γ0 = γ1) (eh : η0 = .dv → η0 = η1) (hC : At (D + 3 + 6) (C 0)) (kk : ∀ T N, (∀ x ∈ items f g f3 φ γ1 η1 q1 r1 t1 q2 r2 t2 q3 r3 t3, x.has T) → K .next ⟨f8 S f g f3 m1 m2 calls (bindsL f g f3 q1 r1 t1 q2 r2 t2 q3 r3 t3) y u v [pn "fresh" FrV, pn "later" (.dct T)], st4 s0 s1 A N⟩) :
    lawS (CI TT 40 C 4 0) 29 10 ⟨f8 S f g f3 m1 m2 calls (bindsL f g f3 q1 r1 t1 q2 r2 t2 q3 r3 t3) y u v [pn "fresh" FrV], st4 s0 s1 A []⟩ K := by
  refine workersS (C := C 0) hA kf kg kh hf hg0 hg1 hh0 hh1 hh2 eg eh hC fun acc N ho hl => ?_
  refine obEA (later_ ho items_nodup) fun T hT hh => ?_
  conv => whnf
  refine bool_t (sfl hl rfl) ?_
  conv => whnf
  refine opt_t hT ?_
  exact kk T N hh
end
end
section
set_option smartUnfolding false
section
variable {C : Nat → Oracle} {K : KtS} {a b : Int} {S : PV} {f g f3 : Fn} {m1 m2 : Form} {calls : List PV} {x : Str} {ih : St → KtS → Prop}
noncomputable abbrev f10 (S : PV) (f g f3 : Fn) (m1 m2 : Form) (calls bs : List PV) (y u v : PV) (L : Str × Bind) (r : List (Str × Bind)) : List (Str × Bind) := f8 S f g f3 m1 m2 calls bs y u v (pn "fresh" FrV :: L :: r)
theorem has_some {T : Dct} {x : Item} (h : x.has T) : ∃ p, dget T x.name = some p := by
  cases x with
  | fn x f s =>
    rcases h with ⟨_, h⟩ | ⟨_, _, _, _, _, _, _, _, _, _, _, h, _⟩
    · exact ⟨_, h⟩
    · exact ⟨_, h⟩
  | call x g q r t => exact ⟨_, h⟩
theorem in_t {T : Dct} {x : Str} (h : ∃ p, dget T x = some p) : (!(dget T x).isSome) = false := by
  obtain ⟨p, h⟩ := h
  rw [h]; rfl
theorem st11_ {q1 r1 t1 q2 r2 t2 q3 r3 t3 : Ex} {cs : List PV} {y u v : PV} {T : Dct} {φ γ1 η1 : Sg} (hh : ∀ x ∈ items f g f3 φ γ1 η1 q1 r1 t1 q2 r2 t2 q3 r3 t3, x.has T) (kk : K .next ⟨f10 S f g f3 m1 m2 calls (bindsL f g f3 q1 r1 t1 q2 r2 t2 q3 r3 t3) y u v (pn "later" (.dct T)) [], cs⟩) :
    lawS (CI TT 40 C 4 0) 28 11 ⟨f10 S f g f3 m1 m2 calls (bindsL f g f3 q1 r1 t1 q2 r2 t2 q3 r3 t3) y u v (pn "later" (.dct T)) [], cs⟩ K := by
  have h1 := in_t (has_some (hh (.fn "f" f φ) (.head _)))
  have h2 := in_t (has_some (hh (.fn "g" g γ1) (.tail _ (.head _))))
  have h3 := in_t (has_some (hh (.fn "h" f3 η1) (.tail _ (.tail _ (.head _)))))
  have h4 := in_t (has_some (hh (.call "fs" "f" q1 r1 t1) (.tail _ (.tail _ (.tail _ (.head _))))))
  have h5 := in_t (has_some (hh (.call "gs" "g" q2 r2 t2) (.tail _ (.tail _ (.tail _ (.tail _ (.head _)))))))
  have h6 := in_t (has_some (hh (.call "hs" "h" q3 r3 t3) (.tail _ (.tail _ (.tail _ (.tail _ (.tail _ (.head _))))))))
  conv => whnf
  refine bool_f h1 ?_
  conv => whnf
  refine bool_f h2 ?_
  conv => whnf
  refine bool_f h3 ?_
  conv => whnf
  refine bool_f h4 ?_
  conv => whnf
  refine bool_f h5 ?_
  conv => whnf
  refine bool_f h6 ?_
  exact kk
theorem t12_ (hC : Ats 10 C) {bs cs : List PV} {y u v : PV} {T : Dct} {m : Form} {h : Fn} {s : Sg} {k k' : Nat} {cl : List Str} {r : List (Str × Bind)} (hF : FunS cl k k' m h) (hk : k ≤ 80) (hT : (Item.fn x h (sgF s h)).has T) (hr : r = [] ∨ ∃ a b, r = [pn "form" a, pn "expr" b])
    (kk : ih ⟨f10 S f g f3 m1 m2 calls bs (.str x) u v (pn "later" (.dct T)) [pn "form" (.str m.s), pn "expr" h.pv], cs⟩ K) :
    lawT (CI TT 40 C 4 0) 27 12 (.tup [.str x, .str m.s, h.pv]) ⟨f10 S f g f3 m1 m2 calls bs y u v (pn "later" (.dct T)) r, cs⟩ ih K := by
  obtain ⟨⟨ip, ep, hp⟩, ⟨ie, ee, he⟩, ⟨im, em, hm⟩⟩ := hF.nm hk
  have okp : sOk h.p := by rw [ep]; exact (nm_ok bp hp).ok
  have oke : sOk h.e := by rw [ee]; exact (nm_ok be he).ok
  have okn : sOk h.n := by rw [em]; exact (nm_ok bn hm).ok
  cases m with
  | head =>
    obtain ⟨e1, e2⟩ := hF.head_sg (s := s) hk
    have e3 : spl (sgF s h) h = true := by rw [e1]; exact e2
    rcases hT with ⟨h1, _⟩ | ⟨_, p', e', n', cN, u1, u2, v1, v2, hN, ⟨o1, o2, o3, o4⟩, h1, h2⟩
    · rw [e3] at h1; exact notf h1
    · have pt : ∀ (K' : PV → List PV → Prop), K' (.bool true) cs → C 0 (.fn 727) [.dct T, .str x] cs K' := fun K' k => parted_ (hC.le 0 rfl) o1 o2 o3 o4 h1 h2 k
      rcases hr with rfl | ⟨a, b, rfl⟩
      · refine pt _ ?_
        exact kk
      · refine pt _ ?_
        exact kk
  | way =>
    rcases hr with rfl | ⟨a, b, rfl⟩
    · exact kk
    · exact kk
  | not =>
    have e2 := hF.not_o
    rcases hT with ⟨_, h1⟩ | ⟨h1, _⟩
    · have cs := cmp_strs3 okp oke okn
      rcases hr with rfl | ⟨a, b, rfl⟩
      · conv => whnf
        refine opt_t h1 ?_
        conv => whnf
        refine opt_t cs ?_
        exact kk
      · conv => whnf
        refine opt_t h1 ?_
        conv => whnf
        refine opt_t cs ?_
        exact kk
    · rw [(spl_mk h1).2] at e2; exact notf e2
noncomputable abbrev m12 (f g : Fn) (m1 m2 : Form) : List PV := [.tup [.str "f", .str m1.s, f.pv], .tup [.str "g", .str m2.s, g.pv]]
theorem it12 {C : Oracle} {bs cs : List PV} {y u v : PV} {L : Str × Bind} {r : List (Str × Bind)} {KF : List PV → St → Prop} (h : KF (m12 f g m1 m2) ⟨f10 S f g f3 m1 m2 calls bs y u v L r, cs⟩) : vcIter (forT 12) (forE 12) (vcE TT 27 lawSc C) ⟨f10 S f g f3 m1 m2 calls bs y u v L r, cs⟩ KF := h
theorem st12_ (hC : Ats 10 C) {bs cs : List PV} {y u v : PV} {T : Dct} {s1 s2 : Sg} {k1 k2 k3 k4 : Nat} {cl1 cl2 : List Str} (hF : FunS cl1 k1 k2 m1 f) (hk1 : k1 ≤ 80) (hG : FunS cl2 k3 k4 m2 g) (hk2 : k3 ≤ 80) (hTf : (Item.fn "f" f (sgF s1 f)).has T) (hTg : (Item.fn "g" g (sgF s2 g)).has T)
    (kk : K .next ⟨f10 S f g f3 m1 m2 calls bs (.str "g") u v (pn "later" (.dct T)) [pn "form" (.str m2.s), pn "expr" g.pv], cs⟩) :
    lawS (CI TT 40 C 4 0) 27 12 ⟨f10 S f g f3 m1 m2 calls bs y u v (pn "later" (.dct T)) [], cs⟩ K := by
  refine law_for rfl (it12 ?_)
  refine turns_cons (t12_ hC hF hk1 hTf (.inl rfl) ?_)
  refine turns_cons (t12_ hC hG hk2 hTg (.inr ⟨_, _, rfl⟩) ?_)
  exact turns_nil kk
theorem st14_ {C : Oracle} {σ : St} (kk : K (.ret (.bool true)) σ) : lawS C 25 14 σ K := kk
theorem ask2 {tops : Dct} {e : Ex} {k M : Nat} {C : Oracle} {pre : List PV} {v : PV} {F : Nat} {K : PV → List PV → Prop} (h : Ev tops e [] k v) (hM : k ≤ M) (hF : k ≤ F) (hC : At (2 * M + 2) C) (kk : ∀ pre, K v pre) : C (.fn 715) [pv e, .dct [], .dct tops, .cel pre.length] (pre ++ [.lst [.int (F : Nat)]]) K := by
  have := ev_vw h C pre (F - k) K (hC.le (Nat.add_le_add_right (Nat.mul_le_mul_left 2 hM) 2)) (kk _)
  rw [Nat.sub_add_cancel hF] at this
  exact this
theorem t13_ (hC : Ats 342 C) {bs pre : List PV} {y u v z2 z3 : PV} {T : Dct} {z : Str} {q r t : Ex} {rr : List (Str × Bind)} (hT : dget T x = some (pv (.app3 z q r t))) (hB : Both (F3 f g f3) T (.app3 z q r t)) (hr : rr = [] ∨ ∃ a b, rr = [pn "due" a, pn "found" b])
    (kk : ∀ a b pre, ih ⟨f10 S f g f3 m1 m2 calls bs (.str x) u v (pn "later" (.dct T)) [pn "form" z2, pn "expr" (pv (.app3 z q r t)), pn "due" a, pn "found" b], pre⟩ K) :
    lawT (CI TT 40 C 4 0) 26 13 (ent x (pv (.app3 z q r t))) ⟨f10 S f g f3 m1 m2 calls bs y u v (pn "later" (.dct T)) (pn "form" z2 :: pn "expr" z3 :: rr), pre⟩ ih K := by
  (refine obEEA hB ?_; try clear hB; rintro r1 r2 ⟨⟨k1, hk1, v1⟩, k2, hk2, v2⟩ w)
  have a1 : ∀ {pre : List PV} (K' : PV → List PV → Prop), (∀ pre, K' r1 pre) → C 0 (.fn 715) [pv (.app3 z q r t), .dct [], .dct (F3 f g f3), .cel pre.length] (pre ++ [.lst [.int (120 : Nat)]]) K' := fun K' k => ask2 (M := 170) v1 (Nat.le_trans hk1 (Nat.le_of_ble_eq_true rfl)) hk1 (hC 0) k
  have a2 : ∀ {pre : List PV} (K' : PV → List PV → Prop), (∀ pre, K' r2 pre) → C 0 (.fn 715) [pv (.app3 z q r t), .dct [], .dct T, .cel pre.length] (pre ++ [.lst [.int (400 : Nat)]]) K' := fun K' k => ask2 (M := 170) v2 hk2 (Nat.le_trans hk2 (Nat.le_of_ble_eq_true rfl)) (hC 0) k
  rcases w with ⟨i, rfl, rfl⟩ | ⟨rfl, rfl⟩
  · rcases hr with rfl | ⟨a, b, rfl⟩
    all_goals
      refine a1 _ fun pre => ?_
      conv => whnf
      refine opt_t hT ?_
      refine a2 _ fun pre => ?_
      conv => whnf
      refine bool_f (show (!(i == i)) = false by simp) ?_
      exact kk _ _ _
  · rcases hr with rfl | ⟨a, b, rfl⟩
    all_goals
      refine a1 _ fun pre => ?_
      conv => whnf
      refine opt_t hT ?_
      refine a2 _ fun pre => ?_
      exact kk _ _ _
end
end
section
set_option smartUnfolding false
theorem Ats.mono {n m : Nat} {C : Nat → Oracle} (h : Ats n C) (k : m ≤ n) : Ats m C := fun j => (h j).le (Nat.sub_le_sub_right k j)
section
variable {C : Nat → Oracle} {K : KtS} {a b : Int} {S : PV} {f g f3 : Fn} {m1 m2 : Form} {x : Str}
theorem it13 {C : Oracle} {bs cs its : List PV} {y u v : PV} {L : Str × Bind} {r : List (Str × Bind)} {KF : List PV → St → Prop} (h : KF its ⟨f10 S f g f3 m1 m2 its bs y u v L r, cs⟩) : vcIter (forT 13) (forE 13) (vcE TT 26 lawSc C) ⟨f10 S f g f3 m1 m2 its bs y u v L r, cs⟩ KF := h
theorem st13_ (hC : Ats 342 C) {bs cs : List PV} {y u v z2 z3 : PV} {T : Dct} {q1 t1 q2 t2 q3 t3 : Ex} {j1 j2 j3 : Int} (T1 : dget T "fs" = some (pv (.app3 "f" q1 t1 (.lit j1)))) (T2 : dget T "gs" = some (pv (.app3 "g" q2 t2 (.lit j2)))) (T3 : dget T "hs" = some (pv (.app3 "h" q3 t3 (.lit j3)))) (B1 : Both (F3 f g f3) T (.app3 "f" q1 t1 (.lit j1))) (B2 : Both (F3 f g f3) T (.app3 "g" q2 t2 (.lit j2))) (B3 : Both (F3 f g f3) T (.app3 "h" q3 t3 (.lit j3)))
    (kk : ∀ σ, K .next σ) :
    lawS (CI TT 40 C 4 0) 26 13 ⟨f10 S f g f3 m1 m2 [callV "fs" "f" q1 t1 j1, callV "gs" "g" q2 t2 j2, callV "hs" "h" q3 t3 j3] bs y u v (pn "later" (.dct T)) [pn "form" z2, pn "expr" z3], cs⟩ K := by
  refine law_for rfl (it13 ?_)
  refine turns_cons (t13_ hC T1 B1 (.inl rfl) fun u_ u_ pre => ?_)
  refine turns_cons (t13_ hC T2 B2 (.inr ⟨_, _, rfl⟩) fun u_ u_ pre => ?_)
  refine turns_cons (t13_ hC T3 B3 (.inr ⟨_, _, rfl⟩) fun u_ u_ pre => ?_)
  exact turns_nil (kk _)
end
set_option smartUnfolding true in
theorem fgh_ne : ("f" : Str) ≠ "g" ∧ ("f" : Str) ≠ "h" ∧ ("g" : Str) ≠ "h" := by decide +kernel
set_option smartUnfolding true in
theorem E3_at (a b c : Sg) : dget (E3 a b c) "f" = some a.pv ∧ dget (E3 a b c) "h" = some c.pv := by
  (refine obAA fgh_ne fun n1 n2 n3 => ?_; try clear fgh_ne)
  exact ⟨by simp [dget], by simp [dget, n2, n3]⟩
set_option smartUnfolding true in
theorem F3_at (f g h : Fn) : dget (F3 f g h) "f" = some f.pv ∧ dget (F3 f g h) "g" = some g.pv ∧ dget (F3 f g h) "h" = some h.pv := by
  (refine obAA fgh_ne fun n1 n2 n3 => ?_; try clear fgh_ne)
  exact ⟨by simp [dget], by simp [dget, n1], by simp [dget, n2, n3]⟩
theorem knx {ih : St → KtS → Prop} {K : KtS} {σ : St} (h : ih σ K) : kNext ih K .next σ := h
theorem law_s8 {C : Nat → Oracle} (hC : Ats 342 C) {S : PV} {a b : Int} {k1 k2 k3 : Nat} {m1 m2 : Form} {f g f3 : Fn} {q1 t1 q2 t2 q3 t3 : Ex} {j1 j2 j3 : Int} {y u v : PV} {K : KtS} (hF : FunS [] 0 k1 m1 f) (hG : FunS ["f"] k1 k2 m2 g) (hH : CntS k2 k3 f3) (hq1 : ArgQ q1) (ht1 : ArgR t1) (hq2 : ArgQ q2) (ht2 : ArgR t2) (hq3 : ArgQ q3) (ht3 : ArgR t3) (hj : 0 ≤ j3 ∧ j3 < 3) (kk : ∀ σ, K (.ret (.bool true)) σ) :
    vcSs TT 32 lawSc (lawB.drop 8) (CI TT 40 C 4 0) ⟨f6 S f g f3 m1 m2 [callV "fs" "f" q1 t1 j1, callV "gs" "g" q2 t2 j2, callV "hs" "h" q3 t3 j3] [pn "name" y, pn "pair" u, pn "two_way" v], gs a b k3⟩ K := by
  have h10 : Ats 10 C := hC.mono (Nat.le_of_ble_eq_true rfl)
  refine law_st (st8_ ?_)
  refine knx (law_st (st9_ h10 ?_))
  intro A hA
  have lF := hF.le
  have lG := hG.le
  have gF := hF.good (Φ := fun u_ => False) (G := fun u_ => False) (fun u_ h => nomatch h) (by omega)
  have gG := hG.good (Φ := (· = "f")) (G := (· = "f")) (fun x hx => by rw [List.mem_singleton.mp hx]; exact ⟨rfl, rfl, by decide +kernel⟩) (by omega)
  have gH := hH.good (by omega)
  refine obEE (hH.sg (by omega)) fun η0 η1 sg => ?_
  have kf := gF.fnk (hF.nm (by omega))
  have kg := gG.fnk (hG.nm (by omega))
  have kh := gH.1.fnk (hH.nm (by omega))
  have okd : Sg.dv.ok := trivial
  have sF := hF.sub_nd (s := .dv) (fun u_ h => nomatch h) okd
  have okf := sg_ok sF
  have sG0 := hG.sub_nd (s := .dv) (fun x hx => List.mem_singleton.mp hx) okd
  have sG1 := hG.sub_nd (s := sgF .dv f) (fun x hx => List.mem_singleton.mp hx) okf
  refine knx (law_st (st10_ (D := 25) (φ := sgF .dv f) (γ0 := sgF .dv g) (γ1 := sgF (sgF .dv f) g) (η0 := η0) (η1 := η1) hA kf kg kh (fun a b c => sigOf_ gF okd (fun u_ h => h.elim) sF) (fun b c => sigOf_ gG okd (fun x hx => by rw [hx]; exact (E3_at _ _ _).1) sG0) (fun b c => sigOf_ gG okf (fun x hx => by rw [hx]; exact (E3_at _ _ _).1) sG1)
    (fun a b => by rw [← sg.e0]; exact sigOf_ gH.1 okd (fun x hx => by rw [hx]; exact (E3_at _ _ _).2) sg.s0) (fun a b => by rw [← sg.e1]; exact sigOf_ gH.1 sg.ok0 (fun x hx => by rw [hx]; exact (E3_at _ _ _).2) sg.s1) (fun a b => by have := sigOf_ (E := E3 a b η1) gH.1 sg.ok1 (fun x hx => by rw [hx]; exact (E3_at _ _ _).2) sg.s2; rwa [sg.e2] at this)
    (fun h => by rw [h]) (fun h => by have := sg.e1; rw [h, sg.e0, h] at this; rw [h]; exact this) (hC.le 0 rfl) fun T N hT => ?_))
  have i1 := hT (.fn "f" f (sgF .dv f)) (.head _)
  have i2 := hT (.fn "g" g (sgF (sgF .dv f) g)) (.tail _ (.head _))
  have i3 := hT (.fn "h" f3 η1) (.tail _ (.tail _ (.head _)))
  have i4 : dget T "fs" = _ := hT (.call "fs" "f" q1 t1 (.lit j1)) (.tail _ (.tail _ (.tail _ (.head _))))
  have i5 : dget T "gs" = _ := hT (.call "gs" "g" q2 t2 (.lit j2)) (.tail _ (.tail _ (.tail _ (.tail _ (.head _)))))
  have i6 : dget T "hs" = _ := hT (.call "hs" "h" q3 t3 (.lit j3)) (.tail _ (.tail _ (.tail _ (.tail _ (.tail _ (.head _))))))
  refine obAA (F3_at f g f3) fun tf tg th' => ?_
  obtain ⟨B1, B2⟩ := both_fg hF hG (by omega) (by omega) tf tg i1 i2
  have B3 := both_h hH (by omega) sg th' i3
  refine knx (law_st (st11_ hT ?_))
  refine knx (law_st (st12_ h10 hF (by omega) hG (by omega) i1 i2 ?_))
  refine knx (law_st (st13_ (hC.mono (Nat.le_of_ble_eq_true rfl)) i4 i5 i6 (B1 _ _ _ hq1 ht1) (B2 _ _ _ hq2 ht2) (B3 _ _ _ hq3 ht3 hj.1 hj.2) fun σ => ?_))
  refine knx (law_st (st14_ ?_))
  exact kk _
theorem law_ss {C : Nat → Oracle} (hC : Ats 342 C) {ns : List Int} (hl : ns.length ≤ 63) (hb : ∀ n ∈ ns, n.natAbs.log2 < 1999990) {K : KtS} (kk : ∀ σ, K (.ret (.bool true)) σ) : vcSs TT 40 lawSc (lawB.drop 0) (CI TT 40 C 4 0) ⟨[pn "script" (.lst (ns.map .int))], []⟩ K := by
  have h10 : Ats 10 C := hC.mono (Nat.le_of_ble_eq_true rfl)
  refine law_st (st0_ h10 hl hb ?_)
  intro a b h0
  refine knx (law_st (st1_ h10 h0 ?_))
  intro a b k1 m1 f h0 hF
  refine knx (law_st (st2_ h10 (by have q := hF.le; omega) h0 ?_))
  intro a b k2 m2 g h0 hG
  refine knx (law_st (st3_ h10 (by have q := hF.le; have q2 := hG.le; omega) h0 ?_))
  intro a b k3 f3 h0 hH
  refine knx (law_st (st4_ ?_))
  refine knx (law_st (st5_ ?_))
  refine knx (law_st (st6_ ?_))
  refine knx (law_st (st7_ (C := C) (k := k3) (a := a) (b := b) (S := .lst (ns.map .int)) (f := f) (g := g) (f3 := f3) (m1 := m1) (m2 := m2) h10 h0 ?_))
  exact fun a b q1 t1 q2 t2 q3 t3 j1 j2 j3 y u v hq1 ht1 hq2 ht2 hq3 ht3 hj => knx (law_s8 hC hF hG hH hq1 ht1 hq2 ht2 hq3 ht3 hj kk)
theorem law_all {ns : List Int} (hl : ns.length ≤ 63) (hb : ∀ n ∈ ns, n.natAbs.log2 < 1999990) : Call TT 40 343 (.fn 732) [.lst (ns.map .int)] [] fun p u_ => p = .bool true := by
  have hC : At 343 (Call TT 40 343) := ⟨343, Nat.le_refl _, rfl⟩
  refine hC.up fun C hC => ?_
  exact law_ss hC hl hb (K := kEnd fun p u_ => p = .bool true) fun u_ => rfl
end
end
end Mine
namespace Mine
theorem law_try.tw11192569293514176494 : True := trivial
theorem law_try.tw12797883956705037206 : True := trivial
theorem law_try.tw247607338669249813 : True := trivial
theorem law_try.tw8069819243415891231 : True := trivial
theorem law_try.tw15657504226704396154 : True := trivial
theorem law_try.tw14123745345885634539 : True := trivial
theorem law_try.tw17230163419254597473 : True := trivial
theorem law_try.tw17848468636808116139 : True := trivial
theorem law_try.tw4969880734879443974 : True := trivial
theorem law_try.tw15884087580372972982 : True := trivial
theorem law_try.tw11262130218102190251 : True := trivial
theorem law_try.tw12896319686462110597 : True := trivial
theorem law_try.tw18002335258793641861 : True := trivial
theorem law_try.tw15847743030640550887 : True := trivial
theorem law_try.tw2564581061182533154 : True := trivial
theorem law_try.tw4051699496971229271 : True := trivial
theorem law_try.tw6611128710078228649 : True := trivial
theorem law_try.tw11183251402092342115 : True := trivial
theorem law_try.tw3440819854303082462 : True := trivial
theorem law_try.tw7421578031892229481 : True := trivial
theorem law_try.tw13451618835284714400 : True := trivial
theorem law_try.tw7901391427603415429 : True := trivial
theorem law_try.tw15765834542416779929 : True := trivial
theorem law_try.tw5320147542715947931 : True := trivial
theorem law_try.tw12206152218512588483 : True := trivial
theorem law_try.tw17455495429327913211 : True := trivial
theorem law_try.tw1466739809966394052 : True := trivial
theorem law_try.tw10343603299379762976 : True := trivial
theorem law_try.tw14498997056817729416 : True := trivial
theorem law_try.tw13195369458289856136 : True := trivial
theorem law_try.tw14188404370297760239 : True := trivial
theorem law_try.tw18379915381445793425 : True := trivial
theorem law_try.tw4103025411064942973 : True := trivial
theorem law_try.tw13441169826759598669 : True := trivial
theorem law_try.tw5933005609515500242 : True := trivial
theorem law_try.tw7125728251281244382 : True := trivial
theorem law_try.tw10759633803000265300 : True := trivial
theorem law_try.tw11617136565962207412 : True := trivial
theorem law_try.tw4222364173432093109 : True := trivial
theorem law_try.tw4570380331603479923 : True := trivial
theorem law_try.tw11029303090060999839 : True := trivial
theorem law_try.tw8192896012840362426 : True := trivial
theorem law_try.tw9588332111243398502 : True := trivial
theorem law_try.tw2651759835055928994 : True := trivial
theorem law_try.tw11329435672751537107 : True := trivial
theorem law_try.tw5970807599413236569 : True := trivial
theorem law_try.tw3658646286624989781 : True := trivial
theorem law_try.tw4777568174959677041 : True := trivial
theorem law_try.tw10615783343460822064 : True := trivial
theorem law_try.tw10348302109965614443 : True := trivial
theorem law_try.tw14337681210331808037 : True := trivial
theorem law_try.tw5803376265398183254 : True := trivial
theorem law_try.tw18408444847944994223 : True := trivial
theorem law_try.tw13084868341390255390 : True := trivial
theorem law_try.tw5584271408318453322 : True := trivial
theorem law_try.tw5116589790751177876 : True := trivial
theorem law_try.tw5685463880316669973 : True := trivial
theorem law_try.tw18160199262369663645 : True := trivial
theorem law_try.tw18429371368343311046 : True := trivial
theorem law_try.tw11460221648842619922 : True := trivial
theorem law_try.tw8225350229334207637 : True := trivial
theorem law_try.tw13259854825996008583 : True := trivial
theorem law_try.tw4259134159677667780 : True := trivial
theorem law_try.tw10236718597162543079 : True := trivial
theorem law_try.tw13612120429832826678 : True := trivial
theorem law_try.tw16193893354097226327 : True := trivial
theorem law_try.tw2031508914933725762 : True := trivial
theorem law_try.tw528356217651026925 : True := trivial
theorem law_try.tw2592280007231697870 : True := trivial
theorem law_try.tw4738228008550477252 : True := trivial
theorem law_try.tw6621840338201566690 : True := trivial
theorem law_try.tw17776035754346312796 : True := trivial
theorem law_try.tw1160854120828770167 : True := trivial
theorem law_try.tw16947056903232670393 : True := trivial
theorem law_try.tw15346428206812766343 : True := trivial
theorem law_try.tw7299733299851193548 : True := trivial
theorem law_try.tw14154891534875865088 : True := trivial
theorem law_try.tw11884694102438529758 : True := trivial
theorem law_try.tw2444857686281633230 : True := trivial
theorem law_try.tw1501692567057062298 : True := trivial
theorem law_try.tw1834530315953434953 : True := trivial
theorem law_try.tw13724401883731734334 : True := trivial
theorem law_try.tw18293610978824659953 : True := trivial
theorem law_try.tw6964143723591315251 : True := trivial
theorem law_try.tw7439789731859675130 : True := trivial
theorem law_try.tw9436677632303227666 : True := trivial
theorem law_try.tw11280218872384363103 : True := trivial
theorem law_try.tw13860987754424369421 : True := trivial
theorem law_try.tw4733595679974594711 : True := trivial
theorem law_try.tw11668525149392117242 : True := trivial
theorem law_try.tw7908552022806685217 : True := trivial
theorem law_try.tw6680073299211844187 : True := trivial
theorem law_try.tw15680552576709425538 : True := trivial
theorem law_try.tw15530142716400789594 : True := trivial
theorem law_try.tw2779971565259935079 : True := trivial
theorem law_try.tw14064687939275900622 : True := trivial
theorem law_try.tw3841969787181898242 : True := trivial
theorem law_try.tw14527295712146470485 : True := trivial
theorem law_try.tw6645535045173224282 : True := trivial
theorem law_try.tw18164713705152277218 : True := trivial
theorem law_try.tw3726974551442643279 : True := trivial
theorem law_try.tw12059943775831366469 : True := trivial
theorem law_try.tw6618756246362720240 : True := trivial
theorem law_try.tw11055125637668168649 : True := trivial
theorem law_try.tw4347712283086833063 : True := trivial
theorem law_try.tw2498434205990646801 : True := trivial
theorem law_try.tw15126258382774648230 : True := trivial
theorem law_try.tw7102393574951041515 : True := trivial
theorem law_try.tw12936479313621102542 : True := trivial
theorem law_try.tw11107232908519768469 : True := trivial
theorem law_try.tw13716299914346578262 : True := trivial
theorem law_try.tw8820607207161670188 : True := trivial
theorem law_try.tw10790417266072890033 : True := trivial
theorem law_try.tw15993225863296046040 : True := trivial
theorem law_try.tw10589504264923829500 : True := trivial
theorem law_try.tw3616912323041971005 : True := trivial
theorem law_try.tw2643591465385988359 : True := trivial
theorem law_try.tw10225784825896517231 : True := trivial
theorem law_try.tw5882399566453175152 : True := trivial
theorem law_try.tw12257002997718467398 : True := trivial
theorem law_try.tw17077474835151696955 : True := trivial
theorem law_try.tw8073630039730464864 : True := trivial
theorem law_try.tw15221256155073900985 : True := trivial
theorem law_try.tw17117970024427344497 : True := trivial
theorem law_try.tw12732624842944595004 : True := trivial
theorem law_try.tw13586726682262691231 : True := trivial
theorem law_try.tw14541204374440641636 : True := trivial
theorem law_try.tw6091830957390213752 : True := trivial
theorem law_try.tw11547574758424888550 : True := trivial
theorem law_try.tw2514322033189069586 : True := trivial
theorem law_try.tw3410973355490577277 : True := trivial
theorem law_try.tw17753233664195160545 : True := trivial
theorem law_try.tw13237623692692806849 : True := trivial
theorem law_try.tw12863942220423549382 : True := trivial
theorem law_try.tw11969931015914665195 : True := trivial
theorem law_try.tw4395539364572627815 : True := trivial
theorem law_try.tw15705485443295531894 : True := trivial
theorem law_try.tw9102095508590356133 : True := trivial
theorem law_try.tw17741590322021865777 : True := trivial
theorem law_try.tw2249918085114452685 : True := trivial
theorem law_try.tw10848793833214500602 : True := trivial
theorem law_try.tw353029923088624490 : True := trivial
theorem law_try.tw16250341953516557347 : True := trivial
theorem law_try.tw10471649894682448347 : True := trivial
theorem law_try.tw8043475608159232296 : True := trivial
theorem law_try.tw15857461126893682959 : True := trivial
theorem law_try.tw715279191307513367 : True := trivial
theorem law_try.tw10832055958874053039 : True := trivial
theorem law_try.tw6817195819229755037 : True := trivial
theorem law_try.tw10044577879971026274 : True := trivial
theorem law_try.tw11918679927091777435 : True := trivial
theorem law_try.tw11668526853132293084 : True := trivial
theorem law_try.tw7705275321065779405 : True := trivial
theorem law_try.tw12417385148000322578 : True := trivial
theorem law_try.tw12114902156108766328 : True := trivial
theorem law_try.tw2238953902116594065 : True := trivial
theorem law_try.tw17094527189523876646 : True := trivial
theorem law_try.tw11567722412388426748 : True := trivial
theorem law_try.tw10721629029989105623 : True := trivial
theorem law_try.tw15236746473689400192 : True := trivial
theorem law_try.tw12612565482483724633 : True := trivial
theorem law_try.tw11311899214392707284 : True := trivial
theorem law_try.tw14887595008905140788 : True := trivial
theorem law_try.tw12047413808647223717 : True := trivial
theorem law_try.tw12858371143231015724 : True := trivial
theorem law_try.tw10053118222926055203 : True := trivial
theorem law_try.tw16551861615780857380 : True := trivial
theorem law_try.tw15630171283063676680 : True := trivial
theorem law_try.tw3286913307496778684 : True := trivial
theorem law_try.tw18008214319072645788 : True := trivial
theorem law_try.tw8981968640936835692 : True := trivial
theorem law_try.tw7827294979249344202 : True := trivial
theorem law_try.tw6921640971416763871 : True := trivial
theorem law_try.tw10296574329699382675 : True := trivial
theorem law_try.tw14996849202583381871 : True := trivial
theorem law_try.tw17025633949382818198 : True := trivial
theorem law_try.tw13441977526331744414 : True := trivial
theorem law_try.tw3030684219156071901 : True := trivial
theorem law_try.tw4792665448854357212 : True := trivial
theorem law_try.tw16416783476512564638 : True := trivial
theorem law_try.tw10547046449740088307 : True := trivial
theorem law_try.tw17641878790183476578 : True := trivial
theorem law_try.tw13660587205737921251 : True := trivial
theorem law_try.tw9120305013877993249 : True := trivial
theorem law_try.tw7366476781995076583 : True := trivial
theorem law_try.tw372059252783534320 : True := trivial
theorem law_try.tw2475455047294635443 : True := trivial
theorem law_try.tw7594708163116315942 : True := trivial
theorem law_try.tw3461840061795674492 : True := trivial
theorem law_try.tw1163564209762244013 : True := trivial
theorem law_try.tw5690485960159058811 : True := trivial
theorem law_try.tw4524152839475542165 : True := trivial
theorem law_try.tw3013482095574693883 : True := trivial
theorem law_try.tw5536042124208183016 : True := trivial
theorem law_try.tw8121138890873148819 : True := trivial
theorem law_try.tw4207116481689189846 : True := trivial
theorem law_try.tw11122158825313198640 : True := trivial
theorem law_try.tw11141088894046975021 : True := trivial
theorem law_try.tw1411667347882853977 : True := trivial
theorem law_try.tw2255637153836317835 : True := trivial
theorem law_try.tw7455834166801220153 : True := trivial
theorem law_try.tw13869522387368805184 : True := trivial
theorem law_try.tw9162775782167727084 : True := trivial
theorem law_try.tw10245421094935058631 : True := trivial
theorem law_try.tw899605574664536150 : True := trivial
theorem law_try.tw12643001220501259617 : True := trivial
theorem law_try.tw8782646615931386109 : True := trivial
theorem law_try.tw15078686112934800966 : True := trivial
theorem law_try.tw10554981031836481950 : True := trivial
theorem law_try.tw2387277168546179770 : True := trivial
theorem law_try.tw5890420914829339161 : True := trivial
theorem law_try.tw12862455172116555549 : True := trivial
theorem law_try.tw6324959036819773445 : True := trivial
theorem law_try.tw11692312844141826265 : True := trivial
theorem law_try.tw15969095871343644091 : True := trivial
theorem law_try.tw14203849945526716633 : True := trivial
theorem law_try.tw3913766648103284062 : True := trivial
theorem law_try.tw463490938853083746 : True := trivial
theorem law_try.tw12813742135697902547 : True := trivial
theorem law_try.tw3327615933628958108 : True := trivial
theorem law_try.tw6905192441487378703 : True := trivial
theorem law_try.tw12470969934792467439 : True := trivial
theorem law_try.tw17583033898031991526 : True := trivial
theorem law_try.tw13783318583611963579 : True := trivial
theorem law_try.tw1244229515621121767 : True := trivial
theorem law_try.tw17337888486557269625 : True := trivial
theorem law_try.tw6802809557592755241 : True := trivial
theorem law_try.tw3544541689276884851 : True := trivial
theorem law_try.tw6038817841247441833 : True := trivial
theorem law_try.tw8456915739038182284 : True := trivial
theorem law_try.tw4798853337774248786 : True := trivial
theorem law_try.tw15438394087643875849 : True := trivial
theorem law_try.tw16492252403343986738 : True := trivial
theorem law_try.tw15209737854880006090 : True := trivial
theorem law_try.tw13131060214731175000 : True := trivial
theorem law_try.tw15385755208638674900 : True := trivial
theorem law_try.tw17551071247032061234 : True := trivial
theorem law_try.tw1141877713039735165 : True := trivial
theorem law_try.tw10367298507558246774 : True := trivial
theorem law_try.tw8726746711713344735 : True := trivial
theorem law_try.tw4209909978091116560 : True := trivial
theorem law_try.tw1112304994398288660 : True := trivial
theorem law_try.tw17207612605564836443 : True := trivial
theorem law_try.tw10151645203201465506 : True := trivial
theorem law_try.tw2840199881289785469 : True := trivial
theorem law_try.tw10160793995879365447 : True := trivial
theorem law_try.tw6456258696467985922 : True := trivial
theorem law_try.tw4921562131319617123 : True := trivial
theorem law_try.tw9052836867963766428 : True := trivial
theorem law_try.tw9900811181698986376 : True := trivial
theorem law_try.tw10449589875674740151 : True := trivial
theorem law_try.tw17592036209070911795 : True := trivial
theorem law_try.tw15412790383997487231 : True := trivial
theorem law_try.tw3959893559922089411 : True := trivial
theorem law_try.tw17119578258433139575 : True := trivial
theorem law_try.tw8189600537937184132 : True := trivial
theorem law_try.tw15632701258600460448 : True := trivial
theorem law_try.tw2858815922286049462 : True := trivial
theorem law_try.tw4336719343196142995 : True := trivial
theorem law_try.tw8540455567631042900 : True := trivial
theorem law_try.tw1187064911668637219 : True := trivial
theorem law_try.tw14492152235561710735 : True := trivial
theorem law_try.tw4652711256760863100 : True := trivial
theorem law_try.tw5630690137991375091 : True := trivial
theorem law_try.tw1059757164096625878 : True := trivial
theorem law_try.tw4771208643040041338 : True := trivial
theorem law_try.tw5231288067022803406 : True := trivial
theorem law_try.tw9744492753858897961 : True := trivial
theorem law_try.tw16583361511214449586 : True := trivial
theorem law_try.tw12401118321350662841 : True := trivial
theorem law_try.tw15388750535925299378 : True := trivial
theorem law_try.tw7554025736875396289 : True := trivial
theorem law_try.tw2139178298456025258 : True := trivial
theorem law_try.tw16322454607535481961 : True := trivial
theorem law_try.tw2311651935622486690 : True := trivial
theorem law_try.tw2200474844847964386 : True := trivial
theorem law_try.tw12631350276879570280 : True := trivial
theorem law_try.tw1399669959753810750 : True := trivial
theorem law_try.tw15165274523163112536 : True := trivial
theorem law_try.tw359457258751740913 : True := trivial
theorem law_try.tw17449915161306560036 : True := trivial
theorem law_try.tw9914462838240387825 : True := trivial
theorem law_try.tw1698030350605921392 : True := trivial
theorem law_try.tw11195644791295639583 : True := trivial
theorem law_try.tw5910233938303260095 : True := trivial
theorem law_try.tw8810596414212992859 : True := trivial
theorem law_try.tw5833259187628833261 : True := trivial
theorem law_try.tw9273910593650320726 : True := trivial
theorem law_try.tw2138777441946221560 : True := trivial
theorem law_try.tw3927610232915759402 : True := trivial
theorem law_try.tw4717353324927285678 : True := trivial
theorem law_try.tw2705073364965977512 : True := trivial
theorem law_try.tw18413696146240102893 : True := trivial
theorem law_try.tw9812807661988859620 : True := trivial
theorem law_try.tw9254416571392856297 : True := trivial
theorem law_try.tw15667356175644835538 : True := trivial
theorem law_try.tw14899860974668807482 : True := trivial
theorem law_try.tw14033996050670240537 : True := trivial
theorem law_try.tw2517791838080122205 : True := trivial
theorem law_try.tw8052278078557172249 : True := trivial
theorem law_try.tw14124927336938490325 : True := trivial
theorem law_try.tw2461303365729056272 : True := trivial
theorem law_try.tw9491369650073272694 : True := trivial
theorem law_try.tw1701743153919117066 : True := trivial
theorem law_try.tw2991267447212767611 : True := trivial
theorem law_try.tw7834583458937546571 : True := trivial
theorem law_try.tw16558742795371197783 : True := trivial
theorem law_try.tw16581765128003863172 : True := trivial
theorem law_try.tw16210643033465617484 : True := trivial
theorem law_try.tw11675777751697812366 : True := trivial
theorem law_try.tw3651384496995594833 : True := trivial
theorem law_try.tw4334421051891845125 : True := trivial
theorem law_try.tw8257156019043431730 : True := trivial
theorem law_try.tw13933004270507693084 : True := trivial
theorem law_try.tw10482313579976101336 : True := trivial
theorem law_try.tw12880122591378660962 : True := trivial
theorem law_try.tw16481790900945157629 : True := trivial
theorem law_try.tw17198343199258411043 : True := trivial
theorem law_try.tw1638418495835680482 : True := trivial
theorem law_try.tw12548734866781823290 : True := trivial
theorem law_try.tw15064733164902529147 : True := trivial
theorem law_try.tw13244513673332701363 : True := trivial
theorem law_try.tw5618313356461686908 : True := trivial
theorem law_try.tw6350265401222753651 : True := trivial
theorem law_try.tw16438622111376673057 : True := trivial
theorem law_try.tw1014022461078677530 : True := trivial
theorem law_try.tw4929411375428869715 : True := trivial
theorem law_try.tw13004294495460959714 : True := trivial
theorem law_try.tw14754648496575688256 : True := trivial
theorem law_try.tw2262624913130676866 : True := trivial
theorem law_try.tw14774572590436081174 : True := trivial
theorem law_try.tw9991877510620446133 : True := trivial
theorem law_try.tw1262548304688622214 : True := trivial
theorem law_try.tw10155118300943303806 : True := trivial
theorem law_try.tw3611896931507860905 : True := trivial
theorem law_try.tw6240455382672949118 : True := trivial
theorem law_try.tw11614290364446051891 : True := trivial
theorem law_try.tw12751043295255759644 : True := trivial
theorem law_try.tw12563669651860211194 : True := trivial
theorem law_try.tw2992951233120788161 : True := trivial
theorem law_try.tw18179381557946819748 : True := trivial
theorem law_try.tw89712776627093017 : True := trivial
theorem law_try.tw6306474907765739178 : True := trivial
theorem law_try.tw15749148088744886351 : True := trivial
theorem law_try.tw3025241654601044415 : True := trivial
theorem law_try.tw17765030065523114130 : True := trivial
theorem law_try.tw14068391818359259211 : True := trivial
theorem law_try.tw5569860416252504493 : True := trivial
theorem law_try.tw15674911474615566782 : True := trivial
theorem law_try.tw17232302776278761801 : True := trivial
theorem law_try.tw5394900669153458647 : True := trivial
theorem law_try.tw10353971930608864094 : True := trivial
theorem law_try.tw13026514723183961531 : True := trivial
theorem law_try.tw4677197439467816123 : True := trivial
theorem law_try.tw11037198737506441453 : True := trivial
theorem law_try.tw10611208062398430480 : True := trivial
theorem law_try.tw9016396056095153024 : True := trivial
theorem law_try.tw6516128861279724003 : True := trivial
theorem law_try.tw3542688640570182128 : True := trivial
theorem law_try.tw6915819348753461360 : True := trivial
theorem law_try.tw9418834336880573731 : True := trivial
theorem law_try.tw9481486751896380455 : True := trivial
theorem law_try.tw4014145537265473836 : True := trivial
theorem law_try.tw5906461540402698952 : True := trivial
theorem law_try.tw10306084440269306075 : True := trivial
theorem law_try.tw1398418177188235488 : True := trivial
theorem law_try.tw4357188906689833058 : True := trivial
theorem law_try.tw836003418686658726 : True := trivial
theorem law_try.tw12257644981272134732 : True := trivial
theorem law_try.tw14343785656596628015 : True := trivial
theorem law_try.tw15416044960973236489 : True := trivial
theorem law_try.tw8935472368941265561 : True := trivial
theorem law_try.tw13486027020311534940 : True := trivial
theorem law_try.tw7588105779252467695 : True := trivial
theorem law_try.tw17478146123371945372 : True := trivial
theorem law_try.tw15948402739285295617 : True := trivial
theorem law_try.tw11592190674423753387 : True := trivial
theorem law_try.tw16891736731786709771 : True := trivial
theorem law_try.tw8125432906634584037 : True := trivial
theorem law_try.tw15642794052820820973 : True := trivial
theorem law_try.tw2240169119700563535 : True := trivial
theorem law_try.tw13702078948361924362 : True := trivial
theorem law_try.tw13296992900556055367 : True := trivial
theorem law_try.tw201097399048829563 : True := trivial
theorem law_try.tw7195842981700429643 : True := trivial
theorem law_try.tw10750816581634621031 : True := trivial
theorem law_try.tw4112094902007757496 : True := trivial
theorem law_try.tw12149830630015496758 : True := trivial
theorem law_try.tw13454115426379467755 : True := trivial
theorem law_try.tw10239861537831684772 : True := trivial
theorem law_try.tw6891809410630613413 : True := trivial
theorem law_try.tw12014051954771397694 : True := trivial
theorem law_try.tw17896093064487255077 : True := trivial
theorem law_try.tw16010518706075684793 : True := trivial
theorem law_try.tw13420903297603408199 : True := trivial
theorem law_try.tw12358665643187215775 : True := trivial
theorem law_try.tw2424363785620636183 : True := trivial
theorem law_try.tw15569946252848815818 : True := trivial
theorem law_try.tw2734435955173817198 : True := trivial
theorem law_try.tw432820421007205395 : True := trivial
theorem law_try.tw11288499709556767831 : True := trivial
theorem law_try.tw13205294273798807432 : True := trivial
theorem law_try.tw9944796132657920678 : True := trivial
theorem law_try.tw4712459013762817680 : True := trivial
theorem law_try.tw6871373812196582757 : True := trivial
theorem law_try.tw7396100582937685240 : True := trivial
theorem law_try.tw9012588651068387013 : True := trivial
theorem law_try.tw9541541368608817160 : True := trivial
theorem law_try.tw3494348636284699953 : True := trivial
theorem law_try.tw16490235423342285196 : True := trivial
theorem law_try.tw7855809508729708831 : True := trivial
theorem law_try.tw15401202677914098919 : True := trivial
theorem law_try.tw507352191969197338 : True := trivial
theorem law_try.tw1046644713385474094 : True := trivial
theorem law_try.tw14786035836386320302 : True := trivial
theorem law_try.tw17077567854464062745 : True := trivial
theorem law_try.tw8991008198570700314 : True := trivial
theorem law_try.tw1873642484961475267 : True := trivial
theorem law_try.tw1002612227077669274 : True := trivial
theorem law_try.tw5001630414167232336 : True := trivial
theorem law_try.tw17328786099508295370 : True := trivial
theorem law_try.tw8303950320315514645 : True := trivial
theorem law_try.tw17542370923351477335 : True := trivial
theorem law_try.tw17676459929551952461 : True := trivial
theorem law_try.tw6867281604332438214 : True := trivial
theorem law_try.tw1984919464087850238 : True := trivial
theorem law_try.tw2418092209834792717 : True := trivial
theorem law_try.tw4844383240385348231 : True := trivial
theorem law_try.tw14596171317610964085 : True := trivial
theorem law_try.tw3617315420782800113 : True := trivial
theorem law_try.tw11068356337253933921 : True := trivial
theorem law_try.tw9850148038104325756 : True := trivial
theorem law_try.tw710189893697058987 : True := trivial
theorem law_try.tw8787871006753698161 : True := trivial
theorem law_try.tw6411836900930308389 : True := trivial
theorem law_try.tw16525729553716480347 : True := trivial
theorem law_try.tw4126451719596537301 : True := trivial
theorem law_try.tw17840802744502067329 : True := trivial
theorem law_try.tw15775802610172656921 : True := trivial
theorem law_try.tw11704633700591486807 : True := trivial
theorem law_try.tw2585074656811130401 : True := trivial
theorem law_try.tw1981054321078385372 : True := trivial
theorem law_try.tw15888023404172417795 : True := trivial
theorem law_try.tw6785585952978529350 : True := trivial
theorem law_try.tw1317242405684430335 : True := trivial
theorem law_try.tw18340243779792196936 : True := trivial
theorem law_try.tw17153955579013225846 : True := trivial
theorem law_try.tw15350608810126222688 : True := trivial
theorem law_try.tw9638900476223509735 : True := trivial
theorem law_try.tw10604359279800598382 : True := trivial
theorem law_try.tw6074946428714015372 : True := trivial
theorem law_try.tw9512626319338122646 : True := trivial
theorem law_try.tw16469590551666798780 : True := trivial
theorem law_try.tw16893036870315520420 : True := trivial
theorem law_try.tw14272761792070570447 : True := trivial
theorem law_try.tw14967407923348101634 : True := trivial
theorem law_try.tw9154164416880285943 : True := trivial
theorem law_try.tw6831262544473766373 : True := trivial
theorem law_try.tw6092303685457885713 : True := trivial
theorem law_try.tw4500541739537538553 : True := trivial
theorem law_try.tw11248142170111012056 : True := trivial
theorem law_try.tw11915173138592319584 : True := trivial
theorem law_try.tw6522227788702017995 : True := trivial
theorem law_try.tw12874579070375546861 : True := trivial
theorem law_try.tw7190650825091502561 : True := trivial
theorem law_try.tw17755505260581646145 : True := trivial
theorem law_try.tw9939035463241935323 : True := trivial
theorem law_try.tw7437514047558282294 : True := trivial
theorem law_try.tw16218827893485245183 : True := trivial
theorem law_try.tw4202853059517341614 : True := trivial
theorem law_try.tw4226566106484653305 : True := trivial
theorem law_try.tw11728154552101229663 : True := trivial
theorem law_try.tw3565685922538740448 : True := trivial
theorem law_try.tw8017526343045494398 : True := trivial
theorem law_try.tw3279006100163883176 : True := trivial
theorem law_try.tw9651719801276549633 : True := trivial
theorem law_try.tw8949901062995988438 : True := trivial
theorem law_try.tw11356819611808223014 : True := trivial
theorem law_try.tw16845444127295583666 : True := trivial
theorem law_try.tw11444818027164852605 : True := trivial
theorem law_try.tw16755321893209307109 : True := trivial
theorem law_try.tw16514556281729325041 : True := trivial
theorem law_try.tw15705194593601538715 : True := trivial
theorem law_try.tw12938989600601564793 : True := trivial
theorem law_try.tw1419250166206798336 : True := trivial
theorem law_try.tw3251790521738118139 : True := trivial
theorem law_try.tw15071002757758368871 : True := trivial
theorem law_try.tw1410396977563402692 : True := trivial
theorem law_try.tw8742668359606298325 : True := trivial
theorem law_try.tw8964687613111051068 : True := trivial
theorem law_try.tw5480243533129911326 : True := trivial
theorem law_try.tw13391822926157917335 : True := trivial
theorem law_try.tw12182087913508548517 : True := trivial
theorem law_try.tw50671440996285650 : True := trivial
theorem law_try.tw2532018819935852594 : True := trivial
theorem law_try.tw11425679139735925577 : True := trivial
theorem law_try.tw9703711094877249345 : True := trivial
theorem law_try.tw1561983990900486697 : True := trivial
theorem law_try.tw8113906688643308493 : True := trivial
theorem law_try.tw17872349676426706665 : True := trivial
theorem law_try.tw16109489274619050449 : True := trivial
theorem law_try.tw10650109483373015279 : True := trivial
theorem law_try.tw9262228560341817711 : True := trivial
theorem law_try.tw4683467398231216096 : True := trivial
theorem law_try.tw733625810890413178 : True := trivial
theorem law_try.tw5787515725152920830 : True := trivial
theorem law_try.tw9518088462803737455 : True := trivial
theorem law_try.tw12311302862269875076 : True := trivial
theorem law_try.tw13221737644324399527 : True := trivial
theorem law_try.tw15131598747203970307 : True := trivial
theorem law_try.tw1424176295531287711 : True := trivial
theorem law_try.tw14268023474668159211 : True := trivial
theorem law_try.tw13403004477206477304 : True := trivial
theorem law_try.tw14616114422520430540 : True := trivial
theorem law_try.tw16605408988532041622 : True := trivial
theorem law_try.tw10648484726571879861 : True := trivial
theorem law_try.tw16706108535698313793 : True := trivial
theorem law_try.tw8222213633526213564 : True := trivial
theorem law_try.tw7355504324331509414 : True := trivial
theorem law_try.tw103603830019952454 : True := trivial
theorem law_try.tw17159526435607228089 : True := trivial
theorem law_try.tw5001017500550706760 : True := trivial
theorem law_try.tw12014832746788648276 : True := trivial
theorem law_try.tw17798272193227382840 : True := trivial
theorem law_try.tw3520318719026445546 : True := trivial
theorem law_try.tw8145271560847788860 : True := trivial
theorem law_try.tw2795182767077535679 : True := trivial
theorem law_try.tw6374158861958098128 : True := trivial
theorem law_try.tw4859100948984574062 : True := trivial
theorem law_try.tw4891585641749867127 : True := trivial
theorem law_try.tw8617186643022041701 : True := trivial
theorem law_try.tw4591391746936047129 : True := trivial
theorem law_try.tw7694531332130269892 : True := trivial
theorem law_try.tw16441568278214763981 : True := trivial
theorem law_try.tw16705686843197135930 : True := trivial
theorem law_try.tw4046675801177574225 : True := trivial
theorem law_try.tw12783578762759231572 : True := trivial
theorem law_try.tw3206613702781814052 : True := trivial
theorem law_try.tw13906896096055529469 : True := trivial
theorem law_try.tw11218469200955535270 : True := trivial
theorem law_try.tw4496379678160955418 : True := trivial
theorem law_try.tw17105847988561646820 : True := trivial
theorem law_try.tw11307684446739740332 : True := trivial
theorem law_try.tw17703728424025400027 : True := trivial
theorem law_try.tw4203086113144901780 : True := trivial
theorem law_try.tw5772637552610446647 : True := trivial
theorem law_try.tw139443476859530741 : True := trivial
theorem law_try.tw10088962661824601491 : True := trivial
theorem law_try.tw16479934925937020810 : True := trivial
theorem law_try.tw12823113492219311108 : True := trivial
theorem law_try.tw13565811685074433982 : True := trivial
theorem law_try.tw3543185443973030404 : True := trivial
theorem law_try.tw15736282769672697415 : True := trivial
theorem law_try.tw7723604741259902702 : True := trivial
theorem law_try.tw3783298767922269138 : True := trivial
theorem law_try.tw12800667917102116809 : True := trivial
theorem law_try.tw7614595385678779219 : True := trivial
theorem law_try.tw6702612602741031199 : True := trivial
theorem law_try.tw3662408233013064161 : True := trivial
theorem law_try.tw4866157760356441402 : True := trivial
theorem law_try.tw14686046273251384895 : True := trivial
theorem law_try.tw15195185996410192018 : True := trivial
theorem law_try.tw3223615234239834184 : True := trivial
theorem law_try.tw12667224462997544481 : True := trivial
theorem law_try.tw12734457953105760459 : True := trivial
theorem law_try.tw14231262765646378775 : True := trivial
theorem law_try.tw13327409037368625709 : True := trivial
theorem law_try.tw8290917825855714292 : True := trivial
theorem law_try.tw8709907835762331151 : True := trivial
theorem law_try.tw1150506816110245197 : True := trivial
theorem law_try.tw56911914355610677 : True := trivial
theorem law_try.tw17235834543505209909 : True := trivial
theorem law_try.tw12159479179354968852 : True := trivial
theorem law_try.tw1110763115150893148 : True := trivial
theorem law_try.tw10448870640769956556 : True := trivial
theorem law_try.tw6185815073709699550 : True := trivial
theorem law_try.tw10267450694336352474 : True := trivial
theorem law_try.tw1948622227415964399 : True := trivial
theorem law_try.tw1410063847003452527 : True := trivial
theorem law_try.tw5299723250095883774 : True := trivial
theorem law_try.tw2132752957959296131 : True := trivial
theorem law_try.tw2268744221369937461 : True := trivial
theorem law_try.tw12738492449401054804 : True := trivial
theorem law_try.tw12261927723524530711 : True := trivial
theorem law_try.tw8456438508999367996 : True := trivial
theorem law_try.tw10351461966206462249 : True := trivial
theorem law_try.tw8928334153905714718 : True := trivial
theorem law_try.tw3914239630025888152 : True := trivial
theorem law_try.tw76920000629055003 : True := trivial
theorem law_try.tw1981004828675867645 : True := trivial
theorem law_try.tw8544354766213118719 : True := trivial
theorem law_try.tw1907434226164787704 : True := trivial
theorem law_try.tw13800082124511259485 : True := trivial
theorem law_try.tw7473249526217623704 : True := trivial
theorem law_try.tw1416553080450532341 : True := trivial
theorem law_try.tw5279228575128376548 : True := trivial
theorem law_try.tw10341315486575082149 : True := trivial
theorem law_try.tw13717009434593230733 : True := trivial
theorem law_try.tw18222951100534457144 : True := trivial
theorem law_try.tw4850446846502400157 : True := trivial
theorem law_try.tw4121150416094509342 : True := trivial
theorem law_try.tw17189403678859044831 : True := trivial
theorem law_try.tw3892197274839451846 : True := trivial
theorem law_try.tw10623212498358505218 : True := trivial
theorem law_try.tw3006169987629127520 : True := trivial
theorem law_try.tw5720324927105834120 : True := trivial
theorem law_try.tw17561671675098419334 : True := trivial
theorem law_try.tw9858119064593222152 : True := trivial
theorem law_try.tw11598001095837194607 : True := trivial
theorem law_try.tw9051418249870370913 : True := trivial
theorem law_try.tw9053841057826435755 : True := trivial
theorem law_try.tw13985739311636961709 : True := trivial
theorem law_try.tw1439158849096743117 : True := trivial
theorem law_try.tw4301714875137858101 : True := trivial
theorem law_try.tw1342540944028927926 : True := trivial
theorem law_try.tw11895034638071364827 : True := trivial
theorem law_try.tw9493020119901474867 : True := trivial
theorem law_try.tw2222022180976264377 : True := trivial
theorem law_try.tw11243316400508436962 : True := trivial
theorem law_try.tw11021295245977852536 : True := trivial
theorem law_try.tw7534485690212714880 : True := trivial
theorem law_try.tw12197457723428782539 : True := trivial
theorem law_try.tw16075972375334455622 : True := trivial
theorem law_try.tw2983916338190733166 : True := trivial
theorem law_try.tw12528871235101126811 : True := trivial
theorem law_try.tw9555834533146002357 : True := trivial
theorem law_try.tw17830516815947881353 : True := trivial
theorem law_try.tw2619429271964977593 : True := trivial
theorem law_try.tw4000730500935045340 : True := trivial
theorem law_try.tw1735984465494873981 : True := trivial
theorem law_try.tw15349609921057121240 : True := trivial
theorem law_try.tw4910273861338554482 : True := trivial
theorem law_try.tw1314032790907888021 : True := trivial
theorem law_try.tw9652271939283695341 : True := trivial
theorem law_try.tw10934512606687508146 : True := trivial
theorem law_try.tw13596764018723632376 : True := trivial
theorem law_try.tw2700055198782196069 : True := trivial
theorem law_try.tw15210482563878656276 : True := trivial
theorem law_try.tw13517079006056536488 : True := trivial
theorem law_try.tw17240354236854499504 : True := trivial
theorem law_try.tw1778275726510449547 : True := trivial
theorem law_try.tw15915082478684594874 : True := trivial
theorem law_try.tw8049614023473369217 : True := trivial
theorem law_try.tw16771440293799094196 : True := trivial
theorem law_try.tw9258806398558851059 : True := trivial
theorem law_try.tw14416175160056035426 : True := trivial
theorem law_try.tw9576700914153977535 : True := trivial
theorem law_try.tw9768433523357498642 : True := trivial
theorem law_try.tw4124595927969862484 : True := trivial
theorem law_try.tw5992873837011190991 : True := trivial
theorem law_try.tw11766398316822146842 : True := trivial
theorem law_try.tw7113061773280523406 : True := trivial
theorem law_try.tw11980261218433479524 : True := trivial
theorem law_try.tw16314132363037738803 : True := trivial
theorem law_try.tw4491081006287268328 : True := trivial
theorem law_try.tw16630467434971995568 : True := trivial
theorem law_try.tw14764551938352093345 : True := trivial
theorem law_try.tw9726639048421662973 : True := trivial
theorem law_try.tw9328426689293969543 : True := trivial
theorem law_try.tw9306220863116689361 : True := trivial
theorem law_try.tw14029689853376889947 : True := trivial
theorem law_try.tw8944513125224006159 : True := trivial
theorem law_try.tw7848848017358330952 : True := trivial
theorem law_try.tw16679159686120026727 : True := trivial
theorem law_try.tw282875611090272800 : True := trivial
theorem law_try.tw3803819325811523474 : True := trivial
theorem law_try.tw8014001871882098298 : True := trivial
theorem law_try.tw544883133452577233 : True := trivial
theorem law_try.tw8451494774153222686 : True := trivial
theorem law_try.tw71488279707906349 : True := trivial
theorem law_try.tw17159961090834342067 : True := trivial
theorem law_try.tw7596778141831904561 : True := trivial
theorem law_try.tw10642000621280939873 : True := trivial
theorem law_try.tw1227264972273140688 : True := trivial
theorem law_try.tw5841561540070076048 : True := trivial
theorem law_try.tw8016970347185415146 : True := trivial
theorem law_try.tw866885447319296094 : True := trivial
theorem law_try.tw17576851289434302696 : True := trivial
theorem law_try.tw326162814259000795 : True := trivial
theorem law_try.tw481356421941720791 : True := trivial
theorem law_try.tw6626273187326907676 : True := trivial
theorem law_try.tw2498544946713922327 : True := trivial
set_option Elab.async true in
set_option maxRecDepth 100000 in
set_option maxHeartbeats 8000000 in
theorem law_try : PySem.Challenge.rw_np0241_01.Holds := by
  w_on
  o_law
  k_head
  (case hw => w_witness2)
  k_fill
  intro w s₀ s₁ mg mb G Y fa o pm cd doc dV kV ho hd hcd hD hmg hg args vals as hpre hlay hrd hwl hlo
  have KX := km_in_of Y
  km_tabs Y
  have hmg2 := hmg
  refine Ground.open G ?_
  intro T B D TE TW
  try (refine guard_noD D (by decide +kernel) ?_; clear D)
  km_lay T hmg ho hd cd
  clear hmg
  wrow_args hpre hlay hrd hwl hlo
  rename_i ns hs hl0 hL0 hr0 hl2 A1 A2 a2 vs A3 hL ra w1 r0 hI hr hc1 hc2
  refine join_ ⟨by kernel_rfl, by kernel_rfl, by kernel_rfl, by kernel_rfl, by kernel_rfl, by kernel_rfl, by kernel_rfl, by kernel_rfl, by kernel_rfl, by kernel_rfl, by kernel_rfl, by kernel_rfl⟩ KX T hT9 hmg2 w1 (law_all (by omega) (bits_ok hL0)) fun s' h1 h2 h3 h4 => ?_
  exact good_ hT9 hg h1 h2 h3 h4 (fun _ => rfl) (by kernel_rfl)
end Mine
theorem PySem.Challenge.cw_np0241_01_holds : PySem.Challenge.rw_np0241_01.Holds :=
  Mine.law_try
