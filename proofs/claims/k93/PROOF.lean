import PyProof.Rows.All
import Wide.All
import OpenK.AllK
import Wide.FinOn
import HandS.ForMost
import HandS.Exc
import HandS.ExcInit
import HandS.CallSlots
import HandS.Defaults
import HandS.IsInst
import HandS.Property
import HandS.Gcd
import HandS.Wide
import HandS.Flow
import HandS.Style
import HandS.Head0
import HandS.Head1
import HandS.Head2
import HandS.HeadEnd
import HandS.HeadHook1
import HandS.HeadHook2
import HandS.Codes
import HandS.Head3
import HandS.ExcOwn
import HandS.ClsMeth
import HandS.Iter
import HandS.Conv
import HandS.Walk
import HandS.Zip
import HandS.TryOnly
import HandS.OwnEq
import HandS.SlotsOwn
import KE.GoesMore
import HandS.Dict
import HandS.DictComp
import HandS.More
import KE.KOpsOwn
import PySem.Challenge.RW_whosefirst_k93_beats_and_echoes
set_option Elab.async false
set_option linter.all false
set_option maxRecDepth 100000
set_option maxHeartbeats 0
/-! What the head is asked for: defs and facts. -/
namespace Z
open PySem PySem.Spec PyProof.Rows L2

def allTy : List String := ["NoneType", "bool", "int", "str", "tuple", "list", "dict"]
/-- where a def stands: a module's name; a class's method, property, static method -/
inductive Wh where
  | glo (x : Str)
  | met (x m : Str)
  | prp (x m : Str)
  | sta (x m : Str)
def recAt (K : PySem.W.Frag) (p : Addr) (T : String) : Addr := match PySem.W.recIn K p T with
  | some (.ref f :: _) => f
  | _ => 0
def Wh.ad (K : PySem.W.Frag) : Wh → Addr
  | .glo x => He.ga K x
  | .met x m => He.ma K (He.ga K x) m
  | .prp x m => recAt K (He.ma K (He.ga K x) m) "property"
  | .sta x m => recAt K (He.ma K (He.ga K x) m) "staticmethod"
structure DefZ where
  wh : Wh
  name : Str
  qual : Str
  params : Arguments
  body : List Stmt
  scope : Scope
  dfl : List He.Dv := []
def fnZ (K : PySem.W.Frag) (p : Wh) : He.FnW := match K.lookup (p.ad K) with
  | some ⟨_, _, .func g, _⟩ => some (g.name, g.qualname, g.params, g.body, g.scope, g.globals, g.closure, g.builtins)
  | _ => none
def DefZ.val (d : DefZ) : He.FnW := some (d.name, d.qual, d.params, .stmts d.body, d.scope, mainGlobals, [], builtinsNs)
def DefZ.dvs (K : PySem.W.Frag) (d : DefZ) : List V := d.dfl.map (He.Dv.v K)
def DefZ.ok (K : PySem.W.Frag) (d : DefZ) : Bool := PySem.W.keepIn K (.ref (d.wh.ad K)) && (match K.lookup (d.wh.ad K) with
  | some ⟨_, _, .func g, _⟩ => PySem.W.codeIn K g.code d.qual && He.dflB K g.defaults (d.dvs K)
  | _ => false)
theorem DefZ.funD {K : PySem.W.Frag} {d : DefZ} (e : fnZ K d.wh = d.val) (c : d.ok K = true) : ∃ fd, FunD K d.name d.qual d.params d.body d.scope (d.dvs K) [] (d.wh.ad K) fd := by
  obtain ⟨kp, c2⟩ := He.ba c
  unfold fnZ at e
  cases q : K.lookup (d.wh.ad K) with
  | none =>
    rw [q] at c2
    cases c2
  | some o =>
    obtain ⟨oc, od, dt, osl⟩ := o
    rw [q] at c2 e
    cases dt with
    | func g =>
      obtain ⟨m1, m2, m3, m4, m5, m6, m7, m8, m9, m10, m11, m12, m13, m14, m15⟩ := g
      have e2 : (some (m1, m2, m3, m4, m5, m6, m7, m15) : He.FnW) = some (d.name, d.qual, d.params, .stmts d.body, d.scope, mainGlobals, [], builtinsNs) := e
      simp only [Option.some.injEq, Prod.mk.injEq] at e2
      obtain ⟨g1, g2, g3, g4, g5, g6, g7, g8⟩ := e2
      subst g1 g2 g3 g4 g5 g6 g7 g8
      obtain ⟨k1, k2⟩ := He.ba (show (PySem.W.codeIn K m13 d.qual && He.dflB K m8 (d.dvs K)) = true from c2)
      exact ⟨_, ⟨oc, od, m8, m9, m10, m11, m12, m13, m14, osl, rfl, q, k1, He.dflB_ok k2, .inl rfl⟩, kp⟩
    | _ => cases c2
/-! ### facts -/
abbrev Fz : Type := PySem.W.Frag → Bool
/-- what an object names; nothing behind a code object is asked for -/
def refsZ (g : Addr → Option Obj) (a : Addr) : List Addr := match g a with
  | some o => (match o.cls with
    | .type n => (match n == "code" with
      | true => []
      | false => He.refsD o)
    | _ => He.refsD o)
  | none => []
/-- those of l that the mask lacks -/
def addZ : List Addr → Nat → List Addr → Nat × List Addr
  | [], m, acc => (m, acc)
  | b :: l, m, acc => HandSHeadRun.frNat b fun b => match Nat.beq (Nat.mod (Nat.shiftRight m b) 2) 1 with
    | true => addZ l m acc
    | false => HandSHeadRun.frNat (Nat.lor m (Nat.shiftLeft 1 b)) fun m => addZ l m (b :: acc)
def growZ (g : Addr → Option Obj) : Nat → List Addr → Nat → List Addr → List Addr
  | 0, _, _, all => all
  | n + 1, fr, m, all => match addZ (fr.flatMap (refsZ g)) m [] with
    | (m, new) => HandSHeadRun.frNat m fun m => growZ g n new m (all ++ new)
def asZ (g : Addr → Option Obj) (n : Nat) : List Addr := growZ g n [mainGlobals, cStatics] (Nat.lor (Nat.shiftLeft 1 mainGlobals) (Nat.shiftLeft 1 cStatics)) [mainGlobals, cStatics]
def obsZ (fa : List Fz) (fn : List DefZ) (K : PySem.W.Frag) : He.AlD := ((fa.all fun f => f K) && fn.all fun d => d.ok K, fn.map fun d => fnZ K d.wh)
def valZ (fn : List DefZ) : He.AlD := (true, fn.map DefZ.val)
def SaysZ (fa : List Fz) (fn : List DefZ) (K : PySem.W.Frag) : Prop := obsZ fa fn K = valZ fn
def obsZG (n : Nat) (fa : List Fz) (fn : List DefZ) (g : Addr → Option Obj) : He.AlD := obsZ fa fn (He.frG g (asZ g n))
def hookZ (n : Nat) (fa : List Fz) (fn : List DefZ) : PySem.W.Hook where
  α := He.AlD
  obs := fun s => obsZG n fa fn s.heap.get?
  val := fun _ => valZ fn
  says := fun _ h => ∃ K : PySem.W.Frag, K.In h ∧ SaysZ fa fn K
  of := fun _ _ e => ⟨_, He.frG_in, e⟩
  keeps := fun _ _ _ ⟨K, hK, c⟩ k => ⟨K, PySem.W.Frag.In.keeps hK k, c⟩
theorem obsZG_eq {n : Nat} {fa : List Fz} {fn : List DefZ} {g : Addr → Option Obj} {s : Shared} (h : ∀ a, g a = s.heap.get? a) : obsZG n fa fn g = (hookZ n fa fn).obs s := by
  rw [show g = s.heap.get? from funext h]
  rfl
section
variable {fa : List Fz} {fn : List DefZ} {K : PySem.W.Frag}
theorem SaysZ.fact (c : SaysZ fa fn K) (i : Nat) {f : Fz} (h : fa[i]? = some f := by rfl) : f K = true := by
  have h1 := (He.ba (show ((fa.all fun f => f K) && fn.all fun d => d.ok K) = true from congrArg (fun z : He.AlD => z.1) c)).1
  exact List.all_eq_true.mp h1 f (List.mem_of_getElem? h)
theorem SaysZ.def_ (c : SaysZ fa fn K) (i : Nat) {d : DefZ} (h : fn[i]? = some d := by rfl) : ∃ fd, FunD K d.name d.qual d.params d.body d.scope (d.dvs K) [] (d.wh.ad K) fd := by
  have h2 := (He.ba (show ((fa.all fun f => f K) && fn.all fun d => d.ok K) = true from congrArg (fun z : He.AlD => z.1) c)).2
  have h3 : fn.map (fun d => fnZ K d.wh) = fn.map DefZ.val := congrArg (fun z : He.AlD => z.2) c
  have h4 : (fn.map fun d => fnZ K d.wh)[i]? = (fn.map DefZ.val)[i]? := by rw [h3]
  rw [List.getElem?_map, List.getElem?_map, h] at h4
  exact DefZ.funD (Option.some.inj h4) (List.all_eq_true.mp h2 d (List.mem_of_getElem? h))
end
/-! ### what the facts say -/
def eqF {α : Type} [DecidableEq α] (a b : α) : Bool := decide (a = b)
def fGlo (x : Str) : Fz := fun K => (He.Fa.glo x).ok K
def fFree (x : Str) : Fz := fun K => (He.Fa.free x).ok K
def fBlt (x : Str) (id : String) : Fz := fun K => eqF (PySem.W.nsIn K mainGlobals x) (some (some (.builtin id)))
def fInt (x : Str) (i : Int) : Fz := fun K => (He.Fa.int x i).ok K
def fStr (x i : Str) : Fz := fun K => (He.Fa.str x i).ok K
def fCls (x : Str) (fs : List Str) : Fz := fun K => (He.Fa.cls x).ok K && fs.all fun f => (He.Fa.noat x f).ok K
def fMk (x : Str) : Fz := fun K => (He.Fa.mkr x).ok K
def fMet (x m : Str) : Fz := fun K => (He.Fa.meth x m).ok K
def fTy (x : Str) : Fz := fun K => eqF (PySem.W.findIn K (.ref (He.ga K x)) "__class__") (some (some (.builtin "object.__class__"))) && (eqF (PySem.W.specialIn K (.builtin "object.__class__") "__get__") (some (some (.builtin "getset_descriptor.__get__"))) &&
  (eqF (PySem.W.takesIn K (.builtin "object.__class__")) (some true) && eqF (PySem.W.mroIn K (He.ga K x) (.type "object")) (some true)))
def fKiT (x : Str) (n : String) : Fz := fun K => eqF (PySem.W.kitOne K (.ref (He.ga K x)) (.type n)) (some false)
def fKiO (x y : Str) (b : Bool) : Fz := fun K => eqF (PySem.W.kitOne K (.ref (He.ga K x)) (.ref (He.ga K y))) (some b)
def fKiB (y : Str) : Fz := fun K => allTy.all fun m => eqF (PySem.W.kitOne K (.type m) (.ref (He.ga K y))) (some false)
def fRd (x dr : Str) : Fz := fun K => match PySem.W.findIn K (.ref (He.ga K x)) dr with
  | some none => true
  | some (some (.ref _)) => true
  | _ => false
def fSf (x : Str) : Fz := fun K => PySem.W.selfFirst K (He.ga K x)
def fBiT (x dn dr : Str) (T : String) : Fz := fun K => (PySem.W.findIn K (.type T) dn).isSome && ((PySem.W.findIn K (.type T) dr).isSome && eqF (PySem.W.subIn K (.type T) (.ref (He.ga K x))) (some false))
def fSub (x y : Str) : Fz := fun K => eqF (PySem.W.subIn K (.ref (He.ga K y)) (.ref (He.ga K x))) (some false) && !eqF (He.ga K x) (He.ga K y)
def fNfT (x : Str) (T : String) : Fz := fun K => PySem.W.notFirst K (He.ga K x) (.type T)
def fNfO (x y : Str) : Fz := fun K => PySem.W.notFirst K (He.ga K x) (.ref (He.ga K y))
def fNe (x : Str) : Fz := fun K => eqF (PySem.W.findIn K (.ref (He.ga K x)) "__ne__") (some (some (.builtin "object.__ne__")))
def fPrp (x m : Str) : Fz := fun K => eqF (PySem.W.findIn K (.ref (He.ga K x)) m) (some (some (.ref (He.ma K (He.ga K x) m)))) && (eqF (PySem.W.specialIn K (.ref (He.ma K (He.ga K x) m)) "__get__") (some (some (.builtin "property.__get__"))) &&
  (eqF (PySem.W.takesIn K (.ref (He.ma K (He.ga K x) m))) (some true) && (match PySem.W.recIn K (He.ma K (He.ga K x) m) "property" with
    | some (.ref _ :: _) => true
    | _ => false)))
def fSta (x m : Str) : Fz := fun K => PySem.W.readsIn K (He.ga K x) (.type "type") && (eqF (PySem.W.specialIn K (.ref (He.ga K x)) "__getattribute__") (some (some (.builtin "type.__getattribute__"))) &&
  ((match PySem.W.findCls K (.ref (He.ga K x)) (.type "type") m with
    | some (.get (.builtin "staticmethod.__get__") (.ref p) .none (.ref C)) => eqF p (He.ma K (He.ga K x) m) && eqF C (He.ga K x)
    | _ => false) && (match PySem.W.recIn K (He.ma K (He.ga K x) m) "staticmethod" with
    | some (.ref _ :: _) => true
    | _ => false)))
section
variable {K : PySem.W.Frag} {h : Heap} {mg : Str → Option Value}
theorem eqF_ok {α : Type} [DecidableEq α] {a b : α} (h : eqF a b = true) : a = b := of_decide_eq_true h
theorem blt_ok (X : K.In h) (G : h.Ns mainGlobals mg) {x : Str} {id : String} (c : fBlt x id K = true) : mg x = some (.builtin id) := PySem.W.mg_of X G (eqF_ok c)
theorem noat_all {x : Str} {fs : List Str} (c : fCls x fs K = true) : Cls K (He.ga K x) ∧ ∀ f ∈ fs, NoAttr K (He.ga K x) f := by
  obtain ⟨a, b⟩ := He.ba c
  exact ⟨He.cls_ok a, fun f hf => He.noat_ok (List.all_eq_true.mp b f hf)⟩
theorem rd_ok {x dr : Str} (c : fRd x dr K = true) : ∃ rc, PySem.W.findIn K (.ref (He.ga K x)) dr = some rc ∧ (rc = none ∨ ∃ g : Addr, rc = some (.ref g)) := by
  unfold fRd at c
  split at c
  · rename_i e
    exact ⟨_, e, .inl rfl⟩
  · rename_i g e
    exact ⟨_, e, .inr ⟨g, rfl⟩⟩
  · cases c
theorem biT_ok {x dn dr : Str} {T : String} (c : fBiT x dn dr T K = true) : (∃ fo ro, PySem.W.findIn K (.type T) dn = some fo ∧ PySem.W.findIn K (.type T) dr = some ro) ∧ PySem.W.subIn K (.type T) (.ref (He.ga K x)) = some false := by
  obtain ⟨a, b⟩ := He.ba c
  obtain ⟨b, d⟩ := He.ba b
  obtain ⟨fo, e1⟩ := Option.isSome_iff_exists.mp a
  obtain ⟨ro, e2⟩ := Option.isSome_iff_exists.mp b
  exact ⟨⟨fo, ro, e1, e2⟩, eqF_ok d⟩
theorem sub_ok {x y : Str} (c : fSub x y K = true) : PySem.W.subIn K (.ref (He.ga K y)) (.ref (He.ga K x)) = some false ∧ He.ga K x ≠ He.ga K y := by
  obtain ⟨a, b⟩ := He.ba c
  refine ⟨eqF_ok a, fun z => ?_⟩
  rw [show eqF (He.ga K x) (He.ga K y) = true from decide_eq_true z] at b
  cases b
theorem prp_ok {x m : Str} (c : fPrp x m K = true) : PropOf K (He.ga K x) m (He.ma K (He.ga K x) m) ((Wh.prp x m).ad K) := by
  obtain ⟨a, b⟩ := He.ba c
  obtain ⟨b, d⟩ := He.ba b
  obtain ⟨d, e⟩ := He.ba d
  refine ⟨eqF_ok a, eqF_ok b, eqF_ok d, ?_⟩
  show ∃ rest, PySem.W.recIn K (He.ma K (He.ga K x) m) "property" = some (.ref (recAt K (He.ma K (He.ga K x) m) "property") :: rest)
  unfold recAt
  revert e
  split
  · rename_i g rest e
    intro _
    rw [e]
    exact ⟨rest, rfl⟩
  · exact fun z => nomatch z
theorem sta_ok {x m : Str} (c : fSta x m K = true) : PySem.W.readsIn K (He.ga K x) (.type "type") = true ∧ PySem.W.specialIn K (.ref (He.ga K x)) "__getattribute__" = some (some (.builtin "type.__getattribute__")) ∧
    ∃ p rest, PySem.W.findCls K (.ref (He.ga K x)) (.type "type") m = some (.get (.builtin "staticmethod.__get__") (.ref p) .none (.ref (He.ga K x))) ∧ PySem.W.recIn K p "staticmethod" = some (.ref ((Wh.sta x m).ad K) :: rest) := by
  obtain ⟨a, b⟩ := He.ba c
  obtain ⟨b, d⟩ := He.ba b
  obtain ⟨d, e⟩ := He.ba d
  refine ⟨a, eqF_ok b, He.ma K (He.ga K x) m, ?_⟩
  have h1 : PySem.W.findCls K (.ref (He.ga K x)) (.type "type") m = some (.get (.builtin "staticmethod.__get__") (.ref (He.ma K (He.ga K x) m)) .none (.ref (He.ga K x))) := by
    revert d
    split
    · rename_i p C q
      intro d
      obtain ⟨d1, d2⟩ := He.ba d
      rw [q, ← eqF_ok d1, ← eqF_ok d2]
    · exact fun z => nomatch z
  show ∃ rest, _ ∧ PySem.W.recIn K (He.ma K (He.ga K x) m) "staticmethod" = some (.ref (recAt K (He.ma K (He.ga K x) m) "staticmethod") :: rest)
  unfold recAt
  revert e
  split
  · rename_i g rest e
    intro _
    exact ⟨rest, h1, by rw [e]⟩
  · exact fun z => nomatch z
end
end Z

namespace Kw
open PySem PySem.Spec PyProof.Rows L2 Z
def top (i : Nat) : Stmt := PySem.Challenge.pw_whosefirst_k93_beats_and_echoes.main.body.getD i (.Pass ⟨0, 0, 0, 0⟩)
/-- _law_pen -/
abbrev s0 : Stmt := (top 96)
def d0 : DefZ := ⟨.glo ("_law_pen" : PySem.Str), ("_law_pen" : PySem.Str), ("_law_pen" : PySem.Str), defArgs s0, defBody s0, defScope s0, []⟩
/-- _law_draw -/
abbrev s1 : Stmt := (top 97)
def d1 : DefZ := ⟨.glo ("_law_draw" : PySem.Str), ("_law_draw" : PySem.Str), ("_law_draw" : PySem.Str), defArgs s1, defBody s1, defScope s1, []⟩
/-- _law_pick -/
abbrev s2 : Stmt := (top 98)
def d2 : DefZ := ⟨.glo ("_law_pick" : PySem.Str), ("_law_pick" : PySem.Str), ("_law_pick" : PySem.Str), defArgs s2, defBody s2, defScope s2, []⟩
/-- is_integer -/
abbrev s3 : Stmt := (top 21)
def d3 : DefZ := ⟨.glo ("is_integer" : PySem.Str), ("is_integer" : PySem.Str), ("is_integer" : PySem.Str), defArgs s3, defBody s3, defScope s3, []⟩
/-- Ratio.__init__ -/
abbrev s4 : Stmt := ((C8.clsBody (top 35)).getD 0 (.Pass ⟨0, 0, 0, 0⟩))
def d4 : DefZ := ⟨.met ("Ratio" : PySem.Str) ("__init__" : PySem.Str), ("__init__" : PySem.Str), ("Ratio.__init__" : PySem.Str), defArgs s4, defBody s4, defScope s4, [.int (1)]⟩
/-- ratio_from -/
abbrev s5 : Stmt := (top 32)
def d5 : DefZ := ⟨.glo ("ratio_from" : PySem.Str), ("ratio_from" : PySem.Str), ("ratio_from" : PySem.Str), defArgs s5, defBody s5, defScope s5, []⟩
/-- Ratio.__mul__ -/
abbrev s6 : Stmt := ((C8.clsBody (top 35)).getD 6 (.Pass ⟨0, 0, 0, 0⟩))
def d6 : DefZ := ⟨.met ("Ratio" : PySem.Str) ("__mul__" : PySem.Str), ("__mul__" : PySem.Str), ("Ratio.__mul__" : PySem.Str), defArgs s6, defBody s6, defScope s6, []⟩
/-- Ratio.__add__ -/
abbrev s7 : Stmt := ((C8.clsBody (top 35)).getD 4 (.Pass ⟨0, 0, 0, 0⟩))
def d7 : DefZ := ⟨.met ("Ratio" : PySem.Str) ("__add__" : PySem.Str), ("__add__" : PySem.Str), ("Ratio.__add__" : PySem.Str), defArgs s7, defBody s7, defScope s7, []⟩
/-- is_ratio -/
abbrev s8 : Stmt := (top 30)
def d8 : DefZ := ⟨.glo ("is_ratio" : PySem.Str), ("is_ratio" : PySem.Str), ("is_ratio" : PySem.Str), defArgs s8, defBody s8, defScope s8, []⟩
/-- Ratio.sign -/
abbrev s9 : Stmt := ((C8.clsBody (top 35)).getD 3 (.Pass ⟨0, 0, 0, 0⟩))
def d9 : DefZ := ⟨.prp ("Ratio" : PySem.Str) ("sign" : PySem.Str), ("sign" : PySem.Str), ("Ratio.sign" : PySem.Str), defArgs s9, defBody s9, defScope s9, []⟩
/-- Ratio.of -/
abbrev s10 : Stmt := ((C8.clsBody (top 35)).getD 1 (.Pass ⟨0, 0, 0, 0⟩))
def d10 : DefZ := ⟨.sta ("Ratio" : PySem.Str) ("of" : PySem.Str), ("of" : PySem.Str), ("Ratio.of" : PySem.Str), defArgs s10, defBody s10, defScope s10, []⟩
/-- need_beats -/
abbrev s11 : Stmt := (top 38)
def d11 : DefZ := ⟨.glo ("need_beats" : PySem.Str), ("need_beats" : PySem.Str), ("need_beats" : PySem.Str), defArgs s11, defBody s11, defScope s11, []⟩
/-- Ratio.over -/
abbrev s12 : Stmt := ((C8.clsBody (top 35)).getD 13 (.Pass ⟨0, 0, 0, 0⟩))
def d12 : DefZ := ⟨.met ("Ratio" : PySem.Str) ("over" : PySem.Str), ("over" : PySem.Str), ("Ratio.over" : PySem.Str), defArgs s12, defBody s12, defScope s12, []⟩
/-- Ratio.__neg__ -/
abbrev s13 : Stmt := ((C8.clsBody (top 35)).getD 7 (.Pass ⟨0, 0, 0, 0⟩))
def d13 : DefZ := ⟨.met ("Ratio" : PySem.Str) ("__neg__" : PySem.Str), ("__neg__" : PySem.Str), ("Ratio.__neg__" : PySem.Str), defArgs s13, defBody s13, defScope s13, []⟩
/-- Ratio.__sub__ -/
abbrev s14 : Stmt := ((C8.clsBody (top 35)).getD 5 (.Pass ⟨0, 0, 0, 0⟩))
def d14 : DefZ := ⟨.met ("Ratio" : PySem.Str) ("__sub__" : PySem.Str), ("__sub__" : PySem.Str), ("Ratio.__sub__" : PySem.Str), defArgs s14, defBody s14, defScope s14, []⟩
/-- Ratio.is_below -/
abbrev s15 : Stmt := ((C8.clsBody (top 35)).getD 14 (.Pass ⟨0, 0, 0, 0⟩))
def d15 : DefZ := ⟨.met ("Ratio" : PySem.Str) ("is_below" : PySem.Str), ("is_below" : PySem.Str), ("Ratio.is_below" : PySem.Str), defArgs s15, defBody s15, defScope s15, []⟩
/-- echo_beats -/
abbrev s16 : Stmt := (top 41)
def d16 : DefZ := ⟨.glo ("echo_beats" : PySem.Str), ("echo_beats" : PySem.Str), ("echo_beats" : PySem.Str), defArgs s16, defBody s16, defScope s16, []⟩
/-- middle_beats -/
abbrev s17 : Stmt := (top 42)
def d17 : DefZ := ⟨.glo ("middle_beats" : PySem.Str), ("middle_beats" : PySem.Str), ("middle_beats" : PySem.Str), defArgs s17, defBody s17, defScope s17, []⟩
/-- Ratio.__eq__ -/
abbrev s18 : Stmt := ((C8.clsBody (top 35)).getD 10 (.Pass ⟨0, 0, 0, 0⟩))
def d18 : DefZ := ⟨.met ("Ratio" : PySem.Str) ("__eq__" : PySem.Str), ("__eq__" : PySem.Str), ("Ratio.__eq__" : PySem.Str), defArgs s18, defBody s18, defScope s18, []⟩
/-- beats_left -/
abbrev s19 : Stmt := (top 40)
def d19 : DefZ := ⟨.glo ("beats_left" : PySem.Str), ("beats_left" : PySem.Str), ("beats_left" : PySem.Str), defArgs s19, defBody s19, defScope s19, []⟩
/-- beats_right -/
abbrev s20 : Stmt := (top 39)
def d20 : DefZ := ⟨.glo ("beats_right" : PySem.Str), ("beats_right" : PySem.Str), ("beats_right" : PySem.Str), defArgs s20, defBody s20, defScope s20, []⟩
/-- _law_sums_right -/
abbrev s21 : Stmt := (top 99)
def d21 : DefZ := ⟨.glo ("_law_sums_right" : PySem.Str), ("_law_sums_right" : PySem.Str), ("_law_sums_right" : PySem.Str), defArgs s21, defBody s21, defScope s21, []⟩
/-- is_listed -/
abbrev s22 : Stmt := (top 24)
def d22 : DefZ := ⟨.glo ("is_listed" : PySem.Str), ("is_listed" : PySem.Str), ("is_listed" : PySem.Str), defArgs s22, defBody s22, defScope s22, []⟩
/-- are_ratios -/
abbrev s23 : Stmt := (top 31)
def d23 : DefZ := ⟨.glo ("are_ratios" : PySem.Str), ("are_ratios" : PySem.Str), ("are_ratios" : PySem.Str), defArgs s23, defBody s23, defScope s23, []⟩
/-- summed -/
abbrev s24 : Stmt := (top 36)
def d24 : DefZ := ⟨.glo ("summed" : PySem.Str), ("summed" : PySem.Str), ("summed" : PySem.Str), defArgs s24, defBody s24, defScope s24, []⟩
/-- product_at -/
abbrev s25 : Stmt := (top 55)
def d25 : DefZ := ⟨.glo ("product_at" : PySem.Str), ("product_at" : PySem.Str), ("product_at" : PySem.Str), defArgs s25, defBody s25, defScope s25, []⟩
/-- kind_by -/
abbrev s26 : Stmt := (top 54)
def d26 : DefZ := ⟨.glo ("kind_by" : PySem.Str), ("kind_by" : PySem.Str), ("kind_by" : PySem.Str), defArgs s26, defBody s26, defScope s26, []⟩
/-- Step.__init__ -/
abbrev s27 : Stmt := ((C8.clsBody (top 58)).getD 0 (.Pass ⟨0, 0, 0, 0⟩))
def d27 : DefZ := ⟨.met ("Step" : PySem.Str) ("__init__" : PySem.Str), ("__init__" : PySem.Str), ("Step.__init__" : PySem.Str), defArgs s27, defBody s27, defScope s27, []⟩
/-- lights_along -/
abbrev s28 : Stmt := (top 94)
def d28 : DefZ := ⟨.glo ("lights_along" : PySem.Str), ("lights_along" : PySem.Str), ("lights_along" : PySem.Str), defArgs s28, defBody s28, defScope s28, []⟩
/-- lit_spot -/
abbrev s29 : Stmt := (top 87)
def d29 : DefZ := ⟨.glo ("lit_spot" : PySem.Str), ("lit_spot" : PySem.Str), ("lit_spot" : PySem.Str), defArgs s29, defBody s29, defScope s29, []⟩
/-- is_part -/
abbrev s30 : Stmt := (top 90)
def d30 : DefZ := ⟨.glo ("is_part" : PySem.Str), ("is_part" : PySem.Str), ("is_part" : PySem.Str), defArgs s30, defBody s30, defScope s30, []⟩
/-- Tour.__init__ -/
abbrev s31 : Stmt := ((C8.clsBody (top 91)).getD 0 (.Pass ⟨0, 0, 0, 0⟩))
def d31 : DefZ := ⟨.met ("Tour" : PySem.Str) ("__init__" : PySem.Str), ("__init__" : PySem.Str), ("Tour.__init__" : PySem.Str), defArgs s31, defBody s31, defScope s31, []⟩
/-- _law_spot -/
abbrev s32 : Stmt := (top 100)
def d32 : DefZ := ⟨.glo ("_law_spot" : PySem.Str), ("_law_spot" : PySem.Str), ("_law_spot" : PySem.Str), defArgs s32, defBody s32, defScope s32, []⟩
/-- Step.__eq__ -/
abbrev s33 : Stmt := ((C8.clsBody (top 58)).getD 7 (.Pass ⟨0, 0, 0, 0⟩))
def d33 : DefZ := ⟨.met ("Step" : PySem.Str) ("__eq__" : PySem.Str), ("__eq__" : PySem.Str), ("Step.__eq__" : PySem.Str), defArgs s33, defBody s33, defScope s33, []⟩
/-- need_unlike -/
abbrev s34 : Stmt := (top 67)
def d34 : DefZ := ⟨.glo ("need_unlike" : PySem.Str), ("need_unlike" : PySem.Str), ("need_unlike" : PySem.Str), defArgs s34, defBody s34, defScope s34, []⟩
/-- is_within -/
abbrev s35 : Stmt := (top 22)
def d35 : DefZ := ⟨.glo ("is_within" : PySem.Str), ("is_within" : PySem.Str), ("is_within" : PySem.Str), defArgs s35, defBody s35, defScope s35, []⟩
/-- is_name -/
abbrev s36 : Stmt := (top 23)
def d36 : DefZ := ⟨.glo ("is_name" : PySem.Str), ("is_name" : PySem.Str), ("is_name" : PySem.Str), defArgs s36, defBody s36, defScope s36, []⟩
/-- is_spot -/
abbrev s37 : Stmt := (top 62)
def d37 : DefZ := ⟨.glo ("is_spot" : PySem.Str), ("is_spot" : PySem.Str), ("is_spot" : PySem.Str), defArgs s37, defBody s37, defScope s37, []⟩
/-- are_spots -/
abbrev s38 : Stmt := (top 63)
def d38 : DefZ := ⟨.glo ("are_spots" : PySem.Str), ("are_spots" : PySem.Str), ("are_spots" : PySem.Str), defArgs s38, defBody s38, defScope s38, []⟩
/-- Book.__init__ -/
abbrev s39 : Stmt := ((C8.clsBody (top 70)).getD 0 (.Pass ⟨0, 0, 0, 0⟩))
def d39 : DefZ := ⟨.met ("Book" : PySem.Str) ("__init__" : PySem.Str), ("__init__" : PySem.Str), ("Book.__init__" : PySem.Str), defArgs s39, defBody s39, defScope s39, []⟩
/-- need_above -/
abbrev s40 : Stmt := (top 77)
def d40 : DefZ := ⟨.glo ("need_above" : PySem.Str), ("need_above" : PySem.Str), ("need_above" : PySem.Str), defArgs s40, defBody s40, defScope s40, []⟩
/-- need_count_of_axes -/
abbrev s41 : Stmt := (top 78)
def d41 : DefZ := ⟨.glo ("need_count_of_axes" : PySem.Str), ("need_count_of_axes" : PySem.Str), ("need_count_of_axes" : PySem.Str), defArgs s41, defBody s41, defScope s41, []⟩
/-- need_axis -/
abbrev s42 : Stmt := (top 72)
def d42 : DefZ := ⟨.glo ("need_axis" : PySem.Str), ("need_axis" : PySem.Str), ("need_axis" : PySem.Str), defArgs s42, defBody s42, defScope s42, []⟩
/-- square_of -/
abbrev s43 : Stmt := (top 74)
def d43 : DefZ := ⟨.glo ("square_of" : PySem.Str), ("square_of" : PySem.Str), ("square_of" : PySem.Str), defArgs s43, defBody s43, defScope s43, []⟩
/-- are_parts -/
abbrev s44 : Stmt := (top 75)
def d44 : DefZ := ⟨.glo ("are_parts" : PySem.Str), ("are_parts" : PySem.Str), ("are_parts" : PySem.Str), defArgs s44, defBody s44, defScope s44, []⟩
/-- Pace.__init__ -/
abbrev s45 : Stmt := ((C8.clsBody (top 80)).getD 0 (.Pass ⟨0, 0, 0, 0⟩))
def d45 : DefZ := ⟨.met ("Pace" : PySem.Str) ("__init__" : PySem.Str), ("__init__" : PySem.Str), ("Pace.__init__" : PySem.Str), defArgs s45, defBody s45, defScope s45, []⟩
/-- Pace.of_beats -/
abbrev s46 : Stmt := ((C8.clsBody (top 80)).getD 2 (.Pass ⟨0, 0, 0, 0⟩))
def d46 : DefZ := ⟨.sta ("Pace" : PySem.Str) ("of_beats" : PySem.Str), ("of_beats" : PySem.Str), ("Pace.of_beats" : PySem.Str), defArgs s46, defBody s46, defScope s46, []⟩
/-- need_step -/
abbrev s47 : Stmt := (top 52)
def d47 : DefZ := ⟨.glo ("need_step" : PySem.Str), ("need_step" : PySem.Str), ("need_step" : PySem.Str), defArgs s47, defBody s47, defScope s47, []⟩
/-- need_axes -/
abbrev s48 : Stmt := (top 53)
def d48 : DefZ := ⟨.glo ("need_axes" : PySem.Str), ("need_axes" : PySem.Str), ("need_axes" : PySem.Str), defArgs s48, defBody s48, defScope s48, []⟩
/-- Step.__add__ -/
abbrev s49 : Stmt := ((C8.clsBody (top 58)).getD 3 (.Pass ⟨0, 0, 0, 0⟩))
def d49 : DefZ := ⟨.met ("Step" : PySem.Str) ("__add__" : PySem.Str), ("__add__" : PySem.Str), ("Step.__add__" : PySem.Str), defArgs s49, defBody s49, defScope s49, []⟩
/-- Step.__neg__ -/
abbrev s50 : Stmt := ((C8.clsBody (top 58)).getD 6 (.Pass ⟨0, 0, 0, 0⟩))
def d50 : DefZ := ⟨.met ("Step" : PySem.Str) ("__neg__" : PySem.Str), ("__neg__" : PySem.Str), ("Step.__neg__" : PySem.Str), defArgs s50, defBody s50, defScope s50, []⟩
/-- Step.__sub__ -/
abbrev s51 : Stmt := ((C8.clsBody (top 58)).getD 4 (.Pass ⟨0, 0, 0, 0⟩))
def d51 : DefZ := ⟨.met ("Step" : PySem.Str) ("__sub__" : PySem.Str), ("__sub__" : PySem.Str), ("Step.__sub__" : PySem.Str), defArgs s51, defBody s51, defScope s51, []⟩
/-- need_book -/
abbrev s52 : Stmt := (top 64)
def d52 : DefZ := ⟨.glo ("need_book" : PySem.Str), ("need_book" : PySem.Str), ("need_book" : PySem.Str), defArgs s52, defBody s52, defScope s52, []⟩
/-- need_pace -/
abbrev s53 : Stmt := (top 76)
def d53 : DefZ := ⟨.glo ("need_pace" : PySem.Str), ("need_pace" : PySem.Str), ("need_pace" : PySem.Str), defArgs s53, defBody s53, defScope s53, []⟩
/-- need_span -/
abbrev s54 : Stmt := (top 46)
def d54 : DefZ := ⟨.glo ("need_span" : PySem.Str), ("need_span" : PySem.Str), ("need_span" : PySem.Str), defArgs s54, defBody s54, defScope s54, []⟩
/-- need_happening -/
abbrev s55 : Stmt := (top 65)
def d55 : DefZ := ⟨.glo ("need_happening" : PySem.Str), ("need_happening" : PySem.Str), ("need_happening" : PySem.Str), defArgs s55, defBody s55, defScope s55, []⟩
/-- need_names_of -/
abbrev s56 : Stmt := (top 66)
def d56 : DefZ := ⟨.glo ("need_names_of" : PySem.Str), ("need_names_of" : PySem.Str), ("need_names_of" : PySem.Str), defArgs s56, defBody s56, defScope s56, []⟩
/-- worth_of -/
abbrev s57 : Stmt := (top 82)
def d57 : DefZ := ⟨.glo ("worth_of" : PySem.Str), ("worth_of" : PySem.Str), ("worth_of" : PySem.Str), defArgs s57, defBody s57, defScope s57, []⟩
/-- Step.nothing -/
abbrev s58 : Stmt := ((C8.clsBody (top 58)).getD 1 (.Pass ⟨0, 0, 0, 0⟩))
def d58 : DefZ := ⟨.sta ("Step" : PySem.Str) ("nothing" : PySem.Str), ("nothing" : PySem.Str), ("Step.nothing" : PySem.Str), defArgs s58, defBody s58, defScope s58, []⟩
/-- Step.__mul__ -/
abbrev s59 : Stmt := ((C8.clsBody (top 58)).getD 5 (.Pass ⟨0, 0, 0, 0⟩))
def d59 : DefZ := ⟨.met ("Step" : PySem.Str) ("__mul__" : PySem.Str), ("__mul__" : PySem.Str), ("Step.__mul__" : PySem.Str), defArgs s59, defBody s59, defScope s59, []⟩
/-- Book.step_of -/
abbrev s60 : Stmt := ((C8.clsBody (top 70)).getD 3 (.Pass ⟨0, 0, 0, 0⟩))
def d60 : DefZ := ⟨.met ("Book" : PySem.Str) ("step_of" : PySem.Str), ("step_of" : PySem.Str), ("Book.step_of" : PySem.Str), defArgs s60, defBody s60, defScope s60, []⟩
/-- called_quotient -/
abbrev s61 : Stmt := (top 85)
def d61 : DefZ := ⟨.glo ("called_quotient" : PySem.Str), ("called_quotient" : PySem.Str), ("called_quotient" : PySem.Str), defArgs s61, defBody s61, defScope s61, []⟩
/-- _law_slow -/
abbrev s62 : Stmt := (top 102)
def d62 : DefZ := ⟨.glo ("_law_slow" : PySem.Str), ("_law_slow" : PySem.Str), ("_law_slow" : PySem.Str), defArgs s62, defBody s62, defScope s62, []⟩
/-- Book.spot_of -/
abbrev s63 : Stmt := ((C8.clsBody (top 70)).getD 2 (.Pass ⟨0, 0, 0, 0⟩))
def d63 : DefZ := ⟨.met ("Book" : PySem.Str) ("spot_of" : PySem.Str), ("spot_of" : PySem.Str), ("Book.spot_of" : PySem.Str), defArgs s63, defBody s63, defScope s63, []⟩
/-- called_worth -/
abbrev s64 : Stmt := (top 83)
def d64 : DefZ := ⟨.glo ("called_worth" : PySem.Str), ("called_worth" : PySem.Str), ("called_worth" : PySem.Str), defArgs s64, defBody s64, defScope s64, []⟩
/-- called_sign -/
abbrev s65 : Stmt := (top 84)
def d65 : DefZ := ⟨.glo ("called_sign" : PySem.Str), ("called_sign" : PySem.Str), ("called_sign" : PySem.Str), defArgs s65, defBody s65, defScope s65, []⟩
/-- are_terms -/
abbrev s66 : Stmt := (top 45)
def d66 : DefZ := ⟨.glo ("are_terms" : PySem.Str), ("are_terms" : PySem.Str), ("are_terms" : PySem.Str), defArgs s66, defBody s66, defScope s66, []⟩
/-- Span.__init__ -/
abbrev s67 : Stmt := ((C8.clsBody (top 49)).getD 0 (.Pass ⟨0, 0, 0, 0⟩))
def d67 : DefZ := ⟨.met ("Span" : PySem.Str) ("__init__" : PySem.Str), ("__init__" : PySem.Str), ("Span.__init__" : PySem.Str), defArgs s67, defBody s67, defScope s67, []⟩
/-- Span.between -/
abbrev s68 : Stmt := ((C8.clsBody (top 49)).getD 1 (.Pass ⟨0, 0, 0, 0⟩))
def d68 : DefZ := ⟨.sta ("Span" : PySem.Str) ("between" : PySem.Str), ("between" : PySem.Str), ("Span.between" : PySem.Str), defArgs s68, defBody s68, defScope s68, []⟩
/-- _law_book_right -/
abbrev s69 : Stmt := (top 101)
def d69 : DefZ := ⟨.glo ("_law_book_right" : PySem.Str), ("_law_book_right" : PySem.Str), ("_law_book_right" : PySem.Str), defArgs s69, defBody s69, defScope s69, []⟩
/-- law -/
abbrev s70 : Stmt := (top 103)
def d70 : DefZ := ⟨.glo ("law" : PySem.Str), ("law" : PySem.Str), ("law" : PySem.Str), defArgs s70, defBody s70, defScope s70, []⟩
def fz : List Fz := [fFree ("int" : PySem.Str),
  fFree ("len" : PySem.Str),
  fFree ("abs" : PySem.Str),
  fGlo ("_law_draw" : PySem.Str),
  fFree ("isinstance" : PySem.Str),
  fFree ("bool" : PySem.Str),
  fGlo ("is_integer" : PySem.Str),
  fBlt ("gcd" : PySem.Str) "math.gcd",
  fKiO ("Ratio" : PySem.Str) ("Ratio" : PySem.Str) true,
  fGlo ("Ratio" : PySem.Str),
  fKiB ("Ratio" : PySem.Str),
  fMk ("Ratio" : PySem.Str),
  fGlo ("ratio_from" : PySem.Str),
  fGlo ("is_ratio" : PySem.Str),
  fSta ("Ratio" : PySem.Str) ("of" : PySem.Str),
  fPrp ("Ratio" : PySem.Str) ("sign" : PySem.Str),
  fMet ("Ratio" : PySem.Str) ("__neg__" : PySem.Str),
  fBiT ("Ratio" : PySem.Str) ("__add__" : PySem.Str) ("__radd__" : PySem.Str) "int",
  fMet ("Ratio" : PySem.Str) ("__add__" : PySem.Str),
  fSf ("Ratio" : PySem.Str),
  fRd ("Ratio" : PySem.Str) ("__radd__" : PySem.Str),
  fBiT ("Ratio" : PySem.Str) ("__sub__" : PySem.Str) ("__rsub__" : PySem.Str) "int",
  fMet ("Ratio" : PySem.Str) ("__sub__" : PySem.Str),
  fRd ("Ratio" : PySem.Str) ("__rsub__" : PySem.Str),
  fGlo ("need_beats" : PySem.Str),
  fMet ("Ratio" : PySem.Str) ("over" : PySem.Str),
  fMet ("Ratio" : PySem.Str) ("is_below" : PySem.Str),
  fBiT ("Ratio" : PySem.Str) ("__mul__" : PySem.Str) ("__rmul__" : PySem.Str) "int",
  fMet ("Ratio" : PySem.Str) ("__mul__" : PySem.Str),
  fRd ("Ratio" : PySem.Str) ("__rmul__" : PySem.Str),
  fGlo ("echo_beats" : PySem.Str),
  fGlo ("beats_right" : PySem.Str),
  fNfT ("Ratio" : PySem.Str) "int",
  fNfO ("Ratio" : PySem.Str) ("Ratio" : PySem.Str),
  fMet ("Ratio" : PySem.Str) ("__eq__" : PySem.Str),
  fNe ("Ratio" : PySem.Str),
  fGlo ("beats_left" : PySem.Str),
  fGlo ("middle_beats" : PySem.Str),
  fFree ("tuple" : PySem.Str),
  fFree ("list" : PySem.Str),
  fGlo ("is_listed" : PySem.Str),
  fFree ("all" : PySem.Str),
  fGlo ("are_ratios" : PySem.Str),
  fGlo ("summed" : PySem.Str),
  fFree ("zip" : PySem.Str),
  fInt ("MOST_AXES" : PySem.Str) (3),
  fGlo ("product_at" : PySem.Str),
  fGlo ("kind_by" : PySem.Str),
  fGlo ("Step" : PySem.Str),
  fMk ("Step" : PySem.Str),
  fGlo ("is_part" : PySem.Str),
  fInt ("MOST_PARTS" : PySem.Str) (12),
  fGlo ("lights_along" : PySem.Str),
  fGlo ("lit_spot" : PySem.Str),
  fGlo ("Tour" : PySem.Str),
  fMk ("Tour" : PySem.Str),
  fKiO ("Step" : PySem.Str) ("Step" : PySem.Str) true,
  fKiB ("Step" : PySem.Str),
  fFree ("enumerate" : PySem.Str),
  fNfT ("Step" : PySem.Str) "int",
  fNfO ("Step" : PySem.Str) ("Step" : PySem.Str),
  fMet ("Step" : PySem.Str) ("__eq__" : PySem.Str),
  fFree ("str" : PySem.Str),
  fInt ("LONGEST" : PySem.Str) (12),
  fStr ("LETTERS" : PySem.Str) ("abcdefghijklmnopqrstuvwxyz" : PySem.Str),
  fStr ("FIGURES" : PySem.Str) ("0123456789" : PySem.Str),
  fFree ("dict" : PySem.Str),
  fGlo ("is_name" : PySem.Str),
  fGlo ("is_spot" : PySem.Str),
  fGlo ("is_within" : PySem.Str),
  fGlo ("are_spots" : PySem.Str),
  fInt ("MOST_HAPPENINGS" : PySem.Str) (8),
  fFree ("sorted" : PySem.Str),
  fGlo ("need_unlike" : PySem.Str),
  fGlo ("square_of" : PySem.Str),
  fGlo ("are_parts" : PySem.Str),
  fGlo ("need_above" : PySem.Str),
  fGlo ("need_count_of_axes" : PySem.Str),
  fGlo ("need_axis" : PySem.Str),
  fGlo ("Pace" : PySem.Str),
  fMk ("Pace" : PySem.Str),
  fFree ("range" : PySem.Str),
  fGlo ("need_step" : PySem.Str),
  fGlo ("need_axes" : PySem.Str),
  fMet ("Step" : PySem.Str) ("__neg__" : PySem.Str),
  fBiT ("Step" : PySem.Str) ("__add__" : PySem.Str) ("__radd__" : PySem.Str) "int",
  fMet ("Step" : PySem.Str) ("__add__" : PySem.Str),
  fSf ("Step" : PySem.Str),
  fRd ("Step" : PySem.Str) ("__radd__" : PySem.Str),
  fKiO ("Book" : PySem.Str) ("Book" : PySem.Str) true,
  fGlo ("Book" : PySem.Str),
  fKiB ("Book" : PySem.Str),
  fKiO ("Pace" : PySem.Str) ("Pace" : PySem.Str) true,
  fKiB ("Pace" : PySem.Str),
  fKiO ("Span" : PySem.Str) ("Span" : PySem.Str) true,
  fGlo ("Span" : PySem.Str),
  fKiB ("Span" : PySem.Str),
  fGlo ("need_happening" : PySem.Str),
  fGlo ("need_span" : PySem.Str),
  fGlo ("need_names_of" : PySem.Str),
  fSta ("Step" : PySem.Str) ("nothing" : PySem.Str),
  fBiT ("Step" : PySem.Str) ("__mul__" : PySem.Str) ("__rmul__" : PySem.Str) "int",
  fSub ("Step" : PySem.Str) ("Ratio" : PySem.Str),
  fMet ("Step" : PySem.Str) ("__mul__" : PySem.Str),
  fRd ("Step" : PySem.Str) ("__rmul__" : PySem.Str),
  fGlo ("need_book" : PySem.Str),
  fGlo ("need_pace" : PySem.Str),
  fGlo ("worth_of" : PySem.Str),
  fMet ("Book" : PySem.Str) ("step_of" : PySem.Str),
  fGlo ("called_worth" : PySem.Str),
  fGlo ("are_terms" : PySem.Str),
  fMk ("Span" : PySem.Str),
  fGlo ("_law_spot" : PySem.Str),
  fMk ("Book" : PySem.Str),
  fSta ("Pace" : PySem.Str) ("of_beats" : PySem.Str),
  fMet ("Book" : PySem.Str) ("spot_of" : PySem.Str),
  fBiT ("Step" : PySem.Str) ("__sub__" : PySem.Str) ("__rsub__" : PySem.Str) "int",
  fMet ("Step" : PySem.Str) ("__sub__" : PySem.Str),
  fRd ("Step" : PySem.Str) ("__rsub__" : PySem.Str),
  fGlo ("called_sign" : PySem.Str),
  fSta ("Span" : PySem.Str) ("between" : PySem.Str),
  fGlo ("called_quotient" : PySem.Str),
  fGlo ("_law_slow" : PySem.Str),
  fGlo ("_law_pen" : PySem.Str),
  fGlo ("_law_pick" : PySem.Str),
  fGlo ("_law_sums_right" : PySem.Str),
  fGlo ("_law_book_right" : PySem.Str),
  fCls ("Ratio" : PySem.Str) [("top" : PySem.Str), ("bottom" : PySem.Str)],
  fTy ("Ratio" : PySem.Str),
  fCls ("Span" : PySem.Str) [("terms" : PySem.Str), ("names" : PySem.Str), ("is_nothing" : PySem.Str)],
  fTy ("Span" : PySem.Str),
  fCls ("Step" : PySem.Str) [("time" : PySem.Str), ("place" : PySem.Str), ("axes" : PySem.Str), ("square" : PySem.Str), ("kind" : PySem.Str)],
  fTy ("Step" : PySem.Str),
  fCls ("Book" : PySem.Str) [("axes" : PySem.Str), ("names" : PySem.Str), ("steps" : PySem.Str)],
  fTy ("Book" : PySem.Str),
  fCls ("Pace" : PySem.Str) [("parts" : PySem.Str), ("axes" : PySem.Str), ("square" : PySem.Str)],
  fTy ("Pace" : PySem.Str),
  fCls ("Tour" : PySem.Str) [("parts" : PySem.Str), ("spots" : PySem.Str), ("age" : PySem.Str), ("step" : PySem.Str)],
  fTy ("Tour" : PySem.Str),
  fGlo "law"]
def fn : List DefZ := [d0, d1, d2, d3, d4, d5, d6, d7, d8, d9, d10, d11, d12, d13, d14, d15, d16, d17, d18, d19, d20, d21, d22, d23, d24, d25, d26, d27, d28, d29, d30, d31, d32, d33, d34, d35, d36, d37, d38, d39, d40, d41, d42, d43, d44, d45, d46, d47, d48, d49, d50, d51, d52, d53, d54, d55, d56, d57, d58, d59, d60, d61, d62, d63, d64, d65, d66, d67, d68, d69, d70]
end Kw

namespace Kw
open PySem PySem.Spec PyProof.Rows L2 Z
theorem both3 {α β γ δ : Type} {o : Option α} {f : α → β} {g : α → γ} {h : α → δ} {b : β} {c : γ} {d : δ} (h1 : o.map (fun x => (f x, g x)) = some (b, c)) (h2 : o.map (fun x => h x) = some d) : o.map (fun x => (f x, g x, h x)) = some (b, c, d) := by
  cases o with
  | none => cases h1
  | some x =>
    obtain ⟨e1, e2⟩ := Prod.mk.inj (Option.some.inj h1)
    exact congrArg some (Prod.ext e1 (Prod.ext e2 (Option.some.inj h2)))
abbrev Rw : PySem.W.OpenRow := PySem.W.OpenLaw.row PySem.Challenge.rw_whosefirst_k93_beats_and_echoes
abbrev hk : PySem.W.Hook := hookZ 5 fz fn
def ob (s : PySem.W.SharedT) : He.AlD := obsZG 5 fz fn (HandSHeadRun.getT s)
theorem ob_eq (s : PySem.W.SharedT) : ob s = hk.obs s.abs := obsZG_eq (HandSHeadRun.getT_eq s)
def loose0 : List PySem.Str := [("_wall" : PySem.Str), ("__name__" : PySem.Str), ("FirstError" : PySem.Str), ("BadRatio" : PySem.Str), ("BadStep" : PySem.Str), ("BadSpan" : PySem.Str), ("BadBook" : PySem.Str), ("BadPace" : PySem.Str), ("BadTour" : PySem.Str), ("BadNumber" : PySem.Str), ("Missing" : PySem.Str), ("NoHappening" : PySem.Str), ("Unlike" : PySem.Str), ("SameSpot" : PySem.Str), ("TooMany" : PySem.Str), ("BadText" : PySem.Str), ("LONGEST" : PySem.Str), ("LETTERS" : PySem.Str), ("FIGURES" : PySem.Str), ("is_integer" : PySem.Str), ("is_within" : PySem.Str), ("is_name" : PySem.Str), ("is_listed" : PySem.Str), ("MOST_FIGURES" : PySem.Str), ("number_in" : PySem.Str), ("Scan" : PySem.Str), ("is_ratio" : PySem.Str), ("are_ratios" : PySem.Str), ("ratio_from" : PySem.Str), ("ratio_in" : PySem.Str), ("take_ratio" : PySem.Str), ("Ratio" : PySem.Str), ("summed" : PySem.Str), ("need_beats" : PySem.Str), ("beats_right" : PySem.Str), ("beats_left" : PySem.Str), ("echo_beats" : PySem.Str), ("middle_beats" : PySem.Str), ("NONE" : PySem.Str), ("are_terms" : PySem.Str)]
def loose1 : List PySem.Str := [("need_span" : PySem.Str), ("take_terms" : PySem.Str), ("take_span" : PySem.Str), ("Span" : PySem.Str), ("MOST_AXES" : PySem.Str), ("need_step" : PySem.Str), ("need_axes" : PySem.Str), ("kind_by" : PySem.Str), ("product_at" : PySem.Str), ("take_place" : PySem.Str), ("take_step" : PySem.Str), ("Step" : PySem.Str), ("MOST_HAPPENINGS" : PySem.Str), ("BESIDE" : PySem.Str), ("is_spot" : PySem.Str), ("are_spots" : PySem.Str), ("need_book" : PySem.Str), ("need_happening" : PySem.Str), ("need_names_of" : PySem.Str), ("need_unlike" : PySem.Str), ("take_happenings" : PySem.Str), ("take_book" : PySem.Str), ("Book" : PySem.Str), ("need_axis" : PySem.Str), ("square_of" : PySem.Str), ("are_parts" : PySem.Str), ("need_pace" : PySem.Str), ("need_above" : PySem.Str), ("need_count_of_axes" : PySem.Str), ("take_pace" : PySem.Str), ("Pace" : PySem.Str), ("worth_of" : PySem.Str), ("called_worth" : PySem.Str), ("called_sign" : PySem.Str), ("called_quotient" : PySem.Str), ("lit_spot" : PySem.Str), ("MOST_PARTS" : PySem.Str), ("is_part" : PySem.Str), ("Tour" : PySem.Str), ("take_above" : PySem.Str)]
def loose2 : List PySem.Str := [("take_tour" : PySem.Str), ("lights_along" : PySem.Str), ("_law_pen" : PySem.Str), ("_law_draw" : PySem.Str), ("_law_pick" : PySem.Str), ("_law_sums_right" : PySem.Str), ("_law_spot" : PySem.Str), ("_law_book_right" : PySem.Str), ("_law_slow" : PySem.Str)]
def loose : List PySem.Str := loose0 ++ loose1 ++ loose2
noncomputable def whole (w : World) := HandSHeadRun.wholeF (fun p => HandSHeadRun.stepQ (HandSHeadRun.denQ HandSHeadRun.tabQ) p w) HandSHeadRun.fenceQ 16000 Rw.prog
theorem run1 (w : World) : (whole w).map (fun x => (HandSHeadRun.looksF Rw.prog x.1.heap x.2.abs, HandSHeadRun.seenQ (PySem.W.view Rw.prog [0, 103]) loose (importedModules Rw.prog.main.body) (fun s => PySem.W.xlAt (PySem.W.view Rw.prog [0, 103]) [] s && PySem.W.recOk Rw.toRowW.records s) x.2.abs)) = some (true, PySem.W.openGood (PySem.W.view Rw.prog [0, 103]) loose) := by
  kernel_rfl
theorem run2 (w : World) : (whole w).map (fun x => ob x.2) = some (hk.val w) := by
  kernel_rfl
theorem run (w : World) : HandSHeadRun.RunEqI Rw (PySem.W.view Rw.prog [0, 103]) hk ob 16000 loose w := both3 (run1 w) (run2 w)
end Kw

/-! Trees of values, what stands for them in the abstract heap, and behaviours: total functions that say what a piece of Python does to an environment of trees. -/
namespace Z
open PySem PySem.Spec PyProof.Rows L2

/-- a value as a tree: kl is a list that is not to be changed (the script's, a written one); ob an instance (class number, fields in the order of its layout) -/
inductive D where
  | non | bl (b : Bool) | int (i : Int) | str (x : Str)
  | tup (l : List D) | lst (l : List D) | kl (l : List D) | dic (ks : List Key) (l : List D) | dkl (ks : List Key) (l : List D)
  | ob (c : Nat) (l : List D) | xo (c : Nat) (l : List D)

abbrev Ev := List (Option D)
inductive Out (α : Type) where
  | ok (a : α) (r : Ev) | ex (e : D) (r : Ev) | no
abbrev M (α : Type) := Ev → Out α
@[simp] def Out.bind {α β : Type} (o : Out α) (k : α → Ev → Out β) : Out β := match o with
  | .ok a r => k a r
  | .ex e r => .ex e r
  | .no => .no

/-- the law's text: its written part, classes' addresses, fields, names; whether an instance never changes behind its __init__ -/
structure Gm where
  K : PySem.W.Frag
  cA : Nat → Addr
  lay : Nat → List Str
  imm : Nat → Bool
  flds : List Str

/-- o' is o, or an instance with more fields -/
def Grows (o o' : HO) : Prop := o' = o ∨ ∃ C dx fs more, o = .ins C dx fs ∧ o' = .ins C dx (fs ++ more)
theorem Grows.rfl' {o : HO} : Grows o o := .inl rfl
theorem Grows.trans {a b c : HO} (h : Grows a b) (h' : Grows b c) : Grows a c := by
  rcases h with rfl | ⟨C, dx, fs, more, rfl, rfl⟩
  · exact h'
  · rcases h' with rfl | ⟨C', dx', fs', more', e, rfl⟩
    · exact .inr ⟨_, _, _, _, rfl, rfl⟩
    · injection e with e1 e2 e3
      subst e1 e2 e3
      exact .inr ⟨C, dx, fs, more ++ more', rfl, by rw [List.append_assoc]⟩
theorem Grows.tup {xs : List V} {o : HO} (h : Grows (.tup xs) o) : o = .tup xs := by
  rcases h with rfl | ⟨_, _, _, _, e, _⟩
  · rfl
  · cases e
theorem Grows.lst {xs : List V} {o : HO} (h : Grows (.lst xs) o) : o = .lst xs := by
  rcases h with rfl | ⟨_, _, _, _, e, _⟩
  · rfl
  · cases e
theorem Grows.dK {xs : List (Key × V)} {o : HO} (h : Grows (.dK xs) o) : o = .dK xs := by
  rcases h with rfl | ⟨_, _, _, _, e, _⟩
  · rfl
  · cases e
theorem Grows.frz {ob : Obj} {u o : HO} (h : Grows (.frz ob u) o) : o = .frz ob u := by
  rcases h with rfl | ⟨_, _, _, _, e, _⟩
  · rfl
  · cases e
theorem Grows.xd {fs : List (Str × V)} {o : HO} (h : Grows (.xd fs) o) : o = .xd fs := by
  rcases h with rfl | ⟨_, _, _, _, e, _⟩
  · rfl
  · cases e
theorem Grows.ins {C dx : Addr} {fs : List (Str × V)} {o : HO} (h : Grows (.ins C dx fs) o) : ∃ more, o = .ins C dx (fs ++ more) := by
  rcases h with rfl | ⟨_, _, _, more, e, rfl⟩
  · exact ⟨[], by rw [List.append_nil]⟩
  · injection e with e1 e2 e3
    subst e1 e2 e3
    exact ⟨more, rfl⟩

/-- F is what never changes, of H -/
def Sub (F H : Hp) : Prop := ∀ a o, F a = some o → ∃ o', H a = some o' ∧ Grows o o'
theorem Sub.rfl' {F : Hp} : Sub F F := fun a o h => ⟨o, h, .rfl'⟩
theorem Sub.trans {F G H : Hp} (h : Sub F G) (h' : Sub G H) : Sub F H := fun a o e => by
  obtain ⟨o1, e1, g1⟩ := h a o e
  obtain ⟨o2, e2, g2⟩ := h' a o1 e1
  exact ⟨o2, e2, g1.trans g2⟩
theorem Sub.sqT {K : PySem.W.Frag} {F H : Hp} {a : Addr} {xs : List V} (h : Sub F H) (s : SqT K F a xs) : SqT K H a xs := by
  rcases s with (e | ⟨o, e⟩) | s
  · obtain ⟨o', e', g⟩ := h a _ e
    rw [g.tup] at e'
    exact .inl (.inl e')
  · obtain ⟨o', e', g⟩ := h a _ e
    rw [g.frz] at e'
    exact .inl (.inr ⟨o, e'⟩)
  · exact .inr s
theorem Sub.sqL {K : PySem.W.Frag} {F H : Hp} {a : Addr} {xs : List V} (h : Sub F H) (s : SqL K F a xs) : SqL K H a xs := by
  rcases s with (e | ⟨o, e⟩) | s
  · obtain ⟨o', e', g⟩ := h a _ e
    rw [g.lst] at e'
    exact .inl (.inl e')
  · obtain ⟨o', e', g⟩ := h a _ e
    rw [g.frz] at e'
    exact .inl (.inr ⟨o, e'⟩)
  · exact .inr s

mutual
/-- v stands for the tree, by what never changes -/
inductive Rep (G : Gm) (F : Hp) : D → V → Prop
  | non : Rep G F .non .non
  | bl {b} : Rep G F (.bl b) (.bl b)
  | int {i} : Rep G F (.int i) (.int i)
  | str {x} : Rep G F (.str x) (.str x)
  | tup {l a xs} (h : SqT G.K F a xs) (r : RepL G F l xs) : Rep G F (.tup l) (.ref a)
  | lst {l a xs} (h : F a = some (.lst xs)) (r : RepL G F l xs) : Rep G F (.lst l) (.ref a)
  | kl {l a xs} (h : SqL G.K F a xs) (r : RepL G F l xs) : Rep G F (.kl l) (.ref a)
  | dic {ks l a kvs} (h : F a = some (.dK kvs)) (hk : kvs.map (·.1) = ks) (r : RepL G F l (kvs.map (·.2))) : Rep G F (.dic ks l) (.ref a)
  | dkl {ks l a kvs o} (h : F a = some (.frz o (.dK kvs))) (hk : kvs.map (·.1) = ks) (r : RepL G F l (kvs.map (·.2))) : Rep G F (.dkl ks l) (.ref a)
  | ob {c l a dx xs more} (h : F a = some (.ins (G.cA c) dx ((G.lay c).zip xs ++ more))) (hl : xs.length ≤ (G.lay c).length) (r : RepL G F l xs) : Rep G F (.ob c l) (.ref a)
inductive RepL (G : Gm) (F : Hp) : List D → List V → Prop
  | nil : RepL G F [] []
  | cons {d l v xs} (h : Rep G F d v) (t : RepL G F l xs) : RepL G F (d :: l) (v :: xs)
end
section
variable {G : Gm} {F F' H : Hp}
mutual
theorem Rep.mono (s : Sub F F') : ∀ {d : D} {v : V}, Rep G F d v → Rep G F' d v
  | _, _, .non => .non
  | _, _, .bl => .bl
  | _, _, .int => .int
  | _, _, .str => .str
  | _, _, .tup h r => .tup (s.sqT h) (RepL.mono s r)
  | _, _, .lst h r => by
    obtain ⟨o', e', g⟩ := s _ _ h
    rw [g.lst] at e'
    exact .lst e' (RepL.mono s r)
  | _, _, .kl h r => .kl (s.sqL h) (RepL.mono s r)
  | _, _, .dic h hk r => by
    obtain ⟨o', e', g⟩ := s _ _ h
    rw [g.dK] at e'
    exact .dic e' hk (RepL.mono s r)
  | _, _, .dkl h hk r => by
    obtain ⟨o', e', g⟩ := s _ _ h
    rw [g.frz] at e'
    exact .dkl e' hk (RepL.mono s r)
  | _, _, .ob h hl r => by
    obtain ⟨o', e', g⟩ := s _ _ h
    obtain ⟨m, e⟩ := g.ins
    rw [e, List.append_assoc] at e'
    exact .ob e' hl (RepL.mono s r)
theorem RepL.mono (s : Sub F F') : ∀ {l : List D} {xs : List V}, RepL G F l xs → RepL G F' l xs
  | _, _, .nil => .nil
  | _, _, .cons h t => .cons (Rep.mono s h) (RepL.mono s t)
end
theorem RepL.length : ∀ {l : List D} {xs : List V}, RepL G F l xs → l.length = xs.length
  | _, _, .nil => rfl
  | _, _, .cons _ t => congrArg Nat.succ t.length
theorem RepL.get : ∀ {l : List D} {xs : List V} {i : Nat} {d : D}, RepL G F l xs → l[i]? = some d → ∃ v, xs[i]? = some v ∧ Rep G F d v
  | _, _, _, _, .nil, e => by simp at e
  | _, _, 0, _, .cons h _, e => by simp at e; subst e; exact ⟨_, rfl, h⟩
  | _, _, i + 1, _, .cons _ t, e => by
    obtain ⟨v, h1, h2⟩ := t.get (i := i) (by simpa using e)
    exact ⟨v, by simpa using h1, h2⟩
theorem RepL.get' : ∀ {l : List D} {xs : List V} {i : Nat} {v : V}, RepL G F l xs → xs[i]? = some v → ∃ d, l[i]? = some d ∧ Rep G F d v
  | _, _, _, _, .nil, e => by simp at e
  | _, _, 0, _, .cons h _, e => by simp at e; subst e; exact ⟨_, rfl, h⟩
  | _, _, i + 1, _, .cons _ t, e => by
    obtain ⟨v, h1, h2⟩ := t.get' (i := i) (by simpa using e)
    exact ⟨v, by simpa using h1, h2⟩
theorem RepL.app : ∀ {l l' : List D} {xs xs' : List V}, RepL G F l xs → RepL G F l' xs' → RepL G F (l ++ l') (xs ++ xs')
  | _, _, _, _, .nil, h => h
  | _, _, _, _, .cons r t, h => .cons r (RepL.app t h)
theorem RepL.take : ∀ {l : List D} {xs : List V} (n : Nat), RepL G F l xs → RepL G F (l.take n) (xs.take n)
  | _, _, 0, _ => by simp only [List.take_zero]; exact .nil
  | _, _, _ + 1, .nil => .nil
  | _, _, n + 1, .cons r t => .cons r (t.take n)
theorem RepL.drop : ∀ {l : List D} {xs : List V} (n : Nat), RepL G F l xs → RepL G F (l.drop n) (xs.drop n)
  | _, _, 0, r => r
  | _, _, _ + 1, .nil => .nil
  | _, _, n + 1, .cons _ t => t.drop n
theorem RepL.set {d : D} {v : V} (h : Rep G F d v) : ∀ {l : List D} {xs : List V} (n : Nat), RepL G F l xs → RepL G F (l.set n d) (xs.set n v)
  | _, _, _, .nil => .nil
  | _, _, 0, .cons _ t => .cons h t
  | _, _, n + 1, .cons r t => .cons r (t.set h n)
theorem RepL.ints : ∀ {ns : List Int} {xs : List V}, RepL G F (ns.map D.int) xs → xs = ns.map V.int
  | [], _, .nil => rfl
  | n :: ns, _, .cons h t => by cases h; rw [RepL.ints t]; rfl
theorem RepL.bls : ∀ {ns : List Bool} {xs : List V}, RepL G F (ns.map D.bl) xs → xs = ns.map V.bl
  | [], _, .nil => rfl
  | n :: ns, _, .cons h t => by cases h; rw [RepL.bls t]; rfl
theorem RepL.strs : ∀ {ns : List Str} {xs : List V}, RepL G F (ns.map D.str) xs → xs = ns.map V.str
  | [], _, .nil => rfl
  | n :: ns, _, .cons h t => by cases h; rw [RepL.strs t]; rfl
theorem RepL.ofInts : ∀ (ns : List Int), RepL G F (ns.map D.int) (ns.map V.int)
  | [] => .nil
  | n :: ns => .cons .int (RepL.ofInts ns)
end

theorem zip_pre {α β : Type} : ∀ (l : List α) (xs : List β) (n : Nat), ∃ more, l.zip xs = l.zip (xs.take n) ++ more
  | [], _, _ => ⟨[], rfl⟩
  | _ :: _, [], _ => ⟨[], by simp⟩
  | a :: l, x :: xs, 0 => ⟨(a :: l).zip (x :: xs), by simp⟩
  | a :: l, x :: xs, n + 1 => by
    obtain ⟨m, e⟩ := zip_pre l xs n
    exact ⟨m, by simp [e]⟩

/-- v is an object that this code alone may change: it stands in H for the tree -/
inductive Own (G : Gm) (F H : Hp) : D → V → Prop
  | lst {l a xs} (h : H a = some (.lst xs)) (hf : F a = none) (r : RepL G F l xs) : Own G F H (.lst l) (.ref a)
  | dic {ks l a kvs} (h : H a = some (.dK kvs)) (hf : F a = none) (hk : kvs.map (·.1) = ks) (r : RepL G F l (kvs.map (·.2))) : Own G F H (.dic ks l) (.ref a)
  | ob {c l a dx xs} (h : H a = some (.ins (G.cA c) dx ((G.lay c).zip xs))) (hf : F a = none ∨ (G.imm c = true ∧ ∃ n, F a = some (.ins (G.cA c) dx ((G.lay c).zip (xs.take n)))))
      (hl : xs.length ≤ (G.lay c).length) (r : RepL G F l xs) : Own G F H (.ob c l) (.ref a)
/-- instances have fields of the text alone -/
def Wf (G : Gm) (H : Hp) : Prop := ∀ a C dx fs f, H a = some (.ins C dx fs) → fs.lookup f ≠ none → f ∈ G.flds
def noIns : HO → Bool
  | .ins _ _ _ => false
  | _ => true
theorem Wf.upd {G : Gm} {H : Hp} (w : Wf G H) {p : Addr} {o : HO} (h : noIns o = true) : Wf G (upd H p o) := fun a C dx fs f e => by
  by_cases q : a = p
  · subst q
    rw [upd_same] at e
    cases e
    cases h
  · rw [upd_ne q] at e
    exact w a C dx fs f e
def OwnAt (O : List Nat) (σ : L2.St) (a : Addr) : Prop := ∃ i ∈ O, σ[i]? = some (some (.ref a))

/-- the slots stand for the environment; those of O are owned -/
structure Sta (G : Gm) (O : List Nat) (F H : Hp) (σ : L2.St) (r : Ev) : Prop where
  sub : Sub F H
  wf : Wf G H
  len : r.length = σ.length
  rp : ∀ i d, i ∉ O → r[i]? = some (some d) → ∃ v, σ[i]? = some (some v) ∧ Rep G F d v
  ow : ∀ i ∈ O, ∃ d v, r[i]? = some (some d) ∧ σ[i]? = some (some v) ∧ Own G F H d v
  dj : ∀ i j a, i ∈ O → j ∈ O → σ[i]? = some (some (.ref a)) → σ[j]? = some (some (.ref a)) → i = j

theorem upd_none {H : Hp} {a b : Addr} {o : HO} (h : upd H a o b = none) : H b = none := by
  unfold upd at h
  split at h
  · cases h
  · exact h
/-- from F, H to F', H': only what Mo lets, and new objects, changed -/
structure Stp (Mo : Addr → Prop) (F H F' H' : Hp) : Prop where
  fz : Sub F F'
  kp : ∀ a o, H a = some o → ¬ Mo a → H' a = some o
  nf : ∀ a o, H a = some o → ¬ Mo a → F' a = F a
  tr : ∀ a, H' a = none → H a = none
theorem Stp.rfl' {Mo : Addr → Prop} {F H : Hp} : Stp Mo F H F H := ⟨.rfl', fun _ _ h _ => h, fun _ _ _ _ => rfl, fun _ h => h⟩
theorem Stp.trans {Mo Mo1 : Addr → Prop} {F H F1 H1 F2 H2 : Hp} (a : Stp Mo F H F1 H1) (b : Stp Mo1 F1 H1 F2 H2) (hm : ∀ x, Mo1 x → Mo x ∨ H x = none) : Stp Mo F H F2 H2 where
  fz := a.fz.trans b.fz
  kp := fun x o h n => b.kp x o (a.kp x o h n) fun m => (hm x m).elim n fun e => by rw [e] at h; cases h
  nf := fun x o h n => (b.nf x o (a.kp x o h n) fun m => (hm x m).elim n fun e => by rw [e] at h; cases h).trans (a.nf x o h n)
  tr := fun x h => a.tr x (b.tr x h)
theorem Stp.weak {Mo Mo1 : Addr → Prop} {F H F1 H1 : Hp} (a : Stp Mo F H F1 H1) (hm : ∀ x, Mo x → Mo1 x) : Stp Mo1 F H F1 H1 := ⟨a.fz, fun x o h n => a.kp x o h fun m => n (hm x m), fun x o h n => a.nf x o h fun m => n (hm x m), a.tr⟩

theorem Own.mono {G : Gm} {F H F' H' : Hp} {d : D} {v : V} {Mo : Addr → Prop} (h : Own G F H d v) (s : Stp Mo F H F' H') (n : ∀ a, v = .ref a → ¬ Mo a) : Own G F' H' d v := by
  cases h with
  | lst h hf r => exact .lst (s.kp _ _ h (n _ rfl)) ((s.nf _ _ h (n _ rfl)).trans hf) (r.mono s.fz)
  | dic h hf hk r => exact .dic (s.kp _ _ h (n _ rfl)) ((s.nf _ _ h (n _ rfl)).trans hf) hk (r.mono s.fz)
  | ob h hf hl r =>
    refine .ob (s.kp _ _ h (n _ rfl)) ?_ hl (r.mono s.fz)
    rw [s.nf _ _ h (n _ rfl)]
    exact hf
theorem Own.there {G : Gm} {F H : Hp} {d : D} {v : V} (h : Own G F H d v) : ∃ a o, v = .ref a ∧ H a = some o := by
  cases h with
  | lst h _ _ => exact ⟨_, _, rfl, h⟩
  | dic h _ _ _ => exact ⟨_, _, rfl, h⟩
  | ob h _ _ _ => exact ⟨_, _, rfl, h⟩
/-- an owned object is given up: it never changes from here -/
theorem Own.freeze {G : Gm} {F H : Hp} {d : D} {v : V} (h : Own G F H d v) (sb : Sub F H) : ∃ F' a o, v = .ref a ∧ H a = some o ∧ F' = upd F a o ∧ Sub F F' ∧ Sub F' H ∧ Rep G F' d v := by
  have key : ∀ (a : Addr) (o : HO), H a = some o → (∀ u, F a = some u → Grows u o) → Sub F (upd F a o) ∧ Sub (upd F a o) H := fun a o e g => by
    refine ⟨fun b u hb => ?_, fun b u hb => ?_⟩
    · by_cases q : b = a
      · subst q
        exact ⟨o, upd_same, g u hb⟩
      · exact ⟨u, by rw [upd_ne q]; exact hb, .rfl'⟩
    · by_cases q : b = a
      · subst q
        rw [upd_same] at hb
        cases hb
        exact ⟨o, e, .rfl'⟩
      · rw [upd_ne q] at hb
        exact sb b u hb
  cases h with
  | @lst l a xs h hf r =>
    obtain ⟨k1, k2⟩ := key a _ h fun u e => by rw [hf] at e; cases e
    exact ⟨_, a, _, rfl, h, rfl, k1, k2, .lst upd_same (r.mono k1)⟩
  | @dic ks l a kvs h hf hk r =>
    obtain ⟨k1, k2⟩ := key a _ h fun u e => by rw [hf] at e; cases e
    exact ⟨_, a, _, rfl, h, rfl, k1, k2, .dic upd_same hk (r.mono k1)⟩
  | @ob c l a dx xs h hf hl r =>
    obtain ⟨k1, k2⟩ := key a _ h fun u e => by
      rcases hf with q | ⟨_, n, q⟩
      · rw [q] at e; cases e
      · rw [q] at e
        cases e
        obtain ⟨more, hz⟩ := zip_pre (G.lay c) xs n
        exact .inr ⟨_, _, _, more, rfl, by rw [← hz]⟩
    exact ⟨_, a, _, rfl, h, rfl, k1, k2, .ob (more := []) (by rw [List.append_nil]; exact upd_same) hl (r.mono k1)⟩

section
variable {G : Gm} {O : List Nat} {F H : Hp} {σ : L2.St} {r : Ev}
/-- the owned slots as they stand: their rows alone may have changed -/
theorem Sta.own_at (S : Sta G O F H σ r) {i : Nat} {d : D} (hi : i ∈ O) (e : r[i]? = some (some d)) : ∃ v, σ[i]? = some (some v) ∧ Own G F H d v := by
  obtain ⟨d', v, e1, e2, o⟩ := S.ow i hi
  rw [e] at e1
  cases e1
  exact ⟨v, e2, o⟩
/-- behind something that may change none of the owned -/
theorem Sta.stay {Mo : Addr → Prop} {F' H' : Hp} (S : Sta G O F H σ r) (s : Stp Mo F H F' H') (sb : Sub F' H') (wf : Wf G H') (n : ∀ a, OwnAt O σ a → ¬ Mo a) : Sta G O F' H' σ r where
  sub := sb
  wf := wf
  len := S.len
  rp := fun i d hi e => by
    obtain ⟨v, e1, h⟩ := S.rp i d hi e
    exact ⟨v, e1, h.mono s.fz⟩
  ow := fun i hi => by
    obtain ⟨d, v, e1, e2, o⟩ := S.ow i hi
    exact ⟨d, v, e1, e2, o.mono s fun a ea => n a ⟨i, hi, by rw [e2, ea]⟩⟩
  dj := S.dj
/-- a slot that is owned is given up -/
theorem Sta.freeze (S : Sta G O F H σ r) {i : Nat} {d : D} (hi : i ∈ O) (e : r[i]? = some (some d)) :
    ∃ F' v, σ[i]? = some (some v) ∧ Rep G F' d v ∧ Sta G (O.filter (· != i)) F' H σ r ∧ Stp (OwnAt O σ) F H F' H := by
  obtain ⟨v, e2, o⟩ := S.own_at hi e
  obtain ⟨F', a, ob, rfl, ha, rfl, k1, k2, rp⟩ := o.freeze S.sub
  have mem : ∀ {j}, j ∈ O.filter (· != i) → j ∈ O ∧ j ≠ i := fun {j} hj => by
    obtain ⟨h1, h2⟩ := List.mem_filter.mp hj
    exact ⟨h1, fun z => by simp [z] at h2⟩
  refine ⟨_, _, e2, rp, ⟨k2, S.wf, S.len, fun j dj hj ej => ?_, fun j hj => ?_, fun j k b hj hk => S.dj j k b (mem hj).1 (mem hk).1⟩, ⟨k1, fun b u h _ => h, fun b u h n => ?_, fun _ h => h⟩⟩
  · by_cases q : j = i
    · subst q
      rw [e] at ej
      cases ej
      exact ⟨_, e2, rp⟩
    · obtain ⟨w, ew, hw⟩ := S.rp j dj (fun z => hj (List.mem_filter.mpr ⟨z, by simp [q]⟩)) ej
      exact ⟨w, ew, hw.mono k1⟩
  · obtain ⟨hj, hne⟩ := mem hj
    obtain ⟨dj, w, e1, ew, ow⟩ := S.ow j hj
    refine ⟨dj, w, e1, ew, ?_⟩
    obtain ⟨b, ob', rfl, hb⟩ := ow.there
    have nb : b ≠ a := fun z => hne (S.dj j i a hj hi (by rw [ew, z]) e2)
    cases ow with
    | lst h hf rr => exact .lst h (by rw [upd_ne nb]; exact hf) (rr.mono k1)
    | dic h hf hk rr => exact .dic h (by rw [upd_ne nb]; exact hf) hk (rr.mono k1)
    | ob h hf hl rr => exact .ob h (by rw [upd_ne nb]; exact hf) hl (rr.mono k1)
  · have nb : b ≠ a := fun z => n ⟨i, hi, by rw [e2, z]⟩
    exact upd_ne nb
theorem OwnAt.sub {O O' : List Nat} {a : Addr} (h : ∀ i ∈ O', i ∈ O) (x : OwnAt O' σ a) : OwnAt O σ a := let ⟨i, hi, e⟩ := x; ⟨i, h i hi, e⟩
/-- a new object that never changes -/
theorem new_fz {p : Addr} {o : HO} (S : Sta G O F H σ r) (hp : H p = none) (hi : noIns o = true) : Sta G O (upd F p o) (upd H p o) σ r ∧ Stp (OwnAt O σ) F H (upd F p o) (upd H p o) := by
  have fp : F p = none := by
    cases q : F p with
    | none => rfl
    | some u =>
      obtain ⟨o', e, _⟩ := S.sub p u q
      rw [hp] at e
      cases e
  have s : Stp (fun _ => False) F H (upd F p o) (upd H p o) := ⟨fun a u e => ⟨u, by rw [upd_ne (ne_of_none e fp)]; exact e, .rfl'⟩, fun a u e _ => by rw [upd_ne (ne_of_none e hp)]; exact e, fun a u e _ => upd_ne (ne_of_none e hp), fun a e => upd_none e⟩
  refine ⟨S.stay s (fun a u e => ?_) (S.wf.upd hi) fun _ _ z => z, s.weak fun _ z => z.elim⟩
  by_cases q : a = p
  · subst q
    rw [upd_same] at e
    cases e
    exact ⟨o, upd_same, .rfl'⟩
  · rw [upd_ne q] at e
    obtain ⟨o', e', g⟩ := S.sub a u e
    exact ⟨o', by rw [upd_ne q]; exact e', g⟩
/-- a new object that is to change -/
theorem new_ow {p : Addr} {o : HO} (S : Sta G O F H σ r) (hp : H p = none) (hi : noIns o = true) : Sta G O F (upd H p o) σ r ∧ Stp (OwnAt O σ) F H F (upd H p o) ∧ F p = none := by
  have fp : F p = none := by
    cases q : F p with
    | none => rfl
    | some u =>
      obtain ⟨o', e, _⟩ := S.sub p u q
      rw [hp] at e
      cases e
  have s : Stp (fun _ => False) F H F (upd H p o) := ⟨.rfl', fun a u e _ => by rw [upd_ne (ne_of_none e hp)]; exact e, fun a u e _ => rfl, fun a e => upd_none e⟩
  refine ⟨S.stay s (fun a u e => ?_) (S.wf.upd hi) fun _ _ z => z, s.weak fun _ z => z.elim, fp⟩
  obtain ⟨o', e', g⟩ := S.sub a u e
  exact ⟨o', by rw [upd_ne (ne_of_none e' hp)]; exact e', g⟩
/-- a slot gets a value that never changes -/
theorem Sta.set (S : Sta G O F H σ r) (i : Nat) {d : D} {v : V} (h : Rep G F d v) : Sta G (O.filter (· != i)) F H (σ.set i (some v)) (r.set i (some d)) where
  sub := S.sub
  wf := S.wf
  len := by simp [S.len]
  rp := fun j dj hj e => by
    by_cases q : i = j
    · subst q
      by_cases hl : i < r.length
      · rw [List.getElem?_set_self hl] at e
        cases e
        exact ⟨v, List.getElem?_set_self (by rw [← S.len]; exact hl), h⟩
      · rw [List.getElem?_eq_none (by simp; omega)] at e
        cases e
    · rw [List.getElem?_set_ne q] at e
      rw [List.getElem?_set_ne q]
      exact S.rp j dj (fun z => hj (List.mem_filter.mpr ⟨z, by simp [Ne.symm q]⟩)) e
  ow := fun j hj => by
    obtain ⟨h1, h2⟩ := List.mem_filter.mp hj
    have q : i ≠ j := fun z => by simp [z] at h2
    rw [List.getElem?_set_ne q, List.getElem?_set_ne q]
    exact S.ow j h1
  dj := fun j k a hj hk ej ek => by
    obtain ⟨h1, h2⟩ := List.mem_filter.mp hj
    obtain ⟨h3, h4⟩ := List.mem_filter.mp hk
    have q : i ≠ j := fun z => by simp [z] at h2
    have q' : i ≠ k := fun z => by simp [z] at h4
    rw [List.getElem?_set_ne q] at ej
    rw [List.getElem?_set_ne q'] at ek
    exact S.dj j k a h1 h3 ej ek
/-- a slot gets a value that this code alone may change -/
theorem Sta.setOwn (S : Sta G O F H σ r) (i : Nat) {d : D} {v : V} (h : Own G F H d v) (hi : i < r.length) (hn : ∀ a, v = .ref a → ¬ OwnAt O σ a) : Sta G (i :: O.filter (· != i)) F H (σ.set i (some v)) (r.set i (some d)) where
  sub := S.sub
  wf := S.wf
  len := by simp [S.len]
  rp := fun j dj hj e => by
    have q : i ≠ j := fun z => hj (by rw [z]; exact List.mem_cons_self)
    rw [List.getElem?_set_ne q] at e
    rw [List.getElem?_set_ne q]
    exact S.rp j dj (fun z => hj (List.mem_cons_of_mem _ (List.mem_filter.mpr ⟨z, by simp [Ne.symm q]⟩))) e
  ow := fun j hj => by
    by_cases q : i = j
    · subst q
      exact ⟨d, v, List.getElem?_set_self hi, List.getElem?_set_self (by rw [← S.len]; exact hi), h⟩
    · rcases List.mem_cons.mp hj with z | hj
      · exact absurd z.symm q
      rw [List.getElem?_set_ne q, List.getElem?_set_ne q]
      exact S.ow j (List.mem_filter.mp hj).1
  dj := fun j k a hj hk ej ek => by
    have at_ : ∀ m, m ∈ i :: O.filter (· != i) → i ≠ m → m ∈ O := fun m hm q => by
      rcases List.mem_cons.mp hm with z | hm
      · exact absurd z.symm q
      · exact (List.mem_filter.mp hm).1
    have hl : i < σ.length := by rw [← S.len]; exact hi
    by_cases q : i = j
    · by_cases q' : i = k
      · exact q.symm.trans q'
      · subst q
        rw [List.getElem?_set_self hl] at ej
        rw [List.getElem?_set_ne q'] at ek
        exact absurd ⟨k, at_ k hk q', ek⟩ (hn a (by cases ej; rfl))
    · by_cases q' : i = k
      · subst q'
        rw [List.getElem?_set_self hl] at ek
        rw [List.getElem?_set_ne q] at ej
        exact absurd ⟨j, at_ j hj q, ej⟩ (hn a (by cases ek; rfl))
      · rw [List.getElem?_set_ne q] at ej
        rw [List.getElem?_set_ne q'] at ek
        exact S.dj j k a (at_ j hj q) (at_ k hk q') ej ek
end

/-- a step of the walk: from slots σ, F, H to σ', F', H', the environment r' -/
structure Nx (G : Gm) (OX O O' : List Nat) (σ : L2.St) (F H : Hp) (σ' : L2.St) (F' H' : Hp) (r' : Ev) : Prop where
  sta : Sta G O' F' H' σ' r'
  stp : Stp (OwnAt O σ) F H F' H'
  kp : ∀ i ∈ OX, σ'[i]? = σ[i]?
  pv : ∀ a, OwnAt O' σ' a → OwnAt O σ a ∨ H a = none
section
variable {G : Gm} {OX O O1 O2 O' : List Nat} {σ σ1 σ2 : L2.St} {F H F1 H1 F2 H2 : Hp} {r r1 r2 : Ev}
theorem Nx.rfl' (S : Sta G O F H σ r) : Nx G OX O O σ F H σ F H r := ⟨S, .rfl', fun _ _ => rfl, fun _ h => .inl h⟩
theorem Nx.trans (a : Nx G OX O O1 σ F H σ1 F1 H1 r1) (b : Nx G OX O1 O2 σ1 F1 H1 σ2 F2 H2 r2) : Nx G OX O O2 σ F H σ2 F2 H2 r2 where
  sta := b.sta
  stp := a.stp.trans b.stp a.pv
  kp := fun i hi => (b.kp i hi).trans (a.kp i hi)
  pv := fun x h => by
    rcases b.pv x h with q | q
    · exact a.pv x q
    · by_cases m : OwnAt O σ x
      · exact .inl m
      · cases e : H x with
        | none => exact .inr rfl
        | some o => rw [a.stp.kp x o e m] at q; cases q
/-- owned slots are given up, all but some -/
theorem Sta.freezeTo (OX : List Nat) : ∀ (n : Nat) {O : List Nat} {F : Hp}, (O.filter fun i => !OX.contains i).length = n → (∀ i ∈ OX, i ∈ O) → Sta G O F H σ r → ∃ F', Sta G OX F' H σ r ∧ Stp (OwnAt O σ) F H F' H := by
  intro n
  induction n using Nat.strongRecOn with
  | _ n ih =>
    intro O F hn hx S
    cases q : O.filter fun i => !OX.contains i with
    | nil =>
      have sub : ∀ i ∈ O, i ∈ OX := fun i hi => by
        by_cases m : i ∈ OX
        · exact m
        · have : i ∈ O.filter fun i => !OX.contains i := List.mem_filter.mpr ⟨hi, by simp [m]⟩
          rw [q] at this
          cases this
      exact ⟨F, ⟨S.sub, S.wf, S.len, fun i d hi => S.rp i d fun z => hi (sub i z), fun i hi => S.ow i (hx i hi), fun i j a hi hj => S.dj i j a (hx i hi) (hx j hj)⟩, .rfl'⟩
    | cons i l =>
      have hi : i ∈ O.filter fun i => !OX.contains i := by rw [q]; exact List.mem_cons_self
      obtain ⟨h1, h2⟩ := List.mem_filter.mp hi
      have hni : i ∉ OX := by simpa using h2
      obtain ⟨d, v, e1, _, _⟩ := S.ow i h1
      obtain ⟨F1, v', _, _, S1, s1⟩ := S.freeze h1 e1
      have hlt : ((O.filter (· != i)).filter fun i => !OX.contains i).length < n := by
        rw [← hn, List.filter_filter]
        refine Nat.lt_of_lt_of_le ?_ (Nat.le_refl _)
        have : (O.filter fun a => (!OX.contains a) && (a != i)) = (O.filter fun a => !OX.contains a).filter (· != i) := by
          rw [List.filter_filter]
          congr 1
          funext a
          exact Bool.and_comm _ _
        rw [this]
        exact List.length_filter_lt_length_iff_exists.mpr ⟨i, hi, by simp⟩
      obtain ⟨F2, S2, s2⟩ := ih _ hlt rfl (fun j hj => List.mem_filter.mpr ⟨hx j hj, by simp; exact fun z => hni (z ▸ hj)⟩) S1
      exact ⟨F2, S2, s1.trans s2 fun x m => .inl (m.sub fun j hj => (List.mem_filter.mp hj).1)⟩
theorem Nx.freeze (a : Nx G OX O O1 σ F H σ1 F1 H1 r1) {OY : List Nat} (hx : ∀ i ∈ OY, i ∈ O1) : ∃ F2, Nx G OX O OY σ F H σ1 F2 H1 r1 ∧ Sub F1 F2 := by
  obtain ⟨F2, S2, s2⟩ := Sta.freezeTo OY _ rfl hx a.sta
  exact ⟨F2, a.trans ⟨S2, s2, fun _ _ => rfl, fun x m => .inl (m.sub hx)⟩, s2.fz⟩
/-- an expression's step leaves the slots -/
theorem Nx.of (S : Sta G O1 F1 H1 σ r1) (s : Stp (OwnAt O σ) F H F1 H1) (h : ∀ i ∈ O1, i ∈ O) : Nx G OX O O1 σ F H σ F1 H1 r1 := ⟨S, s, fun _ _ => rfl, fun _ m => .inl (m.sub h)⟩
end

/-- an exception as it flies: its class, its own dict -/
inductive XRep (G : Gm) (F : Hp) : D → Value → Option Addr → Prop
  | mk {c l d fs} (h : F d = some (.xd fs)) (hl : l.length = (G.lay c).length) (r : ∀ (i : Nat) (f : Str) (x : D), (G.lay c)[i]? = some f → l[i]? = some x → ∃ v, fs.lookup f = some v ∧ Rep G F x v) : XRep G F (.xo c l) (.ref (G.cA c)) (some d)
  | bare {c} : XRep G F (.xo c []) (.ref (G.cA c)) none
theorem XRep.mono {G : Gm} {F F' : Hp} {e : D} {c : Value} {dx : Option Addr} (h : XRep G F e c dx) (s : Sub F F') : XRep G F' e c dx := by
  cases h with
  | mk h hl r =>
    obtain ⟨o', e', g⟩ := s _ _ h
    rw [g.xd] at e'
    exact .mk e' hl fun i f x a b => by
      obtain ⟨v, h1, h2⟩ := r i f x a b
      exact ⟨v, h1, h2.mono s⟩
  | bare => exact .bare

/-- what is wanted behind an expression (a test, arguments), by its outcome -/
def Pst {α β : Type} (G : Gm) (W : WX) (OX O O' : List Nat) (σ : L2.St) (F H : Hp) (Rl : Hp → Hp → α → β → Prop) (Q : β → Hp → Prop) : Out α → Prop
  | .ok a r' => ∀ b F' H', Nx G OX O O' σ F H σ F' H' r' → Rl F' H' a b → Q b H'
  | .ex e r' => ∀ c dx F' H', Nx G OX O OX σ F H σ F' H' r' → XRep G F' e c dx → W c dx σ H'
  | .no => False
def tX {α β : Type} (G : Gm) (W : WX) (OX O O' : List Nat) (Rl : Hp → Hp → α → β → Prop) (f : M α) : L2.St → Hp → (β → Hp → Prop) → Prop := fun σ H Q => ∃ F r, Sta G O F H σ r ∧ Pst G W OX O O' σ F H Rl Q (f r)
abbrev RD (G : Gm) : Hp → Hp → D → V → Prop := fun F _ d v => Rep G F d v
abbrev RB : Hp → Hp → Bool → Bool → Prop := fun _ _ a b => a = b
abbrev RS (G : Gm) : Hp → Hp → List D → List V → Prop := fun F _ d v => RepL G F d v
/-- .. or this code's own -/
abbrev RP (G : Gm) : Hp → Hp → D → V → Prop := fun F H d v => Rep G F d v ∨ Own G F H d v
/-- a new object, this code's own -/
abbrev RF (G : Gm) (O : List Nat) (σ : L2.St) (H0 : Hp) : Hp → Hp → D → V → Prop := fun F H d v => Own G F H d v ∧ ∀ a, v = .ref a → H0 a = none ∧ ¬ OwnAt O σ a
abbrev tE (G : Gm) (W : WX) (OX O O' : List Nat) (f : M D) : TE := tX G W OX O O' (RD G) f
abbrev tP (G : Gm) (W : WX) (OX O O' : List Nat) (f : M D) : TE := tX G W OX O O' (RP G) f
def tF (G : Gm) (W : WX) (OX O O' : List Nat) (f : M D) : TE := fun σ H Q => tX G W OX O O' (RF G O' σ H) f σ H Q
abbrev tT (G : Gm) (W : WX) (OX O O' : List Nat) (f : M Bool) : TT := tX G W OX O O' RB f
abbrev tA (G : Gm) (W : WX) (OX O O' : List Nat) (f : M (List D)) : TA := tX G W OX O O' (RS G) f
/-- one behind another -/
theorem Pst.bind {α β γ δ : Type} {G : Gm} {W : WX} {OX O O1 O2 : List Nat} {σ : L2.St} {F H : Hp} {Rl : Hp → Hp → α → β → Prop} {Rl' : Hp → Hp → γ → δ → Prop} {o : Out α} {k : α → M γ} {Q' : δ → Hp → Prop} (p : Pst G W OX O O2 σ F H Rl' Q' (o.bind k)) :
    Pst G W OX O O1 σ F H Rl (fun b H1 => ∃ a F1 r1, Nx G OX O O1 σ F H σ F1 H1 r1 ∧ Rl F1 H1 a b ∧ Pst G W OX O1 O2 σ F1 H1 Rl' Q' (k a r1)) o := by
  revert p
  cases o with
  | no => exact fun p => p
  | ex e r' => exact fun p => p
  | ok a r1 =>
    intro p b F1 H1 n1 rl
    have p : Pst G W OX O O2 σ F H Rl' Q' (k a r1) := p
    refine ⟨a, F1, r1, n1, rl, ?_⟩
    revert p
    cases k a r1 with
    | no => exact fun p => p
    | ex e r' => exact fun p c dx F' H' n x => p c dx F' H' (n1.trans n) x
    | ok a' r' => exact fun p b' F' H' n x => p b' F' H' (n1.trans n) x
theorem Pst.mono {α β : Type} {G : Gm} {W : WX} {OX O O1 : List Nat} {σ : L2.St} {F H : Hp} {Rl : Hp → Hp → α → β → Prop} {o : Out α} {Q Q' : β → Hp → Prop} (p : Pst G W OX O O1 σ F H Rl Q o) (h : ∀ b H, Q b H → Q' b H) : Pst G W OX O O1 σ F H Rl Q' o := by
  revert p
  cases o with
  | no => exact fun p => p
  | ex e r' => exact fun p => p
  | ok a r1 => exact fun p b F1 H1 n rl => h b H1 (p b F1 H1 n rl)
theorem tX_bind {α β γ δ : Type} {G : Gm} {W : WX} {OX O O1 O2 : List Nat} {σ : L2.St} {F H : Hp} {r : Ev} {Rl : Hp → Hp → α → β → Prop} {Rl' : Hp → Hp → γ → δ → Prop} {f : M α} {k : α → M γ} {Q : β → Hp → Prop} {Q' : δ → Hp → Prop}
    (S : Sta G O F H σ r) (p : Pst G W OX O O2 σ F H Rl' Q' ((f r).bind k))
    (hk : ∀ (a : α) (b : β) (F1 H1 : Hp) (r1 : Ev), Nx G OX O O1 σ F H σ F1 H1 r1 → Rl F1 H1 a b → Pst G W OX O1 O2 σ F1 H1 Rl' Q' (k a r1) → Q b H1) : tX G W OX O O1 Rl f σ H Q :=
  ⟨F, r, S, p.bind.mono fun b H1 ⟨a, F1, r1, n, rl, p⟩ => hk a b F1 H1 r1 n rl p⟩
theorem _root_.L2.PE.imp {X : Cx} {e : Expr} {t t' : TE} (h : PE X e t) (i : ∀ σ H Q, t' σ H Q → t σ H Q) : PE X e t' := ⟨fun pins s σ H Q I q => h.run pins s σ H Q I (i σ H Q q)⟩
theorem _root_.L2.PT.imp {X : Cx} {e : Expr} {t t' : TT} (h : PT X e t) (i : ∀ σ H Q, t' σ H Q → t σ H Q) : PT X e t' := ⟨fun pins s σ H Q I q => h.run pins s σ H Q I (i σ H Q q)⟩
theorem _root_.L2.PA.imp {X : Cx} {e : List Expr} {t t' : TA} (h : PA X e t) (i : ∀ σ H Q, t' σ H Q → t σ H Q) : PA X e t' := ⟨fun pos pins s σ H Q I q => h.run pos pins s σ H Q I (i σ H Q q)⟩
theorem _root_.L2.PS.imp {X : Cx} {e : Stmt} {t t' : TS} (h : PS X e t) (i : ∀ D σ H, t' D σ H → t D σ H) : PS X e t' := ⟨fun pins s σ H D I q => h.run pins s σ H D I (i D σ H q)⟩
theorem _root_.L2.PSs.imp {X : Cx} {e : List Stmt} {t t' : TS} (h : PSs X e t) (i : ∀ D σ H, t' D σ H → t D σ H) : PSs X e t' := ⟨fun pins s σ H D I q => h.run pins s σ H D I (i D σ H q)⟩
end Z

/-! Expressions: names, constants, tests, operators on plain values. -/
namespace Z
open PySem PySem.Spec PyProof.Rows L2

/-! ### behaviours -/
@[simp] def eV (i : Nat) : M D := fun r => match r[i]? with
  | some (some d) => .ok d r
  | _ => .no
@[simp] def eS (imm : Nat → Bool) (i : Nat) : M D := fun r => match r[i]? with
  | some (some (.ob c l)) => if imm c then .ok (.ob c l) r else .no
  | _ => .no
@[simp] def eK (d : D) : M D := fun r => .ok d r
@[simp] def eAnd (f g : M D) : M D := fun r => (f r).bind fun x r1 => match x with
  | .bl true => g r1
  | .bl false => .ok (.bl false) r1
  | _ => .no
@[simp] def eOr (f g : M D) : M D := fun r => (f r).bind fun x r1 => match x with
  | .bl true => .ok (.bl true) r1
  | .bl false => g r1
  | _ => .no
@[simp] def eNot (f : M D) : M D := fun r => (f r).bind fun x r1 => match x with
  | .bl b => .ok (.bl (!b)) r1
  | _ => .no
@[simp] def eIf (t : M Bool) (f g : M D) : M D := fun r => (t r).bind fun b r1 => if b then f r1 else g r1
@[simp] def tV (f : M D) : M Bool := fun r => (f r).bind fun x r1 => match x with
  | .bl b => .ok b r1
  | _ => .no
@[simp] def tAn (f g : M Bool) : M Bool := fun r => (f r).bind fun b r1 => if b then g r1 else .ok false r1
@[simp] def tOn (f g : M Bool) : M Bool := fun r => (f r).bind fun b r1 => if b then .ok true r1 else g r1
@[simp] def tNo (f : M Bool) : M Bool := fun r => (f r).bind fun b r1 => .ok (!b) r1
@[simp] def D.isNon : D → Bool
  | .non => true
  | _ => false
@[simp] def eIsN (f : M D) : M D := fun r => (f r).bind fun x r1 => .ok (.bl x.isNon) r1
@[simp] def eNotN (f : M D) : M D := fun r => (f r).bind fun x r1 => .ok (.bl (!x.isNon)) r1
@[simp] def aNil : M (List D) := fun r => .ok [] r
@[simp] def aCons (f : M D) (g : M (List D)) : M (List D) := fun r => (f r).bind fun x r1 => (g r1).bind fun xs r2 => .ok (x :: xs) r2
/-- a plain operation of two values -/
@[simp] def liftO (o : Option D) (r : Ev) : Out D := match o with
  | some d => .ok d r
  | none => .no
@[simp] def eB (o : D → D → Ev → Out D) (f g : M D) : M D := fun r => (f r).bind fun x r1 => (g r1).bind fun y r2 => o x y r2
@[simp] def eU (o : D → Ev → Out D) (f : M D) : M D := fun r => (f r).bind fun x r1 => o x r1
/-- a op b op' c, b asked once -/
@[simp] def onBl {α : Type} (z : D) (k : Bool → Out α) : Out α := match z with
  | .bl b => k b
  | _ => .no
@[simp] def eChain (o o' : D → D → Ev → Out D) (f g h : M D) : M D := fun r => (f r).bind fun x r1 => (g r1).bind fun y r2 => (o x y r2).bind fun z r3 => onBl z fun b => if b then (h r3).bind fun w r4 => o' y w r4 else .ok (.bl false) r3

section
variable {G : Gm} {X : Cx} {W : WX} {OX O O1 O2 O3 : List Nat}

theorem Pst.ok {α β : Type} {σ : L2.St} {F H : Hp} {r : Ev} {Rl : Hp → Hp → α → β → Prop} {Q : β → Hp → Prop} {a : α} {b : β} (S : Sta G O F H σ r) (rl : Rl F H a b) (p : Pst G W OX O O σ F H Rl Q (.ok a r)) : Q b H := p b F H (Nx.rfl' S) rl

/-! ### names -/
theorem e_var {x : Str} {pos : Pos} (i : Nat) (hi : i ∉ O := by decide) (hN : X.N[i]? = some x := by rfl) (hv : Vis X.env.scope x := by first | exact Or.inl rfl | exact Or.inr (Or.inl rfl) | exact Or.inr (Or.inr rfl))
    (hd : (x == ("__debug__" : Str)) = false := by decide) (hcd : (x == ("__classdict__" : Str)) = false := by decide) : PE X (.Name x pos) (tE G W OX O O (eV i)) :=
  (pe_var hN hv hd hcd).imp fun σ H Q ⟨F, r, S, p⟩ => by
    simp only [eV] at p
    revert p
    split
    · rename_i d e
      intro p
      obtain ⟨v, e1, h⟩ := S.rp i d hi e
      exact ⟨v, e1, p.ok S h⟩
    · exact fun p => p.elim
theorem e_varF {x : Str} {pos : Pos} (i : Nat) (hi : i ∈ O := by decide) (hN : X.N[i]? = some x := by rfl) (hv : Vis X.env.scope x := by first | exact Or.inl rfl | exact Or.inr (Or.inl rfl) | exact Or.inr (Or.inr rfl))
    (hd : (x == ("__debug__" : Str)) = false := by decide) (hcd : (x == ("__classdict__" : Str)) = false := by decide) : PE X (.Name x pos) (tE G W OX O (O.filter (· != i)) (eV i)) :=
  (pe_var hN hv hd hcd).imp fun σ H Q ⟨F, r, S, p⟩ => by
    simp only [eV] at p
    revert p
    split
    · rename_i d e
      intro p
      obtain ⟨F', v, e1, h, S', s'⟩ := S.freeze hi e
      exact ⟨v, e1, p v F' H (Nx.of S' s' fun j hj => (List.mem_filter.mp hj).1) h⟩
    · exact fun p => p.elim
/-- an object that its __init__ is making, as a value -/
theorem e_self {x : Str} {pos : Pos} (i : Nat) (hi : i ∈ O := by decide) (hN : X.N[i]? = some x := by rfl) (hv : Vis X.env.scope x := by first | exact Or.inl rfl | exact Or.inr (Or.inl rfl) | exact Or.inr (Or.inr rfl))
    (hd : (x == ("__debug__" : Str)) = false := by decide) (hcd : (x == ("__classdict__" : Str)) = false := by decide) : PE X (.Name x pos) (tE G W OX O O (eS G.imm i)) :=
  (pe_var hN hv hd hcd).imp fun σ H Q ⟨F, r, S, p⟩ => by
    simp only [eS] at p
    revert p
    split
    · rename_i c l e
      split
      · rename_i him
        intro p
        obtain ⟨v, e1, o⟩ := S.own_at hi e
        obtain ⟨F', a, ob, rfl, ha, rfl, k1, k2, rp⟩ := o.freeze S.sub
        have nb : ∀ {b}, ¬ OwnAt O σ b → b ≠ a := fun {b} n z => n ⟨i, hi, by rw [e1, z]⟩
        have st : Stp (OwnAt O σ) F H (upd F a ob) H := ⟨k1, fun _ _ h _ => h, fun b u h n => upd_ne (nb n), fun _ h => h⟩
        refine ⟨_, e1, p _ (upd F a ob) H (Nx.of ⟨k2, S.wf, S.len, fun j dj hj ej => ?_, fun j hj => ?_, S.dj⟩ st fun j hj => hj) rp⟩
        · obtain ⟨w, ew, hw⟩ := S.rp j dj hj ej
          exact ⟨w, ew, hw.mono k1⟩
        · by_cases q : j = i
          · subst q
            refine ⟨_, _, e, e1, ?_⟩
            cases o with
            | @ob _ _ _ dx xs h hf hl rr =>
              have eo : ob = HO.ins (G.cA c) dx ((G.lay c).zip xs) := by
                rw [ha] at h
                exact Option.some.inj h
              subst eo
              exact .ob h (.inr ⟨him, xs.length, by rw [List.take_length]; exact upd_same⟩) hl (rr.mono k1)
          · obtain ⟨dj, w, e1', ew, ow⟩ := S.ow j hj
            refine ⟨dj, w, e1', ew, ?_⟩
            obtain ⟨b, ob', rfl, hb⟩ := ow.there
            have nb : b ≠ a := fun z => q (S.dj j i a hj hi (by rw [ew, z]) e1)
            cases ow with
            | lst h hf rr => exact .lst h (by rw [upd_ne nb]; exact hf) (rr.mono k1)
            | dic h hf hk rr => exact .dic h (by rw [upd_ne nb]; exact hf) hk (rr.mono k1)
            | ob h hf hl rr => exact .ob h (by rw [upd_ne nb]; exact hf) hl (rr.mono k1)
      · exact fun p => p.elim
    · exact fun p => p.elim

/-! ### constants -/
theorem e_of {e : Expr} {v : V} {d : D} (h : PE X e (tC v)) (hr : ∀ F, Rep G F d v) : PE X e (tE G W OX O O (eK d)) := h.imp fun σ H Q ⟨F, r, S, p⟩ => p.ok S (hr F)
theorem e_int {i : Int} {j pos} : PE X (.Constant (.int i) j pos) (tE G W OX O O (eK (.int i))) := e_of pe_int fun _ => .int
theorem e_bl {b j pos} : PE X (.Constant (.bool b) j pos) (tE G W OX O O (eK (.bl b))) := e_of pe_bl fun _ => .bl
theorem e_non {j pos} : PE X (.Constant .none j pos) (tE G W OX O O (eK .non)) := e_of pe_non fun _ => .non
theorem e_str {x j pos} : PE X (.Constant (.str x) j pos) (tE G W OX O O (eK (.str x))) := e_of pe_str fun _ => .str

/-! ### two in a row -/
theorem e_and {a b : Expr} {rest : List Expr} {pos : Pos} {f g : M D} (ha : PE X a (tE G W OX O O1 f)) (hb : PE X (.BoolOp .And (b :: rest) pos) (tE G W OX O1 O1 g)) : PE X (.BoolOp .And (a :: b :: rest) pos) (tE G W OX O O1 (eAnd f g)) :=
  (pe_and ha hb).imp fun σ H Q ⟨F, r, S, p⟩ => tX_bind S p fun x v F1 H1 r1 n1 rx p => by
    revert p
    split
    · intro p
      cases rx
      exact ⟨true, rfl, by rw [if_pos rfl]; exact ⟨F1, r1, n1.sta, p⟩⟩
    · intro p
      cases rx
      exact ⟨false, rfl, by rw [if_neg (by decide)]; exact p.ok n1.sta .bl⟩
    · exact fun p => p.elim
theorem e_or {a b : Expr} {rest : List Expr} {pos : Pos} {f g : M D} (ha : PE X a (tE G W OX O O1 f)) (hb : PE X (.BoolOp .Or (b :: rest) pos) (tE G W OX O1 O1 g)) : PE X (.BoolOp .Or (a :: b :: rest) pos) (tE G W OX O O1 (eOr f g)) :=
  (pe_or ha hb).imp fun σ H Q ⟨F, r, S, p⟩ => tX_bind S p fun x v F1 H1 r1 n1 rx p => by
    revert p
    split
    · intro p
      cases rx
      exact ⟨true, rfl, by rw [if_pos rfl]; exact p.ok n1.sta .bl⟩
    · intro p
      cases rx
      exact ⟨false, rfl, by rw [if_neg (by decide)]; exact ⟨F1, r1, n1.sta, p⟩⟩
    · exact fun p => p.elim
theorem e_not {a : Expr} {pos : Pos} {f : M D} (ha : PE X a (tE G W OX O O1 f)) : PE X (.UnaryOp .Not a pos) (tE G W OX O O1 (eNot f)) :=
  (pe_not ha).imp fun σ H Q ⟨F, r, S, p⟩ => tX_bind S p fun x v F1 H1 r1 n1 rx p => by
    revert p
    split
    · intro p
      cases rx
      exact ⟨_, rfl, p.ok n1.sta .bl⟩
    · exact fun p => p.elim
theorem e_if {c a b : Expr} {pos : Pos} {t : M Bool} {f g : M D} (hc : PT X c (tT G W OX O O1 t)) (ha : PE X a (tE G W OX O1 O2 f)) (hb : PE X b (tE G W OX O1 O2 g)) : PE X (.IfExp c a b pos) (tE G W OX O O2 (eIf t f g)) :=
  (pe_ifExp hc ha hb).imp fun σ H Q ⟨F, r, S, p⟩ => tX_bind S p fun x v F1 H1 r1 n1 rx p => by
    subst rx
    cases x with
    | true => exact ⟨F1, r1, n1.sta, p⟩
    | false => exact ⟨F1, r1, n1.sta, p⟩
/-! ### tests -/
theorem t_val {e : Expr} {f : M D} (h : PE X e (tE G W OX O O1 f)) (he : ∀ whole, isTrue e X.env whole = (do let v ← whole; standAt e.pos; holding [v] (truthy v)) := by intro _; rfl) : PT X e (tT G W OX O O1 (tV f)) :=
  (pt_val h he).imp fun σ H Q ⟨F, r, S, p⟩ => tX_bind S p fun x v F1 H1 r1 n1 rx p => by
    revert p
    split
    · intro p
      cases rx
      exact ⟨_, rfl, p.ok n1.sta rfl⟩
    · exact fun p => p.elim
structure PWt (X : Cx) (e : Expr) (t : TT) : Prop where
  w : PW X e t
theorem w_and1 {a : Expr} {pos : Pos} {t : TT} (h : PT X a t) : PWt X (.BoolOp .And [a] pos) t := ⟨pw_and1 h⟩
theorem w_or1 {a : Expr} {pos : Pos} {t : TT} (h : PT X a t) : PWt X (.BoolOp .Or [a] pos) t := ⟨pw_or1 h⟩
theorem _root_.L2.PW.imp {X : Cx} {e : Expr} {t t' : TT} (h : PW X e t) (i : ∀ σ H Q, t' σ H Q → t σ H Q) : PW X e t' := ⟨fun wh pins s σ H Q I q => h.run wh pins s σ H Q I (i σ H Q q)⟩
theorem w_and {a b : Expr} {rest : List Expr} {pos : Pos} {f g : M Bool} (ha : PT X a (tT G W OX O O1 f)) (hb : PWt X (.BoolOp .And (b :: rest) pos) (tT G W OX O1 O1 g)) : PWt X (.BoolOp .And (a :: b :: rest) pos) (tT G W OX O O1 (tAn f g)) :=
  ⟨(pw_and ha hb.w).imp fun σ H Q ⟨F, r, S, p⟩ => tX_bind S p fun x v F1 H1 r1 n1 rx p => by
    subst rx
    cases x with
    | true => exact ⟨F1, r1, n1.sta, p⟩
    | false => exact p.ok n1.sta rfl⟩
theorem w_or {a b : Expr} {rest : List Expr} {pos : Pos} {f g : M Bool} (ha : PT X a (tT G W OX O O1 f)) (hb : PWt X (.BoolOp .Or (b :: rest) pos) (tT G W OX O1 O1 g)) : PWt X (.BoolOp .Or (a :: b :: rest) pos) (tT G W OX O O1 (tOn f g)) :=
  ⟨(pw_or ha hb.w).imp fun σ H Q ⟨F, r, S, p⟩ => tX_bind S p fun x v F1 H1 r1 n1 rx p => by
    subst rx
    cases x with
    | true => exact p.ok n1.sta rfl
    | false => exact ⟨F1, r1, n1.sta, p⟩⟩
theorem t_bo {e : Expr} {t : TT} (h : PWt X e t) : PT X e t := h.w.pt
theorem t_not {a : Expr} {pos : Pos} {f : M Bool} (ha : PT X a (tT G W OX O O1 f)) : PT X (.UnaryOp .Not a pos) (tT G W OX O O1 (tNo f)) :=
  (pt_not ha).imp fun σ H Q ⟨F, r, S, p⟩ => tX_bind S p fun x v F1 H1 r1 n1 rx p => by
    subst rx
    exact p.ok n1.sta rfl
/-! ### is None -/
theorem Rep.isN {F : Hp} {x : D} {v : V} (h : Rep G F x v) : decide (v = V.non) = x.isNon := by cases h <;> rfl
theorem e_isN {a : Expr} {j pos pos'} {f : M D} (ha : PE X a (tE G W OX O O1 f)) : PE X (.Compare a [.Is] [.Constant .none j pos'] pos) (tE G W OX O O1 (eIsN f)) :=
  (pe_cmp (pc_isN ha) rfl).imp fun σ H Q ⟨F, r, S, p⟩ => tX_bind S p fun x v F1 H1 r1 n1 rx p => by
    rw [rx.isN]
    exact p.ok n1.sta .bl
theorem e_notN {a : Expr} {j pos pos'} {f : M D} (ha : PE X a (tE G W OX O O1 f)) : PE X (.Compare a [.IsNot] [.Constant .none j pos'] pos) (tE G W OX O O1 (eNotN f)) :=
  (pe_cmp (pc_notN ha) rfl).imp fun σ H Q ⟨F, r, S, p⟩ => tX_bind S p fun x v F1 H1 r1 n1 rx p => by
    rw [rx.isN]
    exact p.ok n1.sta .bl
/-! ### arguments -/
theorem a_nil : PA X [] (tA G W OX O O aNil) := pa_nil.imp fun σ H Q ⟨F, r, S, p⟩ => p.ok S .nil
theorem a_cons {e : Expr} {es : List Expr} {f : M D} {g : M (List D)} (ha : PE X e (tE G W OX O O1 f)) (hr : PA X es (tA G W OX O1 O2 g)) (hs : starEach (e :: es) X.env = (false, eval e X.env) :: starEach es X.env := by rfl) :
    PA X (e :: es) (tA G W OX O O2 (aCons f g)) :=
  (pa_cons ha hr hs).imp fun σ H Q ⟨F, r, S, p⟩ => tX_bind S p fun x v F1 H1 r1 n1 rx p => tX_bind n1.sta p fun xs vs F2 H2 r2 n2 rxs p2 =>
    p2.ok n2.sta (.cons (rx.mono n2.stp.fz) rxs)

/-! ### operators of two values, by what they do to trees -/
/-- f does to values what o does to trees -/
def Op2 (G : Gm) (X : Cx) (W : WX) (OX O : List Nat) (f : Value → Value → Sem Value) (o : D → D → Ev → Out D) : Prop :=
  ∀ (pins : List (Addr × Obj)) (s : Shared) (σ : L2.St) (F H : Hp) (r : Ev) (x y : D) (v w : V) (u u' : Value) (Q : VK), Inv X pins σ H s → Sta G O F H σ r → Rep G F x v → Rep G F y w → RelV v u → RelV w u' →
    Pst G W OX O O σ F H (RD G) Q (o x y r) → wpAny (model X.prog X.w) X.A (f u u') (EP X pins σ Q) X.xe s
def Op1 (G : Gm) (X : Cx) (W : WX) (OX O : List Nat) (f : Value → Sem Value) (o : D → Ev → Out D) : Prop :=
  ∀ (pins : List (Addr × Obj)) (s : Shared) (σ : L2.St) (F H : Hp) (r : Ev) (x : D) (v : V) (u : Value) (Q : VK), Inv X pins σ H s → Sta G O F H σ r → Rep G F x v → RelV v u →
    Pst G W OX O O σ F H (RD G) Q (o x r) → wpAny (model X.prog X.w) X.A (f u) (EP X pins σ Q) X.xe s

theorem Op2.of {f : Value → Value → Sem Value} {o : D → D → Ev → Out D} {h : R2} (ho : OpR X f h)
    (hp : ∀ (σ : L2.St) (F H : Hp) (r : Ev) (x y : D) (v w : V) (Q : VK), Sta G O F H σ r → Rep G F x v → Rep G F y w → Pst G W OX O O σ F H (RD G) Q (o x y r) → h v w H Q) : Op2 G X W OX O f o :=
  fun pins s σ F H r x y v w u u' Q I S rx ry ru ru' p => ho pins s σ H v w u u' Q I ru ru' (hp σ F H r x y v w Q S rx ry p)
theorem Op1.of {f : Value → Sem Value} {o : D → Ev → Out D} {h : V → Hp → VK → Prop} (ho : UnR X f h)
    (hp : ∀ (σ : L2.St) (F H : Hp) (r : Ev) (x : D) (v : V) (Q : VK), Sta G O F H σ r → Rep G F x v → Pst G W OX O O σ F H (RD G) Q (o x r) → h v H Q) : Op1 G X W OX O f o :=
  fun pins s σ F H r x v u Q I S rx ru p => ho pins s σ H v u Q I ru (hp σ F H r x v Q S rx p)
/-- two behind one another, both values at hand -/
theorem two {a b : Expr} {f g : M D} {k : D → D → Ev → Out D} (ha : PE X a (tE G W OX O O1 f)) (hb : PE X b (tE G W OX O1 O2 g)) {pins : List (Addr × Obj)} {s : Shared} {σ : L2.St} {F H : Hp} {r : Ev} {Q : VK} (I : Inv X pins σ H s) (S : Sta G O F H σ r)
    (p : Pst G W OX O O2 σ F H (RD G) Q ((f r).bind fun x r1 => (g r1).bind fun y r2 => k x y r2)) {α : Type} {Q' : α → Shared → Prop} {h : Value → Value → Sem α}
    (hf : ∀ (x y : D) (v w : V) (u u' : Value) (s2 : Shared) (F2 H2 : Hp) (r2 : Ev), Inv X pins σ H2 s2 → Sta G O2 F2 H2 σ r2 → Rep G F2 x v → Rep G F2 y w → RelV v u → RelV w u' → Pst G W OX O2 O2 σ F2 H2 (RD G) Q (k x y r2) → wpAny (model X.prog X.w) X.A (h u u') Q' X.xe s2) :
    wpAny (model X.prog X.w) X.A (eval a X.env) (fun v s₁ => wpAny (model X.prog X.w) X.A (eval b X.env) (fun u s₂ => wpAny (model X.prog X.w) X.A (h v u) Q' X.xe s₂) X.xe s₁) X.xe s := by
  refine thn (ha.run pins s σ H (fun v H1 => ∃ x, tE G W OX O1 O2 g σ H1 fun w H2 => ∃ F2 r2 y, Sta G O2 F2 H2 σ r2 ∧ Rep G F2 x v ∧ Rep G F2 y w ∧ Pst G W OX O2 O2 σ F2 H2 (RD G) Q (k x y r2)) I
    (tX_bind S p fun x v F1 H1 r1 n1 rx p => ⟨x, tX_bind n1.sta p fun y w F2 H2 r2 n2 ry p => ⟨F2, r2, y, n2.sta, rx.mono n2.stp.fz, ry, p⟩⟩)) fun u s1 ⟨v, H1, I1, ru, x, q1⟩ => ?_
  refine thn (hb.run pins s1 σ H1 _ I1 q1) fun u' s2 ⟨w, H2, I2, ru', F2, r2, y, S2, rx, ry, p⟩ => ?_
  exact hf x y v w u u' s2 F2 H2 r2 I2 S2 rx ry ru ru' p
theorem e_bin {op : Operator} {a b : Expr} {pos : Pos} {o : D → D → Ev → Out D} {f g : M D} (ho : Op2 G X W OX O2 (binaryOp op) o) (ha : PE X a (tE G W OX O O1 f)) (hb : PE X b (tE G W OX O1 O2 g)) : PE X (.BinOp a op b pos) (tE G W OX O O2 (eB o f g)) :=
  ⟨fun pins s σ H Q I ⟨F, r, S, p⟩ => wpAny_BinOp (two ha hb I S p fun x y v w u u' s2 F2 H2 r2 I2 S2 rx ry ru ru' p => ho pins s2 σ F2 H2 r2 x y v w u u' Q I2 S2 rx ry ru ru' p)⟩
theorem e_cmp {op : CmpOp} {a b : Expr} {pos : Pos} {o : D → D → Ev → Out D} {f g : M D} (ho : Op2 G X W OX O2 (compareOp op) o) (ha : PE X a (tE G W OX O O1 f)) (hb : PE X b (tE G W OX O1 O2 g)) (hm : behindInMarks op b = false := by first | exact nomark _ | rfl) :
    PE X (.Compare a [op] [b] pos) (tE G W OX O O2 (eB o f g)) :=
  ⟨fun pins s σ H Q I ⟨F, r, S, p⟩ => wpAny_Compare1 (two ha hb I S p fun x y v w u u' s2 F2 H2 r2 I2 S2 rx ry ru ru' p => ho pins s2 σ F2 H2 r2 x y v w u u' Q I2 S2 rx ry ru ru' p) hm⟩
theorem e_un {op : UnaryOp} {a : Expr} {pos : Pos} {o : D → Ev → Out D} {f : M D} (ho : Op1 G X W OX O1 (unaryOp op) o) (ha : PE X a (tE G W OX O O1 f)) : PE X (.UnaryOp op a pos) (tE G W OX O O1 (eU o f)) := by
  refine ⟨fun pins s σ H Q I ⟨F, r, S, p⟩ => ?_⟩
  refine UnaryOp_ (thn (ha.run pins s σ H (fun v H1 => ∃ F1 r1 x, Sta G O1 F1 H1 σ r1 ∧ Rep G F1 x v ∧ Pst G W OX O1 O1 σ F1 H1 (RD G) Q (o x r1)) I (tX_bind S p fun x v F1 H1 r1 n1 rx p => ⟨F1, r1, x, n1.sta, rx, p⟩)) fun u s1 ⟨v, H1, I1, ru, F1, r1, x, S1, rx, p⟩ => ?_)
  exact ho pins s1 σ F1 H1 r1 x v u Q I1 S1 rx ru p
/-- a op b op' c -/
theorem e_chain {op op' : CmpOp} {a b c : Expr} {pos : Pos} {o o' : D → D → Ev → Out D} {f g h : M D} (ho : Op2 G X W OX O (compareOp op) o) (ho' : Op2 G X W OX O (compareOp op') o') (ha : PE X a (tE G W OX O O f)) (hb : PE X b (tE G W OX O O g))
    (hc : PE X c (tE G W OX O O h)) (hm : lastMarks [op, op'] [b, c] = false := by with_unfolding_all rfl) : PE X (.Compare a [op, op'] [b, c] pos) (tE G W OX O O (eChain o o' f g h)) := by
  refine ⟨fun pins s σ H Q I ⟨F, r, S, p⟩ => ?_⟩
  refine Compare_chain (thn (ha.run pins s σ H (fun v H1 => ∃ x, tE G W OX O O g σ H1 fun w H2 => ∃ F2 r2 y, Sta G O F2 H2 σ r2 ∧ Rep G F2 x v ∧ Rep G F2 y w ∧ Pst G W OX O O σ F2 H2 (RD G) Q
      ((o x y r2).bind fun z r3 => onBl z fun b => if b then (h r3).bind fun w r4 => o' y w r4 else .ok (.bl false) r3)) I
    (tX_bind S p fun x v F1 H1 r1 n1 rx p => ⟨x, tX_bind n1.sta p fun y w F2 H2 r2 n2 ry p => ⟨F2, r2, y, n2.sta, rx.mono n2.stp.fz, ry, p⟩⟩)) fun u s1 ⟨v, H1, I1, ru, x, q1⟩ =>
    chain_link (thn (hb.run pins s1 σ H1 _ I1 q1) fun u' s2 ⟨w, H2, I2, ru', F2, r2, y, S2, rx, ry, p⟩ => ?_)) hm
  refine thn (ho pins s2 σ F2 H2 r2 _ y v w u u' _ I2 S2 rx ry ru ru' (Pst.bind (Rl := RD G) (O1 := O) p)) fun d s3 ⟨v3, H3, I3, r3', z, F3, r3, n3, rz, p⟩ => ?_
  cases rz with
  | @bl b =>
    cases r3'
    refine wpAny_truthy_bool ?_
    cases b with
    | false => exact ite_ff ⟨.bl false, H3, I3, rfl, p.ok n3.sta .bl⟩
    | true =>
      refine ite_tt (chain_last (thn (hc.run pins s3 σ H3 (fun w' H4 => ∃ F4 r4 z', Sta G O F4 H4 σ r4 ∧ Sub F3 F4 ∧ Rep G F4 z' w' ∧ Pst G W OX O O σ F4 H4 (RD G) Q (o' y z' r4)) I3
        (tX_bind n3.sta p fun z' w' F4 H4 r4 n4 rz p => ⟨F4, r4, z', n4.sta, n4.stp.fz, rz, p⟩)) fun u'' s4 ⟨w', H4, I4, r4', F4, r4, z', S4, sb4, rz, p⟩ => ?_))
      exact ho' pins s4 σ F4 H4 r4 y z' w w' u' u'' Q I4 S4 (ry.mono (n3.stp.fz.trans sb4)) rz ru' r4' p
  | _ => exact p.elim
end
end Z

/-! Defs: what a def does to trees (Beh), its promise, calls. -/
namespace Z
open PySem PySem.Spec PyProof.Rows L2

/-- what a def does: from its arguments to its value; behind it the owned arguments as they are then -/
abbrev Beh := List D → Out D
def keepE (io : List Nat) (n : Nat) (r : Ev) : Ev := (List.range n).map fun i => if io.contains i then r.getD i none else none
inductive Fl where
  | nx | rt (d : D) | bk | ct
/-- a def by its body: n parameters, m slots -/
def mkB (n m : Nat) (io : List Nat) (body : M Fl) : Beh := fun ds => if ds.length = n then (match body (ds.map some ++ List.replicate (m - n) none) with
  | .ok .nx r => .ok .non (keepE io n r)
  | .ok (.rt d) r => .ok d (keepE io n r)
  | .ok _ _ => .no
  | .ex e r => .ex e (keepE io n r)
  | .no => .no) else .no
/-- the promise -/
def spB (G : Gm) (n : Nat) (io : List Nat) (B : Beh) : Sp := fun vs H Q E => vs.length = n ∧ ∃ F ds, Sta G io F H (vs.map some) (ds.map some) ∧
  Pst G (fun c dx _ H' => E c dx H') io io io (vs.map some) F H (RD G) Q (B ds)
abbrev FnB (P : Program) (w : World) (G : Gm) (mg : Str → Option Value) (base : Heap) (k : Nat) (f : Addr) (fd : FuncData) (ps : List Str) (n : Nat) (io : List Nat) (B : Beh) : Prop := FnOk P w G.K mg base (L2.CX P w) k f fd ps (spB G n io B)

/-- a call of a def that changes none of its arguments -/
@[simp] def out0 (o : Out D) (r : Ev) : Out D := match o with
  | .ok d _ => .ok d r
  | .ex e _ => .ex e r
  | .no => .no
/-- .. of one that changes its first argument, the caller's slot i -/
@[simp] def out1 (o : Out D) (i : Nat) (r : Ev) : Out D := match o with
  | .ok d q => .ok d (r.set i (q.getD 0 none))
  | .ex e q => .ex e (r.set i (q.getD 0 none))
  | .no => .no
@[simp] def eC (B : Beh) (f : M (List D)) : M D := fun r => (f r).bind fun ds r1 => out0 (B ds) r1
@[simp] def eC1 (B : Beh) (i : Nat) (f : M (List D)) : M D := fun r => (f r).bind fun ds r1 => match r1[i]? with
  | some (some d0) => out1 (B (d0 :: ds)) i r1
  | _ => .no

section
variable {G : Gm} {X : Cx} {W : WX} {OX O O1 O2 O3 : List Nat}
theorem Sta.args {F H : Hp} {ds : List D} {vs : List V} (sb : Sub F H) (wf : Wf G H) (h : RepL G F ds vs) : Sta G [] F H (vs.map some) (ds.map some) where
  sub := sb
  wf := wf
  len := by rw [List.length_map, List.length_map, h.length]
  rp := fun i d _ e => by
    rw [List.getElem?_map] at e
    cases q : ds[i]? with
    | none => rw [q] at e; cases e
    | some d' =>
      rw [q] at e
      cases e
      obtain ⟨v, e1, h1⟩ := h.get q
      exact ⟨v, by rw [List.getElem?_map, e1]; rfl, h1⟩
  ow := fun i hi => by cases hi
  dj := fun i j a hi => by cases hi
theorem notOwn_nil {σ : L2.St} {a : Addr} : ¬ OwnAt [] σ a := fun ⟨_, h, _⟩ => by cases h
/-- what a caller may ask of a def that changes none of its arguments -/
theorem spB_of {σ : L2.St} {F H : Hp} {r : Ev} {ds : List D} {vs : List V} {n : Nat} {B : Beh} {Q : VK} (hx : ∀ i ∈ OX, i ∈ O) (S : Sta G O F H σ r) (h : RepL G F ds vs) (hn : vs.length = n) (p : Pst G W OX O O σ F H (RD G) Q (out0 (B ds) r)) :
    spB G n [] B vs H Q (fun c dx H' => W c dx σ H') := by
  refine ⟨hn, F, ds, Sta.args S.sub S.wf h, ?_⟩
  have stay : ∀ {F' H' : Hp} {r' : Ev}, Nx G [] [] [] (vs.map some) F H (vs.map some) F' H' r' → Nx G OX O O σ F H σ F' H' r := fun {F' H' r'} n =>
    Nx.of (S.stay (n.stp.weak (Mo1 := fun _ => False) fun x z => absurd z notOwn_nil) n.sta.sub n.sta.wf fun _ _ z => z) (n.stp.weak fun x z => absurd z notOwn_nil) fun _ h => h
  revert p
  cases B ds with
  | no => exact fun p => p
  | ok d q => exact fun p v F' H' n rd => p v F' H' (stay n) rd
  | ex e q => exact fun p c dx F' H' n x => let ⟨F2, n2, sb⟩ := (stay n).freeze hx; p c dx F2 H' n2 (x.mono sb)
/-- .. that changes its first argument -/
theorem spB_of1 {σ : L2.St} {F H : Hp} {r : Ev} {ds : List D} {vs : List V} {d0 : D} {v0 : V} {i n : Nat} {B : Beh} {Q : VK} (hx : ∀ i ∈ OX, i ∈ O) (S : Sta G O F H σ r) (hi : i ∈ O) (hd : r[i]? = some (some d0)) (hv : σ[i]? = some (some v0))
    (h : RepL G F ds vs) (hn : (v0 :: vs).length = n) (p : Pst G W OX O O σ F H (RD G) Q (out1 (B (d0 :: ds)) i r)) : spB G n [0] B (v0 :: vs) H Q (fun c dx H' => W c dx σ H') := by
  obtain ⟨v0', e0, ow⟩ := S.own_at hi hd
  rw [hv] at e0
  cases e0
  have SA : Sta G [0] F H ((v0 :: vs).map some) ((d0 :: ds).map some) := by
    have A := Sta.args S.sub S.wf h
    refine ⟨S.sub, S.wf, by simp [h.length], fun j d hj e => ?_, fun j hj => ?_, fun j k a hj hk _ _ => ?_⟩
    · cases j with
      | zero => exact absurd (List.mem_singleton.mpr rfl) hj
      | succ j => exact A.rp j d (by simp) (by simpa using e)
    · rw [List.mem_singleton.mp hj]
      exact ⟨d0, v0, rfl, rfl, ow⟩
    · rw [List.mem_singleton.mp hj, List.mem_singleton.mp hk]
  refine ⟨hn, F, d0 :: ds, SA, ?_⟩
  have mo : ∀ x, OwnAt [0] ((v0 :: vs).map some) x → v0 = .ref x ∧ OwnAt O σ x := fun x ⟨j, hj, e⟩ => by
    rw [List.mem_singleton.mp hj] at e
    have e' : v0 = .ref x := by simpa using e
    exact ⟨e', i, hi, by rw [hv, e']⟩
  have stay : ∀ {F' H' : Hp} {r' : Ev}, Nx G [0] [0] [0] ((v0 :: vs).map some) F H ((v0 :: vs).map some) F' H' r' → Nx G OX O O σ F H σ F' H' (r.set i (r'.getD 0 none)) := fun {F' H' r'} n => by
    obtain ⟨d', v', e1, e2, ow'⟩ := n.sta.ow 0 (by simp)
    have ev : v0 = v' := by simpa using e2
    subst ev
    have er : r'.getD 0 none = some d' := by
      rw [List.getD_eq_getElem?_getD, e1] <;> rfl
    rw [er]
    refine Nx.of ⟨n.sta.sub, n.sta.wf, by simp [S.len], fun j d hj e => ?_, fun j hj => ?_, S.dj⟩ (n.stp.weak fun x m => (mo x m).2) fun _ h => h
    · have q : i ≠ j := fun z => hj (z ▸ hi)
      rw [List.getElem?_set_ne q] at e
      obtain ⟨v, e', rp⟩ := S.rp j d hj e
      exact ⟨v, e', rp.mono n.stp.fz⟩
    · by_cases q : i = j
      · subst q
        have hl : i < r.length := (List.getElem?_eq_some_iff.mp hd).1
        exact ⟨d', v0, List.getElem?_set_self hl, hv, ow'⟩
      · obtain ⟨dj, vj, e1j, e2j, oj⟩ := S.ow j hj
        refine ⟨dj, vj, by rw [List.getElem?_set_ne q]; exact e1j, e2j, oj.mono n.stp fun a ea m => ?_⟩
        exact q (S.dj i j a hi hj (by rw [hv, (mo a m).1]) (by rw [e2j, ea]))
  revert p
  cases B (d0 :: ds) with
  | no => exact fun p => p
  | ok d q => exact fun p v F' H' n rd => p v F' H' (stay n) rd
  | ex e q => exact fun p c dx F' H' n x => let ⟨F2, n2, sb⟩ := (stay n).freeze hx; p c dx F2 H' n2 (x.mono sb)

/-- a def by its body's behaviour -/
theorem fnB {P : Program} {w : World} {mg : Str → Option Value} {base : Heap} {x qual : Str} {params : Arguments} {body : List Stmt} {scope : Scope} {dvs : List V} {kws : List (Str × V)} {f : Addr} {fd : FuncData} {N ps : List Str} {k : Nat} {n m : Nat} {io : List Nat} {b : M Fl}
    (F : FunD G.K x qual params body scope dvs kws f fd) (S : FnScope N ps scope) (hn : ps.length = n) (hm : N.length = m)
    (hb : ∀ (cdv : Value) (A : Around) (outer : List PySem.Env) (s : Shared) (H : Hp) (E : XK), Room k (A.deeper (envOfC qual scope s.heap.objs.size f cdv)) →
      ∃ t, PSs (cxOf (L2.CX P w) P w G.K mg base N qual scope f cdv A outer s H E) body t ∧ ∀ (F : Hp) (σ : L2.St) (r : Ev) (Q : VK), Sta G io F H σ r → (∀ i ∈ io, i < n) → n ≤ m → σ.length = m →
        Pst G (fun c dx _ H' => E c dx H') io io io (σ.take n) F H (RD G) Q (match b r with
          | .ok .nx r => .ok .non (keepE io n r)
          | .ok (.rt d) r => .ok d (keepE io n r)
          | .ok _ _ => .no
          | .ex e r => .ex e (keepE io n r)
          | .no => .no) → t { nx := fun _ H' => Q .non H', rt := Q } σ H) (hio : ∀ i ∈ io, i < n) : FnB P w G mg base (k + 1) f fd ps n io (mkB n m io b) := by
  refine F.ok S (fun vs H Q E h => h.1.trans hn.symm) (fun cdv A outer s H vs Q E hr h => ?_)
  obtain ⟨hl, F0, ds, St, p⟩ := h
  obtain ⟨t, ht, hq⟩ := hb cdv A outer s H E hr
  refine ⟨t, ht, ?_⟩
  have hds : ds.length = n := by
    have := St.len
    rw [List.length_map, List.length_map] at this
    omega
  have hnm : n ≤ m := by
    have h1 := congrArg List.length S.pre
    rw [List.length_take] at h1
    omega
  unfold mkB at p
  rw [if_pos hds] at p
  have hst : L2.start N vs = vs.map some ++ List.replicate (m - n) none := by
    unfold L2.start
    rw [hm, hl]
  refine hq F0 (L2.start N vs) (ds.map some ++ List.replicate (m - n) none) Q ?_ hio hnm (by rw [hst]; simp; omega) ?_
  · rw [hst]
    have nn : ∀ (j : Nat), n ≤ j → ∀ x : D, (ds.map some ++ List.replicate (m - n) (none : Option D))[j]? ≠ some (some x) := fun j hj x e => by
      rw [List.getElem?_append_right (by simp; omega)] at e
      have := List.mem_of_getElem? e
      rw [List.mem_replicate] at this
      cases this.2
    refine ⟨St.sub, St.wf, by simp [hds, hl], fun i d hi e => ?_, fun i hi => ?_, fun i j a hi hj ei ej => ?_⟩
    · have hlt : i < n := Nat.lt_of_not_le fun z => nn i z d e
      rw [List.getElem?_append_left (by simp; omega)] at e ⊢
      exact St.rp i d hi e
    · have hlt := hio i hi
      rw [List.getElem?_append_left (by simp; omega), List.getElem?_append_left (by simp; omega)]
      exact St.ow i hi
    · rw [List.getElem?_append_left (by have := hio i hi; simp; omega)] at ei
      rw [List.getElem?_append_left (by have := hio j hj; simp; omega)] at ej
      exact St.dj i j a hi hj ei ej
  · rw [hst, List.take_left' (by simp [hl])]
    exact p
end
end Z

/-! Statements. -/
namespace Z
open PySem PySem.Spec PyProof.Rows L2

def PstS (G : Gm) (W : WX) (OX OL O O' : List Nat) (σ : L2.St) (F H : Hp) (Dn : Ends) : Out Fl → Prop
  | .ok .nx r' => ∀ σ' F' H', Nx G OX O O' σ F H σ' F' H' r' → Dn.nx σ' H'
  | .ok (.rt d) r' => ∀ v σ' F' H', Nx G OX O OX σ F H σ' F' H' r' → Rep G F' d v → Dn.rt v H'
  | .ok .bk r' => ∀ σ' F' H', Nx G OX O OL σ F H σ' F' H' r' → Dn.bk σ' H'
  | .ok .ct r' => ∀ σ' F' H', Nx G OX O OL σ F H σ' F' H' r' → Dn.ct σ' H'
  | .ex e r' => ∀ c dx σ' F' H', Nx G OX O OX σ F H σ' F' H' r' → XRep G F' e c dx → W c dx σ' H'
  | .no => False
def tS (G : Gm) (W : WX) (OX OL O O' : List Nat) (f : M Fl) : TS := fun Dn σ H => ∃ F r, Sta G O F H σ r ∧ PstS G W OX OL O O' σ F H Dn (f r)

@[simp] def sNil : M Fl := fun r => .ok .nx r
@[simp] def sSeq (f g : M Fl) : M Fl := fun r => match f r with
  | .ok .nx r1 => g r1
  | .ok c r1 => .ok c r1
  | .ex e r1 => .ex e r1
  | .no => .no
@[simp] def sAs (i : Nat) (f : M D) : M Fl := fun r => (f r).bind fun d r1 => .ok .nx (r1.set i (some d))
@[simp] def sRet (f : M D) : M Fl := fun r => (f r).bind fun d r1 => .ok (.rt d) r1
@[simp] def sRetN : M Fl := fun r => .ok (.rt .non) r
@[simp] def sEx (f : M D) : M Fl := fun r => (f r).bind fun _ r1 => .ok .nx r1
@[simp] def sIf (t : M Bool) (f g : M Fl) : M Fl := fun r => (t r).bind fun b r1 => if b then f r1 else g r1
@[simp] def sBk : M Fl := fun r => .ok .bk r
@[simp] def sCt : M Fl := fun r => .ok .ct r
/-- code that is never come to -/
@[simp] def sNo : M Fl := fun _ => .no

section
variable {G : Gm} {X : Cx} {W : WX} {OX OL O O1 O2 O3 : List Nat}
theorem PstS.after {σ σ1 : L2.St} {F H F1 H1 : Hp} {r1 : Ev} {Dn : Ends} {o : Out Fl} (n1 : Nx G OX O O1 σ F H σ1 F1 H1 r1) (p : PstS G W OX OL O O2 σ F H Dn o) : PstS G W OX OL O1 O2 σ1 F1 H1 Dn o := by
  revert p
  cases o with
  | no => exact fun p => p
  | ex e r' => exact fun p c dx σ' F' H' n x => p c dx σ' F' H' (n1.trans n) x
  | ok a r' =>
    cases a with
    | nx => exact fun p σ' F' H' n => p σ' F' H' (n1.trans n)
    | rt d => exact fun p v σ' F' H' n x => p v σ' F' H' (n1.trans n) x
    | bk => exact fun p σ' F' H' n => p σ' F' H' (n1.trans n)
    | ct => exact fun p σ' F' H' n => p σ' F' H' (n1.trans n)
/-- an expression, then a statement -/
theorem tS_bind {α β : Type} {σ : L2.St} {F H : Hp} {r : Ev} {Rl : Hp → Hp → α → β → Prop} {f : M α} {k : α → M Fl} {Q : β → Hp → Prop} {Dn : Ends} (S : Sta G O F H σ r) (p : PstS G W OX OL O O2 σ F H Dn ((f r).bind k))
    (hk : ∀ (a : α) (b : β) (F1 H1 : Hp) (r1 : Ev), Nx G OX O O1 σ F H σ F1 H1 r1 → Rl F1 H1 a b → PstS G W OX OL O1 O2 σ F1 H1 Dn (k a r1) → Q b H1) : tX G W OX O O1 Rl f σ H Q := by
  refine ⟨F, r, S, ?_⟩
  revert p
  cases f r with
  | no => exact fun p => p
  | ex e r' => exact fun p c dx F' H' n x => p c dx σ F' H' n x
  | ok a r1 => exact fun p b F1 H1 n1 rl => hk a b F1 H1 r1 n1 rl (PstS.after n1 p)
theorem s_nil : PSs X [] (tS G W OX OL O O sNil) := pss_nil.imp fun Dn σ H ⟨F, r, S, p⟩ => p σ F H (Nx.rfl' S)
theorem PSeq {st : List Stmt} {f g : M Fl} {Dn : Ends} {σ : L2.St} {H : Hp} (h : tS G W OX OL O O2 (sSeq f g) Dn σ H) : tS G W OX OL O O1 f { Dn with nx := fun σ' H' => tS G W OX OL O1 O2 g Dn σ' H' } σ H := by
  obtain ⟨F, r, S, p⟩ := h
  refine ⟨F, r, S, ?_⟩
  simp only [sSeq] at p
  revert p
  cases f r with
  | no => exact fun p => p
  | ex e r' => exact fun p => p
  | ok a r1 =>
    cases a with
    | nx => exact fun p σ' F' H' n => ⟨F', r1, n.sta, PstS.after n p⟩
    | rt d => exact fun p => p
    | bk => exact fun p => p
    | ct => exact fun p => p
theorem s_cons {st : Stmt} {rest : List Stmt} {f g : M Fl} (h1 : PS X st (tS G W OX OL O O1 f)) (h2 : PSs X rest (tS G W OX OL O1 O2 g)) : PSs X (st :: rest) (tS G W OX OL O O2 (sSeq f g)) :=
  (pss_cons h1 h2).imp fun Dn σ H h => PSeq (st := rest) h
theorem s_one {st : Stmt} {f : M Fl} (h1 : PS X st (tS G W OX OL O O1 f)) : PSs X [st] (tS G W OX OL O O1 f) := pss_one h1
/-- any statement that is never come to -/
theorem s_no {st : Stmt} : PS X st (tS G W OX OL O O1 sNo) := ps_never.imp fun Dn σ H ⟨F, r, S, p⟩ => p
theorem ss_no {st : List Stmt} : PSs X st (tS G W OX OL O O1 sNo) := pss_never.imp fun Dn σ H ⟨F, r, S, p⟩ => p
theorem s_pass {pos} : PS X (.Pass pos) (tS G W OX OL O O sNil) := ps_pass.imp fun Dn σ H ⟨F, r, S, p⟩ => p σ F H (Nx.rfl' S)
theorem s_break {pos} (hl : ∀ i ∈ OL, i ∈ O := by decide) : PS X (.Break pos) (tS G W OX OL O O1 sBk) := ps_break.imp fun Dn σ H ⟨F, r, S, p⟩ => by
  obtain ⟨F2, n2, sb⟩ := (Nx.rfl' (OX := OX) S).freeze hl
  exact p σ F2 H n2
theorem s_continue {pos} (hl : ∀ i ∈ OL, i ∈ O := by decide) : PS X (.Continue pos) (tS G W OX OL O O1 sCt) := ps_continue.imp fun Dn σ H ⟨F, r, S, p⟩ => by
  obtain ⟨F2, n2, sb⟩ := (Nx.rfl' (OX := OX) S).freeze hl
  exact p σ F2 H n2
theorem s_set {x : Str} {e : Expr} {pos pos' : Pos} {f : M D} (i : Nat) (he : PE X e (tE G W OX O O1 f)) (hx : i ∉ OX := by decide) (hN : X.N.Nodup := by first | assumption | decide +kernel) (hi : X.N[i]? = some x := by rfl) (hl : Loc X.env.scope x := by first | exact Or.inl rfl | exact Or.inr rfl)
    (hs : swapsWith e (some (.Name x pos')) pos.line X.env = pure false := by rfl) (hf : X.fn x = true ∨ X.env.scope.names.lookup x = some .local := by first | exact .inl rfl | exact .inr rfl | assumption) :
    PS X (.Assign [.Name x pos'] e pos) (tS G W OX OL O (O1.filter (· != i)) (sAs i f)) :=
  (ps_set hN hi hl he hs hf).imp fun Dn σ H ⟨F, r, S, p⟩ => tS_bind S p fun d v F1 H1 r1 n1 rd p => by
    refine p _ F1 H1 ⟨n1.sta.set i rd, .rfl', fun j hj => ?_, fun a m => ?_⟩
    · exact List.getElem?_set_ne (fun z : i = j => hx (by rw [z]; exact hj))
    · obtain ⟨j, hj, e⟩ := m
      obtain ⟨h1, h2⟩ := List.mem_filter.mp hj
      have q : i ≠ j := fun z => by simp [z] at h2
      rw [List.getElem?_set_ne q] at e
      exact .inl ⟨j, h1, e⟩
theorem s_ret {e : Expr} {pos : Pos} {f : M D} (he : PE X e (tE G W OX O O1 f)) (hx : ∀ i ∈ OX, i ∈ O1 := by decide) : PS X (.Return (some e) pos) (tS G W OX OL O O2 (sRet f)) :=
  (ps_ret he).imp fun Dn σ H ⟨F, r, S, p⟩ => tS_bind S p fun d v F1 H1 r1 n1 rd p => by
    obtain ⟨F2, n2, sb⟩ := (Nx.rfl' (OX := OX) n1.sta).freeze hx
    exact p v σ F2 H1 n2 (rd.mono sb)
theorem s_retN {pos : Pos} (hx : ∀ i ∈ OX, i ∈ O := by decide) : PS X (.Return none pos) (tS G W OX OL O O2 sRetN) :=
  ps_retN.imp fun Dn σ H ⟨F, r, S, p⟩ => by
    obtain ⟨F2, n2, sb⟩ := (Nx.rfl' (OX := OX) S).freeze hx
    exact p .non σ F2 H n2 .non
theorem s_expr {e : Expr} {pos : Pos} {f : M D} (he : PE X e (tE G W OX O O1 f)) (hs : swapsWith e none pos.line X.env = pure false := by rfl) : PS X (.Expr e pos) (tS G W OX OL O O1 (sEx f)) :=
  (ps_expr he hs).imp fun Dn σ H ⟨F, r, S, p⟩ => tS_bind S p fun d v F1 H1 r1 n1 rd p => p σ F1 H1 (Nx.rfl' n1.sta)
theorem s_doc {x j pos pos'} : PS X (.Expr (.Constant (.str x) j pos) pos') (tS G W OX OL O O sNil) := ps_doc.imp fun Dn σ H ⟨F, r, S, p⟩ => p σ F H (Nx.rfl' S)
theorem s_if {c : Expr} {a b : List Stmt} {pos : Pos} {t : M Bool} {f g : M Fl} (hc : PT X c (tT G W OX O O1 t)) (ha : PSs X a (tS G W OX OL O1 O2 f)) (hb : PSs X b (tS G W OX OL O1 O2 g)) : PS X (.If c a b pos) (tS G W OX OL O O2 (sIf t f g)) :=
  (ps_if hc ha hb).imp fun Dn σ H ⟨F, r, S, p⟩ => tS_bind S p fun d v F1 H1 r1 n1 rd p => by
    subst rd
    cases d with
    | true => exact ⟨F1, r1, n1.sta, p⟩
    | false => exact ⟨F1, r1, n1.sta, p⟩

/-! ### a def -/
theorem Nx.cut {io : List Nat} {σ σ' : L2.St} {F H F' H' : Hp} {r' : Ev} {n : Nat} (h : Nx G io io io σ F H σ' F' H' r') (hio : ∀ i ∈ io, i < n) (hn : n ≤ σ.length) :
    Nx G io io io (σ.take n) F H (σ.take n) F' H' (keepE io n r') := by
  have at_ : ∀ i ∈ io, (σ.take n)[i]? = σ'[i]? := fun i hi => by rw [List.getElem?_take_of_lt (hio i hi), h.kp i hi]
  have kat : ∀ i, i < n → (keepE io n r')[i]? = some (if io.contains i then r'.getD i none else none) := fun i hi => by
    unfold keepE
    rw [List.getElem?_map, List.getElem?_range hi]
    rfl
  refine ⟨⟨h.sta.sub, h.sta.wf, by unfold keepE; simp; omega, fun i d hi e => ?_, fun i hi => ?_, fun i j a hi hj ei ej => ?_⟩, h.stp.weak fun x ⟨i, hi, e⟩ => ⟨i, hi, ?_⟩, fun _ _ => rfl, fun _ m => .inl m⟩
  · by_cases hlt : i < n
    · rw [kat i hlt] at e
      have hc : io.contains i = false := by simpa using hi
      rw [hc] at e
      cases e
    · rw [List.getElem?_eq_none (by unfold keepE; simp; omega)] at e
      cases e
  · obtain ⟨d, v, e1, e2, o⟩ := h.sta.ow i hi
    refine ⟨d, v, ?_, by rw [at_ i hi]; exact e2, o⟩
    rw [kat i (hio i hi), if_pos (by simpa using hi), List.getD_eq_getElem?_getD, e1]
    rfl
  · rw [at_ i hi] at ei
    rw [at_ j hj] at ej
    exact h.sta.dj i j a hi hj ei ej
  · rw [List.getElem?_take_of_lt (hio i hi)]
    exact e
theorem def_ok {P : Program} {w : World} {mg : Str → Option Value} {base : Heap} {x qual : Str} {params : Arguments} {body : List Stmt} {scope : Scope} {dvs : List V} {kws : List (Str × V)} {f : Addr} {fd : FuncData} {N ps : List Str} {k : Nat} {n m : Nat} {io : List Nat} {b : M Fl} {O' : List Nat}
    (F : FunD G.K x qual params body scope dvs kws f fd) (S : FnScope N ps scope) (hb : ∀ (cdv : Value) (A : Around) (outer : List PySem.Env) (s : Shared) (H : Hp) (E : XK), Room k (cxOf (L2.CX P w) P w G.K mg base N qual scope f cdv A outer s H E).A →
      Takes (cxOf (L2.CX P w) P w G.K mg base N qual scope f cdv A outer s H E) (fun cls d _ H => E cls d H) →
      PSs (cxOf (L2.CX P w) P w G.K mg base N qual scope f cdv A outer s H E) body (tS G (fun cls d _ H => E cls d H) io [] io O' b)) (hn : ps.length = n := by rfl) (hm : N.length = m := by rfl) (hio : ∀ i ∈ io, i < n := by decide) (hO : ∀ i ∈ io, i ∈ O' := by decide) :
    FnB P w G mg base (k + 1) f fd ps n io (mkB n m io b) := by
  refine fnB F S hn hm (fun cdv A outer s H E hr => ⟨_, hb cdv A outer s H E hr (takes_of rfl rfl rfl rfl), fun F0 σ r Q St _ hnm hl p => ⟨F0, r, St, ?_⟩⟩) hio
  have hnl : n ≤ σ.length := by omega
  revert p
  cases b r with
  | no => exact fun p => p
  | ex e r' => exact fun p c dx σ' F' H' n' x => p c dx F' H' (n'.cut hio hnl) x
  | ok a r' =>
    cases a with
    | nx =>
      intro p σ' F' H' n'
      obtain ⟨F2, n2, sb⟩ := n'.freeze hO
      exact p .non F2 H' (n2.cut hio hnl) .non
    | rt d => exact fun p v σ' F' H' n' rd => p v F' H' (n'.cut hio hnl) rd
    | bk => exact fun p => p.elim
    | ct => exact fun p => p.elim
end
end Z

/-! Operations on plain trees. -/
namespace Z
open PySem PySem.Spec PyProof.Rows L2

/-- less than n bits -/
def wd (n : Nat) (i : Int) : Bool := decide (i.natAbs.log2 < n)
theorem wd_of {n k : Nat} {i : Int} (h : i.natAbs < 2 ^ k) (h0 : 0 < k) (hk : k ≤ n) : wd n i = true := decide_eq_true (Nat.lt_of_lt_of_le (PySem.Flt.log2_lt_of h0 h) hk)
/-- a product that the machine makes -/
def mulB (i j : Int) : Bool := wd 60 i || wd 60 j || (wd 400000 i && wd 400000 j)
theorem mulB_ok {i j : Int} (h : mulB i j = true) : IntMulOk i j := by
  have b : ∀ x : Int, wd 60 x = true → Builtin.Int.intBits x ≤ 64 := fun x hx => by
    have := of_decide_eq_true hx
    unfold Builtin.Int.intBits
    split <;> omega
  unfold mulB at h
  simp only [Bool.or_eq_true, Bool.and_eq_true] at h
  rcases h with (h | h) | ⟨h1, h2⟩
  · exact .of_left (b i h)
  · exact .of_right (b j h)
  · have h1 := of_decide_eq_true h1
    have h2 := of_decide_eq_true h2
    exact CMulW.ok (by unfold CMulW; omega)
theorem op_mulZ {X : Cx} : OpR X (binaryOp .Mult) (rI (fun i j => mulB i j = true) fun i j => .int (i * j)) := opI fun _ _ _ _ _ _ _ hc q => mul_int q (mulB_ok hc)
def big : Nat := 16000000
theorem big_line {n : Nat} (h : n ≤ big) : n ≤ sizeLine := by rw [sizeLine_eq]; unfold big at h; omega

def pAdd : D → D → Option D
  | .int i, .int j => some (.int (i + j))
  | .str a, .str b => if a.length + b.length ≤ big then some (.str (a ++ b)) else none
  | .lst l, .lst m => if l.length + m.length ≤ big then some (.lst (l ++ m)) else none
  | .tup (x :: l), .tup m => if l.length + 1 + m.length ≤ big then some (.tup (x :: l ++ m)) else none
  | _, _ => none
def pSub : D → D → Option D
  | .int i, .int j => some (.int (i - j))
  | _, _ => none
def pMul : D → D → Option D
  | .int i, .int j => if mulB i j then some (.int (i * j)) else none
  | .lst l, .int k => if k ≤ big ∧ l.length * k.toNat ≤ big ∧ -big ≤ k then some (.lst (List.replicate k.toNat l).flatten) else none
  | _, _ => none
def pDiv : D → D → Option D
  | .int i, .int j => if wd 8000 j && !decide (j = 0) then some (.int (i.fdiv j)) else none
  | _, _ => none
def pMod : D → D → Option D
  | .int i, .int j => if j = 0 then none else some (.int (i.fmod j))
  | _, _ => none
def pPow : D → D → Option D
  | .int i, .int j => if 0 ≤ j ∧ j ≤ 1000000 ∧ i.natAbs < 2 ^ 64 then some (.int (i ^ j.toNat)) else none
  | _, _ => none
def pLt : D → D → Option D
  | .int i, .int j => some (.bl (decide (i < j)))
  | .str a, .str b => some (.bl (decide (a.cps.toList < b.cps.toList)))
  | _, _ => none
def pLe : D → D → Option D
  | .int i, .int j => some (.bl (decide (i ≤ j)))
  | _, _ => none
def pGt : D → D → Option D
  | .int i, .int j => some (.bl (decide (j < i)))
  | _, _ => none
def pGe : D → D → Option D
  | .int i, .int j => some (.bl (decide (j ≤ i)))
  | _, _ => none
def pNeg : D → Option D
  | .int i => some (.int (-i))
  | _ => none
mutual
/-- plain data: no dicts, no objects -/
def toP : D → Option PyData
  | .non => some .none
  | .bl b => some (.bool b)
  | .int i => some (.int i)
  | .str x => some (.str x)
  | .tup l => (toPs l).map .tuple
  | .lst l => (toPs l).map .list
  | .kl l => (toPs l).map .list
  | _ => none
def toPs : List D → Option (List PyData)
  | [] => some []
  | d :: l => (toP d).bind fun p => (toPs l).map fun ps => p :: ps
end
def pEqB (x y : D) : Option Bool := match toP x, toP y with
  | some d, some e => if SeqAt.shaped d && SeqAt.shaped e then some (PyData.eqv d e) else none
  | _, _ => none
def pEq (x y : D) : Option D := (pEqB x y).map .bl
def pNe (x y : D) : Option D := (pEqB x y).map fun b => .bl (!b)
/-- flat values as the layer has them -/
def toV : D → Option V
  | .non => some .non
  | .bl b => some (.bl b)
  | .int i => some (.int i)
  | .str x => some (.str x)
  | _ => none
def toVs : List D → Option (List V)
  | [] => some []
  | d :: l => (toV d).bind fun v => (toVs l).map fun vs => v :: vs
def itemsOf : D → Option (List D)
  | .lst l => some l
  | .tup l => some l
  | .kl l => some l
  | _ => none
def pInB (x y : D) : Option Bool := match x, y with
  | .str a, .str b => if a.cps.size = 1 then some (decide (a.cps.getD 0 0 ∈ b.cps.toList)) else none
  | x, y => (itemsOf y).bind fun l => (toVs l).bind fun vs => (toV x).map fun v => inV v vs
def pIn (x y : D) : Option D := (pInB x y).map .bl
def pNotIn (x y : D) : Option D := (pInB x y).map fun b => .bl (!b)
@[simp] def oP (p : D → D → Option D) : D → D → Ev → Out D := fun x y r => liftO (p x y) r
@[simp] def oU (p : D → Option D) : D → Ev → Out D := fun x r => liftO (p x) r
@[simp] def eN (p : List D → Option D) (f : M (List D)) : M D := fun r => (f r).bind fun ds r1 => liftO (p ds) r1

section
variable {G : Gm} {X : Cx} {W : WX} {OX OL O O1 O2 O3 : List Nat}
theorem Pst.fz {σ : L2.St} {F H : Hp} {r : Ev} {Q : VK} {d : D} {p : Addr} {ho : HO} (S : Sta G O F H σ r) (hp : H p = none) (hi : noIns ho = true) (hd : ∀ F', F' p = some ho → Sub F F' → Rep G F' d (.ref p)) (q : Pst G W OX O O σ F H (RD G) Q (.ok d r)) : Q (.ref p) (upd H p ho) := by
  obtain ⟨S', s'⟩ := new_fz (o := ho) S hp hi
  exact q _ _ _ (Nx.of S' s' fun _ h => h) (hd _ upd_same s'.fz)
/-- binary operators on plain trees -/
theorem opP {f : Value → Value → Sem Value} {p : D → D → Option D} {h : R2} (ho : OpR X f h)
    (hp : ∀ (σ : L2.St) (F H : Hp) (r : Ev) (x y d : D) (v w : V) (Q : VK), Sta G O F H σ r → Rep G F x v → Rep G F y w → p x y = some d → Pst G W OX O O σ F H (RD G) Q (.ok d r) → h v w H Q) : Op2 G X W OX O f (oP p) :=
  Op2.of ho fun σ F H r x y v w Q S rx ry q => by
    revert q
    unfold oP
    cases e : p x y with
    | none => exact fun q => q.elim
    | some d => exact fun q => hp σ F H r x y d v w Q S rx ry e q
theorem op1P {f : Value → Sem Value} {p : D → Option D} {h : V → Hp → VK → Prop} (ho : UnR X f h)
    (hp : ∀ (σ : L2.St) (F H : Hp) (r : Ev) (x d : D) (v : V) (Q : VK), Sta G O F H σ r → Rep G F x v → p x = some d → Pst G W OX O O σ F H (RD G) Q (.ok d r) → h v H Q) : Op1 G X W OX O f (oU p) :=
  Op1.of ho fun σ F H r x v Q S rx q => by
    revert q
    unfold oU
    cases e : p x with
    | none => exact fun q => q.elim
    | some d => exact fun q => hp σ F H r x d v Q S rx e q
theorem o_add (hK : X.K = G.K := by rfl) : Op2 G X W OX O (binaryOp .Add) (oP pAdd) :=
  opP (((op_add.or op_add_str).or op_cat).or op_catT) fun σ F H r x y d v w Q S rx ry e q => by
    unfold pAdd at e
    split at e
    · cases rx; cases ry; cases e
      exact .inl (.inl (.inl ⟨_, _, rfl, rfl, q.ok S .int⟩))
    · split at e
      · rename_i hz
        cases rx; cases ry; cases e
        exact .inl (.inl (.inr ⟨_, _, rfl, rfl, big_line hz, q.ok S .str⟩))
      · cases e
    · split at e
      · rename_i hz
        cases e
        cases rx with
        | lst h1 r1 =>
          cases ry with
          | lst h2 r2 =>
            obtain ⟨o1, e1, g1⟩ := S.sub _ _ h1
            obtain ⟨o2, e2, g2⟩ := S.sub _ _ h2
            rw [g1.lst] at e1
            rw [g2.lst] at e2
            refine .inl (.inr ⟨_, _, _, _, rfl, rfl, e1, e2, by rw [← r1.length, ← r2.length]; exact big_line hz, fun p hp => ?_⟩)
            exact q.fz S hp rfl fun F' hF sb => .lst hF ((r1.mono sb).app (r2.mono sb))
      · cases e
    · split at e
      · rename_i hz
        cases e
        cases rx with
        | tup h1 r1 =>
          cases ry with
          | @tup m b ys h2 r2 =>
            refine .inr ?_
            rw [hK]
            refine ⟨_, _, _, _, rfl, rfl, S.sub.sqT h1, S.sub.sqT h2, fun z => (by rw [z] at r1; cases r1), by rw [← r1.length, ← r2.length]; exact big_line hz, fun z => ?_, fun _ p hp => ?_⟩
            · subst z
              cases r2
              exact q.ok S (by rw [List.append_nil]; exact .tup h1 r1)
            · exact q.fz S hp rfl fun F' hF sb => .tup (.inl (.inl hF)) ((r1.mono sb).app (r2.mono sb))
      · cases e
    · cases e
theorem o_sub : Op2 G X W OX O (binaryOp .Sub) (oP pSub) :=
  opP op_sub fun σ F H r x y d v w Q S rx ry e q => by
    unfold pSub at e
    split at e
    · cases rx; cases ry; cases e
      exact ⟨_, _, rfl, rfl, q.ok S .int⟩
    · cases e
theorem RepL.rep {F : Hp} {l : List D} {xs : List V} (h : RepL G F l xs) : ∀ n : Nat, RepL G F (List.replicate n l).flatten (List.replicate n xs).flatten
  | 0 => .nil
  | n + 1 => by
    rw [List.replicate_succ, List.replicate_succ, List.flatten_cons, List.flatten_cons]
    exact h.app (RepL.rep h n)
theorem o_mul : Op2 G X W OX O (binaryOp .Mult) (oP pMul) :=
  opP (op_mulZ.or op_rep) fun σ F H r x y d v w Q S rx ry e q => by
    unfold pMul at e
    split at e
    · split at e
      · rename_i hw
        cases rx; cases ry; cases e
        exact .inl ⟨_, _, rfl, rfl, hw, q.ok S .int⟩
      · cases e
    · split at e
      · rename_i hz
        obtain ⟨z1, z2, z3⟩ := hz
        cases e
        cases rx with
        | lst h1 r1 =>
          cases ry
          obtain ⟨o1, e1, g1⟩ := S.sub _ _ h1
          rw [g1.lst] at e1
          refine .inr ⟨_, _, _, rfl, rfl, e1, by unfold big at z3; omega, by unfold big at z1; omega, by rw [← r1.length]; exact big_line z2, fun p hp => ?_⟩
          exact q.fz S hp rfl fun F' hF sb => .lst hF ((r1.mono sb).rep _)
      · cases e
    · cases e
theorem op_fdivZ : OpR X (binaryOp .FloorDiv) (rI (fun _ j => j ≠ 0 ∧ j.natAbs.log2 < 9000) fun i j => .int (i.fdiv j)) := opI fun _ _ _ _ _ _ _ hc q => floordiv_int hc.1 q (.inl (PyProof.noPylong_of_log2 hc.2))
theorem o_div : Op2 G X W OX O (binaryOp .FloorDiv) (oP pDiv) :=
  opP op_fdivZ fun σ F H r x y d v w Q S rx ry e q => by
    unfold pDiv at e
    split at e
    · split at e
      · rename_i hw
        cases rx; cases ry; cases e
        obtain ⟨h1, h2⟩ := Bool.and_eq_true_iff.mp hw
        have h1 := of_decide_eq_true h1
        exact ⟨_, _, rfl, rfl, ⟨by simpa using h2, by omega⟩, q.ok S .int⟩
      · cases e
    · cases e
theorem o_mod : Op2 G X W OX O (binaryOp .Mod) (oP pMod) :=
  opP op_modN fun σ F H r x y d v w Q S rx ry e q => by
    unfold pMod at e
    split at e
    · split at e
      · cases e
      · rename_i hw
        cases rx; cases ry; cases e
        exact ⟨_, _, rfl, rfl, hw, q.ok S .int⟩
    · cases e
theorem o_pow : Op2 G X W OX O (binaryOp .Pow) (oP pPow) :=
  opP op_pow fun σ F H r x y d v w Q S rx ry e q => by
    unfold pPow at e
    split at e
    · split at e
      · rename_i hw
        cases rx; cases ry; cases e
        exact ⟨_, _, rfl, rfl, hw, q.ok S .int⟩
      · cases e
    · cases e
theorem o_lt : Op2 G X W OX O (compareOp .Lt) (oP pLt) :=
  opP (op_lt.or op_lt_str) fun σ F H r x y d v w Q S rx ry e q => by
    unfold pLt at e
    split at e
    · cases rx; cases ry; cases e
      exact .inl ⟨_, _, rfl, rfl, q.ok S .bl⟩
    · cases rx; cases ry; cases e
      exact .inr ⟨_, _, rfl, rfl, q.ok S .bl⟩
    · cases e
theorem o_le : Op2 G X W OX O (compareOp .LtE) (oP pLe) :=
  opP op_le fun σ F H r x y d v w Q S rx ry e q => by
    unfold pLe at e
    split at e
    · cases rx; cases ry; cases e
      exact ⟨_, _, rfl, rfl, q.ok S .bl⟩
    · cases e
theorem o_gt : Op2 G X W OX O (compareOp .Gt) (oP pGt) :=
  opP op_gt fun σ F H r x y d v w Q S rx ry e q => by
    unfold pGt at e
    split at e
    · cases rx; cases ry; cases e
      exact ⟨_, _, rfl, rfl, q.ok S .bl⟩
    · cases e
theorem o_ge : Op2 G X W OX O (compareOp .GtE) (oP pGe) :=
  opP op_ge fun σ F H r x y d v w Q S rx ry e q => by
    unfold pGe at e
    split at e
    · cases rx; cases ry; cases e
      exact ⟨_, _, rfl, rfl, q.ok S .bl⟩
    · cases e
theorem o_neg : Op1 G X W OX O (unaryOp .USub) (oU pNeg) :=
  op1P un_neg fun σ F H r x d v Q S rx e q => by
    unfold pNeg at e
    split at e
    · cases rx; cases e
      exact ⟨_, rfl, q.ok S .int⟩
    · cases e
mutual
theorem Rep.dp {F H : Hp} (sb : Sub F H) : ∀ {x : D} {v : V} {d : PyData}, Rep G F x v → toP x = some d → Dp G.K H v d
  | _, _, _, .non, e => by cases e; exact .non
  | _, _, _, .bl, e => by cases e; exact .bl _
  | _, _, _, .int, e => by cases e; exact .int _
  | _, _, _, .str, e => by cases e; exact .str _
  | _, _, _, .tup h r, e => by
    rw [toP] at e
    obtain ⟨ds, e1, e2⟩ := Option.map_eq_some_iff.mp e
    subst e2
    exact .tup (sb.sqT h) (RepL.dp sb r e1)
  | _, _, _, .lst h r, e => by
    rw [toP] at e
    obtain ⟨ds, e1, e2⟩ := Option.map_eq_some_iff.mp e
    subst e2
    obtain ⟨o', e', g⟩ := sb _ _ h
    rw [g.lst] at e'
    exact .lst (.inl (.inl e')) (RepL.dp sb r e1)
  | _, _, _, .kl h r, e => by
    rw [toP] at e
    obtain ⟨ds, e1, e2⟩ := Option.map_eq_some_iff.mp e
    subst e2
    exact .lst (sb.sqL h) (RepL.dp sb r e1)
  | _, _, _, .dic _ _ _, e => by cases e
  | _, _, _, .dkl _ _ _, e => by cases e
  | _, _, _, .ob _ _ _, e => by cases e
theorem RepL.dp {F H : Hp} (sb : Sub F H) : ∀ {l : List D} {vs : List V} {ds : List PyData}, RepL G F l vs → toPs l = some ds → DpAll G.K H vs ds
  | _, _, _, .nil, e => by cases e; exact .nil
  | _, _, _, .cons h t, e => by
    rw [toPs] at e
    obtain ⟨p, e1, e2⟩ := Option.bind_eq_some_iff.mp e
    obtain ⟨ps, e3, e4⟩ := Option.map_eq_some_iff.mp e2
    subst e4
    exact .cons (Rep.dp sb h e1) (RepL.dp sb t e3)
end
theorem pEqB_dp {F H : Hp} {x y : D} {v w : V} {b : Bool} (sb : Sub F H) (rx : Rep G F x v) (ry : Rep G F y w) (e : pEqB x y = some b) : ∃ d e, Dp G.K H v d ∧ Dp G.K H w e ∧ SeqAt.shaped d = true ∧ SeqAt.shaped e = true ∧ b = PyData.eqv d e := by
  unfold pEqB at e
  split at e
  · rename_i d1 d2 e1 e2
    split at e
    · rename_i hs
      cases e
      obtain ⟨h1, h2⟩ := Bool.and_eq_true_iff.mp hs
      exact ⟨d1, d2, rx.dp sb e1, ry.dp sb e2, h1, h2, rfl⟩
    · cases e
  · cases e
theorem o_eq {k : Nat} (hr : Room k X.A) (hK : X.K = G.K := by rfl) : Op2 G X W OX O (compareOp .Eq) (oP pEq) :=
  opP (op_eqD hr.units) fun σ F H r x y d v w Q S rx ry e q => by
    obtain ⟨b, e1, e2⟩ := Option.map_eq_some_iff.mp e
    subst e2
    obtain ⟨d1, d2, h1, h2, h3, h4, rfl⟩ := pEqB_dp S.sub rx ry e1
    rw [hK]
    exact ⟨d1, d2, h1, h2, h3, h4, q.ok S .bl⟩
theorem o_ne {k : Nat} (hr : Room k X.A) (hK : X.K = G.K := by rfl) : Op2 G X W OX O (compareOp .NotEq) (oP pNe) :=
  opP (op_neD hr.units) fun σ F H r x y d v w Q S rx ry e q => by
    obtain ⟨b, e1, e2⟩ := Option.map_eq_some_iff.mp e
    subst e2
    obtain ⟨d1, d2, h1, h2, h3, h4, rfl⟩ := pEqB_dp S.sub rx ry e1
    rw [hK]
    exact ⟨d1, d2, h1, h2, h3, h4, q.ok S .bl⟩
theorem Rep.flat {F : Hp} {x : D} {v u : V} (h : Rep G F x v) (e : toV x = some u) : u = v ∧ flatV v = true := by
  cases h <;> cases e <;> exact ⟨rfl, rfl⟩
theorem RepL.flat {F : Hp} : ∀ {l : List D} {vs us : List V}, RepL G F l vs → toVs l = some us → us = vs ∧ vs.all flatV = true
  | _, _, _, .nil, e => by cases e; exact ⟨rfl, rfl⟩
  | _, _, _, .cons h t, e => by
    rw [toVs] at e
    obtain ⟨p, e1, e2⟩ := Option.bind_eq_some_iff.mp e
    obtain ⟨ps, e3, e4⟩ := Option.map_eq_some_iff.mp e2
    subst e4
    obtain ⟨q1, q2⟩ := h.flat e1
    obtain ⟨q3, q4⟩ := t.flat e3
    subst q1 q3
    exact ⟨rfl, by rw [List.all_cons, q2, q4]; rfl⟩
theorem Rep.items {F H : Hp} {x : D} {v : V} {l : List D} (sb : Sub F H) (h : Rep G F x v) (e : itemsOf x = some l) : ∃ a xs, v = .ref a ∧ (SqL G.K H a xs ∨ SqT G.K H a xs) ∧ RepL G F l xs := by
  cases h with
  | tup h r => cases e; exact ⟨_, _, rfl, .inr (sb.sqT h), r⟩
  | lst h r =>
    cases e
    obtain ⟨o', e', g⟩ := sb _ _ h
    rw [g.lst] at e'
    exact ⟨_, _, rfl, .inl (.inl (.inl e')), r⟩
  | kl h r => cases e; exact ⟨_, _, rfl, .inl (sb.sqL h), r⟩
  | _ => cases e
theorem sign_of {a : Str} (h : a.cps.size = 1) : a = ⟨#[a.cps.getD 0 0]⟩ := by
  obtain ⟨⟨l⟩⟩ := a
  cases l with
  | nil => cases h
  | cons c t =>
    cases t with
    | nil => rfl
    | cons _ _ => simp at h
theorem pInB_sq {F H : Hp} {x y : D} {v w : V} {b : Bool} (sb : Sub F H) (rx : Rep G F x v) (ry : Rep G F y w) (e : pInB x y = some b) :
    (∃ c z, v = .str ⟨#[c]⟩ ∧ w = .str z ∧ b = decide (c ∈ z.cps.toList)) ∨ (∃ p xs, w = .ref p ∧ (SqL G.K H p xs ∨ SqT G.K H p xs) ∧ flatV v = true ∧ xs.all flatV = true ∧ b = inV v xs) := by
  unfold pInB at e
  split at e
  · split at e
    · rename_i h
      cases e
      cases rx
      cases ry
      exact .inl ⟨_, _, congrArg V.str (sign_of h), rfl, rfl⟩
    · cases e
  · obtain ⟨l, e1, e2⟩ := Option.bind_eq_some_iff.mp e
    obtain ⟨vs, e3, e4⟩ := Option.bind_eq_some_iff.mp e2
    obtain ⟨u, e5, e6⟩ := Option.map_eq_some_iff.mp e4
    obtain ⟨a, xs, rfl, hq, rl⟩ := ry.items sb e1
    obtain ⟨q1, q2⟩ := rl.flat e3
    obtain ⟨q3, q4⟩ := rx.flat e5
    subst q1 q3 e6
    exact .inr ⟨a, _, rfl, hq, q4, q2, rfl⟩
theorem o_in (hK : X.K = G.K := by rfl) : Op2 G X W OX O (compareOp .In) (oP pIn) :=
  opP (op_in_sign.or op_in_seq) fun σ F H r x y d v w Q S rx ry e q => by
    obtain ⟨b, e1, e2⟩ := Option.map_eq_some_iff.mp e
    subst e2
    rcases pInB_sq S.sub rx ry e1 with ⟨c, z, rfl, rfl, rfl⟩ | ⟨p, xs, rfl, h1, h2, h3, rfl⟩
    · exact .inl ⟨c, z, rfl, rfl, q.ok S .bl⟩
    · exact .inr ⟨p, xs, rfl, by rw [hK]; exact h1, h2, h3, q.ok S .bl⟩
theorem o_notIn (hK : X.K = G.K := by rfl) : Op2 G X W OX O (compareOp .NotIn) (oP pNotIn) :=
  opP (op_notIn_sign.or op_notIn_seq) fun σ F H r x y d v w Q S rx ry e q => by
    obtain ⟨b, e1, e2⟩ := Option.map_eq_some_iff.mp e
    subst e2
    rcases pInB_sq S.sub rx ry e1 with ⟨c, z, rfl, rfl, rfl⟩ | ⟨p, xs, rfl, h1, h2, h3, rfl⟩
    · exact .inl ⟨c, z, rfl, rfl, q.ok S .bl⟩
    · exact .inr ⟨p, xs, rfl, by rw [hK]; exact h1, h2, h3, q.ok S .bl⟩
end
end Z

/-! Displays, items, slices, attributes, calls, the text's own operators. -/
namespace Z
open PySem PySem.Spec PyProof.Rows L2

@[simp] def okLen (l : List D) : Bool := decide (l.length ≤ big)
@[simp] def pTup (l : List D) : Option D := if okLen l then some (.tup l) else none
@[simp] def pLst (l : List D) : Option D := if okLen l then some (.lst l) else none
def pIx : D → D → Option D
  | .tup l, .int i => atI l i
  | .lst l, .int i => atI l i
  | .kl l, .int i => atI l i
  | .str z, .int i => if z.length ≤ big then (atI z.cps.toList i).map fun c => .str ⟨#[c]⟩ else none
  | _, _ => none
def cutD (xs : List D) (lo hi : Option Int) : List D := (xs.drop (HT.sIx xs.length 0 lo)).take (HT.sIx xs.length xs.length hi - HT.sIx xs.length 0 lo)
def pSl (x : D) (lo hi : Option Int) : Option D := match x with
  | .lst l => some (.lst (cutD l lo hi))
  | .kl l => some (.lst (cutD l lo hi))
  | .tup l => if HT.sIx l.length 0 lo = 0 ∧ HT.sIx l.length l.length hi = l.length then none else some (.tup (cutD l lo hi))
  | _ => none
@[simp] def iNo : M (Option Int) := fun r => .ok none r
@[simp] def iSo (f : M D) : M (Option Int) := fun r => (f r).bind fun x r1 => match x with
  | .int i => .ok (some i) r1
  | _ => .no
@[simp] def eSl (f : M D) (lo hi : M (Option Int)) : M D := fun r => (f r).bind fun x r1 => (lo r1).bind fun l r2 => (hi r2).bind fun h r3 => liftO (pSl x l h) r3
/-- a field, by the class's place of it -/
@[simp] def eFl (tb : List (Nat × Nat)) (f : M D) : M D := fun r => (f r).bind fun x r1 => match x with
  | .ob c l => (match tb.lookup c with
    | some i => liftO l[i]? r1
    | none => .no)
  | _ => .no
/-- a property -/
@[simp] def okOut (o : Out D) (r : Ev) : Out D := match o with
  | .ok d _ => .ok d r
  | _ => .no
@[simp] def ePr (tb : List (Nat × Beh)) (f : M D) : M D := fun r => (f r).bind fun x r1 => match x with
  | .ob c l => (match tb.lookup c with
    | some B => okOut (B [.ob c l]) r1
    | none => .no)
  | _ => .no
/-- a new instance of a class whose instances never change behind __init__ -/
@[simp] def outN (o : Out D) (r : Ev) : Out D := match o with
  | .ok .non q => (match q[0]? with
    | some (some d) => .ok d r
    | _ => .no)
  | .ex e _ => .ex e r
  | _ => .no
@[simp] def eNw (c : Nat) (B : Beh) (f : M (List D)) : M D := fun r => (f r).bind fun ds r1 => outN (B (.ob c [] :: ds)) r1
@[simp] def eMt (tb : List (Nat × Beh)) (f : M D) (g : M (List D)) : M D := fun r => (f r).bind fun x r1 => (g r1).bind fun ds r2 => match x with
  | .ob c l => (match tb.lookup c with
    | some B => out0 (B (.ob c l :: ds)) r2
    | none => .no)
  | _ => .no
/-- a method of the text, by the left one's class; else a plain operation -/
def oC (tb : List (Nat × Beh)) (p : D → D → Option D) (x y : D) (r : Ev) : Out D := match x with
  | .ob c l => (match tb.lookup c with
    | some B => out0 (B [.ob c l, y]) r
    | none => .no)
  | _ => liftO (p x y) r
def oC1 (tb : List (Nat × Beh)) (p : D → Option D) (x : D) (r : Ev) : Out D := match x with
  | .ob c l => (match tb.lookup c with
    | some B => out0 (B [.ob c l]) r
    | none => .no)
  | _ => liftO (p x) r
@[simp] theorem oC_ob {tb p c l y r} : oC tb p (.ob c l) y r = (match tb.lookup c with | some B => out0 (B [.ob c l, y]) r | none => .no) := rfl
@[simp] theorem oC1_ob {tb p c l r} : oC1 tb p (.ob c l) r = (match tb.lookup c with | some B => out0 (B [.ob c l]) r | none => .no) := rfl
@[simp] theorem oC_int {tb p i y r} : oC tb p (.int i) y r = liftO (p (.int i) y) r := rfl
@[simp] theorem oC_str {tb p i y r} : oC tb p (.str i) y r = liftO (p (.str i) y) r := rfl
@[simp] theorem oC_bl {tb p i y r} : oC tb p (.bl i) y r = liftO (p (.bl i) y) r := rfl
@[simp] theorem oC_non {tb p y r} : oC tb p .non y r = liftO (p .non y) r := rfl
@[simp] theorem oC_lst {tb p i y r} : oC tb p (.lst i) y r = liftO (p (.lst i) y) r := rfl
@[simp] theorem oC_tup {tb p i y r} : oC tb p (.tup i) y r = liftO (p (.tup i) y) r := rfl
@[simp] theorem oC_dic {tb p i j y r} : oC tb p (.dic i j) y r = liftO (p (.dic i j) y) r := rfl
@[simp] theorem oC_dkl {tb p i j y r} : oC tb p (.dkl i j) y r = liftO (p (.dkl i j) y) r := rfl
@[simp] theorem oC1_int {tb p i r} : oC1 tb p (.int i) r = liftO (p (.int i)) r := rfl

section
variable {G : Gm} {X : Cx} {W : WX} {OX OL O O1 O2 O3 : List Nat}
/-! ### displays -/
theorem Pst.lift {σ : L2.St} {F H : Hp} {r : Ev} {o : Option D} {Q : VK} (q : Pst G W OX O O σ F H (RD G) Q (liftO o r)) : ∃ d, o = some d ∧ Pst G W OX O O σ F H (RD G) Q (.ok d r) := by
  cases o with
  | none => exact q.elim
  | some d => exact ⟨d, rfl, q⟩
theorem e_tup {es : List Expr} {x1 pos} {f : M (List D)} (h : PA X es (tA G W OX O O1 f)) : PE X (.Tuple es x1 pos) (tE G W OX O O1 (eN pTup f)) :=
  (pe_tup h).imp fun σ H Q ⟨F, r, S, p⟩ => tX_bind S p fun ds vs F1 H1 r1 n1 rs p => by
    obtain ⟨d, e, q⟩ := p.lift
    unfold pTup at e
    by_cases hz : okLen ds = true
    · rw [if_pos hz] at e
      cases e
      refine ⟨big_line (by have := rs.length; have := of_decide_eq_true hz; omega), fun p hp => q.fz n1.sta hp rfl fun F' hF sb => .tup (.inl (.inl hF)) (rs.mono sb)⟩
    · rw [if_neg hz] at e
      cases e
theorem e_lst {es : List Expr} {pos} {f : M (List D)} (h : PA X es (tA G W OX O O1 f)) : PE X (.List es pos) (tE G W OX O O1 (eN pLst f)) :=
  (pe_lst h).imp fun σ H Q ⟨F, r, S, p⟩ => tX_bind S p fun ds vs F1 H1 r1 n1 rs p => by
    obtain ⟨d, e, q⟩ := p.lift
    unfold pLst at e
    by_cases hz : okLen ds = true
    · rw [if_pos hz] at e
      cases e
      refine ⟨big_line (by have := rs.length; have := of_decide_eq_true hz; omega), fun p hp => q.fz n1.sta hp rfl fun F' hF sb => .lst hF (rs.mono sb)⟩
    · rw [if_neg hz] at e
      cases e
/-! ### items -/
theorem RepL.atI {F : Hp} {l : List D} {xs : List V} {i : Int} {d : D} (h : RepL G F l xs) (e : atI l i = some d) : ∃ v, L2.atI xs i = some v ∧ Rep G F d v := by
  unfold L2.atI at e ⊢
  rw [← h.length]
  obtain ⟨j, e1, e2⟩ := Option.bind_eq_some_iff.mp e
  obtain ⟨v, e3, rv⟩ := h.get e2
  exact ⟨v, by rw [e1]; exact e3, rv⟩
theorem e_ix {a b : Expr} {pos : Pos} {f g : M D} (ha : PE X a (tE G W OX O O1 f)) (hb : PE X b (tE G W OX O1 O2 g)) (hs : PlainIx b := by intro _ _; rfl) (hK : X.K = G.K := by rfl) : PE X (.Subscript a b pos) (tE G W OX O O2 (eB (oP pIx) f g)) :=
  (pe_ix ix_seq ha hb hs).imp fun σ H Q ⟨F, r, S, p⟩ => tX_bind S p fun x v F1 H1 r1 n1 rx p => tX_bind n1.sta p fun y w F2 H2 r2 n2 ry p => by
    obtain ⟨d, e, q⟩ := p.lift
    have rx := rx.mono n2.stp.fz
    have sb := n2.sta.sub
    unfold pIx at e
    unfold rIx
    rw [hK]
    split at e
    · cases rx with
      | tup h r =>
        cases ry
        obtain ⟨u, e1, ru⟩ := r.atI e
        exact .inr (.inl ⟨_, _, _, u, rfl, rfl, sb.sqT h, e1, q.ok n2.sta ru⟩)
    · cases rx with
      | lst h r =>
        cases ry
        obtain ⟨u, e1, ru⟩ := r.atI e
        obtain ⟨o', e', g⟩ := sb _ _ h
        rw [g.lst] at e'
        exact .inl ⟨_, _, _, u, rfl, rfl, .inl (.inl e'), e1, q.ok n2.sta ru⟩
    · cases rx with
      | kl h r =>
        cases ry
        obtain ⟨u, e1, ru⟩ := r.atI e
        exact .inl ⟨_, _, _, u, rfl, rfl, sb.sqL h, e1, q.ok n2.sta ru⟩
    · split at e
      · rename_i hz
        cases rx
        cases ry
        obtain ⟨c, e1, e2⟩ := Option.map_eq_some_iff.mp e
        subst e2
        exact .inr (.inr ⟨_, _, c, rfl, rfl, big_line hz, e1, q.ok n2.sta .str⟩)
      · cases e
    · cases e
/-- an item of a list that this code owns: the list is looked at when the index is known -/
@[simp] def eIxO (i : Nat) (g : M D) : M D := fun r => (g r).bind fun y r1 => match r1[i]? with
  | some (some x) => liftO (pIx x y) r1
  | _ => .no
theorem e_ixO {x : Str} {b : Expr} {pos pos' : Pos} {g : M D} (i : Nat) (hb : PE X b (tE G W OX O O1 g)) (hi : i ∈ O1 := by decide) (hs : PlainIx b := by intro _ _; rfl) (hN : X.N[i]? = some x := by rfl)
    (hv : Vis X.env.scope x := by first | exact Or.inl rfl | exact Or.inr (Or.inl rfl) | exact Or.inr (Or.inr rfl)) (hO : i ∈ O := by decide) (hd : (x == ("__debug__" : Str)) = false := by decide) (hcd : (x == ("__classdict__" : Str)) = false := by decide) : PE X (.Subscript (.Name x pos') b pos) (tE G W OX O O1 (eIxO i g)) :=
  (pe_ix ix_list (pe_var hN hv hd hcd) hb hs).imp fun σ H Q ⟨F, r, S, p⟩ => by
    obtain ⟨d0, v0, e1, e2, o0⟩ := S.ow i hO
    refine ⟨v0, e2, tX_bind S p fun y w F1 H1 r1 n1 ry p => ?_⟩
    revert p
    split
    · rename_i x e
      intro p
      obtain ⟨d, e3, q⟩ := p.lift
      obtain ⟨v, e4, o⟩ := n1.sta.own_at hi e
      rw [e2] at e4
      cases e4
      cases o with
      | lst h hf r =>
        cases ry with
        | int =>
          obtain ⟨u, e5, ru⟩ := r.atI e3
          exact ⟨_, _, _, u, rfl, rfl, .inl (.inl h), e5, q.ok n1.sta ru⟩
        | _ => cases e3
      | _ => cases ry <;> cases e3
    · exact fun p => p.elim
/-! ### slices -/
abbrev tI (G : Gm) (W : WX) (OX O O' : List Nat) (f : M (Option Int)) : L2.St → Hp → (Option Int → Hp → Prop) → Prop := tX G W OX O O' (fun _ _ (a b : Option Int) => a = b) f
theorem _root_.L2.PO.imp {X : Cx} {e : Option Expr} {t t' : TO} (h : PO X e t) (i : ∀ σ H Q, t' σ H Q → t σ H Q) : PO X e t' := ⟨fun pins s σ H Q I q => h.run pins s σ H Q I (i σ H Q q)⟩
theorem i_no : PO X none (tI G W OX O O iNo) := po_none.imp fun σ H Q ⟨F, r, S, p⟩ => p none F H (Nx.rfl' S) rfl
theorem i_so {e : Expr} {f : M D} (h : PE X e (tE G W OX O O1 f)) : PO X (some e) (tI G W OX O O1 (iSo f)) :=
  (po_some h).imp fun σ H Q ⟨F, r, S, p⟩ => tX_bind S p fun x v F1 H1 r1 n1 rx p => by
    cases rx with
    | int => exact ⟨_, rfl, p _ F1 H1 (Nx.rfl' n1.sta) rfl⟩
    | _ => exact p.elim
theorem RepL.cut {F : Hp} {l : List D} {xs : List V} (h : RepL G F l xs) (lo hi : Option Int) : RepL G F (cutD l lo hi) (cutV xs lo hi) := by
  unfold cutD cutV
  rw [h.length]
  exact (h.drop _).take _
theorem e_sl {e : Expr} {lo hi : Option Expr} {p2 pos : Pos} {f : M D} {l h : M (Option Int)} (he : PE X e (tE G W OX O O1 f)) (hl : PO X lo (tI G W OX O1 O2 l)) (hh : PO X hi (tI G W OX O2 O3 h)) (hK : X.K = G.K := by rfl) :
    PE X (.Subscript e (.Slice lo hi none p2) pos) (tE G W OX O O3 (eSl f l h)) :=
  (pe_slice (sl_list.or sl_tup) he hl hh).imp fun σ H Q ⟨F, r, S, p⟩ => tX_bind S p fun x v F1 H1 r1 n1 rx p => tX_bind n1.sta p fun lo lo' F2 H2 r2 n2 el p => tX_bind n2.sta p fun hi hi' F3 H3 r3 n3 eh p => by
    subst el eh
    obtain ⟨d, e, q⟩ := p.lift
    have rx := rx.mono (n2.stp.fz.trans n3.stp.fz)
    have sb := n3.sta.sub
    unfold pSl at e
    unfold rSlL rSlT
    rw [hK]
    split at e
    · cases e
      cases rx with
      | lst h r =>
        obtain ⟨o', e', g⟩ := sb _ _ h
        rw [g.lst] at e'
        exact .inl ⟨_, _, rfl, .inl (.inl e'), fun p hp => q.fz n3.sta hp rfl fun F' hF sb' => .lst hF ((r.mono sb').cut _ _)⟩
    · cases e
      cases rx with
      | kl h r => exact .inl ⟨_, _, rfl, sb.sqL h, fun p hp => q.fz n3.sta hp rfl fun F' hF sb' => .lst hF ((r.mono sb').cut _ _)⟩
    · split at e
      · cases e
      · rename_i hw
        cases e
        cases rx with
        | tup h r => exact .inr ⟨_, _, rfl, sb.sqT h, by rw [← r.length]; exact hw, fun p hp => q.fz n3.sta hp rfl fun F' hF sb' => .tup (.inl (.inl hF)) ((r.mono sb').cut _ _)⟩
    · cases e
/-! ### attributes -/
/-- what is known of a class of the text -/
structure ClsOk (G : Gm) (c : Nat) : Prop where
  cl : Cls G.K (G.cA c)
  nd : (G.lay c).Nodup
  sub : ∀ f ∈ G.lay c, f ∈ G.flds
  na : ∀ f ∈ G.lay c, NoAttr G.K (G.cA c) f
  few : (G.lay c).length ≤ 900
theorem zip_lookup : ∀ {lay : List Str} {xs : List V} {i : Nat} {f : Str} {v : V} (more : List (Str × V)), lay.Nodup → lay[i]? = some f → xs[i]? = some v → (lay.zip xs ++ more).lookup f = some v
  | [], _, _, _, _, _, _, e, _ => by simp at e
  | _ :: _, [], _, _, _, _, _, _, e => by simp at e
  | a :: lay, x :: xs, 0, f, v, more, nd, e1, e2 => by
    simp at e1 e2
    subst e1 e2
    simp
  | a :: lay, x :: xs, i + 1, f, v, more, nd, e1, e2 => by
    have h1 : lay[i]? = some f := by simpa using e1
    have h2 : xs[i]? = some v := by simpa using e2
    have hne : f ≠ a := fun z => (List.nodup_cons.mp nd).1 (by rw [← z]; exact List.mem_of_getElem? h1)
    rw [List.zip_cons_cons, List.cons_append, List.lookup_cons, show (f == a) = false by simp [hne]]
    exact zip_lookup more (List.nodup_cons.mp nd).2 h1 h2
theorem Rep.field {F H : Hp} {c i : Nat} {l : List D} {v : V} {d : D} {f : Str} (sb : Sub F H) (h : Rep G F (.ob c l) v) (co : ClsOk G c) (hf : (G.lay c)[i]? = some f) (e : l[i]? = some d) :
    ∃ a dx fs u, v = .ref a ∧ H a = some (.ins (G.cA c) dx fs) ∧ fs.lookup f = some u ∧ Rep G F d u := by
  cases h with
  | @ob _ _ a dx xs more h hl r =>
    obtain ⟨o', e', g⟩ := sb _ _ h
    obtain ⟨m, eo⟩ := g.ins
    subst eo
    obtain ⟨u, e1, ru⟩ := r.get e
    exact ⟨a, dx, _, u, rfl, e', by rw [List.append_assoc]; exact zip_lookup _ co.nd hf e1, ru⟩
theorem e_fl {e : Expr} {f : Str} {pos : Pos} {g : M D} (tb : List (Nat × Nat)) (he : PE X e (tE G W OX O O1 g)) (ht : ∀ c i, tb.lookup c = some i → ClsOk G c ∧ (G.lay c)[i]? = some f) (hb : attributeBase e f X.env (eval e X.env) = eval e X.env := by rfl) (hK : X.K = G.K := by rfl) :
    PE X (.Attribute e f pos) (tE G W OX O O1 (eFl tb g)) :=
  (pe_fld he hb).imp fun σ H Q ⟨F, r, S, p⟩ => tX_bind S p fun x v F1 H1 r1 n1 rx p => by
    cases rx with
    | @ob c l a dx xs more h hl rr =>
      revert p
      simp only
      cases e1 : tb.lookup c with
      | none => exact fun p => p.elim
      | some i =>
        intro p
        obtain ⟨d, e2, q⟩ := Pst.lift p
        obtain ⟨co, hf⟩ := ht c i e1
        obtain ⟨a', dx', fs, u, ev, e3, e4, ru⟩ := Rep.field n1.sta.sub (.ob h hl rr) co hf e2
        rw [hK]
        exact ⟨a', _, dx', fs, u, ev, e3, co.cl, co.na f (List.mem_of_getElem? hf), e4, q.ok n1.sta ru⟩
    | _ => exact p.elim
/-- a property's getter -/
structure PrOk (G : Gm) (P : Program) (w : World) (mg : Str → Option Value) (base : Heap) (k : Nat) (c : Nat) (f : Str) (B : Beh) : Prop where
  cl : Cls G.K (G.cA c)
  pr : ∃ p g fd ps, PropOf G.K (G.cA c) f p g ∧ FnB P w G mg base k g fd ps 1 [] B ∧ Binds G.K fd ps []
theorem e_pr {e : Expr} {f : Str} {pos : Pos} {g : M D} {k : Nat} (tb : List (Nat × Beh)) (hr : Room (k + 1) X.A) (he : PE X e (tE G W OX O O1 g)) (ht : ∀ c B, tb.lookup c = some B → PrOk G X.prog X.w X.mg X.base k c f B)
    (hb : attributeBase e f X.env (eval e X.env) = eval e X.env := by rfl) (hK : X.K = G.K := by rfl) : PE X (.Attribute e f pos) (tE G W OX O O1 (ePr tb g)) := by
  refine ⟨fun pins s σ H Q I ⟨F, r, S, p⟩ => ?_⟩
  refine attr_of hb (thn (he.run pins s σ H (fun v H1 => ∃ x F1 r1, Sta G O1 F1 H1 σ r1 ∧ Rep G F1 x v ∧ Pst G W OX O1 O1 σ F1 H1 (RD G) Q (match (motive := D → Out D) x with
    | .ob c l => (match tb.lookup c with
      | some B => okOut (B [.ob c l]) r1
      | none => .no)
    | _ => .no)) I (tX_bind S p fun x v F1 H1 r1 n1 rx p => ⟨x, F1, r1, n1.sta, rx, p⟩)) fun u s1 ⟨v, H1, I1, ru, x, F1, r1, S1, rx, p⟩ => ?_)
  cases rx with
  | @ob c l a dx xs more h hl rr =>
    revert p
    simp only
    cases e1 : tb.lookup c with
    | none => exact fun p => p.elim
    | some B =>
      intro p
      have p : Pst G W OX O1 O1 σ F1 H1 (RD G) Q (okOut (B [.ob c l]) r1) := p
      obtain ⟨cl, pp, gg, fd, ps, hp, Fk, hbd⟩ := ht c B e1
      obtain ⟨o', e', gr⟩ := S1.sub _ _ h
      obtain ⟨m, eo⟩ := gr.ins
      subst eo
      obtain rfl : u = Value.ref a := ru
      have Fk' : FnOk X.prog X.w X.K X.mg X.base (L2.CX X.prog X.w) k gg fd ps (spB G 1 [] B) := by rw [hK]; exact Fk
      have hp' : PropOf X.K (G.cA c) f pp gg := by rw [hK]; exact hp
      refine getprop_ok I1 e' (by rw [hK]; exact cl) hp' Fk' hr (by rw [hK]; exact hbd) .nil (E := fun _ _ _ => False) (fun _ _ _ _ _ _ _ ⟨_, _, _, _, _, _, _, _, _, _, _, _, z⟩ => z.elim) ?_
      have sp := spB_of (W := fun _ _ _ _ => False) (OX := []) (σ := σ) (r := r1) (O := O1) (B := B) (ds := [.ob c l]) (vs := [.ref a]) (Q := Q) (n := 1) (fun _ z => nomatch z) S1 (.cons (.ob h hl rr) .nil) rfl ?_
      · exact sp
      · revert p
        cases B [.ob c l] with
        | ok d q => exact fun p v' F' H' n rd => p v' F' H' ⟨n.sta, n.stp, fun _ _ => rfl, n.pv⟩ rd
        | ex e q => exact fun p => p.elim
        | no => exact fun p => p.elim
  | _ => exact p.elim

/-! ### calls -/
/-- a def of the text under a name of its own -/
structure GlOk (G : Gm) (P : Program) (w : World) (mg : Str → Option Value) (base : Heap) (k : Nat) (x : Str) (n : Nat) (io : List Nat) (B : Beh) (f : Addr) (fd : FuncData) (ps : List Str) : Prop where
  at_ : mg x = some (.ref f)
  kp : PySem.W.keepIn G.K (.ref f) = true
  fn : FnB P w G mg base k f fd ps n io B
  ar : ∀ ds, ds.length ≠ n → B ds = .no
theorem ar_of {n m : Nat} {io : List Nat} {b : M Fl} : ∀ ds, ds.length ≠ n → mkB n m io b ds = .no := fun ds h => if_neg h
theorem len_of {σ : L2.St} {F H : Hp} {r : Ev} {n : Nat} {B : Beh} {ds : List D} {vs : List V} {Q : VK} (ar : ∀ ds, ds.length ≠ n → B ds = .no) (rs : RepL G F ds vs) (p : Pst G W OX O O σ F H (RD G) Q (out0 (B ds) r)) : vs.length = n := by
  by_cases h : ds.length = n
  · rw [← rs.length, h]
  · rw [ar ds h] at p
    exact p.elim
theorem run_B {k : Nat} {f : Addr} {fd : FuncData} {ps : List Str} {n : Nat} {io : List Nat} {B : Beh} {pins : List (Addr × Obj)} {σ : L2.St} {H : Hp} {s : Shared} {Q : VK} {us ds : List Value} {vs dvs : List V} (tk : Takes X W) (F : FnOk X.prog X.w X.K X.mg X.base (L2.CX X.prog X.w) k f fd ps (spB G n io B))
    (hr : Room k X.A) (hb : Binds X.K fd ps ds) (hd : Vals dvs ds) (I : Inv X pins σ H s) (r : Vals vs us) (h : spB G n io B (vs ++ dvs) H Q (fun c dx H' => W c dx σ H')) : wpAny (model X.prog X.w) X.A (call (.ref f) us) (EP X pins σ Q) X.xe s :=
  run_fnSD (E := WE W) F hr hb hd (passAt tk σ) I r h
theorem RepL.more {F : Hp} {ds dd : List D} {vs dvs : List V} (h : RepL G F ds vs) (h' : ∀ F, RepL G F dd dvs) : RepL G F (ds ++ dd) (vs ++ dvs) := h.app (h' F)
@[simp] def eCd (B : Beh) (dd : List D) (f : M (List D)) : M D := fun r => (f r).bind fun ds r1 => out0 (B (ds ++ dd)) r1
/-- f(e, ..), the last parameters by their defaults dd -/
theorem e_call {x : Str} {p pos : Pos} {e : Expr} {es : List Expr} {k n : Nat} {B : Beh} {f : Addr} {fd : FuncData} {ps : List Str} {g : M (List D)} {ds : List Value} {dvs : List V} {dd : List D} (tk : Takes X W) (hr : Room k X.A) (gl : GlOk G X.prog X.w X.mg X.base k x n [] B f fd ps)
    (hb : Binds G.K fd ps ds) (hd : Vals dvs ds) (hdd : ∀ F, RepL G F dd dvs) (ha : PA X (e :: es) (tA G W OX O O1 g)) (hx : ∀ i ∈ OX, i ∈ O1 := by decide) (hg : Gl X x := by rfl) (hK : X.K = G.K := by rfl) (hdb : (x == ("__debug__" : Str)) = false := by decide)
    (he : starEach (e :: es) X.env = (false, eval e X.env) :: starEach es X.env := by rfl) (hpl : (backTo pos (starEach es X.env)).any (·.1) = false := by rfl) : PE X (.Call (.Name x p) (e :: es) [] pos) (tE G W OX O O1 (eCd B dd g)) := by
  refine ⟨fun pins s σ H Q I ⟨F, r, S, p⟩ => ?_⟩
  refine wpAny_Call_Name_kw (ld_glob I hg gl.at_ ?_ hdb)
  refine PySem.W.callWith_K (h₀ := X.base) I.ok.mod.kin (by rw [hK]; exact gl.kp) (thn (ha.run pos pins s σ H (fun vs H1 => ∃ ds F1 r1, Sta G O1 F1 H1 σ r1 ∧ RepL G F1 ds vs ∧ Pst G W OX O1 O1 σ F1 H1 (RD G) Q (out0 (B (ds ++ dd)) r1)) I
    (tX_bind S p fun ds vs F1 H1 r1 n1 rs p => ⟨ds, F1, r1, n1.sta, rs, p⟩)) fun us s1 ⟨vs, H1, I1, rv, ds, F1, r1, S1, rs, p⟩ => ⟨I1.kIn, ?_⟩) he hpl
  have Fk : FnOk X.prog X.w X.K X.mg X.base (L2.CX X.prog X.w) k f fd ps (spB G n [] B) := by rw [hK]; exact gl.fn
  exact run_B tk Fk hr (by rw [hK]; exact hb) hd I1 rv (spB_of hx S1 (rs.more hdd) (len_of gl.ar (rs.more hdd) p) p)
end
end Z

/-! Calls: keywords, methods, static methods, new instances, owned arguments; the text's own operators. -/
namespace Z
open PySem PySem.Spec PyProof.Rows L2

/-- the items of l at the places o -/
def permL {α : Type} (o : List Nat) (l : List α) : List α := o.filterMap fun i => l[i]?
@[simp] def eCk (B : Beh) (n m : Nat) (o : List Nat) (dd : List D) (f g : M (List D)) : M D := fun r => (f r).bind fun ds r1 => (g r1).bind fun zs r2 => if ds.length = n ∧ zs.length = m then out0 (B (permL o (ds ++ zs ++ dd))) r2 else .no
@[simp] def eNk (c : Nat) (B : Beh) (n m : Nat) (o : List Nat) (dd : List D) (f g : M (List D)) : M D := fun r => (f r).bind fun ds r1 => (g r1).bind fun zs r2 => if ds.length = n ∧ zs.length = m then outN (B (.ob c [] :: permL o (ds ++ zs ++ dd))) r2 else .no
@[simp] def eNd (c : Nat) (B : Beh) (dd : List D) (f : M (List D)) : M D := fun r => (f r).bind fun ds r1 => outN (B (.ob c [] :: (ds ++ dd))) r1
/-- by the class of x -/
@[simp] def onMt (tb : List (Nat × Beh)) (x : D) (k : Beh → Out D) : Out D := match x with
  | .ob c fs => (match tb.lookup c with
    | some B => k fun l => B (.ob c fs :: l)
    | none => .no)
  | _ => .no
@[simp] def eMd (tb : List (Nat × Beh)) (dd : List D) (f : M D) (g : M (List D)) : M D := fun r => (f r).bind fun x r1 => onMt tb x fun B => (g r1).bind fun ds r2 => out0 (B (ds ++ dd)) r2
@[simp] def eMk (tb : List (Nat × Beh)) (n m : Nat) (o : List Nat) (dd : List D) (f : M D) (g h : M (List D)) : M D := fun r => (f r).bind fun x r1 => onMt tb x fun B => (g r1).bind fun ds r2 => (h r2).bind fun zs r3 => if ds.length = n ∧ zs.length = m then out0 (B (permL o (ds ++ zs ++ dd))) r3 else .no
@[simp] def eCo (B : Beh) (i : Nat) (f : M (List D)) : M D := fun r => (f r).bind fun ds r1 => match r1[i]? with
  | some (some d0) => out1 (B (d0 :: ds)) i r1
  | _ => .no

section
variable {G : Gm} {X : Cx} {W : WX} {OX OL O O1 O2 O3 : List Nat}
theorem RepL.perm {F : Hp} {l : List D} {xs : List V} (h : RepL G F l xs) : ∀ o : List Nat, RepL G F (permL o l) (permL o xs)
  | [] => .nil
  | i :: o => by
    unfold permL
    rw [List.filterMap_cons, List.filterMap_cons]
    cases e : l[i]? with
    | none =>
      have : xs[i]? = none := by
        rw [List.getElem?_eq_none_iff] at e ⊢
        rw [← h.length]
        exact e
      rw [this]
      exact RepL.perm h o
    | some d =>
      obtain ⟨v, e1, r1⟩ := h.get e
      rw [e1]
      exact .cons r1 (RepL.perm h o)
theorem Vals.perm {l : List V} {xs : List Value} (h : Vals l xs) : ∀ o : List Nat, Vals (permL o l) (permL o xs)
  | [] => .nil
  | i :: o => by
    unfold permL
    rw [List.filterMap_cons, List.filterMap_cons]
    cases e : l[i]? with
    | none =>
      rw [L2.Vals.none_of h e]
      exact Vals.perm h o
    | some d =>
      obtain ⟨v, e1, r1⟩ := L2.Vals.get h e
      rw [e1]
      exact .cons r1 (Vals.perm h o)
/-- how a call with keywords binds -/
def BindK (K : PySem.W.Frag) (fd : FuncData) (ps : List Str) (n : Nat) (ks : List Str) (o : List Nat) (ds : List Value) : Prop :=
  ∀ (s : Shared) (us ws : List Value), K.In s.heap → us.length = n → ws.length = ks.length → BindsTo s fd ⟨us, ks.zip ws⟩ (ps.zip (permL o (us ++ ws ++ ds)))
theorem k_nil : PK X [] (tA G W OX O O aNil) := ⟨fun pos pins s σ H Q I ⟨F, r, S, p⟩ => pk_nil.run pos pins s σ H Q I (p.ok S .nil)⟩
theorem k_cons {e : Expr} {kws : List Keyword} {nm : Option Str} {kpos : Pos} {f : M D} {g : M (List D)} (ha : PE X e (tE G W OX O O1 f)) (hr : PK X kws (tA G W OX O1 O2 g)) : PK X (⟨nm, e, kpos⟩ :: kws) (tA G W OX O O2 (aCons f g)) :=
  ⟨fun pos pins s σ H Q I ⟨F, r, S, p⟩ => (pk_cons ha hr).run pos pins s σ H Q I (tX_bind S p fun x v F1 H1 r1 n1 rx p => tX_bind n1.sta p fun xs vs F2 H2 r2 n2 rxs p2 => p2.ok n2.sta (.cons (rx.mono n2.stp.fz) rxs))⟩
theorem run_Bk {k : Nat} {f : Addr} {fd : FuncData} {ps : List Str} {n : Nat} {io : List Nat} {B : Beh} {pins : List (Addr × Obj)} {σ : L2.St} {H : Hp} {s : Shared} {Q : VK} {us us' : List Value} {kw : List (Str × Value)} {vs : List V} (tk : Takes X W)
    (F : FnOk X.prog X.w X.K X.mg X.base (L2.CX X.prog X.w) k f fd ps (spB G n io B)) (hr : Room k X.A) (bt : BindsTo s fd ⟨us, kw⟩ (ps.zip us')) (I : Inv X pins σ H s) (r : Vals vs us') (h : spB G n io B vs H Q (fun c dx H' => W c dx σ H')) :
    wpAny (model X.prog X.w) X.A (call (.ref f) us kw) (EP X pins σ Q) X.xe s := by
  have run := F.run X.A X.stack s H ⟨us, kw⟩ us' vs Q (fun c dx H' => W c dx σ H') hr I.env0 bt r h
  refine wpAny_call (codeAny_mono run fun res s' back => ?_)
  match res, back with
  | .error er, back => exact passAt tk σ pins H s er s' I back
  | .ok (.ret u), back => exact I.after back
  | .ok .next, back => exact back.elim
  | .ok .brk, back => exact back.elim
  | .ok .cont, back => exact back.elim
/-- C(..) with an __init__ of the text -/
theorem run_Nk {k c : Nat} {f : Addr} {fd : FuncData} {ps : List Str} {n : Nat} {B : Beh} {pins : List (Addr × Obj)} {σ : L2.St} {F H : Hp} {r : Ev} {s : Shared} {Q : VK} {us us' : List Value} {kw : List (Str × Value)} {vs : List V} {ds : List D} (tk : Takes X W)
    (F1 : FnOk X.prog X.w X.K X.mg X.base (L2.CX X.prog X.w) k f fd ps (spB G n [0] B)) (hr : Room (k + 1) X.A) (Mc : Mk X.K (G.cA c) f) (him : G.imm c = true)
    (bt : ∀ (s : Shared) (x : Value), X.K.In s.heap → BindsTo s fd ⟨x :: us, kw⟩ (ps.zip (x :: us'))) (I : Inv X pins σ H s) (S : Sta G O F H σ r) (rv : Vals vs us') (rs : RepL G F ds vs) (ar : ∀ ds, ds.length ≠ n → B ds = .no) (hx : ∀ i ∈ OX, i ∈ O)
    (p : Pst G W OX O O σ F H (RD G) Q (outN (B (.ob c [] :: ds)) r)) : wpAny (model X.prog X.w) X.A (call (.ref (G.cA c)) us kw) (EP X pins σ Q) X.xe s := by
  have hn : (V.ref 0 :: vs).length = n := by
    by_cases h : (D.ob c [] :: ds).length = n
    · rw [← h, List.length_cons, List.length_cons, rs.length]
    · rw [ar _ h] at p
      exact p.elim
  -- the new instance
  have nx : H (s.heap.objs.size + 1) = none := I.hok.fresh (Nat.le_succ _)
  have nd : H s.heap.objs.size = none := I.hok.fresh (Nat.le_refl _)
  have ne : s.heap.objs.size + 1 ≠ s.heap.objs.size := Nat.succ_ne_self _
  have I2 := Inv.made (C := G.cA c) I
  generalize hxa : s.heap.objs.size + 1 = x at nx ne I2
  generalize hda : s.heap.objs.size = dx at nd ne I2
  have fx : F x = none := by
    cases q : F x with
    | none => rfl
    | some u =>
      obtain ⟨o', e, _⟩ := S.sub x u q
      rw [nx] at e
      cases e
  have hH : ∀ {a : Addr} {o : HO}, H a = some o → upd (upd H dx (.own x)) x (.ins (G.cA c) dx []) a = some o := fun {a o} e => by
    rw [upd_ne (ne_of_none e nx), upd_ne (ne_of_none e nd)]
    exact e
  have sb : Sub F (upd (upd H dx (.own x)) x (.ins (G.cA c) dx [])) := fun a o e => by
    obtain ⟨o', e', g⟩ := S.sub a o e
    exact ⟨o', hH e', g⟩
  have wf : Wf G (upd (upd H dx (.own x)) x (.ins (G.cA c) dx [])) := fun a C d fs g e hf => by
    by_cases q : a = x
    · rw [q, upd_same] at e
      cases e
      exact absurd rfl hf
    · rw [upd_ne q] at e
      exact (S.wf.upd rfl) a C d fs g e hf
  have SA : Sta G [0] F (upd (upd H dx (.own x)) x (.ins (G.cA c) dx [])) ((V.ref x :: vs).map some) ((D.ob c [] :: ds).map some) := by
    have A := Sta.args (H := upd (upd H dx (.own x)) x (.ins (G.cA c) dx [])) sb wf rs
    refine ⟨sb, wf, by simp [rs.length], fun j d hj e => ?_, fun j hj => ?_, fun j k a hj hk _ _ => ?_⟩
    · cases j with
      | zero => exact absurd (List.mem_singleton.mpr rfl) hj
      | succ j => exact A.rp j d (by simp) (by simpa using e)
    · rw [List.mem_singleton.mp hj]
      exact ⟨.ob c [], .ref x, rfl, rfl, .ob (xs := []) (dx := dx) (by rw [List.zip_nil_right]; exact upd_same) (.inl fx) (Nat.zero_le _) .nil⟩
    · rw [List.mem_singleton.mp hj, List.mem_singleton.mp hk]
  have mo : ∀ a, OwnAt [0] ((V.ref x :: vs).map some) a → a = x := fun a ⟨j, hj, e⟩ => by
    rw [List.mem_singleton.mp hj] at e
    have e' : V.ref x = V.ref a := by simpa using e
    injection e' with e''
    exact e''.symm
  have st0 : ∀ {F' H' : Hp} {q : Ev}, Nx G [0] [0] [0] ((V.ref x :: vs).map some) F (upd (upd H dx (.own x)) x (.ins (G.cA c) dx [])) ((V.ref x :: vs).map some) F' H' q → Stp (fun _ => False) F H F' H' := fun {F' H' q} n =>
    ⟨n.stp.fz, fun a o e _ => n.stp.kp a o (hH e) (fun m => nomatch (show (none : Option HO) = some o by rw [← nx, ← mo a m]; exact e)), fun a o e _ => n.stp.nf a o (hH e) (fun m => nomatch (show (none : Option HO) = some o by rw [← nx, ← mo a m]; exact e)), fun a e => upd_none (upd_none (n.stp.tr a e))⟩
  have hsp : spB G n [0] B (V.ref x :: vs) (upd (upd H dx (.own x)) x (.ins (G.cA c) dx [])) (fun v H2 => v = .non ∧ Q (.ref x) H2) (fun cl d H' => W cl d σ H') := by
    refine ⟨by rw [← hn]; rfl, F, .ob c [] :: ds, SA, ?_⟩
    revert p
    cases B (.ob c [] :: ds) with
    | no => exact fun p => p.elim
    | ex e q =>
        intro p cl d F' H' n xr
        have n2 : Nx G OX O O σ F H σ F' H' r := Nx.of (S.stay (st0 n) n.sta.sub n.sta.wf fun _ _ z => z) ((st0 n).weak fun _ z => z.elim) fun _ h => h
        obtain ⟨F2, n3, s3⟩ := n2.freeze hx
        exact p cl d F2 H' n3 (xr.mono s3)
    | ok d q =>
      intro p v F' H' n rd
      cases d with
      | non =>
        cases rd
        obtain ⟨d', v', e1, e2, ow⟩ := n.sta.ow 0 (by simp)
        have ev : V.ref x = v' := by simpa using e2
        subst ev
        refine ⟨rfl, ?_⟩
        have p : Pst G W OX O O σ F H (RD G) Q (match q[0]? with | some (some d) => .ok d r | _ => .no) := p
        rw [e1] at p
        obtain ⟨F2, a, ob, ea, hob, rfl, k1, k2, rp⟩ := ow.freeze n.sta.sub
        cases ea
        refine p _ _ H' (Nx.of (S.stay ⟨(st0 n).fz.trans k1, (st0 n).kp, fun a o e m => ?_, (st0 n).tr⟩ k2 n.sta.wf fun _ _ z => z) ⟨(st0 n).fz.trans k1, fun a o e _ => (st0 n).kp a o e fun z => z, fun a o e _ => ?_, (st0 n).tr⟩ fun _ h => h) rp
        · rw [upd_ne (ne_of_none e nx)]
          exact (st0 n).nf a o e fun z => z
        · rw [upd_ne (ne_of_none e nx)]
          exact (st0 n).nf a o e fun z => z
      | _ => exact p.elim
  have run := F1.run (X.A.under (.builtin "type.__call__" ⟨.ref (G.cA c) :: us, kw⟩)) X.stack { s with heap := (s.heap.push PySem.W.emptyDict).push (PySem.W.instObj (G.cA c) dx) } _ ⟨.ref x :: us, kw⟩ (.ref x :: us') (V.ref x :: vs) _ _ (hr.make _ us kw)
    (by have q := I2.env0.make (G.cA c) us kw; exact q) (bt _ _ I2.kIn) (.cons rfl rv) hsp
  refine wpAny_call (make_map (f := f) I.kIn Mc.makes Mc.init (beq_iff_eq.mp Mc.fn) ?_)
  rw [hxa, hda]
  refine codeAny_mono run fun res s' back => ?_
  match res, back with
  | .error er, back => exact passAt tk σ pins _ _ er s' I2 back
  | .ok (.ret u), back =>
    obtain ⟨v, H', I3, rv', ev, q3⟩ := I2.after back
    subst ev
    exact ⟨rv', ⟨V.ref x, H', I3, rfl, q3⟩⟩
  | .ok .next, back => exact back.elim
  | .ok .brk, back => exact back.elim
  | .ok .cont, back => exact back.elim

/-! ### the forms of calls -/
/-- e, ..; k = e, ..: both parts evaluated -/
theorem cw1 {fv : Value} {first : List Value} {e : Expr} {es : List Expr} {kws : List Keyword} {ks : List Str} {pos : Pos} {f g : M (List D)} {k : List D → List D → Ev → Out D} {pins : List (Addr × Obj)} {σ : L2.St} {F H : Hp} {r : Ev} {s : Shared} {Q : VK}
    (hk : PySem.W.keepIn X.K fv = true) (ha : PA X (e :: es) (tA G W OX O O1 f)) (hkw : PK X kws (tA G W OX O1 O2 g)) (I : Inv X pins σ H s) (S : Sta G O F H σ r) (p : Pst G W OX O O2 σ F H (RD G) Q ((f r).bind fun ds r1 => (g r1).bind fun zs r2 => k ds zs r2))
    (cont : ∀ (ds zs : List D) (vs ys : List V) (us ws : List Value) (s2 : Shared) (F2 H2 : Hp) (r2 : Ev), Inv X pins σ H2 s2 → Nx G OX O O2 σ F H σ F2 H2 r2 → RepL G F2 ds vs → RepL G F2 zs ys → Vals vs us → Vals ys ws → Pst G W OX O2 O2 σ F2 H2 (RD G) Q (k ds zs r2) →
      wpAny (model X.prog X.w) X.A (call fv (first ++ us) (ks.zip ws)) (EP X pins σ Q) X.xe s2)
    (hall : (backToKw pos (keywordEach kws X.env)).all (·.1.isSome) = true := by rfl) (hks : (backToKw pos (keywordEach kws X.env)).filterMap (·.1) = ks := by rfl) (he : starEach (e :: es) X.env = (false, eval e X.env) :: starEach es X.env := by rfl)
    (hpl : ((backTo pos (starEach (e :: es) X.env)).any (·.1) || (backToKw pos (keywordEach kws X.env)).any (·.1.isNone)) = false := by rfl) :
    wpAny (model X.prog X.w) X.A (callWith pos fv first (backTo pos (starEach (e :: es) X.env)) (backToKw pos (keywordEach kws X.env))) (EP X pins σ Q) X.xe s := by
  refine PySem.W.callWith_KW (h₀ := X.base) I.ok.mod.kin hk hall (thn (ha.run pos pins s σ H (fun vs H1 => ∃ ds F1 r1, Nx G OX O O1 σ F H σ F1 H1 r1 ∧ RepL G F1 ds vs ∧ Pst G W OX O1 O2 σ F1 H1 (RD G) Q ((g r1).bind fun zs r2 => k ds zs r2)) I
    (tX_bind S p fun ds vs F1 H1 r1 n1 rs p => ⟨ds, F1, r1, n1, rs, p⟩)) fun us s1 ⟨vs, H1, I1, rv, ds, F1, r1, n1, rs, p⟩ => ?_) hpl he
  refine thn (hkw.run pos pins s1 σ H1 (fun ys H2 => ∃ zs F2 r2, Nx G OX O1 O2 σ F1 H1 σ F2 H2 r2 ∧ RepL G F2 zs ys ∧ Pst G W OX O2 O2 σ F2 H2 (RD G) Q (k ds zs r2)) I1
    (tX_bind n1.sta p fun zs ys F2 H2 r2 n2 rz p => ⟨zs, F2, r2, n2, rz, p⟩)) fun ws s2 ⟨ys, H2, I2, rw', zs, F2, r2, n2, rz, p⟩ => ⟨I2.kIn, ?_⟩
  rw [hks]
  exact cont ds zs vs ys us ws s2 F2 H2 r2 I2 (n1.trans n2) (rs.mono n2.stp.fz) rz rv rw' p
theorem cw0 {fv : Value} {first : List Value} {kws : List Keyword} {ks : List Str} {pos : Pos} {g : M (List D)} {k : List D → List D → Ev → Out D} {pins : List (Addr × Obj)} {σ : L2.St} {F H : Hp} {r : Ev} {s : Shared} {Q : VK}
    (hk : PySem.W.keepIn X.K fv = true) (hkw : PK X kws (tA G W OX O O2 g)) (I : Inv X pins σ H s) (S : Sta G O F H σ r) (p : Pst G W OX O O2 σ F H (RD G) Q ((g r).bind fun zs r2 => k [] zs r2))
    (cont : ∀ (ds zs : List D) (vs ys : List V) (us ws : List Value) (s2 : Shared) (F2 H2 : Hp) (r2 : Ev), Inv X pins σ H2 s2 → Nx G OX O O2 σ F H σ F2 H2 r2 → RepL G F2 ds vs → RepL G F2 zs ys → Vals vs us → Vals ys ws → Pst G W OX O2 O2 σ F2 H2 (RD G) Q (k ds zs r2) →
      wpAny (model X.prog X.w) X.A (call fv (first ++ us) (ks.zip ws)) (EP X pins σ Q) X.xe s2)
    (hall : (backToKw pos (keywordEach kws X.env)).all (·.1.isSome) = true := by rfl) (hks : (backToKw pos (keywordEach kws X.env)).filterMap (·.1) = ks := by rfl)
    (hpl : ((backTo pos (starEach [] X.env)).any (·.1) || (backToKw pos (keywordEach kws X.env)).any (·.1.isNone)) = false := by rfl) :
    wpAny (model X.prog X.w) X.A (callWith pos fv first (backTo pos (starEach [] X.env)) (backToKw pos (keywordEach kws X.env))) (EP X pins σ Q) X.xe s := by
  refine PySem.W.callWith_KW0 (h₀ := X.base) I.ok.mod.kin hk hall (thn (hkw.run pos pins s σ H (fun ys H2 => ∃ zs F2 r2, Nx G OX O O2 σ F H σ F2 H2 r2 ∧ RepL G F2 zs ys ∧ Pst G W OX O2 O2 σ F2 H2 (RD G) Q (k [] zs r2)) I
    (tX_bind S p fun zs ys F2 H2 r2 n2 rz p => ⟨zs, F2, r2, n2, rz, p⟩)) fun ws s2 ⟨ys, H2, I2, rw', zs, F2, r2, n2, rz, p⟩ => ⟨I2.kIn, ?_⟩) hpl
  rw [hks]
  exact cont [] zs [] ys [] ws s2 F2 H2 r2 I2 n2 .nil rz .nil rw' p
/-- a class that is made by its __init__ -/
structure NwOk (G : Gm) (P : Program) (w : World) (mg : Str → Option Value) (base : Heap) (k : Nat) (x : Str) (c : Nat) (n : Nat) (B : Beh) (f : Addr) (fd : FuncData) (ps : List Str) : Prop where
  at_ : mg x = some (.ref (G.cA c))
  mkd : Mk G.K (G.cA c) f
  imm : G.imm c = true
  fn : FnB P w G mg base k f fd ps n [0] B
  ar : ∀ ds, ds.length ≠ n → B ds = .no
  pl : ps.length = n
theorem lenN {σ : L2.St} {F H : Hp} {r : Ev} {n : Nat} {B : Beh} {ds : List D} {Q : VK} (ar : ∀ ds, ds.length ≠ n → B ds = .no) (p : Pst G W OX O O σ F H (RD G) Q (outN (B ds) r)) : ds.length = n := by
  by_cases h : ds.length = n
  · exact h
  · rw [ar ds h] at p
    exact p.elim
theorem len0 {σ : L2.St} {F H : Hp} {r : Ev} {n : Nat} {B : Beh} {ds : List D} {Q : VK} (ar : ∀ ds, ds.length ≠ n → B ds = .no) (p : Pst G W OX O O σ F H (RD G) Q (out0 (B ds) r)) : ds.length = n := by
  by_cases h : ds.length = n
  · exact h
  · rw [ar ds h] at p
    exact p.elim
theorem vlen {vs : List V} {us : List Value} (h : Vals vs us) : us.length = vs.length := h.length.symm
theorem e_new {x : Str} {p pos : Pos} {e : Expr} {es : List Expr} {k n c : Nat} {B : Beh} {f : Addr} {fd : FuncData} {ps : List Str} {g : M (List D)} {ds : List Value} {dvs : List V} {dd : List D} (tk : Takes X W) (hr : Room (k + 1) X.A) (nw : NwOk G X.prog X.w X.mg X.base k x c n B f fd ps)
    (hb : Binds G.K fd ps ds) (hd : Vals dvs ds) (hdd : ∀ F, RepL G F dd dvs) (ha : PA X (e :: es) (tA G W OX O O1 g)) (hx : ∀ i ∈ OX, i ∈ O1 := by decide) (hg : Gl X x := by rfl) (hK : X.K = G.K := by rfl) (hdb : (x == ("__debug__" : Str)) = false := by decide)
    (he : starEach (e :: es) X.env = (false, eval e X.env) :: starEach es X.env := by rfl) (hpl : (backTo pos (starEach es X.env)).any (·.1) = false := by rfl) : PE X (.Call (.Name x p) (e :: es) [] pos) (tE G W OX O O1 (eNd c B dd g)) := by
  refine ⟨fun pins s σ H Q I ⟨F, r, S, p⟩ => ?_⟩
  refine wpAny_Call_Name_kw (ld_glob I hg nw.at_ ?_ hdb)
  refine PySem.W.callWith_K (h₀ := X.base) I.ok.mod.kin (by rw [hK]; exact nw.mkd.kp) (thn (ha.run pos pins s σ H (fun vs H1 => ∃ ds F1 r1, Sta G O1 F1 H1 σ r1 ∧ RepL G F1 ds vs ∧ Pst G W OX O1 O1 σ F1 H1 (RD G) Q (outN (B (.ob c [] :: (ds ++ dd))) r1)) I
    (tX_bind S p fun ds vs F1 H1 r1 n1 rs p => ⟨ds, F1, r1, n1.sta, rs, p⟩)) fun us s1 ⟨vs, H1, I1, rv, zs, F1, r1, S1, rs, p⟩ => ⟨I1.kIn, ?_⟩) he hpl
  have Fk : FnOk X.prog X.w X.K X.mg X.base (L2.CX X.prog X.w) k f fd ps (spB G n [0] B) := by rw [hK]; exact nw.fn
  have hl := lenN nw.ar p
  have rs2 := rs.more hdd
  have rv2 := rv.append hd
  refine run_Nk (ds := zs ++ dd) (vs := vs ++ dvs) (us' := us ++ ds) tk Fk hr (by rw [hK]; exact nw.mkd) nw.imm (fun s x hk => ?_) I1 S1 rv2 rs2 nw.ar hx p
  have hb' : Binds X.K fd ps ds := by rw [hK]; exact hb
  refine hb' s (x :: us) hk ?_
  rw [nw.pl, ← hl, List.cons_append, List.length_cons, List.length_cons, vlen rv2, rs2.length]
/-- C() -/
theorem e_new0 {x : Str} {p pos : Pos} {k n c : Nat} {B : Beh} {f : Addr} {fd : FuncData} {ps : List Str} {ds : List Value} {dvs : List V} {dd : List D} (tk : Takes X W) (hr : Room (k + 1) X.A) (nw : NwOk G X.prog X.w X.mg X.base k x c n B f fd ps)
    (hb : Binds G.K fd ps ds) (hd : Vals dvs ds) (hdd : ∀ F, RepL G F dd dvs) (hx : ∀ i ∈ OX, i ∈ O := by decide) (hg : Gl X x := by rfl) (hK : X.K = G.K := by rfl) (hdb : (x == ("__debug__" : Str)) = false := by decide) :
    PE X (.Call (.Name x p) [] [] pos) (tE G W OX O O (eNd c B dd aNil)) := by
  refine ⟨fun pins s σ H Q I ⟨F, r, S, p⟩ => ?_⟩
  refine wpAny_Call_Name_kw (ld_glob I hg nw.at_ ?_ hdb)
  refine PySem.W.callWith_K0 I.kIn (by rw [hK]; exact nw.mkd.kp) ?_
  have Fk : FnOk X.prog X.w X.K X.mg X.base (L2.CX X.prog X.w) k f fd ps (spB G n [0] B) := by rw [hK]; exact nw.fn
  have p : Pst G W OX O O σ F H (RD G) Q (outN (B (.ob c [] :: dd)) r) := p
  have hl := lenN nw.ar p
  refine run_Nk (us := []) (ds := dd) (vs := dvs) (us' := ds) tk Fk hr (by rw [hK]; exact nw.mkd) nw.imm (fun s x hk => ?_) I S hd (hdd F) nw.ar hx p
  have hb' : Binds X.K fd ps ds := by rw [hK]; exact hb
  refine hb' s [x] hk ?_
  rw [nw.pl, ← hl, List.singleton_append, List.length_cons, List.length_cons, vlen hd, (hdd F).length]
/-- f(e, .., k = v, ..) -/
theorem e_callK {x : Str} {p pos : Pos} {e : Expr} {es : List Expr} {kws : List Keyword} {k n m a : Nat} {B : Beh} {f : Addr} {fd : FuncData} {ps ks : List Str} {g h : M (List D)} {o : List Nat} {ds : List Value} {dvs : List V} {dd : List D} (tk : Takes X W) (hr : Room k X.A) (gl : GlOk G X.prog X.w X.mg X.base k x a [] B f fd ps)
    (hb : BindK G.K fd ps n ks o ds) (hd : Vals dvs ds) (hdd : ∀ F, RepL G F dd dvs) (ha : PA X (e :: es) (tA G W OX O O1 g)) (hkw : PK X kws (tA G W OX O1 O2 h)) (hm : ks.length = m := by rfl) (hx : ∀ i ∈ OX, i ∈ O2 := by decide) (hg : Gl X x := by rfl) (hK : X.K = G.K := by rfl) (hdb : (x == ("__debug__" : Str)) = false := by decide)
    (hall : (backToKw pos (keywordEach kws X.env)).all (·.1.isSome) = true := by rfl) (hks : (backToKw pos (keywordEach kws X.env)).filterMap (·.1) = ks := by rfl) (he : starEach (e :: es) X.env = (false, eval e X.env) :: starEach es X.env := by rfl)
    (hpl : ((backTo pos (starEach (e :: es) X.env)).any (·.1) || (backToKw pos (keywordEach kws X.env)).any (·.1.isNone)) = false := by rfl) : PE X (.Call (.Name x p) (e :: es) kws pos) (tE G W OX O O2 (eCk B n m o dd g h)) := by
  refine ⟨fun pins s σ H Q I ⟨F, r, S, p⟩ => ?_⟩
  refine wpAny_Call_Name_kw (ld_glob I hg gl.at_ ?_ hdb)
  refine cw1 (first := []) (k := fun ds zs r2 => if ds.length = n ∧ zs.length = m then out0 (B (permL o (ds ++ zs ++ dd))) r2 else .no) (by rw [hK]; exact gl.kp) ha hkw I S p (fun ds' zs vs ys us ws s2 F2 H2 r2 I2 n2 rs rz rv rw' p => ?_) hall hks he hpl
  split at p
  · rename_i hl
    obtain ⟨h1, h2⟩ := hl
    have Fk : FnOk X.prog X.w X.K X.mg X.base (L2.CX X.prog X.w) k f fd ps (spB G a [] B) := by rw [hK]; exact gl.fn
    have rp := ((rs.app rz).app (hdd F2)).perm o
    have bt : BindK X.K fd ps n ks o ds := by rw [hK]; exact hb
    exact run_Bk tk Fk hr (bt s2 us ws I2.kIn (by rw [vlen rv, ← rs.length, h1]) (by rw [vlen rw', ← rz.length, h2, hm])) I2 (Vals.perm ((rv.append rw').append hd) o) (spB_of hx n2.sta rp (len_of gl.ar rp p) p)
  · exact p.elim
theorem e_callK0 {x : Str} {p pos : Pos} {kws : List Keyword} {k m a : Nat} {B : Beh} {f : Addr} {fd : FuncData} {ps ks : List Str} {h : M (List D)} {o : List Nat} {ds : List Value} {dvs : List V} {dd : List D} (tk : Takes X W) (hr : Room k X.A) (gl : GlOk G X.prog X.w X.mg X.base k x a [] B f fd ps)
    (hb : BindK G.K fd ps 0 ks o ds) (hd : Vals dvs ds) (hdd : ∀ F, RepL G F dd dvs) (hkw : PK X kws (tA G W OX O O2 h)) (hm : ks.length = m := by rfl) (hx : ∀ i ∈ OX, i ∈ O2 := by decide) (hg : Gl X x := by rfl) (hK : X.K = G.K := by rfl) (hdb : (x == ("__debug__" : Str)) = false := by decide)
    (hall : (backToKw pos (keywordEach kws X.env)).all (·.1.isSome) = true := by rfl) (hks : (backToKw pos (keywordEach kws X.env)).filterMap (·.1) = ks := by rfl)
    (hpl : ((backTo pos (starEach [] X.env)).any (·.1) || (backToKw pos (keywordEach kws X.env)).any (·.1.isNone)) = false := by rfl) : PE X (.Call (.Name x p) [] kws pos) (tE G W OX O O2 (eCk B 0 m o dd aNil h)) := by
  refine ⟨fun pins s σ H Q I ⟨F, r, S, p⟩ => ?_⟩
  refine wpAny_Call_Name_kw (ld_glob I hg gl.at_ ?_ hdb)
  refine cw0 (first := []) (k := fun ds zs r2 => if ds.length = 0 ∧ zs.length = m then out0 (B (permL o (ds ++ zs ++ dd))) r2 else .no) (by rw [hK]; exact gl.kp) hkw I S p (fun ds' zs vs ys us ws s2 F2 H2 r2 I2 n2 rs rz rv rw' p => ?_) hall hks hpl
  split at p
  · rename_i hl
    obtain ⟨h1, h2⟩ := hl
    have Fk : FnOk X.prog X.w X.K X.mg X.base (L2.CX X.prog X.w) k f fd ps (spB G a [] B) := by rw [hK]; exact gl.fn
    have rp := ((rs.app rz).app (hdd F2)).perm o
    have bt : BindK X.K fd ps 0 ks o ds := by rw [hK]; exact hb
    exact run_Bk tk Fk hr (bt s2 us ws I2.kIn (by rw [vlen rv, ← rs.length, h1]) (by rw [vlen rw', ← rz.length, h2, hm])) I2 (Vals.perm ((rv.append rw').append hd) o) (spB_of hx n2.sta rp (len_of gl.ar rp p) p)
  · exact p.elim
theorem permL_cons {α : Type} (z : α) (l : List α) (o : List Nat) : permL (0 :: o.map (· + 1)) (z :: l) = z :: permL o l := by
  unfold permL
  rw [List.filterMap_cons]
  simp only [List.getElem?_cons_zero]
  congr 1
  rw [List.filterMap_map]
  congr 1
/-- C(e, .., k = v, ..) -/
theorem e_newK {x : Str} {p pos : Pos} {e : Expr} {es : List Expr} {kws : List Keyword} {k n m a c : Nat} {B : Beh} {f : Addr} {fd : FuncData} {ps ks : List Str} {g h : M (List D)} {o : List Nat} {ds : List Value} {dvs : List V} {dd : List D} (tk : Takes X W) (hr : Room (k + 1) X.A) (nw : NwOk G X.prog X.w X.mg X.base k x c a B f fd ps)
    (hb : BindK G.K fd ps (n + 1) ks (0 :: o.map (· + 1)) ds) (hd : Vals dvs ds) (hdd : ∀ F, RepL G F dd dvs) (ha : PA X (e :: es) (tA G W OX O O1 g)) (hkw : PK X kws (tA G W OX O1 O2 h)) (hm : ks.length = m := by rfl) (hx : ∀ i ∈ OX, i ∈ O2 := by decide) (hg : Gl X x := by rfl) (hK : X.K = G.K := by rfl) (hdb : (x == ("__debug__" : Str)) = false := by decide)
    (hall : (backToKw pos (keywordEach kws X.env)).all (·.1.isSome) = true := by rfl) (hks : (backToKw pos (keywordEach kws X.env)).filterMap (·.1) = ks := by rfl) (he : starEach (e :: es) X.env = (false, eval e X.env) :: starEach es X.env := by rfl)
    (hpl : ((backTo pos (starEach (e :: es) X.env)).any (·.1) || (backToKw pos (keywordEach kws X.env)).any (·.1.isNone)) = false := by rfl) : PE X (.Call (.Name x p) (e :: es) kws pos) (tE G W OX O O2 (eNk c B n m o dd g h)) := by
  refine ⟨fun pins s σ H Q I ⟨F, r, S, p⟩ => ?_⟩
  refine wpAny_Call_Name_kw (ld_glob I hg nw.at_ ?_ hdb)
  refine cw1 (first := []) (k := fun ds zs r2 => if ds.length = n ∧ zs.length = m then outN (B (.ob c [] :: permL o (ds ++ zs ++ dd))) r2 else .no) (by rw [hK]; exact nw.mkd.kp) ha hkw I S p (fun ds' zs vs ys us ws s2 F2 H2 r2 I2 n2 rs rz rv rw' p => ?_) hall hks he hpl
  split at p
  · rename_i hl
    obtain ⟨h1, h2⟩ := hl
    have Fk : FnOk X.prog X.w X.K X.mg X.base (L2.CX X.prog X.w) k f fd ps (spB G a [0] B) := by rw [hK]; exact nw.fn
    have rp := ((rs.app rz).app (hdd F2)).perm o
    have bt : BindK X.K fd ps (n + 1) ks (0 :: o.map (· + 1)) ds := by rw [hK]; exact hb
    refine run_Nk tk Fk hr (by rw [hK]; exact nw.mkd) nw.imm (fun s x hk => ?_) I2 n2.sta (Vals.perm ((rv.append rw').append hd) o) rp nw.ar hx p
    have q := bt s (x :: us) ws hk (by rw [List.length_cons, vlen rv, ← rs.length, h1]) (by rw [vlen rw', ← rz.length, h2, hm])
    rw [List.cons_append, List.cons_append, permL_cons] at q
    exact q
  · exact p.elim

/-! ### methods -/
structure MtOk (G : Gm) (P : Program) (w : World) (mg : Str → Option Value) (base : Heap) (k : Nat) (c : Nat) (m : Str) (n : Nat) (B : Beh) (f : Addr) (fd : FuncData) (ps : List Str) (ds : List Value) (dvs : List V) : Prop where
  cl : Cls G.K (G.cA c)
  me : Meth G.K (G.cA c) m f
  fn : FnB P w G mg base k f fd ps n [] B
  ar : ∀ ds, ds.length ≠ n → B ds = .no
  bd : Binds G.K fd ps ds
  dv : Vals dvs ds
theorem look_m {F H : Hp} {c : Nat} {l : List D} {v : V} {σ : L2.St} {r : Ev} (S : Sta G O F H σ r) (h : Rep G F (.ob c l) v) {m : Str} (hm : m ∉ G.flds) : ∃ a dx fs, v = .ref a ∧ H a = some (.ins (G.cA c) dx fs) ∧ fs.lookup m = none := by
  cases h with
  | @ob _ _ a dx xs more h hl rr =>
    obtain ⟨o', e', gr⟩ := S.sub _ _ h
    obtain ⟨q, eo⟩ := gr.ins
    subst eo
    refine ⟨a, dx, _, rfl, e', ?_⟩
    cases z : (List.lookup m ((G.lay c).zip xs ++ more ++ q)) with
    | none => rfl
    | some u => exact absurd (S.wf _ _ _ _ m e' (by rw [z]; exact fun w => nomatch w)) hm
theorem onMt_of {tb : List (Nat × Beh)} {x : D} {k : Beh → Out D} {σ : L2.St} {F H : Hp} {Q : VK} (p : Pst G W OX O O1 σ F H (RD G) Q (onMt tb x k)) : ∃ c l B, x = .ob c l ∧ tb.lookup c = some B ∧ Pst G W OX O O1 σ F H (RD G) Q (k fun ds => B (.ob c l :: ds)) := by
  unfold onMt at p
  split at p
  · split at p
    · rename_i B e
      exact ⟨_, _, B, rfl, e, p⟩
    · exact p.elim
  · exact p.elim
/-- o.m(e, ..); every class's def takes the same defaults -/
theorem e_meth {o e : Expr} {es : List Expr} {m : Str} {apos pos : Pos} {pl : Sem Bool} {k : Nat} {g : M D} {h : M (List D)} {dd : List D} (tb : List (Nat × Beh)) (tk : Takes X W) (hr : Room k X.A) (hm : m ∉ G.flds) (ho : PE X o (tE G W OX O O1 g)) (ha : PA X (e :: es) (tA G W OX O1 O2 h))
    (ht : ∀ c B, tb.lookup c = some B → ∃ n f fd ps ds dvs, MtOk G X.prog X.w X.mg X.base k c m n B f fd ps ds dvs ∧ ∀ F, RepL G F dd dvs) (hx : ∀ i ∈ OX, i ∈ O2 := by decide) (hK : X.K = G.K := by rfl)
    (hst : starEach (e :: es) X.env = (false, eval e X.env) :: starEach es X.env := by rfl) (hpl : (backTo pos (starEach es X.env)).any (·.1) = false := by rfl)
    (hev : eval (.Call (.Attribute o m apos) (e :: es) [] pos) X.env = (do
      let ov ← eval o X.env
      standAt apos.atName
      let (fm, fst) ← holding [ov] (getMethod ov m pl)
      callWith pos fm fst (backTo pos (starEach (e :: es) X.env)) (backToKw pos (keywordEach [] X.env))) := by rfl) : PE X (.Call (.Attribute o m apos) (e :: es) [] pos) (tE G W OX O O2 (eMd tb dd g h)) := by
  refine ⟨fun pins s σ H Q I ⟨F, r, S, p⟩ => ?_⟩
  refine PySem.W.methodCall_KW (pl := pl) (thn (ho.run pins s σ H (fun v H1 => ∃ x F1 r1, Nx G OX O O1 σ F H σ F1 H1 r1 ∧ Rep G F1 x v ∧ Pst G W OX O1 O2 σ F1 H1 (RD G) Q (onMt tb x fun B => (h r1).bind fun ds r2 => out0 (B (ds ++ dd)) r2)) I
    (tX_bind S p fun x v F1 H1 r1 n1 rx p => ⟨x, F1, r1, n1, rx, p⟩)) fun u s1 ⟨v, H1, I1, ru, x, F1, r1, n1, rx, p⟩ => ?_) hev
  obtain ⟨c, l, B, rfl, e1, p⟩ := onMt_of p
  obtain ⟨n, f, fd, ps, ds, dvs, M, hdd⟩ := ht c B e1
  obtain ⟨a, dx, fs, rfl, ea, el⟩ := look_m n1.sta rx hm
  obtain rfl : u = Value.ref a := ru
  refine getmeth_ok I1 ea (by rw [hK]; exact M.cl) (by rw [hK]; exact M.me) el ?_
  refine PySem.W.callWith_K (first := [.ref a]) (h₀ := X.base) I.ok.mod.kin (by rw [hK]; exact M.me.kp) (thn (ha.run pos pins s1 σ H1 (fun vs H2 => ∃ zs F2 r2, Nx G OX O1 O2 σ F1 H1 σ F2 H2 r2 ∧ RepL G F2 zs vs ∧ Pst G W OX O2 O2 σ F2 H2 (RD G) Q (out0 (B (.ob c l :: (zs ++ dd))) r2)) I1
    (tX_bind n1.sta p fun zs vs F2 H2 r2 n2 rs p => ⟨zs, F2, r2, n2, rs, p⟩)) fun us s2 ⟨vs, H2, I2, rv, zs, F2, r2, n2, rs, p⟩ => ⟨I2.kIn, ?_⟩) hst hpl
  have Fk : FnOk X.prog X.w X.K X.mg X.base (L2.CX X.prog X.w) k f fd ps (spB G n [] B) := by rw [hK]; exact M.fn
  have rr := RepL.cons (rx.mono n2.stp.fz) (rs.more hdd)
  exact run_B (us := .ref a :: us) (vs := .ref a :: vs) tk Fk hr (by rw [hK]; exact M.bd) M.dv I2 (.cons rfl rv) (spB_of hx n2.sta rr (len_of M.ar rr p) p)
theorem e_meth0 {o : Expr} {m : Str} {apos pos : Pos} {pl : Sem Bool} {k : Nat} {g : M D} {dd : List D} (tb : List (Nat × Beh)) (tk : Takes X W) (hr : Room k X.A) (hm : m ∉ G.flds) (ho : PE X o (tE G W OX O O1 g))
    (ht : ∀ c B, tb.lookup c = some B → ∃ n f fd ps ds dvs, MtOk G X.prog X.w X.mg X.base k c m n B f fd ps ds dvs ∧ ∀ F, RepL G F dd dvs) (hx : ∀ i ∈ OX, i ∈ O1 := by decide) (hK : X.K = G.K := by rfl)
    (hev : eval (.Call (.Attribute o m apos) [] [] pos) X.env = (do
      let ov ← eval o X.env
      standAt apos.atName
      let (fm, fst) ← holding [ov] (getMethod ov m pl)
      callWith pos fm fst (backTo pos (starEach [] X.env)) (backToKw pos (keywordEach [] X.env))) := by rfl) : PE X (.Call (.Attribute o m apos) [] [] pos) (tE G W OX O O1 (eMd tb dd g aNil)) := by
  refine ⟨fun pins s σ H Q I ⟨F, r, S, p⟩ => ?_⟩
  refine PySem.W.methodCall_KW (pl := pl) (thn (ho.run pins s σ H (fun v H1 => ∃ x F1 r1, Nx G OX O O1 σ F H σ F1 H1 r1 ∧ Rep G F1 x v ∧ Pst G W OX O1 O1 σ F1 H1 (RD G) Q (onMt tb x fun B => out0 (B dd) r1)) I
    (tX_bind S p fun x v F1 H1 r1 n1 rx p => ⟨x, F1, r1, n1, rx, p⟩)) fun u s1 ⟨v, H1, I1, ru, x, F1, r1, n1, rx, p⟩ => ?_) hev
  obtain ⟨c, l, B, rfl, e1, p⟩ := onMt_of p
  obtain ⟨n, f, fd, ps, ds, dvs, M, hdd⟩ := ht c B e1
  obtain ⟨a, dx, fs, rfl, ea, el⟩ := look_m n1.sta rx hm
  obtain rfl : u = Value.ref a := ru
  refine getmeth_ok I1 ea (by rw [hK]; exact M.cl) (by rw [hK]; exact M.me) el ?_
  have Fk : FnOk X.prog X.w X.K X.mg X.base (L2.CX X.prog X.w) k f fd ps (spB G n [] B) := by rw [hK]; exact M.fn
  have rr := RepL.cons rx (hdd F1)
  exact PySem.W.callWith_K0 (first := [.ref a]) I1.kIn (by rw [hK]; exact M.me.kp) (run_B (us := [.ref a]) (vs := [.ref a]) tk Fk hr (by rw [hK]; exact M.bd) M.dv I1 (.cons rfl .nil) (spB_of hx n1.sta rr (len_of M.ar rr p) p))
/-- o.m(e, .., k = v, ..) of one class -/
theorem e_methK {o e : Expr} {es : List Expr} {kws : List Keyword} {m : Str} {apos pos : Pos} {pl : Sem Bool} {k n q : Nat} {ks : List Str} {g : M D} {h h2 : M (List D)} {dd : List D} {od : List Nat} (tb : List (Nat × Beh)) (tk : Takes X W) (hr : Room k X.A) (hm : m ∉ G.flds) (ho : PE X o (tE G W OX O O1 g)) (ha : PA X (e :: es) (tA G W OX O1 O2 h)) (hkw : PK X kws (tA G W OX O2 O3 h2))
    (ht : ∀ c B, tb.lookup c = some B → ∃ a f fd ps ds ds' dvs dvs', MtOk G X.prog X.w X.mg X.base k c m a B f fd ps ds' dvs' ∧ BindK G.K fd ps (n + 1) ks (0 :: od.map (· + 1)) ds ∧ Vals dvs ds ∧ ∀ F, RepL G F dd dvs) (hq : ks.length = q := by rfl) (hx : ∀ i ∈ OX, i ∈ O3 := by decide) (hK : X.K = G.K := by rfl)
    (hall : (backToKw pos (keywordEach kws X.env)).all (·.1.isSome) = true := by rfl) (hks : (backToKw pos (keywordEach kws X.env)).filterMap (·.1) = ks := by rfl) (he : starEach (e :: es) X.env = (false, eval e X.env) :: starEach es X.env := by rfl)
    (hpl : ((backTo pos (starEach (e :: es) X.env)).any (·.1) || (backToKw pos (keywordEach kws X.env)).any (·.1.isNone)) = false := by rfl)
    (hev : eval (.Call (.Attribute o m apos) (e :: es) kws pos) X.env = (do
      let ov ← eval o X.env
      standAt apos.atName
      let (fm, fst) ← holding [ov] (getMethod ov m pl)
      callWith pos fm fst (backTo pos (starEach (e :: es) X.env)) (backToKw pos (keywordEach kws X.env))) := by rfl) : PE X (.Call (.Attribute o m apos) (e :: es) kws pos) (tE G W OX O O3 (eMk tb n q od dd g h h2)) := by
  refine ⟨fun pins s σ H Q I ⟨F, r, S, p⟩ => ?_⟩
  refine PySem.W.methodCall_KW (pl := pl) (thn (ho.run pins s σ H (fun v H1 => ∃ x F1 r1, Nx G OX O O1 σ F H σ F1 H1 r1 ∧ Rep G F1 x v ∧ Pst G W OX O1 O3 σ F1 H1 (RD G) Q (onMt tb x fun B => (h r1).bind fun ds r2 => (h2 r2).bind fun zs r3 => if ds.length = n ∧ zs.length = q then out0 (B (permL od (ds ++ zs ++ dd))) r3 else .no)) I
    (tX_bind S p fun x v F1 H1 r1 n1 rx p => ⟨x, F1, r1, n1, rx, p⟩)) fun u s1 ⟨v, H1, I1, ru, x, F1, r1, n1, rx, p⟩ => ?_) hev
  obtain ⟨c, l, B, rfl, e1, p⟩ := onMt_of p
  obtain ⟨ar, f, fd, ps, ds, ds', dvs, dvs', M, hb, hd, hdd⟩ := ht c B e1
  obtain ⟨a, dx, fs, rfl, ea, el⟩ := look_m n1.sta rx hm
  obtain rfl : u = Value.ref a := ru
  refine getmeth_ok I1 ea (by rw [hK]; exact M.cl) (by rw [hK]; exact M.me) el ?_
  refine cw1 (first := [.ref a]) (k := fun ds zs r2 => if ds.length = n ∧ zs.length = q then out0 (B (.ob c l :: permL od (ds ++ zs ++ dd))) r2 else .no) (by rw [hK]; exact M.me.kp) ha hkw I1 n1.sta p (fun ds' zs vs ys us ws s2 F2 H2 r2 I2 n2 rs rz rv rw' p => ?_) hall hks he hpl
  split at p
  · rename_i hl
    obtain ⟨h1, h2⟩ := hl
    have Fk : FnOk X.prog X.w X.K X.mg X.base (L2.CX X.prog X.w) k f fd ps (spB G ar [] B) := by rw [hK]; exact M.fn
    have rp := RepL.cons (rx.mono n2.stp.fz) (((rs.app rz).app (hdd F2)).perm od)
    have bt : BindK X.K fd ps (n + 1) ks (0 :: od.map (· + 1)) ds := by rw [hK]; exact hb
    have q2 := bt s2 (.ref a :: us) ws I2.kIn (by rw [List.length_cons, vlen rv, ← rs.length, h1]) (by rw [vlen rw', ← rz.length, h2, hq])
    rw [List.cons_append, List.cons_append, permL_cons] at q2
    exact run_Bk tk Fk hr q2 I2 (.cons (show L2.RelV (V.ref a) (Value.ref a) from rfl) (Vals.perm ((rv.append rw').append hd) od)) (spB_of hx n2.sta rp (len_of M.ar rp p) p)
  · exact p.elim

/-! ### static methods -/
structure StOk (G : Gm) (P : Program) (w : World) (mg : Str → Option Value) (base : Heap) (k : Nat) (x : Str) (C : Addr) (m : Str) (n : Nat) (B : Beh) (f : Addr) (fd : FuncData) (ps : List Str) : Prop where
  at_ : mg x = some (.ref C)
  rd : PySem.W.readsIn G.K C (.type "type") = true
  ga : PySem.W.specialIn G.K (.ref C) "__getattribute__" = some (some (.builtin "type.__getattribute__"))
  fc : ∃ p rest, PySem.W.findCls G.K (.ref C) (.type "type") m = some (.get (.builtin "staticmethod.__get__") (.ref p) .none (.ref C)) ∧ PySem.W.recIn G.K p "staticmethod" = some (.ref f :: rest)
  kp : PySem.W.keepIn G.K (.ref f) = true
  fn : FnB P w G mg base k f fd ps n [] B
  ar : ∀ ds, ds.length ≠ n → B ds = .no
theorem stat_get {A : Around} {E : Value → Shared → Prop} {pins : List (Addr × Obj)} {s : Shared} {σ : L2.St} {H : Hp} {k n : Nat} {x m : Str} {C f : Addr} {fd : FuncData} {ps : List Str} {B : Beh} {pl : Sem Bool} {Q : Value × List Value → Shared → Prop} (st : StOk G X.prog X.w X.mg X.base k x C m n B f fd ps) (hK : X.K = G.K) (I : Inv X pins σ H s)
    (h : ∀ s', Inv X pins σ H s' → Q (.ref f, []) s') : wpAny (model X.prog X.w) A (getMethod (.ref C) m pl) Q E s := by
  obtain ⟨p, rest, h1, h2⟩ := st.fc
  refine PySem.W.method_cls I.kIn (by rw [hK]; exact st.ga) ?_
  refine PySem.W.cls_bind I.kIn (by rw [hK]; exact st.rd) (by rw [hK]; exact h1) ?_
  refine wpAny_call (PySem.W.sm_get (s := { s with toks := s.toks + 1 }) I.kIn (by rw [hK]; exact h2) (PySem.W.handed_on rfl ?_))
  exact h _ (I.tok _)
theorem e_stat {x m : Str} {xpos apos pos : Pos} {e : Expr} {es : List Expr} {k n : Nat} {B : Beh} {C f : Addr} {fd : FuncData} {ps : List Str} {g : M (List D)} {ds : List Value} {dvs : List V} {dd : List D} {pl : Sem Bool} (tk : Takes X W) (hr : Room k X.A) (st : StOk G X.prog X.w X.mg X.base k x C m n B f fd ps)
    (hb : Binds G.K fd ps ds) (hd : Vals dvs ds) (hdd : ∀ F, RepL G F dd dvs) (ha : PA X (e :: es) (tA G W OX O O1 g)) (hx : ∀ i ∈ OX, i ∈ O1 := by decide) (hg : Gl X x := by rfl) (hK : X.K = G.K := by rfl) (hdb : (x == ("__debug__" : Str)) = false := by decide)
    (he : starEach (e :: es) X.env = (false, eval e X.env) :: starEach es X.env := by rfl) (hpl : (backTo pos (starEach es X.env)).any (·.1) = false := by rfl)
    (hev : eval (.Call (.Attribute (.Name x xpos) m apos) (e :: es) [] pos) X.env = (do
      let ov ← eval (.Name x xpos) X.env
      standAt apos.atName
      let (fm, fst) ← holding [ov] (getMethod ov m pl)
      callWith pos fm fst (backTo pos (starEach (e :: es) X.env)) (backToKw pos (keywordEach [] X.env))) := by rfl) : PE X (.Call (.Attribute (.Name x xpos) m apos) (e :: es) [] pos) (tE G W OX O O1 (eCd B dd g)) := by
  refine ⟨fun pins s σ H Q I ⟨F, r, S, p⟩ => ?_⟩
  refine PySem.W.methodCall_KW (pl := pl) (ld_glob I hg st.at_ ?_ hdb) hev
  refine stat_get st hK I fun s1 I1 => ?_
  refine PySem.W.callWith_K (first := []) (h₀ := X.base) I.ok.mod.kin (by rw [hK]; exact st.kp) (thn (ha.run pos pins s1 σ H (fun vs H1 => ∃ ds F1 r1, Sta G O1 F1 H1 σ r1 ∧ RepL G F1 ds vs ∧ Pst G W OX O1 O1 σ F1 H1 (RD G) Q (out0 (B (ds ++ dd)) r1)) I1
    (tX_bind S p fun ds vs F1 H1 r1 n1 rs p => ⟨ds, F1, r1, n1.sta, rs, p⟩)) fun us s1 ⟨vs, H1, I1, rv, ds, F1, r1, S1, rs, p⟩ => ⟨I1.kIn, ?_⟩) he hpl
  have Fk : FnOk X.prog X.w X.K X.mg X.base (L2.CX X.prog X.w) k f fd ps (spB G n [] B) := by rw [hK]; exact st.fn
  exact run_B tk Fk hr (by rw [hK]; exact hb) hd I1 rv (spB_of hx S1 (rs.more hdd) (len_of st.ar (rs.more hdd) p) p)
end
end Z

/-! Targets, iterables, loops, comprehensions. -/
namespace Z
open PySem PySem.Spec PyProof.Rows L2

/-! ### targets -/
abbrev Tg := D → Ev → Option Ev
@[simp] def gN (i : Nat) : Tg := fun d r => some (r.set i (some d))
def gTs : List Tg → List D → Ev → Option Ev
  | [], [], r => some r
  | g :: gs, d :: l, r => (g d r).bind (gTs gs l)
  | _, _, _ => none
@[simp] def gT (gs : List Tg) : Tg := fun d r => (itemsOf d).bind fun l => gTs gs l r
/-- the slots of vs alone change -/
def tG (G : Gm) (OX vs O O' : List Nat) (g : Tg) : TG := fun v σ H Q => ∃ F r d r', Sta G O F H σ r ∧ Rep G F d v ∧ g d r = some r' ∧ ∀ σ', Nx G OX O O' σ F H σ' F H r' → wipe σ' vs = wipe σ vs → Q σ' H
def tGs (G : Gm) (OX vs O O' : List Nat) (gs : List Tg) : TGs := fun xs σ H Q => ∃ F r l r', Sta G O F H σ r ∧ RepL G F l xs ∧ gTs gs l r = some r' ∧ ∀ σ', Nx G OX O O' σ F H σ' F H r' → wipe σ' vs = wipe σ vs → Q σ' H
theorem wipe_set {σ : L2.St} {i : Nat} {x : Option V} : ∀ {vs : List Nat}, i ∈ vs → wipe (σ.set i x) vs = wipe σ vs
  | v :: vs, h => by
    unfold wipe
    by_cases m : i ∈ vs
    · rw [wipe_set m]
    · have e : i = v := by
        rcases List.mem_cons.mp h with z | z
        · exact z
        · exact absurd z m
      subst e
      have key : ∀ (l : List Nat) (σ : L2.St), i ∉ l → wipe (σ.set i x) l = (wipe σ l).set i x := by
        intro l
        induction l with
        | nil => exact fun _ _ => rfl
        | cons a l ih =>
          intro σ hn
          have h1 : i ≠ a := fun z => hn (by rw [z]; exact List.mem_cons_self)
          unfold wipe
          rw [ih σ fun z => hn (List.mem_cons_of_mem _ z), List.set_comm _ _ h1]
      rw [key vs σ m, List.set_set]
section
variable {G : Gm} {X : Cx} {W : WX} {OX OL vs O O1 O2 O3 : List Nat}
theorem _root_.L2.PG.mo {tg : Expr} {t t' : TG} (h : PG X tg t) (i : ∀ v σ H Q, t' v σ H Q → t v σ H Q) : PG X tg t' := ⟨fun pins s σ H v u Q I r q => h.run pins s σ H v u Q I r (i v σ H Q q)⟩
theorem _root_.L2.PGs.mo {tg : List Expr} {t t' : TGs} (h : PGs X tg t) (i : ∀ v σ H Q, t' v σ H Q → t v σ H Q) : PGs X tg t' := ⟨fun pins s σ H v u Q I r q => h.run pins s σ H v u Q I r (i v σ H Q q)⟩
theorem nx_set {σ : L2.St} {F H : Hp} {r : Ev} {d : D} {v : V} (i : Nat) (S : Sta G O F H σ r) (h : Rep G F d v) (hx : i ∉ OX) : Nx G OX O (O.filter (· != i)) σ F H (σ.set i (some v)) F H (r.set i (some d)) := by
  refine ⟨S.set i h, .rfl', fun j hj => ?_, fun a m => ?_⟩
  · exact List.getElem?_set_ne (fun z : i = j => hx (by rw [z]; exact hj))
  · obtain ⟨j, hj, e⟩ := m
    obtain ⟨h1, h2⟩ := List.mem_filter.mp hj
    have q : i ≠ j := fun z => by simp [z] at h2
    rw [List.getElem?_set_ne q] at e
    exact .inl ⟨j, h1, e⟩
theorem g_name {x : Str} {pos : Pos} (i : Nat) (hx : i ∉ OX := by decide) (hv : i ∈ vs := by decide) (hN : X.N.Nodup := by first | assumption | decide +kernel) (hi : X.N[i]? = some x := by rfl) (hl : Loc X.env.scope x := by first | exact Or.inl rfl | exact Or.inr rfl)
    (hf : X.fn x = true ∨ X.env.scope.names.lookup x = some .local := by first | exact .inl rfl | exact .inr rfl | assumption) : PG X (.Name x pos) (tG G OX vs O (O.filter (· != i)) (gN i)) :=
  (pg_name hN hi hl hf).mo fun v σ H Q ⟨F, r, d, r', S, rd, e, q⟩ => by
    cases e
    exact q _ (nx_set i S rd hx) (wipe_set hv)
theorem gs_nil : PGs X [] (tGs G OX vs O O []) := pgs_nil.mo fun xs σ H Q ⟨F, r, l, r', S, rl, e, q⟩ => by
  cases rl with
  | nil =>
    cases e
    exact ⟨rfl, q σ (Nx.rfl' S) rfl⟩
  | cons _ _ => cases e
theorem gs_cons {e : Expr} {es : List Expr} {g : Tg} {gs : List Tg} (h1 : PG X e (tG G OX vs O O1 g)) (h2 : PGs X es (tGs G OX vs O1 O2 gs)) (hs : (assignEach (e :: es) X.env).map (·.2) = assign e X.env :: (assignEach es X.env).map (·.2) := by rfl) :
    PGs X (e :: es) (tGs G OX vs O O2 (g :: gs)) :=
  (pgs_cons h1 h2 hs).mo fun xs σ H Q ⟨F, r, l, r', S, rl, e, q⟩ => by
    cases rl with
    | nil => cases e
    | @cons d l v xs hd ht =>
      rw [gTs] at e
      obtain ⟨r1, e1, e2⟩ := Option.bind_eq_some_iff.mp e
      exact ⟨v, xs, rfl, F, r, d, r1, S, hd, e1, fun σ1 n1 w1 => ⟨F, r1, l, r', n1.sta, ht, e2, fun σ2 n2 w2 => q σ2 (n1.trans n2) (w2.trans w1)⟩⟩
theorem g_tup {es : List Expr} {k : Nat} {pos : Pos} {gs : List Tg} (h : PGs X es (tGs G OX vs O O1 gs)) (hc : X.calm = true := by rfl) (hn : (assignEach es X.env).length = gs.length := by rfl) (hst : (assignEach es X.env).findIdx? (·.1) = none := by rfl) (hK : X.K = G.K := by rfl) :
    PG X (.Tuple es k pos) (tG G OX vs O O1 (gT gs)) := by
  refine ⟨fun pins s σ H v u Q I r q => ?_⟩
  obtain ⟨F, rr, d, r', S, rd, e, q⟩ := q
  obtain ⟨l, e1, e2⟩ := Option.bind_eq_some_iff.mp e
  have hl : ∀ (gs : List Tg) (l : List D) (r r' : Ev), gTs gs l r = some r' → l.length = gs.length := by
    intro gs
    induction gs with
    | nil =>
      intro l r r' e
      cases l with
      | nil => rfl
      | cons => cases e
    | cons g gs ih =>
      intro l r r' e
      cases l with
      | nil => cases e
      | cons d l =>
        rw [gTs] at e
        obtain ⟨r1, _, e2⟩ := Option.bind_eq_some_iff.mp e
        rw [List.length_cons, List.length_cons, ih l r1 r' e2]
  obtain ⟨a, xs, rfl, hq, rl⟩ := rd.items S.sub e1
  have hlen : xs.length = gs.length := by rw [← rl.length]; exact hl gs l rr r' e2
  rcases hq with hq | hq
  · exact (pg_lst hc h hn hst).run pins s σ H _ u Q I r ⟨a, xs, rfl, by rw [hK]; exact hq, hlen, F, rr, l, r', S, rl, e2, q⟩
  · exact (pg_tup hc h hn hst).run pins s σ H _ u Q I r ⟨a, xs, rfl, by rw [hK]; exact hq, hlen, F, rr, l, r', S, rl, e2, q⟩

/-! ### what is walked -/
def YD (G : Gm) (F : Hp) (l : List D) : Nat → Hp → V → Hp → Prop := fun i H x H' => ∃ d, l[i]? = some d ∧ ((H' = H ∧ Rep G F d x) ∨ ∃ T xs ds, d = .tup ds ∧ x = .ref T ∧ H T = none ∧ H' = upd H T (.tup xs) ∧ RepL G F ds xs)
def RI (G : Gm) : Hp → Hp → List D → It → Prop := fun F _ l J => Walk J l.length (fun H => Sub F H) (YD G F l)
abbrev iIt (G : Gm) (W : WX) (OX O O' : List Nat) (f : M (List D)) : TI := fun σ H R => tX G W OX O O' (RI G) f σ H R
theorem _root_.L2.PI.mo {tg it : Expr} {t t' : TI} (h : PI X tg it t) (i : ∀ σ H Q, t' σ H Q → t σ H Q) : PI X tg it t' := ⟨fun pins s σ H Q I q => h.run pins s σ H Q I (i σ H Q q)⟩
@[simp] def itL (f : M D) : M (List D) := fun r => (f r).bind fun x r1 => match itemsOf x with
  | some l => .ok l r1
  | none => .no
def rng (a b : Int) : List D := (List.range (b - a).toNat).map fun i => .int (a + (i : Nat))
def pRng : List D → Option (List D)
  | [.int b] => if -(2 ^ 62) ≤ b ∧ b < 2 ^ 62 then some (rng 0 b) else none
  | _ => none
def pRng2 : List D → Option (List D)
  | [.int a, .int b] => if -(2 ^ 62) ≤ a ∧ a < 2 ^ 62 ∧ -(2 ^ 62) ≤ b ∧ b < 2 ^ 62 then some (rng a b) else none
  | _ => none
def enuD (l : List D) : List D := l.zipIdx.map fun p => .tup [.int (p.2 : Nat), p.1]
def pEnu : List D → Option (List D)
  | [.lst l] => some (enuD l)
  | [.kl l] => some (enuD l)
  | _ => none
def zipD (l m : List D) : List D := (l.zip m).map fun p => .tup [p.1, p.2]
def isTupD : D → Bool
  | .tup _ => true
  | _ => false
def pZip : List D → Option (List D)
  | [x, y] => (itemsOf x).bind fun l => (itemsOf y).bind fun m => if isTupD x = isTupD y then some (zipD l m) else none
  | _ => none
@[simp] def itN (p : List D → Option (List D)) (f : M (List D)) : M (List D) := fun r => (f r).bind fun ds r1 => match p ds with
  | some l => .ok l r1
  | none => .no
theorem Rep.itemsF {F : Hp} {x : D} {v : V} {l : List D} (h : Rep G F x v) (e : itemsOf x = some l) : ∃ a xs, v = .ref a ∧ (SqL G.K F a xs ∨ SqT G.K F a xs) ∧ RepL G F l xs := by
  cases h with
  | tup h r => cases e; exact ⟨_, _, rfl, .inr h, r⟩
  | lst h r => cases e; exact ⟨_, _, rfl, .inl (.inl (.inl h)), r⟩
  | kl h r => cases e; exact ⟨_, _, rfl, .inl h, r⟩
  | _ => cases e
theorem walk_rep {F : Hp} {l : List D} {xs : List V} {J : It} {P : Hp → Prop} (rl : RepL G F l xs) (w : Walk J xs.length P (YAt xs)) (hp : ∀ H, Sub F H → P H) : Walk J l.length (fun H => Sub F H) (YD G F l) := by
  rw [rl.length]
  refine w.mono hp fun i H x H' hi hs y => ?_
  obtain ⟨d, e, rd⟩ := rl.get' y.2
  exact ⟨d, e, .inl ⟨y.1, rd⟩⟩
theorem i_seq {tg e : Expr} {f : M D} (h : PE X e (tE G W OX O O1 f)) (hK : X.K = G.K := by rfl) : PI X tg e (iIt G W OX O O1 (itL f)) := by
  refine ⟨fun pins s σ H R I ⟨F, r, S, p⟩ => ?_⟩
  refine thn (h.run pins s σ H (fun v H1 => ∃ x F1 r1 l, Nx G OX O O1 σ F H σ F1 H1 r1 ∧ Rep G F1 x v ∧ itemsOf x = some l ∧ Pst G W OX O1 O1 σ F1 H1 (RI G) R (.ok l r1)) I (tX_bind S p fun x v F1 H1 r1 n1 rx p => ?_)) fun u s1 ⟨v, H1, I1, ru, x, F1, r1, l, n1, rx, ex, p⟩ => ?_
  · revert p
    split
    · rename_i l e
      exact fun p => ⟨x, F1, r1, l, n1, rx, e, p⟩
    · exact fun p => p.elim
  · obtain ⟨a, xs, rfl, hq, rl⟩ := rx.itemsF ex
    cases ru
    have young : ∀ b, b ∈ [s1.heap.objs.size] → FpOk X pins H1 b := fun b hb => by
      rw [List.mem_singleton.mp hb]
      exact I1.fpOk (Nat.le_refl _) (I1.hok.fresh (Nat.le_refl _))
    have push : ∀ o : Obj, Inv X pins σ H1 { s1 with heap := s1.heap.push o } := fun o => I1.kept (t' := s1.toks) fun c u ec => Heap.get?_push_of_some _ ec
    have done : ∀ {J : It}, Walk J l.length (fun H => Sub F1 H) (YD G F1 l) → R J H1 := fun w => p _ F1 H1 (Nx.rfl' n1.sta) w
    rcases hq with hq | hq
    · obtain ⟨its, rv, pl, hz⟩ := I1.list (by rw [hK]; exact n1.sta.sub.sqL hq)
      exact wpAny_pyIter_list pl.isList ⟨_, [s1.heap.objs.size], _, Itl X.K a, H1, rfl, push _, turn_list a _, ⟨_, Heap.get?_push_size _ rfl, rfl, rfl⟩, young, done (walk_rep rl walk_list fun H' sb => by rw [hK]; exact sb.sqL hq)⟩
    · obtain ⟨its, rv, pl, hz⟩ := I1.tuple (by rw [hK]; exact n1.sta.sub.sqT hq)
      exact wpAny_pyIter_tuple (show s1.heap.IsTuple a its.toArray from pl) ⟨_, [s1.heap.objs.size], _, Itt X.K a, H1, rfl, push _, turn_tuple a _, ⟨_, Heap.get?_push_size _ rfl, rfl, rfl⟩, young, done (walk_rep rl walk_tup fun H' sb => by rw [hK]; exact sb.sqT hq)⟩
theorem itN_of {p : List D → Option (List D)} {ds : List D} {r : Ev} {σ : L2.St} {F H : Hp} {R : It → Hp → Prop} (q : Pst G W OX O O1 σ F H (RI G) R (match p ds with
  | some l => .ok l r
  | none => .no)) : ∃ l, p ds = some l ∧ Pst G W OX O O1 σ F H (RI G) R (.ok l r) := by
  revert q
  cases e : p ds with
  | none => exact fun q => q.elim
  | some l => exact fun q => ⟨l, rfl, q⟩
theorem walk_rng {F : Hp} {a b : Int} : Walk (Itr a (b - a).toNat) (rng a b).length (fun H => Sub F H) (YD G F (rng a b)) := by
  have e0 : (rng a b).length = (b - a).toNat := by unfold rng; simp
  rw [e0]
  refine walk_range.mono (fun _ _ => trivial) fun i H x H' hi _ y => ⟨.int (a + (i : Nat)), ?_, .inl ⟨y.1, ?_⟩⟩
  · unfold rng
    rw [List.getElem?_map, List.getElem?_range hi]
    rfl
  · rw [y.2]
    exact .int
theorem i_rng1 {tg a : Expr} {p pos : Pos} {f : M (List D)} (ha : PA X [a] (tA G W OX O O1 f)) (hm : X.mg "range" = none := by assumption) (hg : Gl X "range" := by rfl) (hs : starEach [a] X.env = [(false, eval a X.env)] := by rfl) : PI X tg (.Call (.Name "range" p) [a] [] pos) (iIt G W OX O O1 (itN pRng f)) :=
  (pi_range1 hg hm ha hs).mo fun σ H R ⟨F, r, S, q⟩ => tX_bind S q fun ds vs F1 H1 r1 n1 rs q => by
    obtain ⟨l, e, q⟩ := itN_of q
    unfold pRng at e
    split at e
    · split at e
      · rename_i b hb
        cases e
        cases rs with
        | cons r1 rr =>
          cases rr
          cases r1
          refine ⟨_, rfl, hb.1, hb.2, q _ F1 H1 (Nx.rfl' n1.sta) ?_⟩
          have w := walk_rng (G := G) (F := F1) (a := 0) (b := b)
          rw [Int.sub_zero] at w
          exact w
      · cases e
    · cases e
theorem i_rng2 {tg a b : Expr} {p pos : Pos} {f : M (List D)} (ha : PA X [a, b] (tA G W OX O O1 f)) (hm : X.mg "range" = none := by assumption) (hg : Gl X "range" := by rfl) (hs : starEach [a, b] X.env = [(false, eval a X.env), (false, eval b X.env)] := by rfl) (hs2 : starEach [b] X.env = [(false, eval b X.env)] := by rfl) :
    PI X tg (.Call (.Name "range" p) [a, b] [] pos) (iIt G W OX O O1 (itN pRng2 f)) :=
  (pi_range2 hg hm ha hs hs2).mo fun σ H R ⟨F, r, S, q⟩ => tX_bind S q fun ds vs F1 H1 r1 n1 rs q => by
    obtain ⟨l, e, q⟩ := itN_of q
    unfold pRng2 at e
    split at e
    · split at e
      · rename_i a b hb
        cases e
        cases rs with
        | cons r1 rr =>
          cases rr with
          | cons r2 rr =>
            cases rr
            cases r1
            cases r2
            exact ⟨_, _, rfl, hb, q _ F1 H1 (Nx.rfl' n1.sta) walk_rng⟩
      · cases e
    · cases e
theorem walk_enu {F : Hp} {l : List D} {a : Addr} {xs : List V} {K : PySem.W.Frag} (rl : RepL G F l xs) (hp : ∀ H, Sub F H → SqL K H a xs) : Walk (Ite K a) (enuD l).length (fun H => Sub F H) (YD G F (enuD l)) := by
  have e0 : (enuD l).length = xs.length := by unfold enuD; rw [← rl.length]; simp
  rw [e0]
  refine walk_enum.mono hp fun i H x H' hi _ y => ?_
  obtain ⟨T, x1, y1, h1, h2, h3, h4, h5⟩ := y
  cases h4
  obtain ⟨d, e, rd⟩ := rl.get' h5
  refine ⟨.tup [.int (i : Nat), d], ?_, .inr ⟨T, _, [.int (i : Nat), d], rfl, h1, h2, h3, .cons .int (.cons rd .nil)⟩⟩
  unfold enuD
  rw [List.getElem?_map, List.getElem?_zipIdx, e]
  simp
theorem i_enu {e : Expr} {p pos tpos : Pos} {elts : List Expr} {kk : Nat} {f : M (List D)} (ha : PA X [e] (tA G W OX O O1 f)) (hm : X.mg "enumerate" = none := by assumption) (hg : Gl X "enumerate" := by rfl) (hs : starEach [e] X.env = [(false, eval e X.env)] := by rfl) (hK : X.K = G.K := by rfl) :
    PI X (.Tuple elts kk tpos) (.Call (.Name "enumerate" p) [e] [] pos) (iIt G W OX O O1 (itN pEnu f)) :=
  (pi_enum hg hm ha hs).mo fun σ H R ⟨F, r, S, q⟩ => tX_bind S q fun ds vs F1 H1 r1 n1 rs q => by
    obtain ⟨l, e, q⟩ := itN_of q
    rw [hK]
    have key : ∀ (m : List D) (x : D) (v : V), Rep G F1 x v → itemsOf x = some m → (∀ q, x ≠ .tup q) → ∃ a xs, v = .ref a ∧ RepL G F1 m xs ∧ ∀ H, Sub F1 H → SqL G.K H a xs := fun m x v rx e n => by
      cases rx with
      | tup h r => exact absurd rfl (n _)
      | lst h r => cases e; exact ⟨_, _, rfl, r, fun H sb => sb.sqL (.inl (.inl h))⟩
      | kl h r => cases e; exact ⟨_, _, rfl, r, fun H sb => sb.sqL h⟩
      | _ => cases e
    unfold pEnu at e
    split at e
    · cases e
      cases rs with
      | cons r1 rr =>
        cases rr
        obtain ⟨a, xs, rfl, rl, hh⟩ := key _ _ _ r1 rfl (fun _ z => nomatch z)
        exact ⟨a, xs, rfl, hh H1 n1.sta.sub, q _ F1 H1 (Nx.rfl' n1.sta) (walk_enu rl hh)⟩
    · cases e
      cases rs with
      | cons r1 rr =>
        cases rr
        obtain ⟨a, xs, rfl, rl, hh⟩ := key _ _ _ r1 rfl (fun _ z => nomatch z)
        exact ⟨a, xs, rfl, hh H1 n1.sta.sub, q _ F1 H1 (Nx.rfl' n1.sta) (walk_enu rl hh)⟩
    · cases e
theorem zip_walk {F : Hp} {l m : List D} {xs ys : List V} {J : It} {P : Hp → Prop} (rl : RepL G F l xs) (rm : RepL G F m ys) (w : Walk J (min xs.length ys.length) P (YPair (fun i => xs[i]?) (fun i => ys[i]?))) (hp : ∀ H, Sub F H → P H) : Walk J (zipD l m).length (fun H => Sub F H) (YD G F (zipD l m)) := by
  have e0 : (zipD l m).length = min xs.length ys.length := by unfold zipD; rw [← rl.length, ← rm.length]; simp
  rw [e0]
  refine w.mono hp fun i H x H' hi _ y => ?_
  obtain ⟨T, x1, y1, h1, h2, h3, h4, h5⟩ := y
  obtain ⟨d, e, rd⟩ := rl.get' h4
  obtain ⟨d', e', rd'⟩ := rm.get' h5
  refine ⟨.tup [d, d'], ?_, .inr ⟨T, _, [d, d'], rfl, h1, h2, h3, .cons rd (.cons rd' .nil)⟩⟩
  unfold zipD
  rw [List.getElem?_map, show (l.zip m)[i]? = some (d, d') from by rw [List.getElem?_zip_eq_some]; exact ⟨e, e'⟩]
  rfl
theorem walk_zipT {K : PySem.W.Frag} {a b : Addr} {xs ys : List V} : Walk (RZ.ItzT K a b) (min xs.length ys.length) (fun H => SqT K H a xs ∧ SqT K H b ys) (YPair (fun i => xs[i]?) (fun i => ys[i]?)) := by
  refine ⟨fun i H hi q => ?_, fun H q => ⟨xs, ys, q.1, q.2, by omega⟩, fun i H v H' hi q y => ?_⟩
  · have h1 : i < xs.length := Nat.lt_of_lt_of_le hi (Nat.min_le_left _ _)
    have h2 : i < ys.length := Nat.lt_of_lt_of_le hi (Nat.min_le_right _ _)
    exact ⟨xs, ys, _, _, q.1, q.2, List.getElem?_eq_getElem h1, List.getElem?_eq_getElem h2⟩
  · obtain ⟨T, x, z, e1, e2, e3, e4, e5⟩ := y
    exact ⟨T, x, z, e1, e2, e3, e4 xs q.1, e5 ys q.2⟩
theorem i_zip {e e2 : Expr} {p pos tpos : Pos} {elts : List Expr} {kk : Nat} {f : M (List D)} (ha : PA X [e, e2] (tA G W OX O O1 f)) (hm : X.mg "zip" = none := by assumption) (hg : Gl X "zip" := by rfl) (hs : starEach [e, e2] X.env = (false, eval e X.env) :: starEach [e2] X.env := by rfl) (hpl : (backTo pos (starEach [e2] X.env)).any (·.1) = false := by rfl) (hK : X.K = G.K := by rfl) :
    PI X (.Tuple elts kk tpos) (.Call (.Name "zip" p) [e, e2] [] pos) (iIt G W OX O O1 (itN pZip f)) :=
  (RZ.pi_zipA hg hm ha hs hpl).mo fun σ H R ⟨F, r, S, q⟩ => tX_bind S q fun ds vs F1 H1 r1 n1 rs q => by
    obtain ⟨l, e, q⟩ := itN_of q
    rw [hK]
    have go : ∀ {J : It}, Walk J l.length (fun H => Sub F1 H) (YD G F1 l) → R J H1 := fun w => q _ F1 H1 (Nx.rfl' n1.sta) w
    unfold pZip at e
    split at e
    · rename_i x y
      obtain ⟨l1, e1, e⟩ := Option.bind_eq_some_iff.mp e
      obtain ⟨l2, e2, e⟩ := Option.bind_eq_some_iff.mp e
      split at e
      · rename_i ht
        cases e
        cases rs with
        | cons rx rr =>
          cases rr with
          | cons ry rr =>
            cases rr
            have sb := n1.sta.sub
            by_cases hx : isTupD x = true
            · cases x <;> simp [isTupD] at hx
              rw [show isTupD (.tup _) = true from rfl] at ht
              cases y <;> simp [isTupD] at ht
              cases e1
              cases e2
              cases rx with
              | tup hx rx =>
                cases ry with
                | tup hy ry =>
                  exact ⟨_, _, _, _, rfl, .inr ⟨sb.sqT hx, sb.sqT hy, go (zip_walk rx ry walk_zipT fun H' s => ⟨s.sqT hx, s.sqT hy⟩)⟩⟩
            · have hy : isTupD y = false := by
                rw [← ht]
                simpa using hx
              have key : ∀ (m : List D) (x : D) (v : V), Rep G F1 x v → itemsOf x = some m → isTupD x = false → ∃ a xs, v = .ref a ∧ RepL G F1 m xs ∧ ∀ H, Sub F1 H → SqL G.K H a xs := fun m x v rx e n => by
                cases rx with
                | tup h r => cases n
                | lst h r => cases e; exact ⟨_, _, rfl, r, fun H sb => sb.sqL (.inl (.inl h))⟩
                | kl h r => cases e; exact ⟨_, _, rfl, r, fun H sb => sb.sqL h⟩
                | _ => cases e
              obtain ⟨a, xs, rfl, rl, h1⟩ := key _ _ _ rx e1 (by simpa using hx)
              obtain ⟨b, ys, rfl, rm, h2⟩ := key _ _ _ ry e2 hy
              exact ⟨a, b, xs, ys, rfl, .inl ⟨h1 _ sb, h2 _ sb, go (zip_walk rl rm (walk_zip rfl) fun H' s => ⟨h1 _ s, h2 _ s⟩)⟩⟩
      · cases e
    · cases e

/-! ### for -/
def forGo (g : Tg) (b : M Fl) : List D → Ev → Out Fl
  | [], r => .ok .nx r
  | d :: l, r => match g d r with
    | none => .no
    | some r1 => match b r1 with
      | .ok .nx r2 => forGo g b l r2
      | .ok .ct r2 => forGo g b l r2
      | .ok .bk r2 => .ok .nx r2
      | .ok (.rt x) r2 => .ok (.rt x) r2
      | .ex e r2 => .ex e r2
      | .no => .no
@[simp] def sFor (it : M (List D)) (g : Tg) (b : M Fl) : M Fl := fun r => (it r).bind fun l r1 => forGo g b l r1
theorem s_for {tg iter : Expr} {body : List Stmt} {pos : Pos} {it : M (List D)} {g : Tg} {b : M Fl} {OL0 OL' : List Nat} (vs : List Nat) (hi : PI X tg iter (iIt G W OX O O1 it)) (hg : PG X tg (tG G OX vs OL OL' g)) (hb : PSs X body (tS G W OX OL OL' O2 b))
    (hp : PassesOwn (model X.prog X.w) X.A X.env X.xe) (hx : ∀ i ∈ OX, i ∈ OL := by decide) (hO1 : ∀ i ∈ OL, i ∈ O1 := by decide) (hO2 : ∀ i ∈ OL, i ∈ O2 := by decide) (hc : X.calm = true := by rfl) (hs : ∀ x, foldedSetIterable iter X.env x = pure x := by intro _; rfl) :
    PS X (.For tg iter body [] pos) (tS G W OX OL0 O OL (sFor it g b)) :=
  (ps_for hp hc hi hg hb hs).imp fun Dn σ H ⟨F, r, S, p⟩ => tS_bind S p fun l J F1 H1 r1 n1 rl p => by
    obtain ⟨F2, S2, s2⟩ := Sta.freezeTo OL _ rfl hO1 n1.sta
    have n2 : Nx G OX O1 OL σ F1 H1 σ F2 H1 r1 := ⟨S2, s2, fun _ _ => rfl, fun _ m => .inl (m.sub hO1)⟩
    refine for_it rl (fun i σ' H' => ∃ F' r', Nx G OX O1 OL σ F1 H1 σ' F' H' r' ∧ PstS G W OX OL0 OL OL σ' F' H' Dn (forGo g b (l.drop i) r')) ⟨F2, r1, n2, PstS.after n2 p⟩ (fun i σ' H' _ ⟨F', r', n, _⟩ => n.stp.fz.trans n.sta.sub) ?_ ?_
    · intro i x σ' H' H'' hi ⟨F', r', n, p⟩ y
      obtain ⟨d, ed, y⟩ := y
      have el : l.drop i = d :: l.drop (i + 1) := by
        have hl : i < l.length := hi
        rw [List.drop_eq_getElem_cons hl]
        congr 1
        have := List.getElem?_eq_getElem hl
        rw [this] at ed
        exact Option.some.inj ed
      rw [el, forGo] at p
      have run : ∀ (F'' : Hp), Nx G OX OL OL σ' F' H' σ' F'' H'' r' → Rep G F'' d x → tG G OX vs OL OL' g x σ' H'' fun σ2 H2 => tS G W OX OL OL' O2 b { Dn with nx := fun σ' H' => ∃ F' r', Nx G OX O1 OL σ F1 H1 σ' F' H' r' ∧ PstS G W OX OL0 OL OL σ' F' H' Dn (forGo g b (l.drop (i + 1)) r'), ct := fun σ' H' => ∃ F' r', Nx G OX O1 OL σ F1 H1 σ' F' H' r' ∧ PstS G W OX OL0 OL OL σ' F' H' Dn (forGo g b (l.drop (i + 1)) r'), bk := Dn.nx } σ2 H2 := fun F'' m rd => by
        revert p
        cases e : g d r' with
        | none => exact fun p => p.elim
        | some r2 =>
          intro p
          have p : PstS G W OX OL0 OL OL σ' F' H' Dn (match b r2 with
            | .ok .nx r2 => forGo g b (l.drop (i + 1)) r2
            | .ok .ct r2 => forGo g b (l.drop (i + 1)) r2
            | .ok .bk r2 => .ok .nx r2
            | .ok (.rt x) r2 => .ok (.rt x) r2
            | .ex e r2 => .ex e r2
            | .no => .no) := p
          refine ⟨F'', r', d, r2, m.sta, rd, e, fun σ2 n3 _ => ⟨F'', r2, n3.sta, ?_⟩⟩
          have m3 := m.trans n3
          revert p
          cases b r2 with
          | no => exact fun p => p.elim
          | ex e r3 => exact fun p c dx σ4 F4 H4 n4 xr => p c dx σ4 F4 H4 (m3.trans n4) xr
          | ok c r3 =>
            cases c with
            | nx =>
              intro p σ4 F4 H4 n4
              obtain ⟨F5, n5, _⟩ := (m3.trans n4).freeze hO2
              exact ⟨F5, r3, n.trans n5, PstS.after n5 p⟩
            | ct => exact fun p σ4 F4 H4 n4 => ⟨F4, r3, n.trans (m3.trans n4), PstS.after (m3.trans n4) p⟩
            | bk => exact fun p σ4 F4 H4 n4 => p σ4 F4 H4 (m3.trans n4)
            | rt d => exact fun p v σ4 F4 H4 n4 rv => p v σ4 F4 H4 (m3.trans n4) rv
      rcases y with ⟨e1, rd⟩ | ⟨T, xs, ds, rfl, rfl, hT, rfl, rl'⟩
      · subst e1
        exact run F' (Nx.rfl' n.sta) (rd.mono n.stp.fz)
      · obtain ⟨S', s'⟩ := new_fz (o := .tup xs) n.sta hT rfl
        exact run _ (Nx.of S' s' fun _ h => h) (.tup (.inl (.inl upd_same)) ((rl'.mono n.stp.fz).mono s'.fz))
    · intro σ' H' ⟨F', r', n, p⟩
      rw [List.drop_length] at p
      exact p σ' F' H' (Nx.rfl' n.sta)

/-! ### while -/
def whGo (t : M Bool) (b : M Fl) : Nat → Ev → Out Fl
  | 0, _ => .no
  | n + 1, r => (t r).bind fun c r1 => if c then (match b r1 with
      | .ok .nx r2 => whGo t b n r2
      | .ok .ct r2 => whGo t b n r2
      | .ok .bk r2 => .ok .nx r2
      | .ok (.rt x) r2 => .ok (.rt x) r2
      | .ex e r2 => .ex e r2
      | .no => .no) else .ok .nx r1
def fuel : Nat := 2 ^ 62
@[simp] def sWh (t : M Bool) (b : M Fl) : M Fl := fun r => whGo t b fuel r
theorem s_while {c : Expr} {body : List Stmt} {pos : Pos} {t : M Bool} {b : M Fl} {OL0 : List Nat} (ht : PT X c (tT G W OX OL OL t)) (hb : PSs X body (tS G W OX OL OL O2 b)) (hp : PassesOwn (model X.prog X.w) X.A X.env X.xe)
    (hO1 : ∀ i ∈ OL, i ∈ O := by decide) (hO2 : ∀ i ∈ OL, i ∈ O2 := by decide) : PS X (.While c body [] pos) (tS G W OX OL0 O OL (sWh t b)) :=
  (ps_while hp ht hb).imp fun Dn σ H ⟨F, r, S, p⟩ => by
    obtain ⟨F2, S2, s2⟩ := Sta.freezeTo OL _ rfl hO1 S
    have n2 : Nx G OX O OL σ F H σ F2 H r := ⟨S2, s2, fun _ _ => rfl, fun _ m => .inl (m.sub hO1)⟩
    refine ⟨fun m σ' H' => ∃ F' r', Sta G OL F' H' σ' r' ∧ PstS G W OX OL0 OL OL σ' F' H' Dn (whGo t b m r'), ⟨fuel, F2, r, S2, PstS.after n2 p⟩, ?_⟩
    intro m σ' H' ⟨F', r', S', p⟩
    cases m with
    | zero => exact p.elim
    | succ m =>
      rw [whGo] at p
      refine tS_bind S' p fun x y F1 H1 r1 n1 rl p => ?_
      subst rl
      cases x with
      | false => exact p σ' F1 H1 (Nx.rfl' n1.sta)
      | true =>
        refine ⟨fun σ' H' => ∃ F' r', Sta G OL F' H' σ' r' ∧ PstS G W OX OL0 OL OL σ' F' H' Dn (whGo t b m r'), fun σ3 H3 h => ⟨m, Nat.lt_succ_self m, h⟩, F1, r1, n1.sta, ?_⟩
        have p : PstS G W OX OL0 OL OL σ' F1 H1 Dn (match b r1 with
          | .ok .nx r2 => whGo t b m r2
          | .ok .ct r2 => whGo t b m r2
          | .ok .bk r2 => .ok .nx r2
          | .ok (.rt x) r2 => .ok (.rt x) r2
          | .ex e r2 => .ex e r2
          | .no => .no) := p
        revert p
        cases b r1 with
        | no => exact fun p => p.elim
        | ex e r3 => exact fun p c dx σ4 F4 H4 n4 xr => p c dx σ4 F4 H4 n4 xr
        | ok c r3 =>
          cases c with
          | nx =>
            intro p σ4 F4 H4 n4
            obtain ⟨F5, n5, _⟩ := n4.freeze hO2
            exact ⟨F5, r3, n5.sta, PstS.after n5 p⟩
          | ct => exact fun p σ4 F4 H4 n4 => ⟨F4, r3, n4.sta, PstS.after n4 p⟩
          | bk => exact fun p σ4 F4 H4 n4 => p σ4 F4 H4 n4
          | rt d => exact fun p v σ4 F4 H4 n4 rv => p v σ4 F4 H4 n4 rv
end
end Z

/-! New objects that this code may change; comprehensions. -/
namespace Z
open PySem PySem.Spec PyProof.Rows L2

def wipeE (vs : List Nat) (r : Ev) : Ev := match vs with
  | [] => r
  | v :: vs => (wipeE vs r).set v none
/-- the slots of vs as they were in r -/
def backE (r : Ev) (vs : List Nat) (q : Ev) : Ev := match vs with
  | [] => q
  | v :: vs => (backE r vs q).set v (r.getD v none)
/-- the turns of a comprehension -/
def lcGo (vs : List Nat) (g : Tg) (t : M Bool) (f : M D) : List D → Ev → Option (List D × Ev)
  | [], r => some ([], r)
  | d :: l, r => match g d (wipeE vs r) with
    | none => none
    | some r1 => match t r1 with
      | .ok true r2 => (match f r2 with
        | .ok y r3 => (lcGo vs g t f l r3).map fun (p : List D × Ev) => (y :: p.1, p.2)
        | _ => none)
      | .ok false r2 => lcGo vs g t f l r2
      | _ => none
def lcOut (vs : List Nat) (r1 : Ev) : Option (List D × Ev) → Out D
  | some (ys, r2) => .ok (.lst ys) (backE r1 vs r2)
  | none => .no
@[simp] def eLc (vs : List Nat) (it : M (List D)) (g : Tg) (t : M Bool) (f : M D) : M D := fun r => (it r).bind fun l r1 => if l.length ≤ big then lcOut vs r1 (lcGo vs g t f l r1) else .no
@[simp] def tY : M Bool := fun r => .ok true r

theorem wipeE_out {r : Ev} {i : Nat} : ∀ {vs : List Nat}, i ∉ vs → (wipeE vs r)[i]? = r[i]?
  | [], _ => rfl
  | v :: vs, h => by
    have h1 : v ≠ i := fun e => h (by rw [e]; exact List.mem_cons_self)
    rw [wipeE, List.getElem?_set_ne h1]
    exact wipeE_out fun m => h (List.mem_cons_of_mem _ m)
theorem wipeE_in {r : Ev} {i : Nat} {d : D} : ∀ {vs : List Nat}, i ∈ vs → (wipeE vs r)[i]? ≠ some (some d)
  | v :: vs, h => by
    rw [wipeE]
    by_cases e : v = i
    · subst e
      by_cases hl : v < (wipeE vs r).length
      · rw [List.getElem?_set_self hl]
        exact fun z => nomatch z
      · rw [List.getElem?_eq_none (by simpa using hl)]
        exact fun z => nomatch z
    · rw [List.getElem?_set_ne e]
      refine wipeE_in ?_
      rcases List.mem_cons.mp h with z | z
      · exact absurd z.symm e
      · exact z
theorem wipeE_len {r : Ev} : ∀ {vs : List Nat}, (wipeE vs r).length = r.length
  | [] => rfl
  | v :: vs => by rw [wipeE, List.length_set, wipeE_len]
theorem backE_out {r q : Ev} {i : Nat} : ∀ {vs : List Nat}, i ∉ vs → (backE r vs q)[i]? = q[i]?
  | [], _ => rfl
  | v :: vs, h => by
    have h1 : v ≠ i := fun e => h (by rw [e]; exact List.mem_cons_self)
    rw [backE, List.getElem?_set_ne h1]
    exact backE_out fun m => h (List.mem_cons_of_mem _ m)
theorem backE_len {r q : Ev} : ∀ {vs : List Nat}, (backE r vs q).length = q.length
  | [] => rfl
  | v :: vs => by rw [backE, List.length_set, backE_len]
theorem backE_in {r q : Ev} {i : Nat} {d : D} : ∀ {vs : List Nat}, i ∈ vs → (backE r vs q)[i]? = some (some d) → r[i]? = some (some d)
  | v :: vs, h, e => by
    rw [backE] at e
    by_cases z : v = i
    · subst z
      by_cases hl : v < (backE r vs q).length
      · rw [List.getElem?_set_self hl] at e
        have e := Option.some.inj e
        rw [List.getD_eq_getElem?_getD] at e
        cases w : r[v]? with
        | none => rw [w] at e; cases e
        | some u => rw [w] at e; exact congrArg some e
      · rw [List.getElem?_eq_none (by simpa using hl)] at e
        cases e
    · rw [List.getElem?_set_ne z] at e
      refine backE_in ?_ e
      rcases List.mem_cons.mp h with w | w
      · exact absurd w.symm z
      · exact w

section
variable {G : Gm} {X : Cx} {W : WX} {OX OL vs O O1 O2 O3 : List Nat}
theorem Sta.wipe {σ : L2.St} {F H : Hp} {r : Ev} (S : Sta G O F H σ r) (hd : ∀ i ∈ vs, i ∉ O) : Sta G O F H (L2.wipe σ vs) (wipeE vs r) := by
  have ho : ∀ i ∈ O, i ∉ vs := fun i hi hv => hd i hv hi
  refine ⟨S.sub, S.wf, by rw [wipeE_len, wipe_length]; exact S.len, fun i d hi e => ?_, fun i hi => ?_, fun i j a hi hj ei ej => ?_⟩
  · by_cases hv : i ∈ vs
    · exact absurd e (wipeE_in hv)
    · rw [wipeE_out hv] at e
      rw [wipe_out hv]
      exact S.rp i d hi e
  · rw [wipeE_out (ho i hi), wipe_out (ho i hi)]
    exact S.ow i hi
  · rw [wipe_out (ho i hi)] at ei
    rw [wipe_out (ho j hj)] at ej
    exact S.dj i j a hi hj ei ej
theorem ownAt_wipe {σ : L2.St} {a : Addr} (hd : ∀ i ∈ vs, i ∉ O) : OwnAt O (L2.wipe σ vs) a ↔ OwnAt O σ a := by
  constructor
  · rintro ⟨i, hi, e⟩
    rw [wipe_out fun hv => hd i hv hi] at e
    exact ⟨i, hi, e⟩
  · rintro ⟨i, hi, e⟩
    exact ⟨i, hi, by rw [wipe_out fun hv => hd i hv hi]; exact e⟩
theorem Sta.back {σ : L2.St} {F H F1 H1 : Hp} {r1 q : Ev} (S1 : Sta G O F1 H1 σ r1) (S : Sta G O F H (L2.wipe σ vs) (wipeE vs q)) (sb : Sub F1 F) (hd : ∀ i ∈ vs, i ∉ O) : Sta G O F H σ (backE r1 vs q) := by
  have ho : ∀ i ∈ O, i ∉ vs := fun i hi hv => hd i hv hi
  refine ⟨S.sub, S.wf, by rw [backE_len, ← wipeE_len (vs := vs), S.len, wipe_length], fun i d hi e => ?_, fun i hi => ?_, S1.dj⟩
  · by_cases hv : i ∈ vs
    · obtain ⟨v, e1, rp⟩ := S1.rp i d hi (backE_in hv e)
      exact ⟨v, e1, rp.mono sb⟩
    · rw [backE_out hv, ← wipeE_out hv] at e
      obtain ⟨v, e1, rp⟩ := S.rp i d hi e
      rw [wipe_out hv] at e1
      exact ⟨v, e1, rp⟩
  · obtain ⟨d, v, e1, e2, o⟩ := S.ow i hi
    rw [wipeE_out (ho i hi)] at e1
    rw [wipe_out (ho i hi)] at e2
    exact ⟨d, v, by rw [backE_out (ho i hi)]; exact e1, e2, o⟩
theorem putD {σ : L2.St} {F H : Hp} {r : Ev} {Dd : Addr} {o o' : HO} (S : Sta G O F H σ r) (hH : H Dd = some o') (hF : F Dd = none) (hO : ¬ OwnAt O σ Dd) (hi : noIns o = true) : Sta G O F (upd H Dd o) σ r ∧ Stp (fun a => a = Dd) F H F (upd H Dd o) := by
  have st : Stp (fun a => a = Dd) F H F (upd H Dd o) := ⟨.rfl', fun a u e n => by rw [upd_ne n]; exact e, fun _ _ _ _ => rfl, fun _ e => upd_none e⟩
  refine ⟨S.stay st (fun a u e => ?_) (S.wf.upd hi) fun a m z => hO (z ▸ m), st⟩
  obtain ⟨o'', e', g⟩ := S.sub a u e
  refine ⟨o'', ?_, g⟩
  rw [upd_ne fun z => ?_]
  · exact e'
  · rw [z, hF] at e
    cases e
theorem takes_blk {s : Shared} {H : Hp} {scope : Scope} {cenv : PySem.Env} {fp : List Addr} : Takes (X.blk s H scope cenv fp) (fun _ _ _ _ => False) := fun _ _ ⟨_, _, _, _, _, _, _, _, _, _, _, _, _, _, _, _, w⟩ => w.elim
theorem pts_no : PTs X [] (tT G W OX O O tY) := ⟨fun pins s σ H Q I ⟨F, r, S, p⟩ => pts_nil.run pins s σ H Q I (p _ F H (Nx.rfl' S) rfl)⟩
theorem pts_1 {c : Expr} {t : M Bool} (h : PT X c (tT G W OX O O1 t)) : PTs X [c] (tT G W OX O O1 t) := pts_one h
/-- a new list or dict is given up at once -/
theorem ffz {f : M D} {σ : L2.St} {H : Hp} {Q : VK} (h : tE G W OX O O1 f σ H Q) : tF G W OX O O1 f σ H Q := by
  obtain ⟨F, r, S, p⟩ := h
  refine ⟨F, r, S, ?_⟩
  revert p
  cases f r with
  | no => exact fun p => p
  | ex e q => exact fun p => p
  | ok d q =>
    intro p v F1 H1 n ⟨ow, nw⟩
    obtain ⟨F2, a, o, rfl, ha, rfl, k1, k2, rp⟩ := ow.freeze n.sta.sub
    obtain ⟨h0, hO⟩ := nw a rfl
    have st : Stp (fun x => x = a) F1 H1 (upd F1 a o) H1 := ⟨k1, fun _ _ e _ => e, fun _ _ _ nn => upd_ne nn, fun _ e => e⟩
    exact p _ _ H1 ⟨n.sta.stay st k2 n.sta.wf fun b m z => hO (z ▸ m), n.stp.trans st fun x z => .inr (z ▸ h0), n.kp, n.pv⟩ rp
theorem _root_.L2.PE.fz {e : Expr} {f : M D} (h : PE X e (tF G W OX O O1 f)) : PE X e (tE G W OX O O1 f) := ⟨fun pins s σ H Q I q => h.run pins s σ H Q I (ffz q)⟩
theorem lc_imp {own : List (Str × Nat)} {it : M (List D)} {g : Tg} {t : M Bool} {f : M D} (hvs : own.map (·.2) = vs) (hd : ∀ i ∈ vs, i ∉ O1) (σ : L2.St) (H : Hp) (Q : VK) (h : tF G W OX O O1 (eLc vs it g t f) σ H Q) :
    tLc (iIt G W OX O O1 it) (tG G [] vs O1 O1 g) (tT G (fun _ _ _ _ => False) [] O1 O1 t) (tE G (fun _ _ _ _ => False) [] O1 O1 f) (own.map (·.2)) σ H Q := by
  obtain ⟨F, r, S, p⟩ := h
  refine tX_bind S p fun l J F1 H1 r1 n1 rl p => ?_
  rw [hvs]
  intro Dd hD
  split at p
  case isFalse => exact p.elim
  rename_i hlen
  have fD : F1 Dd = none := by
    cases q : F1 Dd with
    | none => rfl
    | some u =>
      obtain ⟨o', e, _⟩ := n1.sta.sub Dd u q
      rw [hD] at e
      cases e
  have nO : ¬ OwnAt O1 σ Dd := fun ⟨i, hi, e⟩ => by
    obtain ⟨d, v, _, e2, ow⟩ := n1.sta.ow i hi
    rw [e] at e2
    cases e2
    obtain ⟨a, o, ea, ha⟩ := ow.there
    cases ea
    rw [hD] at ha
    cases ha
  -- the walk: what the turns so far have built
  let Pv : Nat → Hp → Prop := fun i H' => ∃ F' r' ys acc, Sta G O1 F' H' (L2.wipe σ vs) (wipeE vs r') ∧ Stp (fun a => OwnAt O1 σ a ∨ a = Dd) F1 (upd H1 Dd (.lst [])) F' H' ∧ H' Dd = some (.lst acc) ∧ F' Dd = none ∧ RepL G F' ys acc ∧ acc.length ≤ i ∧
    Pst G W OX O1 O1 σ F1 H1 (RF G O1 σ H) Q (lcOut vs r1 ((lcGo vs g t f (l.drop i) r').map fun (p : List D × Ev) => (ys ++ p.1, p.2)))
  have start := new_ow (o := .lst []) n1.sta hD rfl
  refine lc_it rl Pv ⟨F1, r1, [], [], start.1.wipe hd, .rfl', upd_same, fD, .nil, Nat.zero_le _, ?_⟩ (fun i H' _ ⟨F', r', ys, acc, S', st, _⟩ => st.fz.trans S'.sub) ?_ ?_
  · rw [List.drop_zero]
    have : (lcGo vs g t f l r1).map (fun p => (([] : List D) ++ p.1, p.2)) = lcGo vs g t f l r1 := by
      rw [show (fun p : List D × Ev => (([] : List D) ++ p.1, p.2)) = id from by funext p; rfl]
      simp
    rw [this]
    exact p
  · rintro i x H' H'' hi ⟨F', r', ys, acc, S', st, hDd, fDd, ry, ha, p⟩ ⟨d, ed, y⟩
    have el : l.drop i = d :: l.drop (i + 1) := by
      have hl : i < l.length := hi
      rw [List.drop_eq_getElem_cons hl]
      congr 1
      have := List.getElem?_eq_getElem hl
      rw [this] at ed
      exact Option.some.inj ed
    rw [el, lcGo] at p
    -- the value given: behind it nothing but a new tuple
    have run : ∀ (F2 : Hp), Sta G O1 F2 H'' (L2.wipe σ vs) (wipeE vs r') → Stp (fun a => OwnAt O1 σ a ∨ a = Dd) F1 (upd H1 Dd (.lst [])) F2 H'' → H'' Dd = some (.lst acc) → F2 Dd = none → RepL G F2 ys acc → Rep G F2 d x →
        tG G [] vs O1 O1 g x (L2.wipe σ vs) H'' fun σ2 H2 => L2.wipe σ2 vs = L2.wipe σ vs ∧ tT G (fun _ _ _ _ => False) [] O1 O1 t σ2 H2 fun b H3 => if b = true then tE G (fun _ _ _ _ => False) [] O1 O1 f σ2 H3 fun y H4 => ∃ acc, H4 Dd = some (.lst acc) ∧ acc.length < sizeLine ∧ Pv (i + 1) (upd H4 Dd (.lst (acc ++ [y]))) else Pv (i + 1) H3 := fun F2 S2 st2 hD2 fD2 ry2 rx => by
      cases e : g d (wipeE vs r') with
      | none =>
        rw [e] at p
        exact p.elim
      | some r2 =>
        rw [e] at p
        refine ⟨F2, _, d, r2, S2, rx, e, fun σ2 n3 w3 => ?_⟩
        have w3 : L2.wipe σ2 vs = L2.wipe σ vs := by
          have idem : ∀ (l : List Nat) (σ : L2.St), (∀ i ∈ l, i ∈ vs) → L2.wipe (L2.wipe σ l) vs = L2.wipe σ vs := by
            intro l
            induction l with
            | nil => exact fun _ _ => rfl
            | cons a l ih =>
              intro σ h
              rw [L2.wipe, wipe_set (h a List.mem_cons_self)]
              exact ih σ fun i hi => h i (List.mem_cons_of_mem _ hi)
          rw [w3]
          exact idem vs σ fun _ h => h
        refine ⟨w3, F2, r2, n3.sta, ?_⟩
        have mo : ∀ {a}, OwnAt O1 σ2 a → OwnAt O1 σ a := fun {a} m => (ownAt_wipe hd).mp (by rw [← w3]; exact (ownAt_wipe hd).mpr m)
        have nO2 : ¬ OwnAt O1 σ2 Dd := fun m => nO (mo m)
        have p : Pst G W OX O1 O1 σ F1 H1 (RF G O1 σ H) Q (lcOut vs r1 ((match t r2 with
          | .ok true r2 => (match f r2 with
            | .ok y r3 => (lcGo vs g t f (l.drop (i + 1)) r3).map fun (p : List D × Ev) => (y :: p.1, p.2)
            | _ => none)
          | .ok false r2 => lcGo vs g t f (l.drop (i + 1)) r2
          | _ => none).map fun (p : List D × Ev) => (ys ++ p.1, p.2))) := p
        -- one step more: own objects and nothing else changed
        have ext : ∀ {F3 H3 : Hp} {q : Ev}, Nx G [] O1 O1 σ2 F2 H'' σ2 F3 H3 q → Stp (fun a => OwnAt O1 σ a ∨ a = Dd) F1 (upd H1 Dd (.lst [])) F3 H3 ∧ H3 Dd = some (.lst acc) ∧ F3 Dd = none ∧ RepL G F3 ys acc := fun {F3 H3 q} n =>
          ⟨st2.trans n.stp fun x m => .inl (.inl (mo m)), n.stp.kp _ _ hD2 nO2, (n.stp.nf _ _ hD2 nO2).trans fD2, ry2.mono n.stp.fz⟩
        have again : ∀ {F3 H3 : Hp} {q : Ev}, Nx G [] O1 O1 σ2 F2 H'' σ2 F3 H3 q → Sta G O1 F3 H3 (L2.wipe σ vs) (wipeE vs q) := fun {F3 H3 q} n => by
          rw [← w3]
          exact n.sta.wipe hd
        revert p
        cases t r2 with
        | no => exact fun p => p.elim
        | ex e q => exact fun p => p.elim
        | ok c r3 =>
          cases c with
          | false =>
            intro p b F3 H3 n eb
            cases eb
            rw [if_neg (by decide)]
            obtain ⟨a1, a2, a3, a4⟩ := ext n
            exact ⟨F3, r3, ys, acc, again n, a1, a2, a3, a4, Nat.le_succ_of_le ha, p⟩
          | true =>
            intro p b F3 H3 n eb
            cases eb
            rw [if_pos rfl]
            have p : Pst G W OX O1 O1 σ F1 H1 (RF G O1 σ H) Q (lcOut vs r1 ((match f r3 with
              | .ok y r3 => (lcGo vs g t f (l.drop (i + 1)) r3).map fun (p : List D × Ev) => (y :: p.1, p.2)
              | _ => none).map fun (p : List D × Ev) => (ys ++ p.1, p.2))) := p
            refine ⟨F3, r3, n.sta, ?_⟩
            revert p
            cases f r3 with
            | no => exact fun p => p.elim
            | ex e q => exact fun p => p.elim
            | ok z r4 =>
              intro p w F4 H4 n4 rw4
              have nn := n.trans n4
              obtain ⟨a1, a2, a3, a4⟩ := ext nn
              refine ⟨acc, a2, ?_, ?_⟩
              · have h1 : acc.length < l.length := Nat.lt_of_le_of_lt ha hi
                exact Nat.lt_of_lt_of_le h1 (big_line hlen)
              · obtain ⟨S5, st5⟩ := putD (o := .lst (acc ++ [w])) (again nn) a2 a3 (fun m => nO ((ownAt_wipe hd).mp m)) rfl
                refine ⟨F4, r4, ys ++ [z], acc ++ [w], S5, a1.trans st5 fun x m => .inl (.inr m), upd_same, a3, a4.app (.cons rw4 .nil), by simp; exact ha, ?_⟩
                rw [Option.map_map] at p
                have : ((fun p : List D × Ev => (ys ++ p.1, p.2)) ∘ fun p : List D × Ev => (z :: p.1, p.2)) = fun p => ((ys ++ [z]) ++ p.1, p.2) := by
                  funext p
                  simp
                rw [this] at p
                exact p
    rcases y with ⟨e1, rd⟩ | ⟨T, xs, ds, rfl, rfl, hT, rfl, rl'⟩
    · subst e1
      exact run F' S' st hDd fDd ry (rd.mono st.fz)
    · obtain ⟨S2, s2⟩ := new_fz (o := .tup xs) S' hT rfl
      have ne : Dd ≠ T := fun z => by rw [z, hT] at hDd; cases hDd
      exact run _ S2 (st.trans s2 fun x m => .inl (.inl ((ownAt_wipe hd).mp m))) (by rw [upd_ne ne]; exact hDd) (by rw [upd_ne ne]; exact fDd) (ry.mono s2.fz) (.tup (.inl (.inl upd_same)) ((rl'.mono st.fz).mono s2.fz))
  · rintro H' ⟨F', r', ys, acc, S', st, hDd, fDd, ry, ha, p⟩
    rw [List.drop_length] at p
    have p : Pst G W OX O1 O1 σ F1 H1 (RF G O1 σ H) Q (.ok (.lst (ys ++ [])) (backE r1 vs r')) := p
    rw [List.append_nil] at p
    refine p _ F' H' ⟨n1.sta.back S' st.fz hd, (start.2.1.trans st fun x m => ?_), fun _ _ => rfl, fun a m => .inl m⟩ ⟨.lst hDd fDd ry, fun a ea => ?_⟩
    · rcases m with m | m
      · exact .inl m
      · exact .inr (by rw [m]; exact hD)
    · cases ea
      exact ⟨n1.stp.tr _ hD, nO⟩
theorem e_lcF {elt tg iter : Expr} {ifs : List Expr} {scope : Scope} {pos : Pos} {it : M (List D)} {g : Tg} {t : M Bool} {f : M D} (own : List (Str × Nat)) (hvs : own.map (·.2) = vs) (hi : PI X tg iter (iIt G W OX O O1 it)) (ok : BlkOk X.N X.env.scope scope own)
    (hg : ∀ (s : Shared) (H : Hp) (C : Addr) (cl : List (Str × Addr)) (fp : List Addr), PG (X.blk s H scope (compEnvC scope cl C X.env) fp) tg (tG G [] vs O1 O1 g)) (ht : ∀ (s : Shared) (H : Hp) (C : Addr) (cl : List (Str × Addr)) (fp : List Addr), PTs (X.blk s H scope (compEnvC scope cl C X.env) fp) ifs (tT G (fun _ _ _ _ => False) [] O1 O1 t))
    (he : ∀ (s : Shared) (H : Hp) (C : Addr) (cl : List (Str × Addr)) (fp : List Addr), PE (X.blk s H scope (compEnvC scope cl C X.env) fp) elt (tE G (fun _ _ _ _ => False) [] O1 O1 f)) (hN : X.N.Nodup := by first | assumption | decide +kernel) (hd : ∀ i ∈ vs, i ∉ O1 := by decide) (hc : X.calm = true := by rfl) (hs : ∀ x, foldedSetIterable iter X.env x = pure x := by intro _; rfl) :
    PE X (.ListComp elt [⟨tg, iter, ifs, 0⟩] scope pos) (tF G W OX O O1 (eLc vs it g t f)) :=
  (pe_lc hc hN hi ok hg ht he hs).imp (lc_imp hvs hd)
end
end Z

/-! Built-in calls; isinstance; assignment, attribute stores, own lists. -/
namespace Z
open PySem PySem.Spec PyProof.Rows L2

def toInts : List D → Option (List Int)
  | [] => some []
  | .int i :: l => (toInts l).map (i :: ·)
  | _ => none
def toBls : List D → Option (List Bool)
  | [] => some []
  | .bl i :: l => (toBls l).map (i :: ·)
  | _ => none
theorem toInts_eq : ∀ {l : List D} {ns : List Int}, toInts l = some ns → l = ns.map D.int
  | [], ns, e => by cases e; rfl
  | d :: l, ns, e => by
    cases d with
    | int i =>
      obtain ⟨m, e1, e2⟩ := Option.map_eq_some_iff.mp (show (toInts l).map (i :: ·) = some ns from e)
      subst e2
      rw [toInts_eq e1]
      rfl
    | _ => cases e
theorem toInts_map (ns : List Int) : toInts (ns.map D.int) = some ns := by
  induction ns with
  | nil => rfl
  | cons i l ih => rw [List.map_cons, toInts, ih]; rfl
theorem toBls_eq : ∀ {l : List D} {ns : List Bool}, toBls l = some ns → l = ns.map D.bl
  | [], ns, e => by cases e; rfl
  | d :: l, ns, e => by
    cases d with
    | bl i =>
      obtain ⟨m, e1, e2⟩ := Option.map_eq_some_iff.mp (show (toBls l).map (i :: ·) = some ns from e)
      subst e2
      rw [toBls_eq e1]
      rfl
    | _ => cases e
theorem toBls_map (ns : List Bool) : toBls (ns.map D.bl) = some ns := by
  induction ns with
  | nil => rfl
  | cons i l ih => rw [List.map_cons, toBls, ih]; rfl
def lisOf : D → Option (List D)
  | .lst l => some l
  | .kl l => some l
  | _ => none
def pLen : List D → Option D
  | [.str z] => if z.length ≤ big then some (.int z.length) else none
  | [x] => (itemsOf x).map fun l => .int (l.length : Nat)
  | _ => none
def pAbs : List D → Option D
  | [.int i] => some (.int (if i < 0 then -i else i))
  | _ => none
def pInt : List D → Option D
  | [.int i] => some (.int i)
  | [.bl k] => some (.int (if k then 1 else 0))
  | _ => none
def pBool : List D → Option D
  | [.int i] => some (.bl (i != 0))
  | [.bl k] => some (.bl k)
  | _ => none
def pSum : List D → Option D
  | [x] => (lisOf x).bind fun l => (toInts l).map fun ns => .int ns.sum
  | _ => none
def pAll : List D → Option D
  | [x] => (lisOf x).bind fun l => (toBls l).map fun ns => .bl (ns.all id)
  | _ => none
def pAny : List D → Option D
  | [x] => (lisOf x).bind fun l => (toBls l).map fun ns => .bl (ns.any id)
  | _ => none
def pTuple : List D → Option D
  | [x] => (itemsOf x).map fun l => .tup l
  | _ => none
def pList : List D → Option D
  | [x] => (itemsOf x).map fun l => .lst l
  | _ => none
def pGcd : List D → Option D
  | [.int a, .int b] => some (.int ((Nat.gcd a.natAbs b.natAbs : Nat) : Int))
  | _ => none
def pMax2 : List D → Option D
  | [.int i, .int j] => some (.int (if j > i then j else i))
  | _ => none
def pMin2 : List D → Option D
  | [.int i, .int j] => some (.int (if j < i then j else i))
  | _ => none

section
variable {G : Gm} {X : Cx} {W : WX} {OX OL vs O O1 O2 O3 : List Nat}
/-- the rule rr of a built-in says what p says of trees -/
def Says (G : Gm) (X : Cx) (W : WX) (OX O : List Nat) (p : List D → Option D) (rr : List V → Hp → VK → Prop) : Prop :=
  ∀ (σ : L2.St) (F H : Hp) (r : Ev) (ds : List D) (vs : List V) (d : D) (Q : VK), Sta G O F H σ r → RepL G F ds vs → p ds = some d → Pst G W OX O O σ F H (RD G) Q (.ok d r) → rr vs H Q
theorem says_of {p : List D → Option D} {rr : List V → Hp → VK → Prop} (h : Says G X W OX O1 p rr) {t : List Expr} {f : M (List D)} {σ : L2.St} {H : Hp} {Q : VK} (q : tE G W OX O O1 (eN p f) σ H Q) : tCB rr (tA G W OX O O1 f) σ H Q := by
  obtain ⟨F, r, S, q⟩ := q
  refine tX_bind S q fun ds vs F1 H1 r1 n1 rs q => ?_
  obtain ⟨d, e, q⟩ := q.lift
  exact h σ F1 H1 r1 ds vs d Q n1.sta rs e q
theorem e_cB {x : Str} {id : String} {e : Expr} {es : List Expr} {pp pos : Pos} {f : M (List D)} {rr : List V → Hp → VK → Prop} (p : List D → Option D) (hc : CallR X (.builtin id) rr) (hp : Says G X W OX O1 p rr) (ha : PA X (e :: es) (tA G W OX O O1 f)) (hm : X.mg x = none := by assumption) (hv : bootBuiltins x = some (.builtin id) := by first | assumption | decide +kernel) (hg : Gl X x := by rfl) (hn : x ≠ "__name__" := by decide) (hdb : (x == ("__debug__" : Str)) = false := by decide)
    (he : starEach (e :: es) X.env = (false, eval e X.env) :: starEach es X.env := by rfl) (hpl : (backTo pos (starEach es X.env)).any (·.1) = false := by rfl) : PE X (.Call (.Name x pp) (e :: es) [] pos) (tE G W OX O O1 (eN p f)) :=
  (pe_callB hc hg hm hv ha hn hdb he hpl).imp fun σ H Q q => says_of (t := es) hp q
theorem e_cT {x : Str} {id : String} {e : Expr} {es : List Expr} {pp pos : Pos} {f : M (List D)} {rr : List V → Hp → VK → Prop} (p : List D → Option D) (hc : CallR X (.type id) rr) (hp : Says G X W OX O1 p rr) (ha : PA X (e :: es) (tA G W OX O O1 f)) (hm : X.mg x = none := by assumption) (hv : bootBuiltins x = some (.type id) := by first | assumption | decide +kernel) (hg : Gl X x := by rfl) (hn : x ≠ "__name__" := by decide) (hdb : (x == ("__debug__" : Str)) = false := by decide)
    (he : starEach (e :: es) X.env = (false, eval e X.env) :: starEach es X.env := by rfl) (hpl : (backTo pos (starEach es X.env)).any (·.1) = false := by rfl) : PE X (.Call (.Name x pp) (e :: es) [] pos) (tE G W OX O O1 (eN p f)) :=
  (pe_callTy hc hg hm hv ha hn hdb he hpl).imp fun σ H Q q => says_of (t := es) hp q
theorem e_cM {x : Str} {id : String} {e : Expr} {es : List Expr} {pp pos : Pos} {f : M (List D)} {rr : List V → Hp → VK → Prop} (p : List D → Option D) (hc : CallR X (.builtin id) rr) (hp : Says G X W OX O1 p rr) (ha : PA X (e :: es) (tA G W OX O O1 f)) (hm : X.mg x = some (.builtin id)) (hg : Gl X x := by rfl) (hdb : (x == ("__debug__" : Str)) = false := by decide)
    (he : starEach (e :: es) X.env = (false, eval e X.env) :: starEach es X.env := by rfl) (hpl : (backTo pos (starEach es X.env)).any (·.1) = false := by rfl) : PE X (.Call (.Name x pp) (e :: es) [] pos) (tE G W OX O O1 (eN p f)) :=
  (pe_callBfun hc hg hm ha hdb he hpl).imp fun σ H Q q => says_of (t := es) hp q
/-- a fresh list of list(..) -/
theorem lis_of {F : Hp} {x : D} {v : V} {l : List D} (h : Rep G F x v) (e : lisOf x = some l) : ∃ a xs, v = .ref a ∧ (∀ H, Sub F H → SqL G.K H a xs) ∧ RepL G F l xs := by
  cases h with
  | lst h r => cases e; exact ⟨_, _, rfl, fun H sb => sb.sqL (.inl (.inl h)), r⟩
  | kl h r => cases e; exact ⟨_, _, rfl, fun H sb => sb.sqL h, r⟩
  | _ => cases e
theorem e_len {x : Expr} {xs : List Expr} {pp pos : Pos} {f : M (List D)} (ha : PA X (x :: xs) (tA G W OX O O1 f)) (hm : X.mg "len" = none := by assumption) (hg : Gl X "len" := by rfl) (hK : X.K = G.K := by rfl)
    (he : starEach (x :: xs) X.env = (false, eval x X.env) :: starEach xs X.env := by rfl) (hpl : (backTo pos (starEach xs X.env)).any (·.1) = false := by rfl) : PE X (.Call (.Name "len" pp) (x :: xs) [] pos) (tE G W OX O O1 (eN pLen f)) :=
  e_cB pLen call_len (fun σ F H r ds vs d Q S rs e q => by
    unfold pLen at e
    split at e
    · split at e
      · rename_i hz
        cases e
        cases rs with
        | cons r1 rr =>
          cases rr
          cases r1
          exact ⟨_, _, rfl, ⟨big_line hz, rfl⟩, q.ok S .int⟩
      · cases e
    · obtain ⟨l, e1, e2⟩ := Option.map_eq_some_iff.mp e
      subst e2
      cases rs with
      | cons r1 rr =>
        cases rr
        obtain ⟨a, xs, rfl, hq, rl⟩ := r1.items S.sub e1
        rw [hK]
        rw [rl.length] at q
        exact ⟨_, xs.length, rfl, hq.elim (fun h => .inl ⟨_, h, rfl⟩) fun h => .inr ⟨_, h, rfl⟩, q.ok S .int⟩
    · cases e) ha hm (hg := hg) (he := he) (hpl := hpl)
theorem e_abs {x : Expr} {xs : List Expr} {pp pos : Pos} {f : M (List D)} (ha : PA X (x :: xs) (tA G W OX O O1 f)) (hm : X.mg "abs" = none := by assumption) (hg : Gl X "abs" := by rfl)
    (he : starEach (x :: xs) X.env = (false, eval x X.env) :: starEach xs X.env := by rfl) (hpl : (backTo pos (starEach xs X.env)).any (·.1) = false := by rfl) : PE X (.Call (.Name "abs" pp) (x :: xs) [] pos) (tE G W OX O O1 (eN pAbs f)) :=
  e_cB pAbs call_abs (fun σ F H r ds vs d Q S rs e q => by
    unfold pAbs at e
    split at e
    · cases e
      cases rs with
      | cons r1 rr => cases rr; cases r1; exact ⟨_, rfl, q.ok S .int⟩
    · cases e) ha hm (hg := hg) (he := he) (hpl := hpl)
theorem e_toInt {x : Expr} {xs : List Expr} {pp pos : Pos} {f : M (List D)} (ha : PA X (x :: xs) (tA G W OX O O1 f)) (hm : X.mg "int" = none := by assumption) (hg : Gl X "int" := by rfl)
    (he : starEach (x :: xs) X.env = (false, eval x X.env) :: starEach xs X.env := by rfl) (hpl : (backTo pos (starEach xs X.env)).any (·.1) = false := by rfl) : PE X (.Call (.Name "int" pp) (x :: xs) [] pos) (tE G W OX O O1 (eN pInt f)) :=
  e_cT pInt call_int1 (fun σ F H r ds vs d Q S rs e q => by
    unfold pInt at e
    split at e
    · cases e
      cases rs with
      | cons r1 rr => cases rr; cases r1; exact .inl ⟨_, rfl, q.ok S .int⟩
    · cases e
      cases rs with
      | cons r1 rr => cases rr; cases r1; exact .inr ⟨_, rfl, q.ok S .int⟩
    · cases e) ha hm (hg := hg) (he := he) (hpl := hpl)
theorem e_toBool {x : Expr} {xs : List Expr} {pp pos : Pos} {f : M (List D)} (ha : PA X (x :: xs) (tA G W OX O O1 f)) (hm : X.mg "bool" = none := by assumption) (hg : Gl X "bool" := by rfl)
    (he : starEach (x :: xs) X.env = (false, eval x X.env) :: starEach xs X.env := by rfl) (hpl : (backTo pos (starEach xs X.env)).any (·.1) = false := by rfl) : PE X (.Call (.Name "bool" pp) (x :: xs) [] pos) (tE G W OX O O1 (eN pBool f)) :=
  e_cT pBool call_bool1 (fun σ F H r ds vs d Q S rs e q => by
    unfold pBool at e
    split at e
    · cases e
      cases rs with
      | cons r1 rr => cases rr; cases r1; exact .inl ⟨_, rfl, q.ok S .bl⟩
    · cases e
      cases rs with
      | cons r1 rr => cases rr; cases r1; exact .inr ⟨_, rfl, q.ok S .bl⟩
    · cases e) ha hm (hg := hg) (he := he) (hpl := hpl)
theorem e_sum {x : Expr} {xs : List Expr} {pp pos : Pos} {f : M (List D)} (ha : PA X (x :: xs) (tA G W OX O O1 f)) (hm : X.mg "sum" = none := by assumption) (hg : Gl X "sum" := by rfl) (hc : X.calm = true := by rfl) (hK : X.K = G.K := by rfl)
    (he : starEach (x :: xs) X.env = (false, eval x X.env) :: starEach xs X.env := by rfl) (hpl : (backTo pos (starEach xs X.env)).any (·.1) = false := by rfl) : PE X (.Call (.Name "sum" pp) (x :: xs) [] pos) (tE G W OX O O1 (eN pSum f)) :=
  e_cB pSum (cr_sum hc) (fun σ F H r ds vs d Q S rs e q => by
    unfold pSum at e
    split at e
    · obtain ⟨l, e1, e2⟩ := Option.bind_eq_some_iff.mp e
      obtain ⟨ns, e3, e4⟩ := Option.map_eq_some_iff.mp e2
      subst e4
      cases rs with
      | cons r1 rr =>
        cases rr
        obtain ⟨a, xs, rfl, hq, rl⟩ := lis_of r1 e1
        rw [toInts_eq e3] at rl
        rw [hK]
        exact ⟨a, ns, rfl, by rw [← rl.ints]; exact hq H S.sub, q.ok S .int⟩
    · cases e) ha hm (hg := hg) (he := he) (hpl := hpl)
theorem e_all {x : Expr} {xs : List Expr} {pp pos : Pos} {f : M (List D)} (ha : PA X (x :: xs) (tA G W OX O O1 f)) (hm : X.mg "all" = none := by assumption) (hg : Gl X "all" := by rfl) (hc : X.calm = true := by rfl) (hK : X.K = G.K := by rfl)
    (he : starEach (x :: xs) X.env = (false, eval x X.env) :: starEach xs X.env := by rfl) (hpl : (backTo pos (starEach xs X.env)).any (·.1) = false := by rfl) : PE X (.Call (.Name "all" pp) (x :: xs) [] pos) (tE G W OX O O1 (eN pAll f)) :=
  e_cB pAll (cr_all hc) (fun σ F H r ds vs d Q S rs e q => by
    unfold pAll at e
    split at e
    · obtain ⟨l, e1, e2⟩ := Option.bind_eq_some_iff.mp e
      obtain ⟨ns, e3, e4⟩ := Option.map_eq_some_iff.mp e2
      subst e4
      cases rs with
      | cons r1 rr =>
        cases rr
        obtain ⟨a, xs, rfl, hq, rl⟩ := lis_of r1 e1
        rw [toBls_eq e3] at rl
        rw [hK]
        exact ⟨a, ns, rfl, by rw [← rl.bls]; exact hq H S.sub, q.ok S .bl⟩
    · cases e) ha hm (hg := hg) (he := he) (hpl := hpl)
theorem e_any {x : Expr} {xs : List Expr} {pp pos : Pos} {f : M (List D)} (ha : PA X (x :: xs) (tA G W OX O O1 f)) (hm : X.mg "any" = none := by assumption) (hg : Gl X "any" := by rfl) (hc : X.calm = true := by rfl) (hK : X.K = G.K := by rfl)
    (he : starEach (x :: xs) X.env = (false, eval x X.env) :: starEach xs X.env := by rfl) (hpl : (backTo pos (starEach xs X.env)).any (·.1) = false := by rfl) : PE X (.Call (.Name "any" pp) (x :: xs) [] pos) (tE G W OX O O1 (eN pAny f)) :=
  e_cB pAny (cr_any hc) (fun σ F H r ds vs d Q S rs e q => by
    unfold pAny at e
    split at e
    · obtain ⟨l, e1, e2⟩ := Option.bind_eq_some_iff.mp e
      obtain ⟨ns, e3, e4⟩ := Option.map_eq_some_iff.mp e2
      subst e4
      cases rs with
      | cons r1 rr =>
        cases rr
        obtain ⟨a, xs, rfl, hq, rl⟩ := lis_of r1 e1
        rw [toBls_eq e3] at rl
        rw [hK]
        exact ⟨a, ns, rfl, by rw [← rl.bls]; exact hq H S.sub, q.ok S .bl⟩
    · cases e) ha hm (hg := hg) (he := he) (hpl := hpl)
theorem e_tuple {x : Expr} {xs : List Expr} {pp pos : Pos} {f : M (List D)} (ha : PA X (x :: xs) (tA G W OX O O1 f)) (hm : X.mg "tuple" = none := by assumption) (hg : Gl X "tuple" := by rfl) (hK : X.K = G.K := by rfl)
    (he : starEach (x :: xs) X.env = (false, eval x X.env) :: starEach xs X.env := by rfl) (hpl : (backTo pos (starEach xs X.env)).any (·.1) = false := by rfl) : PE X (.Call (.Name "tuple" pp) (x :: xs) [] pos) (tE G W OX O O1 (eN pTuple f)) :=
  e_cT pTuple call_tuple_of (fun σ F H r ds vs d Q S rs e q => by
    unfold pTuple at e
    split at e
    · obtain ⟨l, e1, e2⟩ := Option.map_eq_some_iff.mp e
      subst e2
      cases rs with
      | cons r1 rr =>
        cases rr
        rw [hK]
        obtain ⟨a, xs, rfl, hq, rl⟩ := r1.itemsF e1
        rcases hq with hq | hq
        · exact ⟨a, xs, rfl, .inl ⟨S.sub.sqL hq, fun p hp => q.fz S hp rfl fun F' hF sb => .tup (.inl (.inl hF)) (rl.mono sb)⟩⟩
        · exact ⟨a, xs, rfl, .inr ⟨S.sub.sqT hq, q.ok S (.tup hq rl)⟩⟩
    · cases e) ha hm (hg := hg) (he := he) (hpl := hpl)
theorem e_gcd {x : Expr} {xs : List Expr} {pp pos : Pos} {f : M (List D)} {nm : Str} (ha : PA X (x :: xs) (tA G W OX O O1 f)) (hm : X.mg nm = some (.builtin "math.gcd")) (hg : Gl X nm := by rfl) (hdb : (nm == ("__debug__" : Str)) = false := by decide)
    (he : starEach (x :: xs) X.env = (false, eval x X.env) :: starEach xs X.env := by rfl) (hpl : (backTo pos (starEach xs X.env)).any (·.1) = false := by rfl) : PE X (.Call (.Name nm pp) (x :: xs) [] pos) (tE G W OX O O1 (eN pGcd f)) :=
  e_cM pGcd cr_gcd (fun σ F H r ds vs d Q S rs e q => by
    unfold pGcd at e
    split at e
    · cases e
      cases rs with
      | cons r1 rr =>
        cases rr with
        | cons r2 rr => cases rr; cases r1; cases r2; exact ⟨_, _, rfl, q.ok S .int⟩
    · cases e) ha hm hg hdb he hpl
theorem e_max2 {x : Expr} {xs : List Expr} {pp pos : Pos} {f : M (List D)} (ha : PA X (x :: xs) (tA G W OX O O1 f)) (hm : X.mg "max" = none := by assumption) (hg : Gl X "max" := by rfl) (hc : X.calm = true := by rfl)
    (he : starEach (x :: xs) X.env = (false, eval x X.env) :: starEach xs X.env := by rfl) (hpl : (backTo pos (starEach xs X.env)).any (·.1) = false := by rfl) : PE X (.Call (.Name "max" pp) (x :: xs) [] pos) (tE G W OX O O1 (eN pMax2 f)) :=
  e_cB pMax2 (call_max2 hc) (fun σ F H r ds vs d Q S rs e q => by
    unfold pMax2 at e
    split at e
    · cases e
      cases rs with
      | cons r1 rr =>
        cases rr with
        | cons r2 rr => cases rr; cases r1; cases r2; exact ⟨_, _, rfl, q.ok S .int⟩
    · cases e) ha hm (hg := hg) (he := he) (hpl := hpl)
theorem e_min2 {x : Expr} {xs : List Expr} {pp pos : Pos} {f : M (List D)} (ha : PA X (x :: xs) (tA G W OX O O1 f)) (hm : X.mg "min" = none := by assumption) (hg : Gl X "min" := by rfl) (hc : X.calm = true := by rfl)
    (he : starEach (x :: xs) X.env = (false, eval x X.env) :: starEach xs X.env := by rfl) (hpl : (backTo pos (starEach xs X.env)).any (·.1) = false := by rfl) : PE X (.Call (.Name "min" pp) (x :: xs) [] pos) (tE G W OX O O1 (eN pMin2 f)) :=
  e_cB pMin2 (call_min2 hc) (fun σ F H r ds vs d Q S rs e q => by
    unfold pMin2 at e
    split at e
    · cases e
      cases rs with
      | cons r1 rr =>
        cases rr with
        | cons r2 rr => cases rr; cases r1; cases r2; exact ⟨_, _, rfl, q.ok S .int⟩
    · cases e) ha hm (hg := hg) (he := he) (hpl := hpl)
/-- list(e): a new list of this code's own -/
theorem e_listF {x : Expr} {xs : List Expr} {pp pos : Pos} {f : M (List D)} (ha : PA X (x :: xs) (tA G W OX O O1 f)) (hm : X.mg "list" = none := by assumption) (hg : Gl X "list" := by rfl) (hK : X.K = G.K := by rfl)
    (he : starEach (x :: xs) X.env = (false, eval x X.env) :: starEach xs X.env := by rfl) (hpl : (backTo pos (starEach xs X.env)).any (·.1) = false := by rfl) : PE X (.Call (.Name "list" pp) (x :: xs) [] pos) (tF G W OX O O1 (eN pList f)) :=
  (pe_callTy call_list_of hg hm (by decide +kernel) ha (by decide) (by decide) he hpl).imp fun σ H Q ⟨F, r, S, q⟩ => tX_bind S q fun ds vs F1 H1 r1 n1 rs q => by
    revert q
    cases e : pList ds with
    | none => exact fun q => q.elim
    | some d =>
      intro q
      unfold pList at e
      split at e
      · obtain ⟨l, e1, e2⟩ := Option.map_eq_some_iff.mp e
        subst e2
        cases rs with
        | cons r1 rr =>
          cases rr
          rw [hK]
          obtain ⟨a, ys, rfl, hq, rl⟩ := r1.items n1.sta.sub e1
          refine ⟨a, ys, rfl, hq, fun p hp => ?_⟩
          obtain ⟨S2, s2, fp⟩ := new_ow (o := .lst ys) n1.sta hp rfl
          refine q _ F1 _ (Nx.of S2 s2 fun _ h => h) ⟨.lst upd_same fp rl, fun b eb => ?_⟩
          cases eb
          refine ⟨n1.stp.tr _ hp, fun ⟨i, hi, ei⟩ => ?_⟩
          obtain ⟨d', v', _, e2', ow⟩ := n1.sta.ow i hi
          rw [ei] at e2'
          cases e2'
          obtain ⟨b, o, eb, hb⟩ := ow.there
          cases eb
          rw [hp] at hb
          cases hb
      · cases e

/-! ### isinstance -/
def tyN : D → Option String
  | .non => some "NoneType"
  | .bl _ => some "bool"
  | .int _ => some "int"
  | .str _ => some "str"
  | .tup _ => some "tuple"
  | .lst _ => some "list"
  | .kl _ => some "list"
  | .dic _ _ => some "dict"
  | .dkl _ _ => some "dict"
  | _ => none
def bTys : List String := ["int", "bool", "str", "list", "tuple", "dict"]
/-- isinstance by a built-in type -/
def kT (cls : List Nat) (n : String) (x : D) : Option Bool := match x with
  | .ob c _ => if cls.contains c then some false else none
  | x => (tyN x).map fun m => m == n || (m == "bool" && n == "int")
/-- .. by a class of the text: the classes that are of it -/
def kO (tb : List (Nat × Bool)) (x : D) : Option Bool := match x with
  | .ob c _ => tb.lookup c
  | x => (tyN x).map fun _ => false
def kAny (ks : List (D → Option Bool)) (x : D) : Option Bool := match ks with
  | [] => some false
  | k :: ks => (k x).bind fun b => if b then some true else kAny ks x
@[simp] def eIsi (k : D → Option Bool) (f : M D) : M D := fun r => (f r).bind fun x r1 => match k x with
  | some b => .ok (.bl b) r1
  | none => .no
structure TyOk (G : Gm) (c : Nat) : Prop where
  cl : Cls G.K (G.cA c)
  ha : PySem.W.findIn G.K (.ref (G.cA c)) "__class__" = some (some (.builtin "object.__class__"))
  hn : PySem.W.specialIn G.K (.builtin "object.__class__") "__get__" = some (some (.builtin "getset_descriptor.__get__"))
  ht : PySem.W.takesIn G.K (.builtin "object.__class__") = some true
  hm : PySem.W.mroIn G.K (G.cA c) (.type "object") = some true
/-- the tree's type -/
def tyV (G : Gm) : D → Option Value
  | .ob c _ => some (.ref (G.cA c))
  | x => (tyN x).map Value.type
theorem Rep.ty {F H : Hp} {x : D} {v : V} {t : Value} (sb : Sub F H) (h : Rep G F x v) (ht : ∀ c l, x = .ob c l → TyOk G c) (e : tyV G x = some t) : TyX G.K H v t := by
  cases h with
  | non => cases e; exact .base .non
  | bl => cases e; exact .base (.bl _)
  | int => cases e; exact .base (.int _)
  | str => cases e; exact .base (.str _)
  | tup h r =>
    cases e
    rcases sb.sqT h with (e | ⟨o, e⟩) | ⟨o, its, n, e, c, _⟩
    · exact .base (.tup e)
    · exact .fTuple e
    · exact .kTuple e c
  | lst h r =>
    cases e
    obtain ⟨o', e', g⟩ := sb _ _ h
    rw [g.lst] at e'
    exact .base (.lst e')
  | kl h r =>
    cases e
    rcases sb.sqL h with (e | ⟨o, e⟩) | ⟨o, its, n, e, c, _⟩
    · exact .base (.lst e)
    · exact .base (.frz e)
    · exact .kList e c
  | dic h _ r =>
    cases e
    obtain ⟨o', e', g⟩ := sb _ _ h
    rw [g.dK] at e'
    exact .base (.dK e')
  | dkl h _ r =>
    cases e
    obtain ⟨o', e', g⟩ := sb _ _ h
    rw [g.frz] at e'
    exact .fDict e'
  | @ob c l a dx xs more h hl r =>
    cases e
    obtain ⟨o', e', g⟩ := sb _ _ h
    obtain ⟨m, eo⟩ := g.ins
    subst eo
    have k := ht c l rfl
    exact .base (.ins e' k.cl k.ha k.hn k.ht k.hm)
/-- k answers isinstance(x, u) -/
structure Kn (G : Gm) (u : Value) (k : D → Option Bool) : Prop where
  at_ : ∀ x b, k x = some b → ∃ t, tyV G x = some t ∧ (∀ c l, x = .ob c l → TyOk G c) ∧ PySem.W.kitOne G.K t u = some b
theorem kitB_all : (allTy.all fun m => bTys.all fun n => kitB m n == some (m == n || (m == "bool" && n == "int"))) = true := by decide +kernel
theorem tyN_in {x : D} {m : String} (e : tyN x = some m) : m ∈ allTy := by
  cases x <;> simp [tyN] at e <;> subst e <;> decide
theorem tyV_of {x : D} {m : String} (e : tyN x = some m) : tyV G x = some (.type m) := by
  cases x <;> simp [tyN] at e <;> subst e <;> rfl
theorem kn_ty {n : String} (cls : List Nat) (hc : ∀ c ∈ cls, TyOk G c ∧ PySem.W.kitOne G.K (.ref (G.cA c)) (.type n) = some false) (hn : n ∈ bTys := by decide) : Kn G (.type n) (kT cls n) := ⟨fun x b e => by
  have key : ∀ m, tyN x = some m → (tyN x).map (fun m => m == n || (m == "bool" && n == "int")) = some b → ∃ t, tyV G x = some t ∧ (∀ c l, x = .ob c l → TyOk G c) ∧ PySem.W.kitOne G.K t (.type n) = some b := fun m e1 e => by
    rw [e1] at e
    refine ⟨.type m, tyV_of e1, fun c l z => (by subst z; cases e1), ?_⟩
    have h := List.all_eq_true.mp (List.all_eq_true.mp kitB_all m (tyN_in e1)) n hn
    rw [beq_iff_eq] at h
    exact (kit_ty h).trans e
  cases x with
  | ob c l =>
    unfold kT at e
    split at e
    · rename_i c' l' z
      cases z
      split at e
      · rename_i hm
        cases e
        obtain ⟨h1, h2⟩ := hc c (by simpa using hm)
        exact ⟨_, rfl, fun c' l' z => (by cases z; exact h1), h2⟩
      · cases e
    · rename_i h
      exact absurd rfl (h c l)
  | xo c l => cases e
  | non => exact key _ rfl e
  | bl b => exact key _ rfl e
  | int i => exact key _ rfl e
  | str s => exact key _ rfl e
  | tup l => exact key _ rfl e
  | lst l => exact key _ rfl e
  | kl l => exact key _ rfl e
  | dic ks l => exact key _ rfl e
  | dkl ks l => exact key _ rfl e⟩
theorem kn_own {k : Nat} (tb : List (Nat × Bool)) (hc : ∀ c b, tb.lookup c = some b → TyOk G c ∧ PySem.W.kitOne G.K (.ref (G.cA c)) (.ref (G.cA k)) = some b) (hb : ∀ m ∈ allTy, PySem.W.kitOne G.K (.type m) (.ref (G.cA k)) = some false) : Kn G (.ref (G.cA k)) (kO tb) := ⟨fun x b e => by
  have key : ∀ m, tyN x = some m → (tyN x).map (fun _ => false) = some b → ∃ t, tyV G x = some t ∧ (∀ c l, x = .ob c l → TyOk G c) ∧ PySem.W.kitOne G.K t (.ref (G.cA k)) = some b := fun m e1 e => by
    rw [e1] at e
    cases e
    exact ⟨.type m, tyV_of e1, fun c l z => (by subst z; cases e1), hb m (tyN_in e1)⟩
  cases x with
  | ob c l =>
    obtain ⟨h1, h2⟩ := hc c b e
    exact ⟨_, rfl, fun c' l' z => (by cases z; exact h1), h2⟩
  | xo c l => cases e
  | non => exact key _ rfl e
  | bl b => exact key _ rfl e
  | int i => exact key _ rfl e
  | str s => exact key _ rfl e
  | tup l => exact key _ rfl e
  | lst l => exact key _ rfl e
  | kl l => exact key _ rfl e
  | dic ks l => exact key _ rfl e
  | dkl ks l => exact key _ rfl e⟩
/-- the class in isinstance(x, C): its value -/
structure CVl (X : Cx) (c : Expr) (v : V) (u : Value) : Prop where
  pe : PE X c (tC v)
  cv : ClsV v u
theorem cv_ty {x : Str} {n : String} {pos : Pos} (hm : X.mg x = none := by assumption) (hv : bootBuiltins x = some (.type n) := by decide +kernel) (hg : Gl X x := by rfl) (hn : x ≠ "__name__" := by decide) (hdb : (x == ("__debug__" : Str)) = false := by decide) : CVl X (.Name x pos) (.ty n) (.type n) :=
  ⟨⟨fun pins s σ H Q I q => ld_blt I hg hm hv ⟨.ty n, H, I, rfl, q⟩ hn hdb⟩, .ty n⟩
theorem cv_own {x : Str} {C : Addr} {pos : Pos} (hm : X.mg x = some (.ref C)) (hg : Gl X x := by rfl) (hdb : (x == ("__debug__" : Str)) = false := by decide) : CVl X (.Name x pos) (.ref C) (.ref C) :=
  ⟨pe_glob hg hm rfl hdb, .own C⟩
theorem e_isi {e c : Expr} {pp pos : Pos} {f : M D} {v : V} {u : Value} {k : D → Option Bool} (he : PE X e (tE G W OX O O1 f)) (hc : CVl X c v u) (hk : Kn G u k) (hm : X.mg "isinstance" = none := by assumption) (hg : Gl X "isinstance" := by rfl) (hK : X.K = G.K := by rfl)
    (hs : starEach [e, c] X.env = (false, eval e X.env) :: starEach [c] X.env := by rfl) (hs2 : starEach [c] X.env = (false, eval c X.env) :: starEach [] X.env := by rfl) (hpl : (backTo pos (starEach [c] X.env)).any (·.1) = false := by rfl) :
    PE X (.Call (.Name "isinstance" pp) [e, c] [] pos) (tE G W OX O O1 (eIsi k f)) :=
  (pe_callB call_isi hg hm (by decide +kernel) (pa_cons he (pa_cons hc.pe pa_nil hs2) hs) (by decide) (by decide) hs hpl).imp fun σ H Q ⟨F, r, S, q⟩ => tX_bind S q fun x w F1 H1 r1 n1 rx q => by
    revert q
    cases e1 : k x with
    | none => exact fun q => q.elim
    | some b =>
      intro q
      obtain ⟨t, e2, e3, e4⟩ := hk.at_ x b e1
      rw [hK]
      exact ⟨w, v, t, u, b, rfl, hc.cv, rx.ty n1.sta.sub e3 e2, e4, q.ok n1.sta .bl⟩
/-- isinstance(x, (C, ..)) -/
structure CVs (G : Gm) (X : Cx) (cs : List Expr) (vs : List V) (us : List Value) (ks : List (D → Option Bool)) : Prop where
  pa : PA X cs (fun σ H Q => Q vs H)
  cv : Paired ClsV vs us
  kn : ∀ x b, kAny ks x = some b → cs ≠ [] → ∃ t, tyV G x = some t ∧ (∀ c l, x = .ob c l → TyOk G c) ∧ PySem.W.kitAny G.K t us = some b
theorem cvs_nil : CVs G X [] [] [] [] := ⟨pa_nil, .nil, fun _ _ _ z => absurd rfl z⟩
theorem cvs_cons {c : Expr} {cs : List Expr} {v : V} {vs : List V} {u : Value} {us : List Value} {k : D → Option Bool} {ks : List (D → Option Bool)} (h : CVl X c v u) (hk : Kn G u k) (ht : CVs G X cs vs us ks) (hs : starEach (c :: cs) X.env = (false, eval c X.env) :: starEach cs X.env := by rfl)
    (h0 : cs = [] → us = [] ∧ ks = [] := by first | exact fun _ => ⟨rfl, rfl⟩ | exact fun z => nomatch z) : CVs G X (c :: cs) (v :: vs) (u :: us) (k :: ks) := by
  refine ⟨pa_cons h.pe ht.pa hs, .cons h.cv ht.cv, fun x b e _ => ?_⟩
  unfold kAny at e
  obtain ⟨b1, e1, e2⟩ := Option.bind_eq_some_iff.mp e
  obtain ⟨t, h1, h2, h3⟩ := hk.at_ x b1 e1
  refine ⟨t, h1, h2, kitAny_cons h3 (fun z => ?_) fun z => ?_⟩
  · rw [if_neg (by simp [z])] at e2
    by_cases hc : cs = []
    · obtain ⟨q1, q2⟩ := h0 hc
      subst q1 q2
      cases e2
      exact kitAny_nil
    · obtain ⟨t', h4, _, h5⟩ := ht.kn x b e2 hc
      rw [h1] at h4
      cases h4
      exact h5
  · rw [if_pos z] at e2
    cases e2
    rfl
theorem e_isT {e c : Expr} {cs : List Expr} {kk : Nat} {pp pt pos : Pos} {f : M D} {v : List V} {u : List Value} {ks : List (D → Option Bool)} (he : PE X e (tE G W OX O O1 f)) (hc : CVs G X (c :: cs) v u ks) (hm : X.mg "isinstance" = none := by assumption) (hg : Gl X "isinstance" := by rfl) (hK : X.K = G.K := by rfl)
    (hz : v.length ≤ 64 := by decide)
    (hs : starEach [e, .Tuple (c :: cs) kk pt] X.env = (false, eval e X.env) :: starEach [.Tuple (c :: cs) kk pt] X.env := by rfl) (hs2 : starEach [.Tuple (c :: cs) kk pt] X.env = (false, eval (.Tuple (c :: cs) kk pt) X.env) :: starEach [] X.env := by rfl) (hpl : (backTo pos (starEach [.Tuple (c :: cs) kk pt] X.env)).any (·.1) = false := by rfl) :
    PE X (.Call (.Name "isinstance" pp) [e, .Tuple (c :: cs) kk pt] [] pos) (tE G W OX O O1 (eIsi (kAny ks) f)) :=
  have ht : PE X (.Tuple (c :: cs) kk pt) (fun σ H Q => ∀ p, H p = none → Q (.ref p) (upd H p (.tup v))) := (pe_tup hc.pa).imp fun σ H Q q => ⟨Nat.le_trans hz (by rw [sizeLine_eq]; decide), q⟩
  (pe_callB call_isiT hg hm (by decide +kernel) (pa_cons he (pa_cons ht pa_nil hs2) hs) (by decide) (by decide) hs hpl).imp fun σ H Q ⟨F, r, S, q⟩ => tX_bind S q fun x w F1 H1 r1 n1 rx q => by
    revert q
    cases e1 : kAny ks x with
    | none => exact fun q => q.elim
    | some b =>
      intro q p hp
      obtain ⟨t, e2, e3, e4⟩ := hc.kn x b e1 (fun z => nomatch z)
      obtain ⟨S2, s2⟩ := new_fz (o := .tup v) n1.sta hp rfl
      rw [hK]
      exact ⟨w, p, v, t, u, b, rfl, upd_same, hc.cv, (rx.mono s2.fz).ty S2.sub e3 e2, e4, q _ _ _ (Nx.of S2 s2 fun _ h => h) .bl⟩
end
end Z

/-! Assignment, attribute stores, own lists. -/
namespace Z
open PySem PySem.Spec PyProof.Rows L2

/-- target = value, several names -/
@[simp] def sTg (g : Tg) (f : M D) : M Fl := fun r => (f r).bind fun d r1 => match g d r1 with
  | some r2 => .ok .nx r2
  | none => .no
@[simp] def sPar (gs : List Tg) (f : M (List D)) : M Fl := fun r => (f r).bind fun ds r1 => match gTs gs ds r1 with
  | some r2 => .ok .nx r2
  | none => .no
/-- a new object of this code's own in a slot -/
@[simp] def sAsF (i : Nat) (f : M D) : M Fl := fun r => (f r).bind fun d r1 => if i < r1.length then .ok .nx (r1.set i (some d)) else .no
@[simp] def sFl (i : Nat) (tb : List (Nat × Nat)) (f : M D) : M Fl := fun r => (f r).bind fun d r1 => match r1[i]? with
  | some (some (.ob c l)) => (match tb.lookup c with
    | some j => if j = l.length then .ok .nx (r1.set i (some (.ob c (l ++ [d])))) else .no
    | none => .no)
  | _ => .no
def ixSet (l : List D) (y d : D) : Option (List D) := match y with
  | .int k => (ixN l.length k).map fun j => l.set j d
  | _ => none
@[simp] def sIx (i : Nat) (f g : M D) : M Fl := fun r => (f r).bind fun d r1 => (g r1).bind fun y r2 => match r2[i]? with
  | some (some (.lst l)) => (match ixSet l y d with
    | some m => .ok .nx (r2.set i (some (.lst m)))
    | none => .no)
  | _ => .no

section
variable {G : Gm} {X : Cx} {W : WX} {OX OL vs O O1 O2 O3 : List Nat}
theorem s_asg {tg e : Expr} {pos : Pos} {g : Tg} {f : M D} (he : PE X e (tE G W OX O O1 f)) (hg : PG X tg (tG G OX vs O1 O2 g)) (hs : swapsWithSole [tg] e pos.line X.env = pure false := by rfl) (hw : swappedStores [tg] e X.env = pure none := by rfl) (h1 : (assignEach [tg] X.env).map (·.2) = [assign tg X.env] := by rfl) :
    PS X (.Assign [tg] e pos) (tS G W OX OL O O2 (sTg g f)) :=
  (ps_asg he hg hs hw h1).imp fun Dn σ H ⟨F, r, S, p⟩ => tS_bind S p fun d v F1 H1 r1 n1 rd p => by
    revert p
    cases e1 : g d r1 with
    | none => exact fun p => p.elim
    | some r2 => exact fun p => ⟨F1, r1, d, r2, n1.sta, rd, e1, fun σ2 n2 _ => p σ2 F1 H1 n2⟩
theorem s_par2 {x y : Str} {a b : Expr} {px py pt pos : Pos} {kt k2 pt2} {f : M (List D)} (i j : Nat) (ha : PA X [a, b] (tA G W OX O O1 f)) (hx1 : i ∉ OX := by decide) (hx2 : j ∉ OX := by decide) (hij : i ≠ j := by decide) (hN : X.N.Nodup := by first | assumption | decide +kernel) (hi : X.N[i]? = some x := by rfl) (hj : X.N[j]? = some y := by rfl)
    (hx : X.env.scope.names.lookup x = some .local := by rfl) (hy : X.env.scope.names.lookup y = some .local := by rfl) (hc : X.calm = true := by rfl) (hw : swappedStores [.Tuple [.Name x px, .Name y py] kt pt] (.Tuple [a, b] k2 pt2) X.env = pure (some [x, y]) := by rfl)
    (hs : swapsWithSole [.Tuple [.Name x px, .Name y py] kt pt] (.Tuple [a, b] k2 pt2) pos.line X.env = pure false := by rfl) : PS X (.Assign [.Tuple [.Name x px, .Name y py] kt pt] (.Tuple [a, b] k2 pt2) pos) (tS G W OX OL O ((O1.filter (· != i)).filter (· != j)) (sPar [gN i, gN j] f)) :=
  (ps_par hc hN hi hj hij hx hy ha hw hs).imp fun Dn σ H ⟨F, r, S, p⟩ => tS_bind S p fun ds vs F1 H1 r1 n1 rs p => by
    match rs, p with
    | .cons ra (.cons rb .nil), p =>
      have m1 := nx_set (OX := OX) i n1.sta ra hx1
      have m2 := nx_set (OX := OX) j m1.sta rb hx2
      exact ⟨_, _, rfl, p _ _ _ (m1.trans m2)⟩
    | .nil, p => exact p.elim
    | .cons _ .nil, p => exact p.elim
    | .cons _ (.cons _ (.cons _ _)), p => exact p.elim
theorem s_par3 {x y z : Str} {a b c : Expr} {px py pz pt pos : Pos} {kt k2 pt2} {f : M (List D)} (i j l : Nat) (ha : PA X [a, b, c] (tA G W OX O O1 f)) (hx1 : i ∉ OX := by decide) (hx2 : j ∉ OX := by decide) (hx3 : l ∉ OX := by decide) (hij : i ≠ j := by decide) (hil : i ≠ l := by decide) (hjl : j ≠ l := by decide) (hN : X.N.Nodup := by first | assumption | decide +kernel) (hi : X.N[i]? = some x := by rfl) (hj : X.N[j]? = some y := by rfl) (hl : X.N[l]? = some z := by rfl)
    (hx : X.env.scope.names.lookup x = some .local := by rfl) (hy : X.env.scope.names.lookup y = some .local := by rfl) (hz : X.env.scope.names.lookup z = some .local := by rfl) (hc : X.calm = true := by rfl) (hw : swappedStores [.Tuple [.Name x px, .Name y py, .Name z pz] kt pt] (.Tuple [a, b, c] k2 pt2) X.env = pure (some [x, y, z]) := by rfl)
    (hs : swapsWithSole [.Tuple [.Name x px, .Name y py, .Name z pz] kt pt] (.Tuple [a, b, c] k2 pt2) pos.line X.env = pure false := by rfl) : PS X (.Assign [.Tuple [.Name x px, .Name y py, .Name z pz] kt pt] (.Tuple [a, b, c] k2 pt2) pos) (tS G W OX OL O (((O1.filter (· != i)).filter (· != j)).filter (· != l)) (sPar [gN i, gN j, gN l] f)) :=
  (ps_par3 hc hN hi hj hl hij hil hjl hx hy hz ha hw hs).imp fun Dn σ H ⟨F, r, S, p⟩ => tS_bind S p fun ds vs F1 H1 r1 n1 rs p => by
    match rs, p with
    | .cons ra (.cons rb (.cons rc .nil)), p =>
      have m1 := nx_set (OX := OX) i n1.sta ra hx1
      have m2 := nx_set (OX := OX) j m1.sta rb hx2
      have m3 := nx_set (OX := OX) l m2.sta rc hx3
      exact ⟨_, _, _, rfl, p _ _ _ ((m1.trans m2).trans m3)⟩
    | .nil, p => exact p.elim
    | .cons _ .nil, p => exact p.elim
    | .cons _ (.cons _ .nil), p => exact p.elim
    | .cons _ (.cons _ (.cons _ (.cons _ _))), p => exact p.elim
/-- a new object is bound -/
theorem own_set {σ : L2.St} {F H F1 H1 : Hp} {r1 : Ev} {d : D} {v : V} (i : Nat) (n1 : Nx G OX O O1 σ F H σ F1 H1 r1) (h : RF G O1 σ H F1 H1 d v) (hi : i < r1.length) (hx : i ∉ OX) : Nx G OX O (i :: O1.filter (· != i)) σ F H (σ.set i (some v)) F1 H1 (r1.set i (some d)) := by
  refine ⟨n1.sta.setOwn i h.1 hi fun a ea => (h.2 a ea).2, n1.stp, fun j hj => ?_, fun a m => ?_⟩
  · exact List.getElem?_set_ne (fun z : i = j => hx (by rw [z]; exact hj))
  · obtain ⟨j, hj, e⟩ := m
    by_cases q : i = j
    · subst q
      rw [List.getElem?_set_self (by rw [← n1.sta.len]; exact hi)] at e
      cases e
      exact .inr (h.2 a rfl).1
    · rcases List.mem_cons.mp hj with z | hj
      · exact absurd z.symm q
      rw [List.getElem?_set_ne q] at e
      exact n1.pv a ⟨j, (List.mem_filter.mp hj).1, e⟩
theorem asF_of {σ : L2.St} {H : Hp} {f : M D} {i : Nat} {Dn : Ends} (hx : i ∉ OX) (h : tS G W OX OL O (i :: O1.filter (· != i)) (sAsF i f) Dn σ H) : tF G W OX O O1 f σ H fun v H1 => Dn.nx (σ.set i (some v)) H1 := by
  obtain ⟨F, r, S, p⟩ := h
  refine ⟨F, r, S, ?_⟩
  simp only [sAsF] at p
  revert p
  cases f r with
  | no => exact fun p => p.elim
  | ex e q => exact fun p c dx F' H' n x => p c dx σ F' H' n x
  | ok d r1 =>
    intro p v F1 H1 n1 rf
    have p : PstS G W OX OL O (i :: O1.filter (· != i)) σ F H Dn (if i < r1.length then .ok .nx (r1.set i (some d)) else .no) := p
    split at p
    · rename_i hi
      exact p _ _ _ (own_set i n1 rf hi hx)
    · exact p.elim
theorem s_setF {x : Str} {e : Expr} {pos pos' : Pos} {f : M D} (i : Nat) (he : PE X e (tF G W OX O O1 f)) (hx : i ∉ OX := by decide) (hN : X.N.Nodup := by first | assumption | decide +kernel) (hi : X.N[i]? = some x := by rfl) (hl : Loc X.env.scope x := by first | exact Or.inl rfl | exact Or.inr rfl)
    (hs : swapsWith e (some (.Name x pos')) pos.line X.env = pure false := by rfl) (hf : X.fn x = true ∨ X.env.scope.names.lookup x = some .local := by first | exact .inl rfl | exact .inr rfl | assumption) :
    PS X (.Assign [.Name x pos'] e pos) (tS G W OX OL O (i :: O1.filter (· != i)) (sAsF i f)) :=
  (ps_set hN hi hl he hs hf).imp fun Dn σ H h => asF_of hx h
/-- name = [.. for ..] on one line -/
theorem s_setLcF {x : Str} {pos' : Pos} {elt tg iter : Expr} {ifs : List Expr} {scope : Scope} {pos spos : Pos} {it : M (List D)} {g : Tg} {t : M Bool} {f : M D} (i : Nat) (own : List (Str × Nat)) (hvs : own.map (·.2) = vs) (hi : PI X tg iter (iIt G W OX O O1 it)) (ok : BlkOk X.N X.env.scope scope own)
    (hg : ∀ (s : Shared) (H : Hp) (C : Addr) (cl : List (Str × Addr)) (fp : List Addr), PG (X.blk s H scope (compEnvC scope cl C X.env) fp) tg (tG G [] vs O1 O1 g)) (ht : ∀ (s : Shared) (H : Hp) (C : Addr) (cl : List (Str × Addr)) (fp : List Addr), PTs (X.blk s H scope (compEnvC scope cl C X.env) fp) ifs (tT G (fun _ _ _ _ => False) [] O1 O1 t))
    (he : ∀ (s : Shared) (H : Hp) (C : Addr) (cl : List (Str × Addr)) (fp : List Addr), PE (X.blk s H scope (compEnvC scope cl C X.env) fp) elt (tE G (fun _ _ _ _ => False) [] O1 O1 f)) (hsw : swapsWith (.ListComp elt [⟨tg, iter, ifs, 0⟩] scope pos) (some (.Name x pos')) spos.line X.env = pure true := by rfl) (hx : i ∉ OX := by decide) (hN : X.N.Nodup := by first | assumption | decide +kernel) (hy : X.N[i]? = some x := by rfl)
    (hyl : X.env.scope.names.lookup x = some .local := by rfl) (hd : ∀ i ∈ vs, i ∉ O1 := by decide) (hc : X.calm = true := by rfl) (hs : ∀ x, foldedSetIterable iter X.env x = pure x := by intro _; rfl) :
    PS X (.Assign [.Name x pos'] (.ListComp elt [⟨tg, iter, ifs, 0⟩] scope pos) spos) (tS G W OX OL O (i :: O1.filter (· != i)) (sAsF i (eLc vs it g t f))) :=
  (ps_setLc hc hN hy hyl hsw hi ok hg ht he hs).imp fun Dn σ H h => lc_imp hvs hd σ H _ (asF_of hx h)
theorem s_setLc {x : Str} {pos' : Pos} {elt tg iter : Expr} {ifs : List Expr} {scope : Scope} {pos spos : Pos} {it : M (List D)} {g : Tg} {t : M Bool} {f : M D} (i : Nat) (own : List (Str × Nat)) (hvs : own.map (·.2) = vs) (hi : PI X tg iter (iIt G W OX O O1 it)) (ok : BlkOk X.N X.env.scope scope own)
    (hg : ∀ (s : Shared) (H : Hp) (C : Addr) (cl : List (Str × Addr)) (fp : List Addr), PG (X.blk s H scope (compEnvC scope cl C X.env) fp) tg (tG G [] vs O1 O1 g)) (ht : ∀ (s : Shared) (H : Hp) (C : Addr) (cl : List (Str × Addr)) (fp : List Addr), PTs (X.blk s H scope (compEnvC scope cl C X.env) fp) ifs (tT G (fun _ _ _ _ => False) [] O1 O1 t))
    (he : ∀ (s : Shared) (H : Hp) (C : Addr) (cl : List (Str × Addr)) (fp : List Addr), PE (X.blk s H scope (compEnvC scope cl C X.env) fp) elt (tE G (fun _ _ _ _ => False) [] O1 O1 f)) (hsw : swapsWith (.ListComp elt [⟨tg, iter, ifs, 0⟩] scope pos) (some (.Name x pos')) spos.line X.env = pure true := by rfl) (hx : i ∉ OX := by decide) (hN : X.N.Nodup := by first | assumption | decide +kernel) (hy : X.N[i]? = some x := by rfl)
    (hyl : X.env.scope.names.lookup x = some .local := by rfl) (hd : ∀ i ∈ vs, i ∉ O1 := by decide) (hc : X.calm = true := by rfl) (hs : ∀ x, foldedSetIterable iter X.env x = pure x := by intro _; rfl) :
    PS X (.Assign [.Name x pos'] (.ListComp elt [⟨tg, iter, ifs, 0⟩] scope pos) spos) (tS G W OX OL O (O1.filter (· != i)) (sAs i (eLc vs it g t f))) :=
  (ps_setLc hc hN hy hyl hsw hi ok hg ht he hs).imp fun Dn σ H ⟨F, r, S, p⟩ => lc_imp hvs hd σ H _ (ffz (tS_bind S p fun d v F1 H1 r1 n1 rd p => p _ F1 H1 (nx_set i n1.sta rd hx)))
/-- an owned object is written -/
theorem Sta.wr {σ : L2.St} {F H : Hp} {r : Ev} {a : Addr} {o' : HO} {d' : D} (S : Sta G O F H σ r) {i : Nat} (hi : i ∈ O) (ev : σ[i]? = some (some (.ref a))) (ho : Own G F (upd H a o') d' (.ref a)) (sb : Sub F (upd H a o')) (wf : Wf G (upd H a o')) :
    Nx G OX O O σ F H σ F (upd H a o') (r.set i (some d')) := by
  have st : Stp (fun x => x = a) F H F (upd H a o') := ⟨.rfl', fun b u e n => by rw [upd_ne n]; exact e, fun _ _ _ _ => rfl, fun _ e => upd_none e⟩
  have hl : i < r.length := by
    obtain ⟨d, _, e, _⟩ := S.ow i hi
    exact (List.getElem?_eq_some_iff.mp e).1
  refine Nx.of ⟨sb, wf, by simp [S.len], fun j d hj e => ?_, fun j hj => ?_, S.dj⟩ (st.weak fun x z => ⟨i, hi, by rw [z]; exact ev⟩) fun _ h => h
  · rw [List.getElem?_set_ne (fun z : i = j => hj (z ▸ hi))] at e
    exact S.rp j d hj e
  · by_cases q : i = j
    · subst q
      exact ⟨d', .ref a, List.getElem?_set_self hl, ev, ho⟩
    · obtain ⟨dj, vj, e1, e2, oj⟩ := S.ow j hj
      exact ⟨dj, vj, by rw [List.getElem?_set_ne q]; exact e1, e2, oj.mono st fun b eb z => q (S.dj i j a hi hj ev (by rw [e2, eb, z]))⟩
theorem sub_wr {F H : Hp} {a : Addr} {o' : HO} (sb : Sub F H) (hf : F a = none) : Sub F (upd H a o') := fun b u e => by
  obtain ⟨o, e', g⟩ := sb b u e
  exact ⟨o, by rw [upd_ne fun z => (by rw [z, hf] at e; cases e)]; exact e', g⟩
theorem s_ix {x : Str} {b e : Expr} {pos pos' px : Pos} {f g : M D} (i : Nat) (he : PE X e (tE G W OX O O1 f)) (hb : PE X b (tE G W OX O1 O2 g)) (hO : i ∈ O1 := by decide) (hi : i ∈ O2 := by decide) (hN : X.N[i]? = some x := by rfl) (hv : Vis X.env.scope x := by first | exact Or.inl rfl | exact Or.inr (Or.inl rfl) | exact Or.inr (Or.inr rfl))
    (hd : (x == ("__debug__" : Str)) = false := by decide) (hcd : (x == ("__classdict__" : Str)) = false := by decide) (ha : ∀ v, assign (.Subscript (.Name x px) b pos') X.env v = (do
      let ov ← holding [v] (eval (.Name x px) X.env)
      let iv ← holding [v, ov] (eval b X.env)
      standAt pos'
      holding [v, ov, iv] (setItem ov iv v)
      release [v, ov, iv] []) := by intros; rfl) (hs : swapsWithSole [.Subscript (.Name x px) b pos'] e pos.line X.env = pure false := by rfl) (hw : swappedStores [.Subscript (.Name x px) b pos'] e X.env = pure none := by rfl) (h1 : (assignEach [.Subscript (.Name x px) b pos'] X.env).map (·.2) = [assign (.Subscript (.Name x px) b pos') X.env] := by rfl) :
    PS X (.Assign [.Subscript (.Name x px) b pos'] e pos) (tS G W OX OL O O2 (sIx i f g)) :=
  (ps_asg he (pg_sub (pe_var hN hv hd hcd) hb set_list ha) hs hw h1).imp fun Dn σ H ⟨F, r, S, p⟩ => tS_bind S p fun d v F1 H1 r1 n1 rd p => by
    obtain ⟨d0, v0, e1, e2, o0⟩ := n1.sta.ow i hO
    refine ⟨v0, e2, tS_bind n1.sta p fun y w F2 H2 r2 n2 ry p => ?_⟩
    revert p
    split
    · rename_i l e3
      intro p
      obtain ⟨v1, e4, o⟩ := n2.sta.own_at hi e3
      rw [e2] at e4
      cases e4
      revert p
      cases em : ixSet l y d with
      | none => exact fun p => p.elim
      | some m =>
        intro p
        unfold ixSet at em
        split at em
        · obtain ⟨j, e5, e6⟩ := Option.map_eq_some_iff.mp em
          subst e6
          cases ry
          cases o with
          | @lst _ a xs h hf rr =>
            refine ⟨a, xs, _, j, rfl, rfl, h, by rw [← rr.length]; exact e5, p _ _ _ (n2.sta.wr hi e2 (.lst upd_same hf (rr.set (rd.mono n2.stp.fz) j)) (sub_wr n2.sta.sub hf) (n2.sta.wf.upd rfl))⟩
        · cases em
    · exact fun p => p.elim
theorem putF_zip : ∀ {lay : List Str} {xs : List V} {f : Str} {y : V}, lay.Nodup → lay[xs.length]? = some f → putF f y (lay.zip xs) = lay.zip (xs ++ [y])
  | [], _, _, _, _, e => by simp at e
  | a :: lay, [], f, y, nd, e => by
    simp at e
    subst e
    simp [putF]
  | a :: lay, x :: xs, f, y, nd, e => by
    have e : lay[xs.length]? = some f := by simpa using e
    have hne : ¬ a = f := fun z => (List.nodup_cons.mp nd).1 (by rw [z]; exact List.mem_of_getElem? e)
    rw [List.zip_cons_cons, putF, if_neg hne, List.cons_append, List.zip_cons_cons, putF_zip (List.nodup_cons.mp nd).2 e]
theorem lookup_zip : ∀ {lay : List Str} {xs : List V} {g : Str}, (lay.zip xs).lookup g ≠ none → g ∈ lay
  | [], _, _, h => absurd rfl h
  | _ :: _, [], _, h => absurd rfl h
  | a :: lay, x :: xs, g, h => by
    rw [List.zip_cons_cons, List.lookup_cons] at h
    split at h
    · rename_i q
      rw [beq_iff_eq.mp q]
      exact List.mem_cons_self
    · exact List.mem_cons_of_mem _ (lookup_zip h)
theorem s_fld {x f : Str} {e : Expr} {pos pos' px : Pos} {h : M D} (i : Nat) (tb : List (Nat × Nat)) (he : PE X e (tE G W OX O O1 h)) (ht : ∀ c j, tb.lookup c = some j → ClsOk G c ∧ (G.lay c)[j]? = some f) (hO : i ∈ O1 := by decide) (hK : X.K = G.K := by rfl) (hN : X.N[i]? = some x := by rfl) (hv : Vis X.env.scope x := by first | exact Or.inl rfl | exact Or.inr (Or.inl rfl) | exact Or.inr (Or.inr rfl))
    (hd : (x == ("__debug__" : Str)) = false := by decide) (hcd : (x == ("__classdict__" : Str)) = false := by decide) (hs : swapsWith e (some (.Attribute (.Name x px) f pos')) pos.line X.env = pure false := by rfl) : PS X (.Assign [.Attribute (.Name x px) f pos'] e pos) (tS G W OX OL O O1 (sFl i tb h)) :=
  (ps_fld (pe_var hN hv hd hcd) he hs).imp fun Dn σ H ⟨F, r, S, p⟩ => tS_bind S p fun d y F1 H1 r1 n1 rd p => by
    obtain ⟨d0, v0, e1, e2, o⟩ := n1.sta.ow i hO
    refine ⟨v0, e2, ?_⟩
    rw [e1] at p
    cases o with
    | @ob c l a dx xs hh hf hl rr =>
      revert p
      simp only
      cases e3 : tb.lookup c with
      | none => exact fun p => p.elim
      | some j =>
        obtain ⟨co, hj⟩ := ht c j e3
        intro p
        have p : PstS G W OX OL O1 O1 σ F1 H1 Dn (if j = l.length then .ok .nx (r1.set i (some (.ob c (l ++ [d])))) else .no) := p
        split at p
        · rename_i hl2
          rw [hl2, rr.length] at hj
          have hlt : xs.length < (G.lay c).length := (List.getElem?_eq_some_iff.mp hj).1
          have few := co.few
          have z := putF_zip (y := y) co.nd hj
          rw [hK]
          refine ⟨a, _, dx, _, rfl, hh, co.cl, co.na f (List.mem_of_getElem? hj), by simp; omega, ?_⟩
          rw [z]
          have ho : Own G F1 (upd H1 a (.ins (G.cA c) dx ((G.lay c).zip (xs ++ [y])))) (.ob c (l ++ [d])) (.ref a) := by
            refine .ob upd_same ?_ (by simp; omega) (rr.app (.cons rd .nil))
            rcases hf with hf | ⟨hi, n, hf⟩
            · exact .inl hf
            · refine .inr ⟨hi, min n xs.length, ?_⟩
              rw [hf]
              congr 3
              rw [List.take_append_of_le_length (Nat.min_le_right _ _), ← List.take_eq_take_min]
          refine p _ _ _ (n1.sta.wr hO e2 ho (fun b u eb => ?_) fun b C d2 fs g eb hg => ?_)
          · by_cases q : b = a
            · subst q
              refine ⟨_, upd_same, ?_⟩
              rcases hf with hf | ⟨hi, n, hf⟩
              · rw [hf] at eb
                cases eb
              · rw [hf] at eb
                cases eb
                obtain ⟨more, em⟩ := zip_pre (G.lay c) (xs ++ [y]) (min n xs.length)
                refine .inr ⟨_, _, _, more, rfl, ?_⟩
                rw [em, List.take_append_of_le_length (Nat.min_le_right _ _), ← List.take_eq_take_min]
            · obtain ⟨o2, e4, gr⟩ := n1.sta.sub b u eb
              exact ⟨o2, by rw [upd_ne q]; exact e4, gr⟩
          · by_cases q : b = a
            · subst q
              rw [upd_same] at eb
              cases eb
              exact co.sub _ (lookup_zip hg)
            · rw [upd_ne q] at eb
              exact n1.sta.wf b C d2 fs g eb hg
        · exact p.elim
    | lst => exact p.elim
    | dic => exact p.elim
end
end Z

/-! The text's own operators. -/
namespace Z
open PySem PySem.Spec PyProof.Rows L2

/-- the right value's kind is one of these -/
def rk (ts : List String) (cs : List Nat) (y : D) : Bool := match y with
  | .ob c _ => cs.contains c
  | y => match tyN y with
    | some m => ts.contains m
    | none => false
/-- x op y by the left one's class; else a plain operation -/
def oW (tb : List (Nat × Beh)) (ts : List String) (cs : List Nat) (p : D → D → Option D) (x y : D) (r : Ev) : Out D := match x with
  | .ob c l => if rk ts cs y then (match tb.lookup c with
    | some B => out0 (B [.ob c l, y]) r
    | none => .no) else .no
  | _ => liftO (p x y) r
def negO : Out D → Out D
  | .ok (.bl b) r => .ok (.bl (!b)) r
  | .ex e r => .ex e r
  | _ => .no
/-- x != y by the left one's == -/
def oNW (tb : List (Nat × Beh)) (ts : List String) (cs : List Nat) (p : D → D → Option D) (x y : D) (r : Ev) : Out D := match x with
  | .ob c l => if rk ts cs y then (match tb.lookup c with
    | some B => negO (out0 (B [.ob c l, y]) r)
    | none => .no) else .no
  | _ => liftO (p x y) r

section
variable {prog : Program} {w : World} {M : Model} {A : Around} {E : Value → Shared → Prop} {s : Shared} {K : PySem.W.Frag} {x C C2 L f g : Addr} {h₀ : Heap} {m : Str → Option Value} {ox : Obj} {od : Option Obj} {nm : String}
open PySem.W in
/-- x op b, b an instance of another class that has the operator too -/
theorem bin_two {op : Operator} {b : Value} {rc rc2 : Option Value} {Q : Value → Shared → Prop} (F : Fr h₀ L s.heap m) (X₀ : K.In h₀) (I : InstAt s.heap x ox C od) (hb : Looks (model prog w) s.heap (typeOf b) (.ref C2)) (hne : C ≠ C2) (hc : selfFirst K C = true) (hc2 : selfFirst K C2 = true)
    (hs : findIn K (.ref C) (PySem.dunder op.info.2) = some (some (.ref f))) (hf : isFn K (.ref f) = true) (hr : findIn K (.ref C) (dunderR op.info.2) = some rc) (hp : rc = none ∨ ∃ g : Addr, rc = some (.ref g))
    (hs2 : findIn K (.ref C2) (PySem.dunder op.info.2) = some (some (.ref g))) (hr2 : findIn K (.ref C2) (dunderR op.info.2) = some rc2) (hp2 : rc2 = none ∨ ∃ g : Addr, rc2 = some (.ref g)) (hsub : subIn K (.ref C2) (.ref C) = some false)
    (h : wpAny (model prog w) A (call (.ref f) [.ref x, b]) (PySem.W.CmpBack Q) E s) : wpAny (model prog w) A (binaryOp op (.ref x) b) Q E s := by
  have X := X₀.keeps F.keep
  obtain ⟨cd, rest, hcd, hm⟩ := ksp_first hc
  obtain ⟨cd2, rest2, hcd2, hm2⟩ := ksp_first hc2
  rcases hi : op.info with ⟨sym, nm'⟩
  rw [hi] at hs hr hs2 hr2
  dsimp only at hs hr hs2 hr2
  have one := ksp_try X I hs hf h
  obtain ⟨hh, g', d, tt, os⟩ := s
  have L1 : Looks (model prog w) hh (typeOf (.ref x)) (.ref C) := I.type
  have L2 : Looks (model prog w) hh (typeOf b) (.ref C2) := hb
  have L3 : Looks (model prog w) hh (fillsNumberSlot (.ref C) nm') true := fills_K X hcd hm hs
  have L4 : Looks (model prog w) hh (fillsNumberSlot (.ref C2) nm') true := fills_K X hcd2 hm2 hs2
  have L5 : Looks (model prog w) hh (isSubtype (.ref C2) (.ref C)) false := looks_subIn X hsub
  have L6 : Looks (model prog w) hh (numberSlotInPython (.ref C) nm') true := ksp_inPy X hs hr hp
  have L7 : Looks (model prog w) hh (numberSlotInPython (.ref C2) nm') true := ksp_inPy X hs2 hr2 hp2
  have hne' : (Value.ref C == Value.ref C2) = false := Bool.eq_false_iff.mpr fun q => hne (by cases beq_iff_eq.mp q; rfl)
  simp only [binaryOp, hi]
  refine wpAny_holding (wpAny_bind ?_)
  unfold binaryOp1
  refine wpAny_bind (L1.at (wpAny_bind (L2.at (wpAny_bind (L3.at ?_)))))
  simp only [hne', Bool.false_eq_true, if_false]
  ksp_lk
  refine wpAny_mono one (fun r s' hr' => ?_) fun _ _ e => e
  obtain ⟨v, rfl, hq⟩ := hr'
  ksp_lk
  exact hq
open PySem.W in
theorem if_bound_ne {args : List Value} {Q : Option Value → Shared → Prop} (X : K.In s.heap) (I : InstAt s.heap x ox C od) (hs : findIn K (.ref C) "__ne__" = some (some (.builtin "object.__ne__")))
    (h : wpAny M A (call (.builtin "object.__ne__") (.ref x :: args)) (fun v => Q (some v)) E s) : wpAny M A (callSpecialIfBound? (.ref x) "__ne__" args) Q E s := by
  simp only [callSpecialIfBound?, bindSpecialIfBound?]
  refine wpAny_holding (wpAny_bind (wpAny_bind (wpAny_bind (I.type.here ((looks_findIn X hs).here ?_)))))
  have fin : wpAny M A (call (.builtin "object.__ne__") ([.ref x] ++ args) >>= fun v => pure (some v)) Q E s := wpAny_bind (wpAny_mono h (fun v s1 z => wpAny_pure z) fun _ _ z => z)
  refine wpAny_bind (wpAny_askSetting (wpAny_ite ?_))
  split
  · exact wpAny_bind (wpAny_of_eq (F.cmp_object.ne.bind _) (wpAny_pure (by exact fin)))
  · exact wpAny_tryCatch (wpAny_bind (wpAny_of_eq (F.cmp_object.ne.bind _) (wpAny_pure (by exact fin))))
open PySem.W in
/-- x != b by __eq__ -/
theorem ne_own {b tb : Value} {Q : Value → Shared → Prop} (hu : A.units + 1 < cLine) (Fq : Fr h₀ L s.heap m) (X₀ : K.In h₀) (I : InstAt s.heap x ox C od) (hb : Looks (model prog w) s.heap (typeOf b) tb) (hn : notFirst K C tb = true) (hm : mroIn K C (.type "object") = some true)
    (hne : findIn K (.ref C) "__ne__" = some (some (.builtin "object.__ne__"))) (hs : findIn K (.ref C) "__eq__" = some (some (.ref f))) (hf : isFn K (.ref f) = true)
    (h : wpAny (model prog w) A.in1 (call (.ref f) [.ref x, b]) (fun v s' => ∃ z, v = .bool z ∧ Q (.bool (!z)) s') E s) : wpAny (model prog w) A (richCompare .NotEq (.ref x) b) Q E s := by
  have X := X₀.keeps Fq.keep
  have back : wpAny (model prog w) A.in1 (callSpecialIfBound? (.ref x) "__eq__" [b]) (fun r s' => ∃ z, r = some (.bool z) ∧ Q (.bool (!z)) s') E s :=
    ifBound_K (args := [b]) X I hs hf (wpAny_mono h (fun v s' ⟨z, e, q⟩ => ⟨z, by rw [e], q⟩) fun _ _ e => e)
  have entry : wpAny (model prog w) A.in1 (Builtin.«object.__ne__» ⟨[.ref x, b], []⟩) (GQ.FinOf prog w A ((fun (Q : Value → Shared → Prop) (E : Value → Shared → Prop) (r : Result) (s' : Shared) => match r with | .ok (.ret v) => Q v s' | .ok _ => False | .error e => E e s') (fun v s' => v ≠ .notImplemented ∧ Q v s') E)) (fun e s' => (fun (Q : Value → Shared → Prop) (E : Value → Shared → Prop) (r : Result) (s' : Shared) => match r with | .ok (.ret v) => Q v s' | .ok _ => False | .error e => E e s') (fun v s' => v ≠ .notImplemented ∧ Q v s') E (.error e) s') s := by
    have fin : ∀ (z : Bool) (s' : Shared), Q (.bool (!z)) s' → GQ.FinOf prog w A ((fun (Q : Value → Shared → Prop) (E : Value → Shared → Prop) (r : Result) (s' : Shared) => match r with | .ok (.ret v) => Q v s' | .ok _ => False | .error e => E e s') (fun v s' => v ≠ .notImplemented ∧ Q v s') E) (.done (.ret (.bool (!z)))) s' := fun z s' q => ⟨(fun y => nomatch y), q⟩
    generalize GQ.FinOf prog w A ((fun (Q : Value → Shared → Prop) (E : Value → Shared → Prop) (r : Result) (s' : Shared) => match r with | .ok (.ret v) => Q v s' | .ok _ => False | .error e => E e s') (fun v s' => v ≠ .notImplemented ∧ Q v s') E) = Rf at fin ⊢
    have back' : wpAny (model prog w) A.in1 (callSpecialIfBound? (.ref x) "__eq__" [b]) (fun r s' => ∃ z, r = some (.bool z) ∧ Q (.bool (!z)) s') (fun e s' => (fun (Q : Value → Shared → Prop) (E : Value → Shared → Prop) (r : Result) (s' : Shared) => match r with | .ok (.ret v) => Q v s' | .ok _ => False | .error e => E e s') (fun v s' => v ≠ .notImplemented ∧ Q v s') E (.error e) s') s := back
    generalize (fun e s' => (fun (Q : Value → Shared → Prop) (E : Value → Shared → Prop) (r : Result) (s' : Shared) => match r with | .ok (.ret v) => Q v s' | .ok _ => False | .error e => E e s') (fun v s' => v ≠ .notImplemented ∧ Q v s') E (.error e) s') = Ef at back' ⊢
    obtain ⟨hh, g', d, tt, os⟩ := s
    unfold Builtin.«object.__ne__»
    repeat (first
      | with_reducible refine wpAny_cRoomFor hu ?_
      | (refine wpAny_bind (m := callSpecialIfBound? (.ref x) (Str.ofString "__eq__") [b]) (wpAny_mono back' (fun r s' hr => by
          obtain ⟨z, rfl, hq⟩ := hr
          repeat (first | exact fin _ _ hq | exact wpAny_pure (fin _ _ hq) | exact wpAny_truthy_bool (fin _ _ hq) | (refine wpAny_bind (m := truthy (.bool _)) (wpAny_truthy_bool ?_)) | wp_step)) fun _ _ e => e))
      | wp_step)
  have called : wpAny (model prog w) A (call (.builtin "object.__ne__") [.ref x, b]) (fun v s' => v ≠ .notImplemented ∧ Q v s') E s :=
    wpAny_call (codeAny_call_builtin F.cmp_object.ne.plain F.cmpEntry_ne (PySem.W.check_slot F.cmpKind_ne F.cmpSplit_ne (I.type.andThen (PySem.W.looks_mroIn X hm)) (F.cmpArgs_ne _ _) entry))
  have one : wpAny (model prog w) A (tryCompare (.ref x) "__ne__" b) (fun r s' => ∃ v, r = some v ∧ Q v s') E s := by
    unfold tryCompare
    refine wpAny_bind (if_bound_ne X I hne (wpAny_mono called (fun v s' hv => ?_) fun _ _ e => e))
    obtain ⟨h1, h2⟩ := hv
    cases v <;> first | exact absurd rfl h1 | exact wpAny_pure ⟨_, rfl, h2⟩
  unfold richCompare
  simp only [oneThing_ref]
  refine wpAny_holding (wpAny_bind (wpAny_cRoomFor (Nat.lt_of_succ_lt hu) ?_))
  refine wpAny_bind (I.type.here (wpAny_bind (hb.here ?_)))
  split
  · rename_i q
    have e : subIn K tb (.ref C) = some false := by
      rcases Bool.or_eq_true_iff.mp hn with e | e
      · rw [beq_iff_eq.mp e] at q
        simp at q
      · exact beq_iff_eq.mp e
    refine wpAny_bind ((looks_subIn X e).here ?_)
    simp only [Bool.false_eq_true, if_false]
    refine wpAny_bind (wpAny_mono one (fun r s' z => ?_) fun _ _ e => e)
    obtain ⟨v, rfl, hq⟩ := z
    exact wpAny_pure hq
  · refine wpAny_bind (wpAny_pure ?_)
    simp only [Bool.false_eq_true, if_false]
    refine wpAny_bind (wpAny_mono one (fun r s' z => ?_) fun _ _ e => e)
    obtain ⟨v, rfl, hq⟩ := z
    exact wpAny_pure hq
end

def flat4 : List String := ["int", "bool", "str", "NoneType"]
/-- a class's own def for an operator of two values -/
structure OwnOk (G : Gm) (P : Program) (w : World) (mg : Str → Option Value) (base : Heap) (k : Nat) (dn : Str) (c : Nat) (B : Beh) (f : Addr) (fd : FuncData) (ps : List Str) (n : Nat) : Prop where
  at_ : PySem.W.findIn G.K (.ref (G.cA c)) dn = some (some (.ref f))
  isf : PySem.W.isFn G.K (.ref f) = true
  fn : FnB P w G mg base k f fd ps n [] B
  bd : Binds G.K fd ps []
  ar : ∀ ds, ds.length ≠ n → B ds = .no
/-- what else the binary operators ask -/
structure BinOk (G : Gm) (dn dr : Str) (ts : List String) (cs : List Nat) (c : Nat) : Prop where
  sf : PySem.W.selfFirst G.K (G.cA c) = true
  rc : ∃ rc, PySem.W.findIn G.K (.ref (G.cA c)) dr = some rc ∧ (rc = none ∨ ∃ g : Addr, rc = some (.ref g))
  ty : ∀ T ∈ ts, T ∈ flat4 ∧ (∃ fo ro, PySem.W.findIn G.K (.type T) dn = some fo ∧ PySem.W.findIn G.K (.type T) dr = some ro) ∧ PySem.W.subIn G.K (.type T) (.ref (G.cA c)) = some false
  ot : ∀ d ∈ cs, d = c ∨ (G.cA c ≠ G.cA d ∧ PySem.W.selfFirst G.K (G.cA d) = true ∧ (∃ g : Addr, PySem.W.findIn G.K (.ref (G.cA d)) dn = some (some (.ref g))) ∧ (∃ rc, PySem.W.findIn G.K (.ref (G.cA d)) dr = some rc ∧ (rc = none ∨ ∃ g : Addr, rc = some (.ref g))) ∧
    PySem.W.subIn G.K (.ref (G.cA d)) (.ref (G.cA c)) = some false)
/-- .. the comparisons -/
structure CmpOk (G : Gm) (ts : List String) (cs : List Nat) (c : Nat) : Prop where
  ty : ∀ T ∈ ts, T ∈ flat4 ∧ PySem.W.notFirst G.K (G.cA c) (.type T) = true
  ot : ∀ d ∈ cs, PySem.W.notFirst G.K (G.cA c) (.ref (G.cA d)) = true
section
variable {G : Gm} {X : Cx} {W : WX} {OX OL vs O O1 O2 O3 : List Nat}
theorem run_At {A : Around} {k : Nat} {f : Addr} {fd : FuncData} {ps : List Str} {n : Nat} {B : Beh} {pins : List (Addr × Obj)} {σ : L2.St} {H : Hp} {s : Shared} {Q : VK} {us : List Value} {vs : List V} (sb : L2.Sub X k A) (tk : Takes X W) (Fk : FnOk X.prog X.w X.K X.mg X.base (L2.CX X.prog X.w) k f fd ps (spB G n [] B))
    (hb : Binds X.K fd ps []) (I : Inv X pins σ H s) (r : Vals vs us) (h : spB G n [] B vs H Q (fun c dx H' => W c dx σ H')) : wpAny (model X.prog X.w) A (call (.ref f) us) (EP X pins σ Q) X.xe s := by
  have hl := Fk.len _ _ _ _ h
  have e0 : Env0 X.prog X.w X.K X.mg X.base A X.stack s H := by
    have e := I.env0
    exact ⟨by rw [sb.fr]; exact e.frames, e.mod, e.bs, e.bsz, e.funs, e.frf, e.hok, e.bare⟩
  have bt := hb s us I.kIn (by rw [List.append_nil, ← r.length, hl])
  rw [List.append_nil] at bt
  refine wpAny_call (codeAny_mono (Fk.run A X.stack s H ⟨us, []⟩ us vs Q _ sb.room e0 bt r h) fun res s' back => ?_)
  match res, back with
  | .error er, back => exact passAt tk σ pins H s er s' I back
  | .ok (.ret u), back => exact I.after back
  | .ok .next, back => exact back.elim
  | .ok .brk, back => exact back.elim
  | .ok .cont, back => exact back.elim
theorem rk_ty {ts : List String} {cs : List Nat} {y : D} {v : V} {u : Value} {F : Hp} (hts : ∀ T ∈ ts, T ∈ flat4) (h : rk ts cs y = true) (ry : Rep G F y v) (ru : RelV v u) : (∃ T, T ∈ ts ∧ typeOf u = pure (.type T)) ∨ ∃ d l, y = .ob d l ∧ d ∈ cs := by
  cases ry with
  | non => cases ru; exact .inl ⟨"NoneType", by simpa [rk, tyN] using h, rfl⟩
  | bl => cases ru; exact .inl ⟨"bool", by simpa [rk, tyN] using h, rfl⟩
  | int => obtain ⟨t, rfl⟩ := ru; exact .inl ⟨"int", by simpa [rk, tyN] using h, rfl⟩
  | str => obtain ⟨t, rfl⟩ := ru; exact .inl ⟨"str", by simpa [rk, tyN] using h, rfl⟩
  | tup => exact absurd (hts "tuple" (by simpa [rk, tyN] using h)) (by decide)
  | lst => exact absurd (hts "list" (by simpa [rk, tyN] using h)) (by decide)
  | kl => exact absurd (hts "list" (by simpa [rk, tyN] using h)) (by decide)
  | dic => exact absurd (hts "dict" (by simpa [rk, tyN] using h)) (by decide)
  | dkl => exact absurd (hts "dict" (by simpa [rk, tyN] using h)) (by decide)
  | @ob d l => exact .inr ⟨d, l, rfl, by simpa [rk] using h⟩
/-- the instance at hand -/
theorem inst_at {σ : L2.St} {F H : Hp} {r : Ev} {c : Nat} {l : List D} {v : V} {pins : List (Addr × Obj)} {s : Shared} (I : Inv X pins σ H s) (S : Sta G O F H σ r) (h : Rep G F (.ob c l) v) : ∃ a, v = .ref a ∧ ∃ ox od, PySem.W.InstAt s.heap a ox (G.cA c) (some od) := by
  cases h with
  | @ob _ _ a dx xs more h hl rr =>
    obtain ⟨o', e', gr⟩ := S.sub _ _ h
    obtain ⟨q, eo⟩ := gr.ins
    subst eo
    obtain ⟨mA, J, _⟩ := ins_get I.hok e'
    obtain ⟨od, J, _⟩ := J.look
    exact ⟨a, rfl, _, od, J⟩
theorem o_bin {op : Operator} {p : D → D → Option D} {k : Nat} (tb : List (Nat × Beh)) (ts : List String) (cs : List Nat) (tk : Takes X W) (hr : Room k X.A) (hp : Op2 G X W OX O (binaryOp op) (oP p))
    (ht : ∀ c B, tb.lookup c = some B → (∃ f fd ps, OwnOk G X.prog X.w X.mg X.base k (PySem.dunder op.info.2) c B f fd ps 2) ∧ BinOk G (PySem.dunder op.info.2) (dunderR op.info.2) ts cs c) (hx : ∀ i ∈ OX, i ∈ O := by decide) (hK : X.K = G.K := by rfl) : Op2 G X W OX O (binaryOp op) (oW tb ts cs p) :=
  fun pins s σ F H r x y v w u u' Q I S rx ry ru ru' q => by
    cases x with
    | ob c l =>
      unfold oW at q
      simp only at q
      split at q
      case isFalse => exact q.elim
      rename_i hk
      revert q
      cases e1 : tb.lookup c with
      | none => exact fun q => q.elim
      | some B =>
        intro q
        have q : Pst G W OX O O σ F H (RD G) Q (out0 (B [.ob c l, y]) r) := q
        obtain ⟨⟨f, fd, ps, ow⟩, bk⟩ := ht c B e1
        obtain ⟨a, rfl, ox, od, J⟩ := inst_at I S rx
        obtain rfl : u = Value.ref a := ru
        obtain ⟨m, hF⟩ := I.fr
        have Fk : FnOk X.prog X.w X.K X.mg X.base (L2.CX X.prog X.w) k f fd ps (spB G 2 [] B) := by rw [hK]; exact ow.fn
        have rr : RepL G F [.ob c l, y] [.ref a, w] := .cons rx (.cons ry .nil)
        have go : wpAny (model X.prog X.w) X.A (call (.ref f) [.ref a, u']) (PySem.W.CmpBack (EP X pins σ Q)) X.xe s := by
          refine wpAny_mono (run_At (us := [.ref a, u']) (vs := [.ref a, w]) ⟨hr, rfl⟩ tk Fk (by rw [hK]; exact ow.bd) I (.cons rfl (.cons ru' .nil)) (spB_of hx S rr (len_of ow.ar rr q) q)) (fun z s' h => ?_) fun _ _ h => h
          obtain ⟨z', H', I', rz, qz⟩ := h
          exact SlX.cmpback rz ⟨z', H', I', rz, qz⟩
        obtain ⟨rc, h1, h2⟩ := bk.rc
        rcases rk_ty (fun T hT => (bk.ty T hT).1) hk ry ru' with ⟨T, hT, ht⟩ | ⟨d, l2, rfl, hd⟩
        · obtain ⟨_, ⟨fo, ro, h3, h4⟩, h5⟩ := bk.ty T hT
          exact PySem.W.ksp_binT (K := X.K) (C := G.cA c) hF I.ok.mod.kin J ht (by rw [hK]; exact bk.sf) (by rw [hK]; exact ow.at_) (by rw [hK]; exact ow.isf) (by rw [hK]; exact h1) h2 (by rw [hK]; exact h3) (by rw [hK]; exact h4) (by rw [hK]; exact h5) go
        · obtain ⟨b, rfl, ox2, od2, J2⟩ := inst_at I S ry
          obtain rfl : u' = Value.ref b := ru'
          rcases bk.ot d hd with rfl | ⟨hne, h3, ⟨g, h4⟩, ⟨rc2, h5, h6⟩, h7⟩
          · exact PySem.W.binop_K (K := X.K) (C := G.cA d) hF I.ok.mod.kin J J2.type (by rw [hK]; exact bk.sf) (by rw [hK]; exact ow.at_) (by rw [hK]; exact ow.isf) go
          · exact bin_two (K := X.K) (C := G.cA c) hF I.ok.mod.kin J J2.type hne (by rw [hK]; exact bk.sf) (by rw [hK]; exact h3) (by rw [hK]; exact ow.at_) (by rw [hK]; exact ow.isf) (by rw [hK]; exact h1) h2 (by rw [hK]; exact h4) (by rw [hK]; exact h5) h6 (by rw [hK]; exact h7) go
    | non => exact hp pins s σ F H r _ y v w u u' Q I S rx ry ru ru' q
    | bl b => exact hp pins s σ F H r _ y v w u u' Q I S rx ry ru ru' q
    | int b => exact hp pins s σ F H r _ y v w u u' Q I S rx ry ru ru' q
    | str b => exact hp pins s σ F H r _ y v w u u' Q I S rx ry ru ru' q
    | tup b => exact hp pins s σ F H r _ y v w u u' Q I S rx ry ru ru' q
    | lst b => exact hp pins s σ F H r _ y v w u u' Q I S rx ry ru ru' q
    | kl b => exact hp pins s σ F H r _ y v w u u' Q I S rx ry ru ru' q
    | dic b b' => exact hp pins s σ F H r _ y v w u u' Q I S rx ry ru ru' q
    | dkl b b' => exact hp pins s σ F H r _ y v w u u' Q I S rx ry ru ru' q
    | xo c l => cases rx
/-- -x -/
theorem o_negW {p : D → Option D} {k : Nat} (tb : List (Nat × Beh)) (tk : Takes X W) (hr : Room k X.A) (hp : Op1 G X W OX O (unaryOp .USub) (oU p))
    (ht : ∀ c B, tb.lookup c = some B → ∃ f fd ps, OwnOk G X.prog X.w X.mg X.base k "__neg__" c B f fd ps 1) (hx : ∀ i ∈ OX, i ∈ O := by decide) (hK : X.K = G.K := by rfl) : Op1 G X W OX O (unaryOp .USub) (oC1 tb p) :=
  fun pins s σ F H r x v u Q I S rx ru q => by
    cases x with
    | ob c l =>
      rw [oC1_ob] at q
      revert q
      cases e1 : tb.lookup c with
      | none => exact fun q => q.elim
      | some B =>
        intro q
        have q : Pst G W OX O O σ F H (RD G) Q (out0 (B [.ob c l]) r) := q
        obtain ⟨f, fd, ps, ow⟩ := ht c B e1
        obtain ⟨a, rfl, ox, od, J⟩ := inst_at I S rx
        obtain rfl : u = Value.ref a := ru
        obtain ⟨m, hF⟩ := I.fr
        have Fk : FnOk X.prog X.w X.K X.mg X.base (L2.CX X.prog X.w) k f fd ps (spB G 1 [] B) := by rw [hK]; exact ow.fn
        have rr : RepL G F [.ob c l] [.ref a] := .cons rx .nil
        exact PySem.W.ksp_neg (K := X.K) (C := G.cA c) hF I.ok.mod.kin J (by rw [hK]; exact ow.at_) (by rw [hK]; exact ow.isf) (run_At (us := [.ref a]) (vs := [.ref a]) ⟨hr, rfl⟩ tk Fk (by rw [hK]; exact ow.bd) I (.cons rfl .nil) (spB_of hx S rr (len_of ow.ar rr q) q))
    | non => exact hp pins s σ F H r _ v u Q I S rx ru q
    | bl b => exact hp pins s σ F H r _ v u Q I S rx ru q
    | int b => exact hp pins s σ F H r _ v u Q I S rx ru q
    | str b => exact hp pins s σ F H r _ v u Q I S rx ru q
    | tup b => exact hp pins s σ F H r _ v u Q I S rx ru q
    | lst b => exact hp pins s σ F H r _ v u Q I S rx ru q
    | kl b => exact hp pins s σ F H r _ v u Q I S rx ru q
    | dic b b' => exact hp pins s σ F H r _ v u Q I S rx ru q
    | dkl b b' => exact hp pins s σ F H r _ v u Q I S rx ru q
    | xo c l => cases rx
/-- x op y by the left one's class, anywhere below this body -/
theorem cmp_at {A : Around} {op : CmpOp} {k : Nat} {dn : Str} {ts : List String} {cs : List Nat} {c : Nat} {l : List D} {y : D} {B : Beh} {f : Addr} {fd : FuncData} {ps : List Str} {pins : List (Addr × Obj)} {s : Shared} {σ : L2.St} {F H : Hp} {r : Ev} {v w : V} {u u' : Value} {Q : VK}
    (sb : L2.Sub X k A) (tk : Takes X W) (hdn : (cmpInfo op).2.1 = dn) (ow : OwnOk G X.prog X.w X.mg X.base k dn c B f fd ps 2) (ck : CmpOk G ts cs c) (hk : rk ts cs y = true) (hx : ∀ i ∈ OX, i ∈ O) (hK : X.K = G.K) (I : Inv X pins σ H s) (S : Sta G O F H σ r) (rx : Rep G F (.ob c l) v) (ry : Rep G F y w) (ru : RelV v u) (ru' : RelV w u')
    (q : Pst G W OX O O σ F H (RD G) Q (out0 (B [.ob c l, y]) r)) : wpAny (model X.prog X.w) A (richCompare op u u') (EP X pins σ Q) X.xe s := by
  subst hdn
  obtain ⟨a, rfl, ox, od, J⟩ := inst_at I S rx
  obtain rfl : u = Value.ref a := ru
  obtain ⟨m, hF⟩ := I.fr
  have Fk : FnOk X.prog X.w X.K X.mg X.base (L2.CX X.prog X.w) k f fd ps (spB G 2 [] B) := by rw [hK]; exact ow.fn
  have rr : RepL G F [.ob c l, y] [.ref a, w] := .cons rx (.cons ry .nil)
  have go : wpAny (model X.prog X.w) A (call (.ref f) [.ref a, u']) (PySem.W.CmpBack (EP X pins σ Q)) X.xe s := by
    refine wpAny_mono (run_At (us := [.ref a, u']) (vs := [.ref a, w]) sb tk Fk (by rw [hK]; exact ow.bd) I (.cons rfl (.cons ru' .nil)) (spB_of hx S rr (len_of ow.ar rr q) q)) (fun z s' h => ?_) fun _ _ h => h
    obtain ⟨z', H', I', rz, qz⟩ := h
    exact SlX.cmpback rz ⟨z', H', I', rz, qz⟩
  have fin : ∀ tbv, PySem.W.Looks (model X.prog X.w) s.heap (typeOf u') tbv → PySem.W.notFirst G.K (G.cA c) tbv = true → wpAny (model X.prog X.w) A (richCompare op (.ref a) u') (EP X pins σ Q) X.xe s := fun tbv hl hn =>
    PySem.W.cmp_K (K := X.K) (C := G.cA c) (op := op) (tb := tbv) sb.room.units0 hF I.ok.mod.kin J hl (by rw [hK]; exact hn) (by rw [hK]; exact ow.at_) (by rw [hK]; exact ow.isf) go
  rcases rk_ty (fun T hT => (ck.ty T hT).1) hk ry ru' with ⟨T, hT, ht⟩ | ⟨d, l2, rfl, hd⟩
  · exact fin _ (PySem.W.Looks.of_pure ht) (ck.ty T hT).2
  · obtain ⟨b, rfl, ox2, od2, J2⟩ := inst_at I S ry
    obtain rfl : u' = Value.ref b := ru'
    exact fin _ J2.type (ck.ot d hd)
theorem o_cmp {op : CmpOp} {p : D → D → Option D} {k : Nat} (tb : List (Nat × Beh)) (ts : List String) (cs : List Nat) (tk : Takes X W) (hr : Room k X.A) (hp : Op2 G X W OX O (compareOp op) (oP p)) (hop : ∀ a b, compareOp op a b = richCompare op a b := by intros; rfl)
    (ht : ∀ c B, tb.lookup c = some B → (∃ f fd ps, OwnOk G X.prog X.w X.mg X.base k (cmpInfo op).2.1 c B f fd ps 2) ∧ CmpOk G ts cs c) (hx : ∀ i ∈ OX, i ∈ O := by decide) (hK : X.K = G.K := by rfl) : Op2 G X W OX O (compareOp op) (oW tb ts cs p) :=
  fun pins s σ F H r x y v w u u' Q I S rx ry ru ru' q => by
    cases x with
    | ob c l =>
      unfold oW at q
      simp only at q
      split at q
      case isFalse => exact q.elim
      rename_i hk
      revert q
      cases e1 : tb.lookup c with
      | none => exact fun q => q.elim
      | some B =>
        intro q
        obtain ⟨⟨f, fd, ps, ow⟩, ck⟩ := ht c B e1
        rw [hop]
        exact cmp_at ⟨hr, rfl⟩ tk rfl ow ck hk hx hK I S rx ry ru ru' q
    | non => exact hp pins s σ F H r _ y v w u u' Q I S rx ry ru ru' q
    | bl b => exact hp pins s σ F H r _ y v w u u' Q I S rx ry ru ru' q
    | int b => exact hp pins s σ F H r _ y v w u u' Q I S rx ry ru ru' q
    | str b => exact hp pins s σ F H r _ y v w u u' Q I S rx ry ru ru' q
    | tup b => exact hp pins s σ F H r _ y v w u u' Q I S rx ry ru ru' q
    | lst b => exact hp pins s σ F H r _ y v w u u' Q I S rx ry ru ru' q
    | kl b => exact hp pins s σ F H r _ y v w u u' Q I S rx ry ru ru' q
    | dic b b' => exact hp pins s σ F H r _ y v w u u' Q I S rx ry ru ru' q
    | dkl b b' => exact hp pins s σ F H r _ y v w u u' Q I S rx ry ru ru' q
    | xo c l => cases rx
/-- x != y by __eq__ -/
structure NeOk (G : Gm) (c : Nat) : Prop where
  ne : PySem.W.findIn G.K (.ref (G.cA c)) "__ne__" = some (some (.builtin "object.__ne__"))
  mo : PySem.W.mroIn G.K (G.cA c) (.type "object") = some true
theorem o_neW {p : D → D → Option D} {k : Nat} (tb : List (Nat × Beh)) (ts : List String) (cs : List Nat) (tk : Takes X W) (hr : Room (k + 1) X.A) (hp : Op2 G X W OX O (compareOp .NotEq) (oP p))
    (ht : ∀ c B, tb.lookup c = some B → (∃ f fd ps, OwnOk G X.prog X.w X.mg X.base k "__eq__" c B f fd ps 2) ∧ CmpOk G ts cs c ∧ NeOk G c) (hx : ∀ i ∈ OX, i ∈ O := by decide) (hK : X.K = G.K := by rfl) : Op2 G X W OX O (compareOp .NotEq) (oNW tb ts cs p) :=
  fun pins s σ F H r x y v w u u' Q I S rx ry ru ru' q => by
    cases x with
    | ob c l =>
      unfold oNW at q
      simp only at q
      split at q
      case isFalse => exact q.elim
      rename_i hk
      revert q
      cases e1 : tb.lookup c with
      | none => exact fun q => q.elim
      | some B =>
        intro q
        have q : Pst G W OX O O σ F H (RD G) Q (negO (out0 (B [.ob c l, y]) r)) := q
        obtain ⟨⟨f, fd, ps, ow⟩, ck, nk⟩ := ht c B e1
        obtain ⟨a, rfl, ox, od, J⟩ := inst_at I S rx
        obtain rfl : u = Value.ref a := ru
        obtain ⟨m, hF⟩ := I.fr
        have Fk : FnOk X.prog X.w X.K X.mg X.base (L2.CX X.prog X.w) k f fd ps (spB G 2 [] B) := by rw [hK]; exact ow.fn
        have rr : RepL G F [.ob c l, y] [.ref a, w] := .cons rx (.cons ry .nil)
        have q2 : Pst G W OX O O σ F H (RD G) (fun v' H' => ∃ b, v' = .bl b ∧ Q (.bl (!b)) H') (out0 (B [.ob c l, y]) r) := by
          revert q
          cases out0 (B [.ob c l, y]) r with
          | no => exact fun q => q
          | ex e r' => exact fun q => q
          | ok d r' =>
            cases d with
            | bl b =>
              intro q v' F' H' n rv
              cases rv
              exact ⟨b, rfl, q _ F' H' n .bl⟩
            | _ => exact fun q => q.elim
        have sb1 : L2.Sub X k X.A.in1 := L2.Sub.in1 ⟨hr, rfl⟩
        have go : wpAny (model X.prog X.w) X.A.in1 (call (.ref f) [.ref a, u']) (fun z s' => ∃ b, z = .bool b ∧ EP X pins σ Q (.bool (!b)) s') X.xe s := by
          refine wpAny_mono (run_At (us := [.ref a, u']) (vs := [.ref a, w]) sb1 tk Fk (by rw [hK]; exact ow.bd) I (.cons rfl (.cons ru' .nil)) (spB_of hx S rr (len_of ow.ar rr q2) q2)) (fun z s' h => ?_) fun _ _ h => h
          obtain ⟨z', H', I', rz, b, eb, qz⟩ := h
          subst eb
          cases (show z = Value.bool b from rz)
          exact ⟨b, rfl, .bl (!b), H', I', rfl, qz⟩
        have fin : ∀ tbv, PySem.W.Looks (model X.prog X.w) s.heap (typeOf u') tbv → PySem.W.notFirst G.K (G.cA c) tbv = true → wpAny (model X.prog X.w) X.A (compareOp .NotEq (.ref a) u') (EP X pins σ Q) X.xe s := fun tbv hl hn =>
          ne_own (K := X.K) (C := G.cA c) (tb := tbv) (by have := hr.un; omega) hF I.ok.mod.kin J hl (by rw [hK]; exact hn) (by rw [hK]; exact nk.mo) (by rw [hK]; exact nk.ne) (by rw [hK]; exact ow.at_) (by rw [hK]; exact ow.isf) go
        rcases rk_ty (fun T hT => (ck.ty T hT).1) hk ry ru' with ⟨T, hT, ht⟩ | ⟨d, l2, rfl, hd⟩
        · exact fin _ (PySem.W.Looks.of_pure ht) (ck.ty T hT).2
        · obtain ⟨b, rfl, ox2, od2, J2⟩ := inst_at I S ry
          obtain rfl : u' = Value.ref b := ru'
          exact fin _ J2.type (ck.ot d hd)
    | non => exact hp pins s σ F H r _ y v w u u' Q I S rx ry ru ru' q
    | bl b => exact hp pins s σ F H r _ y v w u u' Q I S rx ry ru ru' q
    | int b => exact hp pins s σ F H r _ y v w u u' Q I S rx ry ru ru' q
    | str b => exact hp pins s σ F H r _ y v w u u' Q I S rx ry ru ru' q
    | tup b => exact hp pins s σ F H r _ y v w u u' Q I S rx ry ru ru' q
    | lst b => exact hp pins s σ F H r _ y v w u u' Q I S rx ry ru ru' q
    | kl b => exact hp pins s σ F H r _ y v w u u' Q I S rx ry ru ru' q
    | dic b b' => exact hp pins s σ F H r _ y v w u u' Q I S rx ry ru ru' q
    | dkl b b' => exact hp pins s σ F H r _ y v w u u' Q I S rx ry ru ru' q
    | xo c l => cases rx
end
end Z

/-! == of tuples whose items have an own ==. -/
namespace Z
open PySem PySem.Spec PyProof.Rows L2

def isT : Out D → Bool
  | .ok (.bl true) _ => true
  | _ => false
def okB (o : Option Beh) (ds : List D) : Bool := match o with
  | some B => isT (B ds)
  | none => false
/-- the own == of two items -/
def eqI (tb : List (Nat × Beh)) (ts : List String) (cs : List Nat) (x y : D) : Bool := match x with
  | .ob c l => rk ts cs y && okB (tb.lookup c) [.ob c l, y]
  | _ => false
def allT (f : D → D → Bool) : List D → List D → Bool
  | [], [] => true
  | x :: l, y :: m => f x y && allT f l m
  | _, _ => false
def oET (tb : List (Nat × Beh)) (ts : List String) (cs : List Nat) (x y : D) (r : Ev) : Out D := match x, y with
  | .tup l, .tup m => (match pEq (.tup l) (.tup m) with
    | some d => .ok d r
    | none => if allT (eqI tb ts cs) l m then .ok (.bl true) r else .no)
  | x, y => oW tb ts cs pEq x y r
theorem allT_get {f : D → D → Bool} : ∀ {l m : List D}, allT f l m = true → l.length = m.length ∧ ∀ (i : Nat) (x y : D), l[i]? = some x → m[i]? = some y → f x y = true
  | [], [], _ => ⟨rfl, fun i x y e _ => by simp at e⟩
  | x :: l, y :: m, h => by
    rw [allT, Bool.and_eq_true] at h
    obtain ⟨h1, h2⟩ := allT_get h.2
    refine ⟨by rw [List.length_cons, List.length_cons, h1], fun i a b ea eb => ?_⟩
    cases i with
    | zero =>
      simp at ea eb
      subst ea eb
      exact h.1
    | succ i => exact h2 i a b (by simpa using ea) (by simpa using eb)
  | [], _ :: _, h => by cases h
  | _ :: _, [], h => by cases h
section
variable {G : Gm} {X : Cx} {W : WX} {OX OL vs O O1 O2 O3 : List Nat}
theorem o_eqT {k : Nat} (tb : List (Nat × Beh)) (ts : List String) (cs : List Nat) (tk : Takes X W) (hr : Room (k + 1) X.A)
    (ht : ∀ c B, tb.lookup c = some B → (∃ f fd ps, OwnOk G X.prog X.w X.mg X.base k "__eq__" c B f fd ps 2) ∧ CmpOk G ts cs c) (hx : ∀ i ∈ OX, i ∈ O := by decide) (hK : X.K = G.K := by rfl) : Op2 G X W OX O (compareOp .Eq) (oET tb ts cs) :=
  fun pins s σ F H r x y v w u u' Q I S rx ry ru ru' q => by
    have low : Op2 G X W OX O (compareOp .Eq) (oW tb ts cs pEq) := o_cmp tb ts cs tk (hr.mono (Nat.le_succ k)) (o_eq hr hK) (by intros; rfl) ht hx hK
    unfold oET at q
    split at q
    · rename_i l m
      split at q
      · rename_i d e
        exact low pins s σ F H r _ _ v w u u' Q I S rx ry ru ru' (by show Pst G W OX O O σ F H (RD G) Q (liftO (pEq (.tup l) (.tup m)) r); rw [e]; exact q)
      · split at q
        case isFalse => exact q.elim
        rename_i ha
        obtain ⟨hlen, hall⟩ := allT_get ha
        cases rx with
        | @tup _ a xs hq1 r1 =>
          cases ry with
          | @tup _ b ys hq2 r2 =>
            obtain rfl : u = Value.ref a := ru
            obtain rfl : u' = Value.ref b := ru'
            obtain ⟨its, rv, h1, _⟩ := I.tuple (by rw [hK]; exact S.sub.sqT hq1)
            obtain ⟨its2, rv2, h2, _⟩ := I.tuple (by rw [hK]; exact S.sub.sqT hq2)
            have n1 : its.length = l.length := by rw [← rv.length, r1.length]
            have n2 : its2.length = m.length := by rw [← rv2.length, r2.length]
            show wpAny (model X.prog X.w) X.A (richCompare .Eq (.ref a) (.ref b)) (EP X pins σ Q) X.xe s
            refine GQ.rc_tupG (items := its.toArray) (items2 := its2.toArray) (by simp; omega) hr.units0 (fun _ s' => ∃ F' H', Inv X pins σ H' s' ∧ Nx G OX O O σ F H σ F' H' r) h1 h2 (fun i hi1 hi2 s' hI => ?_) (fun s' hI => ?_) ⟨F, H, I, Nx.rfl' S⟩
            · obtain ⟨F', H', I', n⟩ := hI
              have hi1 : i < its.length := by simpa using hi1
              have hi2 : i < its2.length := by simpa using hi2
              have g1 : its.toArray[i]'(by simpa using hi1) = its[i] := by simp
              have g2 : its2.toArray[i]'(by simpa using hi2) = its2[i] := by simp
              rw [g1, g2]
              have el : l[i]? = some (l[i]'(by omega)) := List.getElem?_eq_getElem _
              have em : m[i]? = some (m[i]'(by omega)) := List.getElem?_eq_getElem _
              generalize l[i]'(by omega) = dx at el
              generalize m[i]'(by omega) = dy at em
              have hf := hall i dx dy el em
              obtain ⟨vx, ex, rx⟩ := r1.get el
              obtain ⟨vy, ey, ry⟩ := r2.get em
              obtain ⟨ux, eux, rux⟩ := L2.Vals.get rv ex
              obtain ⟨uy, euy, ruy⟩ := L2.Vals.get rv2 ey
              have q1 : its[i] = ux := by rw [List.getElem?_eq_getElem hi1] at eux; exact Option.some.inj eux
              have q2 : its2[i] = uy := by rw [List.getElem?_eq_getElem hi2] at euy; exact Option.some.inj euy
              rw [q1, q2]
              have rx := rx.mono n.stp.fz
              have ry := ry.mono n.stp.fz
              unfold eqI at hf
              cases dx with
              | ob c fs =>
                simp only [Bool.and_eq_true] at hf
                obtain ⟨hk, hf⟩ := hf
                cases e1 : tb.lookup c with
                | none =>
                  rw [e1] at hf
                  cases hf
                | some B =>
                  rw [e1] at hf
                  have hf : isT (B [.ob c fs, dy]) = true := hf
                  obtain ⟨⟨f, fd, ps, ow⟩, ck⟩ := ht c B e1
                  have eo : ∃ q', B [.ob c fs, dy] = .ok (.bl true) q' := by
                    unfold isT at hf
                    split at hf
                    · rename_i q' e
                      exact ⟨q', e⟩
                    · cases hf
                  obtain ⟨q', eo⟩ := eo
                  have J1 := inst_at I' n.sta rx
                  obtain ⟨a', rfl, _⟩ := J1
                  obtain rfl : ux = Value.ref a' := rux
                  by_cases same : Value.ref a' = uy
                  · rw [← same]
                    exact SeqAt.EqAt.same (.ref a') X.prog X.w X.xe _ ⟨rfl, F', H', I', n⟩
                  · have sb1 : L2.Sub X k X.A.in1 := L2.Sub.in1 ⟨hr, rfl⟩
                    have rc := cmp_at (OX := OX) (W := W) (op := .Eq) (Q := fun z H2 => z = .bl true ∧ ∃ F2, Nx G OX O O σ F H σ F2 H2 r) sb1 tk rfl ow ck hk hx hK I' n.sta rx ry rfl ruy (by
                      rw [eo]
                      intro z F2 H2 n2 rz
                      cases rz
                      exact ⟨rfl, F2, n.trans n2⟩)
                    unfold eqBool
                    refine wpAny_holding ?_
                    refine wpAny_ite_split (fun hab => absurd (eq_of_beq hab) same) (fun _ => ?_)
                    refine wpAny_bind (wpAny_mono rc (fun z s2 hz => ?_) fun _ _ h => h)
                    obtain ⟨z', H2, I2, rz, ez, F2, n2⟩ := hz
                    subst ez
                    cases (show z = Value.bool true from rz)
                    exact wpAny_truthy_bool ⟨rfl, F2, H2, I2, n2⟩
              | _ => cases hf
            · obtain ⟨F', H', I', n⟩ := hI
              exact ⟨.bl true, H', I', rfl, q _ F' H' n .bl⟩
    · exact low pins s σ F H r _ _ v w u u' Q I S rx ry ru ru' q
end
end Z

/-! The head's facts. -/
namespace Z
open PySem PySem.Spec PyProof.Rows L2
/-! ### the end -/
theorem walk_ofZ {l : PySem.W.OpenLaw} {n k : Nat} {q : Program} {loose : List Str} {XP : (Str → Option Value) → Heap → Prop} {YP : World → Heap → Prop} {d : DefRec} {x : Str}
    (hn : l.most = some n) (hn2 : n ≤ sizeLine) (hdf : d.params.defaults = []) (hr : Room k callerA)
    (F : ∀ (w : World) (mg : Str → Option Value) (fa : Addr) (h : Heap), YP w h → h.Ns mainGlobals mg → mg d.name = some (.ref fa) →
      ∃ (K : PySem.W.Frag) (fd : FuncData) (sp : Sp), K.In h ∧ (∀ (s : Shared) (u : Value), BindsTo s fd ⟨[u], []⟩ [(x, u)]) ∧
        (∀ (H : Hp) (a : Addr) (ns : List Int), ns.length ≤ n → Only H → SqL K H a (ns.map V.int) → sp [.ref a] H (fun v _ => v = .bl true) fun _ _ _ => False) ∧
        ∀ base : Heap, K.In base → base.Ns mainGlobals mg → FnOk l.prog w K mg base (L2.CX l.prog w) k fa fd [x] sp) :
    PySem.W.WalkO q loose XP YP l.row.toRowW d [] (fun f vs => PySem.call f vs) := by
  refine Att.attach_call hn hdf fun w s₀ s₁ mg mb fa o pm cd doc a vs ns G Y ho hd hcd hmg hobj hints hlen hg => ?_
  obtain ⟨K, fd, sp, KX, hb, hsp, hF⟩ := F w mg fa _ Y G.T.g hmg
  refine law_call KX G.T.g G.T.b G.T.builtins G.T.nolimit hg hobj hints (Nat.le_trans hlen hn2) hr hF hb (fun H hO hS => hsp H a ns hlen hO hS) fun H e s' z => ?_
  obtain ⟨_, _, _, _, _, _, _, _, _, _, _, _, z⟩ := z
  exact z
end Z

/-! Defs that give a new object away; calls that lend an own one. -/
namespace Z
open PySem PySem.Spec PyProof.Rows L2

def mkF (n m : Nat) (b : M D) : Beh := fun ds => if ds.length = n then (match b (ds.map some ++ List.replicate (m - n) none) with
  | .ok d r => .ok d (keepE [] n r)
  | .ex e r => .ex e (keepE [] n r)
  | .no => .no) else .no
/-- .. the value is new, nobody else's -/
def spF (G : Gm) (n : Nat) (B : Beh) : Sp := fun vs H Q E => vs.length = n ∧ ∃ F ds, Sta G [] F H (vs.map some) (ds.map some) ∧ Pst G (fun c dx _ H' => E c dx H') [] [] [] (vs.map some) F H (RF G [] (vs.map some) H) Q (B ds)
abbrev FnF (P : Program) (w : World) (G : Gm) (mg : Str → Option Value) (base : Heap) (k : Nat) (f : Addr) (fd : FuncData) (ps : List Str) (n : Nat) (B : Beh) : Prop := FnOk P w G.K mg base (L2.CX P w) k f fd ps (spF G n B)
section
variable {G : Gm} {X : Cx} {W : WX} {OX OL vs O O1 O2 O3 : List Nat}
theorem start_sta {N : List Str} {n m : Nat} {vs : List V} {ds : List D} {F H : Hp} (hm : N.length = m) (hl : vs.length = n) (hnm : n ≤ m) (St : Sta G [] F H (vs.map some) (ds.map some)) : Sta G [] F H (L2.start N vs) (ds.map some ++ List.replicate (m - n) none) := by
  have hds : ds.length = n := by
    have := St.len
    rw [List.length_map, List.length_map] at this
    omega
  have e : L2.start N vs = vs.map some ++ List.replicate (m - n) none := by
    unfold L2.start
    rw [hm, hl]
  rw [e]
  refine ⟨St.sub, St.wf, by simp [hds, hl], fun i d hi q => ?_, fun i hi => (nomatch hi), fun i j a hi => (nomatch hi)⟩
  by_cases hlt : i < n
  · rw [List.getElem?_append_left (by simp; omega)] at q ⊢
    exact St.rp i d hi q
  · rw [List.getElem?_append_right (by simp; omega)] at q
    have := List.mem_of_getElem? q
    rw [List.mem_replicate] at this
    cases this.2
theorem def_okF {P : Program} {w : World} {mg : Str → Option Value} {base : Heap} {x qual : Str} {params : Arguments} {e : Expr} {rp : Pos} {scope : Scope} {dvs : List V} {kws : List (Str × V)} {f : Addr} {fd : FuncData} {N ps : List Str} {k : Nat} {n m : Nat} {b : M D} {body : List Stmt}
    (F : FunD G.K x qual params body scope dvs kws f fd) (S : FnScope N ps scope) (hbd : body = [.Return (some e) rp])
    (hb : ∀ (cdv : Value) (A : Around) (outer : List PySem.Env) (s : Shared) (H : Hp) (E : XK), Room k (cxOf (L2.CX P w) P w G.K mg base N qual scope f cdv A outer s H E).A → Takes (cxOf (L2.CX P w) P w G.K mg base N qual scope f cdv A outer s H E) (fun cls d _ H => E cls d H) →
      PE (cxOf (L2.CX P w) P w G.K mg base N qual scope f cdv A outer s H E) e (tF G (fun cls d _ H => E cls d H) [] [] [] b)) (hn : ps.length = n := by rfl) (hm : N.length = m := by rfl) : FnF P w G mg base (k + 1) f fd ps n (mkF n m b) := by
  subst hbd
  refine F.ok S (fun vs H Q E h => h.1.trans hn.symm) (fun cdv A outer s H vs Q E hr h => ⟨_, pss_one (ps_ret (hb cdv A outer s H E hr (takes_of rfl rfl rfl rfl))), ?_⟩)
  obtain ⟨hl, F0, ds, St, p⟩ := h
  have hds : ds.length = n := by
    have := St.len
    rw [List.length_map, List.length_map] at this
    omega
  have hnm : n ≤ m := by
    have h1 := congrArg List.length S.pre
    rw [List.length_take] at h1
    omega
  have SS := start_sta (N := N) hm hl hnm St
  refine ⟨F0, _, SS, ?_⟩
  unfold mkF at p
  rw [if_pos hds] at p
  have et : (L2.start N vs).take n = vs.map some := by
    unfold L2.start
    rw [List.take_left' (by simp [hl])]
  have hln : n ≤ (L2.start N vs).length := by rw [← SS.len]; simp [hds]
  revert p
  cases b (ds.map some ++ List.replicate (m - n) none) with
  | no => exact fun p => p
  | ex e q =>
    intro p c dx F' H' n' xr
    have c1 := n'.cut (n := n) (fun _ z => nomatch z) hln
    rw [et] at c1
    exact p c dx F' H' c1 xr
  | ok d q =>
    intro p v F' H' n' rf
    have c1 := n'.cut (n := n) (fun _ z => nomatch z) hln
    rw [et] at c1
    exact p v F' H' c1 ⟨rf.1, fun a ea => ⟨(rf.2 a ea).1, notOwn_nil⟩⟩
theorem spF_of {σ : L2.St} {F H : Hp} {r : Ev} {ds : List D} {vs : List V} {n : Nat} {B : Beh} {Q : VK} (hx : ∀ i ∈ OX, i ∈ O) (S : Sta G O F H σ r) (h : RepL G F ds vs) (hn : vs.length = n) {σ0 : L2.St} {H0 : Hp} (hH : ∀ a, H a = none → H0 a = none) (p : Pst G W OX O O σ F H (RF G O σ0 H0) Q (out0 (B ds) r)) (e0 : σ0 = σ) :
    spF G n B vs H Q (fun c dx H' => W c dx σ H') := by
  subst e0
  refine ⟨hn, F, ds, Sta.args S.sub S.wf h, ?_⟩
  have stay : ∀ {F' H' : Hp} {r' : Ev}, Nx G [] [] [] (vs.map some) F H (vs.map some) F' H' r' → Nx G OX O O σ0 F H σ0 F' H' r := fun {F' H' r'} n =>
    Nx.of (S.stay (n.stp.weak (Mo1 := fun _ => False) fun x z => absurd z notOwn_nil) n.sta.sub n.sta.wf fun _ _ z => z) (n.stp.weak fun x z => absurd z notOwn_nil) fun _ h => h
  revert p
  cases B ds with
  | no => exact fun p => p
  | ok d q =>
    intro p v F' H' n rf
    refine p v F' H' (stay n) ⟨rf.1, fun a ea => ⟨hH a (rf.2 a ea).1, fun ⟨i, hi, ei⟩ => ?_⟩⟩
    obtain ⟨d', v', _, e2, ow⟩ := S.ow i hi
    rw [ei] at e2
    cases e2
    obtain ⟨b, o, eb, hb⟩ := ow.there
    cases eb
    rw [(rf.2 a ea).1] at hb
    cases hb
  | ex e q => exact fun p c dx F' H' n x => let ⟨F2, n2, sb⟩ := (stay n).freeze hx; p c dx F2 H' n2 (x.mono sb)
structure GfOk (G : Gm) (P : Program) (w : World) (mg : Str → Option Value) (base : Heap) (k : Nat) (x : Str) (n : Nat) (B : Beh) (f : Addr) (fd : FuncData) (ps : List Str) : Prop where
  at_ : mg x = some (.ref f)
  kp : PySem.W.keepIn G.K (.ref f) = true
  fn : FnF P w G mg base k f fd ps n B
  bd : Binds G.K fd ps []
  ar : ∀ ds, ds.length ≠ n → B ds = .no
theorem arF_of {n m : Nat} {b : M D} : ∀ ds, ds.length ≠ n → mkF n m b ds = .no := fun ds h => if_neg h
/-- f(e, ..), the value this code's own -/
theorem e_callF {x : Str} {p pos : Pos} {e : Expr} {es : List Expr} {k n : Nat} {B : Beh} {f : Addr} {fd : FuncData} {ps : List Str} {g : M (List D)} (tk : Takes X W) (hr : Room k X.A) (gl : GfOk G X.prog X.w X.mg X.base k x n B f fd ps)
    (ha : PA X (e :: es) (tA G W OX O O1 g)) (hx : ∀ i ∈ OX, i ∈ O1 := by decide) (hg : Gl X x := by rfl) (hK : X.K = G.K := by rfl) (hdb : (x == ("__debug__" : Str)) = false := by decide)
    (he : starEach (e :: es) X.env = (false, eval e X.env) :: starEach es X.env := by rfl) (hpl : (backTo pos (starEach es X.env)).any (·.1) = false := by rfl) : PE X (.Call (.Name x p) (e :: es) [] pos) (tF G W OX O O1 (eCd B [] g)) := by
  refine ⟨fun pins s σ H Q I ⟨F, r, S, p⟩ => ?_⟩
  refine wpAny_Call_Name_kw (ld_glob I hg gl.at_ ?_ hdb)
  refine PySem.W.callWith_K (h₀ := X.base) I.ok.mod.kin (by rw [hK]; exact gl.kp) (thn (ha.run pos pins s σ H (fun vs H1 => ∃ ds F1 r1, Nx G OX O O1 σ F H σ F1 H1 r1 ∧ RepL G F1 ds vs ∧ Pst G W OX O1 O1 σ F1 H1 (RF G O1 σ H) Q (out0 (B (ds ++ [])) r1)) I
    (tX_bind S p fun ds vs F1 H1 r1 n1 rs p => ⟨ds, F1, r1, n1, rs, p⟩)) fun us s1 ⟨vs, H1, I1, rv, ds, F1, r1, n1, rs, p⟩ => ⟨I1.kIn, ?_⟩) he hpl
  have Fk : FnOk X.prog X.w X.K X.mg X.base (L2.CX X.prog X.w) k f fd ps (spF G n B) := by rw [hK]; exact gl.fn
  rw [List.append_nil] at p
  have hl : vs.length = n := by
    by_cases h : ds.length = n
    · rw [← rs.length, h]
    · rw [gl.ar ds h] at p
      exact p.elim
  have sp := spF_of hx n1.sta rs hl (fun a => n1.stp.tr a) p rfl
  have z := run_fnSD (E := WE W) (dvs := []) (ds := []) Fk hr (by rw [hK]; exact gl.bd) .nil (passAt tk σ) I1 rv (by rw [List.append_nil]; exact sp)
  exact z
/-- [e, ..]: a new list of this code's own -/
theorem f_lst {es : List Expr} {pos : Pos} {f : M (List D)} (h : PA X es (tA G W OX O O1 f)) : PE X (.List es pos) (tF G W OX O O1 (eN pLst f)) :=
  (pe_lst h).imp fun σ H Q ⟨F, r, S, p⟩ => tX_bind S p fun ds vs F1 H1 r1 n1 rs p => by
    revert p
    unfold pLst
    by_cases hz : okLen ds = true
    · rw [if_pos hz]
      intro p
      refine ⟨big_line (by have := rs.length; have := of_decide_eq_true hz; omega), fun q hq => ?_⟩
      obtain ⟨S2, s2, fp⟩ := new_ow (o := .lst vs) n1.sta hq rfl
      refine p _ F1 _ (Nx.of S2 s2 fun _ h => h) ⟨.lst upd_same fp rs, fun b eb => ?_⟩
      cases eb
      refine ⟨n1.stp.tr _ hq, fun ⟨i, hi, ei⟩ => ?_⟩
      obtain ⟨d', v', _, e2', ow⟩ := n1.sta.ow i hi
      rw [ei] at e2'
      cases e2'
      obtain ⟨b, o, eb, hb⟩ := ow.there
      cases eb
      rw [hq] at hb
      cases hb
    · rw [if_neg hz]
      exact fun p => p.elim
/-- f(x, e, ..), x this code's own: the def may change it -/
theorem e_callO {x y : Str} {p py pos : Pos} {es : List Expr} {k n : Nat} {B : Beh} {f : Addr} {fd : FuncData} {ps : List Str} {g : M (List D)} (i : Nat) (tk : Takes X W) (hr : Room k X.A) (gl : GlOk G X.prog X.w X.mg X.base k x n [0] B f fd ps) (hb : Binds G.K fd ps [])
    (ha : PA X es (tA G W OX O O1 g)) (hi : i ∈ O := by decide) (hi1 : i ∈ O1 := by decide) (hx : ∀ i ∈ OX, i ∈ O1 := by decide) (hN : X.N[i]? = some y := by rfl) (hv : Vis X.env.scope y := by first | exact Or.inl rfl | exact Or.inr (Or.inl rfl) | exact Or.inr (Or.inr rfl)) (hg : Gl X x := by rfl) (hK : X.K = G.K := by rfl)
    (hd : (y == ("__debug__" : Str)) = false := by decide) (hcd : (y == ("__classdict__" : Str)) = false := by decide) (hdb : (x == ("__debug__" : Str)) = false := by decide)
    (he : starEach (.Name y py :: es) X.env = (false, eval (.Name y py) X.env) :: starEach es X.env := by rfl) (hpl : (backTo pos (starEach es X.env)).any (·.1) = false := by rfl) : PE X (.Call (.Name x p) (.Name y py :: es) [] pos) (tE G W OX O O1 (eCo B i g)) := by
  refine ⟨fun pins s σ H Q I ⟨F, r, S, p⟩ => ?_⟩
  refine wpAny_Call_Name_kw (ld_glob I hg gl.at_ ?_ hdb)
  obtain ⟨d0, v0, _, e0, o0⟩ := S.ow i hi
  refine PySem.W.callWith_K (h₀ := X.base) I.ok.mod.kin (by rw [hK]; exact gl.kp) (thn ((pa_cons (pe_var hN hv hd hcd) ha he).run pos pins s σ H (fun vs H1 => ∃ vs', vs = v0 :: vs' ∧ ∃ ds F1 r1, Nx G OX O O1 σ F H σ F1 H1 r1 ∧ RepL G F1 ds vs' ∧ Pst G W OX O1 O1 σ F1 H1 (RD G) Q (match r1[i]? with
    | some (some d0) => out1 (B (d0 :: ds)) i r1
    | _ => .no)) I ⟨v0, e0, tX_bind S p fun ds vs F1 H1 r1 n1 rs p => ⟨vs, rfl, ds, F1, r1, n1, rs, p⟩⟩) fun us s1 ⟨vs, H1, I1, rv, vs', ev, ds, F1, r1, n1, rs, p⟩ => ⟨I1.kIn, ?_⟩) he hpl
  subst ev
  have Fk : FnOk X.prog X.w X.K X.mg X.base (L2.CX X.prog X.w) k f fd ps (spB G n [0] B) := by rw [hK]; exact gl.fn
  revert p
  split
  · rename_i d1 e1
    intro p
    have hl : (d1 :: ds).length = n := by
      by_cases h : (d1 :: ds).length = n
      · exact h
      · rw [gl.ar _ h] at p
        exact p.elim
    have hl2 : (v0 :: vs').length = n := by rw [← hl, List.length_cons, List.length_cons, rs.length]
    have sp := spB_of1 hx n1.sta hi1 e1 e0 rs hl2 p
    exact run_fnSD (E := WE W) (dvs := []) (ds := []) Fk hr (by rw [hK]; exact hb) .nil (passAt tk σ) I1 rv (by rw [List.append_nil]; exact sp)
  · exact fun p => p.elim
end
end Z

/-! Forms that the printed derivations use. -/
namespace Z
open PySem PySem.Spec PyProof.Rows L2

theorem lk_nil {α : Type} {p : Nat → α → Prop} : ∀ c a, List.lookup c ([] : List (Nat × α)) = some a → p c a := fun _ _ e => nomatch e
theorem lk_cons {α : Type} {p : Nat → α → Prop} {d : Nat} {b : α} {tb : List (Nat × α)} (h : p d b) (t : ∀ c a, tb.lookup c = some a → p c a) : ∀ c a, List.lookup c ((d, b) :: tb) = some a → p c a := fun c a e => by
  rw [List.lookup_cons] at e
  split at e
  · rename_i q
    cases e
    rw [beq_iff_eq.mp q]
    exact h
  · exact t c a e
theorem mem_nil {α : Type} {p : α → Prop} : ∀ a ∈ ([] : List α), p a := fun _ h => nomatch h
theorem mem_cons {α : Type} {p : α → Prop} {b : α} {l : List α} (h : p b) (t : ∀ a ∈ l, p a) : ∀ a ∈ b :: l, p a := fun a m => by
  rcases List.mem_cons.mp m with e | m
  · rw [e]
    exact h
  · exact t a m
theorem bindK0 {K : PySem.W.Frag} {x qual : Str} {params : Arguments} {body : List Stmt} {scope : Scope} {f : Addr} {fd : FuncData} {ps : List Str} (F : FunD K x qual params body scope [] [] f fd) (n : Nat) (ks : List Str) (o : List Nat)
    (h : ∀ (kV doc pm : Value) (an : Option Addr) (cdv ct : Value) (us ws : List Value), us.length = n → ws.length = ks.length → bindArgs (PySem.W.fnOf x qual params body scope .none kV doc pm an cdv ct) ⟨us, ks.zip ws⟩ = pure (ps.zip (permL o (us ++ ws ++ [])))) : BindK K fd ps n ks o [] := by
  obtain ⟨oc, od, dV, kV, doc, pm, an, cdv, ct, osl, rfl, lk, hcd, hD, hK⟩ := F.ex
  rcases hD with ⟨_, rfl⟩ | ⟨e, _⟩
  · exact fun s us ws _ h1 h2 => .of_eq (h kV doc pm an cdv ct us ws h1 h2)
  · exact absurd rfl e
theorem fn_up {P : Program} {w : World} {G : Gm} {mg : Str → Option Value} {base : Heap} {j k : Nat} {f : Addr} {fd : FuncData} {ps : List Str} {n : Nat} {io : List Nat} {B : Beh} (h : FnB P w G mg base j f fd ps n io B) (l : j ≤ k) : FnB P w G mg base k f fd ps n io B :=
  FnOk.mono h l
section
variable {G : Gm} {X : Cx} {W : WX} {OX OL vs O O1 O2 O3 : List Nat}
/-- the owned slots behind it as one writes them -/
theorem s_to {st : Stmt} {f : M Fl} (h : PS X st (tS G W OX OL O O1 f)) (e : O1 = O2 := by rfl) : PS X st (tS G W OX OL O O2 f) := e ▸ h
theorem g_to {tg : Expr} {g : Tg} (h : PG X tg (tG G OX vs O O1 g)) (e : O1 = O2 := by rfl) : PG X tg (tG G OX vs O O2 g) := e ▸ h
theorem e_gint {x : Str} {pos : Pos} {i : Int} (hm : ∃ t, X.mg x = some (.int i t)) (hg : Gl X x := by rfl) (hd : (x == ("__debug__" : Str)) = false := by decide) : PE X (.Name x pos) (tE G W OX O O (eK (.int i))) := by
  obtain ⟨t, hm⟩ := hm
  exact e_of (v := .int i) (pe_glob hg hm ⟨t, rfl⟩ hd) fun _ => .int
theorem e_gstr {x i : Str} {pos : Pos} (hm : ∃ t, X.mg x = some (.str i t)) (hg : Gl X x := by rfl) (hd : (x == ("__debug__" : Str)) = false := by decide) : PE X (.Name x pos) (tE G W OX O O (eK (.str i))) := by
  obtain ⟨t, hm⟩ := hm
  exact e_of (v := .str i) (pe_glob hg hm ⟨t, rfl⟩ hd) fun _ => .str
theorem e_bo1 {op : BoolOp} {a : Expr} {pos : Pos} {t : TE} (h : PE X a t) (he : eval (.BoolOp op [a] pos) X.env = eval a X.env := by rfl) : PE X (.BoolOp op [a] pos) t := ⟨fun pins s σ H Q I q => by rw [he]; exact h.run pins s σ H Q I q⟩
/-- a value's test, by its value -/
theorem tv_of {f : M D} {σ : L2.St} {H : Hp} {Q : Bool → Hp → Prop} (h : tT G W OX O O1 (tV f) σ H Q) : tE G W OX O O1 f σ H fun v H1 => ∃ c, v = .bl c ∧ Q c H1 := by
  obtain ⟨F, r, S, p⟩ := h
  refine tX_bind S p fun x v F1 H1 r1 n1 rx p => ?_
  revert p
  split
  · intro p
    cases rx
    exact ⟨_, rfl, p _ F1 H1 (Nx.rfl' n1.sta) rfl⟩
  · exact fun p => p.elim
theorem t_cmp {op : CmpOp} {a b : Expr} {pos : Pos} {o : D → D → Ev → Out D} {f g : M D} (ho : Op2 G X W OX O2 (compareOp op) o) (ha : PE X a (tE G W OX O O1 f)) (hb : PE X b (tE G W OX O1 O2 g)) (hm : behindInMarks op b = false := by first | exact nomark _ | rfl) :
    PT X (.Compare a [op] [b] pos) (tT G W OX O O2 (tV (eB o f g))) :=
  ⟨fun pins s σ H Q I h => by
    obtain ⟨F, r, S, p⟩ := tv_of h
    exact wpAny_isTrue_Compare1 (two ha hb I S p fun x y v w u u' s2 F2 H2 r2 I2 S2 rx ry ru ru' p => thn (ho pins s2 σ F2 H2 r2 x y v w u u' _ I2 S2 rx ry ru ru' p) fun c s3 ⟨z, H3, I3, rz, b, e, q⟩ => (by
      subst e
      cases rz
      exact wpAny_truthy_bool ⟨H3, I3, q⟩)) hm⟩
theorem t_isN {a : Expr} {j pos pos'} {f : M D} (ha : PE X a (tE G W OX O O1 f)) : PT X (.Compare a [.Is] [.Constant .none j pos'] pos) (tT G W OX O O1 (tV (eIsN f))) :=
  (pt_cmp (pc_isN ha) rfl).imp fun σ H Q h => by
    obtain ⟨F, r, S, p⟩ := tv_of h
    refine tX_bind S p fun x v F1 H1 r1 n1 rx p => ?_
    rw [rx.isN]
    exact p.ok n1.sta .bl
theorem t_notN {a : Expr} {j pos pos'} {f : M D} (ha : PE X a (tE G W OX O O1 f)) : PT X (.Compare a [.IsNot] [.Constant .none j pos'] pos) (tT G W OX O O1 (tV (eNotN f))) :=
  (pt_cmp (pc_notN ha) rfl).imp fun σ H Q h => by
    obtain ⟨F, r, S, p⟩ := tv_of h
    refine tX_bind S p fun x v F1 H1 r1 n1 rx p => ?_
    rw [rx.isN]
    exact p.ok n1.sta .bl
theorem t_chain {op op' : CmpOp} {a b c : Expr} {pos : Pos} {o o' : D → D → Ev → Out D} {f g h : M D} (ho : Op2 G X W OX O (compareOp op) o) (ho' : Op2 G X W OX O (compareOp op') o') (ha : PE X a (tE G W OX O O f)) (hb : PE X b (tE G W OX O O g))
    (hc : PE X c (tE G W OX O O h)) (hm : lastMarks [op, op'] [b, c] = false := by with_unfolding_all rfl) : PT X (.Compare a [op, op'] [b, c] pos) (tT G W OX O O (tV (eChain o o' f g h))) := by
  refine ⟨fun pins s σ H Q I hh => ?_⟩
  obtain ⟨F, r, S, p⟩ := tv_of hh
  refine isTrue_chain (thn (ha.run pins s σ H (fun v H1 => ∃ x, tE G W OX O O g σ H1 fun w H2 => ∃ F2 r2 y, Sta G O F2 H2 σ r2 ∧ Rep G F2 x v ∧ Rep G F2 y w ∧ Pst G W OX O O σ F2 H2 (RD G) (fun v H1 => ∃ c, v = .bl c ∧ Q c H1)
      ((o x y r2).bind fun z r3 => onBl z fun b => if b then (h r3).bind fun w r4 => o' y w r4 else .ok (.bl false) r3)) I
    (tX_bind S p fun x v F1 H1 r1 n1 rx p => ⟨x, tX_bind n1.sta p fun y w F2 H2 r2 n2 ry p => ⟨F2, r2, y, n2.sta, rx.mono n2.stp.fz, ry, p⟩⟩)) fun u s1 ⟨v, H1, I1, ru, x, q1⟩ =>
    test_link (thn (hb.run pins s1 σ H1 _ I1 q1) fun u' s2 ⟨w, H2, I2, ru', F2, r2, y, S2, rx, ry, p⟩ => ?_)) hm
  refine thn (ho pins s2 σ F2 H2 r2 _ y v w u u' _ I2 S2 rx ry ru ru' (Pst.bind (Rl := RD G) (O1 := O) p)) fun d s3 ⟨v3, H3, I3, r3', z, F3, r3, n3, rz, p⟩ => ?_
  cases rz with
  | @bl b =>
    cases r3'
    refine wpAny_truthy_bool ?_
    cases b with
    | false =>
      obtain ⟨b', e', q'⟩ := p.ok n3.sta .bl
      cases e'
      exact ite_ff ⟨H3, I3, q'⟩
    | true =>
      refine ite_tt (test_last (thn (hc.run pins s3 σ H3 (fun w' H4 => ∃ F4 r4 z', Sta G O F4 H4 σ r4 ∧ Sub F3 F4 ∧ Rep G F4 z' w' ∧ Pst G W OX O O σ F4 H4 (RD G) (fun v H1 => ∃ c, v = .bl c ∧ Q c H1) (o' y z' r4)) I3
        (tX_bind n3.sta p fun z' w' F4 H4 r4 n4 rz p => ⟨F4, r4, z', n4.sta, n4.stp.fz, rz, p⟩)) fun u'' s4 ⟨w', H4, I4, r4', F4, r4, z', S4, sb4, rz, p⟩ => ?_))
      refine thn (ho' pins s4 σ F4 H4 r4 y z' w w' u' u'' _ I4 S4 (ry.mono (n3.stp.fz.trans sb4)) rz ru' r4' p) fun d' s5 ⟨z2, H5, I5, r5, k2, e2, q5⟩ => ?_
      subst e2
      cases r5
      exact wpAny_truthy_bool ⟨H5, I5, q5⟩
  | _ => exact p.elim
/-- x if c else y, as a test -/
theorem t_if {c a b : Expr} {pos : Pos} {t f g : M Bool} (hc : PT X c (tT G W OX O O1 t)) (ha : PT X a (tT G W OX O1 O2 f)) (hb : PT X b (tT G W OX O1 O2 g))
    (he : ∀ whole, isTrue (.IfExp c a b pos) X.env whole = (do if ← isTrue c X.env (eval c X.env) then isTrue a X.env (eval a X.env) else isTrue b X.env (eval b X.env)) := by intro _; rfl) : PT X (.IfExp c a b pos) (tT G W OX O O2 (fun r => (t r).bind fun z r1 => if z then f r1 else g r1)) :=
  ⟨fun pins s σ H Q I ⟨F, r, S, p⟩ => by
    rw [he]
    refine wpAny_bind (thn (hc.run pins s σ H (fun z H1 => ∃ F1 r1, Sta G O1 F1 H1 σ r1 ∧ Pst G W OX O1 O2 σ F1 H1 RB Q (if z then f r1 else g r1)) I (tX_bind S p fun z z' F1 H1 r1 n1 e p => (by subst e; exact ⟨F1, r1, n1.sta, p⟩))) fun z s1 ⟨H1, I1, F1, r1, S1, p⟩ => ?_)
    cases z with
    | true => exact ha.run pins s1 σ H1 Q I1 ⟨F1, r1, S1, p⟩
    | false => exact hb.run pins s1 σ H1 Q I1 ⟨F1, r1, S1, p⟩⟩
end
/-- the law's promise from what it answers -/
theorem end_of {G : Gm} {B : Beh} {H : Hp} {a : Addr} {ns : List Int} {r : Ev} (hO : Only H) (hS : SqL G.K H a (ns.map V.int)) (h : B [.kl (ns.map D.int)] = .ok (.bl true) r) : spB G 1 [] B [.ref a] H (fun v _ => v = .bl true) fun _ _ _ => False := by
  refine ⟨rfl, H, [.kl (ns.map D.int)], Sta.args .rfl' (fun b C dx fs f e => ?_) (.cons (.kl hS (RepL.ofInts ns)) .nil), ?_⟩
  · rcases hO b with q | ⟨o, xs, q⟩
    · rw [q] at e
      cases e
    · rw [q] at e
      cases e
  · rw [h]
    intro v F' H' n rd
    cases rd
    rfl
end Z

/-! What the plain operations answer. -/
namespace Z
open PySem PySem.Spec PyProof.Rows L2

@[simp] theorem pEq_int (i j : Int) : pEq (.int i) (.int j) = some (.bl (decide (i = j))) := by
  unfold pEq pEqB toP SeqAt.shaped
  simp [PyData.canLay0, PyData.depth, PyData.eqv]
  by_cases h : i = j <;> simp [h]
@[simp] theorem pNe_int (i j : Int) : pNe (.int i) (.int j) = some (.bl (!decide (i = j))) := by
  unfold pNe pEqB toP SeqAt.shaped
  simp [PyData.canLay0, PyData.depth, PyData.eqv]
  by_cases h : i = j <;> simp [h]
theorem pEq_str {a b : Str} (ha : PyData.strOk a = true) (hb : PyData.strOk b = true) : pEq (.str a) (.str b) = some (.bl (decide (a = b))) := by
  unfold pEq pEqB toP SeqAt.shaped
  simp [PyData.canLay0, PyData.depth, PyData.eqv, ha, hb]
  by_cases h : a = b <;> simp [h]
theorem pNe_str {a b : Str} (ha : PyData.strOk a = true) (hb : PyData.strOk b = true) : pNe (.str a) (.str b) = some (.bl (!decide (a = b))) := by
  unfold pNe pEqB toP SeqAt.shaped
  simp [PyData.canLay0, PyData.depth, PyData.eqv, ha, hb]
  by_cases h : a = b <;> simp [h]
theorem toPs_ints (ns : List Int) : toPs (ns.map D.int) = some (ns.map PyData.int) := by
  induction ns with
  | nil => rfl
  | cons n ns ih => simp [toPs, toP, ih]
theorem canLay_ints (ns : List Int) : PyData.canLayAll0 (ns.map PyData.int) = true := by
  induction ns with
  | nil => rfl
  | cons n ns ih => simp [PyData.canLayAll0, PyData.canLay0, ih]
theorem depth_ints (ns : List Int) : PyData.depthAll (ns.map PyData.int) = 0 := by
  induction ns with
  | nil => rfl
  | cons n ns ih => simp [PyData.depthAll, PyData.depth, ih]
theorem pNe_nil (ns : List Int) : pNe (.lst (ns.map .int)) (.lst []) = some (.bl (!ns.isEmpty)) := by
  unfold pNe pEqB toP SeqAt.shaped
  rw [toPs_ints]
  cases ns with
  | nil => simp [PyData.canLay0, PyData.canLayAll0, PyData.depth, PyData.depthAll, PyData.eqv, PyData.eqvAll, toPs]
  | cons n ns => simp [PyData.canLay0, PyData.canLayAll0, canLay_ints, PyData.depth, PyData.depthAll, depth_ints, PyData.eqv, PyData.eqvAll, toPs]
@[simp] theorem pAdd_int (i j : Int) : pAdd (.int i) (.int j) = some (.int (i + j)) := rfl
@[simp] theorem pSub_int (i j : Int) : pSub (.int i) (.int j) = some (.int (i - j)) := rfl
@[simp] theorem pNeg_int (i : Int) : pNeg (.int i) = some (.int (-i)) := rfl
@[simp] theorem pLt_int (i j : Int) : pLt (.int i) (.int j) = some (.bl (decide (i < j))) := rfl
@[simp] theorem pLe_int (i j : Int) : pLe (.int i) (.int j) = some (.bl (decide (i ≤ j))) := rfl
@[simp] theorem pGt_int (i j : Int) : pGt (.int i) (.int j) = some (.bl (decide (j < i))) := rfl
@[simp] theorem pGe_int (i j : Int) : pGe (.int i) (.int j) = some (.bl (decide (j ≤ i))) := rfl
@[simp] theorem pInt_int (i : Int) : pInt [.int i] = some (.int i) := rfl
@[simp] theorem pInt_bl (b : Bool) : pInt [.bl b] = some (.int (if b then 1 else 0)) := rfl
@[simp] theorem pBool_int (i : Int) : pBool [.int i] = some (.bl (i != 0)) := rfl
@[simp] theorem pAbs_int (i : Int) : pAbs [.int i] = some (.int (if i < 0 then -i else i)) := rfl
@[simp] theorem pGcd_int (a b : Int) : pGcd [.int a, .int b] = some (.int ((Int.gcd a b : Nat) : Int)) := rfl
theorem wd_small {n k : Nat} {i : Int} (h : i.natAbs < 2 ^ k) (h0 : 0 < k) (hk : k ≤ n) : wd n i = true := wd_of h h0 hk
theorem mulB_left {i j : Int} (h : i.natAbs < 2 ^ 60) : mulB i j = true := by
  unfold mulB
  rw [wd_of h (by omega) (Nat.le_refl _)]
  rfl
theorem mulB_right {i j : Int} (h : j.natAbs < 2 ^ 60) : mulB i j = true := by
  unfold mulB
  rw [wd_of (n := 60) h (by omega) (Nat.le_refl _)]
  simp
theorem mulB_both {i j : Int} {a b : Nat} (h : i.natAbs < 2 ^ a) (h' : j.natAbs < 2 ^ b) (ha : 0 < a) (hb : 0 < b) (ha' : a ≤ 400000) (hb' : b ≤ 400000) : mulB i j = true := by
  unfold mulB
  rw [wd_of (n := 400000) h ha ha', wd_of (n := 400000) h' hb hb']
  simp
theorem pMul_int {i j : Int} (h : mulB i j = true) : pMul (.int i) (.int j) = some (.int (i * j)) := by
  unfold pMul
  exact if_pos h
theorem pDiv_int {i j : Int} (h : wd 8000 j = true) (h0 : j ≠ 0) : pDiv (.int i) (.int j) = some (.int (i.fdiv j)) := by
  unfold pDiv
  exact if_pos (by simp [h, h0])
theorem pMod_int {i j : Int} (h0 : j ≠ 0) : pMod (.int i) (.int j) = some (.int (i.fmod j)) := by
  unfold pMod
  exact if_neg h0
theorem pPow_int {i j : Int} (h0 : 0 ≤ j) (h1 : j ≤ 1000000) (h : i.natAbs < 2 ^ 64) : pPow (.int i) (.int j) = some (.int (i ^ j.toNat)) := by
  unfold pPow
  exact if_pos ⟨h0, h1, h⟩
theorem pLen_lst {l : List D} : pLen [.lst l] = some (.int (l.length : Nat)) := rfl
theorem pLen_tup {l : List D} : pLen [.tup l] = some (.int (l.length : Nat)) := rfl
theorem pLen_kl {l : List D} : pLen [.kl l] = some (.int (l.length : Nat)) := rfl
theorem pSum_lst (ns : List Int) : pSum [.lst (ns.map D.int)] = some (.int ns.sum) := by
  unfold pSum lisOf
  simp [toInts_map]
theorem pAll_lst (bs : List Bool) : pAll [.lst (bs.map D.bl)] = some (.bl (bs.all id)) := by
  unfold pAll lisOf
  simp [toBls_map]
theorem pTup_ok {l : List D} (h : l.length ≤ 64) : pTup l = some (.tup l) := by
  unfold pTup okLen big
  rw [if_pos (by simp; omega)]
theorem pLst_ok {l : List D} (h : l.length ≤ 64) : pLst l = some (.lst l) := by
  unfold pLst okLen big
  rw [if_pos (by simp; omega)]
theorem keepE_no (n : Nat) (r : Ev) : keepE [] n r = List.replicate n none := by
  unfold keepE
  apply List.ext_getElem
  · simp
  · intro i h1 h2
    simp
theorem keepE_at (n : Nat) (r : Ev) : keepE [0] (n + 1) r = r.getD 0 none :: List.replicate n none := by
  unfold keepE
  apply List.ext_getElem
  · simp
  · intro i h1 h2
    cases i with
    | zero => simp
    | succ i => simp
@[simp] theorem keepE1 (r : Ev) : keepE [] 1 r = [none] := keepE_no 1 r
@[simp] theorem keepE2 (r : Ev) : keepE [] 2 r = [none, none] := keepE_no 2 r
@[simp] theorem keepE3 (r : Ev) : keepE [] 3 r = [none, none, none] := keepE_no 3 r
@[simp] theorem keepE4 (r : Ev) : keepE [] 4 r = [none, none, none, none] := keepE_no 4 r
@[simp] theorem keepE5 (r : Ev) : keepE [] 5 r = [none, none, none, none, none] := keepE_no 5 r
@[simp] theorem keepE1' (r : Ev) : keepE [0] 1 r = [r.getD 0 none] := keepE_at 0 r
@[simp] theorem keepE2' (r : Ev) : keepE [0] 2 r = [r.getD 0 none, none] := keepE_at 1 r
@[simp] theorem keepE3' (r : Ev) : keepE [0] 3 r = [r.getD 0 none, none, none] := keepE_at 2 r
@[simp] theorem keepE4' (r : Ev) : keepE [0] 4 r = [r.getD 0 none, none, none, none] := keepE_at 3 r
@[simp] theorem keepE5' (r : Ev) : keepE [0] 5 r = [r.getD 0 none, none, none, none, none] := keepE_at 4 r
@[simp] theorem keepE6' (r : Ev) : keepE [0] 6 r = [r.getD 0 none, none, none, none, none, none] := keepE_at 5 r
end Z

/-! append on own lists, freezing, a list of one's own in a pair, [::-1], max of a list. -/
namespace Z
open PySem PySem.Spec PyProof.Rows L2
@[simp] def sApp (i : Nat) (f : M D) : M Fl := fun r => match r[i]? with
  | some (some (.lst _)) => (f r).bind fun d r1 => match r1[i]? with
    | some (some (.lst l)) => if l.length < sizeLine then .ok .nx (r1.set i (some (.lst (l ++ [d])))) else .no
    | _ => .no
  | _ => .no
/-- x, y = [], e: the list is this code's own -/
@[simp] def sParF (i j : Nat) (f : M D) : M Fl := fun r => (f r).bind fun d r1 => if i < r1.length then .ok .nx ((r1.set i (some (.lst []))).set j (some d)) else .no
/-- x, y = e, []: the list is this code's own -/
@[simp] def sParG (i j : Nat) (f : M D) : M Fl := fun r => (f r).bind fun d r1 => if j < r1.length then .ok .nx ((r1.set j (some (.lst []))).set i (some d)) else .no
def revM : D → D → Option D
  | .lst l, .int n => if n = -1 then some (.lst l.reverse) else none
  | _, _ => none
@[simp] theorem revM_ok (l : List D) : revM (.lst l) (.int (-1)) = some (.lst l.reverse) := rfl
@[simp] def eRev (f g : M D) : M D := fun r => (f r).bind fun x r1 => (g r1).bind fun k r2 => liftO (revM x k) r2
def maxI : List Int → Int
  | [] => 0
  | [n] => n
  | n :: m :: l => max n (maxI (m :: l))
def pMax1 : List D → Option D
  | [x] => (lisOf x).bind fun l => (toInts l).bind fun ns => if ns = [] then none else some (.int (maxI ns))
  | _ => none
theorem maxI_is : ∀ {ns : List Int}, ns ≠ [] → maxI ns ∈ ns ∧ ∀ y ∈ ns, y ≤ maxI ns
  | [], h => absurd rfl h
  | [n], _ => by simp [maxI]
  | n :: m :: l, _ => by
    obtain ⟨h1, h2⟩ := maxI_is (ns := m :: l) (by simp)
    rw [maxI]
    refine ⟨?_, fun y hy => ?_⟩
    · by_cases q : n ≤ maxI (m :: l)
      · rw [Int.max_eq_right q]
        exact List.mem_cons_of_mem _ h1
      · rw [Int.max_eq_left (by omega)]
        exact List.mem_cons_self
    · rcases List.mem_cons.mp hy with e | hy
      · rw [e]; exact Int.le_max_left _ _
      · exact Int.le_trans (h2 y hy) (Int.le_max_right _ _)
theorem RepL.snoc {G : Gm} {F : Hp} : ∀ {ds : List D} {vs : List V} {d : D} {v : V}, RepL G F ds vs → Rep G F d v → RepL G F (ds ++ [d]) (vs ++ [v])
  | _, _, _, _, .nil, r => .cons r .nil
  | _, _, _, _, .cons a b, r => .cons a (RepL.snoc b r)
theorem RepL.rev {G : Gm} {F : Hp} : ∀ {ds : List D} {vs : List V}, RepL G F ds vs → RepL G F ds.reverse vs.reverse := by
  intro ds
  induction ds with
  | nil => intro vs h; cases h; exact .nil
  | cons d ds ih =>
    intro vs h
    cases h with
    | cons a b =>
      rw [List.reverse_cons, List.reverse_cons]
      exact (ih b).snoc a
section
variable {G : Gm} {X : Cx} {W : WX} {OX OL vs O O1 O2 O3 : List Nat}
/-- some of the owned are given up first -/
theorem ss_frz {st : List Stmt} {f : M Fl} (h : PSs X st (tS G W OX OL O1 O2 f)) (hs : ∀ i ∈ O1, i ∈ O := by decide) : PSs X st (tS G W OX OL O O2 f) :=
  h.imp fun Dn σ H ⟨F, r, S, p⟩ => by
    obtain ⟨F2, n2, sb⟩ := (Nx.rfl' (OX := OX) S).freeze hs
    exact ⟨F2, r, n2.sta, PstS.after n2 p⟩
theorem s_app {x : Str} {e : Expr} {pos cpos apos px : Pos} {f : M D} (i : Nat) (he : PE X e (tE G W OX O O1 f)) (hO : i ∈ O := by decide) (hi : i ∈ O1 := by decide) (hN : X.N[i]? = some x := by rfl) (hv : Vis X.env.scope x := by first | exact Or.inl rfl | exact Or.inr (Or.inl rfl) | exact Or.inr (Or.inr rfl))
    (hd : (x == ("__debug__" : Str)) = false := by decide) (hcd : (x == ("__classdict__" : Str)) = false := by decide)
    (hbase : attributeBase (.Name x px) "append" X.env (eval (.Name x px) X.env) = eval (.Name x px) X.env := by rfl)
    (hfew : ((backTo cpos (starEach [e] X.env)).all (fun x => !x.1) && (backToKw cpos (keywordEach [] X.env)).all (fun x => x.1.isSome)
      && decide (([e] : List Expr).length + ([] : List Keyword).length + (if ([] : List Keyword).isEmpty then 0 else 1) < 30)) = true := by rfl)
    (hline : (apos.endLine == cpos.line) = true := by rfl) (hs : starEach [e] X.env = (false, eval e X.env) :: starEach [] X.env := by rfl) (hplain : (backTo cpos (starEach [] X.env)).any (·.1) = false := by rfl)
    (hsw : swapsWith (.Call (.Attribute (.Name x px) "append" apos) [e] [] cpos) none pos.line X.env = pure false := by rfl) : PS X (.Expr (.Call (.Attribute (.Name x px) "append" apos) [e] [] cpos) pos) (tS G W OX OL O O1 (sApp i f)) :=
  (ps_expr (pe_bm PySem.F.plainAttrs_list PySem.F.slot_list_append PySem.F.type_list_append mt_append (pe_var hN hv hd hcd) (pa_cons he pa_nil hs) hbase hfew hline hs hplain) hsw).imp fun Dn σ H ⟨F, r, S, p⟩ => by
    obtain ⟨d0, v0, e1, e2, o0⟩ := S.ow i hO
    simp only [sApp, e1] at p
    cases o0 with
    | @lst l0 a xs h hf rr =>
      simp only at p
      refine ⟨_, e2, .inl ⟨rfl, xs, .inl (.inl h)⟩, tS_bind S p fun d v F1 H1 r1 n1 rd p => ?_⟩
      revert p
      split
      · rename_i l e3
        intro p
        obtain ⟨v1, e4, o⟩ := n1.sta.own_at hi e3
        rw [e2] at e4
        cases e4
        cases o with
        | @lst _ _ xs1 h1 hf1 rr1 =>
          split at p
          · rename_i hz
            refine ⟨a, xs1, v, rfl, rfl, h1, by rw [← rr1.length]; exact hz, p _ _ _ (n1.sta.wr hi e2 (.lst upd_same hf1 (RepL.snoc rr1 rd)) (sub_wr n1.sta.sub hf1) (n1.sta.wf.upd rfl))⟩
          · exact p.elim
      · exact fun p => p.elim
    | _ => exact p.elim

theorem s_parF {x y : Str} {e : Expr} {px py pt pos lp : Pos} {kt k2 pt2} {f : M D} (i j : Nat) (he : PE X e (tE G W OX O O1 f)) (hx1 : i ∉ OX := by decide) (hx2 : j ∉ OX := by decide) (hij : i ≠ j := by decide) (hiO : i ∉ O := by decide) (hN : X.N.Nodup := by first | assumption | decide +kernel) (hi : X.N[i]? = some x := by rfl) (hj : X.N[j]? = some y := by rfl)
    (hx : Loc X.env.scope x := by first | exact Or.inl rfl | exact Or.inr rfl) (hy : Loc X.env.scope y := by first | exact Or.inl rfl | exact Or.inr rfl) (hc : X.calm = true := by rfl) (hw : swappedStores [.Tuple [.Name x px, .Name y py] kt pt] (.Tuple [.List [] lp, e] k2 pt2) X.env = pure none := by rfl)
    (hs : swapsWithSole [.Tuple [.Name x px, .Name y py] kt pt] (.Tuple [.List [] lp, e] k2 pt2) pos.line X.env = pure false := by rfl)
    (hf1 : X.fn x = true ∨ X.env.scope.names.lookup x = some .local := by first | exact .inl rfl | exact .inr rfl | assumption) (hf2 : X.fn y = true ∨ X.env.scope.names.lookup y = some .local := by first | exact .inl rfl | exact .inr rfl | assumption)
    (hs1 : starEach [.List [] lp, e] X.env = (false, eval (.List [] lp) X.env) :: starEach [e] X.env := by rfl) (hs2 : starEach [e] X.env = (false, eval e X.env) :: starEach [] X.env := by rfl)
    (hg1 : (assignEach [.Name x px, .Name y py] X.env).map (·.2) = assign (.Name x px) X.env :: (assignEach [.Name y py] X.env).map (·.2) := by rfl) (hg2 : (assignEach [.Name y py] X.env).map (·.2) = assign (.Name y py) X.env :: (assignEach [] X.env).map (·.2) := by rfl)
    (hn : (assignEach [.Name x px, .Name y py] X.env).length = 2 := by rfl) (hst : (assignEach [.Name x px, .Name y py] X.env).findIdx? (·.1) = none := by rfl) (h1 : (assignEach [.Tuple [.Name x px, .Name y py] kt pt] X.env).map (·.2) = [assign (.Tuple [.Name x px, .Name y py] kt pt) X.env] := by rfl) :
    PS X (.Assign [.Tuple [.Name x px, .Name y py] kt pt] (.Tuple [.List [] lp, e] k2 pt2) pos) (tS G W OX OL O ((i :: O1.filter (· != i)).filter (· != j)) (sParF i j f)) :=
  (ps_asg (pe_tup (pa_cons (pe_lst pa_nil) (pa_cons he pa_nil hs2) hs1)) (pg_tup hc (pgs_cons (pg_name hN hi hx hf1) (pgs_cons (pg_name hN hj hy hf2) pgs_nil hg2) hg1) hn hst) hs hw h1).imp fun Dn σ H ⟨F, r, S, p⟩ => by
    refine ⟨by simp [sizeLine], fun L hL => ?_⟩
    obtain ⟨S0, s0, fL⟩ := new_ow (o := .lst []) S hL rfl
    have n0 : Nx G OX O O σ F H σ F (upd H L (.lst [])) r := Nx.of S0 s0 fun _ h => h
    refine ⟨F, r, S0, ?_⟩
    simp only [sParF] at p
    revert p
    cases f r with
    | no => exact fun p => p
    | ex e q => exact fun p c dx F' H' n x => p c dx σ F' H' (n0.trans n) x
    | ok d r1 =>
    intro p v F1 H1 n1 rd
    have p : PstS G W OX OL O ((i :: O1.filter (· != i)).filter (· != j)) σ F H Dn (if i < r1.length then .ok .nx ((r1.set i (some (.lst []))).set j (some d)) else .no) := p
    refine ⟨by simp [sizeLine], fun T hT => ⟨T, _, rfl, .inl (.inl upd_same), rfl, ?_⟩⟩
    refine ⟨_, _, rfl, ?_⟩
    refine ⟨_, _, rfl, ?_⟩
    refine ⟨rfl, ?_⟩
    revert p
    split
    case isFalse => exact fun p => p.elim
    rename_i hlt
    intro p
    have nO : ¬ OwnAt O σ L := fun ⟨k, hk, ek⟩ => by
      obtain ⟨_, _, _, e2, ow⟩ := S.ow k hk
      rw [ek] at e2
      cases e2
      obtain ⟨b, o, eb, hb⟩ := ow.there
      cases eb
      rw [hL] at hb
      cases hb
    have k1 : H1 L = some (.lst []) := n1.stp.kp L _ upd_same nO
    have k2 : F1 L = none := (n1.stp.nf L _ upd_same nO).trans fL
    obtain ⟨S2, s2, fT⟩ := new_ow (o := .tup [.ref L, v]) n1.sta hT rfl
    have hne : L ≠ T := fun z => by rw [z, hT] at k1; cases k1
    have n2 : Nx G OX O O1 σ F H σ F1 (upd H1 T (.tup [.ref L, v])) r1 := (n0.trans n1).trans (Nx.of S2 s2 fun _ h => h)
    have n2' : Nx G OX O1 O1 σ F1 H1 σ F1 (upd H1 T (.tup [.ref L, v])) r1 := Nx.of S2 s2 fun _ h => h
    have rf : RF G O1 σ H F1 (upd H1 T (.tup [.ref L, v])) (.lst []) (.ref L) := ⟨.lst (by rw [upd_ne hne]; exact k1) k2 .nil, fun a ea => by
      cases ea
      refine ⟨hL, fun m => ?_⟩
      rcases n1.pv L m with q | q
      · exact nO q
      · rw [upd_same] at q
        cases q⟩
    have n3 := own_set i n2 rf hlt hx1
    have n4 := nx_set (OX := OX) j n3.sta rd hx2
    have n5 := n3.trans n4
    exact p _ _ _ n5
theorem s_parG {x y : Str} {e : Expr} {px py pt pos lp : Pos} {kt k2 pt2} {f : M D} (i j : Nat) (he : PE X e (tE G W OX O O1 f)) (hx1 : i ∉ OX := by decide) (hx2 : j ∉ OX := by decide) (hij : i ≠ j := by decide) (hN : X.N.Nodup := by first | assumption | decide +kernel) (hi : X.N[i]? = some x := by rfl) (hj : X.N[j]? = some y := by rfl)
    (hx : X.env.scope.names.lookup x = some .local := by rfl) (hy : X.env.scope.names.lookup y = some .local := by rfl) (hc : X.calm = true := by rfl) (hw : swappedStores [.Tuple [.Name x px, .Name y py] kt pt] (.Tuple [e, .List [] lp] k2 pt2) X.env = pure (some [x, y]) := by rfl)
    (hs : swapsWithSole [.Tuple [.Name x px, .Name y py] kt pt] (.Tuple [e, .List [] lp] k2 pt2) pos.line X.env = pure false := by rfl)
    (hs1 : starEach [e, .List [] lp] X.env = (false, eval e X.env) :: starEach [.List [] lp] X.env := by rfl) (hs2 : starEach [.List [] lp] X.env = (false, eval (.List [] lp) X.env) :: starEach [] X.env := by rfl) :
    PS X (.Assign [.Tuple [.Name x px, .Name y py] kt pt] (.Tuple [e, .List [] lp] k2 pt2) pos) (tS G W OX OL O ((j :: O1.filter (· != j)).filter (· != i)) (sParG i j f)) :=
  (ps_par hc hN hi hj hij hx hy (pa_cons he (pa_cons (pe_lst pa_nil) pa_nil hs2) hs1) hw hs).imp fun Dn σ H ⟨F, r, S, p⟩ => by
    refine ⟨F, r, S, ?_⟩
    simp only [sParG] at p
    revert p
    cases f r with
    | no => exact fun p => p
    | ex e q => exact fun p c dx F' H' n x => p c dx σ F' H' n x
    | ok d r1 =>
    intro p v F1 H1 n1 rd
    have p : PstS G W OX OL O ((j :: O1.filter (· != j)).filter (· != i)) σ F H Dn (if j < r1.length then .ok .nx ((r1.set j (some (.lst []))).set i (some d)) else .no) := p
    refine ⟨by simp [sizeLine], fun L hL => ⟨_, _, rfl, ?_⟩⟩
    revert p
    split
    case isFalse => exact fun p => p.elim
    rename_i hlt
    intro p
    obtain ⟨S2, s2, fL⟩ := new_ow (o := .lst []) n1.sta hL rfl
    have n2 : Nx G OX O O1 σ F H σ F1 (upd H1 L (.lst [])) r1 := n1.trans (Nx.of S2 s2 fun _ h => h)
    have rf : RF G O1 σ H F1 (upd H1 L (.lst [])) (.lst []) (.ref L) := ⟨.lst upd_same fL .nil, fun a ea => by
      cases ea
      refine ⟨n1.stp.tr _ hL, fun ⟨k, hk, ek⟩ => ?_⟩
      obtain ⟨_, _, _, e2, ow⟩ := n1.sta.ow k hk
      rw [ek] at e2
      cases e2
      obtain ⟨b, o, eb, hb⟩ := ow.there
      cases eb
      rw [hL] at hb
      cases hb⟩
    have n3 := own_set j n2 rf hlt hx2
    have n4 := nx_set (OX := OX) i n3.sta rd hx1
    have n5 := n3.trans n4
    rw [List.set_comm _ _ hij]
    exact p _ _ _ n5
/-- max of one list of ints -/
theorem e_max1 {x : Expr} {xs : List Expr} {pp pos : Pos} {f : M (List D)} (ha : PA X (x :: xs) (tA G W OX O O1 f)) (hm : X.mg "max" = none := by assumption) (hg : Gl X "max" := by rfl) (hc : X.calm = true := by rfl) (hK : X.K = G.K := by rfl)
    (he : starEach (x :: xs) X.env = (false, eval x X.env) :: starEach xs X.env := by rfl) (hpl : (backTo pos (starEach xs X.env)).any (·.1) = false := by rfl) : PE X (.Call (.Name "max" pp) (x :: xs) [] pos) (tE G W OX O O1 (eN pMax1 f)) :=
  e_cB pMax1 (cr_max hc) (fun σ F H r ds vs d Q S rs e q => by
    unfold pMax1 at e
    split at e
    · obtain ⟨l, e1, e2⟩ := Option.bind_eq_some_iff.mp e
      obtain ⟨ns, e3, e4⟩ := Option.bind_eq_some_iff.mp e2
      split at e4
      · cases e4
      rename_i hne
      cases e4
      cases rs with
      | cons r1 rr =>
        cases rr
        obtain ⟨a, xs, rfl, hq, rl⟩ := lis_of r1 e1
        rw [toInts_eq e3] at rl
        rw [hK]
        refine ⟨a, ns, rfl, by rw [← rl.ints]; exact hq H S.sub, List.length_pos_iff.mpr hne, fun m h1 h2 => ?_⟩
        obtain ⟨g1, g2⟩ := maxI_is hne
        have : m = maxI ns := Int.le_antisymm (g2 m h1) (h2 _ g1)
        subst this
        exact q.ok S .int
    · cases e) ha hm (hg := hg) (he := he) (hpl := hpl)
theorem pick_rev (xs : List Value) : slicePick xs.toArray none none (some (-1)) = xs.reverse.toArray := by
  unfold slicePick sliceRange sliceBounds
  apply congrArg List.toArray
  have e : ∀ (n : Nat), ((if ((n : Int) - 1) > -1 then ((n : Int) - 1 - (-1) - (-1) - 1) / (-(-1)) else 0 : Int)).toNat = n := by
    intro n
    rw [show ((n : Int) - 1 - (-1) - (-1) - 1) = n by omega, show (-(-1) : Int) = 1 by rfl, Int.ediv_one]
    split <;> omega
  simp only [Option.getD_some, show ¬ ((-1 : Int) > 0) by omega, if_false, List.size_toArray, e]
  apply List.ext_getElem?
  intro k
  have key : ∀ (m : Nat), m ≤ xs.length → List.filterMap (fun x => xs[x]?) (List.map (fun (k : Nat) => ((xs.length : Int) - 1 + -1 * (k : Int)).toNat) (List.range m)) = (xs.reverse).take m := by
    intro m
    induction m with
    | zero => simp
    | succ m ih =>
      intro hm
      rw [List.range_succ, List.map_append, List.filterMap_append, ih (by omega), List.take_succ]
      congr 1
      have e2 : ((xs.length : Int) - 1 + -1 * (m : Int)).toNat = xs.length - 1 - m := by omega
      simp only [List.map_cons, List.map_nil, e2]
      rw [List.getElem?_reverse (by omega)]
      have : xs[xs.length - 1 - m]? = some (xs[xs.length - 1 - m]'(by omega)) := List.getElem?_eq_getElem _
      simp [this]
  have z := key xs.length (Nat.le_refl _)
  rw [List.take_of_length_le (by simp)] at z
  rw [← z]
  rw [show (fun x => xs.toArray[x]?) = fun x => xs[x]? from funext fun x => List.getElem?_toArray]
theorem vals_rev2 {xs : List V} : ∀ {us : List Value}, Vals xs us → Vals xs.reverse us.reverse := by
  induction xs with
  | nil => intro us h; cases h; exact .nil
  | cons x xs ih =>
    intro us h
    cases h with
    | cons a b =>
      rw [List.reverse_cons, List.reverse_cons]
      exact (ih b).append (.cons a .nil)
/-- a[::-1], a a list -/
theorem e_rev {e st : Expr} {p2 pos : Pos} {f g : M D} (he : PE X e (tE G W OX O O1 f)) (hst : PE X st (tE G W OX O1 O2 g)) (hK : X.K = G.K := by rfl) (htl : ∀ a b, subscripted (.Slice none none (some st) p2) false a b = operate [a, b] (getItem a b) := by intro _ _; rfl) :
    PE X (.Subscript e (.Slice none none (some st) p2) pos) (tE G W OX O O2 (eRev f g)) := by
  refine ⟨fun pins s σ H Q I ⟨F, r, S, p⟩ => ?_⟩
  refine Subscript_ (thn (he.run pins s σ H (fun x H1 => ∃ d F1 r1, Nx G OX O O1 σ F H σ F1 H1 r1 ∧ Rep G F1 d x ∧ Pst G W OX O1 O2 σ F1 H1 (RD G) Q ((g r1).bind fun k r2 => liftO (revM d k) r2)) I (tX_bind S p fun d v F1 H1 r1 n1 rd p => ⟨d, F1, r1, n1, rd, p⟩)) fun v s1 ⟨x, H1, I1, r1, d, F1, q1, n1, rd, p⟩ => ?_)
  refine wpAny_Slice ?_
  rw [evalPart_none, evalPart_some]
  refine wpAny_pure (wpAny_pure ?_)
  refine thn (hst.run pins s1 σ H1 (fun y H2 => ∃ k F2 r2, Nx G OX O1 O2 σ F1 H1 σ F2 H2 r2 ∧ Rep G F2 k y ∧ Pst G W OX O2 O2 σ F2 H2 (RD G) Q (liftO (revM d k) r2)) I1 (tX_bind n1.sta p fun k y F2 H2 r2 n2 ry p => ⟨k, F2, r2, n2, ry, p⟩)) fun w s2 ⟨y, H2, I2, ry, k, F2, r2, n2, rk, p⟩ => ?_
  obtain ⟨dd, ed, q⟩ := p.lift
  unfold revM at ed
  split at ed
  case h_2 => cases ed
  split at ed
  case isFalse => cases ed
  rename_i hn
  subst hn
  cases ed
  cases rk
  obtain ⟨t, rfl⟩ := ry
  have I4 : Inv X pins σ H2 { s2 with heap := s2.heap.push { cls := .type "slice", data := .fields #[.none, .none, .int (-1) t] } } := I2.kept (t' := s2.toks) fun b ob q => Heap.get?_push_of_some _ q
  have rd := rd.mono n2.stp.fz
  cases rd with
  | @lst _ a xs h rl =>
    obtain rfl : v = Value.ref a := r1
    obtain ⟨o', e', g'⟩ := n2.sta.sub _ _ h
    rw [g'.lst] at e'
    have hx : SqL X.K H2 a xs := .inl (.inl e')
    obtain ⟨its, rv, ht, hz⟩ := I4.list hx
    have hg : wpAny (model X.prog X.w) X.A (getItem (.ref a) (.ref s2.heap.objs.size)) (EP X pins σ Q) X.xe { s2 with heap := s2.heap.push { cls := .type "slice", data := .fields #[.none, .none, .int (-1) t] } } := by
      refine wpAny_getItem_list_slice ht.isList (Heap.IsSliceOf.new ..) .none .none (.int (-1) t) (by decide) ?_ (by rw [List.size_toArray, ← rv.length]; exact hz)
      rw [pick_rev]
      refine ⟨.ref _, _, I4.laid (t' := s2.toks) (o := .lst xs.reverse) (fun b ob q => Heap.get?_push_of_some _ q) (Nat.le_refl _) ?_, rfl, ?_⟩
      · exact ⟨by rw [List.length_reverse]; exact hz, _, 0, vals_rev2 rv, Heap.get?_push_size _ rfl⟩
      · exact q.fz n2.sta (I4.hok.fresh (Nat.le_refl _)) rfl fun F' hF sb' => .lst hF (rl.mono sb').rev
    show wpAny (model X.prog X.w) X.A (subscriptTail e (.Slice none none (some st) p2) (.ref a) (.ref s2.heap.objs.size)) (EP X pins σ Q) X.xe { s2 with heap := s2.heap.push { cls := .type "slice", data := .fields #[.none, .none, .int (-1) t] } }
    exact tail_any (ops := [.ref a, .ref s2.heap.objs.size]) ht.isList.typeIs slot_list_getitem.lookup hg (htl _ _)
end
end Z

/-! == and != of tuples (of tuples ..) whose items have an own ==; either answer. -/
namespace Z
open PySem PySem.SeqAt
open AutoSeq1 (wpAny_loadPart')
open MeetsSeq MeetsSeq2 MeetsSeq3 SeqRoads2
section
variable {prog : Program} {w : World} {A : Around} {E : Value → Shared → Prop} {s : Shared}

theorem loop_eq {R : Result → Shared → Prop} (p1 p2 : Addr) (k1 k2 : Array Value) (m1 m2 : Nat) (u1 u2 : Option Addr) (z1 z2 : Array (Option Value)) (Y : Nat → Shared → Prop) (N : Shared → Prop)
    (lap : ∀ i (g1 : i < k1.size) (g2 : i < k2.size) s', Y i s' → wpAny (model prog w) A.in1 (eqBool k1[i] k2[i]) (fun b s2 => (b = true ∧ Y (i + 1) s2) ∨ (b = false ∧ N s2)) (fun e s' => R (.error e) s') s')
    (end1 : ∀ s', Y (min k1.size k2.size) s' → R (.ok (.ret (.bool (k1.size == k2.size)))) s') (end2 : ∀ s', N s' → R (.ok (.ret (.bool false))) s')
    (a1 : s.heap.get? p1 = some { cls := .type "tuple", dict := u1, data := .seq k1 m1, slots := z1 }) (a2 : s.heap.get? p2 = some { cls := .type "tuple", dict := u2, data := .seq k2 m2, slots := z2 }) (st : Y 0 s) :
    wpAny (model prog w) A.in1 (Builtin.«tuple.__eq__» ⟨[.ref p1, .ref p2], []⟩) (GQ.FinOf prog w A R) (fun e s' => R (.error e) s') s := by
  have j2 := AutoSeq1.sub_tuple_tuple
  have lz : (k1.toList.zip k2.toList).length = min k1.size k2.size := by simp
  have st0 := st
  obtain ⟨hp, g, d, tk, os⟩ := s
  wp_walk using wpAny_loadPart' a1, wpAny_loadPart' a2, wpAny_forIn_list _ (fun more b s' => b.1 = none ∧ ∃ i, more = (k1.toList.zip k2.toList).drop i ∧ i ≤ min k1.size k2.size ∧ Y i s') _
  case turn =>
    rintro ⟨c1, c2⟩ more b s' ⟨_, i, hm, _, hY⟩
    have q : i < (k1.toList.zip k2.toList).length := by
      rcases Nat.lt_or_ge i (k1.toList.zip k2.toList).length with q | q
      · exact q
      · rw [List.drop_of_length_le q] at hm; cases hm
    have q1 : i < k1.size := by omega
    have q2 : i < k2.size := by omega
    rw [List.drop_eq_getElem_cons q] at hm
    injection hm with e1 e2
    have f1 : c1 = k1[i] := by simpa using congrArg Prod.fst e1
    have f2 : c2 = k2[i] := by simpa using congrArg Prod.snd e1
    subst f1 f2
    refine wpAny_bind (wpAny_mono (lap i q1 q2 s' hY) (fun b s2 hb => ?_) fun _ _ x => x)
    rcases hb with ⟨rfl, hb⟩ | ⟨rfl, hb⟩
    · wp_walk
      exact ⟨rfl, i + 1, e2, by omega, hb⟩
    · have hb := end2 _ hb
      wp_walk
      exact hb
  case fin =>
    rintro ⟨b1, b2⟩ s' ⟨hb, i, hm, hi, hY⟩
    simp only at hb
    subst hb
    have q : min k1.size k2.size ≤ i := by
      rcases Nat.lt_or_ge i (k1.toList.zip k2.toList).length with q | q
      · rw [List.drop_eq_getElem_cons q] at hm; cases hm
      · omega
    have ei : i = min k1.size k2.size := by omega
    have hR := end1 s' (ei ▸ hY)
    wp_walk
    simpa [Builtin.Tuple.tupleCompareSizes, bne] using hR
  case h => exact ⟨rfl, 0, rfl, Nat.zero_le _, st0⟩
theorem rc_eq {p1 p2 : Addr} {k1 k2 : Array Value} {Q : Value → Shared → Prop} (hu : A.units < cLine) (Y : Nat → Shared → Prop) (N : Shared → Prop) (t1 : s.heap.IsTuple p1 k1) (t2 : s.heap.IsTuple p2 k2)
    (lap : ∀ i (g1 : i < k1.size) (g2 : i < k2.size) s', Y i s' → wpAny (model prog w) A.in1 (eqBool k1[i] k2[i]) (fun b s2 => (b = true ∧ Y (i + 1) s2) ∨ (b = false ∧ N s2)) E s')
    (end1 : ∀ s', Y (min k1.size k2.size) s' → Q (.bool (k1.size == k2.size)) s') (end2 : ∀ s', N s' → Q (.bool false) s') (st : Y 0 s) : wpAny (model prog w) A (richCompare .Eq (.ref p1) (.ref p2)) Q E s := by
  obtain ⟨⟨c1, u1, _, z1⟩, o1, w1, m1, x1⟩ := id t1
  obtain ⟨⟨c2, u2, _, z2⟩, o2, w2, m2, x2⟩ := id t2
  simp only at w1 x1 w2 x2
  subst w1 x1 w2 x2
  refine wpAny_richCompare_same_room (op := .Eq) ⟨_, o1, rfl⟩ ⟨_, o2, rfl⟩ F.slot_tuple_eq (GQ.call_here F.slot_tuple_eq ⟨_, o1, rfl⟩ F.entry_tuple_eq (F.args_tuple_eq_2 _ _) ?_) hu
  exact loop_eq (R := wants (fun v s' => v ≠ .notImplemented ∧ Q v s') E) p1 p2 k1 k2 m1 m2 u1 u2 z1 z2 Y N lap (fun s' q => ⟨(fun x => nomatch x), end1 s' q⟩) (fun s' q => ⟨(fun x => nomatch x), end2 s' q⟩) o1 o2 st

theorem loop_ne {R : Result → Shared → Prop} (p1 p2 : Addr) (k1 k2 : Array Value) (m1 m2 : Nat) (u1 u2 : Option Addr) (z1 z2 : Array (Option Value)) (Y : Nat → Shared → Prop) (N : Shared → Prop)
    (lap : ∀ i (g1 : i < k1.size) (g2 : i < k2.size) s', Y i s' → wpAny (model prog w) A.in1 (eqBool k1[i] k2[i]) (fun b s2 => (b = true ∧ Y (i + 1) s2) ∨ (b = false ∧ N s2)) (fun e s' => R (.error e) s') s')
    (end1 : ∀ s', Y (min k1.size k2.size) s' → R (.ok (.ret (.bool (!(k1.size == k2.size))))) s') (end2 : ∀ s', N s' → R (.ok (.ret (.bool true))) s')
    (a1 : s.heap.get? p1 = some { cls := .type "tuple", dict := u1, data := .seq k1 m1, slots := z1 }) (a2 : s.heap.get? p2 = some { cls := .type "tuple", dict := u2, data := .seq k2 m2, slots := z2 }) (st : Y 0 s) :
    wpAny (model prog w) A.in1 (Builtin.«tuple.__ne__» ⟨[.ref p1, .ref p2], []⟩) (GQ.FinOf prog w A R) (fun e s' => R (.error e) s') s := by
  have j2 := AutoSeq1.sub_tuple_tuple
  have lz : (k1.toList.zip k2.toList).length = min k1.size k2.size := by simp
  have st0 := st
  obtain ⟨hp, g, d, tk, os⟩ := s
  wp_walk using wpAny_loadPart' a1, wpAny_loadPart' a2, wpAny_forIn_list _ (fun more b s' => b.1 = none ∧ ∃ i, more = (k1.toList.zip k2.toList).drop i ∧ i ≤ min k1.size k2.size ∧ Y i s') _
  case turn =>
    rintro ⟨c1, c2⟩ more b s' ⟨_, i, hm, _, hY⟩
    have q : i < (k1.toList.zip k2.toList).length := by
      rcases Nat.lt_or_ge i (k1.toList.zip k2.toList).length with q | q
      · exact q
      · rw [List.drop_of_length_le q] at hm; cases hm
    have q1 : i < k1.size := by omega
    have q2 : i < k2.size := by omega
    rw [List.drop_eq_getElem_cons q] at hm
    injection hm with e1 e2
    have f1 : c1 = k1[i] := by simpa using congrArg Prod.fst e1
    have f2 : c2 = k2[i] := by simpa using congrArg Prod.snd e1
    subst f1 f2
    refine wpAny_bind (wpAny_mono (lap i q1 q2 s' hY) (fun b s2 hb => ?_) fun _ _ x => x)
    rcases hb with ⟨rfl, hb⟩ | ⟨rfl, hb⟩
    · wp_walk
      exact ⟨rfl, i + 1, e2, by omega, hb⟩
    · have hb := end2 _ hb
      wp_walk
      exact hb
  case fin =>
    rintro ⟨b1, b2⟩ s' ⟨hb, i, hm, hi, hY⟩
    simp only at hb
    subst hb
    have q : min k1.size k2.size ≤ i := by
      rcases Nat.lt_or_ge i (k1.toList.zip k2.toList).length with q | q
      · rw [List.drop_eq_getElem_cons q] at hm; cases hm
      · omega
    have ei : i = min k1.size k2.size := by omega
    have hR := end1 s' (ei ▸ hY)
    wp_walk
    simpa [Builtin.Tuple.tupleCompareSizes, bne] using hR
  case h => exact ⟨rfl, 0, rfl, Nat.zero_le _, st0⟩
theorem rc_ne {p1 p2 : Addr} {k1 k2 : Array Value} {Q : Value → Shared → Prop} (hu : A.units < cLine) (Y : Nat → Shared → Prop) (N : Shared → Prop) (t1 : s.heap.IsTuple p1 k1) (t2 : s.heap.IsTuple p2 k2)
    (lap : ∀ i (g1 : i < k1.size) (g2 : i < k2.size) s', Y i s' → wpAny (model prog w) A.in1 (eqBool k1[i] k2[i]) (fun b s2 => (b = true ∧ Y (i + 1) s2) ∨ (b = false ∧ N s2)) E s')
    (end1 : ∀ s', Y (min k1.size k2.size) s' → Q (.bool (!(k1.size == k2.size))) s') (end2 : ∀ s', N s' → Q (.bool true) s') (st : Y 0 s) : wpAny (model prog w) A (richCompare .NotEq (.ref p1) (.ref p2)) Q E s := by
  obtain ⟨⟨c1, u1, _, z1⟩, o1, w1, m1, x1⟩ := id t1
  obtain ⟨⟨c2, u2, _, z2⟩, o2, w2, m2, x2⟩ := id t2
  simp only at w1 x1 w2 x2
  subst w1 x1 w2 x2
  refine wpAny_richCompare_same_room (op := .NotEq) ⟨_, o1, rfl⟩ ⟨_, o2, rfl⟩ F.slot_tuple_ne (GQ.call_here F.slot_tuple_ne ⟨_, o1, rfl⟩ F.entry_tuple_ne (F.args_tuple_ne_2 _ _) ?_) hu
  exact loop_ne (R := wants (fun v s' => v ≠ .notImplemented ∧ Q v s') E) p1 p2 k1 k2 m1 m2 u1 u2 z1 z2 Y N lap (fun s' q => ⟨(fun x => nomatch x), end1 s' q⟩) (fun s' q => ⟨(fun x => nomatch x), end2 s' q⟩) o1 o2 st

end
end Z
namespace Z
open PySem PySem.Spec PyProof.Rows L2
def neI : Option D → Option D → Bool
  | some (.int a), some (.int b) => decide (a ≠ b)
  | _, _ => false
/-- two instances of one class that differ in one of the first two fields -/
def apt : D → D → Bool
  | .ob c l, .ob d m => decide (c = d) && (neI l[0]? m[0]? || neI l[1]? m[1]?)
  | _, _ => false
def eqL (f : D → D → Option Bool) : List D → List D → Option Bool
  | [], [] => some true
  | x :: l, y :: m => match f x y with
    | some true => eqL f l m
    | some false => some false
    | none => none
  | _, _ => some false
def eqO (o : Option Beh) (x y : D) : Option Bool := match o with
  | some B => (match B [x, y] with
    | .ok (.bl b) _ => if b || apt x y then some b else none
    | _ => none)
  | none => none
/-- == of two items -/
def eqY (tb : List (Nat × Beh)) (ts : List String) (cs : List Nat) : Nat → D → D → Option Bool
  | _, .ob c l, y => if rk ts cs y then eqO (tb.lookup c) (.ob c l) y else none
  | n + 1, .tup l, .tup m => eqL (eqY tb ts cs n) l m
  | _, _, _ => none
def oEY (n : Nat) (tb : List (Nat × Beh)) (ts : List String) (cs : List Nat) (x y : D) (r : Ev) : Out D := match x, y with
  | .tup l, .tup m => (match eqL (eqY tb ts cs n) l m with
    | some b => .ok (.bl b) r
    | none => .no)
  | _, _ => .no
def oNY (n : Nat) (tb : List (Nat × Beh)) (ts : List String) (cs : List Nat) (x y : D) (r : Ev) : Out D := match x, y with
  | .tup l, .tup m => (match eqL (eqY tb ts cs n) l m with
    | some b => .ok (.bl (!b)) r
    | none => .no)
  | _, _ => .no
theorem relV_int {a b : Int} {u : Value} (h : RelV (.int a) u) (h' : RelV (.int b) u) : a = b := by
  obtain ⟨t, e⟩ := h
  obtain ⟨t', e'⟩ := h'
  rw [e] at e'
  injection e'
section
variable {G : Gm} {X : Cx} {W : WX} {OX OL vs O O1 O2 O3 : List Nat}
theorem RepL.neI {F : Hp} {l m : List D} {xs ys : List V} {i : Nat} (r : RepL G F l xs) (r' : RepL G F m ys) (e : neI l[i]? m[i]? = true) : ∃ a b, xs[i]? = some (.int a) ∧ ys[i]? = some (.int b) ∧ a ≠ b := by
  unfold Z.neI at e
  split at e
  · rename_i a b e1 e2
    obtain ⟨v, e3, h3⟩ := r.get e1
    obtain ⟨v', e4, h4⟩ := r'.get e2
    cases h3
    cases h4
    exact ⟨a, b, e3, e4, of_decide_eq_true e⟩
  · cases e
theorem zip_at {lay : List Str} {xs : List V} {more : List (Str × V)} {i : Nat} {v : V} (hl : xs.length ≤ lay.length) (e : xs[i]? = some v) : ((lay.zip xs ++ more)[i]?).map (·.2) = some v := by
  have hi : i < xs.length := (List.getElem?_eq_some_iff.mp e).1
  have hj : i < lay.length := by omega
  have q : (lay.zip xs)[i]? = some (lay[i], v) := List.getElem?_zip_eq_some.mpr ⟨List.getElem?_eq_getElem hj, e⟩
  rw [List.getElem?_append_left (by rw [List.length_zip]; omega), q]
  rfl
theorem apt_ne {F : Hp} {x y : D} {v : V} (h : apt x y = true) (rx : Rep G F x v) (ry : Rep G F y v) : False := by
  unfold apt at h
  split at h
  · rename_i c l d m
    rw [Bool.and_eq_true, Bool.or_eq_true] at h
    obtain ⟨h1, h2⟩ := h
    have h1 := of_decide_eq_true h1
    subst h1
    cases rx with
    | @ob _ _ a dx xs more h hl r =>
      cases ry with
      | @ob _ _ _ dx2 xs2 more2 h' hl' r' =>
        rw [h] at h'
        injection h' with h'
        injection h' with _ _ h'
        have go : ∀ i, Z.neI l[i]? m[i]? = true → False := fun i q => by
          obtain ⟨a, b, e1, e2, ne⟩ := r.neI r' q
          have z1 := zip_at (more := more) hl e1
          have z2 := zip_at (more := more2) hl' e2
          rw [h', z2] at z1
          injection z1 with z1
          injection z1 with z1
          exact ne z1.symm
        rcases h2 with h2 | h2
        · exact go 0 h2
        · exact go 1 h2
  · cases h
theorem relV_ref {v : V} {a : Addr} (h : RelV v (.ref a)) : v = .ref a := by
  cases v <;> simp [L2.RelV] at h
  · rw [h]
theorem eqL_ne {pins : List (Addr × Obj)} {σ : L2.St} {F H : Hp} {s : Shared} {f : D → D → Option Bool} (I : Inv X pins σ H s) (hf : ∀ x y vx vy u, f x y = some false → Rep G F x vx → Rep G F y vy → RelV vx u → RelV vy u → False) :
    ∀ {l m : List D} {xs : List V}, eqL f l m = some false → RepL G F l xs → RepL G F m xs → (∀ x ∈ xs, ∃ u, RelV x u) → False
  | [], [], _, e, _, _, _ => by cases e
  | x :: l, y :: m, _, e, .cons a b, .cons c d, hr => by
    obtain ⟨u, hu⟩ := hr _ List.mem_cons_self
    rw [eqL] at e
    split at e
    · exact eqL_ne I hf e b d fun x m => hr x (List.mem_cons_of_mem _ m)
    · rename_i e1
      exact hf x y _ _ u e1 a c hu hu
    · cases e
  | [], _ :: _, _, _, a, b, _ => by cases a; cases b
  | _ :: _, [], _, _, a, b, _ => by cases b; cases a
theorem vals_some : ∀ {xs : List V} {us : List Value}, Vals xs us → ∀ x ∈ xs, ∃ u, RelV x u
  | _, _, .nil, _, m => nomatch m
  | _, _, .cons r t, x, m => by
    rcases List.mem_cons.mp m with e | m
    · rw [e]; exact ⟨_, r⟩
    · exact vals_some t x m
theorem eqY_ne {pins : List (Addr × Obj)} {σ : L2.St} {F H : Hp} {s : Shared} {tb : List (Nat × Beh)} {ts : List String} {cs : List Nat} (I : Inv X pins σ H s) (sb : Sub F H) (hK : X.K = G.K) :
    ∀ (n : Nat) (x y : D) (vx vy : V) (u : Value), eqY tb ts cs n x y = some false → Rep G F x vx → Rep G F y vy → RelV vx u → RelV vy u → False := by
  have leaf : ∀ (c : Nat) (l : List D) (y : D) (vx vy : V) (u : Value) (o : Option Bool), (o = if rk ts cs y then eqO (tb.lookup c) (.ob c l) y else none) → o = some false → Rep G F (.ob c l) vx → Rep G F y vy → RelV vx u → RelV vy u → False := by
    intro c l y vx vy u o eo e rx ry h1 h2
    rw [eo] at e
    split at e
    case isFalse => cases e
    unfold eqO at e
    split at e
    case h_2 => cases e
    split at e
    case h_2 => cases e
    split at e
    case isFalse => cases e
    rename_i b _ _ hb
    cases e
    have hb : apt (.ob c l) y = true := by simpa using hb
    obtain ⟨a, rfl, _⟩ : ∃ a, vx = .ref a ∧ True := by cases rx; exact ⟨_, rfl, trivial⟩
    obtain rfl : u = Value.ref a := h1
    have := relV_ref h2
    subst this
    exact apt_ne hb rx ry
  intro n
  induction n with
  | zero =>
    intro x y vx vy u e rx ry h1 h2
    cases x with
    | ob c l => exact leaf c l y vx vy u _ rfl (by rw [eqY] at e; exact e) rx ry h1 h2
    | _ => unfold eqY at e; cases e
  | succ n ih =>
    intro x y vx vy u e rx ry h1 h2
    cases x with
    | ob c l => exact leaf c l y vx vy u _ rfl (by rw [eqY] at e; exact e) rx ry h1 h2
    | tup l =>
      cases y with
      | tup m =>
        rw [eqY] at e
        cases rx with
        | @tup _ a xs q1 r1 =>
          obtain rfl : u = Value.ref a := h1
          have := relV_ref h2
          subst this
          cases ry with
          | @tup _ _ ys q2 r2 =>
            have s1 : SqT X.K H a xs := by rw [hK]; exact sb.sqT q1
            have s2 : SqT X.K H a ys := by rw [hK]; exact sb.sqT q2
            have := I.tuple_inj s1 s2
            subst this
            obtain ⟨its, rv, _, _⟩ := I.tuple s1
            exact eqL_ne I ih e r1 r2 (vals_some rv)
      | _ => unfold eqY at e; cases e
    | _ => unfold eqY at e; cases e
theorem eqL_turn {f : D → D → Option Bool} : ∀ {l m : List D} {b : Bool} {i : Nat}, eqL f l m = some b → (∀ j, j < i → ∀ x y, l[j]? = some x → m[j]? = some y → f x y = some true) → ∀ x y, l[i]? = some x → m[i]? = some y → f x y = some true ∨ (f x y = some false ∧ b = false)
  | [], _, _, _, _, _, _, _, e, _ => by simp at e
  | _ :: _, [], _, _, _, _, _, _, _, e => by simp at e
  | x :: l, y :: m, b, 0, e, _, x', y', e1, e2 => by
    simp at e1 e2
    subst e1 e2
    rw [eqL] at e
    split at e
    · rename_i q; exact .inl q
    · rename_i q; injection e with e; exact .inr ⟨q, e.symm⟩
    · cases e
  | x :: l, y :: m, b, i + 1, e, hj, x', y', e1, e2 => by
    have h0 := hj 0 (by omega) x y rfl rfl
    rw [eqL, h0] at e
    exact eqL_turn e (fun (j : Nat) (hlt : j < i) (x'' y'' : D) (g1 : l[j]? = some x'') (g2 : m[j]? = some y'') => hj (j + 1) (by omega) x'' y'' (by simpa using g1) (by simpa using g2)) x' y' (by simpa using e1) (by simpa using e2)
theorem eqL_end {f : D → D → Option Bool} : ∀ {l m : List D} {b : Bool}, eqL f l m = some b → (∀ (j : Nat) (x y : D), l[j]? = some x → m[j]? = some y → f x y = some true) → b = (l.length == m.length)
  | [], [], _, e, _ => by injection e with e; rw [← e]; rfl
  | [], _ :: _, _, e, _ => by injection e with e; rw [← e]; rfl
  | _ :: _, [], _, e, _ => by injection e with e; rw [← e]; rfl
  | x :: l, y :: m, b, e, hj => by
    rw [eqL, hj 0 x y rfl rfl] at e
    have := eqL_end e (fun (j : Nat) (x' y' : D) (g1 : l[j]? = some x') (g2 : m[j]? = some y') => hj (j + 1) x' y' (by simpa using g1) (by simpa using g2))
    rw [this]
    simp
structure EqTb (G : Gm) (X : Cx) (k : Nat) (tb : List (Nat × Beh)) (ts : List String) (cs : List Nat) : Prop where
  h : ∀ c B, tb.lookup c = some B → (∃ f fd ps, OwnOk G X.prog X.w X.mg X.base k "__eq__" c B f fd ps 2) ∧ CmpOk G ts cs c
/-- what a pair of tuples answers, at any depth -/
theorem laps {pins : List (Addr × Obj)} {σ : L2.St} {F H : Hp} {r : Ev} {A : Around} {f : D → D → Option Bool} {l m : List D} {xs ys : List V} {its its2 : List Value} {b : Bool} (S : Sta G O F H σ r)
    (hf : ∀ (x y : D) (bb : Bool) (F' H' : Hp) (s' : Shared) (vx vy : V) (ux uy : Value), f x y = some bb → Inv X pins σ H' s' → Sta G O F' H' σ r → Rep G F' x vx → Rep G F' y vy → RelV vx ux → RelV vy uy →
      wpAny (model X.prog X.w) A (eqBool ux uy) (fun z s2 => z = bb ∧ ∃ F2 H2, Inv X pins σ H2 s2 ∧ Nx G OX O O σ F' H' σ F2 H2 r) X.xe s')
    (e : eqL f l m = some b) (r1 : RepL G F l xs) (r2 : RepL G F m ys) (rv : Vals xs its) (rv2 : Vals ys its2) (i : Nat) (g1 : i < its.toArray.size) (g2 : i < its2.toArray.size) (s' : Shared)
    (hY : (∀ j, j < i → ∀ x y, l[j]? = some x → m[j]? = some y → f x y = some true) ∧ ∃ F' H', Inv X pins σ H' s' ∧ Nx G OX O O σ F H σ F' H' r) :
    wpAny (model X.prog X.w) A (eqBool its.toArray[i] its2.toArray[i]) (fun z s2 => (z = true ∧ ((∀ j, j < i + 1 → ∀ x y, l[j]? = some x → m[j]? = some y → f x y = some true) ∧ ∃ F' H', Inv X pins σ H' s2 ∧ Nx G OX O O σ F H σ F' H' r)) ∨
      (z = false ∧ (b = false ∧ ∃ F' H', Inv X pins σ H' s2 ∧ Nx G OX O O σ F H σ F' H' r))) X.xe s' := by
  obtain ⟨hj, F', H', I', n⟩ := hY
  have a1 : i < its.length := by simpa using g1
  have a2 : i < its2.length := by simpa using g2
  have n1 : its.length = l.length := by rw [← rv.length, r1.length]
  have n2 : its2.length = m.length := by rw [← rv2.length, r2.length]
  have b1 : its.toArray[i] = its[i] := by simp
  have b2 : its2.toArray[i] = its2[i] := by simp
  rw [b1, b2]
  have el : l[i]? = some (l[i]'(by omega)) := List.getElem?_eq_getElem _
  have em : m[i]? = some (m[i]'(by omega)) := List.getElem?_eq_getElem _
  generalize l[i]'(by omega) = dx at el
  generalize m[i]'(by omega) = dy at em
  obtain ⟨vx, ex, rx⟩ := r1.get el
  obtain ⟨vy, ey, ry⟩ := r2.get em
  obtain ⟨ux, eux, rux⟩ := L2.Vals.get rv ex
  obtain ⟨uy, euy, ruy⟩ := L2.Vals.get rv2 ey
  have q1 : its[i] = ux := by rw [List.getElem?_eq_getElem a1] at eux; exact Option.some.inj eux
  have q2 : its2[i] = uy := by rw [List.getElem?_eq_getElem a2] at euy; exact Option.some.inj euy
  rw [q1, q2]
  rcases eqL_turn e hj dx dy el em with t | ⟨t, tb⟩
  · refine wpAny_mono (hf dx dy true F' H' s' vx vy ux uy t I' n.sta (rx.mono n.stp.fz) (ry.mono n.stp.fz) rux ruy) (fun z s2 hz => .inl ⟨hz.1, fun j hlt x y h1 h2 => ?_, hz.2.imp fun F2 q => q.imp fun H2 q => ⟨q.1, n.trans q.2⟩⟩) fun _ _ x => x
    by_cases q : j = i
    · subst q
      rw [el] at h1
      rw [em] at h2
      cases h1
      cases h2
      exact t
    · exact hj j (by omega) x y h1 h2
    
  · exact wpAny_mono (hf dx dy false F' H' s' vx vy ux uy t I' n.sta (rx.mono n.stp.fz) (ry.mono n.stp.fz) rux ruy) (fun z s2 hz => .inr ⟨hz.1, tb, hz.2.imp fun F2 q => q.imp fun H2 q => ⟨q.1, n.trans q.2⟩⟩) fun _ _ x => x
theorem eqY_run {k : Nat} {tb : List (Nat × Beh)} {ts : List String} {cs : List Nat} (tk : Takes X W) (ht : EqTb G X k tb ts cs) (hx : ∀ i ∈ OX, i ∈ O) (hK : X.K = G.K) {pins : List (Addr × Obj)} {σ : L2.St} {r : Ev} :
    ∀ (n : Nat) (A : Around), L2.Sub X (k + n) A → ∀ (x y : D) (bb : Bool) (F' H' : Hp) (s' : Shared) (vx vy : V) (ux uy : Value), eqY tb ts cs n x y = some bb → Inv X pins σ H' s' → Sta G O F' H' σ r → Rep G F' x vx → Rep G F' y vy → RelV vx ux → RelV vy uy →
      wpAny (model X.prog X.w) A (eqBool ux uy) (fun z s2 => z = bb ∧ ∃ F2 H2, Inv X pins σ H2 s2 ∧ Nx G OX O O σ F' H' σ F2 H2 r) X.xe s' := by
  have leaf : ∀ (n : Nat) (A : Around), L2.Sub X (k + n) A → ∀ (c : Nat) (fs : List D) (y : D) (bb : Bool) (F' H' : Hp) (s' : Shared) (vx vy : V) (ux uy : Value), eqY tb ts cs n (.ob c fs) y = some bb → Inv X pins σ H' s' → Sta G O F' H' σ r → Rep G F' (.ob c fs) vx → Rep G F' y vy → RelV vx ux → RelV vy uy →
      wpAny (model X.prog X.w) A (eqBool ux uy) (fun z s2 => z = bb ∧ ∃ F2 H2, Inv X pins σ H2 s2 ∧ Nx G OX O O σ F' H' σ F2 H2 r) X.xe s' := by
    intro n A sb c fs y bb F' H' s' vx vy ux uy e I' nx rx ry rux ruy
    have e0 := e
    have e : (if rk ts cs y then eqO (tb.lookup c) (.ob c fs) y else none) = some bb := by cases n <;> (rw [eqY] at e; exact e)
    split at e
    case isFalse => cases e
    rename_i hk
    unfold eqO at e
    split at e
    case h_2 => cases e
    rename_i B eB
    obtain ⟨⟨f, fd, ps, ow⟩, ck⟩ := ht.h c B eB
    split at e
    case h_2 => cases e
    rename_i b q' eo
    split at e
    case isFalse => cases e
    cases e
    have J1 := inst_at I' nx rx
    obtain ⟨a', rfl, _⟩ := J1
    obtain rfl : ux = Value.ref a' := rux
    by_cases same : Value.ref a' = uy
    · cases bb with
      | true =>
        rw [← same]
        exact SeqAt.EqAt.same (.ref a') X.prog X.w X.xe _ ⟨rfl, F', H', I', Nx.rfl' nx⟩
      | false =>
        subst same
        exact (eqY_ne I' nx.sub hK n _ _ _ _ _ e0 rx ry rfl ruy).elim
    · have sb1 : L2.Sub X k A := sb.mono (Nat.le_add_right k n)
      have rc := cmp_at (OX := OX) (W := W) (op := .Eq) (Q := fun z H2 => z = .bl bb ∧ ∃ F2, Nx G OX O O σ F' H' σ F2 H2 r) sb1 tk rfl ow ck hk hx hK I' nx rx ry rfl ruy (by
        rw [eo]
        intro z F2 H2 n2 rz
        cases rz
        exact ⟨rfl, F2, n2⟩)
      unfold eqBool
      refine wpAny_holding ?_
      refine wpAny_ite_split (fun hab => absurd (eq_of_beq hab) same) (fun _ => ?_)
      refine wpAny_bind (wpAny_mono rc (fun z s2 hz => ?_) fun _ _ h => h)
      obtain ⟨z', H2, I2, rz, ez, F2, n2⟩ := hz
      subst ez
      cases (show z = Value.bool bb from rz)
      exact wpAny_truthy_bool ⟨rfl, F2, H2, I2, n2⟩
  intro n
  induction n with
  | zero =>
    intro A sb x y bb F' H' s' vx vy ux uy e
    cases x with
    | ob c fs => exact leaf 0 A sb c fs y bb F' H' s' vx vy ux uy e
    | _ => unfold eqY at e; cases e
  | succ n ih =>
    intro A sb x y bb F' H' s' vx vy ux uy e I' nx rx ry rux ruy
    cases x with
    | ob c fs => exact leaf (n + 1) A sb c fs y bb F' H' s' vx vy ux uy e I' nx rx ry rux ruy
    | tup l =>
      cases y with
      | tup m =>
        have e0 := e
        rw [eqY] at e
        cases rx with
        | @tup _ a xs hq1 r1 =>
          cases ry with
          | @tup _ b ys hq2 r2 =>
            obtain rfl : ux = Value.ref a := rux
            obtain rfl : uy = Value.ref b := ruy
            by_cases same : a = b
            · cases bb with
              | true =>
                rw [← same]
                exact SeqAt.EqAt.same (.ref a) X.prog X.w X.xe _ ⟨rfl, F', H', I', Nx.rfl' nx⟩
              | false =>
                subst same
                exact (eqY_ne I' nx.sub hK (n + 1) _ _ _ _ _ e0 (.tup hq1 r1) (.tup hq2 r2) rfl rfl).elim
            · obtain ⟨its, rv, h1, _⟩ := I'.tuple (by rw [hK]; exact nx.sub.sqT hq1)
              obtain ⟨its2, rv2, h2, _⟩ := I'.tuple (by rw [hK]; exact nx.sub.sqT hq2)
              refine GQ.eqBool_refG same ?_
              have sb' : L2.Sub X (k + n) A.in1 := L2.Sub.in1 sb
              have sz : ∀ l' : List Value, l'.toArray.size = l'.length := fun l' => List.size_toArray ..
              have n1 : its.length = l.length := by rw [← rv.length, r1.length]
              have n2 : its2.length = m.length := by rw [← rv2.length, r2.length]
              refine rc_eq sb.room.units0 _ _ h1 h2 (fun i g1 g2 s2 hY => laps (b := bb) nx (fun x y bb F2 H2 s2 vx vy ux uy t I2 S2 => ih A.in1 sb' x y bb F2 H2 s2 vx vy ux uy t I2 S2) e r1 r2 rv rv2 i g1 g2 s2 hY) (fun s2 q => ?_) (fun s2 q => ?_) ⟨fun j hj => absurd hj (Nat.not_lt_zero j), F', H', I', Nx.rfl' nx⟩
              · obtain ⟨q1, q2⟩ := q
                refine ⟨_, rfl, ?_, q2⟩
                rw [sz, sz, n1, n2, ← eqL_end e fun j x y e1 e2 => q1 j (by
                  have := (List.getElem?_eq_some_iff.mp e1).1
                  have := (List.getElem?_eq_some_iff.mp e2).1
                  rw [sz, sz]
                  omega) x y e1 e2]
              · obtain ⟨q1, q2⟩ := q
                exact ⟨_, rfl, q1.symm, q2⟩
      | _ => unfold eqY at e; cases e
    | _ => unfold eqY at e; cases e
theorem o_eqY {k : Nat} (n : Nat) (tb : List (Nat × Beh)) (ts : List String) (cs : List Nat) (tk : Takes X W) (hr : Room (k + n + 1) X.A)
    (ht : ∀ c B, tb.lookup c = some B → (∃ f fd ps, OwnOk G X.prog X.w X.mg X.base k "__eq__" c B f fd ps 2) ∧ CmpOk G ts cs c) (hx : ∀ i ∈ OX, i ∈ O := by decide) (hK : X.K = G.K := by rfl) : Op2 G X W OX O (compareOp .Eq) (oEY n tb ts cs) :=
  fun pins s σ F H r x y v w u u' Q I S rx ry ru ru' q => by
    unfold oEY at q
    split at q
    case h_2 => exact q.elim
    rename_i l m
    split at q
    case h_2 => exact q.elim
    rename_i bb e
    cases rx with
    | @tup _ a xs hq1 r1 =>
      cases ry with
      | @tup _ b ys hq2 r2 =>
        obtain rfl : u = Value.ref a := ru
        obtain rfl : u' = Value.ref b := ru'
        obtain ⟨its, rv, h1, _⟩ := I.tuple (by rw [hK]; exact S.sub.sqT hq1)
        obtain ⟨its2, rv2, h2, _⟩ := I.tuple (by rw [hK]; exact S.sub.sqT hq2)
        have sz : ∀ l' : List Value, l'.toArray.size = l'.length := fun l' => List.size_toArray ..
        have n1 : its.length = l.length := by rw [← rv.length, r1.length]
        have n2 : its2.length = m.length := by rw [← rv2.length, r2.length]
        have sb' : L2.Sub X (k + n) X.A.in1 := L2.Sub.in1 ⟨hr, rfl⟩
        show wpAny (model X.prog X.w) X.A (richCompare .Eq (.ref a) (.ref b)) (EP X pins σ Q) X.xe s
        refine rc_eq hr.units0 _ _ h1 h2 (fun i g1 g2 s2 hY => laps (b := bb) S (fun x y bb F2 H2 s2 vx vy ux uy t I2 S2 => eqY_run tk ⟨ht⟩ hx hK n X.A.in1 sb' x y bb F2 H2 s2 vx vy ux uy t I2 S2) e r1 r2 rv rv2 i g1 g2 s2 hY) (fun s2 q' => ?_) (fun s2 q' => ?_) ⟨fun j hj => absurd hj (Nat.not_lt_zero j), F, H, I, Nx.rfl' S⟩
        · obtain ⟨q1, F2, H2, I2, m2⟩ := q'
          rw [sz, sz, n1, n2, ← eqL_end e fun j x y e1 e2 => q1 j (by
            have := (List.getElem?_eq_some_iff.mp e1).1
            have := (List.getElem?_eq_some_iff.mp e2).1
            rw [sz, sz]
            omega) x y e1 e2]
          exact ⟨.bl bb, H2, I2, rfl, q (.bl bb) F2 H2 m2 .bl⟩
        · obtain ⟨q1, F2, H2, I2, m2⟩ := q'
          subst q1
          exact ⟨.bl false, H2, I2, rfl, q (.bl false) F2 H2 m2 .bl⟩
theorem o_neY {k : Nat} (n : Nat) (tb : List (Nat × Beh)) (ts : List String) (cs : List Nat) (tk : Takes X W) (hr : Room (k + n + 1) X.A)
    (ht : ∀ c B, tb.lookup c = some B → (∃ f fd ps, OwnOk G X.prog X.w X.mg X.base k "__eq__" c B f fd ps 2) ∧ CmpOk G ts cs c) (hx : ∀ i ∈ OX, i ∈ O := by decide) (hK : X.K = G.K := by rfl) : Op2 G X W OX O (compareOp .NotEq) (oNY n tb ts cs) :=
  fun pins s σ F H r x y v w u u' Q I S rx ry ru ru' q => by
    unfold oNY at q
    split at q
    case h_2 => exact q.elim
    rename_i l m
    split at q
    case h_2 => exact q.elim
    rename_i bb e
    cases rx with
    | @tup _ a xs hq1 r1 =>
      cases ry with
      | @tup _ b ys hq2 r2 =>
        obtain rfl : u = Value.ref a := ru
        obtain rfl : u' = Value.ref b := ru'
        obtain ⟨its, rv, h1, _⟩ := I.tuple (by rw [hK]; exact S.sub.sqT hq1)
        obtain ⟨its2, rv2, h2, _⟩ := I.tuple (by rw [hK]; exact S.sub.sqT hq2)
        have sz : ∀ l' : List Value, l'.toArray.size = l'.length := fun l' => List.size_toArray ..
        have n1 : its.length = l.length := by rw [← rv.length, r1.length]
        have n2 : its2.length = m.length := by rw [← rv2.length, r2.length]
        have sb' : L2.Sub X (k + n) X.A.in1 := L2.Sub.in1 ⟨hr, rfl⟩
        show wpAny (model X.prog X.w) X.A (richCompare .NotEq (.ref a) (.ref b)) (EP X pins σ Q) X.xe s
        refine rc_ne hr.units0 _ _ h1 h2 (fun i g1 g2 s2 hY => laps (b := bb) S (fun x y bb F2 H2 s2 vx vy ux uy t I2 S2 => eqY_run tk ⟨ht⟩ hx hK n X.A.in1 sb' x y bb F2 H2 s2 vx vy ux uy t I2 S2) e r1 r2 rv rv2 i g1 g2 s2 hY) (fun s2 q' => ?_) (fun s2 q' => ?_) ⟨fun j hj => absurd hj (Nat.not_lt_zero j), F, H, I, Nx.rfl' S⟩
        · obtain ⟨q1, F2, H2, I2, m2⟩ := q'
          rw [sz, sz, n1, n2, ← eqL_end e fun j x y e1 e2 => q1 j (by
            have := (List.getElem?_eq_some_iff.mp e1).1
            have := (List.getElem?_eq_some_iff.mp e2).1
            rw [sz, sz]
            omega) x y e1 e2]
          exact ⟨.bl (!bb), H2, I2, rfl, q (.bl (!bb)) F2 H2 m2 .bl⟩
        · obtain ⟨q1, F2, H2, I2, m2⟩ := q'
          subst q1
          exact ⟨.bl true, H2, I2, rfl, q (.bl true) F2 H2 m2 .bl⟩
end
end Z

/-! enumerate of a tuple; o.m(k = v). -/
namespace Z
open PySem PySem.Spec
open AutoSeq1 (wpAny_loadPart')
theorem enu_newT (a : Addr) (ks : Array Value) (n : Nat) (dd : Option Addr) (zl : Array (Option Value)) :
    Meets (Builtin.«enumerate.__new__» ⟨[.type "enumerate", .ref a], []⟩) (fun _ R s => s.heap.get? a = some { cls := .type "tuple", dict := dd, data := .seq ks n, slots := zl } ∧
      R (.ok (.ret (.ref (s.heap.push { cls := .type "tuple_iterator", data := .fields #[.ref a, .int 0 0] }).objs.size)))
        { s with heap := (s.heap.push { cls := .type "tuple_iterator", data := .fields #[.ref a, .int 0 0] }).push { cls := .type "enumerate", data := .fields #[.none, .bool false, .ref s.heap.objs.size, rawInt 0, .none, .none] } }) :=
  .of_wp fun prog w A R s q => by
    obtain ⟨hp, g, d, tk, os⟩ := s; obtain ⟨ha, q⟩ := q
    have hs := sub_enumerate
    have hT : Heap.IsTuple (Shared.heap ⟨hp, g, d, tk, os⟩) a ks := ⟨_, ha, rfl, n, rfl⟩
    wp_walk using wpAny_loadPart' ha
    refine wpAny_stack_any fun st => wpAny_pure ?_
    split
    · rename_i c _ _ _ _ _
      cases (c == Value.type "enumerate")
      · wp_walk using wpAny_loadPart' ha, wpAny_pyIter_tuple hT
        exact ⟨_, rfl, q⟩
      · wp_walk using wpAny_loadPart' ha, wpAny_pyIter_tuple hT
        exact ⟨_, rfl, q⟩
    · wp_walk using wpAny_loadPart' ha, wpAny_pyIter_tuple hT
      exact ⟨_, rfl, q⟩
theorem call_enuT {prog : Program} {w : World} {A : Around} {E : Value → Shared → Prop} {s : Shared} {a : Addr} {ks : Array Value} {Q : Value → Shared → Prop} (hT : s.heap.IsTuple a ks)
    (q : ∀ h', IsEnum h' (s.heap.objs.size + 1) s.heap.objs.size 0 .none → h'.IsTupleIter s.heap.objs.size a 0 → (∀ b o, s.heap.get? b = some o → h'.get? b = some o) → Q (.ref (s.heap.objs.size + 1)) { s with heap := h' }) :
    wpAny (model prog w) A (call (.type "enumerate") [.ref a]) Q E s := by
  obtain ⟨⟨c, dct, dt, sl⟩, ha, hc, n, hd⟩ := hT
  replace hc : c = .type "tuple" := hc
  replace hd : dt = .seq ks n := hd
  subst hc hd
  refine callType_new F.called_enumerate (by decide) (F.typeCall_enumerate_1 _) (F.newCall_enumerate_1 _) (fun obj => F.args_object_init_2 obj _) F.entry_enumerate_new (enu_newT a ks n dct sl) ⟨ha, ?_⟩
  have z : (s.heap.push { cls := .type "tuple_iterator", data := .fields #[.ref a, .int 0 0] }).objs.size = s.heap.objs.size + 1 := Heap.size_push ..
  show _ ∧ _
  rw [z]
  have en : IsEnum ((s.heap.push { cls := .type "tuple_iterator", data := .fields #[.ref a, .int 0 0] }).push { cls := .type "enumerate", data := .fields #[.none, .bool false, .ref s.heap.objs.size, rawInt 0, .none, .none] }) (s.heap.objs.size + 1) s.heap.objs.size 0 .none := by
    have p := Heap.get?_push_size (s.heap.push { cls := .type "tuple_iterator", data := .fields #[.ref a, .int 0 0] }) (o := { cls := .type "enumerate", data := .fields #[.none, .bool false, .ref s.heap.objs.size, rawInt 0, .none, .none] }) rfl
    rw [z] at p
    exact p
  exact ⟨⟨_, en, rfl⟩, q _ en ⟨_, Heap.get?_push_of_some _ (Heap.get?_push_size _ rfl), rfl, rfl⟩ fun b o x => Heap.get?_push_of_some _ (Heap.get?_push_of_some _ x)⟩
end Z
namespace Z
open PySem PySem.Spec PyProof.Rows L2
def IteT (K : PySem.W.Frag) (a : Addr) : It :=
  ⟨fun i H => ∃ (xs : List V) (x : V), SqT K H a xs ∧ xs[i]? = some x, fun i H v H' => ∃ T x, v = .ref T ∧ H T = none ∧ H' = upd H T (.tup [.int (i : Nat), x]) ∧ ∀ xs, SqT K H a xs → xs[i]? = some x, fun i H => ∃ xs : List V, SqT K H a xs ∧ xs.length ≤ i⟩
theorem turn_enuT {P : Program} {w : World} {K : PySem.W.Frag} {elts : List Expr} {kk : Nat} {tpos : Pos} (a e it : Addr) (hn : e ≠ it) (hea : e ≠ a) (hia : a ≠ it) :
    Turn P w K (.Tuple elts kk tpos) (IteT K a) [e, it] e (fun i h => (∃ old, IsEnum h e it ((i : Nat) : Int) old) ∧ h.IsTupleIter it a i) where
  mem := by simp
  obj := fun i h st b hb => by
    obtain ⟨⟨old, he⟩, ⟨o, ho, hc, hd⟩⟩ := st
    have q : b = e ∨ b = it := by simpa using hb
    rcases q with z | z
    · rw [z]; exact ⟨_, he, fun v q => nomatch q⟩
    · rw [z]; exact ⟨o, ho, fun v q => by rw [hd] at q; cases q⟩
  keep := fun i h h' st k => let ⟨⟨old, he⟩, hi⟩ := st; ⟨⟨old, k e (by simp) _ he⟩, hi.at fun o q => k it (by simp) o q⟩
  item := by
    intro X hP hw hK hc i pins s σ H E I hf st hg
    subst hP hw hK
    obtain ⟨⟨old, he⟩, hit⟩ := st
    obtain ⟨xs, x, hq, hx⟩ := hg
    obtain ⟨its, rv, p, hz⟩ := I.tuple hq
    obtain ⟨u, hu, ru⟩ := rv.get hx
    have hel : e < s.heap.objs.size := Heap.lt_size he
    have hil : it < s.heap.objs.size := by obtain ⟨_, q, _⟩ := hit; exact Heap.lt_size q
    have hlt : i < its.toArray.size := by
      have := (List.getElem?_eq_some_iff.mp hu).1
      simpa using this
    refine wpAny_pyNext_enum_itemD (Draws.tuple (show X.A.in1.handled = none from I.ok.hd hc) it a hia its.toArray) he ⟨hit, show s.heap.IsTuple a its.toArray from p⟩ hlt hn (by simp [hn, hea]) fun y h' tk hy ho st' hT hsz hk => ?_
    have ey : y = u := by
      have : its.toArray[i]? = some u := by simpa using hu
      rw [this] at hy
      exact (Option.some.inj hy).symm
    subst ey
    refine ⟨_, rfl, wpAny_letOwnedTupleGo_enum (s := { s with heap := h', toks := tk + 1 }) ho fun h'' he' sb => ?_⟩
    have hT2 : h''.get? s.heap.objs.size = some { cls := .type "tuple", data := .seq #[.int i tk, y] } := (sb.2 _ (Nat.ne_of_gt hel)).trans hT
    have new : ObjOk X.prog X.w (upd H s.heap.objs.size (.tup [.int (i : Nat), x])) h'' s.heap.objs.size (.tup [.int (i : Nat), x]) :=
      ⟨by show 2 ≤ sizeLine; decide, [.int i tk, y], .cons ⟨_, rfl⟩ (.cons ru .nil), ⟨_, hT2, rfl, _, rfl⟩⟩
    have I1 : Inv X pins σ (upd H s.heap.objs.size (.tup [.int (i : Nat), x])) { s with heap := h'', toks := tk + 1 } :=
      I.turnedNew (ch := [e, it]) (fun b ob hb q => (sb.2 b (fun z => hb (by simp [z]))).trans (hk b ob (fun z => hb (by simp [z])) (fun z => hb (by simp [z])) q)) hf (Nat.le_refl _) new
    refine ⟨.ref s.heap.objs.size, _, I1, rfl, ⟨_, x, rfl, I.hok.fresh (Nat.le_refl _), rfl, fun ys hy => by rw [I.tuple_inj hy hq]; exact hx⟩, ⟨⟨y, ?_⟩, st'.1.at fun o q => (sb.2 it (Ne.symm hn)).trans q⟩, fun b hb => ?_⟩
    · rw [show ((i + 1 : Nat) : Int) = (i : Int) + 1 by omega]
      exact he'
    · have hb' : b < s.heap.objs.size := by
        have q : b = e ∨ b = it := by simpa using hb
        rcases q with z | z
        · rw [z]; exact hel
        · rw [z]; exact hil
      rw [upd_ne (Nat.ne_of_lt hb')]
      exact (hf b hb).1
  done := by
    intro X hP hw hK hc i pins s σ H E I hf st hg
    subst hP hw hK
    obtain ⟨⟨old, he⟩, hit⟩ := st
    obtain ⟨xs, hq, hx⟩ := hg
    obtain ⟨its, rv, p, hz⟩ := I.tuple hq
    obtain ⟨f0, f1, f2, f3, f4, f5⟩ := hf it (by simp)
    have hl := rv.length
    have hT : s.TypeIs (.ref e) "enumerate" := ⟨_, he, rfl⟩
    have nx : its.toArray[i]? = none := by simp; omega
    have ne : ∀ h', Heap.ExtBut it s.heap h' → Inv X pins σ H { s with heap := h' } := fun h' eb => I.turned (t' := s.toks) (fun b o hb q => eb b o hb q) f0 f1 f3 f4 f5
    unfold pyNext
    refine wpAny_bind (wpAny_attempt (wpAny_callSpecial?_slot (name := Str.ofString "__next__") hT F.slot_enumerate_next (wpAny_call_entry F.slot_enumerate_next hT F.entry_enumerate_next ?_ (F.args_enumerate_next_1 _))))
    show wpAny _ _ (field (.ref e) 2 >>= _) _ _ _
    refine wpAny_bind (wpAny_field he rfl (x := .ref it) rfl ?_)
    refine wpAny_bind (wpAny_nextOf_tuple_end (show X.A.in1.handled = none from I.ok.hd hc) hit (show s.heap.IsTuple a its.toArray from p) nx fun h' x eb hx' => ?_)
    obtain ⟨o, ho, hc'⟩ := hx'
    refine wpAny_bind (wpAny_isInstance (T := "StopIteration") (b := true) ⟨o, ho, hc'⟩ isSubtype_stop ?_)
    exact wpAny_pure ⟨rfl, ne h' eb⟩
  self := fun A i s Q E st h => let ⟨⟨_, he⟩, _⟩ := st; wpAny_pyIter_enum he h
def iEnumT (K : PySem.W.Frag) (ta : TA) : TI := fun σ H R => ta σ H fun vs H1 => ∃ a xs, vs = [.ref a] ∧ SqT K H1 a xs ∧ R (IteT K a) H1
theorem pi_enumT {X : Cx} {e : Expr} {ta : TA} {p pos tpos : Pos} {elts : List Expr} {kk : Nat} (hg : Gl X "enumerate") (hm : X.mg "enumerate" = none) (ha : PA X [e] ta) (hs : starEach [e] X.env = [(false, eval e X.env)] := by rfl) :
    PI X (.Tuple elts kk tpos) (.Call (.Name "enumerate" p) [e] [] pos) (iEnumT X.K ta) := by
  refine ⟨fun pins s σ H R I h => ?_⟩
  refine Call_ (ld_blt I hg hm boot_enumerate (PyProof.Rows.callWith_type1 (thn (ha.run pos pins s σ H _ I h) fun us s1 ⟨vs, H1, I1, r1, q1⟩ => ?_) hs rfl))
  obtain ⟨a, xs, ex, hq, q⟩ := q1
  subst ex
  cases r1 with
  | cons r rr =>
    cases rr
    cases r
    obtain ⟨its, rv, p', hz⟩ := I1.tuple hq
    have hal : a < s1.heap.objs.size := by obtain ⟨_, q, _⟩ := p'; exact Heap.lt_size q
    refine call_enuT (show s1.heap.IsTuple a its.toArray from p') fun h' he hit hk => wpAny_pyIter_enum he ?_
    have I2 : Inv X pins σ H1 { s1 with heap := h' } := I1.kept (t' := s1.toks) hk
    refine ⟨s1.heap.objs.size + 1, [s1.heap.objs.size + 1, s1.heap.objs.size], _, _, H1, rfl, I2, turn_enuT a (s1.heap.objs.size + 1) s1.heap.objs.size (Nat.succ_ne_self _) (fun z => Nat.lt_irrefl _ (Nat.lt_of_lt_of_le hal (by rw [← z]; exact Nat.le_add_right _ _))) (fun z => Nat.lt_irrefl _ (by rw [z] at hal; exact hal)), ⟨⟨.none, he⟩, hit⟩, fun b hb => ?_, q⟩
    have hle : s1.heap.objs.size ≤ b := by
      have z : b = s1.heap.objs.size + 1 ∨ b = s1.heap.objs.size := by simpa using hb
      rcases z with z | z
      · rw [z]; exact Nat.le_add_right _ _
      · rw [z]; exact Nat.le_refl _
    exact I1.fpOk hle (I1.hok.fresh hle)
def pEnt : List D → Option (List D)
  | [.tup l] => some (enuD l)
  | _ => none
section
variable {G : Gm} {X : Cx} {W : WX} {OX OL vs O O1 O2 O3 : List Nat}
theorem enu_walkT {F : Hp} {l0 : List D} {a : Addr} {xs : List V} (rl : RepL G F l0 xs) (h : SqT G.K F a xs) : Walk (IteT G.K a) (enuD l0).length (fun H => Sub F H) (YD G F (enuD l0)) := by
  have e0 : (enuD l0).length = xs.length := by unfold enuD; rw [← rl.length]; simp
  show Walk (IteT G.K a) (enuD l0).length _ _
  rw [e0]
  refine ⟨fun i H hi sb => ⟨xs, xs[i], sb.sqT h, by simp [hi]⟩, fun H sb => ⟨xs, sb.sqT h, Nat.le_refl _⟩, fun i H v H' hi sb y => ?_⟩
  obtain ⟨T, x1, h1, h2, h3, h4⟩ := y
  obtain ⟨d, e, rd⟩ := rl.get' (h4 xs (sb.sqT h))
  refine ⟨.tup [.int (i : Nat), d], ?_, .inr ⟨T, _, [.int (i : Nat), d], rfl, h1, h2, h3, .cons .int (.cons rd .nil)⟩⟩
  unfold enuD
  rw [List.getElem?_map, List.getElem?_zipIdx, e]
  simp
theorem i_ent {e : Expr} {p pos tpos : Pos} {elts : List Expr} {kk : Nat} {f : M (List D)} (ha : PA X [e] (tA G W OX O O1 f)) (hm : X.mg "enumerate" = none := by assumption) (hg : Gl X "enumerate" := by rfl) (hs : starEach [e] X.env = [(false, eval e X.env)] := by rfl) (hK : X.K = G.K := by rfl) :
    PI X (.Tuple elts kk tpos) (.Call (.Name "enumerate" p) [e] [] pos) (iIt G W OX O O1 (itN pEnt f)) :=
  (pi_enumT hg hm ha hs).mo fun σ H R ⟨F, r, S, q⟩ => tX_bind S q fun ds vs F1 H1 r1 n1 rs q => by
    obtain ⟨l, e, q⟩ := itN_of q
    rw [hK]
    unfold pEnt at e
    split at e
    · cases e
      cases rs with
      | cons r1 rr =>
        cases rr
        cases r1 with
        | @tup l0 a xs h rl =>
          exact ⟨a, xs, rfl, n1.sta.sub.sqT h, q _ F1 H1 (Nx.rfl' n1.sta) (enu_walkT rl h)⟩
    · cases e
/-- o.m(k = v, ..) of one class -/
theorem e_methK0 {o : Expr} {kws : List Keyword} {m : Str} {apos pos : Pos} {pl : Sem Bool} {k q : Nat} {ks : List Str} {g : M D} {h2 : M (List D)} {dd : List D} {od : List Nat} (tb : List (Nat × Beh)) (tk : Takes X W) (hr : Room k X.A) (hm : m ∉ G.flds) (ho : PE X o (tE G W OX O O1 g)) (hkw : PK X kws (tA G W OX O1 O3 h2))
    (ht : ∀ c B, tb.lookup c = some B → ∃ a f fd ps ds ds' dvs dvs', MtOk G X.prog X.w X.mg X.base k c m a B f fd ps ds' dvs' ∧ BindK G.K fd ps 1 ks (0 :: od.map (· + 1)) ds ∧ Vals dvs ds ∧ ∀ F, RepL G F dd dvs) (hq : ks.length = q := by rfl) (hx : ∀ i ∈ OX, i ∈ O3 := by decide) (hK : X.K = G.K := by rfl)
    (hall : (backToKw pos (keywordEach kws X.env)).all (·.1.isSome) = true := by rfl) (hks : (backToKw pos (keywordEach kws X.env)).filterMap (·.1) = ks := by rfl)
    (hpl : ((backTo pos (starEach [] X.env)).any (·.1) || (backToKw pos (keywordEach kws X.env)).any (·.1.isNone)) = false := by rfl)
    (hev : eval (.Call (.Attribute o m apos) [] kws pos) X.env = (do
      let ov ← eval o X.env
      standAt apos.atName
      let (fm, fst) ← holding [ov] (getMethod ov m pl)
      callWith pos fm fst (backTo pos (starEach [] X.env)) (backToKw pos (keywordEach kws X.env))) := by rfl) : PE X (.Call (.Attribute o m apos) [] kws pos) (tE G W OX O O3 (eMk tb 0 q od dd g aNil h2)) := by
  refine ⟨fun pins s σ H Q I ⟨F, r, S, p⟩ => ?_⟩
  refine PySem.W.methodCall_KW (pl := pl) (thn (ho.run pins s σ H (fun v H1 => ∃ x F1 r1, Nx G OX O O1 σ F H σ F1 H1 r1 ∧ Rep G F1 x v ∧ Pst G W OX O1 O3 σ F1 H1 (RD G) Q (onMt tb x fun B => (h2 r1).bind fun zs r3 => if ([] : List D).length = 0 ∧ zs.length = q then out0 (B (permL od ([] ++ zs ++ dd))) r3 else .no)) I
    (tX_bind S p fun x v F1 H1 r1 n1 rx p => ⟨x, F1, r1, n1, rx, p⟩)) fun u s1 ⟨v, H1, I1, ru, x, F1, r1, n1, rx, p⟩ => ?_) hev
  obtain ⟨c, l, B, rfl, e1, p⟩ := onMt_of p
  obtain ⟨ar, f, fd, ps, ds, ds', dvs, dvs', M, hb, hd, hdd⟩ := ht c B e1
  obtain ⟨a, dx, fs, rfl, ea, el⟩ := look_m n1.sta rx hm
  obtain rfl : u = Value.ref a := ru
  refine getmeth_ok I1 ea (by rw [hK]; exact M.cl) (by rw [hK]; exact M.me) el ?_
  refine cw0 (first := [.ref a]) (k := fun ds zs r2 => if ds.length = 0 ∧ zs.length = q then out0 (B (.ob c l :: permL od (ds ++ zs ++ dd))) r2 else .no) (by rw [hK]; exact M.me.kp) hkw I1 n1.sta p (fun ds' zs vs ys us ws s2 F2 H2 r2 I2 n2 rs rz rv rw' p => ?_) hall hks hpl
  split at p
  · rename_i hl
    obtain ⟨h1, h2⟩ := hl
    have Fk : FnOk X.prog X.w X.K X.mg X.base (L2.CX X.prog X.w) k f fd ps (spB G ar [] B) := by rw [hK]; exact M.fn
    have rp := RepL.cons (rx.mono n2.stp.fz) (((rs.app rz).app (hdd F2)).perm od)
    have bt : BindK X.K fd ps 1 ks (0 :: od.map (· + 1)) ds := by rw [hK]; exact hb
    have q2 := bt s2 (.ref a :: us) ws I2.kIn (by rw [List.length_cons, vlen rv, ← rs.length, h1]) (by rw [vlen rw', ← rz.length, h2, hq])
    rw [List.cons_append, List.cons_append, permL_cons] at q2
    exact run_Bk tk Fk hr q2 I2 (.cons (show L2.RelV (V.ref a) (Value.ref a) from rfl) (Vals.perm ((rv.append rw').append hd) od)) (spB_of hx n2.sta rp (len_of M.ar rp p) p)
  · exact p.elim
end
end Z

/-! dicts: displays, d[k], d[k] = v, len, list(d), walked; a dict that is given away is locked. -/
namespace Z
open PySem PySem.Spec PyProof.Rows L2
def keyOf : D → Option Key
  | .int i => some (.inl i)
  | .str s => some (.inr s)
  | _ => none
def keyD : Key → D
  | .inl i => .int i
  | .inr s => .str s
def dicOf : D → Option (List Key × List D)
  | .dic ks l => some (ks, l)
  | .dkl ks l => some (ks, l)
  | _ => none
def lookD : List Key → List D → Key → Option D
  | k :: ks, d :: l, x => if k = x then some d else lookD ks l x
  | _, _, _ => none
def pDix (x y : D) : Option D := (dicOf x).bind fun p => (keyOf y).bind fun k => lookD p.1 p.2 k
def pDlen : List D → Option D
  | [x] => (dicOf x).map fun p => .int (p.1.length : Nat)
  | _ => none
def pDlist : List D → Option D
  | [x] => (dicOf x).map fun p => .lst (p.1.map keyD)
  | _ => none
section
variable {G : Gm} {X : Cx} {W : WX} {OX OL vs O O1 O2 O3 : List Nat}
theorem keyOf_rep {F : Hp} {d : D} {v : V} {k : Key} (h : Rep G F d v) (e : keyOf d = some k) : v = kV k := by
  cases h <;> simp [keyOf] at e <;> subst e <;> rfl
theorem keyD_rep {F : Hp} (k : Key) : Rep G F (keyD k) (kV k) := by
  cases k
  · exact .int
  · exact .str
theorem keysD_rep {F : Hp} : ∀ (ks : List Key), RepL G F (ks.map keyD) (ks.map kV)
  | [] => .nil
  | k :: ks => .cons (keyD_rep k) (keysD_rep ks)
theorem dic_rd {F H : Hp} {x : D} {v : V} {ks : List Key} {l : List D} (sb : Sub F H) (h : Rep G F x v) (e : dicOf x = some (ks, l)) : ∃ a kvs, v = .ref a ∧ Rd H a (.dK kvs) ∧ kvs.map (·.1) = ks ∧ RepL G F l (kvs.map (·.2)) := by
  cases h with
  | dic h hk r =>
    cases e
    obtain ⟨o', e', g⟩ := sb _ _ h
    rw [g.dK] at e'
    exact ⟨_, _, rfl, .inl e', hk, r⟩
  | dkl h hk r =>
    cases e
    obtain ⟨o', e', g⟩ := sb _ _ h
    rw [g.frz] at e'
    exact ⟨_, _, rfl, .inr ⟨_, e'⟩, hk, r⟩
  | _ => cases e
theorem look_rep {F : Hp} : ∀ {kvs : List (Key × V)} {l : List D} {k : Key} {d : D}, RepL G F l (kvs.map (·.2)) → lookD (kvs.map (·.1)) l k = some d → ∃ v, valV kvs k = some v ∧ Rep G F d v
  | [], _, _, _, _, e => by cases e
  | (k, v) :: kvs, l, x, d, r, e => by
    cases r with
    | @cons d0 l0 _ _ h t =>
      rw [List.map_cons, lookD] at e
      by_cases q : k = x
      · rw [if_pos q] at e
        cases e
        exact ⟨v, by rw [valV_pos q], h⟩
      · rw [if_neg q] at e
        obtain ⟨w, e1, h1⟩ := look_rep t e
        exact ⟨w, by rw [valV_neg q]; exact e1, h1⟩
theorem any_keys (kvs : List (Key × V)) (k : Key) : (kvs.any fun kv => decide (kv.1 = k)) = ((kvs.map (·.1)).any fun x => decide (x = k)) := by
  rw [List.any_map]; rfl
/-- what d[k] = v makes of keys and values, a key of its own at most once -/
def putR (ks : List Key) (l : List D) (k : Key) (d : D) : List Key × List D :=
  if (ks.any fun x => decide (x = k)) = true then (ks, (ks.zip l).map fun p => if p.1 = k then d else p.2) else (ks ++ [k], l ++ [d])
theorem put_rep {F : Hp} {kvs : List (Key × V)} {l : List D} {k : Key} {d : D} {v : V} (r : RepL G F l (kvs.map (·.2))) (h : Rep G F d v) :
    (putK kvs k v).map (·.1) = (putR (kvs.map (·.1)) l k d).1 ∧ RepL G F (putR (kvs.map (·.1)) l k d).2 ((putK kvs k v).map (·.2)) := by
  unfold putR putK
  rw [← any_keys]
  by_cases m : (kvs.any fun kv => decide (kv.1 = k)) = true
  · rw [if_pos m, if_pos m, List.map_map, List.map_map]
    refine ⟨?_, ?_⟩
    · apply List.map_congr_left
      intro p hp
      by_cases q : p.1 = k <;> simp [q]
    have key : ∀ {kvs : List (Key × V)} {l : List D}, RepL G F l (kvs.map (·.2)) → RepL G F (((kvs.map (·.1)).zip l).map fun p => if p.1 = k then d else p.2) (kvs.map ((·.2) ∘ fun kv => if kv.1 = k then (kv.1, v) else kv)) := by
      intro kvs
      induction kvs with
      | nil => intro l r; cases r; exact .nil
      | cons p kvs ih =>
        intro l r
        cases r with
        | cons a b =>
          rw [List.map_cons, List.zip_cons_cons, List.map_cons, List.map_cons]
          refine .cons ?_ (ih b)
          by_cases q : p.1 = k
          · simp [q]; exact h
          · simp [q]; exact a
    exact key r
  · rw [if_neg m, if_neg m, List.map_append, List.map_append]
    exact ⟨rfl, r.snoc h⟩
/-- d[k] -/
theorem e_dix {a b : Expr} {pos : Pos} {k : Nat} {f g : M D} (hr : Room k X.A) (ha : PE X a (tE G W OX O O1 f)) (hb : PE X b (tE G W OX O1 O2 g)) (hs : NoSl b := by intro _ _; rfl) : PE X (.Subscript a b pos) (tE G W OX O O2 (eB (oP pDix) f g)) :=
  (pe_dget (by have := hr.un; omega) ha hb hs).imp fun σ H Q ⟨F, r, S, p⟩ => tX_bind S p fun x v F1 H1 r1 n1 rx p => tX_bind n1.sta p fun y w F2 H2 r2 n2 ry p => by
    revert p
    unfold oP pDix
    have rx := rx.mono n2.stp.fz
    cases e : dicOf x with
    | none => exact fun p => p.elim
    | some kl =>
      obtain ⟨ks, l⟩ := kl
      obtain ⟨a, kvs, rfl, hd, hk, rl⟩ := dic_rd n2.sta.sub rx e
      simp only [Option.bind_some]
      cases ek : keyOf y with
      | none => exact fun p => p.elim
      | some k =>
        simp only [Option.bind_some]
        cases el : lookD ks l k with
        | none => exact fun p => p.elim
        | some d =>
          intro p
          subst hk
          obtain ⟨v', ev, rv⟩ := look_rep rl el
          exact ⟨a, v', rfl, .inl ⟨kvs, k, hd, keyOf_rep ry ek, ev.symm⟩, p.ok n2.sta rv⟩
theorem call_lenR : CallR X (.builtin "len") (fun xs H Q => ∃ (a : Addr) (kvs : List (Key × V)), xs = [.ref a] ∧ Rd H a (.dK kvs) ∧ Q (.int (kvs.length : Nat)) H) := by
  intro pins s σ H xs us Q I r q
  obtain ⟨a, kvs, ex, hd, q⟩ := q
  subst ex
  cases r with
  | cons r rr =>
    cases rr
    cases r
    exact d_len I hd fun t s' I' => ⟨.int (kvs.length : Nat), H, I', ⟨t, rfl⟩, q⟩
/-- len of a dict -/
theorem e_lenD {x : Expr} {xs : List Expr} {pp pos : Pos} {f : M (List D)} (ha : PA X (x :: xs) (tA G W OX O O1 f)) (hm : X.mg "len" = none := by assumption) (hg : Gl X "len" := by rfl)
    (he : starEach (x :: xs) X.env = (false, eval x X.env) :: starEach xs X.env := by rfl) (hpl : (backTo pos (starEach xs X.env)).any (·.1) = false := by rfl) : PE X (.Call (.Name "len" pp) (x :: xs) [] pos) (tE G W OX O O1 (eN pDlen f)) :=
  e_cB pDlen call_lenR (fun σ F H r ds vs d Q S rs e q => by
    unfold pDlen at e
    split at e
    · obtain ⟨p, e1, e2⟩ := Option.map_eq_some_iff.mp e
      cases rs with
      | cons r1 rr =>
        cases rr
        obtain ⟨a, kvs, rfl, hd, hk, rl⟩ := dic_rd S.sub r1 e1
        subst e2
        refine ⟨a, kvs, rfl, hd, ?_⟩
        have e3 : p.1.length = kvs.length := by rw [← hk]; simp
        rw [e3] at q
        exact q.ok S .int
    · cases e) ha hm (hg := hg) (he := he) (hpl := hpl)
/-- list(d) -/
theorem e_listD {x : Expr} {xs : List Expr} {pp pos : Pos} {f : M (List D)} (ha : PA X (x :: xs) (tA G W OX O O1 f)) (hm : X.mg "list" = none := by assumption) (hg : Gl X "list" := by rfl) (hc : X.calm = true := by rfl)
    (he : starEach (x :: xs) X.env = (false, eval x X.env) :: starEach xs X.env := by rfl) (hpl : (backTo pos (starEach xs X.env)).any (·.1) = false := by rfl) : PE X (.Call (.Name "list" pp) (x :: xs) [] pos) (tE G W OX O O1 (eN pDlist f)) :=
  e_cT pDlist (call_listD hc) (fun σ F H r ds vs d Q S rs e q => by
    unfold pDlist at e
    split at e
    · obtain ⟨p, e1, e2⟩ := Option.map_eq_some_iff.mp e
      cases rs with
      | cons r1 rr =>
        cases rr
        obtain ⟨a, kvs, rfl, hd, hk, rl⟩ := dic_rd S.sub r1 e1
        subst e2
        refine ⟨a, kvs, rfl, hd, fun p hp => ?_⟩
        refine q.fz S hp rfl fun F' hF sb => .lst hF ?_
        rw [← hk, show kvs.map (fun kv => kV kv.1) = (kvs.map (·.1)).map kV by rw [List.map_map]; rfl]
        exact keysD_rep _
    · cases e) ha hm (hg := hg) (he := he) (hpl := hpl)
end
end Z

/-! dicts that are made, walked, changed. -/
namespace Z
open PySem PySem.Spec PyProof.Rows L2
/-- a value is locked: it never changes from here -/
def tLkV (t : TE) : TE := fun σ H Q => t σ H fun v H1 => ∃ d u, v = .ref d ∧ H1 d = some u ∧ Mut (some u) ∧ ∀ od, Q v (upd H1 d (.frz od u))
theorem pe_lkv {X : Cx} {e : Expr} {t : TE} (h : PE X e t) : PE X e (tLkV t) := by
  refine ⟨fun pins s σ H Q I hw => ?_⟩
  refine thn (h.run pins s σ H _ I hw) fun v s1 ⟨x, H1, I1, r, d, u, ex, hd, mu, q⟩ => ?_
  subst ex
  obtain ⟨od, I2⟩ := I1.lock hd mu
  exact ⟨.ref d, _, I2, r, q od⟩
abbrev RPr (G : Gm) : Hp → Hp → List (D × D) → List (V × V) → Prop := fun F _ ds ps => Paired (fun d p => Rep G F d.1 p.1 ∧ Rep G F d.2 p.2) ds ps
def eDp : List (M D × M D) → M (List (D × D))
  | [], r => .ok [] r
  | (f, g) :: l, r => (f r).bind fun a r1 => (g r1).bind fun b r2 => (eDp l r2).bind fun t r3 => .ok ((a, b) :: t) r3
def mkD : List Key × List D → List (D × D) → Option (List Key × List D)
  | acc, [] => some acc
  | acc, (k, v) :: l => (keyOf k).bind fun kk => mkD (putR acc.1 acc.2 kk v) l
@[simp] def eDic (fs : List (M D × M D)) : M D := fun r => (eDp fs r).bind fun ps r1 => match mkD ([], []) ps with
  | some q => .ok (.dkl q.1 q.2) r1
  | none => .no
section
variable {G : Gm} {X : Cx} {W : WX} {OX OL vs O O1 O2 O3 : List Nat}
theorem RPr.mono {F F' H H' : Hp} {ds : List (D × D)} {ps : List (V × V)} (h : RPr G F H ds ps) (s : Sub F F') : RPr G F' H' ds ps := by
  unfold RPr at h ⊢
  induction h with
  | nil => exact .nil
  | cons a _ ih => exact .cons ⟨a.1.mono s, a.2.mono s⟩ ih
theorem tp_of : ∀ {fs : List (M D × M D)} {σ : L2.St} {H : Hp} {Q : List (V × V) → Hp → Prop}, tX G W OX O O (RPr G) (eDp fs) σ H Q → tPairs (fs.map fun p => (tE G W OX O O p.1, tE G W OX O O p.2)) σ H Q
  | [], σ, H, Q, ⟨F, r, S, p⟩ => p [] F H (Nx.rfl' S) .nil
  | (f, g) :: l, σ, H, Q, ⟨F, r, S, p⟩ => by
    refine tX_bind S p fun a v F1 H1 r1 n1 ra p => tX_bind n1.sta p fun b w F2 H2 r2 n2 rb p => tp_of (fs := l) (tX_bind n2.sta p fun t ps F3 H3 r3 n3 rt p => ?_)
    exact p _ F3 H3 (Nx.rfl' n3.sta) (.cons ⟨ra.mono (n2.stp.fz.trans n3.stp.fz), rb.mono n3.stp.fz⟩ rt)
theorem mkD_rep {F : Hp} : ∀ {ds : List (D × D)} {ps : List (V × V)} {kvs0 : List (Key × V)} {l0 : List D} {q : List Key × List D}, Paired (fun d p => Rep G F d.1 p.1 ∧ Rep G F d.2 p.2) ds ps → RepL G F l0 (kvs0.map (·.2)) → mkD (kvs0.map (·.1), l0) ds = some q →
    ∃ kvs : List (Key × V), ps = kvs.map (fun kv => (kV kv.1, kv.2)) ∧ (mergeK kvs0 kvs).map (·.1) = q.1 ∧ RepL G F q.2 ((mergeK kvs0 kvs).map (·.2)) ∧ kvs.length = ds.length
  | [], _, kvs0, l0, q, .nil, r, e => by
    cases e
    exact ⟨[], rfl, rfl, r, rfl⟩
  | (k, d) :: ds, _, kvs0, l0, q, .cons (b := p) h t, r, e => by
    rw [mkD] at e
    obtain ⟨kk, ek, e⟩ := Option.bind_eq_some_iff.mp e
    obtain ⟨e1, r1⟩ := put_rep (k := kk) (v := p.2) r h.2
    have e : mkD ((putR (kvs0.map (·.1)) l0 kk d).1, (putR (kvs0.map (·.1)) l0 kk d).2) ds = some q := e
    rw [← e1] at e
    obtain ⟨kvs, e2, e3, e4, e5⟩ := mkD_rep t r1 e
    refine ⟨(kk, p.2) :: kvs, ?_, e3, e4, by simp [e5]⟩
    rw [List.map_cons, ← e2, ← keyOf_rep h.1 ek]
theorem eDp_len : ∀ {fs : List (M D × M D)} {r r1 : Ev} {ds : List (D × D)}, eDp fs r = .ok ds r1 → ds.length = fs.length
  | [], _, _, _, e => by cases e; rfl
  | (f, g) :: l, r, r1, ds, e => by
    rw [eDp] at e
    cases h1 : f r with
    | no => rw [h1] at e; cases e
    | ex => rw [h1] at e; cases e
    | ok a r2 =>
      rw [h1] at e
      simp only [Out.bind] at e
      cases h2 : g r2 with
      | no => rw [h2] at e; cases e
      | ex => rw [h2] at e; cases e
      | ok b r3 =>
        rw [h2] at e
        simp only at e
        cases h3 : eDp l r3 with
        | no => rw [h3] at e; cases e
        | ex => rw [h3] at e; cases e
        | ok t r4 =>
          rw [h3] at e
          cases e
          simp [eDp_len h3]
/-- an object in flight is given its last form, for good -/
theorem fly {σ : L2.St} {F H F1 H1 : Hp} {r r1 : Ev} {p : Addr} {o0 o' : HO} (S : Sta G O F H σ r) (hp : H p = none) (hi : noIns o0 = true) (hi' : noIns o' = true) (n1 : Nx G OX O O1 σ F (upd H p o0) σ F1 H1 r1) (hO : ∀ i ∈ O1, i ∈ O) : H1 p = some o0 ∧ F1 p = none ∧ ∀ {H' : Hp}, (∀ a, a ≠ p → H' a = H1 a) → H' p = some o' → Nx G OX O O1 σ F H σ (upd F1 p o') H' r1 := by
  obtain ⟨S0, s0, fp⟩ := new_ow (o := o0) S hp hi
  have nO : ¬ OwnAt O σ p := fun ⟨k, hk, ek⟩ => by
    obtain ⟨_, _, _, e2, ow⟩ := S.ow k hk
    rw [ek] at e2
    cases e2
    obtain ⟨b, o, eb, hb⟩ := ow.there
    cases eb
    rw [hp] at hb
    cases hb
  have k1 : H1 p = some o0 := n1.stp.kp p _ upd_same nO
  have k2 : F1 p = none := (n1.stp.nf p _ upd_same nO).trans fp
  refine ⟨k1, k2, fun {H'} hne hp' => ?_⟩
  have s3 : Stp (fun x => x = p) F1 H1 (upd F1 p o') H' := ⟨fun a u e => ⟨u, by rw [upd_ne fun z => by rw [z, k2] at e; cases e]; exact e, .rfl'⟩, fun a u e n => by rw [hne a n]; exact e, fun a u e n => upd_ne n, fun a e => by
    by_cases q : a = p
    · rw [q, hp'] at e; cases e
    · rw [← hne a q]; exact e⟩
  have sub : Sub (upd F1 p o') H' := fun a u e => by
    by_cases q : a = p
    · subst q
      rw [upd_same] at e
      cases e
      exact ⟨_, hp', .rfl'⟩
    · rw [upd_ne q] at e
      obtain ⟨u', e', g⟩ := n1.sta.sub a u e
      exact ⟨u', by rw [hne a q]; exact e', g⟩
  have wf : Wf G H' := fun a C dx fs f e => by
    by_cases q : a = p
    · subst q
      rw [hp'] at e
      cases e
      cases hi'
    · rw [hne a q] at e
      exact n1.sta.wf a C dx fs f e
  have nO1 : ∀ a, OwnAt O1 σ a → ¬ a = p := fun a ⟨i, hi, ei⟩ z => nO ⟨i, hO i hi, by rw [ei, z]⟩
  exact ⟨n1.sta.stay s3 sub wf nO1, (s0.trans n1.stp fun x m => .inl m).trans s3 fun x m => .inr (by rw [m]; exact hp), fun i hi => n1.kp i hi, fun a m => .inl (m.sub hO)⟩
/-- {k: v, ..} -/
theorem e_disp {pos : Pos} {keys : List (Option Expr)} {values : List Expr} {fs : List (M D × M D)} (h : PPs X pos keys values (fs.map fun p => (tE G W OX O O p.1, tE G W OX O O p.2))) (hall : keys.all (·.isSome) = true := by rfl) (hl : keys.length = values.length := by rfl) (h0 : keys ≠ [] := by simp)
    (h15 : keys.length ≤ 15 := by decide) (hf : fs.length ≤ 15 := by decide) : PE X (.Dict keys values pos) (tE G W OX O O (eDic fs)) :=
  (pe_lkv (pe_disp h hall hl h0 h15)).imp fun σ H Q ⟨F, r, S, p⟩ => fun a ha => tp_of (by
    obtain ⟨S0, s0, fp⟩ := new_ow (o := .dK []) S ha rfl
    refine ⟨F, r, S0, ?_⟩
    simp only [eDic] at p
    revert p
    cases he : eDp fs r with
    | no => exact fun p => p
    | ex e q => exact fun p c dx F' H' n x => p c dx F' H' ((Nx.of S0 s0 fun _ h => h).trans n) x
    | ok ds r1 =>
      intro p ps F1 H1 n1 rp
      obtain ⟨k1, k2, fin⟩ := fly (o' := .dK []) S ha rfl rfl n1 fun _ h => h
      have p : Pst G W OX O O σ F H (RD G) Q (match mkD ([], []) ds with
        | some q => .ok (.dkl q.1 q.2) r1
        | none => .no) := p
      revert p
      cases em : mkD ([], []) ds with
      | none => exact fun p => p.elim
      | some q =>
        intro p
        obtain ⟨kvs, e2, e3, e4, e5⟩ := mkD_rep (kvs0 := []) (l0 := []) rp .nil em
        have hlen : kvs.length ≤ 15 := by rw [e5, eDp_len he]; exact hf
        refine ⟨k1, kvs, e2, hlen, a, _, rfl, upd_same, True.intro, fun od => ?_⟩
        obtain ⟨_, _, fin⟩ := fly (o' := .frz od (.dK (mergeK [] kvs))) S ha rfl rfl n1 fun _ h => h
        refine p _ _ _ (fin (fun b hb => by rw [upd_ne hb, upd_ne hb]) upd_same) (.dkl upd_same e3 (e4.mono fun b u e => ⟨u, by rw [upd_ne fun z => by rw [z, k2] at e; cases e]; exact e, .rfl'⟩)))
end
end Z

/-! keys and texts walked; sorted texts; own dicts. -/
namespace Z
open PySem PySem.Spec PyProof.Rows L2
def dkOf : D → Option (List D)
  | .dkl ks _ => some (ks.map keyD)
  | _ => none
@[simp] def itK (f : M D) : M (List D) := fun r => (f r).bind fun x r1 => match dkOf x with
  | some l => .ok l r1
  | none => .no
def strL (z : Str) : List D := z.cps.toList.map fun c => .str ⟨#[c]⟩
def stOf : D → Option (List D)
  | .str z => some (strL z)
  | _ => none
@[simp] def itS (f : M D) : M (List D) := fun r => (f r).bind fun x r1 => match stOf x with
  | some l => .ok l r1
  | none => .no
def strsOf : List D → Option (List Str)
  | [] => some []
  | .str z :: l => (strsOf l).map (z :: ·)
  | _ => none
def lsOf : D → Option (List D)
  | .lst l => some l
  | .kl l => some l
  | _ => none
def ltS (a b : Str) : Bool := PySem.Spec.ltCps a.cps.toList b.cps.toList
def insS (x : Str) : List Str → List Str
  | [] => [x]
  | y :: l => if ltS y x = true then y :: insS x l else x :: y :: l
def sortS : List Str → List Str
  | [] => []
  | x :: l => insS x (sortS l)
def pSorted : List D → Option D
  | [x] => (lsOf x).bind fun l => (strsOf l).bind fun zs => if zs.length < 64 then some (.lst ((sortS zs).map .str)) else none
  | _ => none
/-- a new dict is locked -/
def lkOf : D → Option D
  | .dic ks l => some (.dkl ks l)
  | _ => none
@[simp] def eLk (f : M D) : M D := fun r => (f r).bind fun x r1 => liftO (lkOf x) r1
/-- an own dict is given away, locked -/
@[simp] def eVD (i : Nat) : M D := fun r => match r[i]? with
  | some (some (.dic ks l)) => .ok (.dkl ks l) (r.set i (some (.dkl ks l)))
  | _ => .no
/-- a new dict of this code's own -/
@[simp] def eDicF (fs : List (M D × M D)) : M D := fun r => (eDp fs r).bind fun ps r1 => match mkD ([], []) ps with
  | some q => .ok (.dic q.1 q.2) r1
  | none => .no
def dixSet (ks : List Key) (l : List D) (y d : D) : Option (List Key × List D) := (keyOf y).bind fun k => if ks.length < big then some (putR ks l k d) else none
/-- t[k] = v of an own dict -/
@[simp] def sDix (i : Nat) (f g : M D) : M Fl := fun r => (f r).bind fun d r1 => (g r1).bind fun y r2 => match r2[i]? with
  | some (some (.dic ks l)) => (match dixSet ks l y d with
    | some q => .ok .nx (r2.set i (some (.dic q.1 q.2)))
    | none => .no)
  | _ => .no

theorem ltc_irr : ∀ (a : List Nat), ltCps a a = false
  | [] => rfl
  | x :: a => by simp [ltCps, ltc_irr a]
theorem ltc_anti : ∀ {a b : List Nat}, ltCps a b = false → ltCps b a = false → a = b
  | [], [], _, _ => rfl
  | [], _ :: _, h, _ => by simp [ltCps] at h
  | _ :: _, [], _, h => by simp [ltCps] at h
  | x :: a, y :: b, h, h' => by
    simp only [ltCps, Bool.or_eq_false_iff, Bool.and_eq_false_iff, decide_eq_false_iff_not, beq_eq_false_iff_ne] at h h'
    have e : x = y := by omega
    subst e
    rw [ltc_anti (h.2.resolve_left fun z => z rfl) (h'.2.resolve_left fun z => z rfl)]
theorem ltc_tr : ∀ {a b c : List Nat}, ltCps a b = false → ltCps b c = false → ltCps a c = false
  | [], [], [], _, _ => rfl
  | [], [], _ :: _, _, h => by simp [ltCps] at h
  | [], _ :: _, _, h, _ => by simp [ltCps] at h
  | _ :: _, _, [], _, _ => rfl
  | _ :: _, [], _ :: _, _, h => by simp [ltCps] at h
  | x :: a, y :: b, z :: c, h, h' => by
    simp only [ltCps, Bool.or_eq_false_iff, Bool.and_eq_false_iff, decide_eq_false_iff_not, beq_eq_false_iff_ne] at h h' ⊢
    refine ⟨by omega, ?_⟩
    by_cases e : x = z
    · subst e
      have e2 : x = y := by omega
      subst e2
      exact .inr (ltc_tr (h.2.resolve_left fun z => z rfl) (h'.2.resolve_left fun z => z rfl))
    · exact .inl e
theorem ltc_tot : ∀ {a b : List Nat}, ltCps a b = true → ltCps b a = false
  | [], _ :: _, _ => rfl
  | [], [], h => by simp [ltCps] at h
  | _ :: _, [], h => by simp [ltCps] at h
  | x :: a, y :: b, h => by
    simp only [ltCps, Bool.or_eq_true, Bool.and_eq_true, decide_eq_true_eq, beq_iff_eq] at h
    simp only [ltCps, Bool.or_eq_false_iff, Bool.and_eq_false_iff, decide_eq_false_iff_not, beq_eq_false_iff_ne]
    rcases h with h | ⟨h, h2⟩
    · exact ⟨by omega, .inl (by omega)⟩
    · exact ⟨by omega, .inr (ltc_tot h2)⟩
def leS (a b : Str) : Prop := ltS b a = false
theorem leS_anti {a b : Str} (h : leS a b) (h' : leS b a) : a = b := by
  have := ltc_anti h h'
  cases a; cases b
  simp at this
  rw [this]
theorem leS_tr {a b c : Str} (h : leS a b) (h' : leS b c) : leS a c := ltc_tr h' h
theorem rising_pw : ∀ {p : Str} {l : List Str}, PyProof.Rows.risingS p l = true → (p :: l).Pairwise leS
  | p, [], _ => by simp
  | p, x :: r, h => by
    have h : (!ltCps x.cps.toList p.cps.toList && PyProof.Rows.risingS x r) = true := h
    rw [Bool.and_eq_true, Bool.not_eq_true'] at h
    have ih := rising_pw h.2
    refine List.pairwise_cons.mpr ⟨fun y hy => ?_, ih⟩
    rcases List.mem_cons.mp hy with e | hy
    · rw [e]; exact h.1
    · exact leS_tr h.1 ((List.pairwise_cons.mp ih).1 y hy)
theorem sorted_pw : ∀ {l : List Str}, PyProof.Rows.sortedS l = true → l.Pairwise leS
  | [], _ => .nil
  | _ :: _, h => rising_pw h
theorem ins_perm (x : Str) : ∀ l, (insS x l).Perm (x :: l)
  | [] => .refl _
  | y :: l => by
    unfold insS
    split
    · exact ((ins_perm x l).cons y).trans (List.Perm.swap _ _ _)
    · exact .refl _
theorem sort_perm : ∀ l, (sortS l).Perm l
  | [] => .refl _
  | x :: l => (ins_perm x _).trans ((sort_perm l).cons x)
theorem ins_pw {x : Str} : ∀ {l : List Str}, l.Pairwise leS → (insS x l).Pairwise leS
  | [], _ => by simp [insS]
  | y :: l, h => by
    have h2 := List.pairwise_cons.mp h
    unfold insS
    split
    · rename_i hl
      refine List.pairwise_cons.mpr ⟨fun z hz => ?_, ins_pw h2.2⟩
      rcases List.mem_cons.mp ((ins_perm x l).mem_iff.mp hz) with e | hz
      · rw [e]; exact ltc_tot hl
      · exact h2.1 z hz
    · rename_i hl
      have hl : leS x y := by simpa [leS] using hl
      refine List.pairwise_cons.mpr ⟨fun z hz => ?_, h⟩
      rcases List.mem_cons.mp hz with e | hz
      · rw [e]; exact hl
      · exact leS_tr hl (h2.1 z hz)
theorem sort_pw : ∀ l, (sortS l).Pairwise leS
  | [] => .nil
  | _ :: l => ins_pw (sort_pw l)
theorem sort_is {ys xs : List Str} (hp : ys.Perm xs) (hs : PyProof.Rows.sortedS ys = true) : ys = sortS xs :=
  List.Perm.eq_of_pairwise (le := leS) (fun _ _ _ _ h h' => leS_anti h h') (sorted_pw hs) (sort_pw xs) (hp.trans (sort_perm xs).symm)

section
variable {G : Gm} {X : Cx} {W : WX} {OX OL vs O O1 O2 O3 : List Nat}
theorem strs_rep {F : Hp} : ∀ {l : List D} {xs : List V} {zs : List Str}, RepL G F l xs → strsOf l = some zs → xs = zs.map V.str
  | [], _, _, .nil, e => by cases e; rfl
  | d :: l, _, zs, .cons h t, e => by
    cases d <;> simp [strsOf] at e
    obtain ⟨ws, e1, e2⟩ := e
    subst e2
    cases h
    rw [strs_rep t e1]
    rfl
theorem strsD_rep {F : Hp} : ∀ (zs : List Str), RepL G F (zs.map .str) (zs.map V.str)
  | [] => .nil
  | z :: zs => .cons .str (strsD_rep zs)
theorem i_keys {tg e : Expr} {f : M D} (h : PE X e (tE G W OX O O1 f)) : PI X tg e (iIt G W OX O O1 (itK f)) :=
  (pi_keys h).mo fun σ H R ⟨F, r, S, p⟩ => tX_bind S p fun x v F1 H1 r1 n1 rx p => by
    revert p
    cases e : dkOf x with
    | none => exact fun p => p.elim
    | some l =>
      intro p
      cases rx with
      | @dkl ks l0 a kvs o h hk rr =>
        cases e
        have up : ∀ H, Sub F1 H → H a = some (.frz o (.dK kvs)) := fun H sb => by
          obtain ⟨o', e', g⟩ := sb _ _ h
          rw [g.frz] at e'
          exact e'
        refine ⟨a, o, rfl, .inl ⟨kvs, up H1 n1.sta.sub, p _ F1 H1 (Nx.rfl' n1.sta) ?_⟩⟩
        show Walk (Itk a o kvs) (ks.map keyD).length (fun H => Sub F1 H) (YD G F1 (ks.map keyD))
        subst hk
        have e0 : ((kvs.map (·.1)).map keyD).length = kvs.length := by simp
        rw [e0]
        refine walk_keys.mono up fun i H x H' hi sb y => ?_
        obtain ⟨y1, k, v, y2, y3⟩ := y
        subst y3
        exact ⟨keyD k, by simp [y2], .inl ⟨y1, keyD_rep k⟩⟩
      | _ => cases e
theorem i_str {tg e : Expr} {f : M D} (h : PE X e (tE G W OX O O1 f)) : PI X tg e (iIt G W OX O O1 (itS f)) :=
  (pi_str h).mo fun σ H R ⟨F, r, S, p⟩ => tX_bind S p fun x v F1 H1 r1 n1 rx p => by
    revert p
    cases e : stOf x with
    | none => exact fun p => p.elim
    | some l =>
      intro p
      cases rx with
      | @str z =>
        cases e
        refine ⟨z, rfl, p _ F1 H1 (Nx.rfl' n1.sta) ?_⟩
        show Walk (Its z) (strL z).length (fun H => Sub F1 H) (YD G F1 (strL z))
        have e0 : (strL z).length = z.cps.size := by unfold strL; simp
        rw [e0]
        refine walk_str.mono (fun _ _ => trivial) fun i H x H' hi sb y => ?_
        obtain ⟨y1, c, y2, y3⟩ := y
        subst y3
        refine ⟨.str ⟨#[c]⟩, ?_, .inl ⟨y1, .str⟩⟩
        unfold strL
        rw [List.getElem?_map]
        have : z.cps.toList[i]? = some c := by simpa using y2
        rw [this]
        rfl
      | _ => cases e
/-- sorted(texts) -/
theorem e_sorted {x : Expr} {xs : List Expr} {pp pos : Pos} {f : M (List D)} (ha : PA X (x :: xs) (tA G W OX O O1 f)) (hm : X.mg "sorted" = none := by assumption) (hg : Gl X "sorted" := by rfl) (hK : X.K = G.K := by rfl)
    (he : starEach (x :: xs) X.env = (false, eval x X.env) :: starEach xs X.env := by rfl) (hpl : (backTo pos (starEach xs X.env)).any (·.1) = false := by rfl) : PE X (.Call (.Name "sorted" pp) (x :: xs) [] pos) (tE G W OX O O1 (eN pSorted f)) :=
  e_cB pSorted cr_sortedS (fun σ F H r ds vs d Q S rs e q => by
    unfold pSorted at e
    split at e
    · obtain ⟨l, e1, e⟩ := Option.bind_eq_some_iff.mp e
      obtain ⟨zs, e2, e⟩ := Option.bind_eq_some_iff.mp e
      split at e
      · rename_i h64
        cases e
        cases rs with
        | cons r1 rr =>
          cases rr
          have key : ∀ (x : D) (v : V), Rep G F x v → lsOf x = some l → ∃ a xs, v = V.ref a ∧ SqL X.K H a xs ∧ RepL G F l xs := fun x v r1 e1 => by
            rw [hK]
            cases r1 with
            | lst h r => cases e1; exact ⟨_, _, rfl, S.sub.sqL (.inl (.inl h)), r⟩
            | kl h r => cases e1; exact ⟨_, _, rfl, S.sub.sqL h, r⟩
            | _ => cases e1
          obtain ⟨a, ys, rfl, hq, rl⟩ := key _ _ r1 e1
          have e3 := strs_rep rl e2
          subst e3
          refine ⟨a, zs, rfl, hq, h64, fun ws p hp hs hn => ?_⟩
          rw [sort_is hp hs]
          exact q.fz S hn rfl fun F' hF sb => .lst hF (strsD_rep _)
      · cases e
    · cases e) ha hm (hg := hg) (he := he) (hpl := hpl)
/-- a new dict is locked at once -/
theorem lk_imp {f : M D} {σ : L2.St} {H : Hp} {Q : VK} (h : tE G W OX O O1 (eLk f) σ H Q) : tLkV (tF G W OX O O1 f) σ H Q := by
  obtain ⟨F, r, S, p⟩ := h
  refine ⟨F, r, S, ?_⟩
  simp only [eLk] at p
  revert p
  cases f r with
  | no => exact fun p => p
  | ex e q => exact fun p => p
  | ok d q =>
    intro p v F1 H1 n ⟨ow, nw⟩
    have p : Pst G W OX O O1 σ F H (RD G) Q (liftO (lkOf d) q) := p
    cases ow with
    | @dic ks l a kvs h hf hk rr =>
      obtain ⟨h0, hO⟩ := nw a rfl
      refine ⟨a, _, rfl, h, True.intro, fun od => ?_⟩
      have st : Stp (fun x => x = a) F1 H1 (upd F1 a (.frz od (.dK kvs))) (upd H1 a (.frz od (.dK kvs))) := ⟨fun b u e => ⟨u, by rw [upd_ne fun z => by rw [z, hf] at e; cases e]; exact e, .rfl'⟩, fun b u e nn => by rw [upd_ne nn]; exact e, fun _ _ _ nn => upd_ne nn, fun _ e => upd_none e⟩
      have sub : Sub (upd F1 a (.frz od (.dK kvs))) (upd H1 a (.frz od (.dK kvs))) := fun b u e => by
        by_cases q : b = a
        · subst q
          rw [upd_same] at e
          cases e
          exact ⟨_, upd_same, .rfl'⟩
        · rw [upd_ne q] at e
          obtain ⟨u', e', g⟩ := n.sta.sub b u e
          exact ⟨u', by rw [upd_ne q]; exact e', g⟩
      exact p _ _ _ ⟨n.sta.stay st sub (n.sta.wf.upd rfl) fun b m z => hO (z ▸ m), n.stp.trans st fun x z => .inr (z ▸ h0), n.kp, n.pv⟩ (.dkl upd_same hk (rr.mono st.fz))
    | lst => exact p.elim
    | ob => exact p.elim
theorem _root_.L2.PE.lk {e : Expr} {f : M D} (h : PE X e (tF G W OX O O1 f)) : PE X e (tE G W OX O O1 (eLk f)) := (pe_lkv h).imp fun σ H Q h => lk_imp h
/-- an own dict is given away -/
theorem e_varD {x : Str} {pos : Pos} (i : Nat) (hi : i ∈ O := by decide) (hN : X.N[i]? = some x := by rfl) (hv : Vis X.env.scope x := by first | exact Or.inl rfl | exact Or.inr (Or.inl rfl) | exact Or.inr (Or.inr rfl))
    (hd : (x == ("__debug__" : Str)) = false := by decide) (hcd : (x == ("__classdict__" : Str)) = false := by decide) : PE X (.Name x pos) (tE G W OX O (O.filter (· != i)) (eVD i)) :=
  (pe_lkv (pe_var hN hv hd hcd)).imp fun σ H Q ⟨F, r, S, p⟩ => by
    simp only [eVD] at p
    revert p
    split
    · rename_i ks l e
      intro p
      obtain ⟨v, e1, o⟩ := S.own_at hi e
      cases o with
      | @dic _ _ a kvs h hf hk rr =>
        refine ⟨_, e1, a, _, rfl, h, True.intro, fun od => ?_⟩
        have st : Stp (fun x => x = a) F H (upd F a (.frz od (.dK kvs))) (upd H a (.frz od (.dK kvs))) := ⟨fun b u e => ⟨u, by rw [upd_ne fun z => by rw [z, hf] at e; cases e]; exact e, .rfl'⟩, fun b u e nn => by rw [upd_ne nn]; exact e, fun _ _ _ nn => upd_ne nn, fun _ e => upd_none e⟩
        have sub : Sub (upd F a (.frz od (.dK kvs))) (upd H a (.frz od (.dK kvs))) := fun b u e => by
          by_cases q : b = a
          · subst q
            rw [upd_same] at e
            cases e
            exact ⟨_, upd_same, .rfl'⟩
          · rw [upd_ne q] at e
            obtain ⟨u', e', g⟩ := S.sub b u e
            exact ⟨u', by rw [upd_ne q]; exact e', g⟩
        have rp : Rep G (upd F a (.frz od (.dK kvs))) (.dkl ks l) (.ref a) := .dkl upd_same hk (rr.mono st.fz)
        have mem : ∀ {j}, j ∈ O.filter (· != i) → j ∈ O ∧ j ≠ i := fun {j} hj => by
          obtain ⟨h1, h2⟩ := List.mem_filter.mp hj
          exact ⟨h1, fun z => by simp [z] at h2⟩
        have hl : i < r.length := (List.getElem?_eq_some_iff.mp e).1
        refine p _ _ _ ⟨⟨sub, S.wf.upd rfl, by simp [S.len], fun j dj hj ej => ?_, fun j hj => ?_, fun j k b hj hk => S.dj j k b (mem hj).1 (mem hk).1⟩, st.weak fun x z => ⟨i, hi, by rw [z]; exact e1⟩, fun _ _ => rfl, fun b ⟨j, hj, ej⟩ => .inl ⟨j, (mem hj).1, ej⟩⟩ rp
        · by_cases q : i = j
          · subst q
            rw [List.getElem?_set_self hl] at ej
            cases ej
            exact ⟨_, e1, rp⟩
          · rw [List.getElem?_set_ne q] at ej
            obtain ⟨w, ew, hw⟩ := S.rp j dj (fun z => hj (List.mem_filter.mpr ⟨z, by simp [Ne.symm q]⟩)) ej
            exact ⟨w, ew, hw.mono st.fz⟩
        · obtain ⟨hj, hne⟩ := mem hj
          obtain ⟨dj, w, e2, ew, ow⟩ := S.ow j hj
          refine ⟨dj, w, by rw [List.getElem?_set_ne (Ne.symm hne)]; exact e2, ew, ow.mono st fun b eb z => hne (S.dj j i a hj hi (by rw [ew, eb, z]) e1)⟩
    · exact fun p => p.elim
/-- {k: v, ..}, this code's own -/
theorem f_disp {pos : Pos} {keys : List (Option Expr)} {values : List Expr} {fs : List (M D × M D)} (h : PPs X pos keys values (fs.map fun p => (tE G W OX O O p.1, tE G W OX O O p.2))) (hall : keys.all (·.isSome) = true := by rfl) (hl : keys.length = values.length := by rfl) (h0 : keys ≠ [] := by simp)
    (h15 : keys.length ≤ 15 := by decide) (hf : fs.length ≤ 15 := by decide) : PE X (.Dict keys values pos) (tF G W OX O O (eDicF fs)) :=
  (pe_disp h hall hl h0 h15).imp fun σ H Q ⟨F, r, S, p⟩ => fun a ha => tp_of (by
    obtain ⟨S0, s0, fp⟩ := new_ow (o := .dK []) S ha rfl
    refine ⟨F, r, S0, ?_⟩
    simp only [eDicF] at p
    revert p
    cases he : eDp fs r with
    | no => exact fun p => p
    | ex e q => exact fun p c dx F' H' n x => p c dx F' H' ((Nx.of S0 s0 fun _ h => h).trans n) x
    | ok ds r1 =>
      intro p ps F1 H1 n1 rp
      have nO : ¬ OwnAt O σ a := fun ⟨k, hk, ek⟩ => by
        obtain ⟨_, _, _, e2, ow⟩ := S.ow k hk
        rw [ek] at e2
        cases e2
        obtain ⟨b, o, eb, hb⟩ := ow.there
        cases eb
        rw [ha] at hb
        cases hb
      have k1 : H1 a = some (.dK []) := n1.stp.kp a _ upd_same nO
      have k2 : F1 a = none := (n1.stp.nf a _ upd_same nO).trans fp
      have p : Pst G W OX O O σ F H (RF G O σ H) Q (match mkD ([], []) ds with
        | some q => .ok (.dic q.1 q.2) r1
        | none => .no) := p
      revert p
      cases em : mkD ([], []) ds with
      | none => exact fun p => p.elim
      | some q =>
        intro p
        obtain ⟨kvs, e2, e3, e4, e5⟩ := mkD_rep (kvs0 := []) (l0 := []) rp .nil em
        have hlen : kvs.length ≤ 15 := by rw [e5, eDp_len he]; exact hf
        refine ⟨k1, kvs, e2, hlen, ?_⟩
        obtain ⟨S3, s3⟩ := putD (o := .dK (mergeK [] kvs)) n1.sta k1 k2 nO rfl
        exact p _ _ _ ⟨S3, (s0.trans n1.stp fun x m => .inl m).trans s3 fun x m => .inr (by rw [m]; exact ha), fun _ _ => rfl, fun _ m => .inl m⟩ ⟨.dic upd_same k2 e3 e4, fun b eb => by cases eb; exact ⟨ha, nO⟩⟩)
/-- t[k] = v -/
theorem s_dix {x : Str} {b e : Expr} {pos pos' px : Pos} {k : Nat} {f g : M D} (i : Nat) (hr : Room k X.A) (he : PE X e (tE G W OX O O1 f)) (hb : PE X b (tE G W OX O1 O2 g)) (hO : i ∈ O1 := by decide) (hi : i ∈ O2 := by decide) (hN : X.N[i]? = some x := by rfl) (hv : Vis X.env.scope x := by first | exact Or.inl rfl | exact Or.inr (Or.inl rfl) | exact Or.inr (Or.inr rfl))
    (hd : (x == ("__debug__" : Str)) = false := by decide) (hcd : (x == ("__classdict__" : Str)) = false := by decide) (hs : swapsWith e (some (.Subscript (.Name x px) b pos')) pos.line X.env = pure false := by rfl) :
    PS X (.Assign [.Subscript (.Name x px) b pos'] e pos) (tS G W OX OL O O2 (sDix i f g)) :=
  (ps_dput (by have := hr.un; omega) (pe_var hN hv hd hcd) hb he hs).imp fun Dn σ H ⟨F, r, S, p⟩ => tS_bind S p fun d v F1 H1 r1 n1 rd p => by
    obtain ⟨d0, v0, e1, e2, o0⟩ := n1.sta.ow i hO
    refine ⟨v0, e2, tS_bind n1.sta p fun y w F2 H2 r2 n2 ry p => ?_⟩
    revert p
    split
    · rename_i ks l e3
      intro p
      obtain ⟨v1, e4, o⟩ := n2.sta.own_at hi e3
      rw [e2] at e4
      cases e4
      revert p
      cases em : dixSet ks l y d with
      | none => exact fun p => p.elim
      | some q =>
        intro p
        unfold dixSet at em
        obtain ⟨kk, ek, em⟩ := Option.bind_eq_some_iff.mp em
        split at em
        · rename_i hbig
          cases em
          cases o with
          | @dic _ _ a kvs h hf hk rr =>
            subst hk
            obtain ⟨p1, p2⟩ := put_rep (k := kk) rr (rd.mono n2.stp.fz)
            refine ⟨a, _, rfl, .inl ⟨kvs, kk, h, keyOf_rep ry ek, ?_, rfl⟩, p _ _ _ (n2.sta.wr hi e2 (.dic upd_same hf p1 p2) (sub_wr n2.sta.sub hf) (n2.sta.wf.upd rfl))⟩
            have : kvs.length < big := by simpa using hbig
            exact Nat.lt_of_lt_of_le this (big_line (Nat.le_refl _))
        · cases em
    · exact fun p => p.elim
end
end Z

/-! dict comprehensions. -/
namespace Z
open PySem PySem.Spec PyProof.Rows L2
def dcGo (vs : List Nat) (g : Tg) (t : M Bool) (kf vf : M D) : List D → List Key × List D → Ev → Option ((List Key × List D) × Ev)
  | [], acc, r => some (acc, r)
  | d :: l, acc, r => match g d (wipeE vs r) with
    | none => none
    | some r1 => match t r1 with
      | .ok true r2 => (match kf r2 with
        | .ok y r3 => (match vf r3 with
          | .ok z r4 => (match keyOf y with
            | some k => dcGo vs g t kf vf l (putR acc.1 acc.2 k z) r4
            | none => none)
          | _ => none)
        | _ => none)
      | .ok false r2 => dcGo vs g t kf vf l acc r2
      | _ => none
def dcOut (vs : List Nat) (r1 : Ev) : Option ((List Key × List D) × Ev) → Out D
  | some (q, r2) => .ok (.dic q.1 q.2) (backE r1 vs r2)
  | none => .no
@[simp] def eDc (vs : List Nat) (it : M (List D)) (g : Tg) (t : M Bool) (kf vf : M D) : M D := fun r => (it r).bind fun l r1 => if l.length ≤ big then dcOut vs r1 (dcGo vs g t kf vf l ([], []) r1) else .no
theorem putK_len (kvs : List (Key × V)) (k : Key) (z : V) : (putK kvs k z).length ≤ kvs.length + 1 := by
  unfold putK
  split <;> simp
section
variable {J : It} {n : Nat} {G : Hp → Prop} {Y : Nat → Hp → V → Hp → Prop}
theorem dc_it (w : Walk J n G Y) {g : TG} {tt : TT} {tk te : TE} {vs : List Nat} {σ : L2.St} {H1 : Hp} {D : Addr} {Qd : Hp → Prop} (Pv : Nat → Hp → Prop) (h0 : Pv 0 (upd H1 D (.dK []))) (hG : ∀ i H, i ≤ n → Pv i H → G H)
    (hs : ∀ i x H H', i < n → Pv i H → Y i H x H' → g x (L2.wipe σ vs) H' fun σ2 H2 => L2.wipe σ2 vs = L2.wipe σ vs ∧ tt σ2 H2 fun b H3 =>
      if b = true then tk σ2 H3 fun y H4 => te σ2 H4 fun z H5 => ∃ kvs k, y = kV k ∧ H5 D = some (.dK kvs) ∧ kvs.length < sizeLine ∧ Pv (i + 1) (upd H5 D (.dK (putK kvs k z))) else Pv (i + 1) H3) (hd : ∀ H, Pv n H → Qd H) :
    ∃ W : Nat → Nat → Hp → Prop, (∃ m, W 0 m (upd H1 D (.dK []))) ∧ ∀ i m H, W i m H →
      (J.stop i H ∧ Qd H) ∨ (J.go i H ∧ ∃ Nx : Hp → Prop, (∀ H', Nx H' → ∃ m', m' < m ∧ W (i + 1) m' H') ∧ ∀ x H', J.yld i H x H' → g x (L2.wipe σ vs) H' fun σ2 H2 => L2.wipe σ2 vs = L2.wipe σ vs ∧ tt σ2 H2 fun b H3 =>
        if b = true then tk σ2 H3 fun y H4 => te σ2 H4 fun z H5 => ∃ kvs k, y = kV k ∧ H5 D = some (.dK kvs) ∧ kvs.length < sizeLine ∧ Nx (upd H5 D (.dK (putK kvs k z))) else Nx H3) := by
  refine ⟨fun i m H => m = n - i ∧ i ≤ n ∧ Pv i H, ⟨n, by simp, Nat.zero_le _, h0⟩, ?_⟩
  rintro i m H ⟨rfl, hi, p⟩
  have q := hG i H hi p
  by_cases hlt : i < n
  · refine .inr ⟨w.goes i H hlt q, Pv (i + 1), fun H' p' => ⟨n - (i + 1), by omega, rfl, hlt, p'⟩, fun x H' y => hs i x H H' hlt p (w.yields i H x H' hlt q y)⟩
  · have e : i = n := by omega
    subst e
    exact .inl ⟨w.stops H q, hd H p⟩
end
section
variable {G : Gm} {X : Cx} {W : WX} {OX OL vs O O1 O2 O3 : List Nat}
theorem dc_imp {own : List (Str × Nat)} {it : M (List D)} {g : Tg} {t : M Bool} {kf vf : M D} (hvs : own.map (·.2) = vs) (hd : ∀ i ∈ vs, i ∉ O1) (σ : L2.St) (H : Hp) (Q : VK) (h : tF G W OX O O1 (eDc vs it g t kf vf) σ H Q) :
    tDc (iIt G W OX O O1 it) (tG G [] vs O1 O1 g) (tT G (fun _ _ _ _ => False) [] O1 O1 t) (tE G (fun _ _ _ _ => False) [] O1 O1 kf) (tE G (fun _ _ _ _ => False) [] O1 O1 vf) (own.map (·.2)) σ H Q := by
  obtain ⟨F, r, S, p⟩ := h
  refine tX_bind S p fun l J F1 H1 r1 n1 rl p => ?_
  rw [hvs]
  intro Dd hD
  split at p
  case isFalse => exact p.elim
  rename_i hlen
  have fD : F1 Dd = none := by
    cases q : F1 Dd with
    | none => rfl
    | some u =>
      obtain ⟨o', e, _⟩ := n1.sta.sub Dd u q
      rw [hD] at e
      cases e
  have nO : ¬ OwnAt O1 σ Dd := fun ⟨i, hi, e⟩ => by
    obtain ⟨d, v, _, e2, ow⟩ := n1.sta.ow i hi
    rw [e] at e2
    cases e2
    obtain ⟨a, o, ea, ha⟩ := ow.there
    cases ea
    rw [hD] at ha
    cases ha
  let Pv : Nat → Hp → Prop := fun i H' => ∃ F' r' ks ys acc, Sta G O1 F' H' (L2.wipe σ vs) (wipeE vs r') ∧ Stp (fun a => OwnAt O1 σ a ∨ a = Dd) F1 (upd H1 Dd (.dK [])) F' H' ∧ H' Dd = some (.dK acc) ∧ F' Dd = none ∧ acc.map (·.1) = ks ∧ RepL G F' ys (acc.map (·.2)) ∧ acc.length ≤ i ∧
    Pst G W OX O1 O1 σ F1 H1 (RF G O1 σ H) Q (dcOut vs r1 (dcGo vs g t kf vf (l.drop i) (ks, ys) r'))
  have start := new_ow (o := .dK []) n1.sta hD rfl
  refine dc_it rl Pv ⟨F1, r1, [], [], [], start.1.wipe hd, .rfl', upd_same, fD, rfl, .nil, Nat.zero_le _, ?_⟩ (fun i H' _ ⟨F', r', ks, ys, acc, S', st, _⟩ => st.fz.trans S'.sub) ?_ ?_
  · rw [List.drop_zero]
    exact p
  · rintro i x H' H'' hi ⟨F', r', ks, ys, acc, S', st, hDd, fDd, hks, ry, ha, p⟩ ⟨d, ed, y⟩
    have el : l.drop i = d :: l.drop (i + 1) := by
      have hl : i < l.length := hi
      rw [List.drop_eq_getElem_cons hl]
      congr 1
      have := List.getElem?_eq_getElem hl
      rw [this] at ed
      exact Option.some.inj ed
    rw [el, dcGo] at p
    have run : ∀ (F2 : Hp), Sta G O1 F2 H'' (L2.wipe σ vs) (wipeE vs r') → Stp (fun a => OwnAt O1 σ a ∨ a = Dd) F1 (upd H1 Dd (.dK [])) F2 H'' → H'' Dd = some (.dK acc) → F2 Dd = none → RepL G F2 ys (acc.map (·.2)) → Rep G F2 d x →
        tG G [] vs O1 O1 g x (L2.wipe σ vs) H'' fun σ2 H2 => L2.wipe σ2 vs = L2.wipe σ vs ∧ tT G (fun _ _ _ _ => False) [] O1 O1 t σ2 H2 fun b H3 => if b = true then tE G (fun _ _ _ _ => False) [] O1 O1 kf σ2 H3 fun y H4 => tE G (fun _ _ _ _ => False) [] O1 O1 vf σ2 H4 fun z H5 => ∃ kvs k, y = kV k ∧ H5 Dd = some (.dK kvs) ∧ kvs.length < sizeLine ∧ Pv (i + 1) (upd H5 Dd (.dK (putK kvs k z))) else Pv (i + 1) H3 := fun F2 S2 st2 hD2 fD2 ry2 rx => by
      cases e : g d (wipeE vs r') with
      | none =>
        rw [e] at p
        exact p.elim
      | some r2 =>
        rw [e] at p
        refine ⟨F2, _, d, r2, S2, rx, e, fun σ2 n3 w3 => ?_⟩
        have w3 : L2.wipe σ2 vs = L2.wipe σ vs := by
          have idem : ∀ (l : List Nat) (σ : L2.St), (∀ i ∈ l, i ∈ vs) → L2.wipe (L2.wipe σ l) vs = L2.wipe σ vs := by
            intro l
            induction l with
            | nil => exact fun _ _ => rfl
            | cons a l ih =>
              intro σ h
              rw [L2.wipe, wipe_set (h a List.mem_cons_self)]
              exact ih σ fun i hi => h i (List.mem_cons_of_mem _ hi)
          rw [w3]
          exact idem vs σ fun _ h => h
        refine ⟨w3, F2, r2, n3.sta, ?_⟩
        have mo : ∀ {a}, OwnAt O1 σ2 a → OwnAt O1 σ a := fun {a} m => (ownAt_wipe hd).mp (by rw [← w3]; exact (ownAt_wipe hd).mpr m)
        have nO2 : ¬ OwnAt O1 σ2 Dd := fun m => nO (mo m)
        have p : Pst G W OX O1 O1 σ F1 H1 (RF G O1 σ H) Q (dcOut vs r1 (match t r2 with
          | .ok true r2 => (match kf r2 with
            | .ok y r3 => (match vf r3 with
              | .ok z r4 => (match keyOf y with
                | some k => dcGo vs g t kf vf (l.drop (i + 1)) (putR ks ys k z) r4
                | none => none)
              | _ => none)
            | _ => none)
          | .ok false r2 => dcGo vs g t kf vf (l.drop (i + 1)) (ks, ys) r2
          | _ => none)) := p
        have ext : ∀ {F3 H3 : Hp} {q : Ev}, Nx G [] O1 O1 σ2 F2 H'' σ2 F3 H3 q → Stp (fun a => OwnAt O1 σ a ∨ a = Dd) F1 (upd H1 Dd (.dK [])) F3 H3 ∧ H3 Dd = some (.dK acc) ∧ F3 Dd = none ∧ RepL G F3 ys (acc.map (·.2)) := fun {F3 H3 q} n =>
          ⟨st2.trans n.stp fun x m => .inl (.inl (mo m)), n.stp.kp _ _ hD2 nO2, (n.stp.nf _ _ hD2 nO2).trans fD2, ry2.mono n.stp.fz⟩
        have again : ∀ {F3 H3 : Hp} {q : Ev}, Nx G [] O1 O1 σ2 F2 H'' σ2 F3 H3 q → Sta G O1 F3 H3 (L2.wipe σ vs) (wipeE vs q) := fun {F3 H3 q} n => by
          rw [← w3]
          exact n.sta.wipe hd
        revert p
        cases t r2 with
        | no => exact fun p => p.elim
        | ex e q => exact fun p => p.elim
        | ok c r3 =>
          cases c with
          | false =>
            intro p b F3 H3 n eb
            cases eb
            rw [if_neg (by decide)]
            obtain ⟨a1, a2, a3, a4⟩ := ext n
            exact ⟨F3, r3, ks, ys, acc, again n, a1, a2, a3, hks, a4, Nat.le_succ_of_le ha, p⟩
          | true =>
            intro p b F3 H3 n eb
            cases eb
            rw [if_pos rfl]
            have p : Pst G W OX O1 O1 σ F1 H1 (RF G O1 σ H) Q (dcOut vs r1 (match kf r3 with
              | .ok y r3 => (match vf r3 with
                | .ok z r4 => (match keyOf y with
                  | some k => dcGo vs g t kf vf (l.drop (i + 1)) (putR ks ys k z) r4
                  | none => none)
                | _ => none)
              | _ => none)) := p
            refine ⟨F3, r3, n.sta, ?_⟩
            revert p
            cases kf r3 with
            | no => exact fun p => p.elim
            | ex e q => exact fun p => p.elim
            | ok yk r4 =>
              intro p w F4 H4 n4 rw4
              have p : Pst G W OX O1 O1 σ F1 H1 (RF G O1 σ H) Q (dcOut vs r1 (match vf r4 with
                | .ok z r4 => (match keyOf yk with
                  | some k => dcGo vs g t kf vf (l.drop (i + 1)) (putR ks ys k z) r4
                  | none => none)
                | _ => none)) := p
              refine ⟨F4, r4, n4.sta, ?_⟩
              revert p
              cases vf r4 with
              | no => exact fun p => p.elim
              | ex e q => exact fun p => p.elim
              | ok z r5 =>
                intro p w5 F5 H5 n5 rw5
                have nn := (n.trans n4).trans n5
                obtain ⟨a1, a2, a3, a4⟩ := ext nn
                have p : Pst G W OX O1 O1 σ F1 H1 (RF G O1 σ H) Q (dcOut vs r1 (match keyOf yk with
                  | some k => dcGo vs g t kf vf (l.drop (i + 1)) (putR ks ys k z) r5
                  | none => none)) := p
                revert p
                cases ek : keyOf yk with
                | none => exact fun p => p.elim
                | some k =>
                  intro p
                  refine ⟨acc, k, keyOf_rep rw4 ek, a2, ?_, ?_⟩
                  · have h1 : acc.length < l.length := Nat.lt_of_le_of_lt ha hi
                    exact Nat.lt_of_lt_of_le h1 (big_line hlen)
                  · obtain ⟨S6, st6⟩ := putD (o := .dK (putK acc k w5)) (again nn) a2 a3 (fun m => nO ((ownAt_wipe hd).mp m)) rfl
                    obtain ⟨q1, q2⟩ := put_rep (k := k) a4 rw5
                    rw [hks] at q1 q2
                    refine ⟨F5, r5, (putR ks ys k z).1, (putR ks ys k z).2, putK acc k w5, S6, a1.trans st6 fun x m => .inl (.inr m), upd_same, a3, q1, q2, Nat.le_trans (putK_len _ _ _) (Nat.succ_le_succ ha), p⟩
    rcases y with ⟨e1, rd⟩ | ⟨T, xs, ds, rfl, rfl, hT, rfl, rl'⟩
    · subst e1
      exact run F' S' st hDd fDd ry (rd.mono st.fz)
    · obtain ⟨S2, s2⟩ := new_fz (o := .tup xs) S' hT rfl
      have ne : Dd ≠ T := fun z => by rw [z, hT] at hDd; cases hDd
      exact run _ S2 (st.trans s2 fun x m => .inl (.inl ((ownAt_wipe hd).mp m))) (by rw [upd_ne ne]; exact hDd) (by rw [upd_ne ne]; exact fDd) (ry.mono s2.fz) (.tup (.inl (.inl upd_same)) ((rl'.mono st.fz).mono s2.fz))
  · rintro H' ⟨F', r', ks, ys, acc, S', st, hDd, fDd, hks, ry, ha, p⟩
    rw [List.drop_length] at p
    have p : Pst G W OX O1 O1 σ F1 H1 (RF G O1 σ H) Q (.ok (.dic ks ys) (backE r1 vs r')) := p
    refine p _ F' H' ⟨n1.sta.back S' st.fz hd, (start.2.1.trans st fun x m => ?_), fun _ _ => rfl, fun a m => .inl m⟩ ⟨.dic hDd fDd hks ry, fun a ea => ?_⟩
    · rcases m with m | m
      · exact .inl m
      · exact .inr (by rw [m]; exact hD)
    · cases ea
      exact ⟨n1.stp.tr _ hD, nO⟩
theorem e_dcF {kx vx tg iter : Expr} {ifs : List Expr} {scope : Scope} {pos : Pos} {it : M (List D)} {g : Tg} {t : M Bool} {kf vf : M D} (own : List (Str × Nat)) (hvs : own.map (·.2) = vs) (hi : PI X tg iter (iIt G W OX O O1 it)) (ok : BlkOk X.N X.env.scope scope own)
    (hg : ∀ (s : Shared) (H : Hp) (C : Addr) (cl : List (Str × Addr)) (fp : List Addr), PG (X.blk s H scope (compEnvC scope cl C X.env) fp) tg (tG G [] vs O1 O1 g)) (ht : ∀ (s : Shared) (H : Hp) (C : Addr) (cl : List (Str × Addr)) (fp : List Addr), PTs (X.blk s H scope (compEnvC scope cl C X.env) fp) ifs (tT G (fun _ _ _ _ => False) [] O1 O1 t))
    (hk : ∀ (s : Shared) (H : Hp) (C : Addr) (cl : List (Str × Addr)) (fp : List Addr), PE (X.blk s H scope (compEnvC scope cl C X.env) fp) kx (tE G (fun _ _ _ _ => False) [] O1 O1 kf))
    (he : ∀ (s : Shared) (H : Hp) (C : Addr) (cl : List (Str × Addr)) (fp : List Addr), PE (X.blk s H scope (compEnvC scope cl C X.env) fp) vx (tE G (fun _ _ _ _ => False) [] O1 O1 vf)) (hN : X.N.Nodup := by first | assumption | decide +kernel) (hd : ∀ i ∈ vs, i ∉ O1 := by decide) (hc : X.calm = true := by rfl) (hs : ∀ x, foldedSetIterable iter X.env x = pure x := by intro _; rfl) :
    PE X (.DictComp kx vx [⟨tg, iter, ifs, 0⟩] scope pos) (tF G W OX O O1 (eDc vs it g t kf vf)) :=
  (pe_dc hc hN hi ok hg ht hk he hs).imp (dc_imp hvs hd)
end
end Z

/-! displays of pairs, one behind another. -/
namespace Z
open PySem PySem.Spec PyProof.Rows L2
section
variable {G : Gm} {X : Cx} {W : WX} {OX OL vs O O1 O2 O3 : List Nat}
theorem dp_nil {pos : Pos} : PPs X pos [] [] (([] : List (M D × M D)).map fun p => (tE G W OX O O p.1, tE G W OX O O p.2)) := pps_nil
theorem dp_cons {pos : Pos} {k v : Expr} {ks : List (Option Expr)} {vs : List Expr} {f g : M D} {fs : List (M D × M D)} (hk : PE X k (tE G W OX O O f)) (hv : PE X v (tE G W OX O O g)) (hr : PPs X pos ks vs (fs.map fun p => (tE G W OX O O p.1, tE G W OX O O p.2))) :
    PPs X pos (some k :: ks) (v :: vs) (((f, g) :: fs).map fun p => (tE G W OX O O p.1, tE G W OX O O p.2)) := pps_cons hk hv hr
end
end Z

namespace Kw
open PySem PySem.Spec PyProof.Rows L2 Z
def cnm : Nat → Str
  | 0 => ("Ratio" : PySem.Str)
  | 1 => ("Span" : PySem.Str)
  | 2 => ("Step" : PySem.Str)
  | 3 => ("Book" : PySem.Str)
  | 4 => ("Pace" : PySem.Str)
  | 5 => ("Tour" : PySem.Str)
  | _ => ""
def lay : Nat → List Str
  | 0 => [("top" : PySem.Str), ("bottom" : PySem.Str)]
  | 1 => [("terms" : PySem.Str), ("names" : PySem.Str), ("is_nothing" : PySem.Str)]
  | 2 => [("time" : PySem.Str), ("place" : PySem.Str), ("axes" : PySem.Str), ("square" : PySem.Str), ("kind" : PySem.Str)]
  | 3 => [("axes" : PySem.Str), ("names" : PySem.Str), ("steps" : PySem.Str)]
  | 4 => [("parts" : PySem.Str), ("axes" : PySem.Str), ("square" : PySem.Str)]
  | 5 => [("parts" : PySem.Str), ("spots" : PySem.Str), ("age" : PySem.Str), ("step" : PySem.Str)]
  | _ => []
def flds : List Str := [("top" : PySem.Str), ("bottom" : PySem.Str), ("terms" : PySem.Str), ("names" : PySem.Str), ("is_nothing" : PySem.Str), ("time" : PySem.Str), ("place" : PySem.Str), ("axes" : PySem.Str), ("square" : PySem.Str), ("kind" : PySem.Str), ("steps" : PySem.Str), ("parts" : PySem.Str), ("spots" : PySem.Str), ("age" : PySem.Str), ("step" : PySem.Str)]
def gm (K : PySem.W.Frag) : Gm := ⟨K, fun c => He.ga K (cnm c), lay, fun _ => true, flds⟩
/-- _law_pen -/
def N0 : List Str := [("_law_script" : PySem.Str), ("_law_cell" : PySem.Str)]
theorem sc0 : FnScope N0 [("_law_script" : PySem.Str)] (defScope s0) := ⟨rfl, rfl, rfl, by decide +kernel, rfl, by decide +kernel, by decide +kernel⟩
def b__law_pen : M D := (eN pLst (aCons (eLc [1] (itL (eSl (eV 0) iNo (iSo (eK (.int 62))))) (gN 1) tY (eN pInt (aCons (eV 1) aNil))) (aCons (eK (.int 0)) (aCons (eK (.int 0)) aNil))))
def B__law_pen : Beh := mkF 1 2 b__law_pen
/-- _law_draw -/
def N1 : List Str := [("_law_pen_here" : PySem.Str), ("_law_many" : PySem.Str), ("_law_digit" : PySem.Str), ("_law_at" : PySem.Str), ("_law_cell" : PySem.Str), ("_law_great" : PySem.Str), ("_law_mixed" : PySem.Str)]
theorem sc1 : FnScope N1 [("_law_pen_here" : PySem.Str), ("_law_many" : PySem.Str)] (defScope s1) := ⟨rfl, rfl, rfl, by decide +kernel, rfl, by decide +kernel, by decide +kernel⟩
def b__law_draw : M Fl := (sSeq (sIf (tV (eB (oP pGt) (eIxO 0 (eK (.int 2))) (eK (.int 0)))) (sSeq (sAs 2 (eB (oP pMod) (eN pInt (aCons (eIxO 0 (eK (.int 2))) aNil)) (eV 1))) (sSeq (sIx 0 (eB (oP pDiv) (eN pInt (aCons (eIxO 0 (eK (.int 2))) aNil)) (eV 1)) (eK (.int 2))) (sRet (eV 2)))) sNil) (sSeq (sAs 3 (eIxO 0 (eK (.int 1)))) (sSeq (sIx 0 (eB (oP pAdd) (eV 3) (eK (.int 1))) (eK (.int 1))) (sSeq (sAs 4 (eB (oP pAdd) (eB (oP pMul) (eK (.int 71261)) (eV 3)) (eK (.int 4931)))) (sSeq (sIf (tV (eB (oP pNe) (eIxO 0 (eK (.int 0))) (eN pLst aNil))) (sAs 4 (eB (oP pIx) (eIxO 0 (eK (.int 0))) (eB (oP pMod) (eN pInt (aCons (eV 3) aNil)) (eN pLen (aCons (eIxO 0 (eK (.int 0))) aNil))))) sNil) (sSeq (sIf (tAn (tV (eB (oP pLt) (eV 3) (eN pLen (aCons (eIxO 0 (eK (.int 0))) aNil)))) (tV (eB (oP pGe) (eN pAbs (aCons (eV 4) aNil)) (eB (oP pPow) (eK (.int 10)) (eK (.int 18)))))) (sSeq (sAs 5 (eB (oP pAdd) (eB (oP pMul) (eK (.int 2)) (eB (oP pSub) (eN pAbs (aCons (eV 4) aNil)) (eB (oP pPow) (eK (.int 10)) (eK (.int 18))))) (eN pInt (aCons (eB (oP pLt) (eV 4) (eK (.int 0))) aNil)))) (sSeq (sIx 0 (eB (oP pDiv) (eN pInt (aCons (eV 5) aNil)) (eV 1)) (eK (.int 2))) (sRet (eB (oP pMod) (eN pInt (aCons (eV 5) aNil)) (eV 1))))) sNil) (sSeq (sAs 6 (eB (oP pMod) (eN pInt (aCons (eB (oP pPow) (eB (oP pAdd) (eB (oP pAdd) (eB (oP pMod) (eN pInt (aCons (eV 4) aNil)) (eK (.int 2147483563))) (eB (oP pMul) (eK (.int 83231)) (eV 3))) (eK (.int 4931))) (eK (.int 5))) aNil)) (eK (.int 2147483549)))) (sSeq (sAs 6 (eB (oP pMod) (eN pInt (aCons (eB (oP pPow) (eB (oP pAdd) (eB (oP pAdd) (eB (oP pMul) (eV 6) (eB (oP pAdd) (eB (oP pMul) (eK (.int 2)) (eV 3)) (eK (.int 2383)))) (eB (oP pMul) (eB (oP pMul) (eK (.int 71261)) (eV 3)) (eV 3))) (eK (.int 83231))) (eK (.int 3))) aNil)) (eK (.int 2147483579)))) (sRet (eB (oP pMod) (eN pInt (aCons (eB (oP pDiv) (eV 6) (eK (.int 64))) aNil)) (eV 1)))))))))))
def B__law_draw : Beh := mkB 2 7 [0] b__law_draw
/-- _law_pick -/
def N2 : List Str := [("_law_pen_here" : PySem.Str), ("_law_some" : PySem.Str)]
theorem sc2 : FnScope N2 [("_law_pen_here" : PySem.Str), ("_law_some" : PySem.Str)] (defScope s2) := ⟨rfl, rfl, rfl, by decide +kernel, rfl, by decide +kernel, by decide +kernel⟩
def b__law_pick : M Fl := (sRet (eB (oP pIx) (eV 1) (eCo B__law_draw 0 (aCons (eN pLen (aCons (eV 1) aNil)) aNil))))
def B__law_pick : Beh := mkB 2 2 [0] b__law_pick
/-- is_integer -/
def N3 : List Str := [("value" : PySem.Str)]
theorem sc3 : FnScope N3 [("value" : PySem.Str)] (defScope s3) := ⟨rfl, rfl, rfl, by decide +kernel, rfl, by decide +kernel, by decide +kernel⟩
def b_is_integer : M Fl := (sRet (eAnd (eIsi (kT [] "int") (eV 0)) (eNot (eIsi (kT [] "bool") (eV 0)))))
def B_is_integer : Beh := mkB 1 1 [] b_is_integer
/-- Ratio.__init__ -/
def N4 : List Str := [("self" : PySem.Str), ("top" : PySem.Str), ("bottom" : PySem.Str), ("common" : PySem.Str)]
theorem sc4 : FnScope N4 [("self" : PySem.Str), ("top" : PySem.Str), ("bottom" : PySem.Str)] (defScope s4) := ⟨rfl, rfl, rfl, by decide +kernel, rfl, by decide +kernel, by decide +kernel⟩
def b_Ratio___init__ : M Fl := (sSeq (sIf (tNo (tV (eCd B_is_integer [] (aCons (eV 1) aNil)))) sNo sNil) (sSeq (sIf (tOn (tNo (tV (eCd B_is_integer [] (aCons (eV 2) aNil)))) (tV (eB (oP pEq) (eV 2) (eK (.int 0))))) sNo sNil) (sSeq (sAs 3 (eIf (tV (eB (oP pGt) (eV 2) (eK (.int 0)))) (eN pGcd (aCons (eV 1) (aCons (eV 2) aNil))) (eU (oU pNeg) (eN pGcd (aCons (eV 1) (aCons (eV 2) aNil)))))) (sSeq (sFl 0 [(0, 0)] (eB (oP pDiv) (eV 1) (eV 3))) (sFl 0 [(0, 1)] (eB (oP pDiv) (eV 2) (eV 3)))))))
def B_Ratio___init__ : Beh := mkB 3 4 [0] b_Ratio___init__
/-- ratio_from -/
def N5 : List Str := [("value" : PySem.Str), ("part" : PySem.Str)]
theorem sc5 : FnScope N5 [("value" : PySem.Str), ("part" : PySem.Str)] (defScope s5) := ⟨rfl, rfl, rfl, by decide +kernel, rfl, by decide +kernel, by decide +kernel⟩
def b_ratio_from : M Fl := (sSeq (sIf (tV (eIsi (kO [(0, true)]) (eV 0))) (sRet (eV 0)) sNil) (sSeq (sIf (tNo (tV (eCd B_is_integer [] (aCons (eV 0) aNil)))) sNo sNil) (sRet (eNd 0 B_Ratio___init__ [.int (1)] (aCons (eV 0) aNil)))))
def B_ratio_from : Beh := mkB 2 2 [] b_ratio_from
/-- Ratio.__mul__ -/
def N6 : List Str := [("self" : PySem.Str), ("other" : PySem.Str), ("times" : PySem.Str)]
theorem sc6 : FnScope N6 [("self" : PySem.Str), ("other" : PySem.Str)] (defScope s6) := ⟨rfl, rfl, rfl, by decide +kernel, rfl, by decide +kernel, by decide +kernel⟩
def b_Ratio___mul__ : M Fl := (sSeq (sAs 2 (eCd B_ratio_from [] (aCons (eV 1) (aCons (eK (.str "other")) aNil)))) (sRet (eNd 0 B_Ratio___init__ [] (aCons (eB (oP pMul) (eFl [(0, 0)] (eV 0)) (eFl [(0, 0)] (eV 2))) (aCons (eB (oP pMul) (eFl [(0, 1)] (eV 0)) (eFl [(0, 1)] (eV 2))) aNil)))))
def B_Ratio___mul__ : Beh := mkB 2 3 [] b_Ratio___mul__
/-- Ratio.__add__ -/
def N7 : List Str := [("self" : PySem.Str), ("other" : PySem.Str), ("more" : PySem.Str)]
theorem sc7 : FnScope N7 [("self" : PySem.Str), ("other" : PySem.Str)] (defScope s7) := ⟨rfl, rfl, rfl, by decide +kernel, rfl, by decide +kernel, by decide +kernel⟩
def b_Ratio___add__ : M Fl := (sSeq (sAs 2 (eCd B_ratio_from [] (aCons (eV 1) (aCons (eK (.str "other")) aNil)))) (sRet (eNd 0 B_Ratio___init__ [] (aCons (eB (oP pAdd) (eB (oP pMul) (eFl [(0, 0)] (eV 0)) (eFl [(0, 1)] (eV 2))) (eB (oP pMul) (eFl [(0, 0)] (eV 2)) (eFl [(0, 1)] (eV 0)))) (aCons (eB (oP pMul) (eFl [(0, 1)] (eV 0)) (eFl [(0, 1)] (eV 2))) aNil)))))
def B_Ratio___add__ : Beh := mkB 2 3 [] b_Ratio___add__
/-- is_ratio -/
def N8 : List Str := [("value" : PySem.Str)]
theorem sc8 : FnScope N8 [("value" : PySem.Str)] (defScope s8) := ⟨rfl, rfl, rfl, by decide +kernel, rfl, by decide +kernel, by decide +kernel⟩
def b_is_ratio : M Fl := (sRet (eOr (eIsi (kO [(0, true)]) (eV 0)) (eCd B_is_integer [] (aCons (eV 0) aNil))))
def B_is_ratio : Beh := mkB 1 1 [] b_is_ratio
/-- Ratio.sign -/
def N9 : List Str := [("self" : PySem.Str)]
theorem sc9 : FnScope N9 [("self" : PySem.Str)] (defScope s9) := ⟨rfl, rfl, rfl, by decide +kernel, rfl, by decide +kernel, by decide +kernel⟩
def b_Ratio_sign : M Fl := (sRet (eB (oP pSub) (eN pInt (aCons (eB (oP pGt) (eFl [(0, 0)] (eV 0)) (eK (.int 0))) aNil)) (eN pInt (aCons (eB (oP pLt) (eFl [(0, 0)] (eV 0)) (eK (.int 0))) aNil))))
def B_Ratio_sign : Beh := mkB 1 1 [] b_Ratio_sign
/-- Ratio.of -/
def N10 : List Str := [("value" : PySem.Str)]
theorem sc10 : FnScope N10 [("value" : PySem.Str)] (defScope s10) := ⟨rfl, rfl, rfl, by decide +kernel, rfl, by decide +kernel, by decide +kernel⟩
def b_Ratio_of : M Fl := (sRet (eCd B_ratio_from [] (aCons (eV 0) (aCons (eK (.str "value")) aNil))))
def B_Ratio_of : Beh := mkB 1 1 [] b_Ratio_of
/-- need_beats -/
def N11 : List Str := [("k" : PySem.Str), ("other" : PySem.Str), ("beats" : PySem.Str)]
theorem sc11 : FnScope N11 [("k" : PySem.Str), ("other" : PySem.Str), ("beats" : PySem.Str)] (defScope s11) := ⟨rfl, rfl, rfl, by decide +kernel, rfl, by decide +kernel, by decide +kernel⟩
def b_need_beats : M Fl := (sSeq (sIf (tOn (tNo (tV (eCd B_is_ratio [] (aCons (eV 0) aNil)))) (tV (eB (oP pLt) (ePr [(0, B_Ratio_sign)] (eCd B_Ratio_of [] (aCons (eV 0) aNil))) (eK (.int 1))))) sNo sNil) (sSeq (sIf (tOn (tNo (tV (eCd B_is_ratio [] (aCons (eV 1) aNil)))) (tV (eB (oP pLt) (ePr [(0, B_Ratio_sign)] (eCd B_Ratio_of [] (aCons (eV 1) aNil))) (eK (.int 1))))) sNo sNil) (sIf (tOn (tNo (tV (eCd B_is_ratio [] (aCons (eV 2) aNil)))) (tV (eB (oP pLt) (ePr [(0, B_Ratio_sign)] (eCd B_Ratio_of [] (aCons (eV 2) aNil))) (eK (.int 0))))) sNo sNil)))
def B_need_beats : Beh := mkB 3 3 [] b_need_beats
/-- Ratio.over -/
def N12 : List Str := [("self" : PySem.Str), ("other" : PySem.Str), ("under" : PySem.Str)]
theorem sc12 : FnScope N12 [("self" : PySem.Str), ("other" : PySem.Str)] (defScope s12) := ⟨rfl, rfl, rfl, by decide +kernel, rfl, by decide +kernel, by decide +kernel⟩
def b_Ratio_over : M Fl := (sSeq (sAs 2 (eCd B_ratio_from [] (aCons (eV 1) (aCons (eK (.str "other")) aNil)))) (sSeq (sIf (tV (eB (oP pEq) (eFl [(0, 0)] (eV 2)) (eK (.int 0)))) sNo sNil) (sRet (eNd 0 B_Ratio___init__ [] (aCons (eB (oP pMul) (eFl [(0, 0)] (eV 0)) (eFl [(0, 1)] (eV 2))) (aCons (eB (oP pMul) (eFl [(0, 1)] (eV 0)) (eFl [(0, 0)] (eV 2))) aNil))))))
def B_Ratio_over : Beh := mkB 2 3 [] b_Ratio_over
/-- Ratio.__neg__ -/
def N13 : List Str := [("self" : PySem.Str)]
theorem sc13 : FnScope N13 [("self" : PySem.Str)] (defScope s13) := ⟨rfl, rfl, rfl, by decide +kernel, rfl, by decide +kernel, by decide +kernel⟩
def b_Ratio___neg__ : M Fl := (sRet (eNd 0 B_Ratio___init__ [] (aCons (eU (oU pNeg) (eFl [(0, 0)] (eV 0))) (aCons (eFl [(0, 1)] (eV 0)) aNil))))
def B_Ratio___neg__ : Beh := mkB 1 1 [] b_Ratio___neg__
/-- Ratio.__sub__ -/
def N14 : List Str := [("self" : PySem.Str), ("other" : PySem.Str)]
theorem sc14 : FnScope N14 [("self" : PySem.Str), ("other" : PySem.Str)] (defScope s14) := ⟨rfl, rfl, rfl, by decide +kernel, rfl, by decide +kernel, by decide +kernel⟩
def b_Ratio___sub__ : M Fl := (sRet (eB (oW [(0, B_Ratio___add__)] ["int"] [0] pAdd) (eV 0) (eU (oC1 [(0, B_Ratio___neg__)] pNeg) (eCd B_ratio_from [] (aCons (eV 1) (aCons (eK (.str "other")) aNil))))))
def B_Ratio___sub__ : Beh := mkB 2 2 [] b_Ratio___sub__
/-- Ratio.is_below -/
def N15 : List Str := [("self" : PySem.Str), ("other" : PySem.Str)]
theorem sc15 : FnScope N15 [("self" : PySem.Str), ("other" : PySem.Str)] (defScope s15) := ⟨rfl, rfl, rfl, by decide +kernel, rfl, by decide +kernel, by decide +kernel⟩
def b_Ratio_is_below : M Fl := (sRet (eB (oP pLt) (ePr [(0, B_Ratio_sign)] (eB (oW [(0, B_Ratio___sub__)] ["int"] [0] pSub) (eV 0) (eCd B_ratio_from [] (aCons (eV 1) (aCons (eK (.str "other")) aNil))))) (eK (.int 0))))
def B_Ratio_is_below : Beh := mkB 2 2 [] b_Ratio_is_below
/-- echo_beats -/
def N16 : List Str := [("k" : PySem.Str), ("other" : PySem.Str), ("beats" : PySem.Str), ("ratio" : PySem.Str)]
theorem sc16 : FnScope N16 [("k" : PySem.Str), ("other" : PySem.Str), ("beats" : PySem.Str)] (defScope s16) := ⟨rfl, rfl, rfl, by decide +kernel, rfl, by decide +kernel, by decide +kernel⟩
def b_echo_beats : M Fl := (sSeq (sEx (eCd B_need_beats [] (aCons (eV 0) (aCons (eV 1) (aCons (eV 2) aNil))))) (sSeq (sAs 3 (eMd [(0, B_Ratio_over)] [] (eCd B_Ratio_of [] (aCons (eV 1) aNil)) (aCons (eV 0) aNil))) (sSeq (sAs 3 (eIf (tV (eMd [(0, B_Ratio_is_below)] [] (eV 3) (aCons (eK (.int 1)) aNil))) (eMd [(0, B_Ratio_over)] [] (eNd 0 B_Ratio___init__ [.int (1)] (aCons (eK (.int 1)) aNil)) (aCons (eV 3) aNil)) (eV 3))) (sRet (eB (oW [(0, B_Ratio___mul__)] ["int"] [0] pMul) (eB (oW [(0, B_Ratio___mul__)] ["int"] [0] pMul) (eCd B_Ratio_of [] (aCons (eV 2) aNil)) (eV 3)) (eV 3))))))
def B_echo_beats : Beh := mkB 3 4 [] b_echo_beats
/-- middle_beats -/
def N17 : List Str := [("k" : PySem.Str), ("other" : PySem.Str), ("beats" : PySem.Str)]
theorem sc17 : FnScope N17 [("k" : PySem.Str), ("other" : PySem.Str), ("beats" : PySem.Str)] (defScope s17) := ⟨rfl, rfl, rfl, by decide +kernel, rfl, by decide +kernel, by decide +kernel⟩
def b_middle_beats : M Fl := (sRet (eB (oW [(0, B_Ratio___mul__)] ["int"] [0] pMul) (eB (oW [(0, B_Ratio___add__)] ["int"] [0] pAdd) (eCd B_echo_beats [] (aCons (eV 0) (aCons (eV 1) (aCons (eV 2) aNil)))) (eV 2)) (eNd 0 B_Ratio___init__ [] (aCons (eK (.int 1)) (aCons (eK (.int 2)) aNil)))))
def B_middle_beats : Beh := mkB 3 3 [] b_middle_beats
/-- Ratio.__eq__ -/
def N18 : List Str := [("self" : PySem.Str), ("other" : PySem.Str)]
theorem sc18 : FnScope N18 [("self" : PySem.Str), ("other" : PySem.Str)] (defScope s18) := ⟨rfl, rfl, rfl, by decide +kernel, rfl, by decide +kernel, by decide +kernel⟩
def b_Ratio___eq__ : M Fl := (sSeq (sIf (tV (eIsi (kO [(0, true)]) (eV 1))) (sRet (eAnd (eB (oP pEq) (eFl [(0, 0)] (eV 0)) (eFl [(0, 0)] (eV 1))) (eB (oP pEq) (eFl [(0, 1)] (eV 0)) (eFl [(0, 1)] (eV 1))))) sNil) (sRet (eAnd (eCd B_is_integer [] (aCons (eV 1) aNil)) (eAnd (eB (oP pEq) (eFl [(0, 1)] (eV 0)) (eK (.int 1))) (eB (oP pEq) (eFl [(0, 0)] (eV 0)) (eV 1))))))
def B_Ratio___eq__ : Beh := mkB 2 2 [] b_Ratio___eq__
/-- beats_left -/
def N19 : List Str := [("k" : PySem.Str), ("other" : PySem.Str), ("beats" : PySem.Str)]
theorem sc19 : FnScope N19 [("k" : PySem.Str), ("other" : PySem.Str), ("beats" : PySem.Str)] (defScope s19) := ⟨rfl, rfl, rfl, by decide +kernel, rfl, by decide +kernel, by decide +kernel⟩
def b_beats_left : M Fl := (sSeq (sEx (eCd B_need_beats [] (aCons (eV 0) (aCons (eV 1) (aCons (eV 2) aNil))))) (sRet (eB (oW [(0, B_Ratio___mul__)] ["int"] [0] pMul) (eB (oW [(0, B_Ratio___mul__)] ["int"] [0] pMul) (eCd B_Ratio_of [] (aCons (eV 2) aNil)) (eV 0)) (eMd [(0, B_Ratio_over)] [] (eNd 0 B_Ratio___init__ [.int (1)] (aCons (eK (.int 1)) aNil)) (aCons (eV 1) aNil)))))
def B_beats_left : Beh := mkB 3 3 [] b_beats_left
/-- beats_right -/
def N20 : List Str := [("k" : PySem.Str), ("other" : PySem.Str), ("beats" : PySem.Str)]
theorem sc20 : FnScope N20 [("k" : PySem.Str), ("other" : PySem.Str), ("beats" : PySem.Str)] (defScope s20) := ⟨rfl, rfl, rfl, by decide +kernel, rfl, by decide +kernel, by decide +kernel⟩
def b_beats_right : M Fl := (sSeq (sEx (eCd B_need_beats [] (aCons (eV 0) (aCons (eV 1) (aCons (eV 2) aNil))))) (sRet (eB (oW [(0, B_Ratio___mul__)] ["int"] [0] pMul) (eB (oW [(0, B_Ratio___mul__)] ["int"] [0] pMul) (eCd B_Ratio_of [] (aCons (eV 2) aNil)) (eV 1)) (eMd [(0, B_Ratio_over)] [] (eNd 0 B_Ratio___init__ [.int (1)] (aCons (eK (.int 1)) aNil)) (aCons (eV 0) aNil)))))
def B_beats_right : Beh := mkB 3 3 [] b_beats_right
/-- _law_sums_right -/
def N21 : List Str := [("_law_k" : PySem.Str), ("_law_other" : PySem.Str), ("_law_beats" : PySem.Str), ("_law_first" : PySem.Str), ("_law_second" : PySem.Str), ("_law_some" : PySem.Str), ("_law_right" : PySem.Str), ("_law_left" : PySem.Str), ("_law_is_right" : PySem.Str), ("_law_due" : PySem.Str), ("_law_middle" : PySem.Str), ("_law_one" : PySem.Str)]
theorem sc21 : FnScope N21 [("_law_k" : PySem.Str), ("_law_other" : PySem.Str), ("_law_beats" : PySem.Str)] (defScope s21) := ⟨rfl, rfl, rfl, by decide +kernel, rfl, by decide +kernel, by decide +kernel⟩
def b__law_sums_right : M Fl := (sSeq (sPar [gN 3, gN 4, gN 5] (aCons (eNd 0 B_Ratio___init__ [] (aCons (eB (oP pIx) (eV 0) (eK (.int 0))) (aCons (eB (oP pIx) (eV 0) (eK (.int 1))) aNil))) (aCons (eNd 0 B_Ratio___init__ [] (aCons (eB (oP pIx) (eV 1) (eK (.int 0))) (aCons (eB (oP pIx) (eV 1) (eK (.int 1))) aNil))) (aCons (eNd 0 B_Ratio___init__ [] (aCons (eB (oP pIx) (eV 2) (eK (.int 0))) (aCons (eB (oP pIx) (eV 2) (eK (.int 1))) aNil))) aNil)))) (sSeq (sAs 6 (eNd 0 B_Ratio___init__ [] (aCons (eB (oW [(0, B_Ratio___mul__)] ["int"] [0] pMul) (eB (oW [(0, B_Ratio___mul__)] ["int"] [0] pMul) (eB (oP pIx) (eV 2) (eK (.int 0))) (eB (oP pIx) (eV 1) (eK (.int 0)))) (eB (oP pIx) (eV 0) (eK (.int 1)))) (aCons (eB (oW [(0, B_Ratio___mul__)] ["int"] [0] pMul) (eB (oW [(0, B_Ratio___mul__)] ["int"] [0] pMul) (eB (oP pIx) (eV 2) (eK (.int 1))) (eB (oP pIx) (eV 1) (eK (.int 1)))) (eB (oP pIx) (eV 0) (eK (.int 0)))) aNil)))) (sSeq (sAs 7 (eNd 0 B_Ratio___init__ [] (aCons (eB (oW [(0, B_Ratio___mul__)] ["int"] [0] pMul) (eB (oW [(0, B_Ratio___mul__)] ["int"] [0] pMul) (eB (oP pIx) (eV 2) (eK (.int 0))) (eB (oP pIx) (eV 0) (eK (.int 0)))) (eB (oP pIx) (eV 1) (eK (.int 1)))) (aCons (eB (oW [(0, B_Ratio___mul__)] ["int"] [0] pMul) (eB (oW [(0, B_Ratio___mul__)] ["int"] [0] pMul) (eB (oP pIx) (eV 2) (eK (.int 1))) (eB (oP pIx) (eV 0) (eK (.int 1)))) (eB (oP pIx) (eV 1) (eK (.int 0)))) aNil)))) (sSeq (sIf (tOn (tV (eB (oNW [(0, B_Ratio___eq__)] ["int"] [0] pNe) (eCk B_beats_right 0 3 [2, 1, 0] [] aNil (aCons (eV 5) (aCons (eV 4) (aCons (eV 3) aNil)))) (eV 6))) (tV (eB (oNW [(0, B_Ratio___eq__)] ["int"] [0] pNe) (eCk B_beats_left 0 3 [0, 1, 2] [] aNil (aCons (eV 3) (aCons (eV 4) (aCons (eV 5) aNil)))) (eV 7)))) (sRet (eK (.bl false))) sNil) (sSeq (sIf (tOn (tV (eB (oNW [(0, B_Ratio___eq__)] ["int"] [0] pNe) (eCd B_beats_right [] (aCons (eV 4) (aCons (eV 3) (aCons (eV 6) aNil)))) (eV 5))) (tOn (tV (eB (oNW [(0, B_Ratio___eq__)] ["int"] [0] pNe) (eCd B_beats_left [] (aCons (eV 4) (aCons (eV 3) (aCons (eV 7) aNil)))) (eV 5))) (tV (eB (oNW [(0, B_Ratio___eq__)] ["int"] [0] pNe) (eCd B_beats_left [] (aCons (eV 4) (aCons (eV 3) (aCons (eV 5) aNil)))) (eV 6))))) (sRet (eK (.bl false))) sNil) (sSeq (sAs 8 (eB (oP pLe) (eB (oW [(0, B_Ratio___mul__)] ["int"] [0] pMul) (eB (oP pIx) (eV 0) (eK (.int 0))) (eB (oP pIx) (eV 1) (eK (.int 1)))) (eB (oW [(0, B_Ratio___mul__)] ["int"] [0] pMul) (eB (oP pIx) (eV 1) (eK (.int 0))) (eB (oP pIx) (eV 0) (eK (.int 1)))))) (sSeq (sAs 9 (eIf (tV (eV 8)) (eCd B_beats_left [] (aCons (eV 4) (aCons (eV 3) (aCons (eV 6) aNil)))) (eCd B_beats_right [] (aCons (eV 4) (aCons (eV 3) (aCons (eV 7) aNil)))))) (sSeq (sIf (tOn (tV (eB (oNW [(0, B_Ratio___eq__)] ["int"] [0] pNe) (eCd B_echo_beats [] (aCons (eV 3) (aCons (eV 4) (aCons (eV 5) aNil)))) (eV 9))) (tOn (tV (eB (oNW [(0, B_Ratio___eq__)] ["int"] [0] pNe) (eCd B_echo_beats [] (aCons (eV 4) (aCons (eV 3) (aCons (eV 5) aNil)))) (eV 9))) (tV (eMd [(0, B_Ratio_is_below)] [] (eV 9) (aCons (eV 5) aNil))))) (sRet (eK (.bl false))) sNil) (sSeq (sAs 10 (eCk B_middle_beats 0 3 [2, 0, 1] [] aNil (aCons (eV 4) (aCons (eV 5) (aCons (eV 3) aNil))))) (sSeq (sIf (tV (eB (oNW [(0, B_Ratio___eq__)] ["int"] [0] pNe) (eLc [11] (itL (eN pTup (aCons (eCd B_beats_right [] (aCons (eK (.int 2)) (aCons (eK (.int 1)) (aCons (eK (.int 4)) aNil)))) (aCons (eCd B_beats_left [] (aCons (eK (.int 1)) (aCons (eK (.int 2)) (aCons (eK (.int 4)) aNil)))) (aCons (eCd B_echo_beats [] (aCons (eK (.int 1)) (aCons (eK (.int 1)) (aCons (eK (.int 3)) aNil)))) (aCons (eV 10) aNil)))))) (gN 11) (tNo (tV (eIsi (kO [(0, true)]) (eV 11)))) (eV 11)) (eN pLst aNil))) (sRet (eK (.bl false))) sNil) (sRet (eAnd (eB (oET [(0, B_Ratio___eq__)] ["int"] [0]) (eB (oW [(0, B_Ratio___mul__)] ["int"] [0] pMul) (eV 10) (eK (.int 2))) (eB (oW [(0, B_Ratio___add__)] ["int"] [0] pAdd) (eV 9) (eV 5))) (eB (oET [(0, B_Ratio___eq__)] ["int"] [0]) (eCk B_echo_beats 0 3 [0, 2, 1] [] aNil (aCons (eV 3) (aCons (eB (oW [(0, B_Ratio___mul__)] ["int"] [0] pMul) (eV 5) (eK (.int 2))) (aCons (eV 4) aNil)))) (eB (oW [(0, B_Ratio___mul__)] ["int"] [0] pMul) (eV 9) (eK (.int 2))))))))))))))))
def B__law_sums_right : Beh := mkB 3 12 [] b__law_sums_right
/-- is_listed -/
def N22 : List Str := [("value" : PySem.Str)]
theorem sc22 : FnScope N22 [("value" : PySem.Str)] (defScope s22) := ⟨rfl, rfl, rfl, by decide +kernel, rfl, by decide +kernel, by decide +kernel⟩
def b_is_listed : M Fl := (sRet (eIsi (kAny [(kT [] "list"), (kT [] "tuple")]) (eV 0)))
def B_is_listed : Beh := mkB 1 1 [] b_is_listed
/-- are_ratios -/
def N23 : List Str := [("value" : PySem.Str), ("each" : PySem.Str)]
theorem sc23 : FnScope N23 [("value" : PySem.Str)] (defScope s23) := ⟨rfl, rfl, rfl, by decide +kernel, rfl, by decide +kernel, by decide +kernel⟩
def b_are_ratios : M Fl := (sRet (eAnd (eCd B_is_listed [] (aCons (eV 0) aNil)) (eN pAll (aCons (eLc [1] (itL (eV 0)) (gN 1) tY (eCd B_is_ratio [] (aCons (eV 1) aNil))) aNil))))
def B_are_ratios : Beh := mkB 1 2 [] b_are_ratios
/-- summed -/
def N24 : List Str := [("ratios" : PySem.Str), ("total" : PySem.Str), ("each" : PySem.Str)]
theorem sc24 : FnScope N24 [("ratios" : PySem.Str)] (defScope s24) := ⟨rfl, rfl, rfl, by decide +kernel, rfl, by decide +kernel, by decide +kernel⟩
def b_summed : M Fl := (sSeq (sIf (tNo (tV (eCd B_are_ratios [] (aCons (eV 0) aNil)))) sNo sNil) (sSeq (sAs 1 (eNd 0 B_Ratio___init__ [.int (1)] (aCons (eK (.int 0)) aNil))) (sSeq (sFor (itL (eV 0)) (gN 2) (sAs 1 (eB (oW [(0, B_Ratio___add__)] ["int"] [0] pAdd) (eV 1) (eV 2)))) (sRet (eV 1)))))
def B_summed : Beh := mkB 1 3 [] b_summed
/-- product_at -/
def N25 : List Str := [("one" : PySem.Str), ("other" : PySem.Str), ("mine" : PySem.Str), ("its" : PySem.Str)]
theorem sc25 : FnScope N25 [("one" : PySem.Str), ("other" : PySem.Str)] (defScope s25) := ⟨rfl, rfl, rfl, by decide +kernel, rfl, by decide +kernel, by decide +kernel⟩
def b_product_at : M Fl := (sRet (eB (oW [(0, B_Ratio___sub__)] ["int"] [0] pSub) (eB (oW [(0, B_Ratio___mul__)] ["int"] [0] pMul) (eFl [(2, 0)] (eV 0)) (eFl [(2, 0)] (eV 1))) (eCd B_summed [] (aCons (eLc [2, 3] (itN pZip (aCons (eFl [(2, 1)] (eV 0)) (aCons (eFl [(2, 1)] (eV 1)) aNil))) (gT [(gN 2), (gN 3)]) tY (eB (oW [(0, B_Ratio___mul__)] ["int"] [0] pMul) (eV 2) (eV 3))) aNil))))
def B_product_at : Beh := mkB 2 4 [] b_product_at
/-- kind_by -/
def N26 : List Str := [("time" : PySem.Str), ("square" : PySem.Str)]
theorem sc26 : FnScope N26 [("time" : PySem.Str), ("square" : PySem.Str)] (defScope s26) := ⟨rfl, rfl, rfl, by decide +kernel, rfl, by decide +kernel, by decide +kernel⟩
def b_kind_by : M Fl := (sSeq (sIf (tV (eB (oP pLt) (ePr [(0, B_Ratio_sign)] (eV 1)) (eK (.int 0)))) (sRet (eK (.str "apart"))) sNil) (sSeq (sIf (tV (eB (oP pEq) (ePr [(0, B_Ratio_sign)] (eV 0)) (eK (.int 0)))) (sRet (eK (.str "nothing"))) sNil) (sRet (eIf (tV (eB (oP pGt) (ePr [(0, B_Ratio_sign)] (eV 0)) (eK (.int 0)))) (eK (.str "forward")) (eK (.str "backward"))))))
def B_kind_by : Beh := mkB 2 2 [] b_kind_by
/-- Step.__init__ -/
def N27 : List Str := [("self" : PySem.Str), ("time" : PySem.Str), ("place" : PySem.Str), ("each" : PySem.Str)]
theorem sc27 : FnScope N27 [("self" : PySem.Str), ("time" : PySem.Str), ("place" : PySem.Str)] (defScope s27) := ⟨rfl, rfl, rfl, by decide +kernel, rfl, by decide +kernel, by decide +kernel⟩
def b_Step___init__ : M Fl := (sSeq (sIf (tNo (tV (eCd B_is_ratio [] (aCons (eV 1) aNil)))) sNo sNil) (sSeq (sIf (tOn (tNo (tV (eCd B_are_ratios [] (aCons (eV 2) aNil)))) (tNo (tV (eChain (oP pLe) (oP pLe) (eK (.int 1)) (eN pLen (aCons (eV 2) aNil)) (eK (.int (3))))))) sNo sNil) (sSeq (sFl 0 [(2, 0)] (eCd B_Ratio_of [] (aCons (eV 1) aNil))) (sSeq (sFl 0 [(2, 1)] (eN pTuple (aCons (eLc [3] (itL (eV 2)) (gN 3) tY (eCd B_Ratio_of [] (aCons (eV 3) aNil))) aNil))) (sSeq (sFl 0 [(2, 2)] (eN pLen (aCons (eFl [(2, 1)] (eS (fun _ => true) 0)) aNil))) (sSeq (sFl 0 [(2, 3)] (eCd B_product_at [] (aCons (eS (fun _ => true) 0) (aCons (eS (fun _ => true) 0) aNil)))) (sFl 0 [(2, 4)] (eCd B_kind_by [] (aCons (eFl [(2, 0)] (eS (fun _ => true) 0)) (aCons (eFl [(2, 3), (4, 2)] (eS (fun _ => true) 0)) aNil))))))))))
def B_Step___init__ : Beh := mkB 3 4 [0] b_Step___init__
/-- lights_along -/
def N28 : List Str := [("parts" : PySem.Str), ("found" : PySem.Str), ("ratio" : PySem.Str), ("beats" : PySem.Str), ("age" : PySem.Str), ("right" : PySem.Str), ("left" : PySem.Str)]
theorem sc28 : FnScope N28 [("parts" : PySem.Str)] (defScope s28) := ⟨rfl, rfl, rfl, by decide +kernel, rfl, by decide +kernel, by decide +kernel⟩
def b_lights_along : M Fl := (sSeq (sAsF 1 (eN pLst (aCons (eN pTup (aCons (eNd 0 B_Ratio___init__ [.int (1)] (aCons (eK (.int 0)) aNil)) (aCons (eNd 0 B_Ratio___init__ [.int (1)] (aCons (eK (.int 0)) aNil)) (aCons (eNd 0 B_Ratio___init__ [.int (1)] (aCons (eK (.int 0)) aNil)) aNil)))) aNil))) (sSeq (sFor (itL (eV 0)) (gT [(gN 2), (gN 3)]) (sSeq (sTg (gT [(gN 4), (gN 5), (gN 6)]) (eIxO 1 (eU (oU pNeg) (eK (.int 1))))) (sApp 1 (eN pTup (aCons (eB (oW [(0, B_Ratio___add__)] ["int"] [0] pAdd) (eV 4) (eV 3)) (aCons (eB (oW [(0, B_Ratio___add__)] ["int"] [0] pAdd) (eV 5) (eMd [(0, B_Ratio_over)] [] (eV 3) (aCons (eV 2) aNil))) (aCons (eB (oW [(0, B_Ratio___add__)] ["int"] [0] pAdd) (eV 6) (eB (oW [(0, B_Ratio___mul__)] ["int"] [0] pMul) (eV 3) (eV 2))) aNil))))))) (sRet (eV 1))))
def B_lights_along : Beh := mkB 1 7 [] b_lights_along
/-- lit_spot -/
def N29 : List Str := [("right" : PySem.Str), ("left" : PySem.Str), ("half" : PySem.Str)]
theorem sc29 : FnScope N29 [("right" : PySem.Str), ("left" : PySem.Str)] (defScope s29) := ⟨rfl, rfl, rfl, by decide +kernel, rfl, by decide +kernel, by decide +kernel⟩
def b_lit_spot : M Fl := (sSeq (sAs 2 (eNd 0 B_Ratio___init__ [] (aCons (eK (.int 1)) (aCons (eK (.int 2)) aNil)))) (sRet (eNd 2 B_Step___init__ [] (aCons (eB (oW [(0, B_Ratio___mul__)] ["int"] [0] pMul) (eB (oW [(0, B_Ratio___add__)] ["int"] [0] pAdd) (eV 0) (eV 1)) (eV 2)) (aCons (eN pLst (aCons (eB (oW [(0, B_Ratio___mul__)] ["int"] [0] pMul) (eB (oW [(0, B_Ratio___sub__)] ["int"] [0] pSub) (eV 1) (eV 0)) (eV 2)) aNil)) aNil)))))
def B_lit_spot : Beh := mkB 2 3 [] b_lit_spot
/-- is_part -/
def N30 : List Str := [("value" : PySem.Str), ("one" : PySem.Str)]
theorem sc30 : FnScope N30 [("value" : PySem.Str)] (defScope s30) := ⟨rfl, rfl, rfl, by decide +kernel, rfl, by decide +kernel, by decide +kernel⟩
def b_is_part : M Fl := (sRet (eAnd (eCd B_is_listed [] (aCons (eV 0) aNil)) (eAnd (eB (oP pEq) (eN pLen (aCons (eV 0) aNil)) (eK (.int 2))) (eN pAll (aCons (eLc [1] (itL (eV 0)) (gN 1) tY (eAnd (eCd B_is_ratio [] (aCons (eV 1) aNil)) (eB (oP pGt) (ePr [(0, B_Ratio_sign)] (eCd B_Ratio_of [] (aCons (eV 1) aNil))) (eK (.int 0))))) aNil)))))
def B_is_part : Beh := mkB 1 2 [] b_is_part
/-- Tour.__init__ -/
def N31 : List Str := [("self" : PySem.Str), ("parts" : PySem.Str), ("lights" : PySem.Str), ("one" : PySem.Str), ("age" : PySem.Str), ("right" : PySem.Str), ("left" : PySem.Str)]
theorem sc31 : FnScope N31 [("self" : PySem.Str), ("parts" : PySem.Str)] (defScope s31) := ⟨rfl, rfl, rfl, by decide +kernel, rfl, by decide +kernel, by decide +kernel⟩
def b_Tour___init__ : M Fl := (sSeq (sIf (tOn (tNo (tV (eCd B_is_listed [] (aCons (eV 1) aNil)))) (tOn (tV (eB (oP pEq) (eN pLen (aCons (eV 1) aNil)) (eK (.int 0)))) (tNo (tV (eN pAll (aCons (eLc [3] (itL (eV 1)) (gN 3) tY (eCd B_is_part [] (aCons (eV 3) aNil))) aNil)))))) sNo sNil) (sSeq (sIf (tV (eB (oP pGt) (eN pLen (aCons (eV 1) aNil)) (eK (.int (12))))) sNo sNil) (sSeq (sFl 0 [(5, 0)] (eN pTuple (aCons (eLc [3] (itL (eV 1)) (gN 3) tY (eN pTup (aCons (eCd B_Ratio_of [] (aCons (eB (oP pIx) (eV 3) (eK (.int 0))) aNil)) (aCons (eCd B_Ratio_of [] (aCons (eB (oP pIx) (eV 3) (eK (.int 1))) aNil)) aNil)))) aNil))) (sSeq (sAs 2 (eCd B_lights_along [] (aCons (eFl [(4, 0), (5, 0)] (eS (fun _ => true) 0)) aNil))) (sSeq (sFl 0 [(5, 1)] (eN pTuple (aCons (eLc [4, 5, 6] (itL (eV 2)) (gT [(gN 4), (gN 5), (gN 6)]) tY (eCd B_lit_spot [] (aCons (eV 5) (aCons (eV 6) aNil)))) aNil))) (sSeq (sFl 0 [(5, 2)] (eB (oP pIx) (eB (oP pIx) (eV 2) (eU (oU pNeg) (eK (.int 1)))) (eK (.int 0)))) (sFl 0 [(5, 3)] (eB (oP pIx) (eFl [(5, 1)] (eS (fun _ => true) 0)) (eU (oU pNeg) (eK (.int 1)))))))))))
def B_Tour___init__ : Beh := mkB 2 7 [0] b_Tour___init__
/-- _law_spot -/
def N32 : List Str := [("_law_k" : PySem.Str), ("_law_beats" : PySem.Str)]
theorem sc32 : FnScope N32 [("_law_k" : PySem.Str), ("_law_beats" : PySem.Str)] (defScope s32) := ⟨rfl, rfl, rfl, by decide +kernel, rfl, by decide +kernel, by decide +kernel⟩
def b__law_spot : M Fl := (sSeq (sIf (tV (eB (oET [(0, B_Ratio___eq__)] ["int"] [0]) (eV 1) (eK (.int 0)))) (sRet (eNd 2 B_Step___init__ [] (aCons (eK (.int 0)) (aCons (eN pLst (aCons (eK (.int 0)) aNil)) aNil)))) sNil) (sRet (eFl [(5, 3)] (eNd 5 B_Tour___init__ [] (aCons (eN pLst (aCons (eN pTup (aCons (eV 0) (aCons (eV 1) aNil))) aNil)) aNil)))))
def B__law_spot : Beh := mkB 2 2 [] b__law_spot
/-- Step.__eq__ -/
def N33 : List Str := [("self" : PySem.Str), ("other" : PySem.Str)]
theorem sc33 : FnScope N33 [("self" : PySem.Str), ("other" : PySem.Str)] (defScope s33) := ⟨rfl, rfl, rfl, by decide +kernel, rfl, by decide +kernel, by decide +kernel⟩
def b_Step___eq__ : M Fl := (sRet (eAnd (eIsi (kO [(2, true)]) (eV 1)) (eAnd (eB (oET [(0, B_Ratio___eq__)] ["int"] [0]) (eFl [(2, 0)] (eV 0)) (eFl [(2, 0)] (eV 1))) (eB (oEY 0 [(0, B_Ratio___eq__)] ["int"] [0]) (eFl [(2, 1)] (eV 0)) (eFl [(2, 1)] (eV 1))))))
def B_Step___eq__ : Beh := mkB 2 2 [] b_Step___eq__
/-- need_unlike -/
def N34 : List Str := [("names" : PySem.Str), ("spots" : PySem.Str), ("at" : PySem.Str), ("one" : PySem.Str), ("other" : PySem.Str)]
theorem sc34 : FnScope N34 [("names" : PySem.Str), ("spots" : PySem.Str)] (defScope s34) := ⟨rfl, rfl, rfl, by decide +kernel, rfl, by decide +kernel, by decide +kernel⟩
def b_need_unlike : M Fl := (sFor (itN pEnt (aCons (eV 0) aNil)) (gT [(gN 2), (gN 3)]) (sFor (itL (eSl (eV 0) (iSo (eB (oP pAdd) (eV 2) (eK (.int 1)))) iNo)) (gN 4) (sIf (tV (eB (oET [(2, B_Step___eq__)] ["int"] [2]) (eB (oP pDix) (eV 1) (eV 3)) (eB (oP pDix) (eV 1) (eV 4)))) sNo sNil)))
def B_need_unlike : Beh := mkB 2 5 [] b_need_unlike
/-- is_within -/
def N35 : List Str := [("value" : PySem.Str), ("least" : PySem.Str), ("most" : PySem.Str)]
theorem sc35 : FnScope N35 [("value" : PySem.Str), ("least" : PySem.Str), ("most" : PySem.Str)] (defScope s35) := ⟨rfl, rfl, rfl, by decide +kernel, rfl, by decide +kernel, by decide +kernel⟩
def b_is_within : M Fl := (sSeq (sIf (tNo (tV (eCd B_is_integer [] (aCons (eV 0) aNil)))) (sRet (eK (.bl false))) sNil) (sRet (eAnd (eOr (eIsN (eV 1)) (eB (oP pGe) (eV 0) (eV 1))) (eOr (eIsN (eV 2)) (eB (oP pLe) (eV 0) (eV 2))))))
def B_is_within : Beh := mkB 3 3 [] b_is_within
/-- is_name -/
def N36 : List Str := [("value" : PySem.Str), ("mark" : PySem.Str)]
theorem sc36 : FnScope N36 [("value" : PySem.Str)] (defScope s36) := ⟨rfl, rfl, rfl, by decide +kernel, rfl, by decide +kernel, by decide +kernel⟩
def b_is_name : M Fl := (sSeq (sIf (tOn (tNo (tV (eIsi (kT [] "str") (eV 0)))) (tOn (tNo (tV (eChain (oP pLe) (oP pLe) (eK (.int 1)) (eN pLen (aCons (eV 0) aNil)) (eK (.int (12)))))) (tV (eB (oP pNotIn) (eB (oP pIx) (eV 0) (eK (.int 0))) (eK (.str ("abcdefghijklmnopqrstuvwxyz" : PySem.Str))))))) (sRet (eK (.bl false))) sNil) (sRet (eN pAll (aCons (eLc [1] (itS (eV 0)) (gN 1) tY (eOr (eB (oP pIn) (eV 1) (eK (.str ("abcdefghijklmnopqrstuvwxyz" : PySem.Str)))) (eB (oP pIn) (eV 1) (eK (.str ("0123456789" : PySem.Str)))))) aNil))))
def B_is_name : Beh := mkB 1 2 [] b_is_name
/-- is_spot -/
def N37 : List Str := [("value" : PySem.Str), ("axes" : PySem.Str)]
theorem sc37 : FnScope N37 [("value" : PySem.Str), ("axes" : PySem.Str)] (defScope s37) := ⟨rfl, rfl, rfl, by decide +kernel, rfl, by decide +kernel, by decide +kernel⟩
def b_is_spot : M Fl := (sSeq (sIf (tOn (tNo (tV (eCd B_is_listed [] (aCons (eV 0) aNil)))) (tOn (tV (eB (oP pNe) (eN pLen (aCons (eV 0) aNil)) (eK (.int 2)))) (tNo (tV (eCd B_is_ratio [] (aCons (eB (oP pIx) (eV 0) (eK (.int 0))) aNil)))))) (sRet (eK (.bl false))) sNil) (sRet (eAnd (eCd B_are_ratios [] (aCons (eB (oP pIx) (eV 0) (eK (.int 1))) aNil)) (eB (oP pEq) (eN pLen (aCons (eB (oP pIx) (eV 0) (eK (.int 1))) aNil)) (eV 1)))))
def B_is_spot : Beh := mkB 2 2 [] b_is_spot
/-- are_spots -/
def N38 : List Str := [("value" : PySem.Str), ("axes" : PySem.Str), ("name" : PySem.Str)]
theorem sc38 : FnScope N38 [("value" : PySem.Str), ("axes" : PySem.Str)] (defScope s38) := ⟨rfl, rfl, rfl, by decide +kernel, rfl, by decide +kernel, by decide +kernel⟩
def b_are_spots : M Fl := (sSeq (sIf (tOn (tNo (tV (eIsi (kT [] "dict") (eV 0)))) (tV (eB (oP pEq) (eN pDlen (aCons (eV 0) aNil)) (eK (.int 0))))) (sRet (eK (.bl false))) sNil) (sRet (eN pAll (aCons (eLc [2] (itK (eV 0)) (gN 2) tY (eAnd (eCd B_is_name [] (aCons (eV 2) aNil)) (eCd B_is_spot [] (aCons (eB (oP pDix) (eV 0) (eV 2)) (aCons (eV 1) aNil))))) aNil))))
def B_are_spots : Beh := mkB 2 3 [] b_are_spots
/-- Book.__init__ -/
def N39 : List Str := [("self" : PySem.Str), ("axes" : PySem.Str), ("spots" : PySem.Str), ("name" : PySem.Str)]
theorem sc39 : FnScope N39 [("self" : PySem.Str), ("axes" : PySem.Str), ("spots" : PySem.Str)] (defScope s39) := ⟨rfl, rfl, rfl, by decide +kernel, rfl, by decide +kernel, by decide +kernel⟩
def b_Book___init__ : M Fl := (sSeq (sIf (tNo (tV (eCd B_is_within [] (aCons (eV 1) (aCons (eK (.int 1)) (aCons (eK (.int (3))) aNil)))))) sNo sNil) (sSeq (sIf (tNo (tV (eCd B_are_spots [] (aCons (eV 2) (aCons (eV 1) aNil))))) sNo sNil) (sSeq (sIf (tV (eB (oP pGt) (eN pDlen (aCons (eV 2) aNil)) (eK (.int (8))))) sNo sNil) (sSeq (sFl 0 [(3, 0)] (eV 1)) (sSeq (sFl 0 [(3, 1)] (eN pTuple (aCons (eN pSorted (aCons (eN pDlist (aCons (eV 2) aNil)) aNil)) aNil))) (sSeq (sFl 0 [(3, 2)] (eLk (eDc [3] (itL (eFl [(1, 1), (3, 1)] (eS (fun _ => true) 0))) (gN 3) tY (eV 3) (eNd 2 B_Step___init__ [] (aCons (eB (oP pIx) (eB (oP pDix) (eV 2) (eV 3)) (eK (.int 0))) (aCons (eB (oP pIx) (eB (oP pDix) (eV 2) (eV 3)) (eK (.int 1))) aNil)))))) (sEx (eCd B_need_unlike [] (aCons (eFl [(1, 1), (3, 1)] (eS (fun _ => true) 0)) (aCons (eFl [(3, 2)] (eS (fun _ => true) 0)) aNil))))))))))
def B_Book___init__ : Beh := mkB 3 4 [0] b_Book___init__
/-- need_above -/
def N40 : List Str := [("value" : PySem.Str), ("part" : PySem.Str)]
theorem sc40 : FnScope N40 [("value" : PySem.Str), ("part" : PySem.Str)] (defScope s40) := ⟨rfl, rfl, rfl, by decide +kernel, rfl, by decide +kernel, by decide +kernel⟩
def b_need_above : M Fl := (sIf (tOn (tNo (tV (eCd B_is_ratio [] (aCons (eV 0) aNil)))) (tV (eB (oP pLt) (ePr [(0, B_Ratio_sign)] (eCd B_Ratio_of [] (aCons (eV 0) aNil))) (eK (.int 1))))) sNo sNil)
def B_need_above : Beh := mkB 2 2 [] b_need_above
/-- need_count_of_axes -/
def N41 : List Str := [("value" : PySem.Str)]
theorem sc41 : FnScope N41 [("value" : PySem.Str)] (defScope s41) := ⟨rfl, rfl, rfl, by decide +kernel, rfl, by decide +kernel, by decide +kernel⟩
def b_need_count_of_axes : M Fl := (sIf (tNo (tV (eCd B_is_within [] (aCons (eV 0) (aCons (eK (.int 1)) (aCons (eK (.int (3))) aNil)))))) sNo sNil)
def B_need_count_of_axes : Beh := mkB 1 1 [] b_need_count_of_axes
/-- need_axis -/
def N42 : List Str := [("axes" : PySem.Str), ("value" : PySem.Str), ("part" : PySem.Str)]
theorem sc42 : FnScope N42 [("axes" : PySem.Str), ("value" : PySem.Str), ("part" : PySem.Str)] (defScope s42) := ⟨rfl, rfl, rfl, by decide +kernel, rfl, by decide +kernel, by decide +kernel⟩
def b_need_axis : M Fl := (sIf (tNo (tV (eCd B_is_within [] (aCons (eV 1) (aCons (eK (.int 0)) (aCons (eB (oP pSub) (eV 0) (eK (.int 1))) aNil)))))) sNo sNil)
def B_need_axis : Beh := mkB 3 3 [] b_need_axis
/-- square_of -/
def N43 : List Str := [("parts" : PySem.Str), ("each" : PySem.Str)]
theorem sc43 : FnScope N43 [("parts" : PySem.Str)] (defScope s43) := ⟨rfl, rfl, rfl, by decide +kernel, rfl, by decide +kernel, by decide +kernel⟩
def b_square_of : M Fl := (sRet (eCd B_summed [] (aCons (eLc [1] (itL (eV 0)) (gN 1) tY (eB (oW [(0, B_Ratio___mul__)] ["int"] [0] pMul) (eCd B_Ratio_of [] (aCons (eV 1) aNil)) (eV 1))) aNil)))
def B_square_of : Beh := mkB 1 2 [] b_square_of
/-- are_parts -/
def N44 : List Str := [("value" : PySem.Str)]
theorem sc44 : FnScope N44 [("value" : PySem.Str)] (defScope s44) := ⟨rfl, rfl, rfl, by decide +kernel, rfl, by decide +kernel, by decide +kernel⟩
def b_are_parts : M Fl := (sSeq (sIf (tOn (tNo (tV (eCd B_are_ratios [] (aCons (eV 0) aNil)))) (tNo (tV (eChain (oP pLe) (oP pLe) (eK (.int 1)) (eN pLen (aCons (eV 0) aNil)) (eK (.int (3))))))) (sRet (eK (.bl false))) sNil) (sRet (eMd [(0, B_Ratio_is_below)] [] (eCd B_square_of [] (aCons (eV 0) aNil)) (aCons (eK (.int 1)) aNil))))
def B_are_parts : Beh := mkB 1 1 [] b_are_parts
/-- Pace.__init__ -/
def N45 : List Str := [("self" : PySem.Str), ("parts" : PySem.Str), ("each" : PySem.Str)]
theorem sc45 : FnScope N45 [("self" : PySem.Str), ("parts" : PySem.Str)] (defScope s45) := ⟨rfl, rfl, rfl, by decide +kernel, rfl, by decide +kernel, by decide +kernel⟩
def b_Pace___init__ : M Fl := (sSeq (sIf (tNo (tV (eCd B_are_parts [] (aCons (eV 1) aNil)))) sNo sNil) (sSeq (sFl 0 [(4, 0)] (eN pTuple (aCons (eLc [2] (itL (eV 1)) (gN 2) tY (eCd B_Ratio_of [] (aCons (eV 2) aNil))) aNil))) (sSeq (sFl 0 [(4, 1)] (eN pLen (aCons (eFl [(4, 0), (5, 0)] (eS (fun _ => true) 0)) aNil))) (sFl 0 [(4, 2)] (eCd B_square_of [] (aCons (eFl [(4, 0), (5, 0)] (eS (fun _ => true) 0)) aNil))))))
def B_Pace___init__ : Beh := mkB 2 3 [0] b_Pace___init__
/-- Pace.of_beats -/
def N46 : List Str := [("ratio" : PySem.Str), ("axes" : PySem.Str), ("axis" : PySem.Str), ("twice" : PySem.Str), ("at" : PySem.Str)]
theorem sc46 : FnScope N46 [("ratio" : PySem.Str), ("axes" : PySem.Str), ("axis" : PySem.Str)] (defScope s46) := ⟨rfl, rfl, rfl, by decide +kernel, rfl, by decide +kernel, by decide +kernel⟩
def b_Pace_of_beats : M Fl := (sSeq (sEx (eCd B_need_above [] (aCons (eV 0) (aCons (eK (.str "ratio")) aNil)))) (sSeq (sEx (eCd B_need_count_of_axes [] (aCons (eV 1) aNil))) (sSeq (sEx (eCd B_need_axis [] (aCons (eV 1) (aCons (eV 2) (aCons (eK (.str "axis")) aNil))))) (sSeq (sAs 3 (eB (oW [(0, B_Ratio___mul__)] ["int"] [0] pMul) (eCd B_Ratio_of [] (aCons (eV 0) aNil)) (eV 0))) (sRet (eNd 4 B_Pace___init__ [] (aCons (eLc [4] (itN pRng (aCons (eV 1) aNil)) (gN 4) tY (eIf (tV (eB (oP pEq) (eV 4) (eV 2))) (eMd [(0, B_Ratio_over)] [] (eB (oW [(0, B_Ratio___sub__)] ["int"] [0] pSub) (eV 3) (eK (.int 1))) (aCons (eB (oW [(0, B_Ratio___add__)] ["int"] [0] pAdd) (eV 3) (eK (.int 1))) aNil)) (eK (.int 0)))) aNil)))))))
def B_Pace_of_beats : Beh := mkB 3 5 [] b_Pace_of_beats
/-- need_step -/
def N47 : List Str := [("value" : PySem.Str), ("part" : PySem.Str)]
theorem sc47 : FnScope N47 [("value" : PySem.Str), ("part" : PySem.Str)] (defScope s47) := ⟨rfl, rfl, rfl, by decide +kernel, rfl, by decide +kernel, by decide +kernel⟩
def b_need_step : M Fl := (sIf (tNo (tV (eIsi (kO [(2, true)]) (eV 0)))) sNo sNil)
def B_need_step : Beh := mkB 2 2 [] b_need_step
/-- need_axes -/
def N48 : List Str := [("one" : PySem.Str), ("other" : PySem.Str)]
theorem sc48 : FnScope N48 [("one" : PySem.Str), ("other" : PySem.Str)] (defScope s48) := ⟨rfl, rfl, rfl, by decide +kernel, rfl, by decide +kernel, by decide +kernel⟩
def b_need_axes : M Fl := (sIf (tV (eB (oP pNe) (eFl [(2, 2), (3, 0), (4, 1)] (eV 0)) (eFl [(2, 2), (3, 0), (4, 1)] (eV 1)))) sNo sNil)
def B_need_axes : Beh := mkB 2 2 [] b_need_axes
/-- Step.__add__ -/
def N49 : List Str := [("self" : PySem.Str), ("other" : PySem.Str), ("mine" : PySem.Str), ("its" : PySem.Str)]
theorem sc49 : FnScope N49 [("self" : PySem.Str), ("other" : PySem.Str)] (defScope s49) := ⟨rfl, rfl, rfl, by decide +kernel, rfl, by decide +kernel, by decide +kernel⟩
def b_Step___add__ : M Fl := (sSeq (sEx (eCd B_need_step [] (aCons (eV 1) (aCons (eK (.str "other")) aNil)))) (sSeq (sEx (eCd B_need_axes [] (aCons (eV 0) (aCons (eV 1) aNil)))) (sRet (eNd 2 B_Step___init__ [] (aCons (eB (oW [(0, B_Ratio___add__)] ["int"] [0] pAdd) (eFl [(2, 0)] (eV 0)) (eFl [(2, 0)] (eV 1))) (aCons (eLc [2, 3] (itN pZip (aCons (eFl [(2, 1)] (eV 0)) (aCons (eFl [(2, 1)] (eV 1)) aNil))) (gT [(gN 2), (gN 3)]) tY (eB (oW [(0, B_Ratio___add__)] ["int"] [0] pAdd) (eV 2) (eV 3))) aNil))))))
def B_Step___add__ : Beh := mkB 2 4 [] b_Step___add__
/-- Step.__neg__ -/
def N50 : List Str := [("self" : PySem.Str), ("each" : PySem.Str)]
theorem sc50 : FnScope N50 [("self" : PySem.Str)] (defScope s50) := ⟨rfl, rfl, rfl, by decide +kernel, rfl, by decide +kernel, by decide +kernel⟩
def b_Step___neg__ : M Fl := (sRet (eNd 2 B_Step___init__ [] (aCons (eU (oC1 [(0, B_Ratio___neg__)] pNeg) (eFl [(2, 0)] (eV 0))) (aCons (eLc [1] (itL (eFl [(2, 1)] (eV 0))) (gN 1) tY (eU (oC1 [(0, B_Ratio___neg__)] pNeg) (eV 1))) aNil))))
def B_Step___neg__ : Beh := mkB 1 2 [] b_Step___neg__
/-- Step.__sub__ -/
def N51 : List Str := [("self" : PySem.Str), ("other" : PySem.Str)]
theorem sc51 : FnScope N51 [("self" : PySem.Str), ("other" : PySem.Str)] (defScope s51) := ⟨rfl, rfl, rfl, by decide +kernel, rfl, by decide +kernel, by decide +kernel⟩
def b_Step___sub__ : M Fl := (sSeq (sEx (eCd B_need_step [] (aCons (eV 1) (aCons (eK (.str "other")) aNil)))) (sRet (eB (oW [(2, B_Step___add__)] ["int"] [2] pAdd) (eV 0) (eU (oC1 [(2, B_Step___neg__)] pNeg) (eV 1)))))
def B_Step___sub__ : Beh := mkB 2 2 [] b_Step___sub__
/-- need_book -/
def N52 : List Str := [("value" : PySem.Str), ("part" : PySem.Str)]
theorem sc52 : FnScope N52 [("value" : PySem.Str), ("part" : PySem.Str)] (defScope s52) := ⟨rfl, rfl, rfl, by decide +kernel, rfl, by decide +kernel, by decide +kernel⟩
def b_need_book : M Fl := (sIf (tNo (tV (eIsi (kO [(3, true)]) (eV 0)))) sNo sNil)
def B_need_book : Beh := mkB 2 2 [] b_need_book
/-- need_pace -/
def N53 : List Str := [("value" : PySem.Str), ("part" : PySem.Str)]
theorem sc53 : FnScope N53 [("value" : PySem.Str), ("part" : PySem.Str)] (defScope s53) := ⟨rfl, rfl, rfl, by decide +kernel, rfl, by decide +kernel, by decide +kernel⟩
def b_need_pace : M Fl := (sIf (tNo (tV (eIsi (kO [(4, true)]) (eV 0)))) sNo sNil)
def B_need_pace : Beh := mkB 2 2 [] b_need_pace
/-- need_span -/
def N54 : List Str := [("value" : PySem.Str), ("part" : PySem.Str)]
theorem sc54 : FnScope N54 [("value" : PySem.Str), ("part" : PySem.Str)] (defScope s54) := ⟨rfl, rfl, rfl, by decide +kernel, rfl, by decide +kernel, by decide +kernel⟩
def b_need_span : M Fl := (sIf (tNo (tV (eIsi (kO [(1, true)]) (eV 0)))) sNo sNil)
def B_need_span : Beh := mkB 2 2 [] b_need_span
/-- need_happening -/
def N55 : List Str := [("book" : PySem.Str), ("value" : PySem.Str)]
theorem sc55 : FnScope N55 [("book" : PySem.Str), ("value" : PySem.Str)] (defScope s55) := ⟨rfl, rfl, rfl, by decide +kernel, rfl, by decide +kernel, by decide +kernel⟩
def b_need_happening : M Fl := (sIf (tV (eB (oP pNotIn) (eV 1) (eFl [(1, 1), (3, 1)] (eV 0)))) sNo sNil)
def B_need_happening : Beh := mkB 2 2 [] b_need_happening
/-- need_names_of -/
def N56 : List Str := [("book" : PySem.Str), ("told" : PySem.Str), ("name" : PySem.Str)]
theorem sc56 : FnScope N56 [("book" : PySem.Str), ("told" : PySem.Str)] (defScope s56) := ⟨rfl, rfl, rfl, by decide +kernel, rfl, by decide +kernel, by decide +kernel⟩
def b_need_names_of : M Fl := (sFor (itL (eFl [(1, 1), (3, 1)] (eV 1))) (gN 2) (sEx (eCd B_need_happening [] (aCons (eV 0) (aCons (eV 2) aNil)))))
def B_need_names_of : Beh := mkB 2 3 [] b_need_names_of
/-- worth_of -/
def N57 : List Str := [("pace" : PySem.Str), ("step" : PySem.Str), ("mine" : PySem.Str), ("its" : PySem.Str)]
theorem sc57 : FnScope N57 [("pace" : PySem.Str), ("step" : PySem.Str)] (defScope s57) := ⟨rfl, rfl, rfl, by decide +kernel, rfl, by decide +kernel, by decide +kernel⟩
def b_worth_of : M Fl := (sRet (eB (oW [(0, B_Ratio___sub__)] ["int"] [0] pSub) (eFl [(2, 0)] (eV 1)) (eCd B_summed [] (aCons (eLc [2, 3] (itN pZip (aCons (eFl [(4, 0), (5, 0)] (eV 0)) (aCons (eFl [(2, 1)] (eV 1)) aNil))) (gT [(gN 2), (gN 3)]) tY (eB (oW [(0, B_Ratio___mul__)] ["int"] [0] pMul) (eV 2) (eV 3))) aNil))))
def B_worth_of : Beh := mkB 2 4 [] b_worth_of
/-- Step.nothing -/
def N58 : List Str := [("axes" : PySem.Str)]
theorem sc58 : FnScope N58 [("axes" : PySem.Str)] (defScope s58) := ⟨rfl, rfl, rfl, by decide +kernel, rfl, by decide +kernel, by decide +kernel⟩
def b_Step_nothing : M Fl := (sSeq (sIf (tNo (tV (eCd B_is_within [] (aCons (eV 0) (aCons (eK (.int 1)) (aCons (eK (.int (3))) aNil)))))) sNo sNil) (sRet (eNd 2 B_Step___init__ [] (aCons (eK (.int 0)) (aCons (eB (oP pMul) (eN pLst (aCons (eK (.int 0)) aNil)) (eV 0)) aNil)))))
def B_Step_nothing : Beh := mkB 1 1 [] b_Step_nothing
/-- Step.__mul__ -/
def N59 : List Str := [("self" : PySem.Str), ("other" : PySem.Str), ("each" : PySem.Str)]
theorem sc59 : FnScope N59 [("self" : PySem.Str), ("other" : PySem.Str)] (defScope s59) := ⟨rfl, rfl, rfl, by decide +kernel, rfl, by decide +kernel, by decide +kernel⟩
def b_Step___mul__ : M Fl := (sSeq (sIf (tNo (tV (eCd B_is_ratio [] (aCons (eV 1) aNil)))) sNo sNil) (sRet (eNd 2 B_Step___init__ [] (aCons (eB (oW [(0, B_Ratio___mul__)] ["int"] [0] pMul) (eFl [(2, 0)] (eV 0)) (eV 1)) (aCons (eLc [2] (itL (eFl [(2, 1)] (eV 0))) (gN 2) tY (eB (oW [(0, B_Ratio___mul__)] ["int"] [0] pMul) (eV 2) (eV 1))) aNil)))))
def B_Step___mul__ : Beh := mkB 2 3 [] b_Step___mul__
/-- Book.step_of -/
def N60 : List Str := [("self" : PySem.Str), ("span" : PySem.Str), ("total" : PySem.Str), ("name" : PySem.Str), ("number" : PySem.Str)]
theorem sc60 : FnScope N60 [("self" : PySem.Str), ("span" : PySem.Str)] (defScope s60) := ⟨rfl, rfl, rfl, by decide +kernel, rfl, by decide +kernel, by decide +kernel⟩
def b_Book_step_of : M Fl := (sSeq (sEx (eCd B_need_span [] (aCons (eV 1) (aCons (eK (.str "span")) aNil)))) (sSeq (sEx (eCd B_need_names_of [] (aCons (eV 0) (aCons (eV 1) aNil)))) (sSeq (sAs 2 (eCd B_Step_nothing [] (aCons (eFl [(2, 2), (3, 0), (4, 1)] (eV 0)) aNil))) (sSeq (sFor (itL (eFl [(1, 0)] (eV 1))) (gT [(gN 3), (gN 4)]) (sAs 2 (eB (oW [(2, B_Step___add__)] ["int"] [2] pAdd) (eV 2) (eB (oW [(2, B_Step___mul__)] ["int"] [0, 2] pMul) (eB (oP pDix) (eFl [(3, 2)] (eV 0)) (eV 3)) (eV 4))))) (sRet (eV 2))))))
def B_Book_step_of : Beh := mkB 2 5 [] b_Book_step_of
/-- called_quotient -/
def N61 : List Str := [("book" : PySem.Str), ("pace" : PySem.Str), ("one" : PySem.Str), ("other" : PySem.Str), ("under" : PySem.Str)]
theorem sc61 : FnScope N61 [("book" : PySem.Str), ("pace" : PySem.Str), ("one" : PySem.Str), ("other" : PySem.Str)] (defScope s61) := ⟨rfl, rfl, rfl, by decide +kernel, rfl, by decide +kernel, by decide +kernel⟩
def b_called_quotient : M Fl := (sSeq (sEx (eCd B_need_book [] (aCons (eV 0) (aCons (eK (.str "book")) aNil)))) (sSeq (sEx (eCd B_need_pace [] (aCons (eV 1) (aCons (eK (.str "pace")) aNil)))) (sSeq (sEx (eCd B_need_span [] (aCons (eV 2) (aCons (eK (.str "one")) aNil)))) (sSeq (sEx (eCd B_need_span [] (aCons (eV 3) (aCons (eK (.str "other")) aNil)))) (sSeq (sEx (eCd B_need_axes [] (aCons (eV 0) (aCons (eV 1) aNil)))) (sSeq (sEx (eCd B_need_names_of [] (aCons (eV 0) (aCons (eV 2) aNil)))) (sSeq (sEx (eCd B_need_names_of [] (aCons (eV 0) (aCons (eV 3) aNil)))) (sSeq (sAs 4 (eCd B_worth_of [] (aCons (eV 1) (aCons (eMd [(3, B_Book_step_of)] [] (eV 0) (aCons (eV 3) aNil)) aNil)))) (sSeq (sIf (tV (eB (oP pEq) (ePr [(0, B_Ratio_sign)] (eV 4)) (eK (.int 0)))) (sRet (eK .non)) sNil) (sRet (eMd [(0, B_Ratio_over)] [] (eCd B_worth_of [] (aCons (eV 1) (aCons (eMd [(3, B_Book_step_of)] [] (eV 0) (aCons (eV 2) aNil)) aNil))) (aCons (eV 4) aNil))))))))))))
def B_called_quotient : Beh := mkB 4 5 [] b_called_quotient
/-- _law_slow -/
def N62 : List Str := [("_law_first" : PySem.Str), ("_law_second" : PySem.Str), ("_law_met" : PySem.Str), ("_law_middle" : PySem.Str), ("_law_ratio" : PySem.Str), ("_law_here" : PySem.Str)]
theorem sc62 : FnScope N62 [("_law_first" : PySem.Str), ("_law_second" : PySem.Str), ("_law_met" : PySem.Str), ("_law_middle" : PySem.Str)] (defScope s62) := ⟨rfl, rfl, rfl, by decide +kernel, rfl, by decide +kernel, by decide +kernel⟩
def b__law_slow : M Fl := (sSeq (sAs 4 (eMd [(0, B_Ratio_over)] [] (eV 0) (aCons (eV 1) aNil))) (sSeq (sAs 5 (eB (oW [(0, B_Ratio___mul__)] ["int"] [0] pMul) (eB (oW [(0, B_Ratio___mul__)] ["int"] [0] pMul) (eB (oW [(0, B_Ratio___add__)] ["int"] [0] pAdd) (eV 4) (eMd [(0, B_Ratio_over)] [] (eNd 0 B_Ratio___init__ [.int (1)] (aCons (eK (.int 1)) aNil)) (aCons (eV 4) aNil))) (eNd 0 B_Ratio___init__ [] (aCons (eK (.int 1)) (aCons (eK (.int 2)) aNil)))) (eV 3))) (sRet (eMd [(0, B_Ratio_over)] [] (eV 2) (aCons (eV 5) aNil)))))
def B__law_slow : Beh := mkB 4 6 [] b__law_slow
/-- Book.spot_of -/
def N63 : List Str := [("self" : PySem.Str), ("name" : PySem.Str)]
theorem sc63 : FnScope N63 [("self" : PySem.Str), ("name" : PySem.Str)] (defScope s63) := ⟨rfl, rfl, rfl, by decide +kernel, rfl, by decide +kernel, by decide +kernel⟩
def b_Book_spot_of : M Fl := (sSeq (sEx (eCd B_need_happening [] (aCons (eV 0) (aCons (eV 1) aNil)))) (sRet (eB (oP pDix) (eFl [(3, 2)] (eV 0)) (eV 1))))
def B_Book_spot_of : Beh := mkB 2 2 [] b_Book_spot_of
/-- called_worth -/
def N64 : List Str := [("book" : PySem.Str), ("pace" : PySem.Str), ("span" : PySem.Str)]
theorem sc64 : FnScope N64 [("book" : PySem.Str), ("pace" : PySem.Str), ("span" : PySem.Str)] (defScope s64) := ⟨rfl, rfl, rfl, by decide +kernel, rfl, by decide +kernel, by decide +kernel⟩
def b_called_worth : M Fl := (sSeq (sEx (eCd B_need_book [] (aCons (eV 0) (aCons (eK (.str "book")) aNil)))) (sSeq (sEx (eCd B_need_pace [] (aCons (eV 1) (aCons (eK (.str "pace")) aNil)))) (sSeq (sEx (eCd B_need_span [] (aCons (eV 2) (aCons (eK (.str "span")) aNil)))) (sSeq (sEx (eCd B_need_axes [] (aCons (eV 0) (aCons (eV 1) aNil)))) (sSeq (sEx (eCd B_need_names_of [] (aCons (eV 0) (aCons (eV 2) aNil)))) (sRet (eCd B_worth_of [] (aCons (eV 1) (aCons (eMd [(3, B_Book_step_of)] [] (eV 0) (aCons (eV 2) aNil)) aNil)))))))))
def B_called_worth : Beh := mkB 3 3 [] b_called_worth
/-- called_sign -/
def N65 : List Str := [("book" : PySem.Str), ("pace" : PySem.Str), ("span" : PySem.Str)]
theorem sc65 : FnScope N65 [("book" : PySem.Str), ("pace" : PySem.Str), ("span" : PySem.Str)] (defScope s65) := ⟨rfl, rfl, rfl, by decide +kernel, rfl, by decide +kernel, by decide +kernel⟩
def b_called_sign : M Fl := (sRet (ePr [(0, B_Ratio_sign)] (eCd B_called_worth [] (aCons (eV 0) (aCons (eV 1) (aCons (eV 2) aNil))))))
def B_called_sign : Beh := mkB 3 3 [] b_called_sign
/-- are_terms -/
def N66 : List Str := [("value" : PySem.Str), ("numbers" : PySem.Str), ("name" : PySem.Str), ("number" : PySem.Str)]
theorem sc66 : FnScope N66 [("value" : PySem.Str)] (defScope s66) := ⟨rfl, rfl, rfl, by decide +kernel, rfl, by decide +kernel, by decide +kernel⟩
def b_are_terms : M Fl := (sSeq (sIf (tOn (tNo (tV (eIsi (kT [] "dict") (eV 0)))) (tNo (tV (eN pAll (aCons (eLc [2] (itK (eV 0)) (gN 2) tY (eCd B_is_name [] (aCons (eV 2) aNil))) aNil))))) (sRet (eK (.bl false))) sNil) (sSeq (sAs 1 (eLc [2] (itK (eV 0)) (gN 2) tY (eB (oP pDix) (eV 0) (eV 2)))) (sRet (eAnd (eN pAll (aCons (eLc [3] (itL (eV 1)) (gN 3) tY (eCd B_is_ratio [] (aCons (eV 3) aNil))) aNil)) (eB (oP pEq) (ePr [(0, B_Ratio_sign)] (eCd B_summed [] (aCons (eV 1) aNil))) (eK (.int 0)))))))
def B_are_terms : Beh := mkB 1 4 [] b_are_terms
/-- Span.__init__ -/
def N67 : List Str := [("self" : PySem.Str), ("terms" : PySem.Str), ("ascending" : PySem.Str), ("name" : PySem.Str), ("pair" : PySem.Str)]
theorem sc67 : FnScope N67 [("self" : PySem.Str), ("terms" : PySem.Str)] (defScope s67) := ⟨rfl, rfl, rfl, by decide +kernel, rfl, by decide +kernel, by decide +kernel⟩
def b_Span___init__ : M Fl := (sSeq (sIf (tNo (tV (eCd B_are_terms [] (aCons (eV 1) aNil)))) sNo sNil) (sSeq (sAs 2 (eLc [3] (itL (eN pSorted (aCons (eN pDlist (aCons (eV 1) aNil)) aNil))) (gN 3) tY (eN pTup (aCons (eV 3) (aCons (eCd B_Ratio_of [] (aCons (eB (oP pDix) (eV 1) (eV 3)) aNil)) aNil))))) (sSeq (sFl 0 [(1, 0)] (eN pTuple (aCons (eLc [4] (itL (eV 2)) (gN 4) (tV (eB (oP pNe) (ePr [(0, B_Ratio_sign)] (eB (oP pIx) (eV 4) (eK (.int 1)))) (eK (.int 0)))) (eV 4)) aNil))) (sSeq (sFl 0 [(1, 1)] (eN pTuple (aCons (eLc [4] (itL (eFl [(1, 0)] (eS (fun _ => true) 0))) (gN 4) tY (eB (oP pIx) (eV 4) (eK (.int 0)))) aNil))) (sFl 0 [(1, 2)] (eB (oP pEq) (eN pLen (aCons (eFl [(1, 0)] (eS (fun _ => true) 0)) aNil)) (eK (.int 0))))))))
def B_Span___init__ : Beh := mkB 2 5 [0] b_Span___init__
/-- Span.between -/
def N68 : List Str := [("one" : PySem.Str), ("other" : PySem.Str)]
theorem sc68 : FnScope N68 [("one" : PySem.Str), ("other" : PySem.Str)] (defScope s68) := ⟨rfl, rfl, rfl, by decide +kernel, rfl, by decide +kernel, by decide +kernel⟩
def b_Span_between : M Fl := (sSeq (sIf (tNo (tV (eCd B_is_name [] (aCons (eV 0) aNil)))) sNo sNil) (sSeq (sIf (tNo (tV (eCd B_is_name [] (aCons (eV 1) aNil)))) sNo sNil) (sRet (eNd 1 B_Span___init__ [] (aCons (eIf (tV (eB (oP pEq) (eV 0) (eV 1))) (eDic [((eV 0), (eK (.int 0)))]) (eDic [((eV 0), (eU (oU pNeg) (eK (.int 1)))), ((eV 1), (eK (.int 1)))])) aNil)))))
def B_Span_between : Beh := mkB 2 2 [] b_Span_between
/-- _law_book_right -/
def N69 : List Str := [("_law_k" : PySem.Str), ("_law_other" : PySem.Str), ("_law_beats" : PySem.Str), ("_law_first" : PySem.Str), ("_law_second" : PySem.Str), ("_law_some" : PySem.Str), ("_law_is_right" : PySem.Str), ("_law_met" : PySem.Str), ("_law_echo" : PySem.Str), ("_law_middle" : PySem.Str), ("_law_steps" : PySem.Str), ("_law_table" : PySem.Str), ("_law_name" : PySem.Str), ("_law_step" : PySem.Str), ("_law_book" : PySem.Str), ("_law_mine" : PySem.Str), ("_law_its" : PySem.Str), ("_law_one" : PySem.Str), ("_law_two" : PySem.Str)]
theorem sc69 : FnScope N69 [("_law_k" : PySem.Str), ("_law_other" : PySem.Str), ("_law_beats" : PySem.Str)] (defScope s69) := ⟨rfl, rfl, rfl, by decide +kernel, rfl, by decide +kernel, by decide +kernel⟩
def b__law_book_right : M Fl := (sSeq (sPar [gN 3, gN 4, gN 5] (aCons (eNd 0 B_Ratio___init__ [] (aCons (eB (oP pIx) (eV 0) (eK (.int 0))) (aCons (eB (oP pIx) (eV 0) (eK (.int 1))) aNil))) (aCons (eNd 0 B_Ratio___init__ [] (aCons (eB (oP pIx) (eV 1) (eK (.int 0))) (aCons (eB (oP pIx) (eV 1) (eK (.int 1))) aNil))) (aCons (eNd 0 B_Ratio___init__ [] (aCons (eB (oP pIx) (eV 2) (eK (.int 0))) (aCons (eB (oP pIx) (eV 2) (eK (.int 1))) aNil))) aNil)))) (sSeq (sAs 6 (eB (oP pLt) (eB (oW [(0, B_Ratio___mul__)] ["int"] [0] pMul) (eB (oP pIx) (eV 0) (eK (.int 0))) (eB (oP pIx) (eV 1) (eK (.int 1)))) (eB (oW [(0, B_Ratio___mul__)] ["int"] [0] pMul) (eB (oP pIx) (eV 1) (eK (.int 0))) (eB (oP pIx) (eV 0) (eK (.int 1)))))) (sSeq (sAs 7 (eIf (tV (eV 6)) (eCd B_beats_right [] (aCons (eV 3) (aCons (eV 4) (aCons (eV 5) aNil)))) (eCd B_beats_left [] (aCons (eV 3) (aCons (eV 4) (aCons (eV 5) aNil)))))) (sSeq (sPar [gN 8, gN 9] (aCons (eCd B_echo_beats [] (aCons (eV 3) (aCons (eV 4) (aCons (eV 5) aNil)))) (aCons (eCd B_middle_beats [] (aCons (eV 3) (aCons (eV 4) (aCons (eV 5) aNil)))) aNil))) (sSeq (sAs 10 (eN pLst (aCons (eCd B__law_spot [] (aCons (eV 3) (aCons (eV 5) aNil))) (aCons (eCd B__law_spot [] (aCons (eV 4) (aCons (eV 7) aNil))) (aCons (eCd B__law_spot [] (aCons (eV 3) (aCons (eV 8) aNil))) (aCons (eCd B__law_spot [] (aCons (eV 3) (aCons (eV 9) aNil))) aNil)))))) (sSeq (sAsF 11 (eDicF [((eK (.str "begin")), (eN pTup (aCons (eK (.int 0)) (aCons (eN pLst (aCons (eK (.int 0)) aNil)) aNil))))])) (sSeq (sFor (itN pZip (aCons (eN pLst (aCons (eK (.str "sent")) (aCons (eK (.str "met")) (aCons (eK (.str "back")) (aCons (eK (.str "middle")) aNil))))) (aCons (eV 10) aNil))) (gT [(gN 12), (gN 13)]) (sDix 11 (eN pTup (aCons (eFl [(2, 0)] (eV 13)) (aCons (eN pList (aCons (eFl [(2, 1)] (eV 13)) aNil)) aNil))) (eV 12))) (sSeq (sPar [gN 14, gN 15, gN 16] (aCons (eNd 3 B_Book___init__ [] (aCons (eK (.int 1)) (aCons (eVD 11) aNil))) (aCons (eCd B_Pace_of_beats [] (aCons (eV 3) (aCons (eK (.int 1)) (aCons (eK (.int 0)) aNil)))) (aCons (eCd B_Pace_of_beats [] (aCons (eV 4) (aCons (eK (.int 1)) (aCons (eK (.int 0)) aNil)))) aNil)))) (sSeq (sFor (itL (eN pTup (aCons (eN pTup (aCons (eK (.str "sent")) (aCons (eK (.str "met")) aNil))) (aCons (eN pTup (aCons (eK (.str "met")) (aCons (eK (.str "back")) aNil))) aNil)))) (gT [(gN 17), (gN 18)]) (sSeq (sAs 13 (eB (oW [(2, B_Step___sub__)] ["int"] [2] pSub) (eMd [(3, B_Book_spot_of)] [] (eV 14) (aCons (eV 18) aNil)) (eMd [(3, B_Book_spot_of)] [] (eV 14) (aCons (eV 17) aNil)))) (sIf (tOn (tV (eB (oNW [(0, B_Ratio___eq__)] ["int"] [0] pNe) (eFl [(2, 3), (4, 2)] (eV 13)) (eK (.int 0)))) (tOn (tV (eB (oNW [(0, B_Ratio___eq__)] ["int"] [0] pNe) (eFl [(2, 4)] (eV 13)) (eK (.str "forward")))) (tV (eB (oNW [(0, B_Ratio___eq__)] ["int"] [0] pNe) (eB (oP pGt) (ePr [(0, B_Ratio_sign)] (eB (oP pIx) (eFl [(2, 1)] (eV 13)) (eK (.int 0)))) (eK (.int 0))) (eB (oET [(0, B_Ratio___eq__)] ["int"] [0]) (eV 6) (eB (oET [(0, B_Ratio___eq__)] ["int"] [0]) (eV 17) (eK (.str "sent")))))))) (sRet (eK (.bl false))) sNil))) (sSeq (sIf (tOn (tV (eB (oNW [(0, B_Ratio___eq__)] ["int"] [0] pNe) (eCd B_called_sign [] (aCons (eV 14) (aCons (eV 15) (aCons (eCd B_Span_between [] (aCons (eK (.str "middle")) (aCons (eK (.str "met")) aNil))) aNil)))) (eK (.int 0)))) (tV (eB (oNW [(0, B_Ratio___eq__)] ["int"] [0] pNe) (eCd B_called_sign [] (aCons (eV 14) (aCons (eV 16) (aCons (eCd B_Span_between [] (aCons (eK (.str "sent")) (aCons (eK (.str "met")) aNil))) aNil)))) (eK (.int 1))))) (sRet (eK (.bl false))) sNil) (sSeq (sIf (tV (eB (oNW [(0, B_Ratio___eq__)] ["int"] [0] pNe) (eCd B_called_quotient [] (aCons (eV 14) (aCons (eV 15) (aCons (eCd B_Span_between [] (aCons (eK (.str "begin")) (aCons (eK (.str "met")) aNil))) (aCons (eCd B_Span_between [] (aCons (eK (.str "begin")) (aCons (eK (.str "sent")) aNil))) aNil))))) (eB (oW [(0, B_Ratio___mul__)] ["int"] [0] pMul) (eV 9) (eNd 0 B_Ratio___init__ [] (aCons (eB (oP pIx) (eV 2) (eK (.int 1))) (aCons (eB (oP pIx) (eV 2) (eK (.int 0))) aNil)))))) (sRet (eK (.bl false))) sNil) (sRet (eB (oET [(0, B_Ratio___eq__)] ["int"] [0]) (eCd B_called_quotient [] (aCons (eV 14) (aCons (eV 16) (aCons (eCd B_Span_between [] (aCons (eK (.str "begin")) (aCons (eK (.str "met")) aNil))) (aCons (eCd B_Span_between [] (aCons (eK (.str "begin")) (aCons (eK (.str "middle")) aNil))) aNil))))) (eCd B__law_slow [] (aCons (eV 3) (aCons (eV 4) (aCons (eV 7) (aCons (eV 9) aNil))))))))))))))))))
def B__law_book_right : Beh := mkB 3 19 [] b__law_book_right
/-- law -/
def N70 : List Str := [("_law_script" : PySem.Str), ("_law_pen_here" : PySem.Str), ("_law_turn" : PySem.Str), ("_law_wide" : PySem.Str), ("_law_k" : PySem.Str), ("_law_other" : PySem.Str), ("_law_beats" : PySem.Str), ("_law_is_small" : PySem.Str)]
theorem sc70 : FnScope N70 [("_law_script" : PySem.Str)] (defScope s70) := ⟨rfl, rfl, rfl, by decide +kernel, rfl, by decide +kernel, by decide +kernel⟩
def b_law : M Fl := (sSeq (sAsF 1 (eCd B__law_pen [] (aCons (eV 0) aNil))) (sSeq (sFor (itN pRng (aCons (eK (.int 3)) aNil)) (gN 2) (sSeq (sAs 3 (eCo B__law_pick 1 (aCons (eN pLst (aCons (eK (.int 6)) (aCons (eK (.int 6)) (aCons (eK (.int 999)) aNil)))) aNil))) (sSeq (sPar [gN 4, gN 5] (aCons (eN pTup (aCons (eB (oP pAdd) (eK (.int 1)) (eCo B__law_draw 1 (aCons (eV 3) aNil))) (aCons (eB (oP pAdd) (eK (.int 1)) (eCo B__law_draw 1 (aCons (eV 3) aNil))) aNil))) (aCons (eN pTup (aCons (eB (oP pAdd) (eK (.int 1)) (eCo B__law_draw 1 (aCons (eV 3) aNil))) (aCons (eB (oP pAdd) (eK (.int 1)) (eCo B__law_draw 1 (aCons (eV 3) aNil))) aNil))) aNil))) (sSeq (sAs 5 (eIf (tV (eB (oP pEq) (eCo B__law_draw 1 (aCons (eK (.int 7)) aNil)) (eK (.int 0)))) (eV 4) (eV 5))) (sSeq (sAs 6 (eN pTup (aCons (eCo B__law_draw 1 (aCons (eB (oP pIx) (eN pTup (aCons (eK (.int 11)) (aCons (eK (.int 1000)) aNil))) (eN pInt (aCons (eB (oP pGt) (eV 3) (eK (.int 6))) aNil))) aNil)) (aCons (eB (oP pAdd) (eK (.int 1)) (eCo B__law_draw 1 (aCons (eB (oP pIx) (eN pTup (aCons (eK (.int 4)) (aCons (eK (.int 30)) aNil))) (eN pInt (aCons (eB (oP pGt) (eV 3) (eK (.int 6))) aNil))) aNil))) aNil)))) (sSeq (sIf (tNo (tV (eCd B__law_sums_right [] (aCons (eV 4) (aCons (eV 5) (aCons (eV 6) aNil)))))) (sRet (eK (.bl false))) sNil) (sSeq (sAs 7 (eAnd (eB (oP pEq) (eV 3) (eK (.int 6))) (eAnd (eB (oP pGt) (eB (oP pIx) (eV 6) (eK (.int 0))) (eK (.int 0))) (eB (oP pNe) (eB (oP pMul) (eB (oP pIx) (eV 4) (eK (.int 0))) (eB (oP pIx) (eV 5) (eK (.int 1)))) (eB (oP pMul) (eB (oP pIx) (eV 5) (eK (.int 0))) (eB (oP pIx) (eV 4) (eK (.int 1)))))))) (sIf (tAn (tV (eV 7)) (tNo (tV (eCd B__law_book_right [] (aCons (eV 4) (aCons (eV 5) (aCons (eV 6) aNil))))))) (sRet (eK (.bl false))) sNil)))))))) (sRet (eK (.bl true)))))
def B_law : Beh := mkB 1 8 [] b_law
end Kw

namespace Kw
open PySem PySem.Spec PyProof.Rows L2 Z
structure Hy (K : PySem.W.Frag) (mg : Str → Option Value) (base : Heap) : Prop where
  c : SaysZ fz fn K
  X0 : K.In base
  G0 : base.Ns mainGlobals mg
theorem clo0 {K : PySem.W.Frag} {mg : Str → Option Value} {base : Heap} (h : Hy K mg base) : Cls (gm K).K ((gm K).cA 0) ∧ ∀ f ∈ [("top" : PySem.Str), ("bottom" : PySem.Str)], NoAttr (gm K).K ((gm K).cA 0) f := noat_all (h.c.fact 127)
theorem co0 {K : PySem.W.Frag} {mg : Str → Option Value} {base : Heap} (h : Hy K mg base) : ClsOk (gm K) 0 := ⟨(clo0 h).1, (show (lay 0).Nodup by decide +kernel), (show ∀ f ∈ lay 0, f ∈ flds by decide +kernel), (clo0 h).2, (show (lay 0).length ≤ 900 by decide)⟩
theorem ty0 {K : PySem.W.Frag} {mg : Str → Option Value} {base : Heap} (h : Hy K mg base) : TyOk (gm K) 0 := ⟨(clo0 h).1, eqF_ok (He.ba (h.c.fact 128)).1, eqF_ok (He.ba (He.ba (h.c.fact 128)).2).1, eqF_ok (He.ba (He.ba (He.ba (h.c.fact 128)).2).2).1, eqF_ok (He.ba (He.ba (He.ba (h.c.fact 128)).2).2).2⟩
theorem clo1 {K : PySem.W.Frag} {mg : Str → Option Value} {base : Heap} (h : Hy K mg base) : Cls (gm K).K ((gm K).cA 1) ∧ ∀ f ∈ [("terms" : PySem.Str), ("names" : PySem.Str), ("is_nothing" : PySem.Str)], NoAttr (gm K).K ((gm K).cA 1) f := noat_all (h.c.fact 129)
theorem co1 {K : PySem.W.Frag} {mg : Str → Option Value} {base : Heap} (h : Hy K mg base) : ClsOk (gm K) 1 := ⟨(clo1 h).1, (show (lay 1).Nodup by decide +kernel), (show ∀ f ∈ lay 1, f ∈ flds by decide +kernel), (clo1 h).2, (show (lay 1).length ≤ 900 by decide)⟩
theorem ty1 {K : PySem.W.Frag} {mg : Str → Option Value} {base : Heap} (h : Hy K mg base) : TyOk (gm K) 1 := ⟨(clo1 h).1, eqF_ok (He.ba (h.c.fact 130)).1, eqF_ok (He.ba (He.ba (h.c.fact 130)).2).1, eqF_ok (He.ba (He.ba (He.ba (h.c.fact 130)).2).2).1, eqF_ok (He.ba (He.ba (He.ba (h.c.fact 130)).2).2).2⟩
theorem clo2 {K : PySem.W.Frag} {mg : Str → Option Value} {base : Heap} (h : Hy K mg base) : Cls (gm K).K ((gm K).cA 2) ∧ ∀ f ∈ [("time" : PySem.Str), ("place" : PySem.Str), ("axes" : PySem.Str), ("square" : PySem.Str), ("kind" : PySem.Str)], NoAttr (gm K).K ((gm K).cA 2) f := noat_all (h.c.fact 131)
theorem co2 {K : PySem.W.Frag} {mg : Str → Option Value} {base : Heap} (h : Hy K mg base) : ClsOk (gm K) 2 := ⟨(clo2 h).1, (show (lay 2).Nodup by decide +kernel), (show ∀ f ∈ lay 2, f ∈ flds by decide +kernel), (clo2 h).2, (show (lay 2).length ≤ 900 by decide)⟩
theorem ty2 {K : PySem.W.Frag} {mg : Str → Option Value} {base : Heap} (h : Hy K mg base) : TyOk (gm K) 2 := ⟨(clo2 h).1, eqF_ok (He.ba (h.c.fact 132)).1, eqF_ok (He.ba (He.ba (h.c.fact 132)).2).1, eqF_ok (He.ba (He.ba (He.ba (h.c.fact 132)).2).2).1, eqF_ok (He.ba (He.ba (He.ba (h.c.fact 132)).2).2).2⟩
theorem clo3 {K : PySem.W.Frag} {mg : Str → Option Value} {base : Heap} (h : Hy K mg base) : Cls (gm K).K ((gm K).cA 3) ∧ ∀ f ∈ [("axes" : PySem.Str), ("names" : PySem.Str), ("steps" : PySem.Str)], NoAttr (gm K).K ((gm K).cA 3) f := noat_all (h.c.fact 133)
theorem co3 {K : PySem.W.Frag} {mg : Str → Option Value} {base : Heap} (h : Hy K mg base) : ClsOk (gm K) 3 := ⟨(clo3 h).1, (show (lay 3).Nodup by decide +kernel), (show ∀ f ∈ lay 3, f ∈ flds by decide +kernel), (clo3 h).2, (show (lay 3).length ≤ 900 by decide)⟩
theorem ty3 {K : PySem.W.Frag} {mg : Str → Option Value} {base : Heap} (h : Hy K mg base) : TyOk (gm K) 3 := ⟨(clo3 h).1, eqF_ok (He.ba (h.c.fact 134)).1, eqF_ok (He.ba (He.ba (h.c.fact 134)).2).1, eqF_ok (He.ba (He.ba (He.ba (h.c.fact 134)).2).2).1, eqF_ok (He.ba (He.ba (He.ba (h.c.fact 134)).2).2).2⟩
theorem clo4 {K : PySem.W.Frag} {mg : Str → Option Value} {base : Heap} (h : Hy K mg base) : Cls (gm K).K ((gm K).cA 4) ∧ ∀ f ∈ [("parts" : PySem.Str), ("axes" : PySem.Str), ("square" : PySem.Str)], NoAttr (gm K).K ((gm K).cA 4) f := noat_all (h.c.fact 135)
theorem co4 {K : PySem.W.Frag} {mg : Str → Option Value} {base : Heap} (h : Hy K mg base) : ClsOk (gm K) 4 := ⟨(clo4 h).1, (show (lay 4).Nodup by decide +kernel), (show ∀ f ∈ lay 4, f ∈ flds by decide +kernel), (clo4 h).2, (show (lay 4).length ≤ 900 by decide)⟩
theorem ty4 {K : PySem.W.Frag} {mg : Str → Option Value} {base : Heap} (h : Hy K mg base) : TyOk (gm K) 4 := ⟨(clo4 h).1, eqF_ok (He.ba (h.c.fact 136)).1, eqF_ok (He.ba (He.ba (h.c.fact 136)).2).1, eqF_ok (He.ba (He.ba (He.ba (h.c.fact 136)).2).2).1, eqF_ok (He.ba (He.ba (He.ba (h.c.fact 136)).2).2).2⟩
theorem clo5 {K : PySem.W.Frag} {mg : Str → Option Value} {base : Heap} (h : Hy K mg base) : Cls (gm K).K ((gm K).cA 5) ∧ ∀ f ∈ [("parts" : PySem.Str), ("spots" : PySem.Str), ("age" : PySem.Str), ("step" : PySem.Str)], NoAttr (gm K).K ((gm K).cA 5) f := noat_all (h.c.fact 137)
theorem co5 {K : PySem.W.Frag} {mg : Str → Option Value} {base : Heap} (h : Hy K mg base) : ClsOk (gm K) 5 := ⟨(clo5 h).1, (show (lay 5).Nodup by decide +kernel), (show ∀ f ∈ lay 5, f ∈ flds by decide +kernel), (clo5 h).2, (show (lay 5).length ≤ 900 by decide)⟩
theorem ty5 {K : PySem.W.Frag} {mg : Str → Option Value} {base : Heap} (h : Hy K mg base) : TyOk (gm K) 5 := ⟨(clo5 h).1, eqF_ok (He.ba (h.c.fact 138)).1, eqF_ok (He.ba (He.ba (h.c.fact 138)).2).1, eqF_ok (He.ba (He.ba (He.ba (h.c.fact 138)).2).2).1, eqF_ok (He.ba (He.ba (He.ba (h.c.fact 138)).2).2).2⟩
theorem ok_0 {P : Program} {w : World} {K : PySem.W.Frag} {mg : Str → Option Value} {base : Heap} (h : Hy K mg base) : ∃ fd, FunD K d0.name d0.qual d0.params d0.body d0.scope (d0.dvs K) [] (d0.wh.ad K) fd ∧ FnF P w (gm K) mg base 2 (d0.wh.ad K) fd [("_law_script" : PySem.Str)] 1 B__law_pen := by
  have m_int : mg ("int" : PySem.Str) = none := He.free_ok h.X0 h.G0 (h.c.fact 0)
  have hN : N0.Nodup := sc0.nd
  obtain ⟨fd, F⟩ := h.c.def_ 0 (d := d0) rfl
  exact ⟨fd, F, def_okF (G := gm K) (N := N0) (k := 1) F sc0 rfl fun cdv A outer s H E hr tk => (f_lst (a_cons (e_lcF (vs := [1]) [(("_law_cell" : PySem.Str), 1)] rfl (i_seq (e_sl (e_var 0) i_no (i_so e_int))) (blkOk_by (by kernel_rfl)) (fun _ _ _ _ _ => (g_to (O2 := []) (g_name 1))) (fun _ _ _ _ _ => pts_no) (fun _ _ _ _ _ => (e_toInt (a_cons (e_var 1) a_nil)))).fz (a_cons e_int (a_cons e_int a_nil))))⟩
theorem ok_1 {P : Program} {w : World} {K : PySem.W.Frag} {mg : Str → Option Value} {base : Heap} (h : Hy K mg base) : ∃ fd, FunD K d1.name d1.qual d1.params d1.body d1.scope (d1.dvs K) [] (d1.wh.ad K) fd ∧ FnB P w (gm K) mg base 2 (d1.wh.ad K) fd [("_law_pen_here" : PySem.Str), ("_law_many" : PySem.Str)] 2 [0] B__law_draw := by
  have m_int : mg ("int" : PySem.Str) = none := He.free_ok h.X0 h.G0 (h.c.fact 0)
  have m_len : mg ("len" : PySem.Str) = none := He.free_ok h.X0 h.G0 (h.c.fact 1)
  have m_abs : mg ("abs" : PySem.Str) = none := He.free_ok h.X0 h.G0 (h.c.fact 2)
  have hN : N1.Nodup := sc1.nd
  obtain ⟨fd, F⟩ := h.c.def_ 1 (d := d1) rfl
  exact ⟨fd, F, def_ok (G := gm K) (N := N1) (k := 1) (O' := [0]) F sc1 fun cdv A outer s H E hr tk => (s_cons (s_if (t_cmp o_gt (e_ixO 0 e_int) e_int) (s_cons (s_to (O2 := [0]) (s_set 2 (e_bin o_mod (e_toInt (a_cons (e_ixO 0 e_int) a_nil)) (e_var 1)))) (s_cons (s_ix 0 (e_bin o_div (e_toInt (a_cons (e_ixO 0 e_int) a_nil)) (e_var 1)) e_int) (s_one (s_ret (e_var 2))))) s_nil) (s_cons (s_to (O2 := [0]) (s_set 3 (e_ixO 0 e_int))) (s_cons (s_ix 0 (e_bin o_add (e_var 3) e_int) e_int) (s_cons (s_to (O2 := [0]) (s_set 4 (e_bin o_add (e_bin o_mul e_int (e_var 3)) e_int))) (s_cons (s_if (t_cmp (o_ne hr) (e_ixO 0 e_int) (e_lst a_nil)) (s_one (s_to (O2 := [0]) (s_set 4 (e_ix (e_ixO 0 e_int) (e_bin o_mod (e_toInt (a_cons (e_var 3) a_nil)) (e_len (a_cons (e_ixO 0 e_int) a_nil))))))) s_nil) (s_cons (s_if (t_bo (w_and (t_cmp o_lt (e_var 3) (e_len (a_cons (e_ixO 0 e_int) a_nil))) (w_and1 (t_cmp o_ge (e_abs (a_cons (e_var 4) a_nil)) (e_bin o_pow e_int e_int))))) (s_cons (s_to (O2 := [0]) (s_set 5 (e_bin o_add (e_bin o_mul e_int (e_bin o_sub (e_abs (a_cons (e_var 4) a_nil)) (e_bin o_pow e_int e_int))) (e_toInt (a_cons (e_cmp o_lt (e_var 4) e_int) a_nil))))) (s_cons (s_ix 0 (e_bin o_div (e_toInt (a_cons (e_var 5) a_nil)) (e_var 1)) e_int) (s_one (s_ret (e_bin o_mod (e_toInt (a_cons (e_var 5) a_nil)) (e_var 1)))))) s_nil) (s_cons (s_to (O2 := [0]) (s_set 6 (e_bin o_mod (e_toInt (a_cons (e_bin o_pow (e_bin o_add (e_bin o_add (e_bin o_mod (e_toInt (a_cons (e_var 4) a_nil)) e_int) (e_bin o_mul e_int (e_var 3))) e_int) e_int) a_nil)) e_int))) (s_cons (s_to (O2 := [0]) (s_set 6 (e_bin o_mod (e_toInt (a_cons (e_bin o_pow (e_bin o_add (e_bin o_add (e_bin o_mul (e_var 6) (e_bin o_add (e_bin o_mul e_int (e_var 3)) e_int)) (e_bin o_mul (e_bin o_mul e_int (e_var 3)) (e_var 3))) e_int) e_int) a_nil)) e_int))) (s_one (s_ret (e_bin o_mod (e_toInt (a_cons (e_bin o_div (e_var 6) e_int) a_nil)) (e_var 1))))))))))))⟩
theorem ok_2 {P : Program} {w : World} {K : PySem.W.Frag} {mg : Str → Option Value} {base : Heap} (h : Hy K mg base) : ∃ fd, FunD K d2.name d2.qual d2.params d2.body d2.scope (d2.dvs K) [] (d2.wh.ad K) fd ∧ FnB P w (gm K) mg base 3 (d2.wh.ad K) fd [("_law_pen_here" : PySem.Str), ("_law_some" : PySem.Str)] 2 [0] B__law_pick := by
  obtain ⟨fd1, F1, ok1⟩ := ok_1 (P := P) (w := w) h
  have m_len : mg ("len" : PySem.Str) = none := He.free_ok h.X0 h.G0 (h.c.fact 1)
  have g1 : GlOk (gm K) P w mg base 2 ("_law_draw" : PySem.Str) 2 [0] B__law_draw _ fd1 [("_law_pen_here" : PySem.Str), ("_law_many" : PySem.Str)] := ⟨He.glo_ok h.X0 h.G0 (h.c.fact 3), F1.kp, ok1, ar_of⟩
  have hN : N2.Nodup := sc2.nd
  obtain ⟨fd, F⟩ := h.c.def_ 2 (d := d2) rfl
  exact ⟨fd, F, def_ok (G := gm K) (N := N2) (k := 2) (O' := [0]) F sc2 fun cdv A outer s H E hr tk => (s_one (s_ret (e_ix (e_var 1) (e_callO 0 tk (hr.mono (by decide)) g1 (F1.bindsN (ps := [("_law_pen_here" : PySem.Str), ("_law_many" : PySem.Str)]) fun _ _ _ _ _ _ us hl => match us, hl with | [_, _], _ => rfl) (a_cons (e_len (a_cons (e_var 1) a_nil)) a_nil)))))⟩
theorem ok_3 {P : Program} {w : World} {K : PySem.W.Frag} {mg : Str → Option Value} {base : Heap} (h : Hy K mg base) : ∃ fd, FunD K d3.name d3.qual d3.params d3.body d3.scope (d3.dvs K) [] (d3.wh.ad K) fd ∧ FnB P w (gm K) mg base 2 (d3.wh.ad K) fd [("value" : PySem.Str)] 1 [] B_is_integer := by
  have m_isinstance : mg ("isinstance" : PySem.Str) = none := He.free_ok h.X0 h.G0 (h.c.fact 4)
  have m_int : mg ("int" : PySem.Str) = none := He.free_ok h.X0 h.G0 (h.c.fact 0)
  have m_bool : mg ("bool" : PySem.Str) = none := He.free_ok h.X0 h.G0 (h.c.fact 5)
  have hN : N3.Nodup := sc3.nd
  obtain ⟨fd, F⟩ := h.c.def_ 3 (d := d3) rfl
  exact ⟨fd, F, def_ok (G := gm K) (N := N3) (k := 1) (O' := []) F sc3 fun cdv A outer s H E hr tk => (s_one (s_ret (e_and (e_isi (e_var 0) cv_ty (kn_ty (n := "int") [] mem_nil)) (e_bo1 (e_not (e_isi (e_var 0) cv_ty (kn_ty (n := "bool") [] mem_nil)))))))⟩
theorem ok_4 {P : Program} {w : World} {K : PySem.W.Frag} {mg : Str → Option Value} {base : Heap} (h : Hy K mg base) : ∃ fd, FunD K d4.name d4.qual d4.params d4.body d4.scope (d4.dvs K) [] (d4.wh.ad K) fd ∧ FnB P w (gm K) mg base 3 (d4.wh.ad K) fd [("self" : PySem.Str), ("top" : PySem.Str), ("bottom" : PySem.Str)] 3 [0] B_Ratio___init__ := by
  obtain ⟨fd3, F3, ok3⟩ := ok_3 (P := P) (w := w) h
  have g3 : GlOk (gm K) P w mg base 2 ("is_integer" : PySem.Str) 1 [] B_is_integer _ fd3 [("value" : PySem.Str)] := ⟨He.glo_ok h.X0 h.G0 (h.c.fact 6), F3.kp, ok3, ar_of⟩
  have ht_fs_top : ∀ c i, List.lookup c [(0, 0)] = some i → ClsOk (gm K) c ∧ ((gm K).lay c)[i]? = some ("top" : PySem.Str) := lk_cons ⟨co0 h, rfl⟩ lk_nil
  have ht_fs_bottom : ∀ c i, List.lookup c [(0, 1)] = some i → ClsOk (gm K) c ∧ ((gm K).lay c)[i]? = some ("bottom" : PySem.Str) := lk_cons ⟨co0 h, rfl⟩ lk_nil
  have hN : N4.Nodup := sc4.nd
  obtain ⟨fd, F⟩ := h.c.def_ 4 (d := d4) rfl
  exact ⟨fd, F, def_ok (G := gm K) (N := N4) (k := 2) (O' := [0]) F sc4 fun cdv A outer s H E hr tk => (s_cons (s_if (t_not (t_val (e_call tk (hr.mono (by decide)) g3 (F3.bindsN (ps := [("value" : PySem.Str)]) fun _ _ _ _ _ _ us hl => match us, hl with | [_], _ => rfl) .nil (fun _ => .nil) (a_cons (e_var 1) a_nil)))) (s_one s_no) s_nil) (s_cons (s_if (t_bo (w_or (t_not (t_val (e_call tk (hr.mono (by decide)) g3 (F3.bindsN (ps := [("value" : PySem.Str)]) fun _ _ _ _ _ _ us hl => match us, hl with | [_], _ => rfl) .nil (fun _ => .nil) (a_cons (e_var 2) a_nil)))) (w_or1 (t_cmp (o_eq hr) (e_var 2) e_int)))) (s_one s_no) s_nil) (s_cons (s_to (O2 := [0]) (s_set 3 (e_if (t_cmp o_gt (e_var 2) e_int) (e_gcd (a_cons (e_var 1) (a_cons (e_var 2) a_nil)) (blt_ok h.X0 h.G0 (h.c.fact 7))) (e_un o_neg (e_gcd (a_cons (e_var 1) (a_cons (e_var 2) a_nil)) (blt_ok h.X0 h.G0 (h.c.fact 7))))))) (s_cons (s_fld 0 [(0, 0)] (e_bin o_div (e_var 1) (e_var 3)) ht_fs_top) (s_one (s_fld 0 [(0, 1)] (e_bin o_div (e_var 2) (e_var 3)) ht_fs_bottom))))))⟩
theorem ok_5 {P : Program} {w : World} {K : PySem.W.Frag} {mg : Str → Option Value} {base : Heap} (h : Hy K mg base) : ∃ fd, FunD K d5.name d5.qual d5.params d5.body d5.scope (d5.dvs K) [] (d5.wh.ad K) fd ∧ FnB P w (gm K) mg base 5 (d5.wh.ad K) fd [("value" : PySem.Str), ("part" : PySem.Str)] 2 [] B_ratio_from := by
  obtain ⟨fd3, F3, ok3⟩ := ok_3 (P := P) (w := w) h
  obtain ⟨fd4, F4, ok4⟩ := ok_4 (P := P) (w := w) h
  have m_isinstance : mg ("isinstance" : PySem.Str) = none := He.free_ok h.X0 h.G0 (h.c.fact 4)
  have g3 : GlOk (gm K) P w mg base 2 ("is_integer" : PySem.Str) 1 [] B_is_integer _ fd3 [("value" : PySem.Str)] := ⟨He.glo_ok h.X0 h.G0 (h.c.fact 6), F3.kp, ok3, ar_of⟩
  have nw4 : NwOk (gm K) P w mg base 3 ("Ratio" : PySem.Str) 0 3 B_Ratio___init__ _ fd4 [("self" : PySem.Str), ("top" : PySem.Str), ("bottom" : PySem.Str)] := ⟨He.glo_ok h.X0 h.G0 (h.c.fact 9), He.mkr_ok (h.c.fact 11), rfl, ok4, ar_of, rfl⟩
  obtain ⟨bd4_2, bd4_2_v, bd4_2_b⟩ := F4.binds1 (ps := [("self" : PySem.Str), ("top" : PySem.Str), ("bottom" : PySem.Str)]) 2 0 (List.cons_ne_nil _ _) rfl fun T kV doc pm an cdv ct us its h1 h2 => ⟨_, rfl, match us, h1, its, h2 with | [_, _], _, [_], _ => rfl⟩
  have hN : N5.Nodup := sc5.nd
  obtain ⟨fd, F⟩ := h.c.def_ 5 (d := d5) rfl
  exact ⟨fd, F, def_ok (G := gm K) (N := N5) (k := 4) (O' := []) F sc5 fun cdv A outer s H E hr tk => (s_cons (s_if (t_val (e_isi (e_var 0) (cv_own (He.glo_ok h.X0 h.G0 (h.c.fact 9))) (kn_own (k := 0) [(0, true)] (lk_cons ⟨ty0 h, eqF_ok (h.c.fact 8)⟩ lk_nil) fun m hm => eqF_ok (List.all_eq_true.mp (h.c.fact 10) m hm)))) (s_one (s_ret (e_var 0))) s_nil) (s_cons (s_if (t_not (t_val (e_call tk (hr.mono (by decide)) g3 (F3.bindsN (ps := [("value" : PySem.Str)]) fun _ _ _ _ _ _ us hl => match us, hl with | [_], _ => rfl) .nil (fun _ => .nil) (a_cons (e_var 0) a_nil)))) (s_one s_no) s_nil) (s_one (s_ret (e_new tk (hr.mono (by decide)) nw4 bd4_2_b bd4_2_v (fun _ => (.cons .int .nil)) (a_cons (e_var 0) a_nil))))))⟩
theorem ok_6 {P : Program} {w : World} {K : PySem.W.Frag} {mg : Str → Option Value} {base : Heap} (h : Hy K mg base) : ∃ fd, FunD K d6.name d6.qual d6.params d6.body d6.scope (d6.dvs K) [] (d6.wh.ad K) fd ∧ FnB P w (gm K) mg base 6 (d6.wh.ad K) fd [("self" : PySem.Str), ("other" : PySem.Str)] 2 [] B_Ratio___mul__ := by
  obtain ⟨fd5, F5, ok5⟩ := ok_5 (P := P) (w := w) h
  obtain ⟨fd4, F4, ok4⟩ := ok_4 (P := P) (w := w) h
  have g5 : GlOk (gm K) P w mg base 5 ("ratio_from" : PySem.Str) 2 [] B_ratio_from _ fd5 [("value" : PySem.Str), ("part" : PySem.Str)] := ⟨He.glo_ok h.X0 h.G0 (h.c.fact 12), F5.kp, ok5, ar_of⟩
  have nw4 : NwOk (gm K) P w mg base 3 ("Ratio" : PySem.Str) 0 3 B_Ratio___init__ _ fd4 [("self" : PySem.Str), ("top" : PySem.Str), ("bottom" : PySem.Str)] := ⟨He.glo_ok h.X0 h.G0 (h.c.fact 9), He.mkr_ok (h.c.fact 11), rfl, ok4, ar_of, rfl⟩
  have ht_fl_top : ∀ c i, List.lookup c [(0, 0)] = some i → ClsOk (gm K) c ∧ ((gm K).lay c)[i]? = some ("top" : PySem.Str) := (lk_cons ⟨co0 h, rfl⟩ lk_nil)
  have ht_fl_bottom : ∀ c i, List.lookup c [(0, 1)] = some i → ClsOk (gm K) c ∧ ((gm K).lay c)[i]? = some ("bottom" : PySem.Str) := (lk_cons ⟨co0 h, rfl⟩ lk_nil)
  obtain ⟨bd4_3, bd4_3_v, bd4_3_b⟩ := F4.binds1 (ps := [("self" : PySem.Str), ("top" : PySem.Str), ("bottom" : PySem.Str)]) 3 1 (List.cons_ne_nil _ _) rfl fun T kV doc pm an cdv ct us its h1 h2 => ⟨_, rfl, match us, h1, its, h2 with | [_, _, _], _, [_], _ => rfl⟩
  have hN : N6.Nodup := sc6.nd
  obtain ⟨fd, F⟩ := h.c.def_ 6 (d := d6) rfl
  exact ⟨fd, F, def_ok (G := gm K) (N := N6) (k := 5) (O' := []) F sc6 fun cdv A outer s H E hr tk => (s_cons (s_to (O2 := []) (s_set 2 (e_call tk (hr.mono (by decide)) g5 (F5.bindsN (ps := [("value" : PySem.Str), ("part" : PySem.Str)]) fun _ _ _ _ _ _ us hl => match us, hl with | [_, _], _ => rfl) .nil (fun _ => .nil) (a_cons (e_var 1) (a_cons e_str a_nil))))) (s_one (s_ret (e_new tk (hr.mono (by decide)) nw4 bd4_3_b bd4_3_v (fun _ => .nil) (a_cons (e_bin o_mul (e_fl [(0, 0)] (e_var 0) ht_fl_top) (e_fl [(0, 0)] (e_var 2) ht_fl_top)) (a_cons (e_bin o_mul (e_fl [(0, 1)] (e_var 0) ht_fl_bottom) (e_fl [(0, 1)] (e_var 2) ht_fl_bottom)) a_nil))))))⟩
theorem ok_7 {P : Program} {w : World} {K : PySem.W.Frag} {mg : Str → Option Value} {base : Heap} (h : Hy K mg base) : ∃ fd, FunD K d7.name d7.qual d7.params d7.body d7.scope (d7.dvs K) [] (d7.wh.ad K) fd ∧ FnB P w (gm K) mg base 6 (d7.wh.ad K) fd [("self" : PySem.Str), ("other" : PySem.Str)] 2 [] B_Ratio___add__ := by
  obtain ⟨fd5, F5, ok5⟩ := ok_5 (P := P) (w := w) h
  obtain ⟨fd4, F4, ok4⟩ := ok_4 (P := P) (w := w) h
  have g5 : GlOk (gm K) P w mg base 5 ("ratio_from" : PySem.Str) 2 [] B_ratio_from _ fd5 [("value" : PySem.Str), ("part" : PySem.Str)] := ⟨He.glo_ok h.X0 h.G0 (h.c.fact 12), F5.kp, ok5, ar_of⟩
  have nw4 : NwOk (gm K) P w mg base 3 ("Ratio" : PySem.Str) 0 3 B_Ratio___init__ _ fd4 [("self" : PySem.Str), ("top" : PySem.Str), ("bottom" : PySem.Str)] := ⟨He.glo_ok h.X0 h.G0 (h.c.fact 9), He.mkr_ok (h.c.fact 11), rfl, ok4, ar_of, rfl⟩
  have ht_fl_top : ∀ c i, List.lookup c [(0, 0)] = some i → ClsOk (gm K) c ∧ ((gm K).lay c)[i]? = some ("top" : PySem.Str) := (lk_cons ⟨co0 h, rfl⟩ lk_nil)
  have ht_fl_bottom : ∀ c i, List.lookup c [(0, 1)] = some i → ClsOk (gm K) c ∧ ((gm K).lay c)[i]? = some ("bottom" : PySem.Str) := (lk_cons ⟨co0 h, rfl⟩ lk_nil)
  obtain ⟨bd4_3, bd4_3_v, bd4_3_b⟩ := F4.binds1 (ps := [("self" : PySem.Str), ("top" : PySem.Str), ("bottom" : PySem.Str)]) 3 1 (List.cons_ne_nil _ _) rfl fun T kV doc pm an cdv ct us its h1 h2 => ⟨_, rfl, match us, h1, its, h2 with | [_, _, _], _, [_], _ => rfl⟩
  have hN : N7.Nodup := sc7.nd
  obtain ⟨fd, F⟩ := h.c.def_ 7 (d := d7) rfl
  exact ⟨fd, F, def_ok (G := gm K) (N := N7) (k := 5) (O' := []) F sc7 fun cdv A outer s H E hr tk => (s_cons (s_to (O2 := []) (s_set 2 (e_call tk (hr.mono (by decide)) g5 (F5.bindsN (ps := [("value" : PySem.Str), ("part" : PySem.Str)]) fun _ _ _ _ _ _ us hl => match us, hl with | [_, _], _ => rfl) .nil (fun _ => .nil) (a_cons (e_var 1) (a_cons e_str a_nil))))) (s_one (s_ret (e_new tk (hr.mono (by decide)) nw4 bd4_3_b bd4_3_v (fun _ => .nil) (a_cons (e_bin o_add (e_bin o_mul (e_fl [(0, 0)] (e_var 0) ht_fl_top) (e_fl [(0, 1)] (e_var 2) ht_fl_bottom)) (e_bin o_mul (e_fl [(0, 0)] (e_var 2) ht_fl_top) (e_fl [(0, 1)] (e_var 0) ht_fl_bottom))) (a_cons (e_bin o_mul (e_fl [(0, 1)] (e_var 0) ht_fl_bottom) (e_fl [(0, 1)] (e_var 2) ht_fl_bottom)) a_nil))))))⟩
theorem ok_8 {P : Program} {w : World} {K : PySem.W.Frag} {mg : Str → Option Value} {base : Heap} (h : Hy K mg base) : ∃ fd, FunD K d8.name d8.qual d8.params d8.body d8.scope (d8.dvs K) [] (d8.wh.ad K) fd ∧ FnB P w (gm K) mg base 3 (d8.wh.ad K) fd [("value" : PySem.Str)] 1 [] B_is_ratio := by
  obtain ⟨fd3, F3, ok3⟩ := ok_3 (P := P) (w := w) h
  have m_isinstance : mg ("isinstance" : PySem.Str) = none := He.free_ok h.X0 h.G0 (h.c.fact 4)
  have g3 : GlOk (gm K) P w mg base 2 ("is_integer" : PySem.Str) 1 [] B_is_integer _ fd3 [("value" : PySem.Str)] := ⟨He.glo_ok h.X0 h.G0 (h.c.fact 6), F3.kp, ok3, ar_of⟩
  have hN : N8.Nodup := sc8.nd
  obtain ⟨fd, F⟩ := h.c.def_ 8 (d := d8) rfl
  exact ⟨fd, F, def_ok (G := gm K) (N := N8) (k := 2) (O' := []) F sc8 fun cdv A outer s H E hr tk => (s_one (s_ret (e_or (e_isi (e_var 0) (cv_own (He.glo_ok h.X0 h.G0 (h.c.fact 9))) (kn_own (k := 0) [(0, true)] (lk_cons ⟨ty0 h, eqF_ok (h.c.fact 8)⟩ lk_nil) fun m hm => eqF_ok (List.all_eq_true.mp (h.c.fact 10) m hm))) (e_bo1 (e_call tk (hr.mono (by decide)) g3 (F3.bindsN (ps := [("value" : PySem.Str)]) fun _ _ _ _ _ _ us hl => match us, hl with | [_], _ => rfl) .nil (fun _ => .nil) (a_cons (e_var 0) a_nil))))))⟩
theorem ok_9 {P : Program} {w : World} {K : PySem.W.Frag} {mg : Str → Option Value} {base : Heap} (h : Hy K mg base) : ∃ fd, FunD K d9.name d9.qual d9.params d9.body d9.scope (d9.dvs K) [] (d9.wh.ad K) fd ∧ FnB P w (gm K) mg base 2 (d9.wh.ad K) fd [("self" : PySem.Str)] 1 [] B_Ratio_sign := by
  have m_int : mg ("int" : PySem.Str) = none := He.free_ok h.X0 h.G0 (h.c.fact 0)
  have ht_fl_top : ∀ c i, List.lookup c [(0, 0)] = some i → ClsOk (gm K) c ∧ ((gm K).lay c)[i]? = some ("top" : PySem.Str) := (lk_cons ⟨co0 h, rfl⟩ lk_nil)
  have hN : N9.Nodup := sc9.nd
  obtain ⟨fd, F⟩ := h.c.def_ 9 (d := d9) rfl
  exact ⟨fd, F, def_ok (G := gm K) (N := N9) (k := 1) (O' := []) F sc9 fun cdv A outer s H E hr tk => (s_one (s_ret (e_bin o_sub (e_toInt (a_cons (e_cmp o_gt (e_fl [(0, 0)] (e_var 0) ht_fl_top) e_int) a_nil)) (e_toInt (a_cons (e_cmp o_lt (e_fl [(0, 0)] (e_var 0) ht_fl_top) e_int) a_nil)))))⟩
theorem ok_10 {P : Program} {w : World} {K : PySem.W.Frag} {mg : Str → Option Value} {base : Heap} (h : Hy K mg base) : ∃ fd, FunD K d10.name d10.qual d10.params d10.body d10.scope (d10.dvs K) [] (d10.wh.ad K) fd ∧ FnB P w (gm K) mg base 6 (d10.wh.ad K) fd [("value" : PySem.Str)] 1 [] B_Ratio_of := by
  obtain ⟨fd5, F5, ok5⟩ := ok_5 (P := P) (w := w) h
  have g5 : GlOk (gm K) P w mg base 5 ("ratio_from" : PySem.Str) 2 [] B_ratio_from _ fd5 [("value" : PySem.Str), ("part" : PySem.Str)] := ⟨He.glo_ok h.X0 h.G0 (h.c.fact 12), F5.kp, ok5, ar_of⟩
  have hN : N10.Nodup := sc10.nd
  obtain ⟨fd, F⟩ := h.c.def_ 10 (d := d10) rfl
  exact ⟨fd, F, def_ok (G := gm K) (N := N10) (k := 5) (O' := []) F sc10 fun cdv A outer s H E hr tk => (s_one (s_ret (e_call tk (hr.mono (by decide)) g5 (F5.bindsN (ps := [("value" : PySem.Str), ("part" : PySem.Str)]) fun _ _ _ _ _ _ us hl => match us, hl with | [_, _], _ => rfl) .nil (fun _ => .nil) (a_cons (e_var 0) (a_cons e_str a_nil)))))⟩
theorem ok_11 {P : Program} {w : World} {K : PySem.W.Frag} {mg : Str → Option Value} {base : Heap} (h : Hy K mg base) : ∃ fd, FunD K d11.name d11.qual d11.params d11.body d11.scope (d11.dvs K) [] (d11.wh.ad K) fd ∧ FnB P w (gm K) mg base 7 (d11.wh.ad K) fd [("k" : PySem.Str), ("other" : PySem.Str), ("beats" : PySem.Str)] 3 [] B_need_beats := by
  obtain ⟨fd8, F8, ok8⟩ := ok_8 (P := P) (w := w) h
  obtain ⟨fd10, F10, ok10⟩ := ok_10 (P := P) (w := w) h
  obtain ⟨fd9, F9, ok9⟩ := ok_9 (P := P) (w := w) h
  have g8 : GlOk (gm K) P w mg base 3 ("is_ratio" : PySem.Str) 1 [] B_is_ratio _ fd8 [("value" : PySem.Str)] := ⟨He.glo_ok h.X0 h.G0 (h.c.fact 13), F8.kp, ok8, ar_of⟩
  have st10 : StOk (gm K) P w mg base 6 ("Ratio" : PySem.Str) (He.ga K ("Ratio" : PySem.Str)) ("of" : PySem.Str) 1 B_Ratio_of _ fd10 [("value" : PySem.Str)] := ⟨He.glo_ok h.X0 h.G0 (h.c.fact 9), (sta_ok (h.c.fact 14)).1, (sta_ok (h.c.fact 14)).2.1, (sta_ok (h.c.fact 14)).2.2, F10.kp, ok10, ar_of⟩
  have pr_sign : ∀ c B, List.lookup c [(0, B_Ratio_sign)] = some B → PrOk (gm K) P w mg base 2 c ("sign" : PySem.Str) B := (lk_cons ⟨(clo0 h).1, _, _, fd9, _, prp_ok (h.c.fact 15), ok9, F9.bindsN (ps := [("self" : PySem.Str)]) fun _ _ _ _ _ _ us hl => match us, hl with | [_], _ => rfl⟩ lk_nil)
  have hN : N11.Nodup := sc11.nd
  obtain ⟨fd, F⟩ := h.c.def_ 11 (d := d11) rfl
  exact ⟨fd, F, def_ok (G := gm K) (N := N11) (k := 6) (O' := []) F sc11 fun cdv A outer s H E hr tk => (s_cons (s_if (t_bo (w_or (t_not (t_val (e_call tk (hr.mono (by decide)) g8 (F8.bindsN (ps := [("value" : PySem.Str)]) fun _ _ _ _ _ _ us hl => match us, hl with | [_], _ => rfl) .nil (fun _ => .nil) (a_cons (e_var 0) a_nil)))) (w_or1 (t_cmp o_lt (e_pr [(0, B_Ratio_sign)] (hr.mono (by decide)) (e_stat tk (hr.mono (by decide)) st10 (F10.bindsN (ps := [("value" : PySem.Str)]) fun _ _ _ _ _ _ us hl => match us, hl with | [_], _ => rfl) .nil (fun _ => .nil) (a_cons (e_var 0) a_nil)) pr_sign) e_int)))) (s_one s_no) s_nil) (s_cons (s_if (t_bo (w_or (t_not (t_val (e_call tk (hr.mono (by decide)) g8 (F8.bindsN (ps := [("value" : PySem.Str)]) fun _ _ _ _ _ _ us hl => match us, hl with | [_], _ => rfl) .nil (fun _ => .nil) (a_cons (e_var 1) a_nil)))) (w_or1 (t_cmp o_lt (e_pr [(0, B_Ratio_sign)] (hr.mono (by decide)) (e_stat tk (hr.mono (by decide)) st10 (F10.bindsN (ps := [("value" : PySem.Str)]) fun _ _ _ _ _ _ us hl => match us, hl with | [_], _ => rfl) .nil (fun _ => .nil) (a_cons (e_var 1) a_nil)) pr_sign) e_int)))) (s_one s_no) s_nil) (s_one (s_if (t_bo (w_or (t_not (t_val (e_call tk (hr.mono (by decide)) g8 (F8.bindsN (ps := [("value" : PySem.Str)]) fun _ _ _ _ _ _ us hl => match us, hl with | [_], _ => rfl) .nil (fun _ => .nil) (a_cons (e_var 2) a_nil)))) (w_or1 (t_cmp o_lt (e_pr [(0, B_Ratio_sign)] (hr.mono (by decide)) (e_stat tk (hr.mono (by decide)) st10 (F10.bindsN (ps := [("value" : PySem.Str)]) fun _ _ _ _ _ _ us hl => match us, hl with | [_], _ => rfl) .nil (fun _ => .nil) (a_cons (e_var 2) a_nil)) pr_sign) e_int)))) (s_one s_no) s_nil))))⟩
theorem ok_12 {P : Program} {w : World} {K : PySem.W.Frag} {mg : Str → Option Value} {base : Heap} (h : Hy K mg base) : ∃ fd, FunD K d12.name d12.qual d12.params d12.body d12.scope (d12.dvs K) [] (d12.wh.ad K) fd ∧ FnB P w (gm K) mg base 6 (d12.wh.ad K) fd [("self" : PySem.Str), ("other" : PySem.Str)] 2 [] B_Ratio_over := by
  obtain ⟨fd5, F5, ok5⟩ := ok_5 (P := P) (w := w) h
  obtain ⟨fd4, F4, ok4⟩ := ok_4 (P := P) (w := w) h
  have g5 : GlOk (gm K) P w mg base 5 ("ratio_from" : PySem.Str) 2 [] B_ratio_from _ fd5 [("value" : PySem.Str), ("part" : PySem.Str)] := ⟨He.glo_ok h.X0 h.G0 (h.c.fact 12), F5.kp, ok5, ar_of⟩
  have ht_fl_top : ∀ c i, List.lookup c [(0, 0)] = some i → ClsOk (gm K) c ∧ ((gm K).lay c)[i]? = some ("top" : PySem.Str) := (lk_cons ⟨co0 h, rfl⟩ lk_nil)
  have nw4 : NwOk (gm K) P w mg base 3 ("Ratio" : PySem.Str) 0 3 B_Ratio___init__ _ fd4 [("self" : PySem.Str), ("top" : PySem.Str), ("bottom" : PySem.Str)] := ⟨He.glo_ok h.X0 h.G0 (h.c.fact 9), He.mkr_ok (h.c.fact 11), rfl, ok4, ar_of, rfl⟩
  have ht_fl_bottom : ∀ c i, List.lookup c [(0, 1)] = some i → ClsOk (gm K) c ∧ ((gm K).lay c)[i]? = some ("bottom" : PySem.Str) := (lk_cons ⟨co0 h, rfl⟩ lk_nil)
  obtain ⟨bd4_3, bd4_3_v, bd4_3_b⟩ := F4.binds1 (ps := [("self" : PySem.Str), ("top" : PySem.Str), ("bottom" : PySem.Str)]) 3 1 (List.cons_ne_nil _ _) rfl fun T kV doc pm an cdv ct us its h1 h2 => ⟨_, rfl, match us, h1, its, h2 with | [_, _, _], _, [_], _ => rfl⟩
  have hN : N12.Nodup := sc12.nd
  obtain ⟨fd, F⟩ := h.c.def_ 12 (d := d12) rfl
  exact ⟨fd, F, def_ok (G := gm K) (N := N12) (k := 5) (O' := []) F sc12 fun cdv A outer s H E hr tk => (s_cons (s_to (O2 := []) (s_set 2 (e_call tk (hr.mono (by decide)) g5 (F5.bindsN (ps := [("value" : PySem.Str), ("part" : PySem.Str)]) fun _ _ _ _ _ _ us hl => match us, hl with | [_, _], _ => rfl) .nil (fun _ => .nil) (a_cons (e_var 1) (a_cons e_str a_nil))))) (s_cons (s_if (t_cmp (o_eq hr) (e_fl [(0, 0)] (e_var 2) ht_fl_top) e_int) (s_one s_no) s_nil) (s_one (s_ret (e_new tk (hr.mono (by decide)) nw4 bd4_3_b bd4_3_v (fun _ => .nil) (a_cons (e_bin o_mul (e_fl [(0, 0)] (e_var 0) ht_fl_top) (e_fl [(0, 1)] (e_var 2) ht_fl_bottom)) (a_cons (e_bin o_mul (e_fl [(0, 1)] (e_var 0) ht_fl_bottom) (e_fl [(0, 0)] (e_var 2) ht_fl_top)) a_nil)))))))⟩
theorem ok_13 {P : Program} {w : World} {K : PySem.W.Frag} {mg : Str → Option Value} {base : Heap} (h : Hy K mg base) : ∃ fd, FunD K d13.name d13.qual d13.params d13.body d13.scope (d13.dvs K) [] (d13.wh.ad K) fd ∧ FnB P w (gm K) mg base 5 (d13.wh.ad K) fd [("self" : PySem.Str)] 1 [] B_Ratio___neg__ := by
  obtain ⟨fd4, F4, ok4⟩ := ok_4 (P := P) (w := w) h
  have nw4 : NwOk (gm K) P w mg base 3 ("Ratio" : PySem.Str) 0 3 B_Ratio___init__ _ fd4 [("self" : PySem.Str), ("top" : PySem.Str), ("bottom" : PySem.Str)] := ⟨He.glo_ok h.X0 h.G0 (h.c.fact 9), He.mkr_ok (h.c.fact 11), rfl, ok4, ar_of, rfl⟩
  have ht_fl_top : ∀ c i, List.lookup c [(0, 0)] = some i → ClsOk (gm K) c ∧ ((gm K).lay c)[i]? = some ("top" : PySem.Str) := (lk_cons ⟨co0 h, rfl⟩ lk_nil)
  have ht_fl_bottom : ∀ c i, List.lookup c [(0, 1)] = some i → ClsOk (gm K) c ∧ ((gm K).lay c)[i]? = some ("bottom" : PySem.Str) := (lk_cons ⟨co0 h, rfl⟩ lk_nil)
  obtain ⟨bd4_3, bd4_3_v, bd4_3_b⟩ := F4.binds1 (ps := [("self" : PySem.Str), ("top" : PySem.Str), ("bottom" : PySem.Str)]) 3 1 (List.cons_ne_nil _ _) rfl fun T kV doc pm an cdv ct us its h1 h2 => ⟨_, rfl, match us, h1, its, h2 with | [_, _, _], _, [_], _ => rfl⟩
  have hN : N13.Nodup := sc13.nd
  obtain ⟨fd, F⟩ := h.c.def_ 13 (d := d13) rfl
  exact ⟨fd, F, def_ok (G := gm K) (N := N13) (k := 4) (O' := []) F sc13 fun cdv A outer s H E hr tk => (s_one (s_ret (e_new tk (hr.mono (by decide)) nw4 bd4_3_b bd4_3_v (fun _ => .nil) (a_cons (e_un o_neg (e_fl [(0, 0)] (e_var 0) ht_fl_top)) (a_cons (e_fl [(0, 1)] (e_var 0) ht_fl_bottom) a_nil)))))⟩
theorem ok_14 {P : Program} {w : World} {K : PySem.W.Frag} {mg : Str → Option Value} {base : Heap} (h : Hy K mg base) : ∃ fd, FunD K d14.name d14.qual d14.params d14.body d14.scope (d14.dvs K) [] (d14.wh.ad K) fd ∧ FnB P w (gm K) mg base 7 (d14.wh.ad K) fd [("self" : PySem.Str), ("other" : PySem.Str)] 2 [] B_Ratio___sub__ := by
  obtain ⟨fd5, F5, ok5⟩ := ok_5 (P := P) (w := w) h
  obtain ⟨fd13, F13, ok13⟩ := ok_13 (P := P) (w := w) h
  obtain ⟨fd7, F7, ok7⟩ := ok_7 (P := P) (w := w) h
  have g5 : GlOk (gm K) P w mg base 5 ("ratio_from" : PySem.Str) 2 [] B_ratio_from _ fd5 [("value" : PySem.Str), ("part" : PySem.Str)] := ⟨He.glo_ok h.X0 h.G0 (h.c.fact 12), F5.kp, ok5, ar_of⟩
  have ht_neg : ∀ c B, List.lookup c [(0, B_Ratio___neg__)] = some B → ∃ f fd ps, OwnOk (gm K) P w mg base 5 "__neg__" c B f fd ps 1 := (lk_cons ⟨_, fd13, [("self" : PySem.Str)], (He.meth_ok (h.c.fact 16)).at_, (He.meth_ok (h.c.fact 16)).fn, fn_up ok13 (by decide), F13.bindsN (ps := [("self" : PySem.Str)]) fun _ _ _ _ _ _ us hl => match us, hl with | [_], _ => rfl, ar_of⟩ lk_nil)
  have ht_add : ∀ c B, List.lookup c [(0, B_Ratio___add__)] = some B → (∃ f fd ps, OwnOk (gm K) P w mg base 6 ("__add__" : PySem.Str) c B f fd ps 2) ∧ BinOk (gm K) ("__add__" : PySem.Str) ("__radd__" : PySem.Str) ["int"] [0] c := (lk_cons ⟨⟨_, fd7, [("self" : PySem.Str), ("other" : PySem.Str)], (He.meth_ok (h.c.fact 18)).at_, (He.meth_ok (h.c.fact 18)).fn, fn_up ok7 (by decide), F7.bindsN (ps := [("self" : PySem.Str), ("other" : PySem.Str)]) fun _ _ _ _ _ _ us hl => match us, hl with | [_, _], _ => rfl, ar_of⟩, ⟨(h.c.fact 19), rd_ok (h.c.fact 20), (mem_cons ⟨by decide, biT_ok (h.c.fact 17)⟩ mem_nil), (mem_cons (.inl rfl) mem_nil)⟩⟩ lk_nil)
  have hN : N14.Nodup := sc14.nd
  obtain ⟨fd, F⟩ := h.c.def_ 14 (d := d14) rfl
  exact ⟨fd, F, def_ok (G := gm K) (N := N14) (k := 6) (O' := []) F sc14 fun cdv A outer s H E hr tk => (s_one (s_ret (e_bin (o_bin [(0, B_Ratio___add__)] ["int"] [0] tk (hr.mono (by decide)) o_add ht_add) (e_var 0) (e_un (o_negW [(0, B_Ratio___neg__)] tk (hr.mono (by decide)) o_neg ht_neg) (e_call tk (hr.mono (by decide)) g5 (F5.bindsN (ps := [("value" : PySem.Str), ("part" : PySem.Str)]) fun _ _ _ _ _ _ us hl => match us, hl with | [_, _], _ => rfl) .nil (fun _ => .nil) (a_cons (e_var 1) (a_cons e_str a_nil)))))))⟩
theorem ok_15 {P : Program} {w : World} {K : PySem.W.Frag} {mg : Str → Option Value} {base : Heap} (h : Hy K mg base) : ∃ fd, FunD K d15.name d15.qual d15.params d15.body d15.scope (d15.dvs K) [] (d15.wh.ad K) fd ∧ FnB P w (gm K) mg base 8 (d15.wh.ad K) fd [("self" : PySem.Str), ("other" : PySem.Str)] 2 [] B_Ratio_is_below := by
  obtain ⟨fd5, F5, ok5⟩ := ok_5 (P := P) (w := w) h
  obtain ⟨fd14, F14, ok14⟩ := ok_14 (P := P) (w := w) h
  obtain ⟨fd9, F9, ok9⟩ := ok_9 (P := P) (w := w) h
  have g5 : GlOk (gm K) P w mg base 5 ("ratio_from" : PySem.Str) 2 [] B_ratio_from _ fd5 [("value" : PySem.Str), ("part" : PySem.Str)] := ⟨He.glo_ok h.X0 h.G0 (h.c.fact 12), F5.kp, ok5, ar_of⟩
  have ht_sub : ∀ c B, List.lookup c [(0, B_Ratio___sub__)] = some B → (∃ f fd ps, OwnOk (gm K) P w mg base 7 ("__sub__" : PySem.Str) c B f fd ps 2) ∧ BinOk (gm K) ("__sub__" : PySem.Str) ("__rsub__" : PySem.Str) ["int"] [0] c := (lk_cons ⟨⟨_, fd14, [("self" : PySem.Str), ("other" : PySem.Str)], (He.meth_ok (h.c.fact 22)).at_, (He.meth_ok (h.c.fact 22)).fn, fn_up ok14 (by decide), F14.bindsN (ps := [("self" : PySem.Str), ("other" : PySem.Str)]) fun _ _ _ _ _ _ us hl => match us, hl with | [_, _], _ => rfl, ar_of⟩, ⟨(h.c.fact 19), rd_ok (h.c.fact 23), (mem_cons ⟨by decide, biT_ok (h.c.fact 21)⟩ mem_nil), (mem_cons (.inl rfl) mem_nil)⟩⟩ lk_nil)
  have pr_sign : ∀ c B, List.lookup c [(0, B_Ratio_sign)] = some B → PrOk (gm K) P w mg base 2 c ("sign" : PySem.Str) B := (lk_cons ⟨(clo0 h).1, _, _, fd9, _, prp_ok (h.c.fact 15), ok9, F9.bindsN (ps := [("self" : PySem.Str)]) fun _ _ _ _ _ _ us hl => match us, hl with | [_], _ => rfl⟩ lk_nil)
  have hN : N15.Nodup := sc15.nd
  obtain ⟨fd, F⟩ := h.c.def_ 15 (d := d15) rfl
  exact ⟨fd, F, def_ok (G := gm K) (N := N15) (k := 7) (O' := []) F sc15 fun cdv A outer s H E hr tk => (s_one (s_ret (e_cmp o_lt (e_pr [(0, B_Ratio_sign)] (hr.mono (by decide)) (e_bin (o_bin [(0, B_Ratio___sub__)] ["int"] [0] tk (hr.mono (by decide)) o_sub ht_sub) (e_var 0) (e_call tk (hr.mono (by decide)) g5 (F5.bindsN (ps := [("value" : PySem.Str), ("part" : PySem.Str)]) fun _ _ _ _ _ _ us hl => match us, hl with | [_, _], _ => rfl) .nil (fun _ => .nil) (a_cons (e_var 1) (a_cons e_str a_nil)))) pr_sign) e_int)))⟩
theorem ok_16 {P : Program} {w : World} {K : PySem.W.Frag} {mg : Str → Option Value} {base : Heap} (h : Hy K mg base) : ∃ fd, FunD K d16.name d16.qual d16.params d16.body d16.scope (d16.dvs K) [] (d16.wh.ad K) fd ∧ FnB P w (gm K) mg base 9 (d16.wh.ad K) fd [("k" : PySem.Str), ("other" : PySem.Str), ("beats" : PySem.Str)] 3 [] B_echo_beats := by
  obtain ⟨fd11, F11, ok11⟩ := ok_11 (P := P) (w := w) h
  obtain ⟨fd12, F12, ok12⟩ := ok_12 (P := P) (w := w) h
  obtain ⟨fd10, F10, ok10⟩ := ok_10 (P := P) (w := w) h
  obtain ⟨fd15, F15, ok15⟩ := ok_15 (P := P) (w := w) h
  obtain ⟨fd4, F4, ok4⟩ := ok_4 (P := P) (w := w) h
  obtain ⟨fd6, F6, ok6⟩ := ok_6 (P := P) (w := w) h
  have g11 : GlOk (gm K) P w mg base 7 ("need_beats" : PySem.Str) 3 [] B_need_beats _ fd11 [("k" : PySem.Str), ("other" : PySem.Str), ("beats" : PySem.Str)] := ⟨He.glo_ok h.X0 h.G0 (h.c.fact 24), F11.kp, ok11, ar_of⟩
  have mt_over_1 : ∀ c B, List.lookup c [(0, B_Ratio_over)] = some B → ∃ n f fd ps ds dvs, MtOk (gm K) P w mg base 6 c ("over" : PySem.Str) n B f fd ps ds dvs ∧ ∀ F, RepL (gm K) F [] dvs := (lk_cons ⟨2, _, fd12, [("self" : PySem.Str), ("other" : PySem.Str)], _, _, ⟨(clo0 h).1, He.meth_ok (h.c.fact 25), fn_up ok12 (by decide), ar_of, (F12.bindsN (ps := [("self" : PySem.Str), ("other" : PySem.Str)]) fun _ _ _ _ _ _ us hl => match us, hl with | [_, _], _ => rfl), .nil⟩, (fun _ => .nil)⟩ lk_nil)
  have st10 : StOk (gm K) P w mg base 6 ("Ratio" : PySem.Str) (He.ga K ("Ratio" : PySem.Str)) ("of" : PySem.Str) 1 B_Ratio_of _ fd10 [("value" : PySem.Str)] := ⟨He.glo_ok h.X0 h.G0 (h.c.fact 9), (sta_ok (h.c.fact 14)).1, (sta_ok (h.c.fact 14)).2.1, (sta_ok (h.c.fact 14)).2.2, F10.kp, ok10, ar_of⟩
  have mt_is_below_1 : ∀ c B, List.lookup c [(0, B_Ratio_is_below)] = some B → ∃ n f fd ps ds dvs, MtOk (gm K) P w mg base 8 c ("is_below" : PySem.Str) n B f fd ps ds dvs ∧ ∀ F, RepL (gm K) F [] dvs := (lk_cons ⟨2, _, fd15, [("self" : PySem.Str), ("other" : PySem.Str)], _, _, ⟨(clo0 h).1, He.meth_ok (h.c.fact 26), fn_up ok15 (by decide), ar_of, (F15.bindsN (ps := [("self" : PySem.Str), ("other" : PySem.Str)]) fun _ _ _ _ _ _ us hl => match us, hl with | [_, _], _ => rfl), .nil⟩, (fun _ => .nil)⟩ lk_nil)
  have nw4 : NwOk (gm K) P w mg base 3 ("Ratio" : PySem.Str) 0 3 B_Ratio___init__ _ fd4 [("self" : PySem.Str), ("top" : PySem.Str), ("bottom" : PySem.Str)] := ⟨He.glo_ok h.X0 h.G0 (h.c.fact 9), He.mkr_ok (h.c.fact 11), rfl, ok4, ar_of, rfl⟩
  obtain ⟨bd4_2, bd4_2_v, bd4_2_b⟩ := F4.binds1 (ps := [("self" : PySem.Str), ("top" : PySem.Str), ("bottom" : PySem.Str)]) 2 0 (List.cons_ne_nil _ _) rfl fun T kV doc pm an cdv ct us its h1 h2 => ⟨_, rfl, match us, h1, its, h2 with | [_, _], _, [_], _ => rfl⟩
  have ht_mul : ∀ c B, List.lookup c [(0, B_Ratio___mul__)] = some B → (∃ f fd ps, OwnOk (gm K) P w mg base 6 ("__mul__" : PySem.Str) c B f fd ps 2) ∧ BinOk (gm K) ("__mul__" : PySem.Str) ("__rmul__" : PySem.Str) ["int"] [0] c := (lk_cons ⟨⟨_, fd6, [("self" : PySem.Str), ("other" : PySem.Str)], (He.meth_ok (h.c.fact 28)).at_, (He.meth_ok (h.c.fact 28)).fn, fn_up ok6 (by decide), F6.bindsN (ps := [("self" : PySem.Str), ("other" : PySem.Str)]) fun _ _ _ _ _ _ us hl => match us, hl with | [_, _], _ => rfl, ar_of⟩, ⟨(h.c.fact 19), rd_ok (h.c.fact 29), (mem_cons ⟨by decide, biT_ok (h.c.fact 27)⟩ mem_nil), (mem_cons (.inl rfl) mem_nil)⟩⟩ lk_nil)
  have hN : N16.Nodup := sc16.nd
  obtain ⟨fd, F⟩ := h.c.def_ 16 (d := d16) rfl
  exact ⟨fd, F, def_ok (G := gm K) (N := N16) (k := 8) (O' := []) F sc16 fun cdv A outer s H E hr tk => (s_cons (s_expr (e_call tk (hr.mono (by decide)) g11 (F11.bindsN (ps := [("k" : PySem.Str), ("other" : PySem.Str), ("beats" : PySem.Str)]) fun _ _ _ _ _ _ us hl => match us, hl with | [_, _, _], _ => rfl) .nil (fun _ => .nil) (a_cons (e_var 0) (a_cons (e_var 1) (a_cons (e_var 2) a_nil))))) (s_cons (s_to (O2 := []) (s_set 3 (e_meth [(0, B_Ratio_over)] tk (hr.mono (by decide)) (show ("over" : PySem.Str) ∉ flds by decide +kernel) (e_stat tk (hr.mono (by decide)) st10 (F10.bindsN (ps := [("value" : PySem.Str)]) fun _ _ _ _ _ _ us hl => match us, hl with | [_], _ => rfl) .nil (fun _ => .nil) (a_cons (e_var 1) a_nil)) (a_cons (e_var 0) a_nil) mt_over_1))) (s_cons (s_to (O2 := []) (s_set 3 (e_if (t_val (e_meth [(0, B_Ratio_is_below)] tk (hr.mono (by decide)) (show ("is_below" : PySem.Str) ∉ flds by decide +kernel) (e_var 3) (a_cons e_int a_nil) mt_is_below_1)) (e_meth [(0, B_Ratio_over)] tk (hr.mono (by decide)) (show ("over" : PySem.Str) ∉ flds by decide +kernel) (e_new tk (hr.mono (by decide)) nw4 bd4_2_b bd4_2_v (fun _ => (.cons .int .nil)) (a_cons e_int a_nil)) (a_cons (e_var 3) a_nil) mt_over_1) (e_var 3)))) (s_one (s_ret (e_bin (o_bin [(0, B_Ratio___mul__)] ["int"] [0] tk (hr.mono (by decide)) o_mul ht_mul) (e_bin (o_bin [(0, B_Ratio___mul__)] ["int"] [0] tk (hr.mono (by decide)) o_mul ht_mul) (e_stat tk (hr.mono (by decide)) st10 (F10.bindsN (ps := [("value" : PySem.Str)]) fun _ _ _ _ _ _ us hl => match us, hl with | [_], _ => rfl) .nil (fun _ => .nil) (a_cons (e_var 2) a_nil)) (e_var 3)) (e_var 3)))))))⟩
theorem ok_17 {P : Program} {w : World} {K : PySem.W.Frag} {mg : Str → Option Value} {base : Heap} (h : Hy K mg base) : ∃ fd, FunD K d17.name d17.qual d17.params d17.body d17.scope (d17.dvs K) [] (d17.wh.ad K) fd ∧ FnB P w (gm K) mg base 10 (d17.wh.ad K) fd [("k" : PySem.Str), ("other" : PySem.Str), ("beats" : PySem.Str)] 3 [] B_middle_beats := by
  obtain ⟨fd16, F16, ok16⟩ := ok_16 (P := P) (w := w) h
  obtain ⟨fd7, F7, ok7⟩ := ok_7 (P := P) (w := w) h
  obtain ⟨fd4, F4, ok4⟩ := ok_4 (P := P) (w := w) h
  obtain ⟨fd6, F6, ok6⟩ := ok_6 (P := P) (w := w) h
  have g16 : GlOk (gm K) P w mg base 9 ("echo_beats" : PySem.Str) 3 [] B_echo_beats _ fd16 [("k" : PySem.Str), ("other" : PySem.Str), ("beats" : PySem.Str)] := ⟨He.glo_ok h.X0 h.G0 (h.c.fact 30), F16.kp, ok16, ar_of⟩
  have ht_add : ∀ c B, List.lookup c [(0, B_Ratio___add__)] = some B → (∃ f fd ps, OwnOk (gm K) P w mg base 6 ("__add__" : PySem.Str) c B f fd ps 2) ∧ BinOk (gm K) ("__add__" : PySem.Str) ("__radd__" : PySem.Str) ["int"] [0] c := (lk_cons ⟨⟨_, fd7, [("self" : PySem.Str), ("other" : PySem.Str)], (He.meth_ok (h.c.fact 18)).at_, (He.meth_ok (h.c.fact 18)).fn, fn_up ok7 (by decide), F7.bindsN (ps := [("self" : PySem.Str), ("other" : PySem.Str)]) fun _ _ _ _ _ _ us hl => match us, hl with | [_, _], _ => rfl, ar_of⟩, ⟨(h.c.fact 19), rd_ok (h.c.fact 20), (mem_cons ⟨by decide, biT_ok (h.c.fact 17)⟩ mem_nil), (mem_cons (.inl rfl) mem_nil)⟩⟩ lk_nil)
  have nw4 : NwOk (gm K) P w mg base 3 ("Ratio" : PySem.Str) 0 3 B_Ratio___init__ _ fd4 [("self" : PySem.Str), ("top" : PySem.Str), ("bottom" : PySem.Str)] := ⟨He.glo_ok h.X0 h.G0 (h.c.fact 9), He.mkr_ok (h.c.fact 11), rfl, ok4, ar_of, rfl⟩
  obtain ⟨bd4_3, bd4_3_v, bd4_3_b⟩ := F4.binds1 (ps := [("self" : PySem.Str), ("top" : PySem.Str), ("bottom" : PySem.Str)]) 3 1 (List.cons_ne_nil _ _) rfl fun T kV doc pm an cdv ct us its h1 h2 => ⟨_, rfl, match us, h1, its, h2 with | [_, _, _], _, [_], _ => rfl⟩
  have ht_mul : ∀ c B, List.lookup c [(0, B_Ratio___mul__)] = some B → (∃ f fd ps, OwnOk (gm K) P w mg base 6 ("__mul__" : PySem.Str) c B f fd ps 2) ∧ BinOk (gm K) ("__mul__" : PySem.Str) ("__rmul__" : PySem.Str) ["int"] [0] c := (lk_cons ⟨⟨_, fd6, [("self" : PySem.Str), ("other" : PySem.Str)], (He.meth_ok (h.c.fact 28)).at_, (He.meth_ok (h.c.fact 28)).fn, fn_up ok6 (by decide), F6.bindsN (ps := [("self" : PySem.Str), ("other" : PySem.Str)]) fun _ _ _ _ _ _ us hl => match us, hl with | [_, _], _ => rfl, ar_of⟩, ⟨(h.c.fact 19), rd_ok (h.c.fact 29), (mem_cons ⟨by decide, biT_ok (h.c.fact 27)⟩ mem_nil), (mem_cons (.inl rfl) mem_nil)⟩⟩ lk_nil)
  have hN : N17.Nodup := sc17.nd
  obtain ⟨fd, F⟩ := h.c.def_ 17 (d := d17) rfl
  exact ⟨fd, F, def_ok (G := gm K) (N := N17) (k := 9) (O' := []) F sc17 fun cdv A outer s H E hr tk => (s_one (s_ret (e_bin (o_bin [(0, B_Ratio___mul__)] ["int"] [0] tk (hr.mono (by decide)) o_mul ht_mul) (e_bin (o_bin [(0, B_Ratio___add__)] ["int"] [0] tk (hr.mono (by decide)) o_add ht_add) (e_call tk (hr.mono (by decide)) g16 (F16.bindsN (ps := [("k" : PySem.Str), ("other" : PySem.Str), ("beats" : PySem.Str)]) fun _ _ _ _ _ _ us hl => match us, hl with | [_, _, _], _ => rfl) .nil (fun _ => .nil) (a_cons (e_var 0) (a_cons (e_var 1) (a_cons (e_var 2) a_nil)))) (e_var 2)) (e_new tk (hr.mono (by decide)) nw4 bd4_3_b bd4_3_v (fun _ => .nil) (a_cons e_int (a_cons e_int a_nil))))))⟩
theorem ok_18 {P : Program} {w : World} {K : PySem.W.Frag} {mg : Str → Option Value} {base : Heap} (h : Hy K mg base) : ∃ fd, FunD K d18.name d18.qual d18.params d18.body d18.scope (d18.dvs K) [] (d18.wh.ad K) fd ∧ FnB P w (gm K) mg base 3 (d18.wh.ad K) fd [("self" : PySem.Str), ("other" : PySem.Str)] 2 [] B_Ratio___eq__ := by
  obtain ⟨fd3, F3, ok3⟩ := ok_3 (P := P) (w := w) h
  have m_isinstance : mg ("isinstance" : PySem.Str) = none := He.free_ok h.X0 h.G0 (h.c.fact 4)
  have ht_fl_top : ∀ c i, List.lookup c [(0, 0)] = some i → ClsOk (gm K) c ∧ ((gm K).lay c)[i]? = some ("top" : PySem.Str) := (lk_cons ⟨co0 h, rfl⟩ lk_nil)
  have ht_fl_bottom : ∀ c i, List.lookup c [(0, 1)] = some i → ClsOk (gm K) c ∧ ((gm K).lay c)[i]? = some ("bottom" : PySem.Str) := (lk_cons ⟨co0 h, rfl⟩ lk_nil)
  have g3 : GlOk (gm K) P w mg base 2 ("is_integer" : PySem.Str) 1 [] B_is_integer _ fd3 [("value" : PySem.Str)] := ⟨He.glo_ok h.X0 h.G0 (h.c.fact 6), F3.kp, ok3, ar_of⟩
  have hN : N18.Nodup := sc18.nd
  obtain ⟨fd, F⟩ := h.c.def_ 18 (d := d18) rfl
  exact ⟨fd, F, def_ok (G := gm K) (N := N18) (k := 2) (O' := []) F sc18 fun cdv A outer s H E hr tk => (s_cons (s_if (t_val (e_isi (e_var 1) (cv_own (He.glo_ok h.X0 h.G0 (h.c.fact 9))) (kn_own (k := 0) [(0, true)] (lk_cons ⟨ty0 h, eqF_ok (h.c.fact 8)⟩ lk_nil) fun m hm => eqF_ok (List.all_eq_true.mp (h.c.fact 10) m hm)))) (s_one (s_ret (e_and (e_cmp (o_eq hr) (e_fl [(0, 0)] (e_var 0) ht_fl_top) (e_fl [(0, 0)] (e_var 1) ht_fl_top)) (e_bo1 (e_cmp (o_eq hr) (e_fl [(0, 1)] (e_var 0) ht_fl_bottom) (e_fl [(0, 1)] (e_var 1) ht_fl_bottom)))))) s_nil) (s_one (s_ret (e_and (e_call tk (hr.mono (by decide)) g3 (F3.bindsN (ps := [("value" : PySem.Str)]) fun _ _ _ _ _ _ us hl => match us, hl with | [_], _ => rfl) .nil (fun _ => .nil) (a_cons (e_var 1) a_nil)) (e_and (e_cmp (o_eq hr) (e_fl [(0, 1)] (e_var 0) ht_fl_bottom) e_int) (e_bo1 (e_cmp (o_eq hr) (e_fl [(0, 0)] (e_var 0) ht_fl_top) (e_var 1))))))))⟩
theorem ok_19 {P : Program} {w : World} {K : PySem.W.Frag} {mg : Str → Option Value} {base : Heap} (h : Hy K mg base) : ∃ fd, FunD K d19.name d19.qual d19.params d19.body d19.scope (d19.dvs K) [] (d19.wh.ad K) fd ∧ FnB P w (gm K) mg base 8 (d19.wh.ad K) fd [("k" : PySem.Str), ("other" : PySem.Str), ("beats" : PySem.Str)] 3 [] B_beats_left := by
  obtain ⟨fd11, F11, ok11⟩ := ok_11 (P := P) (w := w) h
  obtain ⟨fd10, F10, ok10⟩ := ok_10 (P := P) (w := w) h
  obtain ⟨fd6, F6, ok6⟩ := ok_6 (P := P) (w := w) h
  obtain ⟨fd12, F12, ok12⟩ := ok_12 (P := P) (w := w) h
  obtain ⟨fd4, F4, ok4⟩ := ok_4 (P := P) (w := w) h
  have g11 : GlOk (gm K) P w mg base 7 ("need_beats" : PySem.Str) 3 [] B_need_beats _ fd11 [("k" : PySem.Str), ("other" : PySem.Str), ("beats" : PySem.Str)] := ⟨He.glo_ok h.X0 h.G0 (h.c.fact 24), F11.kp, ok11, ar_of⟩
  have st10 : StOk (gm K) P w mg base 6 ("Ratio" : PySem.Str) (He.ga K ("Ratio" : PySem.Str)) ("of" : PySem.Str) 1 B_Ratio_of _ fd10 [("value" : PySem.Str)] := ⟨He.glo_ok h.X0 h.G0 (h.c.fact 9), (sta_ok (h.c.fact 14)).1, (sta_ok (h.c.fact 14)).2.1, (sta_ok (h.c.fact 14)).2.2, F10.kp, ok10, ar_of⟩
  have ht_mul : ∀ c B, List.lookup c [(0, B_Ratio___mul__)] = some B → (∃ f fd ps, OwnOk (gm K) P w mg base 6 ("__mul__" : PySem.Str) c B f fd ps 2) ∧ BinOk (gm K) ("__mul__" : PySem.Str) ("__rmul__" : PySem.Str) ["int"] [0] c := (lk_cons ⟨⟨_, fd6, [("self" : PySem.Str), ("other" : PySem.Str)], (He.meth_ok (h.c.fact 28)).at_, (He.meth_ok (h.c.fact 28)).fn, fn_up ok6 (by decide), F6.bindsN (ps := [("self" : PySem.Str), ("other" : PySem.Str)]) fun _ _ _ _ _ _ us hl => match us, hl with | [_, _], _ => rfl, ar_of⟩, ⟨(h.c.fact 19), rd_ok (h.c.fact 29), (mem_cons ⟨by decide, biT_ok (h.c.fact 27)⟩ mem_nil), (mem_cons (.inl rfl) mem_nil)⟩⟩ lk_nil)
  have mt_over_1 : ∀ c B, List.lookup c [(0, B_Ratio_over)] = some B → ∃ n f fd ps ds dvs, MtOk (gm K) P w mg base 6 c ("over" : PySem.Str) n B f fd ps ds dvs ∧ ∀ F, RepL (gm K) F [] dvs := (lk_cons ⟨2, _, fd12, [("self" : PySem.Str), ("other" : PySem.Str)], _, _, ⟨(clo0 h).1, He.meth_ok (h.c.fact 25), fn_up ok12 (by decide), ar_of, (F12.bindsN (ps := [("self" : PySem.Str), ("other" : PySem.Str)]) fun _ _ _ _ _ _ us hl => match us, hl with | [_, _], _ => rfl), .nil⟩, (fun _ => .nil)⟩ lk_nil)
  have nw4 : NwOk (gm K) P w mg base 3 ("Ratio" : PySem.Str) 0 3 B_Ratio___init__ _ fd4 [("self" : PySem.Str), ("top" : PySem.Str), ("bottom" : PySem.Str)] := ⟨He.glo_ok h.X0 h.G0 (h.c.fact 9), He.mkr_ok (h.c.fact 11), rfl, ok4, ar_of, rfl⟩
  obtain ⟨bd4_2, bd4_2_v, bd4_2_b⟩ := F4.binds1 (ps := [("self" : PySem.Str), ("top" : PySem.Str), ("bottom" : PySem.Str)]) 2 0 (List.cons_ne_nil _ _) rfl fun T kV doc pm an cdv ct us its h1 h2 => ⟨_, rfl, match us, h1, its, h2 with | [_, _], _, [_], _ => rfl⟩
  have hN : N19.Nodup := sc19.nd
  obtain ⟨fd, F⟩ := h.c.def_ 19 (d := d19) rfl
  exact ⟨fd, F, def_ok (G := gm K) (N := N19) (k := 7) (O' := []) F sc19 fun cdv A outer s H E hr tk => (s_cons (s_expr (e_call tk (hr.mono (by decide)) g11 (F11.bindsN (ps := [("k" : PySem.Str), ("other" : PySem.Str), ("beats" : PySem.Str)]) fun _ _ _ _ _ _ us hl => match us, hl with | [_, _, _], _ => rfl) .nil (fun _ => .nil) (a_cons (e_var 0) (a_cons (e_var 1) (a_cons (e_var 2) a_nil))))) (s_one (s_ret (e_bin (o_bin [(0, B_Ratio___mul__)] ["int"] [0] tk (hr.mono (by decide)) o_mul ht_mul) (e_bin (o_bin [(0, B_Ratio___mul__)] ["int"] [0] tk (hr.mono (by decide)) o_mul ht_mul) (e_stat tk (hr.mono (by decide)) st10 (F10.bindsN (ps := [("value" : PySem.Str)]) fun _ _ _ _ _ _ us hl => match us, hl with | [_], _ => rfl) .nil (fun _ => .nil) (a_cons (e_var 2) a_nil)) (e_var 0)) (e_meth [(0, B_Ratio_over)] tk (hr.mono (by decide)) (show ("over" : PySem.Str) ∉ flds by decide +kernel) (e_new tk (hr.mono (by decide)) nw4 bd4_2_b bd4_2_v (fun _ => (.cons .int .nil)) (a_cons e_int a_nil)) (a_cons (e_var 1) a_nil) mt_over_1)))))⟩
theorem ok_20 {P : Program} {w : World} {K : PySem.W.Frag} {mg : Str → Option Value} {base : Heap} (h : Hy K mg base) : ∃ fd, FunD K d20.name d20.qual d20.params d20.body d20.scope (d20.dvs K) [] (d20.wh.ad K) fd ∧ FnB P w (gm K) mg base 8 (d20.wh.ad K) fd [("k" : PySem.Str), ("other" : PySem.Str), ("beats" : PySem.Str)] 3 [] B_beats_right := by
  obtain ⟨fd11, F11, ok11⟩ := ok_11 (P := P) (w := w) h
  obtain ⟨fd10, F10, ok10⟩ := ok_10 (P := P) (w := w) h
  obtain ⟨fd6, F6, ok6⟩ := ok_6 (P := P) (w := w) h
  obtain ⟨fd12, F12, ok12⟩ := ok_12 (P := P) (w := w) h
  obtain ⟨fd4, F4, ok4⟩ := ok_4 (P := P) (w := w) h
  have g11 : GlOk (gm K) P w mg base 7 ("need_beats" : PySem.Str) 3 [] B_need_beats _ fd11 [("k" : PySem.Str), ("other" : PySem.Str), ("beats" : PySem.Str)] := ⟨He.glo_ok h.X0 h.G0 (h.c.fact 24), F11.kp, ok11, ar_of⟩
  have st10 : StOk (gm K) P w mg base 6 ("Ratio" : PySem.Str) (He.ga K ("Ratio" : PySem.Str)) ("of" : PySem.Str) 1 B_Ratio_of _ fd10 [("value" : PySem.Str)] := ⟨He.glo_ok h.X0 h.G0 (h.c.fact 9), (sta_ok (h.c.fact 14)).1, (sta_ok (h.c.fact 14)).2.1, (sta_ok (h.c.fact 14)).2.2, F10.kp, ok10, ar_of⟩
  have ht_mul : ∀ c B, List.lookup c [(0, B_Ratio___mul__)] = some B → (∃ f fd ps, OwnOk (gm K) P w mg base 6 ("__mul__" : PySem.Str) c B f fd ps 2) ∧ BinOk (gm K) ("__mul__" : PySem.Str) ("__rmul__" : PySem.Str) ["int"] [0] c := (lk_cons ⟨⟨_, fd6, [("self" : PySem.Str), ("other" : PySem.Str)], (He.meth_ok (h.c.fact 28)).at_, (He.meth_ok (h.c.fact 28)).fn, fn_up ok6 (by decide), F6.bindsN (ps := [("self" : PySem.Str), ("other" : PySem.Str)]) fun _ _ _ _ _ _ us hl => match us, hl with | [_, _], _ => rfl, ar_of⟩, ⟨(h.c.fact 19), rd_ok (h.c.fact 29), (mem_cons ⟨by decide, biT_ok (h.c.fact 27)⟩ mem_nil), (mem_cons (.inl rfl) mem_nil)⟩⟩ lk_nil)
  have mt_over_1 : ∀ c B, List.lookup c [(0, B_Ratio_over)] = some B → ∃ n f fd ps ds dvs, MtOk (gm K) P w mg base 6 c ("over" : PySem.Str) n B f fd ps ds dvs ∧ ∀ F, RepL (gm K) F [] dvs := (lk_cons ⟨2, _, fd12, [("self" : PySem.Str), ("other" : PySem.Str)], _, _, ⟨(clo0 h).1, He.meth_ok (h.c.fact 25), fn_up ok12 (by decide), ar_of, (F12.bindsN (ps := [("self" : PySem.Str), ("other" : PySem.Str)]) fun _ _ _ _ _ _ us hl => match us, hl with | [_, _], _ => rfl), .nil⟩, (fun _ => .nil)⟩ lk_nil)
  have nw4 : NwOk (gm K) P w mg base 3 ("Ratio" : PySem.Str) 0 3 B_Ratio___init__ _ fd4 [("self" : PySem.Str), ("top" : PySem.Str), ("bottom" : PySem.Str)] := ⟨He.glo_ok h.X0 h.G0 (h.c.fact 9), He.mkr_ok (h.c.fact 11), rfl, ok4, ar_of, rfl⟩
  obtain ⟨bd4_2, bd4_2_v, bd4_2_b⟩ := F4.binds1 (ps := [("self" : PySem.Str), ("top" : PySem.Str), ("bottom" : PySem.Str)]) 2 0 (List.cons_ne_nil _ _) rfl fun T kV doc pm an cdv ct us its h1 h2 => ⟨_, rfl, match us, h1, its, h2 with | [_, _], _, [_], _ => rfl⟩
  have hN : N20.Nodup := sc20.nd
  obtain ⟨fd, F⟩ := h.c.def_ 20 (d := d20) rfl
  exact ⟨fd, F, def_ok (G := gm K) (N := N20) (k := 7) (O' := []) F sc20 fun cdv A outer s H E hr tk => (s_cons (s_expr (e_call tk (hr.mono (by decide)) g11 (F11.bindsN (ps := [("k" : PySem.Str), ("other" : PySem.Str), ("beats" : PySem.Str)]) fun _ _ _ _ _ _ us hl => match us, hl with | [_, _, _], _ => rfl) .nil (fun _ => .nil) (a_cons (e_var 0) (a_cons (e_var 1) (a_cons (e_var 2) a_nil))))) (s_one (s_ret (e_bin (o_bin [(0, B_Ratio___mul__)] ["int"] [0] tk (hr.mono (by decide)) o_mul ht_mul) (e_bin (o_bin [(0, B_Ratio___mul__)] ["int"] [0] tk (hr.mono (by decide)) o_mul ht_mul) (e_stat tk (hr.mono (by decide)) st10 (F10.bindsN (ps := [("value" : PySem.Str)]) fun _ _ _ _ _ _ us hl => match us, hl with | [_], _ => rfl) .nil (fun _ => .nil) (a_cons (e_var 2) a_nil)) (e_var 1)) (e_meth [(0, B_Ratio_over)] tk (hr.mono (by decide)) (show ("over" : PySem.Str) ∉ flds by decide +kernel) (e_new tk (hr.mono (by decide)) nw4 bd4_2_b bd4_2_v (fun _ => (.cons .int .nil)) (a_cons e_int a_nil)) (a_cons (e_var 0) a_nil) mt_over_1)))))⟩
theorem ok_21 {P : Program} {w : World} {K : PySem.W.Frag} {mg : Str → Option Value} {base : Heap} (h : Hy K mg base) : ∃ fd, FunD K d21.name d21.qual d21.params d21.body d21.scope (d21.dvs K) [] (d21.wh.ad K) fd ∧ FnB P w (gm K) mg base 11 (d21.wh.ad K) fd [("_law_k" : PySem.Str), ("_law_other" : PySem.Str), ("_law_beats" : PySem.Str)] 3 [] B__law_sums_right := by
  obtain ⟨fd4, F4, ok4⟩ := ok_4 (P := P) (w := w) h
  obtain ⟨fd6, F6, ok6⟩ := ok_6 (P := P) (w := w) h
  obtain ⟨fd20, F20, ok20⟩ := ok_20 (P := P) (w := w) h
  obtain ⟨fd18, F18, ok18⟩ := ok_18 (P := P) (w := w) h
  obtain ⟨fd19, F19, ok19⟩ := ok_19 (P := P) (w := w) h
  obtain ⟨fd16, F16, ok16⟩ := ok_16 (P := P) (w := w) h
  obtain ⟨fd15, F15, ok15⟩ := ok_15 (P := P) (w := w) h
  obtain ⟨fd17, F17, ok17⟩ := ok_17 (P := P) (w := w) h
  obtain ⟨fd7, F7, ok7⟩ := ok_7 (P := P) (w := w) h
  have nw4 : NwOk (gm K) P w mg base 3 ("Ratio" : PySem.Str) 0 3 B_Ratio___init__ _ fd4 [("self" : PySem.Str), ("top" : PySem.Str), ("bottom" : PySem.Str)] := ⟨He.glo_ok h.X0 h.G0 (h.c.fact 9), He.mkr_ok (h.c.fact 11), rfl, ok4, ar_of, rfl⟩
  obtain ⟨bd4_3, bd4_3_v, bd4_3_b⟩ := F4.binds1 (ps := [("self" : PySem.Str), ("top" : PySem.Str), ("bottom" : PySem.Str)]) 3 1 (List.cons_ne_nil _ _) rfl fun T kV doc pm an cdv ct us its h1 h2 => ⟨_, rfl, match us, h1, its, h2 with | [_, _, _], _, [_], _ => rfl⟩
  have ht_mul : ∀ c B, List.lookup c [(0, B_Ratio___mul__)] = some B → (∃ f fd ps, OwnOk (gm K) P w mg base 6 ("__mul__" : PySem.Str) c B f fd ps 2) ∧ BinOk (gm K) ("__mul__" : PySem.Str) ("__rmul__" : PySem.Str) ["int"] [0] c := (lk_cons ⟨⟨_, fd6, [("self" : PySem.Str), ("other" : PySem.Str)], (He.meth_ok (h.c.fact 28)).at_, (He.meth_ok (h.c.fact 28)).fn, fn_up ok6 (by decide), F6.bindsN (ps := [("self" : PySem.Str), ("other" : PySem.Str)]) fun _ _ _ _ _ _ us hl => match us, hl with | [_, _], _ => rfl, ar_of⟩, ⟨(h.c.fact 19), rd_ok (h.c.fact 29), (mem_cons ⟨by decide, biT_ok (h.c.fact 27)⟩ mem_nil), (mem_cons (.inl rfl) mem_nil)⟩⟩ lk_nil)
  have g20 : GlOk (gm K) P w mg base 8 ("beats_right" : PySem.Str) 3 [] B_beats_right _ fd20 [("k" : PySem.Str), ("other" : PySem.Str), ("beats" : PySem.Str)] := ⟨He.glo_ok h.X0 h.G0 (h.c.fact 31), F20.kp, ok20, ar_of⟩
  have ht_eqN : ∀ c B, List.lookup c [(0, B_Ratio___eq__)] = some B → (∃ f fd ps, OwnOk (gm K) P w mg base 3 "__eq__" c B f fd ps 2) ∧ CmpOk (gm K) ["int"] [0] c ∧ NeOk (gm K) c := (lk_cons ⟨⟨_, fd18, [("self" : PySem.Str), ("other" : PySem.Str)], (He.meth_ok (h.c.fact 34)).at_, (He.meth_ok (h.c.fact 34)).fn, fn_up ok18 (by decide), F18.bindsN (ps := [("self" : PySem.Str), ("other" : PySem.Str)]) fun _ _ _ _ _ _ us hl => match us, hl with | [_, _], _ => rfl, ar_of⟩, ⟨(mem_cons ⟨by decide, (h.c.fact 32)⟩ mem_nil), (mem_cons (h.c.fact 33) mem_nil)⟩, ⟨eqF_ok (h.c.fact 35), (ty0 h).hm⟩⟩ lk_nil)
  have g19 : GlOk (gm K) P w mg base 8 ("beats_left" : PySem.Str) 3 [] B_beats_left _ fd19 [("k" : PySem.Str), ("other" : PySem.Str), ("beats" : PySem.Str)] := ⟨He.glo_ok h.X0 h.G0 (h.c.fact 36), F19.kp, ok19, ar_of⟩
  have g16 : GlOk (gm K) P w mg base 9 ("echo_beats" : PySem.Str) 3 [] B_echo_beats _ fd16 [("k" : PySem.Str), ("other" : PySem.Str), ("beats" : PySem.Str)] := ⟨He.glo_ok h.X0 h.G0 (h.c.fact 30), F16.kp, ok16, ar_of⟩
  have mt_is_below_1 : ∀ c B, List.lookup c [(0, B_Ratio_is_below)] = some B → ∃ n f fd ps ds dvs, MtOk (gm K) P w mg base 8 c ("is_below" : PySem.Str) n B f fd ps ds dvs ∧ ∀ F, RepL (gm K) F [] dvs := (lk_cons ⟨2, _, fd15, [("self" : PySem.Str), ("other" : PySem.Str)], _, _, ⟨(clo0 h).1, He.meth_ok (h.c.fact 26), fn_up ok15 (by decide), ar_of, (F15.bindsN (ps := [("self" : PySem.Str), ("other" : PySem.Str)]) fun _ _ _ _ _ _ us hl => match us, hl with | [_, _], _ => rfl), .nil⟩, (fun _ => .nil)⟩ lk_nil)
  have g17 : GlOk (gm K) P w mg base 10 ("middle_beats" : PySem.Str) 3 [] B_middle_beats _ fd17 [("k" : PySem.Str), ("other" : PySem.Str), ("beats" : PySem.Str)] := ⟨He.glo_ok h.X0 h.G0 (h.c.fact 37), F17.kp, ok17, ar_of⟩
  have m_isinstance : mg ("isinstance" : PySem.Str) = none := He.free_ok h.X0 h.G0 (h.c.fact 4)
  have ht_add : ∀ c B, List.lookup c [(0, B_Ratio___add__)] = some B → (∃ f fd ps, OwnOk (gm K) P w mg base 6 ("__add__" : PySem.Str) c B f fd ps 2) ∧ BinOk (gm K) ("__add__" : PySem.Str) ("__radd__" : PySem.Str) ["int"] [0] c := (lk_cons ⟨⟨_, fd7, [("self" : PySem.Str), ("other" : PySem.Str)], (He.meth_ok (h.c.fact 18)).at_, (He.meth_ok (h.c.fact 18)).fn, fn_up ok7 (by decide), F7.bindsN (ps := [("self" : PySem.Str), ("other" : PySem.Str)]) fun _ _ _ _ _ _ us hl => match us, hl with | [_, _], _ => rfl, ar_of⟩, ⟨(h.c.fact 19), rd_ok (h.c.fact 20), (mem_cons ⟨by decide, biT_ok (h.c.fact 17)⟩ mem_nil), (mem_cons (.inl rfl) mem_nil)⟩⟩ lk_nil)
  have ht_eq : ∀ c B, List.lookup c [(0, B_Ratio___eq__)] = some B → (∃ f fd ps, OwnOk (gm K) P w mg base 3 ("__eq__" : PySem.Str) c B f fd ps 2) ∧ CmpOk (gm K) ["int"] [0] c := (lk_cons ⟨⟨_, fd18, [("self" : PySem.Str), ("other" : PySem.Str)], (He.meth_ok (h.c.fact 34)).at_, (He.meth_ok (h.c.fact 34)).fn, fn_up ok18 (by decide), F18.bindsN (ps := [("self" : PySem.Str), ("other" : PySem.Str)]) fun _ _ _ _ _ _ us hl => match us, hl with | [_, _], _ => rfl, ar_of⟩, ⟨(mem_cons ⟨by decide, (h.c.fact 32)⟩ mem_nil), (mem_cons (h.c.fact 33) mem_nil)⟩⟩ lk_nil)
  have hN : N21.Nodup := sc21.nd
  obtain ⟨fd, F⟩ := h.c.def_ 21 (d := d21) rfl
  exact ⟨fd, F, def_ok (G := gm K) (N := N21) (k := 10) (O' := []) F sc21 fun cdv A outer s H E hr tk => (s_cons (s_to (O2 := []) (s_par3 3 4 5 (a_cons (e_new tk (hr.mono (by decide)) nw4 bd4_3_b bd4_3_v (fun _ => .nil) (a_cons (e_ix (e_var 0) e_int) (a_cons (e_ix (e_var 0) e_int) a_nil))) (a_cons (e_new tk (hr.mono (by decide)) nw4 bd4_3_b bd4_3_v (fun _ => .nil) (a_cons (e_ix (e_var 1) e_int) (a_cons (e_ix (e_var 1) e_int) a_nil))) (a_cons (e_new tk (hr.mono (by decide)) nw4 bd4_3_b bd4_3_v (fun _ => .nil) (a_cons (e_ix (e_var 2) e_int) (a_cons (e_ix (e_var 2) e_int) a_nil))) a_nil))))) (s_cons (s_to (O2 := []) (s_set 6 (e_new tk (hr.mono (by decide)) nw4 bd4_3_b bd4_3_v (fun _ => .nil) (a_cons (e_bin (o_bin [(0, B_Ratio___mul__)] ["int"] [0] tk (hr.mono (by decide)) o_mul ht_mul) (e_bin (o_bin [(0, B_Ratio___mul__)] ["int"] [0] tk (hr.mono (by decide)) o_mul ht_mul) (e_ix (e_var 2) e_int) (e_ix (e_var 1) e_int)) (e_ix (e_var 0) e_int)) (a_cons (e_bin (o_bin [(0, B_Ratio___mul__)] ["int"] [0] tk (hr.mono (by decide)) o_mul ht_mul) (e_bin (o_bin [(0, B_Ratio___mul__)] ["int"] [0] tk (hr.mono (by decide)) o_mul ht_mul) (e_ix (e_var 2) e_int) (e_ix (e_var 1) e_int)) (e_ix (e_var 0) e_int)) a_nil))))) (s_cons (s_to (O2 := []) (s_set 7 (e_new tk (hr.mono (by decide)) nw4 bd4_3_b bd4_3_v (fun _ => .nil) (a_cons (e_bin (o_bin [(0, B_Ratio___mul__)] ["int"] [0] tk (hr.mono (by decide)) o_mul ht_mul) (e_bin (o_bin [(0, B_Ratio___mul__)] ["int"] [0] tk (hr.mono (by decide)) o_mul ht_mul) (e_ix (e_var 2) e_int) (e_ix (e_var 0) e_int)) (e_ix (e_var 1) e_int)) (a_cons (e_bin (o_bin [(0, B_Ratio___mul__)] ["int"] [0] tk (hr.mono (by decide)) o_mul ht_mul) (e_bin (o_bin [(0, B_Ratio___mul__)] ["int"] [0] tk (hr.mono (by decide)) o_mul ht_mul) (e_ix (e_var 2) e_int) (e_ix (e_var 0) e_int)) (e_ix (e_var 1) e_int)) a_nil))))) (s_cons (s_if (t_bo (w_or (t_cmp (o_neW [(0, B_Ratio___eq__)] ["int"] [0] tk (hr.mono (by decide)) (o_ne hr) ht_eqN) (e_callK0 tk (hr.mono (by decide)) g20 (bindK0 (ps := [("k" : PySem.Str), ("other" : PySem.Str), ("beats" : PySem.Str)]) F20 0 [("beats" : PySem.Str), ("other" : PySem.Str), ("k" : PySem.Str)] [2, 1, 0] fun _ _ _ _ _ _ us ws h1 h2 => match us, h1, ws, h2 with | [], _, [_, _, _], _ => rfl) .nil (fun _ => .nil) (k_cons (e_var 5) (k_cons (e_var 4) (k_cons (e_var 3) k_nil)))) (e_var 6)) (w_or1 (t_cmp (o_neW [(0, B_Ratio___eq__)] ["int"] [0] tk (hr.mono (by decide)) (o_ne hr) ht_eqN) (e_callK0 tk (hr.mono (by decide)) g19 (bindK0 (ps := [("k" : PySem.Str), ("other" : PySem.Str), ("beats" : PySem.Str)]) F19 0 [("k" : PySem.Str), ("other" : PySem.Str), ("beats" : PySem.Str)] [0, 1, 2] fun _ _ _ _ _ _ us ws h1 h2 => match us, h1, ws, h2 with | [], _, [_, _, _], _ => rfl) .nil (fun _ => .nil) (k_cons (e_var 3) (k_cons (e_var 4) (k_cons (e_var 5) k_nil)))) (e_var 7))))) (s_one (s_ret e_bl)) s_nil) (s_cons (s_if (t_bo (w_or (t_cmp (o_neW [(0, B_Ratio___eq__)] ["int"] [0] tk (hr.mono (by decide)) (o_ne hr) ht_eqN) (e_call tk (hr.mono (by decide)) g20 (F20.bindsN (ps := [("k" : PySem.Str), ("other" : PySem.Str), ("beats" : PySem.Str)]) fun _ _ _ _ _ _ us hl => match us, hl with | [_, _, _], _ => rfl) .nil (fun _ => .nil) (a_cons (e_var 4) (a_cons (e_var 3) (a_cons (e_var 6) a_nil)))) (e_var 5)) (w_or (t_cmp (o_neW [(0, B_Ratio___eq__)] ["int"] [0] tk (hr.mono (by decide)) (o_ne hr) ht_eqN) (e_call tk (hr.mono (by decide)) g19 (F19.bindsN (ps := [("k" : PySem.Str), ("other" : PySem.Str), ("beats" : PySem.Str)]) fun _ _ _ _ _ _ us hl => match us, hl with | [_, _, _], _ => rfl) .nil (fun _ => .nil) (a_cons (e_var 4) (a_cons (e_var 3) (a_cons (e_var 7) a_nil)))) (e_var 5)) (w_or1 (t_cmp (o_neW [(0, B_Ratio___eq__)] ["int"] [0] tk (hr.mono (by decide)) (o_ne hr) ht_eqN) (e_call tk (hr.mono (by decide)) g19 (F19.bindsN (ps := [("k" : PySem.Str), ("other" : PySem.Str), ("beats" : PySem.Str)]) fun _ _ _ _ _ _ us hl => match us, hl with | [_, _, _], _ => rfl) .nil (fun _ => .nil) (a_cons (e_var 4) (a_cons (e_var 3) (a_cons (e_var 5) a_nil)))) (e_var 6)))))) (s_one (s_ret e_bl)) s_nil) (s_cons (s_to (O2 := []) (s_set 8 (e_cmp o_le (e_bin (o_bin [(0, B_Ratio___mul__)] ["int"] [0] tk (hr.mono (by decide)) o_mul ht_mul) (e_ix (e_var 0) e_int) (e_ix (e_var 1) e_int)) (e_bin (o_bin [(0, B_Ratio___mul__)] ["int"] [0] tk (hr.mono (by decide)) o_mul ht_mul) (e_ix (e_var 1) e_int) (e_ix (e_var 0) e_int))))) (s_cons (s_to (O2 := []) (s_set 9 (e_if (t_val (e_var 8)) (e_call tk (hr.mono (by decide)) g19 (F19.bindsN (ps := [("k" : PySem.Str), ("other" : PySem.Str), ("beats" : PySem.Str)]) fun _ _ _ _ _ _ us hl => match us, hl with | [_, _, _], _ => rfl) .nil (fun _ => .nil) (a_cons (e_var 4) (a_cons (e_var 3) (a_cons (e_var 6) a_nil)))) (e_call tk (hr.mono (by decide)) g20 (F20.bindsN (ps := [("k" : PySem.Str), ("other" : PySem.Str), ("beats" : PySem.Str)]) fun _ _ _ _ _ _ us hl => match us, hl with | [_, _, _], _ => rfl) .nil (fun _ => .nil) (a_cons (e_var 4) (a_cons (e_var 3) (a_cons (e_var 7) a_nil))))))) (s_cons (s_if (t_bo (w_or (t_cmp (o_neW [(0, B_Ratio___eq__)] ["int"] [0] tk (hr.mono (by decide)) (o_ne hr) ht_eqN) (e_call tk (hr.mono (by decide)) g16 (F16.bindsN (ps := [("k" : PySem.Str), ("other" : PySem.Str), ("beats" : PySem.Str)]) fun _ _ _ _ _ _ us hl => match us, hl with | [_, _, _], _ => rfl) .nil (fun _ => .nil) (a_cons (e_var 3) (a_cons (e_var 4) (a_cons (e_var 5) a_nil)))) (e_var 9)) (w_or (t_cmp (o_neW [(0, B_Ratio___eq__)] ["int"] [0] tk (hr.mono (by decide)) (o_ne hr) ht_eqN) (e_call tk (hr.mono (by decide)) g16 (F16.bindsN (ps := [("k" : PySem.Str), ("other" : PySem.Str), ("beats" : PySem.Str)]) fun _ _ _ _ _ _ us hl => match us, hl with | [_, _, _], _ => rfl) .nil (fun _ => .nil) (a_cons (e_var 4) (a_cons (e_var 3) (a_cons (e_var 5) a_nil)))) (e_var 9)) (w_or1 (t_val (e_meth [(0, B_Ratio_is_below)] tk (hr.mono (by decide)) (show ("is_below" : PySem.Str) ∉ flds by decide +kernel) (e_var 9) (a_cons (e_var 5) a_nil) mt_is_below_1)))))) (s_one (s_ret e_bl)) s_nil) (s_cons (s_to (O2 := []) (s_set 10 (e_callK0 tk (hr.mono (by decide)) g17 (bindK0 (ps := [("k" : PySem.Str), ("other" : PySem.Str), ("beats" : PySem.Str)]) F17 0 [("other" : PySem.Str), ("beats" : PySem.Str), ("k" : PySem.Str)] [2, 0, 1] fun _ _ _ _ _ _ us ws h1 h2 => match us, h1, ws, h2 with | [], _, [_, _, _], _ => rfl) .nil (fun _ => .nil) (k_cons (e_var 4) (k_cons (e_var 5) (k_cons (e_var 3) k_nil)))))) (s_cons (s_if (t_cmp (o_neW [(0, B_Ratio___eq__)] ["int"] [0] tk (hr.mono (by decide)) (o_ne hr) ht_eqN) (e_lcF (vs := [11]) [(("_law_one" : PySem.Str), 11)] rfl (i_seq (e_tup (a_cons (e_call tk (hr.mono (by decide)) g20 (F20.bindsN (ps := [("k" : PySem.Str), ("other" : PySem.Str), ("beats" : PySem.Str)]) fun _ _ _ _ _ _ us hl => match us, hl with | [_, _, _], _ => rfl) .nil (fun _ => .nil) (a_cons e_int (a_cons e_int (a_cons e_int a_nil)))) (a_cons (e_call tk (hr.mono (by decide)) g19 (F19.bindsN (ps := [("k" : PySem.Str), ("other" : PySem.Str), ("beats" : PySem.Str)]) fun _ _ _ _ _ _ us hl => match us, hl with | [_, _, _], _ => rfl) .nil (fun _ => .nil) (a_cons e_int (a_cons e_int (a_cons e_int a_nil)))) (a_cons (e_call tk (hr.mono (by decide)) g16 (F16.bindsN (ps := [("k" : PySem.Str), ("other" : PySem.Str), ("beats" : PySem.Str)]) fun _ _ _ _ _ _ us hl => match us, hl with | [_, _, _], _ => rfl) .nil (fun _ => .nil) (a_cons e_int (a_cons e_int (a_cons e_int a_nil)))) (a_cons (e_var 10) a_nil)))))) (blkOk_by (by kernel_rfl)) (fun _ _ _ _ _ => (g_to (O2 := []) (g_name 11))) (fun _ _ _ _ _ => (pts_1 (t_not (t_val (e_isi (e_var 11) (cv_own (He.glo_ok h.X0 h.G0 (h.c.fact 9))) (kn_own (k := 0) [(0, true)] (lk_cons ⟨ty0 h, eqF_ok (h.c.fact 8)⟩ lk_nil) fun m hm => eqF_ok (List.all_eq_true.mp (h.c.fact 10) m hm))))))) (fun _ _ _ _ _ => (e_var 11))).fz (e_lst a_nil)) (s_one (s_ret e_bl)) s_nil) (s_one (s_ret (e_and (e_cmp (o_eqT [(0, B_Ratio___eq__)] ["int"] [0] tk (hr.mono (by decide)) ht_eq) (e_bin (o_bin [(0, B_Ratio___mul__)] ["int"] [0] tk (hr.mono (by decide)) o_mul ht_mul) (e_var 10) e_int) (e_bin (o_bin [(0, B_Ratio___add__)] ["int"] [0] tk (hr.mono (by decide)) o_add ht_add) (e_var 9) (e_var 5))) (e_bo1 (e_cmp (o_eqT [(0, B_Ratio___eq__)] ["int"] [0] tk (hr.mono (by decide)) ht_eq) (e_callK0 tk (hr.mono (by decide)) g16 (bindK0 (ps := [("k" : PySem.Str), ("other" : PySem.Str), ("beats" : PySem.Str)]) F16 0 [("k" : PySem.Str), ("beats" : PySem.Str), ("other" : PySem.Str)] [0, 2, 1] fun _ _ _ _ _ _ us ws h1 h2 => match us, h1, ws, h2 with | [], _, [_, _, _], _ => rfl) .nil (fun _ => .nil) (k_cons (e_var 3) (k_cons (e_bin (o_bin [(0, B_Ratio___mul__)] ["int"] [0] tk (hr.mono (by decide)) o_mul ht_mul) (e_var 5) e_int) (k_cons (e_var 4) k_nil)))) (e_bin (o_bin [(0, B_Ratio___mul__)] ["int"] [0] tk (hr.mono (by decide)) o_mul ht_mul) (e_var 9) e_int))))))))))))))))⟩
theorem ok_22 {P : Program} {w : World} {K : PySem.W.Frag} {mg : Str → Option Value} {base : Heap} (h : Hy K mg base) : ∃ fd, FunD K d22.name d22.qual d22.params d22.body d22.scope (d22.dvs K) [] (d22.wh.ad K) fd ∧ FnB P w (gm K) mg base 2 (d22.wh.ad K) fd [("value" : PySem.Str)] 1 [] B_is_listed := by
  have m_isinstance : mg ("isinstance" : PySem.Str) = none := He.free_ok h.X0 h.G0 (h.c.fact 4)
  have m_tuple : mg ("tuple" : PySem.Str) = none := He.free_ok h.X0 h.G0 (h.c.fact 38)
  have m_list : mg ("list" : PySem.Str) = none := He.free_ok h.X0 h.G0 (h.c.fact 39)
  have hN : N22.Nodup := sc22.nd
  obtain ⟨fd, F⟩ := h.c.def_ 22 (d := d22) rfl
  exact ⟨fd, F, def_ok (G := gm K) (N := N22) (k := 1) (O' := []) F sc22 fun cdv A outer s H E hr tk => (s_one (s_ret (e_isT (e_var 0) (cvs_cons cv_ty (kn_ty (n := "list") [] mem_nil) (cvs_cons cv_ty (kn_ty (n := "tuple") [] mem_nil) cvs_nil)))))⟩
theorem ok_23 {P : Program} {w : World} {K : PySem.W.Frag} {mg : Str → Option Value} {base : Heap} (h : Hy K mg base) : ∃ fd, FunD K d23.name d23.qual d23.params d23.body d23.scope (d23.dvs K) [] (d23.wh.ad K) fd ∧ FnB P w (gm K) mg base 4 (d23.wh.ad K) fd [("value" : PySem.Str)] 1 [] B_are_ratios := by
  obtain ⟨fd22, F22, ok22⟩ := ok_22 (P := P) (w := w) h
  obtain ⟨fd8, F8, ok8⟩ := ok_8 (P := P) (w := w) h
  have g22 : GlOk (gm K) P w mg base 2 ("is_listed" : PySem.Str) 1 [] B_is_listed _ fd22 [("value" : PySem.Str)] := ⟨He.glo_ok h.X0 h.G0 (h.c.fact 40), F22.kp, ok22, ar_of⟩
  have m_all : mg ("all" : PySem.Str) = none := He.free_ok h.X0 h.G0 (h.c.fact 41)
  have g8 : GlOk (gm K) P w mg base 3 ("is_ratio" : PySem.Str) 1 [] B_is_ratio _ fd8 [("value" : PySem.Str)] := ⟨He.glo_ok h.X0 h.G0 (h.c.fact 13), F8.kp, ok8, ar_of⟩
  have hN : N23.Nodup := sc23.nd
  obtain ⟨fd, F⟩ := h.c.def_ 23 (d := d23) rfl
  exact ⟨fd, F, def_ok (G := gm K) (N := N23) (k := 3) (O' := []) F sc23 fun cdv A outer s H E hr tk => (s_one (s_ret (e_and (e_call tk (hr.mono (by decide)) g22 (F22.bindsN (ps := [("value" : PySem.Str)]) fun _ _ _ _ _ _ us hl => match us, hl with | [_], _ => rfl) .nil (fun _ => .nil) (a_cons (e_var 0) a_nil)) (e_bo1 (e_all (a_cons (e_lcF (vs := [1]) [(("each" : PySem.Str), 1)] rfl (i_seq (e_var 0)) (blkOk_by (by kernel_rfl)) (fun _ _ _ _ _ => (g_to (O2 := []) (g_name 1))) (fun _ _ _ _ _ => pts_no) (fun _ _ _ _ _ => (e_call takes_blk (hr.mono (by decide)) g8 (F8.bindsN (ps := [("value" : PySem.Str)]) fun _ _ _ _ _ _ us hl => match us, hl with | [_], _ => rfl) .nil (fun _ => .nil) (a_cons (e_var 1) a_nil)))).fz a_nil))))))⟩
theorem ok_24 {P : Program} {w : World} {K : PySem.W.Frag} {mg : Str → Option Value} {base : Heap} (h : Hy K mg base) : ∃ fd, FunD K d24.name d24.qual d24.params d24.body d24.scope (d24.dvs K) [] (d24.wh.ad K) fd ∧ FnB P w (gm K) mg base 7 (d24.wh.ad K) fd [("ratios" : PySem.Str)] 1 [] B_summed := by
  obtain ⟨fd23, F23, ok23⟩ := ok_23 (P := P) (w := w) h
  obtain ⟨fd4, F4, ok4⟩ := ok_4 (P := P) (w := w) h
  obtain ⟨fd7, F7, ok7⟩ := ok_7 (P := P) (w := w) h
  have g23 : GlOk (gm K) P w mg base 4 ("are_ratios" : PySem.Str) 1 [] B_are_ratios _ fd23 [("value" : PySem.Str)] := ⟨He.glo_ok h.X0 h.G0 (h.c.fact 42), F23.kp, ok23, ar_of⟩
  have nw4 : NwOk (gm K) P w mg base 3 ("Ratio" : PySem.Str) 0 3 B_Ratio___init__ _ fd4 [("self" : PySem.Str), ("top" : PySem.Str), ("bottom" : PySem.Str)] := ⟨He.glo_ok h.X0 h.G0 (h.c.fact 9), He.mkr_ok (h.c.fact 11), rfl, ok4, ar_of, rfl⟩
  obtain ⟨bd4_2, bd4_2_v, bd4_2_b⟩ := F4.binds1 (ps := [("self" : PySem.Str), ("top" : PySem.Str), ("bottom" : PySem.Str)]) 2 0 (List.cons_ne_nil _ _) rfl fun T kV doc pm an cdv ct us its h1 h2 => ⟨_, rfl, match us, h1, its, h2 with | [_, _], _, [_], _ => rfl⟩
  have ht_add : ∀ c B, List.lookup c [(0, B_Ratio___add__)] = some B → (∃ f fd ps, OwnOk (gm K) P w mg base 6 ("__add__" : PySem.Str) c B f fd ps 2) ∧ BinOk (gm K) ("__add__" : PySem.Str) ("__radd__" : PySem.Str) ["int"] [0] c := (lk_cons ⟨⟨_, fd7, [("self" : PySem.Str), ("other" : PySem.Str)], (He.meth_ok (h.c.fact 18)).at_, (He.meth_ok (h.c.fact 18)).fn, fn_up ok7 (by decide), F7.bindsN (ps := [("self" : PySem.Str), ("other" : PySem.Str)]) fun _ _ _ _ _ _ us hl => match us, hl with | [_, _], _ => rfl, ar_of⟩, ⟨(h.c.fact 19), rd_ok (h.c.fact 20), (mem_cons ⟨by decide, biT_ok (h.c.fact 17)⟩ mem_nil), (mem_cons (.inl rfl) mem_nil)⟩⟩ lk_nil)
  have hN : N24.Nodup := sc24.nd
  obtain ⟨fd, F⟩ := h.c.def_ 24 (d := d24) rfl
  exact ⟨fd, F, def_ok (G := gm K) (N := N24) (k := 6) (O' := []) F sc24 fun cdv A outer s H E hr tk => (s_cons (s_if (t_not (t_val (e_call tk (hr.mono (by decide)) g23 (F23.bindsN (ps := [("value" : PySem.Str)]) fun _ _ _ _ _ _ us hl => match us, hl with | [_], _ => rfl) .nil (fun _ => .nil) (a_cons (e_var 0) a_nil)))) (s_one s_no) s_nil) (s_cons (s_to (O2 := []) (s_set 1 (e_new tk (hr.mono (by decide)) nw4 bd4_2_b bd4_2_v (fun _ => (.cons .int .nil)) (a_cons e_int a_nil)))) (s_cons (s_for (OL := []) [2] (i_seq (e_var 0)) (g_to (O2 := []) (g_name 2)) (s_one (s_to (O2 := []) (s_set 1 (e_bin (o_bin [(0, B_Ratio___add__)] ["int"] [0] tk (hr.mono (by decide)) o_add ht_add) (e_var 1) (e_var 2))))) (passes_of rfl)) (s_one (s_ret (e_var 1))))))⟩
theorem ok_25 {P : Program} {w : World} {K : PySem.W.Frag} {mg : Str → Option Value} {base : Heap} (h : Hy K mg base) : ∃ fd, FunD K d25.name d25.qual d25.params d25.body d25.scope (d25.dvs K) [] (d25.wh.ad K) fd ∧ FnB P w (gm K) mg base 8 (d25.wh.ad K) fd [("one" : PySem.Str), ("other" : PySem.Str)] 2 [] B_product_at := by
  obtain ⟨fd6, F6, ok6⟩ := ok_6 (P := P) (w := w) h
  obtain ⟨fd24, F24, ok24⟩ := ok_24 (P := P) (w := w) h
  obtain ⟨fd14, F14, ok14⟩ := ok_14 (P := P) (w := w) h
  have ht_fl_time : ∀ c i, List.lookup c [(2, 0)] = some i → ClsOk (gm K) c ∧ ((gm K).lay c)[i]? = some ("time" : PySem.Str) := (lk_cons ⟨co2 h, rfl⟩ lk_nil)
  have ht_mul : ∀ c B, List.lookup c [(0, B_Ratio___mul__)] = some B → (∃ f fd ps, OwnOk (gm K) P w mg base 6 ("__mul__" : PySem.Str) c B f fd ps 2) ∧ BinOk (gm K) ("__mul__" : PySem.Str) ("__rmul__" : PySem.Str) ["int"] [0] c := (lk_cons ⟨⟨_, fd6, [("self" : PySem.Str), ("other" : PySem.Str)], (He.meth_ok (h.c.fact 28)).at_, (He.meth_ok (h.c.fact 28)).fn, fn_up ok6 (by decide), F6.bindsN (ps := [("self" : PySem.Str), ("other" : PySem.Str)]) fun _ _ _ _ _ _ us hl => match us, hl with | [_, _], _ => rfl, ar_of⟩, ⟨(h.c.fact 19), rd_ok (h.c.fact 29), (mem_cons ⟨by decide, biT_ok (h.c.fact 27)⟩ mem_nil), (mem_cons (.inl rfl) mem_nil)⟩⟩ lk_nil)
  have g24 : GlOk (gm K) P w mg base 7 ("summed" : PySem.Str) 1 [] B_summed _ fd24 [("ratios" : PySem.Str)] := ⟨He.glo_ok h.X0 h.G0 (h.c.fact 43), F24.kp, ok24, ar_of⟩
  have m_zip : mg ("zip" : PySem.Str) = none := He.free_ok h.X0 h.G0 (h.c.fact 44)
  have ht_fl_place : ∀ c i, List.lookup c [(2, 1)] = some i → ClsOk (gm K) c ∧ ((gm K).lay c)[i]? = some ("place" : PySem.Str) := (lk_cons ⟨co2 h, rfl⟩ lk_nil)
  have ht_sub : ∀ c B, List.lookup c [(0, B_Ratio___sub__)] = some B → (∃ f fd ps, OwnOk (gm K) P w mg base 7 ("__sub__" : PySem.Str) c B f fd ps 2) ∧ BinOk (gm K) ("__sub__" : PySem.Str) ("__rsub__" : PySem.Str) ["int"] [0] c := (lk_cons ⟨⟨_, fd14, [("self" : PySem.Str), ("other" : PySem.Str)], (He.meth_ok (h.c.fact 22)).at_, (He.meth_ok (h.c.fact 22)).fn, fn_up ok14 (by decide), F14.bindsN (ps := [("self" : PySem.Str), ("other" : PySem.Str)]) fun _ _ _ _ _ _ us hl => match us, hl with | [_, _], _ => rfl, ar_of⟩, ⟨(h.c.fact 19), rd_ok (h.c.fact 23), (mem_cons ⟨by decide, biT_ok (h.c.fact 21)⟩ mem_nil), (mem_cons (.inl rfl) mem_nil)⟩⟩ lk_nil)
  have hN : N25.Nodup := sc25.nd
  obtain ⟨fd, F⟩ := h.c.def_ 25 (d := d25) rfl
  exact ⟨fd, F, def_ok (G := gm K) (N := N25) (k := 7) (O' := []) F sc25 fun cdv A outer s H E hr tk => (s_one (s_ret (e_bin (o_bin [(0, B_Ratio___sub__)] ["int"] [0] tk (hr.mono (by decide)) o_sub ht_sub) (e_bin (o_bin [(0, B_Ratio___mul__)] ["int"] [0] tk (hr.mono (by decide)) o_mul ht_mul) (e_fl [(2, 0)] (e_var 0) ht_fl_time) (e_fl [(2, 0)] (e_var 1) ht_fl_time)) (e_call tk (hr.mono (by decide)) g24 (F24.bindsN (ps := [("ratios" : PySem.Str)]) fun _ _ _ _ _ _ us hl => match us, hl with | [_], _ => rfl) .nil (fun _ => .nil) (a_cons (e_lcF (vs := [2, 3]) [(("mine" : PySem.Str), 2), (("its" : PySem.Str), 3)] rfl (i_zip (a_cons (e_fl [(2, 1)] (e_var 0) ht_fl_place) (a_cons (e_fl [(2, 1)] (e_var 1) ht_fl_place) a_nil))) (blkOk_by (by kernel_rfl)) (fun _ _ _ _ _ => (g_tup (gs_cons (g_to (O2 := []) (g_name 2)) (gs_cons (g_to (O2 := []) (g_name 3)) gs_nil)))) (fun _ _ _ _ _ => pts_no) (fun _ _ _ _ _ => (e_bin (o_bin [(0, B_Ratio___mul__)] ["int"] [0] takes_blk (hr.mono (by decide)) o_mul ht_mul) (e_var 2) (e_var 3)))).fz a_nil)))))⟩
theorem ok_26 {P : Program} {w : World} {K : PySem.W.Frag} {mg : Str → Option Value} {base : Heap} (h : Hy K mg base) : ∃ fd, FunD K d26.name d26.qual d26.params d26.body d26.scope (d26.dvs K) [] (d26.wh.ad K) fd ∧ FnB P w (gm K) mg base 4 (d26.wh.ad K) fd [("time" : PySem.Str), ("square" : PySem.Str)] 2 [] B_kind_by := by
  obtain ⟨fd9, F9, ok9⟩ := ok_9 (P := P) (w := w) h
  have pr_sign : ∀ c B, List.lookup c [(0, B_Ratio_sign)] = some B → PrOk (gm K) P w mg base 2 c ("sign" : PySem.Str) B := (lk_cons ⟨(clo0 h).1, _, _, fd9, _, prp_ok (h.c.fact 15), ok9, F9.bindsN (ps := [("self" : PySem.Str)]) fun _ _ _ _ _ _ us hl => match us, hl with | [_], _ => rfl⟩ lk_nil)
  have hN : N26.Nodup := sc26.nd
  obtain ⟨fd, F⟩ := h.c.def_ 26 (d := d26) rfl
  exact ⟨fd, F, def_ok (G := gm K) (N := N26) (k := 3) (O' := []) F sc26 fun cdv A outer s H E hr tk => (s_cons (s_if (t_cmp o_lt (e_pr [(0, B_Ratio_sign)] (hr.mono (by decide)) (e_var 1) pr_sign) e_int) (s_one (s_ret e_str)) s_nil) (s_cons (s_if (t_cmp (o_eq hr) (e_pr [(0, B_Ratio_sign)] (hr.mono (by decide)) (e_var 0) pr_sign) e_int) (s_one (s_ret e_str)) s_nil) (s_one (s_ret (e_if (t_cmp o_gt (e_pr [(0, B_Ratio_sign)] (hr.mono (by decide)) (e_var 0) pr_sign) e_int) e_str e_str)))))⟩
theorem ok_27 {P : Program} {w : World} {K : PySem.W.Frag} {mg : Str → Option Value} {base : Heap} (h : Hy K mg base) : ∃ fd, FunD K d27.name d27.qual d27.params d27.body d27.scope (d27.dvs K) [] (d27.wh.ad K) fd ∧ FnB P w (gm K) mg base 9 (d27.wh.ad K) fd [("self" : PySem.Str), ("time" : PySem.Str), ("place" : PySem.Str)] 3 [0] B_Step___init__ := by
  obtain ⟨fd8, F8, ok8⟩ := ok_8 (P := P) (w := w) h
  obtain ⟨fd23, F23, ok23⟩ := ok_23 (P := P) (w := w) h
  obtain ⟨fd10, F10, ok10⟩ := ok_10 (P := P) (w := w) h
  obtain ⟨fd25, F25, ok25⟩ := ok_25 (P := P) (w := w) h
  obtain ⟨fd26, F26, ok26⟩ := ok_26 (P := P) (w := w) h
  have g8 : GlOk (gm K) P w mg base 3 ("is_ratio" : PySem.Str) 1 [] B_is_ratio _ fd8 [("value" : PySem.Str)] := ⟨He.glo_ok h.X0 h.G0 (h.c.fact 13), F8.kp, ok8, ar_of⟩
  have g23 : GlOk (gm K) P w mg base 4 ("are_ratios" : PySem.Str) 1 [] B_are_ratios _ fd23 [("value" : PySem.Str)] := ⟨He.glo_ok h.X0 h.G0 (h.c.fact 42), F23.kp, ok23, ar_of⟩
  have m_len : mg ("len" : PySem.Str) = none := He.free_ok h.X0 h.G0 (h.c.fact 1)
  have st10 : StOk (gm K) P w mg base 6 ("Ratio" : PySem.Str) (He.ga K ("Ratio" : PySem.Str)) ("of" : PySem.Str) 1 B_Ratio_of _ fd10 [("value" : PySem.Str)] := ⟨He.glo_ok h.X0 h.G0 (h.c.fact 9), (sta_ok (h.c.fact 14)).1, (sta_ok (h.c.fact 14)).2.1, (sta_ok (h.c.fact 14)).2.2, F10.kp, ok10, ar_of⟩
  have ht_fs_time : ∀ c i, List.lookup c [(2, 0)] = some i → ClsOk (gm K) c ∧ ((gm K).lay c)[i]? = some ("time" : PySem.Str) := lk_cons ⟨co2 h, rfl⟩ lk_nil
  have m_tuple : mg ("tuple" : PySem.Str) = none := He.free_ok h.X0 h.G0 (h.c.fact 38)
  have ht_fs_place : ∀ c i, List.lookup c [(2, 1)] = some i → ClsOk (gm K) c ∧ ((gm K).lay c)[i]? = some ("place" : PySem.Str) := lk_cons ⟨co2 h, rfl⟩ lk_nil
  have ht_fl_place : ∀ c i, List.lookup c [(2, 1)] = some i → ClsOk (gm K) c ∧ ((gm K).lay c)[i]? = some ("place" : PySem.Str) := (lk_cons ⟨co2 h, rfl⟩ lk_nil)
  have ht_fs_axes : ∀ c i, List.lookup c [(2, 2)] = some i → ClsOk (gm K) c ∧ ((gm K).lay c)[i]? = some ("axes" : PySem.Str) := lk_cons ⟨co2 h, rfl⟩ lk_nil
  have g25 : GlOk (gm K) P w mg base 8 ("product_at" : PySem.Str) 2 [] B_product_at _ fd25 [("one" : PySem.Str), ("other" : PySem.Str)] := ⟨He.glo_ok h.X0 h.G0 (h.c.fact 46), F25.kp, ok25, ar_of⟩
  have ht_fs_square : ∀ c i, List.lookup c [(2, 3)] = some i → ClsOk (gm K) c ∧ ((gm K).lay c)[i]? = some ("square" : PySem.Str) := lk_cons ⟨co2 h, rfl⟩ lk_nil
  have g26 : GlOk (gm K) P w mg base 4 ("kind_by" : PySem.Str) 2 [] B_kind_by _ fd26 [("time" : PySem.Str), ("square" : PySem.Str)] := ⟨He.glo_ok h.X0 h.G0 (h.c.fact 47), F26.kp, ok26, ar_of⟩
  have ht_fl_time : ∀ c i, List.lookup c [(2, 0)] = some i → ClsOk (gm K) c ∧ ((gm K).lay c)[i]? = some ("time" : PySem.Str) := (lk_cons ⟨co2 h, rfl⟩ lk_nil)
  have ht_fl_square : ∀ c i, List.lookup c [(2, 3), (4, 2)] = some i → ClsOk (gm K) c ∧ ((gm K).lay c)[i]? = some ("square" : PySem.Str) := (lk_cons ⟨co2 h, rfl⟩ (lk_cons ⟨co4 h, rfl⟩ lk_nil))
  have ht_fs_kind : ∀ c i, List.lookup c [(2, 4)] = some i → ClsOk (gm K) c ∧ ((gm K).lay c)[i]? = some ("kind" : PySem.Str) := lk_cons ⟨co2 h, rfl⟩ lk_nil
  have hN : N27.Nodup := sc27.nd
  obtain ⟨fd, F⟩ := h.c.def_ 27 (d := d27) rfl
  exact ⟨fd, F, def_ok (G := gm K) (N := N27) (k := 8) (O' := [0]) F sc27 fun cdv A outer s H E hr tk => (s_cons (s_if (t_not (t_val (e_call tk (hr.mono (by decide)) g8 (F8.bindsN (ps := [("value" : PySem.Str)]) fun _ _ _ _ _ _ us hl => match us, hl with | [_], _ => rfl) .nil (fun _ => .nil) (a_cons (e_var 1) a_nil)))) (s_one s_no) s_nil) (s_cons (s_if (t_bo (w_or (t_not (t_val (e_call tk (hr.mono (by decide)) g23 (F23.bindsN (ps := [("value" : PySem.Str)]) fun _ _ _ _ _ _ us hl => match us, hl with | [_], _ => rfl) .nil (fun _ => .nil) (a_cons (e_var 2) a_nil)))) (w_or1 (t_not (t_chain o_le o_le e_int (e_len (a_cons (e_var 2) a_nil)) (e_gint (He.int_ok h.X0 h.G0 (h.c.fact 45)))))))) (s_one s_no) s_nil) (s_cons (s_fld 0 [(2, 0)] (e_stat tk (hr.mono (by decide)) st10 (F10.bindsN (ps := [("value" : PySem.Str)]) fun _ _ _ _ _ _ us hl => match us, hl with | [_], _ => rfl) .nil (fun _ => .nil) (a_cons (e_var 1) a_nil)) ht_fs_time) (s_cons (s_fld 0 [(2, 1)] (e_tuple (a_cons (e_lcF (vs := [3]) [(("each" : PySem.Str), 3)] rfl (i_seq (e_var 2)) (blkOk_by (by kernel_rfl)) (fun _ _ _ _ _ => (g_to (O2 := [0]) (g_name 3))) (fun _ _ _ _ _ => pts_no) (fun _ _ _ _ _ => (e_stat takes_blk (hr.mono (by decide)) st10 (F10.bindsN (ps := [("value" : PySem.Str)]) fun _ _ _ _ _ _ us hl => match us, hl with | [_], _ => rfl) .nil (fun _ => .nil) (a_cons (e_var 3) a_nil)))).fz a_nil)) ht_fs_place) (s_cons (s_fld 0 [(2, 2)] (e_len (a_cons (e_fl [(2, 1)] (e_self 0) ht_fl_place) a_nil)) ht_fs_axes) (s_cons (s_fld 0 [(2, 3)] (e_call tk (hr.mono (by decide)) g25 (F25.bindsN (ps := [("one" : PySem.Str), ("other" : PySem.Str)]) fun _ _ _ _ _ _ us hl => match us, hl with | [_, _], _ => rfl) .nil (fun _ => .nil) (a_cons (e_self 0) (a_cons (e_self 0) a_nil))) ht_fs_square) (s_one (s_fld 0 [(2, 4)] (e_call tk (hr.mono (by decide)) g26 (F26.bindsN (ps := [("time" : PySem.Str), ("square" : PySem.Str)]) fun _ _ _ _ _ _ us hl => match us, hl with | [_, _], _ => rfl) .nil (fun _ => .nil) (a_cons (e_fl [(2, 0)] (e_self 0) ht_fl_time) (a_cons (e_fl [(2, 3), (4, 2)] (e_self 0) ht_fl_square) a_nil))) ht_fs_kind))))))))⟩
theorem ok_28 {P : Program} {w : World} {K : PySem.W.Frag} {mg : Str → Option Value} {base : Heap} (h : Hy K mg base) : ∃ fd, FunD K d28.name d28.qual d28.params d28.body d28.scope (d28.dvs K) [] (d28.wh.ad K) fd ∧ FnB P w (gm K) mg base 7 (d28.wh.ad K) fd [("parts" : PySem.Str)] 1 [] B_lights_along := by
  obtain ⟨fd4, F4, ok4⟩ := ok_4 (P := P) (w := w) h
  obtain ⟨fd7, F7, ok7⟩ := ok_7 (P := P) (w := w) h
  obtain ⟨fd12, F12, ok12⟩ := ok_12 (P := P) (w := w) h
  obtain ⟨fd6, F6, ok6⟩ := ok_6 (P := P) (w := w) h
  have nw4 : NwOk (gm K) P w mg base 3 ("Ratio" : PySem.Str) 0 3 B_Ratio___init__ _ fd4 [("self" : PySem.Str), ("top" : PySem.Str), ("bottom" : PySem.Str)] := ⟨He.glo_ok h.X0 h.G0 (h.c.fact 9), He.mkr_ok (h.c.fact 11), rfl, ok4, ar_of, rfl⟩
  obtain ⟨bd4_2, bd4_2_v, bd4_2_b⟩ := F4.binds1 (ps := [("self" : PySem.Str), ("top" : PySem.Str), ("bottom" : PySem.Str)]) 2 0 (List.cons_ne_nil _ _) rfl fun T kV doc pm an cdv ct us its h1 h2 => ⟨_, rfl, match us, h1, its, h2 with | [_, _], _, [_], _ => rfl⟩
  have ht_add : ∀ c B, List.lookup c [(0, B_Ratio___add__)] = some B → (∃ f fd ps, OwnOk (gm K) P w mg base 6 ("__add__" : PySem.Str) c B f fd ps 2) ∧ BinOk (gm K) ("__add__" : PySem.Str) ("__radd__" : PySem.Str) ["int"] [0] c := (lk_cons ⟨⟨_, fd7, [("self" : PySem.Str), ("other" : PySem.Str)], (He.meth_ok (h.c.fact 18)).at_, (He.meth_ok (h.c.fact 18)).fn, fn_up ok7 (by decide), F7.bindsN (ps := [("self" : PySem.Str), ("other" : PySem.Str)]) fun _ _ _ _ _ _ us hl => match us, hl with | [_, _], _ => rfl, ar_of⟩, ⟨(h.c.fact 19), rd_ok (h.c.fact 20), (mem_cons ⟨by decide, biT_ok (h.c.fact 17)⟩ mem_nil), (mem_cons (.inl rfl) mem_nil)⟩⟩ lk_nil)
  have mt_over_1 : ∀ c B, List.lookup c [(0, B_Ratio_over)] = some B → ∃ n f fd ps ds dvs, MtOk (gm K) P w mg base 6 c ("over" : PySem.Str) n B f fd ps ds dvs ∧ ∀ F, RepL (gm K) F [] dvs := (lk_cons ⟨2, _, fd12, [("self" : PySem.Str), ("other" : PySem.Str)], _, _, ⟨(clo0 h).1, He.meth_ok (h.c.fact 25), fn_up ok12 (by decide), ar_of, (F12.bindsN (ps := [("self" : PySem.Str), ("other" : PySem.Str)]) fun _ _ _ _ _ _ us hl => match us, hl with | [_, _], _ => rfl), .nil⟩, (fun _ => .nil)⟩ lk_nil)
  have ht_mul : ∀ c B, List.lookup c [(0, B_Ratio___mul__)] = some B → (∃ f fd ps, OwnOk (gm K) P w mg base 6 ("__mul__" : PySem.Str) c B f fd ps 2) ∧ BinOk (gm K) ("__mul__" : PySem.Str) ("__rmul__" : PySem.Str) ["int"] [0] c := (lk_cons ⟨⟨_, fd6, [("self" : PySem.Str), ("other" : PySem.Str)], (He.meth_ok (h.c.fact 28)).at_, (He.meth_ok (h.c.fact 28)).fn, fn_up ok6 (by decide), F6.bindsN (ps := [("self" : PySem.Str), ("other" : PySem.Str)]) fun _ _ _ _ _ _ us hl => match us, hl with | [_, _], _ => rfl, ar_of⟩, ⟨(h.c.fact 19), rd_ok (h.c.fact 29), (mem_cons ⟨by decide, biT_ok (h.c.fact 27)⟩ mem_nil), (mem_cons (.inl rfl) mem_nil)⟩⟩ lk_nil)
  have hN : N28.Nodup := sc28.nd
  obtain ⟨fd, F⟩ := h.c.def_ 28 (d := d28) rfl
  exact ⟨fd, F, def_ok (G := gm K) (N := N28) (k := 6) (O' := []) F sc28 fun cdv A outer s H E hr tk => (s_cons (s_to (O2 := [1]) (s_setF 1 (f_lst (a_cons (e_tup (a_cons (e_new tk (hr.mono (by decide)) nw4 bd4_2_b bd4_2_v (fun _ => (.cons .int .nil)) (a_cons e_int a_nil)) (a_cons (e_new tk (hr.mono (by decide)) nw4 bd4_2_b bd4_2_v (fun _ => (.cons .int .nil)) (a_cons e_int a_nil)) (a_cons (e_new tk (hr.mono (by decide)) nw4 bd4_2_b bd4_2_v (fun _ => (.cons .int .nil)) (a_cons e_int a_nil)) a_nil)))) a_nil)))) (s_cons (s_for (OL := [1]) [2, 3] (i_seq (e_var 0)) (g_tup (gs_cons (g_to (O2 := [1]) (g_name 2)) (gs_cons (g_to (O2 := [1]) (g_name 3)) gs_nil))) (s_cons (s_asg (vs := [0, 1, 2, 3, 4, 5, 6]) (e_ixO 1 (e_un o_neg e_int)) (g_tup (gs_cons (g_to (O2 := [1]) (g_name 4)) (gs_cons (g_to (O2 := [1]) (g_name 5)) (gs_cons (g_to (O2 := [1]) (g_name 6)) gs_nil))))) (s_one (s_app 1 (e_tup (a_cons (e_bin (o_bin [(0, B_Ratio___add__)] ["int"] [0] tk (hr.mono (by decide)) o_add ht_add) (e_var 4) (e_var 3)) (a_cons (e_bin (o_bin [(0, B_Ratio___add__)] ["int"] [0] tk (hr.mono (by decide)) o_add ht_add) (e_var 5) (e_meth [(0, B_Ratio_over)] tk (hr.mono (by decide)) (show ("over" : PySem.Str) ∉ flds by decide +kernel) (e_var 3) (a_cons (e_var 2) a_nil) mt_over_1)) (a_cons (e_bin (o_bin [(0, B_Ratio___add__)] ["int"] [0] tk (hr.mono (by decide)) o_add ht_add) (e_var 6) (e_bin (o_bin [(0, B_Ratio___mul__)] ["int"] [0] tk (hr.mono (by decide)) o_mul ht_mul) (e_var 3) (e_var 2))) a_nil))))))) (passes_of rfl)) (ss_frz (O1 := []) (s_one (s_ret (e_var 1))))))⟩
theorem ok_29 {P : Program} {w : World} {K : PySem.W.Frag} {mg : Str → Option Value} {base : Heap} (h : Hy K mg base) : ∃ fd, FunD K d29.name d29.qual d29.params d29.body d29.scope (d29.dvs K) [] (d29.wh.ad K) fd ∧ FnB P w (gm K) mg base 11 (d29.wh.ad K) fd [("right" : PySem.Str), ("left" : PySem.Str)] 2 [] B_lit_spot := by
  obtain ⟨fd4, F4, ok4⟩ := ok_4 (P := P) (w := w) h
  obtain ⟨fd27, F27, ok27⟩ := ok_27 (P := P) (w := w) h
  obtain ⟨fd7, F7, ok7⟩ := ok_7 (P := P) (w := w) h
  obtain ⟨fd6, F6, ok6⟩ := ok_6 (P := P) (w := w) h
  obtain ⟨fd14, F14, ok14⟩ := ok_14 (P := P) (w := w) h
  have nw4 : NwOk (gm K) P w mg base 3 ("Ratio" : PySem.Str) 0 3 B_Ratio___init__ _ fd4 [("self" : PySem.Str), ("top" : PySem.Str), ("bottom" : PySem.Str)] := ⟨He.glo_ok h.X0 h.G0 (h.c.fact 9), He.mkr_ok (h.c.fact 11), rfl, ok4, ar_of, rfl⟩
  obtain ⟨bd4_3, bd4_3_v, bd4_3_b⟩ := F4.binds1 (ps := [("self" : PySem.Str), ("top" : PySem.Str), ("bottom" : PySem.Str)]) 3 1 (List.cons_ne_nil _ _) rfl fun T kV doc pm an cdv ct us its h1 h2 => ⟨_, rfl, match us, h1, its, h2 with | [_, _, _], _, [_], _ => rfl⟩
  have nw27 : NwOk (gm K) P w mg base 9 ("Step" : PySem.Str) 2 3 B_Step___init__ _ fd27 [("self" : PySem.Str), ("time" : PySem.Str), ("place" : PySem.Str)] := ⟨He.glo_ok h.X0 h.G0 (h.c.fact 48), He.mkr_ok (h.c.fact 49), rfl, ok27, ar_of, rfl⟩
  have ht_add : ∀ c B, List.lookup c [(0, B_Ratio___add__)] = some B → (∃ f fd ps, OwnOk (gm K) P w mg base 6 ("__add__" : PySem.Str) c B f fd ps 2) ∧ BinOk (gm K) ("__add__" : PySem.Str) ("__radd__" : PySem.Str) ["int"] [0] c := (lk_cons ⟨⟨_, fd7, [("self" : PySem.Str), ("other" : PySem.Str)], (He.meth_ok (h.c.fact 18)).at_, (He.meth_ok (h.c.fact 18)).fn, fn_up ok7 (by decide), F7.bindsN (ps := [("self" : PySem.Str), ("other" : PySem.Str)]) fun _ _ _ _ _ _ us hl => match us, hl with | [_, _], _ => rfl, ar_of⟩, ⟨(h.c.fact 19), rd_ok (h.c.fact 20), (mem_cons ⟨by decide, biT_ok (h.c.fact 17)⟩ mem_nil), (mem_cons (.inl rfl) mem_nil)⟩⟩ lk_nil)
  have ht_mul : ∀ c B, List.lookup c [(0, B_Ratio___mul__)] = some B → (∃ f fd ps, OwnOk (gm K) P w mg base 6 ("__mul__" : PySem.Str) c B f fd ps 2) ∧ BinOk (gm K) ("__mul__" : PySem.Str) ("__rmul__" : PySem.Str) ["int"] [0] c := (lk_cons ⟨⟨_, fd6, [("self" : PySem.Str), ("other" : PySem.Str)], (He.meth_ok (h.c.fact 28)).at_, (He.meth_ok (h.c.fact 28)).fn, fn_up ok6 (by decide), F6.bindsN (ps := [("self" : PySem.Str), ("other" : PySem.Str)]) fun _ _ _ _ _ _ us hl => match us, hl with | [_, _], _ => rfl, ar_of⟩, ⟨(h.c.fact 19), rd_ok (h.c.fact 29), (mem_cons ⟨by decide, biT_ok (h.c.fact 27)⟩ mem_nil), (mem_cons (.inl rfl) mem_nil)⟩⟩ lk_nil)
  have ht_sub : ∀ c B, List.lookup c [(0, B_Ratio___sub__)] = some B → (∃ f fd ps, OwnOk (gm K) P w mg base 7 ("__sub__" : PySem.Str) c B f fd ps 2) ∧ BinOk (gm K) ("__sub__" : PySem.Str) ("__rsub__" : PySem.Str) ["int"] [0] c := (lk_cons ⟨⟨_, fd14, [("self" : PySem.Str), ("other" : PySem.Str)], (He.meth_ok (h.c.fact 22)).at_, (He.meth_ok (h.c.fact 22)).fn, fn_up ok14 (by decide), F14.bindsN (ps := [("self" : PySem.Str), ("other" : PySem.Str)]) fun _ _ _ _ _ _ us hl => match us, hl with | [_, _], _ => rfl, ar_of⟩, ⟨(h.c.fact 19), rd_ok (h.c.fact 23), (mem_cons ⟨by decide, biT_ok (h.c.fact 21)⟩ mem_nil), (mem_cons (.inl rfl) mem_nil)⟩⟩ lk_nil)
  have hN : N29.Nodup := sc29.nd
  obtain ⟨fd, F⟩ := h.c.def_ 29 (d := d29) rfl
  exact ⟨fd, F, def_ok (G := gm K) (N := N29) (k := 10) (O' := []) F sc29 fun cdv A outer s H E hr tk => (s_cons (s_to (O2 := []) (s_set 2 (e_new tk (hr.mono (by decide)) nw4 bd4_3_b bd4_3_v (fun _ => .nil) (a_cons e_int (a_cons e_int a_nil))))) (s_one (s_ret (e_new tk (hr.mono (by decide)) nw27 (F27.bindsN (ps := [("self" : PySem.Str), ("time" : PySem.Str), ("place" : PySem.Str)]) fun _ _ _ _ _ _ us hl => match us, hl with | [_, _, _], _ => rfl) .nil (fun _ => .nil) (a_cons (e_bin (o_bin [(0, B_Ratio___mul__)] ["int"] [0] tk (hr.mono (by decide)) o_mul ht_mul) (e_bin (o_bin [(0, B_Ratio___add__)] ["int"] [0] tk (hr.mono (by decide)) o_add ht_add) (e_var 0) (e_var 1)) (e_var 2)) (a_cons (e_lst (a_cons (e_bin (o_bin [(0, B_Ratio___mul__)] ["int"] [0] tk (hr.mono (by decide)) o_mul ht_mul) (e_bin (o_bin [(0, B_Ratio___sub__)] ["int"] [0] tk (hr.mono (by decide)) o_sub ht_sub) (e_var 1) (e_var 0)) (e_var 2)) a_nil)) a_nil))))))⟩
theorem ok_30 {P : Program} {w : World} {K : PySem.W.Frag} {mg : Str → Option Value} {base : Heap} (h : Hy K mg base) : ∃ fd, FunD K d30.name d30.qual d30.params d30.body d30.scope (d30.dvs K) [] (d30.wh.ad K) fd ∧ FnB P w (gm K) mg base 7 (d30.wh.ad K) fd [("value" : PySem.Str)] 1 [] B_is_part := by
  obtain ⟨fd22, F22, ok22⟩ := ok_22 (P := P) (w := w) h
  obtain ⟨fd8, F8, ok8⟩ := ok_8 (P := P) (w := w) h
  obtain ⟨fd10, F10, ok10⟩ := ok_10 (P := P) (w := w) h
  obtain ⟨fd9, F9, ok9⟩ := ok_9 (P := P) (w := w) h
  have g22 : GlOk (gm K) P w mg base 2 ("is_listed" : PySem.Str) 1 [] B_is_listed _ fd22 [("value" : PySem.Str)] := ⟨He.glo_ok h.X0 h.G0 (h.c.fact 40), F22.kp, ok22, ar_of⟩
  have m_len : mg ("len" : PySem.Str) = none := He.free_ok h.X0 h.G0 (h.c.fact 1)
  have m_all : mg ("all" : PySem.Str) = none := He.free_ok h.X0 h.G0 (h.c.fact 41)
  have g8 : GlOk (gm K) P w mg base 3 ("is_ratio" : PySem.Str) 1 [] B_is_ratio _ fd8 [("value" : PySem.Str)] := ⟨He.glo_ok h.X0 h.G0 (h.c.fact 13), F8.kp, ok8, ar_of⟩
  have st10 : StOk (gm K) P w mg base 6 ("Ratio" : PySem.Str) (He.ga K ("Ratio" : PySem.Str)) ("of" : PySem.Str) 1 B_Ratio_of _ fd10 [("value" : PySem.Str)] := ⟨He.glo_ok h.X0 h.G0 (h.c.fact 9), (sta_ok (h.c.fact 14)).1, (sta_ok (h.c.fact 14)).2.1, (sta_ok (h.c.fact 14)).2.2, F10.kp, ok10, ar_of⟩
  have pr_sign : ∀ c B, List.lookup c [(0, B_Ratio_sign)] = some B → PrOk (gm K) P w mg base 2 c ("sign" : PySem.Str) B := (lk_cons ⟨(clo0 h).1, _, _, fd9, _, prp_ok (h.c.fact 15), ok9, F9.bindsN (ps := [("self" : PySem.Str)]) fun _ _ _ _ _ _ us hl => match us, hl with | [_], _ => rfl⟩ lk_nil)
  have hN : N30.Nodup := sc30.nd
  obtain ⟨fd, F⟩ := h.c.def_ 30 (d := d30) rfl
  exact ⟨fd, F, def_ok (G := gm K) (N := N30) (k := 6) (O' := []) F sc30 fun cdv A outer s H E hr tk => (s_one (s_ret (e_and (e_call tk (hr.mono (by decide)) g22 (F22.bindsN (ps := [("value" : PySem.Str)]) fun _ _ _ _ _ _ us hl => match us, hl with | [_], _ => rfl) .nil (fun _ => .nil) (a_cons (e_var 0) a_nil)) (e_and (e_cmp (o_eq hr) (e_len (a_cons (e_var 0) a_nil)) e_int) (e_bo1 (e_all (a_cons (e_lcF (vs := [1]) [(("one" : PySem.Str), 1)] rfl (i_seq (e_var 0)) (blkOk_by (by kernel_rfl)) (fun _ _ _ _ _ => (g_to (O2 := []) (g_name 1))) (fun _ _ _ _ _ => pts_no) (fun _ _ _ _ _ => (e_and (e_call takes_blk (hr.mono (by decide)) g8 (F8.bindsN (ps := [("value" : PySem.Str)]) fun _ _ _ _ _ _ us hl => match us, hl with | [_], _ => rfl) .nil (fun _ => .nil) (a_cons (e_var 1) a_nil)) (e_bo1 (e_cmp o_gt (e_pr [(0, B_Ratio_sign)] (hr.mono (by decide)) (e_stat takes_blk (hr.mono (by decide)) st10 (F10.bindsN (ps := [("value" : PySem.Str)]) fun _ _ _ _ _ _ us hl => match us, hl with | [_], _ => rfl) .nil (fun _ => .nil) (a_cons (e_var 1) a_nil)) pr_sign) e_int))))).fz a_nil)))))))⟩
theorem ok_31 {P : Program} {w : World} {K : PySem.W.Frag} {mg : Str → Option Value} {base : Heap} (h : Hy K mg base) : ∃ fd, FunD K d31.name d31.qual d31.params d31.body d31.scope (d31.dvs K) [] (d31.wh.ad K) fd ∧ FnB P w (gm K) mg base 12 (d31.wh.ad K) fd [("self" : PySem.Str), ("parts" : PySem.Str)] 2 [0] B_Tour___init__ := by
  obtain ⟨fd22, F22, ok22⟩ := ok_22 (P := P) (w := w) h
  obtain ⟨fd30, F30, ok30⟩ := ok_30 (P := P) (w := w) h
  obtain ⟨fd10, F10, ok10⟩ := ok_10 (P := P) (w := w) h
  obtain ⟨fd28, F28, ok28⟩ := ok_28 (P := P) (w := w) h
  obtain ⟨fd29, F29, ok29⟩ := ok_29 (P := P) (w := w) h
  have g22 : GlOk (gm K) P w mg base 2 ("is_listed" : PySem.Str) 1 [] B_is_listed _ fd22 [("value" : PySem.Str)] := ⟨He.glo_ok h.X0 h.G0 (h.c.fact 40), F22.kp, ok22, ar_of⟩
  have m_len : mg ("len" : PySem.Str) = none := He.free_ok h.X0 h.G0 (h.c.fact 1)
  have m_all : mg ("all" : PySem.Str) = none := He.free_ok h.X0 h.G0 (h.c.fact 41)
  have g30 : GlOk (gm K) P w mg base 7 ("is_part" : PySem.Str) 1 [] B_is_part _ fd30 [("value" : PySem.Str)] := ⟨He.glo_ok h.X0 h.G0 (h.c.fact 50), F30.kp, ok30, ar_of⟩
  have m_tuple : mg ("tuple" : PySem.Str) = none := He.free_ok h.X0 h.G0 (h.c.fact 38)
  have st10 : StOk (gm K) P w mg base 6 ("Ratio" : PySem.Str) (He.ga K ("Ratio" : PySem.Str)) ("of" : PySem.Str) 1 B_Ratio_of _ fd10 [("value" : PySem.Str)] := ⟨He.glo_ok h.X0 h.G0 (h.c.fact 9), (sta_ok (h.c.fact 14)).1, (sta_ok (h.c.fact 14)).2.1, (sta_ok (h.c.fact 14)).2.2, F10.kp, ok10, ar_of⟩
  have ht_fs_parts : ∀ c i, List.lookup c [(5, 0)] = some i → ClsOk (gm K) c ∧ ((gm K).lay c)[i]? = some ("parts" : PySem.Str) := lk_cons ⟨co5 h, rfl⟩ lk_nil
  have g28 : GlOk (gm K) P w mg base 7 ("lights_along" : PySem.Str) 1 [] B_lights_along _ fd28 [("parts" : PySem.Str)] := ⟨He.glo_ok h.X0 h.G0 (h.c.fact 52), F28.kp, ok28, ar_of⟩
  have ht_fl_parts : ∀ c i, List.lookup c [(4, 0), (5, 0)] = some i → ClsOk (gm K) c ∧ ((gm K).lay c)[i]? = some ("parts" : PySem.Str) := (lk_cons ⟨co4 h, rfl⟩ (lk_cons ⟨co5 h, rfl⟩ lk_nil))
  have g29 : GlOk (gm K) P w mg base 11 ("lit_spot" : PySem.Str) 2 [] B_lit_spot _ fd29 [("right" : PySem.Str), ("left" : PySem.Str)] := ⟨He.glo_ok h.X0 h.G0 (h.c.fact 53), F29.kp, ok29, ar_of⟩
  have ht_fs_spots : ∀ c i, List.lookup c [(5, 1)] = some i → ClsOk (gm K) c ∧ ((gm K).lay c)[i]? = some ("spots" : PySem.Str) := lk_cons ⟨co5 h, rfl⟩ lk_nil
  have ht_fs_age : ∀ c i, List.lookup c [(5, 2)] = some i → ClsOk (gm K) c ∧ ((gm K).lay c)[i]? = some ("age" : PySem.Str) := lk_cons ⟨co5 h, rfl⟩ lk_nil
  have ht_fl_spots : ∀ c i, List.lookup c [(5, 1)] = some i → ClsOk (gm K) c ∧ ((gm K).lay c)[i]? = some ("spots" : PySem.Str) := (lk_cons ⟨co5 h, rfl⟩ lk_nil)
  have ht_fs_step : ∀ c i, List.lookup c [(5, 3)] = some i → ClsOk (gm K) c ∧ ((gm K).lay c)[i]? = some ("step" : PySem.Str) := lk_cons ⟨co5 h, rfl⟩ lk_nil
  have hN : N31.Nodup := sc31.nd
  obtain ⟨fd, F⟩ := h.c.def_ 31 (d := d31) rfl
  exact ⟨fd, F, def_ok (G := gm K) (N := N31) (k := 11) (O' := [0]) F sc31 fun cdv A outer s H E hr tk => (s_cons (s_if (t_bo (w_or (t_not (t_val (e_call tk (hr.mono (by decide)) g22 (F22.bindsN (ps := [("value" : PySem.Str)]) fun _ _ _ _ _ _ us hl => match us, hl with | [_], _ => rfl) .nil (fun _ => .nil) (a_cons (e_var 1) a_nil)))) (w_or (t_cmp (o_eq hr) (e_len (a_cons (e_var 1) a_nil)) e_int) (w_or1 (t_not (t_val (e_all (a_cons (e_lcF (vs := [3]) [(("one" : PySem.Str), 3)] rfl (i_seq (e_var 1)) (blkOk_by (by kernel_rfl)) (fun _ _ _ _ _ => (g_to (O2 := [0]) (g_name 3))) (fun _ _ _ _ _ => pts_no) (fun _ _ _ _ _ => (e_call takes_blk (hr.mono (by decide)) g30 (F30.bindsN (ps := [("value" : PySem.Str)]) fun _ _ _ _ _ _ us hl => match us, hl with | [_], _ => rfl) .nil (fun _ => .nil) (a_cons (e_var 3) a_nil)))).fz a_nil)))))))) (s_one s_no) s_nil) (s_cons (s_if (t_cmp o_gt (e_len (a_cons (e_var 1) a_nil)) (e_gint (He.int_ok h.X0 h.G0 (h.c.fact 51)))) (s_one s_no) s_nil) (s_cons (s_fld 0 [(5, 0)] (e_tuple (a_cons (e_lcF (vs := [3]) [(("one" : PySem.Str), 3)] rfl (i_seq (e_var 1)) (blkOk_by (by kernel_rfl)) (fun _ _ _ _ _ => (g_to (O2 := [0]) (g_name 3))) (fun _ _ _ _ _ => pts_no) (fun _ _ _ _ _ => (e_tup (a_cons (e_stat takes_blk (hr.mono (by decide)) st10 (F10.bindsN (ps := [("value" : PySem.Str)]) fun _ _ _ _ _ _ us hl => match us, hl with | [_], _ => rfl) .nil (fun _ => .nil) (a_cons (e_ix (e_var 3) e_int) a_nil)) (a_cons (e_stat takes_blk (hr.mono (by decide)) st10 (F10.bindsN (ps := [("value" : PySem.Str)]) fun _ _ _ _ _ _ us hl => match us, hl with | [_], _ => rfl) .nil (fun _ => .nil) (a_cons (e_ix (e_var 3) e_int) a_nil)) a_nil))))).fz a_nil)) ht_fs_parts) (s_cons (s_to (O2 := [0]) (s_set 2 (e_call tk (hr.mono (by decide)) g28 (F28.bindsN (ps := [("parts" : PySem.Str)]) fun _ _ _ _ _ _ us hl => match us, hl with | [_], _ => rfl) .nil (fun _ => .nil) (a_cons (e_fl [(4, 0), (5, 0)] (e_self 0) ht_fl_parts) a_nil)))) (s_cons (s_fld 0 [(5, 1)] (e_tuple (a_cons (e_lcF (vs := [4, 5, 6]) [(("age" : PySem.Str), 4), (("right" : PySem.Str), 5), (("left" : PySem.Str), 6)] rfl (i_seq (e_var 2)) (blkOk_by (by kernel_rfl)) (fun _ _ _ _ _ => (g_tup (gs_cons (g_to (O2 := [0]) (g_name 4)) (gs_cons (g_to (O2 := [0]) (g_name 5)) (gs_cons (g_to (O2 := [0]) (g_name 6)) gs_nil))))) (fun _ _ _ _ _ => pts_no) (fun _ _ _ _ _ => (e_call takes_blk (hr.mono (by decide)) g29 (F29.bindsN (ps := [("right" : PySem.Str), ("left" : PySem.Str)]) fun _ _ _ _ _ _ us hl => match us, hl with | [_, _], _ => rfl) .nil (fun _ => .nil) (a_cons (e_var 5) (a_cons (e_var 6) a_nil))))).fz a_nil)) ht_fs_spots) (s_cons (s_fld 0 [(5, 2)] (e_ix (e_ix (e_var 2) (e_un o_neg e_int)) e_int) ht_fs_age) (s_one (s_fld 0 [(5, 3)] (e_ix (e_fl [(5, 1)] (e_self 0) ht_fl_spots) (e_un o_neg e_int)) ht_fs_step))))))))⟩
theorem ok_32 {P : Program} {w : World} {K : PySem.W.Frag} {mg : Str → Option Value} {base : Heap} (h : Hy K mg base) : ∃ fd, FunD K d32.name d32.qual d32.params d32.body d32.scope (d32.dvs K) [] (d32.wh.ad K) fd ∧ FnB P w (gm K) mg base 14 (d32.wh.ad K) fd [("_law_k" : PySem.Str), ("_law_beats" : PySem.Str)] 2 [] B__law_spot := by
  obtain ⟨fd18, F18, ok18⟩ := ok_18 (P := P) (w := w) h
  obtain ⟨fd27, F27, ok27⟩ := ok_27 (P := P) (w := w) h
  obtain ⟨fd31, F31, ok31⟩ := ok_31 (P := P) (w := w) h
  have ht_eq : ∀ c B, List.lookup c [(0, B_Ratio___eq__)] = some B → (∃ f fd ps, OwnOk (gm K) P w mg base 3 ("__eq__" : PySem.Str) c B f fd ps 2) ∧ CmpOk (gm K) ["int"] [0] c := (lk_cons ⟨⟨_, fd18, [("self" : PySem.Str), ("other" : PySem.Str)], (He.meth_ok (h.c.fact 34)).at_, (He.meth_ok (h.c.fact 34)).fn, fn_up ok18 (by decide), F18.bindsN (ps := [("self" : PySem.Str), ("other" : PySem.Str)]) fun _ _ _ _ _ _ us hl => match us, hl with | [_, _], _ => rfl, ar_of⟩, ⟨(mem_cons ⟨by decide, (h.c.fact 32)⟩ mem_nil), (mem_cons (h.c.fact 33) mem_nil)⟩⟩ lk_nil)
  have nw27 : NwOk (gm K) P w mg base 9 ("Step" : PySem.Str) 2 3 B_Step___init__ _ fd27 [("self" : PySem.Str), ("time" : PySem.Str), ("place" : PySem.Str)] := ⟨He.glo_ok h.X0 h.G0 (h.c.fact 48), He.mkr_ok (h.c.fact 49), rfl, ok27, ar_of, rfl⟩
  have nw31 : NwOk (gm K) P w mg base 12 ("Tour" : PySem.Str) 5 2 B_Tour___init__ _ fd31 [("self" : PySem.Str), ("parts" : PySem.Str)] := ⟨He.glo_ok h.X0 h.G0 (h.c.fact 54), He.mkr_ok (h.c.fact 55), rfl, ok31, ar_of, rfl⟩
  have ht_fl_step : ∀ c i, List.lookup c [(5, 3)] = some i → ClsOk (gm K) c ∧ ((gm K).lay c)[i]? = some ("step" : PySem.Str) := (lk_cons ⟨co5 h, rfl⟩ lk_nil)
  have hN : N32.Nodup := sc32.nd
  obtain ⟨fd, F⟩ := h.c.def_ 32 (d := d32) rfl
  exact ⟨fd, F, def_ok (G := gm K) (N := N32) (k := 13) (O' := []) F sc32 fun cdv A outer s H E hr tk => (s_cons (s_if (t_cmp (o_eqT [(0, B_Ratio___eq__)] ["int"] [0] tk (hr.mono (by decide)) ht_eq) (e_var 1) e_int) (s_one (s_ret (e_new tk (hr.mono (by decide)) nw27 (F27.bindsN (ps := [("self" : PySem.Str), ("time" : PySem.Str), ("place" : PySem.Str)]) fun _ _ _ _ _ _ us hl => match us, hl with | [_, _, _], _ => rfl) .nil (fun _ => .nil) (a_cons e_int (a_cons (e_lst (a_cons e_int a_nil)) a_nil))))) s_nil) (s_one (s_ret (e_fl [(5, 3)] (e_new tk (hr.mono (by decide)) nw31 (F31.bindsN (ps := [("self" : PySem.Str), ("parts" : PySem.Str)]) fun _ _ _ _ _ _ us hl => match us, hl with | [_, _], _ => rfl) .nil (fun _ => .nil) (a_cons (e_lst (a_cons (e_tup (a_cons (e_var 0) (a_cons (e_var 1) a_nil))) a_nil)) a_nil)) ht_fl_step))))⟩
theorem ok_33 {P : Program} {w : World} {K : PySem.W.Frag} {mg : Str → Option Value} {base : Heap} (h : Hy K mg base) : ∃ fd, FunD K d33.name d33.qual d33.params d33.body d33.scope (d33.dvs K) [] (d33.wh.ad K) fd ∧ FnB P w (gm K) mg base 5 (d33.wh.ad K) fd [("self" : PySem.Str), ("other" : PySem.Str)] 2 [] B_Step___eq__ := by
  obtain ⟨fd18, F18, ok18⟩ := ok_18 (P := P) (w := w) h
  have m_isinstance : mg ("isinstance" : PySem.Str) = none := He.free_ok h.X0 h.G0 (h.c.fact 4)
  have ht_fl_time : ∀ c i, List.lookup c [(2, 0)] = some i → ClsOk (gm K) c ∧ ((gm K).lay c)[i]? = some ("time" : PySem.Str) := (lk_cons ⟨co2 h, rfl⟩ lk_nil)
  have ht_eq : ∀ c B, List.lookup c [(0, B_Ratio___eq__)] = some B → (∃ f fd ps, OwnOk (gm K) P w mg base 3 ("__eq__" : PySem.Str) c B f fd ps 2) ∧ CmpOk (gm K) ["int"] [0] c := (lk_cons ⟨⟨_, fd18, [("self" : PySem.Str), ("other" : PySem.Str)], (He.meth_ok (h.c.fact 34)).at_, (He.meth_ok (h.c.fact 34)).fn, fn_up ok18 (by decide), F18.bindsN (ps := [("self" : PySem.Str), ("other" : PySem.Str)]) fun _ _ _ _ _ _ us hl => match us, hl with | [_, _], _ => rfl, ar_of⟩, ⟨(mem_cons ⟨by decide, (h.c.fact 32)⟩ mem_nil), (mem_cons (h.c.fact 33) mem_nil)⟩⟩ lk_nil)
  have ht_fl_place : ∀ c i, List.lookup c [(2, 1)] = some i → ClsOk (gm K) c ∧ ((gm K).lay c)[i]? = some ("place" : PySem.Str) := (lk_cons ⟨co2 h, rfl⟩ lk_nil)
  have hN : N33.Nodup := sc33.nd
  obtain ⟨fd, F⟩ := h.c.def_ 33 (d := d33) rfl
  exact ⟨fd, F, def_ok (G := gm K) (N := N33) (k := 4) (O' := []) F sc33 fun cdv A outer s H E hr tk => (s_one (s_ret (e_and (e_isi (e_var 1) (cv_own (He.glo_ok h.X0 h.G0 (h.c.fact 48))) (kn_own (k := 2) [(2, true)] (lk_cons ⟨ty2 h, eqF_ok (h.c.fact 56)⟩ lk_nil) fun m hm => eqF_ok (List.all_eq_true.mp (h.c.fact 57) m hm))) (e_and (e_cmp (o_eqT [(0, B_Ratio___eq__)] ["int"] [0] tk (hr.mono (by decide)) ht_eq) (e_fl [(2, 0)] (e_var 0) ht_fl_time) (e_fl [(2, 0)] (e_var 1) ht_fl_time)) (e_bo1 (e_cmp (o_eqY 0 [(0, B_Ratio___eq__)] ["int"] [0] tk (hr.mono (by decide)) ht_eq) (e_fl [(2, 1)] (e_var 0) ht_fl_place) (e_fl [(2, 1)] (e_var 1) ht_fl_place)))))))⟩
theorem ok_34 {P : Program} {w : World} {K : PySem.W.Frag} {mg : Str → Option Value} {base : Heap} (h : Hy K mg base) : ∃ fd, FunD K d34.name d34.qual d34.params d34.body d34.scope (d34.dvs K) [] (d34.wh.ad K) fd ∧ FnB P w (gm K) mg base 7 (d34.wh.ad K) fd [("names" : PySem.Str), ("spots" : PySem.Str)] 2 [] B_need_unlike := by
  obtain ⟨fd33, F33, ok33⟩ := ok_33 (P := P) (w := w) h
  have m_enumerate : mg ("enumerate" : PySem.Str) = none := He.free_ok h.X0 h.G0 (h.c.fact 58)
  have ht_eq : ∀ c B, List.lookup c [(2, B_Step___eq__)] = some B → (∃ f fd ps, OwnOk (gm K) P w mg base 5 ("__eq__" : PySem.Str) c B f fd ps 2) ∧ CmpOk (gm K) ["int"] [2] c := (lk_cons ⟨⟨_, fd33, [("self" : PySem.Str), ("other" : PySem.Str)], (He.meth_ok (h.c.fact 61)).at_, (He.meth_ok (h.c.fact 61)).fn, fn_up ok33 (by decide), F33.bindsN (ps := [("self" : PySem.Str), ("other" : PySem.Str)]) fun _ _ _ _ _ _ us hl => match us, hl with | [_, _], _ => rfl, ar_of⟩, ⟨(mem_cons ⟨by decide, (h.c.fact 59)⟩ mem_nil), (mem_cons (h.c.fact 60) mem_nil)⟩⟩ lk_nil)
  have hN : N34.Nodup := sc34.nd
  obtain ⟨fd, F⟩ := h.c.def_ 34 (d := d34) rfl
  exact ⟨fd, F, def_ok (G := gm K) (N := N34) (k := 6) (O' := []) F sc34 fun cdv A outer s H E hr tk => (s_one (s_for (OL := []) [2, 3] (i_ent (a_cons (e_var 0) a_nil)) (g_tup (gs_cons (g_to (O2 := []) (g_name 2)) (gs_cons (g_to (O2 := []) (g_name 3)) gs_nil))) (s_one (s_for (OL := []) [4] (i_seq (e_sl (e_var 0) (i_so (e_bin o_add (e_var 2) e_int)) i_no)) (g_to (O2 := []) (g_name 4)) (s_one (s_if (t_cmp (o_eqT [(2, B_Step___eq__)] ["int"] [2] tk (hr.mono (by decide)) ht_eq) (e_dix hr (e_var 1) (e_var 3)) (e_dix hr (e_var 1) (e_var 4))) (s_one s_no) s_nil)) (passes_of rfl))) (passes_of rfl)))⟩
theorem ok_35 {P : Program} {w : World} {K : PySem.W.Frag} {mg : Str → Option Value} {base : Heap} (h : Hy K mg base) : ∃ fd, FunD K d35.name d35.qual d35.params d35.body d35.scope (d35.dvs K) [] (d35.wh.ad K) fd ∧ FnB P w (gm K) mg base 3 (d35.wh.ad K) fd [("value" : PySem.Str), ("least" : PySem.Str), ("most" : PySem.Str)] 3 [] B_is_within := by
  obtain ⟨fd3, F3, ok3⟩ := ok_3 (P := P) (w := w) h
  have g3 : GlOk (gm K) P w mg base 2 ("is_integer" : PySem.Str) 1 [] B_is_integer _ fd3 [("value" : PySem.Str)] := ⟨He.glo_ok h.X0 h.G0 (h.c.fact 6), F3.kp, ok3, ar_of⟩
  have hN : N35.Nodup := sc35.nd
  obtain ⟨fd, F⟩ := h.c.def_ 35 (d := d35) rfl
  exact ⟨fd, F, def_ok (G := gm K) (N := N35) (k := 2) (O' := []) F sc35 fun cdv A outer s H E hr tk => (s_cons (s_if (t_not (t_val (e_call tk (hr.mono (by decide)) g3 (F3.bindsN (ps := [("value" : PySem.Str)]) fun _ _ _ _ _ _ us hl => match us, hl with | [_], _ => rfl) .nil (fun _ => .nil) (a_cons (e_var 0) a_nil)))) (s_one (s_ret e_bl)) s_nil) (s_one (s_ret (e_and (e_or (e_isN (e_var 1)) (e_bo1 (e_cmp o_ge (e_var 0) (e_var 1)))) (e_bo1 (e_or (e_isN (e_var 2)) (e_bo1 (e_cmp o_le (e_var 0) (e_var 2)))))))))⟩
theorem ok_36 {P : Program} {w : World} {K : PySem.W.Frag} {mg : Str → Option Value} {base : Heap} (h : Hy K mg base) : ∃ fd, FunD K d36.name d36.qual d36.params d36.body d36.scope (d36.dvs K) [] (d36.wh.ad K) fd ∧ FnB P w (gm K) mg base 2 (d36.wh.ad K) fd [("value" : PySem.Str)] 1 [] B_is_name := by
  have m_isinstance : mg ("isinstance" : PySem.Str) = none := He.free_ok h.X0 h.G0 (h.c.fact 4)
  have m_str : mg ("str" : PySem.Str) = none := He.free_ok h.X0 h.G0 (h.c.fact 62)
  have m_len : mg ("len" : PySem.Str) = none := He.free_ok h.X0 h.G0 (h.c.fact 1)
  have m_all : mg ("all" : PySem.Str) = none := He.free_ok h.X0 h.G0 (h.c.fact 41)
  have hN : N36.Nodup := sc36.nd
  obtain ⟨fd, F⟩ := h.c.def_ 36 (d := d36) rfl
  exact ⟨fd, F, def_ok (G := gm K) (N := N36) (k := 1) (O' := []) F sc36 fun cdv A outer s H E hr tk => (s_cons (s_if (t_bo (w_or (t_not (t_val (e_isi (e_var 0) cv_ty (kn_ty (n := "str") [] mem_nil)))) (w_or (t_not (t_chain o_le o_le e_int (e_len (a_cons (e_var 0) a_nil)) (e_gint (He.int_ok h.X0 h.G0 (h.c.fact 63))))) (w_or1 (t_cmp o_notIn (e_ix (e_var 0) e_int) (e_gstr (He.str_ok h.X0 h.G0 (h.c.fact 64)))))))) (s_one (s_ret e_bl)) s_nil) (s_one (s_ret (e_all (a_cons (e_lcF (vs := [1]) [(("mark" : PySem.Str), 1)] rfl (i_str (e_var 0)) (blkOk_by (by kernel_rfl)) (fun _ _ _ _ _ => (g_to (O2 := []) (g_name 1))) (fun _ _ _ _ _ => pts_no) (fun _ _ _ _ _ => (e_or (e_cmp o_in (e_var 1) (e_gstr (He.str_ok h.X0 h.G0 (h.c.fact 64)))) (e_bo1 (e_cmp o_in (e_var 1) (e_gstr (He.str_ok h.X0 h.G0 (h.c.fact 65)))))))).fz a_nil)))))⟩
theorem ok_37 {P : Program} {w : World} {K : PySem.W.Frag} {mg : Str → Option Value} {base : Heap} (h : Hy K mg base) : ∃ fd, FunD K d37.name d37.qual d37.params d37.body d37.scope (d37.dvs K) [] (d37.wh.ad K) fd ∧ FnB P w (gm K) mg base 5 (d37.wh.ad K) fd [("value" : PySem.Str), ("axes" : PySem.Str)] 2 [] B_is_spot := by
  obtain ⟨fd22, F22, ok22⟩ := ok_22 (P := P) (w := w) h
  obtain ⟨fd8, F8, ok8⟩ := ok_8 (P := P) (w := w) h
  obtain ⟨fd23, F23, ok23⟩ := ok_23 (P := P) (w := w) h
  have g22 : GlOk (gm K) P w mg base 2 ("is_listed" : PySem.Str) 1 [] B_is_listed _ fd22 [("value" : PySem.Str)] := ⟨He.glo_ok h.X0 h.G0 (h.c.fact 40), F22.kp, ok22, ar_of⟩
  have m_len : mg ("len" : PySem.Str) = none := He.free_ok h.X0 h.G0 (h.c.fact 1)
  have g8 : GlOk (gm K) P w mg base 3 ("is_ratio" : PySem.Str) 1 [] B_is_ratio _ fd8 [("value" : PySem.Str)] := ⟨He.glo_ok h.X0 h.G0 (h.c.fact 13), F8.kp, ok8, ar_of⟩
  have g23 : GlOk (gm K) P w mg base 4 ("are_ratios" : PySem.Str) 1 [] B_are_ratios _ fd23 [("value" : PySem.Str)] := ⟨He.glo_ok h.X0 h.G0 (h.c.fact 42), F23.kp, ok23, ar_of⟩
  have hN : N37.Nodup := sc37.nd
  obtain ⟨fd, F⟩ := h.c.def_ 37 (d := d37) rfl
  exact ⟨fd, F, def_ok (G := gm K) (N := N37) (k := 4) (O' := []) F sc37 fun cdv A outer s H E hr tk => (s_cons (s_if (t_bo (w_or (t_not (t_val (e_call tk (hr.mono (by decide)) g22 (F22.bindsN (ps := [("value" : PySem.Str)]) fun _ _ _ _ _ _ us hl => match us, hl with | [_], _ => rfl) .nil (fun _ => .nil) (a_cons (e_var 0) a_nil)))) (w_or (t_cmp (o_ne hr) (e_len (a_cons (e_var 0) a_nil)) e_int) (w_or1 (t_not (t_val (e_call tk (hr.mono (by decide)) g8 (F8.bindsN (ps := [("value" : PySem.Str)]) fun _ _ _ _ _ _ us hl => match us, hl with | [_], _ => rfl) .nil (fun _ => .nil) (a_cons (e_ix (e_var 0) e_int) a_nil)))))))) (s_one (s_ret e_bl)) s_nil) (s_one (s_ret (e_and (e_call tk (hr.mono (by decide)) g23 (F23.bindsN (ps := [("value" : PySem.Str)]) fun _ _ _ _ _ _ us hl => match us, hl with | [_], _ => rfl) .nil (fun _ => .nil) (a_cons (e_ix (e_var 0) e_int) a_nil)) (e_bo1 (e_cmp (o_eq hr) (e_len (a_cons (e_ix (e_var 0) e_int) a_nil)) (e_var 1)))))))⟩
theorem ok_38 {P : Program} {w : World} {K : PySem.W.Frag} {mg : Str → Option Value} {base : Heap} (h : Hy K mg base) : ∃ fd, FunD K d38.name d38.qual d38.params d38.body d38.scope (d38.dvs K) [] (d38.wh.ad K) fd ∧ FnB P w (gm K) mg base 6 (d38.wh.ad K) fd [("value" : PySem.Str), ("axes" : PySem.Str)] 2 [] B_are_spots := by
  obtain ⟨fd36, F36, ok36⟩ := ok_36 (P := P) (w := w) h
  obtain ⟨fd37, F37, ok37⟩ := ok_37 (P := P) (w := w) h
  have m_isinstance : mg ("isinstance" : PySem.Str) = none := He.free_ok h.X0 h.G0 (h.c.fact 4)
  have m_dict : mg ("dict" : PySem.Str) = none := He.free_ok h.X0 h.G0 (h.c.fact 66)
  have m_len : mg ("len" : PySem.Str) = none := He.free_ok h.X0 h.G0 (h.c.fact 1)
  have m_all : mg ("all" : PySem.Str) = none := He.free_ok h.X0 h.G0 (h.c.fact 41)
  have g36 : GlOk (gm K) P w mg base 2 ("is_name" : PySem.Str) 1 [] B_is_name _ fd36 [("value" : PySem.Str)] := ⟨He.glo_ok h.X0 h.G0 (h.c.fact 67), F36.kp, ok36, ar_of⟩
  have g37 : GlOk (gm K) P w mg base 5 ("is_spot" : PySem.Str) 2 [] B_is_spot _ fd37 [("value" : PySem.Str), ("axes" : PySem.Str)] := ⟨He.glo_ok h.X0 h.G0 (h.c.fact 68), F37.kp, ok37, ar_of⟩
  have hN : N38.Nodup := sc38.nd
  obtain ⟨fd, F⟩ := h.c.def_ 38 (d := d38) rfl
  exact ⟨fd, F, def_ok (G := gm K) (N := N38) (k := 5) (O' := []) F sc38 fun cdv A outer s H E hr tk => (s_cons (s_if (t_bo (w_or (t_not (t_val (e_isi (e_var 0) cv_ty (kn_ty (n := "dict") [] mem_nil)))) (w_or1 (t_cmp (o_eq hr) (e_lenD (a_cons (e_var 0) a_nil)) e_int)))) (s_one (s_ret e_bl)) s_nil) (s_one (s_ret (e_all (a_cons (e_lcF (vs := [2]) [(("name" : PySem.Str), 2)] rfl (i_keys (e_var 0)) (blkOk_by (by kernel_rfl)) (fun _ _ _ _ _ => (g_to (O2 := []) (g_name 2))) (fun _ _ _ _ _ => pts_no) (fun _ _ _ _ _ => (e_and (e_call takes_blk (hr.mono (by decide)) g36 (F36.bindsN (ps := [("value" : PySem.Str)]) fun _ _ _ _ _ _ us hl => match us, hl with | [_], _ => rfl) .nil (fun _ => .nil) (a_cons (e_var 2) a_nil)) (e_bo1 (e_call takes_blk (hr.mono (by decide)) g37 (F37.bindsN (ps := [("value" : PySem.Str), ("axes" : PySem.Str)]) fun _ _ _ _ _ _ us hl => match us, hl with | [_, _], _ => rfl) .nil (fun _ => .nil) (a_cons (e_dix hr (e_var 0) (e_var 2)) (a_cons (e_var 1) a_nil))))))).fz a_nil)))))⟩
theorem ok_39 {P : Program} {w : World} {K : PySem.W.Frag} {mg : Str → Option Value} {base : Heap} (h : Hy K mg base) : ∃ fd, FunD K d39.name d39.qual d39.params d39.body d39.scope (d39.dvs K) [] (d39.wh.ad K) fd ∧ FnB P w (gm K) mg base 11 (d39.wh.ad K) fd [("self" : PySem.Str), ("axes" : PySem.Str), ("spots" : PySem.Str)] 3 [0] B_Book___init__ := by
  obtain ⟨fd35, F35, ok35⟩ := ok_35 (P := P) (w := w) h
  obtain ⟨fd38, F38, ok38⟩ := ok_38 (P := P) (w := w) h
  obtain ⟨fd27, F27, ok27⟩ := ok_27 (P := P) (w := w) h
  obtain ⟨fd34, F34, ok34⟩ := ok_34 (P := P) (w := w) h
  have g35 : GlOk (gm K) P w mg base 3 ("is_within" : PySem.Str) 3 [] B_is_within _ fd35 [("value" : PySem.Str), ("least" : PySem.Str), ("most" : PySem.Str)] := ⟨He.glo_ok h.X0 h.G0 (h.c.fact 69), F35.kp, ok35, ar_of⟩
  have g38 : GlOk (gm K) P w mg base 6 ("are_spots" : PySem.Str) 2 [] B_are_spots _ fd38 [("value" : PySem.Str), ("axes" : PySem.Str)] := ⟨He.glo_ok h.X0 h.G0 (h.c.fact 70), F38.kp, ok38, ar_of⟩
  have m_len : mg ("len" : PySem.Str) = none := He.free_ok h.X0 h.G0 (h.c.fact 1)
  have ht_fs_axes : ∀ c i, List.lookup c [(3, 0)] = some i → ClsOk (gm K) c ∧ ((gm K).lay c)[i]? = some ("axes" : PySem.Str) := lk_cons ⟨co3 h, rfl⟩ lk_nil
  have m_tuple : mg ("tuple" : PySem.Str) = none := He.free_ok h.X0 h.G0 (h.c.fact 38)
  have m_sorted : mg ("sorted" : PySem.Str) = none := He.free_ok h.X0 h.G0 (h.c.fact 72)
  have m_list : mg ("list" : PySem.Str) = none := He.free_ok h.X0 h.G0 (h.c.fact 39)
  have ht_fs_names : ∀ c i, List.lookup c [(3, 1)] = some i → ClsOk (gm K) c ∧ ((gm K).lay c)[i]? = some ("names" : PySem.Str) := lk_cons ⟨co3 h, rfl⟩ lk_nil
  have ht_fl_names : ∀ c i, List.lookup c [(1, 1), (3, 1)] = some i → ClsOk (gm K) c ∧ ((gm K).lay c)[i]? = some ("names" : PySem.Str) := (lk_cons ⟨co1 h, rfl⟩ (lk_cons ⟨co3 h, rfl⟩ lk_nil))
  have nw27 : NwOk (gm K) P w mg base 9 ("Step" : PySem.Str) 2 3 B_Step___init__ _ fd27 [("self" : PySem.Str), ("time" : PySem.Str), ("place" : PySem.Str)] := ⟨He.glo_ok h.X0 h.G0 (h.c.fact 48), He.mkr_ok (h.c.fact 49), rfl, ok27, ar_of, rfl⟩
  have ht_fs_steps : ∀ c i, List.lookup c [(3, 2)] = some i → ClsOk (gm K) c ∧ ((gm K).lay c)[i]? = some ("steps" : PySem.Str) := lk_cons ⟨co3 h, rfl⟩ lk_nil
  have g34 : GlOk (gm K) P w mg base 7 ("need_unlike" : PySem.Str) 2 [] B_need_unlike _ fd34 [("names" : PySem.Str), ("spots" : PySem.Str)] := ⟨He.glo_ok h.X0 h.G0 (h.c.fact 73), F34.kp, ok34, ar_of⟩
  have ht_fl_steps : ∀ c i, List.lookup c [(3, 2)] = some i → ClsOk (gm K) c ∧ ((gm K).lay c)[i]? = some ("steps" : PySem.Str) := (lk_cons ⟨co3 h, rfl⟩ lk_nil)
  have hN : N39.Nodup := sc39.nd
  obtain ⟨fd, F⟩ := h.c.def_ 39 (d := d39) rfl
  exact ⟨fd, F, def_ok (G := gm K) (N := N39) (k := 10) (O' := [0]) F sc39 fun cdv A outer s H E hr tk => (s_cons (s_if (t_not (t_val (e_call tk (hr.mono (by decide)) g35 (F35.bindsN (ps := [("value" : PySem.Str), ("least" : PySem.Str), ("most" : PySem.Str)]) fun _ _ _ _ _ _ us hl => match us, hl with | [_, _, _], _ => rfl) .nil (fun _ => .nil) (a_cons (e_var 1) (a_cons e_int (a_cons (e_gint (He.int_ok h.X0 h.G0 (h.c.fact 45))) a_nil)))))) (s_one s_no) s_nil) (s_cons (s_if (t_not (t_val (e_call tk (hr.mono (by decide)) g38 (F38.bindsN (ps := [("value" : PySem.Str), ("axes" : PySem.Str)]) fun _ _ _ _ _ _ us hl => match us, hl with | [_, _], _ => rfl) .nil (fun _ => .nil) (a_cons (e_var 2) (a_cons (e_var 1) a_nil))))) (s_one s_no) s_nil) (s_cons (s_if (t_cmp o_gt (e_lenD (a_cons (e_var 2) a_nil)) (e_gint (He.int_ok h.X0 h.G0 (h.c.fact 71)))) (s_one s_no) s_nil) (s_cons (s_fld 0 [(3, 0)] (e_var 1) ht_fs_axes) (s_cons (s_fld 0 [(3, 1)] (e_tuple (a_cons (e_sorted (a_cons (e_listD (a_cons (e_var 2) a_nil)) a_nil)) a_nil)) ht_fs_names) (s_cons (s_fld 0 [(3, 2)] (e_dcF (vs := [3]) [(("name" : PySem.Str), 3)] rfl (i_seq (e_fl [(1, 1), (3, 1)] (e_self 0) ht_fl_names)) (blkOk_by (by kernel_rfl)) (fun _ _ _ _ _ => (g_to (O2 := [0]) (g_name 3))) (fun _ _ _ _ _ => pts_no) (fun _ _ _ _ _ => (e_var 3)) (fun _ _ _ _ _ => (e_new takes_blk (hr.mono (by decide)) nw27 (F27.bindsN (ps := [("self" : PySem.Str), ("time" : PySem.Str), ("place" : PySem.Str)]) fun _ _ _ _ _ _ us hl => match us, hl with | [_, _, _], _ => rfl) .nil (fun _ => .nil) (a_cons (e_ix (e_dix hr (e_var 2) (e_var 3)) e_int) (a_cons (e_ix (e_dix hr (e_var 2) (e_var 3)) e_int) a_nil))))).lk ht_fs_steps) (s_one (s_expr (e_call tk (hr.mono (by decide)) g34 (F34.bindsN (ps := [("names" : PySem.Str), ("spots" : PySem.Str)]) fun _ _ _ _ _ _ us hl => match us, hl with | [_, _], _ => rfl) .nil (fun _ => .nil) (a_cons (e_fl [(1, 1), (3, 1)] (e_self 0) ht_fl_names) (a_cons (e_fl [(3, 2)] (e_self 0) ht_fl_steps) a_nil)))))))))))⟩
theorem ok_40 {P : Program} {w : World} {K : PySem.W.Frag} {mg : Str → Option Value} {base : Heap} (h : Hy K mg base) : ∃ fd, FunD K d40.name d40.qual d40.params d40.body d40.scope (d40.dvs K) [] (d40.wh.ad K) fd ∧ FnB P w (gm K) mg base 7 (d40.wh.ad K) fd [("value" : PySem.Str), ("part" : PySem.Str)] 2 [] B_need_above := by
  obtain ⟨fd8, F8, ok8⟩ := ok_8 (P := P) (w := w) h
  obtain ⟨fd10, F10, ok10⟩ := ok_10 (P := P) (w := w) h
  obtain ⟨fd9, F9, ok9⟩ := ok_9 (P := P) (w := w) h
  have g8 : GlOk (gm K) P w mg base 3 ("is_ratio" : PySem.Str) 1 [] B_is_ratio _ fd8 [("value" : PySem.Str)] := ⟨He.glo_ok h.X0 h.G0 (h.c.fact 13), F8.kp, ok8, ar_of⟩
  have st10 : StOk (gm K) P w mg base 6 ("Ratio" : PySem.Str) (He.ga K ("Ratio" : PySem.Str)) ("of" : PySem.Str) 1 B_Ratio_of _ fd10 [("value" : PySem.Str)] := ⟨He.glo_ok h.X0 h.G0 (h.c.fact 9), (sta_ok (h.c.fact 14)).1, (sta_ok (h.c.fact 14)).2.1, (sta_ok (h.c.fact 14)).2.2, F10.kp, ok10, ar_of⟩
  have pr_sign : ∀ c B, List.lookup c [(0, B_Ratio_sign)] = some B → PrOk (gm K) P w mg base 2 c ("sign" : PySem.Str) B := (lk_cons ⟨(clo0 h).1, _, _, fd9, _, prp_ok (h.c.fact 15), ok9, F9.bindsN (ps := [("self" : PySem.Str)]) fun _ _ _ _ _ _ us hl => match us, hl with | [_], _ => rfl⟩ lk_nil)
  have hN : N40.Nodup := sc40.nd
  obtain ⟨fd, F⟩ := h.c.def_ 40 (d := d40) rfl
  exact ⟨fd, F, def_ok (G := gm K) (N := N40) (k := 6) (O' := []) F sc40 fun cdv A outer s H E hr tk => (s_one (s_if (t_bo (w_or (t_not (t_val (e_call tk (hr.mono (by decide)) g8 (F8.bindsN (ps := [("value" : PySem.Str)]) fun _ _ _ _ _ _ us hl => match us, hl with | [_], _ => rfl) .nil (fun _ => .nil) (a_cons (e_var 0) a_nil)))) (w_or1 (t_cmp o_lt (e_pr [(0, B_Ratio_sign)] (hr.mono (by decide)) (e_stat tk (hr.mono (by decide)) st10 (F10.bindsN (ps := [("value" : PySem.Str)]) fun _ _ _ _ _ _ us hl => match us, hl with | [_], _ => rfl) .nil (fun _ => .nil) (a_cons (e_var 0) a_nil)) pr_sign) e_int)))) (s_one s_no) s_nil))⟩
theorem ok_41 {P : Program} {w : World} {K : PySem.W.Frag} {mg : Str → Option Value} {base : Heap} (h : Hy K mg base) : ∃ fd, FunD K d41.name d41.qual d41.params d41.body d41.scope (d41.dvs K) [] (d41.wh.ad K) fd ∧ FnB P w (gm K) mg base 4 (d41.wh.ad K) fd [("value" : PySem.Str)] 1 [] B_need_count_of_axes := by
  obtain ⟨fd35, F35, ok35⟩ := ok_35 (P := P) (w := w) h
  have g35 : GlOk (gm K) P w mg base 3 ("is_within" : PySem.Str) 3 [] B_is_within _ fd35 [("value" : PySem.Str), ("least" : PySem.Str), ("most" : PySem.Str)] := ⟨He.glo_ok h.X0 h.G0 (h.c.fact 69), F35.kp, ok35, ar_of⟩
  have hN : N41.Nodup := sc41.nd
  obtain ⟨fd, F⟩ := h.c.def_ 41 (d := d41) rfl
  exact ⟨fd, F, def_ok (G := gm K) (N := N41) (k := 3) (O' := []) F sc41 fun cdv A outer s H E hr tk => (s_one (s_if (t_not (t_val (e_call tk (hr.mono (by decide)) g35 (F35.bindsN (ps := [("value" : PySem.Str), ("least" : PySem.Str), ("most" : PySem.Str)]) fun _ _ _ _ _ _ us hl => match us, hl with | [_, _, _], _ => rfl) .nil (fun _ => .nil) (a_cons (e_var 0) (a_cons e_int (a_cons (e_gint (He.int_ok h.X0 h.G0 (h.c.fact 45))) a_nil)))))) (s_one s_no) s_nil))⟩
theorem ok_42 {P : Program} {w : World} {K : PySem.W.Frag} {mg : Str → Option Value} {base : Heap} (h : Hy K mg base) : ∃ fd, FunD K d42.name d42.qual d42.params d42.body d42.scope (d42.dvs K) [] (d42.wh.ad K) fd ∧ FnB P w (gm K) mg base 4 (d42.wh.ad K) fd [("axes" : PySem.Str), ("value" : PySem.Str), ("part" : PySem.Str)] 3 [] B_need_axis := by
  obtain ⟨fd35, F35, ok35⟩ := ok_35 (P := P) (w := w) h
  have g35 : GlOk (gm K) P w mg base 3 ("is_within" : PySem.Str) 3 [] B_is_within _ fd35 [("value" : PySem.Str), ("least" : PySem.Str), ("most" : PySem.Str)] := ⟨He.glo_ok h.X0 h.G0 (h.c.fact 69), F35.kp, ok35, ar_of⟩
  have hN : N42.Nodup := sc42.nd
  obtain ⟨fd, F⟩ := h.c.def_ 42 (d := d42) rfl
  exact ⟨fd, F, def_ok (G := gm K) (N := N42) (k := 3) (O' := []) F sc42 fun cdv A outer s H E hr tk => (s_one (s_if (t_not (t_val (e_call tk (hr.mono (by decide)) g35 (F35.bindsN (ps := [("value" : PySem.Str), ("least" : PySem.Str), ("most" : PySem.Str)]) fun _ _ _ _ _ _ us hl => match us, hl with | [_, _, _], _ => rfl) .nil (fun _ => .nil) (a_cons (e_var 1) (a_cons e_int (a_cons (e_bin o_sub (e_var 0) e_int) a_nil)))))) (s_one s_no) s_nil))⟩
theorem ok_43 {P : Program} {w : World} {K : PySem.W.Frag} {mg : Str → Option Value} {base : Heap} (h : Hy K mg base) : ∃ fd, FunD K d43.name d43.qual d43.params d43.body d43.scope (d43.dvs K) [] (d43.wh.ad K) fd ∧ FnB P w (gm K) mg base 8 (d43.wh.ad K) fd [("parts" : PySem.Str)] 1 [] B_square_of := by
  obtain ⟨fd24, F24, ok24⟩ := ok_24 (P := P) (w := w) h
  obtain ⟨fd10, F10, ok10⟩ := ok_10 (P := P) (w := w) h
  obtain ⟨fd6, F6, ok6⟩ := ok_6 (P := P) (w := w) h
  have g24 : GlOk (gm K) P w mg base 7 ("summed" : PySem.Str) 1 [] B_summed _ fd24 [("ratios" : PySem.Str)] := ⟨He.glo_ok h.X0 h.G0 (h.c.fact 43), F24.kp, ok24, ar_of⟩
  have st10 : StOk (gm K) P w mg base 6 ("Ratio" : PySem.Str) (He.ga K ("Ratio" : PySem.Str)) ("of" : PySem.Str) 1 B_Ratio_of _ fd10 [("value" : PySem.Str)] := ⟨He.glo_ok h.X0 h.G0 (h.c.fact 9), (sta_ok (h.c.fact 14)).1, (sta_ok (h.c.fact 14)).2.1, (sta_ok (h.c.fact 14)).2.2, F10.kp, ok10, ar_of⟩
  have ht_mul : ∀ c B, List.lookup c [(0, B_Ratio___mul__)] = some B → (∃ f fd ps, OwnOk (gm K) P w mg base 6 ("__mul__" : PySem.Str) c B f fd ps 2) ∧ BinOk (gm K) ("__mul__" : PySem.Str) ("__rmul__" : PySem.Str) ["int"] [0] c := (lk_cons ⟨⟨_, fd6, [("self" : PySem.Str), ("other" : PySem.Str)], (He.meth_ok (h.c.fact 28)).at_, (He.meth_ok (h.c.fact 28)).fn, fn_up ok6 (by decide), F6.bindsN (ps := [("self" : PySem.Str), ("other" : PySem.Str)]) fun _ _ _ _ _ _ us hl => match us, hl with | [_, _], _ => rfl, ar_of⟩, ⟨(h.c.fact 19), rd_ok (h.c.fact 29), (mem_cons ⟨by decide, biT_ok (h.c.fact 27)⟩ mem_nil), (mem_cons (.inl rfl) mem_nil)⟩⟩ lk_nil)
  have hN : N43.Nodup := sc43.nd
  obtain ⟨fd, F⟩ := h.c.def_ 43 (d := d43) rfl
  exact ⟨fd, F, def_ok (G := gm K) (N := N43) (k := 7) (O' := []) F sc43 fun cdv A outer s H E hr tk => (s_one (s_ret (e_call tk (hr.mono (by decide)) g24 (F24.bindsN (ps := [("ratios" : PySem.Str)]) fun _ _ _ _ _ _ us hl => match us, hl with | [_], _ => rfl) .nil (fun _ => .nil) (a_cons (e_lcF (vs := [1]) [(("each" : PySem.Str), 1)] rfl (i_seq (e_var 0)) (blkOk_by (by kernel_rfl)) (fun _ _ _ _ _ => (g_to (O2 := []) (g_name 1))) (fun _ _ _ _ _ => pts_no) (fun _ _ _ _ _ => (e_bin (o_bin [(0, B_Ratio___mul__)] ["int"] [0] takes_blk (hr.mono (by decide)) o_mul ht_mul) (e_stat takes_blk (hr.mono (by decide)) st10 (F10.bindsN (ps := [("value" : PySem.Str)]) fun _ _ _ _ _ _ us hl => match us, hl with | [_], _ => rfl) .nil (fun _ => .nil) (a_cons (e_var 1) a_nil)) (e_var 1)))).fz a_nil))))⟩
theorem ok_44 {P : Program} {w : World} {K : PySem.W.Frag} {mg : Str → Option Value} {base : Heap} (h : Hy K mg base) : ∃ fd, FunD K d44.name d44.qual d44.params d44.body d44.scope (d44.dvs K) [] (d44.wh.ad K) fd ∧ FnB P w (gm K) mg base 9 (d44.wh.ad K) fd [("value" : PySem.Str)] 1 [] B_are_parts := by
  obtain ⟨fd23, F23, ok23⟩ := ok_23 (P := P) (w := w) h
  obtain ⟨fd15, F15, ok15⟩ := ok_15 (P := P) (w := w) h
  obtain ⟨fd43, F43, ok43⟩ := ok_43 (P := P) (w := w) h
  have g23 : GlOk (gm K) P w mg base 4 ("are_ratios" : PySem.Str) 1 [] B_are_ratios _ fd23 [("value" : PySem.Str)] := ⟨He.glo_ok h.X0 h.G0 (h.c.fact 42), F23.kp, ok23, ar_of⟩
  have m_len : mg ("len" : PySem.Str) = none := He.free_ok h.X0 h.G0 (h.c.fact 1)
  have mt_is_below_1 : ∀ c B, List.lookup c [(0, B_Ratio_is_below)] = some B → ∃ n f fd ps ds dvs, MtOk (gm K) P w mg base 8 c ("is_below" : PySem.Str) n B f fd ps ds dvs ∧ ∀ F, RepL (gm K) F [] dvs := (lk_cons ⟨2, _, fd15, [("self" : PySem.Str), ("other" : PySem.Str)], _, _, ⟨(clo0 h).1, He.meth_ok (h.c.fact 26), fn_up ok15 (by decide), ar_of, (F15.bindsN (ps := [("self" : PySem.Str), ("other" : PySem.Str)]) fun _ _ _ _ _ _ us hl => match us, hl with | [_, _], _ => rfl), .nil⟩, (fun _ => .nil)⟩ lk_nil)
  have g43 : GlOk (gm K) P w mg base 8 ("square_of" : PySem.Str) 1 [] B_square_of _ fd43 [("parts" : PySem.Str)] := ⟨He.glo_ok h.X0 h.G0 (h.c.fact 74), F43.kp, ok43, ar_of⟩
  have hN : N44.Nodup := sc44.nd
  obtain ⟨fd, F⟩ := h.c.def_ 44 (d := d44) rfl
  exact ⟨fd, F, def_ok (G := gm K) (N := N44) (k := 8) (O' := []) F sc44 fun cdv A outer s H E hr tk => (s_cons (s_if (t_bo (w_or (t_not (t_val (e_call tk (hr.mono (by decide)) g23 (F23.bindsN (ps := [("value" : PySem.Str)]) fun _ _ _ _ _ _ us hl => match us, hl with | [_], _ => rfl) .nil (fun _ => .nil) (a_cons (e_var 0) a_nil)))) (w_or1 (t_not (t_chain o_le o_le e_int (e_len (a_cons (e_var 0) a_nil)) (e_gint (He.int_ok h.X0 h.G0 (h.c.fact 45)))))))) (s_one (s_ret e_bl)) s_nil) (s_one (s_ret (e_meth [(0, B_Ratio_is_below)] tk (hr.mono (by decide)) (show ("is_below" : PySem.Str) ∉ flds by decide +kernel) (e_call tk (hr.mono (by decide)) g43 (F43.bindsN (ps := [("parts" : PySem.Str)]) fun _ _ _ _ _ _ us hl => match us, hl with | [_], _ => rfl) .nil (fun _ => .nil) (a_cons (e_var 0) a_nil)) (a_cons e_int a_nil) mt_is_below_1))))⟩
theorem ok_45 {P : Program} {w : World} {K : PySem.W.Frag} {mg : Str → Option Value} {base : Heap} (h : Hy K mg base) : ∃ fd, FunD K d45.name d45.qual d45.params d45.body d45.scope (d45.dvs K) [] (d45.wh.ad K) fd ∧ FnB P w (gm K) mg base 10 (d45.wh.ad K) fd [("self" : PySem.Str), ("parts" : PySem.Str)] 2 [0] B_Pace___init__ := by
  obtain ⟨fd44, F44, ok44⟩ := ok_44 (P := P) (w := w) h
  obtain ⟨fd10, F10, ok10⟩ := ok_10 (P := P) (w := w) h
  obtain ⟨fd43, F43, ok43⟩ := ok_43 (P := P) (w := w) h
  have g44 : GlOk (gm K) P w mg base 9 ("are_parts" : PySem.Str) 1 [] B_are_parts _ fd44 [("value" : PySem.Str)] := ⟨He.glo_ok h.X0 h.G0 (h.c.fact 75), F44.kp, ok44, ar_of⟩
  have m_tuple : mg ("tuple" : PySem.Str) = none := He.free_ok h.X0 h.G0 (h.c.fact 38)
  have st10 : StOk (gm K) P w mg base 6 ("Ratio" : PySem.Str) (He.ga K ("Ratio" : PySem.Str)) ("of" : PySem.Str) 1 B_Ratio_of _ fd10 [("value" : PySem.Str)] := ⟨He.glo_ok h.X0 h.G0 (h.c.fact 9), (sta_ok (h.c.fact 14)).1, (sta_ok (h.c.fact 14)).2.1, (sta_ok (h.c.fact 14)).2.2, F10.kp, ok10, ar_of⟩
  have ht_fs_parts : ∀ c i, List.lookup c [(4, 0)] = some i → ClsOk (gm K) c ∧ ((gm K).lay c)[i]? = some ("parts" : PySem.Str) := lk_cons ⟨co4 h, rfl⟩ lk_nil
  have m_len : mg ("len" : PySem.Str) = none := He.free_ok h.X0 h.G0 (h.c.fact 1)
  have ht_fl_parts : ∀ c i, List.lookup c [(4, 0), (5, 0)] = some i → ClsOk (gm K) c ∧ ((gm K).lay c)[i]? = some ("parts" : PySem.Str) := (lk_cons ⟨co4 h, rfl⟩ (lk_cons ⟨co5 h, rfl⟩ lk_nil))
  have ht_fs_axes : ∀ c i, List.lookup c [(4, 1)] = some i → ClsOk (gm K) c ∧ ((gm K).lay c)[i]? = some ("axes" : PySem.Str) := lk_cons ⟨co4 h, rfl⟩ lk_nil
  have g43 : GlOk (gm K) P w mg base 8 ("square_of" : PySem.Str) 1 [] B_square_of _ fd43 [("parts" : PySem.Str)] := ⟨He.glo_ok h.X0 h.G0 (h.c.fact 74), F43.kp, ok43, ar_of⟩
  have ht_fs_square : ∀ c i, List.lookup c [(4, 2)] = some i → ClsOk (gm K) c ∧ ((gm K).lay c)[i]? = some ("square" : PySem.Str) := lk_cons ⟨co4 h, rfl⟩ lk_nil
  have hN : N45.Nodup := sc45.nd
  obtain ⟨fd, F⟩ := h.c.def_ 45 (d := d45) rfl
  exact ⟨fd, F, def_ok (G := gm K) (N := N45) (k := 9) (O' := [0]) F sc45 fun cdv A outer s H E hr tk => (s_cons (s_if (t_not (t_val (e_call tk (hr.mono (by decide)) g44 (F44.bindsN (ps := [("value" : PySem.Str)]) fun _ _ _ _ _ _ us hl => match us, hl with | [_], _ => rfl) .nil (fun _ => .nil) (a_cons (e_var 1) a_nil)))) (s_one s_no) s_nil) (s_cons (s_fld 0 [(4, 0)] (e_tuple (a_cons (e_lcF (vs := [2]) [(("each" : PySem.Str), 2)] rfl (i_seq (e_var 1)) (blkOk_by (by kernel_rfl)) (fun _ _ _ _ _ => (g_to (O2 := [0]) (g_name 2))) (fun _ _ _ _ _ => pts_no) (fun _ _ _ _ _ => (e_stat takes_blk (hr.mono (by decide)) st10 (F10.bindsN (ps := [("value" : PySem.Str)]) fun _ _ _ _ _ _ us hl => match us, hl with | [_], _ => rfl) .nil (fun _ => .nil) (a_cons (e_var 2) a_nil)))).fz a_nil)) ht_fs_parts) (s_cons (s_fld 0 [(4, 1)] (e_len (a_cons (e_fl [(4, 0), (5, 0)] (e_self 0) ht_fl_parts) a_nil)) ht_fs_axes) (s_one (s_fld 0 [(4, 2)] (e_call tk (hr.mono (by decide)) g43 (F43.bindsN (ps := [("parts" : PySem.Str)]) fun _ _ _ _ _ _ us hl => match us, hl with | [_], _ => rfl) .nil (fun _ => .nil) (a_cons (e_fl [(4, 0), (5, 0)] (e_self 0) ht_fl_parts) a_nil)) ht_fs_square)))))⟩
theorem ok_46 {P : Program} {w : World} {K : PySem.W.Frag} {mg : Str → Option Value} {base : Heap} (h : Hy K mg base) : ∃ fd, FunD K d46.name d46.qual d46.params d46.body d46.scope (d46.dvs K) [] (d46.wh.ad K) fd ∧ FnB P w (gm K) mg base 12 (d46.wh.ad K) fd [("ratio" : PySem.Str), ("axes" : PySem.Str), ("axis" : PySem.Str)] 3 [] B_Pace_of_beats := by
  obtain ⟨fd40, F40, ok40⟩ := ok_40 (P := P) (w := w) h
  obtain ⟨fd41, F41, ok41⟩ := ok_41 (P := P) (w := w) h
  obtain ⟨fd42, F42, ok42⟩ := ok_42 (P := P) (w := w) h
  obtain ⟨fd10, F10, ok10⟩ := ok_10 (P := P) (w := w) h
  obtain ⟨fd6, F6, ok6⟩ := ok_6 (P := P) (w := w) h
  obtain ⟨fd45, F45, ok45⟩ := ok_45 (P := P) (w := w) h
  obtain ⟨fd12, F12, ok12⟩ := ok_12 (P := P) (w := w) h
  obtain ⟨fd14, F14, ok14⟩ := ok_14 (P := P) (w := w) h
  obtain ⟨fd7, F7, ok7⟩ := ok_7 (P := P) (w := w) h
  have g40 : GlOk (gm K) P w mg base 7 ("need_above" : PySem.Str) 2 [] B_need_above _ fd40 [("value" : PySem.Str), ("part" : PySem.Str)] := ⟨He.glo_ok h.X0 h.G0 (h.c.fact 76), F40.kp, ok40, ar_of⟩
  have g41 : GlOk (gm K) P w mg base 4 ("need_count_of_axes" : PySem.Str) 1 [] B_need_count_of_axes _ fd41 [("value" : PySem.Str)] := ⟨He.glo_ok h.X0 h.G0 (h.c.fact 77), F41.kp, ok41, ar_of⟩
  have g42 : GlOk (gm K) P w mg base 4 ("need_axis" : PySem.Str) 3 [] B_need_axis _ fd42 [("axes" : PySem.Str), ("value" : PySem.Str), ("part" : PySem.Str)] := ⟨He.glo_ok h.X0 h.G0 (h.c.fact 78), F42.kp, ok42, ar_of⟩
  have st10 : StOk (gm K) P w mg base 6 ("Ratio" : PySem.Str) (He.ga K ("Ratio" : PySem.Str)) ("of" : PySem.Str) 1 B_Ratio_of _ fd10 [("value" : PySem.Str)] := ⟨He.glo_ok h.X0 h.G0 (h.c.fact 9), (sta_ok (h.c.fact 14)).1, (sta_ok (h.c.fact 14)).2.1, (sta_ok (h.c.fact 14)).2.2, F10.kp, ok10, ar_of⟩
  have ht_mul : ∀ c B, List.lookup c [(0, B_Ratio___mul__)] = some B → (∃ f fd ps, OwnOk (gm K) P w mg base 6 ("__mul__" : PySem.Str) c B f fd ps 2) ∧ BinOk (gm K) ("__mul__" : PySem.Str) ("__rmul__" : PySem.Str) ["int"] [0] c := (lk_cons ⟨⟨_, fd6, [("self" : PySem.Str), ("other" : PySem.Str)], (He.meth_ok (h.c.fact 28)).at_, (He.meth_ok (h.c.fact 28)).fn, fn_up ok6 (by decide), F6.bindsN (ps := [("self" : PySem.Str), ("other" : PySem.Str)]) fun _ _ _ _ _ _ us hl => match us, hl with | [_, _], _ => rfl, ar_of⟩, ⟨(h.c.fact 19), rd_ok (h.c.fact 29), (mem_cons ⟨by decide, biT_ok (h.c.fact 27)⟩ mem_nil), (mem_cons (.inl rfl) mem_nil)⟩⟩ lk_nil)
  have nw45 : NwOk (gm K) P w mg base 10 ("Pace" : PySem.Str) 4 2 B_Pace___init__ _ fd45 [("self" : PySem.Str), ("parts" : PySem.Str)] := ⟨He.glo_ok h.X0 h.G0 (h.c.fact 79), He.mkr_ok (h.c.fact 80), rfl, ok45, ar_of, rfl⟩
  have m_range : mg ("range" : PySem.Str) = none := He.free_ok h.X0 h.G0 (h.c.fact 81)
  have mt_over_1 : ∀ c B, List.lookup c [(0, B_Ratio_over)] = some B → ∃ n f fd ps ds dvs, MtOk (gm K) P w mg base 6 c ("over" : PySem.Str) n B f fd ps ds dvs ∧ ∀ F, RepL (gm K) F [] dvs := (lk_cons ⟨2, _, fd12, [("self" : PySem.Str), ("other" : PySem.Str)], _, _, ⟨(clo0 h).1, He.meth_ok (h.c.fact 25), fn_up ok12 (by decide), ar_of, (F12.bindsN (ps := [("self" : PySem.Str), ("other" : PySem.Str)]) fun _ _ _ _ _ _ us hl => match us, hl with | [_, _], _ => rfl), .nil⟩, (fun _ => .nil)⟩ lk_nil)
  have ht_sub : ∀ c B, List.lookup c [(0, B_Ratio___sub__)] = some B → (∃ f fd ps, OwnOk (gm K) P w mg base 7 ("__sub__" : PySem.Str) c B f fd ps 2) ∧ BinOk (gm K) ("__sub__" : PySem.Str) ("__rsub__" : PySem.Str) ["int"] [0] c := (lk_cons ⟨⟨_, fd14, [("self" : PySem.Str), ("other" : PySem.Str)], (He.meth_ok (h.c.fact 22)).at_, (He.meth_ok (h.c.fact 22)).fn, fn_up ok14 (by decide), F14.bindsN (ps := [("self" : PySem.Str), ("other" : PySem.Str)]) fun _ _ _ _ _ _ us hl => match us, hl with | [_, _], _ => rfl, ar_of⟩, ⟨(h.c.fact 19), rd_ok (h.c.fact 23), (mem_cons ⟨by decide, biT_ok (h.c.fact 21)⟩ mem_nil), (mem_cons (.inl rfl) mem_nil)⟩⟩ lk_nil)
  have ht_add : ∀ c B, List.lookup c [(0, B_Ratio___add__)] = some B → (∃ f fd ps, OwnOk (gm K) P w mg base 6 ("__add__" : PySem.Str) c B f fd ps 2) ∧ BinOk (gm K) ("__add__" : PySem.Str) ("__radd__" : PySem.Str) ["int"] [0] c := (lk_cons ⟨⟨_, fd7, [("self" : PySem.Str), ("other" : PySem.Str)], (He.meth_ok (h.c.fact 18)).at_, (He.meth_ok (h.c.fact 18)).fn, fn_up ok7 (by decide), F7.bindsN (ps := [("self" : PySem.Str), ("other" : PySem.Str)]) fun _ _ _ _ _ _ us hl => match us, hl with | [_, _], _ => rfl, ar_of⟩, ⟨(h.c.fact 19), rd_ok (h.c.fact 20), (mem_cons ⟨by decide, biT_ok (h.c.fact 17)⟩ mem_nil), (mem_cons (.inl rfl) mem_nil)⟩⟩ lk_nil)
  have hN : N46.Nodup := sc46.nd
  obtain ⟨fd, F⟩ := h.c.def_ 46 (d := d46) rfl
  exact ⟨fd, F, def_ok (G := gm K) (N := N46) (k := 11) (O' := []) F sc46 fun cdv A outer s H E hr tk => (s_cons (s_expr (e_call tk (hr.mono (by decide)) g40 (F40.bindsN (ps := [("value" : PySem.Str), ("part" : PySem.Str)]) fun _ _ _ _ _ _ us hl => match us, hl with | [_, _], _ => rfl) .nil (fun _ => .nil) (a_cons (e_var 0) (a_cons e_str a_nil)))) (s_cons (s_expr (e_call tk (hr.mono (by decide)) g41 (F41.bindsN (ps := [("value" : PySem.Str)]) fun _ _ _ _ _ _ us hl => match us, hl with | [_], _ => rfl) .nil (fun _ => .nil) (a_cons (e_var 1) a_nil))) (s_cons (s_expr (e_call tk (hr.mono (by decide)) g42 (F42.bindsN (ps := [("axes" : PySem.Str), ("value" : PySem.Str), ("part" : PySem.Str)]) fun _ _ _ _ _ _ us hl => match us, hl with | [_, _, _], _ => rfl) .nil (fun _ => .nil) (a_cons (e_var 1) (a_cons (e_var 2) (a_cons e_str a_nil))))) (s_cons (s_to (O2 := []) (s_set 3 (e_bin (o_bin [(0, B_Ratio___mul__)] ["int"] [0] tk (hr.mono (by decide)) o_mul ht_mul) (e_stat tk (hr.mono (by decide)) st10 (F10.bindsN (ps := [("value" : PySem.Str)]) fun _ _ _ _ _ _ us hl => match us, hl with | [_], _ => rfl) .nil (fun _ => .nil) (a_cons (e_var 0) a_nil)) (e_var 0)))) (s_one (s_ret (e_new tk (hr.mono (by decide)) nw45 (F45.bindsN (ps := [("self" : PySem.Str), ("parts" : PySem.Str)]) fun _ _ _ _ _ _ us hl => match us, hl with | [_, _], _ => rfl) .nil (fun _ => .nil) (a_cons (e_lcF (vs := [4]) [(("at" : PySem.Str), 4)] rfl (i_rng1 (a_cons (e_var 1) a_nil)) (blkOk_by (by kernel_rfl)) (fun _ _ _ _ _ => (g_to (O2 := []) (g_name 4))) (fun _ _ _ _ _ => pts_no) (fun _ _ _ _ _ => (e_if (t_cmp (o_eq hr) (e_var 4) (e_var 2)) (e_meth [(0, B_Ratio_over)] takes_blk (hr.mono (by decide)) (show ("over" : PySem.Str) ∉ flds by decide +kernel) (e_bin (o_bin [(0, B_Ratio___sub__)] ["int"] [0] takes_blk (hr.mono (by decide)) o_sub ht_sub) (e_var 3) e_int) (a_cons (e_bin (o_bin [(0, B_Ratio___add__)] ["int"] [0] takes_blk (hr.mono (by decide)) o_add ht_add) (e_var 3) e_int) a_nil) mt_over_1) e_int))).fz a_nil))))))))⟩
theorem ok_47 {P : Program} {w : World} {K : PySem.W.Frag} {mg : Str → Option Value} {base : Heap} (h : Hy K mg base) : ∃ fd, FunD K d47.name d47.qual d47.params d47.body d47.scope (d47.dvs K) [] (d47.wh.ad K) fd ∧ FnB P w (gm K) mg base 2 (d47.wh.ad K) fd [("value" : PySem.Str), ("part" : PySem.Str)] 2 [] B_need_step := by
  have m_isinstance : mg ("isinstance" : PySem.Str) = none := He.free_ok h.X0 h.G0 (h.c.fact 4)
  have hN : N47.Nodup := sc47.nd
  obtain ⟨fd, F⟩ := h.c.def_ 47 (d := d47) rfl
  exact ⟨fd, F, def_ok (G := gm K) (N := N47) (k := 1) (O' := []) F sc47 fun cdv A outer s H E hr tk => (s_one (s_if (t_not (t_val (e_isi (e_var 0) (cv_own (He.glo_ok h.X0 h.G0 (h.c.fact 48))) (kn_own (k := 2) [(2, true)] (lk_cons ⟨ty2 h, eqF_ok (h.c.fact 56)⟩ lk_nil) fun m hm => eqF_ok (List.all_eq_true.mp (h.c.fact 57) m hm))))) (s_one s_no) s_nil))⟩
theorem ok_48 {P : Program} {w : World} {K : PySem.W.Frag} {mg : Str → Option Value} {base : Heap} (h : Hy K mg base) : ∃ fd, FunD K d48.name d48.qual d48.params d48.body d48.scope (d48.dvs K) [] (d48.wh.ad K) fd ∧ FnB P w (gm K) mg base 2 (d48.wh.ad K) fd [("one" : PySem.Str), ("other" : PySem.Str)] 2 [] B_need_axes := by
  have ht_fl_axes : ∀ c i, List.lookup c [(2, 2), (3, 0), (4, 1)] = some i → ClsOk (gm K) c ∧ ((gm K).lay c)[i]? = some ("axes" : PySem.Str) := (lk_cons ⟨co2 h, rfl⟩ (lk_cons ⟨co3 h, rfl⟩ (lk_cons ⟨co4 h, rfl⟩ lk_nil)))
  have hN : N48.Nodup := sc48.nd
  obtain ⟨fd, F⟩ := h.c.def_ 48 (d := d48) rfl
  exact ⟨fd, F, def_ok (G := gm K) (N := N48) (k := 1) (O' := []) F sc48 fun cdv A outer s H E hr tk => (s_one (s_if (t_cmp (o_ne hr) (e_fl [(2, 2), (3, 0), (4, 1)] (e_var 0) ht_fl_axes) (e_fl [(2, 2), (3, 0), (4, 1)] (e_var 1) ht_fl_axes)) (s_one s_no) s_nil))⟩
theorem ok_49 {P : Program} {w : World} {K : PySem.W.Frag} {mg : Str → Option Value} {base : Heap} (h : Hy K mg base) : ∃ fd, FunD K d49.name d49.qual d49.params d49.body d49.scope (d49.dvs K) [] (d49.wh.ad K) fd ∧ FnB P w (gm K) mg base 11 (d49.wh.ad K) fd [("self" : PySem.Str), ("other" : PySem.Str)] 2 [] B_Step___add__ := by
  obtain ⟨fd47, F47, ok47⟩ := ok_47 (P := P) (w := w) h
  obtain ⟨fd48, F48, ok48⟩ := ok_48 (P := P) (w := w) h
  obtain ⟨fd27, F27, ok27⟩ := ok_27 (P := P) (w := w) h
  obtain ⟨fd7, F7, ok7⟩ := ok_7 (P := P) (w := w) h
  have g47 : GlOk (gm K) P w mg base 2 ("need_step" : PySem.Str) 2 [] B_need_step _ fd47 [("value" : PySem.Str), ("part" : PySem.Str)] := ⟨He.glo_ok h.X0 h.G0 (h.c.fact 82), F47.kp, ok47, ar_of⟩
  have g48 : GlOk (gm K) P w mg base 2 ("need_axes" : PySem.Str) 2 [] B_need_axes _ fd48 [("one" : PySem.Str), ("other" : PySem.Str)] := ⟨He.glo_ok h.X0 h.G0 (h.c.fact 83), F48.kp, ok48, ar_of⟩
  have nw27 : NwOk (gm K) P w mg base 9 ("Step" : PySem.Str) 2 3 B_Step___init__ _ fd27 [("self" : PySem.Str), ("time" : PySem.Str), ("place" : PySem.Str)] := ⟨He.glo_ok h.X0 h.G0 (h.c.fact 48), He.mkr_ok (h.c.fact 49), rfl, ok27, ar_of, rfl⟩
  have ht_fl_time : ∀ c i, List.lookup c [(2, 0)] = some i → ClsOk (gm K) c ∧ ((gm K).lay c)[i]? = some ("time" : PySem.Str) := (lk_cons ⟨co2 h, rfl⟩ lk_nil)
  have ht_add : ∀ c B, List.lookup c [(0, B_Ratio___add__)] = some B → (∃ f fd ps, OwnOk (gm K) P w mg base 6 ("__add__" : PySem.Str) c B f fd ps 2) ∧ BinOk (gm K) ("__add__" : PySem.Str) ("__radd__" : PySem.Str) ["int"] [0] c := (lk_cons ⟨⟨_, fd7, [("self" : PySem.Str), ("other" : PySem.Str)], (He.meth_ok (h.c.fact 18)).at_, (He.meth_ok (h.c.fact 18)).fn, fn_up ok7 (by decide), F7.bindsN (ps := [("self" : PySem.Str), ("other" : PySem.Str)]) fun _ _ _ _ _ _ us hl => match us, hl with | [_, _], _ => rfl, ar_of⟩, ⟨(h.c.fact 19), rd_ok (h.c.fact 20), (mem_cons ⟨by decide, biT_ok (h.c.fact 17)⟩ mem_nil), (mem_cons (.inl rfl) mem_nil)⟩⟩ lk_nil)
  have m_zip : mg ("zip" : PySem.Str) = none := He.free_ok h.X0 h.G0 (h.c.fact 44)
  have ht_fl_place : ∀ c i, List.lookup c [(2, 1)] = some i → ClsOk (gm K) c ∧ ((gm K).lay c)[i]? = some ("place" : PySem.Str) := (lk_cons ⟨co2 h, rfl⟩ lk_nil)
  have hN : N49.Nodup := sc49.nd
  obtain ⟨fd, F⟩ := h.c.def_ 49 (d := d49) rfl
  exact ⟨fd, F, def_ok (G := gm K) (N := N49) (k := 10) (O' := []) F sc49 fun cdv A outer s H E hr tk => (s_cons (s_expr (e_call tk (hr.mono (by decide)) g47 (F47.bindsN (ps := [("value" : PySem.Str), ("part" : PySem.Str)]) fun _ _ _ _ _ _ us hl => match us, hl with | [_, _], _ => rfl) .nil (fun _ => .nil) (a_cons (e_var 1) (a_cons e_str a_nil)))) (s_cons (s_expr (e_call tk (hr.mono (by decide)) g48 (F48.bindsN (ps := [("one" : PySem.Str), ("other" : PySem.Str)]) fun _ _ _ _ _ _ us hl => match us, hl with | [_, _], _ => rfl) .nil (fun _ => .nil) (a_cons (e_var 0) (a_cons (e_var 1) a_nil)))) (s_one (s_ret (e_new tk (hr.mono (by decide)) nw27 (F27.bindsN (ps := [("self" : PySem.Str), ("time" : PySem.Str), ("place" : PySem.Str)]) fun _ _ _ _ _ _ us hl => match us, hl with | [_, _, _], _ => rfl) .nil (fun _ => .nil) (a_cons (e_bin (o_bin [(0, B_Ratio___add__)] ["int"] [0] tk (hr.mono (by decide)) o_add ht_add) (e_fl [(2, 0)] (e_var 0) ht_fl_time) (e_fl [(2, 0)] (e_var 1) ht_fl_time)) (a_cons (e_lcF (vs := [2, 3]) [(("mine" : PySem.Str), 2), (("its" : PySem.Str), 3)] rfl (i_zip (a_cons (e_fl [(2, 1)] (e_var 0) ht_fl_place) (a_cons (e_fl [(2, 1)] (e_var 1) ht_fl_place) a_nil))) (blkOk_by (by kernel_rfl)) (fun _ _ _ _ _ => (g_tup (gs_cons (g_to (O2 := []) (g_name 2)) (gs_cons (g_to (O2 := []) (g_name 3)) gs_nil)))) (fun _ _ _ _ _ => pts_no) (fun _ _ _ _ _ => (e_bin (o_bin [(0, B_Ratio___add__)] ["int"] [0] takes_blk (hr.mono (by decide)) o_add ht_add) (e_var 2) (e_var 3)))).fz a_nil)))))))⟩
theorem ok_50 {P : Program} {w : World} {K : PySem.W.Frag} {mg : Str → Option Value} {base : Heap} (h : Hy K mg base) : ∃ fd, FunD K d50.name d50.qual d50.params d50.body d50.scope (d50.dvs K) [] (d50.wh.ad K) fd ∧ FnB P w (gm K) mg base 11 (d50.wh.ad K) fd [("self" : PySem.Str)] 1 [] B_Step___neg__ := by
  obtain ⟨fd27, F27, ok27⟩ := ok_27 (P := P) (w := w) h
  obtain ⟨fd13, F13, ok13⟩ := ok_13 (P := P) (w := w) h
  have nw27 : NwOk (gm K) P w mg base 9 ("Step" : PySem.Str) 2 3 B_Step___init__ _ fd27 [("self" : PySem.Str), ("time" : PySem.Str), ("place" : PySem.Str)] := ⟨He.glo_ok h.X0 h.G0 (h.c.fact 48), He.mkr_ok (h.c.fact 49), rfl, ok27, ar_of, rfl⟩
  have ht_fl_time : ∀ c i, List.lookup c [(2, 0)] = some i → ClsOk (gm K) c ∧ ((gm K).lay c)[i]? = some ("time" : PySem.Str) := (lk_cons ⟨co2 h, rfl⟩ lk_nil)
  have ht_neg : ∀ c B, List.lookup c [(0, B_Ratio___neg__)] = some B → ∃ f fd ps, OwnOk (gm K) P w mg base 5 "__neg__" c B f fd ps 1 := (lk_cons ⟨_, fd13, [("self" : PySem.Str)], (He.meth_ok (h.c.fact 16)).at_, (He.meth_ok (h.c.fact 16)).fn, fn_up ok13 (by decide), F13.bindsN (ps := [("self" : PySem.Str)]) fun _ _ _ _ _ _ us hl => match us, hl with | [_], _ => rfl, ar_of⟩ lk_nil)
  have ht_fl_place : ∀ c i, List.lookup c [(2, 1)] = some i → ClsOk (gm K) c ∧ ((gm K).lay c)[i]? = some ("place" : PySem.Str) := (lk_cons ⟨co2 h, rfl⟩ lk_nil)
  have hN : N50.Nodup := sc50.nd
  obtain ⟨fd, F⟩ := h.c.def_ 50 (d := d50) rfl
  exact ⟨fd, F, def_ok (G := gm K) (N := N50) (k := 10) (O' := []) F sc50 fun cdv A outer s H E hr tk => (s_one (s_ret (e_new tk (hr.mono (by decide)) nw27 (F27.bindsN (ps := [("self" : PySem.Str), ("time" : PySem.Str), ("place" : PySem.Str)]) fun _ _ _ _ _ _ us hl => match us, hl with | [_, _, _], _ => rfl) .nil (fun _ => .nil) (a_cons (e_un (o_negW [(0, B_Ratio___neg__)] tk (hr.mono (by decide)) o_neg ht_neg) (e_fl [(2, 0)] (e_var 0) ht_fl_time)) (a_cons (e_lcF (vs := [1]) [(("each" : PySem.Str), 1)] rfl (i_seq (e_fl [(2, 1)] (e_var 0) ht_fl_place)) (blkOk_by (by kernel_rfl)) (fun _ _ _ _ _ => (g_to (O2 := []) (g_name 1))) (fun _ _ _ _ _ => pts_no) (fun _ _ _ _ _ => (e_un (o_negW [(0, B_Ratio___neg__)] takes_blk (hr.mono (by decide)) o_neg ht_neg) (e_var 1)))).fz a_nil)))))⟩
theorem ok_51 {P : Program} {w : World} {K : PySem.W.Frag} {mg : Str → Option Value} {base : Heap} (h : Hy K mg base) : ∃ fd, FunD K d51.name d51.qual d51.params d51.body d51.scope (d51.dvs K) [] (d51.wh.ad K) fd ∧ FnB P w (gm K) mg base 12 (d51.wh.ad K) fd [("self" : PySem.Str), ("other" : PySem.Str)] 2 [] B_Step___sub__ := by
  obtain ⟨fd47, F47, ok47⟩ := ok_47 (P := P) (w := w) h
  obtain ⟨fd50, F50, ok50⟩ := ok_50 (P := P) (w := w) h
  obtain ⟨fd49, F49, ok49⟩ := ok_49 (P := P) (w := w) h
  have g47 : GlOk (gm K) P w mg base 2 ("need_step" : PySem.Str) 2 [] B_need_step _ fd47 [("value" : PySem.Str), ("part" : PySem.Str)] := ⟨He.glo_ok h.X0 h.G0 (h.c.fact 82), F47.kp, ok47, ar_of⟩
  have ht_neg : ∀ c B, List.lookup c [(2, B_Step___neg__)] = some B → ∃ f fd ps, OwnOk (gm K) P w mg base 11 "__neg__" c B f fd ps 1 := (lk_cons ⟨_, fd50, [("self" : PySem.Str)], (He.meth_ok (h.c.fact 84)).at_, (He.meth_ok (h.c.fact 84)).fn, fn_up ok50 (by decide), F50.bindsN (ps := [("self" : PySem.Str)]) fun _ _ _ _ _ _ us hl => match us, hl with | [_], _ => rfl, ar_of⟩ lk_nil)
  have ht_add : ∀ c B, List.lookup c [(2, B_Step___add__)] = some B → (∃ f fd ps, OwnOk (gm K) P w mg base 11 ("__add__" : PySem.Str) c B f fd ps 2) ∧ BinOk (gm K) ("__add__" : PySem.Str) ("__radd__" : PySem.Str) ["int"] [2] c := (lk_cons ⟨⟨_, fd49, [("self" : PySem.Str), ("other" : PySem.Str)], (He.meth_ok (h.c.fact 86)).at_, (He.meth_ok (h.c.fact 86)).fn, fn_up ok49 (by decide), F49.bindsN (ps := [("self" : PySem.Str), ("other" : PySem.Str)]) fun _ _ _ _ _ _ us hl => match us, hl with | [_, _], _ => rfl, ar_of⟩, ⟨(h.c.fact 87), rd_ok (h.c.fact 88), (mem_cons ⟨by decide, biT_ok (h.c.fact 85)⟩ mem_nil), (mem_cons (.inl rfl) mem_nil)⟩⟩ lk_nil)
  have hN : N51.Nodup := sc51.nd
  obtain ⟨fd, F⟩ := h.c.def_ 51 (d := d51) rfl
  exact ⟨fd, F, def_ok (G := gm K) (N := N51) (k := 11) (O' := []) F sc51 fun cdv A outer s H E hr tk => (s_cons (s_expr (e_call tk (hr.mono (by decide)) g47 (F47.bindsN (ps := [("value" : PySem.Str), ("part" : PySem.Str)]) fun _ _ _ _ _ _ us hl => match us, hl with | [_, _], _ => rfl) .nil (fun _ => .nil) (a_cons (e_var 1) (a_cons e_str a_nil)))) (s_one (s_ret (e_bin (o_bin [(2, B_Step___add__)] ["int"] [2] tk (hr.mono (by decide)) o_add ht_add) (e_var 0) (e_un (o_negW [(2, B_Step___neg__)] tk (hr.mono (by decide)) o_neg ht_neg) (e_var 1))))))⟩
theorem ok_52 {P : Program} {w : World} {K : PySem.W.Frag} {mg : Str → Option Value} {base : Heap} (h : Hy K mg base) : ∃ fd, FunD K d52.name d52.qual d52.params d52.body d52.scope (d52.dvs K) [] (d52.wh.ad K) fd ∧ FnB P w (gm K) mg base 2 (d52.wh.ad K) fd [("value" : PySem.Str), ("part" : PySem.Str)] 2 [] B_need_book := by
  have m_isinstance : mg ("isinstance" : PySem.Str) = none := He.free_ok h.X0 h.G0 (h.c.fact 4)
  have hN : N52.Nodup := sc52.nd
  obtain ⟨fd, F⟩ := h.c.def_ 52 (d := d52) rfl
  exact ⟨fd, F, def_ok (G := gm K) (N := N52) (k := 1) (O' := []) F sc52 fun cdv A outer s H E hr tk => (s_one (s_if (t_not (t_val (e_isi (e_var 0) (cv_own (He.glo_ok h.X0 h.G0 (h.c.fact 90))) (kn_own (k := 3) [(3, true)] (lk_cons ⟨ty3 h, eqF_ok (h.c.fact 89)⟩ lk_nil) fun m hm => eqF_ok (List.all_eq_true.mp (h.c.fact 91) m hm))))) (s_one s_no) s_nil))⟩
theorem ok_53 {P : Program} {w : World} {K : PySem.W.Frag} {mg : Str → Option Value} {base : Heap} (h : Hy K mg base) : ∃ fd, FunD K d53.name d53.qual d53.params d53.body d53.scope (d53.dvs K) [] (d53.wh.ad K) fd ∧ FnB P w (gm K) mg base 2 (d53.wh.ad K) fd [("value" : PySem.Str), ("part" : PySem.Str)] 2 [] B_need_pace := by
  have m_isinstance : mg ("isinstance" : PySem.Str) = none := He.free_ok h.X0 h.G0 (h.c.fact 4)
  have hN : N53.Nodup := sc53.nd
  obtain ⟨fd, F⟩ := h.c.def_ 53 (d := d53) rfl
  exact ⟨fd, F, def_ok (G := gm K) (N := N53) (k := 1) (O' := []) F sc53 fun cdv A outer s H E hr tk => (s_one (s_if (t_not (t_val (e_isi (e_var 0) (cv_own (He.glo_ok h.X0 h.G0 (h.c.fact 79))) (kn_own (k := 4) [(4, true)] (lk_cons ⟨ty4 h, eqF_ok (h.c.fact 92)⟩ lk_nil) fun m hm => eqF_ok (List.all_eq_true.mp (h.c.fact 93) m hm))))) (s_one s_no) s_nil))⟩
theorem ok_54 {P : Program} {w : World} {K : PySem.W.Frag} {mg : Str → Option Value} {base : Heap} (h : Hy K mg base) : ∃ fd, FunD K d54.name d54.qual d54.params d54.body d54.scope (d54.dvs K) [] (d54.wh.ad K) fd ∧ FnB P w (gm K) mg base 2 (d54.wh.ad K) fd [("value" : PySem.Str), ("part" : PySem.Str)] 2 [] B_need_span := by
  have m_isinstance : mg ("isinstance" : PySem.Str) = none := He.free_ok h.X0 h.G0 (h.c.fact 4)
  have hN : N54.Nodup := sc54.nd
  obtain ⟨fd, F⟩ := h.c.def_ 54 (d := d54) rfl
  exact ⟨fd, F, def_ok (G := gm K) (N := N54) (k := 1) (O' := []) F sc54 fun cdv A outer s H E hr tk => (s_one (s_if (t_not (t_val (e_isi (e_var 0) (cv_own (He.glo_ok h.X0 h.G0 (h.c.fact 95))) (kn_own (k := 1) [(1, true)] (lk_cons ⟨ty1 h, eqF_ok (h.c.fact 94)⟩ lk_nil) fun m hm => eqF_ok (List.all_eq_true.mp (h.c.fact 96) m hm))))) (s_one s_no) s_nil))⟩
theorem ok_55 {P : Program} {w : World} {K : PySem.W.Frag} {mg : Str → Option Value} {base : Heap} (h : Hy K mg base) : ∃ fd, FunD K d55.name d55.qual d55.params d55.body d55.scope (d55.dvs K) [] (d55.wh.ad K) fd ∧ FnB P w (gm K) mg base 2 (d55.wh.ad K) fd [("book" : PySem.Str), ("value" : PySem.Str)] 2 [] B_need_happening := by
  have ht_fl_names : ∀ c i, List.lookup c [(1, 1), (3, 1)] = some i → ClsOk (gm K) c ∧ ((gm K).lay c)[i]? = some ("names" : PySem.Str) := (lk_cons ⟨co1 h, rfl⟩ (lk_cons ⟨co3 h, rfl⟩ lk_nil))
  have hN : N55.Nodup := sc55.nd
  obtain ⟨fd, F⟩ := h.c.def_ 55 (d := d55) rfl
  exact ⟨fd, F, def_ok (G := gm K) (N := N55) (k := 1) (O' := []) F sc55 fun cdv A outer s H E hr tk => (s_one (s_if (t_cmp o_notIn (e_var 1) (e_fl [(1, 1), (3, 1)] (e_var 0) ht_fl_names)) (s_one s_no) s_nil))⟩
theorem ok_56 {P : Program} {w : World} {K : PySem.W.Frag} {mg : Str → Option Value} {base : Heap} (h : Hy K mg base) : ∃ fd, FunD K d56.name d56.qual d56.params d56.body d56.scope (d56.dvs K) [] (d56.wh.ad K) fd ∧ FnB P w (gm K) mg base 3 (d56.wh.ad K) fd [("book" : PySem.Str), ("told" : PySem.Str)] 2 [] B_need_names_of := by
  obtain ⟨fd55, F55, ok55⟩ := ok_55 (P := P) (w := w) h
  have ht_fl_names : ∀ c i, List.lookup c [(1, 1), (3, 1)] = some i → ClsOk (gm K) c ∧ ((gm K).lay c)[i]? = some ("names" : PySem.Str) := (lk_cons ⟨co1 h, rfl⟩ (lk_cons ⟨co3 h, rfl⟩ lk_nil))
  have g55 : GlOk (gm K) P w mg base 2 ("need_happening" : PySem.Str) 2 [] B_need_happening _ fd55 [("book" : PySem.Str), ("value" : PySem.Str)] := ⟨He.glo_ok h.X0 h.G0 (h.c.fact 97), F55.kp, ok55, ar_of⟩
  have hN : N56.Nodup := sc56.nd
  obtain ⟨fd, F⟩ := h.c.def_ 56 (d := d56) rfl
  exact ⟨fd, F, def_ok (G := gm K) (N := N56) (k := 2) (O' := []) F sc56 fun cdv A outer s H E hr tk => (s_one (s_for (OL := []) [2] (i_seq (e_fl [(1, 1), (3, 1)] (e_var 1) ht_fl_names)) (g_to (O2 := []) (g_name 2)) (s_one (s_expr (e_call tk (hr.mono (by decide)) g55 (F55.bindsN (ps := [("book" : PySem.Str), ("value" : PySem.Str)]) fun _ _ _ _ _ _ us hl => match us, hl with | [_, _], _ => rfl) .nil (fun _ => .nil) (a_cons (e_var 0) (a_cons (e_var 2) a_nil))))) (passes_of rfl)))⟩
theorem ok_57 {P : Program} {w : World} {K : PySem.W.Frag} {mg : Str → Option Value} {base : Heap} (h : Hy K mg base) : ∃ fd, FunD K d57.name d57.qual d57.params d57.body d57.scope (d57.dvs K) [] (d57.wh.ad K) fd ∧ FnB P w (gm K) mg base 8 (d57.wh.ad K) fd [("pace" : PySem.Str), ("step" : PySem.Str)] 2 [] B_worth_of := by
  obtain ⟨fd24, F24, ok24⟩ := ok_24 (P := P) (w := w) h
  obtain ⟨fd6, F6, ok6⟩ := ok_6 (P := P) (w := w) h
  obtain ⟨fd14, F14, ok14⟩ := ok_14 (P := P) (w := w) h
  have ht_fl_time : ∀ c i, List.lookup c [(2, 0)] = some i → ClsOk (gm K) c ∧ ((gm K).lay c)[i]? = some ("time" : PySem.Str) := (lk_cons ⟨co2 h, rfl⟩ lk_nil)
  have g24 : GlOk (gm K) P w mg base 7 ("summed" : PySem.Str) 1 [] B_summed _ fd24 [("ratios" : PySem.Str)] := ⟨He.glo_ok h.X0 h.G0 (h.c.fact 43), F24.kp, ok24, ar_of⟩
  have m_zip : mg ("zip" : PySem.Str) = none := He.free_ok h.X0 h.G0 (h.c.fact 44)
  have ht_fl_parts : ∀ c i, List.lookup c [(4, 0), (5, 0)] = some i → ClsOk (gm K) c ∧ ((gm K).lay c)[i]? = some ("parts" : PySem.Str) := (lk_cons ⟨co4 h, rfl⟩ (lk_cons ⟨co5 h, rfl⟩ lk_nil))
  have ht_fl_place : ∀ c i, List.lookup c [(2, 1)] = some i → ClsOk (gm K) c ∧ ((gm K).lay c)[i]? = some ("place" : PySem.Str) := (lk_cons ⟨co2 h, rfl⟩ lk_nil)
  have ht_mul : ∀ c B, List.lookup c [(0, B_Ratio___mul__)] = some B → (∃ f fd ps, OwnOk (gm K) P w mg base 6 ("__mul__" : PySem.Str) c B f fd ps 2) ∧ BinOk (gm K) ("__mul__" : PySem.Str) ("__rmul__" : PySem.Str) ["int"] [0] c := (lk_cons ⟨⟨_, fd6, [("self" : PySem.Str), ("other" : PySem.Str)], (He.meth_ok (h.c.fact 28)).at_, (He.meth_ok (h.c.fact 28)).fn, fn_up ok6 (by decide), F6.bindsN (ps := [("self" : PySem.Str), ("other" : PySem.Str)]) fun _ _ _ _ _ _ us hl => match us, hl with | [_, _], _ => rfl, ar_of⟩, ⟨(h.c.fact 19), rd_ok (h.c.fact 29), (mem_cons ⟨by decide, biT_ok (h.c.fact 27)⟩ mem_nil), (mem_cons (.inl rfl) mem_nil)⟩⟩ lk_nil)
  have ht_sub : ∀ c B, List.lookup c [(0, B_Ratio___sub__)] = some B → (∃ f fd ps, OwnOk (gm K) P w mg base 7 ("__sub__" : PySem.Str) c B f fd ps 2) ∧ BinOk (gm K) ("__sub__" : PySem.Str) ("__rsub__" : PySem.Str) ["int"] [0] c := (lk_cons ⟨⟨_, fd14, [("self" : PySem.Str), ("other" : PySem.Str)], (He.meth_ok (h.c.fact 22)).at_, (He.meth_ok (h.c.fact 22)).fn, fn_up ok14 (by decide), F14.bindsN (ps := [("self" : PySem.Str), ("other" : PySem.Str)]) fun _ _ _ _ _ _ us hl => match us, hl with | [_, _], _ => rfl, ar_of⟩, ⟨(h.c.fact 19), rd_ok (h.c.fact 23), (mem_cons ⟨by decide, biT_ok (h.c.fact 21)⟩ mem_nil), (mem_cons (.inl rfl) mem_nil)⟩⟩ lk_nil)
  have hN : N57.Nodup := sc57.nd
  obtain ⟨fd, F⟩ := h.c.def_ 57 (d := d57) rfl
  exact ⟨fd, F, def_ok (G := gm K) (N := N57) (k := 7) (O' := []) F sc57 fun cdv A outer s H E hr tk => (s_one (s_ret (e_bin (o_bin [(0, B_Ratio___sub__)] ["int"] [0] tk (hr.mono (by decide)) o_sub ht_sub) (e_fl [(2, 0)] (e_var 1) ht_fl_time) (e_call tk (hr.mono (by decide)) g24 (F24.bindsN (ps := [("ratios" : PySem.Str)]) fun _ _ _ _ _ _ us hl => match us, hl with | [_], _ => rfl) .nil (fun _ => .nil) (a_cons (e_lcF (vs := [2, 3]) [(("mine" : PySem.Str), 2), (("its" : PySem.Str), 3)] rfl (i_zip (a_cons (e_fl [(4, 0), (5, 0)] (e_var 0) ht_fl_parts) (a_cons (e_fl [(2, 1)] (e_var 1) ht_fl_place) a_nil))) (blkOk_by (by kernel_rfl)) (fun _ _ _ _ _ => (g_tup (gs_cons (g_to (O2 := []) (g_name 2)) (gs_cons (g_to (O2 := []) (g_name 3)) gs_nil)))) (fun _ _ _ _ _ => pts_no) (fun _ _ _ _ _ => (e_bin (o_bin [(0, B_Ratio___mul__)] ["int"] [0] takes_blk (hr.mono (by decide)) o_mul ht_mul) (e_var 2) (e_var 3)))).fz a_nil)))))⟩
theorem ok_58 {P : Program} {w : World} {K : PySem.W.Frag} {mg : Str → Option Value} {base : Heap} (h : Hy K mg base) : ∃ fd, FunD K d58.name d58.qual d58.params d58.body d58.scope (d58.dvs K) [] (d58.wh.ad K) fd ∧ FnB P w (gm K) mg base 11 (d58.wh.ad K) fd [("axes" : PySem.Str)] 1 [] B_Step_nothing := by
  obtain ⟨fd35, F35, ok35⟩ := ok_35 (P := P) (w := w) h
  obtain ⟨fd27, F27, ok27⟩ := ok_27 (P := P) (w := w) h
  have g35 : GlOk (gm K) P w mg base 3 ("is_within" : PySem.Str) 3 [] B_is_within _ fd35 [("value" : PySem.Str), ("least" : PySem.Str), ("most" : PySem.Str)] := ⟨He.glo_ok h.X0 h.G0 (h.c.fact 69), F35.kp, ok35, ar_of⟩
  have nw27 : NwOk (gm K) P w mg base 9 ("Step" : PySem.Str) 2 3 B_Step___init__ _ fd27 [("self" : PySem.Str), ("time" : PySem.Str), ("place" : PySem.Str)] := ⟨He.glo_ok h.X0 h.G0 (h.c.fact 48), He.mkr_ok (h.c.fact 49), rfl, ok27, ar_of, rfl⟩
  have hN : N58.Nodup := sc58.nd
  obtain ⟨fd, F⟩ := h.c.def_ 58 (d := d58) rfl
  exact ⟨fd, F, def_ok (G := gm K) (N := N58) (k := 10) (O' := []) F sc58 fun cdv A outer s H E hr tk => (s_cons (s_if (t_not (t_val (e_call tk (hr.mono (by decide)) g35 (F35.bindsN (ps := [("value" : PySem.Str), ("least" : PySem.Str), ("most" : PySem.Str)]) fun _ _ _ _ _ _ us hl => match us, hl with | [_, _, _], _ => rfl) .nil (fun _ => .nil) (a_cons (e_var 0) (a_cons e_int (a_cons (e_gint (He.int_ok h.X0 h.G0 (h.c.fact 45))) a_nil)))))) (s_one s_no) s_nil) (s_one (s_ret (e_new tk (hr.mono (by decide)) nw27 (F27.bindsN (ps := [("self" : PySem.Str), ("time" : PySem.Str), ("place" : PySem.Str)]) fun _ _ _ _ _ _ us hl => match us, hl with | [_, _, _], _ => rfl) .nil (fun _ => .nil) (a_cons e_int (a_cons (e_bin o_mul (e_lst (a_cons e_int a_nil)) (e_var 0)) a_nil))))))⟩
theorem ok_59 {P : Program} {w : World} {K : PySem.W.Frag} {mg : Str → Option Value} {base : Heap} (h : Hy K mg base) : ∃ fd, FunD K d59.name d59.qual d59.params d59.body d59.scope (d59.dvs K) [] (d59.wh.ad K) fd ∧ FnB P w (gm K) mg base 11 (d59.wh.ad K) fd [("self" : PySem.Str), ("other" : PySem.Str)] 2 [] B_Step___mul__ := by
  obtain ⟨fd8, F8, ok8⟩ := ok_8 (P := P) (w := w) h
  obtain ⟨fd27, F27, ok27⟩ := ok_27 (P := P) (w := w) h
  obtain ⟨fd6, F6, ok6⟩ := ok_6 (P := P) (w := w) h
  have g8 : GlOk (gm K) P w mg base 3 ("is_ratio" : PySem.Str) 1 [] B_is_ratio _ fd8 [("value" : PySem.Str)] := ⟨He.glo_ok h.X0 h.G0 (h.c.fact 13), F8.kp, ok8, ar_of⟩
  have nw27 : NwOk (gm K) P w mg base 9 ("Step" : PySem.Str) 2 3 B_Step___init__ _ fd27 [("self" : PySem.Str), ("time" : PySem.Str), ("place" : PySem.Str)] := ⟨He.glo_ok h.X0 h.G0 (h.c.fact 48), He.mkr_ok (h.c.fact 49), rfl, ok27, ar_of, rfl⟩
  have ht_fl_time : ∀ c i, List.lookup c [(2, 0)] = some i → ClsOk (gm K) c ∧ ((gm K).lay c)[i]? = some ("time" : PySem.Str) := (lk_cons ⟨co2 h, rfl⟩ lk_nil)
  have ht_mul : ∀ c B, List.lookup c [(0, B_Ratio___mul__)] = some B → (∃ f fd ps, OwnOk (gm K) P w mg base 6 ("__mul__" : PySem.Str) c B f fd ps 2) ∧ BinOk (gm K) ("__mul__" : PySem.Str) ("__rmul__" : PySem.Str) ["int"] [0] c := (lk_cons ⟨⟨_, fd6, [("self" : PySem.Str), ("other" : PySem.Str)], (He.meth_ok (h.c.fact 28)).at_, (He.meth_ok (h.c.fact 28)).fn, fn_up ok6 (by decide), F6.bindsN (ps := [("self" : PySem.Str), ("other" : PySem.Str)]) fun _ _ _ _ _ _ us hl => match us, hl with | [_, _], _ => rfl, ar_of⟩, ⟨(h.c.fact 19), rd_ok (h.c.fact 29), (mem_cons ⟨by decide, biT_ok (h.c.fact 27)⟩ mem_nil), (mem_cons (.inl rfl) mem_nil)⟩⟩ lk_nil)
  have ht_fl_place : ∀ c i, List.lookup c [(2, 1)] = some i → ClsOk (gm K) c ∧ ((gm K).lay c)[i]? = some ("place" : PySem.Str) := (lk_cons ⟨co2 h, rfl⟩ lk_nil)
  have hN : N59.Nodup := sc59.nd
  obtain ⟨fd, F⟩ := h.c.def_ 59 (d := d59) rfl
  exact ⟨fd, F, def_ok (G := gm K) (N := N59) (k := 10) (O' := []) F sc59 fun cdv A outer s H E hr tk => (s_cons (s_if (t_not (t_val (e_call tk (hr.mono (by decide)) g8 (F8.bindsN (ps := [("value" : PySem.Str)]) fun _ _ _ _ _ _ us hl => match us, hl with | [_], _ => rfl) .nil (fun _ => .nil) (a_cons (e_var 1) a_nil)))) (s_one s_no) s_nil) (s_one (s_ret (e_new tk (hr.mono (by decide)) nw27 (F27.bindsN (ps := [("self" : PySem.Str), ("time" : PySem.Str), ("place" : PySem.Str)]) fun _ _ _ _ _ _ us hl => match us, hl with | [_, _, _], _ => rfl) .nil (fun _ => .nil) (a_cons (e_bin (o_bin [(0, B_Ratio___mul__)] ["int"] [0] tk (hr.mono (by decide)) o_mul ht_mul) (e_fl [(2, 0)] (e_var 0) ht_fl_time) (e_var 1)) (a_cons (e_lcF (vs := [2]) [(("each" : PySem.Str), 2)] rfl (i_seq (e_fl [(2, 1)] (e_var 0) ht_fl_place)) (blkOk_by (by kernel_rfl)) (fun _ _ _ _ _ => (g_to (O2 := []) (g_name 2))) (fun _ _ _ _ _ => pts_no) (fun _ _ _ _ _ => (e_bin (o_bin [(0, B_Ratio___mul__)] ["int"] [0] takes_blk (hr.mono (by decide)) o_mul ht_mul) (e_var 2) (e_var 1)))).fz a_nil))))))⟩
theorem ok_60 {P : Program} {w : World} {K : PySem.W.Frag} {mg : Str → Option Value} {base : Heap} (h : Hy K mg base) : ∃ fd, FunD K d60.name d60.qual d60.params d60.body d60.scope (d60.dvs K) [] (d60.wh.ad K) fd ∧ FnB P w (gm K) mg base 12 (d60.wh.ad K) fd [("self" : PySem.Str), ("span" : PySem.Str)] 2 [] B_Book_step_of := by
  obtain ⟨fd54, F54, ok54⟩ := ok_54 (P := P) (w := w) h
  obtain ⟨fd56, F56, ok56⟩ := ok_56 (P := P) (w := w) h
  obtain ⟨fd58, F58, ok58⟩ := ok_58 (P := P) (w := w) h
  obtain ⟨fd59, F59, ok59⟩ := ok_59 (P := P) (w := w) h
  obtain ⟨fd49, F49, ok49⟩ := ok_49 (P := P) (w := w) h
  have g54 : GlOk (gm K) P w mg base 2 ("need_span" : PySem.Str) 2 [] B_need_span _ fd54 [("value" : PySem.Str), ("part" : PySem.Str)] := ⟨He.glo_ok h.X0 h.G0 (h.c.fact 98), F54.kp, ok54, ar_of⟩
  have g56 : GlOk (gm K) P w mg base 3 ("need_names_of" : PySem.Str) 2 [] B_need_names_of _ fd56 [("book" : PySem.Str), ("told" : PySem.Str)] := ⟨He.glo_ok h.X0 h.G0 (h.c.fact 99), F56.kp, ok56, ar_of⟩
  have st58 : StOk (gm K) P w mg base 11 ("Step" : PySem.Str) (He.ga K ("Step" : PySem.Str)) ("nothing" : PySem.Str) 1 B_Step_nothing _ fd58 [("axes" : PySem.Str)] := ⟨He.glo_ok h.X0 h.G0 (h.c.fact 48), (sta_ok (h.c.fact 100)).1, (sta_ok (h.c.fact 100)).2.1, (sta_ok (h.c.fact 100)).2.2, F58.kp, ok58, ar_of⟩
  have ht_fl_axes : ∀ c i, List.lookup c [(2, 2), (3, 0), (4, 1)] = some i → ClsOk (gm K) c ∧ ((gm K).lay c)[i]? = some ("axes" : PySem.Str) := (lk_cons ⟨co2 h, rfl⟩ (lk_cons ⟨co3 h, rfl⟩ (lk_cons ⟨co4 h, rfl⟩ lk_nil)))
  have ht_fl_terms : ∀ c i, List.lookup c [(1, 0)] = some i → ClsOk (gm K) c ∧ ((gm K).lay c)[i]? = some ("terms" : PySem.Str) := (lk_cons ⟨co1 h, rfl⟩ lk_nil)
  have ht_fl_steps : ∀ c i, List.lookup c [(3, 2)] = some i → ClsOk (gm K) c ∧ ((gm K).lay c)[i]? = some ("steps" : PySem.Str) := (lk_cons ⟨co3 h, rfl⟩ lk_nil)
  have ht_mul : ∀ c B, List.lookup c [(2, B_Step___mul__)] = some B → (∃ f fd ps, OwnOk (gm K) P w mg base 11 ("__mul__" : PySem.Str) c B f fd ps 2) ∧ BinOk (gm K) ("__mul__" : PySem.Str) ("__rmul__" : PySem.Str) ["int"] [0, 2] c := (lk_cons ⟨⟨_, fd59, [("self" : PySem.Str), ("other" : PySem.Str)], (He.meth_ok (h.c.fact 103)).at_, (He.meth_ok (h.c.fact 103)).fn, fn_up ok59 (by decide), F59.bindsN (ps := [("self" : PySem.Str), ("other" : PySem.Str)]) fun _ _ _ _ _ _ us hl => match us, hl with | [_, _], _ => rfl, ar_of⟩, ⟨(h.c.fact 87), rd_ok (h.c.fact 104), (mem_cons ⟨by decide, biT_ok (h.c.fact 101)⟩ mem_nil), (mem_cons (.inr ⟨(sub_ok (h.c.fact 102)).2, (h.c.fact 19), ⟨_, (He.meth_ok (h.c.fact 28)).at_⟩, rd_ok (h.c.fact 29), (sub_ok (h.c.fact 102)).1⟩) (mem_cons (.inl rfl) mem_nil))⟩⟩ lk_nil)
  have ht_add : ∀ c B, List.lookup c [(2, B_Step___add__)] = some B → (∃ f fd ps, OwnOk (gm K) P w mg base 11 ("__add__" : PySem.Str) c B f fd ps 2) ∧ BinOk (gm K) ("__add__" : PySem.Str) ("__radd__" : PySem.Str) ["int"] [2] c := (lk_cons ⟨⟨_, fd49, [("self" : PySem.Str), ("other" : PySem.Str)], (He.meth_ok (h.c.fact 86)).at_, (He.meth_ok (h.c.fact 86)).fn, fn_up ok49 (by decide), F49.bindsN (ps := [("self" : PySem.Str), ("other" : PySem.Str)]) fun _ _ _ _ _ _ us hl => match us, hl with | [_, _], _ => rfl, ar_of⟩, ⟨(h.c.fact 87), rd_ok (h.c.fact 88), (mem_cons ⟨by decide, biT_ok (h.c.fact 85)⟩ mem_nil), (mem_cons (.inl rfl) mem_nil)⟩⟩ lk_nil)
  have hN : N60.Nodup := sc60.nd
  obtain ⟨fd, F⟩ := h.c.def_ 60 (d := d60) rfl
  exact ⟨fd, F, def_ok (G := gm K) (N := N60) (k := 11) (O' := []) F sc60 fun cdv A outer s H E hr tk => (s_cons (s_expr (e_call tk (hr.mono (by decide)) g54 (F54.bindsN (ps := [("value" : PySem.Str), ("part" : PySem.Str)]) fun _ _ _ _ _ _ us hl => match us, hl with | [_, _], _ => rfl) .nil (fun _ => .nil) (a_cons (e_var 1) (a_cons e_str a_nil)))) (s_cons (s_expr (e_call tk (hr.mono (by decide)) g56 (F56.bindsN (ps := [("book" : PySem.Str), ("told" : PySem.Str)]) fun _ _ _ _ _ _ us hl => match us, hl with | [_, _], _ => rfl) .nil (fun _ => .nil) (a_cons (e_var 0) (a_cons (e_var 1) a_nil)))) (s_cons (s_to (O2 := []) (s_set 2 (e_stat tk (hr.mono (by decide)) st58 (F58.bindsN (ps := [("axes" : PySem.Str)]) fun _ _ _ _ _ _ us hl => match us, hl with | [_], _ => rfl) .nil (fun _ => .nil) (a_cons (e_fl [(2, 2), (3, 0), (4, 1)] (e_var 0) ht_fl_axes) a_nil)))) (s_cons (s_for (OL := []) [3, 4] (i_seq (e_fl [(1, 0)] (e_var 1) ht_fl_terms)) (g_tup (gs_cons (g_to (O2 := []) (g_name 3)) (gs_cons (g_to (O2 := []) (g_name 4)) gs_nil))) (s_one (s_to (O2 := []) (s_set 2 (e_bin (o_bin [(2, B_Step___add__)] ["int"] [2] tk (hr.mono (by decide)) o_add ht_add) (e_var 2) (e_bin (o_bin [(2, B_Step___mul__)] ["int"] [0, 2] tk (hr.mono (by decide)) o_mul ht_mul) (e_dix hr (e_fl [(3, 2)] (e_var 0) ht_fl_steps) (e_var 3)) (e_var 4)))))) (passes_of rfl)) (s_one (s_ret (e_var 2)))))))⟩
theorem ok_61 {P : Program} {w : World} {K : PySem.W.Frag} {mg : Str → Option Value} {base : Heap} (h : Hy K mg base) : ∃ fd, FunD K d61.name d61.qual d61.params d61.body d61.scope (d61.dvs K) [] (d61.wh.ad K) fd ∧ FnB P w (gm K) mg base 13 (d61.wh.ad K) fd [("book" : PySem.Str), ("pace" : PySem.Str), ("one" : PySem.Str), ("other" : PySem.Str)] 4 [] B_called_quotient := by
  obtain ⟨fd52, F52, ok52⟩ := ok_52 (P := P) (w := w) h
  obtain ⟨fd53, F53, ok53⟩ := ok_53 (P := P) (w := w) h
  obtain ⟨fd54, F54, ok54⟩ := ok_54 (P := P) (w := w) h
  obtain ⟨fd48, F48, ok48⟩ := ok_48 (P := P) (w := w) h
  obtain ⟨fd56, F56, ok56⟩ := ok_56 (P := P) (w := w) h
  obtain ⟨fd57, F57, ok57⟩ := ok_57 (P := P) (w := w) h
  obtain ⟨fd60, F60, ok60⟩ := ok_60 (P := P) (w := w) h
  obtain ⟨fd9, F9, ok9⟩ := ok_9 (P := P) (w := w) h
  obtain ⟨fd12, F12, ok12⟩ := ok_12 (P := P) (w := w) h
  have g52 : GlOk (gm K) P w mg base 2 ("need_book" : PySem.Str) 2 [] B_need_book _ fd52 [("value" : PySem.Str), ("part" : PySem.Str)] := ⟨He.glo_ok h.X0 h.G0 (h.c.fact 105), F52.kp, ok52, ar_of⟩
  have g53 : GlOk (gm K) P w mg base 2 ("need_pace" : PySem.Str) 2 [] B_need_pace _ fd53 [("value" : PySem.Str), ("part" : PySem.Str)] := ⟨He.glo_ok h.X0 h.G0 (h.c.fact 106), F53.kp, ok53, ar_of⟩
  have g54 : GlOk (gm K) P w mg base 2 ("need_span" : PySem.Str) 2 [] B_need_span _ fd54 [("value" : PySem.Str), ("part" : PySem.Str)] := ⟨He.glo_ok h.X0 h.G0 (h.c.fact 98), F54.kp, ok54, ar_of⟩
  have g48 : GlOk (gm K) P w mg base 2 ("need_axes" : PySem.Str) 2 [] B_need_axes _ fd48 [("one" : PySem.Str), ("other" : PySem.Str)] := ⟨He.glo_ok h.X0 h.G0 (h.c.fact 83), F48.kp, ok48, ar_of⟩
  have g56 : GlOk (gm K) P w mg base 3 ("need_names_of" : PySem.Str) 2 [] B_need_names_of _ fd56 [("book" : PySem.Str), ("told" : PySem.Str)] := ⟨He.glo_ok h.X0 h.G0 (h.c.fact 99), F56.kp, ok56, ar_of⟩
  have g57 : GlOk (gm K) P w mg base 8 ("worth_of" : PySem.Str) 2 [] B_worth_of _ fd57 [("pace" : PySem.Str), ("step" : PySem.Str)] := ⟨He.glo_ok h.X0 h.G0 (h.c.fact 107), F57.kp, ok57, ar_of⟩
  have mt_step_of_1 : ∀ c B, List.lookup c [(3, B_Book_step_of)] = some B → ∃ n f fd ps ds dvs, MtOk (gm K) P w mg base 12 c ("step_of" : PySem.Str) n B f fd ps ds dvs ∧ ∀ F, RepL (gm K) F [] dvs := (lk_cons ⟨2, _, fd60, [("self" : PySem.Str), ("span" : PySem.Str)], _, _, ⟨(clo3 h).1, He.meth_ok (h.c.fact 108), fn_up ok60 (by decide), ar_of, (F60.bindsN (ps := [("self" : PySem.Str), ("span" : PySem.Str)]) fun _ _ _ _ _ _ us hl => match us, hl with | [_, _], _ => rfl), .nil⟩, (fun _ => .nil)⟩ lk_nil)
  have pr_sign : ∀ c B, List.lookup c [(0, B_Ratio_sign)] = some B → PrOk (gm K) P w mg base 2 c ("sign" : PySem.Str) B := (lk_cons ⟨(clo0 h).1, _, _, fd9, _, prp_ok (h.c.fact 15), ok9, F9.bindsN (ps := [("self" : PySem.Str)]) fun _ _ _ _ _ _ us hl => match us, hl with | [_], _ => rfl⟩ lk_nil)
  have mt_over_1 : ∀ c B, List.lookup c [(0, B_Ratio_over)] = some B → ∃ n f fd ps ds dvs, MtOk (gm K) P w mg base 6 c ("over" : PySem.Str) n B f fd ps ds dvs ∧ ∀ F, RepL (gm K) F [] dvs := (lk_cons ⟨2, _, fd12, [("self" : PySem.Str), ("other" : PySem.Str)], _, _, ⟨(clo0 h).1, He.meth_ok (h.c.fact 25), fn_up ok12 (by decide), ar_of, (F12.bindsN (ps := [("self" : PySem.Str), ("other" : PySem.Str)]) fun _ _ _ _ _ _ us hl => match us, hl with | [_, _], _ => rfl), .nil⟩, (fun _ => .nil)⟩ lk_nil)
  have hN : N61.Nodup := sc61.nd
  obtain ⟨fd, F⟩ := h.c.def_ 61 (d := d61) rfl
  exact ⟨fd, F, def_ok (G := gm K) (N := N61) (k := 12) (O' := []) F sc61 fun cdv A outer s H E hr tk => (s_cons (s_expr (e_call tk (hr.mono (by decide)) g52 (F52.bindsN (ps := [("value" : PySem.Str), ("part" : PySem.Str)]) fun _ _ _ _ _ _ us hl => match us, hl with | [_, _], _ => rfl) .nil (fun _ => .nil) (a_cons (e_var 0) (a_cons e_str a_nil)))) (s_cons (s_expr (e_call tk (hr.mono (by decide)) g53 (F53.bindsN (ps := [("value" : PySem.Str), ("part" : PySem.Str)]) fun _ _ _ _ _ _ us hl => match us, hl with | [_, _], _ => rfl) .nil (fun _ => .nil) (a_cons (e_var 1) (a_cons e_str a_nil)))) (s_cons (s_expr (e_call tk (hr.mono (by decide)) g54 (F54.bindsN (ps := [("value" : PySem.Str), ("part" : PySem.Str)]) fun _ _ _ _ _ _ us hl => match us, hl with | [_, _], _ => rfl) .nil (fun _ => .nil) (a_cons (e_var 2) (a_cons e_str a_nil)))) (s_cons (s_expr (e_call tk (hr.mono (by decide)) g54 (F54.bindsN (ps := [("value" : PySem.Str), ("part" : PySem.Str)]) fun _ _ _ _ _ _ us hl => match us, hl with | [_, _], _ => rfl) .nil (fun _ => .nil) (a_cons (e_var 3) (a_cons e_str a_nil)))) (s_cons (s_expr (e_call tk (hr.mono (by decide)) g48 (F48.bindsN (ps := [("one" : PySem.Str), ("other" : PySem.Str)]) fun _ _ _ _ _ _ us hl => match us, hl with | [_, _], _ => rfl) .nil (fun _ => .nil) (a_cons (e_var 0) (a_cons (e_var 1) a_nil)))) (s_cons (s_expr (e_call tk (hr.mono (by decide)) g56 (F56.bindsN (ps := [("book" : PySem.Str), ("told" : PySem.Str)]) fun _ _ _ _ _ _ us hl => match us, hl with | [_, _], _ => rfl) .nil (fun _ => .nil) (a_cons (e_var 0) (a_cons (e_var 2) a_nil)))) (s_cons (s_expr (e_call tk (hr.mono (by decide)) g56 (F56.bindsN (ps := [("book" : PySem.Str), ("told" : PySem.Str)]) fun _ _ _ _ _ _ us hl => match us, hl with | [_, _], _ => rfl) .nil (fun _ => .nil) (a_cons (e_var 0) (a_cons (e_var 3) a_nil)))) (s_cons (s_to (O2 := []) (s_set 4 (e_call tk (hr.mono (by decide)) g57 (F57.bindsN (ps := [("pace" : PySem.Str), ("step" : PySem.Str)]) fun _ _ _ _ _ _ us hl => match us, hl with | [_, _], _ => rfl) .nil (fun _ => .nil) (a_cons (e_var 1) (a_cons (e_meth [(3, B_Book_step_of)] tk (hr.mono (by decide)) (show ("step_of" : PySem.Str) ∉ flds by decide +kernel) (e_var 0) (a_cons (e_var 3) a_nil) mt_step_of_1) a_nil))))) (s_cons (s_if (t_cmp (o_eq hr) (e_pr [(0, B_Ratio_sign)] (hr.mono (by decide)) (e_var 4) pr_sign) e_int) (s_one (s_ret e_non)) s_nil) (s_one (s_ret (e_meth [(0, B_Ratio_over)] tk (hr.mono (by decide)) (show ("over" : PySem.Str) ∉ flds by decide +kernel) (e_call tk (hr.mono (by decide)) g57 (F57.bindsN (ps := [("pace" : PySem.Str), ("step" : PySem.Str)]) fun _ _ _ _ _ _ us hl => match us, hl with | [_, _], _ => rfl) .nil (fun _ => .nil) (a_cons (e_var 1) (a_cons (e_meth [(3, B_Book_step_of)] tk (hr.mono (by decide)) (show ("step_of" : PySem.Str) ∉ flds by decide +kernel) (e_var 0) (a_cons (e_var 2) a_nil) mt_step_of_1) a_nil))) (a_cons (e_var 4) a_nil) mt_over_1))))))))))))⟩
theorem ok_62 {P : Program} {w : World} {K : PySem.W.Frag} {mg : Str → Option Value} {base : Heap} (h : Hy K mg base) : ∃ fd, FunD K d62.name d62.qual d62.params d62.body d62.scope (d62.dvs K) [] (d62.wh.ad K) fd ∧ FnB P w (gm K) mg base 7 (d62.wh.ad K) fd [("_law_first" : PySem.Str), ("_law_second" : PySem.Str), ("_law_met" : PySem.Str), ("_law_middle" : PySem.Str)] 4 [] B__law_slow := by
  obtain ⟨fd12, F12, ok12⟩ := ok_12 (P := P) (w := w) h
  obtain ⟨fd4, F4, ok4⟩ := ok_4 (P := P) (w := w) h
  obtain ⟨fd7, F7, ok7⟩ := ok_7 (P := P) (w := w) h
  obtain ⟨fd6, F6, ok6⟩ := ok_6 (P := P) (w := w) h
  have mt_over_1 : ∀ c B, List.lookup c [(0, B_Ratio_over)] = some B → ∃ n f fd ps ds dvs, MtOk (gm K) P w mg base 6 c ("over" : PySem.Str) n B f fd ps ds dvs ∧ ∀ F, RepL (gm K) F [] dvs := (lk_cons ⟨2, _, fd12, [("self" : PySem.Str), ("other" : PySem.Str)], _, _, ⟨(clo0 h).1, He.meth_ok (h.c.fact 25), fn_up ok12 (by decide), ar_of, (F12.bindsN (ps := [("self" : PySem.Str), ("other" : PySem.Str)]) fun _ _ _ _ _ _ us hl => match us, hl with | [_, _], _ => rfl), .nil⟩, (fun _ => .nil)⟩ lk_nil)
  have nw4 : NwOk (gm K) P w mg base 3 ("Ratio" : PySem.Str) 0 3 B_Ratio___init__ _ fd4 [("self" : PySem.Str), ("top" : PySem.Str), ("bottom" : PySem.Str)] := ⟨He.glo_ok h.X0 h.G0 (h.c.fact 9), He.mkr_ok (h.c.fact 11), rfl, ok4, ar_of, rfl⟩
  obtain ⟨bd4_2, bd4_2_v, bd4_2_b⟩ := F4.binds1 (ps := [("self" : PySem.Str), ("top" : PySem.Str), ("bottom" : PySem.Str)]) 2 0 (List.cons_ne_nil _ _) rfl fun T kV doc pm an cdv ct us its h1 h2 => ⟨_, rfl, match us, h1, its, h2 with | [_, _], _, [_], _ => rfl⟩
  have ht_add : ∀ c B, List.lookup c [(0, B_Ratio___add__)] = some B → (∃ f fd ps, OwnOk (gm K) P w mg base 6 ("__add__" : PySem.Str) c B f fd ps 2) ∧ BinOk (gm K) ("__add__" : PySem.Str) ("__radd__" : PySem.Str) ["int"] [0] c := (lk_cons ⟨⟨_, fd7, [("self" : PySem.Str), ("other" : PySem.Str)], (He.meth_ok (h.c.fact 18)).at_, (He.meth_ok (h.c.fact 18)).fn, fn_up ok7 (by decide), F7.bindsN (ps := [("self" : PySem.Str), ("other" : PySem.Str)]) fun _ _ _ _ _ _ us hl => match us, hl with | [_, _], _ => rfl, ar_of⟩, ⟨(h.c.fact 19), rd_ok (h.c.fact 20), (mem_cons ⟨by decide, biT_ok (h.c.fact 17)⟩ mem_nil), (mem_cons (.inl rfl) mem_nil)⟩⟩ lk_nil)
  obtain ⟨bd4_3, bd4_3_v, bd4_3_b⟩ := F4.binds1 (ps := [("self" : PySem.Str), ("top" : PySem.Str), ("bottom" : PySem.Str)]) 3 1 (List.cons_ne_nil _ _) rfl fun T kV doc pm an cdv ct us its h1 h2 => ⟨_, rfl, match us, h1, its, h2 with | [_, _, _], _, [_], _ => rfl⟩
  have ht_mul : ∀ c B, List.lookup c [(0, B_Ratio___mul__)] = some B → (∃ f fd ps, OwnOk (gm K) P w mg base 6 ("__mul__" : PySem.Str) c B f fd ps 2) ∧ BinOk (gm K) ("__mul__" : PySem.Str) ("__rmul__" : PySem.Str) ["int"] [0] c := (lk_cons ⟨⟨_, fd6, [("self" : PySem.Str), ("other" : PySem.Str)], (He.meth_ok (h.c.fact 28)).at_, (He.meth_ok (h.c.fact 28)).fn, fn_up ok6 (by decide), F6.bindsN (ps := [("self" : PySem.Str), ("other" : PySem.Str)]) fun _ _ _ _ _ _ us hl => match us, hl with | [_, _], _ => rfl, ar_of⟩, ⟨(h.c.fact 19), rd_ok (h.c.fact 29), (mem_cons ⟨by decide, biT_ok (h.c.fact 27)⟩ mem_nil), (mem_cons (.inl rfl) mem_nil)⟩⟩ lk_nil)
  have hN : N62.Nodup := sc62.nd
  obtain ⟨fd, F⟩ := h.c.def_ 62 (d := d62) rfl
  exact ⟨fd, F, def_ok (G := gm K) (N := N62) (k := 6) (O' := []) F sc62 fun cdv A outer s H E hr tk => (s_cons (s_to (O2 := []) (s_set 4 (e_meth [(0, B_Ratio_over)] tk (hr.mono (by decide)) (show ("over" : PySem.Str) ∉ flds by decide +kernel) (e_var 0) (a_cons (e_var 1) a_nil) mt_over_1))) (s_cons (s_to (O2 := []) (s_set 5 (e_bin (o_bin [(0, B_Ratio___mul__)] ["int"] [0] tk (hr.mono (by decide)) o_mul ht_mul) (e_bin (o_bin [(0, B_Ratio___mul__)] ["int"] [0] tk (hr.mono (by decide)) o_mul ht_mul) (e_bin (o_bin [(0, B_Ratio___add__)] ["int"] [0] tk (hr.mono (by decide)) o_add ht_add) (e_var 4) (e_meth [(0, B_Ratio_over)] tk (hr.mono (by decide)) (show ("over" : PySem.Str) ∉ flds by decide +kernel) (e_new tk (hr.mono (by decide)) nw4 bd4_2_b bd4_2_v (fun _ => (.cons .int .nil)) (a_cons e_int a_nil)) (a_cons (e_var 4) a_nil) mt_over_1)) (e_new tk (hr.mono (by decide)) nw4 bd4_3_b bd4_3_v (fun _ => .nil) (a_cons e_int (a_cons e_int a_nil)))) (e_var 3)))) (s_one (s_ret (e_meth [(0, B_Ratio_over)] tk (hr.mono (by decide)) (show ("over" : PySem.Str) ∉ flds by decide +kernel) (e_var 2) (a_cons (e_var 5) a_nil) mt_over_1)))))⟩
theorem ok_63 {P : Program} {w : World} {K : PySem.W.Frag} {mg : Str → Option Value} {base : Heap} (h : Hy K mg base) : ∃ fd, FunD K d63.name d63.qual d63.params d63.body d63.scope (d63.dvs K) [] (d63.wh.ad K) fd ∧ FnB P w (gm K) mg base 3 (d63.wh.ad K) fd [("self" : PySem.Str), ("name" : PySem.Str)] 2 [] B_Book_spot_of := by
  obtain ⟨fd55, F55, ok55⟩ := ok_55 (P := P) (w := w) h
  have g55 : GlOk (gm K) P w mg base 2 ("need_happening" : PySem.Str) 2 [] B_need_happening _ fd55 [("book" : PySem.Str), ("value" : PySem.Str)] := ⟨He.glo_ok h.X0 h.G0 (h.c.fact 97), F55.kp, ok55, ar_of⟩
  have ht_fl_steps : ∀ c i, List.lookup c [(3, 2)] = some i → ClsOk (gm K) c ∧ ((gm K).lay c)[i]? = some ("steps" : PySem.Str) := (lk_cons ⟨co3 h, rfl⟩ lk_nil)
  have hN : N63.Nodup := sc63.nd
  obtain ⟨fd, F⟩ := h.c.def_ 63 (d := d63) rfl
  exact ⟨fd, F, def_ok (G := gm K) (N := N63) (k := 2) (O' := []) F sc63 fun cdv A outer s H E hr tk => (s_cons (s_expr (e_call tk (hr.mono (by decide)) g55 (F55.bindsN (ps := [("book" : PySem.Str), ("value" : PySem.Str)]) fun _ _ _ _ _ _ us hl => match us, hl with | [_, _], _ => rfl) .nil (fun _ => .nil) (a_cons (e_var 0) (a_cons (e_var 1) a_nil)))) (s_one (s_ret (e_dix hr (e_fl [(3, 2)] (e_var 0) ht_fl_steps) (e_var 1)))))⟩
theorem ok_64 {P : Program} {w : World} {K : PySem.W.Frag} {mg : Str → Option Value} {base : Heap} (h : Hy K mg base) : ∃ fd, FunD K d64.name d64.qual d64.params d64.body d64.scope (d64.dvs K) [] (d64.wh.ad K) fd ∧ FnB P w (gm K) mg base 13 (d64.wh.ad K) fd [("book" : PySem.Str), ("pace" : PySem.Str), ("span" : PySem.Str)] 3 [] B_called_worth := by
  obtain ⟨fd52, F52, ok52⟩ := ok_52 (P := P) (w := w) h
  obtain ⟨fd53, F53, ok53⟩ := ok_53 (P := P) (w := w) h
  obtain ⟨fd54, F54, ok54⟩ := ok_54 (P := P) (w := w) h
  obtain ⟨fd48, F48, ok48⟩ := ok_48 (P := P) (w := w) h
  obtain ⟨fd56, F56, ok56⟩ := ok_56 (P := P) (w := w) h
  obtain ⟨fd57, F57, ok57⟩ := ok_57 (P := P) (w := w) h
  obtain ⟨fd60, F60, ok60⟩ := ok_60 (P := P) (w := w) h
  have g52 : GlOk (gm K) P w mg base 2 ("need_book" : PySem.Str) 2 [] B_need_book _ fd52 [("value" : PySem.Str), ("part" : PySem.Str)] := ⟨He.glo_ok h.X0 h.G0 (h.c.fact 105), F52.kp, ok52, ar_of⟩
  have g53 : GlOk (gm K) P w mg base 2 ("need_pace" : PySem.Str) 2 [] B_need_pace _ fd53 [("value" : PySem.Str), ("part" : PySem.Str)] := ⟨He.glo_ok h.X0 h.G0 (h.c.fact 106), F53.kp, ok53, ar_of⟩
  have g54 : GlOk (gm K) P w mg base 2 ("need_span" : PySem.Str) 2 [] B_need_span _ fd54 [("value" : PySem.Str), ("part" : PySem.Str)] := ⟨He.glo_ok h.X0 h.G0 (h.c.fact 98), F54.kp, ok54, ar_of⟩
  have g48 : GlOk (gm K) P w mg base 2 ("need_axes" : PySem.Str) 2 [] B_need_axes _ fd48 [("one" : PySem.Str), ("other" : PySem.Str)] := ⟨He.glo_ok h.X0 h.G0 (h.c.fact 83), F48.kp, ok48, ar_of⟩
  have g56 : GlOk (gm K) P w mg base 3 ("need_names_of" : PySem.Str) 2 [] B_need_names_of _ fd56 [("book" : PySem.Str), ("told" : PySem.Str)] := ⟨He.glo_ok h.X0 h.G0 (h.c.fact 99), F56.kp, ok56, ar_of⟩
  have g57 : GlOk (gm K) P w mg base 8 ("worth_of" : PySem.Str) 2 [] B_worth_of _ fd57 [("pace" : PySem.Str), ("step" : PySem.Str)] := ⟨He.glo_ok h.X0 h.G0 (h.c.fact 107), F57.kp, ok57, ar_of⟩
  have mt_step_of_1 : ∀ c B, List.lookup c [(3, B_Book_step_of)] = some B → ∃ n f fd ps ds dvs, MtOk (gm K) P w mg base 12 c ("step_of" : PySem.Str) n B f fd ps ds dvs ∧ ∀ F, RepL (gm K) F [] dvs := (lk_cons ⟨2, _, fd60, [("self" : PySem.Str), ("span" : PySem.Str)], _, _, ⟨(clo3 h).1, He.meth_ok (h.c.fact 108), fn_up ok60 (by decide), ar_of, (F60.bindsN (ps := [("self" : PySem.Str), ("span" : PySem.Str)]) fun _ _ _ _ _ _ us hl => match us, hl with | [_, _], _ => rfl), .nil⟩, (fun _ => .nil)⟩ lk_nil)
  have hN : N64.Nodup := sc64.nd
  obtain ⟨fd, F⟩ := h.c.def_ 64 (d := d64) rfl
  exact ⟨fd, F, def_ok (G := gm K) (N := N64) (k := 12) (O' := []) F sc64 fun cdv A outer s H E hr tk => (s_cons (s_expr (e_call tk (hr.mono (by decide)) g52 (F52.bindsN (ps := [("value" : PySem.Str), ("part" : PySem.Str)]) fun _ _ _ _ _ _ us hl => match us, hl with | [_, _], _ => rfl) .nil (fun _ => .nil) (a_cons (e_var 0) (a_cons e_str a_nil)))) (s_cons (s_expr (e_call tk (hr.mono (by decide)) g53 (F53.bindsN (ps := [("value" : PySem.Str), ("part" : PySem.Str)]) fun _ _ _ _ _ _ us hl => match us, hl with | [_, _], _ => rfl) .nil (fun _ => .nil) (a_cons (e_var 1) (a_cons e_str a_nil)))) (s_cons (s_expr (e_call tk (hr.mono (by decide)) g54 (F54.bindsN (ps := [("value" : PySem.Str), ("part" : PySem.Str)]) fun _ _ _ _ _ _ us hl => match us, hl with | [_, _], _ => rfl) .nil (fun _ => .nil) (a_cons (e_var 2) (a_cons e_str a_nil)))) (s_cons (s_expr (e_call tk (hr.mono (by decide)) g48 (F48.bindsN (ps := [("one" : PySem.Str), ("other" : PySem.Str)]) fun _ _ _ _ _ _ us hl => match us, hl with | [_, _], _ => rfl) .nil (fun _ => .nil) (a_cons (e_var 0) (a_cons (e_var 1) a_nil)))) (s_cons (s_expr (e_call tk (hr.mono (by decide)) g56 (F56.bindsN (ps := [("book" : PySem.Str), ("told" : PySem.Str)]) fun _ _ _ _ _ _ us hl => match us, hl with | [_, _], _ => rfl) .nil (fun _ => .nil) (a_cons (e_var 0) (a_cons (e_var 2) a_nil)))) (s_one (s_ret (e_call tk (hr.mono (by decide)) g57 (F57.bindsN (ps := [("pace" : PySem.Str), ("step" : PySem.Str)]) fun _ _ _ _ _ _ us hl => match us, hl with | [_, _], _ => rfl) .nil (fun _ => .nil) (a_cons (e_var 1) (a_cons (e_meth [(3, B_Book_step_of)] tk (hr.mono (by decide)) (show ("step_of" : PySem.Str) ∉ flds by decide +kernel) (e_var 0) (a_cons (e_var 2) a_nil) mt_step_of_1) a_nil))))))))))⟩
theorem ok_65 {P : Program} {w : World} {K : PySem.W.Frag} {mg : Str → Option Value} {base : Heap} (h : Hy K mg base) : ∃ fd, FunD K d65.name d65.qual d65.params d65.body d65.scope (d65.dvs K) [] (d65.wh.ad K) fd ∧ FnB P w (gm K) mg base 14 (d65.wh.ad K) fd [("book" : PySem.Str), ("pace" : PySem.Str), ("span" : PySem.Str)] 3 [] B_called_sign := by
  obtain ⟨fd64, F64, ok64⟩ := ok_64 (P := P) (w := w) h
  obtain ⟨fd9, F9, ok9⟩ := ok_9 (P := P) (w := w) h
  have g64 : GlOk (gm K) P w mg base 13 ("called_worth" : PySem.Str) 3 [] B_called_worth _ fd64 [("book" : PySem.Str), ("pace" : PySem.Str), ("span" : PySem.Str)] := ⟨He.glo_ok h.X0 h.G0 (h.c.fact 109), F64.kp, ok64, ar_of⟩
  have pr_sign : ∀ c B, List.lookup c [(0, B_Ratio_sign)] = some B → PrOk (gm K) P w mg base 2 c ("sign" : PySem.Str) B := (lk_cons ⟨(clo0 h).1, _, _, fd9, _, prp_ok (h.c.fact 15), ok9, F9.bindsN (ps := [("self" : PySem.Str)]) fun _ _ _ _ _ _ us hl => match us, hl with | [_], _ => rfl⟩ lk_nil)
  have hN : N65.Nodup := sc65.nd
  obtain ⟨fd, F⟩ := h.c.def_ 65 (d := d65) rfl
  exact ⟨fd, F, def_ok (G := gm K) (N := N65) (k := 13) (O' := []) F sc65 fun cdv A outer s H E hr tk => (s_one (s_ret (e_pr [(0, B_Ratio_sign)] (hr.mono (by decide)) (e_call tk (hr.mono (by decide)) g64 (F64.bindsN (ps := [("book" : PySem.Str), ("pace" : PySem.Str), ("span" : PySem.Str)]) fun _ _ _ _ _ _ us hl => match us, hl with | [_, _, _], _ => rfl) .nil (fun _ => .nil) (a_cons (e_var 0) (a_cons (e_var 1) (a_cons (e_var 2) a_nil)))) pr_sign)))⟩
theorem ok_66 {P : Program} {w : World} {K : PySem.W.Frag} {mg : Str → Option Value} {base : Heap} (h : Hy K mg base) : ∃ fd, FunD K d66.name d66.qual d66.params d66.body d66.scope (d66.dvs K) [] (d66.wh.ad K) fd ∧ FnB P w (gm K) mg base 8 (d66.wh.ad K) fd [("value" : PySem.Str)] 1 [] B_are_terms := by
  obtain ⟨fd36, F36, ok36⟩ := ok_36 (P := P) (w := w) h
  obtain ⟨fd8, F8, ok8⟩ := ok_8 (P := P) (w := w) h
  obtain ⟨fd24, F24, ok24⟩ := ok_24 (P := P) (w := w) h
  obtain ⟨fd9, F9, ok9⟩ := ok_9 (P := P) (w := w) h
  have m_isinstance : mg ("isinstance" : PySem.Str) = none := He.free_ok h.X0 h.G0 (h.c.fact 4)
  have m_dict : mg ("dict" : PySem.Str) = none := He.free_ok h.X0 h.G0 (h.c.fact 66)
  have m_all : mg ("all" : PySem.Str) = none := He.free_ok h.X0 h.G0 (h.c.fact 41)
  have g36 : GlOk (gm K) P w mg base 2 ("is_name" : PySem.Str) 1 [] B_is_name _ fd36 [("value" : PySem.Str)] := ⟨He.glo_ok h.X0 h.G0 (h.c.fact 67), F36.kp, ok36, ar_of⟩
  have g8 : GlOk (gm K) P w mg base 3 ("is_ratio" : PySem.Str) 1 [] B_is_ratio _ fd8 [("value" : PySem.Str)] := ⟨He.glo_ok h.X0 h.G0 (h.c.fact 13), F8.kp, ok8, ar_of⟩
  have g24 : GlOk (gm K) P w mg base 7 ("summed" : PySem.Str) 1 [] B_summed _ fd24 [("ratios" : PySem.Str)] := ⟨He.glo_ok h.X0 h.G0 (h.c.fact 43), F24.kp, ok24, ar_of⟩
  have pr_sign : ∀ c B, List.lookup c [(0, B_Ratio_sign)] = some B → PrOk (gm K) P w mg base 2 c ("sign" : PySem.Str) B := (lk_cons ⟨(clo0 h).1, _, _, fd9, _, prp_ok (h.c.fact 15), ok9, F9.bindsN (ps := [("self" : PySem.Str)]) fun _ _ _ _ _ _ us hl => match us, hl with | [_], _ => rfl⟩ lk_nil)
  have hN : N66.Nodup := sc66.nd
  obtain ⟨fd, F⟩ := h.c.def_ 66 (d := d66) rfl
  exact ⟨fd, F, def_ok (G := gm K) (N := N66) (k := 7) (O' := []) F sc66 fun cdv A outer s H E hr tk => (s_cons (s_if (t_bo (w_or (t_not (t_val (e_isi (e_var 0) cv_ty (kn_ty (n := "dict") [] mem_nil)))) (w_or1 (t_not (t_val (e_all (a_cons (e_lcF (vs := [2]) [(("name" : PySem.Str), 2)] rfl (i_keys (e_var 0)) (blkOk_by (by kernel_rfl)) (fun _ _ _ _ _ => (g_to (O2 := []) (g_name 2))) (fun _ _ _ _ _ => pts_no) (fun _ _ _ _ _ => (e_call takes_blk (hr.mono (by decide)) g36 (F36.bindsN (ps := [("value" : PySem.Str)]) fun _ _ _ _ _ _ us hl => match us, hl with | [_], _ => rfl) .nil (fun _ => .nil) (a_cons (e_var 2) a_nil)))).fz a_nil))))))) (s_one (s_ret e_bl)) s_nil) (s_cons (s_to (O2 := []) (s_setLc 1 (vs := [2]) [(("name" : PySem.Str), 2)] rfl (i_keys (e_var 0)) (blkOk_by (by kernel_rfl)) (fun _ _ _ _ _ => (g_to (O2 := []) (g_name 2))) (fun _ _ _ _ _ => pts_no) (fun _ _ _ _ _ => (e_dix hr (e_var 0) (e_var 2))))) (s_one (s_ret (e_and (e_all (a_cons (e_lcF (vs := [3]) [(("number" : PySem.Str), 3)] rfl (i_seq (e_var 1)) (blkOk_by (by kernel_rfl)) (fun _ _ _ _ _ => (g_to (O2 := []) (g_name 3))) (fun _ _ _ _ _ => pts_no) (fun _ _ _ _ _ => (e_call takes_blk (hr.mono (by decide)) g8 (F8.bindsN (ps := [("value" : PySem.Str)]) fun _ _ _ _ _ _ us hl => match us, hl with | [_], _ => rfl) .nil (fun _ => .nil) (a_cons (e_var 3) a_nil)))).fz a_nil)) (e_bo1 (e_cmp (o_eq hr) (e_pr [(0, B_Ratio_sign)] (hr.mono (by decide)) (e_call tk (hr.mono (by decide)) g24 (F24.bindsN (ps := [("ratios" : PySem.Str)]) fun _ _ _ _ _ _ us hl => match us, hl with | [_], _ => rfl) .nil (fun _ => .nil) (a_cons (e_var 1) a_nil)) pr_sign) e_int)))))))⟩
theorem ok_67 {P : Program} {w : World} {K : PySem.W.Frag} {mg : Str → Option Value} {base : Heap} (h : Hy K mg base) : ∃ fd, FunD K d67.name d67.qual d67.params d67.body d67.scope (d67.dvs K) [] (d67.wh.ad K) fd ∧ FnB P w (gm K) mg base 9 (d67.wh.ad K) fd [("self" : PySem.Str), ("terms" : PySem.Str)] 2 [0] B_Span___init__ := by
  obtain ⟨fd66, F66, ok66⟩ := ok_66 (P := P) (w := w) h
  obtain ⟨fd10, F10, ok10⟩ := ok_10 (P := P) (w := w) h
  obtain ⟨fd9, F9, ok9⟩ := ok_9 (P := P) (w := w) h
  have g66 : GlOk (gm K) P w mg base 8 ("are_terms" : PySem.Str) 1 [] B_are_terms _ fd66 [("value" : PySem.Str)] := ⟨He.glo_ok h.X0 h.G0 (h.c.fact 110), F66.kp, ok66, ar_of⟩
  have m_sorted : mg ("sorted" : PySem.Str) = none := He.free_ok h.X0 h.G0 (h.c.fact 72)
  have m_list : mg ("list" : PySem.Str) = none := He.free_ok h.X0 h.G0 (h.c.fact 39)
  have st10 : StOk (gm K) P w mg base 6 ("Ratio" : PySem.Str) (He.ga K ("Ratio" : PySem.Str)) ("of" : PySem.Str) 1 B_Ratio_of _ fd10 [("value" : PySem.Str)] := ⟨He.glo_ok h.X0 h.G0 (h.c.fact 9), (sta_ok (h.c.fact 14)).1, (sta_ok (h.c.fact 14)).2.1, (sta_ok (h.c.fact 14)).2.2, F10.kp, ok10, ar_of⟩
  have m_tuple : mg ("tuple" : PySem.Str) = none := He.free_ok h.X0 h.G0 (h.c.fact 38)
  have pr_sign : ∀ c B, List.lookup c [(0, B_Ratio_sign)] = some B → PrOk (gm K) P w mg base 2 c ("sign" : PySem.Str) B := (lk_cons ⟨(clo0 h).1, _, _, fd9, _, prp_ok (h.c.fact 15), ok9, F9.bindsN (ps := [("self" : PySem.Str)]) fun _ _ _ _ _ _ us hl => match us, hl with | [_], _ => rfl⟩ lk_nil)
  have ht_fs_terms : ∀ c i, List.lookup c [(1, 0)] = some i → ClsOk (gm K) c ∧ ((gm K).lay c)[i]? = some ("terms" : PySem.Str) := lk_cons ⟨co1 h, rfl⟩ lk_nil
  have ht_fl_terms : ∀ c i, List.lookup c [(1, 0)] = some i → ClsOk (gm K) c ∧ ((gm K).lay c)[i]? = some ("terms" : PySem.Str) := (lk_cons ⟨co1 h, rfl⟩ lk_nil)
  have ht_fs_names : ∀ c i, List.lookup c [(1, 1)] = some i → ClsOk (gm K) c ∧ ((gm K).lay c)[i]? = some ("names" : PySem.Str) := lk_cons ⟨co1 h, rfl⟩ lk_nil
  have m_len : mg ("len" : PySem.Str) = none := He.free_ok h.X0 h.G0 (h.c.fact 1)
  have ht_fs_is_nothing : ∀ c i, List.lookup c [(1, 2)] = some i → ClsOk (gm K) c ∧ ((gm K).lay c)[i]? = some ("is_nothing" : PySem.Str) := lk_cons ⟨co1 h, rfl⟩ lk_nil
  have hN : N67.Nodup := sc67.nd
  obtain ⟨fd, F⟩ := h.c.def_ 67 (d := d67) rfl
  exact ⟨fd, F, def_ok (G := gm K) (N := N67) (k := 8) (O' := [0]) F sc67 fun cdv A outer s H E hr tk => (s_cons (s_if (t_not (t_val (e_call tk (hr.mono (by decide)) g66 (F66.bindsN (ps := [("value" : PySem.Str)]) fun _ _ _ _ _ _ us hl => match us, hl with | [_], _ => rfl) .nil (fun _ => .nil) (a_cons (e_var 1) a_nil)))) (s_one s_no) s_nil) (s_cons (s_to (O2 := [0]) (s_setLc 2 (vs := [3]) [(("name" : PySem.Str), 3)] rfl (i_seq (e_sorted (a_cons (e_listD (a_cons (e_var 1) a_nil)) a_nil))) (blkOk_by (by kernel_rfl)) (fun _ _ _ _ _ => (g_to (O2 := [0]) (g_name 3))) (fun _ _ _ _ _ => pts_no) (fun _ _ _ _ _ => (e_tup (a_cons (e_var 3) (a_cons (e_stat takes_blk (hr.mono (by decide)) st10 (F10.bindsN (ps := [("value" : PySem.Str)]) fun _ _ _ _ _ _ us hl => match us, hl with | [_], _ => rfl) .nil (fun _ => .nil) (a_cons (e_dix hr (e_var 1) (e_var 3)) a_nil)) a_nil)))))) (s_cons (s_fld 0 [(1, 0)] (e_tuple (a_cons (e_lcF (vs := [4]) [(("pair" : PySem.Str), 4)] rfl (i_seq (e_var 2)) (blkOk_by (by kernel_rfl)) (fun _ _ _ _ _ => (g_to (O2 := [0]) (g_name 4))) (fun _ _ _ _ _ => (pts_1 (t_cmp (o_ne hr) (e_pr [(0, B_Ratio_sign)] (hr.mono (by decide)) (e_ix (e_var 4) e_int) pr_sign) e_int))) (fun _ _ _ _ _ => (e_var 4))).fz a_nil)) ht_fs_terms) (s_cons (s_fld 0 [(1, 1)] (e_tuple (a_cons (e_lcF (vs := [4]) [(("pair" : PySem.Str), 4)] rfl (i_seq (e_fl [(1, 0)] (e_self 0) ht_fl_terms)) (blkOk_by (by kernel_rfl)) (fun _ _ _ _ _ => (g_to (O2 := [0]) (g_name 4))) (fun _ _ _ _ _ => pts_no) (fun _ _ _ _ _ => (e_ix (e_var 4) e_int))).fz a_nil)) ht_fs_names) (s_one (s_fld 0 [(1, 2)] (e_cmp (o_eq hr) (e_len (a_cons (e_fl [(1, 0)] (e_self 0) ht_fl_terms) a_nil)) e_int) ht_fs_is_nothing))))))⟩
theorem ok_68 {P : Program} {w : World} {K : PySem.W.Frag} {mg : Str → Option Value} {base : Heap} (h : Hy K mg base) : ∃ fd, FunD K d68.name d68.qual d68.params d68.body d68.scope (d68.dvs K) [] (d68.wh.ad K) fd ∧ FnB P w (gm K) mg base 11 (d68.wh.ad K) fd [("one" : PySem.Str), ("other" : PySem.Str)] 2 [] B_Span_between := by
  obtain ⟨fd36, F36, ok36⟩ := ok_36 (P := P) (w := w) h
  obtain ⟨fd67, F67, ok67⟩ := ok_67 (P := P) (w := w) h
  have g36 : GlOk (gm K) P w mg base 2 ("is_name" : PySem.Str) 1 [] B_is_name _ fd36 [("value" : PySem.Str)] := ⟨He.glo_ok h.X0 h.G0 (h.c.fact 67), F36.kp, ok36, ar_of⟩
  have nw67 : NwOk (gm K) P w mg base 9 ("Span" : PySem.Str) 1 2 B_Span___init__ _ fd67 [("self" : PySem.Str), ("terms" : PySem.Str)] := ⟨He.glo_ok h.X0 h.G0 (h.c.fact 95), He.mkr_ok (h.c.fact 111), rfl, ok67, ar_of, rfl⟩
  have hN : N68.Nodup := sc68.nd
  obtain ⟨fd, F⟩ := h.c.def_ 68 (d := d68) rfl
  exact ⟨fd, F, def_ok (G := gm K) (N := N68) (k := 10) (O' := []) F sc68 fun cdv A outer s H E hr tk => (s_cons (s_if (t_not (t_val (e_call tk (hr.mono (by decide)) g36 (F36.bindsN (ps := [("value" : PySem.Str)]) fun _ _ _ _ _ _ us hl => match us, hl with | [_], _ => rfl) .nil (fun _ => .nil) (a_cons (e_var 0) a_nil)))) (s_one s_no) s_nil) (s_cons (s_if (t_not (t_val (e_call tk (hr.mono (by decide)) g36 (F36.bindsN (ps := [("value" : PySem.Str)]) fun _ _ _ _ _ _ us hl => match us, hl with | [_], _ => rfl) .nil (fun _ => .nil) (a_cons (e_var 1) a_nil)))) (s_one s_no) s_nil) (s_one (s_ret (e_new tk (hr.mono (by decide)) nw67 (F67.bindsN (ps := [("self" : PySem.Str), ("terms" : PySem.Str)]) fun _ _ _ _ _ _ us hl => match us, hl with | [_, _], _ => rfl) .nil (fun _ => .nil) (a_cons (e_if (t_cmp (o_eq hr) (e_var 0) (e_var 1)) (e_disp (dp_cons (e_var 0) e_int dp_nil)) (e_disp (dp_cons (e_var 0) (e_un o_neg e_int) (dp_cons (e_var 1) e_int dp_nil)))) a_nil))))))⟩
theorem ok_69 {P : Program} {w : World} {K : PySem.W.Frag} {mg : Str → Option Value} {base : Heap} (h : Hy K mg base) : ∃ fd, FunD K d69.name d69.qual d69.params d69.body d69.scope (d69.dvs K) [] (d69.wh.ad K) fd ∧ FnB P w (gm K) mg base 15 (d69.wh.ad K) fd [("_law_k" : PySem.Str), ("_law_other" : PySem.Str), ("_law_beats" : PySem.Str)] 3 [] B__law_book_right := by
  obtain ⟨fd4, F4, ok4⟩ := ok_4 (P := P) (w := w) h
  obtain ⟨fd6, F6, ok6⟩ := ok_6 (P := P) (w := w) h
  obtain ⟨fd20, F20, ok20⟩ := ok_20 (P := P) (w := w) h
  obtain ⟨fd19, F19, ok19⟩ := ok_19 (P := P) (w := w) h
  obtain ⟨fd16, F16, ok16⟩ := ok_16 (P := P) (w := w) h
  obtain ⟨fd17, F17, ok17⟩ := ok_17 (P := P) (w := w) h
  obtain ⟨fd32, F32, ok32⟩ := ok_32 (P := P) (w := w) h
  obtain ⟨fd39, F39, ok39⟩ := ok_39 (P := P) (w := w) h
  obtain ⟨fd46, F46, ok46⟩ := ok_46 (P := P) (w := w) h
  obtain ⟨fd63, F63, ok63⟩ := ok_63 (P := P) (w := w) h
  obtain ⟨fd51, F51, ok51⟩ := ok_51 (P := P) (w := w) h
  obtain ⟨fd18, F18, ok18⟩ := ok_18 (P := P) (w := w) h
  obtain ⟨fd9, F9, ok9⟩ := ok_9 (P := P) (w := w) h
  obtain ⟨fd65, F65, ok65⟩ := ok_65 (P := P) (w := w) h
  obtain ⟨fd68, F68, ok68⟩ := ok_68 (P := P) (w := w) h
  obtain ⟨fd61, F61, ok61⟩ := ok_61 (P := P) (w := w) h
  obtain ⟨fd62, F62, ok62⟩ := ok_62 (P := P) (w := w) h
  have nw4 : NwOk (gm K) P w mg base 3 ("Ratio" : PySem.Str) 0 3 B_Ratio___init__ _ fd4 [("self" : PySem.Str), ("top" : PySem.Str), ("bottom" : PySem.Str)] := ⟨He.glo_ok h.X0 h.G0 (h.c.fact 9), He.mkr_ok (h.c.fact 11), rfl, ok4, ar_of, rfl⟩
  obtain ⟨bd4_3, bd4_3_v, bd4_3_b⟩ := F4.binds1 (ps := [("self" : PySem.Str), ("top" : PySem.Str), ("bottom" : PySem.Str)]) 3 1 (List.cons_ne_nil _ _) rfl fun T kV doc pm an cdv ct us its h1 h2 => ⟨_, rfl, match us, h1, its, h2 with | [_, _, _], _, [_], _ => rfl⟩
  have ht_mul : ∀ c B, List.lookup c [(0, B_Ratio___mul__)] = some B → (∃ f fd ps, OwnOk (gm K) P w mg base 6 ("__mul__" : PySem.Str) c B f fd ps 2) ∧ BinOk (gm K) ("__mul__" : PySem.Str) ("__rmul__" : PySem.Str) ["int"] [0] c := (lk_cons ⟨⟨_, fd6, [("self" : PySem.Str), ("other" : PySem.Str)], (He.meth_ok (h.c.fact 28)).at_, (He.meth_ok (h.c.fact 28)).fn, fn_up ok6 (by decide), F6.bindsN (ps := [("self" : PySem.Str), ("other" : PySem.Str)]) fun _ _ _ _ _ _ us hl => match us, hl with | [_, _], _ => rfl, ar_of⟩, ⟨(h.c.fact 19), rd_ok (h.c.fact 29), (mem_cons ⟨by decide, biT_ok (h.c.fact 27)⟩ mem_nil), (mem_cons (.inl rfl) mem_nil)⟩⟩ lk_nil)
  have g20 : GlOk (gm K) P w mg base 8 ("beats_right" : PySem.Str) 3 [] B_beats_right _ fd20 [("k" : PySem.Str), ("other" : PySem.Str), ("beats" : PySem.Str)] := ⟨He.glo_ok h.X0 h.G0 (h.c.fact 31), F20.kp, ok20, ar_of⟩
  have g19 : GlOk (gm K) P w mg base 8 ("beats_left" : PySem.Str) 3 [] B_beats_left _ fd19 [("k" : PySem.Str), ("other" : PySem.Str), ("beats" : PySem.Str)] := ⟨He.glo_ok h.X0 h.G0 (h.c.fact 36), F19.kp, ok19, ar_of⟩
  have g16 : GlOk (gm K) P w mg base 9 ("echo_beats" : PySem.Str) 3 [] B_echo_beats _ fd16 [("k" : PySem.Str), ("other" : PySem.Str), ("beats" : PySem.Str)] := ⟨He.glo_ok h.X0 h.G0 (h.c.fact 30), F16.kp, ok16, ar_of⟩
  have g17 : GlOk (gm K) P w mg base 10 ("middle_beats" : PySem.Str) 3 [] B_middle_beats _ fd17 [("k" : PySem.Str), ("other" : PySem.Str), ("beats" : PySem.Str)] := ⟨He.glo_ok h.X0 h.G0 (h.c.fact 37), F17.kp, ok17, ar_of⟩
  have g32 : GlOk (gm K) P w mg base 14 ("_law_spot" : PySem.Str) 2 [] B__law_spot _ fd32 [("_law_k" : PySem.Str), ("_law_beats" : PySem.Str)] := ⟨He.glo_ok h.X0 h.G0 (h.c.fact 112), F32.kp, ok32, ar_of⟩
  have m_zip : mg ("zip" : PySem.Str) = none := He.free_ok h.X0 h.G0 (h.c.fact 44)
  have ht_fl_time : ∀ c i, List.lookup c [(2, 0)] = some i → ClsOk (gm K) c ∧ ((gm K).lay c)[i]? = some ("time" : PySem.Str) := (lk_cons ⟨co2 h, rfl⟩ lk_nil)
  have m_list : mg ("list" : PySem.Str) = none := He.free_ok h.X0 h.G0 (h.c.fact 39)
  have ht_fl_place : ∀ c i, List.lookup c [(2, 1)] = some i → ClsOk (gm K) c ∧ ((gm K).lay c)[i]? = some ("place" : PySem.Str) := (lk_cons ⟨co2 h, rfl⟩ lk_nil)
  have nw39 : NwOk (gm K) P w mg base 11 ("Book" : PySem.Str) 3 3 B_Book___init__ _ fd39 [("self" : PySem.Str), ("axes" : PySem.Str), ("spots" : PySem.Str)] := ⟨He.glo_ok h.X0 h.G0 (h.c.fact 90), He.mkr_ok (h.c.fact 113), rfl, ok39, ar_of, rfl⟩
  have st46 : StOk (gm K) P w mg base 12 ("Pace" : PySem.Str) (He.ga K ("Pace" : PySem.Str)) ("of_beats" : PySem.Str) 3 B_Pace_of_beats _ fd46 [("ratio" : PySem.Str), ("axes" : PySem.Str), ("axis" : PySem.Str)] := ⟨He.glo_ok h.X0 h.G0 (h.c.fact 79), (sta_ok (h.c.fact 114)).1, (sta_ok (h.c.fact 114)).2.1, (sta_ok (h.c.fact 114)).2.2, F46.kp, ok46, ar_of⟩
  have mt_spot_of_1 : ∀ c B, List.lookup c [(3, B_Book_spot_of)] = some B → ∃ n f fd ps ds dvs, MtOk (gm K) P w mg base 3 c ("spot_of" : PySem.Str) n B f fd ps ds dvs ∧ ∀ F, RepL (gm K) F [] dvs := (lk_cons ⟨2, _, fd63, [("self" : PySem.Str), ("name" : PySem.Str)], _, _, ⟨(clo3 h).1, He.meth_ok (h.c.fact 115), fn_up ok63 (by decide), ar_of, (F63.bindsN (ps := [("self" : PySem.Str), ("name" : PySem.Str)]) fun _ _ _ _ _ _ us hl => match us, hl with | [_, _], _ => rfl), .nil⟩, (fun _ => .nil)⟩ lk_nil)
  have ht_sub : ∀ c B, List.lookup c [(2, B_Step___sub__)] = some B → (∃ f fd ps, OwnOk (gm K) P w mg base 12 ("__sub__" : PySem.Str) c B f fd ps 2) ∧ BinOk (gm K) ("__sub__" : PySem.Str) ("__rsub__" : PySem.Str) ["int"] [2] c := (lk_cons ⟨⟨_, fd51, [("self" : PySem.Str), ("other" : PySem.Str)], (He.meth_ok (h.c.fact 117)).at_, (He.meth_ok (h.c.fact 117)).fn, fn_up ok51 (by decide), F51.bindsN (ps := [("self" : PySem.Str), ("other" : PySem.Str)]) fun _ _ _ _ _ _ us hl => match us, hl with | [_, _], _ => rfl, ar_of⟩, ⟨(h.c.fact 87), rd_ok (h.c.fact 118), (mem_cons ⟨by decide, biT_ok (h.c.fact 116)⟩ mem_nil), (mem_cons (.inl rfl) mem_nil)⟩⟩ lk_nil)
  have ht_fl_square : ∀ c i, List.lookup c [(2, 3), (4, 2)] = some i → ClsOk (gm K) c ∧ ((gm K).lay c)[i]? = some ("square" : PySem.Str) := (lk_cons ⟨co2 h, rfl⟩ (lk_cons ⟨co4 h, rfl⟩ lk_nil))
  have ht_eqN : ∀ c B, List.lookup c [(0, B_Ratio___eq__)] = some B → (∃ f fd ps, OwnOk (gm K) P w mg base 3 "__eq__" c B f fd ps 2) ∧ CmpOk (gm K) ["int"] [0] c ∧ NeOk (gm K) c := (lk_cons ⟨⟨_, fd18, [("self" : PySem.Str), ("other" : PySem.Str)], (He.meth_ok (h.c.fact 34)).at_, (He.meth_ok (h.c.fact 34)).fn, fn_up ok18 (by decide), F18.bindsN (ps := [("self" : PySem.Str), ("other" : PySem.Str)]) fun _ _ _ _ _ _ us hl => match us, hl with | [_, _], _ => rfl, ar_of⟩, ⟨(mem_cons ⟨by decide, (h.c.fact 32)⟩ mem_nil), (mem_cons (h.c.fact 33) mem_nil)⟩, ⟨eqF_ok (h.c.fact 35), (ty0 h).hm⟩⟩ lk_nil)
  have ht_fl_kind : ∀ c i, List.lookup c [(2, 4)] = some i → ClsOk (gm K) c ∧ ((gm K).lay c)[i]? = some ("kind" : PySem.Str) := (lk_cons ⟨co2 h, rfl⟩ lk_nil)
  have pr_sign : ∀ c B, List.lookup c [(0, B_Ratio_sign)] = some B → PrOk (gm K) P w mg base 2 c ("sign" : PySem.Str) B := (lk_cons ⟨(clo0 h).1, _, _, fd9, _, prp_ok (h.c.fact 15), ok9, F9.bindsN (ps := [("self" : PySem.Str)]) fun _ _ _ _ _ _ us hl => match us, hl with | [_], _ => rfl⟩ lk_nil)
  have ht_eq : ∀ c B, List.lookup c [(0, B_Ratio___eq__)] = some B → (∃ f fd ps, OwnOk (gm K) P w mg base 3 ("__eq__" : PySem.Str) c B f fd ps 2) ∧ CmpOk (gm K) ["int"] [0] c := (lk_cons ⟨⟨_, fd18, [("self" : PySem.Str), ("other" : PySem.Str)], (He.meth_ok (h.c.fact 34)).at_, (He.meth_ok (h.c.fact 34)).fn, fn_up ok18 (by decide), F18.bindsN (ps := [("self" : PySem.Str), ("other" : PySem.Str)]) fun _ _ _ _ _ _ us hl => match us, hl with | [_, _], _ => rfl, ar_of⟩, ⟨(mem_cons ⟨by decide, (h.c.fact 32)⟩ mem_nil), (mem_cons (h.c.fact 33) mem_nil)⟩⟩ lk_nil)
  have g65 : GlOk (gm K) P w mg base 14 ("called_sign" : PySem.Str) 3 [] B_called_sign _ fd65 [("book" : PySem.Str), ("pace" : PySem.Str), ("span" : PySem.Str)] := ⟨He.glo_ok h.X0 h.G0 (h.c.fact 119), F65.kp, ok65, ar_of⟩
  have st68 : StOk (gm K) P w mg base 11 ("Span" : PySem.Str) (He.ga K ("Span" : PySem.Str)) ("between" : PySem.Str) 2 B_Span_between _ fd68 [("one" : PySem.Str), ("other" : PySem.Str)] := ⟨He.glo_ok h.X0 h.G0 (h.c.fact 95), (sta_ok (h.c.fact 120)).1, (sta_ok (h.c.fact 120)).2.1, (sta_ok (h.c.fact 120)).2.2, F68.kp, ok68, ar_of⟩
  have g61 : GlOk (gm K) P w mg base 13 ("called_quotient" : PySem.Str) 4 [] B_called_quotient _ fd61 [("book" : PySem.Str), ("pace" : PySem.Str), ("one" : PySem.Str), ("other" : PySem.Str)] := ⟨He.glo_ok h.X0 h.G0 (h.c.fact 121), F61.kp, ok61, ar_of⟩
  have g62 : GlOk (gm K) P w mg base 7 ("_law_slow" : PySem.Str) 4 [] B__law_slow _ fd62 [("_law_first" : PySem.Str), ("_law_second" : PySem.Str), ("_law_met" : PySem.Str), ("_law_middle" : PySem.Str)] := ⟨He.glo_ok h.X0 h.G0 (h.c.fact 122), F62.kp, ok62, ar_of⟩
  have hN : N69.Nodup := sc69.nd
  obtain ⟨fd, F⟩ := h.c.def_ 69 (d := d69) rfl
  exact ⟨fd, F, def_ok (G := gm K) (N := N69) (k := 14) (O' := []) F sc69 fun cdv A outer s H E hr tk => (s_cons (s_to (O2 := []) (s_par3 3 4 5 (a_cons (e_new tk (hr.mono (by decide)) nw4 bd4_3_b bd4_3_v (fun _ => .nil) (a_cons (e_ix (e_var 0) e_int) (a_cons (e_ix (e_var 0) e_int) a_nil))) (a_cons (e_new tk (hr.mono (by decide)) nw4 bd4_3_b bd4_3_v (fun _ => .nil) (a_cons (e_ix (e_var 1) e_int) (a_cons (e_ix (e_var 1) e_int) a_nil))) (a_cons (e_new tk (hr.mono (by decide)) nw4 bd4_3_b bd4_3_v (fun _ => .nil) (a_cons (e_ix (e_var 2) e_int) (a_cons (e_ix (e_var 2) e_int) a_nil))) a_nil))))) (s_cons (s_to (O2 := []) (s_set 6 (e_cmp o_lt (e_bin (o_bin [(0, B_Ratio___mul__)] ["int"] [0] tk (hr.mono (by decide)) o_mul ht_mul) (e_ix (e_var 0) e_int) (e_ix (e_var 1) e_int)) (e_bin (o_bin [(0, B_Ratio___mul__)] ["int"] [0] tk (hr.mono (by decide)) o_mul ht_mul) (e_ix (e_var 1) e_int) (e_ix (e_var 0) e_int))))) (s_cons (s_to (O2 := []) (s_set 7 (e_if (t_val (e_var 6)) (e_call tk (hr.mono (by decide)) g20 (F20.bindsN (ps := [("k" : PySem.Str), ("other" : PySem.Str), ("beats" : PySem.Str)]) fun _ _ _ _ _ _ us hl => match us, hl with | [_, _, _], _ => rfl) .nil (fun _ => .nil) (a_cons (e_var 3) (a_cons (e_var 4) (a_cons (e_var 5) a_nil)))) (e_call tk (hr.mono (by decide)) g19 (F19.bindsN (ps := [("k" : PySem.Str), ("other" : PySem.Str), ("beats" : PySem.Str)]) fun _ _ _ _ _ _ us hl => match us, hl with | [_, _, _], _ => rfl) .nil (fun _ => .nil) (a_cons (e_var 3) (a_cons (e_var 4) (a_cons (e_var 5) a_nil))))))) (s_cons (s_to (O2 := []) (s_par2 8 9 (a_cons (e_call tk (hr.mono (by decide)) g16 (F16.bindsN (ps := [("k" : PySem.Str), ("other" : PySem.Str), ("beats" : PySem.Str)]) fun _ _ _ _ _ _ us hl => match us, hl with | [_, _, _], _ => rfl) .nil (fun _ => .nil) (a_cons (e_var 3) (a_cons (e_var 4) (a_cons (e_var 5) a_nil)))) (a_cons (e_call tk (hr.mono (by decide)) g17 (F17.bindsN (ps := [("k" : PySem.Str), ("other" : PySem.Str), ("beats" : PySem.Str)]) fun _ _ _ _ _ _ us hl => match us, hl with | [_, _, _], _ => rfl) .nil (fun _ => .nil) (a_cons (e_var 3) (a_cons (e_var 4) (a_cons (e_var 5) a_nil)))) a_nil)))) (s_cons (s_to (O2 := []) (s_set 10 (e_lst (a_cons (e_call tk (hr.mono (by decide)) g32 (F32.bindsN (ps := [("_law_k" : PySem.Str), ("_law_beats" : PySem.Str)]) fun _ _ _ _ _ _ us hl => match us, hl with | [_, _], _ => rfl) .nil (fun _ => .nil) (a_cons (e_var 3) (a_cons (e_var 5) a_nil))) (a_cons (e_call tk (hr.mono (by decide)) g32 (F32.bindsN (ps := [("_law_k" : PySem.Str), ("_law_beats" : PySem.Str)]) fun _ _ _ _ _ _ us hl => match us, hl with | [_, _], _ => rfl) .nil (fun _ => .nil) (a_cons (e_var 4) (a_cons (e_var 7) a_nil))) (a_cons (e_call tk (hr.mono (by decide)) g32 (F32.bindsN (ps := [("_law_k" : PySem.Str), ("_law_beats" : PySem.Str)]) fun _ _ _ _ _ _ us hl => match us, hl with | [_, _], _ => rfl) .nil (fun _ => .nil) (a_cons (e_var 3) (a_cons (e_var 8) a_nil))) (a_cons (e_call tk (hr.mono (by decide)) g32 (F32.bindsN (ps := [("_law_k" : PySem.Str), ("_law_beats" : PySem.Str)]) fun _ _ _ _ _ _ us hl => match us, hl with | [_, _], _ => rfl) .nil (fun _ => .nil) (a_cons (e_var 3) (a_cons (e_var 9) a_nil))) a_nil))))))) (s_cons (s_to (O2 := [11]) (s_setF 11 (f_disp (dp_cons e_str (e_tup (a_cons e_int (a_cons (e_lst (a_cons e_int a_nil)) a_nil))) dp_nil)))) (s_cons (s_for (OL := [11]) [12, 13] (i_zip (a_cons (e_lst (a_cons e_str (a_cons e_str (a_cons e_str (a_cons e_str a_nil))))) (a_cons (e_var 10) a_nil))) (g_tup (gs_cons (g_to (O2 := [11]) (g_name 12)) (gs_cons (g_to (O2 := [11]) (g_name 13)) gs_nil))) (s_one (s_dix 11 hr (e_tup (a_cons (e_fl [(2, 0)] (e_var 13) ht_fl_time) (a_cons (e_listF (a_cons (e_fl [(2, 1)] (e_var 13) ht_fl_place) a_nil)).fz a_nil))) (e_var 12))) (passes_of rfl)) (s_cons (s_to (O2 := []) (s_par3 14 15 16 (a_cons (e_new tk (hr.mono (by decide)) nw39 (F39.bindsN (ps := [("self" : PySem.Str), ("axes" : PySem.Str), ("spots" : PySem.Str)]) fun _ _ _ _ _ _ us hl => match us, hl with | [_, _, _], _ => rfl) .nil (fun _ => .nil) (a_cons e_int (a_cons (e_varD 11) a_nil))) (a_cons (e_stat tk (hr.mono (by decide)) st46 (F46.bindsN (ps := [("ratio" : PySem.Str), ("axes" : PySem.Str), ("axis" : PySem.Str)]) fun _ _ _ _ _ _ us hl => match us, hl with | [_, _, _], _ => rfl) .nil (fun _ => .nil) (a_cons (e_var 3) (a_cons e_int (a_cons e_int a_nil)))) (a_cons (e_stat tk (hr.mono (by decide)) st46 (F46.bindsN (ps := [("ratio" : PySem.Str), ("axes" : PySem.Str), ("axis" : PySem.Str)]) fun _ _ _ _ _ _ us hl => match us, hl with | [_, _, _], _ => rfl) .nil (fun _ => .nil) (a_cons (e_var 4) (a_cons e_int (a_cons e_int a_nil)))) a_nil))))) (s_cons (s_for (OL := []) [17, 18] (i_seq (e_tup (a_cons (e_tup (a_cons e_str (a_cons e_str a_nil))) (a_cons (e_tup (a_cons e_str (a_cons e_str a_nil))) a_nil)))) (g_tup (gs_cons (g_to (O2 := []) (g_name 17)) (gs_cons (g_to (O2 := []) (g_name 18)) gs_nil))) (s_cons (s_to (O2 := []) (s_set 13 (e_bin (o_bin [(2, B_Step___sub__)] ["int"] [2] tk (hr.mono (by decide)) o_sub ht_sub) (e_meth [(3, B_Book_spot_of)] tk (hr.mono (by decide)) (show ("spot_of" : PySem.Str) ∉ flds by decide +kernel) (e_var 14) (a_cons (e_var 18) a_nil) mt_spot_of_1) (e_meth [(3, B_Book_spot_of)] tk (hr.mono (by decide)) (show ("spot_of" : PySem.Str) ∉ flds by decide +kernel) (e_var 14) (a_cons (e_var 17) a_nil) mt_spot_of_1)))) (s_one (s_if (t_bo (w_or (t_cmp (o_neW [(0, B_Ratio___eq__)] ["int"] [0] tk (hr.mono (by decide)) (o_ne hr) ht_eqN) (e_fl [(2, 3), (4, 2)] (e_var 13) ht_fl_square) e_int) (w_or (t_cmp (o_neW [(0, B_Ratio___eq__)] ["int"] [0] tk (hr.mono (by decide)) (o_ne hr) ht_eqN) (e_fl [(2, 4)] (e_var 13) ht_fl_kind) e_str) (w_or1 (t_cmp (o_neW [(0, B_Ratio___eq__)] ["int"] [0] tk (hr.mono (by decide)) (o_ne hr) ht_eqN) (e_cmp o_gt (e_pr [(0, B_Ratio_sign)] (hr.mono (by decide)) (e_ix (e_fl [(2, 1)] (e_var 13) ht_fl_place) e_int) pr_sign) e_int) (e_cmp (o_eqT [(0, B_Ratio___eq__)] ["int"] [0] tk (hr.mono (by decide)) ht_eq) (e_var 6) (e_cmp (o_eqT [(0, B_Ratio___eq__)] ["int"] [0] tk (hr.mono (by decide)) ht_eq) (e_var 17) e_str))))))) (s_one (s_ret e_bl)) s_nil))) (passes_of rfl)) (s_cons (s_if (t_bo (w_or (t_cmp (o_neW [(0, B_Ratio___eq__)] ["int"] [0] tk (hr.mono (by decide)) (o_ne hr) ht_eqN) (e_call tk (hr.mono (by decide)) g65 (F65.bindsN (ps := [("book" : PySem.Str), ("pace" : PySem.Str), ("span" : PySem.Str)]) fun _ _ _ _ _ _ us hl => match us, hl with | [_, _, _], _ => rfl) .nil (fun _ => .nil) (a_cons (e_var 14) (a_cons (e_var 15) (a_cons (e_stat tk (hr.mono (by decide)) st68 (F68.bindsN (ps := [("one" : PySem.Str), ("other" : PySem.Str)]) fun _ _ _ _ _ _ us hl => match us, hl with | [_, _], _ => rfl) .nil (fun _ => .nil) (a_cons e_str (a_cons e_str a_nil))) a_nil)))) e_int) (w_or1 (t_cmp (o_neW [(0, B_Ratio___eq__)] ["int"] [0] tk (hr.mono (by decide)) (o_ne hr) ht_eqN) (e_call tk (hr.mono (by decide)) g65 (F65.bindsN (ps := [("book" : PySem.Str), ("pace" : PySem.Str), ("span" : PySem.Str)]) fun _ _ _ _ _ _ us hl => match us, hl with | [_, _, _], _ => rfl) .nil (fun _ => .nil) (a_cons (e_var 14) (a_cons (e_var 16) (a_cons (e_stat tk (hr.mono (by decide)) st68 (F68.bindsN (ps := [("one" : PySem.Str), ("other" : PySem.Str)]) fun _ _ _ _ _ _ us hl => match us, hl with | [_, _], _ => rfl) .nil (fun _ => .nil) (a_cons e_str (a_cons e_str a_nil))) a_nil)))) e_int)))) (s_one (s_ret e_bl)) s_nil) (s_cons (s_if (t_cmp (o_neW [(0, B_Ratio___eq__)] ["int"] [0] tk (hr.mono (by decide)) (o_ne hr) ht_eqN) (e_call tk (hr.mono (by decide)) g61 (F61.bindsN (ps := [("book" : PySem.Str), ("pace" : PySem.Str), ("one" : PySem.Str), ("other" : PySem.Str)]) fun _ _ _ _ _ _ us hl => match us, hl with | [_, _, _, _], _ => rfl) .nil (fun _ => .nil) (a_cons (e_var 14) (a_cons (e_var 15) (a_cons (e_stat tk (hr.mono (by decide)) st68 (F68.bindsN (ps := [("one" : PySem.Str), ("other" : PySem.Str)]) fun _ _ _ _ _ _ us hl => match us, hl with | [_, _], _ => rfl) .nil (fun _ => .nil) (a_cons e_str (a_cons e_str a_nil))) (a_cons (e_stat tk (hr.mono (by decide)) st68 (F68.bindsN (ps := [("one" : PySem.Str), ("other" : PySem.Str)]) fun _ _ _ _ _ _ us hl => match us, hl with | [_, _], _ => rfl) .nil (fun _ => .nil) (a_cons e_str (a_cons e_str a_nil))) a_nil))))) (e_bin (o_bin [(0, B_Ratio___mul__)] ["int"] [0] tk (hr.mono (by decide)) o_mul ht_mul) (e_var 9) (e_new tk (hr.mono (by decide)) nw4 bd4_3_b bd4_3_v (fun _ => .nil) (a_cons (e_ix (e_var 2) e_int) (a_cons (e_ix (e_var 2) e_int) a_nil))))) (s_one (s_ret e_bl)) s_nil) (s_one (s_ret (e_cmp (o_eqT [(0, B_Ratio___eq__)] ["int"] [0] tk (hr.mono (by decide)) ht_eq) (e_call tk (hr.mono (by decide)) g61 (F61.bindsN (ps := [("book" : PySem.Str), ("pace" : PySem.Str), ("one" : PySem.Str), ("other" : PySem.Str)]) fun _ _ _ _ _ _ us hl => match us, hl with | [_, _, _, _], _ => rfl) .nil (fun _ => .nil) (a_cons (e_var 14) (a_cons (e_var 16) (a_cons (e_stat tk (hr.mono (by decide)) st68 (F68.bindsN (ps := [("one" : PySem.Str), ("other" : PySem.Str)]) fun _ _ _ _ _ _ us hl => match us, hl with | [_, _], _ => rfl) .nil (fun _ => .nil) (a_cons e_str (a_cons e_str a_nil))) (a_cons (e_stat tk (hr.mono (by decide)) st68 (F68.bindsN (ps := [("one" : PySem.Str), ("other" : PySem.Str)]) fun _ _ _ _ _ _ us hl => match us, hl with | [_, _], _ => rfl) .nil (fun _ => .nil) (a_cons e_str (a_cons e_str a_nil))) a_nil))))) (e_call tk (hr.mono (by decide)) g62 (F62.bindsN (ps := [("_law_first" : PySem.Str), ("_law_second" : PySem.Str), ("_law_met" : PySem.Str), ("_law_middle" : PySem.Str)]) fun _ _ _ _ _ _ us hl => match us, hl with | [_, _, _, _], _ => rfl) .nil (fun _ => .nil) (a_cons (e_var 3) (a_cons (e_var 4) (a_cons (e_var 7) (a_cons (e_var 9) a_nil)))))))))))))))))))⟩
theorem ok_70 {P : Program} {w : World} {K : PySem.W.Frag} {mg : Str → Option Value} {base : Heap} (h : Hy K mg base) : ∃ fd, FunD K d70.name d70.qual d70.params d70.body d70.scope (d70.dvs K) [] (d70.wh.ad K) fd ∧ FnB P w (gm K) mg base 16 (d70.wh.ad K) fd [("_law_script" : PySem.Str)] 1 [] B_law := by
  obtain ⟨fd0, F0, ok0⟩ := ok_0 (P := P) (w := w) h
  obtain ⟨fd2, F2, ok2⟩ := ok_2 (P := P) (w := w) h
  obtain ⟨fd1, F1, ok1⟩ := ok_1 (P := P) (w := w) h
  obtain ⟨fd21, F21, ok21⟩ := ok_21 (P := P) (w := w) h
  obtain ⟨fd69, F69, ok69⟩ := ok_69 (P := P) (w := w) h
  have gf0 : GfOk (gm K) P w mg base 2 ("_law_pen" : PySem.Str) 1 B__law_pen _ fd0 [("_law_script" : PySem.Str)] := ⟨He.glo_ok h.X0 h.G0 (h.c.fact 123), F0.kp, ok0, F0.bindsN (ps := [("_law_script" : PySem.Str)]) fun _ _ _ _ _ _ us hl => match us, hl with | [_], _ => rfl, arF_of⟩
  have m_range : mg ("range" : PySem.Str) = none := He.free_ok h.X0 h.G0 (h.c.fact 81)
  have g2 : GlOk (gm K) P w mg base 3 ("_law_pick" : PySem.Str) 2 [0] B__law_pick _ fd2 [("_law_pen_here" : PySem.Str), ("_law_some" : PySem.Str)] := ⟨He.glo_ok h.X0 h.G0 (h.c.fact 124), F2.kp, ok2, ar_of⟩
  have g1 : GlOk (gm K) P w mg base 2 ("_law_draw" : PySem.Str) 2 [0] B__law_draw _ fd1 [("_law_pen_here" : PySem.Str), ("_law_many" : PySem.Str)] := ⟨He.glo_ok h.X0 h.G0 (h.c.fact 3), F1.kp, ok1, ar_of⟩
  have m_int : mg ("int" : PySem.Str) = none := He.free_ok h.X0 h.G0 (h.c.fact 0)
  have g21 : GlOk (gm K) P w mg base 11 ("_law_sums_right" : PySem.Str) 3 [] B__law_sums_right _ fd21 [("_law_k" : PySem.Str), ("_law_other" : PySem.Str), ("_law_beats" : PySem.Str)] := ⟨He.glo_ok h.X0 h.G0 (h.c.fact 125), F21.kp, ok21, ar_of⟩
  have g69 : GlOk (gm K) P w mg base 15 ("_law_book_right" : PySem.Str) 3 [] B__law_book_right _ fd69 [("_law_k" : PySem.Str), ("_law_other" : PySem.Str), ("_law_beats" : PySem.Str)] := ⟨He.glo_ok h.X0 h.G0 (h.c.fact 126), F69.kp, ok69, ar_of⟩
  have hN : N70.Nodup := sc70.nd
  obtain ⟨fd, F⟩ := h.c.def_ 70 (d := d70) rfl
  exact ⟨fd, F, def_ok (G := gm K) (N := N70) (k := 15) (O' := [1]) F sc70 fun cdv A outer s H E hr tk => (s_cons (s_to (O2 := [1]) (s_setF 1 (e_callF tk (hr.mono (by decide)) gf0 (a_cons (e_var 0) a_nil)))) (s_cons (s_for (OL := [1]) [2] (i_rng1 (a_cons e_int a_nil)) (g_to (O2 := [1]) (g_name 2)) (s_cons (s_to (O2 := [1]) (s_set 3 (e_callO 1 tk (hr.mono (by decide)) g2 (F2.bindsN (ps := [("_law_pen_here" : PySem.Str), ("_law_some" : PySem.Str)]) fun _ _ _ _ _ _ us hl => match us, hl with | [_, _], _ => rfl) (a_cons (e_lst (a_cons e_int (a_cons e_int (a_cons e_int a_nil)))) a_nil)))) (s_cons (s_to (O2 := [1]) (s_par2 4 5 (a_cons (e_tup (a_cons (e_bin o_add e_int (e_callO 1 tk (hr.mono (by decide)) g1 (F1.bindsN (ps := [("_law_pen_here" : PySem.Str), ("_law_many" : PySem.Str)]) fun _ _ _ _ _ _ us hl => match us, hl with | [_, _], _ => rfl) (a_cons (e_var 3) a_nil))) (a_cons (e_bin o_add e_int (e_callO 1 tk (hr.mono (by decide)) g1 (F1.bindsN (ps := [("_law_pen_here" : PySem.Str), ("_law_many" : PySem.Str)]) fun _ _ _ _ _ _ us hl => match us, hl with | [_, _], _ => rfl) (a_cons (e_var 3) a_nil))) a_nil))) (a_cons (e_tup (a_cons (e_bin o_add e_int (e_callO 1 tk (hr.mono (by decide)) g1 (F1.bindsN (ps := [("_law_pen_here" : PySem.Str), ("_law_many" : PySem.Str)]) fun _ _ _ _ _ _ us hl => match us, hl with | [_, _], _ => rfl) (a_cons (e_var 3) a_nil))) (a_cons (e_bin o_add e_int (e_callO 1 tk (hr.mono (by decide)) g1 (F1.bindsN (ps := [("_law_pen_here" : PySem.Str), ("_law_many" : PySem.Str)]) fun _ _ _ _ _ _ us hl => match us, hl with | [_, _], _ => rfl) (a_cons (e_var 3) a_nil))) a_nil))) a_nil)))) (s_cons (s_to (O2 := [1]) (s_set 5 (e_if (t_cmp (o_eq hr) (e_callO 1 tk (hr.mono (by decide)) g1 (F1.bindsN (ps := [("_law_pen_here" : PySem.Str), ("_law_many" : PySem.Str)]) fun _ _ _ _ _ _ us hl => match us, hl with | [_, _], _ => rfl) (a_cons e_int a_nil)) e_int) (e_var 4) (e_var 5)))) (s_cons (s_to (O2 := [1]) (s_set 6 (e_tup (a_cons (e_callO 1 tk (hr.mono (by decide)) g1 (F1.bindsN (ps := [("_law_pen_here" : PySem.Str), ("_law_many" : PySem.Str)]) fun _ _ _ _ _ _ us hl => match us, hl with | [_, _], _ => rfl) (a_cons (e_ix (e_tup (a_cons e_int (a_cons e_int a_nil))) (e_toInt (a_cons (e_cmp o_gt (e_var 3) e_int) a_nil))) a_nil)) (a_cons (e_bin o_add e_int (e_callO 1 tk (hr.mono (by decide)) g1 (F1.bindsN (ps := [("_law_pen_here" : PySem.Str), ("_law_many" : PySem.Str)]) fun _ _ _ _ _ _ us hl => match us, hl with | [_, _], _ => rfl) (a_cons (e_ix (e_tup (a_cons e_int (a_cons e_int a_nil))) (e_toInt (a_cons (e_cmp o_gt (e_var 3) e_int) a_nil))) a_nil))) a_nil))))) (s_cons (s_if (t_not (t_val (e_call tk (hr.mono (by decide)) g21 (F21.bindsN (ps := [("_law_k" : PySem.Str), ("_law_other" : PySem.Str), ("_law_beats" : PySem.Str)]) fun _ _ _ _ _ _ us hl => match us, hl with | [_, _, _], _ => rfl) .nil (fun _ => .nil) (a_cons (e_var 4) (a_cons (e_var 5) (a_cons (e_var 6) a_nil)))))) (s_one (s_ret e_bl)) s_nil) (s_cons (s_to (O2 := [1]) (s_set 7 (e_and (e_cmp (o_eq hr) (e_var 3) e_int) (e_and (e_cmp o_gt (e_ix (e_var 6) e_int) e_int) (e_bo1 (e_cmp (o_ne hr) (e_bin o_mul (e_ix (e_var 4) e_int) (e_ix (e_var 5) e_int)) (e_bin o_mul (e_ix (e_var 5) e_int) (e_ix (e_var 4) e_int)))))))) (s_one (s_if (t_bo (w_and (t_val (e_var 7)) (w_and1 (t_not (t_val (e_call tk (hr.mono (by decide)) g69 (F69.bindsN (ps := [("_law_k" : PySem.Str), ("_law_other" : PySem.Str), ("_law_beats" : PySem.Str)]) fun _ _ _ _ _ _ us hl => match us, hl with | [_, _, _], _ => rfl) .nil (fun _ => .nil) (a_cons (e_var 4) (a_cons (e_var 5) (a_cons (e_var 6) a_nil))))))))) (s_one (s_ret e_bl)) s_nil)))))))) (passes_of rfl)) (s_one (s_ret e_bl))))⟩
end Kw

namespace Kw
open PySem PySem.Spec PyProof.Rows L2 Z
theorem fn_one {K : PySem.W.Frag} {x x' q q' : Str} {ps ps' : Arguments} {b b' : List Stmt} {sc sc' : Scope} {dv dv' : List V} {kw kw' : List (Str × V)} {f : Addr} {fd fd' : FuncData} (h : FunD K x q ps b sc dv kw f fd) (h' : FunD K x' q' ps' b' sc' dv' kw' f fd') : fd = fd' := by
  obtain ⟨_, _, _, _, _, _, _, _, _, _, _, e, _⟩ := h.ex
  obtain ⟨_, _, _, _, _, _, _, _, _, _, _, e', _⟩ := h'.ex
  rw [e] at e'
  cases e'
  rfl
theorem facts {P : Program} {w : World} {K : PySem.W.Frag} {h : Heap} {mg : Str → Option Value} {f : Addr} (X : K.In h) (G : h.Ns mainGlobals mg) (hfa : mg ("law" : PySem.Str) = some (.ref f)) (c : SaysZ fz fn K) :
    ∃ fd : FuncData, (∀ (s : Shared) (v : Value), BindsTo s fd ⟨[v], []⟩ [(("_law_script" : PySem.Str), v)]) ∧ ∀ base : Heap, K.In base → base.Ns mainGlobals mg → FnOk P w K mg base (L2.CX P w) 16 f fd [("_law_script" : PySem.Str)] (spB (gm K) 1 [] B_law) := by
  obtain ⟨fd, F⟩ := c.def_ 70 (d := d70) rfl
  have e := hfa.symm.trans (He.glo_ok X G (c.fact 139 (f := fGlo "law") rfl))
  cases e
  have b := FunD.bindsA (ps := [("_law_script" : PySem.Str)]) F fun _ _ _ _ _ _ us hl => match us, hl with | [_], _ => rfl
  refine ⟨fd, fun s v => b s [v] rfl, fun base kb gb => ?_⟩
  obtain ⟨fd2, F2, ok⟩ := ok_70 (P := P) (w := w) ⟨c, kb, gb⟩
  rw [fn_one F F2]
  exact ok
end Kw

set_option exponentiation.threshold 100
namespace Kw
open PySem PySem.Spec PyProof.Rows L2 Z
/-- a Ratio as a tree -/
def rl (q : Rat) : List D := [.int q.num, .int q.den]
abbrev rt (q : Rat) : D := .ob 0 (rl q)
@[simp] theorem rl_0 (q : Rat) : (rl q)[0]? = some (.int q.num) := rfl
@[simp] theorem rl_1 (q : Rat) : (rl q)[1]? = some (.int q.den) := rfl
/-- less than k bits above and below -/
def Bd (k : Nat) (q : Rat) : Prop := q.num.natAbs < 2 ^ k ∧ q.den < 2 ^ k
theorem Bd.mono {k m : Nat} {q : Rat} (h : Bd k q) (hk : k ≤ m) : Bd m q := ⟨Nat.lt_of_lt_of_le h.1 (Nat.pow_le_pow_right (by omega) hk), Nat.lt_of_lt_of_le h.2 (Nat.pow_le_pow_right (by omega) hk)⟩
theorem B_int (i : Int) : B_is_integer [.int i] = .ok (.bl true) [none] := by
  simp [B_is_integer, mkB, b_is_integer, kT, tyN]
theorem fdiv_nat (a : Int) (g : Nat) : a.fdiv (g : Int) = a / (g : Int) := Int.fdiv_eq_ediv_of_nonneg a (Int.natCast_nonneg g)
theorem B_ratio {n d : Int} (hp : 0 < d) (hb : d.natAbs < 2 ^ 7000) : B_Ratio___init__ [.ob 0 [], .int n, .int d] = .ok .non [some (rt (Rat.divInt n d)), none, none] := by
  have hd : d ≠ 0 := by omega
  have hgd : Int.gcd n d ∣ d.natAbs := by
    rw [Int.gcd]
    exact Nat.gcd_dvd_right _ _
  have hg0 : Int.gcd n d ≠ 0 := fun z => by
    rw [z] at hgd
    have := Nat.eq_zero_of_zero_dvd hgd
    omega
  have hlt : Int.gcd n d < 2 ^ 7000 := Nat.lt_of_le_of_lt (Nat.le_of_dvd (by omega) hgd) hb
  have hw : wd 8000 ((Int.gcd n d : Nat) : Int) = true := wd_of (k := 7000) (by simpa using hlt) (by omega) (by omega)
  have h0 : ((Int.gcd n d : Nat) : Int) ≠ 0 := by omega
  have e1 : (Rat.divInt n d).num = n / (Int.gcd n d : Nat) := by
    rw [Rat.num_divInt, Int.sign_eq_one_of_pos hp, Int.one_mul, Int.gcd_comm]
  have e2 : ((Rat.divInt n d).den : Int) = d / (Int.gcd n d : Nat) := by
    rw [Rat.den_divInt, if_neg hd, Int.gcd_comm, Int.natCast_ediv]
    congr 1
    omega
  simp [B_Ratio___init__, mkB, b_Ratio___init__, B_int, hp, hd, pDiv_int hw h0, fdiv_nat, rl, e1, e2]
theorem divInt_self (q : Rat) : Rat.divInt q.num q.den = q := Rat.num_divInt_den q
@[simp] theorem from_rt (q : Rat) (x : D) : B_ratio_from [rt q, x] = .ok (rt q) [none, none] := by
  simp [B_ratio_from, mkB, b_ratio_from, kO]
theorem from_int (i : Int) (x : D) : B_ratio_from [.int i, x] = .ok (rt i) [none, none] := by
  have e : Rat.divInt i 1 = (i : Rat) := Rat.num_divInt_den (i : Rat)
  have z := B_ratio (n := i) (d := 1) (by omega) (by decide)
  rw [e] at z
  simp [B_ratio_from, mkB, b_ratio_from, kO, tyN, B_int, z]
theorem den_pos (q : Rat) : (0 : Int) < q.den := by have := q.den_pos; omega
theorem Bd.mul1 {k : Nat} {a b : Int} (ha : a.natAbs < 2 ^ k) (hb : b.natAbs < 2 ^ k) (h0 : 0 < k) (hk : k ≤ 400000) : mulB a b = true := mulB_both ha hb h0 h0 hk hk
theorem num_le {n d : Int} (hd : 0 < d) : (Rat.divInt n d).num.natAbs ≤ n.natAbs ∧ (Rat.divInt n d).den ≤ d.natAbs := by
  have hd0 : d ≠ 0 := by omega
  constructor
  · rw [Rat.num_divInt, Int.sign_eq_one_of_pos hd, Int.one_mul, Int.natAbs_ediv_of_dvd (Int.gcd_dvd_right ..)]
    exact Nat.div_le_self _ _
  · rw [Rat.den_divInt, if_neg hd0]
    exact Nat.div_le_self _ _
theorem Bd.of {n d : Int} {k : Nat} (hd : 0 < d) (hn : n.natAbs < 2 ^ k) (hb : d.natAbs < 2 ^ k) : Bd k (Rat.divInt n d) :=
  ⟨Nat.lt_of_le_of_lt (num_le hd).1 hn, Nat.lt_of_le_of_lt (num_le hd).2 hb⟩
theorem abs_mul_lt {a b : Int} {j k : Nat} (ha : a.natAbs < 2 ^ j) (hb : b.natAbs < 2 ^ k) : (a * b).natAbs < 2 ^ (j + k) := by
  rw [Int.natAbs_mul, Nat.pow_add]
  exact Nat.mul_lt_mul'' ha hb
theorem abs_add_lt {a b : Int} {k : Nat} (ha : a.natAbs < 2 ^ k) (hb : b.natAbs < 2 ^ k) : (a + b).natAbs < 2 ^ (k + 1) := by
  have := Int.natAbs_add_le a b
  rw [Nat.pow_succ]
  omega
theorem add_eq (p q : Rat) : p + q = Rat.divInt (p.num * q.den + q.num * p.den) (p.den * q.den) := by
  have h := Rat.divInt_add_divInt p.num q.num (d₁ := p.den) (d₂ := q.den) (by have := den_pos p; omega) (by have := den_pos q; omega)
  rwa [divInt_self, divInt_self] at h
theorem mul_eq (p q : Rat) : p * q = Rat.divInt (p.num * q.num) (p.den * q.den) := by
  have h := Rat.divInt_mul_divInt p.num q.num (d₁ := p.den) (d₂ := q.den)
  rwa [divInt_self, divInt_self] at h
theorem Bd.add {k : Nat} {p q : Rat} (hp : Bd k p) (hq : Bd k q) : Bd (2 * k + 1) (p + q) := by
  rw [add_eq]
  refine Bd.of (Int.mul_pos (den_pos p) (den_pos q)) ?_ ?_
  · have := abs_add_lt (abs_mul_lt hp.1 (show (q.den : Int).natAbs < 2 ^ k by simpa using hq.2)) (abs_mul_lt hq.1 (show (p.den : Int).natAbs < 2 ^ k by simpa using hp.2))
    rwa [show k + k + 1 = 2 * k + 1 by omega] at this
  · have := abs_mul_lt (show (p.den : Int).natAbs < 2 ^ k by simpa using hp.2) (show (q.den : Int).natAbs < 2 ^ k by simpa using hq.2)
    exact Nat.lt_of_lt_of_le this (Nat.pow_le_pow_right (by omega) (by omega))
theorem Bd.mul {k : Nat} {p q : Rat} (hp : Bd k p) (hq : Bd k q) : Bd (2 * k + 1) (p * q) := by
  rw [mul_eq]
  refine Bd.of (Int.mul_pos (den_pos p) (den_pos q)) ?_ ?_
  · exact Nat.lt_of_lt_of_le (abs_mul_lt hp.1 hq.1) (Nat.pow_le_pow_right (by omega) (by omega))
  · have := abs_mul_lt (show (p.den : Int).natAbs < 2 ^ k by simpa using hp.2) (show (q.den : Int).natAbs < 2 ^ k by simpa using hq.2)
    exact Nat.lt_of_lt_of_le this (Nat.pow_le_pow_right (by omega) (by omega))
theorem Bd.neg {k : Nat} {p : Rat} (hp : Bd k p) : Bd k (-p) := ⟨by rw [Rat.neg_num, Int.natAbs_neg]; exact hp.1, by rw [Rat.neg_den]; exact hp.2⟩
theorem Bd.sub {k : Nat} {p q : Rat} (hp : Bd k p) (hq : Bd k q) : Bd (2 * k + 1) (p - q) := by
  rw [Rat.sub_eq_add_neg]
  exact hp.add hq.neg
theorem add_ok {k : Nat} {p q : Rat} (hp : Bd k p) (hq : Bd k q) (h0 : 0 < k) (hk : k ≤ 3490) : B_Ratio___add__ [rt p, rt q] = .ok (rt (p + q)) [none, none] := by
  have hpd : (p.den : Int).natAbs < 2 ^ k := by simpa using hp.2
  have hqd : (q.den : Int).natAbs < 2 ^ k := by simpa using hq.2
  have z := B_ratio (n := p.num * q.den + q.num * p.den) (d := p.den * q.den) (Int.mul_pos (den_pos p) (den_pos q)) (Nat.lt_of_lt_of_le (abs_mul_lt hpd hqd) (Nat.pow_le_pow_right (by omega) (by omega)))
  rw [← add_eq] at z
  have m1 := pMul_int (mulB_both hp.1 hqd h0 h0 (by omega) (by omega))
  have m2 := pMul_int (mulB_both hq.1 hpd h0 h0 (by omega) (by omega))
  have m3 := pMul_int (mulB_both hpd hqd h0 h0 (by omega) (by omega))
  have f := from_rt q (.str "other")
  simp [B_Ratio___add__, mkB, b_Ratio___add__, f, m1, m2, m3, z]
theorem mul_ok {k : Nat} {p q : Rat} (hp : Bd k p) (hq : Bd k q) (h0 : 0 < k) (hk : k ≤ 3490) : B_Ratio___mul__ [rt p, rt q] = .ok (rt (p * q)) [none, none] := by
  have hpd : (p.den : Int).natAbs < 2 ^ k := by simpa using hp.2
  have hqd : (q.den : Int).natAbs < 2 ^ k := by simpa using hq.2
  have z := B_ratio (n := p.num * q.num) (d := p.den * q.den) (Int.mul_pos (den_pos p) (den_pos q)) (Nat.lt_of_lt_of_le (abs_mul_lt hpd hqd) (Nat.pow_le_pow_right (by omega) (by omega)))
  rw [← mul_eq] at z
  have m1 := pMul_int (mulB_both hp.1 hq.1 h0 h0 (by omega) (by omega))
  have m3 := pMul_int (mulB_both hpd hqd h0 h0 (by omega) (by omega))
  have f := from_rt q (.str "other")
  simp [B_Ratio___mul__, mkB, b_Ratio___mul__, f, m1, m3, z]
theorem neg_ok {k : Nat} {p : Rat} (hp : Bd k p) (hk : k ≤ 7000) : B_Ratio___neg__ [rt p] = .ok (rt (-p)) [none] := by
  have hpd : (p.den : Int).natAbs < 2 ^ k := by simpa using hp.2
  have z := B_ratio (n := -p.num) (d := p.den) (den_pos p) (Nat.lt_of_lt_of_le hpd (Nat.pow_le_pow_right (by omega) (by omega)))
  have e : Rat.divInt (-p.num) p.den = -p := divInt_self (-p)
  rw [e] at z
  simp [B_Ratio___neg__, mkB, b_Ratio___neg__, z]
theorem sub_ok {k : Nat} {p q : Rat} (hp : Bd k p) (hq : Bd k q) (h0 : 0 < k) (hk : k ≤ 3490) : B_Ratio___sub__ [rt p, rt q] = .ok (rt (p - q)) [none, none] := by
  have f := from_rt q (.str "other")
  have n := neg_ok hq (by omega)
  have a := add_ok hp hq.neg h0 hk
  rw [Rat.sub_eq_add_neg]
  simp [B_Ratio___sub__, mkB, b_Ratio___sub__, f, n, oW, oC1, rk, a]
theorem sign_ok (p : Rat) : B_Ratio_sign [rt p] = .ok (.int p.num.sign) [none] := by
  have e : (if 0 < p.num then (1 : Int) else 0) - (if p.num < 0 then 1 else 0) = p.num.sign := by
    rcases Int.lt_trichotomy p.num 0 with h | h | h
    · rw [if_neg (by omega), if_pos h, Int.sign_eq_neg_one_of_neg h]; rfl
    · rw [h]; rfl
    · rw [if_pos h, if_neg (by omega), Int.sign_eq_one_of_pos h]; rfl
  simp [B_Ratio_sign, mkB, b_Ratio_sign, e]
theorem eq_ok (p q : Rat) : B_Ratio___eq__ [rt p, rt q] = .ok (.bl (decide (p = q))) [none, none] := by
  by_cases h : p.num = q.num
  · by_cases h2 : p.den = q.den
    · have e : p = q := Rat.ext h h2
      subst e
      simp [B_Ratio___eq__, mkB, b_Ratio___eq__, kO]
    · have e : p ≠ q := fun z => h2 (by rw [z])
      have h3 : ¬ (p.den : Int) = q.den := by omega
      simp [B_Ratio___eq__, mkB, b_Ratio___eq__, kO, h, h3, e]
  · have e : p ≠ q := fun z => h (by rw [z])
    simp [B_Ratio___eq__, mkB, b_Ratio___eq__, kO, h, e]
theorem eq_int (p : Rat) (i : Int) : B_Ratio___eq__ [rt p, .int i] = .ok (.bl (decide (p = i))) [none, none] := by
  by_cases h2 : p.den = 1
  · by_cases h : p.num = i
    · have e : p = (i : Rat) := Rat.ext h h2
      simp [B_Ratio___eq__, mkB, b_Ratio___eq__, kO, tyN, B_int, h, h2, e]
    · have e : p ≠ (i : Rat) := fun z => h (by rw [z]; rfl)
      simp [B_Ratio___eq__, mkB, b_Ratio___eq__, kO, tyN, B_int, h, h2, e]
  · have e : p ≠ (i : Rat) := fun z => h2 (by rw [z]; rfl)
    have h3 : (p.den : Int) ≠ 1 := by omega
    simp [B_Ratio___eq__, mkB, b_Ratio___eq__, kO, tyN, B_int, h2, h3, e]
theorem below_ok {k : Nat} {p q : Rat} (hp : Bd k p) (hq : Bd k q) (h0 : 0 < k) (hk : k ≤ 3490) : B_Ratio_is_below [rt p, rt q] = .ok (.bl (decide (p < q))) [none, none] := by
  have f := from_rt q (.str "other")
  have a := sub_ok hp hq h0 hk
  have s := sign_ok (p - q)
  have e : (p - q).num.sign < 0 ↔ p < q := by
    have h1 : (p - q).num.sign < 0 ↔ (p - q).num < 0 := ⟨fun z => Int.sign_eq_neg_one_iff_neg.mp (by have := Int.sign_trichotomy (p - q).num; omega), fun z => by rw [Int.sign_eq_neg_one_of_neg z]; omega⟩
    rw [h1, ← Int.not_le, Rat.num_nonneg, Rat.not_le]
    constructor
    · intro z
      grind
    · intro z
      grind
  simp [B_Ratio_is_below, mkB, b_Ratio_is_below, f, oW, rk, a, s, e]
@[simp] theorem is_ratio_rt (q : Rat) : B_is_ratio [rt q] = .ok (.bl true) [none] := by
  simp [B_is_ratio, mkB, b_is_ratio, kO]
@[simp] theorem is_ratio_int (i : Int) : B_is_ratio [.int i] = .ok (.bl true) [none] := by
  simp [B_is_ratio, mkB, b_is_ratio, kO, tyN, B_int]
end Kw

namespace Kw
open PySem PySem.Spec PyProof.Rows L2 Z
def AllB (k : Nat) (xs : List Rat) : Prop := ∀ x ∈ xs, Bd k x
@[simp] theorem listed_lst (l : List D) : B_is_listed [.lst l] = .ok (.bl true) [none] := by
  simp [B_is_listed, mkB, b_is_listed, kAny, kT, tyN]
theorem three {xs : List Rat} (h : xs.length ≤ 3) (h1 : 1 ≤ xs.length) : (∃ a, xs = [a]) ∨ (∃ a b, xs = [a, b]) ∨ ∃ a b c, xs = [a, b, c] := by
  match xs, h, h1 with
  | [a], _, _ => exact .inl ⟨a, rfl⟩
  | [a, b], _, _ => exact .inr (.inl ⟨a, b, rfl⟩)
  | [a, b, c], _, _ => exact .inr (.inr ⟨a, b, c, rfl⟩)
theorem are_ok {xs : List Rat} (h : xs.length ≤ 3) (h1 : 1 ≤ xs.length) : B_are_ratios [.lst (xs.map rt)] = .ok (.bl true) [none] := by
  rcases three h h1 with ⟨a, rfl⟩ | ⟨a, b, rfl⟩ | ⟨a, b, c, rfl⟩ <;>
  simp [B_are_ratios, mkB, b_are_ratios, itemsOf, big, lcGo, lcOut, wipeE, backE, pAll, lisOf, toBls]
theorem new0 : B_Ratio___init__ [.ob 0 [], .int 0, .int 1] = .ok .non [some (rt 0), none, none] := by
  have z := B_ratio (n := 0) (d := 1) (by omega) (by decide)
  rwa [Rat.zero_divInt] at z
theorem Bd.zero {k : Nat} (h : 0 < k) : Bd k 0 := by
  have : 1 < 2 ^ k := Nat.one_lt_two_pow (by omega)
  exact ⟨by show (0 : Int).natAbs < _; simp; omega, this⟩
theorem summed_ok {xs : List Rat} {k : Nat} (h : xs.length ≤ 3) (h1 : 1 ≤ xs.length) (hb : AllB k xs) (h0 : 0 < k) (hk : k ≤ 700) : B_summed [.lst (xs.map rt)] = .ok (rt (xs.foldl (· + ·) 0)) [none] := by
  have ar := are_ok h h1
  rcases three h h1 with ⟨a, rfl⟩ | ⟨a, b, rfl⟩ | ⟨a, b, c, rfl⟩
  · have e1 := add_ok (Bd.zero h0) (hb a (by simp)) h0 (by omega)
    simp at ar e1
    simp [B_summed, mkB, b_summed, itemsOf, ar, new0, forGo, oW, rk, e1]
  · have b1 := (Bd.zero h0).add (hb a (by simp))
    have e1 := add_ok (Bd.zero h0) (hb a (by simp)) h0 (by omega)
    have e2 := add_ok b1 ((hb b (by simp)).mono (by omega : k ≤ 2 * k + 1)) (by omega) (by omega)
    simp at ar e1 e2
    simp [B_summed, mkB, b_summed, itemsOf, ar, new0, forGo, oW, rk, e1, e2]
  · have b1 := (Bd.zero h0).add (hb a (by simp))
    have b2 := b1.add ((hb b (by simp)).mono (by omega : k ≤ 2 * k + 1))
    have e1 := add_ok (Bd.zero h0) (hb a (by simp)) h0 (by omega)
    have e2 := add_ok b1 ((hb b (by simp)).mono (by omega : k ≤ 2 * k + 1)) (by omega) (by omega)
    have e3 := add_ok b2 ((hb c (by simp)).mono (by omega : k ≤ 2 * (2 * k + 1) + 1)) (by omega) (by omega)
    simp at ar e1 e2 e3
    simp [B_summed, mkB, b_summed, itemsOf, ar, new0, forGo, oW, rk, e1, e2, e3]
end Kw

namespace Kw
open PySem PySem.Spec PyProof.Rows L2 Z
def dot (t : Rat) (xs : List Rat) (u : Rat) (ys : List Rat) : Rat := t * u - (List.zipWith (· * ·) xs ys).foldl (· + ·) 0
theorem AllB.cons {k : Nat} {x : Rat} {xs : List Rat} (h : Bd k x) (t : AllB k xs) : AllB k (x :: xs) := fun y m => by
  rcases List.mem_cons.mp m with e | m
  · rw [e]; exact h
  · exact t y m
theorem AllB.nil {k : Nat} : AllB k [] := fun _ m => nomatch m
theorem sum_bd {k : Nat} {xs : List Rat} (h : xs.length ≤ 3) (h0 : 0 < k) (hb : AllB k xs) : Bd (8 * k + 7) (xs.foldl (· + ·) 0) := by
  match xs, h, hb with
  | [], _, _ => exact Bd.zero (by omega)
  | [a], _, hb => exact ((Bd.zero h0).add (hb a (by simp))).mono (by omega)
  | [a, b], _, hb => exact (((Bd.zero h0).add (hb a (by simp))).add ((hb b (by simp)).mono (by omega : k ≤ 2 * k + 1))).mono (by omega)
  | [a, b, c], _, hb => exact ((((Bd.zero h0).add (hb a (by simp))).add ((hb b (by simp)).mono (by omega : k ≤ 2 * k + 1))).add ((hb c (by simp)).mono (by omega : k ≤ 2 * (2 * k + 1) + 1))).mono (by omega)
theorem zip_bd {k : Nat} : ∀ {xs ys : List Rat}, AllB k xs → AllB k ys → AllB (2 * k + 1) (List.zipWith (· * ·) xs ys)
  | [], _, _, _ => by simp [AllB]
  | _ :: _, [], _, _ => by simp [AllB]
  | x :: xs, y :: ys, hx, hy => .cons ((hx x (by simp)).mul (hy y (by simp))) (zip_bd (fun z m => hx z (List.mem_cons_of_mem _ m)) fun z m => hy z (List.mem_cons_of_mem _ m))
theorem dot_bd {k : Nat} {t u : Rat} {xs ys : List Rat} (h : xs.length ≤ 3) (ht : Bd k t) (hu : Bd k u) (hx : AllB k xs) (hy : AllB k ys) : Bd (32 * k + 31) (dot t xs u ys) := by
  have s := sum_bd (xs := List.zipWith (· * ·) xs ys) (by simp; omega) (by omega) (zip_bd hx hy)
  exact (((ht.mul hu).mono (by omega : 2 * k + 1 ≤ 16 * k + 15)).sub (s.mono (by omega))).mono (by omega)
theorem product_ok {k : Nat} {t u : Rat} {xs ys : List Rat} {l m : List D} (h : xs.length ≤ 3) (h1 : 1 ≤ xs.length) (e : ys.length = xs.length) (ht : Bd k t) (hu : Bd k u) (hx : AllB k xs) (hy : AllB k ys) (h0 : 0 < k) (hk : k ≤ 80) :
    B_product_at [.ob 2 (rt t :: .tup (xs.map rt) :: l), .ob 2 (rt u :: .tup (ys.map rt) :: m)] = .ok (rt (dot t xs u ys)) [none, none] := by
  have sm := summed_ok (xs := List.zipWith (· * ·) xs ys) (k := 2 * k + 1) (by simp; omega) (by simp; omega) (zip_bd hx hy) (by omega) (by omega)
  have sb := sum_bd (xs := List.zipWith (· * ·) xs ys) (by simp; omega) (by omega) (zip_bd hx hy)
  have m0 := mul_ok ht hu h0 (by omega)
  have d0 := sub_ok ((ht.mul hu).mono (by omega : 2 * k + 1 ≤ 16 * k + 15)) (sb.mono (by omega : 8 * (2 * k + 1) + 7 ≤ 16 * k + 15)) (by omega) (by omega)
  rcases three h h1 with ⟨a, rfl⟩ | ⟨a, b, rfl⟩ | ⟨a, b, c, rfl⟩
  · match ys, e, hy with
    | [a'], _, hy =>
      have m1 := mul_ok (hx a (by simp)) (hy a' (by simp)) h0 (by omega)
      simp at sm
      simp [B_product_at, mkB, b_product_at, oW, rk, m0, m1, pZip, itemsOf, isTupD, zipD, big, lcGo, lcOut, wipeE, backE, gTs, sm]
      simp at d0
      simp [d0, dot]
  · match ys, e, hy with
    | [a', b'], _, hy =>
      have m1 := mul_ok (hx a (by simp)) (hy a' (by simp)) h0 (by omega)
      have m2 := mul_ok (hx b (by simp)) (hy b' (by simp)) h0 (by omega)
      simp at sm
      simp [B_product_at, mkB, b_product_at, oW, rk, m0, m1, m2, pZip, itemsOf, isTupD, zipD, big, lcGo, lcOut, wipeE, backE, gTs, sm]
      simp at d0
      simp [d0, dot]
  · match ys, e, hy with
    | [a', b', c'], _, hy =>
      have m1 := mul_ok (hx a (by simp)) (hy a' (by simp)) h0 (by omega)
      have m2 := mul_ok (hx b (by simp)) (hy b' (by simp)) h0 (by omega)
      have m3 := mul_ok (hx c (by simp)) (hy c' (by simp)) h0 (by omega)
      simp at sm
      simp [B_product_at, mkB, b_product_at, oW, rk, m0, m1, m2, m3, pZip, itemsOf, isTupD, zipD, big, lcGo, lcOut, wipeE, backE, gTs, sm]
      simp at d0
      simp [d0, dot]
def knd (t s : Rat) : Str := if s < 0 then "apart" else if t = 0 then "nothing" else if 0 < t then "forward" else "backward"
theorem sg_neg (p : Rat) : p.num.sign < 0 ↔ p < 0 := by
  rw [← Rat.not_le, ← Rat.num_nonneg, Int.not_le]
  exact ⟨fun z => Int.sign_eq_neg_one_iff_neg.mp (by have := Int.sign_trichotomy p.num; omega), fun z => by rw [Int.sign_eq_neg_one_of_neg z]; omega⟩
theorem sg_zero (p : Rat) : p.num.sign = 0 ↔ p = 0 := by
  rw [Int.sign_eq_zero_iff_zero]
  exact Rat.num_eq_zero
theorem sg_pos (p : Rat) : 0 < p.num.sign ↔ 0 < p := by
  have h1 := sg_neg p
  have h2 := sg_zero p
  constructor
  · intro z
    have a : ¬ p < 0 := fun q => by have := h1.mpr q; omega
    have b : ¬ p = 0 := fun q => by have := h2.mpr q; omega
    grind
  · intro z
    have a : ¬ p.num.sign < 0 := fun q => by have := h1.mp q; grind
    have b : ¬ p.num.sign = 0 := fun q => by have := h2.mp q; grind
    omega
theorem nm_neg (p : Rat) : p.num < 0 ↔ p < 0 := by
  rw [← Int.not_le, Rat.num_nonneg, Rat.not_le]
theorem nm_pos (p : Rat) : 0 < p.num ↔ 0 < p := by
  have h := Rat.num_nonneg (q := p)
  have h2 := nm_neg p
  have h3 : p.num = 0 ↔ p = 0 := Rat.num_eq_zero
  constructor
  · intro z
    have : ¬ p = 0 := fun q => by have := h3.mpr q; omega
    have : 0 ≤ p := h.mp (by omega)
    grind
  · intro z
    have : ¬ p.num = 0 := fun q => by have := h3.mp q; grind
    have : 0 ≤ p.num := h.mpr (by grind)
    omega
theorem kind_ok (t s : Rat) : B_kind_by [rt t, rt s] = .ok (.str (knd t s)) [none, none] := by
  unfold knd
  by_cases h1 : s < 0
  · simp [B_kind_by, mkB, b_kind_by, sign_ok, nm_neg, h1]
  · by_cases h2 : t = 0
    · simp [B_kind_by, mkB, b_kind_by, sign_ok, nm_neg, h1, h2]
    · by_cases h3 : 0 < t
      · simp [B_kind_by, mkB, b_kind_by, sign_ok, nm_neg, nm_pos, h1, h2, h3]
      · simp [B_kind_by, mkB, b_kind_by, sign_ok, nm_neg, nm_pos, h1, h2, h3]
/-- a Step as a tree -/
def sl (t : Rat) (xs : List Rat) : List D := [rt t, .tup (xs.map rt), .int (xs.length : Nat), rt (dot t xs t xs), .str (knd t (dot t xs t xs))]
abbrev stp (t : Rat) (xs : List Rat) : D := .ob 2 (sl t xs)
@[simp] theorem sl_0 (t : Rat) (xs : List Rat) : (sl t xs)[0]? = some (rt t) := rfl
@[simp] theorem sl_1 (t : Rat) (xs : List Rat) : (sl t xs)[1]? = some (.tup (xs.map rt)) := rfl
@[simp] theorem sl_2 (t : Rat) (xs : List Rat) : (sl t xs)[2]? = some (.int (xs.length : Nat)) := rfl
@[simp] theorem sl_3 (t : Rat) (xs : List Rat) : (sl t xs)[3]? = some (rt (dot t xs t xs)) := rfl
@[simp] theorem sl_4 (t : Rat) (xs : List Rat) : (sl t xs)[4]? = some (.str (knd t (dot t xs t xs))) := rfl
@[simp] theorem of_rt (q : Rat) : B_Ratio_of [rt q] = .ok (rt q) [none] := by
  simp [B_Ratio_of, mkB, b_Ratio_of]
theorem step_ok {k : Nat} {t : Rat} {xs : List Rat} (h : xs.length ≤ 3) (h1 : 1 ≤ xs.length) (ht : Bd k t) (hx : AllB k xs) (h0 : 0 < k) (hk : k ≤ 80) : B_Step___init__ [.ob 2 [], rt t, .lst (xs.map rt)] = .ok .non [some (stp t xs), none, none] := by
  have ar := are_ok h h1
  have pr := product_ok (l := [.int (xs.length : Nat)]) (m := [.int (xs.length : Nat)]) h h1 rfl ht ht hx hx h0 hk
  have kd := kind_ok t (dot t xs t xs)
  rcases three h h1 with ⟨a, rfl⟩ | ⟨a, b, rfl⟩ | ⟨a, b, c, rfl⟩ <;>
  (simp only [List.map_cons, List.map_nil, List.length_cons, List.length_nil] at ar pr
   generalize hd : dot t _ t _ = dd at pr kd
   simp at ar pr
   simp [B_Step___init__, mkB, b_Step___init__, ar, onBl, pLen, itemsOf, big, lcGo, lcOut, wipeE, backE, pTuple, pr, kd, sl, hd])
end Kw

namespace Kw
open PySem PySem.Spec PyProof.Rows L2 Z
@[simp] theorem look_0 {α : Type} (a : α) (l : List (Nat × α)) : List.lookup (0 : Nat) ((0, a) :: l) = some a := rfl
@[simp] theorem look_1 {α : Type} (a b : α) (l : List (Nat × α)) : List.lookup (1 : Nat) ((0, a) :: (1, b) :: l) = some b := rfl
@[simp] theorem look_2 {α : Type} (a b c : α) (l : List (Nat × α)) : List.lookup (2 : Nat) ((0, a) :: (1, b) :: (2, c) :: l) = some c := rfl
@[simp] theorem look_2' {α : Type} (c : α) (l : List (Nat × α)) : List.lookup (2 : Nat) ((2, c) :: l) = some c := rfl
@[simp] theorem look_1' {α : Type} (c : α) (l : List (Nat × α)) : List.lookup (1 : Nat) ((1, c) :: l) = some c := rfl
@[simp] theorem look_3 {α : Type} (a b c d : α) (l : List (Nat × α)) : List.lookup (3 : Nat) ((0, a) :: (1, b) :: (2, c) :: (3, d) :: l) = some d := rfl
@[simp] theorem look_4 {α : Type} (a b c d e : α) (l : List (Nat × α)) : List.lookup (4 : Nat) ((0, a) :: (1, b) :: (2, c) :: (3, d) :: (4, e) :: l) = some e := rfl
@[simp] theorem look_5 {α : Type} (a b c d e f : α) (l : List (Nat × α)) : List.lookup (5 : Nat) ((0, a) :: (1, b) :: (2, c) :: (3, d) :: (4, e) :: (5, f) :: l) = some f := rfl
@[simp] theorem look_3' {α : Type} (c : α) (l : List (Nat × α)) : List.lookup (3 : Nat) ((3, c) :: l) = some c := rfl
@[simp] theorem look_4' {α : Type} (c : α) (l : List (Nat × α)) : List.lookup (4 : Nat) ((4, c) :: l) = some c := rfl
@[simp] theorem look_5' {α : Type} (c : α) (l : List (Nat × α)) : List.lookup (5 : Nat) ((5, c) :: l) = some c := rfl
@[simp] theorem look_45 {α : Type} (a c : α) (l : List (Nat × α)) : List.lookup (5 : Nat) ((4, a) :: (5, c) :: l) = some c := rfl
@[simp] theorem look_24 {α : Type} (a c : α) (l : List (Nat × α)) : List.lookup (4 : Nat) ((2, a) :: (4, c) :: l) = some c := rfl
@[simp] theorem look_13 {α : Type} (a c : α) (l : List (Nat × α)) : List.lookup (3 : Nat) ((1, a) :: (3, c) :: l) = some c := rfl
@[simp] theorem look_23 {α : Type} (a c : α) (l : List (Nat × α)) : List.lookup (3 : Nat) ((2, a) :: (3, c) :: l) = some c := rfl
@[simp] theorem look_234 {α : Type} (a b c : α) (l : List (Nat × α)) : List.lookup (4 : Nat) ((2, a) :: (3, b) :: (4, c) :: l) = some c := rfl
@[simp] theorem ix_lst0 (x : D) (l : List D) : pIx (.lst (x :: l)) (.int 0) = some x := by
  simp [pIx, atI, ixN]
@[simp] theorem ix_tup (l : List D) (i : Nat) : pIx (.tup l) (.int (i : Nat)) = l[i]? := by
  unfold pIx atI ixN
  by_cases h : i < l.length
  · simp [h]
  · simp [h, List.getElem?_eq_none (Nat.le_of_not_lt h)]
@[simp] theorem ix_lst (l : List D) (i : Nat) : pIx (.lst l) (.int (i : Nat)) = l[i]? := by
  unfold pIx atI ixN
  by_cases h : i < l.length
  · simp [h]
  · simp [h, List.getElem?_eq_none (Nat.le_of_not_lt h)]
@[simp] theorem ix_tup_0 (x : D) (l : List D) : pIx (.tup (x :: l)) (.int 0) = some x := by
  simp [pIx, atI, ixN]
@[simp] theorem ix_tup_1 (x y : D) (l : List D) : pIx (.tup (x :: y :: l)) (.int 1) = some y := by
  have : (1 : Int) < (l.length : Int) + 1 + 1 := by omega
  simp [pIx, atI, ixN, this]
@[simp] theorem ix_tup_2 (x y z : D) (l : List D) : pIx (.tup (x :: y :: z :: l)) (.int 2) = some z := by
  have : (2 : Int) < (l.length : Int) + 1 + 1 + 1 := by omega
  simp [pIx, atI, ixN, this]
theorem atI_last (l : List D) (x : D) : atI (l ++ [x]) (-1) = some x := by
  unfold atI ixN
  have h : (1 : Int) ≤ (l.length : Int) + 1 := by omega
  have e : (-1 + ((l.length : Int) + 1)).toNat = l.length := by omega
  simp [h, e]
@[simp] theorem ix_last_l (l : List D) (x : D) : pIx (.lst (l ++ [x])) (.int (-1)) = some x := atI_last l x
@[simp] theorem ix_last_t (l : List D) (x : D) : pIx (.tup (l ++ [x])) (.int (-1)) = some x := atI_last l x
/-- the pen: what it draws from; not yet asked more than n times -/
def Pen (n : Nat) (d : D) : Prop := ∃ (L : List Int) (t r : Int), d = .lst [.lst (L.map .int), .int t, .int r] ∧ 0 ≤ t ∧ t ≤ n
theorem fmod_in {a m : Int} (h : 0 < m) : 0 ≤ a.fmod m ∧ a.fmod m < m := ⟨Int.fmod_nonneg_of_pos a h, Int.fmod_lt_of_pos a h⟩
theorem ix_own0 (x : D) (l : List D) : pIx (.lst (x :: l)) (.int 0) = some x := ix_lst0 x l
@[simp] theorem ix_lst1 (x y : D) (l : List D) : pIx (.lst (x :: y :: l)) (.int 1) = some y := by
  have : (1 : Int) < (l.length : Int) + 1 + 1 := by omega
  simp [pIx, atI, ixN, this]
@[simp] theorem ix_lst2 (x y z : D) (l : List D) : pIx (.lst (x :: y :: z :: l)) (.int 2) = some z := by
  have : (2 : Int) < (l.length : Int) + 1 + 1 + 1 := by omega
  simp [pIx, atI, ixN, this]
@[simp] theorem set_1 (x y z d : D) : ixSet [x, y, z] (.int 1) d = some [x, d, z] := rfl
@[simp] theorem set_2 (x y z d : D) : ixSet [x, y, z] (.int 2) d = some [x, y, d] := rfl
theorem cell_ok (L : List Int) (i : Int) (h : 0 ≤ i) (h1 : i < L.length) : ∃ c, pIx (.lst (L.map D.int)) (.int i) = some (.int c) := by
  have hn : i.toNat < L.length := by omega
  refine ⟨L[i.toNat], ?_⟩
  simp [pIx, atI, ixN, h, h1, hn]
@[simp] theorem len_ints (L : List Int) : pLen [.lst (L.map D.int)] = some (.int (L.length : Nat)) := by
  rw [pLen_lst, List.length_map]
theorem p18 : pPow (.int 10) (.int 18) = some (.int 1000000000000000000) := by
  rw [pPow_int (by decide) (by decide) (by decide)]
  rfl
def mixI (c t : Int) : Int := (((((c.fmod 2147483563 + 83231 * t + 4931) ^ 5).fmod 2147483549 * (2 * t + 2383) + 71261 * t * t + 83231) ^ 3).fmod 2147483579).fdiv 64
theorem draw_ok {n : Nat} {d : D} {m : Int} (h : Pen n d) (hn : n ≤ 2 ^ 20) (hm : 0 < m) (hmb : m.natAbs < 2 ^ 60) : ∃ x d', B__law_draw [d, .int m] = .ok (.int x) [some d', none] ∧ 0 ≤ x ∧ x < m ∧ Pen (n + 1) d' := by
  obtain ⟨L, t, r, rfl, t0, tn⟩ := h
  have hm0 : m ≠ 0 := by omega
  have hw : wd 8000 m = true := wd_of hmb (by omega) (by omega)
  have dv := fun i : Int => pDiv_int (i := i) hw hm0
  have md := fun i : Int => pMod_int (i := i) hm0
  by_cases hr : 0 < r
  · refine ⟨r.fmod m, .lst [.lst (L.map .int), .int t, .int (r.fdiv m)], ?_, (fmod_in hm).1, (fmod_in hm).2, L, t, _, rfl, t0, by omega⟩
    simp [B__law_draw, mkB, b__law_draw, hr, dv, md]
  · have tb : t.natAbs < 2 ^ 60 := by omega
    have m1 := pMul_int (mulB_left (i := 71261) (j := t) (by decide))
    have m2 := pMul_int (mulB_left (i := 83231) (j := t) (by decide))
    have m3 := pMul_int (mulB_left (i := 2) (j := t) (by decide))
    have m4 := pMul_int (mulB_right (i := 71261 * t) (j := t) tb)
    have g1 := fun i : Int => pMod_int (i := i) (j := 2147483563) (by decide)
    have g2 := fun i : Int => pMod_int (i := i) (j := 2147483549) (by decide)
    have g3 := fun i : Int => pMod_int (i := i) (j := 2147483579) (by decide)
    have d64 := fun i : Int => pDiv_int (i := i) (j := 64) (wd_of (k := 7) (by decide) (by omega) (by omega)) (by decide)
    have nn := pNe_nil L
    have tt : t * t ≤ 2 ^ 40 ∧ 0 ≤ t * t := by
      have h1 : t ≤ 2 ^ 20 := by omega
      have h2 := Int.mul_le_mul h1 h1 t0 (by decide)
      exact ⟨by omega, Int.mul_nonneg t0 t0⟩
    have w5 : ∀ c : Int, pPow (.int (c.fmod 2147483563 + 83231 * t + 4931)) (.int 5) = some (.int ((c.fmod 2147483563 + 83231 * t + 4931) ^ 5)) := fun c => pPow_int (i := c.fmod 2147483563 + 83231 * t + 4931) (j := 5) (by decide) (by decide) (by have := fmod_in (a := c) (m := 2147483563) (by decide); omega)
    have mm := fun y : Int => pMul_int (mulB_left (i := y.fmod 2147483549) (j := 2 * t + 2383) (by have := fmod_in (a := y) (m := 2147483549) (by decide); omega))
    have w3 : ∀ y : Int, pPow (.int (y.fmod 2147483549 * (2 * t + 2383) + 71261 * t * t + 83231)) (.int 3) = some (.int ((y.fmod 2147483549 * (2 * t + 2383) + 71261 * t * t + 83231) ^ 3)) := fun y => pPow_int (i := y.fmod 2147483549 * (2 * t + 2383) + 71261 * t * t + 83231) (j := 3) (by decide) (by decide) (by
      have h1 := fmod_in (a := y) (m := 2147483549) (by decide)
      have h2 : y.fmod 2147483549 * (2 * t + 2383) ≤ 2147483549 * (2 * t + 2383) := Int.mul_le_mul_of_nonneg_right (by omega) (by omega)
      have h3 : 0 ≤ y.fmod 2147483549 * (2 * t + 2383) := Int.mul_nonneg h1.1 (by omega)
      rw [Int.mul_assoc]
      omega)
    cases hL : L with
    | nil =>
      subst hL
      have lt : ¬ t < 0 := by omega
      simp only [List.map_nil, List.isEmpty_nil, Bool.not_true] at nn
      refine ⟨(mixI (71261 * t + 4931) t).fmod m, .lst [.lst [], .int (t + 1), .int r], ?_, (fmod_in hm).1, (fmod_in hm).2, [], t + 1, r, rfl, by omega, by omega⟩
      simp [B__law_draw, mkB, b__law_draw, hr, dv, md, nn, m1, m2, m3, m4, g1, g2, g3, d64, w5, mm, w3, pLst_ok, lt, pLen_lst, mixI]
    | cons l0 L' =>
      rw [← hL]
      have hpos : 0 < L.length := by rw [hL]; simp
      have hp : (0 : Int) < (L.length : Nat) := by omega
      have hi := fmod_in (a := t) hp
      obtain ⟨c, hc⟩ := cell_ok L (t.fmod (L.length : Nat)) hi.1 hi.2
      have gl := pMod_int (i := t) (j := (L.length : Nat)) (by omega)
      have ne : L.isEmpty = false := by rw [hL]; rfl
      rw [ne] at nn
      by_cases hb : t < (L.length : Nat) ∧ 1000000000000000000 ≤ (if c < 0 then -c else c)
      · have m5 := pMul_int (mulB_left (i := 2) (j := (if c < 0 then -c else c) - 1000000000000000000) (by decide))
        refine ⟨(2 * ((if c < 0 then -c else c) - 1000000000000000000) + (if c < 0 then 1 else 0)).fmod m, .lst [.lst (L.map .int), .int (t + 1), .int ((2 * ((if c < 0 then -c else c) - 1000000000000000000) + (if c < 0 then 1 else 0)).fdiv m)], ?_, (fmod_in hm).1, (fmod_in hm).2, L, t + 1, _, rfl, by omega, by omega⟩
        simp [B__law_draw, mkB, b__law_draw, hr, dv, md, nn, m1, pLst_ok, gl, hc, hb.1, hb.2, p18, m5]
      · refine ⟨(mixI c t).fmod m, .lst [.lst (L.map .int), .int (t + 1), .int r], ?_, (fmod_in hm).1, (fmod_in hm).2, L, t + 1, r, rfl, by omega, by omega⟩
        by_cases hb1 : t < (L.length : Nat)
        · have hb2 : ¬ 1000000000000000000 ≤ (if c < 0 then -c else c) := fun z => hb ⟨hb1, z⟩
          simp [B__law_draw, mkB, b__law_draw, hr, dv, md, nn, m1, m2, m3, m4, g1, g2, g3, d64, w5, mm, w3, pLst_ok, gl, hc, hb1, hb2, p18, mixI]
        · simp [B__law_draw, mkB, b__law_draw, hr, dv, md, nn, m1, m2, m3, m4, g1, g2, g3, d64, w5, mm, w3, pLst_ok, gl, hc, hb1, mixI]
end Kw

namespace Kw
open PySem PySem.Spec PyProof.Rows L2 Z
theorem Bd.add2 {j k : Nat} {p q : Rat} (hp : Bd j p) (hq : Bd k q) : Bd (j + k + 1) (p + q) := by
  rw [add_eq]
  have h1 : (q.den : Int).natAbs < 2 ^ k := by simpa using hq.2
  have h2 : (p.den : Int).natAbs < 2 ^ j := by simpa using hp.2
  refine Bd.of (Int.mul_pos (den_pos p) (den_pos q)) ?_ ?_
  · have a := abs_mul_lt hp.1 h1
    have b := abs_mul_lt hq.1 h2
    rw [Nat.add_comm k j] at b
    exact abs_add_lt a b
  · exact Nat.lt_of_lt_of_le (abs_mul_lt h2 h1) (Nat.pow_le_pow_right (by omega) (by omega))
theorem Bd.mul2 {j k : Nat} {p q : Rat} (hp : Bd j p) (hq : Bd k q) : Bd (j + k) (p * q) := by
  rw [mul_eq]
  have h1 : (q.den : Int).natAbs < 2 ^ k := by simpa using hq.2
  have h2 : (p.den : Int).natAbs < 2 ^ j := by simpa using hp.2
  exact Bd.of (Int.mul_pos (den_pos p) (den_pos q)) (abs_mul_lt hp.1 hq.1) (abs_mul_lt h2 h1)
theorem Bd.sub2 {j k : Nat} {p q : Rat} (hp : Bd j p) (hq : Bd k q) : Bd (j + k + 1) (p - q) := by
  rw [Rat.sub_eq_add_neg]
  exact hp.add2 hq.neg
theorem lc_map {α : Type} {vs : List Nat} {g : Tg} {t : M Bool} {f : M D} (h out : α → D) (P : Ev → Prop) : ∀ (xs : List α), (∀ x ∈ xs, ∀ r, P r → ∃ r1 r2, g (h x) (wipeE vs r) = some r1 ∧ t r1 = .ok true r1 ∧ f r1 = .ok (out x) r2 ∧ P r2) → ∀ r, P r → ∃ r', P r' ∧ lcGo vs g t f (xs.map h) r = some (xs.map out, r')
  | [], _, r, p => ⟨r, p, rfl⟩
  | x :: xs, hs, r, p => by
    obtain ⟨r1, r2, e1, e2, e3, p2⟩ := hs x (by simp) r p
    obtain ⟨r3, p3, e4⟩ := lc_map h out P xs (fun y m => hs y (List.mem_cons_of_mem _ m)) r2 p2
    exact ⟨r3, p3, by simp [lcGo, e1, e2, e3, e4]⟩
theorem for_map {α : Type} {g : Tg} {b : M Fl} (h : α → D) (I : List α → Ev → Prop) (xs : List α) (step : ∀ pre x post, xs = pre ++ x :: post → ∀ r, I pre r → ∃ r1 r2, g (h x) r = some r1 ∧ b r1 = .ok .nx r2 ∧ I (pre ++ [x]) r2) :
    ∀ (post pre : List α), xs = pre ++ post → ∀ r, I pre r → ∃ r', I xs r' ∧ forGo g b (post.map h) r = .ok .nx r'
  | [], pre, e, r, p => ⟨r, by rw [e, List.append_nil]; exact p, rfl⟩
  | x :: post, pre, e, r, p => by
    obtain ⟨r1, r2, e1, e2, p2⟩ := step pre x post e r p
    obtain ⟨r3, p3, e3⟩ := for_map h I xs step post (pre ++ [x]) (by rw [e, List.append_assoc]; rfl) r2 p2
    exact ⟨r3, p3, by simp [forGo, e1, e2, e3]⟩
theorem Pen.mono {n m : Nat} {d : D} (h : Pen n d) (hm : n ≤ m) : Pen m d := by
  obtain ⟨L, t, r, e, h1, h2⟩ := h
  exact ⟨L, t, r, e, h1, by omega⟩
theorem pick_ok {n : Nat} {d : D} {l : List D} (h : Pen n d) (hn : n ≤ 2 ^ 20) (h0 : 0 < l.length) (hl : l.length < 2 ^ 50) : ∃ (i : Nat) (x : D) (d' : D), l[i]? = some x ∧ B__law_pick [d, .lst l] = .ok x [some d', none] ∧ Pen (n + 1) d' := by
  obtain ⟨x, d', e, x0, x1, p⟩ := draw_ok (m := (l.length : Nat)) h hn (by omega) (by simp; omega)
  obtain ⟨i, rfl⟩ : ∃ i : Nat, x = i := ⟨x.toNat, by omega⟩
  have hi : i < l.length := by omega
  refine ⟨i, l[i], d', List.getElem?_eq_getElem hi, ?_, p⟩
  simp [B__law_pick, mkB, b__law_pick, pLen_lst, e, hi]
theorem size_big : 1000000 < sizeLine := by rw [sizeLine_eq]; omega
theorem rng_eq (k : Nat) : rng 0 (k : Int) = (List.range k).map fun i => D.int (i : Nat) := by
  unfold rng
  rw [show ((k : Int) - 0).toNat = k by omega]
  simp
theorem pRng_nat (k : Nat) (hk : k < 1000) : pRng [.int (k : Int)] = some ((List.range k).map fun i => D.int (i : Nat)) := by
  have h : -(2 ^ 62) ≤ (k : Int) ∧ (k : Int) < 2 ^ 62 := by omega
  simp only [pRng]
  rw [if_pos h, rng_eq]
end Kw

namespace Kw
open PySem PySem.Spec PyProof.Rows L2 Z
abbrev QP := Rat × Rat
def sA : List QP → Rat
  | [] => 0
  | q :: l => q.2 + sA l
def sR : List QP → Rat
  | [] => 0
  | q :: l => q.2 / q.1 + sR l
def sL : List QP → Rat
  | [] => 0
  | q :: l => q.2 * q.1 + sL l
theorem sA_app (l m : List QP) : sA (l ++ m) = sA l + sA m := by
  induction l with
  | nil => simp [sA, Rat.zero_add]
  | cons q l ih => simp [sA, ih, Rat.add_assoc]
theorem sR_app (l m : List QP) : sR (l ++ m) = sR l + sR m := by
  induction l with
  | nil => simp [sR, Rat.zero_add]
  | cons q l ih => simp [sR, ih, Rat.add_assoc]
theorem sL_app (l m : List QP) : sL (l ++ m) = sL l + sL m := by
  induction l with
  | nil => simp [sL, Rat.zero_add]
  | cons q l ih => simp [sL, ih, Rat.add_assoc]
abbrev T3 := Rat × Rat × Rat
def lt (qs : List QP) : T3 := (sA qs, sR qs, sL qs)
def lig (qs : List QP) : List T3 := (List.range (qs.length + 1)).map fun i => lt (qs.take i)
theorem lig_snoc (pre : List QP) (x : QP) : lig (pre ++ [x]) = lig pre ++ [lt (pre ++ [x])] := by
  unfold lig
  rw [List.length_append, List.length_singleton, List.range_succ, List.map_append]
  congr 1
  · apply List.map_congr_left
    intro i hi
    have := List.mem_range.mp hi
    rw [List.take_append_of_le_length (by omega)]
  · rw [List.map_singleton, List.take_of_length_le (by simp)]
theorem lig_last (pre : List QP) : lig pre = (List.range pre.length).map (fun i => lt (pre.take i)) ++ [lt pre] := by
  unfold lig
  rw [List.range_succ, List.map_append]
  simp
theorem lig_get {qs : List QP} {i : Nat} (h : i ≤ qs.length) : (lig qs)[i]? = some (lt (qs.take i)) := by
  unfold lig
  rw [List.getElem?_map, List.getElem?_range (by omega)]
  rfl
@[simp] theorem lig_len (qs : List QP) : (lig qs).length = qs.length + 1 := by simp [lig]
def t3 (x : T3) : D := .tup [rt x.1, rt x.2.1, rt x.2.2]
def pairD (q : QP) : D := .tup [rt q.1, rt q.2]
theorem inv_eq {q : Rat} (h : 0 < q) : q⁻¹ = Rat.divInt q.den q.num := Rat.inv_def q
theorem over_eq {p q : Rat} : p / q = Rat.divInt (p.num * q.den) (p.den * q.num) := by
  rw [Rat.div_def, Rat.inv_def]
  have h := Rat.divInt_mul_divInt p.num q.den (d₁ := p.den) (d₂ := q.num)
  rwa [divInt_self] at h
theorem Bd.div2 {j k : Nat} {p q : Rat} (hp : Bd j p) (hq : Bd k q) (h : 0 < q) : Bd (j + k) (p / q) := by
  rw [over_eq]
  have h1 : (q.den : Int).natAbs < 2 ^ k := by simpa using hq.2
  have h2 : (p.den : Int).natAbs < 2 ^ j := by simpa using hp.2
  exact Bd.of (Int.mul_pos (den_pos p) ((nm_pos q).mpr h)) (abs_mul_lt hp.1 h1) (abs_mul_lt h2 hq.1)
theorem over_ok {k : Nat} {p q : Rat} (hp : Bd k p) (hq : Bd k q) (h : 0 < q) (h0 : 0 < k) (hk : k ≤ 3490) : B_Ratio_over [rt p, rt q] = .ok (rt (p / q)) [none, none] := by
  have hpd : (p.den : Int).natAbs < 2 ^ k := by simpa using hp.2
  have hqd : (q.den : Int).natAbs < 2 ^ k := by simpa using hq.2
  have hn := (nm_pos q).mpr h
  have z := B_ratio (n := p.num * q.den) (d := p.den * q.num) (Int.mul_pos (den_pos p) hn) (Nat.lt_of_lt_of_le (abs_mul_lt hpd hq.1) (Nat.pow_le_pow_right (by omega) (by omega)))
  rw [← over_eq] at z
  have m1 := pMul_int (mulB_both hp.1 hqd h0 h0 (by omega) (by omega))
  have m2 := pMul_int (mulB_both hpd hq.1 h0 h0 (by omega) (by omega))
  have f := from_rt q (.str "other")
  have hne : ¬ q.num = 0 := by omega
  simp [B_Ratio_over, mkB, b_Ratio_over, f, hne, m1, m2, z]
structure QOk (m : Nat) (q : QP) : Prop where
  p1 : 0 < q.1
  p2 : 0 ≤ q.2
  b1 : Bd m q.1
  b2 : Bd m q.2
/-- the sums of every beginning stay small -/
def PB (k : Nat) (qs : List QP) : Prop := ∀ i, Bd k (sA (qs.take i)) ∧ Bd k (sR (qs.take i)) ∧ Bd k (sL (qs.take i))
theorem new0' : B_Ratio___init__ [.ob 0 [], .int 0, .int 1] = .ok .non [some (rt 0), none, none] := new0
def lapL : M Fl := (sSeq (sTg (gT [(gN 4), (gN 5), (gN 6)]) (eIxO 1 (eU (oU pNeg) (eK (.int 1))))) (sApp 1 (eN pTup (aCons (eB (oW [(0, B_Ratio___add__)] ["int"] [0] pAdd) (eV 4) (eV 3)) (aCons (eB (oW [(0, B_Ratio___add__)] ["int"] [0] pAdd) (eV 5) (eMd [(0, B_Ratio_over)] [] (eV 3) (aCons (eV 2) aNil))) (aCons (eB (oW [(0, B_Ratio___add__)] ["int"] [0] pAdd) (eV 6) (eB (oW [(0, B_Ratio___mul__)] ["int"] [0] pMul) (eV 3) (eV 2))) aNil))))))
theorem lapL_ok {m k : Nat} {pre : List QP} {q : QP} (hq : QOk m q) (hm : 2 * m ≤ k) (h0 : 0 < m) (hk : k ≤ 3490) (ha : Bd k (sA pre)) (hr : Bd k (sR pre)) (hl : Bd k (sL pre)) (hs : pre.length ≤ 100) (x0 y4 y5 y6 : Option D) :
    ∃ z4 z5 z6, lapL [x0, some (.lst ((lig pre).map t3)), some (rt q.1), some (rt q.2), y4, y5, y6] = .ok .nx [x0, some (.lst ((lig (pre ++ [q])).map t3)), some (rt q.1), some (rt q.2), z4, z5, z6] := by
  have e1 := over_ok hq.b2 hq.b1 hq.p1 h0 (by omega)
  have e2 := mul_ok hq.b2 hq.b1 h0 (by omega)
  have e3 := add_ok ha (hq.b2.mono (by omega)) (by omega) hk
  have e4 := add_ok hr ((hq.b2.div2 hq.b1 hq.p1).mono (by omega)) (by omega) hk
  have e5 := add_ok hl ((hq.b2.mul2 hq.b1).mono (by omega)) (by omega) hk
  have hz : pre.length + 1 < sizeLine := Nat.lt_trans (by omega) size_big
  have en : lt (pre ++ [q]) = (sA pre + q.2, sR pre + q.2 / q.1, sL pre + q.2 * q.1) := by
    simp [lt, sA_app, sR_app, sL_app, sA, sR, sL, Rat.add_zero]
  refine ⟨some (rt (sA pre)), some (rt (sR pre)), some (rt (sL pre)), ?_⟩
  rw [lig_snoc, lig_last pre, en]
  simp [lapL, t3, lt, itemsOf, gTs, oW, rk, e1, e2, e3, e4, e5, hz, show 3 ≤ big by unfold big; omega]
theorem lights_ok {m k : Nat} {qs : List QP} {x0 : D} (hx : itemsOf x0 = some (qs.map pairD)) (hq : ∀ q ∈ qs, QOk m q) (hp : PB k qs) (hm : 2 * m ≤ k) (h0 : 0 < m) (hk : k ≤ 3490) (hs : qs.length ≤ 100) :
    B_lights_along [x0] = .ok (.lst ((lig qs).map t3)) [none] := by
  obtain ⟨r3, ⟨y2, y3, y4, y5, y6, rfl⟩, e3⟩ := for_map (g := gT [(gN 2), (gN 3)]) (b := lapL) pairD (fun pre r => ∃ y2 y3 y4 y5 y6, r = [some x0, some (.lst ((lig pre).map t3)), y2, y3, y4, y5, y6]) qs
    (fun pre x post e r ⟨y2, y3, y4, y5, y6, er⟩ => by
      have hl := congrArg List.length e
      simp at hl
      have et : qs.take pre.length = pre := by rw [e]; simp
      have hb := hp pre.length
      rw [et] at hb
      obtain ⟨z4, z5, z6, el⟩ := lapL_ok (pre := pre) (hq x (by rw [e]; simp)) hm h0 hk hb.1 hb.2.1 hb.2.2 (by omega) (some x0) y4 y5 y6
      subst er
      exact ⟨_, _, by simp [pairD, itemsOf, gTs], el, _, _, _, _, _, rfl⟩) qs [] rfl [some x0, some (.lst ((lig []).map t3)), none, none, none, none, none] ⟨none, none, none, none, none, rfl⟩
  have e0 : (lig []).map t3 = [.tup [rt 0, rt 0, rt 0]] := rfl
  have eb : b_lights_along = (sSeq (sAsF 1 (eN pLst (aCons (eN pTup (aCons (eNd 0 B_Ratio___init__ [.int (1)] (aCons (eK (.int 0)) aNil)) (aCons (eNd 0 B_Ratio___init__ [.int (1)] (aCons (eK (.int 0)) aNil)) (aCons (eNd 0 B_Ratio___init__ [.int (1)] (aCons (eK (.int 0)) aNil)) aNil)))) aNil))) (sSeq (sFor (itL (eV 0)) (gT [(gN 2), (gN 3)]) lapL) (sRet (eV 1)))) := rfl
  rw [e0] at e3
  rw [B_lights_along, eb]
  simp [mkB, new0, hx, e3, show 3 ≤ big by unfold big; omega, show 1 ≤ big by unfold big; omega]
end Kw

namespace Kw
open PySem PySem.Spec PyProof.Rows L2 Z
theorem summed1 {k : Nat} {y : Rat} (hy : Bd k y) (h0 : 0 < k) (hk : k ≤ 3490) : B_summed [.lst [rt y]] = .ok (rt (0 + y)) [none] := by
  have ar := are_ok (xs := [y]) (by simp) (by simp)
  have e1 := add_ok (Bd.zero h0) hy h0 hk
  simp at ar
  simp only [Rat.zero_add] at e1 ⊢
  simp [B_summed, mkB, b_summed, itemsOf, ar, new0, forGo, oW, rk, e1]
theorem dot1 (t x : Rat) : dot t [x] t [x] = t * t - (0 + x * x) := rfl
theorem product1 {k : Nat} {t x : Rat} {l m : List D} (ht : Bd k t) (hx : Bd k x) (h0 : 0 < k) (hk : k ≤ 1740) :
    B_product_at [.ob 2 (rt t :: .tup [rt x] :: l), .ob 2 (rt t :: .tup [rt x] :: m)] = .ok (rt (dot t [x] t [x])) [none, none] := by
  have m0 := mul_ok ht ht h0 (by omega)
  have m1 := mul_ok hx hx h0 (by omega)
  have b0 := ht.mul2 ht
  have b1 := hx.mul2 hx
  have sm := summed1 b1 (by omega) (by omega)
  have b2 : Bd (k + k + 2) (0 + x * x) := by
    have := (Bd.zero (k := 1) (by omega)).add2 b1
    exact this.mono (by omega)
  have d0 := sub_ok (b0.mono (by omega : k + k ≤ k + k + 2)) b2 (by omega) (by omega)
  rw [dot1]
  simp only [Rat.zero_add] at sm d0 ⊢
  simp [B_product_at, mkB, b_product_at, oW, rk, m0, m1, pZip, itemsOf, isTupD, zipD, big, lcGo, lcOut, wipeE, backE, gTs, sm, d0]
theorem step1 {k : Nat} {t x : Rat} (ht : Bd k t) (hx : Bd k x) (h0 : 0 < k) (hk : k ≤ 1740) : B_Step___init__ [.ob 2 [], rt t, .lst [rt x]] = .ok .non [some (stp t [x]), none, none] := by
  have ar := are_ok (xs := [x]) (by simp) (by simp)
  have pr := product1 (l := [.int 1]) (m := [.int 1]) ht hx h0 hk
  have kd := kind_ok t (dot t [x] t [x])
  simp only [List.map_cons, List.map_nil] at ar
  generalize hd : dot t [x] t [x] = dd at pr kd
  simp [B_Step___init__, mkB, b_Step___init__, ar, onBl, pLen, itemsOf, big, lcGo, lcOut, wipeE, backE, pTuple, pr, kd, sl, hd]
@[simp] theorem need_step_ok (t : Rat) (xs : List Rat) (d : D) : B_need_step [stp t xs, d] = .ok .non [none, none] := by
  simp [B_need_step, mkB, b_need_step, kO]
theorem need_axes_ok {t u : Rat} {xs ys : List Rat} (e : ys.length = xs.length) : B_need_axes [stp t xs, stp u ys] = .ok .non [none, none] := by
  simp [B_need_axes, mkB, b_need_axes, e]
theorem step_add1 {k : Nat} {t u x y : Rat} (ht : Bd k t) (hu : Bd k u) (hx : Bd k x) (hy : Bd k y) (h0 : 0 < k) (hk : k ≤ 860) : B_Step___add__ [stp t [x], stp u [y]] = .ok (stp (t + u) [x + y]) [none, none] := by
  have a0 := add_ok ht hu h0 (by omega)
  have a1 := add_ok hx hy h0 (by omega)
  have st := step1 (ht.add2 hu) (hx.add2 hy) (by omega) (by omega)
  have na := need_axes_ok (t := t) (u := u) (xs := [x]) (ys := [y]) rfl
  simp [B_Step___add__, mkB, b_Step___add__, na, oW, rk, a0, a1, pZip, itemsOf, isTupD, zipD, big, lcGo, lcOut, wipeE, backE, gTs, st]
theorem step_neg1 {k : Nat} {t x : Rat} (ht : Bd k t) (hx : Bd k x) (h0 : 0 < k) (hk : k ≤ 1740) : B_Step___neg__ [stp t [x]] = .ok (stp (-t) [-x]) [none] := by
  have a0 := neg_ok ht (by omega)
  have a1 := neg_ok hx (by omega)
  have st := step1 ht.neg hx.neg h0 hk
  simp [B_Step___neg__, mkB, b_Step___neg__, oC1, a0, a1, itemsOf, big, lcGo, lcOut, wipeE, backE, st]
theorem step_sub1 {k : Nat} {t u x y : Rat} (ht : Bd k t) (hu : Bd k u) (hx : Bd k x) (hy : Bd k y) (h0 : 0 < k) (hk : k ≤ 860) : B_Step___sub__ [stp t [x], stp u [y]] = .ok (stp (t - u) [x - y]) [none, none] := by
  have n := step_neg1 hu hy h0 (by omega)
  have a := step_add1 ht hu.neg hx hy.neg h0 hk
  rw [← Rat.sub_eq_add_neg, ← Rat.sub_eq_add_neg] at a
  simp [B_Step___sub__, mkB, b_Step___sub__, oW, oC1, rk, n, a]
theorem pEq_obs (q p : Rat) (l m : List D) : pEq (.tup (rt q :: l)) (.tup (rt p :: m)) = none := by
  simp [pEq, pEqB, toP, toPs]
def hf : Rat := Rat.divInt 1 2
theorem hf_eq : hf = 1 / 2 := by decide +kernel
theorem hf_bd : Bd 2 hf := ⟨by decide +kernel, by decide +kernel⟩
theorem lit_ok {k : Nat} {r l : Rat} (hr : Bd k r) (hl : Bd k l) (h0 : 0 < k) (hk : k ≤ 868) : B_lit_spot [rt r, rt l] = .ok (stp ((r + l) * hf) [(l - r) * hf]) [none, none] := by
  have n := B_ratio (n := 1) (d := 2) (by omega) (by decide)
  have a0 := add_ok hr hl h0 (by omega)
  have a1 := sub_ok hl hr h0 (by omega)
  have b0 := hr.add2 hl
  have b1 := hl.sub2 hr
  have m0 := mul_ok b0 (hf_bd.mono (by omega)) (by omega) (by omega)
  have m1 := mul_ok b1 (hf_bd.mono (by omega)) (by omega) (by omega)
  have st := step1 (b0.mul2 hf_bd) (b1.mul2 hf_bd) (by omega) (by omega)
  have eh : Rat.divInt 1 2 = hf := rfl
  rw [eh] at n
  simp [B_lit_spot, mkB, b_lit_spot, n, oW, rk, a0, a1, m0, m1, big, st]
def spotD (x : T3) : D := stp ((x.2.1 + x.2.2) * hf) [(x.2.2 - x.2.1) * hf]
def tl (qs : List QP) : List D := [.tup (qs.map pairD), .tup ((lig qs).map spotD), rt (sA qs), spotD (lt qs)]
abbrev tour (qs : List QP) : D := .ob 5 (tl qs)
@[simp] theorem tl_0 (qs : List QP) : (tl qs)[0]? = some (.tup (qs.map pairD)) := rfl
@[simp] theorem tl_1 (qs : List QP) : (tl qs)[1]? = some (.tup ((lig qs).map spotD)) := rfl
@[simp] theorem tl_2 (qs : List QP) : (tl qs)[2]? = some (rt (sA qs)) := rfl
@[simp] theorem tl_3 (qs : List QP) : (tl qs)[3]? = some (spotD (lt qs)) := rfl
theorem it_lst (l : List D) : itemsOf (.lst l) = some l := rfl
theorem it_tup (l : List D) : itemsOf (.tup l) = some l := rfl
theorem is_part_ok {q : QP} (h1 : 0 < q.1) (h2 : 0 < q.2) : B_is_part [pairD q] = .ok (.bl true) [none] := by
  have g1 := (nm_pos q.1).mpr h1
  have g2 := (nm_pos q.2).mpr h2
  have li : B_is_listed [pairD q] = .ok (.bl true) [none] := by
    simp [B_is_listed, mkB, b_is_listed, kAny, kT, tyN, pairD]
  have s1 := sign_ok q.1
  have s2 := sign_ok q.2
  rw [Int.sign_eq_one_of_pos g1] at s1
  rw [Int.sign_eq_one_of_pos g2] at s2
  simp only [pairD] at li ⊢
  simp [B_is_part, mkB, b_is_part, li, pLen_tup, itemsOf, big, lcGo, lcOut, wipeE, backE, s1, s2, pAll, lisOf, toBls]
theorem all_true (n : Nat) : pAll [.lst (List.replicate n (.bl true))] = some (.bl true) := by
  have := pAll_lst (List.replicate n true)
  simpa using this
theorem tour_ok {m k : Nat} {qs : List QP} {x1 : D} (hx : itemsOf x1 = some (qs.map pairD)) (hli : B_is_listed [x1] = .ok (.bl true) [none]) (hle : pLen [x1] = some (.int (qs.length : Nat))) (hq : ∀ q ∈ qs, QOk m q) (hpos : ∀ q ∈ qs, 0 < q.2) (hp : PB k qs) (hm : 2 * m ≤ k) (h0 : 0 < m) (hk : k ≤ 868) (h1 : 1 ≤ qs.length) (h12 : qs.length ≤ 12) :
    B_Tour___init__ [.ob 5 [], x1] = .ok .non [some (tour qs), none] := by
  have hb : qs.length ≤ big := by unfold big; omega
  have hb2 : qs.length + 1 ≤ big := by unfold big; omega
  obtain ⟨r1, ⟨y3, rfl⟩, e1⟩ := lc_map (vs := [3]) (g := gN 3) (t := tY) (f := eCd B_is_part [] (aCons (eV 3) aNil)) pairD (fun _ => D.bl true) (fun r => ∃ y3, r = [some (.ob 5 []), some x1, none, y3, none, none, none]) qs (fun q hm r ⟨y3, er⟩ => by
    subst er
    have e := is_part_ok (hq q hm).p1 (hpos q hm)
    refine ⟨[some (.ob 5 []), some x1, none, some (pairD q), none, none, none], [some (.ob 5 []), some x1, none, some (pairD q), none, none, none], by simp [wipeE], rfl, by simp [e], _, rfl⟩) _ ⟨none, rfl⟩
  obtain ⟨r2, ⟨z3, rfl⟩, e2⟩ := lc_map (vs := [3]) (g := gN 3) (t := tY) (f := eN pTup (aCons (eCd B_Ratio_of [] (aCons (eB (oP pIx) (eV 3) (eK (.int 0))) aNil)) (aCons (eCd B_Ratio_of [] (aCons (eB (oP pIx) (eV 3) (eK (.int 1))) aNil)) aNil))) pairD pairD (fun r => ∃ y3, r = [some (.ob 5 []), some x1, none, y3, none, none, none]) qs (fun q hm r ⟨y3, er⟩ => by
    subst er
    refine ⟨[some (.ob 5 []), some x1, none, some (pairD q), none, none, none], [some (.ob 5 []), some x1, none, some (pairD q), none, none, none], by simp [wipeE], rfl, by simp [pairD, big], _, rfl⟩) _ ⟨none, rfl⟩
  have el := lights_ok (x0 := .tup (qs.map pairD)) rfl hq hp hm h0 (by omega) (by omega)
  obtain ⟨r3, ⟨u4, u5, u6, rfl⟩, e3⟩ := lc_map (vs := [4, 5, 6]) (g := gT [(gN 4), (gN 5), (gN 6)]) (t := tY) (f := eCd B_lit_spot [] (aCons (eV 5) (aCons (eV 6) aNil))) t3 spotD (fun r => ∃ y4 y5 y6, r = [some (.ob 5 [.tup (qs.map pairD)]), some x1, some (.lst ((lig qs).map t3)), none, y4, y5, y6]) (lig qs) (fun q hm r ⟨y4, y5, y6, er⟩ => by
    subst er
    obtain ⟨i, hi, rfl⟩ := List.mem_map.mp hm
    have b := hp i
    have e := lit_ok b.2.1 b.2.2 (by omega) hk
    refine ⟨[some (.ob 5 [.tup (qs.map pairD)]), some x1, some (.lst ((lig qs).map t3)), none, some (rt (sA (qs.take i))), some (rt (sR (qs.take i))), some (rt (sL (qs.take i)))], [some (.ob 5 [.tup (qs.map pairD)]), some x1, some (.lst ((lig qs).map t3)), none, some (rt (sA (qs.take i))), some (rt (sR (qs.take i))), some (rt (sL (qs.take i)))], by simp [wipeE, t3, lt, itemsOf, gTs], rfl, by simp [e, spotD, lt], _, _, _, rfl⟩) _ ⟨none, none, none, rfl⟩
  have hn : ¬ ((qs.length : Nat) : Int) = 0 := by omega
  have hg : ¬ (12 : Int) < ((qs.length : Nat) : Int) := by omega
  have hne : qs ≠ [] := fun z => by rw [z] at h1; simp at h1
  have hg' : ¬ 12 < qs.length := by omega
  have em : qs.map (fun _ => D.bl true) = List.replicate qs.length (.bl true) := List.map_const' ..
  rw [em] at e1
  have at1 := all_true qs.length
  have la : pIx (.lst ((lig qs).map t3)) (.int (-1)) = some (t3 (lt qs)) := by
    rw [lig_last, List.map_append]
    exact ix_last_l _ _
  have ls : pIx (.tup ((lig qs).map spotD)) (.int (-1)) = some (spotD (lt qs)) := by
    rw [lig_last, List.map_append]
    exact ix_last_t _ _
  have i0 : pIx (t3 (lt qs)) (.int 0) = some (rt (sA qs)) := ix_tup_0 _ _
  generalize hP : qs.map pairD = P at *
  generalize hS : (lig qs).map spotD = S at *
  have hlP : P.length = qs.length := by rw [← hP]; simp
  have hlL : ((lig qs).map t3).length = qs.length + 1 := by simp
  generalize hL : (lig qs).map t3 = L at *
  simp [B_Tour___init__, mkB, b_Tour___init__, hx, hli, hle, hlP, hlL, hb, hb2, e1, at1, hn, hg, lcOut, backE, onBl, pTuple, e2, el, it_lst, it_tup, e3, la, ls, i0, tl, hP, hS, hne, hg']
end Kw

namespace Kw
open PySem PySem.Spec PyProof.Rows L2 Z
theorem mkB_run {n m : Nat} {io : List Nat} {b : M Fl} {ds : List D} {d : D} {r r0 : Ev} (hl : ds.length = n) (h0 : ds.map some ++ List.replicate (m - n) none = r0) (h : b r0 = .ok (.rt d) r) : mkB n m io b ds = .ok d (keepE io n r) := by
  unfold mkB
  rw [if_pos hl, h0, h]
theorem sSeq_nx {f g : M Fl} {r r1 : Ev} (h : f r = .ok .nx r1) : sSeq f g r = g r1 := by
  simp only [sSeq, h]
theorem oW_int (tb : List (Nat × Beh)) (ts : List String) (cs : List Nat) (p : D → D → Option D) (i : Int) (y : D) (r : Ev) : oW tb ts cs p (.int i) y r = liftO (p (.int i) y) r := rfl
/-- a number or a Ratio -/
inductive IsR : D → Rat → Prop
  | rt (q : Rat) : IsR (rt q) q
  | int (i : Int) : IsR (.int i) (i : Rat)
theorem from_R {x : D} {q : Rat} (h : IsR x q) (s : D) : B_ratio_from [x, s] = .ok (rt q) [none, none] := by
  cases h
  · exact from_rt _ _
  · exact from_int _ _
theorem is_R {x : D} {q : Rat} (h : IsR x q) : B_is_ratio [x] = .ok (.bl true) [none] := by
  cases h <;> simp
theorem of_R {x : D} {q : Rat} (h : IsR x q) : B_Ratio_of [x] = .ok (rt q) [none] := by
  have := from_R h (.str "value")
  simp [B_Ratio_of, mkB, b_Ratio_of, this]
theorem rk_R {x : D} {q : Rat} (h : IsR x q) (l : List Nat) : rk ["int"] (0 :: l) x = true := by
  cases h <;> simp [rk, tyN]
theorem mul_R {k : Nat} {p q : Rat} {y : D} (hy : IsR y q) (hp : Bd k p) (hq : Bd k q) (h0 : 0 < k) (hk : k ≤ 3490) : B_Ratio___mul__ [rt p, y] = .ok (rt (p * q)) [none, none] := by
  have hpd : (p.den : Int).natAbs < 2 ^ k := by simpa using hp.2
  have hqd : (q.den : Int).natAbs < 2 ^ k := by simpa using hq.2
  have z := B_ratio (n := p.num * q.num) (d := p.den * q.den) (Int.mul_pos (den_pos p) (den_pos q)) (Nat.lt_of_lt_of_le (abs_mul_lt hpd hqd) (Nat.pow_le_pow_right (by omega) (by omega)))
  rw [← mul_eq] at z
  have m1 := pMul_int (mulB_both hp.1 hq.1 h0 h0 (by omega) (by omega))
  have m3 := pMul_int (mulB_both hpd hqd h0 h0 (by omega) (by omega))
  have f := from_R hy (.str "other")
  simp [B_Ratio___mul__, mkB, b_Ratio___mul__, f, m1, m3, z]
theorem add_R {k : Nat} {p q : Rat} {y : D} (hy : IsR y q) (hp : Bd k p) (hq : Bd k q) (h0 : 0 < k) (hk : k ≤ 3490) : B_Ratio___add__ [rt p, y] = .ok (rt (p + q)) [none, none] := by
  have hpd : (p.den : Int).natAbs < 2 ^ k := by simpa using hp.2
  have hqd : (q.den : Int).natAbs < 2 ^ k := by simpa using hq.2
  have z := B_ratio (n := p.num * q.den + q.num * p.den) (d := p.den * q.den) (Int.mul_pos (den_pos p) (den_pos q)) (Nat.lt_of_lt_of_le (abs_mul_lt hpd hqd) (Nat.pow_le_pow_right (by omega) (by omega)))
  rw [← add_eq] at z
  have m1 := pMul_int (mulB_both hp.1 hqd h0 h0 (by omega) (by omega))
  have m2 := pMul_int (mulB_both hq.1 hpd h0 h0 (by omega) (by omega))
  have m3 := pMul_int (mulB_both hpd hqd h0 h0 (by omega) (by omega))
  have f := from_R hy (.str "other")
  simp [B_Ratio___add__, mkB, b_Ratio___add__, f, m1, m2, m3, z]
theorem sub_R {k : Nat} {p q : Rat} {y : D} (hy : IsR y q) (hp : Bd k p) (hq : Bd k q) (h0 : 0 < k) (hk : k ≤ 3490) : B_Ratio___sub__ [rt p, y] = .ok (rt (p - q)) [none, none] := by
  have f := from_R hy (.str "other")
  have n := neg_ok hq (by omega)
  have a := add_ok hp hq.neg h0 hk
  rw [Rat.sub_eq_add_neg]
  simp [B_Ratio___sub__, mkB, b_Ratio___sub__, f, n, oW, oC1, rk, a]
theorem over_R {k : Nat} {p q : Rat} {y : D} (hy : IsR y q) (hp : Bd k p) (hq : Bd k q) (h : 0 < q) (h0 : 0 < k) (hk : k ≤ 3490) : B_Ratio_over [rt p, y] = .ok (rt (p / q)) [none, none] := by
  have hpd : (p.den : Int).natAbs < 2 ^ k := by simpa using hp.2
  have hqd : (q.den : Int).natAbs < 2 ^ k := by simpa using hq.2
  have hn := (nm_pos q).mpr h
  have z := B_ratio (n := p.num * q.den) (d := p.den * q.num) (Int.mul_pos (den_pos p) hn) (Nat.lt_of_lt_of_le (abs_mul_lt hpd hq.1) (Nat.pow_le_pow_right (by omega) (by omega)))
  rw [← over_eq] at z
  have m1 := pMul_int (mulB_both hp.1 hqd h0 h0 (by omega) (by omega))
  have m2 := pMul_int (mulB_both hpd hq.1 h0 h0 (by omega) (by omega))
  have f := from_R hy (.str "other")
  have hne : ¬ q.num = 0 := by omega
  simp [B_Ratio_over, mkB, b_Ratio_over, f, hne, m1, m2, z]
theorem below_R {k : Nat} {p q : Rat} {y : D} (hy : IsR y q) (hp : Bd k p) (hq : Bd k q) (h0 : 0 < k) (hk : k ≤ 3490) : B_Ratio_is_below [rt p, y] = .ok (.bl (decide (p < q))) [none, none] := by
  have f := from_R hy (.str "other")
  have b := below_ok hp hq h0 hk
  have f2 := from_rt q (.str "other")
  have a := sub_ok hp hq h0 hk
  have s := sign_ok (p - q)
  simp [B_Ratio_is_below, mkB, b_Ratio_is_below, f2, oW, rk, a, s] at b
  simp [B_Ratio_is_below, mkB, b_Ratio_is_below, f, oW, rk, a, s, b]
theorem sign_pos {p : Rat} (h : 0 < p) : B_Ratio_sign [rt p] = .ok (.int 1) [none] := by
  rw [sign_ok, Int.sign_eq_one_of_pos ((nm_pos p).mpr h)]
theorem sign_lt {p : Rat} (h : 0 ≤ p) : ¬ p.num.sign < 0 := fun z => by
  have := (sg_neg p).mp z
  grind
/-- x op y of Ratios -/
theorem oW_rt {tb : List (Nat × Beh)} {p : D → D → Option D} {B : Beh} {a c : Rat} {y : D} {l : List Nat} (h : tb.lookup 0 = some B) (hy : rk ["int"] l y = true) (e : B [rt a, y] = .ok (rt c) [none, none]) (r : Ev) : oW tb ["int"] l p (rt a) y r = .ok (rt c) r := by
  simp only [oW, hy, if_true, h, e]
  simp
theorem new1 : B_Ratio___init__ [.ob 0 [], .int 1, .int 1] = .ok .non [some (rt 1), none, none] := by
  have z := B_ratio (n := 1) (d := 1) (by omega) (by decide)
  have e : Rat.divInt 1 1 = 1 := by decide +kernel
  rwa [e] at z
theorem new2 : B_Ratio___init__ [.ob 0 [], .int 1, .int 2] = .ok .non [some (rt hf), none, none] := by
  have z := B_ratio (n := 1) (d := 2) (by omega) (by decide)
  exact z
theorem Bd.one {k : Nat} (h : 0 < k) : Bd k 1 := by
  have : 1 < 2 ^ k := Nat.one_lt_two_pow (by omega)
  exact ⟨by show (1 : Int).natAbs < _; simpa using this, this⟩
theorem ne_rt (p q : Rat) (r : Ev) : oNW [(0, B_Ratio___eq__)] ["int"] [0] pNe (rt p) (rt q) r = .ok (.bl (!decide (p = q))) r := by
  simp [oNW, rk, eq_ok, negO]
theorem et_rt (p q : Rat) (r : Ev) : oET [(0, B_Ratio___eq__)] ["int"] [0] (rt p) (rt q) r = .ok (.bl (decide (p = q))) r := by
  simp [oET, oW, rk, eq_ok]
theorem ne_int (p : Rat) (i : Int) (r : Ev) : oNW [(0, B_Ratio___eq__)] ["int"] [0] pNe (rt p) (.int i) r = .ok (.bl (!decide (p = i))) r := by
  simp [oNW, rk, tyN, eq_int, negO]
theorem et_int (p : Rat) (i : Int) (r : Ev) : oET [(0, B_Ratio___eq__)] ["int"] [0] (rt p) (.int i) r = .ok (.bl (decide (p = i))) r := by
  simp [oET, oW, rk, tyN, eq_int]
theorem oNW_lst (tb : List (Nat × Beh)) (ts : List String) (cs : List Nat) (l : List D) (y : D) (r : Ev) : oNW tb ts cs pNe (.lst l) y r = liftO (pNe (.lst l) y) r := rfl
theorem pNe_none : pNe (.lst []) (.lst []) = some (.bl false) := pNe_nil []
/-! ### beats -/
structure Bt (k : Nat) (K O S : Rat) : Prop where
  k0 : 0 < K
  o0 : 0 < O
  s0 : 0 ≤ S
  kb : Bd k K
  ob : Bd k O
  sb : Bd k S
theorem need_ok {x y z : D} {k : Nat} {K O S : Rat} (hx : IsR x K) (hy : IsR y O) (hz : IsR z S) (h : Bt k K O S) : B_need_beats [x, y, z] = .ok .non [none, none, none] := by
  have s1 := sign_pos h.k0
  have s2 := sign_pos h.o0
  have s3 := sign_ok S
  have n3 := sign_lt h.s0
  generalize hs : S.num.sign = sg at s3 n3
  simp [B_need_beats, mkB, b_need_beats, is_R hx, is_R hy, is_R hz, of_R hx, of_R hy, of_R hz, s1, s2, s3, n3]
theorem right_ok {x y z : D} {k : Nat} {K O S : Rat} (hx : IsR x K) (hy : IsR y O) (hz : IsR z S) (h : Bt k K O S) (h0 : 0 < k) (hk : k ≤ 1000) : B_beats_right [x, y, z] = .ok (rt (S * O * (1 / K))) [none, none, none] := by
  have n := need_ok hx hy hz h
  have e1 := oW_rt (tb := [(0, B_Ratio___mul__)]) (p := pMul) rfl (rk_R hy []) (mul_R hy h.sb h.ob h0 (by omega))
  have e2 := over_R hx (Bd.one h0) h.kb h.k0 h0 (by omega)
  have e3 := oW_rt (tb := [(0, B_Ratio___mul__)]) (p := pMul) rfl (rk_R (.rt (1 / K)) []) (mul_R (.rt (1 / K)) (h.sb.mul2 h.ob) ((Bd.one h0).div2 h.kb h.k0) (by omega) (by omega))
  simp [B_beats_right, mkB, b_beats_right, n, of_R hz, e1, e2, e3, new1]
theorem left_ok {x y z : D} {k : Nat} {K O S : Rat} (hx : IsR x K) (hy : IsR y O) (hz : IsR z S) (h : Bt k K O S) (h0 : 0 < k) (hk : k ≤ 1000) : B_beats_left [x, y, z] = .ok (rt (S * K * (1 / O))) [none, none, none] := by
  have n := need_ok hx hy hz h
  have e1 := oW_rt (tb := [(0, B_Ratio___mul__)]) (p := pMul) rfl (rk_R hx []) (mul_R hx h.sb h.kb h0 (by omega))
  have e2 := over_R hy (Bd.one h0) h.ob h.o0 h0 (by omega)
  have e3 := oW_rt (tb := [(0, B_Ratio___mul__)]) (p := pMul) rfl (rk_R (.rt (1 / O)) []) (mul_R (.rt (1 / O)) (h.sb.mul2 h.kb) ((Bd.one h0).div2 h.ob h.o0) (by omega) (by omega))
  simp [B_beats_left, mkB, b_beats_left, n, of_R hz, e1, e2, e3, new1]
def rr (K O : Rat) : Rat := if O / K < 1 then 1 / (O / K) else O / K
theorem qpos {a b : Rat} (ha : 0 < a) (hb : 0 < b) : 0 < a / b := by
  have e : a / b * b = a := by grind
  apply Rat.not_le.mp
  intro z
  have := Rat.mul_le_mul_of_nonneg_right z (Rat.le_of_lt hb)
  grind
theorem rr_bd {k : Nat} {K O S : Rat} (h : Bt k K O S) (h0 : 0 < k) : Bd (3 * k) (rr K O) := by
  have b1 := h.ob.div2 h.kb h.k0
  unfold rr
  split
  · exact ((Bd.one (k := k) h0).div2 b1 (qpos h.o0 h.k0)).mono (by omega)
  · exact b1.mono (by omega)
theorem echo_ok {x y z : D} {k : Nat} {K O S : Rat} (hx : IsR x K) (hy : IsR y O) (hz : IsR z S) (h : Bt k K O S) (h0 : 0 < k) (hk : k ≤ 400) : B_echo_beats [x, y, z] = .ok (rt (S * rr K O * rr K O)) [none, none, none] := by
  have n := need_ok hx hy hz h
  have e1 := over_R hx h.ob h.kb h.k0 h0 (by omega)
  have b1 := h.ob.div2 h.kb h.k0
  have e2 := below_R (.int 1) b1 (Bd.one (k := k + k) (by omega)) (by omega) (by omega)
  have e3 := over_R (.rt (O / K)) (Bd.one (k := k + k) (by omega)) b1 (qpos h.o0 h.k0) (by omega) (by omega)
  have b2 := rr_bd h h0
  have e4 := oW_rt (tb := [(0, B_Ratio___mul__)]) (p := pMul) rfl (rk_R (.rt (rr K O)) []) (mul_R (.rt (rr K O)) (h.sb.mono (by omega : k ≤ 3 * k)) b2 (by omega) (by omega))
  have e5 := oW_rt (tb := [(0, B_Ratio___mul__)]) (p := pMul) rfl (rk_R (.rt (rr K O)) []) (mul_R (.rt (rr K O)) (h.sb.mul2 b2) (b2.mono (by omega)) (by omega) (by omega))
  have er : (if O / K < 1 then 1 / (O / K) else O / K) = rr K O := rfl
  generalize rr K O = R at *
  generalize O / K = Q at *
  have e2 : B_Ratio_is_below [rt Q, .int 1] = .ok (.bl (decide (Q < 1))) [none, none] := e2
  by_cases hq : Q < 1
  · rw [if_pos hq] at er
    rw [er] at e3
    simp [B_echo_beats, mkB, b_echo_beats, n, of_R hy, of_R hz, e1, e2, e3, new1, hq, e4, e5]
  · rw [if_neg hq] at er
    subst er
    simp [B_echo_beats, mkB, b_echo_beats, n, of_R hy, of_R hz, e1, e2, new1, hq, e4, e5]
theorem middle_ok {x y z : D} {k : Nat} {K O S : Rat} (hx : IsR x K) (hy : IsR y O) (hz : IsR z S) (h : Bt k K O S) (h0 : 0 < k) (hk : k ≤ 250) : B_middle_beats [x, y, z] = .ok (rt ((S * rr K O * rr K O + S) * hf)) [none, none, none] := by
  have e := echo_ok hx hy hz h h0 (by omega)
  have b2 := rr_bd h h0
  have b3 := (h.sb.mul2 b2).mul2 b2
  have e1 := oW_rt (tb := [(0, B_Ratio___add__)]) (p := pAdd) rfl (rk_R hz []) (add_R hz b3 (h.sb.mono (by omega)) (by omega) (by omega))
  have e2 := oW_rt (tb := [(0, B_Ratio___mul__)]) (p := pMul) rfl (rk_R (.rt hf) []) (mul_R (.rt hf) (b3.add2 h.sb) (hf_bd.mono (by omega)) (by omega) (by omega))
  generalize S * rr K O * rr K O = Q at *
  simp [B_middle_beats, mkB, b_middle_beats, e, e1, e2, new2]
end Kw

namespace Kw
open PySem PySem.Spec PyProof.Rows L2 Z
theorem cast_pos {a : Int} (h : 0 < a) : (0 : Rat) < (a : Rat) := Rat.intCast_pos.mpr h
theorem di_mul {a b : Int} (h : 0 < b) : Rat.divInt a b * (b : Rat) = (a : Rat) := by
  have := cast_pos h
  rw [Rat.divInt_eq_div]
  grind
theorem di_lt {a b c d : Int} (hb : 0 < b) (hd : 0 < d) : Rat.divInt a b < Rat.divInt c d ↔ a * d < c * b := by
  have p1 := cast_pos hb
  have p2 := cast_pos hd
  have e1 := di_mul (a := a) hb
  have e2 := di_mul (a := c) hd
  rw [← Rat.intCast_lt_intCast, Rat.intCast_mul, Rat.intCast_mul, ← e1, ← e2]
  have p3 : (0 : Rat) < (b : Rat) * (d : Rat) := Rat.mul_pos p1 p2
  constructor
  · intro h
    have := Rat.mul_lt_mul_of_pos_right h p3
    grind
  · intro h
    apply Rat.not_le.mp
    intro z
    have := Rat.mul_le_mul_of_nonneg_right z (Rat.le_of_lt p3)
    grind
theorem di_pos {a b : Int} (ha : 0 < a) (hb : 0 < b) : 0 < Rat.divInt a b := by
  have h := (di_lt (a := 0) (b := 1) (c := a) (d := b) (by decide) hb).mpr (by omega)
  rwa [Rat.zero_divInt] at h
theorem di_nn {a b : Int} (ha : 0 ≤ a) (hb : 0 < b) : 0 ≤ Rat.divInt a b := by
  by_cases z : a = 0
  · rw [z, Rat.zero_divInt]; exact Rat.le_refl
  · exact Rat.le_of_lt (di_pos (by omega) hb)
theorem di_right {a b c d e f : Int} (ha : 0 < a) (hb : 0 < b) (hc : 0 < c) (hd : 0 < d) (hf : 0 < f) : Rat.divInt (e * c * b) (f * d * a) = Rat.divInt e f * Rat.divInt c d * (1 / Rat.divInt a b) := by
  have h1 := cast_pos ha
  have h2 := cast_pos hb
  have h3 := cast_pos hc
  have h4 := cast_pos hd
  have h5 := cast_pos hf
  simp only [Rat.divInt_eq_div, Rat.intCast_mul]
  grind
theorem di_left {a b c d e f : Int} (ha : 0 < a) (hb : 0 < b) (hc : 0 < c) (hd : 0 < d) (hf : 0 < f) : Rat.divInt (e * a * d) (f * b * c) = Rat.divInt e f * Rat.divInt a b * (1 / Rat.divInt c d) := by
  have h1 := cast_pos ha
  have h2 := cast_pos hb
  have h3 := cast_pos hc
  have h4 := cast_pos hd
  have h5 := cast_pos hf
  simp only [Rat.divInt_eq_div, Rat.intCast_mul]
  grind
theorem lt_div {a b c : Rat} (hb : 0 < b) : a / b < c ↔ a < c * b := by
  have e : a / b * b = a := by grind
  constructor
  · intro h
    have := Rat.mul_lt_mul_of_pos_right h hb
    grind
  · intro h
    apply Rat.not_le.mp
    intro z
    have := Rat.mul_le_mul_of_nonneg_right z (Rat.le_of_lt hb)
    grind
theorem rr_le {K O : Rat} (hk : 0 < K) (ho : 0 < O) (h : K ≤ O) : rr K O = O / K := by
  unfold rr
  rw [if_neg]
  rw [lt_div hk]
  grind
theorem rr_gt {K O : Rat} (hk : 0 < K) (ho : 0 < O) (h : O < K) : rr K O = K / O := by
  unfold rr
  rw [if_pos]
  · grind
  · rw [lt_div hk]
    grind
theorem rr_sym {K O : Rat} (hk : 0 < K) (ho : 0 < O) : rr O K = rr K O := by
  by_cases h : K < O
  · rw [rr_le hk ho (Rat.le_of_lt h), rr_gt ho hk h]
  · by_cases h2 : O < K
    · rw [rr_le ho hk (Rat.le_of_lt h2), rr_gt hk ho h2]
    · have e : K = O := by grind
      rw [e]
theorem rr_one {K O : Rat} (hk : 0 < K) (ho : 0 < O) : 1 ≤ rr K O := by
  by_cases h : K ≤ O
  · rw [rr_le hk ho h]
    apply Rat.not_lt.mp
    rw [lt_div hk]
    grind
  · have h : O < K := Rat.not_le.mp h
    rw [rr_gt hk ho h]
    apply Rat.not_lt.mp
    rw [lt_div ho]
    grind
theorem U_ge {K O S : Rat} (hk : 0 < K) (ho : 0 < O) (hs : 0 ≤ S) : ¬ S * rr K O * rr K O < S := by
  have h := rr_one hk ho
  generalize rr K O = r at *
  have h1 : 0 ≤ S * (r - 1) := Rat.mul_nonneg hs (by grind)
  have h2 : 0 ≤ S * (r - 1) * r := Rat.mul_nonneg h1 (by grind)
  grind
def sr1 : M Fl := (sPar [gN 3, gN 4, gN 5] (aCons (eNd 0 B_Ratio___init__ [] (aCons (eB (oP pIx) (eV 0) (eK (.int 0))) (aCons (eB (oP pIx) (eV 0) (eK (.int 1))) aNil))) (aCons (eNd 0 B_Ratio___init__ [] (aCons (eB (oP pIx) (eV 1) (eK (.int 0))) (aCons (eB (oP pIx) (eV 1) (eK (.int 1))) aNil))) (aCons (eNd 0 B_Ratio___init__ [] (aCons (eB (oP pIx) (eV 2) (eK (.int 0))) (aCons (eB (oP pIx) (eV 2) (eK (.int 1))) aNil))) aNil))))
def sr2 : M Fl := (sAs 6 (eNd 0 B_Ratio___init__ [] (aCons (eB (oW [(0, B_Ratio___mul__)] ["int"] [0] pMul) (eB (oW [(0, B_Ratio___mul__)] ["int"] [0] pMul) (eB (oP pIx) (eV 2) (eK (.int 0))) (eB (oP pIx) (eV 1) (eK (.int 0)))) (eB (oP pIx) (eV 0) (eK (.int 1)))) (aCons (eB (oW [(0, B_Ratio___mul__)] ["int"] [0] pMul) (eB (oW [(0, B_Ratio___mul__)] ["int"] [0] pMul) (eB (oP pIx) (eV 2) (eK (.int 1))) (eB (oP pIx) (eV 1) (eK (.int 1)))) (eB (oP pIx) (eV 0) (eK (.int 0)))) aNil))))
def sr3 : M Fl := (sAs 7 (eNd 0 B_Ratio___init__ [] (aCons (eB (oW [(0, B_Ratio___mul__)] ["int"] [0] pMul) (eB (oW [(0, B_Ratio___mul__)] ["int"] [0] pMul) (eB (oP pIx) (eV 2) (eK (.int 0))) (eB (oP pIx) (eV 0) (eK (.int 0)))) (eB (oP pIx) (eV 1) (eK (.int 1)))) (aCons (eB (oW [(0, B_Ratio___mul__)] ["int"] [0] pMul) (eB (oW [(0, B_Ratio___mul__)] ["int"] [0] pMul) (eB (oP pIx) (eV 2) (eK (.int 1))) (eB (oP pIx) (eV 0) (eK (.int 1)))) (eB (oP pIx) (eV 1) (eK (.int 0)))) aNil))))
def sr4 : M Fl := (sIf (tOn (tV (eB (oNW [(0, B_Ratio___eq__)] ["int"] [0] pNe) (eCk B_beats_right 0 3 [2, 1, 0] [] aNil (aCons (eV 5) (aCons (eV 4) (aCons (eV 3) aNil)))) (eV 6))) (tV (eB (oNW [(0, B_Ratio___eq__)] ["int"] [0] pNe) (eCk B_beats_left 0 3 [0, 1, 2] [] aNil (aCons (eV 3) (aCons (eV 4) (aCons (eV 5) aNil)))) (eV 7)))) (sRet (eK (.bl false))) sNil)
def sr5 : M Fl := (sIf (tOn (tV (eB (oNW [(0, B_Ratio___eq__)] ["int"] [0] pNe) (eCd B_beats_right [] (aCons (eV 4) (aCons (eV 3) (aCons (eV 6) aNil)))) (eV 5))) (tOn (tV (eB (oNW [(0, B_Ratio___eq__)] ["int"] [0] pNe) (eCd B_beats_left [] (aCons (eV 4) (aCons (eV 3) (aCons (eV 7) aNil)))) (eV 5))) (tV (eB (oNW [(0, B_Ratio___eq__)] ["int"] [0] pNe) (eCd B_beats_left [] (aCons (eV 4) (aCons (eV 3) (aCons (eV 5) aNil)))) (eV 6))))) (sRet (eK (.bl false))) sNil)
def sr6 : M Fl := (sAs 8 (eB (oP pLe) (eB (oW [(0, B_Ratio___mul__)] ["int"] [0] pMul) (eB (oP pIx) (eV 0) (eK (.int 0))) (eB (oP pIx) (eV 1) (eK (.int 1)))) (eB (oW [(0, B_Ratio___mul__)] ["int"] [0] pMul) (eB (oP pIx) (eV 1) (eK (.int 0))) (eB (oP pIx) (eV 0) (eK (.int 1))))))
def sr7 : M Fl := (sAs 9 (eIf (tV (eV 8)) (eCd B_beats_left [] (aCons (eV 4) (aCons (eV 3) (aCons (eV 6) aNil)))) (eCd B_beats_right [] (aCons (eV 4) (aCons (eV 3) (aCons (eV 7) aNil))))))
def sr8 : M Fl := (sIf (tOn (tV (eB (oNW [(0, B_Ratio___eq__)] ["int"] [0] pNe) (eCd B_echo_beats [] (aCons (eV 3) (aCons (eV 4) (aCons (eV 5) aNil)))) (eV 9))) (tOn (tV (eB (oNW [(0, B_Ratio___eq__)] ["int"] [0] pNe) (eCd B_echo_beats [] (aCons (eV 4) (aCons (eV 3) (aCons (eV 5) aNil)))) (eV 9))) (tV (eMd [(0, B_Ratio_is_below)] [] (eV 9) (aCons (eV 5) aNil))))) (sRet (eK (.bl false))) sNil)
def sr9 : M Fl := (sAs 10 (eCk B_middle_beats 0 3 [2, 0, 1] [] aNil (aCons (eV 4) (aCons (eV 5) (aCons (eV 3) aNil)))))
def sr10 : M Fl := (sIf (tV (eB (oNW [(0, B_Ratio___eq__)] ["int"] [0] pNe) (eLc [11] (itL (eN pTup (aCons (eCd B_beats_right [] (aCons (eK (.int 2)) (aCons (eK (.int 1)) (aCons (eK (.int 4)) aNil)))) (aCons (eCd B_beats_left [] (aCons (eK (.int 1)) (aCons (eK (.int 2)) (aCons (eK (.int 4)) aNil)))) (aCons (eCd B_echo_beats [] (aCons (eK (.int 1)) (aCons (eK (.int 1)) (aCons (eK (.int 3)) aNil)))) (aCons (eV 10) aNil)))))) (gN 11) (tNo (tV (eIsi (kO [(0, true)]) (eV 11)))) (eV 11)) (eN pLst aNil))) (sRet (eK (.bl false))) sNil)
def sr11 : M Fl := (sRet (eAnd (eB (oET [(0, B_Ratio___eq__)] ["int"] [0]) (eB (oW [(0, B_Ratio___mul__)] ["int"] [0] pMul) (eV 10) (eK (.int 2))) (eB (oW [(0, B_Ratio___add__)] ["int"] [0] pAdd) (eV 9) (eV 5))) (eB (oET [(0, B_Ratio___eq__)] ["int"] [0]) (eCk B_echo_beats 0 3 [0, 2, 1] [] aNil (aCons (eV 3) (aCons (eB (oW [(0, B_Ratio___mul__)] ["int"] [0] pMul) (eV 5) (eK (.int 2))) (aCons (eV 4) aNil)))) (eB (oW [(0, B_Ratio___mul__)] ["int"] [0] pMul) (eV 9) (eK (.int 2))))))
theorem srs : b__law_sums_right = (sSeq sr1 (sSeq sr2 (sSeq sr3 (sSeq sr4 (sSeq sr5 (sSeq sr6 (sSeq sr7 (sSeq sr8 (sSeq sr9 (sSeq sr10 sr11)))))))))) := rfl
theorem new_ri {a b : Int} {Q : Rat} (hb : 0 < b) (hb2 : b.natAbs < 2 ^ 100) (e : Rat.divInt a b = Q) : B_Ratio___init__ [.ob 0 [], .int a, .int b] = .ok .non [some (rt Q), none, none] := by
  have z := B_ratio (n := a) (d := b) hb (Nat.lt_of_lt_of_le hb2 (Nat.pow_le_pow_right (by omega) (by omega)))
  rwa [e] at z
abbrev fr (a b : Int) : D := .tup [.int a, .int b]
theorem sr1_ok {a b c d e f : Int} {K O S : Rat} (hK : B_Ratio___init__ [.ob 0 [], .int a, .int b] = .ok .non [some (rt K), none, none]) (hO : B_Ratio___init__ [.ob 0 [], .int c, .int d] = .ok .non [some (rt O), none, none]) (hS : B_Ratio___init__ [.ob 0 [], .int e, .int f] = .ok .non [some (rt S), none, none]) (n : Option D) :
    sr1 [some (fr a b), some (fr c d), some (fr e f), n, n, n, n, n, n, n, n, n] = .ok .nx [some (fr a b), some (fr c d), some (fr e f), some (rt K), some (rt O), some (rt S), n, n, n, n, n, n] := by
  simp [sr1, hK, hO, hS, gTs]
theorem sr2_ok {a b c d e f x y : Int} {R : Rat} {r3 r4 r5 : Option D} (m1 : mulB e c = true) (m2 : mulB (e * c) b = true) (m3 : mulB f d = true) (m4 : mulB (f * d) a = true) (h : B_Ratio___init__ [.ob 0 [], .int (e * c * b), .int (f * d * a)] = .ok .non [some (rt R), none, none]) (n : Option D) :
    sr2 [some (fr a b), some (fr c d), some (fr e f), r3, r4, r5, n, n, n, n, n, n] = .ok .nx [some (fr a b), some (fr c d), some (fr e f), r3, r4, r5, some (rt R), n, n, n, n, n] := by
  simp [sr2, oW_int, pMul_int m1, pMul_int m2, pMul_int m3, pMul_int m4, h]
theorem sr3_ok {a b c d e f : Int} {R : Rat} {r3 r4 r5 r6 : Option D} (m1 : mulB e a = true) (m2 : mulB (e * a) d = true) (m3 : mulB f b = true) (m4 : mulB (f * b) c = true) (h : B_Ratio___init__ [.ob 0 [], .int (e * a * d), .int (f * b * c)] = .ok .non [some (rt R), none, none]) (n : Option D) :
    sr3 [some (fr a b), some (fr c d), some (fr e f), r3, r4, r5, r6, n, n, n, n, n] = .ok .nx [some (fr a b), some (fr c d), some (fr e f), r3, r4, r5, r6, some (rt R), n, n, n, n] := by
  simp [sr3, oW_int, pMul_int m1, pMul_int m2, pMul_int m3, pMul_int m4, h]
theorem sr4_ok {K O S R L : Rat} {r0 r1 r2 : Option D} (h1 : B_beats_right [rt K, rt O, rt S] = .ok (rt R) [none, none, none]) (h2 : B_beats_left [rt K, rt O, rt S] = .ok (rt L) [none, none, none]) (n : Option D) :
    sr4 [r0, r1, r2, some (rt K), some (rt O), some (rt S), some (rt R), some (rt L), n, n, n, n] = .ok .nx [r0, r1, r2, some (rt K), some (rt O), some (rt S), some (rt R), some (rt L), n, n, n, n] := by
  simp [sr4, permL, h1, h2, ne_rt]
theorem sr5_ok {K O S R L : Rat} {r0 r1 r2 : Option D} (h1 : B_beats_right [rt O, rt K, rt R] = .ok (rt S) [none, none, none]) (h2 : B_beats_left [rt O, rt K, rt L] = .ok (rt S) [none, none, none]) (h3 : B_beats_left [rt O, rt K, rt S] = .ok (rt R) [none, none, none]) (n : Option D) :
    sr5 [r0, r1, r2, some (rt K), some (rt O), some (rt S), some (rt R), some (rt L), n, n, n, n] = .ok .nx [r0, r1, r2, some (rt K), some (rt O), some (rt S), some (rt R), some (rt L), n, n, n, n] := by
  simp [sr5, h1, h2, h3, ne_rt]
theorem sr6_ok {a b c d : Int} {r2 r3 r4 r5 r6 r7 : Option D} (m1 : mulB a d = true) (m2 : mulB c b = true) (n : Option D) :
    sr6 [some (fr a b), some (fr c d), r2, r3, r4, r5, r6, r7, n, n, n, n] = .ok .nx [some (fr a b), some (fr c d), r2, r3, r4, r5, r6, r7, some (.bl (decide (a * d ≤ c * b))), n, n, n] := by
  simp [sr6, oW_int, pMul_int m1, pMul_int m2]
theorem sr7_ok {K O U R L : Rat} {r0 r1 r2 r5 : Option D} {q : Bool} (h1 : q = true → B_beats_left [rt O, rt K, rt R] = .ok (rt U) [none, none, none]) (h2 : q = false → B_beats_right [rt O, rt K, rt L] = .ok (rt U) [none, none, none]) (n : Option D) :
    sr7 [r0, r1, r2, some (rt K), some (rt O), r5, some (rt R), some (rt L), some (.bl q), n, n, n] = .ok .nx [r0, r1, r2, some (rt K), some (rt O), r5, some (rt R), some (rt L), some (.bl q), some (rt U), n, n] := by
  cases q with
  | true => simp [sr7, h1]
  | false => simp [sr7, h2]
theorem sr8_ok {K O S U : Rat} {r0 r1 r2 r6 r7 r8 : Option D} (h1 : B_echo_beats [rt K, rt O, rt S] = .ok (rt U) [none, none, none]) (h2 : B_echo_beats [rt O, rt K, rt S] = .ok (rt U) [none, none, none]) (h3 : B_Ratio_is_below [rt U, rt S] = .ok (.bl false) [none, none]) (n : Option D) :
    sr8 [r0, r1, r2, some (rt K), some (rt O), some (rt S), r6, r7, r8, some (rt U), n, n] = .ok .nx [r0, r1, r2, some (rt K), some (rt O), some (rt S), r6, r7, r8, some (rt U), n, n] := by
  simp [sr8, h1, h2, h3, ne_rt]
theorem sr9_ok {K O S M : Rat} {r0 r1 r2 r6 r7 r8 r9 : Option D} (h1 : B_middle_beats [rt K, rt O, rt S] = .ok (rt M) [none, none, none]) (n : Option D) :
    sr9 [r0, r1, r2, some (rt K), some (rt O), some (rt S), r6, r7, r8, r9, n, n] = .ok .nx [r0, r1, r2, some (rt K), some (rt O), some (rt S), r6, r7, r8, r9, some (rt M), n] := by
  simp [sr9, permL, h1]
theorem sr10_ok {M A B C : Rat} {r0 r1 r2 r3 r4 r5 r6 r7 r8 r9 : Option D} (h1 : B_beats_right [.int 2, .int 1, .int 4] = .ok (rt A) [none, none, none]) (h2 : B_beats_left [.int 1, .int 2, .int 4] = .ok (rt B) [none, none, none]) (h3 : B_echo_beats [.int 1, .int 1, .int 3] = .ok (rt C) [none, none, none]) :
    sr10 [r0, r1, r2, r3, r4, r5, r6, r7, r8, r9, some (rt M), none] = .ok .nx [r0, r1, r2, r3, r4, r5, r6, r7, r8, r9, some (rt M), none] := by
  simp [sr10, h1, h2, h3, kO, itemsOf, lcGo, lcOut, wipeE, backE, oNW_lst, pNe_none, show 4 ≤ big by unfold big; omega]
theorem sr11_ok {K O S U M : Rat} {r0 r1 r2 r6 r7 r8 r11 : Option D} (h1 : B_Ratio___mul__ [rt M, .int 2] = .ok (rt (U + S)) [none, none]) (h2 : B_Ratio___add__ [rt U, rt S] = .ok (rt (U + S)) [none, none]) (h3 : B_Ratio___mul__ [rt S, .int 2] = .ok (rt (S * 2)) [none, none]) (h4 : B_echo_beats [rt K, rt O, rt (S * 2)] = .ok (rt (U * 2)) [none, none, none]) (h5 : B_Ratio___mul__ [rt U, .int 2] = .ok (rt (U * 2)) [none, none]) :
    sr11 [r0, r1, r2, some (rt K), some (rt O), some (rt S), r6, r7, r8, some (rt U), some (rt M), r11] = .ok (.rt (.bl true)) [r0, r1, r2, some (rt K), some (rt O), some (rt S), r6, r7, r8, some (rt U), some (rt M), r11] := by
  have w1 := oW_rt (tb := [(0, B_Ratio___mul__)]) (p := pMul) rfl (rk_R (.int 2) []) h1
  have w2 := oW_rt (tb := [(0, B_Ratio___add__)]) (p := pAdd) rfl (rk_R (.rt S) []) h2
  have w3 := oW_rt (tb := [(0, B_Ratio___mul__)]) (p := pMul) rfl (rk_R (.int 2) []) h3
  have w5 := oW_rt (tb := [(0, B_Ratio___mul__)]) (p := pMul) rfl (rk_R (.int 2) []) h5
  simp [sr11, w1, w2, w3, w5, permL, h4, et_rt]
end Kw

namespace Kw
open PySem PySem.Spec PyProof.Rows L2 Z
theorem abs_lt_of {a K : Int} {k : Nat} (h0 : 0 ≤ a) (h1 : a ≤ K) (hK : K < 2 ^ k) : a.natAbs < 2 ^ k := by
  have h := Int.lt_of_le_of_lt h1 hK
  have e : ((a.natAbs : Nat) : Int) = a := Int.natAbs_of_nonneg h0
  have e2 : ((2 ^ k : Nat) : Int) = 2 ^ k := Int.natCast_pow 2 k
  exact Int.ofNat_lt.mp (by rw [e, e2]; exact h)
structure TOk (a b c d e f : Int) : Prop where
  a0 : 0 < a
  a1 : a ≤ 999
  b0 : 0 < b
  b1 : b ≤ 999
  c0 : 0 < c
  c1 : c ≤ 999
  d0 : 0 < d
  d1 : d ≤ 999
  e0 : 0 ≤ e
  e1 : e ≤ 999
  f0 : 0 < f
  f1 : f ≤ 999
section
variable {a b c d e f : Int}
theorem TOk.lt (h : TOk a b c d e f) : a.natAbs < 2 ^ 10 ∧ b.natAbs < 2 ^ 10 ∧ c.natAbs < 2 ^ 10 ∧ d.natAbs < 2 ^ 10 ∧ e.natAbs < 2 ^ 10 ∧ f.natAbs < 2 ^ 10 :=
  ⟨abs_lt_of (by have := h.a0; omega) h.a1 (by decide), abs_lt_of (by have := h.b0; omega) h.b1 (by decide), abs_lt_of (by have := h.c0; omega) h.c1 (by decide), abs_lt_of (by have := h.d0; omega) h.d1 (by decide), abs_lt_of h.e0 h.e1 (by decide), abs_lt_of (by have := h.f0; omega) h.f1 (by decide)⟩
theorem TOk.bt (h : TOk a b c d e f) : Bt 10 (Rat.divInt a b) (Rat.divInt c d) (Rat.divInt e f) :=
  let ⟨ha, hb, hc, hd, he, hf⟩ := h.lt
  ⟨di_pos h.a0 h.b0, di_pos h.c0 h.d0, di_nn h.e0 h.f0, Bd.of h.b0 ha hb, Bd.of h.d0 hc hd, Bd.of h.f0 he hf⟩
theorem mulB10 {i j : Int} {k m : Nat} (hi : i.natAbs < 2 ^ k) (hj : j.natAbs < 2 ^ m) (hk : 0 < k ∧ k ≤ 100) (hm : 0 < m ∧ m ≤ 100) : mulB i j = true := mulB_both hi hj hk.1 hm.1 (by omega) (by omega)
/-- the numbers of a turn, by themselves -/
structure Bs (K O S R L U M : Rat) : Prop where
  h1 : B_beats_right [rt K, rt O, rt S] = .ok (rt R) [none, none, none]
  h2 : B_beats_left [rt K, rt O, rt S] = .ok (rt L) [none, none, none]
  h3 : B_beats_right [rt O, rt K, rt R] = .ok (rt S) [none, none, none]
  h4 : B_beats_left [rt O, rt K, rt L] = .ok (rt S) [none, none, none]
  h5 : B_beats_left [rt O, rt K, rt S] = .ok (rt R) [none, none, none]
  h6 : K ≤ O → B_beats_left [rt O, rt K, rt R] = .ok (rt U) [none, none, none]
  h7 : O < K → B_beats_right [rt O, rt K, rt L] = .ok (rt U) [none, none, none]
  h8 : B_echo_beats [rt K, rt O, rt S] = .ok (rt U) [none, none, none]
  h9 : B_echo_beats [rt O, rt K, rt S] = .ok (rt U) [none, none, none]
  h10 : B_Ratio_is_below [rt U, rt S] = .ok (.bl false) [none, none]
  h11 : B_middle_beats [rt K, rt O, rt S] = .ok (rt M) [none, none, none]
  h12 : B_Ratio___mul__ [rt M, .int 2] = .ok (rt (U + S)) [none, none]
  h13 : B_Ratio___add__ [rt U, rt S] = .ok (rt (U + S)) [none, none]
  h14 : B_Ratio___mul__ [rt S, .int 2] = .ok (rt (S * 2)) [none, none]
  h15 : B_echo_beats [rt K, rt O, rt (S * 2)] = .ok (rt (U * 2)) [none, none, none]
  h16 : B_Ratio___mul__ [rt U, .int 2] = .ok (rt (U * 2)) [none, none]
theorem c2 : ((2 : Int) : Rat) = 2 := rfl
theorem bs_ok {K O S : Rat} (h : Bt 10 K O S) : Bs K O S (S * O * (1 / K)) (S * K * (1 / O)) (S * rr K O * rr K O) ((S * rr K O * rr K O + S) * hf) := by
  have k0 := h.k0
  have o0 := h.o0
  have b1 : Bd 10 (1 : Rat) := Bd.one (by omega)
  have bR : Bd 40 (S * O * (1 / K)) := ((h.sb.mul2 h.ob).mul2 (b1.div2 h.kb h.k0)).mono (by omega)
  have bL : Bd 40 (S * K * (1 / O)) := ((h.sb.mul2 h.kb).mul2 (b1.div2 h.ob h.o0)).mono (by omega)
  have sR : 0 ≤ S * O * (1 / K) := Rat.mul_nonneg (Rat.mul_nonneg h.s0 (Rat.le_of_lt h.o0)) (Rat.le_of_lt (qpos (by decide) h.k0))
  have sL : 0 ≤ S * K * (1 / O) := Rat.mul_nonneg (Rat.mul_nonneg h.s0 (Rat.le_of_lt h.k0)) (Rat.le_of_lt (qpos (by decide) h.o0))
  have tR : Bt 40 O K (S * O * (1 / K)) := ⟨h.o0, h.k0, sR, h.ob.mono (by omega), h.kb.mono (by omega), bR⟩
  have tL : Bt 40 O K (S * K * (1 / O)) := ⟨h.o0, h.k0, sL, h.ob.mono (by omega), h.kb.mono (by omega), bL⟩
  have tS : Bt 10 O K S := ⟨h.o0, h.k0, h.s0, h.ob, h.kb, h.sb⟩
  have b2 : Bd 10 (2 : Rat) := ⟨by decide +kernel, by decide +kernel⟩
  have t2 : Bt 20 K O (S * 2) := ⟨h.k0, h.o0, Rat.mul_nonneg h.s0 (by decide), h.kb.mono (by omega), h.ob.mono (by omega), h.sb.mul2 b2⟩
  have br := rr_bd h (by omega)
  have bU := (h.sb.mul2 br).mul2 br
  have bM := (bU.add2 h.sb).mul2 hf_bd
  have e9 := echo_ok (.rt O) (.rt K) (.rt S) tS (by omega) (by omega)
  rw [rr_sym h.k0 h.o0] at e9
  have e10 := below_R (.rt S) bU (h.sb.mono (by omega)) (by omega) (by omega)
  rw [decide_eq_false (U_ge h.k0 h.o0 h.s0)] at e10
  have e15 := echo_ok (.rt K) (.rt O) (.rt (S * 2)) t2 (by omega) (by omega)
  have e12 := mul_R (.int 2) bM (b2.mono (by omega)) (by omega) (by omega)
  have e14 := mul_R (.int 2) h.sb (b2.mono (by omega)) (by omega) (by omega)
  have e16 := mul_R (.int 2) bU (b2.mono (by omega)) (by omega) (by omega)
  refine ⟨right_ok (.rt K) (.rt O) (.rt S) h (by omega) (by omega), left_ok (.rt K) (.rt O) (.rt S) h (by omega) (by omega), ?_, ?_, left_ok (.rt O) (.rt K) (.rt S) tS (by omega) (by omega), fun hl => ?_, fun hl => ?_, echo_ok (.rt K) (.rt O) (.rt S) h (by omega) (by omega), e9, e10, middle_ok (.rt K) (.rt O) (.rt S) h (by omega) (by omega), ?_, add_R (.rt S) bU (h.sb.mono (by omega)) (by omega) (by omega), e14, ?_, e16⟩
  · have e := right_ok (.rt O) (.rt K) (.rt (S * O * (1 / K))) tR (by omega) (by omega)
    rwa [show S * O * (1 / K) * K * (1 / O) = S by grind] at e
  · have e := left_ok (.rt O) (.rt K) (.rt (S * K * (1 / O))) tL (by omega) (by omega)
    rwa [show S * K * (1 / O) * O * (1 / K) = S by grind] at e
  · have e := left_ok (.rt O) (.rt K) (.rt (S * O * (1 / K))) tR (by omega) (by omega)
    rw [rr_le h.k0 h.o0 hl]
    rwa [show S * O * (1 / K) * O * (1 / K) = S * (O / K) * (O / K) by grind] at e
  · have e := right_ok (.rt O) (.rt K) (.rt (S * K * (1 / O))) tL (by omega) (by omega)
    rw [rr_gt h.k0 h.o0 hl]
    rwa [show S * K * (1 / O) * K * (1 / O) = S * (K / O) * (K / O) by grind] at e
  · have q : (S * rr K O * rr K O + S) * hf * 2 = S * rr K O * rr K O + S := by rw [hf_eq]; grind
    rw [c2, q] at e12
    exact e12
  · rwa [show S * 2 * rr K O * rr K O = S * rr K O * rr K O * 2 by grind] at e15
theorem keepE3 (r0 r1 r2 : Option D) (l : List (Option D)) : keepE [] 3 (r0 :: r1 :: r2 :: l) = [none, none, none] := rfl
theorem sums_run {K O S R L U M A B C : Rat} (hq : a * d ≤ c * b ↔ K ≤ O) (B0 : Bs K O S R L U M) (hK : B_Ratio___init__ [.ob 0 [], .int a, .int b] = .ok .non [some (rt K), none, none]) (hO : B_Ratio___init__ [.ob 0 [], .int c, .int d] = .ok .non [some (rt O), none, none]) (hS : B_Ratio___init__ [.ob 0 [], .int e, .int f] = .ok .non [some (rt S), none, none])
    (m1 : mulB e c = true) (m2 : mulB (e * c) b = true) (m3 : mulB f d = true) (m4 : mulB (f * d) a = true) (hR : B_Ratio___init__ [.ob 0 [], .int (e * c * b), .int (f * d * a)] = .ok .non [some (rt R), none, none])
    (n1 : mulB e a = true) (n2 : mulB (e * a) d = true) (n3 : mulB f b = true) (n4 : mulB (f * b) c = true) (hL : B_Ratio___init__ [.ob 0 [], .int (e * a * d), .int (f * b * c)] = .ok .non [some (rt L), none, none]) (p1 : mulB a d = true) (p2 : mulB c b = true)
    (k1 : B_beats_right [.int 2, .int 1, .int 4] = .ok (rt A) [none, none, none]) (k2 : B_beats_left [.int 1, .int 2, .int 4] = .ok (rt B) [none, none, none]) (k3 : B_echo_beats [.int 1, .int 1, .int 3] = .ok (rt C) [none, none, none]) :
    B__law_sums_right [fr a b, fr c d, fr e f] = .ok (.bl true) [none, none, none] := by
  have s7 := sr7_ok (K := K) (O := O) (U := U) (R := R) (L := L) (r0 := some (fr a b)) (r1 := some (fr c d)) (r2 := some (fr e f)) (r5 := some (rt S)) (q := decide (a * d ≤ c * b)) (fun h => B0.h6 (hq.mp (of_decide_eq_true h))) (fun h => B0.h7 (Rat.not_le.mp fun z => of_decide_eq_false h (hq.mpr z))) none
  have run := sSeq_nx (g := sSeq sr2 (sSeq sr3 (sSeq sr4 (sSeq sr5 (sSeq sr6 (sSeq sr7 (sSeq sr8 (sSeq sr9 (sSeq sr10 sr11))))))))) (sr1_ok hK hO hS none)
  rw [sSeq_nx (sr2_ok (x := 0) (y := 0) m1 m2 m3 m4 hR none), sSeq_nx (sr3_ok n1 n2 n3 n4 hL none), sSeq_nx (sr4_ok B0.h1 B0.h2 none), sSeq_nx (sr5_ok B0.h3 B0.h4 B0.h5 none), sSeq_nx (sr6_ok p1 p2 none), sSeq_nx s7, sSeq_nx (sr8_ok B0.h8 B0.h9 B0.h10 none), sSeq_nx (sr9_ok B0.h11 none), sSeq_nx (sr10_ok k1 k2 k3), sr11_ok B0.h12 B0.h13 B0.h14 B0.h15 B0.h16] at run
  have z : mkB 3 12 [] _ [fr a b, fr c d, fr e f] = _ := mkB_run (n := 3) (m := 12) (io := []) (r0 := [some (fr a b), some (fr c d), some (fr e f), none, none, none, none, none, none, none, none, none]) rfl rfl run
  rw [keepE3] at z
  rw [B__law_sums_right, srs]
  exact z
theorem sums_ok (h : TOk a b c d e f) : B__law_sums_right [fr a b, fr c d, fr e f] = .ok (.bl true) [none, none, none] := by
  obtain ⟨ha, hb, hc, hd, he, hf⟩ := h.lt
  have bt := h.bt
  have up : ∀ {i : Int} {k : Nat}, i.natAbs < 2 ^ k → k ≤ 100 → i.natAbs < 2 ^ 100 := fun hi hk => Nat.lt_of_lt_of_le hi (Nat.pow_le_pow_right (by omega) hk)
  have tc : ∀ {x y z : Int}, 0 < x → 0 < y → 0 ≤ z → x.natAbs < 2 ^ 10 → y.natAbs < 2 ^ 10 → z.natAbs < 2 ^ 10 → Bt 10 ((x : Int) : Rat) ((y : Int) : Rat) ((z : Int) : Rat) := fun {x y z} hx hy hz h1 h2 h3 =>
    ⟨cast_pos hx, cast_pos hy, (Rat.intCast_nonneg).mpr hz, ⟨h1, by show 1 < _; decide⟩, ⟨h2, by show 1 < _; decide⟩, ⟨h3, by show 1 < _; decide⟩⟩
  refine sums_run (K := Rat.divInt a b) (O := Rat.divInt c d) (S := Rat.divInt e f) ?_ (bs_ok bt) (new_ri h.b0 (up hb (by omega)) rfl) (new_ri h.d0 (up hd (by omega)) rfl) (new_ri h.f0 (up hf (by omega)) rfl)
    (mulB10 he hc (by omega) (by omega)) (mulB10 (abs_mul_lt he hc) hb (by omega) (by omega)) (mulB10 hf hd (by omega) (by omega)) (mulB10 (abs_mul_lt hf hd) ha (by omega) (by omega)) (new_ri (Int.mul_pos (Int.mul_pos h.f0 h.d0) h.a0) (up (abs_mul_lt (abs_mul_lt hf hd) ha) (by omega)) (di_right h.a0 h.b0 h.c0 h.d0 h.f0))
    (mulB10 he ha (by omega) (by omega)) (mulB10 (abs_mul_lt he ha) hd (by omega) (by omega)) (mulB10 hf hb (by omega) (by omega)) (mulB10 (abs_mul_lt hf hb) hc (by omega) (by omega)) (new_ri (Int.mul_pos (Int.mul_pos h.f0 h.b0) h.c0) (up (abs_mul_lt (abs_mul_lt hf hb) hc) (by omega)) (di_left h.a0 h.b0 h.c0 h.d0 h.f0))
    (mulB10 ha hd (by omega) (by omega)) (mulB10 hc hb (by omega) (by omega))
    (right_ok (.int 2) (.int 1) (.int 4) (tc (by decide) (by decide) (by decide) (by decide) (by decide) (by decide)) (by omega) (by omega)) (left_ok (.int 1) (.int 2) (.int 4) (tc (by decide) (by decide) (by decide) (by decide) (by decide) (by decide)) (by omega) (by omega)) (echo_ok (.int 1) (.int 1) (.int 3) (tc (by decide) (by decide) (by decide) (by decide) (by decide) (by decide)) (by omega) (by omega))
  rw [← Rat.not_lt, di_lt h.d0 h.b0, Int.not_lt]
end
end Kw

namespace Kw
open PySem PySem.Spec PyProof.Rows L2 Z
def rq (i : Int) : D := .ob 0 [.int i, .int 1]
def spn (a b : Str) (i j : Int) : D := .ob 1 [.tup [.tup [.str a, rq i], .tup [.str b, rq j]], .tup [.str a, .str b], .bl false]
theorem sp_mi : B_Span_between [.str "middle", .str "met"] = .ok (spn "met" "middle" 1 (-1)) [none, none] := by kernel_rfl
theorem sp_sm : B_Span_between [.str "sent", .str "met"] = .ok (spn "met" "sent" 1 (-1)) [none, none] := by kernel_rfl
theorem sp_bm : B_Span_between [.str "begin", .str "met"] = .ok (spn "begin" "met" (-1) 1) [none, none] := by kernel_rfl
theorem sp_bs : B_Span_between [.str "begin", .str "sent"] = .ok (spn "begin" "sent" (-1) 1) [none, none] := by kernel_rfl
theorem sp_bi : B_Span_between [.str "begin", .str "middle"] = .ok (spn "begin" "middle" (-1) 1) [none, none] := by kernel_rfl
theorem within1 : B_is_within [.int 1, .int 1, .int 3] = .ok (.bl true) [none, none, none] := by kernel_rfl
theorem step00 : B_Step___init__ [.ob 2 [], .int 0, .lst [.int 0]] = .ok .non [some (stp 0 [0]), none, none] := by kernel_rfl
theorem nothing1 : B_Step_nothing [.int 1] = .ok (stp 0 [0]) [none] := by kernel_rfl
theorem count1 : B_need_count_of_axes [.int 1] = .ok .non [none] := by kernel_rfl
theorem axis10 (s : D) : B_need_axis [.int 1, .int 0, s] = .ok .non [none, none, none] := by kernel_rfl
/-! ### the table -/
def cell (t x : Rat) : D := .tup [rt t, .lst [rt x]]
def zero2 : D := .tup [.int 0, .lst [.int 0]]
def tbK : List Key := [.inr "begin", .inr "sent", .inr "met", .inr "back", .inr "middle"]
def tbl (a b c d : D) : D := .dkl tbK [zero2, a, b, c, d]
def nms : List D := [.str "back", .str "begin", .str "met", .str "middle", .str "sent"]
theorem spots_ok (t1 x1 t2 x2 t3 x3 t4 x4 : Rat) : B_are_spots [tbl (cell t1 x1) (cell t2 x2) (cell t3 x3) (cell t4 x4), .int 1] = .ok (.bl true) [none, none] := by kernel_rfl
theorem dlen_ok (a b c d : D) : pDlen [tbl a b c d] = some (.int 5) := by kernel_rfl
theorem sort_ok (a b c d : D) : (pDlist [tbl a b c d]).bind (fun l => pSorted [l]) = some (.lst nms) := by kernel_rfl
def bkK : List Key := [.inr "back", .inr "begin", .inr "met", .inr "middle", .inr "sent"]
def bks (sb s0 sm si ss : D) : D := .dkl bkK [sb, s0, sm, si, ss]
end Kw

namespace Kw
open PySem PySem.Spec PyProof.Rows L2 Z
def bi1 : M Fl := (sIf (tNo (tV (eCd B_is_within [] (aCons (eV 1) (aCons (eK (.int 1)) (aCons (eK (.int (3))) aNil)))))) sNo sNil)
def bi2 : M Fl := (sIf (tNo (tV (eCd B_are_spots [] (aCons (eV 2) (aCons (eV 1) aNil))))) sNo sNil)
def bi3 : M Fl := (sIf (tV (eB (oP pGt) (eN pDlen (aCons (eV 2) aNil)) (eK (.int (8))))) sNo sNil)
def bi4 : M Fl := (sFl 0 [(3, 0)] (eV 1))
def bi5 : M Fl := (sFl 0 [(3, 1)] (eN pTuple (aCons (eN pSorted (aCons (eN pDlist (aCons (eV 2) aNil)) aNil)) aNil)))
def bi6 : M Fl := (sFl 0 [(3, 2)] (eLk (eDc [3] (itL (eFl [(1, 1), (3, 1)] (eS (fun _ => true) 0))) (gN 3) tY (eV 3) (eNd 2 B_Step___init__ [] (aCons (eB (oP pIx) (eB (oP pDix) (eV 2) (eV 3)) (eK (.int 0))) (aCons (eB (oP pIx) (eB (oP pDix) (eV 2) (eV 3)) (eK (.int 1))) aNil))))))
def bi7 : M Fl := (sEx (eCd B_need_unlike [] (aCons (eFl [(1, 1), (3, 1)] (eS (fun _ => true) 0)) (aCons (eFl [(3, 2)] (eS (fun _ => true) 0)) aNil))))
theorem bis : b_Book___init__ = (sSeq bi1 (sSeq bi2 (sSeq bi3 (sSeq bi4 (sSeq bi5 (sSeq bi6 bi7)))))) := rfl
theorem mkB_nx {n m : Nat} {io : List Nat} {b : M Fl} {ds : List D} {r r0 : Ev} (hl : ds.length = n) (h0 : ds.map some ++ List.replicate (m - n) none = r0) (h : b r0 = .ok .nx r) : mkB n m io b ds = .ok .non (keepE io n r) := by
  unfold mkB
  rw [if_pos hl, h0, h]
theorem bi6_ok {n1 n2 n3 n4 n5 : Str} {T v1 v2 v3 v4 v5 t1 t2 t3 t4 t5 p1 p2 p3 p4 p5 S1 S2 S3 S4 S5 a0 : D} {y1 : Option D}
    (l1 : pDix T (.str n1) = some v1) (l2 : pDix T (.str n2) = some v2) (l3 : pDix T (.str n3) = some v3) (l4 : pDix T (.str n4) = some v4) (l5 : pDix T (.str n5) = some v5)
    (e1 : pIx v1 (.int 0) = some t1) (e2 : pIx v2 (.int 0) = some t2) (e3 : pIx v3 (.int 0) = some t3) (e4 : pIx v4 (.int 0) = some t4) (e5 : pIx v5 (.int 0) = some t5)
    (f1 : pIx v1 (.int 1) = some p1) (f2 : pIx v2 (.int 1) = some p2) (f3 : pIx v3 (.int 1) = some p3) (f4 : pIx v4 (.int 1) = some p4) (f5 : pIx v5 (.int 1) = some p5)
    (g1 : B_Step___init__ [.ob 2 [], t1, p1] = .ok .non [some S1, none, none]) (g2 : B_Step___init__ [.ob 2 [], t2, p2] = .ok .non [some S2, none, none]) (g3 : B_Step___init__ [.ob 2 [], t3, p3] = .ok .non [some S3, none, none]) (g4 : B_Step___init__ [.ob 2 [], t4, p4] = .ok .non [some S4, none, none]) (g5 : B_Step___init__ [.ob 2 [], t5, p5] = .ok .non [some S5, none, none])
    (h12 : ¬ n1 = n2) (h13 : ¬ n1 = n3) (h14 : ¬ n1 = n4) (h15 : ¬ n1 = n5) (h23 : ¬ n2 = n3) (h24 : ¬ n2 = n4) (h25 : ¬ n2 = n5) (h34 : ¬ n3 = n4) (h35 : ¬ n3 = n5) (h45 : ¬ n4 = n5) :
    bi6 [some (.ob 3 [a0, .tup [.str n1, .str n2, .str n3, .str n4, .str n5]]), y1, some T, none] = .ok .nx [some (.ob 3 [a0, .tup [.str n1, .str n2, .str n3, .str n4, .str n5], .dkl [.inr n1, .inr n2, .inr n3, .inr n4, .inr n5] [S1, S2, S3, S4, S5]]), y1, some T, none] := by
  simp [bi6, itemsOf, dcGo, dcOut, wipeE, backE, keyOf, putR, lkOf, l1, l2, l3, l4, l5, e1, e2, e3, e4, e5, f1, f2, f3, f4, f5, g1, g2, g3, g4, g5, h12, h13, h14, h15, h23, h24, h25, h34, h35, h45, show 5 ≤ big by unfold big; omega]
theorem unlike_ok {n1 n2 n3 n4 n5 : Str} {T S1 S2 S3 S4 S5 : D}
    (l1 : pDix T (.str n1) = some S1) (l2 : pDix T (.str n2) = some S2) (l3 : pDix T (.str n3) = some S3) (l4 : pDix T (.str n4) = some S4) (l5 : pDix T (.str n5) = some S5)
    (h12 : ∀ r, oET [(2, B_Step___eq__)] ["int"] [2] S1 S2 r = .ok (.bl false) r) (h13 : ∀ r, oET [(2, B_Step___eq__)] ["int"] [2] S1 S3 r = .ok (.bl false) r) (h14 : ∀ r, oET [(2, B_Step___eq__)] ["int"] [2] S1 S4 r = .ok (.bl false) r) (h15 : ∀ r, oET [(2, B_Step___eq__)] ["int"] [2] S1 S5 r = .ok (.bl false) r)
    (h23 : ∀ r, oET [(2, B_Step___eq__)] ["int"] [2] S2 S3 r = .ok (.bl false) r) (h24 : ∀ r, oET [(2, B_Step___eq__)] ["int"] [2] S2 S4 r = .ok (.bl false) r) (h25 : ∀ r, oET [(2, B_Step___eq__)] ["int"] [2] S2 S5 r = .ok (.bl false) r)
    (h34 : ∀ r, oET [(2, B_Step___eq__)] ["int"] [2] S3 S4 r = .ok (.bl false) r) (h35 : ∀ r, oET [(2, B_Step___eq__)] ["int"] [2] S3 S5 r = .ok (.bl false) r) (h45 : ∀ r, oET [(2, B_Step___eq__)] ["int"] [2] S4 S5 r = .ok (.bl false) r) :
    B_need_unlike [.tup [.str n1, .str n2, .str n3, .str n4, .str n5], T] = .ok .non [none, none] := by
  have c0 : pSl (.tup [.str n1, .str n2, .str n3, .str n4, .str n5]) (some (0 + 1)) none = some (.tup [.str n2, .str n3, .str n4, .str n5]) := rfl
  have c1 : pSl (.tup [.str n1, .str n2, .str n3, .str n4, .str n5]) (some (1 + 1)) none = some (.tup [.str n3, .str n4, .str n5]) := rfl
  have c2 : pSl (.tup [.str n1, .str n2, .str n3, .str n4, .str n5]) (some (2 + 1)) none = some (.tup [.str n4, .str n5]) := rfl
  have c3 : pSl (.tup [.str n1, .str n2, .str n3, .str n4, .str n5]) (some (3 + 1)) none = some (.tup [.str n5]) := rfl
  have c4 : pSl (.tup [.str n1, .str n2, .str n3, .str n4, .str n5]) (some (4 + 1)) none = some (.tup []) := rfl
  have en : pEnt [.tup [.str n1, .str n2, .str n3, .str n4, .str n5]] = some [.tup [.int 0, .str n1], .tup [.int 1, .str n2], .tup [.int 2, .str n3], .tup [.int 3, .str n4], .tup [.int 4, .str n5]] := rfl
  generalize D.tup [.str n1, .str n2, .str n3, .str n4, .str n5] = N at *
  simp only [Int.reduceAdd] at c0 c1 c2 c3 c4
  simp [B_need_unlike, mkB, b_need_unlike, en, forGo, itemsOf, gTs, c0, c1, c2, c3, c4, l1, l2, l3, l4, l5, h12, h13, h14, h15, h23, h24, h25, h34, h35, h45]
end Kw

namespace Kw
open PySem PySem.Spec PyProof.Rows L2 Z
theorem eqY_rt {n : Nat} (p q : Rat) : eqY [(0, B_Ratio___eq__)] ["int"] [0] n (rt p) (rt q) = some (decide (p = q)) := by
  have e := eq_ok p q
  have a : p ≠ q → apt (rt p) (rt q) = true := fun ne => by
    by_cases h1 : p.num = q.num
    · have h2 : (p.den : Int) ≠ q.den := fun z => ne (Rat.ext h1 (by omega))
      simp [apt, neI, h2]
    · simp [apt, neI, h1]
  have : eqO (some B_Ratio___eq__) (rt p) (rt q) = some (decide (p = q)) := by
    unfold eqO
    simp only [e]
    by_cases hh : p = q
    · simp [hh]
    · simp [hh, a hh]
  cases n <;> simp [eqY, rk, this]
theorem step_eq (t x u y : Rat) : B_Step___eq__ [stp t [x], stp u [y]] = .ok (.bl (decide (t = u) && decide (x = y))) [none, none] := by
  have e0 := et_rt t u
  have e1 := eqY_rt (n := 0) x y
  by_cases h1 : t = u
  · by_cases h2 : x = y
    · simp [B_Step___eq__, mkB, b_Step___eq__, kO, et_rt, oEY, eqL, eqY_rt, h1, h2]
    · simp [B_Step___eq__, mkB, b_Step___eq__, kO, et_rt, oEY, eqL, eqY_rt, h1, h2]
  · simp [B_Step___eq__, mkB, b_Step___eq__, kO, et_rt, h1]
theorem et_st {t x u y : Rat} (h : ¬ (t = u ∧ x = y)) (r : Ev) : oET [(2, B_Step___eq__)] ["int"] [2] (stp t [x]) (stp u [y]) r = .ok (.bl false) r := by
  have e := step_eq t x u y
  have q : (decide (t = u) && decide (x = y)) = false := by
    rw [← Bool.decide_and]
    exact decide_eq_false h
  rw [q] at e
  simp [oET, oW, rk, e]
def bkl (sb s0 sm si ss : D) : List D := [.int 1, .tup nms, bks sb s0 sm si ss]
abbrev book (sb s0 sm si ss : D) : D := .ob 3 (bkl sb s0 sm si ss)
@[simp] theorem bkl_0 (sb s0 sm si ss : D) : (bkl sb s0 sm si ss)[0]? = some (.int 1) := rfl
@[simp] theorem bkl_1 (sb s0 sm si ss : D) : (bkl sb s0 sm si ss)[1]? = some (.tup nms) := rfl
@[simp] theorem bkl_2 (sb s0 sm si ss : D) : (bkl sb s0 sm si ss)[2]? = some (bks sb s0 sm si ss) := rfl
structure Df (t x u y : Rat) : Prop where
  h : ¬ (t = u ∧ x = y)
theorem bi1_ok {a T n : Option D} : bi1 [a, some (.int 1), T, n] = .ok .nx [a, some (.int 1), T, n] := by
  simp [bi1, within1]
theorem bi2_ok {a n : Option D} {T : D} (h : B_are_spots [T, .int 1] = .ok (.bl true) [none, none]) : bi2 [a, some (.int 1), some T, n] = .ok .nx [a, some (.int 1), some T, n] := by
  simp [bi2, h]
theorem bi3_ok {a b n : Option D} {T : D} (h : pDlen [T] = some (.int 5)) : bi3 [a, b, some T, n] = .ok .nx [a, b, some T, n] := by
  simp [bi3, h]
theorem bi4_ok {T n : Option D} : bi4 [some (.ob 3 []), some (.int 1), T, n] = .ok .nx [some (.ob 3 [.int 1]), some (.int 1), T, n] := by
  simp [bi4]
theorem bi5_ok {b n : Option D} {T L : D} {l : List D} (h : pDlist [T] = some L) (h2 : pSorted [L] = some (.lst l)) : bi5 [some (.ob 3 [.int 1]), b, some T, n] = .ok .nx [some (.ob 3 [.int 1, .tup l]), b, some T, n] := by
  simp [bi5, h, h2, pTuple, itemsOf]
theorem bi7_ok {a T N : D} {r1 r2 n : Option D} (h : B_need_unlike [N, T] = .ok .non [none, none]) : bi7 [some (.ob 3 [a, N, T]), r1, r2, n] = .ok .nx [some (.ob 3 [a, N, T]), r1, r2, n] := by
  simp [bi7, h]
theorem keepE03 (r0 r1 r2 : Option D) (l : List (Option D)) : keepE [0] 3 (r0 :: r1 :: r2 :: l) = [r0, none, none] := rfl
def tbL : D := .lst [.str "begin", .str "sent", .str "met", .str "back", .str "middle"]
theorem tb_list (a b c d : D) : pDlist [tbl a b c d] = some tbL := by kernel_rfl
theorem tb_sort : pSorted [tbL] = some (.lst nms) := by kernel_rfl
theorem k1 (a b c d : D) : pDix (tbl a b c d) (.str "back") = some c := by kernel_rfl
theorem k2 (a b c d : D) : pDix (tbl a b c d) (.str "begin") = some zero2 := by kernel_rfl
theorem k3 (a b c d : D) : pDix (tbl a b c d) (.str "met") = some b := by kernel_rfl
theorem k4 (a b c d : D) : pDix (tbl a b c d) (.str "middle") = some d := by kernel_rfl
theorem k5 (a b c d : D) : pDix (tbl a b c d) (.str "sent") = some a := by kernel_rfl
theorem g1 (a b c d e : D) : pDix (bks a b c d e) (.str "back") = some a := by kernel_rfl
theorem g2 (a b c d e : D) : pDix (bks a b c d e) (.str "begin") = some b := by kernel_rfl
theorem g3 (a b c d e : D) : pDix (bks a b c d e) (.str "met") = some c := by kernel_rfl
theorem g4 (a b c d e : D) : pDix (bks a b c d e) (.str "middle") = some d := by kernel_rfl
theorem g5 (a b c d e : D) : pDix (bks a b c d e) (.str "sent") = some e := by kernel_rfl
theorem ce_0 (t x : Rat) : pIx (cell t x) (.int 0) = some (rt t) := ix_tup_0 _ _
theorem ce_1 (t x : Rat) : pIx (cell t x) (.int 1) = some (.lst [rt x]) := ix_tup_1 _ _ _
theorem ze_0 : pIx zero2 (.int 0) = some (.int 0) := ix_tup_0 _ _
theorem ze_1 : pIx zero2 (.int 1) = some (.lst [.int 0]) := ix_tup_1 _ _ _
/-- five happenings, no two at one time and place -/
structure Five (k : Nat) (t1 x1 t2 x2 t3 x3 t4 x4 : Rat) : Prop where
  a1 : Bd k t1
  b1 : Bd k x1
  a2 : Bd k t2
  b2 : Bd k x2
  a3 : Bd k t3
  b3 : Bd k x3
  a4 : Bd k t4
  b4 : Bd k x4
  d01 : ¬ (0 = t1 ∧ 0 = x1)
  d02 : ¬ (0 = t2 ∧ 0 = x2)
  d03 : ¬ (t3 = 0 ∧ x3 = 0)
  d04 : ¬ (0 = t4 ∧ 0 = x4)
  d21 : ¬ (t2 = t1 ∧ x2 = x1)
  d31 : ¬ (t3 = t1 ∧ x3 = x1)
  d41 : ¬ (t4 = t1 ∧ x4 = x1)
  d32 : ¬ (t3 = t2 ∧ x3 = x2)
  d24 : ¬ (t2 = t4 ∧ x2 = x4)
  d34 : ¬ (t3 = t4 ∧ x3 = x4)
theorem book_ok {k : Nat} {t1 x1 t2 x2 t3 x3 t4 x4 : Rat} (h : Five k t1 x1 t2 x2 t3 x3 t4 x4) (h0 : 0 < k) (hk : k ≤ 1740) :
    B_Book___init__ [.ob 3 [], .int 1, tbl (cell t1 x1) (cell t2 x2) (cell t3 x3) (cell t4 x4)] = .ok .non [some (book (stp t3 [x3]) (stp 0 [0]) (stp t2 [x2]) (stp t4 [x4]) (stp t1 [x1])), none, none] := by
  have s1 := step1 h.a1 h.b1 h0 hk
  have s2 := step1 h.a2 h.b2 h0 hk
  have s3 := step1 h.a3 h.b3 h0 hk
  have s4 := step1 h.a4 h.b4 h0 hk
  have run := sSeq_nx (g := sSeq bi2 (sSeq bi3 (sSeq bi4 (sSeq bi5 (sSeq bi6 bi7))))) (bi1_ok (a := some (.ob 3 [])) (T := some (tbl (cell t1 x1) (cell t2 x2) (cell t3 x3) (cell t4 x4))) (n := none))
  have z6 : bi6 [some (.ob 3 [.int 1, .tup nms]), some (.int 1), some (tbl (cell t1 x1) (cell t2 x2) (cell t3 x3) (cell t4 x4)), none] = .ok .nx [some (.ob 3 [.int 1, .tup nms, bks (stp t3 [x3]) (stp 0 [0]) (stp t2 [x2]) (stp t4 [x4]) (stp t1 [x1])]), some (.int 1), some (tbl (cell t1 x1) (cell t2 x2) (cell t3 x3) (cell t4 x4)), none] := bi6_ok (n1 := "back") (n2 := "begin") (n3 := "met") (n4 := "middle") (n5 := "sent") (a0 := .int 1) (y1 := some (.int 1)) (k1 (cell t1 x1) (cell t2 x2) (cell t3 x3) (cell t4 x4)) (k2 _ _ _ _) (k3 _ _ _ _) (k4 _ _ _ _) (k5 _ _ _ _) (ce_0 _ _) ze_0 (ce_0 _ _) (ce_0 _ _) (ce_0 _ _) (ce_1 _ _) ze_1 (ce_1 _ _) (ce_1 _ _) (ce_1 _ _) s3 step00 s2 s4 s1
    (by decide +kernel) (by decide +kernel) (by decide +kernel) (by decide +kernel) (by decide +kernel) (by decide +kernel) (by decide +kernel) (by decide +kernel) (by decide +kernel) (by decide +kernel)
  have z7 : B_need_unlike [.tup nms, bks (stp t3 [x3]) (stp 0 [0]) (stp t2 [x2]) (stp t4 [x4]) (stp t1 [x1])] = .ok .non [none, none] := unlike_ok (g1 (stp t3 [x3]) (stp 0 [0]) (stp t2 [x2]) (stp t4 [x4]) (stp t1 [x1])) (g2 _ _ _ _ _) (g3 _ _ _ _ _) (g4 _ _ _ _ _) (g5 _ _ _ _ _) (et_st h.d03) (et_st h.d32) (et_st h.d34) (et_st h.d31) (et_st h.d02) (et_st h.d04) (et_st h.d01) (et_st h.d24) (et_st h.d21) (et_st h.d41)
  rw [sSeq_nx (bi2_ok (spots_ok _ _ _ _ _ _ _ _)), sSeq_nx (bi3_ok (dlen_ok _ _ _ _)), sSeq_nx bi4_ok, sSeq_nx (bi5_ok (tb_list _ _ _ _) tb_sort), sSeq_nx z6, bi7_ok z7] at run
  have z := mkB_nx (n := 3) (m := 4) (io := [0]) (b := sSeq bi1 (sSeq bi2 (sSeq bi3 (sSeq bi4 (sSeq bi5 (sSeq bi6 bi7)))))) (ds := [.ob 3 [], .int 1, tbl (cell t1 x1) (cell t2 x2) (cell t3 x3) (cell t4 x4)]) (r0 := [some (.ob 3 []), some (.int 1), some (tbl (cell t1 x1) (cell t2 x2) (cell t3 x3) (cell t4 x4)), none]) rfl rfl run
  rw [keepE03] at z
  rw [B_Book___init__, bis]
  exact z
end Kw

namespace Kw
open PySem PySem.Spec PyProof.Rows L2 Z
def so1 : M Fl := (sEx (eCd B_need_span [] (aCons (eV 1) (aCons (eK (.str "span")) aNil))))
def so2 : M Fl := (sEx (eCd B_need_names_of [] (aCons (eV 0) (aCons (eV 1) aNil))))
def so3 : M Fl := (sAs 2 (eCd B_Step_nothing [] (aCons (eFl [(2, 2), (3, 0), (4, 1)] (eV 0)) aNil)))
def so4 : M Fl := (sFor (itL (eFl [(1, 0)] (eV 1))) (gT [(gN 3), (gN 4)]) (sAs 2 (eB (oW [(2, B_Step___add__)] ["int"] [2] pAdd) (eV 2) (eB (oW [(2, B_Step___mul__)] ["int"] [0, 2] pMul) (eB (oP pDix) (eFl [(3, 2)] (eV 0)) (eV 3)) (eV 4)))))
def so5 : M Fl := (sRet (eV 2))
theorem sos : b_Book_step_of = (sSeq so1 (sSeq so2 (sSeq so3 (sSeq so4 so5)))) := rfl
def pb1 : M Fl := (sEx (eCd B_need_above [] (aCons (eV 0) (aCons (eK (.str "ratio")) aNil))))
def pb2 : M Fl := (sEx (eCd B_need_count_of_axes [] (aCons (eV 1) aNil)))
def pb3 : M Fl := (sEx (eCd B_need_axis [] (aCons (eV 1) (aCons (eV 2) (aCons (eK (.str "axis")) aNil)))))
def pb4 : M Fl := (sAs 3 (eB (oW [(0, B_Ratio___mul__)] ["int"] [0] pMul) (eCd B_Ratio_of [] (aCons (eV 0) aNil)) (eV 0)))
def pb5 : M Fl := (sRet (eNd 4 B_Pace___init__ [] (aCons (eLc [4] (itN pRng (aCons (eV 1) aNil)) (gN 4) tY (eIf (tV (eB (oP pEq) (eV 4) (eV 2))) (eMd [(0, B_Ratio_over)] [] (eB (oW [(0, B_Ratio___sub__)] ["int"] [0] pSub) (eV 3) (eK (.int 1))) (aCons (eB (oW [(0, B_Ratio___add__)] ["int"] [0] pAdd) (eV 3) (eK (.int 1))) aNil)) (eK (.int 0)))) aNil)))
theorem pbs : b_Pace_of_beats = (sSeq pb1 (sSeq pb2 (sSeq pb3 (sSeq pb4 pb5)))) := rfl
def pi1 : M Fl := (sIf (tNo (tV (eCd B_are_parts [] (aCons (eV 1) aNil)))) sNo sNil)
def pi2 : M Fl := (sFl 0 [(4, 0)] (eN pTuple (aCons (eLc [2] (itL (eV 1)) (gN 2) tY (eCd B_Ratio_of [] (aCons (eV 2) aNil))) aNil)))
def pi3 : M Fl := (sFl 0 [(4, 1)] (eN pLen (aCons (eFl [(4, 0), (5, 0)] (eS (fun _ => true) 0)) aNil)))
def pi4 : M Fl := (sFl 0 [(4, 2)] (eCd B_square_of [] (aCons (eFl [(4, 0), (5, 0)] (eS (fun _ => true) 0)) aNil)))
theorem pis : b_Pace___init__ = (sSeq pi1 (sSeq pi2 (sSeq pi3 pi4))) := rfl
theorem step_mul1 {k : Nat} {t x q : Rat} (ht : Bd k t) (hx : Bd k x) (hq : Bd k q) (h0 : 0 < k) (hk : k ≤ 800) : B_Step___mul__ [stp t [x], rt q] = .ok (stp (t * q) [x * q]) [none, none] := by
  have a0 := mul_ok ht hq h0 (by omega)
  have a1 := mul_ok hx hq h0 (by omega)
  have st := step1 (ht.mul2 hq) (hx.mul2 hq) (by omega) (by omega)
  simp [B_Step___mul__, mkB, b_Step___mul__, oW, rk, a0, a1, itemsOf, big, lcGo, lcOut, wipeE, backE, st]
theorem rq_eq (i : Int) : rq i = rt (i : Rat) := rfl
def sp2 (a b : Str) (q1 q2 : Rat) : D := .ob 1 [.tup [.tup [.str a, rt q1], .tup [.str b, rt q2]], .tup [.str a, .str b], .bl false]
theorem spn_eq (a b : Str) (i j : Int) : spn a b i j = sp2 a b (i : Rat) (j : Rat) := rfl
def s2l (a b : Str) (q1 q2 : Rat) : List D := [.tup [.tup [.str a, rt q1], .tup [.str b, rt q2]], .tup [.str a, .str b], .bl false]
theorem sp2_eq (a b : Str) (q1 q2 : Rat) : sp2 a b q1 q2 = .ob 1 (s2l a b q1 q2) := rfl
@[simp] theorem s2l_0 (a b : Str) (q1 q2 : Rat) : (s2l a b q1 q2)[0]? = some (.tup [.tup [.str a, rt q1], .tup [.str b, rt q2]]) := rfl
@[simp] theorem s2l_1 (a b : Str) (q1 q2 : Rat) : (s2l a b q1 q2)[1]? = some (.tup [.str a, .str b]) := rfl
/-- a book as it is asked -/
structure Bk (L : List D) (N T : D) : Prop where
  x0 : L[0]? = some (.int 1)
  x1 : L[1]? = some N
  x2 : L[2]? = some T
theorem need_span_ok (a b : Str) (q1 q2 : Rat) (s : D) : B_need_span [sp2 a b q1 q2, s] = .ok .non [none, none] := by
  simp [B_need_span, mkB, b_need_span, kO, sp2]
theorem need_book_ok (L : List D) (s : D) : B_need_book [.ob 3 L, s] = .ok .non [none, none] := by
  simp [B_need_book, mkB, b_need_book, kO]
theorem need_pace_ok (L : List D) (s : D) : B_need_pace [.ob 4 L, s] = .ok .non [none, none] := by
  simp [B_need_pace, mkB, b_need_pace, kO]
theorem need_hap_ok {L : List D} {N T : D} {a : Str} (h : Bk L N T) (ha : pNotIn (.str a) N = some (.bl false)) : B_need_happening [.ob 3 L, .str a] = .ok .non [none, none] := by
  simp [B_need_happening, mkB, b_need_happening, h.x1, ha]
theorem need_names_ok {L : List D} {N T : D} {a b : Str} {q1 q2 : Rat} (h : Bk L N T) (ha : pNotIn (.str a) N = some (.bl false)) (hb : pNotIn (.str b) N = some (.bl false)) : B_need_names_of [.ob 3 L, sp2 a b q1 q2] = .ok .non [none, none] := by
  have e1 := need_hap_ok h ha
  have e2 := need_hap_ok h hb
  rw [sp2_eq]
  simp [B_need_names_of, mkB, b_need_names_of, itemsOf, forGo, e1, e2]
theorem oW_st {tb : List (Nat × Beh)} {p : D → D → Option D} {B : Beh} {l m : List D} {c : D} {y : D} {cs : List Nat} (h : tb.lookup 2 = some B) (hy : rk ["int"] cs y = true) (e : B [.ob 2 l, y] = .ok c [none, none]) (r : Ev) : oW tb ["int"] cs p (.ob 2 l) y r = .ok c r := by
  simp only [oW, hy, if_true, h, e]
  simp
theorem spot_ok {L : List D} {N T S : D} {a : Str} (h : Bk L N T) (ha : pNotIn (.str a) N = some (.bl false)) (hs : pDix T (.str a) = some S) : B_Book_spot_of [.ob 3 L, .str a] = .ok S [none, none] := by
  have e := need_hap_ok h ha
  simp [B_Book_spot_of, mkB, b_Book_spot_of, e, h.x2, hs]
theorem step_of_ok {L : List D} {N T : D} {a b : Str} {q1 q2 t1 x1 t2 x2 : Rat} {k : Nat} (h : Bk L N T) (ha : pNotIn (.str a) N = some (.bl false)) (hb : pNotIn (.str b) N = some (.bl false)) (d1 : pDix T (.str a) = some (stp t1 [x1])) (d2 : pDix T (.str b) = some (stp t2 [x2]))
    (b1 : Bd k t1) (b2 : Bd k x1) (b3 : Bd k t2) (b4 : Bd k x2) (c1 : Bd k q1) (c2 : Bd k q2) (h0 : 0 < k) (hk : k ≤ 100) :
    B_Book_step_of [.ob 3 L, sp2 a b q1 q2] = .ok (stp (0 + t1 * q1 + t2 * q2) [0 + x1 * q1 + x2 * q2]) [none, none] := by
  have n1 := need_span_ok a b q1 q2 (.str "span")
  have n2 := need_names_ok (q1 := q1) (q2 := q2) h ha hb
  have m1 := step_mul1 b1 b2 c1 h0 (by omega)
  have m2 := step_mul1 b3 b4 c2 h0 (by omega)
  have z : Bd (k + k) (0 : Rat) := Bd.zero (by omega)
  have a1 := step_add1 z (b1.mul2 c1) z (b2.mul2 c1) (by omega) (by omega)
  have a2 := step_add1 (z.add2 (b1.mul2 c1)) ((b3.mul2 c2).mono (by omega : k + k ≤ k + k + (k + k) + 1)) (z.add2 (b2.mul2 c1)) ((b4.mul2 c2).mono (by omega)) (by omega) (by omega)
  have w1 := oW_st (tb := [(2, B_Step___mul__)]) (p := pMul) (m := []) (cs := [0, 2]) (y := rt q1) rfl rfl m1
  have w2 := oW_st (tb := [(2, B_Step___mul__)]) (p := pMul) (m := []) (cs := [0, 2]) (y := rt q2) rfl rfl m2
  have w3 := oW_st (tb := [(2, B_Step___add__)]) (p := pAdd) (m := []) (cs := [2]) (y := stp (t1 * q1) [x1 * q1]) rfl rfl a1
  have w4 := oW_st (tb := [(2, B_Step___add__)]) (p := pAdd) (m := []) (cs := [2]) (y := stp (t2 * q2) [x2 * q2]) rfl rfl a2
  generalize 0 + t1 * q1 + t2 * q2 = A at *
  generalize 0 + x1 * q1 + x2 * q2 = B at *
  generalize 0 + t1 * q1 = A1 at *
  generalize 0 + x1 * q1 = B1 at *
  generalize t1 * q1 = A2 at *
  generalize x1 * q1 = B2 at *
  generalize t2 * q2 = A3 at *
  generalize x2 * q2 = B3 at *
  rw [sp2_eq] at n1 n2 ⊢
  simp [B_Book_step_of, mkB, b_Book_step_of, n1, n2, nothing1, h.x0, h.x2, d1, d2, itemsOf, forGo, gTs, w1, w2, w3, w4]
/-! ### paces -/
def pl (v : Rat) : List D := [.tup [rt v], .int 1, rt (0 + v * v)]
abbrev pace (v : Rat) : D := .ob 4 (pl v)
@[simp] theorem pl_0 (v : Rat) : (pl v)[0]? = some (.tup [rt v]) := rfl
@[simp] theorem pl_1 (v : Rat) : (pl v)[1]? = some (.int 1) := rfl
@[simp] theorem pl_2 (v : Rat) : (pl v)[2]? = some (rt (0 + v * v)) := rfl
theorem square_ok {k : Nat} {v : Rat} {x : D} (hx : itemsOf x = some [rt v]) (hv : Bd k v) (h0 : 0 < k) (hk : k ≤ 1000) : B_square_of [x] = .ok (rt (0 + v * v)) [none] := by
  have m1 := oW_rt (tb := [(0, B_Ratio___mul__)]) (p := pMul) (y := rt v) (l := [0]) rfl (rk_R (.rt v) []) (mul_ok hv hv h0 (by omega))
  have s := summed1 (hv.mul2 hv) (by omega) (by omega)
  generalize 0 + v * v = q at *
  simp [B_square_of, mkB, b_square_of, hx, big, lcGo, lcOut, wipeE, backE, m1, s]
theorem parts_ok {k : Nat} {v : Rat} (hv : Bd k v) (h : 0 + v * v < 1) (h0 : 0 < k) (hk : k ≤ 1000) : B_are_parts [.lst [rt v]] = .ok (.bl true) [none] := by
  have ar := are_ok (xs := [v]) (by simp) (by simp)
  have s := square_ok (x := .lst [rt v]) rfl hv h0 hk
  have b : Bd (k + k + 2) (0 + v * v) := ((Bd.zero (k := 1) (by omega)).add2 (hv.mul2 hv)).mono (by omega)
  have lt := below_R (.int 1) b (Bd.one (by omega)) (by omega) (by omega)
  generalize 0 + v * v = q at *
  have lt : B_Ratio_is_below [rt q, .int 1] = .ok (.bl (decide (q < 1))) [none, none] := lt
  rw [decide_eq_true h] at lt
  simp only [List.map_cons, List.map_nil] at ar
  simp [B_are_parts, mkB, b_are_parts, ar, onBl, pLen, itemsOf, big, s, lt]
theorem pace_new {k : Nat} {v : Rat} (hv : Bd k v) (h : 0 + v * v < 1) (h0 : 0 < k) (hk : k ≤ 1000) : B_Pace___init__ [.ob 4 [], .lst [rt v]] = .ok .non [some (pace v), none] := by
  have e := parts_ok hv h h0 hk
  have s := square_ok (x := .tup [rt v]) rfl hv h0 hk
  have el : pl v = [.tup [rt v], .int 1, rt (0 + v * v)] := rfl
  show B_Pace___init__ [.ob 4 [], .lst [rt v]] = .ok .non [some (.ob 4 (pl v)), none]
  rw [el]
  generalize 0 + v * v = q at *
  simp [B_Pace___init__, mkB, b_Pace___init__, e, itemsOf, big, lcGo, lcOut, wipeE, backE, pTuple, pLen, s]
def vv (K : Rat) : Rat := (K * K - 1) / (K * K + 1)
theorem sq_pos {K : Rat} (h : 0 < K) : 0 < K * K := Rat.mul_pos h h
theorem vv_lt {K : Rat} (h : 0 < K) : 0 + vv K * vv K < 1 := by
  have hs := sq_pos h
  unfold vv
  generalize K * K = s at *
  have p : 0 < (s + 1) * (s + 1) := Rat.mul_pos (by grind) (by grind)
  have e : (s - 1) / (s + 1) * (s + 1) = s - 1 := by grind
  apply Rat.not_le.mp
  intro z
  have := Rat.mul_le_mul_of_nonneg_right z (Rat.le_of_lt p)
  have e2 : (0 + (s - 1) / (s + 1) * ((s - 1) / (s + 1))) * ((s + 1) * (s + 1)) = (s - 1) * (s - 1) := by grind
  grind
theorem pace_ok {k : Nat} {K : Rat} (hK : Bd k K) (h : 0 < K) (h0 : 0 < k) (hk : k ≤ 100) : B_Pace_of_beats [rt K, .int 1, .int 0] = .ok (pace (vv K)) [none, none, none] := by
  have b1 := hK.mul2 hK
  have m1 := oW_rt (tb := [(0, B_Ratio___mul__)]) (p := pMul) (y := rt K) (l := [0]) rfl (rk_R (.rt K) []) (mul_ok hK hK h0 (by omega))
  have e1 := oW_rt (tb := [(0, B_Ratio___sub__)]) (p := pSub) (y := .int 1) (l := [0]) rfl (rk_R (.int 1) []) (sub_R (.int 1) b1 (Bd.one (k := k + k) (by omega)) (by omega) (by omega))
  have e2 := oW_rt (tb := [(0, B_Ratio___add__)]) (p := pAdd) (y := .int 1) (l := [0]) rfl (rk_R (.int 1) []) (add_R (.int 1) b1 (Bd.one (k := k + k) (by omega)) (by omega) (by omega))
  have bs := b1.sub2 (Bd.one (k := 1) (by omega))
  have ba := b1.add2 (Bd.one (k := 1) (by omega))
  have ps := sq_pos h
  have pa : 0 < K * K + 1 := by grind
  have e3 := over_ok bs ba pa (by omega) (by omega)
  have bv : Bd (k + k + 1 + 1 + (k + k + 1 + 1)) (vv K) := bs.div2 ba pa
  have pn := pace_new bv (vv_lt h) (by omega) (by omega)
  have s1 := sign_pos h
  have ev : (K * K - 1) / (K * K + 1) = vv K := rfl
  rw [ev] at e3
  have e1 : ∀ r, oW [(0, B_Ratio___sub__)] ["int"] [0] pSub (rt (K * K)) (.int 1) r = .ok (rt (K * K - 1)) r := e1
  have e2 : ∀ r, oW [(0, B_Ratio___add__)] ["int"] [0] pAdd (rt (K * K)) (.int 1) r = .ok (rt (K * K + 1)) r := e2
  generalize vv K = v at *
  generalize K * K - 1 = A at *
  generalize K * K + 1 = B at *
  generalize K * K = C at *
  have er : pRng [.int 1] = some [.int 0] := rfl
  have na : B_need_above [rt K, .str "ratio"] = .ok .non [none, none] := by
    simp [B_need_above, mkB, b_need_above, s1]
  have ax := axis10 (.str "axis")
  simp [B_Pace_of_beats, mkB, b_Pace_of_beats, na, count1, ax, m1, er, lcGo, lcOut, wipeE, backE, e1, e2, e3, pn, show 1 ≤ big by unfold big; omega]
theorem worth_ok {k : Nat} {v t x : Rat} (hv : Bd k v) (ht : Bd k t) (hx : Bd k x) (h0 : 0 < k) (hk : k ≤ 800) : B_worth_of [pace v, stp t [x]] = .ok (rt (t - (0 + v * x))) [none, none] := by
  have m1 := oW_rt (tb := [(0, B_Ratio___mul__)]) (p := pMul) (y := rt x) (l := [0]) rfl (rk_R (.rt x) []) (mul_ok hv hx h0 (by omega))
  have s := summed1 (hv.mul2 hx) (by omega) (by omega)
  have b : Bd (k + k + 2) (0 + v * x) := ((Bd.zero (k := 1) (by omega)).add2 (hv.mul2 hx)).mono (by omega)
  have e1 := oW_rt (tb := [(0, B_Ratio___sub__)]) (p := pSub) (y := rt (0 + v * x)) (l := [0]) rfl (rk_R (.rt _) []) (sub_ok (ht.mono (by omega : k ≤ k + k + 2)) b (by omega) (by omega))
  generalize 0 + v * x = q at *
  generalize v * x = q2 at *
  generalize t - q = q3 at *
  simp [B_worth_of, mkB, b_worth_of, pZip, itemsOf, isTupD, zipD, big, lcGo, lcOut, wipeE, backE, gTs, m1, s, e1]
end Kw

namespace Kw
open PySem PySem.Spec PyProof.Rows L2 Z
theorem axes_bp {L : List D} {v : Rat} (h : L[0]? = some (.int 1)) : B_need_axes [.ob 3 L, pace v] = .ok .non [none, none] := by
  simp [B_need_axes, mkB, b_need_axes, h]
section
variable {L : List D} {N T S S2 : D} {a b c d : Str} {q1 q2 p1 p2 v W W2 : Rat}
theorem cworth_ok (h : Bk L N T) (ha : pNotIn (.str a) N = some (.bl false)) (hb : pNotIn (.str b) N = some (.bl false)) (so : B_Book_step_of [.ob 3 L, sp2 a b q1 q2] = .ok S [none, none]) (w : B_worth_of [pace v, S] = .ok (rt W) [none, none]) :
    B_called_worth [.ob 3 L, pace v, sp2 a b q1 q2] = .ok (rt W) [none, none, none] := by
  have n1 := need_book_ok L (.str "book")
  have n2 := need_pace_ok (pl v) (.str "pace")
  have n3 := need_span_ok a b q1 q2 (.str "span")
  have n4 := axes_bp (v := v) h.x0
  have n5 := need_names_ok (q1 := q1) (q2 := q2) h ha hb
  generalize sp2 a b q1 q2 = P at *
  simp [B_called_worth, mkB, b_called_worth, n1, n2, n3, n4, n5, so, w]
theorem csign_ok {P : D} (h : B_called_worth [.ob 3 L, pace v, P] = .ok (rt W) [none, none, none]) : B_called_sign [.ob 3 L, pace v, P] = .ok (.int W.num.sign) [none, none, none] := by
  have s := sign_ok W
  generalize W.num.sign = g at *
  simp [B_called_sign, mkB, b_called_sign, h, s]
theorem cquot_ok {k : Nat} (h : Bk L N T) (ha : pNotIn (.str a) N = some (.bl false)) (hb : pNotIn (.str b) N = some (.bl false)) (hc : pNotIn (.str c) N = some (.bl false)) (hd : pNotIn (.str d) N = some (.bl false))
    (so : B_Book_step_of [.ob 3 L, sp2 a b q1 q2] = .ok S [none, none]) (w : B_worth_of [pace v, S] = .ok (rt W) [none, none]) (so2 : B_Book_step_of [.ob 3 L, sp2 c d p1 p2] = .ok S2 [none, none]) (w2 : B_worth_of [pace v, S2] = .ok (rt W2) [none, none])
    (hp : 0 < W2) (b1 : Bd k W) (b2 : Bd k W2) (h0 : 0 < k) (hk : k ≤ 3000) :
    B_called_quotient [.ob 3 L, pace v, sp2 a b q1 q2, sp2 c d p1 p2] = .ok (rt (W / W2)) [none, none, none, none] := by
  have n1 := need_book_ok L (.str "book")
  have n2 := need_pace_ok (pl v) (.str "pace")
  have n3 := need_span_ok a b q1 q2 (.str "one")
  have n3' := need_span_ok c d p1 p2 (.str "other")
  have n4 := axes_bp (v := v) h.x0
  have n5 := need_names_ok (q1 := q1) (q2 := q2) h ha hb
  have n5' := need_names_ok (q1 := p1) (q2 := p2) h hc hd
  have s := sign_pos hp
  have o := over_ok b1 b2 hp h0 (by omega)
  generalize W / W2 = Q at *
  generalize sp2 a b q1 q2 = P at *
  generalize sp2 c d p1 p2 = P2 at *
  simp [B_called_quotient, mkB, b_called_quotient, n1, n2, n3, n3', n4, n5, n5', so, w, so2, w2, s, o]
end
def spt (r l : Rat) : D := stp ((r + l) * hf) [(l - r) * hf]
theorem lspot_ok {k : Nat} {K b : Rat} (hK : Bd k K) (hb : Bd k b) (k0 : 0 < K) (b0 : 0 < b) (h0 : 0 < k) (hk : k ≤ 300) : B__law_spot [rt K, rt b] = .ok (spt (b / K) (b * K)) [none, none] := by
  have q : QOk k (K, b) := ⟨k0, Rat.le_of_lt b0, hK, hb⟩
  have z : Bd (2 * k) (0 : Rat) := Bd.zero (by omega)
  have hs : sA [(K, b)] = b ∧ sR [(K, b)] = b / K ∧ sL [(K, b)] = b * K := ⟨Rat.add_zero _, Rat.add_zero _, Rat.add_zero _⟩
  have pb : PB (2 * k) [(K, b)] := fun i => by
    cases i with
    | zero => exact ⟨z, z, z⟩
    | succ i =>
      rw [List.take_of_length_le (by simp), hs.1, hs.2.1, hs.2.2]
      exact ⟨hb.mono (by omega), (hb.div2 hK k0).mono (by omega), (hb.mul2 hK).mono (by omega)⟩
  have t := tour_ok (x1 := .lst [.tup [rt K, rt b]]) (qs := [(K, b)]) rfl (listed_lst _) (by rw [pLen_lst]; rfl) (fun x m => by rw [List.mem_singleton.mp m]; exact q) (fun x m => by rw [List.mem_singleton.mp m]; exact b0) pb (Nat.le_refl _) h0 (by omega) (by simp) (by simp)
  have e : spotD (lt [(K, b)]) = spt (b / K) (b * K) := by
    unfold spotD lt spt
    simp only [hs.2.1, hs.2.2]
  have l3 := tl_3 [(K, b)]
  rw [e] at l3
  have t : B_Tour___init__ [.ob 5 [], .lst [.tup [rt K, rt b]]] = .ok .non [some (.ob 5 (tl [(K, b)])), none] := t
  generalize tl [(K, b)] = tt at *
  have ne := et_int b 0
  have nb : ¬ b = ((0 : Int) : Rat) := fun z => by
    have : b = 0 := z
    grind
  have ne : ∀ r, oET [(0, B_Ratio___eq__)] ["int"] [0] (rt b) (.int 0) r = .ok (.bl false) r := fun r => by rw [ne, decide_eq_false nb]
  generalize spt (b / K) (b * K) = R at *
  simp [B__law_spot, mkB, b__law_spot, ne, t, l3, show 2 ≤ big by unfold big; omega, show 1 ≤ big by unfold big; omega]
theorem slow_ok {k : Nat} {K O m i : Rat} (hK : Bd k K) (hO : Bd k O) (hm : Bd k m) (hi : Bd k i) (k0 : 0 < K) (o0 : 0 < O) (i0 : 0 < i) (h0 : 0 < k) (hk : k ≤ 100) :
    B__law_slow [rt K, rt O, rt m, rt i] = .ok (rt (m / ((K / O + 1 / (K / O)) * hf * i))) [none, none, none, none] := by
  have o1 := over_ok hK hO o0 h0 (by omega)
  have b1 := hK.div2 hO o0
  have p1 := qpos k0 o0
  have o2 := over_ok (Bd.one (k := k + k) (by omega)) b1 p1 (by omega) (by omega)
  have b2 := (Bd.one (k := 1) (by omega)).div2 b1 p1
  have a1 := oW_rt (tb := [(0, B_Ratio___add__)]) (p := pAdd) (y := rt (1 / (K / O))) (l := [0]) rfl (rk_R (.rt _) []) (add_ok (b1.mono (by omega : k + k ≤ 1 + (k + k))) b2 (by omega) (by omega))
  have b3 := b1.add2 b2
  have m1 := oW_rt (tb := [(0, B_Ratio___mul__)]) (p := pMul) (y := rt hf) (l := [0]) rfl (rk_R (.rt _) []) (mul_ok b3 (hf_bd.mono (by omega)) (by omega) (by omega))
  have b4 := b3.mul2 hf_bd
  have m2 := oW_rt (tb := [(0, B_Ratio___mul__)]) (p := pMul) (y := rt i) (l := [0]) rfl (rk_R (.rt _) []) (mul_ok b4 (hi.mono (by omega)) (by omega) (by omega))
  have b5 := b4.mul2 hi
  have p2 : 0 < 1 / (K / O) := qpos (by decide) p1
  have p3 : 0 < (K / O + 1 / (K / O)) * hf * i := Rat.mul_pos (Rat.mul_pos (by grind) (by rw [hf_eq]; decide +kernel)) i0
  have o3 := over_ok (hm.mono (by omega)) b5 p3 (by omega) (by omega)
  generalize m / ((K / O + 1 / (K / O)) * hf * i) = R at *
  generalize (K / O + 1 / (K / O)) * hf * i = R1 at *
  generalize (K / O + 1 / (K / O)) * hf = R2 at *
  generalize K / O + 1 / (K / O) = R3 at *
  generalize 1 / (K / O) = R4 at *
  generalize K / O = R5 at *
  simp [B__law_slow, mkB, b__law_slow, o1, o2, new1, new2, a1, m1, m2, o3]
end Kw

namespace Kw
open PySem PySem.Spec PyProof.Rows L2 Z
def br1 : M Fl := (sPar [gN 3, gN 4, gN 5] (aCons (eNd 0 B_Ratio___init__ [] (aCons (eB (oP pIx) (eV 0) (eK (.int 0))) (aCons (eB (oP pIx) (eV 0) (eK (.int 1))) aNil))) (aCons (eNd 0 B_Ratio___init__ [] (aCons (eB (oP pIx) (eV 1) (eK (.int 0))) (aCons (eB (oP pIx) (eV 1) (eK (.int 1))) aNil))) (aCons (eNd 0 B_Ratio___init__ [] (aCons (eB (oP pIx) (eV 2) (eK (.int 0))) (aCons (eB (oP pIx) (eV 2) (eK (.int 1))) aNil))) aNil))))
def br2 : M Fl := (sAs 6 (eB (oP pLt) (eB (oW [(0, B_Ratio___mul__)] ["int"] [0] pMul) (eB (oP pIx) (eV 0) (eK (.int 0))) (eB (oP pIx) (eV 1) (eK (.int 1)))) (eB (oW [(0, B_Ratio___mul__)] ["int"] [0] pMul) (eB (oP pIx) (eV 1) (eK (.int 0))) (eB (oP pIx) (eV 0) (eK (.int 1))))))
def br3 : M Fl := (sAs 7 (eIf (tV (eV 6)) (eCd B_beats_right [] (aCons (eV 3) (aCons (eV 4) (aCons (eV 5) aNil)))) (eCd B_beats_left [] (aCons (eV 3) (aCons (eV 4) (aCons (eV 5) aNil))))))
def br4 : M Fl := (sPar [gN 8, gN 9] (aCons (eCd B_echo_beats [] (aCons (eV 3) (aCons (eV 4) (aCons (eV 5) aNil)))) (aCons (eCd B_middle_beats [] (aCons (eV 3) (aCons (eV 4) (aCons (eV 5) aNil)))) aNil)))
def br5 : M Fl := (sAs 10 (eN pLst (aCons (eCd B__law_spot [] (aCons (eV 3) (aCons (eV 5) aNil))) (aCons (eCd B__law_spot [] (aCons (eV 4) (aCons (eV 7) aNil))) (aCons (eCd B__law_spot [] (aCons (eV 3) (aCons (eV 8) aNil))) (aCons (eCd B__law_spot [] (aCons (eV 3) (aCons (eV 9) aNil))) aNil))))))
def br6 : M Fl := (sAsF 11 (eDicF [((eK (.str "begin")), (eN pTup (aCons (eK (.int 0)) (aCons (eN pLst (aCons (eK (.int 0)) aNil)) aNil))))]))
def br7 : M Fl := (sFor (itN pZip (aCons (eN pLst (aCons (eK (.str "sent")) (aCons (eK (.str "met")) (aCons (eK (.str "back")) (aCons (eK (.str "middle")) aNil))))) (aCons (eV 10) aNil))) (gT [(gN 12), (gN 13)]) (sDix 11 (eN pTup (aCons (eFl [(2, 0)] (eV 13)) (aCons (eN pList (aCons (eFl [(2, 1)] (eV 13)) aNil)) aNil))) (eV 12)))
def br8 : M Fl := (sPar [gN 14, gN 15, gN 16] (aCons (eNd 3 B_Book___init__ [] (aCons (eK (.int 1)) (aCons (eVD 11) aNil))) (aCons (eCd B_Pace_of_beats [] (aCons (eV 3) (aCons (eK (.int 1)) (aCons (eK (.int 0)) aNil)))) (aCons (eCd B_Pace_of_beats [] (aCons (eV 4) (aCons (eK (.int 1)) (aCons (eK (.int 0)) aNil)))) aNil))))
def lapB : M Fl := (sSeq (sAs 13 (eB (oW [(2, B_Step___sub__)] ["int"] [2] pSub) (eMd [(3, B_Book_spot_of)] [] (eV 14) (aCons (eV 18) aNil)) (eMd [(3, B_Book_spot_of)] [] (eV 14) (aCons (eV 17) aNil)))) (sIf (tOn (tV (eB (oNW [(0, B_Ratio___eq__)] ["int"] [0] pNe) (eFl [(2, 3), (4, 2)] (eV 13)) (eK (.int 0)))) (tOn (tV (eB (oNW [(0, B_Ratio___eq__)] ["int"] [0] pNe) (eFl [(2, 4)] (eV 13)) (eK (.str "forward")))) (tV (eB (oNW [(0, B_Ratio___eq__)] ["int"] [0] pNe) (eB (oP pGt) (ePr [(0, B_Ratio_sign)] (eB (oP pIx) (eFl [(2, 1)] (eV 13)) (eK (.int 0)))) (eK (.int 0))) (eB (oET [(0, B_Ratio___eq__)] ["int"] [0]) (eV 6) (eB (oET [(0, B_Ratio___eq__)] ["int"] [0]) (eV 17) (eK (.str "sent")))))))) (sRet (eK (.bl false))) sNil))
def br9 : M Fl := (sFor (itL (eN pTup (aCons (eN pTup (aCons (eK (.str "sent")) (aCons (eK (.str "met")) aNil))) (aCons (eN pTup (aCons (eK (.str "met")) (aCons (eK (.str "back")) aNil))) aNil)))) (gT [(gN 17), (gN 18)]) lapB)
def br10 : M Fl := (sIf (tOn (tV (eB (oNW [(0, B_Ratio___eq__)] ["int"] [0] pNe) (eCd B_called_sign [] (aCons (eV 14) (aCons (eV 15) (aCons (eCd B_Span_between [] (aCons (eK (.str "middle")) (aCons (eK (.str "met")) aNil))) aNil)))) (eK (.int 0)))) (tV (eB (oNW [(0, B_Ratio___eq__)] ["int"] [0] pNe) (eCd B_called_sign [] (aCons (eV 14) (aCons (eV 16) (aCons (eCd B_Span_between [] (aCons (eK (.str "sent")) (aCons (eK (.str "met")) aNil))) aNil)))) (eK (.int 1))))) (sRet (eK (.bl false))) sNil)
def br11 : M Fl := (sIf (tV (eB (oNW [(0, B_Ratio___eq__)] ["int"] [0] pNe) (eCd B_called_quotient [] (aCons (eV 14) (aCons (eV 15) (aCons (eCd B_Span_between [] (aCons (eK (.str "begin")) (aCons (eK (.str "met")) aNil))) (aCons (eCd B_Span_between [] (aCons (eK (.str "begin")) (aCons (eK (.str "sent")) aNil))) aNil))))) (eB (oW [(0, B_Ratio___mul__)] ["int"] [0] pMul) (eV 9) (eNd 0 B_Ratio___init__ [] (aCons (eB (oP pIx) (eV 2) (eK (.int 1))) (aCons (eB (oP pIx) (eV 2) (eK (.int 0))) aNil)))))) (sRet (eK (.bl false))) sNil)
def br12 : M Fl := (sRet (eB (oET [(0, B_Ratio___eq__)] ["int"] [0]) (eCd B_called_quotient [] (aCons (eV 14) (aCons (eV 16) (aCons (eCd B_Span_between [] (aCons (eK (.str "begin")) (aCons (eK (.str "met")) aNil))) (aCons (eCd B_Span_between [] (aCons (eK (.str "begin")) (aCons (eK (.str "middle")) aNil))) aNil))))) (eCd B__law_slow [] (aCons (eV 3) (aCons (eV 4) (aCons (eV 7) (aCons (eV 9) aNil)))))))
theorem brs : b__law_book_right = (sSeq br1 (sSeq br2 (sSeq br3 (sSeq br4 (sSeq br5 (sSeq br6 (sSeq br7 (sSeq br8 (sSeq br9 (sSeq br10 (sSeq br11 br12))))))))))) := rfl
theorem br1_ok {a b c d e f : Int} {K O S : Rat} (hK : B_Ratio___init__ [.ob 0 [], .int a, .int b] = .ok .non [some (rt K), none, none]) (hO : B_Ratio___init__ [.ob 0 [], .int c, .int d] = .ok .non [some (rt O), none, none]) (hS : B_Ratio___init__ [.ob 0 [], .int e, .int f] = .ok .non [some (rt S), none, none]) (n : Option D) :
    br1 [some (fr a b), some (fr c d), some (fr e f), n, n, n, n, n, n, n, n, n, n, n, n, n, n, n, n] = .ok .nx [some (fr a b), some (fr c d), some (fr e f), some (rt K), some (rt O), some (rt S), n, n, n, n, n, n, n, n, n, n, n, n, n] := by
  simp [br1, hK, hO, hS, gTs]
theorem br2_ok {a b c d : Int} {r2 r3 r4 r5 : Option D} (m1 : mulB a d = true) (m2 : mulB c b = true) (n : Option D) :
    br2 [some (fr a b), some (fr c d), r2, r3, r4, r5, n, n, n, n, n, n, n, n, n, n, n, n, n] = .ok .nx [some (fr a b), some (fr c d), r2, r3, r4, r5, some (.bl (decide (a * d < c * b))), n, n, n, n, n, n, n, n, n, n, n, n] := by
  simp [br2, oW_int, pMul_int m1, pMul_int m2]
theorem br3_ok {K O S m : Rat} {r0 r1 r2 : Option D} {q : Bool} (h1 : q = true → B_beats_right [rt K, rt O, rt S] = .ok (rt m) [none, none, none]) (h2 : q = false → B_beats_left [rt K, rt O, rt S] = .ok (rt m) [none, none, none]) (n : Option D) :
    br3 [r0, r1, r2, some (rt K), some (rt O), some (rt S), some (.bl q), n, n, n, n, n, n, n, n, n, n, n, n] = .ok .nx [r0, r1, r2, some (rt K), some (rt O), some (rt S), some (.bl q), some (rt m), n, n, n, n, n, n, n, n, n, n, n] := by
  cases q with
  | true => simp [br3, h1]
  | false => simp [br3, h2]
theorem br4_ok {K O S U M : Rat} {r0 r1 r2 r6 r7 : Option D} (h1 : B_echo_beats [rt K, rt O, rt S] = .ok (rt U) [none, none, none]) (h2 : B_middle_beats [rt K, rt O, rt S] = .ok (rt M) [none, none, none]) (n : Option D) :
    br4 [r0, r1, r2, some (rt K), some (rt O), some (rt S), r6, r7, n, n, n, n, n, n, n, n, n, n, n] = .ok .nx [r0, r1, r2, some (rt K), some (rt O), some (rt S), r6, r7, some (rt U), some (rt M), n, n, n, n, n, n, n, n, n] := by
  simp [br4, h1, h2, gTs]
theorem br5_ok {K O S m U M : Rat} {s1 s2 s3 s4 : D} {r0 r1 r2 r6 : Option D} (h1 : B__law_spot [rt K, rt S] = .ok s1 [none, none]) (h2 : B__law_spot [rt O, rt m] = .ok s2 [none, none]) (h3 : B__law_spot [rt K, rt U] = .ok s3 [none, none]) (h4 : B__law_spot [rt K, rt M] = .ok s4 [none, none]) (n : Option D) :
    br5 [r0, r1, r2, some (rt K), some (rt O), some (rt S), r6, some (rt m), some (rt U), some (rt M), n, n, n, n, n, n, n, n, n] = .ok .nx [r0, r1, r2, some (rt K), some (rt O), some (rt S), r6, some (rt m), some (rt U), some (rt M), some (.lst [s1, s2, s3, s4]), n, n, n, n, n, n, n, n] := by
  simp [br5, h1, h2, h3, h4, show 4 ≤ big by unfold big; omega]
theorem br6_ok (r0 r1 r2 r3 r4 r5 r6 r7 r8 r9 r10 n : Option D) :
    br6 [r0, r1, r2, r3, r4, r5, r6, r7, r8, r9, r10, n, n, n, n, n, n, n, n] = .ok .nx [r0, r1, r2, r3, r4, r5, r6, r7, r8, r9, r10, some (.dic [.inr "begin"] [zero2]), n, n, n, n, n, n, n] := by kernel_rfl
theorem br7_ok (t1 x1 t2 x2 t3 x3 t4 x4 : Rat) (r0 r1 r2 r3 r4 r5 r6 r7 r8 r9 n : Option D) :
    br7 [r0, r1, r2, r3, r4, r5, r6, r7, r8, r9, some (.lst [stp t1 [x1], stp t2 [x2], stp t3 [x3], stp t4 [x4]]), some (.dic [.inr "begin"] [zero2]), n, n, n, n, n, n, n] = .ok .nx [r0, r1, r2, r3, r4, r5, r6, r7, r8, r9, some (.lst [stp t1 [x1], stp t2 [x2], stp t3 [x3], stp t4 [x4]]), some (.dic tbK [zero2, cell t1 x1, cell t2 x2, cell t3 x3, cell t4 x4]), some (.str "middle"), some (stp t4 [x4]), n, n, n, n, n] := by kernel_rfl
theorem br8_ok {K O v1 v2 : Rat} {a b c d B : D} {r0 r1 r2 r5 r6 r7 r8 r9 r10 r12 r13 : Option D} (h1 : B_Book___init__ [.ob 3 [], .int 1, tbl a b c d] = .ok .non [some B, none, none]) (h2 : B_Pace_of_beats [rt K, .int 1, .int 0] = .ok (pace v1) [none, none, none]) (h3 : B_Pace_of_beats [rt O, .int 1, .int 0] = .ok (pace v2) [none, none, none]) (n : Option D) :
    br8 [r0, r1, r2, some (rt K), some (rt O), r5, r6, r7, r8, r9, r10, some (.dic tbK [zero2, a, b, c, d]), r12, r13, n, n, n, n, n] = .ok .nx [r0, r1, r2, some (rt K), some (rt O), r5, r6, r7, r8, r9, r10, some (tbl a b c d), r12, r13, some B, some (pace v1), some (pace v2), n, n] := by
  have e : D.dkl tbK [zero2, a, b, c, d] = tbl a b c d := rfl
  simp [br8, e, h1, h2, h3, gTs]
theorem et_bl (x y : Bool) (r : Ev) : oET [(0, B_Ratio___eq__)] ["int"] [0] (.bl x) (.bl y) r = .ok (.bl (x == y)) r := by
  show liftO (pEq (.bl x) (.bl y)) r = _
  cases x <;> cases y <;> rfl
theorem ne_bl (x y : Bool) (r : Ev) : oNW [(0, B_Ratio___eq__)] ["int"] [0] pNe (.bl x) (.bl y) r = .ok (.bl (x != y)) r := by
  show liftO (pNe (.bl x) (.bl y)) r = _
  cases x <;> cases y <;> rfl
theorem et_ss (r : Ev) : oET [(0, B_Ratio___eq__)] ["int"] [0] (.str "sent") (.str "sent") r = .ok (.bl true) r := by kernel_rfl
theorem et_ms (r : Ev) : oET [(0, B_Ratio___eq__)] ["int"] [0] (.str "met") (.str "sent") r = .ok (.bl false) r := by kernel_rfl
theorem ne_ff (r : Ev) : oNW [(0, B_Ratio___eq__)] ["int"] [0] pNe (.str "forward") (.str "forward") r = .ok (.bl false) r := by kernel_rfl
theorem ne_ii (i : Int) (r : Ev) : oNW [(0, B_Ratio___eq__)] ["int"] [0] pNe (.int i) (.int i) r = .ok (.bl false) r := by
  show liftO (pNe (.int i) (.int i)) r = _
  simp
theorem lapB_ok {L : List D} {n17 n18 : Str} {t x u y dt dx : Rat} {q z w : Bool} {r0 r1 r2 r3 r4 r5 r7 r8 r9 r10 r11 r12 r13 r15 r16 : Option D}
    (h1 : B_Book_spot_of [.ob 3 L, .str n18] = .ok (stp t [x]) [none, none]) (h2 : B_Book_spot_of [.ob 3 L, .str n17] = .ok (stp u [y]) [none, none]) (h3 : B_Step___sub__ [stp t [x], stp u [y]] = .ok (stp dt [dx]) [none, none])
    (h4 : dot dt [dx] dt [dx] = 0) (h5 : 0 < dt) (h6 : decide (0 < dx.num.sign) = w) (h7 : ∀ r, oET [(0, B_Ratio___eq__)] ["int"] [0] (.str n17) (.str "sent") r = .ok (.bl z) r) (h8 : w = (q == z)) :
    lapB [r0, r1, r2, r3, r4, r5, some (.bl q), r7, r8, r9, r10, r11, r12, r13, some (.ob 3 L), r15, r16, some (.str n17), some (.str n18)] = .ok .nx [r0, r1, r2, r3, r4, r5, some (.bl q), r7, r8, r9, r10, r11, r12, some (stp dt [dx]), some (.ob 3 L), r15, r16, some (.str n17), some (.str n18)] := by
  have w1 := oW_st (tb := [(2, B_Step___sub__)]) (p := pSub) (m := []) (cs := [2]) (y := stp u [y]) rfl rfl h3
  have k3 := sl_3 dt [dx]
  have k4 := sl_4 dt [dx]
  have k1 : (sl dt [dx])[1]? = some (.tup [rt dx]) := rfl
  have kf : knd dt 0 = "forward" := by
    unfold knd
    rw [if_neg (by decide), if_neg (by grind), if_pos h5]
  rw [h4] at k3 k4
  rw [kf] at k4
  have n0 : ∀ r, oNW [(0, B_Ratio___eq__)] ["int"] [0] pNe (rt 0) (.int 0) r = .ok (.bl false) r := fun r => by
    rw [ne_int]
    simp
  have sg := sign_ok dx
  generalize dx.num.sign = g at *
  have c1 := ne_ff
  subst h8
  simp [-sl_1, -sl_3, -sl_4, lapB, h1, h2, w1, k3, k4, k1, n0, c1, sg, h7, et_bl, ne_bl, h6]
theorem br9_ok {L : List D} {t1 x1 t2 x2 t3 x3 d1 y1 d2 y2 : Rat} {q : Bool} {r0 r1 r2 r3 r4 r5 r7 r8 r9 r10 r11 r12 r13 r15 r16 : Option D}
    (h1 : B_Book_spot_of [.ob 3 L, .str "sent"] = .ok (stp t1 [x1]) [none, none]) (h2 : B_Book_spot_of [.ob 3 L, .str "met"] = .ok (stp t2 [x2]) [none, none]) (h3 : B_Book_spot_of [.ob 3 L, .str "back"] = .ok (stp t3 [x3]) [none, none])
    (e1 : B_Step___sub__ [stp t2 [x2], stp t1 [x1]] = .ok (stp d1 [y1]) [none, none]) (e2 : B_Step___sub__ [stp t3 [x3], stp t2 [x2]] = .ok (stp d2 [y2]) [none, none])
    (f1 : dot d1 [y1] d1 [y1] = 0) (f2 : dot d2 [y2] d2 [y2] = 0) (g1 : 0 < d1) (g2 : 0 < d2) (i1 : decide (0 < y1.num.sign) = q) (i2 : decide (0 < y2.num.sign) = !q) (n : Option D) :
    br9 [r0, r1, r2, r3, r4, r5, some (.bl q), r7, r8, r9, r10, r11, r12, r13, some (.ob 3 L), r15, r16, n, n] = .ok .nx [r0, r1, r2, r3, r4, r5, some (.bl q), r7, r8, r9, r10, r11, r12, some (stp d2 [y2]), some (.ob 3 L), r15, r16, some (.str "met"), some (.str "back")] := by
  have a1 := lapB_ok (q := q) (r0 := r0) (r1 := r1) (r2 := r2) (r3 := r3) (r4 := r4) (r5 := r5) (r7 := r7) (r8 := r8) (r9 := r9) (r10 := r10) (r11 := r11) (r12 := r12) (r13 := r13) (r15 := r15) (r16 := r16) h2 h1 e1 f1 g1 i1 et_ss (by cases q <;> rfl)
  have a2 := lapB_ok (q := q) (r0 := r0) (r1 := r1) (r2 := r2) (r3 := r3) (r4 := r4) (r5 := r5) (r7 := r7) (r8 := r8) (r9 := r9) (r10 := r10) (r11 := r11) (r12 := r12) (r13 := some (stp d1 [y1])) (r15 := r15) (r16 := r16) h3 h2 e2 f2 g2 i2 et_ms (by cases q <;> rfl)
  simp [br9, itemsOf, forGo, gTs, a1, a2, show 2 ≤ big by unfold big; omega]
theorem br10_ok {L : List D} {v1 v2 : Rat} {q6 r0 r1 r2 r3 r4 r5 r7 r8 r9 r10 r11 r12 r13 r17 r18 : Option D} (h1 : B_called_sign [.ob 3 L, pace v1, spn "met" "middle" 1 (-1)] = .ok (.int 0) [none, none, none]) (h2 : B_called_sign [.ob 3 L, pace v2, spn "met" "sent" 1 (-1)] = .ok (.int 1) [none, none, none]) :
    br10 [r0, r1, r2, r3, r4, r5, q6, r7, r8, r9, r10, r11, r12, r13, some (.ob 3 L), some (pace v1), some (pace v2), r17, r18] = .ok .nx [r0, r1, r2, r3, r4, r5, q6, r7, r8, r9, r10, r11, r12, r13, some (.ob 3 L), some (pace v1), some (pace v2), r17, r18] := by
  have s1 := sp_mi
  have s2 := sp_sm
  generalize spn "met" "middle" 1 (-1) = P1 at *
  generalize spn "met" "sent" 1 (-1) = P2 at *
  have c0 := ne_ii 0
  have c1 := ne_ii 1
  simp [br10, s1, s2, h1, h2, c0, c1]
theorem br11_ok {L : List D} {v1 M Q F : Rat} {e f : Int} {q6 r0 r1 r3 r4 r5 r7 r8 r10 r11 r12 r13 r16 r17 r18 : Option D} (h1 : B_called_quotient [.ob 3 L, pace v1, spn "begin" "met" (-1) 1, spn "begin" "sent" (-1) 1] = .ok (rt Q) [none, none, none, none]) (h2 : B_Ratio___init__ [.ob 0 [], .int f, .int e] = .ok .non [some (rt F), none, none]) (h3 : B_Ratio___mul__ [rt M, rt F] = .ok (rt Q) [none, none]) :
    br11 [r0, r1, some (fr e f), r3, r4, r5, q6, r7, r8, some (rt M), r10, r11, r12, r13, some (.ob 3 L), some (pace v1), r16, r17, r18] = .ok .nx [r0, r1, some (fr e f), r3, r4, r5, q6, r7, r8, some (rt M), r10, r11, r12, r13, some (.ob 3 L), some (pace v1), r16, r17, r18] := by
  have s1 := sp_bm
  have s2 := sp_bs
  generalize spn "begin" "met" (-1) 1 = P1 at *
  generalize spn "begin" "sent" (-1) 1 = P2 at *
  have m1 := oW_rt (tb := [(0, B_Ratio___mul__)]) (p := pMul) (y := rt F) (l := [0]) rfl (rk_R (.rt F) []) h3
  simp [br11, s1, s2, h1, h2, m1, ne_rt]
theorem br12_ok {L : List D} {v2 K O m M Q : Rat} {q6 r0 r1 r2 r5 r8 r10 r11 r12 r13 r15 r17 r18 : Option D} (h1 : B_called_quotient [.ob 3 L, pace v2, spn "begin" "met" (-1) 1, spn "begin" "middle" (-1) 1] = .ok (rt Q) [none, none, none, none]) (h2 : B__law_slow [rt K, rt O, rt m, rt M] = .ok (rt Q) [none, none, none, none]) :
    br12 [r0, r1, r2, some (rt K), some (rt O), r5, q6, some (rt m), r8, some (rt M), r10, r11, r12, r13, some (.ob 3 L), r15, some (pace v2), r17, r18] = .ok (.rt (.bl true)) [r0, r1, r2, some (rt K), some (rt O), r5, q6, some (rt m), r8, some (rt M), r10, r11, r12, r13, some (.ob 3 L), r15, some (pace v2), r17, r18] := by
  have s1 := sp_bm
  have s2 := sp_bi
  generalize spn "begin" "met" (-1) 1 = P1 at *
  generalize spn "begin" "middle" (-1) 1 = P2 at *
  simp [br12, s1, s2, h1, h2, et_rt]
end Kw

namespace Kw
open PySem PySem.Spec PyProof.Rows L2 Z
def tI (r l : Rat) : Rat := (r + l) * hf
def xI (r l : Rat) : Rat := (l - r) * hf
theorem spt_eq (r l : Rat) : spt r l = stp (tI r l) [xI r l] := rfl
theorem I_inj {r l r' l' : Rat} (h : tI r l = tI r' l' ∧ xI r l = xI r' l') : r = r' ∧ l = l' := by
  obtain ⟨h1, h2⟩ := h
  unfold tI at h1
  unfold xI at h2
  rw [hf_eq] at h1 h2
  constructor <;> grind
theorem I_zero : tI 0 0 = 0 ∧ xI 0 0 = 0 := by
  unfold tI xI
  constructor <;> grind
/-- the lights of what is sent, met (r, l), back, and of the middle -/
structure Geo (A B A2 B2 C D r l : Rat) (c : Bool) : Prop where
  a0 : 0 < A
  a1 : A < C
  a2 : C < A2
  b0 : 0 < B
  b1 : B < D
  b2 : D < B2
  yes : c = true → r = A ∧ l = B2
  no : c = false → r = A2 ∧ l = B
section
variable {A B A2 B2 C D r l : Rat} {c : Bool}
theorem geo_ne {r l r' l' : Rat} (h : ¬ (r = r' ∧ l = l')) : ¬ (tI r l = tI r' l' ∧ xI r l = xI r' l') := fun z => h (I_inj z)
theorem geo_nz {r l : Rat} (h : 0 < r) : ¬ (0 = tI r l ∧ 0 = xI r l) := fun z => by
  have := I_inj (r := r) (l := l) (r' := 0) (l' := 0) ⟨by rw [I_zero.1]; exact z.1.symm, by rw [I_zero.2]; exact z.2.symm⟩
  grind
theorem geo_five {k : Nat} (g : Geo A B A2 B2 C D r l c) (h1 : Bd k (tI A B)) (h2 : Bd k (xI A B)) (h3 : Bd k (tI r l)) (h4 : Bd k (xI r l)) (h5 : Bd k (tI A2 B2)) (h6 : Bd k (xI A2 B2)) (h7 : Bd k (tI C D)) (h8 : Bd k (xI C D)) :
    Five k (tI A B) (xI A B) (tI r l) (xI r l) (tI A2 B2) (xI A2 B2) (tI C D) (xI C D) := by
  obtain ⟨a0, a1, a2, b0, b1, b2, yes, no⟩ := g
  have hr : 0 < r := by
    cases c with
    | true => have := yes rfl; grind
    | false => have := no rfl; grind
  refine ⟨h1, h2, h3, h4, h5, h6, h7, h8, geo_nz a0, geo_nz hr, fun z => geo_nz (show (0 : Rat) < A2 by grind) ⟨z.1.symm, z.2.symm⟩, geo_nz (show (0 : Rat) < C by grind), geo_ne fun z => ?_, geo_ne fun z => ?_, geo_ne fun z => ?_, geo_ne fun z => ?_, geo_ne fun z => ?_, geo_ne fun z => ?_⟩
  · cases c with
    | true => have := yes rfl; grind
    | false => have := no rfl; grind
  · grind
  · grind
  · cases c with
    | true => have := yes rfl; grind
    | false => have := no rfl; grind
  · cases c with
    | true => have := yes rfl; grind
    | false => have := no rfl; grind
  · grind
theorem dot_I (r l r' l' : Rat) : dot (tI r l - tI r' l') [xI r l - xI r' l'] (tI r l - tI r' l') [xI r l - xI r' l'] = (r - r') * (l - l') := by
  rw [dot1]
  unfold tI xI
  rw [hf_eq]
  grind
theorem dx_pos {y : Rat} {b : Bool} (h : b = true → 0 < y) (h2 : b = false → y < 0) : decide (0 < y.num.sign) = b := by
  cases b with
  | true => exact decide_eq_true ((sg_pos y).mpr (h rfl))
  | false =>
    refine decide_eq_false fun z => ?_
    have := (sg_pos y).mp z
    have := h2 rfl
    grind
theorem geo_laps (g : Geo A B A2 B2 C D r l c) :
    (dot (tI r l - tI A B) [xI r l - xI A B] (tI r l - tI A B) [xI r l - xI A B] = 0 ∧ 0 < tI r l - tI A B ∧ decide (0 < (xI r l - xI A B).num.sign) = c) ∧
    (dot (tI A2 B2 - tI r l) [xI A2 B2 - xI r l] (tI A2 B2 - tI r l) [xI A2 B2 - xI r l] = 0 ∧ 0 < tI A2 B2 - tI r l ∧ decide (0 < (xI A2 B2 - xI r l).num.sign) = !c) := by
  obtain ⟨a0, a1, a2, b0, b1, b2, yes, no⟩ := g
  rw [dot_I, dot_I]
  refine ⟨⟨?_, ?_, dx_pos (fun h => ?_) (fun h => ?_)⟩, ⟨?_, ?_, dx_pos (fun h => ?_) (fun h => ?_)⟩⟩
  · cases c with
    | true => have := yes rfl; grind
    | false => have := no rfl; grind
  · unfold tI
    rw [hf_eq]
    cases c with
    | true => have := yes rfl; grind
    | false => have := no rfl; grind
  · unfold xI
    rw [hf_eq]
    have := yes h
    grind
  · unfold xI
    rw [hf_eq]
    have := no h
    grind
  · cases c with
    | true => have := yes rfl; grind
    | false => have := no rfl; grind
  · unfold tI
    rw [hf_eq]
    cases c with
    | true => have := yes rfl; grind
    | false => have := no rfl; grind
  · have h : c = false := by cases c <;> simp_all
    unfold xI
    rw [hf_eq]
    have := no h
    grind
  · have h : c = true := by cases c <;> simp_all
    unfold xI
    rw [hf_eq]
    have := yes h
    grind
end
/-! ### worths -/
theorem vv_eq {K : Rat} (h : 0 < K) : vv K * (K * K + 1) = K * K - 1 := by
  have := sq_pos h
  unfold vv
  generalize K * K = s at *
  grind
def wW (K t x : Rat) : Rat := t - (0 + vv K * x)
theorem w_mul {K : Rat} (h : 0 < K) (t x : Rat) : wW K t x * (K * K + 1) = t * (K * K + 1) - x * (K * K - 1) := by
  have e := vv_eq h
  unfold wW
  grind
theorem w_two {K r l r' l' : Rat} (h : 0 < K) : wW K (0 + tI r l * 1 + tI r' l' * -1) (0 + xI r l * 1 + xI r' l' * -1) * (K * K + 1) = (r - r') * (K * K) + (l - l') := by
  rw [w_mul h]
  unfold tI xI
  rw [hf_eq]
  grind
theorem w_one {K r l : Rat} (h : 0 < K) : wW K (0 + 0 * -1 + tI r l * 1) (0 + 0 * -1 + xI r l * 1) * (K * K + 1) = r * (K * K) + l := by
  rw [w_mul h]
  unfold tI xI
  rw [hf_eq]
  grind
theorem pos_of_mul {w s : Rat} (hs : 0 < s) (h : 0 < w * s) : 0 < w := by
  apply Rat.not_le.mp
  intro z
  have := Rat.mul_le_mul_of_nonneg_right z (Rat.le_of_lt hs)
  grind
theorem eq_of_mul {w u s : Rat} (hs : 0 < s) (h : w * s = u * s) : w = u := by
  have e : (w - u) * s = 0 := by grind
  rcases Rat.mul_eq_zero.mp e with z | z
  · grind
  · rw [z] at hs; exact absurd hs (by decide)
theorem div_is {w u q : Rat} (hu : 0 < u) (h : w = q * u) : w / u = q := by
  subst h
  grind
end Kw

namespace Kw
open PySem PySem.Spec PyProof.Rows L2 Z
theorem div_lt_div {a b K : Rat} (h : a < b) (hk : 0 < K) : a / K < b / K := by
  rw [lt_div hk]
  have e : b / K * K = b := by grind
  rw [e]
  exact h
theorem mul_lt_mul {a b K : Rat} (h : a < b) (hk : 0 < K) : a * K < b * K := Rat.mul_lt_mul_of_pos_right h hk
def uU (K O S : Rat) : Rat := S * rr K O * rr K O
def mM (K O S : Rat) : Rat := (uU K O S + S) * hf
def me (K O S : Rat) : Rat := if K < O then S * O * (1 / K) else S * K * (1 / O)
theorem rr_gt1 {K O : Rat} (hk : 0 < K) (ho : 0 < O) (hn : K ≠ O) : 1 < rr K O := by
  by_cases h : K < O
  · rw [rr_le hk ho (Rat.le_of_lt h)]
    apply Rat.not_le.mp
    intro z
    have := Rat.mul_le_mul_of_nonneg_right z (Rat.le_of_lt hk)
    have e : O / K * K = O := by grind
    grind
  · have h2 : O < K := by grind
    rw [rr_gt hk ho h2]
    apply Rat.not_le.mp
    intro z
    have := Rat.mul_le_mul_of_nonneg_right z (Rat.le_of_lt ho)
    have e : K / O * O = K := by grind
    grind
theorem uM {K O S : Rat} (hk : 0 < K) (ho : 0 < O) (hs : 0 < S) (hn : K ≠ O) : S < mM K O S ∧ mM K O S < uU K O S ∧ 2 * mM K O S = uU K O S + S := by
  have h1 := rr_gt1 hk ho hn
  have h2 : S < uU K O S := by
    unfold uU
    have a := Rat.mul_pos hs (show 0 < rr K O - 1 by grind)
    have b := Rat.mul_pos (Rat.mul_pos hs (show 0 < rr K O - 1 by grind)) (show 0 < rr K O by grind)
    grind
  unfold mM
  rw [hf_eq]
  refine ⟨?_, ?_, ?_⟩ <;> grind
theorem geo_of {K O S : Rat} (hk : 0 < K) (ho : 0 < O) (hs : 0 < S) (hn : K ≠ O) : Geo (S / K) (S * K) (uU K O S / K) (uU K O S * K) (mM K O S / K) (mM K O S * K) (me K O S / O) (me K O S * O) (decide (K < O)) := by
  obtain ⟨h1, h2, _⟩ := uM hk ho hs hn
  refine ⟨qpos hs hk, div_lt_div h1 hk, div_lt_div h2 hk, Rat.mul_pos hs hk, mul_lt_mul h1 hk, mul_lt_mul h2 hk, fun h => ?_, fun h => ?_⟩
  · have h := of_decide_eq_true h
    unfold me uU
    rw [if_pos h, rr_le hk ho (Rat.le_of_lt h)]
    constructor <;> grind
  · have h := of_decide_eq_false h
    have h2 : O < K := by grind
    unfold me uU
    rw [if_neg h, rr_gt hk ho h2]
    constructor <;> grind
theorem met_sum {K O S : Rat} (hk : 0 < K) (ho : 0 < O) (hs : 0 < S) (hn : K ≠ O) : me K O S / O * (K * K) + me K O S * O = 2 * (mM K O S * K) := by
  obtain ⟨_, _, e⟩ := uM hk ho hs hn
  have g := geo_of hk ho hs hn
  by_cases h : K < O
  · obtain ⟨e1, e2⟩ := g.yes (decide_eq_true h)
    rw [e1, e2]
    grind
  · obtain ⟨e1, e2⟩ := g.no (decide_eq_false h)
    rw [e1, e2]
    grind
section
variable {K O S F : Rat}
theorem W1 (hk : 0 < K) (ho : 0 < O) (hs : 0 < S) (hn : K ≠ O) : wW K (0 + tI (me K O S / O) (me K O S * O) * 1 + tI (mM K O S / K) (mM K O S * K) * -1) (0 + xI (me K O S / O) (me K O S * O) * 1 + xI (mM K O S / K) (mM K O S * K) * -1) = 0 := by
  have s := sq_pos hk
  refine eq_of_mul (s := K * K + 1) (by grind) ?_
  rw [w_two hk]
  have e := met_sum hk ho hs hn
  have e2 : mM K O S / K * (K * K) = mM K O S * K := by grind
  grind
theorem W2 (hk : 0 < K) (ho : 0 < O) (hs : 0 < S) (hn : K ≠ O) : 0 < wW O (0 + tI (me K O S / O) (me K O S * O) * 1 + tI (S / K) (S * K) * -1) (0 + xI (me K O S / O) (me K O S * O) * 1 + xI (S / K) (S * K) * -1) := by
  have s := sq_pos ho
  refine pos_of_mul (s := O * O + 1) (by grind) ?_
  rw [w_two ho]
  have g := geo_of hk ho hs hn
  obtain ⟨a0, a1, a2, b0, b1, b2, yes, no⟩ := g
  by_cases h : K < O
  · obtain ⟨e1, e2⟩ := yes (decide_eq_true h)
    rw [e1, e2]
    grind
  · obtain ⟨e1, e2⟩ := no (decide_eq_false h)
    rw [e1, e2]
    have p := Rat.mul_pos (show 0 < uU K O S / K - S / K by grind) s
    grind
theorem W4 (hk : 0 < K) (hs : 0 < S) : 0 < wW K (0 + 0 * -1 + tI (S / K) (S * K) * 1) (0 + 0 * -1 + xI (S / K) (S * K) * 1) := by
  have s := sq_pos hk
  refine pos_of_mul (s := K * K + 1) (by grind) ?_
  rw [w_one hk]
  have e : S / K * (K * K) = S * K := by grind
  have := Rat.mul_pos hs hk
  grind
theorem W3 (hk : 0 < K) (ho : 0 < O) (hs : 0 < S) (hn : K ≠ O) (hF : F * S = 1) : wW K (0 + 0 * -1 + tI (me K O S / O) (me K O S * O) * 1) (0 + 0 * -1 + xI (me K O S / O) (me K O S * O) * 1) / wW K (0 + 0 * -1 + tI (S / K) (S * K) * 1) (0 + 0 * -1 + xI (S / K) (S * K) * 1) = mM K O S * F := by
  have s := sq_pos hk
  refine div_is (W4 hk hs) (eq_of_mul (s := K * K + 1) (by grind) ?_)
  rw [w_one hk, Rat.mul_assoc, w_one hk, met_sum hk ho hs hn]
  have e : S / K * (K * K) = S * K := by grind
  rw [e]
  grind
theorem W6 (hk : 0 < K) (ho : 0 < O) (hs : 0 < S) (hn : K ≠ O) : 0 < wW O (0 + 0 * -1 + tI (mM K O S / K) (mM K O S * K) * 1) (0 + 0 * -1 + xI (mM K O S / K) (mM K O S * K) * 1) := by
  have s := sq_pos ho
  obtain ⟨h1, _, _⟩ := uM hk ho hs hn
  refine pos_of_mul (s := O * O + 1) (by grind) ?_
  rw [w_one ho]
  have p1 := Rat.mul_pos (qpos (show 0 < mM K O S by grind) hk) s
  have p2 := Rat.mul_pos (show 0 < mM K O S by grind) hk
  grind
theorem W5 (hk : 0 < K) (ho : 0 < O) (hs : 0 < S) (hn : K ≠ O) : wW O (0 + 0 * -1 + tI (me K O S / O) (me K O S * O) * 1) (0 + 0 * -1 + xI (me K O S / O) (me K O S * O) * 1) / wW O (0 + 0 * -1 + tI (mM K O S / K) (mM K O S * K) * 1) (0 + 0 * -1 + xI (mM K O S / K) (mM K O S * K) * 1) = me K O S / ((K / O + 1 / (K / O)) * hf * mM K O S) := by
  have s := sq_pos ho
  obtain ⟨h1, _, _⟩ := uM hk ho hs hn
  have hm : 0 < mM K O S := by grind
  have hp := qpos hk ho
  have q1 : 1 / (K / O) = O / K := by grind
  have q2 := qpos ho hk
  refine div_is (W6 hk ho hs hn) (eq_of_mul (s := O * O + 1) (by grind) ?_)
  rw [w_one ho, Rat.mul_assoc, w_one ho, q1, hf_eq]
  generalize me K O S = m at *
  generalize mM K O S = M at *
  have z : 0 < (K / O + O / K) * (1 / 2) * M := Rat.mul_pos (Rat.mul_pos (by grind) (by decide +kernel)) hm
  have e1 : m / O * (O * O) + m * O = 2 * (m * O) := by grind
  have e2 : M / K * (O * O) + M * K = 2 * O * ((K / O + O / K) * (1 / 2) * M) := by grind
  rw [e1, e2]
  generalize (K / O + O / K) * (1 / 2) * M = Z at *
  grind
end
end Kw

namespace Kw
open PySem PySem.Spec PyProof.Rows L2 Z
theorem book_bk (sb s0 sm si ss : D) : Bk (bkl sb s0 sm si ss) (.tup nms) (bks sb s0 sm si ss) := ⟨rfl, rfl, rfl⟩
theorem i_met : pNotIn (.str "met") (.tup nms) = some (.bl false) := by kernel_rfl
theorem i_sent : pNotIn (.str "sent") (.tup nms) = some (.bl false) := by kernel_rfl
theorem i_back : pNotIn (.str "back") (.tup nms) = some (.bl false) := by kernel_rfl
theorem i_middle : pNotIn (.str "middle") (.tup nms) = some (.bl false) := by kernel_rfl
theorem i_begin : pNotIn (.str "begin") (.tup nms) = some (.bl false) := by kernel_rfl
theorem Bd.n1 {k : Nat} (h : 0 < k) : Bd k ((-1 : Int) : Rat) := (Bd.one h).neg
theorem Bd.p1 {k : Nat} (h : 0 < k) : Bd k ((1 : Int) : Rat) := Bd.one h
/-- what a traveller calls the step between two happenings -/
theorem call_ok {L : List D} {N T : D} {a b : Str} {i j : Int} {q1 q2 t1 x1 t2 x2 K : Rat} (h : Bk L N T) (ha : pNotIn (.str a) N = some (.bl false)) (hb : pNotIn (.str b) N = some (.bl false)) (d1 : pDix T (.str a) = some (stp t1 [x1])) (d2 : pDix T (.str b) = some (stp t2 [x2]))
    (b1 : Bd 90 t1) (b2 : Bd 90 x1) (b3 : Bd 90 t2) (b4 : Bd 90 x2) (c1 : Bd 1 q1) (c2 : Bd 1 q2) (hK : Bd 4 K) (k0 : 0 < K) :
    B_Book_step_of [.ob 3 L, sp2 a b q1 q2] = .ok (stp (0 + t1 * q1 + t2 * q2) [0 + x1 * q1 + x2 * q2]) [none, none] ∧ B_worth_of [pace (vv K), stp (0 + t1 * q1 + t2 * q2) [0 + x1 * q1 + x2 * q2]] = .ok (rt (wW K (0 + t1 * q1 + t2 * q2) (0 + x1 * q1 + x2 * q2))) [none, none] ∧ Bd 500 (wW K (0 + t1 * q1 + t2 * q2) (0 + x1 * q1 + x2 * q2)) := by
  have z : Bd 1 (0 : Rat) := Bd.zero (by omega)
  have bt := (z.add2 (b1.mul2 c1)).add2 (b3.mul2 c2)
  have bx := (z.add2 (b2.mul2 c1)).add2 (b4.mul2 c2)
  have ps := sq_pos k0
  have bv : Bd 20 (vv K) := ((hK.mul2 hK).sub2 (Bd.one (k := 1) (by omega))).div2 ((hK.mul2 hK).add2 (Bd.one (k := 1) (by omega))) (by grind)
  refine ⟨step_of_ok h ha hb d1 d2 b1 b2 b3 b4 (c1.mono (by omega)) (c2.mono (by omega)) (by omega) (by omega), worth_ok (k := 190) (bv.mono (by omega)) (bt.mono (by omega)) (bx.mono (by omega)) (by omega) (by omega), ?_⟩
  exact (bt.sub2 (z.add2 (bv.mul2 bx))).mono (by omega)
structure SOk (a b c d e f : Int) : Prop where
  a0 : 0 < a
  a1 : a ≤ 6
  b0 : 0 < b
  b1 : b ≤ 6
  c0 : 0 < c
  c1 : c ≤ 6
  d0 : 0 < d
  d1 : d ≤ 6
  e0 : 0 < e
  e1 : e ≤ 10
  f0 : 0 < f
  f1 : f ≤ 4
  ne : a * d ≠ c * b
theorem tI_bd {k : Nat} {r l : Rat} (hr : Bd k r) (hl : Bd k l) : Bd (k + k + 3) (tI r l) ∧ Bd (k + k + 3) (xI r l) :=
  ⟨((hr.add2 hl).mul2 hf_bd).mono (by omega), ((hl.sub2 hr).mul2 hf_bd).mono (by omega)⟩
section
variable {a b c d e f : Int}
theorem SOk.lt (h : SOk a b c d e f) : a.natAbs < 2 ^ 4 ∧ b.natAbs < 2 ^ 4 ∧ c.natAbs < 2 ^ 4 ∧ d.natAbs < 2 ^ 4 ∧ e.natAbs < 2 ^ 4 ∧ f.natAbs < 2 ^ 4 :=
  ⟨abs_lt_of (by have := h.a0; omega) h.a1 (by decide), abs_lt_of (by have := h.b0; omega) h.b1 (by decide), abs_lt_of (by have := h.c0; omega) h.c1 (by decide), abs_lt_of (by have := h.d0; omega) h.d1 (by decide), abs_lt_of (by have := h.e0; omega) h.e1 (by decide), abs_lt_of (by have := h.f0; omega) h.f1 (by decide)⟩
end
/-- all that a turn's book is asked, by itself -/
theorem bookR_core {K O S F : Rat} {a b c d e f : Int} (bt : Bt 4 K O S) (hs : 0 < S) (hn : K ≠ O) (hF : F * S = 1) (bF : Bd 4 F) (hq : a * d < c * b ↔ K < O) (hK : B_Ratio___init__ [.ob 0 [], .int a, .int b] = .ok .non [some (rt K), none, none]) (hO : B_Ratio___init__ [.ob 0 [], .int c, .int d] = .ok .non [some (rt O), none, none]) (hS : B_Ratio___init__ [.ob 0 [], .int e, .int f] = .ok .non [some (rt S), none, none])
    (hFi : B_Ratio___init__ [.ob 0 [], .int f, .int e] = .ok .non [some (rt F), none, none]) (m1 : mulB a d = true) (m2 : mulB c b = true) : B__law_book_right [fr a b, fr c d, fr e f] = .ok (.bl true) [none, none, none] := by
  have k0 := bt.k0
  have o0 := bt.o0
  have bK := bt.kb
  have bO := bt.ob
  have bS := bt.sb
  have g := geo_of k0 o0 hs hn
  have w1 := W1 k0 o0 hs hn
  have w2 := W2 k0 o0 hs hn
  have w3 := W3 k0 o0 hs hn hF
  have w4 := W4 k0 hs
  have w5 := W5 k0 o0 hs hn
  have w6 := W6 k0 o0 hs hn
  obtain ⟨u1, u2, _⟩ := uM k0 o0 hs hn
  have br := rr_bd bt (by omega)
  have bU : Bd 28 (uU K O S) := ((bS.mul2 br).mul2 br)
  have bM : Bd 35 (mM K O S) := (bU.add2 bS).mul2 hf_bd
  have one : Bd 1 (1 : Rat) := Bd.one (by omega)
  have bm : Bd 13 (me K O S) := by
    unfold me
    split
    · exact (bS.mul2 bO).mul2 (one.div2 bK k0)
    · exact (bS.mul2 bK).mul2 (one.div2 bO o0)
  have pm : 0 < me K O S := by
    unfold me
    split
    · exact Rat.mul_pos (Rat.mul_pos hs o0) (qpos (by decide) k0)
    · exact Rat.mul_pos (Rat.mul_pos hs k0) (qpos (by decide) o0)
  have r3 : decide (a * d < c * b) = decide (K < O) := by
    by_cases h : K < O
    · rw [decide_eq_true h, decide_eq_true (hq.mpr h)]
    · rw [decide_eq_false h, decide_eq_false fun z => h (hq.mp z)]
  have e3 := br3_ok (K := K) (O := O) (S := S) (m := me K O S) (q := decide (K < O)) (r0 := some (fr a b)) (r1 := some (fr c d)) (r2 := some (fr e f)) (fun h => by
    have e := right_ok (.rt K) (.rt O) (.rt S) bt (by omega) (by omega)
    unfold me
    rw [if_pos (of_decide_eq_true h)]
    exact e) (fun h => by
    have e := left_ok (.rt K) (.rt O) (.rt S) bt (by omega) (by omega)
    unfold me
    rw [if_neg (of_decide_eq_false h)]
    exact e) none
  have f1 : B_echo_beats [rt K, rt O, rt S] = .ok (rt (uU K O S)) [none, none, none] := echo_ok (.rt K) (.rt O) (.rt S) bt (by omega) (by omega)
  have f2 : B_middle_beats [rt K, rt O, rt S] = .ok (rt (mM K O S)) [none, none, none] := middle_ok (.rt K) (.rt O) (.rt S) bt (by omega) (by omega)
  have pU : 0 < uU K O S := by grind
  have pM : 0 < mM K O S := by grind
  have l1 := lspot_ok bK bS k0 hs (by omega) (by omega)
  have l2 := lspot_ok (k := 13) (bO.mono (by omega)) bm o0 pm (by omega) (by omega)
  have l3 := lspot_ok (k := 28) (bK.mono (by omega)) bU k0 pU (by omega) (by omega)
  have l4 := lspot_ok (k := 35) (bK.mono (by omega)) bM k0 pM (by omega) (by omega)
  rw [spt_eq] at l1 l2 l3 l4
  obtain ⟨t1, x1⟩ := tI_bd (k := 43) ((bS.div2 bK k0).mono (by omega)) ((bS.mul2 bK).mono (by omega))
  obtain ⟨t2, x2⟩ := tI_bd (k := 43) ((bm.div2 bO o0).mono (by omega)) ((bm.mul2 bO).mono (by omega))
  obtain ⟨t3, x3⟩ := tI_bd (k := 43) ((bU.div2 bK k0).mono (by omega)) ((bU.mul2 bK).mono (by omega))
  obtain ⟨t4, x4⟩ := tI_bd (k := 43) ((bM.div2 bK k0).mono (by omega)) ((bM.mul2 bK).mono (by omega))
  have five := geo_five g (t1.mono (by omega : _ ≤ 90)) (x1.mono (by omega)) (t2.mono (by omega)) (x2.mono (by omega)) (t3.mono (by omega)) (x3.mono (by omega)) (t4.mono (by omega)) (x4.mono (by omega))
  obtain ⟨⟨p1, p2, p3⟩, ⟨p4, p5, p6⟩⟩ := geo_laps g
  have ss1 := step_sub1 five.a2 five.a1 five.b2 five.b1 (by omega) (by omega)
  have ss2 := step_sub1 five.a3 five.a2 five.b3 five.b2 (by omega) (by omega)
  generalize hT1 : tI (S / K) (S * K) = T1 at *
  generalize hX1 : xI (S / K) (S * K) = X1 at *
  generalize hT2 : tI (me K O S / O) (me K O S * O) = T2 at *
  generalize hX2 : xI (me K O S / O) (me K O S * O) = X2 at *
  generalize hT3 : tI (uU K O S / K) (uU K O S * K) = T3 at *
  generalize hX3 : xI (uU K O S / K) (uU K O S * K) = X3 at *
  generalize hT4 : tI (mM K O S / K) (mM K O S * K) = T4 at *
  generalize hX4 : xI (mM K O S / K) (mM K O S * K) = X4 at *
  have bk := book_ok five (by omega) (by omega)
  have pk := pace_ok bK k0 (by omega) (by omega)
  have po := pace_ok bO o0 (by omega) (by omega)
  have bb := book_bk (stp T3 [X3]) (stp 0 [0]) (stp T2 [X2]) (stp T4 [X4]) (stp T1 [X1])
  have gm := g3 (stp T3 [X3]) (stp 0 [0]) (stp T2 [X2]) (stp T4 [X4]) (stp T1 [X1])
  have gs := g5 (stp T3 [X3]) (stp 0 [0]) (stp T2 [X2]) (stp T4 [X4]) (stp T1 [X1])
  have gb := g1 (stp T3 [X3]) (stp 0 [0]) (stp T2 [X2]) (stp T4 [X4]) (stp T1 [X1])
  have gi := g4 (stp T3 [X3]) (stp 0 [0]) (stp T2 [X2]) (stp T4 [X4]) (stp T1 [X1])
  have g0 := g2 (stp T3 [X3]) (stp 0 [0]) (stp T2 [X2]) (stp T4 [X4]) (stp T1 [X1])
  have z9 : Bd 90 (0 : Rat) := Bd.zero (by omega)
  have q1 := Bd.p1 (k := 1) (by omega)
  have qn := Bd.n1 (k := 1) (by omega)
  obtain ⟨so1, wo1, _⟩ := call_ok (i := 0) (j := 0) bb i_met i_middle gm gi five.a2 five.b2 five.a4 five.b4 q1 qn bK k0
  obtain ⟨so2, wo2, _⟩ := call_ok (i := 0) (j := 0) bb i_met i_sent gm gs five.a2 five.b2 five.a1 five.b1 q1 qn bO o0
  obtain ⟨so3, wo3, bo3⟩ := call_ok (i := 0) (j := 0) bb i_begin i_met g0 gm z9 z9 five.a2 five.b2 qn q1 bK k0
  obtain ⟨so4, wo4, bo4⟩ := call_ok (i := 0) (j := 0) bb i_begin i_sent g0 gs z9 z9 five.a1 five.b1 qn q1 bK k0
  obtain ⟨so5, wo5, bo5⟩ := call_ok (i := 0) (j := 0) bb i_begin i_met g0 gm z9 z9 five.a2 five.b2 qn q1 bO o0
  obtain ⟨so6, wo6, bo6⟩ := call_ok (i := 0) (j := 0) bb i_begin i_middle g0 gi z9 z9 five.a4 five.b4 qn q1 bO o0
  have c1 := csign_ok (cworth_ok bb i_met i_middle so1 wo1)
  have c2 := csign_ok (cworth_ok bb i_met i_sent so2 wo2)
  have c3 := cquot_ok bb i_begin i_met i_begin i_sent so3 wo3 so4 wo4 w4 bo3 bo4 (by omega) (by omega)
  have c5 := cquot_ok bb i_begin i_met i_begin i_middle so5 wo5 so6 wo6 w6 bo5 bo6 (by omega) (by omega)
  have w1 : wW K (0 + T2 * ((1 : Int) : Rat) + T4 * ((-1 : Int) : Rat)) (0 + X2 * ((1 : Int) : Rat) + X4 * ((-1 : Int) : Rat)) = 0 := w1
  have w2 : 0 < wW O (0 + T2 * ((1 : Int) : Rat) + T1 * ((-1 : Int) : Rat)) (0 + X2 * ((1 : Int) : Rat) + X1 * ((-1 : Int) : Rat)) := w2
  have w3 : wW K (0 + 0 * ((-1 : Int) : Rat) + T2 * ((1 : Int) : Rat)) (0 + 0 * ((-1 : Int) : Rat) + X2 * ((1 : Int) : Rat)) / wW K (0 + 0 * ((-1 : Int) : Rat) + T1 * ((1 : Int) : Rat)) (0 + 0 * ((-1 : Int) : Rat) + X1 * ((1 : Int) : Rat)) = mM K O S * F := w3
  have w5 : wW O (0 + 0 * ((-1 : Int) : Rat) + T2 * ((1 : Int) : Rat)) (0 + 0 * ((-1 : Int) : Rat) + X2 * ((1 : Int) : Rat)) / wW O (0 + 0 * ((-1 : Int) : Rat) + T4 * ((1 : Int) : Rat)) (0 + 0 * ((-1 : Int) : Rat) + X4 * ((1 : Int) : Rat)) = me K O S / ((K / O + 1 / (K / O)) * hf * mM K O S) := w5
  rw [w1] at c1
  rw [Int.sign_eq_one_of_pos ((nm_pos _).mpr w2)] at c2
  rw [w3] at c3
  rw [w5] at c5
  have sl := slow_ok (k := 35) (bK.mono (by omega)) (bO.mono (by omega)) (bm.mono (by omega)) bM k0 o0 pM (by omega) (by omega)
  have mf := mul_ok (k := 35) bM (bF.mono (by omega)) (by omega) (by omega)
  have run := sSeq_nx (g := sSeq br2 (sSeq br3 (sSeq br4 (sSeq br5 (sSeq br6 (sSeq br7 (sSeq br8 (sSeq br9 (sSeq br10 (sSeq br11 br12)))))))))) (br1_ok hK hO hS none)
  rw [sSeq_nx (br2_ok m1 m2 none), r3, sSeq_nx e3, sSeq_nx (br4_ok f1 f2 none), sSeq_nx (br5_ok l1 l2 l3 l4 none), sSeq_nx (br6_ok _ _ _ _ _ _ _ _ _ _ _ none), sSeq_nx (br7_ok _ _ _ _ _ _ _ _ _ _ _ _ _ _ _ _ _ _ none), sSeq_nx (br8_ok bk pk po none), sSeq_nx (br9_ok (spot_ok bb i_sent gs) (spot_ok bb i_met gm) (spot_ok bb i_back gb) ss1 ss2 p1 p4 p2 p5 p3 p6 none), sSeq_nx (br10_ok c1 c2), sSeq_nx (br11_ok c3 hFi mf), br12_ok c5 sl] at run
  have z : mkB 3 19 [] (sSeq br1 _) [fr a b, fr c d, fr e f] = _ := mkB_run (n := 3) (m := 19) (io := []) (r0 := [some (fr a b), some (fr c d), some (fr e f), none, none, none, none, none, none, none, none, none, none, none, none, none, none, none, none]) rfl rfl run
  rw [keepE3] at z
  rw [B__law_book_right, brs]
  exact z
end Kw

namespace Kw
open PySem PySem.Spec PyProof.Rows L2 Z
def lw1 : M Fl := (sAsF 1 (eCd B__law_pen [] (aCons (eV 0) aNil)))
def lw2 : M Fl := (sFor (itN pRng (aCons (eK (.int 3)) aNil)) (gN 2) (sSeq (sAs 3 (eCo B__law_pick 1 (aCons (eN pLst (aCons (eK (.int 6)) (aCons (eK (.int 6)) (aCons (eK (.int 999)) aNil)))) aNil))) (sSeq (sPar [gN 4, gN 5] (aCons (eN pTup (aCons (eB (oP pAdd) (eK (.int 1)) (eCo B__law_draw 1 (aCons (eV 3) aNil))) (aCons (eB (oP pAdd) (eK (.int 1)) (eCo B__law_draw 1 (aCons (eV 3) aNil))) aNil))) (aCons (eN pTup (aCons (eB (oP pAdd) (eK (.int 1)) (eCo B__law_draw 1 (aCons (eV 3) aNil))) (aCons (eB (oP pAdd) (eK (.int 1)) (eCo B__law_draw 1 (aCons (eV 3) aNil))) aNil))) aNil))) (sSeq (sAs 5 (eIf (tV (eB (oP pEq) (eCo B__law_draw 1 (aCons (eK (.int 7)) aNil)) (eK (.int 0)))) (eV 4) (eV 5))) (sSeq (sAs 6 (eN pTup (aCons (eCo B__law_draw 1 (aCons (eB (oP pIx) (eN pTup (aCons (eK (.int 11)) (aCons (eK (.int 1000)) aNil))) (eN pInt (aCons (eB (oP pGt) (eV 3) (eK (.int 6))) aNil))) aNil)) (aCons (eB (oP pAdd) (eK (.int 1)) (eCo B__law_draw 1 (aCons (eB (oP pIx) (eN pTup (aCons (eK (.int 4)) (aCons (eK (.int 30)) aNil))) (eN pInt (aCons (eB (oP pGt) (eV 3) (eK (.int 6))) aNil))) aNil))) aNil)))) (sSeq (sIf (tNo (tV (eCd B__law_sums_right [] (aCons (eV 4) (aCons (eV 5) (aCons (eV 6) aNil)))))) (sRet (eK (.bl false))) sNil) (sSeq (sAs 7 (eAnd (eB (oP pEq) (eV 3) (eK (.int 6))) (eAnd (eB (oP pGt) (eB (oP pIx) (eV 6) (eK (.int 0))) (eK (.int 0))) (eB (oP pNe) (eB (oP pMul) (eB (oP pIx) (eV 4) (eK (.int 0))) (eB (oP pIx) (eV 5) (eK (.int 1)))) (eB (oP pMul) (eB (oP pIx) (eV 5) (eK (.int 0))) (eB (oP pIx) (eV 4) (eK (.int 1)))))))) (sIf (tAn (tV (eV 7)) (tNo (tV (eCd B__law_book_right [] (aCons (eV 4) (aCons (eV 5) (aCons (eV 6) aNil))))))) (sRet (eK (.bl false))) sNil))))))))
def lw3 : M Fl := (sRet (eK (.bl true)))
theorem lws : b_law = (sSeq lw1 (sSeq lw2 lw3)) := rfl
def lb1 : M Fl := (sAs 3 (eCo B__law_pick 1 (aCons (eN pLst (aCons (eK (.int 6)) (aCons (eK (.int 6)) (aCons (eK (.int 999)) aNil)))) aNil)))
def lb2 : M Fl := (sPar [gN 4, gN 5] (aCons (eN pTup (aCons (eB (oP pAdd) (eK (.int 1)) (eCo B__law_draw 1 (aCons (eV 3) aNil))) (aCons (eB (oP pAdd) (eK (.int 1)) (eCo B__law_draw 1 (aCons (eV 3) aNil))) aNil))) (aCons (eN pTup (aCons (eB (oP pAdd) (eK (.int 1)) (eCo B__law_draw 1 (aCons (eV 3) aNil))) (aCons (eB (oP pAdd) (eK (.int 1)) (eCo B__law_draw 1 (aCons (eV 3) aNil))) aNil))) aNil)))
def lb3 : M Fl := (sAs 5 (eIf (tV (eB (oP pEq) (eCo B__law_draw 1 (aCons (eK (.int 7)) aNil)) (eK (.int 0)))) (eV 4) (eV 5)))
def lb4 : M Fl := (sAs 6 (eN pTup (aCons (eCo B__law_draw 1 (aCons (eB (oP pIx) (eN pTup (aCons (eK (.int 11)) (aCons (eK (.int 1000)) aNil))) (eN pInt (aCons (eB (oP pGt) (eV 3) (eK (.int 6))) aNil))) aNil)) (aCons (eB (oP pAdd) (eK (.int 1)) (eCo B__law_draw 1 (aCons (eB (oP pIx) (eN pTup (aCons (eK (.int 4)) (aCons (eK (.int 30)) aNil))) (eN pInt (aCons (eB (oP pGt) (eV 3) (eK (.int 6))) aNil))) aNil))) aNil))))
def lb5 : M Fl := (sIf (tNo (tV (eCd B__law_sums_right [] (aCons (eV 4) (aCons (eV 5) (aCons (eV 6) aNil)))))) (sRet (eK (.bl false))) sNil)
def lb6 : M Fl := (sAs 7 (eAnd (eB (oP pEq) (eV 3) (eK (.int 6))) (eAnd (eB (oP pGt) (eB (oP pIx) (eV 6) (eK (.int 0))) (eK (.int 0))) (eB (oP pNe) (eB (oP pMul) (eB (oP pIx) (eV 4) (eK (.int 0))) (eB (oP pIx) (eV 5) (eK (.int 1)))) (eB (oP pMul) (eB (oP pIx) (eV 5) (eK (.int 0))) (eB (oP pIx) (eV 4) (eK (.int 1))))))))
def lb7 : M Fl := (sIf (tAn (tV (eV 7)) (tNo (tV (eCd B__law_book_right [] (aCons (eV 4) (aCons (eV 5) (aCons (eV 6) aNil))))))) (sRet (eK (.bl false))) sNil)
def lbl : M Fl := (sSeq lb1 (sSeq lb2 (sSeq lb3 (sSeq lb4 (sSeq lb5 (sSeq lb6 lb7))))))
theorem lw2_eq : lw2 = sFor (itN pRng (aCons (eK (.int 3)) aNil)) (gN 2) lbl := rfl
section
variable {a b c d e f : Int}
theorem SOk.bt (h : SOk a b c d e f) : Bt 4 (Rat.divInt a b) (Rat.divInt c d) (Rat.divInt e f) :=
  let ⟨ha, hb, hc, hd, he, hf⟩ := h.lt
  ⟨di_pos h.a0 h.b0, di_pos h.c0 h.d0, di_nn (by have := h.e0; omega) h.f0, Bd.of h.b0 ha hb, Bd.of h.d0 hc hd, Bd.of h.f0 he hf⟩
theorem bookR_ok (h : SOk a b c d e f) : B__law_book_right [fr a b, fr c d, fr e f] = .ok (.bl true) [none, none, none] := by
  obtain ⟨ha, hb, hc, hd, he, hf⟩ := h.lt
  have up : ∀ {i : Int} {k : Nat}, i.natAbs < 2 ^ k → k ≤ 100 → i.natAbs < 2 ^ 100 := fun hi hk => Nat.lt_of_lt_of_le hi (Nat.pow_le_pow_right (by omega) hk)
  refine bookR_core (F := Rat.divInt f e) h.bt (di_pos h.e0 h.f0) ?_ ?_ (Bd.of h.e0 hf he) ?_ (new_ri h.b0 (up hb (by omega)) rfl) (new_ri h.d0 (up hd (by omega)) rfl) (new_ri h.f0 (up hf (by omega)) rfl) (new_ri h.e0 (up he (by omega)) rfl) (mulB10 ha hd (by omega) (by omega)) (mulB10 hc hb (by omega) (by omega))
  · intro z
    exact h.ne ((Rat.divInt_eq_divInt_iff (by have := h.b0; omega) (by have := h.d0; omega)).mp z)
  · have h1 := cast_pos h.e0
    have h2 := cast_pos h.f0
    rw [Rat.divInt_eq_div, Rat.divInt_eq_div]
    grind
  · exact (di_lt h.b0 h.d0).symm
end
theorem lb1_ok {S : Option D} {d d1 : D} {w : Int} {y2 y3 y4 y5 y6 y7 : Option D} (h : B__law_pick [d, .lst [.int 6, .int 6, .int 999]] = .ok (.int w) [some d1, none]) : lb1 [S, some d, y2, y3, y4, y5, y6, y7] = .ok .nx [S, some d1, y2, some (.int w), y4, y5, y6, y7] := by
  simp [lb1, h, show 3 ≤ big by unfold big; omega]
theorem lb2_ok {S y2 y4 y5 y6 y7 : Option D} {d d1 d2 d3 d4 : D} {w x1 x2 x3 x4 : Int} (h1 : B__law_draw [d, .int w] = .ok (.int x1) [some d1, none]) (h2 : B__law_draw [d1, .int w] = .ok (.int x2) [some d2, none]) (h3 : B__law_draw [d2, .int w] = .ok (.int x3) [some d3, none]) (h4 : B__law_draw [d3, .int w] = .ok (.int x4) [some d4, none]) :
    lb2 [S, some d, y2, some (.int w), y4, y5, y6, y7] = .ok .nx [S, some d4, y2, some (.int w), some (fr (1 + x1) (1 + x2)), some (fr (1 + x3) (1 + x4)), y6, y7] := by
  simp [lb2, h1, h2, h3, h4, gTs, show 2 ≤ big by unfold big; omega]
theorem lb3_ok {S y2 y3 y6 y7 : Option D} {d d1 : D} {x a b c e : Int} (h1 : B__law_draw [d, .int 7] = .ok (.int x) [some d1, none]) :
    lb3 [S, some d, y2, y3, some (fr a b), some (fr c e), y6, y7] = .ok .nx [S, some d1, y2, y3, some (fr a b), some (if x = 0 then fr a b else fr c e), y6, y7] := by
  by_cases h : x = 0
  · simp [lb3, h1, h]
  · simp [lb3, h1, h]
theorem lb4_ok {S y2 y4 y5 y6 y7 : Option D} {d d1 d2 : D} {w m1 m2 x1 x2 : Int} (hw : (w = 6 ∧ m1 = 11 ∧ m2 = 4) ∨ (w = 999 ∧ m1 = 1000 ∧ m2 = 30)) (h1 : B__law_draw [d, .int m1] = .ok (.int x1) [some d1, none]) (h2 : B__law_draw [d1, .int m2] = .ok (.int x2) [some d2, none]) :
    lb4 [S, some d, y2, some (.int w), y4, y5, y6, y7] = .ok .nx [S, some d2, y2, some (.int w), y4, y5, some (fr x1 (1 + x2)), y7] := by
  have hb : 2 ≤ big := by unfold big; omega
  rcases hw with ⟨rfl, rfl, rfl⟩ | ⟨rfl, rfl, rfl⟩
  · simp [lb4, h1, h2, hb]
  · simp [lb4, h1, h2, hb]
theorem lb5_ok {S y1 y2 y3 y7 : Option D} {p q r : D} (h : B__law_sums_right [p, q, r] = .ok (.bl true) [none, none, none]) : lb5 [S, y1, y2, y3, some p, some q, some r, y7] = .ok .nx [S, y1, y2, y3, some p, some q, some r, y7] := by
  simp [lb5, h]
theorem lb6_ok {S y1 y2 y7 : Option D} {w a b c d e f : Int} (m1 : mulB a d = true) (m2 : mulB c b = true) : lb6 [S, y1, y2, some (.int w), some (fr a b), some (fr c d), some (fr e f), y7] = .ok .nx [S, y1, y2, some (.int w), some (fr a b), some (fr c d), some (fr e f), some (.bl (decide (w = 6 ∧ 0 < e ∧ a * d ≠ c * b)))] := by
  by_cases h1 : w = 6
  · by_cases h2 : 0 < e
    · by_cases h3 : a * d = c * b
      · simp [lb6, pMul_int m1, pMul_int m2, h1, h2, h3]
      · simp [lb6, pMul_int m1, pMul_int m2, h1, h2, h3]
    · simp [lb6, h1, h2]
  · simp [lb6, h1]
theorem lb7_ok {S y1 y2 y3 : Option D} {p q r : D} {z : Bool} (h : z = true → B__law_book_right [p, q, r] = .ok (.bl true) [none, none, none]) : lb7 [S, y1, y2, y3, some p, some q, some r, some (.bl z)] = .ok .nx [S, y1, y2, y3, some p, some q, some r, some (.bl z)] := by
  cases z with
  | true => simp [lb7, h]
  | false => simp [lb7]
theorem lap_ok {n : Nat} {d : D} (h : Pen n d) (hn : n ≤ 2 ^ 10) (S y2 y3 y4 y5 y6 y7 : Option D) : ∃ d' z3 z4 z5 z6 z7, lbl [S, some d, y2, y3, y4, y5, y6, y7] = .ok .nx [S, some d', y2, z3, z4, z5, z6, z7] ∧ Pen (n + 8) d' := by
  obtain ⟨i, x, d1, ei, e1, p1⟩ := pick_ok (l := [.int 6, .int 6, .int 999]) h (by omega) (by simp) (by simp)
  obtain ⟨w, m1, m2, rfl, hw⟩ : ∃ w m1 m2 : Int, x = .int w ∧ ((w = 6 ∧ m1 = 11 ∧ m2 = 4) ∨ (w = 999 ∧ m1 = 1000 ∧ m2 = 30)) := by
    match i, ei with
    | 0, ei => simp at ei; exact ⟨6, 11, 4, ei.symm, .inl ⟨rfl, rfl, rfl⟩⟩
    | 1, ei => simp at ei; exact ⟨6, 11, 4, ei.symm, .inl ⟨rfl, rfl, rfl⟩⟩
    | 2, ei => simp at ei; exact ⟨999, 1000, 30, ei.symm, .inr ⟨rfl, rfl, rfl⟩⟩
    | i + 3, ei => simp at ei
  have hw0 : 0 < w ∧ w ≤ 999 ∧ 0 < m1 ∧ m1 ≤ 1000 ∧ 0 < m2 ∧ m2 ≤ 30 := by omega
  obtain ⟨x1, d2, e2, a0, a1, p2⟩ := draw_ok (m := w) p1 (by omega) hw0.1 (by omega)
  obtain ⟨x2, d3, e3, b0, b1, p3⟩ := draw_ok (m := w) p2 (by omega) hw0.1 (by omega)
  obtain ⟨x3, d4, e4, c0, c1, p4⟩ := draw_ok (m := w) p3 (by omega) hw0.1 (by omega)
  obtain ⟨x4, d5, e5, f0, f1, p5⟩ := draw_ok (m := w) p4 (by omega) hw0.1 (by omega)
  obtain ⟨x5, d6, e6, g0, g1, p6⟩ := draw_ok (m := 7) p5 (by omega) (by omega) (by omega)
  obtain ⟨x6, d7, e7, h0, h1, p7⟩ := draw_ok (m := m1) p6 (by omega) hw0.2.2.1 (by omega)
  obtain ⟨x7, d8, e8, i0, i1, p8⟩ := draw_ok (m := m2) p7 (by omega) hw0.2.2.2.2.1 (by omega)
  obtain ⟨c, e, hce, hc, he⟩ : ∃ c e : Int, (if x5 = 0 then fr (1 + x1) (1 + x2) else fr (1 + x3) (1 + x4)) = fr c e ∧ (0 < c ∧ c ≤ w) ∧ (0 < e ∧ e ≤ w) := by
    by_cases z : x5 = 0
    · exact ⟨1 + x1, 1 + x2, if_pos z, ⟨by omega, by omega⟩, ⟨by omega, by omega⟩⟩
    · exact ⟨1 + x3, 1 + x4, if_neg z, ⟨by omega, by omega⟩, ⟨by omega, by omega⟩⟩
  have s3 := lb3_ok (S := S) (y2 := y2) (y3 := some (.int w)) (y6 := y6) (y7 := y7) (a := 1 + x1) (b := 1 + x2) (c := 1 + x3) (e := 1 + x4) e6
  rw [hce] at s3
  have tk : TOk (1 + x1) (1 + x2) c e x6 (1 + x7) := ⟨by omega, by omega, by omega, by omega, by omega, by omega, by omega, by omega, by omega, by omega, by omega, by omega⟩
  obtain ⟨ha, hb, hcb, heb, _, _⟩ := tk.lt
  have s7 := lb7_ok (S := S) (y1 := some d8) (y2 := y2) (y3 := some (.int w)) (p := fr (1 + x1) (1 + x2)) (q := fr c e) (r := fr x6 (1 + x7)) (z := decide (w = 6 ∧ 0 < x6 ∧ (1 + x1) * e ≠ c * (1 + x2))) (fun z => by
    obtain ⟨q1, q2, q3⟩ := of_decide_eq_true z
    refine bookR_ok ⟨?_, ?_, ?_, ?_, ?_, ?_, ?_, ?_, ?_, ?_, ?_, ?_, q3⟩ <;> omega)
  refine ⟨d8, some (.int w), some (fr (1 + x1) (1 + x2)), some (fr c e), some (fr x6 (1 + x7)), some (.bl (decide (w = 6 ∧ 0 < x6 ∧ (1 + x1) * e ≠ c * (1 + x2)))), ?_, p8⟩
  unfold lbl
  rw [sSeq_nx (lb1_ok e1), sSeq_nx (lb2_ok e2 e3 e4 e5), sSeq_nx s3, sSeq_nx (lb4_ok hw e7 e8), sSeq_nx (lb5_ok (sums_ok tk)), sSeq_nx (lb6_ok (mulB10 ha heb (by omega) (by omega)) (mulB10 hcb hb (by omega) (by omega))), s7]
theorem pen_go (x : Option D) : ∀ (ns : List Int) (y : Option D), ∃ y', lcGo [1] (gN 1) tY (eN pInt (aCons (eV 1) aNil)) (ns.map .int) [x, y] = some (ns.map .int, [x, y'])
  | [], y => ⟨y, rfl⟩
  | i :: ns, y => by
    obtain ⟨y', e⟩ := pen_go x ns (some (.int i))
    refine ⟨y', ?_⟩
    simp [lcGo, wipeE, pInt, e]
theorem pen_ok (ns : List Int) (hl : ns.length ≤ 63) : ∃ d, B__law_pen [.kl (ns.map .int)] = .ok d [none] ∧ Pen 0 d := by
  obtain ⟨L, eL, lL⟩ : ∃ L : List Int, Z.cutD (ns.map .int) none (some 62) = L.map .int ∧ L.length ≤ 63 := by
    refine ⟨_, by rw [Z.cutD, ← List.map_drop, ← List.map_take], ?_⟩
    simp
    omega
  obtain ⟨y', e⟩ := pen_go (some (.kl (ns.map .int))) L none
  refine ⟨.lst [.lst (L.map .int), .int 0, .int 0], ?_, L, 0, 0, rfl, by omega, by omega⟩
  have hb : L.length ≤ big := by unfold big; omega
  simp [B__law_pen, mkF, b__law_pen, pSl, eL, itemsOf, hb, e, lcOut, backE, show 3 ≤ big from by unfold big; omega]
theorem lw1_ok {S d : D} (e : B__law_pen [S] = .ok d [none]) (n : Option D) : lw1 [some S, n, n, n, n, n, n, n] = .ok .nx [some S, some d, n, n, n, n, n, n] := by
  simp [lw1, e]
theorem keepE1 (r0 : Option D) (l : List (Option D)) : keepE [] 1 (r0 :: l) = [none] := rfl
theorem law_true (ns : List Int) (hl : ns.length ≤ 63) : B_law [.kl (ns.map .int)] = .ok (.bl true) [none] := by
  obtain ⟨d, e, p⟩ := pen_ok ns hl
  obtain ⟨d1, a3, a4, a5, a6, a7, e1, p1⟩ := lap_ok p (by omega) (some (.kl (ns.map .int))) (some (.int 0)) none none none none none
  obtain ⟨d2, b3, b4, b5, b6, b7, e2, p2⟩ := lap_ok p1 (by omega) (some (.kl (ns.map .int))) (some (.int 1)) a3 a4 a5 a6 a7
  obtain ⟨d3, c3, c4, c5, c6, c7, e3, p3⟩ := lap_ok p2 (by omega) (some (.kl (ns.map .int))) (some (.int 2)) b3 b4 b5 b6 b7
  generalize hS : D.kl (ns.map .int) = S at *
  have er : rng 0 3 = [.int 0, .int 1, .int 2] := by simp [rng, List.range_succ]
  have t2 : lw2 [some S, some d, none, none, none, none, none, none] = .ok .nx [some S, some d3, some (.int 2), c3, c4, c5, c6, c7] := by
    rw [lw2_eq]
    simp [pRng, er, forGo, e1, e2, e3]
  have run := sSeq_nx (g := sSeq lw2 lw3) (lw1_ok e none)
  have t3 : lw3 [some S, some d3, some (.int 2), c3, c4, c5, c6, c7] = .ok (.rt (.bl true)) [some S, some d3, some (.int 2), c3, c4, c5, c6, c7] := by simp [lw3]
  rw [sSeq_nx t2, t3] at run
  have z : mkB 1 8 [] (sSeq lw1 (sSeq lw2 lw3)) [S] = _ := mkB_run (n := 1) (m := 8) (io := []) (r0 := [some S, none, none, none, none, none, none, none]) rfl rfl run
  rw [keepE1] at z
  rw [B_law, lws]
  exact z
end Kw

open PySem PySem.W PySem.Calls PyProof.Rows
theorem PySem.Challenge.cw_whosefirst_k93_beats_and_echoes_holds : PySem.Challenge.rw_whosefirst_k93_beats_and_echoes.Holds := by
  w_on; o_law
  refine HandSHeadRun.head_imp (r := OpenLaw.row PySem.Challenge.rw_whosefirst_k93_beats_and_echoes) (q := view (OpenLaw.row PySem.Challenge.rw_whosefirst_k93_beats_and_echoes).prog [0, 103]) (H := Kw.hk) (ob := Kw.ob) (M := 16000) (loose := Kw.loose) (d := HandSHeadRun.topDef (OpenLaw.row PySem.Challenge.rw_whosefirst_k93_beats_and_echoes).prog 103) (kwd := []) Kw.ob_eq
    Kw.run (by kernel_rfl) (by kernel_rfl) (by kernel_rfl) (by rfl) (by first | assumption | decide +kernel) (by decide +kernel) ⟨rfl, rfl, rfl, rfl, rfl, by decide +kernel⟩ ?hw ?hc
  case hw => w_witness2
  case hc =>
    refine Z.walk_ofZ (l := PySem.Challenge.rw_whosefirst_k93_beats_and_echoes) (n := 63) (k := 16) (x := ("_law_script" : PySem.Str)) rfl (by decide) (by kernel_rfl) ⟨rfl, by decide, by decide⟩ ?F
    intro w mg fa h Y G hmg0
    obtain ⟨K, KX, c⟩ := Y
    have hmg : mg ("law" : PySem.Str) = some (.ref fa) := by
      have e : (HandSHeadRun.topDef (OpenLaw.row PySem.Challenge.rw_whosefirst_k93_beats_and_echoes).prog 103).name = ("law" : PySem.Str) := by kernel_rfl
      rw [← e]
      exact hmg0
    obtain ⟨fd, hb, hF⟩ := Kw.facts (P := (PySem.Challenge.rw_whosefirst_k93_beats_and_echoes).prog) (w := w) KX G hmg c
    refine ⟨K, fd, Z.spB (Kw.gm K) 1 [] Kw.B_law, KX, hb, fun H a ns hl hO hS => ?_, hF⟩
    exact Z.end_of hO hS (Kw.law_true ns hl)
