import PyProof.Rows.All
import Wide.All
import OpenK.AllK
import Wide.FinOn
import HandS.ForMost
import HandS.Exc
import HandS.ExcInit
import HandS.CallSlots
import HandS.Defaults
import HandS.IsInst
import HandS.Property
import HandS.Gcd
import HandS.Wide
import HandS.Flow
import HandS.Style
import HandS.Head0
import HandS.Head1
import HandS.Head2
import HandS.HeadEnd
import HandS.HeadHook1
import HandS.HeadHook2
import HandS.Lambda
import HandS.ExcOwn
import HandS.ClsMeth
import HandS.Iter
import HandS.Conv
import HandS.Walk
import HandS.Zip
import HandS.TryOnly
import HandS.OwnEq
import HandS.SlotsOwn
import KE.GoesMore
import HandS.Dict
import HandS.DictComp
import HandS.More
import KE.GoesZip
import KE.GoesEnum
import KE.KMathGC
import HandS.Star
import HandS.Deep
import HandS.ExcField
import HandS.HeadWalk
import HandS.DictEq
import HandS.ExcIs
import KE.KExcIs
import HandS.CallLocal
import HandS.ListItems
import KE.SortData
import HandS.TupLe
import HandS.Strs
import KE.DataMinMax
import PyProof.Rows.RowBridgeK
import OpenK.KMeth
import HandS.Codes
import HandS.Head3
import KE.KOpsOwn
import PySem.Challenge.RW_whosefirst_k81_the_least_that_brings_a_c
set_option Elab.async false
set_option linter.all false
set_option maxRecDepth 100000
set_option maxHeartbeats 0
namespace Z
open PySem PySem.Spec PyProof.Rows L2
def allTy : List String := ["NoneType", "bool", "int", "str", "tuple", "list", "dict"]
inductive Wh where
  | glo (x : Str)
  | met (x m : Str)
  | prp (x m : Str)
  | sta (x m : Str)
def recAt (K : PySem.W.Frag) (p : Addr) (T : String) : Addr := match PySem.W.recIn K p T with
  | some (.ref f :: _) => f
  | _ => 0
def Wh.ad (K : PySem.W.Frag) : Wh → Addr
  | .glo x => He.ga K x
  | .met x m => He.ma K (He.ga K x) m
  | .prp x m => recAt K (He.ma K (He.ga K x) m) "property"
  | .sta x m => recAt K (He.ma K (He.ga K x) m) "staticmethod"
structure DefZ where
  wh : Wh
  name : Str
  qual : Str
  params : Arguments
  body : List Stmt
  scope : Scope
  dfl : List He.Dv := []
def fnZ (K : PySem.W.Frag) (p : Wh) : He.FnW := match K.lookup (p.ad K) with
  | some ⟨_, _, .func g, _⟩ => some (g.name, g.qualname, g.params, g.body, g.scope, g.globals, g.closure, g.builtins)
  | _ => none
def DefZ.val (d : DefZ) : He.FnW := some (d.name, d.qual, d.params, .stmts d.body, d.scope, mainGlobals, [], builtinsNs)
def DefZ.dvs (K : PySem.W.Frag) (d : DefZ) : List V := d.dfl.map (He.Dv.v K)
def DefZ.ok (K : PySem.W.Frag) (d : DefZ) : Bool := PySem.W.keepIn K (.ref (d.wh.ad K)) && (match K.lookup (d.wh.ad K) with
  | some ⟨_, _, .func g, _⟩ => PySem.W.codeIn K g.code d.qual && He.dflB K g.defaults (d.dvs K)
  | _ => false)
abbrev Fz : Type := PySem.W.Frag → Bool
def refsZ (g : Addr → Option Obj) (a : Addr) : List Addr := match g a with
  | some o => (match o.cls with
    | .type n => (match n == "code" with
      | true => []
      | false => He.refsD o)
    | _ => He.refsD o)
  | none => []
def addZ : List Addr → Nat → List Addr → Nat × List Addr
  | [], m, acc => (m, acc)
  | b :: l, m, acc => HandSHeadRun.frNat b fun b => match Nat.beq (Nat.mod (Nat.shiftRight m b) 2) 1 with
    | true => addZ l m acc
    | false => HandSHeadRun.frNat (Nat.lor m (Nat.shiftLeft 1 b)) fun m => addZ l m (b :: acc)
def growZ (g : Addr → Option Obj) : Nat → List Addr → Nat → List Addr → List Addr
  | 0, _, _, all => all
  | n + 1, fr, m, all => match addZ (fr.flatMap (refsZ g)) m [] with
    | (m, new) => HandSHeadRun.frNat m fun m => growZ g n new m (all ++ new)
def asZ (g : Addr → Option Obj) (n : Nat) : List Addr := growZ g n [mainGlobals, cStatics] (Nat.lor (Nat.shiftLeft 1 mainGlobals) (Nat.shiftLeft 1 cStatics)) [mainGlobals, cStatics]
def obsZ (fa : List Fz) (fn : List DefZ) (K : PySem.W.Frag) : He.AlD := ((fa.all fun f => f K) && fn.all fun d => d.ok K, fn.map fun d => fnZ K d.wh)
def valZ (fn : List DefZ) : He.AlD := (true, fn.map DefZ.val)
def SaysZ (fa : List Fz) (fn : List DefZ) (K : PySem.W.Frag) : Prop := obsZ fa fn K = valZ fn
def obsZG (n : Nat) (fa : List Fz) (fn : List DefZ) (g : Addr → Option Obj) : He.AlD := obsZ fa fn (He.frG g (asZ g n))
def hookZ (n : Nat) (fa : List Fz) (fn : List DefZ) : PySem.W.Hook where
  α := He.AlD
  obs := fun s => obsZG n fa fn s.heap.get?
  val := fun _ => valZ fn
  says := fun _ h => ∃ K : PySem.W.Frag, K.In h ∧ SaysZ fa fn K
  of := fun _ _ e => ⟨_, He.frG_in, e⟩
  keeps := fun _ _ _ ⟨K, hK, c⟩ k => ⟨K, PySem.W.Frag.In.keeps hK k, c⟩
theorem obsZG_eq {n : Nat} {fa : List Fz} {fn : List DefZ} {g : Addr → Option Obj} {s : Shared} (h : ∀ a, g a = s.heap.get? a) : obsZG n fa fn g = (hookZ n fa fn).obs s := by
  rw [show g = s.heap.get? from funext h]
  rfl
def eqF {α : Type} [DecidableEq α] (a b : α) : Bool := decide (a = b)
def fGlo (x : Str) : Fz := fun K => (He.Fa.glo x).ok K
def fFree (x : Str) : Fz := fun K => (He.Fa.free x).ok K
def fBlt (x : Str) (id : String) : Fz := fun K => eqF (PySem.W.nsIn K mainGlobals x) (some (some (.builtin id)))
def fInt (x : Str) (i : Int) : Fz := fun K => (He.Fa.int x i).ok K
def fStr (x i : Str) : Fz := fun K => (He.Fa.str x i).ok K
def fCls (x : Str) (fs : List Str) : Fz := fun K => (He.Fa.cls x).ok K && fs.all fun f => (He.Fa.noat x f).ok K
def fMk (x : Str) : Fz := fun K => (He.Fa.mkr x).ok K
def fMet (x m : Str) : Fz := fun K => (He.Fa.meth x m).ok K
def fTy (x : Str) : Fz := fun K => eqF (PySem.W.findIn K (.ref (He.ga K x)) "__class__") (some (some (.builtin "object.__class__"))) && (eqF (PySem.W.specialIn K (.builtin "object.__class__") "__get__") (some (some (.builtin "getset_descriptor.__get__"))) &&
  (eqF (PySem.W.takesIn K (.builtin "object.__class__")) (some true) && eqF (PySem.W.mroIn K (He.ga K x) (.type "object")) (some true)))
def fKiO (x y : Str) (b : Bool) : Fz := fun K => eqF (PySem.W.kitOne K (.ref (He.ga K x)) (.ref (He.ga K y))) (some b)
def fKiB (y : Str) : Fz := fun K => allTy.all fun m => eqF (PySem.W.kitOne K (.type m) (.ref (He.ga K y))) (some false)
def fRd (x dr : Str) : Fz := fun K => match PySem.W.findIn K (.ref (He.ga K x)) dr with
  | some none => true
  | some (some (.ref _)) => true
  | _ => false
def fSf (x : Str) : Fz := fun K => PySem.W.selfFirst K (He.ga K x)
def fBiT (x dn dr : Str) (T : String) : Fz := fun K => (PySem.W.findIn K (.type T) dn).isSome && ((PySem.W.findIn K (.type T) dr).isSome && eqF (PySem.W.subIn K (.type T) (.ref (He.ga K x))) (some false))
def fNfT (x : Str) (T : String) : Fz := fun K => PySem.W.notFirst K (He.ga K x) (.type T)
def fNfO (x y : Str) : Fz := fun K => PySem.W.notFirst K (He.ga K x) (.ref (He.ga K y))
def fPrp (x m : Str) : Fz := fun K => eqF (PySem.W.findIn K (.ref (He.ga K x)) m) (some (some (.ref (He.ma K (He.ga K x) m)))) && (eqF (PySem.W.specialIn K (.ref (He.ma K (He.ga K x) m)) "__get__") (some (some (.builtin "property.__get__"))) &&
  (eqF (PySem.W.takesIn K (.ref (He.ma K (He.ga K x) m))) (some true) && (match PySem.W.recIn K (He.ma K (He.ga K x) m) "property" with
    | some (.ref _ :: _) => true
    | _ => false)))
def fSta (x m : Str) : Fz := fun K => PySem.W.readsIn K (He.ga K x) (.type "type") && (eqF (PySem.W.specialIn K (.ref (He.ga K x)) "__getattribute__") (some (some (.builtin "type.__getattribute__"))) &&
  ((match PySem.W.findCls K (.ref (He.ga K x)) (.type "type") m with
    | some (.get (.builtin "staticmethod.__get__") (.ref p) .none (.ref C)) => eqF p (He.ma K (He.ga K x) m) && eqF C (He.ga K x)
    | _ => false) && (match PySem.W.recIn K (He.ma K (He.ga K x) m) "staticmethod" with
    | some (.ref _ :: _) => true
    | _ => false)))
end Z
namespace Z
open PySem PySem.Spec PyProof.Rows L2
inductive D where
  | non | bl (b : Bool) | int (i : Int) | str (x : Str)
  | tup (l : List D) | lst (l : List D) | kl (l : List D) | dic (ks : List Key) (l : List D) | dkl (ks : List Key) (l : List D)
  | ftp (l : List D)
  | ob (c : Nat) (l : List D) | xo (c : Nat) (l : List D)
abbrev Ev := List (Option D)
inductive Out (α : Type) where
  | ok (a : α) (r : Ev) | ex (e : D) (r : Ev) | no
abbrev M (α : Type) := Ev → Out α
structure Gm where
  K : PySem.W.Frag
  cA : Nat → Addr
  lay : Nat → List Str
  imm : Nat → Bool
  flds : List Str
  tabs : List (Addr × Str) := []
  fnA : Nat → Option Addr := fun _ => none
def Grows (o o' : HO) : Prop := o' = o ∨ (∃ C dx fs more, o = .ins C dx fs ∧ o' = .ins C dx (fs ++ more)) ∨ ∃ ps ps', o = .tbl ps ∧ o' = .tbl ps'
theorem Grows.rfl' {o : HO} : Grows o o := .inl rfl
theorem Grows.trans {a b c : HO} (h : Grows a b) (h' : Grows b c) : Grows a c := by
  rcases h with rfl | ⟨C, dx, fs, more, rfl, rfl⟩ | ⟨ps, ps', rfl, rfl⟩
  · exact h'
  · rcases h' with rfl | ⟨C', dx', fs', more', e, rfl⟩ | ⟨_, _, e, _⟩
    · exact .inr (.inl ⟨_, _, _, _, rfl, rfl⟩)
    · injection e with e1 e2 e3
      subst e1 e2 e3
      exact .inr (.inl ⟨C, dx, fs, more ++ more', rfl, by rw [List.append_assoc]⟩)
    · cases e
  · rcases h' with rfl | ⟨_, _, _, _, e, _⟩ | ⟨_, qs, _, rfl⟩
    · exact .inr (.inr ⟨_, _, rfl, rfl⟩)
    · cases e
    · exact .inr (.inr ⟨_, _, rfl, rfl⟩)
theorem Grows.tup {xs : List V} {o : HO} (h : Grows (.tup xs) o) : o = .tup xs := by
  rcases h with rfl | ⟨_, _, _, _, e, _⟩ | ⟨_, _, e, _⟩
  · rfl
  · cases e
  · cases e
theorem Grows.lst {xs : List V} {o : HO} (h : Grows (.lst xs) o) : o = .lst xs := by
  rcases h with rfl | ⟨_, _, _, _, e, _⟩ | ⟨_, _, e, _⟩
  · rfl
  · cases e
  · cases e
theorem Grows.dK {xs : List (Key × V)} {o : HO} (h : Grows (.dK xs) o) : o = .dK xs := by
  rcases h with rfl | ⟨_, _, _, _, e, _⟩ | ⟨_, _, e, _⟩
  · rfl
  · cases e
  · cases e
theorem Grows.frz {ob : Obj} {u o : HO} (h : Grows (.frz ob u) o) : o = .frz ob u := by
  rcases h with rfl | ⟨_, _, _, _, e, _⟩ | ⟨_, _, e, _⟩
  · rfl
  · cases e
  · cases e
theorem Grows.xd {fs : List (Str × V)} {o : HO} (h : Grows (.xd fs) o) : o = .xd fs := by
  rcases h with rfl | ⟨_, _, _, _, e, _⟩ | ⟨_, _, e, _⟩
  · rfl
  · cases e
  · cases e
theorem Grows.ins {C dx : Addr} {fs : List (Str × V)} {o : HO} (h : Grows (.ins C dx fs) o) : ∃ more, o = .ins C dx (fs ++ more) := by
  rcases h with rfl | ⟨_, _, _, more, e, rfl⟩ | ⟨_, _, e, _⟩
  · exact ⟨[], by rw [List.append_nil]⟩
  · injection e with e1 e2 e3
    subst e1 e2 e3
    exact ⟨more, rfl⟩
  · cases e
def Sub (F H : Hp) : Prop := ∀ a o, F a = some o → ∃ o', H a = some o' ∧ Grows o o'
theorem Sub.rfl' {F : Hp} : Sub F F := fun a o h => ⟨o, h, .rfl'⟩
theorem Sub.trans {F G H : Hp} (h : Sub F G) (h' : Sub G H) : Sub F H := fun a o e => by
  obtain ⟨o1, e1, g1⟩ := h a o e
  obtain ⟨o2, e2, g2⟩ := h' a o1 e1
  exact ⟨o2, e2, g1.trans g2⟩
theorem Sub.sqT {K : PySem.W.Frag} {F H : Hp} {a : Addr} {xs : List V} (h : Sub F H) (s : SqT K F a xs) : SqT K H a xs := by
  rcases s with (e | ⟨o, e⟩) | s
  · obtain ⟨o', e', g⟩ := h a _ e
    rw [g.tup] at e'
    exact .inl (.inl e')
  · obtain ⟨o', e', g⟩ := h a _ e
    rw [g.frz] at e'
    exact .inl (.inr ⟨o, e'⟩)
  · exact .inr s
theorem Sub.sqL {K : PySem.W.Frag} {F H : Hp} {a : Addr} {xs : List V} (h : Sub F H) (s : SqL K F a xs) : SqL K H a xs := by
  rcases s with (e | ⟨o, e⟩) | s
  · obtain ⟨o', e', g⟩ := h a _ e
    rw [g.lst] at e'
    exact .inl (.inl e')
  · obtain ⟨o', e', g⟩ := h a _ e
    rw [g.frz] at e'
    exact .inl (.inr ⟨o, e'⟩)
  · exact .inr s
def XoO (C d a : Addr) : HO := .ext fun h => ∃ (oe : Obj) (vs : Array Value), h.get? a = some oe ∧ Zc (.ref C) (some d) oe ∧ oe.data = .fields vs
theorem Grows.ext {φ : Heap → Prop} {o : HO} (h : Grows (.ext φ) o) : o = .ext φ := by
  rcases h with rfl | ⟨_, _, _, _, e, _⟩ | ⟨_, _, e, _⟩
  · rfl
  · cases e
  · cases e
mutual
/-- v stands for the tree, by what never changes -/
inductive Rep (G : Gm) (F : Hp) : D → V → Prop
  | non : Rep G F .non .non
  | bl {b} : Rep G F (.bl b) (.bl b)
  | int {i} : Rep G F (.int i) (.int i)
  | str {x} : Rep G F (.str x) (.str x)
  | tup {l a xs} (h : SqT G.K F a xs) (r : RepL G F l xs) : Rep G F (.tup l) (.ref a)
  | lst {l a xs} (h : F a = some (.lst xs)) (r : RepL G F l xs) : Rep G F (.lst l) (.ref a)
  | kl {l a xs} (h : SqL G.K F a xs) (r : RepL G F l xs) : Rep G F (.kl l) (.ref a)
  | dic {ks l a kvs} (h : F a = some (.dK kvs)) (hk : kvs.map (·.1) = ks) (r : RepL G F l (kvs.map (·.2))) : Rep G F (.dic ks l) (.ref a)
  | dkl {ks l a kvs o} (h : F a = some (.frz o (.dK kvs))) (hk : kvs.map (·.1) = ks) (r : RepL G F l (kvs.map (·.2))) : Rep G F (.dkl ks l) (.ref a)
  | ftp {l a xs o} (h : F a = some (.frz o (.tup xs))) (ho : o.dict = none) (r : RepL G F l xs) : Rep G F (.ftp l) (.ref a)
  | ob {c l a dx xs more} (h : F a = some (.ins (G.cA c) dx ((G.lay c).zip xs ++ more))) (hl : xs.length ≤ (G.lay c).length) (r : RepL G F l xs) : Rep G F (.ob c l) (.ref a)
  | xo {c d l a dd fs xs} (h : F a = some (XoO (G.cA c) dd a)) (hd : F dd = some (.xd fs)) (hf : ∀ (i : Nat) (f : Str) (v : V), (G.lay c)[i]? = some f → xs[i]? = some v → fs.lookup f = some v) (r : RepL G F (d :: l) xs) : Rep G F (.xo c (d :: l)) (.ref a)
  | fn {k a} (h : G.fnA k = some a) : Rep G F (.xo k []) (.ref a)
inductive RepL (G : Gm) (F : Hp) : List D → List V → Prop
  | nil : RepL G F [] []
  | cons {d l v xs} (h : Rep G F d v) (t : RepL G F l xs) : RepL G F (d :: l) (v :: xs)
end
section
variable {G : Gm} {F F' H : Hp}
mutual
theorem Rep.mono (s : Sub F F') : ∀ {d : D} {v : V}, Rep G F d v → Rep G F' d v
  | _, _, .non => .non
  | _, _, .bl => .bl
  | _, _, .int => .int
  | _, _, .str => .str
  | _, _, .tup h r => .tup (s.sqT h) (RepL.mono s r)
  | _, _, .lst h r => by
    obtain ⟨o', e', g⟩ := s _ _ h
    rw [g.lst] at e'
    exact .lst e' (RepL.mono s r)
  | _, _, .kl h r => .kl (s.sqL h) (RepL.mono s r)
  | _, _, .dic h hk r => by
    obtain ⟨o', e', g⟩ := s _ _ h
    rw [g.dK] at e'
    exact .dic e' hk (RepL.mono s r)
  | _, _, .dkl h hk r => by
    obtain ⟨o', e', g⟩ := s _ _ h
    rw [g.frz] at e'
    exact .dkl e' hk (RepL.mono s r)
  | _, _, .ftp h ho r => by
    obtain ⟨o', e', g⟩ := s _ _ h
    rw [g.frz] at e'
    exact .ftp e' ho (RepL.mono s r)
  | _, _, .ob h hl r => by
    obtain ⟨o', e', g⟩ := s _ _ h
    obtain ⟨m, e⟩ := g.ins
    rw [e, List.append_assoc] at e'
    exact .ob e' hl (RepL.mono s r)
  | _, _, .xo h hd hf r => by
    obtain ⟨o', e', g⟩ := s _ _ h
    have g' : o' = XoO _ _ _ := g.ext
    rw [g'] at e'
    obtain ⟨u, e2, g2⟩ := s _ _ hd
    rw [g2.xd] at e2
    exact .xo e' e2 hf (RepL.mono s r)
  | _, _, .fn h => .fn h
theorem RepL.mono (s : Sub F F') : ∀ {l : List D} {xs : List V}, RepL G F l xs → RepL G F' l xs
  | _, _, .nil => .nil
  | _, _, .cons h t => .cons (Rep.mono s h) (RepL.mono s t)
end
theorem RepL.length : ∀ {l : List D} {xs : List V}, RepL G F l xs → l.length = xs.length
  | _, _, .nil => rfl
  | _, _, .cons _ t => congrArg Nat.succ t.length
theorem RepL.get : ∀ {l : List D} {xs : List V} {i : Nat} {d : D}, RepL G F l xs → l[i]? = some d → ∃ v, xs[i]? = some v ∧ Rep G F d v
  | _, _, _, _, .nil, e => by simp at e
  | _, _, 0, _, .cons h _, e => by simp at e; subst e; exact ⟨_, rfl, h⟩
  | _, _, i + 1, _, .cons _ t, e => by
    obtain ⟨v, h1, h2⟩ := t.get (i := i) (by simpa using e)
    exact ⟨v, by simpa using h1, h2⟩
theorem RepL.app : ∀ {l l' : List D} {xs xs' : List V}, RepL G F l xs → RepL G F l' xs' → RepL G F (l ++ l') (xs ++ xs')
  | _, _, _, _, .nil, h => h
  | _, _, _, _, .cons r t, h => .cons r (RepL.app t h)
theorem RepL.take : ∀ {l : List D} {xs : List V} (n : Nat), RepL G F l xs → RepL G F (l.take n) (xs.take n)
  | _, _, 0, _ => by simp only [List.take_zero]; exact .nil
  | _, _, _ + 1, .nil => .nil
  | _, _, n + 1, .cons r t => .cons r (t.take n)
theorem RepL.set {d : D} {v : V} (h : Rep G F d v) : ∀ {l : List D} {xs : List V} (n : Nat), RepL G F l xs → RepL G F (l.set n d) (xs.set n v)
  | _, _, _, .nil => .nil
  | _, _, 0, .cons _ t => .cons h t
  | _, _, n + 1, .cons r t => .cons r (t.set h n)
end
theorem zip_pre {α β : Type} : ∀ (l : List α) (xs : List β) (n : Nat), ∃ more, l.zip xs = l.zip (xs.take n) ++ more
  | [], _, _ => ⟨[], rfl⟩
  | _ :: _, [], _ => ⟨[], by simp⟩
  | a :: l, x :: xs, 0 => ⟨(a :: l).zip (x :: xs), by simp⟩
  | a :: l, x :: xs, n + 1 => by
    obtain ⟨m, e⟩ := zip_pre l xs n
    exact ⟨m, by simp [e]⟩
inductive Own (G : Gm) (F H : Hp) : D → V → Prop
  | lst {l a xs} (h : H a = some (.lst xs)) (hf : F a = none) (r : RepL G F l xs) : Own G F H (.lst l) (.ref a)
  | dic {ks l a kvs} (h : H a = some (.dK kvs)) (hf : F a = none) (hk : kvs.map (·.1) = ks) (r : RepL G F l (kvs.map (·.2))) : Own G F H (.dic ks l) (.ref a)
  | ob {c l a dx xs} (h : H a = some (.ins (G.cA c) dx ((G.lay c).zip xs))) (hf : F a = none ∨ (G.imm c = true ∧ ∃ n, F a = some (.ins (G.cA c) dx ((G.lay c).zip (xs.take n)))))
      (hl : xs.length ≤ (G.lay c).length) (r : RepL G F l xs) : Own G F H (.ob c l) (.ref a)
def Wi (G : Gm) (H : Hp) : Prop := ∀ a C dx fs f, H a = some (.ins C dx fs) → fs.lookup f ≠ none → f ∈ G.flds
def noIns : HO → Bool
  | .ins _ _ _ => false
  | .tbl _ => false
  | _ => true
def isTb : HO → Bool
  | .tbl _ => true
  | _ => false
theorem noIns_tb {o : HO} (h : noIns o = true) : isTb o = false := by
  cases o <;> first | rfl | cases h
theorem Wi.upd {G : Gm} {H : Hp} (w : Wi G H) {p : Addr} {o : HO} (h : noIns o = true) : Wi G (upd H p o) := fun a C dx fs f e => by
  by_cases q : a = p
  · subst q
    rw [upd_same] at e
    cases e
    cases h
  · rw [upd_ne q] at e
    exact w a C dx fs f e
def OwnAt (O : List Nat) (σ : L2.St) (a : Addr) : Prop := ∃ i ∈ O, σ[i]? = some (some (.ref a))
structure Wf (G : Gm) (H : Hp) : Prop where
  ins : Wi G H
  tab : LamX.Tabs G.tabs H
theorem Wf.upd {G : Gm} {H : Hp} (w : Wf G H) {p : Addr} {o : HO} (h : noIns o = true) : Wi G (L2.upd H p o) := w.ins.upd h
def NT (F : Hp) : Prop := ∀ a o, F a = some o → isTb o = false
theorem NT.upd {F : Hp} (h : NT F) {p : Addr} {o : HO} (ho : isTb o = false) : NT (L2.upd F p o) := fun a u e => by
  by_cases q : a = p
  · subst q
    rw [upd_same] at e
    cases e
    exact ho
  · rw [upd_ne q] at e
    exact h a u e
structure Sta (G : Gm) (O : List Nat) (F H : Hp) (σ : L2.St) (r : Ev) : Prop where
  sub : Sub F H
  nt : NT F
  wf : Wf G H
  len : r.length = σ.length
  rp : ∀ i d, i ∉ O → r[i]? = some (some d) → ∃ v, σ[i]? = some (some v) ∧ Rep G F d v
  ow : ∀ i ∈ O, ∃ d v, r[i]? = some (some d) ∧ σ[i]? = some (some v) ∧ Own G F H d v
  dj : ∀ i j a, i ∈ O → j ∈ O → σ[i]? = some (some (.ref a)) → σ[j]? = some (some (.ref a)) → i = j
theorem upd_none {H : Hp} {a b : Addr} {o : HO} (h : upd H a o b = none) : H b = none := by
  unfold upd at h
  split at h
  · cases h
  · exact h
def plainO : HO → Bool
  | .tbl _ => false
  | .ext _ => false
  | _ => true
theorem tab_at {H H' : Hp} {p P : Addr} {q : Str} {u : HO} (hp : H p = some u) (hu : plainO u = true) (hne : ∀ a, a ≠ p → H' a = H a) (t : LamX.TabS H P q) : LamX.TabS H' P q := by
  obtain ⟨ps, h1, h2, h3⟩ := t
  have nP : P ≠ p := fun z => by
    rw [z, hp] at h1
    cases h1
    cases hu
  refine ⟨ps, by rw [hne _ nP]; exact h1, h2, fun pos cv hc => ?_⟩
  obtain ⟨c, e1, e2⟩ := h3 pos cv hc
  have nc : c ≠ p := fun z => by
    rw [z, hp] at e2
    have e2 := Option.some.inj e2
    unfold LamX.CodeO at e2
    rw [e2] at hu
    cases hu
  exact ⟨c, e1, by rw [hne _ nc]; exact e2⟩
structure Stp (T : List (Addr × Str)) (Mo : Addr → Prop) (F H F' H' : Hp) : Prop where
  fz : Sub F F'
  kp : ∀ a o (_ : H a = some o) (_ : ¬ Mo a) (_ : isTb o = false := by rfl), H' a = some o
  nf : ∀ a o, H a = some o → ¬ Mo a → F' a = F a
  tr : ∀ a, H' a = none → H a = none
  tb : ∀ p ∈ T, LamX.TabS H p.1 p.2 → LamX.TabS H' p.1 p.2
theorem Stp.rfl' {T : List (Addr × Str)} {Mo : Addr → Prop} {F H : Hp} : Stp T Mo F H F H := ⟨.rfl', fun _ _ h _ _ => h, fun _ _ _ _ => rfl, fun _ h => h, fun _ _ t => t⟩
theorem Stp.at_ {T : List (Addr × Str)} {Mo : Addr → Prop} {F H F1 H1 : Hp} (s : Stp T Mo F H F1 H1) {a : Addr} {o : HO} (h : H a = some o) : ∃ o', H1 a = some o' := by
  cases e : H1 a with
  | some o' => exact ⟨o', rfl⟩
  | none => rw [s.tr a e] at h; cases h
theorem Stp.trans {T : List (Addr × Str)} {Mo Mo1 : Addr → Prop} {F H F1 H1 F2 H2 : Hp} (a : Stp T Mo F H F1 H1) (b : Stp T Mo1 F1 H1 F2 H2) (hm : ∀ x, Mo1 x → Mo x ∨ H x = none) : Stp T Mo F H F2 H2 where
  fz := a.fz.trans b.fz
  kp := fun x o h n t => b.kp x o (a.kp x o h n t) (fun m => (hm x m).elim n fun e => by rw [e] at h; cases h) t
  nf := fun x o h n => by
    obtain ⟨o', h'⟩ := a.at_ h
    exact (b.nf x o' h' fun m => (hm x m).elim n fun e => by rw [e] at h; cases h).trans (a.nf x o h n)
  tr := fun x h => a.tr x (b.tr x h)
  tb := fun P q t => b.tb P q (a.tb P q t)
theorem Stp.weak {T : List (Addr × Str)} {Mo Mo1 : Addr → Prop} {F H F1 H1 : Hp} (a : Stp T Mo F H F1 H1) (hm : ∀ x, Mo x → Mo1 x) : Stp T Mo1 F H F1 H1 := ⟨a.fz, fun x o h n t => a.kp x o h (fun m => n (hm x m)) t, fun x o h n => a.nf x o h fun m => n (hm x m), a.tr, a.tb⟩
theorem Own.mono {G : Gm} {T : List (Addr × Str)} {F H F' H' : Hp} {d : D} {v : V} {Mo : Addr → Prop} (h : Own G F H d v) (s : Stp T Mo F H F' H') (n : ∀ a, v = .ref a → ¬ Mo a) : Own G F' H' d v := by
  cases h with
  | lst h hf r => exact .lst (s.kp _ _ h (n _ rfl)) ((s.nf _ _ h (n _ rfl)).trans hf) (r.mono s.fz)
  | dic h hf hk r => exact .dic (s.kp _ _ h (n _ rfl)) ((s.nf _ _ h (n _ rfl)).trans hf) hk (r.mono s.fz)
  | ob h hf hl r =>
    refine .ob (s.kp _ _ h (n _ rfl)) ?_ hl (r.mono s.fz)
    rw [s.nf _ _ h (n _ rfl)]
    exact hf
theorem Own.there {G : Gm} {F H : Hp} {d : D} {v : V} (h : Own G F H d v) : ∃ a o, v = .ref a ∧ H a = some o := by
  cases h with
  | lst h _ _ => exact ⟨_, _, rfl, h⟩
  | dic h _ _ _ => exact ⟨_, _, rfl, h⟩
  | ob h _ _ _ => exact ⟨_, _, rfl, h⟩
theorem Own.freeze {G : Gm} {F H : Hp} {d : D} {v : V} (h : Own G F H d v) (sb : Sub F H) : ∃ F' a o, v = .ref a ∧ H a = some o ∧ F' = upd F a o ∧ Sub F F' ∧ Sub F' H ∧ Rep G F' d v ∧ isTb o = false := by
  have key : ∀ (a : Addr) (o : HO), H a = some o → (∀ u, F a = some u → Grows u o) → Sub F (upd F a o) ∧ Sub (upd F a o) H := fun a o e g => by
    refine ⟨fun b u hb => ?_, fun b u hb => ?_⟩
    · by_cases q : b = a
      · subst q
        exact ⟨o, upd_same, g u hb⟩
      · exact ⟨u, by rw [upd_ne q]; exact hb, .rfl'⟩
    · by_cases q : b = a
      · subst q
        rw [upd_same] at hb
        cases hb
        exact ⟨o, e, .rfl'⟩
      · rw [upd_ne q] at hb
        exact sb b u hb
  cases h with
  | @lst l a xs h hf r =>
    obtain ⟨k1, k2⟩ := key a _ h fun u e => by rw [hf] at e; cases e
    exact ⟨_, a, _, rfl, h, rfl, k1, k2, .lst upd_same (r.mono k1), rfl⟩
  | @dic ks l a kvs h hf hk r =>
    obtain ⟨k1, k2⟩ := key a _ h fun u e => by rw [hf] at e; cases e
    exact ⟨_, a, _, rfl, h, rfl, k1, k2, .dic upd_same hk (r.mono k1), rfl⟩
  | @ob c l a dx xs h hf hl r =>
    obtain ⟨k1, k2⟩ := key a _ h fun u e => by
      rcases hf with q | ⟨_, n, q⟩
      · rw [q] at e; cases e
      · rw [q] at e
        cases e
        obtain ⟨more, hz⟩ := zip_pre (G.lay c) xs n
        exact .inr (.inl ⟨_, _, _, more, rfl, by rw [← hz]⟩)
    exact ⟨_, a, _, rfl, h, rfl, k1, k2, .ob (more := []) (by rw [List.append_nil]; exact upd_same) hl (r.mono k1), rfl⟩
section
variable {G : Gm} {O : List Nat} {F H : Hp} {σ : L2.St} {r : Ev}
theorem Sta.own_at (S : Sta G O F H σ r) {i : Nat} {d : D} (hi : i ∈ O) (e : r[i]? = some (some d)) : ∃ v, σ[i]? = some (some v) ∧ Own G F H d v := by
  obtain ⟨d', v, e1, e2, o⟩ := S.ow i hi
  rw [e] at e1
  cases e1
  exact ⟨v, e2, o⟩
theorem Sta.stay {Mo : Addr → Prop} {F' H' : Hp} (S : Sta G O F H σ r) (s : Stp G.tabs Mo F H F' H') (sb : Sub F' H') (nt : NT F') (wi : Wi G H') (n : ∀ a, OwnAt O σ a → ¬ Mo a) : Sta G O F' H' σ r where
  sub := sb
  nt := nt
  wf := ⟨wi, fun p hp => s.tb p hp (S.wf.tab p hp)⟩
  len := S.len
  rp := fun i d hi e => by
    obtain ⟨v, e1, h⟩ := S.rp i d hi e
    exact ⟨v, e1, h.mono s.fz⟩
  ow := fun i hi => by
    obtain ⟨d, v, e1, e2, o⟩ := S.ow i hi
    exact ⟨d, v, e1, e2, o.mono s fun a ea => n a ⟨i, hi, by rw [e2, ea]⟩⟩
  dj := S.dj
theorem Sta.freeze (S : Sta G O F H σ r) {i : Nat} {d : D} (hi : i ∈ O) (e : r[i]? = some (some d)) :
    ∃ F' v, σ[i]? = some (some v) ∧ Rep G F' d v ∧ Sta G (O.filter (· != i)) F' H σ r ∧ Stp G.tabs (OwnAt O σ) F H F' H := by
  obtain ⟨v, e2, o⟩ := S.own_at hi e
  obtain ⟨F', a, ob, rfl, ha, rfl, k1, k2, rp, htb⟩ := o.freeze S.sub
  have mem : ∀ {j}, j ∈ O.filter (· != i) → j ∈ O ∧ j ≠ i := fun {j} hj => by
    obtain ⟨h1, h2⟩ := List.mem_filter.mp hj
    exact ⟨h1, fun z => by simp [z] at h2⟩
  refine ⟨_, _, e2, rp, ⟨k2, S.nt.upd htb, S.wf, S.len, fun j dj hj ej => ?_, fun j hj => ?_, fun j k b hj hk => S.dj j k b (mem hj).1 (mem hk).1⟩, ⟨k1, fun b u h _ _ => h, fun b u h n => ?_, fun _ h => h, fun _ _ t => t⟩⟩
  · by_cases q : j = i
    · subst q
      rw [e] at ej
      cases ej
      exact ⟨_, e2, rp⟩
    · obtain ⟨w, ew, hw⟩ := S.rp j dj (fun z => hj (List.mem_filter.mpr ⟨z, by simp [q]⟩)) ej
      exact ⟨w, ew, hw.mono k1⟩
  · obtain ⟨hj, hne⟩ := mem hj
    obtain ⟨dj, w, e1, ew, ow⟩ := S.ow j hj
    refine ⟨dj, w, e1, ew, ?_⟩
    obtain ⟨b, ob', rfl, hb⟩ := ow.there
    have nb : b ≠ a := fun z => hne (S.dj j i a hj hi (by rw [ew, z]) e2)
    cases ow with
    | lst h hf rr => exact .lst h (by rw [upd_ne nb]; exact hf) (rr.mono k1)
    | dic h hf hk rr => exact .dic h (by rw [upd_ne nb]; exact hf) hk (rr.mono k1)
    | ob h hf hl rr => exact .ob h (by rw [upd_ne nb]; exact hf) hl (rr.mono k1)
  · have nb : b ≠ a := fun z => n ⟨i, hi, by rw [e2, z]⟩
    exact upd_ne nb
theorem OwnAt.sub {O O' : List Nat} {a : Addr} (h : ∀ i ∈ O', i ∈ O) (x : OwnAt O' σ a) : OwnAt O σ a := let ⟨i, hi, e⟩ := x; ⟨i, h i hi, e⟩
theorem new_fz {p : Addr} {o : HO} (S : Sta G O F H σ r) (hp : H p = none) (hi : noIns o = true) : Sta G O (upd F p o) (upd H p o) σ r ∧ Stp G.tabs (OwnAt O σ) F H (upd F p o) (upd H p o) := by
  have fp : F p = none := by
    cases q : F p with
    | none => rfl
    | some u =>
      obtain ⟨o', e, _⟩ := S.sub p u q
      rw [hp] at e
      cases e
  have s : Stp G.tabs (fun _ => False) F H (upd F p o) (upd H p o) := ⟨fun a u e => ⟨u, by rw [upd_ne (ne_of_none e fp)]; exact e, .rfl'⟩, fun a u e _ _ => by rw [upd_ne (ne_of_none e hp)]; exact e, fun a u e _ => upd_ne (ne_of_none e hp), fun a e => upd_none e, fun _ _ t => t.ext fun a u e => by rw [upd_ne (ne_of_none e hp)]; exact e⟩
  refine ⟨S.stay s (fun a u e => ?_) (S.nt.upd (noIns_tb hi)) (S.wf.upd hi) fun _ _ z => z, s.weak fun _ z => z.elim⟩
  by_cases q : a = p
  · subst q
    rw [upd_same] at e
    cases e
    exact ⟨o, upd_same, .rfl'⟩
  · rw [upd_ne q] at e
    obtain ⟨o', e', g⟩ := S.sub a u e
    exact ⟨o', by rw [upd_ne q]; exact e', g⟩
theorem new_ow {p : Addr} {o : HO} (S : Sta G O F H σ r) (hp : H p = none) (hi : noIns o = true) : Sta G O F (upd H p o) σ r ∧ Stp G.tabs (OwnAt O σ) F H F (upd H p o) ∧ F p = none := by
  have fp : F p = none := by
    cases q : F p with
    | none => rfl
    | some u =>
      obtain ⟨o', e, _⟩ := S.sub p u q
      rw [hp] at e
      cases e
  have s : Stp G.tabs (fun _ => False) F H F (upd H p o) := ⟨.rfl', fun a u e _ _ => by rw [upd_ne (ne_of_none e hp)]; exact e, fun a u e _ => rfl, fun a e => upd_none e, fun _ _ t => t.ext fun a u e => by rw [upd_ne (ne_of_none e hp)]; exact e⟩
  refine ⟨S.stay s (fun a u e => ?_) S.nt (S.wf.upd hi) fun _ _ z => z, s.weak fun _ z => z.elim, fp⟩
  obtain ⟨o', e', g⟩ := S.sub a u e
  exact ⟨o', by rw [upd_ne (ne_of_none e' hp)]; exact e', g⟩
theorem Sta.set (S : Sta G O F H σ r) (i : Nat) {d : D} {v : V} (h : Rep G F d v) : Sta G (O.filter (· != i)) F H (σ.set i (some v)) (r.set i (some d)) where
  sub := S.sub
  nt := S.nt
  wf := S.wf
  len := by simp [S.len]
  rp := fun j dj hj e => by
    by_cases q : i = j
    · subst q
      by_cases hl : i < r.length
      · rw [List.getElem?_set_self hl] at e
        cases e
        exact ⟨v, List.getElem?_set_self (by rw [← S.len]; exact hl), h⟩
      · rw [List.getElem?_eq_none (by simp; omega)] at e
        cases e
    · rw [List.getElem?_set_ne q] at e
      rw [List.getElem?_set_ne q]
      exact S.rp j dj (fun z => hj (List.mem_filter.mpr ⟨z, by simp [Ne.symm q]⟩)) e
  ow := fun j hj => by
    obtain ⟨h1, h2⟩ := List.mem_filter.mp hj
    have q : i ≠ j := fun z => by simp [z] at h2
    rw [List.getElem?_set_ne q, List.getElem?_set_ne q]
    exact S.ow j h1
  dj := fun j k a hj hk ej ek => by
    obtain ⟨h1, h2⟩ := List.mem_filter.mp hj
    obtain ⟨h3, h4⟩ := List.mem_filter.mp hk
    have q : i ≠ j := fun z => by simp [z] at h2
    have q' : i ≠ k := fun z => by simp [z] at h4
    rw [List.getElem?_set_ne q] at ej
    rw [List.getElem?_set_ne q'] at ek
    exact S.dj j k a h1 h3 ej ek
end
structure Nx (G : Gm) (OX O O' : List Nat) (σ : L2.St) (F H : Hp) (σ' : L2.St) (F' H' : Hp) (r' : Ev) : Prop where
  sta : Sta G O' F' H' σ' r'
  stp : Stp G.tabs (OwnAt O σ) F H F' H'
  kp : ∀ i ∈ OX, σ'[i]? = σ[i]?
  pv : ∀ a, OwnAt O' σ' a → OwnAt O σ a ∨ H a = none
section
variable {G : Gm} {OX O O1 O2 O' : List Nat} {σ σ1 σ2 : L2.St} {F H F1 H1 F2 H2 : Hp} {r r1 r2 : Ev}
theorem Nx.rfl' (S : Sta G O F H σ r) : Nx G OX O O σ F H σ F H r := ⟨S, .rfl', fun _ _ => rfl, fun _ h => .inl h⟩
theorem Nx.trans (a : Nx G OX O O1 σ F H σ1 F1 H1 r1) (b : Nx G OX O1 O2 σ1 F1 H1 σ2 F2 H2 r2) : Nx G OX O O2 σ F H σ2 F2 H2 r2 where
  sta := b.sta
  stp := a.stp.trans b.stp a.pv
  kp := fun i hi => (b.kp i hi).trans (a.kp i hi)
  pv := fun x h => by
    rcases b.pv x h with q | q
    · exact a.pv x q
    · by_cases m : OwnAt O σ x
      · exact .inl m
      · cases e : H x with
        | none => exact .inr rfl
        | some o => rw [a.stp.tr x q] at e; cases e
theorem Sta.freezeTo (OX : List Nat) : ∀ (n : Nat) {O : List Nat} {F : Hp}, (O.filter fun i => !OX.contains i).length = n → (∀ i ∈ OX, i ∈ O) → Sta G O F H σ r → ∃ F', Sta G OX F' H σ r ∧ Stp G.tabs (OwnAt O σ) F H F' H := by
  intro n
  induction n using Nat.strongRecOn with
  | _ n ih =>
    intro O F hn hx S
    cases q : O.filter fun i => !OX.contains i with
    | nil =>
      have sub : ∀ i ∈ O, i ∈ OX := fun i hi => by
        by_cases m : i ∈ OX
        · exact m
        · have : i ∈ O.filter fun i => !OX.contains i := List.mem_filter.mpr ⟨hi, by simp [m]⟩
          rw [q] at this
          cases this
      exact ⟨F, ⟨S.sub, S.nt, S.wf, S.len, fun i d hi => S.rp i d fun z => hi (sub i z), fun i hi => S.ow i (hx i hi), fun i j a hi hj => S.dj i j a (hx i hi) (hx j hj)⟩, .rfl'⟩
    | cons i l =>
      have hi : i ∈ O.filter fun i => !OX.contains i := by rw [q]; exact List.mem_cons_self
      obtain ⟨h1, h2⟩ := List.mem_filter.mp hi
      have hni : i ∉ OX := by simpa using h2
      obtain ⟨d, v, e1, _, _⟩ := S.ow i h1
      obtain ⟨F1, v', _, _, S1, s1⟩ := S.freeze h1 e1
      have hlt : ((O.filter (· != i)).filter fun i => !OX.contains i).length < n := by
        rw [← hn, List.filter_filter]
        refine Nat.lt_of_lt_of_le ?_ (Nat.le_refl _)
        have : (O.filter fun a => (!OX.contains a) && (a != i)) = (O.filter fun a => !OX.contains a).filter (· != i) := by
          rw [List.filter_filter]
          congr 1
          funext a
          exact Bool.and_comm _ _
        rw [this]
        exact List.length_filter_lt_length_iff_exists.mpr ⟨i, hi, by simp⟩
      obtain ⟨F2, S2, s2⟩ := ih _ hlt rfl (fun j hj => List.mem_filter.mpr ⟨hx j hj, by simp; exact fun z => hni (z ▸ hj)⟩) S1
      exact ⟨F2, S2, s1.trans s2 fun x m => .inl (m.sub fun j hj => (List.mem_filter.mp hj).1)⟩
theorem Nx.freeze (a : Nx G OX O O1 σ F H σ1 F1 H1 r1) {OY : List Nat} (hx : ∀ i ∈ OY, i ∈ O1) : ∃ F2, Nx G OX O OY σ F H σ1 F2 H1 r1 ∧ Sub F1 F2 := by
  obtain ⟨F2, S2, s2⟩ := Sta.freezeTo OY _ rfl hx a.sta
  exact ⟨F2, a.trans ⟨S2, s2, fun _ _ => rfl, fun x m => .inl (m.sub hx)⟩, s2.fz⟩
theorem Nx.of (S : Sta G O1 F1 H1 σ r1) (s : Stp G.tabs (OwnAt O σ) F H F1 H1) (h : ∀ i ∈ O1, i ∈ O) : Nx G OX O O1 σ F H σ F1 H1 r1 := ⟨S, s, fun _ _ => rfl, fun _ m => .inl (m.sub h)⟩
end
inductive XRep (G : Gm) (F : Hp) : D → Value → Option Addr → Prop
  | mk {c l d fs} (h : F d = some (.xd fs)) (hl : l.length = (G.lay c).length) (r : ∀ (i : Nat) (f : Str) (x : D), (G.lay c)[i]? = some f → l[i]? = some x → ∃ v, fs.lookup f = some v ∧ Rep G F x v) : XRep G F (.xo c l) (.ref (G.cA c)) (some d)
  | bare {c} : XRep G F (.xo c []) (.ref (G.cA c)) none
theorem XRep.mono {G : Gm} {F F' : Hp} {e : D} {c : Value} {dx : Option Addr} (h : XRep G F e c dx) (s : Sub F F') : XRep G F' e c dx := by
  cases h with
  | mk h hl r =>
    obtain ⟨o', e', g⟩ := s _ _ h
    rw [g.xd] at e'
    exact .mk e' hl fun i f x a b => by
      obtain ⟨v, h1, h2⟩ := r i f x a b
      exact ⟨v, h1, h2.mono s⟩
  | bare => exact .bare
def Pst {α β : Type} (G : Gm) (W : WX) (OX O O' : List Nat) (σ : L2.St) (F H : Hp) (Rl : Hp → Hp → α → β → Prop) (Q : β → Hp → Prop) : Out α → Prop
  | .ok a r' => ∀ b F' H', Nx G OX O O' σ F H σ F' H' r' → Rl F' H' a b → Q b H'
  | .ex e r' => ∀ c dx F' H', Nx G OX O OX σ F H σ F' H' r' → XRep G F' e c dx → W c dx σ H'
  | .no => False
def tX {α β : Type} (G : Gm) (W : WX) (OX O O' : List Nat) (Rl : Hp → Hp → α → β → Prop) (f : M α) : L2.St → Hp → (β → Hp → Prop) → Prop := fun σ H Q => ∃ F r, Sta G O F H σ r ∧ Pst G W OX O O' σ F H Rl Q (f r)
abbrev RD (G : Gm) : Hp → Hp → D → V → Prop := fun F _ d v => Rep G F d v
abbrev RF (G : Gm) (O : List Nat) (σ : L2.St) (H0 : Hp) : Hp → Hp → D → V → Prop := fun F H d v => Own G F H d v ∧ ∀ a, v = .ref a → H0 a = none ∧ ¬ OwnAt O σ a
abbrev tE (G : Gm) (W : WX) (OX O O' : List Nat) (f : M D) : TE := tX G W OX O O' (RD G) f
def tF (G : Gm) (W : WX) (OX O O' : List Nat) (f : M D) : TE := fun σ H Q => tX G W OX O O' (RF G O' σ H) f σ H Q
theorem Pst.mono {α β : Type} {G : Gm} {W : WX} {OX O O1 : List Nat} {σ : L2.St} {F H : Hp} {Rl : Hp → Hp → α → β → Prop} {o : Out α} {Q Q' : β → Hp → Prop} (p : Pst G W OX O O1 σ F H Rl Q o) (h : ∀ b H, Q b H → Q' b H) : Pst G W OX O O1 σ F H Rl Q' o := by
  revert p
  cases o with
  | no => exact fun p => p
  | ex e r' => exact fun p => p
  | ok a r1 => exact fun p b F1 H1 n rl => h b H1 (p b F1 H1 n rl)
end Z
namespace Z
open PySem PySem.Spec PyProof.Rows L2
@[simp] def liftO (o : Option D) (r : Ev) : Out D := match o with
  | some d => .ok d r
  | none => .no
section
variable {G : Gm} {X : Cx} {W : WX} {OX O O1 O2 O3 : List Nat}
theorem Pst.ok {α β : Type} {σ : L2.St} {F H : Hp} {r : Ev} {Rl : Hp → Hp → α → β → Prop} {Q : β → Hp → Prop} {a : α} {b : β} (S : Sta G O F H σ r) (rl : Rl F H a b) (p : Pst G W OX O O σ F H Rl Q (.ok a r)) : Q b H := p b F H (Nx.rfl' S) rl
def Op2 (G : Gm) (X : Cx) (W : WX) (OX O : List Nat) (f : Value → Value → Sem Value) (o : D → D → Ev → Out D) : Prop :=
  ∀ (pins : List (Addr × Obj)) (s : Shared) (σ : L2.St) (F H : Hp) (r : Ev) (x y : D) (v w : V) (u u' : Value) (Q : VK), Inv X pins σ H s → Sta G O F H σ r → Rep G F x v → Rep G F y w → RelV v u → RelV w u' →
    Pst G W OX O O σ F H (RD G) Q (o x y r) → wpAny (model X.prog X.w) X.A (f u u') (EP X pins σ Q) X.xe s
def Op1 (G : Gm) (X : Cx) (W : WX) (OX O : List Nat) (f : Value → Sem Value) (o : D → Ev → Out D) : Prop :=
  ∀ (pins : List (Addr × Obj)) (s : Shared) (σ : L2.St) (F H : Hp) (r : Ev) (x : D) (v : V) (u : Value) (Q : VK), Inv X pins σ H s → Sta G O F H σ r → Rep G F x v → RelV v u →
    Pst G W OX O O σ F H (RD G) Q (o x r) → wpAny (model X.prog X.w) X.A (f u) (EP X pins σ Q) X.xe s
theorem Op2.of {f : Value → Value → Sem Value} {o : D → D → Ev → Out D} {h : R2} (ho : OpR X f h)
    (hp : ∀ (σ : L2.St) (F H : Hp) (r : Ev) (x y : D) (v w : V) (Q : VK), Sta G O F H σ r → Rep G F x v → Rep G F y w → Pst G W OX O O σ F H (RD G) Q (o x y r) → h v w H Q) : Op2 G X W OX O f o :=
  fun pins s σ F H r x y v w u u' Q I S rx ry ru ru' p => ho pins s σ H v w u u' Q I ru ru' (hp σ F H r x y v w Q S rx ry p)
theorem Op1.of {f : Value → Sem Value} {o : D → Ev → Out D} {h : V → Hp → VK → Prop} (ho : UnR X f h)
    (hp : ∀ (σ : L2.St) (F H : Hp) (r : Ev) (x : D) (v : V) (Q : VK), Sta G O F H σ r → Rep G F x v → Pst G W OX O O σ F H (RD G) Q (o x r) → h v H Q) : Op1 G X W OX O f o :=
  fun pins s σ F H r x v u Q I S rx ru p => ho pins s σ H v u Q I ru (hp σ F H r x v Q S rx p)
end
end Z
namespace Z
open PySem PySem.Spec PyProof.Rows L2
abbrev Beh := List D → Out D
def keepE (io : List Nat) (n : Nat) (r : Ev) : Ev := (List.range n).map fun i => if io.contains i then r.getD i none else none
@[simp] def out0 (o : Out D) (r : Ev) : Out D := match o with
  | .ok d _ => .ok d r
  | .ex e _ => .ex e r
  | .no => .no
end Z
namespace Z
open PySem PySem.Spec PyProof.Rows L2
section
variable {G : Gm} {X : Cx} {W : WX} {OX OL O O1 O2 O3 : List Nat}
theorem Pst.fz {σ : L2.St} {F H : Hp} {r : Ev} {Q : VK} {d : D} {p : Addr} {ho : HO} (S : Sta G O F H σ r) (hp : H p = none) (hi : noIns ho = true) (hd : ∀ F', F' p = some ho → Sub F F' → Rep G F' d (.ref p)) (q : Pst G W OX O O σ F H (RD G) Q (.ok d r)) : Q (.ref p) (upd H p ho) := by
  obtain ⟨S', s'⟩ := new_fz (o := ho) S hp hi
  exact q _ _ _ (Nx.of S' s' fun _ h => h) (hd _ upd_same s'.fz)
end
end Z
namespace Z
open PySem PySem.Spec PyProof.Rows L2
def oC (tb : List (Nat × Beh)) (p : D → D → Option D) (x y : D) (r : Ev) : Out D := match x with
  | .ob c l => (match tb.lookup c with
    | some B => out0 (B [.ob c l, y]) r
    | none => .no)
  | _ => liftO (p x y) r
def oC1 (tb : List (Nat × Beh)) (p : D → Option D) (x : D) (r : Ev) : Out D := match x with
  | .ob c l => (match tb.lookup c with
    | some B => out0 (B [.ob c l]) r
    | none => .no)
  | _ => liftO (p x) r
@[simp] theorem oC_ob {tb p c l y r} : oC tb p (.ob c l) y r = (match tb.lookup c with | some B => out0 (B [.ob c l, y]) r | none => .no) := rfl
@[simp] theorem oC1_ob {tb p c l r} : oC1 tb p (.ob c l) r = (match tb.lookup c with | some B => out0 (B [.ob c l]) r | none => .no) := rfl
@[simp] theorem oC_int {tb p i y r} : oC tb p (.int i) y r = liftO (p (.int i) y) r := rfl
@[simp] theorem oC_str {tb p i y r} : oC tb p (.str i) y r = liftO (p (.str i) y) r := rfl
@[simp] theorem oC_bl {tb p i y r} : oC tb p (.bl i) y r = liftO (p (.bl i) y) r := rfl
@[simp] theorem oC_non {tb p y r} : oC tb p .non y r = liftO (p .non y) r := rfl
@[simp] theorem oC_lst {tb p i y r} : oC tb p (.lst i) y r = liftO (p (.lst i) y) r := rfl
@[simp] theorem oC_tup {tb p i y r} : oC tb p (.tup i) y r = liftO (p (.tup i) y) r := rfl
@[simp] theorem oC_dic {tb p i j y r} : oC tb p (.dic i j) y r = liftO (p (.dic i j) y) r := rfl
@[simp] theorem oC_dkl {tb p i j y r} : oC tb p (.dkl i j) y r = liftO (p (.dkl i j) y) r := rfl
@[simp] theorem oC1_int {tb p i r} : oC1 tb p (.int i) r = liftO (p (.int i)) r := rfl
section
variable {G : Gm} {X : Cx} {W : WX} {OX OL O O1 O2 O3 : List Nat}
theorem RepL.more {F : Hp} {ds dd : List D} {vs dvs : List V} (h : RepL G F ds vs) (h' : ∀ F, RepL G F dd dvs) : RepL G F (ds ++ dd) (vs ++ dvs) := h.app (h' F)
end
end Z
namespace Z
open PySem PySem.Spec PyProof.Rows L2
section
variable {G : Gm} {X : Cx} {W : WX} {OX OL vs O O1 O2 O3 : List Nat}
theorem _root_.L2.PG.mo {tg : Expr} {t t' : TG} (h : PG X tg t) (i : ∀ v σ H Q, t' v σ H Q → t v σ H Q) : PG X tg t' := ⟨fun pins s σ H v u Q I r q => h.run pins s σ H v u Q I r (i v σ H Q q)⟩
theorem _root_.L2.PGs.mo {tg : List Expr} {t t' : TGs} (h : PGs X tg t) (i : ∀ v σ H Q, t' v σ H Q → t v σ H Q) : PGs X tg t' := ⟨fun pins s σ H v u Q I r q => h.run pins s σ H v u Q I r (i v σ H Q q)⟩
theorem _root_.L2.PI.mo {tg it : Expr} {t t' : TI} (h : PI X tg it t) (i : ∀ σ H Q, t' σ H Q → t σ H Q) : PI X tg it t' := ⟨fun pins s σ H Q I q => h.run pins s σ H Q I (i σ H Q q)⟩
end
end Z
namespace Z
open PySem PySem.Spec PyProof.Rows L2
section
variable {G : Gm} {X : Cx} {W : WX} {OX OL vs O O1 O2 O3 : List Nat}
theorem ffz {f : M D} {σ : L2.St} {H : Hp} {Q : VK} (h : tE G W OX O O1 f σ H Q) : tF G W OX O O1 f σ H Q := by
  obtain ⟨F, r, S, p⟩ := h
  refine ⟨F, r, S, ?_⟩
  revert p
  cases f r with
  | no => exact fun p => p
  | ex e q => exact fun p => p
  | ok d q =>
    intro p v F1 H1 n ⟨ow, nw⟩
    obtain ⟨F2, a, o, rfl, ha, rfl, k1, k2, rp, htb⟩ := ow.freeze n.sta.sub
    obtain ⟨h0, hO⟩ := nw a rfl
    have st : Stp G.tabs (fun x => x = a) F1 H1 (upd F1 a o) H1 := ⟨k1, fun _ _ e _ _ => e, fun _ _ _ nn => upd_ne nn, fun _ e => e, fun _ _ t => t⟩
    exact p _ _ H1 ⟨n.sta.stay st k2 (n.sta.nt.upd htb) n.sta.wf.ins fun b m z => hO (z ▸ m), n.stp.trans st fun x z => .inr (z ▸ h0), n.kp, n.pv⟩ rp
theorem _root_.L2.PE.fz {e : Expr} {f : M D} (h : PE X e (tF G W OX O O1 f)) : PE X e (tE G W OX O O1 f) := ⟨fun pins s σ H Q I q => h.run pins s σ H Q I (ffz q)⟩
end
end Z
namespace Z
open PySem PySem.Spec PyProof.Rows L2
section
variable {G : Gm} {X : Cx} {W : WX} {OX OL vs O O1 O2 O3 : List Nat}
def tyN : D → Option String
  | .non => some "NoneType"
  | .bl _ => some "bool"
  | .int _ => some "int"
  | .str _ => some "str"
  | .tup _ => some "tuple"
  | .lst _ => some "list"
  | .kl _ => some "list"
  | .dic _ _ => some "dict"
  | .dkl _ _ => some "dict"
  | _ => none
structure TyOk (G : Gm) (c : Nat) : Prop where
  cl : Cls G.K (G.cA c)
  ha : PySem.W.findIn G.K (.ref (G.cA c)) "__class__" = some (some (.builtin "object.__class__"))
  hn : PySem.W.specialIn G.K (.builtin "object.__class__") "__get__" = some (some (.builtin "getset_descriptor.__get__"))
  ht : PySem.W.takesIn G.K (.builtin "object.__class__") = some true
  hm : PySem.W.mroIn G.K (G.cA c) (.type "object") = some true
def tyV (G : Gm) : D → Option Value
  | .ob c _ => some (.ref (G.cA c))
  | x => (tyN x).map Value.type
theorem Rep.ty {F H : Hp} {x : D} {v : V} {t : Value} (sb : Sub F H) (h : Rep G F x v) (ht : ∀ c l, x = .ob c l → TyOk G c) (e : tyV G x = some t) : TyX G.K H v t := by
  cases h with
  | non => cases e; exact .base .non
  | bl => cases e; exact .base (.bl _)
  | int => cases e; exact .base (.int _)
  | str => cases e; exact .base (.str _)
  | tup h r =>
    cases e
    rcases sb.sqT h with (e | ⟨o, e⟩) | ⟨o, its, n, e, c, _⟩
    · exact .base (.tup e)
    · exact .fTuple e
    · exact .kTuple e c
  | lst h r =>
    cases e
    obtain ⟨o', e', g⟩ := sb _ _ h
    rw [g.lst] at e'
    exact .base (.lst e')
  | kl h r =>
    cases e
    rcases sb.sqL h with (e | ⟨o, e⟩) | ⟨o, its, n, e, c, _⟩
    · exact .base (.lst e)
    · exact .base (.frz e)
    · exact .kList e c
  | dic h _ r =>
    cases e
    obtain ⟨o', e', g⟩ := sb _ _ h
    rw [g.dK] at e'
    exact .base (.dK e')
  | ftp => cases e
  | dkl h _ r =>
    cases e
    obtain ⟨o', e', g⟩ := sb _ _ h
    rw [g.frz] at e'
    exact .fDict e'
  | @ob c l a dx xs more h hl r =>
    cases e
    obtain ⟨o', e', g⟩ := sb _ _ h
    obtain ⟨m, eo⟩ := g.ins
    subst eo
    have k := ht c l rfl
    exact .base (.ins e' k.cl k.ha k.hn k.ht k.hm)
  | xo => cases e
  | fn => cases e
end
end Z
namespace Z
open PySem PySem.Spec PyProof.Rows L2
section
variable {G : Gm} {X : Cx} {W : WX} {OX OL vs O O1 O2 O3 : List Nat}
theorem sub_wr {F H : Hp} {a : Addr} {o' : HO} (sb : Sub F H) (hf : F a = none) : Sub F (upd H a o') := fun b u e => by
  obtain ⟨o, e', g⟩ := sb b u e
  exact ⟨o, by rw [upd_ne fun z => (by rw [z, hf] at e; cases e)]; exact e', g⟩
end
end Z
namespace Z
open PySem PySem.Spec PyProof.Rows L2
theorem mem_cons {α : Type} {p : α → Prop} {b : α} {l : List α} (h : p b) (t : ∀ a ∈ l, p a) : ∀ a ∈ b :: l, p a := fun a m => by
  rcases List.mem_cons.mp m with e | m
  · rw [e]
    exact h
  · exact t a m
end Z
namespace Z
open PySem PySem.Spec PyProof.Rows L2
theorem keepE_no (n : Nat) (r : Ev) : keepE [] n r = List.replicate n none := by
  unfold keepE
  apply List.ext_getElem
  · simp
  · intro i h1 h2
    simp
theorem keepE_at (n : Nat) (r : Ev) : keepE [0] (n + 1) r = r.getD 0 none :: List.replicate n none := by
  unfold keepE
  apply List.ext_getElem
  · simp
  · intro i h1 h2
    cases i with
    | zero => simp
    | succ i => simp
@[simp] theorem keepE1 (r : Ev) : keepE [] 1 r = [none] := keepE_no 1 r
@[simp] theorem keepE2 (r : Ev) : keepE [] 2 r = [none, none] := keepE_no 2 r
@[simp] theorem keepE3 (r : Ev) : keepE [] 3 r = [none, none, none] := keepE_no 3 r
@[simp] theorem keepE4 (r : Ev) : keepE [] 4 r = [none, none, none, none] := keepE_no 4 r
@[simp] theorem keepE5 (r : Ev) : keepE [] 5 r = [none, none, none, none, none] := keepE_no 5 r
@[simp] theorem keepE1' (r : Ev) : keepE [0] 1 r = [r.getD 0 none] := keepE_at 0 r
@[simp] theorem keepE2' (r : Ev) : keepE [0] 2 r = [r.getD 0 none, none] := keepE_at 1 r
@[simp] theorem keepE3' (r : Ev) : keepE [0] 3 r = [r.getD 0 none, none, none] := keepE_at 2 r
@[simp] theorem keepE4' (r : Ev) : keepE [0] 4 r = [r.getD 0 none, none, none, none] := keepE_at 3 r
@[simp] theorem keepE5' (r : Ev) : keepE [0] 5 r = [r.getD 0 none, none, none, none, none] := keepE_at 4 r
@[simp] theorem keepE6' (r : Ev) : keepE [0] 6 r = [r.getD 0 none, none, none, none, none, none] := keepE_at 5 r
end Z
namespace Z
open PySem PySem.Spec PyProof.Rows L2
def revM : D → D → Option D
  | .lst l, .int n => if n = -1 then some (.lst l.reverse) else none
  | _, _ => none
@[simp] theorem revM_ok (l : List D) : revM (.lst l) (.int (-1)) = some (.lst l.reverse) := rfl
theorem RepL.snoc {G : Gm} {F : Hp} : ∀ {ds : List D} {vs : List V} {d : D} {v : V}, RepL G F ds vs → Rep G F d v → RepL G F (ds ++ [d]) (vs ++ [v])
  | _, _, _, _, .nil, r => .cons r .nil
  | _, _, _, _, .cons a b, r => .cons a (RepL.snoc b r)
end Z
namespace Z
open PySem PySem.Spec PyProof.Rows L2
def keyOf : D → Option Key
  | .int i => some (.inl i)
  | .str s => some (.inr s)
  | _ => none
def lookD : List Key → List D → Key → Option D
  | k :: ks, d :: l, x => if k = x then some d else lookD ks l x
  | _, _, _ => none
end Z
namespace Z
open PySem PySem.Spec PyProof.Rows L2
abbrev RPr (G : Gm) : Hp → Hp → List (D × D) → List (V × V) → Prop := fun F _ ds ps => Paired (fun d p => Rep G F d.1 p.1 ∧ Rep G F d.2 p.2) ds ps
section
variable {G : Gm} {X : Cx} {W : WX} {OX OL vs O O1 O2 O3 : List Nat}
theorem RPr.mono {F F' H H' : Hp} {ds : List (D × D)} {ps : List (V × V)} (h : RPr G F H ds ps) (s : Sub F F') : RPr G F' H' ds ps := by
  unfold RPr at h ⊢
  induction h with
  | nil => exact .nil
  | cons a _ ih => exact .cons ⟨a.1.mono s, a.2.mono s⟩ ih
end
end Z
namespace Z
open PySem PySem.Spec PyProof.Rows L2
def getD (ks : List Key) (l : List D) (y z : D) : Option D := (keyOf y).map fun k => (lookD ks l k).getD z
end Z
namespace Z
open PySem PySem.Spec PyProof.Rows L2
structure Cl where
  c : Value
  ts : Addr → Value → Option Addr → TS
def Ends.less (D : Ends) (i : Nat) : Ends where
  nx := fun σ H => D.nx (σ.set i none) H
  rt := D.rt
  bk := fun σ H => D.bk (σ.set i none) H
  ct := fun σ H => D.ct (σ.set i none) H
def wCls (K : PySem.W.Frag) (i : Nat) (D : Ends) (Wo : WX) : List Cl → WX
  | [] => Wo
  | k :: ks => fun cls d σ H => match PySem.W.exmOne K cls k.c with
    | some true => i < σ.length → ∀ a, H a = none → k.ts a cls d (Ends.less D i) (σ.set i (some (.ref a))) H
    | some false => wCls K i D Wo ks cls d σ H
    | none => False
inductive ClsK (X : Cx) (n : Str) : List ExceptHandler → List Cl → Prop
  | no : ClsK X n [] []
  | one {x : Str} {k : Cl} {b : Stmt} {bs : List Stmt} {p p' : Pos} {hs : List ExceptHandler} {ks : List Cl} (g : Names X x k.c)
      (su : ∀ (a : Addr) (o : Obj) (cls : Value) (d : Option Addr) (pn : List (Addr × Obj)), Zc cls d o → (∃ vs, o.data = .fields vs) → PSs (X.suite a ((a, o) :: pn)) (b :: bs) (k.ts a cls d)) (t : ClsK X n hs ks) :
      ClsK X n (.ExceptHandler (some (.Name x p)) (some n) (b :: bs) p' :: hs) (k :: ks)
structure Down (X : Cx) (pins : List (Addr × Obj)) (σ : L2.St) (H : Hp) (a : Addr) (cls : Value) (d : Option Addr) (s : Shared) : Prop where
  src : ∃ (B : Heap) (sI : Shared), Inv X pins σ H sI ∧ (∀ b o, sI.heap.get? b = some o → b ∉ frs X.stack → B.get? b = some o) ∧ sI.heap.UpToSlots s.heap ∧ HandSPX.FlyingZ B X.stack a (Zc cls d) s.heap ∧ s.os = sI.os ∧ AllBare s.gens
  fr : H a = none
section
variable {X : Cx} {pins : List (Addr × Obj)} {σ : L2.St} {H : Hp} {a : Addr} {cls : Value} {d : Option Addr} {s : Shared}
theorem Down.inv (w : Down X pins σ H a cls d s) : Inv X pins σ H s := by
  obtain ⟨⟨B, sI, I, nb, up, fl, os, ag⟩, _⟩ := w
  exact I.landed nb fl.1 up os ag
theorem Down.into (w : Down X pins σ H a cls d s) (hs : X.stack = X.env :: X.outer) (hf : X.env.frame = some X.env.locals) :
    ∃ o, Zc cls d o ∧ (∃ vs, o.data = .fields vs) ∧ s.heap.get? a = some o ∧ Inv (X.suite a ((a, o) :: (X.pn ++ pins))) [] σ H s := by
  have J := w.inv
  obtain ⟨⟨B, sI, I, nb, up, fl, os, ag⟩, fr⟩ := w
  obtain ⟨o, vs, ho, hz, hd⟩ := fl.there
  have off : a ∉ frs X.stack := fun m => by
    obtain ⟨_, o', h1, h2⟩ := Heap.FunFrames.mem fl.2.2.1 m
    rw [ho] at h1
    cases h1
    exact h2 _ hd
  have offL : a ≠ X.env.locals := fun z => off (by
    rw [hs]
    exact List.mem_filterMap.mpr ⟨X.env, .head _, by rw [hf, z]⟩)
  have offF : a ∉ X.fs := fun m => off (by
    obtain ⟨e, h1, h2⟩ := List.mem_filterMap.mp m
    rw [hs]
    exact List.mem_filterMap.mpr ⟨e, .tail _ h1, h2⟩)
  exact ⟨o, hz, ⟨vs, hd⟩, ho, J.suite ho hd fr offL offF⟩
theorem Down.again {A : Around} {E : Value → Shared → Prop} {Q : Unit → Shared → Prop} (w : Down X pins σ H a cls d s) (h : ∀ s', Down X pins σ H a cls d s' → Q () s') : wpAny (model X.prog X.w) A (setFlight (.ref a) none) Q E s := by
  obtain ⟨⟨B, sI, I, nb, up, fl, os, ag⟩, fr⟩ := w
  exact HandSPX.lands_againZ fl fun h' fl' up' => h _ ⟨⟨B, sI, I, nb, up.trans up', fl', os, ag⟩, fr⟩
theorem Down.on {W : WX} {Q : Flow → Shared → Prop} (w : Down X pins σ H a cls d s) (hs : X.stack = X.env :: X.outer) (hf : X.env.frame = some X.env.locals) (tk : Takes X W) (h : W cls d σ H) : wpAny (model X.prog X.w) X.A (handleBy (.ref a) X.env []) Q X.xe s := by
  obtain ⟨⟨B, sI, I, nb, up, fl, os, ag⟩, fr⟩ := w
  have up_ : wpAny (model X.prog X.w) X.A (setFlight (.ref a) X.env.frame) (fun _ s' => wpAny (model X.prog X.w) X.A (throw (.ref a) : Sem Flow) Q X.xe s') X.xe s := by
    rw [hf]
    exact HandSPX.setFlight_upZ fl fun h' held up' => wpAny_throw (tk _ _ ⟨a, B, sI, pins, σ, H, cls, d, rfl, I, nb, up.trans up', .inr (.inr held), fr, os, ag, h⟩)
  obtain ⟨_, _, _, o, vs, T, _, _, ho, _, hd, h1, _⟩ := fl
  refine wpAny_handleBy_nil ?_
  unfold PySem.passOn
  refine wpAny_bind (wpAny_field ho hd h1 ?_)
  rw [if_neg (by simp : ¬ ((Value.ref T == Value.none) = true))]
  first
    | exact wpAny_bind (wpAny_pure (wpAny_bind up_))
    | exact wpAny_bind up_
theorem Down.name {x : Str} {c : Value} {o : Obj} {p : Pos} {Q : Value → Shared → Prop} {E : Value → Shared → Prop} (S : Inv (X.suite a ((a, o) :: (X.pn ++ pins))) [] σ H s) (g : Names X x c) (q : Q c s) : wpAny (model X.prog X.w) (X.A.mark (some (.ref a))) (eval (.Name x p) X.env) Q E s := by
  rcases g with ⟨g1, g2, g3 | ⟨g3, g4, g5⟩⟩
  · exact ld_glob (X := X.suite a ((a, o) :: (X.pn ++ pins))) S g1 g3 q g2
  · exact ld_blt (X := X.suite a ((a, o) :: (X.pn ++ pins))) S g1 g3 g4 q g5 g2
theorem ClsK.run {n : Str} {i : Nat} {hds : List ExceptHandler} {ks : List Cl} {D : Ends} {W : WX} (k : ClsK X n hds ks) (hs : X.stack = X.env :: X.outer) (hf : X.env.frame = some X.env.locals) (hN : X.N.Nodup) (hi : X.N[i]? = some n) (hl : X.env.kindOf n = some .local) (tk : Takes X W) :
    ∀ {s : Shared}, Down X pins σ H a cls d s → wCls X.K i D W ks cls d σ H → wpAny (model X.prog X.w) X.A (handleBy (.ref a) X.env hds) (SP X pins D) X.xe s := by
  induction k with
  | no => exact fun w h => w.on hs hf tk h
  | @one x k b bs p p' hs' ks' g su t ih =>
    intro s w h
    obtain ⟨o, hz, hd, ho, S⟩ := w.into hs hf
    have ty : PySem.W.Looks (model X.prog X.w) s.heap (typeOf (.ref a)) cls := fun A Q E s1 keep q => wpAny_typeOf_ref (keep _ _ ho) (by rw [hz.1]; exact q)
    have fit : ∃ z, PySem.W.exmOne X.K cls k.c = some z ∧ (z = true → i < σ.length → ∀ a, H a = none → k.ts a cls d (Ends.less D i) (σ.set i (some (.ref a))) H) ∧ (z = false → wCls X.K i D W ks' cls d σ H) := by
      cases e : PySem.W.exmOne X.K cls k.c with
      | none => simp only [wCls, e] at h
      | some z => cases z with
        | true =>
          simp only [wCls, e] at h
          exact ⟨true, rfl, fun _ => h, nofun⟩
        | false =>
          simp only [wCls, e] at h
          exact ⟨false, rfl, nofun, fun _ => h⟩
    obtain ⟨z, ez, yes, no⟩ := fit
    refine wpAny_handleBy_cons (codeAny_handlers_test (Down.name S g ((PySem.W.exm_one (M := model X.prog X.w) w.inv.kIn ty ez).here ?_))) nofun
    cases z with
    | false => exact ih w (no rfl)
    | true =>
      refine codeAny_handlers_suite_as (w.again fun s1 w1 => ?_)
      obtain ⟨o1, hz1, hd1, _, S1⟩ := w1.into hs hf
      refine store_ok (X := X.suite a ((a, o1) :: (X.pn ++ pins))) (v := .ref a) S1 hN hi (.inl hl) rfl (fun s2 S2 => wpAny_mono ((su a o1 cls d (X.pn ++ pins) hz1 hd1).run [] s2 _ H (Ends.less D i) S2 (yes rfl (by rw [w.inv.len]; exact (List.getElem?_eq_some_iff.mp hi).1) a w.fr)) (fun f s3 e => ?_) fun _ _ z => z.elim) (.inr hl)
      have gone : ∀ {σ' : L2.St} {H' : Hp} {R : Shared → Prop}, Inv (X.suite a ((a, o1) :: (X.pn ++ pins))) [] σ' H' s3 → (∀ s4, Inv X pins (σ'.set i none) H' s4 → R s4) → wpAny (model X.prog X.w) X.A (do bindName X.env n .none; unbindBehindTheSuite X.env n p') (fun _ s4 => R s4) X.xe s3 :=
        fun J r => gone_ok (J.unsuite w.inv.ok) hN hi hl r
      cases f with
      | ret u => exact let ⟨v, _, _, J, r, q⟩ := e; gone J fun _ J' => ⟨v, _, _, J', r, q⟩
      | next => exact let ⟨_, _, J, q⟩ := e; gone J fun _ J' => ⟨_, _, J', q⟩
      | brk => exact let ⟨_, _, J, q⟩ := e; gone J fun _ J' => ⟨_, _, J', q⟩
      | cont => exact let ⟨_, _, J, q⟩ := e; gone J fun _ J' => ⟨_, _, J', q⟩
end
end Z
namespace Z
open PySem PySem.Spec PyProof.Rows L2 LamX
def LamG (H H1 : Hp) : Prop := ∀ b, H1 b = H b ∨ (∃ ps more : Array Value, H b = some (.tbl ps) ∧ H1 b = some (.tbl (ps ++ more))) ∨ (H b = none ∧ ∃ q, H1 b = some (CodeO b q))
theorem LamG.rfl' {H : Hp} : LamG H H := fun _ => .inl rfl
theorem LamG.keep {H H1 : Hp} (g : LamG H H1) {b : Addr} {o : HO} (e : H b = some o) (n : isTb o = false) : H1 b = some o := by
  rcases g b with z | ⟨ps, _, z, _⟩ | ⟨z, _⟩
  · rw [z, e]
  · rw [e] at z
    cases z
    cases n
  · rw [e] at z
    cases z
theorem LamG.there {H H1 : Hp} (g : LamG H H1) {b : Addr} (e : H1 b = none) : H b = none := by
  rcases g b with z | ⟨_, _, _, z⟩ | ⟨z, _⟩
  · rw [← z, e]
  · rw [e] at z
    cases z
  · exact z
theorem LamG.wi {G : Gm} {H H1 : Hp} (g : LamG H H1) (w : Wi G H) : Wi G H1 := fun a C dx fs f e hf => by
  rcases g a with z | ⟨_, _, _, z⟩ | ⟨_, _, z⟩
  · exact w a C dx fs f (z ▸ e) hf
  · rw [e] at z
    cases z
  · rw [e] at z
    unfold CodeO at z
    cases z
theorem LamG.sub {F H H1 : Hp} (g : LamG H H1) (nt : NT F) (sb : Sub F H) : Sub F H1 := fun a o e => by
  obtain ⟨o', e', gr⟩ := sb a o e
  rcases g a with z | ⟨_, _, z, _⟩ | ⟨z, _⟩
  · exact ⟨o', z.trans e', gr⟩
  · rw [e'] at z
    cases z
    have no := nt a o e
    rcases gr with rfl | ⟨_, _, _, _, _, z⟩ | ⟨_, _, rfl, _⟩
    · cases no
    · cases z
    · cases no
  · rw [e'] at z
    cases z
theorem LamG.sta {G : Gm} {O : List Nat} {F H H1 : Hp} {σ : L2.St} {r : Ev} (g : LamG H H1) (t : Tabs G.tabs H1) (S : Sta G O F H σ r) : Sta G O F H1 σ r ∧ (∀ a o, H a = some o → isTb o = false → H1 a = some o) := by
  refine ⟨⟨g.sub S.nt S.sub, S.nt, ⟨g.wi S.wf.ins, t⟩, S.len, S.rp, fun i hi => ?_, S.dj⟩, fun a o e n => g.keep e n⟩
  obtain ⟨d, v, e1, e2, o⟩ := S.ow i hi
  refine ⟨d, v, e1, e2, ?_⟩
  cases o with
  | lst h hf r => exact .lst (g.keep h rfl) hf r
  | dic h hf hk r => exact .dic (g.keep h rfl) hf hk r
  | ob h hf hl r => exact .ob (g.keep h rfl) hf hl r
end Z
namespace Z
open PySem PySem.Spec PyProof.Rows L2 LamX
section
variable {G : Gm} {X : Cx} {W : WX} {OX O O1 : List Nat}
theorem LamG.nx {F H H1 : Hp} {σ : L2.St} {r : Ev} (g : LamG H H1) (t : Tabs G.tabs H1) (S : Sta G O F H σ r) : Nx G OX O O σ F H σ F H1 r :=
  .of (g.sta t S).1 ⟨.rfl', fun a o e _ ht => g.keep e ht, fun _ _ _ _ => rfl, fun _ e => g.there e, fun p hp _ => t p hp⟩ fun _ h => h
end
end Z
namespace Z
open PySem PySem.Spec PyProof.Rows L2
section
variable {G : Gm} {X : Cx} {W : WX} {OX OL vs vs1 O O1 O2 O3 : List Nat}
structure Made (G : Gm) (O1 : List Nat) (σ : L2.St) (F1 H1 : Hp) (Dd : Addr) (F' H' : Hp) (acc : List V) (ys : List D) : Prop where
  st : Stp G.tabs (fun a => OwnAt O1 σ a ∨ a = Dd) F1 (upd H1 Dd (.lst [])) F' H'
  hd : H' Dd = some (.lst acc)
  fd : F' Dd = none
  ry : RepL G F' ys acc
theorem Made.tup {σ : L2.St} {σ' : L2.St} {F1 H1 F' H' : Hp} {Dd T : Addr} {acc xs : List V} {ys : List D} {r' : Ev} (m : Made G O1 σ F1 H1 Dd F' H' acc ys) (S' : Sta G O1 F' H' σ' r') (mo : ∀ {a}, OwnAt O1 σ' a → OwnAt O1 σ a) (hT : H' T = none) :
    Sta G O1 (upd F' T (.tup xs)) (upd H' T (.tup xs)) σ' r' ∧ Made G O1 σ F1 H1 Dd (upd F' T (.tup xs)) (upd H' T (.tup xs)) acc ys ∧ Sub F' (upd F' T (.tup xs)) := by
  obtain ⟨S2, s2⟩ := new_fz (o := .tup xs) S' hT rfl
  have ne : Dd ≠ T := fun z => by
    have := m.hd
    rw [z, hT] at this
    cases this
  exact ⟨S2, ⟨m.st.trans s2 fun x z => .inl (.inl (mo z)), by rw [upd_ne ne]; exact m.hd, by rw [upd_ne ne]; exact m.fd, m.ry.mono s2.fz⟩, s2.fz⟩
end
end Z
namespace Z
open PySem PySem.Spec PyProof.Rows L2
def GrpAt (G : Gm) (F H : Hp) (g : List D) (v : V) : Prop := ∃ p xs, v = .ref p ∧ H p = some (.lst xs) ∧ F p = none ∧ RepL G F g xs
inductive Grps (G : Gm) (F H : Hp) : List (List D) → List V → Prop
  | nil : Grps G F H [] []
  | cons {g v gs vs} (a : GrpAt G F H g v) (t : Grps G F H gs vs) : Grps G F H (g :: gs) (v :: vs)
section
variable {G : Gm} {O OX : List Nat} {F H F' H' : Hp} {σ σ' : L2.St} {r r' : Ev}
theorem Grps.len {gs : List (List D)} {vs : List V} (h : Grps G F H gs vs) : gs.length = vs.length := by
  induction h with
  | nil => rfl
  | cons _ _ ih => simp [ih]
theorem Grps.mem {gs : List (List D)} {vs : List V} (h : Grps G F H gs vs) {v : V} (m : v ∈ vs) : ∃ g ∈ gs, GrpAt G F H g v := by
  induction h with
  | nil => cases m
  | cons a t ih =>
    rcases List.mem_cons.mp m with z | z
    · subst z
      exact ⟨_, List.mem_cons_self, a⟩
    · obtain ⟨g, mg, h⟩ := ih z
      exact ⟨g, List.mem_cons_of_mem _ mg, h⟩
theorem Grps.mono {gs : List (List D)} {vs : List V} (h : Grps G F H gs vs) (s : Sub F F') (k : ∀ p xs, V.ref p ∈ vs → H p = some (.lst xs) → F p = none → H' p = some (.lst xs) ∧ F' p = none) : Grps G F' H' gs vs := by
  induction h with
  | nil => exact .nil
  | cons a t ih =>
    refine .cons ?_ (ih fun p xs m => k p xs (List.mem_cons_of_mem _ m))
    obtain ⟨p, xs, rfl, h1, h2, h3⟩ := a
    obtain ⟨k1, k2⟩ := k p xs List.mem_cons_self h1 h2
    exact ⟨p, xs, rfl, k1, k2, h3.mono s⟩
theorem Grps.snoc {gs : List (List D)} {vs : List V} (h : Grps G F H gs vs) {g : List D} {v : V} (a : GrpAt G F H g v) : Grps G F H (gs ++ [g]) (vs ++ [v]) := by
  induction h with
  | nil => exact .cons a .nil
  | cons b t ih => exact .cons b ih
structure Priv (G : Gm) (O : List Nat) (F H : Hp) (σ : L2.St) (a : Addr) (gs : List (List D)) (vs : List V) : Prop where
  ha : H a = some (.lst vs)
  fa : F a = none
  na : ¬ OwnAt O σ a
  it : Grps G F H gs vs
  nd : vs.Nodup
  ne : V.ref a ∉ vs
  no : ∀ p, V.ref p ∈ vs → ¬ OwnAt O σ p
theorem Priv.step {a : Addr} {gs : List (List D)} {vs : List V} (P : Priv G O F H σ a gs vs) (s : Stp G.tabs (OwnAt O σ) F H F' H') : Priv G O F' H' σ a gs vs where
  ha := s.kp _ _ P.ha P.na
  fa := (s.nf _ _ P.ha P.na).trans P.fa
  na := P.na
  it := P.it.mono s.fz fun p xs m h f => ⟨s.kp _ _ h (P.no p m), (s.nf _ _ h (P.no p m)).trans f⟩
  nd := P.nd
  ne := P.ne
  no := P.no
theorem Sta.poke (S : Sta G O F H σ r) {a : Addr} {xs ys : List V} (hf : F a = none) (hn : ¬ OwnAt O σ a) (ha : H a = some (.lst xs)) : Sta G O F (upd H a (.lst ys)) σ r ∧ Stp G.tabs (fun x => x = a) F H F (upd H a (.lst ys)) := by
  have s : Stp G.tabs (fun x => x = a) F H F (upd H a (.lst ys)) := ⟨.rfl', fun b u e n _ => by rw [upd_ne n]; exact e, fun _ _ _ _ => rfl, fun _ e => upd_none e, fun _ _ t => tab_at ha rfl (fun b n => upd_ne n) t⟩
  exact ⟨S.stay s (sub_wr S.sub hf) S.nt (S.wf.upd rfl) fun x hx z => hn (z ▸ hx), s⟩
theorem Sta.there (S : Sta G O F H σ r) {a : Addr} (h : OwnAt O σ a) : H a ≠ none := fun e => by
  obtain ⟨i, hi, ei⟩ := h
  obtain ⟨d, v, _, e2, o⟩ := S.ow i hi
  rw [ei] at e2
  cases e2
  obtain ⟨b, u, eb, hb⟩ := o.there
  cases eb
  rw [e] at hb
  cases hb
structure Tot (G : Gm) (OX O O' : List Nat) (i : Nat) (a : Addr) (σ0 : L2.St) (F0 H0 : Hp) (N : Nat) (gs : List (List D)) (vs : List V) (σ : L2.St) (F H : Hp) (r : Ev) : Prop where
  sta : Sta G O' F H σ r
  stp : Stp G.tabs (OwnAt O σ0) F0 H0 F H
  kp : ∀ k ∈ OX, σ[k]? = σ0[k]?
  pv : ∀ x, OwnAt O' σ x → OwnAt O' σ0 x ∨ H0 x = none
  si : σ[i]? = some (some (.ref a))
  ia : OwnAt O σ0 a
  pr : Priv G O' F H σ a gs vs
  nw : ∀ p, V.ref p ∈ vs → H0 p = none
  lg : gs.length ≤ N
  le : ∀ g ∈ gs, g.length ≤ N
section
variable {O' : List Nat} {i N : Nat} {a : Addr} {σ0 : L2.St} {F0 H0 F1 H1 : Hp} {gs : List (List D)} {vs : List V} {r1 : Ev}
theorem Tot.new (T : Tot G OX O O' i a σ0 F0 H0 N gs vs σ F H r) (hO : ∀ k ∈ O', k ∈ O) {p : Addr} (hp : H p = none) : Tot G OX O O' i a σ0 F0 H0 (N + 1) (gs ++ [[]]) (vs ++ [.ref p]) σ F (upd (upd H p (.lst [])) a (.lst (vs ++ [.ref p]))) r := by
  obtain ⟨S1, s1, fp⟩ := new_ow (o := .lst []) T.sta hp rfl
  have P1 := T.pr.step s1
  obtain ⟨S2, s2⟩ := S1.poke (ys := vs ++ [.ref p]) P1.fa P1.na P1.ha
  have pa : p ≠ a := fun z => by
    have := T.pr.ha
    rw [← z, hp] at this
    cases this
  have pv : V.ref p ∉ vs := fun m => by
    obtain ⟨g, _, q, xs, ev, hq, _⟩ := T.pr.it.mem m
    cases ev
    rw [hp] at hq
    cases hq
  have m2 : ∀ x, V.ref x ∈ vs ++ [V.ref p] → V.ref x ∈ vs ∨ x = p := fun x m => by
    rcases List.mem_append.mp m with m | m
    · exact .inl m
    · simp at m
      exact .inr m
  have t := (T.stp.trans s1 fun x m => (T.pv x m).elim (fun z => .inl (z.sub hO)) .inr).trans s2 fun x m => .inl (by rw [m]; exact T.ia)
  exact {
    sta := S2
    stp := t
    kp := T.kp
    pv := T.pv
    si := T.si
    ia := T.ia
    pr := {
      ha := upd_same
      fa := P1.fa
      na := P1.na
      it := by
        refine Grps.snoc (P1.it.mono .rfl' fun q xs m h f => ⟨by rw [upd_ne fun z => T.pr.ne (by rw [← z]; exact m)]; exact h, f⟩) ⟨p, [], rfl, ?_, fp, .nil⟩
        rw [upd_ne pa]
        exact upd_same
      nd := List.nodup_append.mpr ⟨P1.nd, by simp, fun x mx y my e => by
        simp at my
        subst my e
        exact pv mx⟩
      ne := fun m => (m2 a m).elim T.pr.ne fun z => pa z.symm
      no := fun x m => (m2 x m).elim (T.pr.no x) fun z => by
        subst z
        exact fun w => T.sta.there w hp }
    nw := fun x m => (m2 x m).elim (T.nw x) fun z => by
      subst z
      exact T.stp.tr _ hp
    lg := by
      have := T.lg
      simp
      omega
    le := fun g m => by
      rcases List.mem_append.mp m with m | m
      · have := T.le g m
        omega
      · simp at m
        subst m
        simp }
theorem Tot.mono {M : Nat} (T : Tot G OX O O' i a σ0 F0 H0 N gs vs σ F H r) (h : N ≤ M) : Tot G OX O O' i a σ0 F0 H0 M gs vs σ F H r := { T with lg := Nat.le_trans T.lg h, le := fun g m => Nat.le_trans (T.le g m) h }
end
end
end Z
namespace Kw
open PySem PySem.Spec PyProof.Rows L2 Z
def top (i : Nat) : Stmt := PySem.Challenge.pw_whosefirst_k81_the_least_that_brings_a_c.main.body.getD i (.Pass ⟨0, 0, 0, 0⟩)
abbrev s0 : Stmt := (top 80)
def d0 : DefZ := ⟨.glo ("_law_hat" : PySem.Str), ("_law_hat" : PySem.Str), ("_law_hat" : PySem.Str), defArgs s0, defBody s0, defScope s0, []⟩
abbrev s1 : Stmt := (top 81)
def d1 : DefZ := ⟨.glo ("_law_take" : PySem.Str), ("_law_take" : PySem.Str), ("_law_take" : PySem.Str), defArgs s1, defBody s1, defScope s1, []⟩
abbrev s2 : Stmt := (top 82)
def d2 : DefZ := ⟨.glo ("_law_of" : PySem.Str), ("_law_of" : PySem.Str), ("_law_of" : PySem.Str), defArgs s2, defBody s2, defScope s2, []⟩
abbrev s3 : Stmt := (top 83)
def d3 : DefZ := ⟨.glo ("_law_plain" : PySem.Str), ("_law_plain" : PySem.Str), ("_law_plain" : PySem.Str), defArgs s3, defBody s3, defScope s3, []⟩
abbrev s4 : Stmt := (top 85)
def d4 : DefZ := ⟨.glo ("_law_crowds" : PySem.Str), ("_law_crowds" : PySem.Str), ("_law_crowds" : PySem.Str), defArgs s4, defBody s4, defScope s4, []⟩
abbrev s5 : Stmt := (top 6)
def d5 : DefZ := ⟨.glo ("is_integer" : PySem.Str), ("is_integer" : PySem.Str), ("is_integer" : PySem.Str), defArgs s5, defBody s5, defScope s5, []⟩
abbrev s6 : Stmt := ((C8.clsBody (top 35)).getD 10 (.Pass ⟨0, 0, 0, 0⟩))
def d6 : DefZ := ⟨.met ("Ratio" : PySem.Str) ("__eq__" : PySem.Str), ("__eq__" : PySem.Str), ("Ratio.__eq__" : PySem.Str), defArgs s6, defBody s6, defScope s6, []⟩
abbrev s7 : Stmt := ((C8.clsBody (top 45)).getD 7 (.Pass ⟨0, 0, 0, 0⟩))
def d7 : DefZ := ⟨.met ("Step" : PySem.Str) ("__eq__" : PySem.Str), ("__eq__" : PySem.Str), ("Step.__eq__" : PySem.Str), defArgs s7, defBody s7, defScope s7, []⟩
abbrev s8 : Stmt := (top 53)
def d8 : DefZ := ⟨.glo ("need_unlike" : PySem.Str), ("need_unlike" : PySem.Str), ("need_unlike" : PySem.Str), defArgs s8, defBody s8, defScope s8, []⟩
abbrev s9 : Stmt := (top 7)
def d9 : DefZ := ⟨.glo ("is_within" : PySem.Str), ("is_within" : PySem.Str), ("is_within" : PySem.Str), defArgs s9, defBody s9, defScope s9, []⟩
abbrev s10 : Stmt := (top 8)
def d10 : DefZ := ⟨.glo ("is_name" : PySem.Str), ("is_name" : PySem.Str), ("is_name" : PySem.Str), defArgs s10, defBody s10, defScope s10, []⟩
abbrev s11 : Stmt := (top 9)
def d11 : DefZ := ⟨.glo ("is_listed" : PySem.Str), ("is_listed" : PySem.Str), ("is_listed" : PySem.Str), defArgs s11, defBody s11, defScope s11, []⟩
abbrev s12 : Stmt := (top 30)
def d12 : DefZ := ⟨.glo ("is_ratio" : PySem.Str), ("is_ratio" : PySem.Str), ("is_ratio" : PySem.Str), defArgs s12, defBody s12, defScope s12, []⟩
abbrev s13 : Stmt := (top 31)
def d13 : DefZ := ⟨.glo ("are_ratios" : PySem.Str), ("are_ratios" : PySem.Str), ("are_ratios" : PySem.Str), defArgs s13, defBody s13, defScope s13, []⟩
abbrev s14 : Stmt := (top 49)
def d14 : DefZ := ⟨.glo ("is_spot" : PySem.Str), ("is_spot" : PySem.Str), ("is_spot" : PySem.Str), defArgs s14, defBody s14, defScope s14, []⟩
abbrev s15 : Stmt := (top 50)
def d15 : DefZ := ⟨.glo ("are_spots" : PySem.Str), ("are_spots" : PySem.Str), ("are_spots" : PySem.Str), defArgs s15, defBody s15, defScope s15, []⟩
abbrev s16 : Stmt := ((C8.clsBody (top 35)).getD 0 (.Pass ⟨0, 0, 0, 0⟩))
def d16 : DefZ := ⟨.met ("Ratio" : PySem.Str) ("__init__" : PySem.Str), ("__init__" : PySem.Str), ("Ratio.__init__" : PySem.Str), defArgs s16, defBody s16, defScope s16, [.int (1)]⟩
abbrev s17 : Stmt := (top 32)
def d17 : DefZ := ⟨.glo ("ratio_from" : PySem.Str), ("ratio_from" : PySem.Str), ("ratio_from" : PySem.Str), defArgs s17, defBody s17, defScope s17, []⟩
abbrev s18 : Stmt := ((C8.clsBody (top 35)).getD 1 (.Pass ⟨0, 0, 0, 0⟩))
def d18 : DefZ := ⟨.sta ("Ratio" : PySem.Str) ("of" : PySem.Str), ("of" : PySem.Str), ("Ratio.of" : PySem.Str), defArgs s18, defBody s18, defScope s18, []⟩
abbrev s19 : Stmt := ((C8.clsBody (top 35)).getD 4 (.Pass ⟨0, 0, 0, 0⟩))
def d19 : DefZ := ⟨.met ("Ratio" : PySem.Str) ("__add__" : PySem.Str), ("__add__" : PySem.Str), ("Ratio.__add__" : PySem.Str), defArgs s19, defBody s19, defScope s19, []⟩
abbrev s20 : Stmt := ((C8.clsBody (top 35)).getD 7 (.Pass ⟨0, 0, 0, 0⟩))
def d20 : DefZ := ⟨.met ("Ratio" : PySem.Str) ("__neg__" : PySem.Str), ("__neg__" : PySem.Str), ("Ratio.__neg__" : PySem.Str), defArgs s20, defBody s20, defScope s20, []⟩
abbrev s21 : Stmt := ((C8.clsBody (top 35)).getD 5 (.Pass ⟨0, 0, 0, 0⟩))
def d21 : DefZ := ⟨.met ("Ratio" : PySem.Str) ("__sub__" : PySem.Str), ("__sub__" : PySem.Str), ("Ratio.__sub__" : PySem.Str), defArgs s21, defBody s21, defScope s21, []⟩
abbrev s22 : Stmt := ((C8.clsBody (top 35)).getD 6 (.Pass ⟨0, 0, 0, 0⟩))
def d22 : DefZ := ⟨.met ("Ratio" : PySem.Str) ("__mul__" : PySem.Str), ("__mul__" : PySem.Str), ("Ratio.__mul__" : PySem.Str), defArgs s22, defBody s22, defScope s22, []⟩
abbrev s23 : Stmt := (top 36)
def d23 : DefZ := ⟨.glo ("summed" : PySem.Str), ("summed" : PySem.Str), ("summed" : PySem.Str), defArgs s23, defBody s23, defScope s23, []⟩
abbrev s24 : Stmt := (top 42)
def d24 : DefZ := ⟨.glo ("product_at" : PySem.Str), ("product_at" : PySem.Str), ("product_at" : PySem.Str), defArgs s24, defBody s24, defScope s24, []⟩
abbrev s25 : Stmt := ((C8.clsBody (top 35)).getD 3 (.Pass ⟨0, 0, 0, 0⟩))
def d25 : DefZ := ⟨.prp ("Ratio" : PySem.Str) ("sign" : PySem.Str), ("sign" : PySem.Str), ("Ratio.sign" : PySem.Str), defArgs s25, defBody s25, defScope s25, []⟩
abbrev s26 : Stmt := (top 41)
def d26 : DefZ := ⟨.glo ("kind_by" : PySem.Str), ("kind_by" : PySem.Str), ("kind_by" : PySem.Str), defArgs s26, defBody s26, defScope s26, []⟩
abbrev s27 : Stmt := ((C8.clsBody (top 45)).getD 0 (.Pass ⟨0, 0, 0, 0⟩))
def d27 : DefZ := ⟨.met ("Step" : PySem.Str) ("__init__" : PySem.Str), ("__init__" : PySem.Str), ("Step.__init__" : PySem.Str), defArgs s27, defBody s27, defScope s27, []⟩
abbrev s28 : Stmt := ((C8.clsBody (top 56)).getD 0 (.Pass ⟨0, 0, 0, 0⟩))
def d28 : DefZ := ⟨.met ("Book" : PySem.Str) ("__init__" : PySem.Str), ("__init__" : PySem.Str), ("Book.__init__" : PySem.Str), defArgs s28, defBody s28, defScope s28, []⟩
abbrev s29 : Stmt := (top 84)
def d29 : DefZ := ⟨.glo ("_law_book" : PySem.Str), ("_law_book" : PySem.Str), ("_law_book" : PySem.Str), defArgs s29, defBody s29, defScope s29, []⟩
abbrev s30 : Stmt := (top 68)
def d30 : DefZ := ⟨.glo ("need_book" : PySem.Str), ("need_book" : PySem.Str), ("need_book" : PySem.Str), defArgs s30, defBody s30, defScope s30, []⟩
abbrev s31 : Stmt := (top 10)
def d31 : DefZ := ⟨.glo ("first_twice" : PySem.Str), ("first_twice" : PySem.Str), ("first_twice" : PySem.Str), defArgs s31, defBody s31, defScope s31, []⟩
abbrev s32 : Stmt := ((C8.clsBody (top 56)).getD 9 (.Pass ⟨0, 0, 0, 0⟩))
def d32 : DefZ := ⟨.met ("Book" : PySem.Str) ("__contains__" : PySem.Str), ("__contains__" : PySem.Str), ("Book.__contains__" : PySem.Str), defArgs s32, defBody s32, defScope s32, []⟩
abbrev s33 : Stmt := (top 73)
def d33 : DefZ := ⟨.glo ("need_some" : PySem.Str), ("need_some" : PySem.Str), ("need_some" : PySem.Str), defArgs s33, defBody s33, defScope s33, []⟩
abbrev s34 : Stmt := (top 69)
def d34 : DefZ := ⟨.glo ("need_road" : PySem.Str), ("need_road" : PySem.Str), ("need_road" : PySem.Str), defArgs s34, defBody s34, defScope s34, []⟩
abbrev s35 : Stmt := (top 70)
def d35 : DefZ := ⟨.glo ("unlike_ascending" : PySem.Str), ("unlike_ascending" : PySem.Str), ("unlike_ascending" : PySem.Str), defArgs s35, defBody s35, defScope s35, []⟩
abbrev s36 : Stmt := (top 58)
def d36 : DefZ := ⟨.glo ("need_told_book" : PySem.Str), ("need_told_book" : PySem.Str), ("need_told_book" : PySem.Str), defArgs s36, defBody s36, defScope s36, []⟩
abbrev s37 : Stmt := (top 59)
def d37 : DefZ := ⟨.glo ("need_happening_telling" : PySem.Str), ("need_happening" : PySem.Str), ("need_happening" : PySem.Str), defArgs s37, defBody s37, defScope s37, []⟩
abbrev s38 : Stmt := (top 62)
def d38 : DefZ := ⟨.glo ("need_told_road" : PySem.Str), ("need_told_road" : PySem.Str), ("need_told_road" : PySem.Str), defArgs s38, defBody s38, defScope s38, []⟩
abbrev s39 : Stmt := (top 51)
def d39 : DefZ := ⟨.glo ("need_happening_books" : PySem.Str), ("need_happening" : PySem.Str), ("need_happening" : PySem.Str), defArgs s39, defBody s39, defScope s39, []⟩
abbrev s40 : Stmt := ((C8.clsBody (top 56)).getD 2 (.Pass ⟨0, 0, 0, 0⟩))
def d40 : DefZ := ⟨.met ("Book" : PySem.Str) ("spot_of" : PySem.Str), ("spot_of" : PySem.Str), ("Book.spot_of" : PySem.Str), defArgs s40, defBody s40, defScope s40, []⟩
abbrev s41 : Stmt := (top 63)
def d41 : DefZ := ⟨.glo ("right_of" : PySem.Str), ("right_of" : PySem.Str), ("right_of" : PySem.Str), defArgs s41, defBody s41, defScope s41, []⟩
abbrev s42 : Stmt := (top 65)
def d42 : DefZ := ⟨.glo ("light_right" : PySem.Str), ("light_right" : PySem.Str), ("light_right" : PySem.Str), defArgs s42, defBody s42, defScope s42, []⟩
abbrev s43 : Stmt := (top 64)
def d43 : DefZ := ⟨.glo ("left_of" : PySem.Str), ("left_of" : PySem.Str), ("left_of" : PySem.Str), defArgs s43, defBody s43, defScope s43, []⟩
abbrev s44 : Stmt := (top 66)
def d44 : DefZ := ⟨.glo ("light_left" : PySem.Str), ("light_left" : PySem.Str), ("light_left" : PySem.Str), defArgs s44, defBody s44, defScope s44, []⟩
abbrev s45 : Stmt := ((C8.clsBody (top 71)).getD 0 (.Pass ⟨0, 0, 0, 0⟩))
def d45 : DefZ := ⟨.met ("Lights" : PySem.Str) ("__init__" : PySem.Str), ("__init__" : PySem.Str), ("Lights.__init__" : PySem.Str), defArgs s45, defBody s45, defScope s45, []⟩
abbrev s46 : Stmt := (top 76)
def d46 : DefZ := ⟨.glo ("greatest_name" : PySem.Str), ("greatest_name" : PySem.Str), ("greatest_name" : PySem.Str), defArgs s46, defBody s46, defScope s46, []⟩
abbrev s47 : Stmt := (top 78)
def d47 : DefZ := ⟨.glo ("least_bringing" : PySem.Str), ("least_bringing" : PySem.Str), ("least_bringing" : PySem.Str), defArgs s47, defBody s47, defScope s47, []⟩
abbrev s48 : Stmt := (top 86)
def d48 : DefZ := ⟨.glo ("_law_meet" : PySem.Str), ("_law_meet" : PySem.Str), ("_law_meet" : PySem.Str), defArgs s48, defBody s48, defScope s48, []⟩
abbrev s49 : Stmt := (top 87)
def d49 : DefZ := ⟨.glo ("_law_least" : PySem.Str), ("_law_least" : PySem.Str), ("_law_least" : PySem.Str), defArgs s49, defBody s49, defScope s49, []⟩
abbrev s50 : Stmt := ((C8.clsBody (top 71)).getD 1 (.Pass ⟨0, 0, 0, 0⟩))
def d50 : DefZ := ⟨.met ("Lights" : PySem.Str) ("seen_in" : PySem.Str), ("seen_in" : PySem.Str), ("Lights.seen_in" : PySem.Str), defArgs s50, defBody s50, defScope s50, []⟩
abbrev s51 : Stmt := (top 74)
def d51 : DefZ := ⟨.glo ("meet_of_ranks" : PySem.Str), ("meet_of_ranks" : PySem.Str), ("meet_of_ranks" : PySem.Str), defArgs s51, defBody s51, defScope s51, []⟩
abbrev s52 : Stmt := (top 75)
def d52 : DefZ := ⟨.glo ("all_brought" : PySem.Str), ("all_brought" : PySem.Str), ("all_brought" : PySem.Str), defArgs s52, defBody s52, defScope s52, []⟩
abbrev s53 : Stmt := (top 77)
def d53 : DefZ := ⟨.glo ("brought_by" : PySem.Str), ("brought_by" : PySem.Str), ("brought_by" : PySem.Str), defArgs s53, defBody s53, defScope s53, []⟩
abbrev s54 : Stmt := (top 88)
def d54 : DefZ := ⟨.glo ("law" : PySem.Str), ("law" : PySem.Str), ("law" : PySem.Str), defArgs s54, defBody s54, defScope s54, []⟩
def fz : List Fz := [fFree ("int" : PySem.Str),
  fFree ("len" : PySem.Str),
  fFree ("abs" : PySem.Str),
  fGlo ("_law_take" : PySem.Str),
  fGlo ("_law_of" : PySem.Str),
  fFree ("max" : PySem.Str),
  fFree ("isinstance" : PySem.Str),
  fFree ("bool" : PySem.Str),
  fKiO ("Ratio" : PySem.Str) ("Ratio" : PySem.Str) true,
  fGlo ("Ratio" : PySem.Str),
  fKiB ("Ratio" : PySem.Str),
  fGlo ("is_integer" : PySem.Str),
  fKiO ("Step" : PySem.Str) ("Step" : PySem.Str) true,
  fGlo ("Step" : PySem.Str),
  fKiB ("Step" : PySem.Str),
  fNfT ("Ratio" : PySem.Str) "int",
  fNfO ("Ratio" : PySem.Str) ("Ratio" : PySem.Str),
  fMet ("Ratio" : PySem.Str) ("__eq__" : PySem.Str),
  fFree ("enumerate" : PySem.Str),
  fNfT ("Step" : PySem.Str) "int",
  fNfO ("Step" : PySem.Str) ("Step" : PySem.Str),
  fMet ("Step" : PySem.Str) ("__eq__" : PySem.Str),
  fFree ("str" : PySem.Str),
  fInt ("LONGEST" : PySem.Str) (12),
  fStr ("LETTERS" : PySem.Str) ("abcdefghijklmnopqrstuvwxyz" : PySem.Str),
  fFree ("all" : PySem.Str),
  fStr ("FIGURES" : PySem.Str) ("0123456789" : PySem.Str),
  fFree ("tuple" : PySem.Str),
  fFree ("list" : PySem.Str),
  fGlo ("is_listed" : PySem.Str),
  fGlo ("is_ratio" : PySem.Str),
  fGlo ("are_ratios" : PySem.Str),
  fFree ("dict" : PySem.Str),
  fGlo ("is_name" : PySem.Str),
  fGlo ("is_spot" : PySem.Str),
  fBlt ("gcd" : PySem.Str) "math.gcd",
  fMk ("Ratio" : PySem.Str),
  fGlo ("ratio_from" : PySem.Str),
  fMet ("Ratio" : PySem.Str) ("__neg__" : PySem.Str),
  fBiT ("Ratio" : PySem.Str) ("__add__" : PySem.Str) ("__radd__" : PySem.Str) "int",
  fMet ("Ratio" : PySem.Str) ("__add__" : PySem.Str),
  fSf ("Ratio" : PySem.Str),
  fRd ("Ratio" : PySem.Str) ("__radd__" : PySem.Str),
  fBiT ("Ratio" : PySem.Str) ("__mul__" : PySem.Str) ("__rmul__" : PySem.Str) "int",
  fMet ("Ratio" : PySem.Str) ("__mul__" : PySem.Str),
  fRd ("Ratio" : PySem.Str) ("__rmul__" : PySem.Str),
  fGlo ("summed" : PySem.Str),
  fFree ("zip" : PySem.Str),
  fBiT ("Ratio" : PySem.Str) ("__sub__" : PySem.Str) ("__rsub__" : PySem.Str) "int",
  fMet ("Ratio" : PySem.Str) ("__sub__" : PySem.Str),
  fRd ("Ratio" : PySem.Str) ("__rsub__" : PySem.Str),
  fPrp ("Ratio" : PySem.Str) ("sign" : PySem.Str),
  fInt ("MOST_AXES" : PySem.Str) (3),
  fSta ("Ratio" : PySem.Str) ("of" : PySem.Str),
  fGlo ("product_at" : PySem.Str),
  fGlo ("kind_by" : PySem.Str),
  fGlo ("is_within" : PySem.Str),
  fGlo ("are_spots" : PySem.Str),
  fInt ("MOST_HAPPENINGS" : PySem.Str) (8),
  fFree ("sorted" : PySem.Str),
  fMk ("Step" : PySem.Str),
  fGlo ("need_unlike" : PySem.Str),
  fGlo ("Book" : PySem.Str),
  fMk ("Book" : PySem.Str),
  fKiO ("Book" : PySem.Str) ("Book" : PySem.Str) true,
  fKiB ("Book" : PySem.Str),
  fMet ("Book" : PySem.Str) ("__contains__" : PySem.Str),
  fGlo ("first_twice" : PySem.Str),
  fGlo ("need_happening_books" : PySem.Str),
  fMet ("Book" : PySem.Str) ("spot_of" : PySem.Str),
  fGlo ("need_told_book" : PySem.Str),
  fGlo ("need_happening_telling" : PySem.Str),
  fGlo ("need_told_road" : PySem.Str),
  fGlo ("right_of" : PySem.Str),
  fGlo ("left_of" : PySem.Str),
  fGlo ("light_right" : PySem.Str),
  fGlo ("light_left" : PySem.Str),
  fGlo ("unlike_ascending" : PySem.Str),
  fGlo ("need_book" : PySem.Str),
  fGlo ("need_some" : PySem.Str),
  fGlo ("need_road" : PySem.Str),
  fGlo ("Lights" : PySem.Str),
  fMk ("Lights" : PySem.Str),
  fGlo ("greatest_name" : PySem.Str),
  fGlo ("_law_meet" : PySem.Str),
  fMet ("Lights" : PySem.Str) ("seen_in" : PySem.Str),
  fGlo ("meet_of_ranks" : PySem.Str),
  fGlo ("all_brought" : PySem.Str),
  fGlo ("_law_hat" : PySem.Str),
  fGlo ("_law_plain" : PySem.Str),
  fGlo ("_law_book" : PySem.Str),
  fGlo ("_law_crowds" : PySem.Str),
  fGlo ("least_bringing" : PySem.Str),
  fGlo ("_law_least" : PySem.Str),
  fFree ("min" : PySem.Str),
  fGlo ("brought_by" : PySem.Str),
  fCls ("Ratio" : PySem.Str) [("top" : PySem.Str), ("bottom" : PySem.Str)],
  fTy ("Ratio" : PySem.Str),
  fCls ("Step" : PySem.Str) [("time" : PySem.Str), ("place" : PySem.Str), ("axes" : PySem.Str), ("square" : PySem.Str), ("kind" : PySem.Str)],
  fTy ("Step" : PySem.Str),
  fCls ("Book" : PySem.Str) [("axes" : PySem.Str), ("names" : PySem.Str), ("steps" : PySem.Str)],
  fTy ("Book" : PySem.Str),
  fCls ("Lights" : PySem.Str) [("names" : PySem.Str), ("right" : PySem.Str), ("left" : PySem.Str), ("ranks" : PySem.Str), ("whole" : PySem.Str)],
  fTy ("Lights" : PySem.Str),
  fGlo "law"]
def fn : List DefZ := [d0, d1, d2, d3, d4, d5, d6, d7, d8, d9, d10, d11, d12, d13, d14, d15, d16, d17, d18, d19, d20, d21, d22, d23, d24, d25, d26, d27, d28, d29, d30, d31, d32, d33, d34, d35, d36, d37, d38, d39, d40, d41, d42, d43, d44, d45, d46, d47, d48, d49, d50, d51, d52, d53, d54]
end Kw
namespace Kw
open PySem PySem.Spec PyProof.Rows L2 Z
theorem both3 {α β γ δ : Type} {o : Option α} {f : α → β} {g : α → γ} {h : α → δ} {b : β} {c : γ} {d : δ} (h1 : o.map (fun x => (f x, g x)) = some (b, c)) (h2 : o.map (fun x => h x) = some d) : o.map (fun x => (f x, g x, h x)) = some (b, c, d) := by
  cases o with
  | none => cases h1
  | some x =>
    obtain ⟨e1, e2⟩ := Prod.mk.inj (Option.some.inj h1)
    exact congrArg some (Prod.ext e1 (Prod.ext e2 (Option.some.inj h2)))
abbrev Rw : PySem.W.OpenRow := PySem.W.OpenLaw.row PySem.Challenge.rw_whosefirst_k81_the_least_that_brings_a_c
abbrev hk : PySem.W.Hook := hookZ 5 fz fn
def ob (s : PySem.W.SharedT) : He.AlD := obsZG 5 fz fn (HandSHeadRun.getT s)
theorem ob_eq (s : PySem.W.SharedT) : ob s = hk.obs s.abs := obsZG_eq (HandSHeadRun.getT_eq s)
def loose0 : List PySem.Str := [("_wall" : PySem.Str), ("__name__" : PySem.Str), ("LONGEST" : PySem.Str), ("LETTERS" : PySem.Str), ("FIGURES" : PySem.Str), ("is_integer" : PySem.Str), ("is_within" : PySem.Str), ("is_name" : PySem.Str), ("is_listed" : PySem.Str), ("first_twice" : PySem.Str), ("FirstError" : PySem.Str), ("BadRatio" : PySem.Str), ("BadStep" : PySem.Str), ("BadBook" : PySem.Str), ("BadOrder" : PySem.Str), ("BadNumber" : PySem.Str), ("Missing" : PySem.Str), ("NoHappening" : PySem.Str), ("Twice" : PySem.Str), ("Unlike" : PySem.Str), ("SameSpot" : PySem.Str), ("TooMany" : PySem.Str), ("BadText" : PySem.Str), ("MOST_FIGURES" : PySem.Str), ("number_in" : PySem.Str), ("Scan" : PySem.Str), ("is_ratio" : PySem.Str), ("are_ratios" : PySem.Str), ("ratio_from" : PySem.Str), ("ratio_in" : PySem.Str), ("take_ratio" : PySem.Str), ("Ratio" : PySem.Str), ("summed" : PySem.Str), ("MOST_AXES" : PySem.Str), ("need_step" : PySem.Str), ("need_axes" : PySem.Str), ("kind_by" : PySem.Str), ("product_at" : PySem.Str), ("take_place" : PySem.Str), ("take_step" : PySem.Str)]
def loose1 : List PySem.Str := [("Step" : PySem.Str), ("MOST_HAPPENINGS" : PySem.Str), ("BESIDE" : PySem.Str), ("is_spot" : PySem.Str), ("are_spots" : PySem.Str), ("need_happening" : PySem.Str), ("need_happening_books" : PySem.Str), ("need_unlike" : PySem.Str), ("take_happenings" : PySem.Str), ("take_book" : PySem.Str), ("Book" : PySem.Str), ("need_told_book" : PySem.Str), ("need_happening_telling" : PySem.Str), ("need_told_road" : PySem.Str), ("right_of" : PySem.Str), ("left_of" : PySem.Str), ("light_right" : PySem.Str), ("light_left" : PySem.Str), ("need_book" : PySem.Str), ("need_road" : PySem.Str), ("unlike_ascending" : PySem.Str), ("Lights" : PySem.Str), ("need_some" : PySem.Str), ("meet_of_ranks" : PySem.Str), ("all_brought" : PySem.Str), ("greatest_name" : PySem.Str), ("brought_by" : PySem.Str), ("least_bringing" : PySem.Str), ("_law_hat" : PySem.Str), ("_law_take" : PySem.Str), ("_law_of" : PySem.Str), ("_law_plain" : PySem.Str), ("_law_book" : PySem.Str), ("_law_crowds" : PySem.Str), ("_law_meet" : PySem.Str), ("_law_least" : PySem.Str)]
def loose : List PySem.Str := loose0 ++ loose1
noncomputable def whole (w : World) := HandSHeadRun.wholeF (fun p => HandSHeadRun.stepQ (HandSHeadRun.denQ HandSHeadRun.tabQ) p w) HandSHeadRun.fenceQ 16000 Rw.prog
theorem run1 (w : World) : (whole w).map (fun x => (HandSHeadRun.looksF Rw.prog x.1.heap x.2.abs, HandSHeadRun.seenQ (PySem.W.view Rw.prog [0, 88]) loose (importedModules Rw.prog.main.body) (fun s => PySem.W.xlAt (PySem.W.view Rw.prog [0, 88]) [] s && PySem.W.recOk Rw.toRowW.records s) x.2.abs)) = some (true, PySem.W.openGood (PySem.W.view Rw.prog [0, 88]) loose) := by
  kernel_rfl
theorem run2 (w : World) : (whole w).map (fun x => ob x.2) = some (hk.val w) := by
  kernel_rfl
theorem run (w : World) : HandSHeadRun.RunEqI Rw (PySem.W.view Rw.prog [0, 88]) hk ob 16000 loose w := both3 (run1 w) (run2 w)
end Kw
namespace Z
open PySem PySem.Spec PyProof.Rows L2
theorem DefZ.funD {K : PySem.W.Frag} {d : DefZ} (e : fnZ K d.wh = d.val) (c : d.ok K = true) : ∃ fd, FunD K d.name d.qual d.params d.body d.scope (d.dvs K) [] (d.wh.ad K) fd := by
  obtain ⟨kp, c2⟩ := He.ba c
  unfold fnZ at e
  cases q : K.lookup (d.wh.ad K) with
  | none =>
    rw [q] at c2
    cases c2
  | some o =>
    obtain ⟨oc, od, dt, osl⟩ := o
    rw [q] at c2 e
    cases dt with
    | func g =>
      obtain ⟨m1, m2, m3, m4, m5, m6, m7, m8, m9, m10, m11, m12, m13, m14, m15⟩ := g
      have e2 : (some (m1, m2, m3, m4, m5, m6, m7, m15) : He.FnW) = some (d.name, d.qual, d.params, .stmts d.body, d.scope, mainGlobals, [], builtinsNs) := e
      simp only [Option.some.injEq, Prod.mk.injEq] at e2
      obtain ⟨g1, g2, g3, g4, g5, g6, g7, g8⟩ := e2
      subst g1 g2 g3 g4 g5 g6 g7 g8
      obtain ⟨k1, k2⟩ := He.ba (show (PySem.W.codeIn K m13 d.qual && He.dflB K m8 (d.dvs K)) = true from c2)
      exact ⟨_, ⟨oc, od, m8, m9, m10, m11, m12, m13, m14, osl, rfl, q, k1, He.dflB_ok k2, .inl rfl⟩, kp⟩
    | _ => cases c2
section
variable {fa : List Fz} {fn : List DefZ} {K : PySem.W.Frag}
theorem SaysZ.fact (c : SaysZ fa fn K) (i : Nat) {f : Fz} (h : fa[i]? = some f := by rfl) : f K = true := by
  have h1 := (He.ba (show ((fa.all fun f => f K) && fn.all fun d => d.ok K) = true from congrArg (fun z : He.AlD => z.1) c)).1
  exact List.all_eq_true.mp h1 f (List.mem_of_getElem? h)
theorem SaysZ.def_ (c : SaysZ fa fn K) (i : Nat) {d : DefZ} (h : fn[i]? = some d := by rfl) : ∃ fd, FunD K d.name d.qual d.params d.body d.scope (d.dvs K) [] (d.wh.ad K) fd := by
  have h2 := (He.ba (show ((fa.all fun f => f K) && fn.all fun d => d.ok K) = true from congrArg (fun z : He.AlD => z.1) c)).2
  have h3 : fn.map (fun d => fnZ K d.wh) = fn.map DefZ.val := congrArg (fun z : He.AlD => z.2) c
  have h4 : (fn.map fun d => fnZ K d.wh)[i]? = (fn.map DefZ.val)[i]? := by rw [h3]
  rw [List.getElem?_map, List.getElem?_map, h] at h4
  exact DefZ.funD (Option.some.inj h4) (List.all_eq_true.mp h2 d (List.mem_of_getElem? h))
end
def fSub (x y : Str) : Fz := fun K => eqF (PySem.W.subIn K (.ref (He.ga K y)) (.ref (He.ga K x))) (some false) && !eqF (He.ga K x) (He.ga K y)
section
variable {K : PySem.W.Frag} {h : Heap} {mg : Str → Option Value}
theorem eqF_ok {α : Type} [DecidableEq α] {a b : α} (h : eqF a b = true) : a = b := of_decide_eq_true h
theorem blt_ok (X : K.In h) (G : h.Ns mainGlobals mg) {x : Str} {id : String} (c : fBlt x id K = true) : mg x = some (.builtin id) := PySem.W.mg_of X G (eqF_ok c)
theorem noat_all {x : Str} {fs : List Str} (c : fCls x fs K = true) : Cls K (He.ga K x) ∧ ∀ f ∈ fs, NoAttr K (He.ga K x) f := by
  obtain ⟨a, b⟩ := He.ba c
  exact ⟨He.cls_ok a, fun f hf => He.noat_ok (List.all_eq_true.mp b f hf)⟩
theorem rd_ok {x dr : Str} (c : fRd x dr K = true) : ∃ rc, PySem.W.findIn K (.ref (He.ga K x)) dr = some rc ∧ (rc = none ∨ ∃ g : Addr, rc = some (.ref g)) := by
  unfold fRd at c
  split at c
  · rename_i e
    exact ⟨_, e, .inl rfl⟩
  · rename_i g e
    exact ⟨_, e, .inr ⟨g, rfl⟩⟩
  · cases c
theorem biT_ok {x dn dr : Str} {T : String} (c : fBiT x dn dr T K = true) : (∃ fo ro, PySem.W.findIn K (.type T) dn = some fo ∧ PySem.W.findIn K (.type T) dr = some ro) ∧ PySem.W.subIn K (.type T) (.ref (He.ga K x)) = some false := by
  obtain ⟨a, b⟩ := He.ba c
  obtain ⟨b, d⟩ := He.ba b
  obtain ⟨fo, e1⟩ := Option.isSome_iff_exists.mp a
  obtain ⟨ro, e2⟩ := Option.isSome_iff_exists.mp b
  exact ⟨⟨fo, ro, e1, e2⟩, eqF_ok d⟩
theorem sub_ok {x y : Str} (c : fSub x y K = true) : PySem.W.subIn K (.ref (He.ga K y)) (.ref (He.ga K x)) = some false ∧ He.ga K x ≠ He.ga K y := by
  obtain ⟨a, b⟩ := He.ba c
  refine ⟨eqF_ok a, fun z => ?_⟩
  rw [show eqF (He.ga K x) (He.ga K y) = true from decide_eq_true z] at b
  cases b
theorem prp_ok {x m : Str} (c : fPrp x m K = true) : PropOf K (He.ga K x) m (He.ma K (He.ga K x) m) ((Wh.prp x m).ad K) := by
  obtain ⟨a, b⟩ := He.ba c
  obtain ⟨b, d⟩ := He.ba b
  obtain ⟨d, e⟩ := He.ba d
  refine ⟨eqF_ok a, eqF_ok b, eqF_ok d, ?_⟩
  show ∃ rest, PySem.W.recIn K (He.ma K (He.ga K x) m) "property" = some (.ref (recAt K (He.ma K (He.ga K x) m) "property") :: rest)
  unfold recAt
  revert e
  split
  · rename_i g rest e
    intro _
    rw [e]
    exact ⟨rest, rfl⟩
  · exact fun z => nomatch z
theorem sta_ok {x m : Str} (c : fSta x m K = true) : PySem.W.readsIn K (He.ga K x) (.type "type") = true ∧ PySem.W.specialIn K (.ref (He.ga K x)) "__getattribute__" = some (some (.builtin "type.__getattribute__")) ∧
    ∃ p rest, PySem.W.findCls K (.ref (He.ga K x)) (.type "type") m = some (.get (.builtin "staticmethod.__get__") (.ref p) .none (.ref (He.ga K x))) ∧ PySem.W.recIn K p "staticmethod" = some (.ref ((Wh.sta x m).ad K) :: rest) := by
  obtain ⟨a, b⟩ := He.ba c
  obtain ⟨b, d⟩ := He.ba b
  obtain ⟨d, e⟩ := He.ba d
  refine ⟨a, eqF_ok b, He.ma K (He.ga K x) m, ?_⟩
  have h1 : PySem.W.findCls K (.ref (He.ga K x)) (.type "type") m = some (.get (.builtin "staticmethod.__get__") (.ref (He.ma K (He.ga K x) m)) .none (.ref (He.ga K x))) := by
    revert d
    split
    · rename_i p C q
      intro d
      obtain ⟨d1, d2⟩ := He.ba d
      rw [q, ← eqF_ok d1, ← eqF_ok d2]
    · exact fun z => nomatch z
  show ∃ rest, _ ∧ PySem.W.recIn K (He.ma K (He.ga K x) m) "staticmethod" = some (.ref (recAt K (He.ma K (He.ga K x) m) "staticmethod") :: rest)
  unfold recAt
  revert e
  split
  · rename_i g rest e
    intro _
    exact ⟨rest, h1, by rw [e]⟩
  · exact fun z => nomatch z
end
end Z
namespace Z
open PySem PySem.Spec PyProof.Rows L2
@[simp] def Out.bind {α β : Type} (o : Out α) (k : α → Ev → Out β) : Out β := match o with
  | .ok a r => k a r
  | .ex e r => .ex e r
  | .no => .no
section
variable {G : Gm} {F F' H : Hp}
theorem RepL.get' : ∀ {l : List D} {xs : List V} {i : Nat} {v : V}, RepL G F l xs → xs[i]? = some v → ∃ d, l[i]? = some d ∧ Rep G F d v
  | _, _, _, _, .nil, e => by simp at e
  | _, _, 0, _, .cons h _, e => by simp at e; subst e; exact ⟨_, rfl, h⟩
  | _, _, i + 1, _, .cons _ t, e => by
    obtain ⟨v, h1, h2⟩ := t.get' (i := i) (by simpa using e)
    exact ⟨v, by simpa using h1, h2⟩
theorem RepL.drop : ∀ {l : List D} {xs : List V} (n : Nat), RepL G F l xs → RepL G F (l.drop n) (xs.drop n)
  | _, _, 0, r => r
  | _, _, _ + 1, .nil => .nil
  | _, _, n + 1, .cons _ t => t.drop n
theorem RepL.ints : ∀ {ns : List Int} {xs : List V}, RepL G F (ns.map D.int) xs → xs = ns.map V.int
  | [], _, .nil => rfl
  | n :: ns, _, .cons h t => by cases h; rw [RepL.ints t]; rfl
theorem RepL.bls : ∀ {ns : List Bool} {xs : List V}, RepL G F (ns.map D.bl) xs → xs = ns.map V.bl
  | [], _, .nil => rfl
  | n :: ns, _, .cons h t => by cases h; rw [RepL.bls t]; rfl
theorem RepL.ofInts : ∀ (ns : List Int), RepL G F (ns.map D.int) (ns.map V.int)
  | [] => .nil
  | n :: ns => .cons .int (RepL.ofInts ns)
end
section
variable {G : Gm} {O : List Nat} {F H : Hp} {σ : L2.St} {r : Ev}
theorem Sta.setOwn (S : Sta G O F H σ r) (i : Nat) {d : D} {v : V} (h : Own G F H d v) (hi : i < r.length) (hn : ∀ a, v = .ref a → ¬ OwnAt O σ a) : Sta G (i :: O.filter (· != i)) F H (σ.set i (some v)) (r.set i (some d)) where
  sub := S.sub
  nt := S.nt
  wf := S.wf
  len := by simp [S.len]
  rp := fun j dj hj e => by
    have q : i ≠ j := fun z => hj (by rw [z]; exact List.mem_cons_self)
    rw [List.getElem?_set_ne q] at e
    rw [List.getElem?_set_ne q]
    exact S.rp j dj (fun z => hj (List.mem_cons_of_mem _ (List.mem_filter.mpr ⟨z, by simp [Ne.symm q]⟩))) e
  ow := fun j hj => by
    by_cases q : i = j
    · subst q
      exact ⟨d, v, List.getElem?_set_self hi, List.getElem?_set_self (by rw [← S.len]; exact hi), h⟩
    · rcases List.mem_cons.mp hj with z | hj
      · exact absurd z.symm q
      rw [List.getElem?_set_ne q, List.getElem?_set_ne q]
      exact S.ow j (List.mem_filter.mp hj).1
  dj := fun j k a hj hk ej ek => by
    have at_ : ∀ m, m ∈ i :: O.filter (· != i) → i ≠ m → m ∈ O := fun m hm q => by
      rcases List.mem_cons.mp hm with z | hm
      · exact absurd z.symm q
      · exact (List.mem_filter.mp hm).1
    have hl : i < σ.length := by rw [← S.len]; exact hi
    by_cases q : i = j
    · by_cases q' : i = k
      · exact q.symm.trans q'
      · subst q
        rw [List.getElem?_set_self hl] at ej
        rw [List.getElem?_set_ne q'] at ek
        exact absurd ⟨k, at_ k hk q', ek⟩ (hn a (by cases ej; rfl))
    · by_cases q' : i = k
      · subst q'
        rw [List.getElem?_set_self hl] at ek
        rw [List.getElem?_set_ne q] at ej
        exact absurd ⟨j, at_ j hj q, ej⟩ (hn a (by cases ek; rfl))
      · rw [List.getElem?_set_ne q] at ej
        rw [List.getElem?_set_ne q'] at ek
        exact S.dj j k a (at_ j hj q) (at_ k hk q') ej ek
end
abbrev RB : Hp → Hp → Bool → Bool → Prop := fun _ _ a b => a = b
abbrev RS (G : Gm) : Hp → Hp → List D → List V → Prop := fun F _ d v => RepL G F d v
abbrev RP (G : Gm) : Hp → Hp → D → V → Prop := fun F H d v => Rep G F d v ∨ Own G F H d v
abbrev tT (G : Gm) (W : WX) (OX O O' : List Nat) (f : M Bool) : TT := tX G W OX O O' RB f
abbrev tA (G : Gm) (W : WX) (OX O O' : List Nat) (f : M (List D)) : TA := tX G W OX O O' (RS G) f
theorem Pst.bind {α β γ δ : Type} {G : Gm} {W : WX} {OX O O1 O2 : List Nat} {σ : L2.St} {F H : Hp} {Rl : Hp → Hp → α → β → Prop} {Rl' : Hp → Hp → γ → δ → Prop} {o : Out α} {k : α → M γ} {Q' : δ → Hp → Prop} (p : Pst G W OX O O2 σ F H Rl' Q' (o.bind k)) :
    Pst G W OX O O1 σ F H Rl (fun b H1 => ∃ a F1 r1, Nx G OX O O1 σ F H σ F1 H1 r1 ∧ Rl F1 H1 a b ∧ Pst G W OX O1 O2 σ F1 H1 Rl' Q' (k a r1)) o := by
  revert p
  cases o with
  | no => exact fun p => p
  | ex e r' => exact fun p => p
  | ok a r1 =>
    intro p b F1 H1 n1 rl
    have p : Pst G W OX O O2 σ F H Rl' Q' (k a r1) := p
    refine ⟨a, F1, r1, n1, rl, ?_⟩
    revert p
    cases k a r1 with
    | no => exact fun p => p
    | ex e r' => exact fun p c dx F' H' n x => p c dx F' H' (n1.trans n) x
    | ok a' r' => exact fun p b' F' H' n x => p b' F' H' (n1.trans n) x
theorem tX_bind {α β γ δ : Type} {G : Gm} {W : WX} {OX O O1 O2 : List Nat} {σ : L2.St} {F H : Hp} {r : Ev} {Rl : Hp → Hp → α → β → Prop} {Rl' : Hp → Hp → γ → δ → Prop} {f : M α} {k : α → M γ} {Q : β → Hp → Prop} {Q' : δ → Hp → Prop}
    (S : Sta G O F H σ r) (p : Pst G W OX O O2 σ F H Rl' Q' ((f r).bind k))
    (hk : ∀ (a : α) (b : β) (F1 H1 : Hp) (r1 : Ev), Nx G OX O O1 σ F H σ F1 H1 r1 → Rl F1 H1 a b → Pst G W OX O1 O2 σ F1 H1 Rl' Q' (k a r1) → Q b H1) : tX G W OX O O1 Rl f σ H Q :=
  ⟨F, r, S, p.bind.mono fun b H1 ⟨a, F1, r1, n, rl, p⟩ => hk a b F1 H1 r1 n rl p⟩
theorem _root_.L2.PE.imp {X : Cx} {e : Expr} {t t' : TE} (h : PE X e t) (i : ∀ σ H Q, t' σ H Q → t σ H Q) : PE X e t' := ⟨fun pins s σ H Q I q => h.run pins s σ H Q I (i σ H Q q)⟩
theorem _root_.L2.PT.imp {X : Cx} {e : Expr} {t t' : TT} (h : PT X e t) (i : ∀ σ H Q, t' σ H Q → t σ H Q) : PT X e t' := ⟨fun pins s σ H Q I q => h.run pins s σ H Q I (i σ H Q q)⟩
theorem _root_.L2.PA.imp {X : Cx} {e : List Expr} {t t' : TA} (h : PA X e t) (i : ∀ σ H Q, t' σ H Q → t σ H Q) : PA X e t' := ⟨fun pos pins s σ H Q I q => h.run pos pins s σ H Q I (i σ H Q q)⟩
theorem _root_.L2.PS.imp {X : Cx} {e : Stmt} {t t' : TS} (h : PS X e t) (i : ∀ D σ H, t' D σ H → t D σ H) : PS X e t' := ⟨fun pins s σ H D I q => h.run pins s σ H D I (i D σ H q)⟩
theorem _root_.L2.PSs.imp {X : Cx} {e : List Stmt} {t t' : TS} (h : PSs X e t) (i : ∀ D σ H, t' D σ H → t D σ H) : PSs X e t' := ⟨fun pins s σ H D I q => h.run pins s σ H D I (i D σ H q)⟩
end Z
namespace Z
open PySem PySem.Spec PyProof.Rows L2
@[simp] def eV (i : Nat) : M D := fun r => match r[i]? with
  | some (some d) => .ok d r
  | _ => .no
@[simp] def eS (imm : Nat → Bool) (i : Nat) : M D := fun r => match r[i]? with
  | some (some (.ob c l)) => if imm c then .ok (.ob c l) r else .no
  | _ => .no
@[simp] def eK (d : D) : M D := fun r => .ok d r
@[simp] def eAnd (f g : M D) : M D := fun r => (f r).bind fun x r1 => match x with
  | .bl true => g r1
  | .bl false => .ok (.bl false) r1
  | _ => .no
@[simp] def eOr (f g : M D) : M D := fun r => (f r).bind fun x r1 => match x with
  | .bl true => .ok (.bl true) r1
  | .bl false => g r1
  | _ => .no
@[simp] def eNot (f : M D) : M D := fun r => (f r).bind fun x r1 => match x with
  | .bl b => .ok (.bl (!b)) r1
  | _ => .no
@[simp] def eIf (t : M Bool) (f g : M D) : M D := fun r => (t r).bind fun b r1 => if b then f r1 else g r1
@[simp] def tV (f : M D) : M Bool := fun r => (f r).bind fun x r1 => match x with
  | .bl b => .ok b r1
  | _ => .no
@[simp] def tAn (f g : M Bool) : M Bool := fun r => (f r).bind fun b r1 => if b then g r1 else .ok false r1
@[simp] def tOn (f g : M Bool) : M Bool := fun r => (f r).bind fun b r1 => if b then .ok true r1 else g r1
@[simp] def tNo (f : M Bool) : M Bool := fun r => (f r).bind fun b r1 => .ok (!b) r1
@[simp] def D.isNon : D → Bool
  | .non => true
  | _ => false
@[simp] def eIsN (f : M D) : M D := fun r => (f r).bind fun x r1 => .ok (.bl x.isNon) r1
@[simp] def eNotN (f : M D) : M D := fun r => (f r).bind fun x r1 => .ok (.bl (!x.isNon)) r1
@[simp] def aNil : M (List D) := fun r => .ok [] r
@[simp] def aCons (f : M D) (g : M (List D)) : M (List D) := fun r => (f r).bind fun x r1 => (g r1).bind fun xs r2 => .ok (x :: xs) r2
@[simp] def eB (o : D → D → Ev → Out D) (f g : M D) : M D := fun r => (f r).bind fun x r1 => (g r1).bind fun y r2 => o x y r2
@[simp] def eU (o : D → Ev → Out D) (f : M D) : M D := fun r => (f r).bind fun x r1 => o x r1
@[simp] def onBl {α : Type} (z : D) (k : Bool → Out α) : Out α := match z with
  | .bl b => k b
  | _ => .no
@[simp] def eChain (o o' : D → D → Ev → Out D) (f g h : M D) : M D := fun r => (f r).bind fun x r1 => (g r1).bind fun y r2 => (o x y r2).bind fun z r3 => onBl z fun b => if b then (h r3).bind fun w r4 => o' y w r4 else .ok (.bl false) r3
section
variable {G : Gm} {X : Cx} {W : WX} {OX O O1 O2 O3 : List Nat}
theorem e_var {x : Str} {pos : Pos} (i : Nat) (hi : i ∉ O := by decide) (hN : X.N[i]? = some x := by rfl) (hv : Vis X.env.scope x := by first | exact Or.inl rfl | exact Or.inr (Or.inl rfl) | exact Or.inr (Or.inr rfl))
    (hd : (x == ("__debug__" : Str)) = false := by decide) (hcd : (x == ("__classdict__" : Str)) = false := by decide) : PE X (.Name x pos) (tE G W OX O O (eV i)) :=
  (pe_var hN hv hd hcd).imp fun σ H Q ⟨F, r, S, p⟩ => by
    simp only [eV] at p
    revert p
    split
    · rename_i d e
      intro p
      obtain ⟨v, e1, h⟩ := S.rp i d hi e
      exact ⟨v, e1, p.ok S h⟩
    · exact fun p => p.elim
theorem e_self {x : Str} {pos : Pos} (i : Nat) (hi : i ∈ O := by decide) (hN : X.N[i]? = some x := by rfl) (hv : Vis X.env.scope x := by first | exact Or.inl rfl | exact Or.inr (Or.inl rfl) | exact Or.inr (Or.inr rfl))
    (hd : (x == ("__debug__" : Str)) = false := by decide) (hcd : (x == ("__classdict__" : Str)) = false := by decide) : PE X (.Name x pos) (tE G W OX O O (eS G.imm i)) :=
  (pe_var hN hv hd hcd).imp fun σ H Q ⟨F, r, S, p⟩ => by
    simp only [eS] at p
    revert p
    split
    · rename_i c l e
      split
      · rename_i him
        intro p
        obtain ⟨v, e1, o⟩ := S.own_at hi e
        obtain ⟨F', a, ob, rfl, ha, rfl, k1, k2, rp, htb⟩ := o.freeze S.sub
        have nb : ∀ {b}, ¬ OwnAt O σ b → b ≠ a := fun {b} n z => n ⟨i, hi, by rw [e1, z]⟩
        have st : Stp G.tabs (OwnAt O σ) F H (upd F a ob) H := ⟨k1, fun _ _ h _ _ => h, fun b u h n => upd_ne (nb n), fun _ h => h, fun _ _ t => t⟩
        refine ⟨_, e1, p _ (upd F a ob) H (Nx.of ⟨k2, S.nt.upd htb, S.wf, S.len, fun j dj hj ej => ?_, fun j hj => ?_, S.dj⟩ st fun j hj => hj) rp⟩
        · obtain ⟨w, ew, hw⟩ := S.rp j dj hj ej
          exact ⟨w, ew, hw.mono k1⟩
        · by_cases q : j = i
          · subst q
            refine ⟨_, _, e, e1, ?_⟩
            cases o with
            | @ob _ _ _ dx xs h hf hl rr =>
              have eo : ob = HO.ins (G.cA c) dx ((G.lay c).zip xs) := by
                rw [ha] at h
                exact Option.some.inj h
              subst eo
              exact .ob h (.inr ⟨him, xs.length, by rw [List.take_length]; exact upd_same⟩) hl (rr.mono k1)
          · obtain ⟨dj, w, e1', ew, ow⟩ := S.ow j hj
            refine ⟨dj, w, e1', ew, ?_⟩
            obtain ⟨b, ob', rfl, hb⟩ := ow.there
            have nb : b ≠ a := fun z => q (S.dj j i a hj hi (by rw [ew, z]) e1)
            cases ow with
            | lst h hf rr => exact .lst h (by rw [upd_ne nb]; exact hf) (rr.mono k1)
            | dic h hf hk rr => exact .dic h (by rw [upd_ne nb]; exact hf) hk (rr.mono k1)
            | ob h hf hl rr => exact .ob h (by rw [upd_ne nb]; exact hf) hl (rr.mono k1)
      · exact fun p => p.elim
    · exact fun p => p.elim
theorem e_of {e : Expr} {v : V} {d : D} (h : PE X e (tC v)) (hr : ∀ F, Rep G F d v) : PE X e (tE G W OX O O (eK d)) := h.imp fun σ H Q ⟨F, r, S, p⟩ => p.ok S (hr F)
theorem e_int {i : Int} {j pos} : PE X (.Constant (.int i) j pos) (tE G W OX O O (eK (.int i))) := e_of pe_int fun _ => .int
theorem e_bl {b j pos} : PE X (.Constant (.bool b) j pos) (tE G W OX O O (eK (.bl b))) := e_of pe_bl fun _ => .bl
theorem e_non {j pos} : PE X (.Constant .none j pos) (tE G W OX O O (eK .non)) := e_of pe_non fun _ => .non
theorem e_str {x j pos} : PE X (.Constant (.str x) j pos) (tE G W OX O O (eK (.str x))) := e_of pe_str fun _ => .str
theorem e_and {a b : Expr} {rest : List Expr} {pos : Pos} {f g : M D} (ha : PE X a (tE G W OX O O1 f)) (hb : PE X (.BoolOp .And (b :: rest) pos) (tE G W OX O1 O1 g)) : PE X (.BoolOp .And (a :: b :: rest) pos) (tE G W OX O O1 (eAnd f g)) :=
  (pe_and ha hb).imp fun σ H Q ⟨F, r, S, p⟩ => tX_bind S p fun x v F1 H1 r1 n1 rx p => by
    revert p
    split
    · intro p
      cases rx
      exact ⟨true, rfl, by rw [if_pos rfl]; exact ⟨F1, r1, n1.sta, p⟩⟩
    · intro p
      cases rx
      exact ⟨false, rfl, by rw [if_neg (by decide)]; exact p.ok n1.sta .bl⟩
    · exact fun p => p.elim
theorem e_or {a b : Expr} {rest : List Expr} {pos : Pos} {f g : M D} (ha : PE X a (tE G W OX O O1 f)) (hb : PE X (.BoolOp .Or (b :: rest) pos) (tE G W OX O1 O1 g)) : PE X (.BoolOp .Or (a :: b :: rest) pos) (tE G W OX O O1 (eOr f g)) :=
  (pe_or ha hb).imp fun σ H Q ⟨F, r, S, p⟩ => tX_bind S p fun x v F1 H1 r1 n1 rx p => by
    revert p
    split
    · intro p
      cases rx
      exact ⟨true, rfl, by rw [if_pos rfl]; exact p.ok n1.sta .bl⟩
    · intro p
      cases rx
      exact ⟨false, rfl, by rw [if_neg (by decide)]; exact ⟨F1, r1, n1.sta, p⟩⟩
    · exact fun p => p.elim
theorem e_not {a : Expr} {pos : Pos} {f : M D} (ha : PE X a (tE G W OX O O1 f)) : PE X (.UnaryOp .Not a pos) (tE G W OX O O1 (eNot f)) :=
  (pe_not ha).imp fun σ H Q ⟨F, r, S, p⟩ => tX_bind S p fun x v F1 H1 r1 n1 rx p => by
    revert p
    split
    · intro p
      cases rx
      exact ⟨_, rfl, p.ok n1.sta .bl⟩
    · exact fun p => p.elim
theorem e_if {c a b : Expr} {pos : Pos} {t : M Bool} {f g : M D} (hc : PT X c (tT G W OX O O1 t)) (ha : PE X a (tE G W OX O1 O2 f)) (hb : PE X b (tE G W OX O1 O2 g)) : PE X (.IfExp c a b pos) (tE G W OX O O2 (eIf t f g)) :=
  (pe_ifExp hc ha hb).imp fun σ H Q ⟨F, r, S, p⟩ => tX_bind S p fun x v F1 H1 r1 n1 rx p => by
    subst rx
    cases x with
    | true => exact ⟨F1, r1, n1.sta, p⟩
    | false => exact ⟨F1, r1, n1.sta, p⟩
theorem t_val {e : Expr} {f : M D} (h : PE X e (tE G W OX O O1 f)) (he : ∀ whole, isTrue e X.env whole = (do let v ← whole; standAt e.pos; holding [v] (truthy v)) := by intro _; rfl) : PT X e (tT G W OX O O1 (tV f)) :=
  (pt_val h he).imp fun σ H Q ⟨F, r, S, p⟩ => tX_bind S p fun x v F1 H1 r1 n1 rx p => by
    revert p
    split
    · intro p
      cases rx
      exact ⟨_, rfl, p.ok n1.sta rfl⟩
    · exact fun p => p.elim
structure PWt (X : Cx) (e : Expr) (t : TT) : Prop where
  w : PW X e t
theorem w_and1 {a : Expr} {pos : Pos} {t : TT} (h : PT X a t) : PWt X (.BoolOp .And [a] pos) t := ⟨pw_and1 h⟩
theorem w_or1 {a : Expr} {pos : Pos} {t : TT} (h : PT X a t) : PWt X (.BoolOp .Or [a] pos) t := ⟨pw_or1 h⟩
theorem _root_.L2.PW.imp {X : Cx} {e : Expr} {t t' : TT} (h : PW X e t) (i : ∀ σ H Q, t' σ H Q → t σ H Q) : PW X e t' := ⟨fun wh pins s σ H Q I q => h.run wh pins s σ H Q I (i σ H Q q)⟩
theorem w_and {a b : Expr} {rest : List Expr} {pos : Pos} {f g : M Bool} (ha : PT X a (tT G W OX O O1 f)) (hb : PWt X (.BoolOp .And (b :: rest) pos) (tT G W OX O1 O1 g)) : PWt X (.BoolOp .And (a :: b :: rest) pos) (tT G W OX O O1 (tAn f g)) :=
  ⟨(pw_and ha hb.w).imp fun σ H Q ⟨F, r, S, p⟩ => tX_bind S p fun x v F1 H1 r1 n1 rx p => by
    subst rx
    cases x with
    | true => exact ⟨F1, r1, n1.sta, p⟩
    | false => exact p.ok n1.sta rfl⟩
theorem w_or {a b : Expr} {rest : List Expr} {pos : Pos} {f g : M Bool} (ha : PT X a (tT G W OX O O1 f)) (hb : PWt X (.BoolOp .Or (b :: rest) pos) (tT G W OX O1 O1 g)) : PWt X (.BoolOp .Or (a :: b :: rest) pos) (tT G W OX O O1 (tOn f g)) :=
  ⟨(pw_or ha hb.w).imp fun σ H Q ⟨F, r, S, p⟩ => tX_bind S p fun x v F1 H1 r1 n1 rx p => by
    subst rx
    cases x with
    | true => exact p.ok n1.sta rfl
    | false => exact ⟨F1, r1, n1.sta, p⟩⟩
theorem t_bo {e : Expr} {t : TT} (h : PWt X e t) : PT X e t := h.w.pt
theorem t_not {a : Expr} {pos : Pos} {f : M Bool} (ha : PT X a (tT G W OX O O1 f)) : PT X (.UnaryOp .Not a pos) (tT G W OX O O1 (tNo f)) :=
  (pt_not ha).imp fun σ H Q ⟨F, r, S, p⟩ => tX_bind S p fun x v F1 H1 r1 n1 rx p => by
    subst rx
    exact p.ok n1.sta rfl
theorem Rep.isN {F : Hp} {x : D} {v : V} (h : Rep G F x v) : decide (v = V.non) = x.isNon := by cases h <;> rfl
theorem e_isN {a : Expr} {j pos pos'} {f : M D} (ha : PE X a (tE G W OX O O1 f)) : PE X (.Compare a [.Is] [.Constant .none j pos'] pos) (tE G W OX O O1 (eIsN f)) :=
  (pe_cmp (pc_isN ha) rfl).imp fun σ H Q ⟨F, r, S, p⟩ => tX_bind S p fun x v F1 H1 r1 n1 rx p => by
    rw [rx.isN]
    exact p.ok n1.sta .bl
theorem a_nil : PA X [] (tA G W OX O O aNil) := pa_nil.imp fun σ H Q ⟨F, r, S, p⟩ => p.ok S .nil
theorem a_cons {e : Expr} {es : List Expr} {f : M D} {g : M (List D)} (ha : PE X e (tE G W OX O O1 f)) (hr : PA X es (tA G W OX O1 O2 g)) (hs : starEach (e :: es) X.env = (false, eval e X.env) :: starEach es X.env := by rfl) :
    PA X (e :: es) (tA G W OX O O2 (aCons f g)) :=
  (pa_cons ha hr hs).imp fun σ H Q ⟨F, r, S, p⟩ => tX_bind S p fun x v F1 H1 r1 n1 rx p => tX_bind n1.sta p fun xs vs F2 H2 r2 n2 rxs p2 =>
    p2.ok n2.sta (.cons (rx.mono n2.stp.fz) rxs)
theorem two {a b : Expr} {f g : M D} {k : D → D → Ev → Out D} (ha : PE X a (tE G W OX O O1 f)) (hb : PE X b (tE G W OX O1 O2 g)) {pins : List (Addr × Obj)} {s : Shared} {σ : L2.St} {F H : Hp} {r : Ev} {Q : VK} (I : Inv X pins σ H s) (S : Sta G O F H σ r)
    (p : Pst G W OX O O2 σ F H (RD G) Q ((f r).bind fun x r1 => (g r1).bind fun y r2 => k x y r2)) {α : Type} {Q' : α → Shared → Prop} {h : Value → Value → Sem α}
    (hf : ∀ (x y : D) (v w : V) (u u' : Value) (s2 : Shared) (F2 H2 : Hp) (r2 : Ev), Inv X pins σ H2 s2 → Sta G O2 F2 H2 σ r2 → Rep G F2 x v → Rep G F2 y w → RelV v u → RelV w u' → Pst G W OX O2 O2 σ F2 H2 (RD G) Q (k x y r2) → wpAny (model X.prog X.w) X.A (h u u') Q' X.xe s2) :
    wpAny (model X.prog X.w) X.A (eval a X.env) (fun v s₁ => wpAny (model X.prog X.w) X.A (eval b X.env) (fun u s₂ => wpAny (model X.prog X.w) X.A (h v u) Q' X.xe s₂) X.xe s₁) X.xe s := by
  refine thn (ha.run pins s σ H (fun v H1 => ∃ x, tE G W OX O1 O2 g σ H1 fun w H2 => ∃ F2 r2 y, Sta G O2 F2 H2 σ r2 ∧ Rep G F2 x v ∧ Rep G F2 y w ∧ Pst G W OX O2 O2 σ F2 H2 (RD G) Q (k x y r2)) I
    (tX_bind S p fun x v F1 H1 r1 n1 rx p => ⟨x, tX_bind n1.sta p fun y w F2 H2 r2 n2 ry p => ⟨F2, r2, y, n2.sta, rx.mono n2.stp.fz, ry, p⟩⟩)) fun u s1 ⟨v, H1, I1, ru, x, q1⟩ => ?_
  refine thn (hb.run pins s1 σ H1 _ I1 q1) fun u' s2 ⟨w, H2, I2, ru', F2, r2, y, S2, rx, ry, p⟩ => ?_
  exact hf x y v w u u' s2 F2 H2 r2 I2 S2 rx ry ru ru' p
theorem e_bin {op : Operator} {a b : Expr} {pos : Pos} {o : D → D → Ev → Out D} {f g : M D} (ho : Op2 G X W OX O2 (binaryOp op) o) (ha : PE X a (tE G W OX O O1 f)) (hb : PE X b (tE G W OX O1 O2 g)) : PE X (.BinOp a op b pos) (tE G W OX O O2 (eB o f g)) :=
  ⟨fun pins s σ H Q I ⟨F, r, S, p⟩ => wpAny_BinOp (two ha hb I S p fun x y v w u u' s2 F2 H2 r2 I2 S2 rx ry ru ru' p => ho pins s2 σ F2 H2 r2 x y v w u u' Q I2 S2 rx ry ru ru' p)⟩
theorem e_cmp {op : CmpOp} {a b : Expr} {pos : Pos} {o : D → D → Ev → Out D} {f g : M D} (ho : Op2 G X W OX O2 (compareOp op) o) (ha : PE X a (tE G W OX O O1 f)) (hb : PE X b (tE G W OX O1 O2 g)) (hm : behindInMarks op b = false := by first | exact nomark _ | rfl) :
    PE X (.Compare a [op] [b] pos) (tE G W OX O O2 (eB o f g)) :=
  ⟨fun pins s σ H Q I ⟨F, r, S, p⟩ => wpAny_Compare1 (two ha hb I S p fun x y v w u u' s2 F2 H2 r2 I2 S2 rx ry ru ru' p => ho pins s2 σ F2 H2 r2 x y v w u u' Q I2 S2 rx ry ru ru' p) hm⟩
theorem e_un {op : UnaryOp} {a : Expr} {pos : Pos} {o : D → Ev → Out D} {f : M D} (ho : Op1 G X W OX O1 (unaryOp op) o) (ha : PE X a (tE G W OX O O1 f)) : PE X (.UnaryOp op a pos) (tE G W OX O O1 (eU o f)) := by
  refine ⟨fun pins s σ H Q I ⟨F, r, S, p⟩ => ?_⟩
  refine UnaryOp_ (thn (ha.run pins s σ H (fun v H1 => ∃ F1 r1 x, Sta G O1 F1 H1 σ r1 ∧ Rep G F1 x v ∧ Pst G W OX O1 O1 σ F1 H1 (RD G) Q (o x r1)) I (tX_bind S p fun x v F1 H1 r1 n1 rx p => ⟨F1, r1, x, n1.sta, rx, p⟩)) fun u s1 ⟨v, H1, I1, ru, F1, r1, x, S1, rx, p⟩ => ?_)
  exact ho pins s1 σ F1 H1 r1 x v u Q I1 S1 rx ru p
end
end Z
namespace Z
open PySem PySem.Spec PyProof.Rows L2
inductive Fl where
  | nx | rt (d : D) | bk | ct
def mkB (n m : Nat) (io : List Nat) (body : M Fl) : Beh := fun ds => if ds.length = n then (match body (ds.map some ++ List.replicate (m - n) none) with
  | .ok .nx r => .ok .non (keepE io n r)
  | .ok (.rt d) r => .ok d (keepE io n r)
  | .ok _ _ => .no
  | .ex e r => .ex e (keepE io n r)
  | .no => .no) else .no
def spB (G : Gm) (n : Nat) (io : List Nat) (B : Beh) : Sp := fun vs H Q E => vs.length = n ∧ ∃ F ds, Sta G io F H (vs.map some) (ds.map some) ∧
  Pst G (fun c dx _ H' => E c dx H') io io io (vs.map some) F H (RD G) Q (B ds)
abbrev FnB (P : Program) (w : World) (G : Gm) (mg : Str → Option Value) (base : Heap) (k : Nat) (f : Addr) (fd : FuncData) (ps : List Str) (n : Nat) (io : List Nat) (B : Beh) : Prop := FnOk P w G.K mg base (L2.CX P w) k f fd ps (spB G n io B)
@[simp] def out1 (o : Out D) (i : Nat) (r : Ev) : Out D := match o with
  | .ok d q => .ok d (r.set i (q.getD 0 none))
  | .ex e q => .ex e (r.set i (q.getD 0 none))
  | .no => .no
section
variable {G : Gm} {X : Cx} {W : WX} {OX O O1 O2 O3 : List Nat}
theorem Sta.args {F H : Hp} {ds : List D} {vs : List V} (sb : Sub F H) (nt : NT F) (wf : Wf G H) (h : RepL G F ds vs) : Sta G [] F H (vs.map some) (ds.map some) where
  sub := sb
  nt := nt
  wf := wf
  len := by rw [List.length_map, List.length_map, h.length]
  rp := fun i d _ e => by
    rw [List.getElem?_map] at e
    cases q : ds[i]? with
    | none => rw [q] at e; cases e
    | some d' =>
      rw [q] at e
      cases e
      obtain ⟨v, e1, h1⟩ := h.get q
      exact ⟨v, by rw [List.getElem?_map, e1]; rfl, h1⟩
  ow := fun i hi => by cases hi
  dj := fun i j a hi => by cases hi
theorem notOwn_nil {σ : L2.St} {a : Addr} : ¬ OwnAt [] σ a := fun ⟨_, h, _⟩ => by cases h
theorem spB_of {σ : L2.St} {F H : Hp} {r : Ev} {ds : List D} {vs : List V} {n : Nat} {B : Beh} {Q : VK} (hx : ∀ i ∈ OX, i ∈ O) (S : Sta G O F H σ r) (h : RepL G F ds vs) (hn : vs.length = n) (p : Pst G W OX O O σ F H (RD G) Q (out0 (B ds) r)) :
    spB G n [] B vs H Q (fun c dx H' => W c dx σ H') := by
  refine ⟨hn, F, ds, Sta.args S.sub S.nt S.wf h, ?_⟩
  have stay : ∀ {F' H' : Hp} {r' : Ev}, Nx G [] [] [] (vs.map some) F H (vs.map some) F' H' r' → Nx G OX O O σ F H σ F' H' r := fun {F' H' r'} n =>
    Nx.of (S.stay (n.stp.weak (Mo1 := fun _ => False) fun x z => absurd z notOwn_nil) n.sta.sub n.sta.nt n.sta.wf.ins fun _ _ z => z) (n.stp.weak fun x z => absurd z notOwn_nil) fun _ h => h
  revert p
  cases B ds with
  | no => exact fun p => p
  | ok d q => exact fun p v F' H' n rd => p v F' H' (stay n) rd
  | ex e q => exact fun p c dx F' H' n x => let ⟨F2, n2, sb⟩ := (stay n).freeze hx; p c dx F2 H' n2 (x.mono sb)
theorem spB_of1 {σ : L2.St} {F H : Hp} {r : Ev} {ds : List D} {vs : List V} {d0 : D} {v0 : V} {i n : Nat} {B : Beh} {Q : VK} (hx : ∀ i ∈ OX, i ∈ O) (S : Sta G O F H σ r) (hi : i ∈ O) (hd : r[i]? = some (some d0)) (hv : σ[i]? = some (some v0))
    (h : RepL G F ds vs) (hn : (v0 :: vs).length = n) (p : Pst G W OX O O σ F H (RD G) Q (out1 (B (d0 :: ds)) i r)) : spB G n [0] B (v0 :: vs) H Q (fun c dx H' => W c dx σ H') := by
  obtain ⟨v0', e0, ow⟩ := S.own_at hi hd
  rw [hv] at e0
  cases e0
  have SA : Sta G [0] F H ((v0 :: vs).map some) ((d0 :: ds).map some) := by
    have A := Sta.args S.sub S.nt S.wf h
    refine ⟨S.sub, S.nt, S.wf, by simp [h.length], fun j d hj e => ?_, fun j hj => ?_, fun j k a hj hk _ _ => ?_⟩
    · cases j with
      | zero => exact absurd (List.mem_singleton.mpr rfl) hj
      | succ j => exact A.rp j d (by simp) (by simpa using e)
    · rw [List.mem_singleton.mp hj]
      exact ⟨d0, v0, rfl, rfl, ow⟩
    · rw [List.mem_singleton.mp hj, List.mem_singleton.mp hk]
  refine ⟨hn, F, d0 :: ds, SA, ?_⟩
  have mo : ∀ x, OwnAt [0] ((v0 :: vs).map some) x → v0 = .ref x ∧ OwnAt O σ x := fun x ⟨j, hj, e⟩ => by
    rw [List.mem_singleton.mp hj] at e
    have e' : v0 = .ref x := by simpa using e
    exact ⟨e', i, hi, by rw [hv, e']⟩
  have stay : ∀ {F' H' : Hp} {r' : Ev}, Nx G [0] [0] [0] ((v0 :: vs).map some) F H ((v0 :: vs).map some) F' H' r' → Nx G OX O O σ F H σ F' H' (r.set i (r'.getD 0 none)) := fun {F' H' r'} n => by
    obtain ⟨d', v', e1, e2, ow'⟩ := n.sta.ow 0 (by simp)
    have ev : v0 = v' := by simpa using e2
    subst ev
    have er : r'.getD 0 none = some d' := by
      rw [List.getD_eq_getElem?_getD, e1] <;> rfl
    rw [er]
    refine Nx.of ⟨n.sta.sub, n.sta.nt, n.sta.wf, by simp [S.len], fun j d hj e => ?_, fun j hj => ?_, S.dj⟩ (n.stp.weak fun x m => (mo x m).2) fun _ h => h
    · have q : i ≠ j := fun z => hj (z ▸ hi)
      rw [List.getElem?_set_ne q] at e
      obtain ⟨v, e', rp⟩ := S.rp j d hj e
      exact ⟨v, e', rp.mono n.stp.fz⟩
    · by_cases q : i = j
      · subst q
        have hl : i < r.length := (List.getElem?_eq_some_iff.mp hd).1
        exact ⟨d', v0, List.getElem?_set_self hl, hv, ow'⟩
      · obtain ⟨dj, vj, e1j, e2j, oj⟩ := S.ow j hj
        refine ⟨dj, vj, by rw [List.getElem?_set_ne q]; exact e1j, e2j, oj.mono n.stp fun a ea m => ?_⟩
        exact q (S.dj i j a hi hj (by rw [hv, (mo a m).1]) (by rw [e2j, ea]))
  revert p
  cases B (d0 :: ds) with
  | no => exact fun p => p
  | ok d q => exact fun p v F' H' n rd => p v F' H' (stay n) rd
  | ex e q => exact fun p c dx F' H' n x => let ⟨F2, n2, sb⟩ := (stay n).freeze hx; p c dx F2 H' n2 (x.mono sb)
theorem funD_code {P : Program} {w : World} {K : PySem.W.Frag} {mg : Str → Option Value} {base : Heap} {x qual : Str} {params : Arguments} {body : List Stmt} {scope : Scope} {dvs : List V} {kws : List (Str × V)} {f : Addr} {fd : FuncData} {CX : CXT} {N ps : List Str} {k : Nat} {sp : Sp} (F : FunD K x qual params body scope dvs kws f fd) (S : FnScope N ps scope)
    (len : ∀ vs H Q E, sp vs H Q E → vs.length = ps.length) (b : ∀ (A : Around) (outer : List PySem.Env) (s : Shared) (H : Hp) (vs : List V) (Q : VK) (E : XK), Room k (A.deeper (envOfC qual scope s.heap.objs.size f fd.code)) → sp vs H Q E →
      ∃ t, PSs (cxOf CX P w K mg base N qual scope f fd.code A outer s H E) body t ∧ t { nx := fun _ H' => Q .non H', rt := Q } (L2.start N vs) H) : FnOk P w K mg base CX (k + 1) f fd ps sp := by
  obtain ⟨oc, od, dV, kV, doc, pm, an, cdv, ct, osl, rfl, lk, hcd, _, _⟩ := F.ex
  exact fn_of lk hcd S len b
theorem fnB {P : Program} {w : World} {mg : Str → Option Value} {base : Heap} {x qual : Str} {params : Arguments} {body : List Stmt} {scope : Scope} {dvs : List V} {kws : List (Str × V)} {f : Addr} {fd : FuncData} {N ps : List Str} {k : Nat} {n m : Nat} {io : List Nat} {b : M Fl}
    (F : FunD G.K x qual params body scope dvs kws f fd) (S : FnScope N ps scope) (hn : ps.length = n) (hm : N.length = m)
    (hb : ∀ (cdv : Value), fd.code = cdv → ∀ (A : Around) (outer : List PySem.Env) (s : Shared) (H : Hp) (E : XK), Room k (A.deeper (envOfC qual scope s.heap.objs.size f cdv)) →
      ∃ t, PSs (cxOf (L2.CX P w) P w G.K mg base N qual scope f cdv A outer s H E) body t ∧ ∀ (F : Hp) (σ : L2.St) (r : Ev) (Q : VK), Sta G io F H σ r → (∀ i ∈ io, i < n) → n ≤ m → σ.length = m →
        Pst G (fun c dx _ H' => E c dx H') io io io (σ.take n) F H (RD G) Q (match b r with
          | .ok .nx r => .ok .non (keepE io n r)
          | .ok (.rt d) r => .ok d (keepE io n r)
          | .ok _ _ => .no
          | .ex e r => .ex e (keepE io n r)
          | .no => .no) → t { nx := fun _ H' => Q .non H', rt := Q } σ H) (hio : ∀ i ∈ io, i < n) : FnB P w G mg base (k + 1) f fd ps n io (mkB n m io b) := by
  refine funD_code F S (fun vs H Q E h => h.1.trans hn.symm) (fun A outer s H vs Q E hr h => ?_)
  obtain ⟨hl, F0, ds, St, p⟩ := h
  obtain ⟨t, ht, hq⟩ := hb fd.code rfl A outer s H E hr
  refine ⟨t, ht, ?_⟩
  have hds : ds.length = n := by
    have := St.len
    rw [List.length_map, List.length_map] at this
    omega
  have hnm : n ≤ m := by
    have h1 := congrArg List.length S.pre
    rw [List.length_take] at h1
    omega
  unfold mkB at p
  rw [if_pos hds] at p
  have hst : L2.start N vs = vs.map some ++ List.replicate (m - n) none := by
    unfold L2.start
    rw [hm, hl]
  refine hq F0 (L2.start N vs) (ds.map some ++ List.replicate (m - n) none) Q ?_ hio hnm (by rw [hst]; simp; omega) ?_
  · rw [hst]
    have nn : ∀ (j : Nat), n ≤ j → ∀ x : D, (ds.map some ++ List.replicate (m - n) (none : Option D))[j]? ≠ some (some x) := fun j hj x e => by
      rw [List.getElem?_append_right (by simp; omega)] at e
      have := List.mem_of_getElem? e
      rw [List.mem_replicate] at this
      cases this.2
    refine ⟨St.sub, St.nt, St.wf, by simp [hds, hl], fun i d hi e => ?_, fun i hi => ?_, fun i j a hi hj ei ej => ?_⟩
    · have hlt : i < n := Nat.lt_of_not_le fun z => nn i z d e
      rw [List.getElem?_append_left (by simp; omega)] at e ⊢
      exact St.rp i d hi e
    · have hlt := hio i hi
      rw [List.getElem?_append_left (by simp; omega), List.getElem?_append_left (by simp; omega)]
      exact St.ow i hi
    · rw [List.getElem?_append_left (by have := hio i hi; simp; omega)] at ei
      rw [List.getElem?_append_left (by have := hio j hj; simp; omega)] at ej
      exact St.dj i j a hi hj ei ej
  · rw [hst, List.take_left' (by simp [hl])]
    exact p
end
end Z
namespace Z
open PySem PySem.Spec PyProof.Rows L2
def PstS (G : Gm) (W : WX) (OX OL O O' : List Nat) (σ : L2.St) (F H : Hp) (Dn : Ends) : Out Fl → Prop
  | .ok .nx r' => ∀ σ' F' H', Nx G OX O O' σ F H σ' F' H' r' → Dn.nx σ' H'
  | .ok (.rt d) r' => ∀ v σ' F' H', Nx G OX O OX σ F H σ' F' H' r' → Rep G F' d v → Dn.rt v H'
  | .ok .bk r' => ∀ σ' F' H', Nx G OX O OL σ F H σ' F' H' r' → Dn.bk σ' H'
  | .ok .ct r' => ∀ σ' F' H', Nx G OX O OL σ F H σ' F' H' r' → Dn.ct σ' H'
  | .ex e r' => ∀ c dx σ' F' H', Nx G OX O OX σ F H σ' F' H' r' → XRep G F' e c dx → W c dx σ' H'
  | .no => False
def tS (G : Gm) (W : WX) (OX OL O O' : List Nat) (f : M Fl) : TS := fun Dn σ H => ∃ F r, Sta G O F H σ r ∧ PstS G W OX OL O O' σ F H Dn (f r)
@[simp] def sNil : M Fl := fun r => .ok .nx r
@[simp] def sSeq (f g : M Fl) : M Fl := fun r => match f r with
  | .ok .nx r1 => g r1
  | .ok c r1 => .ok c r1
  | .ex e r1 => .ex e r1
  | .no => .no
@[simp] def sAs (i : Nat) (f : M D) : M Fl := fun r => (f r).bind fun d r1 => .ok .nx (r1.set i (some d))
@[simp] def sRet (f : M D) : M Fl := fun r => (f r).bind fun d r1 => .ok (.rt d) r1
@[simp] def sEx (f : M D) : M Fl := fun r => (f r).bind fun _ r1 => .ok .nx r1
@[simp] def sIf (t : M Bool) (f g : M Fl) : M Fl := fun r => (t r).bind fun b r1 => if b then f r1 else g r1
@[simp] def sNo : M Fl := fun _ => .no
section
variable {G : Gm} {X : Cx} {W : WX} {OX OL O O1 O2 O3 : List Nat}
theorem PstS.after {σ σ1 : L2.St} {F H F1 H1 : Hp} {r1 : Ev} {Dn : Ends} {o : Out Fl} (n1 : Nx G OX O O1 σ F H σ1 F1 H1 r1) (p : PstS G W OX OL O O2 σ F H Dn o) : PstS G W OX OL O1 O2 σ1 F1 H1 Dn o := by
  revert p
  cases o with
  | no => exact fun p => p
  | ex e r' => exact fun p c dx σ' F' H' n x => p c dx σ' F' H' (n1.trans n) x
  | ok a r' =>
    cases a with
    | nx => exact fun p σ' F' H' n => p σ' F' H' (n1.trans n)
    | rt d => exact fun p v σ' F' H' n x => p v σ' F' H' (n1.trans n) x
    | bk => exact fun p σ' F' H' n => p σ' F' H' (n1.trans n)
    | ct => exact fun p σ' F' H' n => p σ' F' H' (n1.trans n)
theorem tS_bind {α β : Type} {σ : L2.St} {F H : Hp} {r : Ev} {Rl : Hp → Hp → α → β → Prop} {f : M α} {k : α → M Fl} {Q : β → Hp → Prop} {Dn : Ends} (S : Sta G O F H σ r) (p : PstS G W OX OL O O2 σ F H Dn ((f r).bind k))
    (hk : ∀ (a : α) (b : β) (F1 H1 : Hp) (r1 : Ev), Nx G OX O O1 σ F H σ F1 H1 r1 → Rl F1 H1 a b → PstS G W OX OL O1 O2 σ F1 H1 Dn (k a r1) → Q b H1) : tX G W OX O O1 Rl f σ H Q := by
  refine ⟨F, r, S, ?_⟩
  revert p
  cases f r with
  | no => exact fun p => p
  | ex e r' => exact fun p c dx F' H' n x => p c dx σ F' H' n x
  | ok a r1 => exact fun p b F1 H1 n1 rl => hk a b F1 H1 r1 n1 rl (PstS.after n1 p)
theorem s_nil : PSs X [] (tS G W OX OL O O sNil) := pss_nil.imp fun Dn σ H ⟨F, r, S, p⟩ => p σ F H (Nx.rfl' S)
theorem PSeq {st : List Stmt} {f g : M Fl} {Dn : Ends} {σ : L2.St} {H : Hp} (h : tS G W OX OL O O2 (sSeq f g) Dn σ H) : tS G W OX OL O O1 f { Dn with nx := fun σ' H' => tS G W OX OL O1 O2 g Dn σ' H' } σ H := by
  obtain ⟨F, r, S, p⟩ := h
  refine ⟨F, r, S, ?_⟩
  simp only [sSeq] at p
  revert p
  cases f r with
  | no => exact fun p => p
  | ex e r' => exact fun p => p
  | ok a r1 =>
    cases a with
    | nx => exact fun p σ' F' H' n => ⟨F', r1, n.sta, PstS.after n p⟩
    | rt d => exact fun p => p
    | bk => exact fun p => p
    | ct => exact fun p => p
theorem s_cons {st : Stmt} {rest : List Stmt} {f g : M Fl} (h1 : PS X st (tS G W OX OL O O1 f)) (h2 : PSs X rest (tS G W OX OL O1 O2 g)) : PSs X (st :: rest) (tS G W OX OL O O2 (sSeq f g)) :=
  (pss_cons h1 h2).imp fun Dn σ H h => PSeq (st := rest) h
theorem s_one {st : Stmt} {f : M Fl} (h1 : PS X st (tS G W OX OL O O1 f)) : PSs X [st] (tS G W OX OL O O1 f) := pss_one h1
theorem s_no {st : Stmt} : PS X st (tS G W OX OL O O1 sNo) := ps_never.imp fun Dn σ H ⟨F, r, S, p⟩ => p
theorem s_set {x : Str} {e : Expr} {pos pos' : Pos} {f : M D} (i : Nat) (he : PE X e (tE G W OX O O1 f)) (hx : i ∉ OX := by decide) (hN : X.N.Nodup := by first | assumption | decide +kernel) (hi : X.N[i]? = some x := by rfl) (hl : Loc X.env.scope x := by first | exact Or.inl rfl | exact Or.inr rfl)
    (hs : swapsWith e (some (.Name x pos')) pos.line X.env = pure false := by rfl) (hf : X.fn x = true ∨ X.env.scope.names.lookup x = some .local := by first | exact .inl rfl | exact .inr rfl | assumption) :
    PS X (.Assign [.Name x pos'] e pos) (tS G W OX OL O (O1.filter (· != i)) (sAs i f)) :=
  (ps_set hN hi hl he hs hf).imp fun Dn σ H ⟨F, r, S, p⟩ => tS_bind S p fun d v F1 H1 r1 n1 rd p => by
    refine p _ F1 H1 ⟨n1.sta.set i rd, .rfl', fun j hj => ?_, fun a m => ?_⟩
    · exact List.getElem?_set_ne (fun z : i = j => hx (by rw [z]; exact hj))
    · obtain ⟨j, hj, e⟩ := m
      obtain ⟨h1, h2⟩ := List.mem_filter.mp hj
      have q : i ≠ j := fun z => by simp [z] at h2
      rw [List.getElem?_set_ne q] at e
      exact .inl ⟨j, h1, e⟩
theorem s_ret {e : Expr} {pos : Pos} {f : M D} (he : PE X e (tE G W OX O O1 f)) (hx : ∀ i ∈ OX, i ∈ O1 := by decide) : PS X (.Return (some e) pos) (tS G W OX OL O O2 (sRet f)) :=
  (ps_ret he).imp fun Dn σ H ⟨F, r, S, p⟩ => tS_bind S p fun d v F1 H1 r1 n1 rd p => by
    obtain ⟨F2, n2, sb⟩ := (Nx.rfl' (OX := OX) n1.sta).freeze hx
    exact p v σ F2 H1 n2 (rd.mono sb)
theorem s_expr {e : Expr} {pos : Pos} {f : M D} (he : PE X e (tE G W OX O O1 f)) (hs : swapsWith e none pos.line X.env = pure false := by rfl) : PS X (.Expr e pos) (tS G W OX OL O O1 (sEx f)) :=
  (ps_expr he hs).imp fun Dn σ H ⟨F, r, S, p⟩ => tS_bind S p fun d v F1 H1 r1 n1 rd p => p σ F1 H1 (Nx.rfl' n1.sta)
theorem s_if {c : Expr} {a b : List Stmt} {pos : Pos} {t : M Bool} {f g : M Fl} (hc : PT X c (tT G W OX O O1 t)) (ha : PSs X a (tS G W OX OL O1 O2 f)) (hb : PSs X b (tS G W OX OL O1 O2 g)) : PS X (.If c a b pos) (tS G W OX OL O O2 (sIf t f g)) :=
  (ps_if hc ha hb).imp fun Dn σ H ⟨F, r, S, p⟩ => tS_bind S p fun d v F1 H1 r1 n1 rd p => by
    subst rd
    cases d with
    | true => exact ⟨F1, r1, n1.sta, p⟩
    | false => exact ⟨F1, r1, n1.sta, p⟩
theorem Nx.cut {io : List Nat} {σ σ' : L2.St} {F H F' H' : Hp} {r' : Ev} {n : Nat} (h : Nx G io io io σ F H σ' F' H' r') (hio : ∀ i ∈ io, i < n) (hn : n ≤ σ.length) :
    Nx G io io io (σ.take n) F H (σ.take n) F' H' (keepE io n r') := by
  have at_ : ∀ i ∈ io, (σ.take n)[i]? = σ'[i]? := fun i hi => by rw [List.getElem?_take_of_lt (hio i hi), h.kp i hi]
  have kat : ∀ i, i < n → (keepE io n r')[i]? = some (if io.contains i then r'.getD i none else none) := fun i hi => by
    unfold keepE
    rw [List.getElem?_map, List.getElem?_range hi]
    rfl
  refine ⟨⟨h.sta.sub, h.sta.nt, h.sta.wf, by unfold keepE; simp; omega, fun i d hi e => ?_, fun i hi => ?_, fun i j a hi hj ei ej => ?_⟩, h.stp.weak fun x ⟨i, hi, e⟩ => ⟨i, hi, ?_⟩, fun _ _ => rfl, fun _ m => .inl m⟩
  · by_cases hlt : i < n
    · rw [kat i hlt] at e
      have hc : io.contains i = false := by simpa using hi
      rw [hc] at e
      cases e
    · rw [List.getElem?_eq_none (by unfold keepE; simp; omega)] at e
      cases e
  · obtain ⟨d, v, e1, e2, o⟩ := h.sta.ow i hi
    refine ⟨d, v, ?_, by rw [at_ i hi]; exact e2, o⟩
    rw [kat i (hio i hi), if_pos (by simpa using hi), List.getD_eq_getElem?_getD, e1]
    rfl
  · rw [at_ i hi] at ei
    rw [at_ j hj] at ej
    exact h.sta.dj i j a hi hj ei ej
  · rw [List.getElem?_take_of_lt (hio i hi)]
    exact e
theorem def_ok {P : Program} {w : World} {mg : Str → Option Value} {base : Heap} {x qual : Str} {params : Arguments} {body : List Stmt} {scope : Scope} {dvs : List V} {kws : List (Str × V)} {f : Addr} {fd : FuncData} {N ps : List Str} {k : Nat} {n m : Nat} {io : List Nat} {b : M Fl} {O' : List Nat}
    (F : FunD G.K x qual params body scope dvs kws f fd) (S : FnScope N ps scope) (hb : ∀ (cdv : Value) (A : Around) (outer : List PySem.Env) (s : Shared) (H : Hp) (E : XK), Room k (cxOf (L2.CX P w) P w G.K mg base N qual scope f cdv A outer s H E).A →
      Takes (cxOf (L2.CX P w) P w G.K mg base N qual scope f cdv A outer s H E) (fun cls d _ H => E cls d H) →
      PSs (cxOf (L2.CX P w) P w G.K mg base N qual scope f cdv A outer s H E) body (tS G (fun cls d _ H => E cls d H) io [] io O' b)) (hn : ps.length = n := by rfl) (hm : N.length = m := by rfl) (hio : ∀ i ∈ io, i < n := by decide) (hO : ∀ i ∈ io, i ∈ O' := by decide) :
    FnB P w G mg base (k + 1) f fd ps n io (mkB n m io b) := by
  refine fnB F S hn hm (fun cdv _ A outer s H E hr => ⟨_, hb cdv A outer s H E hr (takes_of rfl rfl rfl rfl), fun F0 σ r Q St _ hnm hl p => ⟨F0, r, St, ?_⟩⟩) hio
  have hnl : n ≤ σ.length := by omega
  revert p
  cases b r with
  | no => exact fun p => p
  | ex e r' => exact fun p c dx σ' F' H' n' x => p c dx F' H' (n'.cut hio hnl) x
  | ok a r' =>
    cases a with
    | nx =>
      intro p σ' F' H' n'
      obtain ⟨F2, n2, sb⟩ := n'.freeze hO
      exact p .non F2 H' (n2.cut hio hnl) .non
    | rt d => exact fun p v σ' F' H' n' rd => p v F' H' (n'.cut hio hnl) rd
    | bk => exact fun p => p.elim
    | ct => exact fun p => p.elim
end
end Z
namespace Z
open PySem PySem.Spec PyProof.Rows L2
def wd (n : Nat) (i : Int) : Bool := decide (i.natAbs.log2 < n)
theorem wd_of {n k : Nat} {i : Int} (h : i.natAbs < 2 ^ k) (h0 : 0 < k) (hk : k ≤ n) : wd n i = true := decide_eq_true (Nat.lt_of_lt_of_le (PySem.Flt.log2_lt_of h0 h) hk)
def mulB (i j : Int) : Bool := wd 60 i || wd 60 j || (wd 400000 i && wd 400000 j)
theorem mulB_ok {i j : Int} (h : mulB i j = true) : IntMulOk i j := by
  have b : ∀ x : Int, wd 60 x = true → Builtin.Int.intBits x ≤ 64 := fun x hx => by
    have := of_decide_eq_true hx
    unfold Builtin.Int.intBits
    split <;> omega
  unfold mulB at h
  simp only [Bool.or_eq_true, Bool.and_eq_true] at h
  rcases h with (h | h) | ⟨h1, h2⟩
  · exact .of_left (b i h)
  · exact .of_right (b j h)
  · have h1 := of_decide_eq_true h1
    have h2 := of_decide_eq_true h2
    exact CMulW.ok (by unfold CMulW; omega)
theorem op_mulZ {X : Cx} : OpR X (binaryOp .Mult) (rI (fun i j => mulB i j = true) fun i j => .int (i * j)) := opI fun _ _ _ _ _ _ _ hc q => mul_int q (mulB_ok hc)
def big : Nat := 16000000
theorem big_line {n : Nat} (h : n ≤ big) : n ≤ sizeLine := by rw [sizeLine_eq]; unfold big at h; omega
def pAdd : D → D → Option D
  | .int i, .int j => some (.int (i + j))
  | .str a, .str b => if a.length + b.length ≤ big then some (.str (a ++ b)) else none
  | .lst l, .lst m => if l.length + m.length ≤ big then some (.lst (l ++ m)) else none
  | .tup (x :: l), .tup m => if l.length + 1 + m.length ≤ big then some (.tup (x :: l ++ m)) else none
  | _, _ => none
def pSub : D → D → Option D
  | .int i, .int j => some (.int (i - j))
  | _, _ => none
def pMul : D → D → Option D
  | .int i, .int j => if mulB i j then some (.int (i * j)) else none
  | .lst l, .int k => if k ≤ big ∧ l.length * k.toNat ≤ big ∧ -big ≤ k then some (.lst (List.replicate k.toNat l).flatten) else none
  | _, _ => none
def pDiv : D → D → Option D
  | .int i, .int j => if wd 8000 j && !decide (j = 0) then some (.int (i.fdiv j)) else none
  | _, _ => none
def pMod : D → D → Option D
  | .int i, .int j => if j = 0 then none else some (.int (i.fmod j))
  | _, _ => none
def pPow : D → D → Option D
  | .int i, .int j => if 0 ≤ j ∧ j ≤ 1000000 ∧ i.natAbs < 2 ^ 64 then some (.int (i ^ j.toNat)) else none
  | _, _ => none
def pLt : D → D → Option D
  | .int i, .int j => some (.bl (decide (i < j)))
  | .str a, .str b => some (.bl (decide (a.cps.toList < b.cps.toList)))
  | _, _ => none
def pLe : D → D → Option D
  | .int i, .int j => some (.bl (decide (i ≤ j)))
  | _, _ => none
def pGt : D → D → Option D
  | .int i, .int j => some (.bl (decide (j < i)))
  | _, _ => none
def pGe : D → D → Option D
  | .int i, .int j => some (.bl (decide (j ≤ i)))
  | _, _ => none
def pNeg : D → Option D
  | .int i => some (.int (-i))
  | _ => none
mutual
/-- plain data: no dicts, no objects -/
def toP : D → Option PyData
  | .non => some .none
  | .bl b => some (.bool b)
  | .int i => some (.int i)
  | .str x => some (.str x)
  | .tup l => (toPs l).map .tuple
  | .lst l => (toPs l).map .list
  | .kl l => (toPs l).map .list
  | _ => none
def toPs : List D → Option (List PyData)
  | [] => some []
  | d :: l => (toP d).bind fun p => (toPs l).map fun ps => p :: ps
end
def pEqB (x y : D) : Option Bool := match toP x, toP y with
  | some d, some e => if SeqAt.shaped d && SeqAt.shaped e then some (PyData.eqv d e) else none
  | _, _ => none
def pEq (x y : D) : Option D := (pEqB x y).map .bl
def pNe (x y : D) : Option D := (pEqB x y).map fun b => .bl (!b)
def toV : D → Option V
  | .non => some .non
  | .bl b => some (.bl b)
  | .int i => some (.int i)
  | .str x => some (.str x)
  | _ => none
def toVs : List D → Option (List V)
  | [] => some []
  | d :: l => (toV d).bind fun v => (toVs l).map fun vs => v :: vs
def itemsOf : D → Option (List D)
  | .lst l => some l
  | .tup l => some l
  | .kl l => some l
  | _ => none
def pInB (x y : D) : Option Bool := match x, y with
  | .str a, .str b => if a.cps.size = 1 then some (decide (a.cps.getD 0 0 ∈ b.cps.toList)) else none
  | x, y => (itemsOf y).bind fun l => (toVs l).bind fun vs => (toV x).map fun v => inV v vs
def pIn (x y : D) : Option D := (pInB x y).map .bl
def pNotIn (x y : D) : Option D := (pInB x y).map fun b => .bl (!b)
@[simp] def oP (p : D → D → Option D) : D → D → Ev → Out D := fun x y r => liftO (p x y) r
@[simp] def oU (p : D → Option D) : D → Ev → Out D := fun x r => liftO (p x) r
@[simp] def eN (p : List D → Option D) (f : M (List D)) : M D := fun r => (f r).bind fun ds r1 => liftO (p ds) r1
section
variable {G : Gm} {X : Cx} {W : WX} {OX OL O O1 O2 O3 : List Nat}
theorem opP {f : Value → Value → Sem Value} {p : D → D → Option D} {h : R2} (ho : OpR X f h)
    (hp : ∀ (σ : L2.St) (F H : Hp) (r : Ev) (x y d : D) (v w : V) (Q : VK), Sta G O F H σ r → Rep G F x v → Rep G F y w → p x y = some d → Pst G W OX O O σ F H (RD G) Q (.ok d r) → h v w H Q) : Op2 G X W OX O f (oP p) :=
  Op2.of ho fun σ F H r x y v w Q S rx ry q => by
    revert q
    unfold oP
    cases e : p x y with
    | none => exact fun q => q.elim
    | some d => exact fun q => hp σ F H r x y d v w Q S rx ry e q
theorem op1P {f : Value → Sem Value} {p : D → Option D} {h : V → Hp → VK → Prop} (ho : UnR X f h)
    (hp : ∀ (σ : L2.St) (F H : Hp) (r : Ev) (x d : D) (v : V) (Q : VK), Sta G O F H σ r → Rep G F x v → p x = some d → Pst G W OX O O σ F H (RD G) Q (.ok d r) → h v H Q) : Op1 G X W OX O f (oU p) :=
  Op1.of ho fun σ F H r x v Q S rx q => by
    revert q
    unfold oU
    cases e : p x with
    | none => exact fun q => q.elim
    | some d => exact fun q => hp σ F H r x d v Q S rx e q
theorem o_add (hK : X.K = G.K := by rfl) : Op2 G X W OX O (binaryOp .Add) (oP pAdd) :=
  opP (((op_add.or op_add_str).or op_cat).or op_catT) fun σ F H r x y d v w Q S rx ry e q => by
    unfold pAdd at e
    split at e
    · cases rx; cases ry; cases e
      exact .inl (.inl (.inl ⟨_, _, rfl, rfl, q.ok S .int⟩))
    · split at e
      · rename_i hz
        cases rx; cases ry; cases e
        exact .inl (.inl (.inr ⟨_, _, rfl, rfl, big_line hz, q.ok S .str⟩))
      · cases e
    · split at e
      · rename_i hz
        cases e
        cases rx with
        | lst h1 r1 =>
          cases ry with
          | lst h2 r2 =>
            obtain ⟨o1, e1, g1⟩ := S.sub _ _ h1
            obtain ⟨o2, e2, g2⟩ := S.sub _ _ h2
            rw [g1.lst] at e1
            rw [g2.lst] at e2
            refine .inl (.inr ⟨_, _, _, _, rfl, rfl, e1, e2, by rw [← r1.length, ← r2.length]; exact big_line hz, fun p hp => ?_⟩)
            exact q.fz S hp rfl fun F' hF sb => .lst hF ((r1.mono sb).app (r2.mono sb))
      · cases e
    · split at e
      · rename_i hz
        cases e
        cases rx with
        | tup h1 r1 =>
          cases ry with
          | @tup m b ys h2 r2 =>
            refine .inr ?_
            rw [hK]
            refine ⟨_, _, _, _, rfl, rfl, S.sub.sqT h1, S.sub.sqT h2, fun z => (by rw [z] at r1; cases r1), by rw [← r1.length, ← r2.length]; exact big_line hz, fun z => ?_, fun _ p hp => ?_⟩
            · subst z
              cases r2
              exact q.ok S (by rw [List.append_nil]; exact .tup h1 r1)
            · exact q.fz S hp rfl fun F' hF sb => .tup (.inl (.inl hF)) ((r1.mono sb).app (r2.mono sb))
      · cases e
    · cases e
theorem o_sub : Op2 G X W OX O (binaryOp .Sub) (oP pSub) :=
  opP op_sub fun σ F H r x y d v w Q S rx ry e q => by
    unfold pSub at e
    split at e
    · cases rx; cases ry; cases e
      exact ⟨_, _, rfl, rfl, q.ok S .int⟩
    · cases e
theorem RepL.rep {F : Hp} {l : List D} {xs : List V} (h : RepL G F l xs) : ∀ n : Nat, RepL G F (List.replicate n l).flatten (List.replicate n xs).flatten
  | 0 => .nil
  | n + 1 => by
    rw [List.replicate_succ, List.replicate_succ, List.flatten_cons, List.flatten_cons]
    exact h.app (RepL.rep h n)
theorem o_mul : Op2 G X W OX O (binaryOp .Mult) (oP pMul) :=
  opP (op_mulZ.or op_rep) fun σ F H r x y d v w Q S rx ry e q => by
    unfold pMul at e
    split at e
    · split at e
      · rename_i hw
        cases rx; cases ry; cases e
        exact .inl ⟨_, _, rfl, rfl, hw, q.ok S .int⟩
      · cases e
    · split at e
      · rename_i hz
        obtain ⟨z1, z2, z3⟩ := hz
        cases e
        cases rx with
        | lst h1 r1 =>
          cases ry
          obtain ⟨o1, e1, g1⟩ := S.sub _ _ h1
          rw [g1.lst] at e1
          refine .inr ⟨_, _, _, rfl, rfl, e1, by unfold big at z3; omega, by unfold big at z1; omega, by rw [← r1.length]; exact big_line z2, fun p hp => ?_⟩
          exact q.fz S hp rfl fun F' hF sb => .lst hF ((r1.mono sb).rep _)
      · cases e
    · cases e
theorem op_fdivZ : OpR X (binaryOp .FloorDiv) (rI (fun _ j => j ≠ 0 ∧ j.natAbs.log2 < 9000) fun i j => .int (i.fdiv j)) := opI fun _ _ _ _ _ _ _ hc q => floordiv_int hc.1 q (.inl (PyProof.noPylong_of_log2 hc.2))
theorem o_div : Op2 G X W OX O (binaryOp .FloorDiv) (oP pDiv) :=
  opP op_fdivZ fun σ F H r x y d v w Q S rx ry e q => by
    unfold pDiv at e
    split at e
    · split at e
      · rename_i hw
        cases rx; cases ry; cases e
        obtain ⟨h1, h2⟩ := Bool.and_eq_true_iff.mp hw
        have h1 := of_decide_eq_true h1
        exact ⟨_, _, rfl, rfl, ⟨by simpa using h2, by omega⟩, q.ok S .int⟩
      · cases e
    · cases e
theorem o_mod : Op2 G X W OX O (binaryOp .Mod) (oP pMod) :=
  opP op_modN fun σ F H r x y d v w Q S rx ry e q => by
    unfold pMod at e
    split at e
    · split at e
      · cases e
      · rename_i hw
        cases rx; cases ry; cases e
        exact ⟨_, _, rfl, rfl, hw, q.ok S .int⟩
    · cases e
theorem o_pow : Op2 G X W OX O (binaryOp .Pow) (oP pPow) :=
  opP op_pow fun σ F H r x y d v w Q S rx ry e q => by
    unfold pPow at e
    split at e
    · split at e
      · rename_i hw
        cases rx; cases ry; cases e
        exact ⟨_, _, rfl, rfl, hw, q.ok S .int⟩
      · cases e
    · cases e
theorem o_lt : Op2 G X W OX O (compareOp .Lt) (oP pLt) :=
  opP (op_lt.or op_lt_str) fun σ F H r x y d v w Q S rx ry e q => by
    unfold pLt at e
    split at e
    · cases rx; cases ry; cases e
      exact .inl ⟨_, _, rfl, rfl, q.ok S .bl⟩
    · cases rx; cases ry; cases e
      exact .inr ⟨_, _, rfl, rfl, q.ok S .bl⟩
    · cases e
theorem o_le : Op2 G X W OX O (compareOp .LtE) (oP pLe) :=
  opP op_le fun σ F H r x y d v w Q S rx ry e q => by
    unfold pLe at e
    split at e
    · cases rx; cases ry; cases e
      exact ⟨_, _, rfl, rfl, q.ok S .bl⟩
    · cases e
theorem o_gt : Op2 G X W OX O (compareOp .Gt) (oP pGt) :=
  opP op_gt fun σ F H r x y d v w Q S rx ry e q => by
    unfold pGt at e
    split at e
    · cases rx; cases ry; cases e
      exact ⟨_, _, rfl, rfl, q.ok S .bl⟩
    · cases e
theorem o_ge : Op2 G X W OX O (compareOp .GtE) (oP pGe) :=
  opP op_ge fun σ F H r x y d v w Q S rx ry e q => by
    unfold pGe at e
    split at e
    · cases rx; cases ry; cases e
      exact ⟨_, _, rfl, rfl, q.ok S .bl⟩
    · cases e
theorem o_neg : Op1 G X W OX O (unaryOp .USub) (oU pNeg) :=
  op1P un_neg fun σ F H r x d v Q S rx e q => by
    unfold pNeg at e
    split at e
    · cases rx; cases e
      exact ⟨_, rfl, q.ok S .int⟩
    · cases e
mutual
theorem Rep.dp {F H : Hp} (sb : Sub F H) : ∀ {x : D} {v : V} {d : PyData}, Rep G F x v → toP x = some d → Dp G.K H v d
  | _, _, _, .non, e => by cases e; exact .non
  | _, _, _, .bl, e => by cases e; exact .bl _
  | _, _, _, .int, e => by cases e; exact .int _
  | _, _, _, .str, e => by cases e; exact .str _
  | _, _, _, .tup h r, e => by
    rw [toP] at e
    obtain ⟨ds, e1, e2⟩ := Option.map_eq_some_iff.mp e
    subst e2
    exact .tup (sb.sqT h) (RepL.dp sb r e1)
  | _, _, _, .lst h r, e => by
    rw [toP] at e
    obtain ⟨ds, e1, e2⟩ := Option.map_eq_some_iff.mp e
    subst e2
    obtain ⟨o', e', g⟩ := sb _ _ h
    rw [g.lst] at e'
    exact .lst (.inl (.inl e')) (RepL.dp sb r e1)
  | _, _, _, .kl h r, e => by
    rw [toP] at e
    obtain ⟨ds, e1, e2⟩ := Option.map_eq_some_iff.mp e
    subst e2
    exact .lst (sb.sqL h) (RepL.dp sb r e1)
  | _, _, _, .dic _ _ _, e => by cases e
  | _, _, _, .dkl _ _ _, e => by cases e
  | _, _, _, .ftp _ _ _, e => by cases e
  | _, _, _, .ob _ _ _, e => by cases e
theorem RepL.dp {F H : Hp} (sb : Sub F H) : ∀ {l : List D} {vs : List V} {ds : List PyData}, RepL G F l vs → toPs l = some ds → DpAll G.K H vs ds
  | _, _, _, .nil, e => by cases e; exact .nil
  | _, _, _, .cons h t, e => by
    rw [toPs] at e
    obtain ⟨p, e1, e2⟩ := Option.bind_eq_some_iff.mp e
    obtain ⟨ps, e3, e4⟩ := Option.map_eq_some_iff.mp e2
    subst e4
    exact .cons (Rep.dp sb h e1) (RepL.dp sb t e3)
end
theorem pEqB_dp {F H : Hp} {x y : D} {v w : V} {b : Bool} (sb : Sub F H) (rx : Rep G F x v) (ry : Rep G F y w) (e : pEqB x y = some b) : ∃ d e, Dp G.K H v d ∧ Dp G.K H w e ∧ SeqAt.shaped d = true ∧ SeqAt.shaped e = true ∧ b = PyData.eqv d e := by
  unfold pEqB at e
  split at e
  · rename_i d1 d2 e1 e2
    split at e
    · rename_i hs
      cases e
      obtain ⟨h1, h2⟩ := Bool.and_eq_true_iff.mp hs
      exact ⟨d1, d2, rx.dp sb e1, ry.dp sb e2, h1, h2, rfl⟩
    · cases e
  · cases e
theorem o_eq {k : Nat} (hr : Room k X.A) (hK : X.K = G.K := by rfl) : Op2 G X W OX O (compareOp .Eq) (oP pEq) :=
  opP (op_eqD hr.units) fun σ F H r x y d v w Q S rx ry e q => by
    obtain ⟨b, e1, e2⟩ := Option.map_eq_some_iff.mp e
    subst e2
    obtain ⟨d1, d2, h1, h2, h3, h4, rfl⟩ := pEqB_dp S.sub rx ry e1
    rw [hK]
    exact ⟨d1, d2, h1, h2, h3, h4, q.ok S .bl⟩
theorem o_ne {k : Nat} (hr : Room k X.A) (hK : X.K = G.K := by rfl) : Op2 G X W OX O (compareOp .NotEq) (oP pNe) :=
  opP (op_neD hr.units) fun σ F H r x y d v w Q S rx ry e q => by
    obtain ⟨b, e1, e2⟩ := Option.map_eq_some_iff.mp e
    subst e2
    obtain ⟨d1, d2, h1, h2, h3, h4, rfl⟩ := pEqB_dp S.sub rx ry e1
    rw [hK]
    exact ⟨d1, d2, h1, h2, h3, h4, q.ok S .bl⟩
theorem Rep.flat {F : Hp} {x : D} {v u : V} (h : Rep G F x v) (e : toV x = some u) : u = v ∧ flatV v = true := by
  cases h <;> cases e <;> exact ⟨rfl, rfl⟩
theorem RepL.flat {F : Hp} : ∀ {l : List D} {vs us : List V}, RepL G F l vs → toVs l = some us → us = vs ∧ vs.all flatV = true
  | _, _, _, .nil, e => by cases e; exact ⟨rfl, rfl⟩
  | _, _, _, .cons h t, e => by
    rw [toVs] at e
    obtain ⟨p, e1, e2⟩ := Option.bind_eq_some_iff.mp e
    obtain ⟨ps, e3, e4⟩ := Option.map_eq_some_iff.mp e2
    subst e4
    obtain ⟨q1, q2⟩ := h.flat e1
    obtain ⟨q3, q4⟩ := t.flat e3
    subst q1 q3
    exact ⟨rfl, by rw [List.all_cons, q2, q4]; rfl⟩
theorem Rep.items {F H : Hp} {x : D} {v : V} {l : List D} (sb : Sub F H) (h : Rep G F x v) (e : itemsOf x = some l) : ∃ a xs, v = .ref a ∧ (SqL G.K H a xs ∨ SqT G.K H a xs) ∧ RepL G F l xs := by
  cases h with
  | tup h r => cases e; exact ⟨_, _, rfl, .inr (sb.sqT h), r⟩
  | lst h r =>
    cases e
    obtain ⟨o', e', g⟩ := sb _ _ h
    rw [g.lst] at e'
    exact ⟨_, _, rfl, .inl (.inl (.inl e')), r⟩
  | kl h r => cases e; exact ⟨_, _, rfl, .inl (sb.sqL h), r⟩
  | _ => cases e
theorem sign_of {a : Str} (h : a.cps.size = 1) : a = ⟨#[a.cps.getD 0 0]⟩ := by
  obtain ⟨⟨l⟩⟩ := a
  cases l with
  | nil => cases h
  | cons c t =>
    cases t with
    | nil => rfl
    | cons _ _ => simp at h
theorem pInB_sq {F H : Hp} {x y : D} {v w : V} {b : Bool} (sb : Sub F H) (rx : Rep G F x v) (ry : Rep G F y w) (e : pInB x y = some b) :
    (∃ c z, v = .str ⟨#[c]⟩ ∧ w = .str z ∧ b = decide (c ∈ z.cps.toList)) ∨ (∃ p xs, w = .ref p ∧ (SqL G.K H p xs ∨ SqT G.K H p xs) ∧ flatV v = true ∧ xs.all flatV = true ∧ b = inV v xs) := by
  unfold pInB at e
  split at e
  · split at e
    · rename_i h
      cases e
      cases rx
      cases ry
      exact .inl ⟨_, _, congrArg V.str (sign_of h), rfl, rfl⟩
    · cases e
  · obtain ⟨l, e1, e2⟩ := Option.bind_eq_some_iff.mp e
    obtain ⟨vs, e3, e4⟩ := Option.bind_eq_some_iff.mp e2
    obtain ⟨u, e5, e6⟩ := Option.map_eq_some_iff.mp e4
    obtain ⟨a, xs, rfl, hq, rl⟩ := ry.items sb e1
    obtain ⟨q1, q2⟩ := rl.flat e3
    obtain ⟨q3, q4⟩ := rx.flat e5
    subst q1 q3 e6
    exact .inr ⟨a, _, rfl, hq, q4, q2, rfl⟩
theorem o_in (hK : X.K = G.K := by rfl) : Op2 G X W OX O (compareOp .In) (oP pIn) :=
  opP (op_in_sign.or op_in_seq) fun σ F H r x y d v w Q S rx ry e q => by
    obtain ⟨b, e1, e2⟩ := Option.map_eq_some_iff.mp e
    subst e2
    rcases pInB_sq S.sub rx ry e1 with ⟨c, z, rfl, rfl, rfl⟩ | ⟨p, xs, rfl, h1, h2, h3, rfl⟩
    · exact .inl ⟨c, z, rfl, rfl, q.ok S .bl⟩
    · exact .inr ⟨p, xs, rfl, by rw [hK]; exact h1, h2, h3, q.ok S .bl⟩
theorem o_notIn (hK : X.K = G.K := by rfl) : Op2 G X W OX O (compareOp .NotIn) (oP pNotIn) :=
  opP (op_notIn_sign.or op_notIn_seq) fun σ F H r x y d v w Q S rx ry e q => by
    obtain ⟨b, e1, e2⟩ := Option.map_eq_some_iff.mp e
    subst e2
    rcases pInB_sq S.sub rx ry e1 with ⟨c, z, rfl, rfl, rfl⟩ | ⟨p, xs, rfl, h1, h2, h3, rfl⟩
    · exact .inl ⟨c, z, rfl, rfl, q.ok S .bl⟩
    · exact .inr ⟨p, xs, rfl, by rw [hK]; exact h1, h2, h3, q.ok S .bl⟩
end
end Z
namespace Z
open PySem PySem.Spec PyProof.Rows L2
@[simp] def okLen (l : List D) : Bool := decide (l.length ≤ big)
@[simp] def pTup (l : List D) : Option D := if okLen l then some (.tup l) else none
@[simp] def pLst (l : List D) : Option D := if okLen l then some (.lst l) else none
def pIx : D → D → Option D
  | .tup l, .int i => atI l i
  | .lst l, .int i => atI l i
  | .kl l, .int i => atI l i
  | .str z, .int i => if z.length ≤ big then (atI z.cps.toList i).map fun c => .str ⟨#[c]⟩ else none
  | _, _ => none
def cutD (xs : List D) (lo hi : Option Int) : List D := (xs.drop (HT.sIx xs.length 0 lo)).take (HT.sIx xs.length xs.length hi - HT.sIx xs.length 0 lo)
def pSl (x : D) (lo hi : Option Int) : Option D := match x with
  | .lst l => some (.lst (cutD l lo hi))
  | .kl l => some (.lst (cutD l lo hi))
  | .tup l => if HT.sIx l.length 0 lo = 0 ∧ HT.sIx l.length l.length hi = l.length then none else some (.tup (cutD l lo hi))
  | _ => none
@[simp] def iNo : M (Option Int) := fun r => .ok none r
@[simp] def iSo (f : M D) : M (Option Int) := fun r => (f r).bind fun x r1 => match x with
  | .int i => .ok (some i) r1
  | _ => .no
@[simp] def eSl (f : M D) (lo hi : M (Option Int)) : M D := fun r => (f r).bind fun x r1 => (lo r1).bind fun l r2 => (hi r2).bind fun h r3 => liftO (pSl x l h) r3
@[simp] def eFl (tb : List (Nat × Nat)) (f : M D) : M D := fun r => (f r).bind fun x r1 => match x with
  | .ob c l => (match tb.lookup c with
    | some i => liftO l[i]? r1
    | none => .no)
  | _ => .no
@[simp] def okOut (o : Out D) (r : Ev) : Out D := match o with
  | .ok d _ => .ok d r
  | _ => .no
@[simp] def ePr (tb : List (Nat × Beh)) (f : M D) : M D := fun r => (f r).bind fun x r1 => match x with
  | .ob c l => (match tb.lookup c with
    | some B => okOut (B [.ob c l]) r1
    | none => .no)
  | _ => .no
@[simp] def outN (o : Out D) (r : Ev) : Out D := match o with
  | .ok .non q => (match q[0]? with
    | some (some d) => .ok d r
    | _ => .no)
  | .ex e _ => .ex e r
  | _ => .no
section
variable {G : Gm} {X : Cx} {W : WX} {OX OL O O1 O2 O3 : List Nat}
theorem Pst.lift {σ : L2.St} {F H : Hp} {r : Ev} {o : Option D} {Q : VK} (q : Pst G W OX O O σ F H (RD G) Q (liftO o r)) : ∃ d, o = some d ∧ Pst G W OX O O σ F H (RD G) Q (.ok d r) := by
  cases o with
  | none => exact q.elim
  | some d => exact ⟨d, rfl, q⟩
theorem e_tup {es : List Expr} {x1 pos} {f : M (List D)} (h : PA X es (tA G W OX O O1 f)) : PE X (.Tuple es x1 pos) (tE G W OX O O1 (eN pTup f)) :=
  (pe_tup h).imp fun σ H Q ⟨F, r, S, p⟩ => tX_bind S p fun ds vs F1 H1 r1 n1 rs p => by
    obtain ⟨d, e, q⟩ := p.lift
    unfold pTup at e
    by_cases hz : okLen ds = true
    · rw [if_pos hz] at e
      cases e
      refine ⟨big_line (by have := rs.length; have := of_decide_eq_true hz; omega), fun p hp => q.fz n1.sta hp rfl fun F' hF sb => .tup (.inl (.inl hF)) (rs.mono sb)⟩
    · rw [if_neg hz] at e
      cases e
theorem e_lst {es : List Expr} {pos} {f : M (List D)} (h : PA X es (tA G W OX O O1 f)) : PE X (.List es pos) (tE G W OX O O1 (eN pLst f)) :=
  (pe_lst h).imp fun σ H Q ⟨F, r, S, p⟩ => tX_bind S p fun ds vs F1 H1 r1 n1 rs p => by
    obtain ⟨d, e, q⟩ := p.lift
    unfold pLst at e
    by_cases hz : okLen ds = true
    · rw [if_pos hz] at e
      cases e
      refine ⟨big_line (by have := rs.length; have := of_decide_eq_true hz; omega), fun p hp => q.fz n1.sta hp rfl fun F' hF sb => .lst hF (rs.mono sb)⟩
    · rw [if_neg hz] at e
      cases e
theorem RepL.atI {F : Hp} {l : List D} {xs : List V} {i : Int} {d : D} (h : RepL G F l xs) (e : atI l i = some d) : ∃ v, L2.atI xs i = some v ∧ Rep G F d v := by
  unfold L2.atI at e ⊢
  rw [← h.length]
  obtain ⟨j, e1, e2⟩ := Option.bind_eq_some_iff.mp e
  obtain ⟨v, e3, rv⟩ := h.get e2
  exact ⟨v, by rw [e1]; exact e3, rv⟩
theorem e_ix {a b : Expr} {pos : Pos} {f g : M D} (ha : PE X a (tE G W OX O O1 f)) (hb : PE X b (tE G W OX O1 O2 g)) (hs : PlainIx b := by intro _ _; rfl) (hK : X.K = G.K := by rfl) : PE X (.Subscript a b pos) (tE G W OX O O2 (eB (oP pIx) f g)) :=
  (pe_ix ix_seq ha hb hs).imp fun σ H Q ⟨F, r, S, p⟩ => tX_bind S p fun x v F1 H1 r1 n1 rx p => tX_bind n1.sta p fun y w F2 H2 r2 n2 ry p => by
    obtain ⟨d, e, q⟩ := p.lift
    have rx := rx.mono n2.stp.fz
    have sb := n2.sta.sub
    unfold pIx at e
    unfold rIx
    rw [hK]
    split at e
    · cases rx with
      | tup h r =>
        cases ry
        obtain ⟨u, e1, ru⟩ := r.atI e
        exact .inr (.inl ⟨_, _, _, u, rfl, rfl, sb.sqT h, e1, q.ok n2.sta ru⟩)
    · cases rx with
      | lst h r =>
        cases ry
        obtain ⟨u, e1, ru⟩ := r.atI e
        obtain ⟨o', e', g⟩ := sb _ _ h
        rw [g.lst] at e'
        exact .inl ⟨_, _, _, u, rfl, rfl, .inl (.inl e'), e1, q.ok n2.sta ru⟩
    · cases rx with
      | kl h r =>
        cases ry
        obtain ⟨u, e1, ru⟩ := r.atI e
        exact .inl ⟨_, _, _, u, rfl, rfl, sb.sqL h, e1, q.ok n2.sta ru⟩
    · split at e
      · rename_i hz
        cases rx
        cases ry
        obtain ⟨c, e1, e2⟩ := Option.map_eq_some_iff.mp e
        subst e2
        exact .inr (.inr ⟨_, _, c, rfl, rfl, big_line hz, e1, q.ok n2.sta .str⟩)
      · cases e
    · cases e
@[simp] def eIxO (i : Nat) (g : M D) : M D := fun r => (g r).bind fun y r1 => match r1[i]? with
  | some (some x) => liftO (pIx x y) r1
  | _ => .no
theorem e_ixO {x : Str} {b : Expr} {pos pos' : Pos} {g : M D} (i : Nat) (hb : PE X b (tE G W OX O O1 g)) (hi : i ∈ O1 := by decide) (hs : PlainIx b := by intro _ _; rfl) (hN : X.N[i]? = some x := by rfl)
    (hv : Vis X.env.scope x := by first | exact Or.inl rfl | exact Or.inr (Or.inl rfl) | exact Or.inr (Or.inr rfl)) (hO : i ∈ O := by decide) (hd : (x == ("__debug__" : Str)) = false := by decide) (hcd : (x == ("__classdict__" : Str)) = false := by decide) : PE X (.Subscript (.Name x pos') b pos) (tE G W OX O O1 (eIxO i g)) :=
  (pe_ix ix_list (pe_var hN hv hd hcd) hb hs).imp fun σ H Q ⟨F, r, S, p⟩ => by
    obtain ⟨d0, v0, e1, e2, o0⟩ := S.ow i hO
    refine ⟨v0, e2, tX_bind S p fun y w F1 H1 r1 n1 ry p => ?_⟩
    revert p
    split
    · rename_i x e
      intro p
      obtain ⟨d, e3, q⟩ := p.lift
      obtain ⟨v, e4, o⟩ := n1.sta.own_at hi e
      rw [e2] at e4
      cases e4
      cases o with
      | lst h hf r =>
        cases ry with
        | int =>
          obtain ⟨u, e5, ru⟩ := r.atI e3
          exact ⟨_, _, _, u, rfl, rfl, .inl (.inl h), e5, q.ok n1.sta ru⟩
        | _ => cases e3
      | _ => cases ry <;> cases e3
    · exact fun p => p.elim
abbrev tI (G : Gm) (W : WX) (OX O O' : List Nat) (f : M (Option Int)) : L2.St → Hp → (Option Int → Hp → Prop) → Prop := tX G W OX O O' (fun _ _ (a b : Option Int) => a = b) f
theorem _root_.L2.PO.imp {X : Cx} {e : Option Expr} {t t' : TO} (h : PO X e t) (i : ∀ σ H Q, t' σ H Q → t σ H Q) : PO X e t' := ⟨fun pins s σ H Q I q => h.run pins s σ H Q I (i σ H Q q)⟩
theorem i_no : PO X none (tI G W OX O O iNo) := po_none.imp fun σ H Q ⟨F, r, S, p⟩ => p none F H (Nx.rfl' S) rfl
theorem i_so {e : Expr} {f : M D} (h : PE X e (tE G W OX O O1 f)) : PO X (some e) (tI G W OX O O1 (iSo f)) :=
  (po_some h).imp fun σ H Q ⟨F, r, S, p⟩ => tX_bind S p fun x v F1 H1 r1 n1 rx p => by
    cases rx with
    | int => exact ⟨_, rfl, p _ F1 H1 (Nx.rfl' n1.sta) rfl⟩
    | _ => exact p.elim
theorem RepL.cut {F : Hp} {l : List D} {xs : List V} (h : RepL G F l xs) (lo hi : Option Int) : RepL G F (cutD l lo hi) (cutV xs lo hi) := by
  unfold cutD cutV
  rw [h.length]
  exact (h.drop _).take _
theorem e_sl {e : Expr} {lo hi : Option Expr} {p2 pos : Pos} {f : M D} {l h : M (Option Int)} (he : PE X e (tE G W OX O O1 f)) (hl : PO X lo (tI G W OX O1 O2 l)) (hh : PO X hi (tI G W OX O2 O3 h)) (hK : X.K = G.K := by rfl) :
    PE X (.Subscript e (.Slice lo hi none p2) pos) (tE G W OX O O3 (eSl f l h)) :=
  (pe_slice (sl_list.or sl_tup) he hl hh).imp fun σ H Q ⟨F, r, S, p⟩ => tX_bind S p fun x v F1 H1 r1 n1 rx p => tX_bind n1.sta p fun lo lo' F2 H2 r2 n2 el p => tX_bind n2.sta p fun hi hi' F3 H3 r3 n3 eh p => by
    subst el eh
    obtain ⟨d, e, q⟩ := p.lift
    have rx := rx.mono (n2.stp.fz.trans n3.stp.fz)
    have sb := n3.sta.sub
    unfold pSl at e
    unfold rSlL rSlT
    rw [hK]
    split at e
    · cases e
      cases rx with
      | lst h r =>
        obtain ⟨o', e', g⟩ := sb _ _ h
        rw [g.lst] at e'
        exact .inl ⟨_, _, rfl, .inl (.inl e'), fun p hp => q.fz n3.sta hp rfl fun F' hF sb' => .lst hF ((r.mono sb').cut _ _)⟩
    · cases e
      cases rx with
      | kl h r => exact .inl ⟨_, _, rfl, sb.sqL h, fun p hp => q.fz n3.sta hp rfl fun F' hF sb' => .lst hF ((r.mono sb').cut _ _)⟩
    · split at e
      · cases e
      · rename_i hw
        cases e
        cases rx with
        | tup h r => exact .inr ⟨_, _, rfl, sb.sqT h, by rw [← r.length]; exact hw, fun p hp => q.fz n3.sta hp rfl fun F' hF sb' => .tup (.inl (.inl hF)) ((r.mono sb').cut _ _)⟩
    · cases e
structure ClsOk (G : Gm) (c : Nat) : Prop where
  cl : Cls G.K (G.cA c)
  nd : (G.lay c).Nodup
  sub : ∀ f ∈ G.lay c, f ∈ G.flds
  na : ∀ f ∈ G.lay c, NoAttr G.K (G.cA c) f
  few : (G.lay c).length ≤ 900
theorem zip_lookup : ∀ {lay : List Str} {xs : List V} {i : Nat} {f : Str} {v : V} (more : List (Str × V)), lay.Nodup → lay[i]? = some f → xs[i]? = some v → (lay.zip xs ++ more).lookup f = some v
  | [], _, _, _, _, _, _, e, _ => by simp at e
  | _ :: _, [], _, _, _, _, _, _, e => by simp at e
  | a :: lay, x :: xs, 0, f, v, more, nd, e1, e2 => by
    simp at e1 e2
    subst e1 e2
    simp
  | a :: lay, x :: xs, i + 1, f, v, more, nd, e1, e2 => by
    have h1 : lay[i]? = some f := by simpa using e1
    have h2 : xs[i]? = some v := by simpa using e2
    have hne : f ≠ a := fun z => (List.nodup_cons.mp nd).1 (by rw [← z]; exact List.mem_of_getElem? h1)
    rw [List.zip_cons_cons, List.cons_append, List.lookup_cons, show (f == a) = false by simp [hne]]
    exact zip_lookup more (List.nodup_cons.mp nd).2 h1 h2
theorem Rep.field {F H : Hp} {c i : Nat} {l : List D} {v : V} {d : D} {f : Str} (sb : Sub F H) (h : Rep G F (.ob c l) v) (co : ClsOk G c) (hf : (G.lay c)[i]? = some f) (e : l[i]? = some d) :
    ∃ a dx fs u, v = .ref a ∧ H a = some (.ins (G.cA c) dx fs) ∧ fs.lookup f = some u ∧ Rep G F d u := by
  cases h with
  | @ob _ _ a dx xs more h hl r =>
    obtain ⟨o', e', g⟩ := sb _ _ h
    obtain ⟨m, eo⟩ := g.ins
    subst eo
    obtain ⟨u, e1, ru⟩ := r.get e
    exact ⟨a, dx, _, u, rfl, e', by rw [List.append_assoc]; exact zip_lookup _ co.nd hf e1, ru⟩
theorem e_fl {e : Expr} {f : Str} {pos : Pos} {g : M D} (tb : List (Nat × Nat)) (he : PE X e (tE G W OX O O1 g)) (ht : ∀ c i, tb.lookup c = some i → ClsOk G c ∧ (G.lay c)[i]? = some f) (hb : attributeBase e f X.env (eval e X.env) = eval e X.env := by rfl) (hK : X.K = G.K := by rfl) :
    PE X (.Attribute e f pos) (tE G W OX O O1 (eFl tb g)) :=
  (pe_fld he hb).imp fun σ H Q ⟨F, r, S, p⟩ => tX_bind S p fun x v F1 H1 r1 n1 rx p => by
    cases rx with
    | @ob c l a dx xs more h hl rr =>
      revert p
      simp only
      cases e1 : tb.lookup c with
      | none => exact fun p => p.elim
      | some i =>
        intro p
        obtain ⟨d, e2, q⟩ := Pst.lift p
        obtain ⟨co, hf⟩ := ht c i e1
        obtain ⟨a', dx', fs, u, ev, e3, e4, ru⟩ := Rep.field n1.sta.sub (.ob h hl rr) co hf e2
        rw [hK]
        exact ⟨a', _, dx', fs, u, ev, e3, co.cl, co.na f (List.mem_of_getElem? hf), e4, q.ok n1.sta ru⟩
    | _ => exact p.elim
structure PrOk (G : Gm) (P : Program) (w : World) (mg : Str → Option Value) (base : Heap) (k : Nat) (c : Nat) (f : Str) (B : Beh) : Prop where
  cl : Cls G.K (G.cA c)
  pr : ∃ p g fd ps, PropOf G.K (G.cA c) f p g ∧ FnB P w G mg base k g fd ps 1 [] B ∧ Binds G.K fd ps []
theorem e_pr {e : Expr} {f : Str} {pos : Pos} {g : M D} {k : Nat} (tb : List (Nat × Beh)) (hr : Room (k + 1) X.A) (he : PE X e (tE G W OX O O1 g)) (ht : ∀ c B, tb.lookup c = some B → PrOk G X.prog X.w X.mg X.base k c f B)
    (hb : attributeBase e f X.env (eval e X.env) = eval e X.env := by rfl) (hK : X.K = G.K := by rfl) : PE X (.Attribute e f pos) (tE G W OX O O1 (ePr tb g)) := by
  refine ⟨fun pins s σ H Q I ⟨F, r, S, p⟩ => ?_⟩
  refine attr_of hb (thn (he.run pins s σ H (fun v H1 => ∃ x F1 r1, Sta G O1 F1 H1 σ r1 ∧ Rep G F1 x v ∧ Pst G W OX O1 O1 σ F1 H1 (RD G) Q (match (motive := D → Out D) x with
    | .ob c l => (match tb.lookup c with
      | some B => okOut (B [.ob c l]) r1
      | none => .no)
    | _ => .no)) I (tX_bind S p fun x v F1 H1 r1 n1 rx p => ⟨x, F1, r1, n1.sta, rx, p⟩)) fun u s1 ⟨v, H1, I1, ru, x, F1, r1, S1, rx, p⟩ => ?_)
  cases rx with
  | @ob c l a dx xs more h hl rr =>
    revert p
    simp only
    cases e1 : tb.lookup c with
    | none => exact fun p => p.elim
    | some B =>
      intro p
      have p : Pst G W OX O1 O1 σ F1 H1 (RD G) Q (okOut (B [.ob c l]) r1) := p
      obtain ⟨cl, pp, gg, fd, ps, hp, Fk, hbd⟩ := ht c B e1
      obtain ⟨o', e', gr⟩ := S1.sub _ _ h
      obtain ⟨m, eo⟩ := gr.ins
      subst eo
      obtain rfl : u = Value.ref a := ru
      have Fk' : FnOk X.prog X.w X.K X.mg X.base (L2.CX X.prog X.w) k gg fd ps (spB G 1 [] B) := by rw [hK]; exact Fk
      have hp' : PropOf X.K (G.cA c) f pp gg := by rw [hK]; exact hp
      refine getprop_ok I1 e' (by rw [hK]; exact cl) hp' Fk' hr (by rw [hK]; exact hbd) .nil (E := fun _ _ _ => False) (fun _ _ _ _ _ _ _ ⟨_, _, _, _, _, _, _, _, _, _, _, _, z⟩ => z.elim) ?_
      have sp := spB_of (W := fun _ _ _ _ => False) (OX := []) (σ := σ) (r := r1) (O := O1) (B := B) (ds := [.ob c l]) (vs := [.ref a]) (Q := Q) (n := 1) (fun _ z => nomatch z) S1 (.cons (.ob h hl rr) .nil) rfl ?_
      · exact sp
      · revert p
        cases B [.ob c l] with
        | ok d q => exact fun p v' F' H' n rd => p v' F' H' ⟨n.sta, n.stp, fun _ _ => rfl, n.pv⟩ rd
        | ex e q => exact fun p => p.elim
        | no => exact fun p => p.elim
  | _ => exact p.elim
structure GlOk (G : Gm) (P : Program) (w : World) (mg : Str → Option Value) (base : Heap) (k : Nat) (x : Str) (n : Nat) (io : List Nat) (B : Beh) (f : Addr) (fd : FuncData) (ps : List Str) : Prop where
  at_ : mg x = some (.ref f)
  kp : PySem.W.keepIn G.K (.ref f) = true
  fn : FnB P w G mg base k f fd ps n io B
  ar : ∀ ds, ds.length ≠ n → B ds = .no
theorem ar_of {n m : Nat} {io : List Nat} {b : M Fl} : ∀ ds, ds.length ≠ n → mkB n m io b ds = .no := fun ds h => if_neg h
theorem len_of {σ : L2.St} {F H : Hp} {r : Ev} {n : Nat} {B : Beh} {ds : List D} {vs : List V} {Q : VK} (ar : ∀ ds, ds.length ≠ n → B ds = .no) (rs : RepL G F ds vs) (p : Pst G W OX O O σ F H (RD G) Q (out0 (B ds) r)) : vs.length = n := by
  by_cases h : ds.length = n
  · rw [← rs.length, h]
  · rw [ar ds h] at p
    exact p.elim
theorem run_B {k : Nat} {f : Addr} {fd : FuncData} {ps : List Str} {n : Nat} {io : List Nat} {B : Beh} {pins : List (Addr × Obj)} {σ : L2.St} {H : Hp} {s : Shared} {Q : VK} {us ds : List Value} {vs dvs : List V} (tk : Takes X W) (F : FnOk X.prog X.w X.K X.mg X.base (L2.CX X.prog X.w) k f fd ps (spB G n io B))
    (hr : Room k X.A) (hb : Binds X.K fd ps ds) (hd : Vals dvs ds) (I : Inv X pins σ H s) (r : Vals vs us) (h : spB G n io B (vs ++ dvs) H Q (fun c dx H' => W c dx σ H')) : wpAny (model X.prog X.w) X.A (call (.ref f) us) (EP X pins σ Q) X.xe s :=
  run_fnSD (E := WE W) F hr hb hd (passAt tk σ) I r h
@[simp] def eCd (B : Beh) (dd : List D) (f : M (List D)) : M D := fun r => (f r).bind fun ds r1 => out0 (B (ds ++ dd)) r1
theorem e_call {x : Str} {p pos : Pos} {e : Expr} {es : List Expr} {k n : Nat} {B : Beh} {f : Addr} {fd : FuncData} {ps : List Str} {g : M (List D)} {ds : List Value} {dvs : List V} {dd : List D} (tk : Takes X W) (hr : Room k X.A) (gl : GlOk G X.prog X.w X.mg X.base k x n [] B f fd ps)
    (hb : Binds G.K fd ps ds) (hd : Vals dvs ds) (hdd : ∀ F, RepL G F dd dvs) (ha : PA X (e :: es) (tA G W OX O O1 g)) (hx : ∀ i ∈ OX, i ∈ O1 := by decide) (hg : Gl X x := by rfl) (hK : X.K = G.K := by rfl) (hdb : (x == ("__debug__" : Str)) = false := by decide)
    (he : starEach (e :: es) X.env = (false, eval e X.env) :: starEach es X.env := by rfl) (hpl : (backTo pos (starEach es X.env)).any (·.1) = false := by rfl) : PE X (.Call (.Name x p) (e :: es) [] pos) (tE G W OX O O1 (eCd B dd g)) := by
  refine ⟨fun pins s σ H Q I ⟨F, r, S, p⟩ => ?_⟩
  refine wpAny_Call_Name_kw (ld_glob I hg gl.at_ ?_ hdb)
  refine PySem.W.callWith_K (h₀ := X.base) I.ok.mod.kin (by rw [hK]; exact gl.kp) (thn (ha.run pos pins s σ H (fun vs H1 => ∃ ds F1 r1, Sta G O1 F1 H1 σ r1 ∧ RepL G F1 ds vs ∧ Pst G W OX O1 O1 σ F1 H1 (RD G) Q (out0 (B (ds ++ dd)) r1)) I
    (tX_bind S p fun ds vs F1 H1 r1 n1 rs p => ⟨ds, F1, r1, n1.sta, rs, p⟩)) fun us s1 ⟨vs, H1, I1, rv, ds, F1, r1, S1, rs, p⟩ => ⟨I1.kIn, ?_⟩) he hpl
  have Fk : FnOk X.prog X.w X.K X.mg X.base (L2.CX X.prog X.w) k f fd ps (spB G n [] B) := by rw [hK]; exact gl.fn
  exact run_B tk Fk hr (by rw [hK]; exact hb) hd I1 rv (spB_of hx S1 (rs.more hdd) (len_of gl.ar (rs.more hdd) p) p)
end
end Z
namespace Z
open PySem PySem.Spec PyProof.Rows L2
def permL {α : Type} (o : List Nat) (l : List α) : List α := o.filterMap fun i => l[i]?
@[simp] def eCk (B : Beh) (n m : Nat) (o : List Nat) (dd : List D) (f g : M (List D)) : M D := fun r => (f r).bind fun ds r1 => (g r1).bind fun zs r2 => if ds.length = n ∧ zs.length = m then out0 (B (permL o (ds ++ zs ++ dd))) r2 else .no
@[simp] def eNd (c : Nat) (B : Beh) (dd : List D) (f : M (List D)) : M D := fun r => (f r).bind fun ds r1 => outN (B (.ob c [] :: (ds ++ dd))) r1
@[simp] def onMt (tb : List (Nat × Beh)) (x : D) (k : Beh → Out D) : Out D := match x with
  | .ob c fs => (match tb.lookup c with
    | some B => k fun l => B (.ob c fs :: l)
    | none => .no)
  | _ => .no
@[simp] def eMd (tb : List (Nat × Beh)) (dd : List D) (f : M D) (g : M (List D)) : M D := fun r => (f r).bind fun x r1 => onMt tb x fun B => (g r1).bind fun ds r2 => out0 (B (ds ++ dd)) r2
@[simp] def eCo (B : Beh) (i : Nat) (f : M (List D)) : M D := fun r => (f r).bind fun ds r1 => match r1[i]? with
  | some (some d0) => out1 (B (d0 :: ds)) i r1
  | _ => .no
section
variable {G : Gm} {X : Cx} {W : WX} {OX OL O O1 O2 O3 : List Nat}
theorem RepL.perm {F : Hp} {l : List D} {xs : List V} (h : RepL G F l xs) : ∀ o : List Nat, RepL G F (permL o l) (permL o xs)
  | [] => .nil
  | i :: o => by
    unfold permL
    rw [List.filterMap_cons, List.filterMap_cons]
    cases e : l[i]? with
    | none =>
      have : xs[i]? = none := by
        rw [List.getElem?_eq_none_iff] at e ⊢
        rw [← h.length]
        exact e
      rw [this]
      exact RepL.perm h o
    | some d =>
      obtain ⟨v, e1, r1⟩ := h.get e
      rw [e1]
      exact .cons r1 (RepL.perm h o)
theorem Vals.perm {l : List V} {xs : List Value} (h : Vals l xs) : ∀ o : List Nat, Vals (permL o l) (permL o xs)
  | [] => .nil
  | i :: o => by
    unfold permL
    rw [List.filterMap_cons, List.filterMap_cons]
    cases e : l[i]? with
    | none =>
      rw [L2.Vals.none_of h e]
      exact Vals.perm h o
    | some d =>
      obtain ⟨v, e1, r1⟩ := L2.Vals.get h e
      rw [e1]
      exact .cons r1 (Vals.perm h o)
def BindK (K : PySem.W.Frag) (fd : FuncData) (ps : List Str) (n : Nat) (ks : List Str) (o : List Nat) (ds : List Value) : Prop :=
  ∀ (s : Shared) (us ws : List Value), K.In s.heap → us.length = n → ws.length = ks.length → BindsTo s fd ⟨us, ks.zip ws⟩ (ps.zip (permL o (us ++ ws ++ ds)))
theorem k_nil : PK X [] (tA G W OX O O aNil) := ⟨fun pos pins s σ H Q I ⟨F, r, S, p⟩ => pk_nil.run pos pins s σ H Q I (p.ok S .nil)⟩
theorem k_cons {e : Expr} {kws : List Keyword} {nm : Option Str} {kpos : Pos} {f : M D} {g : M (List D)} (ha : PE X e (tE G W OX O O1 f)) (hr : PK X kws (tA G W OX O1 O2 g)) : PK X (⟨nm, e, kpos⟩ :: kws) (tA G W OX O O2 (aCons f g)) :=
  ⟨fun pos pins s σ H Q I ⟨F, r, S, p⟩ => (pk_cons ha hr).run pos pins s σ H Q I (tX_bind S p fun x v F1 H1 r1 n1 rx p => tX_bind n1.sta p fun xs vs F2 H2 r2 n2 rxs p2 => p2.ok n2.sta (.cons (rx.mono n2.stp.fz) rxs))⟩
theorem run_Bk {k : Nat} {f : Addr} {fd : FuncData} {ps : List Str} {n : Nat} {io : List Nat} {B : Beh} {pins : List (Addr × Obj)} {σ : L2.St} {H : Hp} {s : Shared} {Q : VK} {us us' : List Value} {kw : List (Str × Value)} {vs : List V} (tk : Takes X W)
    (F : FnOk X.prog X.w X.K X.mg X.base (L2.CX X.prog X.w) k f fd ps (spB G n io B)) (hr : Room k X.A) (bt : BindsTo s fd ⟨us, kw⟩ (ps.zip us')) (I : Inv X pins σ H s) (r : Vals vs us') (h : spB G n io B vs H Q (fun c dx H' => W c dx σ H')) :
    wpAny (model X.prog X.w) X.A (call (.ref f) us kw) (EP X pins σ Q) X.xe s := by
  have run := F.run X.A X.stack s H ⟨us, kw⟩ us' vs Q (fun c dx H' => W c dx σ H') hr I.env0 bt r h
  refine wpAny_call (codeAny_mono run fun res s' back => ?_)
  match res, back with
  | .error er, back => exact passAt tk σ pins H s er s' I back
  | .ok (.ret u), back => exact I.after back
  | .ok .next, back => exact back.elim
  | .ok .brk, back => exact back.elim
  | .ok .cont, back => exact back.elim
theorem run_Nk {k c : Nat} {f : Addr} {fd : FuncData} {ps : List Str} {n : Nat} {B : Beh} {pins : List (Addr × Obj)} {σ : L2.St} {F H : Hp} {r : Ev} {s : Shared} {Q : VK} {us us' : List Value} {kw : List (Str × Value)} {vs : List V} {ds : List D} (tk : Takes X W)
    (F1 : FnOk X.prog X.w X.K X.mg X.base (L2.CX X.prog X.w) k f fd ps (spB G n [0] B)) (hr : Room (k + 1) X.A) (Mc : Mk X.K (G.cA c) f) (him : G.imm c = true)
    (bt : ∀ (s : Shared) (x : Value), X.K.In s.heap → BindsTo s fd ⟨x :: us, kw⟩ (ps.zip (x :: us'))) (I : Inv X pins σ H s) (S : Sta G O F H σ r) (rv : Vals vs us') (rs : RepL G F ds vs) (ar : ∀ ds, ds.length ≠ n → B ds = .no) (hx : ∀ i ∈ OX, i ∈ O)
    (p : Pst G W OX O O σ F H (RD G) Q (outN (B (.ob c [] :: ds)) r)) : wpAny (model X.prog X.w) X.A (call (.ref (G.cA c)) us kw) (EP X pins σ Q) X.xe s := by
  have hn : (V.ref 0 :: vs).length = n := by
    by_cases h : (D.ob c [] :: ds).length = n
    · rw [← h, List.length_cons, List.length_cons, rs.length]
    · rw [ar _ h] at p
      exact p.elim
  -- the new instance
  have nx : H (s.heap.objs.size + 1) = none := I.hok.fresh (Nat.le_succ _)
  have nd : H s.heap.objs.size = none := I.hok.fresh (Nat.le_refl _)
  have ne : s.heap.objs.size + 1 ≠ s.heap.objs.size := Nat.succ_ne_self _
  have I2 := Inv.made (C := G.cA c) I
  generalize hxa : s.heap.objs.size + 1 = x at nx ne I2
  generalize hda : s.heap.objs.size = dx at nd ne I2
  have fx : F x = none := by
    cases q : F x with
    | none => rfl
    | some u =>
      obtain ⟨o', e, _⟩ := S.sub x u q
      rw [nx] at e
      cases e
  have hH : ∀ {a : Addr} {o : HO}, H a = some o → upd (upd H dx (.own x)) x (.ins (G.cA c) dx []) a = some o := fun {a o} e => by
    rw [upd_ne (ne_of_none e nx), upd_ne (ne_of_none e nd)]
    exact e
  have sb : Sub F (upd (upd H dx (.own x)) x (.ins (G.cA c) dx [])) := fun a o e => by
    obtain ⟨o', e', g⟩ := S.sub a o e
    exact ⟨o', hH e', g⟩
  have wf : Wf G (upd (upd H dx (.own x)) x (.ins (G.cA c) dx [])) := ⟨fun a C d fs g e hf => by
    by_cases q : a = x
    · rw [q, upd_same] at e
      cases e
      exact absurd rfl hf
    · rw [upd_ne q] at e
      exact (S.wf.upd rfl) a C d fs g e hf, fun p hp => (S.wf.tab p hp).ext fun b o e => hH e⟩
  have SA : Sta G [0] F (upd (upd H dx (.own x)) x (.ins (G.cA c) dx [])) ((V.ref x :: vs).map some) ((D.ob c [] :: ds).map some) := by
    have A := Sta.args (H := upd (upd H dx (.own x)) x (.ins (G.cA c) dx [])) sb S.nt wf rs
    refine ⟨sb, S.nt, wf, by simp [rs.length], fun j d hj e => ?_, fun j hj => ?_, fun j k a hj hk _ _ => ?_⟩
    · cases j with
      | zero => exact absurd (List.mem_singleton.mpr rfl) hj
      | succ j => exact A.rp j d (by simp) (by simpa using e)
    · rw [List.mem_singleton.mp hj]
      exact ⟨.ob c [], .ref x, rfl, rfl, .ob (xs := []) (dx := dx) (by rw [List.zip_nil_right]; exact upd_same) (.inl fx) (Nat.zero_le _) .nil⟩
    · rw [List.mem_singleton.mp hj, List.mem_singleton.mp hk]
  have mo : ∀ a, OwnAt [0] ((V.ref x :: vs).map some) a → a = x := fun a ⟨j, hj, e⟩ => by
    rw [List.mem_singleton.mp hj] at e
    have e' : V.ref x = V.ref a := by simpa using e
    injection e' with e''
    exact e''.symm
  have st0 : ∀ {F' H' : Hp} {q : Ev}, Nx G [0] [0] [0] ((V.ref x :: vs).map some) F (upd (upd H dx (.own x)) x (.ins (G.cA c) dx [])) ((V.ref x :: vs).map some) F' H' q → Stp G.tabs (fun _ => False) F H F' H' := fun {F' H' q} n =>
    ⟨n.stp.fz, fun a o e _ ht => n.stp.kp a o (hH e) (fun m => nomatch (show (none : Option HO) = some o by rw [← nx, ← mo a m]; exact e)) ht, fun a o e _ => n.stp.nf a o (hH e) (fun m => nomatch (show (none : Option HO) = some o by rw [← nx, ← mo a m]; exact e)), fun a e => upd_none (upd_none (n.stp.tr a e)), fun P q t => n.stp.tb P q (t.ext fun b o e => hH e)⟩
  have hsp : spB G n [0] B (V.ref x :: vs) (upd (upd H dx (.own x)) x (.ins (G.cA c) dx [])) (fun v H2 => v = .non ∧ Q (.ref x) H2) (fun cl d H' => W cl d σ H') := by
    refine ⟨by rw [← hn]; rfl, F, .ob c [] :: ds, SA, ?_⟩
    revert p
    cases B (.ob c [] :: ds) with
    | no => exact fun p => p.elim
    | ex e q =>
        intro p cl d F' H' n xr
        have n2 : Nx G OX O O σ F H σ F' H' r := Nx.of (S.stay (st0 n) n.sta.sub n.sta.nt n.sta.wf.ins fun _ _ z => z) ((st0 n).weak fun _ z => z.elim) fun _ h => h
        obtain ⟨F2, n3, s3⟩ := n2.freeze hx
        exact p cl d F2 H' n3 (xr.mono s3)
    | ok d q =>
      intro p v F' H' n rd
      cases d with
      | non =>
        cases rd
        obtain ⟨d', v', e1, e2, ow⟩ := n.sta.ow 0 (by simp)
        have ev : V.ref x = v' := by simpa using e2
        subst ev
        refine ⟨rfl, ?_⟩
        have p : Pst G W OX O O σ F H (RD G) Q (match q[0]? with | some (some d) => .ok d r | _ => .no) := p
        rw [e1] at p
        obtain ⟨F2, a, ob, ea, hob, rfl, k1, k2, rp, htb⟩ := ow.freeze n.sta.sub
        cases ea
        refine p _ _ H' (Nx.of (S.stay ⟨(st0 n).fz.trans k1, fun a o e m ht => (st0 n).kp a o e m ht, fun a o e m => ?_, (st0 n).tr, (st0 n).tb⟩ k2 (n.sta.nt.upd htb) n.sta.wf.ins fun _ _ z => z) ⟨(st0 n).fz.trans k1, fun a o e _ ht => (st0 n).kp a o e (fun z => z) ht, fun a o e _ => ?_, (st0 n).tr, (st0 n).tb⟩ fun _ h => h) rp
        · rw [upd_ne (ne_of_none e nx)]
          exact (st0 n).nf a o e fun z => z
        · rw [upd_ne (ne_of_none e nx)]
          exact (st0 n).nf a o e fun z => z
      | _ => exact p.elim
  have run := F1.run (X.A.under (.builtin "type.__call__" ⟨.ref (G.cA c) :: us, kw⟩)) X.stack { s with heap := (s.heap.push PySem.W.emptyDict).push (PySem.W.instObj (G.cA c) dx) } _ ⟨.ref x :: us, kw⟩ (.ref x :: us') (V.ref x :: vs) _ _ (hr.make _ us kw)
    (by have q := I2.env0.make (G.cA c) us kw; exact q) (bt _ _ I2.kIn) (.cons rfl rv) hsp
  refine wpAny_call (make_map (f := f) I.kIn Mc.makes Mc.init (beq_iff_eq.mp Mc.fn) ?_)
  rw [hxa, hda]
  refine codeAny_mono run fun res s' back => ?_
  match res, back with
  | .error er, back => exact passAt tk σ pins _ _ er s' I2 back
  | .ok (.ret u), back =>
    obtain ⟨v, H', I3, rv', ev, q3⟩ := I2.after back
    subst ev
    exact ⟨rv', ⟨V.ref x, H', I3, rfl, q3⟩⟩
  | .ok .next, back => exact back.elim
  | .ok .brk, back => exact back.elim
  | .ok .cont, back => exact back.elim
theorem cw0 {fv : Value} {first : List Value} {kws : List Keyword} {ks : List Str} {pos : Pos} {g : M (List D)} {k : List D → List D → Ev → Out D} {pins : List (Addr × Obj)} {σ : L2.St} {F H : Hp} {r : Ev} {s : Shared} {Q : VK}
    (hk : PySem.W.keepIn X.K fv = true) (hkw : PK X kws (tA G W OX O O2 g)) (I : Inv X pins σ H s) (S : Sta G O F H σ r) (p : Pst G W OX O O2 σ F H (RD G) Q ((g r).bind fun zs r2 => k [] zs r2))
    (cont : ∀ (ds zs : List D) (vs ys : List V) (us ws : List Value) (s2 : Shared) (F2 H2 : Hp) (r2 : Ev), Inv X pins σ H2 s2 → Nx G OX O O2 σ F H σ F2 H2 r2 → RepL G F2 ds vs → RepL G F2 zs ys → Vals vs us → Vals ys ws → Pst G W OX O2 O2 σ F2 H2 (RD G) Q (k ds zs r2) →
      wpAny (model X.prog X.w) X.A (call fv (first ++ us) (ks.zip ws)) (EP X pins σ Q) X.xe s2)
    (hall : (backToKw pos (keywordEach kws X.env)).all (·.1.isSome) = true := by rfl) (hks : (backToKw pos (keywordEach kws X.env)).filterMap (·.1) = ks := by rfl)
    (hpl : ((backTo pos (starEach [] X.env)).any (·.1) || (backToKw pos (keywordEach kws X.env)).any (·.1.isNone)) = false := by rfl) :
    wpAny (model X.prog X.w) X.A (callWith pos fv first (backTo pos (starEach [] X.env)) (backToKw pos (keywordEach kws X.env))) (EP X pins σ Q) X.xe s := by
  refine PySem.W.callWith_KW0 (h₀ := X.base) I.ok.mod.kin hk hall (thn (hkw.run pos pins s σ H (fun ys H2 => ∃ zs F2 r2, Nx G OX O O2 σ F H σ F2 H2 r2 ∧ RepL G F2 zs ys ∧ Pst G W OX O2 O2 σ F2 H2 (RD G) Q (k [] zs r2)) I
    (tX_bind S p fun zs ys F2 H2 r2 n2 rz p => ⟨zs, F2, r2, n2, rz, p⟩)) fun ws s2 ⟨ys, H2, I2, rw', zs, F2, r2, n2, rz, p⟩ => ⟨I2.kIn, ?_⟩) hpl
  rw [hks]
  exact cont [] zs [] ys [] ws s2 F2 H2 r2 I2 n2 .nil rz .nil rw' p
structure NwOk (G : Gm) (P : Program) (w : World) (mg : Str → Option Value) (base : Heap) (k : Nat) (x : Str) (c : Nat) (n : Nat) (B : Beh) (f : Addr) (fd : FuncData) (ps : List Str) : Prop where
  at_ : mg x = some (.ref (G.cA c))
  mkd : Mk G.K (G.cA c) f
  imm : G.imm c = true
  fn : FnB P w G mg base k f fd ps n [0] B
  ar : ∀ ds, ds.length ≠ n → B ds = .no
  pl : ps.length = n
theorem lenN {σ : L2.St} {F H : Hp} {r : Ev} {n : Nat} {B : Beh} {ds : List D} {Q : VK} (ar : ∀ ds, ds.length ≠ n → B ds = .no) (p : Pst G W OX O O σ F H (RD G) Q (outN (B ds) r)) : ds.length = n := by
  by_cases h : ds.length = n
  · exact h
  · rw [ar ds h] at p
    exact p.elim
theorem vlen {vs : List V} {us : List Value} (h : Vals vs us) : us.length = vs.length := h.length.symm
theorem e_new {x : Str} {p pos : Pos} {e : Expr} {es : List Expr} {k n c : Nat} {B : Beh} {f : Addr} {fd : FuncData} {ps : List Str} {g : M (List D)} {ds : List Value} {dvs : List V} {dd : List D} (tk : Takes X W) (hr : Room (k + 1) X.A) (nw : NwOk G X.prog X.w X.mg X.base k x c n B f fd ps)
    (hb : Binds G.K fd ps ds) (hd : Vals dvs ds) (hdd : ∀ F, RepL G F dd dvs) (ha : PA X (e :: es) (tA G W OX O O1 g)) (hx : ∀ i ∈ OX, i ∈ O1 := by decide) (hg : Gl X x := by rfl) (hK : X.K = G.K := by rfl) (hdb : (x == ("__debug__" : Str)) = false := by decide)
    (he : starEach (e :: es) X.env = (false, eval e X.env) :: starEach es X.env := by rfl) (hpl : (backTo pos (starEach es X.env)).any (·.1) = false := by rfl) : PE X (.Call (.Name x p) (e :: es) [] pos) (tE G W OX O O1 (eNd c B dd g)) := by
  refine ⟨fun pins s σ H Q I ⟨F, r, S, p⟩ => ?_⟩
  refine wpAny_Call_Name_kw (ld_glob I hg nw.at_ ?_ hdb)
  refine PySem.W.callWith_K (h₀ := X.base) I.ok.mod.kin (by rw [hK]; exact nw.mkd.kp) (thn (ha.run pos pins s σ H (fun vs H1 => ∃ ds F1 r1, Sta G O1 F1 H1 σ r1 ∧ RepL G F1 ds vs ∧ Pst G W OX O1 O1 σ F1 H1 (RD G) Q (outN (B (.ob c [] :: (ds ++ dd))) r1)) I
    (tX_bind S p fun ds vs F1 H1 r1 n1 rs p => ⟨ds, F1, r1, n1.sta, rs, p⟩)) fun us s1 ⟨vs, H1, I1, rv, zs, F1, r1, S1, rs, p⟩ => ⟨I1.kIn, ?_⟩) he hpl
  have Fk : FnOk X.prog X.w X.K X.mg X.base (L2.CX X.prog X.w) k f fd ps (spB G n [0] B) := by rw [hK]; exact nw.fn
  have hl := lenN nw.ar p
  have rs2 := rs.more hdd
  have rv2 := rv.append hd
  refine run_Nk (ds := zs ++ dd) (vs := vs ++ dvs) (us' := us ++ ds) tk Fk hr (by rw [hK]; exact nw.mkd) nw.imm (fun s x hk => ?_) I1 S1 rv2 rs2 nw.ar hx p
  have hb' : Binds X.K fd ps ds := by rw [hK]; exact hb
  refine hb' s (x :: us) hk ?_
  rw [nw.pl, ← hl, List.cons_append, List.length_cons, List.length_cons, vlen rv2, rs2.length]
theorem e_callK0 {x : Str} {p pos : Pos} {kws : List Keyword} {k m a : Nat} {B : Beh} {f : Addr} {fd : FuncData} {ps ks : List Str} {h : M (List D)} {o : List Nat} {ds : List Value} {dvs : List V} {dd : List D} (tk : Takes X W) (hr : Room k X.A) (gl : GlOk G X.prog X.w X.mg X.base k x a [] B f fd ps)
    (hb : BindK G.K fd ps 0 ks o ds) (hd : Vals dvs ds) (hdd : ∀ F, RepL G F dd dvs) (hkw : PK X kws (tA G W OX O O2 h)) (hm : ks.length = m := by rfl) (hx : ∀ i ∈ OX, i ∈ O2 := by decide) (hg : Gl X x := by rfl) (hK : X.K = G.K := by rfl) (hdb : (x == ("__debug__" : Str)) = false := by decide)
    (hall : (backToKw pos (keywordEach kws X.env)).all (·.1.isSome) = true := by rfl) (hks : (backToKw pos (keywordEach kws X.env)).filterMap (·.1) = ks := by rfl)
    (hpl : ((backTo pos (starEach [] X.env)).any (·.1) || (backToKw pos (keywordEach kws X.env)).any (·.1.isNone)) = false := by rfl) : PE X (.Call (.Name x p) [] kws pos) (tE G W OX O O2 (eCk B 0 m o dd aNil h)) := by
  refine ⟨fun pins s σ H Q I ⟨F, r, S, p⟩ => ?_⟩
  refine wpAny_Call_Name_kw (ld_glob I hg gl.at_ ?_ hdb)
  refine cw0 (first := []) (k := fun ds zs r2 => if ds.length = 0 ∧ zs.length = m then out0 (B (permL o (ds ++ zs ++ dd))) r2 else .no) (by rw [hK]; exact gl.kp) hkw I S p (fun ds' zs vs ys us ws s2 F2 H2 r2 I2 n2 rs rz rv rw' p => ?_) hall hks hpl
  split at p
  · rename_i hl
    obtain ⟨h1, h2⟩ := hl
    have Fk : FnOk X.prog X.w X.K X.mg X.base (L2.CX X.prog X.w) k f fd ps (spB G a [] B) := by rw [hK]; exact gl.fn
    have rp := ((rs.app rz).app (hdd F2)).perm o
    have bt : BindK X.K fd ps 0 ks o ds := by rw [hK]; exact hb
    exact run_Bk tk Fk hr (bt s2 us ws I2.kIn (by rw [vlen rv, ← rs.length, h1]) (by rw [vlen rw', ← rz.length, h2, hm])) I2 (Vals.perm ((rv.append rw').append hd) o) (spB_of hx n2.sta rp (len_of gl.ar rp p) p)
  · exact p.elim
structure MtOk (G : Gm) (P : Program) (w : World) (mg : Str → Option Value) (base : Heap) (k : Nat) (c : Nat) (m : Str) (n : Nat) (B : Beh) (f : Addr) (fd : FuncData) (ps : List Str) (ds : List Value) (dvs : List V) : Prop where
  cl : Cls G.K (G.cA c)
  me : Meth G.K (G.cA c) m f
  fn : FnB P w G mg base k f fd ps n [] B
  ar : ∀ ds, ds.length ≠ n → B ds = .no
  bd : Binds G.K fd ps ds
  dv : Vals dvs ds
theorem look_m {F H : Hp} {c : Nat} {l : List D} {v : V} {σ : L2.St} {r : Ev} (S : Sta G O F H σ r) (h : Rep G F (.ob c l) v) {m : Str} (hm : m ∉ G.flds) : ∃ a dx fs, v = .ref a ∧ H a = some (.ins (G.cA c) dx fs) ∧ fs.lookup m = none := by
  cases h with
  | @ob _ _ a dx xs more h hl rr =>
    obtain ⟨o', e', gr⟩ := S.sub _ _ h
    obtain ⟨q, eo⟩ := gr.ins
    subst eo
    refine ⟨a, dx, _, rfl, e', ?_⟩
    cases z : (List.lookup m ((G.lay c).zip xs ++ more ++ q)) with
    | none => rfl
    | some u => exact absurd (S.wf.ins _ _ _ _ m e' (by rw [z]; exact fun w => nomatch w)) hm
theorem onMt_of {tb : List (Nat × Beh)} {x : D} {k : Beh → Out D} {σ : L2.St} {F H : Hp} {Q : VK} (p : Pst G W OX O O1 σ F H (RD G) Q (onMt tb x k)) : ∃ c l B, x = .ob c l ∧ tb.lookup c = some B ∧ Pst G W OX O O1 σ F H (RD G) Q (k fun ds => B (.ob c l :: ds)) := by
  unfold onMt at p
  split at p
  · split at p
    · rename_i B e
      exact ⟨_, _, B, rfl, e, p⟩
    · exact p.elim
  · exact p.elim
theorem e_meth {o e : Expr} {es : List Expr} {m : Str} {apos pos : Pos} {pl : Sem Bool} {k : Nat} {g : M D} {h : M (List D)} {dd : List D} (tb : List (Nat × Beh)) (tk : Takes X W) (hr : Room k X.A) (hm : m ∉ G.flds) (ho : PE X o (tE G W OX O O1 g)) (ha : PA X (e :: es) (tA G W OX O1 O2 h))
    (ht : ∀ c B, tb.lookup c = some B → ∃ n f fd ps ds dvs, MtOk G X.prog X.w X.mg X.base k c m n B f fd ps ds dvs ∧ ∀ F, RepL G F dd dvs) (hx : ∀ i ∈ OX, i ∈ O2 := by decide) (hK : X.K = G.K := by rfl)
    (hst : starEach (e :: es) X.env = (false, eval e X.env) :: starEach es X.env := by rfl) (hpl : (backTo pos (starEach es X.env)).any (·.1) = false := by rfl)
    (hev : eval (.Call (.Attribute o m apos) (e :: es) [] pos) X.env = (do
      let ov ← eval o X.env
      standAt apos.atName
      let (fm, fst) ← holding [ov] (getMethod ov m pl)
      callWith pos fm fst (backTo pos (starEach (e :: es) X.env)) (backToKw pos (keywordEach [] X.env))) := by rfl) : PE X (.Call (.Attribute o m apos) (e :: es) [] pos) (tE G W OX O O2 (eMd tb dd g h)) := by
  refine ⟨fun pins s σ H Q I ⟨F, r, S, p⟩ => ?_⟩
  refine PySem.W.methodCall_KW (pl := pl) (thn (ho.run pins s σ H (fun v H1 => ∃ x F1 r1, Nx G OX O O1 σ F H σ F1 H1 r1 ∧ Rep G F1 x v ∧ Pst G W OX O1 O2 σ F1 H1 (RD G) Q (onMt tb x fun B => (h r1).bind fun ds r2 => out0 (B (ds ++ dd)) r2)) I
    (tX_bind S p fun x v F1 H1 r1 n1 rx p => ⟨x, F1, r1, n1, rx, p⟩)) fun u s1 ⟨v, H1, I1, ru, x, F1, r1, n1, rx, p⟩ => ?_) hev
  obtain ⟨c, l, B, rfl, e1, p⟩ := onMt_of p
  obtain ⟨n, f, fd, ps, ds, dvs, M, hdd⟩ := ht c B e1
  obtain ⟨a, dx, fs, rfl, ea, el⟩ := look_m n1.sta rx hm
  obtain rfl : u = Value.ref a := ru
  refine getmeth_ok I1 ea (by rw [hK]; exact M.cl) (by rw [hK]; exact M.me) el ?_
  refine PySem.W.callWith_K (first := [.ref a]) (h₀ := X.base) I.ok.mod.kin (by rw [hK]; exact M.me.kp) (thn (ha.run pos pins s1 σ H1 (fun vs H2 => ∃ zs F2 r2, Nx G OX O1 O2 σ F1 H1 σ F2 H2 r2 ∧ RepL G F2 zs vs ∧ Pst G W OX O2 O2 σ F2 H2 (RD G) Q (out0 (B (.ob c l :: (zs ++ dd))) r2)) I1
    (tX_bind n1.sta p fun zs vs F2 H2 r2 n2 rs p => ⟨zs, F2, r2, n2, rs, p⟩)) fun us s2 ⟨vs, H2, I2, rv, zs, F2, r2, n2, rs, p⟩ => ⟨I2.kIn, ?_⟩) hst hpl
  have Fk : FnOk X.prog X.w X.K X.mg X.base (L2.CX X.prog X.w) k f fd ps (spB G n [] B) := by rw [hK]; exact M.fn
  have rr := RepL.cons (rx.mono n2.stp.fz) (rs.more hdd)
  exact run_B (us := .ref a :: us) (vs := .ref a :: vs) tk Fk hr (by rw [hK]; exact M.bd) M.dv I2 (.cons rfl rv) (spB_of hx n2.sta rr (len_of M.ar rr p) p)
structure StOk (G : Gm) (P : Program) (w : World) (mg : Str → Option Value) (base : Heap) (k : Nat) (x : Str) (C : Addr) (m : Str) (n : Nat) (B : Beh) (f : Addr) (fd : FuncData) (ps : List Str) : Prop where
  at_ : mg x = some (.ref C)
  rd : PySem.W.readsIn G.K C (.type "type") = true
  ga : PySem.W.specialIn G.K (.ref C) "__getattribute__" = some (some (.builtin "type.__getattribute__"))
  fc : ∃ p rest, PySem.W.findCls G.K (.ref C) (.type "type") m = some (.get (.builtin "staticmethod.__get__") (.ref p) .none (.ref C)) ∧ PySem.W.recIn G.K p "staticmethod" = some (.ref f :: rest)
  kp : PySem.W.keepIn G.K (.ref f) = true
  fn : FnB P w G mg base k f fd ps n [] B
  ar : ∀ ds, ds.length ≠ n → B ds = .no
theorem stat_get {A : Around} {E : Value → Shared → Prop} {pins : List (Addr × Obj)} {s : Shared} {σ : L2.St} {H : Hp} {k n : Nat} {x m : Str} {C f : Addr} {fd : FuncData} {ps : List Str} {B : Beh} {pl : Sem Bool} {Q : Value × List Value → Shared → Prop} (st : StOk G X.prog X.w X.mg X.base k x C m n B f fd ps) (hK : X.K = G.K) (I : Inv X pins σ H s)
    (h : ∀ s', Inv X pins σ H s' → Q (.ref f, []) s') : wpAny (model X.prog X.w) A (getMethod (.ref C) m pl) Q E s := by
  obtain ⟨p, rest, h1, h2⟩ := st.fc
  refine PySem.W.method_cls I.kIn (by rw [hK]; exact st.ga) ?_
  refine PySem.W.cls_bind I.kIn (by rw [hK]; exact st.rd) (by rw [hK]; exact h1) ?_
  refine wpAny_call (PySem.W.sm_get (s := { s with toks := s.toks + 1 }) I.kIn (by rw [hK]; exact h2) (PySem.W.handed_on rfl ?_))
  exact h _ (I.tok _)
theorem e_stat {x m : Str} {xpos apos pos : Pos} {e : Expr} {es : List Expr} {k n : Nat} {B : Beh} {C f : Addr} {fd : FuncData} {ps : List Str} {g : M (List D)} {ds : List Value} {dvs : List V} {dd : List D} {pl : Sem Bool} (tk : Takes X W) (hr : Room k X.A) (st : StOk G X.prog X.w X.mg X.base k x C m n B f fd ps)
    (hb : Binds G.K fd ps ds) (hd : Vals dvs ds) (hdd : ∀ F, RepL G F dd dvs) (ha : PA X (e :: es) (tA G W OX O O1 g)) (hx : ∀ i ∈ OX, i ∈ O1 := by decide) (hg : Gl X x := by rfl) (hK : X.K = G.K := by rfl) (hdb : (x == ("__debug__" : Str)) = false := by decide)
    (he : starEach (e :: es) X.env = (false, eval e X.env) :: starEach es X.env := by rfl) (hpl : (backTo pos (starEach es X.env)).any (·.1) = false := by rfl)
    (hev : eval (.Call (.Attribute (.Name x xpos) m apos) (e :: es) [] pos) X.env = (do
      let ov ← eval (.Name x xpos) X.env
      standAt apos.atName
      let (fm, fst) ← holding [ov] (getMethod ov m pl)
      callWith pos fm fst (backTo pos (starEach (e :: es) X.env)) (backToKw pos (keywordEach [] X.env))) := by rfl) : PE X (.Call (.Attribute (.Name x xpos) m apos) (e :: es) [] pos) (tE G W OX O O1 (eCd B dd g)) := by
  refine ⟨fun pins s σ H Q I ⟨F, r, S, p⟩ => ?_⟩
  refine PySem.W.methodCall_KW (pl := pl) (ld_glob I hg st.at_ ?_ hdb) hev
  refine stat_get st hK I fun s1 I1 => ?_
  refine PySem.W.callWith_K (first := []) (h₀ := X.base) I.ok.mod.kin (by rw [hK]; exact st.kp) (thn (ha.run pos pins s1 σ H (fun vs H1 => ∃ ds F1 r1, Sta G O1 F1 H1 σ r1 ∧ RepL G F1 ds vs ∧ Pst G W OX O1 O1 σ F1 H1 (RD G) Q (out0 (B (ds ++ dd)) r1)) I1
    (tX_bind S p fun ds vs F1 H1 r1 n1 rs p => ⟨ds, F1, r1, n1.sta, rs, p⟩)) fun us s1 ⟨vs, H1, I1, rv, ds, F1, r1, S1, rs, p⟩ => ⟨I1.kIn, ?_⟩) he hpl
  have Fk : FnOk X.prog X.w X.K X.mg X.base (L2.CX X.prog X.w) k f fd ps (spB G n [] B) := by rw [hK]; exact st.fn
  exact run_B tk Fk hr (by rw [hK]; exact hb) hd I1 rv (spB_of hx S1 (rs.more hdd) (len_of st.ar (rs.more hdd) p) p)
end
end Z
namespace Z
open PySem PySem.Spec PyProof.Rows L2
abbrev Tg := D → Ev → Option Ev
@[simp] def gN (i : Nat) : Tg := fun d r => some (r.set i (some d))
def gTs : List Tg → List D → Ev → Option Ev
  | [], [], r => some r
  | g :: gs, d :: l, r => (g d r).bind (gTs gs l)
  | _, _, _ => none
@[simp] def gT (gs : List Tg) : Tg := fun d r => (itemsOf d).bind fun l => gTs gs l r
def tG (G : Gm) (OX vs O O' : List Nat) (g : Tg) : TG := fun v σ H Q => ∃ F r d r', Sta G O F H σ r ∧ Rep G F d v ∧ g d r = some r' ∧ ∀ σ', Nx G OX O O' σ F H σ' F H r' → wipe σ' vs = wipe σ vs → Q σ' H
def tGs (G : Gm) (OX vs O O' : List Nat) (gs : List Tg) : TGs := fun xs σ H Q => ∃ F r l r', Sta G O F H σ r ∧ RepL G F l xs ∧ gTs gs l r = some r' ∧ ∀ σ', Nx G OX O O' σ F H σ' F H r' → wipe σ' vs = wipe σ vs → Q σ' H
theorem wipe_set {σ : L2.St} {i : Nat} {x : Option V} : ∀ {vs : List Nat}, i ∈ vs → wipe (σ.set i x) vs = wipe σ vs
  | v :: vs, h => by
    unfold wipe
    by_cases m : i ∈ vs
    · rw [wipe_set m]
    · have e : i = v := by
        rcases List.mem_cons.mp h with z | z
        · exact z
        · exact absurd z m
      subst e
      have key : ∀ (l : List Nat) (σ : L2.St), i ∉ l → wipe (σ.set i x) l = (wipe σ l).set i x := by
        intro l
        induction l with
        | nil => exact fun _ _ => rfl
        | cons a l ih =>
          intro σ hn
          have h1 : i ≠ a := fun z => hn (by rw [z]; exact List.mem_cons_self)
          unfold wipe
          rw [ih σ fun z => hn (List.mem_cons_of_mem _ z), List.set_comm _ _ h1]
      rw [key vs σ m, List.set_set]
section
variable {G : Gm} {X : Cx} {W : WX} {OX OL vs O O1 O2 O3 : List Nat}
theorem nx_set {σ : L2.St} {F H : Hp} {r : Ev} {d : D} {v : V} (i : Nat) (S : Sta G O F H σ r) (h : Rep G F d v) (hx : i ∉ OX) : Nx G OX O (O.filter (· != i)) σ F H (σ.set i (some v)) F H (r.set i (some d)) := by
  refine ⟨S.set i h, .rfl', fun j hj => ?_, fun a m => ?_⟩
  · exact List.getElem?_set_ne (fun z : i = j => hx (by rw [z]; exact hj))
  · obtain ⟨j, hj, e⟩ := m
    obtain ⟨h1, h2⟩ := List.mem_filter.mp hj
    have q : i ≠ j := fun z => by simp [z] at h2
    rw [List.getElem?_set_ne q] at e
    exact .inl ⟨j, h1, e⟩
theorem g_name {x : Str} {pos : Pos} (i : Nat) (hx : i ∉ OX := by decide) (hv : i ∈ vs := by decide) (hN : X.N.Nodup := by first | assumption | decide +kernel) (hi : X.N[i]? = some x := by rfl) (hl : Loc X.env.scope x := by first | exact Or.inl rfl | exact Or.inr rfl)
    (hf : X.fn x = true ∨ X.env.scope.names.lookup x = some .local := by first | exact .inl rfl | exact .inr rfl | assumption) : PG X (.Name x pos) (tG G OX vs O (O.filter (· != i)) (gN i)) :=
  (pg_name hN hi hl hf).mo fun v σ H Q ⟨F, r, d, r', S, rd, e, q⟩ => by
    cases e
    exact q _ (nx_set i S rd hx) (wipe_set hv)
theorem gs_nil : PGs X [] (tGs G OX vs O O []) := pgs_nil.mo fun xs σ H Q ⟨F, r, l, r', S, rl, e, q⟩ => by
  cases rl with
  | nil =>
    cases e
    exact ⟨rfl, q σ (Nx.rfl' S) rfl⟩
  | cons _ _ => cases e
theorem gs_cons {e : Expr} {es : List Expr} {g : Tg} {gs : List Tg} (h1 : PG X e (tG G OX vs O O1 g)) (h2 : PGs X es (tGs G OX vs O1 O2 gs)) (hs : (assignEach (e :: es) X.env).map (·.2) = assign e X.env :: (assignEach es X.env).map (·.2) := by rfl) :
    PGs X (e :: es) (tGs G OX vs O O2 (g :: gs)) :=
  (pgs_cons h1 h2 hs).mo fun xs σ H Q ⟨F, r, l, r', S, rl, e, q⟩ => by
    cases rl with
    | nil => cases e
    | @cons d l v xs hd ht =>
      rw [gTs] at e
      obtain ⟨r1, e1, e2⟩ := Option.bind_eq_some_iff.mp e
      exact ⟨v, xs, rfl, F, r, d, r1, S, hd, e1, fun σ1 n1 w1 => ⟨F, r1, l, r', n1.sta, ht, e2, fun σ2 n2 w2 => q σ2 (n1.trans n2) (w2.trans w1)⟩⟩
theorem g_tup {es : List Expr} {k : Nat} {pos : Pos} {gs : List Tg} (h : PGs X es (tGs G OX vs O O1 gs)) (hc : X.calm = true := by rfl) (hn : (assignEach es X.env).length = gs.length := by rfl) (hst : (assignEach es X.env).findIdx? (·.1) = none := by rfl) (hK : X.K = G.K := by rfl) :
    PG X (.Tuple es k pos) (tG G OX vs O O1 (gT gs)) := by
  refine ⟨fun pins s σ H v u Q I r q => ?_⟩
  obtain ⟨F, rr, d, r', S, rd, e, q⟩ := q
  obtain ⟨l, e1, e2⟩ := Option.bind_eq_some_iff.mp e
  have hl : ∀ (gs : List Tg) (l : List D) (r r' : Ev), gTs gs l r = some r' → l.length = gs.length := by
    intro gs
    induction gs with
    | nil =>
      intro l r r' e
      cases l with
      | nil => rfl
      | cons => cases e
    | cons g gs ih =>
      intro l r r' e
      cases l with
      | nil => cases e
      | cons d l =>
        rw [gTs] at e
        obtain ⟨r1, _, e2⟩ := Option.bind_eq_some_iff.mp e
        rw [List.length_cons, List.length_cons, ih l r1 r' e2]
  obtain ⟨a, xs, rfl, hq, rl⟩ := rd.items S.sub e1
  have hlen : xs.length = gs.length := by rw [← rl.length]; exact hl gs l rr r' e2
  rcases hq with hq | hq
  · exact (pg_lst hc h hn hst).run pins s σ H _ u Q I r ⟨a, xs, rfl, by rw [hK]; exact hq, hlen, F, rr, l, r', S, rl, e2, q⟩
  · exact (pg_tup hc h hn hst).run pins s σ H _ u Q I r ⟨a, xs, rfl, by rw [hK]; exact hq, hlen, F, rr, l, r', S, rl, e2, q⟩
def YD (G : Gm) (F : Hp) (l : List D) : Nat → Hp → V → Hp → Prop := fun i H x H' => ∃ d, l[i]? = some d ∧ ((H' = H ∧ Rep G F d x) ∨ ∃ T xs ds, d = .tup ds ∧ x = .ref T ∧ H T = none ∧ H' = upd H T (.tup xs) ∧ RepL G F ds xs)
def RI (G : Gm) : Hp → Hp → List D → It → Prop := fun F _ l J => Walk J l.length (fun H => Sub F H) (YD G F l)
abbrev iIt (G : Gm) (W : WX) (OX O O' : List Nat) (f : M (List D)) : TI := fun σ H R => tX G W OX O O' (RI G) f σ H R
@[simp] def itL (f : M D) : M (List D) := fun r => (f r).bind fun x r1 => match itemsOf x with
  | some l => .ok l r1
  | none => .no
def enuD (l : List D) : List D := l.zipIdx.map fun p => .tup [.int (p.2 : Nat), p.1]
def zipD (l m : List D) : List D := (l.zip m).map fun p => .tup [p.1, p.2]
def isTupD : D → Bool
  | .tup _ => true
  | _ => false
def pZip : List D → Option (List D)
  | [x, y] => (itemsOf x).bind fun l => (itemsOf y).bind fun m => if isTupD x = isTupD y then some (zipD l m) else none
  | _ => none
@[simp] def itN (p : List D → Option (List D)) (f : M (List D)) : M (List D) := fun r => (f r).bind fun ds r1 => match p ds with
  | some l => .ok l r1
  | none => .no
theorem Rep.itemsF {F : Hp} {x : D} {v : V} {l : List D} (h : Rep G F x v) (e : itemsOf x = some l) : ∃ a xs, v = .ref a ∧ (SqL G.K F a xs ∨ SqT G.K F a xs) ∧ RepL G F l xs := by
  cases h with
  | tup h r => cases e; exact ⟨_, _, rfl, .inr h, r⟩
  | lst h r => cases e; exact ⟨_, _, rfl, .inl (.inl (.inl h)), r⟩
  | kl h r => cases e; exact ⟨_, _, rfl, .inl h, r⟩
  | _ => cases e
theorem walk_rep {F : Hp} {l : List D} {xs : List V} {J : It} {P : Hp → Prop} (rl : RepL G F l xs) (w : Walk J xs.length P (YAt xs)) (hp : ∀ H, Sub F H → P H) : Walk J l.length (fun H => Sub F H) (YD G F l) := by
  rw [rl.length]
  refine w.mono hp fun i H x H' hi hs y => ?_
  obtain ⟨d, e, rd⟩ := rl.get' y.2
  exact ⟨d, e, .inl ⟨y.1, rd⟩⟩
theorem i_seq {tg e : Expr} {f : M D} (h : PE X e (tE G W OX O O1 f)) (hK : X.K = G.K := by rfl) : PI X tg e (iIt G W OX O O1 (itL f)) := by
  refine ⟨fun pins s σ H R I ⟨F, r, S, p⟩ => ?_⟩
  refine thn (h.run pins s σ H (fun v H1 => ∃ x F1 r1 l, Nx G OX O O1 σ F H σ F1 H1 r1 ∧ Rep G F1 x v ∧ itemsOf x = some l ∧ Pst G W OX O1 O1 σ F1 H1 (RI G) R (.ok l r1)) I (tX_bind S p fun x v F1 H1 r1 n1 rx p => ?_)) fun u s1 ⟨v, H1, I1, ru, x, F1, r1, l, n1, rx, ex, p⟩ => ?_
  · revert p
    split
    · rename_i l e
      exact fun p => ⟨x, F1, r1, l, n1, rx, e, p⟩
    · exact fun p => p.elim
  · obtain ⟨a, xs, rfl, hq, rl⟩ := rx.itemsF ex
    cases ru
    have young : ∀ b, b ∈ [s1.heap.objs.size] → FpOk X pins H1 b := fun b hb => by
      rw [List.mem_singleton.mp hb]
      exact I1.fpOk (Nat.le_refl _) (I1.hok.fresh (Nat.le_refl _))
    have push : ∀ o : Obj, Inv X pins σ H1 { s1 with heap := s1.heap.push o } := fun o => I1.kept (t' := s1.toks) fun c u ec => Heap.get?_push_of_some _ ec
    have done : ∀ {J : It}, Walk J l.length (fun H => Sub F1 H) (YD G F1 l) → R J H1 := fun w => p _ F1 H1 (Nx.rfl' n1.sta) w
    rcases hq with hq | hq
    · obtain ⟨its, rv, pl, hz⟩ := I1.list (by rw [hK]; exact n1.sta.sub.sqL hq)
      exact wpAny_pyIter_list pl.isList ⟨_, [s1.heap.objs.size], _, Itl X.K a, H1, rfl, push _, turn_list a _, ⟨_, Heap.get?_push_size _ rfl, rfl, rfl⟩, young, done (walk_rep rl walk_list fun H' sb => by rw [hK]; exact sb.sqL hq)⟩
    · obtain ⟨its, rv, pl, hz⟩ := I1.tuple (by rw [hK]; exact n1.sta.sub.sqT hq)
      exact wpAny_pyIter_tuple (show s1.heap.IsTuple a its.toArray from pl) ⟨_, [s1.heap.objs.size], _, Itt X.K a, H1, rfl, push _, turn_tuple a _, ⟨_, Heap.get?_push_size _ rfl, rfl, rfl⟩, young, done (walk_rep rl walk_tup fun H' sb => by rw [hK]; exact sb.sqT hq)⟩
theorem itN_of {p : List D → Option (List D)} {ds : List D} {r : Ev} {σ : L2.St} {F H : Hp} {R : It → Hp → Prop} (q : Pst G W OX O O1 σ F H (RI G) R (match p ds with
  | some l => .ok l r
  | none => .no)) : ∃ l, p ds = some l ∧ Pst G W OX O O1 σ F H (RI G) R (.ok l r) := by
  revert q
  cases e : p ds with
  | none => exact fun q => q.elim
  | some l => exact fun q => ⟨l, rfl, q⟩
theorem zip_walk {F : Hp} {l m : List D} {xs ys : List V} {J : It} {P : Hp → Prop} (rl : RepL G F l xs) (rm : RepL G F m ys) (w : Walk J (min xs.length ys.length) P (YPair (fun i => xs[i]?) (fun i => ys[i]?))) (hp : ∀ H, Sub F H → P H) : Walk J (zipD l m).length (fun H => Sub F H) (YD G F (zipD l m)) := by
  have e0 : (zipD l m).length = min xs.length ys.length := by unfold zipD; rw [← rl.length, ← rm.length]; simp
  rw [e0]
  refine w.mono hp fun i H x H' hi _ y => ?_
  obtain ⟨T, x1, y1, h1, h2, h3, h4, h5⟩ := y
  obtain ⟨d, e, rd⟩ := rl.get' h4
  obtain ⟨d', e', rd'⟩ := rm.get' h5
  refine ⟨.tup [d, d'], ?_, .inr ⟨T, _, [d, d'], rfl, h1, h2, h3, .cons rd (.cons rd' .nil)⟩⟩
  unfold zipD
  rw [List.getElem?_map, show (l.zip m)[i]? = some (d, d') from by rw [List.getElem?_zip_eq_some]; exact ⟨e, e'⟩]
  rfl
theorem walk_zipT {K : PySem.W.Frag} {a b : Addr} {xs ys : List V} : Walk (RZ.ItzT K a b) (min xs.length ys.length) (fun H => SqT K H a xs ∧ SqT K H b ys) (YPair (fun i => xs[i]?) (fun i => ys[i]?)) := by
  refine ⟨fun i H hi q => ?_, fun H q => ⟨xs, ys, q.1, q.2, by omega⟩, fun i H v H' hi q y => ?_⟩
  · have h1 : i < xs.length := Nat.lt_of_lt_of_le hi (Nat.min_le_left _ _)
    have h2 : i < ys.length := Nat.lt_of_lt_of_le hi (Nat.min_le_right _ _)
    exact ⟨xs, ys, _, _, q.1, q.2, List.getElem?_eq_getElem h1, List.getElem?_eq_getElem h2⟩
  · obtain ⟨T, x, z, e1, e2, e3, e4, e5⟩ := y
    exact ⟨T, x, z, e1, e2, e3, e4 xs q.1, e5 ys q.2⟩
theorem i_zip {e e2 : Expr} {p pos tpos : Pos} {elts : List Expr} {kk : Nat} {f : M (List D)} (ha : PA X [e, e2] (tA G W OX O O1 f)) (hm : X.mg "zip" = none := by assumption) (hg : Gl X "zip" := by rfl) (hs : starEach [e, e2] X.env = (false, eval e X.env) :: starEach [e2] X.env := by rfl) (hpl : (backTo pos (starEach [e2] X.env)).any (·.1) = false := by rfl) (hK : X.K = G.K := by rfl) :
    PI X (.Tuple elts kk tpos) (.Call (.Name "zip" p) [e, e2] [] pos) (iIt G W OX O O1 (itN pZip f)) :=
  (RZ.pi_zipA hg hm ha hs hpl).mo fun σ H R ⟨F, r, S, q⟩ => tX_bind S q fun ds vs F1 H1 r1 n1 rs q => by
    obtain ⟨l, e, q⟩ := itN_of q
    rw [hK]
    have go : ∀ {J : It}, Walk J l.length (fun H => Sub F1 H) (YD G F1 l) → R J H1 := fun w => q _ F1 H1 (Nx.rfl' n1.sta) w
    unfold pZip at e
    split at e
    · rename_i x y
      obtain ⟨l1, e1, e⟩ := Option.bind_eq_some_iff.mp e
      obtain ⟨l2, e2, e⟩ := Option.bind_eq_some_iff.mp e
      split at e
      · rename_i ht
        cases e
        cases rs with
        | cons rx rr =>
          cases rr with
          | cons ry rr =>
            cases rr
            have sb := n1.sta.sub
            by_cases hx : isTupD x = true
            · cases x <;> simp [isTupD] at hx
              rw [show isTupD (.tup _) = true from rfl] at ht
              cases y <;> simp [isTupD] at ht
              cases e1
              cases e2
              cases rx with
              | tup hx rx =>
                cases ry with
                | tup hy ry =>
                  exact ⟨_, _, _, _, rfl, .inr ⟨sb.sqT hx, sb.sqT hy, go (zip_walk rx ry walk_zipT fun H' s => ⟨s.sqT hx, s.sqT hy⟩)⟩⟩
            · have hy : isTupD y = false := by
                rw [← ht]
                simpa using hx
              have key : ∀ (m : List D) (x : D) (v : V), Rep G F1 x v → itemsOf x = some m → isTupD x = false → ∃ a xs, v = .ref a ∧ RepL G F1 m xs ∧ ∀ H, Sub F1 H → SqL G.K H a xs := fun m x v rx e n => by
                cases rx with
                | tup h r => cases n
                | lst h r => cases e; exact ⟨_, _, rfl, r, fun H sb => sb.sqL (.inl (.inl h))⟩
                | kl h r => cases e; exact ⟨_, _, rfl, r, fun H sb => sb.sqL h⟩
                | _ => cases e
              obtain ⟨a, xs, rfl, rl, h1⟩ := key _ _ _ rx e1 (by simpa using hx)
              obtain ⟨b, ys, rfl, rm, h2⟩ := key _ _ _ ry e2 hy
              exact ⟨a, b, xs, ys, rfl, .inl ⟨h1 _ sb, h2 _ sb, go (zip_walk rl rm (walk_zip rfl) fun H' s => ⟨h1 _ s, h2 _ s⟩)⟩⟩
      · cases e
    · cases e
def forGo (g : Tg) (b : M Fl) : List D → Ev → Out Fl
  | [], r => .ok .nx r
  | d :: l, r => match g d r with
    | none => .no
    | some r1 => match b r1 with
      | .ok .nx r2 => forGo g b l r2
      | .ok .ct r2 => forGo g b l r2
      | .ok .bk r2 => .ok .nx r2
      | .ok (.rt x) r2 => .ok (.rt x) r2
      | .ex e r2 => .ex e r2
      | .no => .no
@[simp] def sFor (it : M (List D)) (g : Tg) (b : M Fl) : M Fl := fun r => (it r).bind fun l r1 => forGo g b l r1
theorem s_for {tg iter : Expr} {body : List Stmt} {pos : Pos} {it : M (List D)} {g : Tg} {b : M Fl} {OL0 OL' : List Nat} (vs : List Nat) (hi : PI X tg iter (iIt G W OX O O1 it)) (hg : PG X tg (tG G OX vs OL OL' g)) (hb : PSs X body (tS G W OX OL OL' O2 b))
    (hp : PassesOwn (model X.prog X.w) X.A X.env X.xe) (hx : ∀ i ∈ OX, i ∈ OL := by decide) (hO1 : ∀ i ∈ OL, i ∈ O1 := by decide) (hO2 : ∀ i ∈ OL, i ∈ O2 := by decide) (hc : X.calm = true := by rfl) (hs : ∀ x, foldedSetIterable iter X.env x = pure x := by intro _; rfl) :
    PS X (.For tg iter body [] pos) (tS G W OX OL0 O OL (sFor it g b)) :=
  (ps_for hp hc hi hg hb hs).imp fun Dn σ H ⟨F, r, S, p⟩ => tS_bind S p fun l J F1 H1 r1 n1 rl p => by
    obtain ⟨F2, S2, s2⟩ := Sta.freezeTo OL _ rfl hO1 n1.sta
    have n2 : Nx G OX O1 OL σ F1 H1 σ F2 H1 r1 := ⟨S2, s2, fun _ _ => rfl, fun _ m => .inl (m.sub hO1)⟩
    refine for_it rl (fun i σ' H' => ∃ F' r', Nx G OX O1 OL σ F1 H1 σ' F' H' r' ∧ PstS G W OX OL0 OL OL σ' F' H' Dn (forGo g b (l.drop i) r')) ⟨F2, r1, n2, PstS.after n2 p⟩ (fun i σ' H' _ ⟨F', r', n, _⟩ => n.stp.fz.trans n.sta.sub) ?_ ?_
    · intro i x σ' H' H'' hi ⟨F', r', n, p⟩ y
      obtain ⟨d, ed, y⟩ := y
      have el : l.drop i = d :: l.drop (i + 1) := by
        have hl : i < l.length := hi
        rw [List.drop_eq_getElem_cons hl]
        congr 1
        have := List.getElem?_eq_getElem hl
        rw [this] at ed
        exact Option.some.inj ed
      rw [el, forGo] at p
      have run : ∀ (F'' : Hp), Nx G OX OL OL σ' F' H' σ' F'' H'' r' → Rep G F'' d x → tG G OX vs OL OL' g x σ' H'' fun σ2 H2 => tS G W OX OL OL' O2 b { Dn with nx := fun σ' H' => ∃ F' r', Nx G OX O1 OL σ F1 H1 σ' F' H' r' ∧ PstS G W OX OL0 OL OL σ' F' H' Dn (forGo g b (l.drop (i + 1)) r'), ct := fun σ' H' => ∃ F' r', Nx G OX O1 OL σ F1 H1 σ' F' H' r' ∧ PstS G W OX OL0 OL OL σ' F' H' Dn (forGo g b (l.drop (i + 1)) r'), bk := Dn.nx } σ2 H2 := fun F'' m rd => by
        revert p
        cases e : g d r' with
        | none => exact fun p => p.elim
        | some r2 =>
          intro p
          have p : PstS G W OX OL0 OL OL σ' F' H' Dn (match b r2 with
            | .ok .nx r2 => forGo g b (l.drop (i + 1)) r2
            | .ok .ct r2 => forGo g b (l.drop (i + 1)) r2
            | .ok .bk r2 => .ok .nx r2
            | .ok (.rt x) r2 => .ok (.rt x) r2
            | .ex e r2 => .ex e r2
            | .no => .no) := p
          refine ⟨F'', r', d, r2, m.sta, rd, e, fun σ2 n3 _ => ⟨F'', r2, n3.sta, ?_⟩⟩
          have m3 := m.trans n3
          revert p
          cases b r2 with
          | no => exact fun p => p.elim
          | ex e r3 => exact fun p c dx σ4 F4 H4 n4 xr => p c dx σ4 F4 H4 (m3.trans n4) xr
          | ok c r3 =>
            cases c with
            | nx =>
              intro p σ4 F4 H4 n4
              obtain ⟨F5, n5, _⟩ := (m3.trans n4).freeze hO2
              exact ⟨F5, r3, n.trans n5, PstS.after n5 p⟩
            | ct => exact fun p σ4 F4 H4 n4 => ⟨F4, r3, n.trans (m3.trans n4), PstS.after (m3.trans n4) p⟩
            | bk => exact fun p σ4 F4 H4 n4 => p σ4 F4 H4 (m3.trans n4)
            | rt d => exact fun p v σ4 F4 H4 n4 rv => p v σ4 F4 H4 (m3.trans n4) rv
      rcases y with ⟨e1, rd⟩ | ⟨T, xs, ds, rfl, rfl, hT, rfl, rl'⟩
      · subst e1
        exact run F' (Nx.rfl' n.sta) (rd.mono n.stp.fz)
      · obtain ⟨S', s'⟩ := new_fz (o := .tup xs) n.sta hT rfl
        exact run _ (Nx.of S' s' fun _ h => h) (.tup (.inl (.inl upd_same)) ((rl'.mono n.stp.fz).mono s'.fz))
    · intro σ' H' ⟨F', r', n, p⟩
      rw [List.drop_length] at p
      exact p σ' F' H' (Nx.rfl' n.sta)
def whGo (t : M Bool) (b : M Fl) : Nat → Ev → Out Fl
  | 0, _ => .no
  | n + 1, r => (t r).bind fun c r1 => if c then (match b r1 with
      | .ok .nx r2 => whGo t b n r2
      | .ok .ct r2 => whGo t b n r2
      | .ok .bk r2 => .ok .nx r2
      | .ok (.rt x) r2 => .ok (.rt x) r2
      | .ex e r2 => .ex e r2
      | .no => .no) else .ok .nx r1
def fuel : Nat := 2 ^ 62
@[simp] def sWh (t : M Bool) (b : M Fl) : M Fl := fun r => whGo t b fuel r
theorem s_while {c : Expr} {body : List Stmt} {pos : Pos} {t : M Bool} {b : M Fl} {OL0 : List Nat} (ht : PT X c (tT G W OX OL OL t)) (hb : PSs X body (tS G W OX OL OL O2 b)) (hp : PassesOwn (model X.prog X.w) X.A X.env X.xe)
    (hO1 : ∀ i ∈ OL, i ∈ O := by decide) (hO2 : ∀ i ∈ OL, i ∈ O2 := by decide) : PS X (.While c body [] pos) (tS G W OX OL0 O OL (sWh t b)) :=
  (ps_while hp ht hb).imp fun Dn σ H ⟨F, r, S, p⟩ => by
    obtain ⟨F2, S2, s2⟩ := Sta.freezeTo OL _ rfl hO1 S
    have n2 : Nx G OX O OL σ F H σ F2 H r := ⟨S2, s2, fun _ _ => rfl, fun _ m => .inl (m.sub hO1)⟩
    refine ⟨fun m σ' H' => ∃ F' r', Sta G OL F' H' σ' r' ∧ PstS G W OX OL0 OL OL σ' F' H' Dn (whGo t b m r'), ⟨fuel, F2, r, S2, PstS.after n2 p⟩, ?_⟩
    intro m σ' H' ⟨F', r', S', p⟩
    cases m with
    | zero => exact p.elim
    | succ m =>
      rw [whGo] at p
      refine tS_bind S' p fun x y F1 H1 r1 n1 rl p => ?_
      subst rl
      cases x with
      | false => exact p σ' F1 H1 (Nx.rfl' n1.sta)
      | true =>
        refine ⟨fun σ' H' => ∃ F' r', Sta G OL F' H' σ' r' ∧ PstS G W OX OL0 OL OL σ' F' H' Dn (whGo t b m r'), fun σ3 H3 h => ⟨m, Nat.lt_succ_self m, h⟩, F1, r1, n1.sta, ?_⟩
        have p : PstS G W OX OL0 OL OL σ' F1 H1 Dn (match b r1 with
          | .ok .nx r2 => whGo t b m r2
          | .ok .ct r2 => whGo t b m r2
          | .ok .bk r2 => .ok .nx r2
          | .ok (.rt x) r2 => .ok (.rt x) r2
          | .ex e r2 => .ex e r2
          | .no => .no) := p
        revert p
        cases b r1 with
        | no => exact fun p => p.elim
        | ex e r3 => exact fun p c dx σ4 F4 H4 n4 xr => p c dx σ4 F4 H4 n4 xr
        | ok c r3 =>
          cases c with
          | nx =>
            intro p σ4 F4 H4 n4
            obtain ⟨F5, n5, _⟩ := n4.freeze hO2
            exact ⟨F5, r3, n5.sta, PstS.after n5 p⟩
          | ct => exact fun p σ4 F4 H4 n4 => ⟨F4, r3, n4.sta, PstS.after n4 p⟩
          | bk => exact fun p σ4 F4 H4 n4 => p σ4 F4 H4 n4
          | rt d => exact fun p v σ4 F4 H4 n4 rv => p v σ4 F4 H4 n4 rv
end
end Z
namespace Z
open PySem PySem.Spec PyProof.Rows L2
def wipeE (vs : List Nat) (r : Ev) : Ev := match vs with
  | [] => r
  | v :: vs => (wipeE vs r).set v none
def backE (r : Ev) (vs : List Nat) (q : Ev) : Ev := match vs with
  | [] => q
  | v :: vs => (backE r vs q).set v (r.getD v none)
def lcGo (vs : List Nat) (g : Tg) (t : M Bool) (f : M D) : List D → Ev → Option (List D × Ev)
  | [], r => some ([], r)
  | d :: l, r => match g d (wipeE vs r) with
    | none => none
    | some r1 => match t r1 with
      | .ok true r2 => (match f r2 with
        | .ok y r3 => (lcGo vs g t f l r3).map fun (p : List D × Ev) => (y :: p.1, p.2)
        | _ => none)
      | .ok false r2 => lcGo vs g t f l r2
      | _ => none
def lcOut (vs : List Nat) (r1 : Ev) : Option (List D × Ev) → Out D
  | some (ys, r2) => .ok (.lst ys) (backE r1 vs r2)
  | none => .no
@[simp] def eLc (vs : List Nat) (it : M (List D)) (g : Tg) (t : M Bool) (f : M D) : M D := fun r => (it r).bind fun l r1 => if l.length ≤ big then lcOut vs r1 (lcGo vs g t f l r1) else .no
@[simp] def tY : M Bool := fun r => .ok true r
theorem wipeE_out {r : Ev} {i : Nat} : ∀ {vs : List Nat}, i ∉ vs → (wipeE vs r)[i]? = r[i]?
  | [], _ => rfl
  | v :: vs, h => by
    have h1 : v ≠ i := fun e => h (by rw [e]; exact List.mem_cons_self)
    rw [wipeE, List.getElem?_set_ne h1]
    exact wipeE_out fun m => h (List.mem_cons_of_mem _ m)
theorem wipeE_in {r : Ev} {i : Nat} {d : D} : ∀ {vs : List Nat}, i ∈ vs → (wipeE vs r)[i]? ≠ some (some d)
  | v :: vs, h => by
    rw [wipeE]
    by_cases e : v = i
    · subst e
      by_cases hl : v < (wipeE vs r).length
      · rw [List.getElem?_set_self hl]
        exact fun z => nomatch z
      · rw [List.getElem?_eq_none (by simpa using hl)]
        exact fun z => nomatch z
    · rw [List.getElem?_set_ne e]
      refine wipeE_in ?_
      rcases List.mem_cons.mp h with z | z
      · exact absurd z.symm e
      · exact z
theorem wipeE_len {r : Ev} : ∀ {vs : List Nat}, (wipeE vs r).length = r.length
  | [] => rfl
  | v :: vs => by rw [wipeE, List.length_set, wipeE_len]
theorem backE_out {r q : Ev} {i : Nat} : ∀ {vs : List Nat}, i ∉ vs → (backE r vs q)[i]? = q[i]?
  | [], _ => rfl
  | v :: vs, h => by
    have h1 : v ≠ i := fun e => h (by rw [e]; exact List.mem_cons_self)
    rw [backE, List.getElem?_set_ne h1]
    exact backE_out fun m => h (List.mem_cons_of_mem _ m)
theorem backE_len {r q : Ev} : ∀ {vs : List Nat}, (backE r vs q).length = q.length
  | [] => rfl
  | v :: vs => by rw [backE, List.length_set, backE_len]
theorem backE_in {r q : Ev} {i : Nat} {d : D} : ∀ {vs : List Nat}, i ∈ vs → (backE r vs q)[i]? = some (some d) → r[i]? = some (some d)
  | v :: vs, h, e => by
    rw [backE] at e
    by_cases z : v = i
    · subst z
      by_cases hl : v < (backE r vs q).length
      · rw [List.getElem?_set_self hl] at e
        have e := Option.some.inj e
        rw [List.getD_eq_getElem?_getD] at e
        cases w : r[v]? with
        | none => rw [w] at e; cases e
        | some u => rw [w] at e; exact congrArg some e
      · rw [List.getElem?_eq_none (by simpa using hl)] at e
        cases e
    · rw [List.getElem?_set_ne z] at e
      refine backE_in ?_ e
      rcases List.mem_cons.mp h with w | w
      · exact absurd w.symm z
      · exact w
section
variable {G : Gm} {X : Cx} {W : WX} {OX OL vs O O1 O2 O3 : List Nat}
theorem Sta.wipe {σ : L2.St} {F H : Hp} {r : Ev} (S : Sta G O F H σ r) (hd : ∀ i ∈ vs, i ∉ O) : Sta G O F H (L2.wipe σ vs) (wipeE vs r) := by
  have ho : ∀ i ∈ O, i ∉ vs := fun i hi hv => hd i hv hi
  refine ⟨S.sub, S.nt, S.wf, by rw [wipeE_len, wipe_length]; exact S.len, fun i d hi e => ?_, fun i hi => ?_, fun i j a hi hj ei ej => ?_⟩
  · by_cases hv : i ∈ vs
    · exact absurd e (wipeE_in hv)
    · rw [wipeE_out hv] at e
      rw [wipe_out hv]
      exact S.rp i d hi e
  · rw [wipeE_out (ho i hi), wipe_out (ho i hi)]
    exact S.ow i hi
  · rw [wipe_out (ho i hi)] at ei
    rw [wipe_out (ho j hj)] at ej
    exact S.dj i j a hi hj ei ej
theorem ownAt_wipe {σ : L2.St} {a : Addr} (hd : ∀ i ∈ vs, i ∉ O) : OwnAt O (L2.wipe σ vs) a ↔ OwnAt O σ a := by
  constructor
  · rintro ⟨i, hi, e⟩
    rw [wipe_out fun hv => hd i hv hi] at e
    exact ⟨i, hi, e⟩
  · rintro ⟨i, hi, e⟩
    exact ⟨i, hi, by rw [wipe_out fun hv => hd i hv hi]; exact e⟩
theorem Sta.back {σ : L2.St} {F H F1 H1 : Hp} {r1 q : Ev} (S1 : Sta G O F1 H1 σ r1) (S : Sta G O F H (L2.wipe σ vs) (wipeE vs q)) (sb : Sub F1 F) (hd : ∀ i ∈ vs, i ∉ O) : Sta G O F H σ (backE r1 vs q) := by
  have ho : ∀ i ∈ O, i ∉ vs := fun i hi hv => hd i hv hi
  refine ⟨S.sub, S.nt, S.wf, by rw [backE_len, ← wipeE_len (vs := vs), S.len, wipe_length], fun i d hi e => ?_, fun i hi => ?_, S1.dj⟩
  · by_cases hv : i ∈ vs
    · obtain ⟨v, e1, rp⟩ := S1.rp i d hi (backE_in hv e)
      exact ⟨v, e1, rp.mono sb⟩
    · rw [backE_out hv, ← wipeE_out hv] at e
      obtain ⟨v, e1, rp⟩ := S.rp i d hi e
      rw [wipe_out hv] at e1
      exact ⟨v, e1, rp⟩
  · obtain ⟨d, v, e1, e2, o⟩ := S.ow i hi
    rw [wipeE_out (ho i hi)] at e1
    rw [wipe_out (ho i hi)] at e2
    exact ⟨d, v, by rw [backE_out (ho i hi)]; exact e1, e2, o⟩
theorem putD {σ : L2.St} {F H : Hp} {r : Ev} {Dd : Addr} {o o' : HO} (S : Sta G O F H σ r) (hH : H Dd = some o') (hF : F Dd = none) (hO : ¬ OwnAt O σ Dd) (hi : noIns o = true) (hpl : plainO o' = true := by rfl) : Sta G O F (upd H Dd o) σ r ∧ Stp G.tabs (fun a => a = Dd) F H F (upd H Dd o) := by
  have st : Stp G.tabs (fun a => a = Dd) F H F (upd H Dd o) := ⟨.rfl', fun a u e n _ => by rw [upd_ne n]; exact e, fun _ _ _ _ => rfl, fun _ e => upd_none e, fun _ _ t => tab_at hH hpl (fun a n => upd_ne n) t⟩
  refine ⟨S.stay st (fun a u e => ?_) S.nt (S.wf.upd hi) fun a m z => hO (z ▸ m), st⟩
  obtain ⟨o'', e', g⟩ := S.sub a u e
  refine ⟨o'', ?_, g⟩
  rw [upd_ne fun z => ?_]
  · exact e'
  · rw [z, hF] at e
    cases e
theorem takes_blk {s : Shared} {H : Hp} {scope : Scope} {cenv : PySem.Env} {fp : List Addr} : Takes (X.blk s H scope cenv fp) (fun _ _ _ _ => False) := fun _ _ ⟨_, _, _, _, _, _, _, _, _, _, _, _, _, _, _, _, w⟩ => w.elim
theorem pts_no : PTs X [] (tT G W OX O O tY) := ⟨fun pins s σ H Q I ⟨F, r, S, p⟩ => pts_nil.run pins s σ H Q I (p _ F H (Nx.rfl' S) rfl)⟩
theorem pts_1 {c : Expr} {t : M Bool} (h : PT X c (tT G W OX O O1 t)) : PTs X [c] (tT G W OX O O1 t) := pts_one h
theorem lc_imp {own : List (Str × Nat)} {it : M (List D)} {g : Tg} {t : M Bool} {f : M D} (hvs : own.map (·.2) = vs) (hd : ∀ i ∈ vs, i ∉ O1) (σ : L2.St) (H : Hp) (Q : VK) (h : tF G W OX O O1 (eLc vs it g t f) σ H Q) :
    tLc (iIt G W OX O O1 it) (tG G [] vs O1 O1 g) (tT G (fun _ _ _ _ => False) [] O1 O1 t) (tE G (fun _ _ _ _ => False) [] O1 O1 f) (own.map (·.2)) σ H Q := by
  obtain ⟨F, r, S, p⟩ := h
  refine tX_bind S p fun l J F1 H1 r1 n1 rl p => ?_
  rw [hvs]
  intro Dd hD
  split at p
  case isFalse => exact p.elim
  rename_i hlen
  have fD : F1 Dd = none := by
    cases q : F1 Dd with
    | none => rfl
    | some u =>
      obtain ⟨o', e, _⟩ := n1.sta.sub Dd u q
      rw [hD] at e
      cases e
  have nO : ¬ OwnAt O1 σ Dd := fun ⟨i, hi, e⟩ => by
    obtain ⟨d, v, _, e2, ow⟩ := n1.sta.ow i hi
    rw [e] at e2
    cases e2
    obtain ⟨a, o, ea, ha⟩ := ow.there
    cases ea
    rw [hD] at ha
    cases ha
  -- the walk: what the turns so far have built
  let Pv : Nat → Hp → Prop := fun i H' => ∃ F' r' ys acc, Sta G O1 F' H' (L2.wipe σ vs) (wipeE vs r') ∧ Stp G.tabs (fun a => OwnAt O1 σ a ∨ a = Dd) F1 (upd H1 Dd (.lst [])) F' H' ∧ H' Dd = some (.lst acc) ∧ F' Dd = none ∧ RepL G F' ys acc ∧ acc.length ≤ i ∧
    Pst G W OX O1 O1 σ F1 H1 (RF G O1 σ H) Q (lcOut vs r1 ((lcGo vs g t f (l.drop i) r').map fun (p : List D × Ev) => (ys ++ p.1, p.2)))
  have start := new_ow (o := .lst []) n1.sta hD rfl
  refine lc_it rl Pv ⟨F1, r1, [], [], start.1.wipe hd, .rfl', upd_same, fD, .nil, Nat.zero_le _, ?_⟩ (fun i H' _ ⟨F', r', ys, acc, S', st, _⟩ => st.fz.trans S'.sub) ?_ ?_
  · rw [List.drop_zero]
    have : (lcGo vs g t f l r1).map (fun p => (([] : List D) ++ p.1, p.2)) = lcGo vs g t f l r1 := by
      rw [show (fun p : List D × Ev => (([] : List D) ++ p.1, p.2)) = id from by funext p; rfl]
      simp
    rw [this]
    exact p
  · rintro i x H' H'' hi ⟨F', r', ys, acc, S', st, hDd, fDd, ry, ha, p⟩ ⟨d, ed, y⟩
    have el : l.drop i = d :: l.drop (i + 1) := by
      have hl : i < l.length := hi
      rw [List.drop_eq_getElem_cons hl]
      congr 1
      have := List.getElem?_eq_getElem hl
      rw [this] at ed
      exact Option.some.inj ed
    rw [el, lcGo] at p
    -- the value given: behind it nothing but a new tuple
    have run : ∀ (F2 : Hp), Sta G O1 F2 H'' (L2.wipe σ vs) (wipeE vs r') → Stp G.tabs (fun a => OwnAt O1 σ a ∨ a = Dd) F1 (upd H1 Dd (.lst [])) F2 H'' → H'' Dd = some (.lst acc) → F2 Dd = none → RepL G F2 ys acc → Rep G F2 d x →
        tG G [] vs O1 O1 g x (L2.wipe σ vs) H'' fun σ2 H2 => L2.wipe σ2 vs = L2.wipe σ vs ∧ tT G (fun _ _ _ _ => False) [] O1 O1 t σ2 H2 fun b H3 => if b = true then tE G (fun _ _ _ _ => False) [] O1 O1 f σ2 H3 fun y H4 => ∃ acc, H4 Dd = some (.lst acc) ∧ acc.length < sizeLine ∧ Pv (i + 1) (upd H4 Dd (.lst (acc ++ [y]))) else Pv (i + 1) H3 := fun F2 S2 st2 hD2 fD2 ry2 rx => by
      cases e : g d (wipeE vs r') with
      | none =>
        rw [e] at p
        exact p.elim
      | some r2 =>
        rw [e] at p
        refine ⟨F2, _, d, r2, S2, rx, e, fun σ2 n3 w3 => ?_⟩
        have w3 : L2.wipe σ2 vs = L2.wipe σ vs := by
          have idem : ∀ (l : List Nat) (σ : L2.St), (∀ i ∈ l, i ∈ vs) → L2.wipe (L2.wipe σ l) vs = L2.wipe σ vs := by
            intro l
            induction l with
            | nil => exact fun _ _ => rfl
            | cons a l ih =>
              intro σ h
              rw [L2.wipe, wipe_set (h a List.mem_cons_self)]
              exact ih σ fun i hi => h i (List.mem_cons_of_mem _ hi)
          rw [w3]
          exact idem vs σ fun _ h => h
        refine ⟨w3, F2, r2, n3.sta, ?_⟩
        have mo : ∀ {a}, OwnAt O1 σ2 a → OwnAt O1 σ a := fun {a} m => (ownAt_wipe hd).mp (by rw [← w3]; exact (ownAt_wipe hd).mpr m)
        have nO2 : ¬ OwnAt O1 σ2 Dd := fun m => nO (mo m)
        have p : Pst G W OX O1 O1 σ F1 H1 (RF G O1 σ H) Q (lcOut vs r1 ((match t r2 with
          | .ok true r2 => (match f r2 with
            | .ok y r3 => (lcGo vs g t f (l.drop (i + 1)) r3).map fun (p : List D × Ev) => (y :: p.1, p.2)
            | _ => none)
          | .ok false r2 => lcGo vs g t f (l.drop (i + 1)) r2
          | _ => none).map fun (p : List D × Ev) => (ys ++ p.1, p.2))) := p
        -- one step more: own objects and nothing else changed
        have ext : ∀ {F3 H3 : Hp} {q : Ev}, Nx G [] O1 O1 σ2 F2 H'' σ2 F3 H3 q → Stp G.tabs (fun a => OwnAt O1 σ a ∨ a = Dd) F1 (upd H1 Dd (.lst [])) F3 H3 ∧ H3 Dd = some (.lst acc) ∧ F3 Dd = none ∧ RepL G F3 ys acc := fun {F3 H3 q} n =>
          ⟨st2.trans n.stp fun x m => .inl (.inl (mo m)), n.stp.kp _ _ hD2 nO2, (n.stp.nf _ _ hD2 nO2).trans fD2, ry2.mono n.stp.fz⟩
        have again : ∀ {F3 H3 : Hp} {q : Ev}, Nx G [] O1 O1 σ2 F2 H'' σ2 F3 H3 q → Sta G O1 F3 H3 (L2.wipe σ vs) (wipeE vs q) := fun {F3 H3 q} n => by
          rw [← w3]
          exact n.sta.wipe hd
        revert p
        cases t r2 with
        | no => exact fun p => p.elim
        | ex e q => exact fun p => p.elim
        | ok c r3 =>
          cases c with
          | false =>
            intro p b F3 H3 n eb
            cases eb
            rw [if_neg (by decide)]
            obtain ⟨a1, a2, a3, a4⟩ := ext n
            exact ⟨F3, r3, ys, acc, again n, a1, a2, a3, a4, Nat.le_succ_of_le ha, p⟩
          | true =>
            intro p b F3 H3 n eb
            cases eb
            rw [if_pos rfl]
            have p : Pst G W OX O1 O1 σ F1 H1 (RF G O1 σ H) Q (lcOut vs r1 ((match f r3 with
              | .ok y r3 => (lcGo vs g t f (l.drop (i + 1)) r3).map fun (p : List D × Ev) => (y :: p.1, p.2)
              | _ => none).map fun (p : List D × Ev) => (ys ++ p.1, p.2))) := p
            refine ⟨F3, r3, n.sta, ?_⟩
            revert p
            cases f r3 with
            | no => exact fun p => p.elim
            | ex e q => exact fun p => p.elim
            | ok z r4 =>
              intro p w F4 H4 n4 rw4
              have nn := n.trans n4
              obtain ⟨a1, a2, a3, a4⟩ := ext nn
              refine ⟨acc, a2, ?_, ?_⟩
              · have h1 : acc.length < l.length := Nat.lt_of_le_of_lt ha hi
                exact Nat.lt_of_lt_of_le h1 (big_line hlen)
              · obtain ⟨S5, st5⟩ := putD (o := .lst (acc ++ [w])) (again nn) a2 a3 (fun m => nO ((ownAt_wipe hd).mp m)) rfl
                refine ⟨F4, r4, ys ++ [z], acc ++ [w], S5, a1.trans st5 fun x m => .inl (.inr m), upd_same, a3, a4.app (.cons rw4 .nil), by simp; exact ha, ?_⟩
                rw [Option.map_map] at p
                have : ((fun p : List D × Ev => (ys ++ p.1, p.2)) ∘ fun p : List D × Ev => (z :: p.1, p.2)) = fun p => ((ys ++ [z]) ++ p.1, p.2) := by
                  funext p
                  simp
                rw [this] at p
                exact p
    rcases y with ⟨e1, rd⟩ | ⟨T, xs, ds, rfl, rfl, hT, rfl, rl'⟩
    · subst e1
      exact run F' S' st hDd fDd ry (rd.mono st.fz)
    · obtain ⟨S2, s2⟩ := new_fz (o := .tup xs) S' hT rfl
      have ne : Dd ≠ T := fun z => by rw [z, hT] at hDd; cases hDd
      exact run _ S2 (st.trans s2 fun x m => .inl (.inl ((ownAt_wipe hd).mp m))) (by rw [upd_ne ne]; exact hDd) (by rw [upd_ne ne]; exact fDd) (ry.mono s2.fz) (.tup (.inl (.inl upd_same)) ((rl'.mono st.fz).mono s2.fz))
  · rintro H' ⟨F', r', ys, acc, S', st, hDd, fDd, ry, ha, p⟩
    rw [List.drop_length] at p
    have p : Pst G W OX O1 O1 σ F1 H1 (RF G O1 σ H) Q (.ok (.lst (ys ++ [])) (backE r1 vs r')) := p
    rw [List.append_nil] at p
    refine p _ F' H' ⟨n1.sta.back S' st.fz hd, (start.2.1.trans st fun x m => ?_), fun _ _ => rfl, fun a m => .inl m⟩ ⟨.lst hDd fDd ry, fun a ea => ?_⟩
    · rcases m with m | m
      · exact .inl m
      · exact .inr (by rw [m]; exact hD)
    · cases ea
      exact ⟨n1.stp.tr _ hD, nO⟩
theorem e_lcF {elt tg iter : Expr} {ifs : List Expr} {scope : Scope} {pos : Pos} {it : M (List D)} {g : Tg} {t : M Bool} {f : M D} (own : List (Str × Nat)) (hvs : own.map (·.2) = vs) (hi : PI X tg iter (iIt G W OX O O1 it)) (ok : BlkOk X.N X.env.scope scope own)
    (hg : ∀ (s : Shared) (H : Hp) (C : Addr) (cl : List (Str × Addr)) (fp : List Addr), PG (X.blk s H scope (compEnvC scope cl C X.env) fp) tg (tG G [] vs O1 O1 g)) (ht : ∀ (s : Shared) (H : Hp) (C : Addr) (cl : List (Str × Addr)) (fp : List Addr), PTs (X.blk s H scope (compEnvC scope cl C X.env) fp) ifs (tT G (fun _ _ _ _ => False) [] O1 O1 t))
    (he : ∀ (s : Shared) (H : Hp) (C : Addr) (cl : List (Str × Addr)) (fp : List Addr), PE (X.blk s H scope (compEnvC scope cl C X.env) fp) elt (tE G (fun _ _ _ _ => False) [] O1 O1 f)) (hN : X.N.Nodup := by first | assumption | decide +kernel) (hd : ∀ i ∈ vs, i ∉ O1 := by decide) (hc : X.calm = true := by rfl) (hs : ∀ x, foldedSetIterable iter X.env x = pure x := by intro _; rfl) :
    PE X (.ListComp elt [⟨tg, iter, ifs, 0⟩] scope pos) (tF G W OX O O1 (eLc vs it g t f)) :=
  (pe_lc hc hN hi ok hg ht he hs).imp (lc_imp hvs hd)
end
end Z
namespace Z
open PySem PySem.Spec PyProof.Rows L2
def toInts : List D → Option (List Int)
  | [] => some []
  | .int i :: l => (toInts l).map (i :: ·)
  | _ => none
def toBls : List D → Option (List Bool)
  | [] => some []
  | .bl i :: l => (toBls l).map (i :: ·)
  | _ => none
theorem toInts_eq : ∀ {l : List D} {ns : List Int}, toInts l = some ns → l = ns.map D.int
  | [], ns, e => by cases e; rfl
  | d :: l, ns, e => by
    cases d with
    | int i =>
      obtain ⟨m, e1, e2⟩ := Option.map_eq_some_iff.mp (show (toInts l).map (i :: ·) = some ns from e)
      subst e2
      rw [toInts_eq e1]
      rfl
    | _ => cases e
theorem toInts_map (ns : List Int) : toInts (ns.map D.int) = some ns := by
  induction ns with
  | nil => rfl
  | cons i l ih => rw [List.map_cons, toInts, ih]; rfl
theorem toBls_eq : ∀ {l : List D} {ns : List Bool}, toBls l = some ns → l = ns.map D.bl
  | [], ns, e => by cases e; rfl
  | d :: l, ns, e => by
    cases d with
    | bl i =>
      obtain ⟨m, e1, e2⟩ := Option.map_eq_some_iff.mp (show (toBls l).map (i :: ·) = some ns from e)
      subst e2
      rw [toBls_eq e1]
      rfl
    | _ => cases e
theorem toBls_map (ns : List Bool) : toBls (ns.map D.bl) = some ns := by
  induction ns with
  | nil => rfl
  | cons i l ih => rw [List.map_cons, toBls, ih]; rfl
def lisOf : D → Option (List D)
  | .lst l => some l
  | .kl l => some l
  | _ => none
def pLen : List D → Option D
  | [.str z] => if z.length ≤ big then some (.int z.length) else none
  | [x] => (itemsOf x).map fun l => .int (l.length : Nat)
  | _ => none
def pAbs : List D → Option D
  | [.int i] => some (.int (if i < 0 then -i else i))
  | _ => none
def pInt : List D → Option D
  | [.int i] => some (.int i)
  | [.bl k] => some (.int (if k then 1 else 0))
  | _ => none
def pBool : List D → Option D
  | [.int i] => some (.bl (i != 0))
  | [.bl k] => some (.bl k)
  | _ => none
def pAll : List D → Option D
  | [x] => (lisOf x).bind fun l => (toBls l).map fun ns => .bl (ns.all id)
  | _ => none
def pTuple : List D → Option D
  | [x] => (itemsOf x).map fun l => .tup l
  | _ => none
def pList : List D → Option D
  | [x] => (itemsOf x).map fun l => .lst l
  | _ => none
def pGcd : List D → Option D
  | [.int a, .int b] => some (.int ((Nat.gcd a.natAbs b.natAbs : Nat) : Int))
  | _ => none
def pMax2 : List D → Option D
  | [.int i, .int j] => some (.int (if j > i then j else i))
  | _ => none
section
variable {G : Gm} {X : Cx} {W : WX} {OX OL vs O O1 O2 O3 : List Nat}
def Says (G : Gm) (X : Cx) (W : WX) (OX O : List Nat) (p : List D → Option D) (rr : List V → Hp → VK → Prop) : Prop :=
  ∀ (σ : L2.St) (F H : Hp) (r : Ev) (ds : List D) (vs : List V) (d : D) (Q : VK), Sta G O F H σ r → RepL G F ds vs → p ds = some d → Pst G W OX O O σ F H (RD G) Q (.ok d r) → rr vs H Q
theorem says_of {p : List D → Option D} {rr : List V → Hp → VK → Prop} (h : Says G X W OX O1 p rr) {t : List Expr} {f : M (List D)} {σ : L2.St} {H : Hp} {Q : VK} (q : tE G W OX O O1 (eN p f) σ H Q) : tCB rr (tA G W OX O O1 f) σ H Q := by
  obtain ⟨F, r, S, q⟩ := q
  refine tX_bind S q fun ds vs F1 H1 r1 n1 rs q => ?_
  obtain ⟨d, e, q⟩ := q.lift
  exact h σ F1 H1 r1 ds vs d Q n1.sta rs e q
theorem e_cB {x : Str} {id : String} {e : Expr} {es : List Expr} {pp pos : Pos} {f : M (List D)} {rr : List V → Hp → VK → Prop} (p : List D → Option D) (hc : CallR X (.builtin id) rr) (hp : Says G X W OX O1 p rr) (ha : PA X (e :: es) (tA G W OX O O1 f)) (hm : X.mg x = none := by assumption) (hv : bootBuiltins x = some (.builtin id) := by first | assumption | decide +kernel) (hg : Gl X x := by rfl) (hn : x ≠ "__name__" := by decide) (hdb : (x == ("__debug__" : Str)) = false := by decide)
    (he : starEach (e :: es) X.env = (false, eval e X.env) :: starEach es X.env := by rfl) (hpl : (backTo pos (starEach es X.env)).any (·.1) = false := by rfl) : PE X (.Call (.Name x pp) (e :: es) [] pos) (tE G W OX O O1 (eN p f)) :=
  (pe_callB hc hg hm hv ha hn hdb he hpl).imp fun σ H Q q => says_of (t := es) hp q
theorem e_cT {x : Str} {id : String} {e : Expr} {es : List Expr} {pp pos : Pos} {f : M (List D)} {rr : List V → Hp → VK → Prop} (p : List D → Option D) (hc : CallR X (.type id) rr) (hp : Says G X W OX O1 p rr) (ha : PA X (e :: es) (tA G W OX O O1 f)) (hm : X.mg x = none := by assumption) (hv : bootBuiltins x = some (.type id) := by first | assumption | decide +kernel) (hg : Gl X x := by rfl) (hn : x ≠ "__name__" := by decide) (hdb : (x == ("__debug__" : Str)) = false := by decide)
    (he : starEach (e :: es) X.env = (false, eval e X.env) :: starEach es X.env := by rfl) (hpl : (backTo pos (starEach es X.env)).any (·.1) = false := by rfl) : PE X (.Call (.Name x pp) (e :: es) [] pos) (tE G W OX O O1 (eN p f)) :=
  (pe_callTy hc hg hm hv ha hn hdb he hpl).imp fun σ H Q q => says_of (t := es) hp q
theorem e_cM {x : Str} {id : String} {e : Expr} {es : List Expr} {pp pos : Pos} {f : M (List D)} {rr : List V → Hp → VK → Prop} (p : List D → Option D) (hc : CallR X (.builtin id) rr) (hp : Says G X W OX O1 p rr) (ha : PA X (e :: es) (tA G W OX O O1 f)) (hm : X.mg x = some (.builtin id)) (hg : Gl X x := by rfl) (hdb : (x == ("__debug__" : Str)) = false := by decide)
    (he : starEach (e :: es) X.env = (false, eval e X.env) :: starEach es X.env := by rfl) (hpl : (backTo pos (starEach es X.env)).any (·.1) = false := by rfl) : PE X (.Call (.Name x pp) (e :: es) [] pos) (tE G W OX O O1 (eN p f)) :=
  (pe_callBfun hc hg hm ha hdb he hpl).imp fun σ H Q q => says_of (t := es) hp q
theorem lis_of {F : Hp} {x : D} {v : V} {l : List D} (h : Rep G F x v) (e : lisOf x = some l) : ∃ a xs, v = .ref a ∧ (∀ H, Sub F H → SqL G.K H a xs) ∧ RepL G F l xs := by
  cases h with
  | lst h r => cases e; exact ⟨_, _, rfl, fun H sb => sb.sqL (.inl (.inl h)), r⟩
  | kl h r => cases e; exact ⟨_, _, rfl, fun H sb => sb.sqL h, r⟩
  | _ => cases e
theorem e_len {x : Expr} {xs : List Expr} {pp pos : Pos} {f : M (List D)} (ha : PA X (x :: xs) (tA G W OX O O1 f)) (hm : X.mg "len" = none := by assumption) (hg : Gl X "len" := by rfl) (hK : X.K = G.K := by rfl)
    (he : starEach (x :: xs) X.env = (false, eval x X.env) :: starEach xs X.env := by rfl) (hpl : (backTo pos (starEach xs X.env)).any (·.1) = false := by rfl) : PE X (.Call (.Name "len" pp) (x :: xs) [] pos) (tE G W OX O O1 (eN pLen f)) :=
  e_cB pLen call_len (fun σ F H r ds vs d Q S rs e q => by
    unfold pLen at e
    split at e
    · split at e
      · rename_i hz
        cases e
        cases rs with
        | cons r1 rr =>
          cases rr
          cases r1
          exact ⟨_, _, rfl, ⟨big_line hz, rfl⟩, q.ok S .int⟩
      · cases e
    · obtain ⟨l, e1, e2⟩ := Option.map_eq_some_iff.mp e
      subst e2
      cases rs with
      | cons r1 rr =>
        cases rr
        obtain ⟨a, xs, rfl, hq, rl⟩ := r1.items S.sub e1
        rw [hK]
        rw [rl.length] at q
        exact ⟨_, xs.length, rfl, hq.elim (fun h => .inl ⟨_, h, rfl⟩) fun h => .inr ⟨_, h, rfl⟩, q.ok S .int⟩
    · cases e) ha hm (hg := hg) (he := he) (hpl := hpl)
theorem e_abs {x : Expr} {xs : List Expr} {pp pos : Pos} {f : M (List D)} (ha : PA X (x :: xs) (tA G W OX O O1 f)) (hm : X.mg "abs" = none := by assumption) (hg : Gl X "abs" := by rfl)
    (he : starEach (x :: xs) X.env = (false, eval x X.env) :: starEach xs X.env := by rfl) (hpl : (backTo pos (starEach xs X.env)).any (·.1) = false := by rfl) : PE X (.Call (.Name "abs" pp) (x :: xs) [] pos) (tE G W OX O O1 (eN pAbs f)) :=
  e_cB pAbs call_abs (fun σ F H r ds vs d Q S rs e q => by
    unfold pAbs at e
    split at e
    · cases e
      cases rs with
      | cons r1 rr => cases rr; cases r1; exact ⟨_, rfl, q.ok S .int⟩
    · cases e) ha hm (hg := hg) (he := he) (hpl := hpl)
theorem e_toInt {x : Expr} {xs : List Expr} {pp pos : Pos} {f : M (List D)} (ha : PA X (x :: xs) (tA G W OX O O1 f)) (hm : X.mg "int" = none := by assumption) (hg : Gl X "int" := by rfl)
    (he : starEach (x :: xs) X.env = (false, eval x X.env) :: starEach xs X.env := by rfl) (hpl : (backTo pos (starEach xs X.env)).any (·.1) = false := by rfl) : PE X (.Call (.Name "int" pp) (x :: xs) [] pos) (tE G W OX O O1 (eN pInt f)) :=
  e_cT pInt call_int1 (fun σ F H r ds vs d Q S rs e q => by
    unfold pInt at e
    split at e
    · cases e
      cases rs with
      | cons r1 rr => cases rr; cases r1; exact .inl ⟨_, rfl, q.ok S .int⟩
    · cases e
      cases rs with
      | cons r1 rr => cases rr; cases r1; exact .inr ⟨_, rfl, q.ok S .int⟩
    · cases e) ha hm (hg := hg) (he := he) (hpl := hpl)
theorem e_all {x : Expr} {xs : List Expr} {pp pos : Pos} {f : M (List D)} (ha : PA X (x :: xs) (tA G W OX O O1 f)) (hm : X.mg "all" = none := by assumption) (hg : Gl X "all" := by rfl) (hc : X.calm = true := by rfl) (hK : X.K = G.K := by rfl)
    (he : starEach (x :: xs) X.env = (false, eval x X.env) :: starEach xs X.env := by rfl) (hpl : (backTo pos (starEach xs X.env)).any (·.1) = false := by rfl) : PE X (.Call (.Name "all" pp) (x :: xs) [] pos) (tE G W OX O O1 (eN pAll f)) :=
  e_cB pAll (cr_all hc) (fun σ F H r ds vs d Q S rs e q => by
    unfold pAll at e
    split at e
    · obtain ⟨l, e1, e2⟩ := Option.bind_eq_some_iff.mp e
      obtain ⟨ns, e3, e4⟩ := Option.map_eq_some_iff.mp e2
      subst e4
      cases rs with
      | cons r1 rr =>
        cases rr
        obtain ⟨a, xs, rfl, hq, rl⟩ := lis_of r1 e1
        rw [toBls_eq e3] at rl
        rw [hK]
        exact ⟨a, ns, rfl, by rw [← rl.bls]; exact hq H S.sub, q.ok S .bl⟩
    · cases e) ha hm (hg := hg) (he := he) (hpl := hpl)
theorem e_tuple {x : Expr} {xs : List Expr} {pp pos : Pos} {f : M (List D)} (ha : PA X (x :: xs) (tA G W OX O O1 f)) (hm : X.mg "tuple" = none := by assumption) (hg : Gl X "tuple" := by rfl) (hK : X.K = G.K := by rfl)
    (he : starEach (x :: xs) X.env = (false, eval x X.env) :: starEach xs X.env := by rfl) (hpl : (backTo pos (starEach xs X.env)).any (·.1) = false := by rfl) : PE X (.Call (.Name "tuple" pp) (x :: xs) [] pos) (tE G W OX O O1 (eN pTuple f)) :=
  e_cT pTuple call_tuple_of (fun σ F H r ds vs d Q S rs e q => by
    unfold pTuple at e
    split at e
    · obtain ⟨l, e1, e2⟩ := Option.map_eq_some_iff.mp e
      subst e2
      cases rs with
      | cons r1 rr =>
        cases rr
        rw [hK]
        obtain ⟨a, xs, rfl, hq, rl⟩ := r1.itemsF e1
        rcases hq with hq | hq
        · exact ⟨a, xs, rfl, .inl ⟨S.sub.sqL hq, fun p hp => q.fz S hp rfl fun F' hF sb => .tup (.inl (.inl hF)) (rl.mono sb)⟩⟩
        · exact ⟨a, xs, rfl, .inr ⟨S.sub.sqT hq, q.ok S (.tup hq rl)⟩⟩
    · cases e) ha hm (hg := hg) (he := he) (hpl := hpl)
theorem e_gcd {x : Expr} {xs : List Expr} {pp pos : Pos} {f : M (List D)} {nm : Str} (ha : PA X (x :: xs) (tA G W OX O O1 f)) (hm : X.mg nm = some (.builtin "math.gcd")) (hg : Gl X nm := by rfl) (hdb : (nm == ("__debug__" : Str)) = false := by decide)
    (he : starEach (x :: xs) X.env = (false, eval x X.env) :: starEach xs X.env := by rfl) (hpl : (backTo pos (starEach xs X.env)).any (·.1) = false := by rfl) : PE X (.Call (.Name nm pp) (x :: xs) [] pos) (tE G W OX O O1 (eN pGcd f)) :=
  e_cM pGcd cr_gcd (fun σ F H r ds vs d Q S rs e q => by
    unfold pGcd at e
    split at e
    · cases e
      cases rs with
      | cons r1 rr =>
        cases rr with
        | cons r2 rr => cases rr; cases r1; cases r2; exact ⟨_, _, rfl, q.ok S .int⟩
    · cases e) ha hm hg hdb he hpl
theorem e_max2 {x : Expr} {xs : List Expr} {pp pos : Pos} {f : M (List D)} (ha : PA X (x :: xs) (tA G W OX O O1 f)) (hm : X.mg "max" = none := by assumption) (hg : Gl X "max" := by rfl) (hc : X.calm = true := by rfl)
    (he : starEach (x :: xs) X.env = (false, eval x X.env) :: starEach xs X.env := by rfl) (hpl : (backTo pos (starEach xs X.env)).any (·.1) = false := by rfl) : PE X (.Call (.Name "max" pp) (x :: xs) [] pos) (tE G W OX O O1 (eN pMax2 f)) :=
  e_cB pMax2 (call_max2 hc) (fun σ F H r ds vs d Q S rs e q => by
    unfold pMax2 at e
    split at e
    · cases e
      cases rs with
      | cons r1 rr =>
        cases rr with
        | cons r2 rr => cases rr; cases r1; cases r2; exact ⟨_, _, rfl, q.ok S .int⟩
    · cases e) ha hm (hg := hg) (he := he) (hpl := hpl)
theorem e_listF {x : Expr} {xs : List Expr} {pp pos : Pos} {f : M (List D)} (ha : PA X (x :: xs) (tA G W OX O O1 f)) (hm : X.mg "list" = none := by assumption) (hg : Gl X "list" := by rfl) (hK : X.K = G.K := by rfl)
    (he : starEach (x :: xs) X.env = (false, eval x X.env) :: starEach xs X.env := by rfl) (hpl : (backTo pos (starEach xs X.env)).any (·.1) = false := by rfl) : PE X (.Call (.Name "list" pp) (x :: xs) [] pos) (tF G W OX O O1 (eN pList f)) :=
  (pe_callTy call_list_of hg hm (by decide +kernel) ha (by decide) (by decide) he hpl).imp fun σ H Q ⟨F, r, S, q⟩ => tX_bind S q fun ds vs F1 H1 r1 n1 rs q => by
    revert q
    cases e : pList ds with
    | none => exact fun q => q.elim
    | some d =>
      intro q
      unfold pList at e
      split at e
      · obtain ⟨l, e1, e2⟩ := Option.map_eq_some_iff.mp e
        subst e2
        cases rs with
        | cons r1 rr =>
          cases rr
          rw [hK]
          obtain ⟨a, ys, rfl, hq, rl⟩ := r1.items n1.sta.sub e1
          refine ⟨a, ys, rfl, hq, fun p hp => ?_⟩
          obtain ⟨S2, s2, fp⟩ := new_ow (o := .lst ys) n1.sta hp rfl
          refine q _ F1 _ (Nx.of S2 s2 fun _ h => h) ⟨.lst upd_same fp rl, fun b eb => ?_⟩
          cases eb
          refine ⟨n1.stp.tr _ hp, fun ⟨i, hi, ei⟩ => ?_⟩
          obtain ⟨d', v', _, e2', ow⟩ := n1.sta.ow i hi
          rw [ei] at e2'
          cases e2'
          obtain ⟨b, o, eb, hb⟩ := ow.there
          cases eb
          rw [hp] at hb
          cases hb
      · cases e
def bTys : List String := ["int", "bool", "str", "list", "tuple", "dict"]
def kT (cls : List Nat) (n : String) (x : D) : Option Bool := match x with
  | .ob c _ => if cls.contains c then some false else none
  | x => (tyN x).map fun m => m == n || (m == "bool" && n == "int")
def kO (tb : List (Nat × Bool)) (x : D) : Option Bool := match x with
  | .ob c _ => tb.lookup c
  | x => (tyN x).map fun _ => false
def kAny (ks : List (D → Option Bool)) (x : D) : Option Bool := match ks with
  | [] => some false
  | k :: ks => (k x).bind fun b => if b then some true else kAny ks x
@[simp] def eIsi (k : D → Option Bool) (f : M D) : M D := fun r => (f r).bind fun x r1 => match k x with
  | some b => .ok (.bl b) r1
  | none => .no
structure Kn (G : Gm) (u : Value) (k : D → Option Bool) : Prop where
  at_ : ∀ x b, k x = some b → ∃ t, tyV G x = some t ∧ (∀ c l, x = .ob c l → TyOk G c) ∧ PySem.W.kitOne G.K t u = some b
theorem kitB_all : (allTy.all fun m => bTys.all fun n => kitB m n == some (m == n || (m == "bool" && n == "int"))) = true := by decide +kernel
theorem tyN_in {x : D} {m : String} (e : tyN x = some m) : m ∈ allTy := by
  cases x <;> simp [tyN] at e <;> subst e <;> decide
theorem tyV_of {x : D} {m : String} (e : tyN x = some m) : tyV G x = some (.type m) := by
  cases x <;> simp [tyN] at e <;> subst e <;> rfl
theorem kn_ty {n : String} (cls : List Nat) (hc : ∀ c ∈ cls, TyOk G c ∧ PySem.W.kitOne G.K (.ref (G.cA c)) (.type n) = some false) (hn : n ∈ bTys := by decide) : Kn G (.type n) (kT cls n) := ⟨fun x b e => by
  have key : ∀ m, tyN x = some m → (tyN x).map (fun m => m == n || (m == "bool" && n == "int")) = some b → ∃ t, tyV G x = some t ∧ (∀ c l, x = .ob c l → TyOk G c) ∧ PySem.W.kitOne G.K t (.type n) = some b := fun m e1 e => by
    rw [e1] at e
    refine ⟨.type m, tyV_of e1, fun c l z => (by subst z; cases e1), ?_⟩
    have h := List.all_eq_true.mp (List.all_eq_true.mp kitB_all m (tyN_in e1)) n hn
    rw [beq_iff_eq] at h
    exact (kit_ty h).trans e
  cases x with
  | ob c l =>
    unfold kT at e
    split at e
    · rename_i c' l' z
      cases z
      split at e
      · rename_i hm
        cases e
        obtain ⟨h1, h2⟩ := hc c (by simpa using hm)
        exact ⟨_, rfl, fun c' l' z => (by cases z; exact h1), h2⟩
      · cases e
    · rename_i h
      exact absurd rfl (h c l)
  | xo c l => cases e
  | non => exact key _ rfl e
  | bl b => exact key _ rfl e
  | int i => exact key _ rfl e
  | str s => exact key _ rfl e
  | tup l => exact key _ rfl e
  | lst l => exact key _ rfl e
  | kl l => exact key _ rfl e
  | dic ks l => exact key _ rfl e
  | ftp l => cases e
  | dkl ks l => exact key _ rfl e⟩
theorem kn_own {k : Nat} (tb : List (Nat × Bool)) (hc : ∀ c b, tb.lookup c = some b → TyOk G c ∧ PySem.W.kitOne G.K (.ref (G.cA c)) (.ref (G.cA k)) = some b) (hb : ∀ m ∈ allTy, PySem.W.kitOne G.K (.type m) (.ref (G.cA k)) = some false) : Kn G (.ref (G.cA k)) (kO tb) := ⟨fun x b e => by
  have key : ∀ m, tyN x = some m → (tyN x).map (fun _ => false) = some b → ∃ t, tyV G x = some t ∧ (∀ c l, x = .ob c l → TyOk G c) ∧ PySem.W.kitOne G.K t (.ref (G.cA k)) = some b := fun m e1 e => by
    rw [e1] at e
    cases e
    exact ⟨.type m, tyV_of e1, fun c l z => (by subst z; cases e1), hb m (tyN_in e1)⟩
  cases x with
  | ob c l =>
    obtain ⟨h1, h2⟩ := hc c b e
    exact ⟨_, rfl, fun c' l' z => (by cases z; exact h1), h2⟩
  | xo c l => cases e
  | non => exact key _ rfl e
  | bl b => exact key _ rfl e
  | int i => exact key _ rfl e
  | str s => exact key _ rfl e
  | tup l => exact key _ rfl e
  | lst l => exact key _ rfl e
  | kl l => exact key _ rfl e
  | dic ks l => exact key _ rfl e
  | ftp l => cases e
  | dkl ks l => exact key _ rfl e⟩
structure CVl (X : Cx) (c : Expr) (v : V) (u : Value) : Prop where
  pe : PE X c (tC v)
  cv : ClsV v u
theorem cv_ty {x : Str} {n : String} {pos : Pos} (hm : X.mg x = none := by assumption) (hv : bootBuiltins x = some (.type n) := by decide +kernel) (hg : Gl X x := by rfl) (hn : x ≠ "__name__" := by decide) (hdb : (x == ("__debug__" : Str)) = false := by decide) : CVl X (.Name x pos) (.ty n) (.type n) :=
  ⟨⟨fun pins s σ H Q I q => ld_blt I hg hm hv ⟨.ty n, H, I, rfl, q⟩ hn hdb⟩, .ty n⟩
theorem cv_own {x : Str} {C : Addr} {pos : Pos} (hm : X.mg x = some (.ref C)) (hg : Gl X x := by rfl) (hdb : (x == ("__debug__" : Str)) = false := by decide) : CVl X (.Name x pos) (.ref C) (.ref C) :=
  ⟨pe_glob hg hm rfl hdb, .own C⟩
theorem e_isi {e c : Expr} {pp pos : Pos} {f : M D} {v : V} {u : Value} {k : D → Option Bool} (he : PE X e (tE G W OX O O1 f)) (hc : CVl X c v u) (hk : Kn G u k) (hm : X.mg "isinstance" = none := by assumption) (hg : Gl X "isinstance" := by rfl) (hK : X.K = G.K := by rfl)
    (hs : starEach [e, c] X.env = (false, eval e X.env) :: starEach [c] X.env := by rfl) (hs2 : starEach [c] X.env = (false, eval c X.env) :: starEach [] X.env := by rfl) (hpl : (backTo pos (starEach [c] X.env)).any (·.1) = false := by rfl) :
    PE X (.Call (.Name "isinstance" pp) [e, c] [] pos) (tE G W OX O O1 (eIsi k f)) :=
  (pe_callB call_isi hg hm (by decide +kernel) (pa_cons he (pa_cons hc.pe pa_nil hs2) hs) (by decide) (by decide) hs hpl).imp fun σ H Q ⟨F, r, S, q⟩ => tX_bind S q fun x w F1 H1 r1 n1 rx q => by
    revert q
    cases e1 : k x with
    | none => exact fun q => q.elim
    | some b =>
      intro q
      obtain ⟨t, e2, e3, e4⟩ := hk.at_ x b e1
      rw [hK]
      exact ⟨w, v, t, u, b, rfl, hc.cv, rx.ty n1.sta.sub e3 e2, e4, q.ok n1.sta .bl⟩
structure CVs (G : Gm) (X : Cx) (cs : List Expr) (vs : List V) (us : List Value) (ks : List (D → Option Bool)) : Prop where
  pa : PA X cs (fun σ H Q => Q vs H)
  cv : Paired ClsV vs us
  kn : ∀ x b, kAny ks x = some b → cs ≠ [] → ∃ t, tyV G x = some t ∧ (∀ c l, x = .ob c l → TyOk G c) ∧ PySem.W.kitAny G.K t us = some b
theorem cvs_nil : CVs G X [] [] [] [] := ⟨pa_nil, .nil, fun _ _ _ z => absurd rfl z⟩
theorem cvs_cons {c : Expr} {cs : List Expr} {v : V} {vs : List V} {u : Value} {us : List Value} {k : D → Option Bool} {ks : List (D → Option Bool)} (h : CVl X c v u) (hk : Kn G u k) (ht : CVs G X cs vs us ks) (hs : starEach (c :: cs) X.env = (false, eval c X.env) :: starEach cs X.env := by rfl)
    (h0 : cs = [] → us = [] ∧ ks = [] := by first | exact fun _ => ⟨rfl, rfl⟩ | exact fun z => nomatch z) : CVs G X (c :: cs) (v :: vs) (u :: us) (k :: ks) := by
  refine ⟨pa_cons h.pe ht.pa hs, .cons h.cv ht.cv, fun x b e _ => ?_⟩
  unfold kAny at e
  obtain ⟨b1, e1, e2⟩ := Option.bind_eq_some_iff.mp e
  obtain ⟨t, h1, h2, h3⟩ := hk.at_ x b1 e1
  refine ⟨t, h1, h2, kitAny_cons h3 (fun z => ?_) fun z => ?_⟩
  · rw [if_neg (by simp [z])] at e2
    by_cases hc : cs = []
    · obtain ⟨q1, q2⟩ := h0 hc
      subst q1 q2
      cases e2
      exact kitAny_nil
    · obtain ⟨t', h4, _, h5⟩ := ht.kn x b e2 hc
      rw [h1] at h4
      cases h4
      exact h5
  · rw [if_pos z] at e2
    cases e2
    rfl
theorem e_isT {e c : Expr} {cs : List Expr} {kk : Nat} {pp pt pos : Pos} {f : M D} {v : List V} {u : List Value} {ks : List (D → Option Bool)} (he : PE X e (tE G W OX O O1 f)) (hc : CVs G X (c :: cs) v u ks) (hm : X.mg "isinstance" = none := by assumption) (hg : Gl X "isinstance" := by rfl) (hK : X.K = G.K := by rfl)
    (hz : v.length ≤ 64 := by decide)
    (hs : starEach [e, .Tuple (c :: cs) kk pt] X.env = (false, eval e X.env) :: starEach [.Tuple (c :: cs) kk pt] X.env := by rfl) (hs2 : starEach [.Tuple (c :: cs) kk pt] X.env = (false, eval (.Tuple (c :: cs) kk pt) X.env) :: starEach [] X.env := by rfl) (hpl : (backTo pos (starEach [.Tuple (c :: cs) kk pt] X.env)).any (·.1) = false := by rfl) :
    PE X (.Call (.Name "isinstance" pp) [e, .Tuple (c :: cs) kk pt] [] pos) (tE G W OX O O1 (eIsi (kAny ks) f)) :=
  have ht : PE X (.Tuple (c :: cs) kk pt) (fun σ H Q => ∀ p, H p = none → Q (.ref p) (upd H p (.tup v))) := (pe_tup hc.pa).imp fun σ H Q q => ⟨Nat.le_trans hz (by rw [sizeLine_eq]; decide), q⟩
  (pe_callB call_isiT hg hm (by decide +kernel) (pa_cons he (pa_cons ht pa_nil hs2) hs) (by decide) (by decide) hs hpl).imp fun σ H Q ⟨F, r, S, q⟩ => tX_bind S q fun x w F1 H1 r1 n1 rx q => by
    revert q
    cases e1 : kAny ks x with
    | none => exact fun q => q.elim
    | some b =>
      intro q p hp
      obtain ⟨t, e2, e3, e4⟩ := hc.kn x b e1 (fun z => nomatch z)
      obtain ⟨S2, s2⟩ := new_fz (o := .tup v) n1.sta hp rfl
      rw [hK]
      exact ⟨w, p, v, t, u, b, rfl, upd_same, hc.cv, (rx.mono s2.fz).ty S2.sub e3 e2, e4, q _ _ _ (Nx.of S2 s2 fun _ h => h) .bl⟩
end
end Z
namespace Z
open PySem PySem.Spec PyProof.Rows L2
@[simp] def sTg (g : Tg) (f : M D) : M Fl := fun r => (f r).bind fun d r1 => match g d r1 with
  | some r2 => .ok .nx r2
  | none => .no
@[simp] def sPar (gs : List Tg) (f : M (List D)) : M Fl := fun r => (f r).bind fun ds r1 => match gTs gs ds r1 with
  | some r2 => .ok .nx r2
  | none => .no
@[simp] def sAsF (i : Nat) (f : M D) : M Fl := fun r => (f r).bind fun d r1 => if i < r1.length then .ok .nx (r1.set i (some d)) else .no
@[simp] def sFl (i : Nat) (tb : List (Nat × Nat)) (f : M D) : M Fl := fun r => (f r).bind fun d r1 => match r1[i]? with
  | some (some (.ob c l)) => (match tb.lookup c with
    | some j => if j = l.length then .ok .nx (r1.set i (some (.ob c (l ++ [d])))) else .no
    | none => .no)
  | _ => .no
def ixSet (l : List D) (y d : D) : Option (List D) := match y with
  | .int k => (ixN l.length k).map fun j => l.set j d
  | _ => none
@[simp] def sIx (i : Nat) (f g : M D) : M Fl := fun r => (f r).bind fun d r1 => (g r1).bind fun y r2 => match r2[i]? with
  | some (some (.lst l)) => (match ixSet l y d with
    | some m => .ok .nx (r2.set i (some (.lst m)))
    | none => .no)
  | _ => .no
section
variable {G : Gm} {X : Cx} {W : WX} {OX OL vs O O1 O2 O3 : List Nat}
theorem s_asg {tg e : Expr} {pos : Pos} {g : Tg} {f : M D} (he : PE X e (tE G W OX O O1 f)) (hg : PG X tg (tG G OX vs O1 O2 g)) (hs : swapsWithSole [tg] e pos.line X.env = pure false := by rfl) (hw : swappedStores [tg] e X.env = pure none := by rfl) (h1 : (assignEach [tg] X.env).map (·.2) = [assign tg X.env] := by rfl) :
    PS X (.Assign [tg] e pos) (tS G W OX OL O O2 (sTg g f)) :=
  (ps_asg he hg hs hw h1).imp fun Dn σ H ⟨F, r, S, p⟩ => tS_bind S p fun d v F1 H1 r1 n1 rd p => by
    revert p
    cases e1 : g d r1 with
    | none => exact fun p => p.elim
    | some r2 => exact fun p => ⟨F1, r1, d, r2, n1.sta, rd, e1, fun σ2 n2 _ => p σ2 F1 H1 n2⟩
theorem s_par2 {x y : Str} {a b : Expr} {px py pt pos : Pos} {kt k2 pt2} {f : M (List D)} (i j : Nat) (ha : PA X [a, b] (tA G W OX O O1 f)) (hx1 : i ∉ OX := by decide) (hx2 : j ∉ OX := by decide) (hij : i ≠ j := by decide) (hN : X.N.Nodup := by first | assumption | decide +kernel) (hi : X.N[i]? = some x := by rfl) (hj : X.N[j]? = some y := by rfl)
    (hx : X.env.scope.names.lookup x = some .local := by rfl) (hy : X.env.scope.names.lookup y = some .local := by rfl) (hc : X.calm = true := by rfl) (hw : swappedStores [.Tuple [.Name x px, .Name y py] kt pt] (.Tuple [a, b] k2 pt2) X.env = pure (some [x, y]) := by rfl)
    (hs : swapsWithSole [.Tuple [.Name x px, .Name y py] kt pt] (.Tuple [a, b] k2 pt2) pos.line X.env = pure false := by rfl) : PS X (.Assign [.Tuple [.Name x px, .Name y py] kt pt] (.Tuple [a, b] k2 pt2) pos) (tS G W OX OL O ((O1.filter (· != i)).filter (· != j)) (sPar [gN i, gN j] f)) :=
  (ps_par hc hN hi hj hij hx hy ha hw hs).imp fun Dn σ H ⟨F, r, S, p⟩ => tS_bind S p fun ds vs F1 H1 r1 n1 rs p => by
    match rs, p with
    | .cons ra (.cons rb .nil), p =>
      have m1 := nx_set (OX := OX) i n1.sta ra hx1
      have m2 := nx_set (OX := OX) j m1.sta rb hx2
      exact ⟨_, _, rfl, p _ _ _ (m1.trans m2)⟩
    | .nil, p => exact p.elim
    | .cons _ .nil, p => exact p.elim
    | .cons _ (.cons _ (.cons _ _)), p => exact p.elim
theorem s_par3 {x y z : Str} {a b c : Expr} {px py pz pt pos : Pos} {kt k2 pt2} {f : M (List D)} (i j l : Nat) (ha : PA X [a, b, c] (tA G W OX O O1 f)) (hx1 : i ∉ OX := by decide) (hx2 : j ∉ OX := by decide) (hx3 : l ∉ OX := by decide) (hij : i ≠ j := by decide) (hil : i ≠ l := by decide) (hjl : j ≠ l := by decide) (hN : X.N.Nodup := by first | assumption | decide +kernel) (hi : X.N[i]? = some x := by rfl) (hj : X.N[j]? = some y := by rfl) (hl : X.N[l]? = some z := by rfl)
    (hx : X.env.scope.names.lookup x = some .local := by rfl) (hy : X.env.scope.names.lookup y = some .local := by rfl) (hz : X.env.scope.names.lookup z = some .local := by rfl) (hc : X.calm = true := by rfl) (hw : swappedStores [.Tuple [.Name x px, .Name y py, .Name z pz] kt pt] (.Tuple [a, b, c] k2 pt2) X.env = pure (some [x, y, z]) := by rfl)
    (hs : swapsWithSole [.Tuple [.Name x px, .Name y py, .Name z pz] kt pt] (.Tuple [a, b, c] k2 pt2) pos.line X.env = pure false := by rfl) : PS X (.Assign [.Tuple [.Name x px, .Name y py, .Name z pz] kt pt] (.Tuple [a, b, c] k2 pt2) pos) (tS G W OX OL O (((O1.filter (· != i)).filter (· != j)).filter (· != l)) (sPar [gN i, gN j, gN l] f)) :=
  (ps_par3 hc hN hi hj hl hij hil hjl hx hy hz ha hw hs).imp fun Dn σ H ⟨F, r, S, p⟩ => tS_bind S p fun ds vs F1 H1 r1 n1 rs p => by
    match rs, p with
    | .cons ra (.cons rb (.cons rc .nil)), p =>
      have m1 := nx_set (OX := OX) i n1.sta ra hx1
      have m2 := nx_set (OX := OX) j m1.sta rb hx2
      have m3 := nx_set (OX := OX) l m2.sta rc hx3
      exact ⟨_, _, _, rfl, p _ _ _ ((m1.trans m2).trans m3)⟩
    | .nil, p => exact p.elim
    | .cons _ .nil, p => exact p.elim
    | .cons _ (.cons _ .nil), p => exact p.elim
    | .cons _ (.cons _ (.cons _ (.cons _ _))), p => exact p.elim
theorem own_set {σ : L2.St} {F H F1 H1 : Hp} {r1 : Ev} {d : D} {v : V} (i : Nat) (n1 : Nx G OX O O1 σ F H σ F1 H1 r1) (h : RF G O1 σ H F1 H1 d v) (hi : i < r1.length) (hx : i ∉ OX) : Nx G OX O (i :: O1.filter (· != i)) σ F H (σ.set i (some v)) F1 H1 (r1.set i (some d)) := by
  refine ⟨n1.sta.setOwn i h.1 hi fun a ea => (h.2 a ea).2, n1.stp, fun j hj => ?_, fun a m => ?_⟩
  · exact List.getElem?_set_ne (fun z : i = j => hx (by rw [z]; exact hj))
  · obtain ⟨j, hj, e⟩ := m
    by_cases q : i = j
    · subst q
      rw [List.getElem?_set_self (by rw [← n1.sta.len]; exact hi)] at e
      cases e
      exact .inr (h.2 a rfl).1
    · rcases List.mem_cons.mp hj with z | hj
      · exact absurd z.symm q
      rw [List.getElem?_set_ne q] at e
      exact n1.pv a ⟨j, (List.mem_filter.mp hj).1, e⟩
theorem asF_of {σ : L2.St} {H : Hp} {f : M D} {i : Nat} {Dn : Ends} (hx : i ∉ OX) (h : tS G W OX OL O (i :: O1.filter (· != i)) (sAsF i f) Dn σ H) : tF G W OX O O1 f σ H fun v H1 => Dn.nx (σ.set i (some v)) H1 := by
  obtain ⟨F, r, S, p⟩ := h
  refine ⟨F, r, S, ?_⟩
  simp only [sAsF] at p
  revert p
  cases f r with
  | no => exact fun p => p.elim
  | ex e q => exact fun p c dx F' H' n x => p c dx σ F' H' n x
  | ok d r1 =>
    intro p v F1 H1 n1 rf
    have p : PstS G W OX OL O (i :: O1.filter (· != i)) σ F H Dn (if i < r1.length then .ok .nx (r1.set i (some d)) else .no) := p
    split at p
    · rename_i hi
      exact p _ _ _ (own_set i n1 rf hi hx)
    · exact p.elim
theorem s_setF {x : Str} {e : Expr} {pos pos' : Pos} {f : M D} (i : Nat) (he : PE X e (tF G W OX O O1 f)) (hx : i ∉ OX := by decide) (hN : X.N.Nodup := by first | assumption | decide +kernel) (hi : X.N[i]? = some x := by rfl) (hl : Loc X.env.scope x := by first | exact Or.inl rfl | exact Or.inr rfl)
    (hs : swapsWith e (some (.Name x pos')) pos.line X.env = pure false := by rfl) (hf : X.fn x = true ∨ X.env.scope.names.lookup x = some .local := by first | exact .inl rfl | exact .inr rfl | assumption) :
    PS X (.Assign [.Name x pos'] e pos) (tS G W OX OL O (i :: O1.filter (· != i)) (sAsF i f)) :=
  (ps_set hN hi hl he hs hf).imp fun Dn σ H h => asF_of hx h
theorem s_setLc {x : Str} {pos' : Pos} {elt tg iter : Expr} {ifs : List Expr} {scope : Scope} {pos spos : Pos} {it : M (List D)} {g : Tg} {t : M Bool} {f : M D} (i : Nat) (own : List (Str × Nat)) (hvs : own.map (·.2) = vs) (hi : PI X tg iter (iIt G W OX O O1 it)) (ok : BlkOk X.N X.env.scope scope own)
    (hg : ∀ (s : Shared) (H : Hp) (C : Addr) (cl : List (Str × Addr)) (fp : List Addr), PG (X.blk s H scope (compEnvC scope cl C X.env) fp) tg (tG G [] vs O1 O1 g)) (ht : ∀ (s : Shared) (H : Hp) (C : Addr) (cl : List (Str × Addr)) (fp : List Addr), PTs (X.blk s H scope (compEnvC scope cl C X.env) fp) ifs (tT G (fun _ _ _ _ => False) [] O1 O1 t))
    (he : ∀ (s : Shared) (H : Hp) (C : Addr) (cl : List (Str × Addr)) (fp : List Addr), PE (X.blk s H scope (compEnvC scope cl C X.env) fp) elt (tE G (fun _ _ _ _ => False) [] O1 O1 f)) (hsw : swapsWith (.ListComp elt [⟨tg, iter, ifs, 0⟩] scope pos) (some (.Name x pos')) spos.line X.env = pure true := by rfl) (hx : i ∉ OX := by decide) (hN : X.N.Nodup := by first | assumption | decide +kernel) (hy : X.N[i]? = some x := by rfl)
    (hyl : X.env.scope.names.lookup x = some .local := by rfl) (hd : ∀ i ∈ vs, i ∉ O1 := by decide) (hc : X.calm = true := by rfl) (hs : ∀ x, foldedSetIterable iter X.env x = pure x := by intro _; rfl) :
    PS X (.Assign [.Name x pos'] (.ListComp elt [⟨tg, iter, ifs, 0⟩] scope pos) spos) (tS G W OX OL O (O1.filter (· != i)) (sAs i (eLc vs it g t f))) :=
  (ps_setLc hc hN hy hyl hsw hi ok hg ht he hs).imp fun Dn σ H ⟨F, r, S, p⟩ => lc_imp hvs hd σ H _ (ffz (tS_bind S p fun d v F1 H1 r1 n1 rd p => p _ F1 H1 (nx_set i n1.sta rd hx)))
theorem Sta.wr {σ : L2.St} {F H : Hp} {r : Ev} {a : Addr} {o' : HO} {d' : D} (S : Sta G O F H σ r) {i : Nat} (hi : i ∈ O) (ev : σ[i]? = some (some (.ref a))) (ho : Own G F (upd H a o') d' (.ref a)) (sb : Sub F (upd H a o')) (wi : Wi G (upd H a o')) :
    Nx G OX O O σ F H σ F (upd H a o') (r.set i (some d')) := by
  have st : Stp G.tabs (fun x => x = a) F H F (upd H a o') := ⟨.rfl', fun b u e n _ => by rw [upd_ne n]; exact e, fun _ _ _ _ => rfl, fun _ e => upd_none e, fun _ _ t => by
    obtain ⟨_, v, _, e2, ow⟩ := S.ow i hi
    rw [ev] at e2
    cases e2
    cases ow with
    | lst h _ _ => exact tab_at h rfl (fun a n => upd_ne n) t
    | dic h _ _ _ => exact tab_at h rfl (fun a n => upd_ne n) t
    | ob h _ _ _ => exact tab_at h rfl (fun a n => upd_ne n) t⟩
  have hl : i < r.length := by
    obtain ⟨d, _, e, _⟩ := S.ow i hi
    exact (List.getElem?_eq_some_iff.mp e).1
  refine Nx.of ⟨sb, S.nt, ⟨wi, fun p hp => st.tb p hp (S.wf.tab p hp)⟩, by simp [S.len], fun j d hj e => ?_, fun j hj => ?_, S.dj⟩ (st.weak fun x z => ⟨i, hi, by rw [z]; exact ev⟩) fun _ h => h
  · rw [List.getElem?_set_ne (fun z : i = j => hj (z ▸ hi))] at e
    exact S.rp j d hj e
  · by_cases q : i = j
    · subst q
      exact ⟨d', .ref a, List.getElem?_set_self hl, ev, ho⟩
    · obtain ⟨dj, vj, e1, e2, oj⟩ := S.ow j hj
      exact ⟨dj, vj, by rw [List.getElem?_set_ne q]; exact e1, e2, oj.mono st fun b eb z => q (S.dj i j a hi hj ev (by rw [e2, eb, z]))⟩
theorem s_ix {x : Str} {b e : Expr} {pos pos' px : Pos} {f g : M D} (i : Nat) (he : PE X e (tE G W OX O O1 f)) (hb : PE X b (tE G W OX O1 O2 g)) (hO : i ∈ O1 := by decide) (hi : i ∈ O2 := by decide) (hN : X.N[i]? = some x := by rfl) (hv : Vis X.env.scope x := by first | exact Or.inl rfl | exact Or.inr (Or.inl rfl) | exact Or.inr (Or.inr rfl))
    (hd : (x == ("__debug__" : Str)) = false := by decide) (hcd : (x == ("__classdict__" : Str)) = false := by decide) (ha : ∀ v, assign (.Subscript (.Name x px) b pos') X.env v = (do
      let ov ← holding [v] (eval (.Name x px) X.env)
      let iv ← holding [v, ov] (eval b X.env)
      standAt pos'
      holding [v, ov, iv] (setItem ov iv v)
      release [v, ov, iv] []) := by intros; rfl) (hs : swapsWithSole [.Subscript (.Name x px) b pos'] e pos.line X.env = pure false := by rfl) (hw : swappedStores [.Subscript (.Name x px) b pos'] e X.env = pure none := by rfl) (h1 : (assignEach [.Subscript (.Name x px) b pos'] X.env).map (·.2) = [assign (.Subscript (.Name x px) b pos') X.env] := by rfl) :
    PS X (.Assign [.Subscript (.Name x px) b pos'] e pos) (tS G W OX OL O O2 (sIx i f g)) :=
  (ps_asg he (pg_sub (pe_var hN hv hd hcd) hb set_list ha) hs hw h1).imp fun Dn σ H ⟨F, r, S, p⟩ => tS_bind S p fun d v F1 H1 r1 n1 rd p => by
    obtain ⟨d0, v0, e1, e2, o0⟩ := n1.sta.ow i hO
    refine ⟨v0, e2, tS_bind n1.sta p fun y w F2 H2 r2 n2 ry p => ?_⟩
    revert p
    split
    · rename_i l e3
      intro p
      obtain ⟨v1, e4, o⟩ := n2.sta.own_at hi e3
      rw [e2] at e4
      cases e4
      revert p
      cases em : ixSet l y d with
      | none => exact fun p => p.elim
      | some m =>
        intro p
        unfold ixSet at em
        split at em
        · obtain ⟨j, e5, e6⟩ := Option.map_eq_some_iff.mp em
          subst e6
          cases ry
          cases o with
          | @lst _ a xs h hf rr =>
            refine ⟨a, xs, _, j, rfl, rfl, h, by rw [← rr.length]; exact e5, p _ _ _ (n2.sta.wr hi e2 (.lst upd_same hf (rr.set (rd.mono n2.stp.fz) j)) (sub_wr n2.sta.sub hf) (n2.sta.wf.upd rfl))⟩
        · cases em
    · exact fun p => p.elim
theorem putF_zip : ∀ {lay : List Str} {xs : List V} {f : Str} {y : V}, lay.Nodup → lay[xs.length]? = some f → putF f y (lay.zip xs) = lay.zip (xs ++ [y])
  | [], _, _, _, _, e => by simp at e
  | a :: lay, [], f, y, nd, e => by
    simp at e
    subst e
    simp [putF]
  | a :: lay, x :: xs, f, y, nd, e => by
    have e : lay[xs.length]? = some f := by simpa using e
    have hne : ¬ a = f := fun z => (List.nodup_cons.mp nd).1 (by rw [z]; exact List.mem_of_getElem? e)
    rw [List.zip_cons_cons, putF, if_neg hne, List.cons_append, List.zip_cons_cons, putF_zip (List.nodup_cons.mp nd).2 e]
theorem lookup_zip : ∀ {lay : List Str} {xs : List V} {g : Str}, (lay.zip xs).lookup g ≠ none → g ∈ lay
  | [], _, _, h => absurd rfl h
  | _ :: _, [], _, h => absurd rfl h
  | a :: lay, x :: xs, g, h => by
    rw [List.zip_cons_cons, List.lookup_cons] at h
    split at h
    · rename_i q
      rw [beq_iff_eq.mp q]
      exact List.mem_cons_self
    · exact List.mem_cons_of_mem _ (lookup_zip h)
theorem s_fld {x f : Str} {e : Expr} {pos pos' px : Pos} {h : M D} (i : Nat) (tb : List (Nat × Nat)) (he : PE X e (tE G W OX O O1 h)) (ht : ∀ c j, tb.lookup c = some j → ClsOk G c ∧ (G.lay c)[j]? = some f) (hO : i ∈ O1 := by decide) (hK : X.K = G.K := by rfl) (hN : X.N[i]? = some x := by rfl) (hv : Vis X.env.scope x := by first | exact Or.inl rfl | exact Or.inr (Or.inl rfl) | exact Or.inr (Or.inr rfl))
    (hd : (x == ("__debug__" : Str)) = false := by decide) (hcd : (x == ("__classdict__" : Str)) = false := by decide) (hs : swapsWith e (some (.Attribute (.Name x px) f pos')) pos.line X.env = pure false := by rfl) : PS X (.Assign [.Attribute (.Name x px) f pos'] e pos) (tS G W OX OL O O1 (sFl i tb h)) :=
  (ps_fld (pe_var hN hv hd hcd) he hs).imp fun Dn σ H ⟨F, r, S, p⟩ => tS_bind S p fun d y F1 H1 r1 n1 rd p => by
    obtain ⟨d0, v0, e1, e2, o⟩ := n1.sta.ow i hO
    refine ⟨v0, e2, ?_⟩
    rw [e1] at p
    cases o with
    | @ob c l a dx xs hh hf hl rr =>
      revert p
      simp only
      cases e3 : tb.lookup c with
      | none => exact fun p => p.elim
      | some j =>
        obtain ⟨co, hj⟩ := ht c j e3
        intro p
        have p : PstS G W OX OL O1 O1 σ F1 H1 Dn (if j = l.length then .ok .nx (r1.set i (some (.ob c (l ++ [d])))) else .no) := p
        split at p
        · rename_i hl2
          rw [hl2, rr.length] at hj
          have hlt : xs.length < (G.lay c).length := (List.getElem?_eq_some_iff.mp hj).1
          have few := co.few
          have z := putF_zip (y := y) co.nd hj
          rw [hK]
          refine ⟨a, _, dx, _, rfl, hh, co.cl, co.na f (List.mem_of_getElem? hj), by simp; omega, ?_⟩
          rw [z]
          have ho : Own G F1 (upd H1 a (.ins (G.cA c) dx ((G.lay c).zip (xs ++ [y])))) (.ob c (l ++ [d])) (.ref a) := by
            refine .ob upd_same ?_ (by simp; omega) (rr.app (.cons rd .nil))
            rcases hf with hf | ⟨hi, n, hf⟩
            · exact .inl hf
            · refine .inr ⟨hi, min n xs.length, ?_⟩
              rw [hf]
              congr 3
              rw [List.take_append_of_le_length (Nat.min_le_right _ _), ← List.take_eq_take_min]
          refine p _ _ _ (n1.sta.wr hO e2 ho (fun b u eb => ?_) fun b C d2 fs g eb hg => ?_)
          · by_cases q : b = a
            · subst q
              refine ⟨_, upd_same, ?_⟩
              rcases hf with hf | ⟨hi, n, hf⟩
              · rw [hf] at eb
                cases eb
              · rw [hf] at eb
                cases eb
                obtain ⟨more, em⟩ := zip_pre (G.lay c) (xs ++ [y]) (min n xs.length)
                refine .inr (.inl ⟨_, _, _, more, rfl, ?_⟩)
                rw [em, List.take_append_of_le_length (Nat.min_le_right _ _), ← List.take_eq_take_min]
            · obtain ⟨o2, e4, gr⟩ := n1.sta.sub b u eb
              exact ⟨o2, by rw [upd_ne q]; exact e4, gr⟩
          · by_cases q : b = a
            · subst q
              rw [upd_same] at eb
              cases eb
              exact co.sub _ (lookup_zip hg)
            · rw [upd_ne q] at eb
              exact n1.sta.wf.ins b C d2 fs g eb hg
        · exact p.elim
    | lst => exact p.elim
    | dic => exact p.elim
end
end Z
namespace Z
open PySem PySem.Spec PyProof.Rows L2
def rk (ts : List String) (cs : List Nat) (y : D) : Bool := match y with
  | .ob c _ => cs.contains c
  | y => match tyN y with
    | some m => ts.contains m
    | none => false
def oW (tb : List (Nat × Beh)) (ts : List String) (cs : List Nat) (p : D → D → Option D) (x y : D) (r : Ev) : Out D := match x with
  | .ob c l => if rk ts cs y then (match tb.lookup c with
    | some B => out0 (B [.ob c l, y]) r
    | none => .no) else .no
  | _ => liftO (p x y) r
section
variable {prog : Program} {w : World} {M : Model} {A : Around} {E : Value → Shared → Prop} {s : Shared} {K : PySem.W.Frag} {x C C2 L f g : Addr} {h₀ : Heap} {m : Str → Option Value} {ox : Obj} {od : Option Obj} {nm : String}
open PySem.W in
theorem bin_two {op : Operator} {b : Value} {rc rc2 : Option Value} {Q : Value → Shared → Prop} (F : Fr h₀ L s.heap m) (X₀ : K.In h₀) (I : InstAt s.heap x ox C od) (hb : Looks (model prog w) s.heap (typeOf b) (.ref C2)) (hne : C ≠ C2) (hc : selfFirst K C = true) (hc2 : selfFirst K C2 = true) (hs : findIn K (.ref C) (PySem.dunder op.info.2) = some (some (.ref f)))
    (hf : isFn K (.ref f) = true) (hr : findIn K (.ref C) (dunderR op.info.2) = some rc) (hp : rc = none ∨ ∃ a : Addr, rc = some (.ref a)) (hs2 : findIn K (.ref C2) (PySem.dunder op.info.2) = some (some (.ref g))) (hr2 : findIn K (.ref C2) (dunderR op.info.2) = some rc2) (hp2 : rc2 = none ∨ ∃ g : Addr, rc2 = some (.ref g)) (hsub : subIn K (.ref C2) (.ref C) = some false)
    (h : wpAny (model prog w) A (call (.ref f) [.ref x, b]) (PySem.W.CmpBack Q) E s) : wpAny (model prog w) A (binaryOp op (.ref x) b) Q E s := by
  have X := X₀.keeps F.keep
  obtain ⟨cd2, rest2, hcd2, hm2⟩ := ksp_first hc2
  obtain ⟨cd1, rest1, hcd, hm⟩ := ksp_first hc
  rcases hi : op.info with ⟨sy, nm'⟩
  rw [hi] at hr hs hr2 hs2
  dsimp only at hs hr hs2 hr2
  have tried := ksp_try X I hs hf h
  obtain ⟨hh, g', d, tt, os⟩ := s
  have tx : Looks (model prog w) hh (typeOf (.ref x)) (.ref C) := I.type
  have ty : Looks (model prog w) hh (typeOf b) (.ref C2) := hb
  have fx : Looks (model prog w) hh (fillsNumberSlot (.ref C) nm') true := fills_K X hcd hm hs
  have fy : Looks (model prog w) hh (fillsNumberSlot (.ref C2) nm') true := fills_K X hcd2 hm2 hs2
  have ns : Looks (model prog w) hh (isSubtype (.ref C2) (.ref C)) false := looks_subIn X hsub
  have px : Looks (model prog w) hh (numberSlotInPython (.ref C) nm') true := ksp_inPy X hs hr hp
  have py : Looks (model prog w) hh (numberSlotInPython (.ref C2) nm') true := ksp_inPy X hs2 hr2 hp2
  have hne' : (Value.ref C == Value.ref C2) = false := Bool.eq_false_iff.mpr fun q => hne (by cases beq_iff_eq.mp q; rfl)
  simp only [binaryOp, hi]
  unfold binaryOp1
  refine wpAny_holding (wpAny_bind (wpAny_bind (tx.at (wpAny_bind (ty.at (wpAny_bind (fx.at ?_)))))))
  simp only [hne', Bool.false_eq_true, if_false]
  ksp_lk
  refine wpAny_mono tried (fun _ _ got => ?_) fun _ _ e => e
  obtain ⟨v, rfl, hq⟩ := got
  ksp_lk
  exact hq
open PySem.W in
open PySem.W in
end
def flat4 : List String := ["int", "bool", "str", "NoneType"]
structure OwnOk (G : Gm) (P : Program) (w : World) (mg : Str → Option Value) (base : Heap) (k : Nat) (dn : Str) (c : Nat) (B : Beh) (f : Addr) (fd : FuncData) (ps : List Str) (n : Nat) : Prop where
  at_ : PySem.W.findIn G.K (.ref (G.cA c)) dn = some (some (.ref f))
  isf : PySem.W.isFn G.K (.ref f) = true
  fn : FnB P w G mg base k f fd ps n [] B
  bd : Binds G.K fd ps []
  ar : ∀ ds, ds.length ≠ n → B ds = .no
structure BinOk (G : Gm) (dn dr : Str) (ts : List String) (cs : List Nat) (c : Nat) : Prop where
  sf : PySem.W.selfFirst G.K (G.cA c) = true
  rc : ∃ rc, PySem.W.findIn G.K (.ref (G.cA c)) dr = some rc ∧ (rc = none ∨ ∃ g : Addr, rc = some (.ref g))
  ty : ∀ T ∈ ts, T ∈ flat4 ∧ (∃ fo ro, PySem.W.findIn G.K (.type T) dn = some fo ∧ PySem.W.findIn G.K (.type T) dr = some ro) ∧ PySem.W.subIn G.K (.type T) (.ref (G.cA c)) = some false
  ot : ∀ d ∈ cs, d = c ∨ (G.cA c ≠ G.cA d ∧ PySem.W.selfFirst G.K (G.cA d) = true ∧ (∃ g : Addr, PySem.W.findIn G.K (.ref (G.cA d)) dn = some (some (.ref g))) ∧ (∃ rc, PySem.W.findIn G.K (.ref (G.cA d)) dr = some rc ∧ (rc = none ∨ ∃ g : Addr, rc = some (.ref g))) ∧
    PySem.W.subIn G.K (.ref (G.cA d)) (.ref (G.cA c)) = some false)
structure CmpOk (G : Gm) (ts : List String) (cs : List Nat) (c : Nat) : Prop where
  ty : ∀ T ∈ ts, T ∈ flat4 ∧ PySem.W.notFirst G.K (G.cA c) (.type T) = true
  ot : ∀ d ∈ cs, PySem.W.notFirst G.K (G.cA c) (.ref (G.cA d)) = true
section
variable {G : Gm} {X : Cx} {W : WX} {OX OL vs O O1 O2 O3 : List Nat}
theorem run_At {A : Around} {k : Nat} {f : Addr} {fd : FuncData} {ps : List Str} {n : Nat} {B : Beh} {pins : List (Addr × Obj)} {σ : L2.St} {H : Hp} {s : Shared} {Q : VK} {us : List Value} {vs : List V} (sb : L2.Sub X k A) (tk : Takes X W) (Fk : FnOk X.prog X.w X.K X.mg X.base (L2.CX X.prog X.w) k f fd ps (spB G n [] B))
    (hb : Binds X.K fd ps []) (I : Inv X pins σ H s) (r : Vals vs us) (h : spB G n [] B vs H Q (fun c dx H' => W c dx σ H')) : wpAny (model X.prog X.w) A (call (.ref f) us) (EP X pins σ Q) X.xe s := by
  have hl := Fk.len _ _ _ _ h
  have e0 : Env0 X.prog X.w X.K X.mg X.base A X.stack s H := by
    have e := I.env0
    exact ⟨by rw [sb.fr]; exact e.frames, e.mod, e.bs, e.bsz, e.funs, e.frf, e.hok, e.bare⟩
  have bt := hb s us I.kIn (by rw [List.append_nil, ← r.length, hl])
  rw [List.append_nil] at bt
  refine wpAny_call (codeAny_mono (Fk.run A X.stack s H ⟨us, []⟩ us vs Q _ sb.room e0 bt r h) fun res s' back => ?_)
  match res, back with
  | .error er, back => exact passAt tk σ pins H s er s' I back
  | .ok (.ret u), back => exact I.after back
  | .ok .next, back => exact back.elim
  | .ok .brk, back => exact back.elim
  | .ok .cont, back => exact back.elim
theorem rk_ty {ts : List String} {cs : List Nat} {y : D} {v : V} {u : Value} {F : Hp} (hts : ∀ T ∈ ts, T ∈ flat4) (h : rk ts cs y = true) (ry : Rep G F y v) (ru : RelV v u) : (∃ T, T ∈ ts ∧ typeOf u = pure (.type T)) ∨ ∃ d l, y = .ob d l ∧ d ∈ cs := by
  cases ry with
  | non => cases ru; exact .inl ⟨"NoneType", by simpa [rk, tyN] using h, rfl⟩
  | bl => cases ru; exact .inl ⟨"bool", by simpa [rk, tyN] using h, rfl⟩
  | int => obtain ⟨t, rfl⟩ := ru; exact .inl ⟨"int", by simpa [rk, tyN] using h, rfl⟩
  | str => obtain ⟨t, rfl⟩ := ru; exact .inl ⟨"str", by simpa [rk, tyN] using h, rfl⟩
  | tup => exact absurd (hts "tuple" (by simpa [rk, tyN] using h)) (by decide)
  | lst => exact absurd (hts "list" (by simpa [rk, tyN] using h)) (by decide)
  | kl => exact absurd (hts "list" (by simpa [rk, tyN] using h)) (by decide)
  | dic => exact absurd (hts "dict" (by simpa [rk, tyN] using h)) (by decide)
  | ftp => simp [rk, tyN] at h
  | dkl => exact absurd (hts "dict" (by simpa [rk, tyN] using h)) (by decide)
  | @ob d l => exact .inr ⟨d, l, rfl, by simpa [rk] using h⟩
  | xo => simp [rk, tyN] at h
  | fn => simp [rk, tyN] at h
theorem inst_at {σ : L2.St} {F H : Hp} {r : Ev} {c : Nat} {l : List D} {v : V} {pins : List (Addr × Obj)} {s : Shared} (I : Inv X pins σ H s) (S : Sta G O F H σ r) (h : Rep G F (.ob c l) v) : ∃ a, v = .ref a ∧ ∃ ox od, PySem.W.InstAt s.heap a ox (G.cA c) (some od) := by
  cases h with
  | @ob _ _ a dx xs more h hl rr =>
    obtain ⟨o', e', gr⟩ := S.sub _ _ h
    obtain ⟨q, eo⟩ := gr.ins
    subst eo
    obtain ⟨mA, J, _⟩ := ins_get I.hok e'
    obtain ⟨od, J, _⟩ := J.look
    exact ⟨a, rfl, _, od, J⟩
theorem o_bin {op : Operator} {p : D → D → Option D} {k : Nat} (tb : List (Nat × Beh)) (ts : List String) (cs : List Nat) (tk : Takes X W) (hr : Room k X.A) (hp : Op2 G X W OX O (binaryOp op) (oP p))
    (ht : ∀ c B, tb.lookup c = some B → (∃ f fd ps, OwnOk G X.prog X.w X.mg X.base k (PySem.dunder op.info.2) c B f fd ps 2) ∧ BinOk G (PySem.dunder op.info.2) (dunderR op.info.2) ts cs c) (hx : ∀ i ∈ OX, i ∈ O := by decide) (hK : X.K = G.K := by rfl) : Op2 G X W OX O (binaryOp op) (oW tb ts cs p) :=
  fun pins s σ F H r x y v w u u' Q I S rx ry ru ru' q => by
    cases x with
    | ob c l =>
      unfold oW at q
      simp only at q
      split at q
      case isFalse => exact q.elim
      rename_i hk
      revert q
      cases e1 : tb.lookup c with
      | none => exact fun q => q.elim
      | some B =>
        intro q
        have q : Pst G W OX O O σ F H (RD G) Q (out0 (B [.ob c l, y]) r) := q
        obtain ⟨⟨f, fd, ps, ow⟩, bk⟩ := ht c B e1
        obtain ⟨a, rfl, ox, od, J⟩ := inst_at I S rx
        obtain rfl : u = Value.ref a := ru
        obtain ⟨m, hF⟩ := I.fr
        have Fk : FnOk X.prog X.w X.K X.mg X.base (L2.CX X.prog X.w) k f fd ps (spB G 2 [] B) := by rw [hK]; exact ow.fn
        have rr : RepL G F [.ob c l, y] [.ref a, w] := .cons rx (.cons ry .nil)
        have go : wpAny (model X.prog X.w) X.A (call (.ref f) [.ref a, u']) (PySem.W.CmpBack (EP X pins σ Q)) X.xe s := by
          refine wpAny_mono (run_At (us := [.ref a, u']) (vs := [.ref a, w]) ⟨hr, rfl⟩ tk Fk (by rw [hK]; exact ow.bd) I (.cons rfl (.cons ru' .nil)) (spB_of hx S rr (len_of ow.ar rr q) q)) (fun z s' h => ?_) fun _ _ h => h
          obtain ⟨z', H', I', rz, qz⟩ := h
          exact SlX.cmpback rz ⟨z', H', I', rz, qz⟩
        obtain ⟨rc, h1, h2⟩ := bk.rc
        rcases rk_ty (fun T hT => (bk.ty T hT).1) hk ry ru' with ⟨T, hT, ht⟩ | ⟨d, l2, rfl, hd⟩
        · obtain ⟨_, ⟨fo, ro, h3, h4⟩, h5⟩ := bk.ty T hT
          exact PySem.W.ksp_binT (K := X.K) (C := G.cA c) hF I.ok.mod.kin J ht (by rw [hK]; exact bk.sf) (by rw [hK]; exact ow.at_) (by rw [hK]; exact ow.isf) (by rw [hK]; exact h1) h2 (by rw [hK]; exact h3) (by rw [hK]; exact h4) (by rw [hK]; exact h5) go
        · obtain ⟨b, rfl, ox2, od2, J2⟩ := inst_at I S ry
          obtain rfl : u' = Value.ref b := ru'
          rcases bk.ot d hd with rfl | ⟨hne, h3, ⟨g, h4⟩, ⟨rc2, h5, h6⟩, h7⟩
          · exact PySem.W.binop_K (K := X.K) (C := G.cA d) hF I.ok.mod.kin J J2.type (by rw [hK]; exact bk.sf) (by rw [hK]; exact ow.at_) (by rw [hK]; exact ow.isf) go
          · exact bin_two (K := X.K) (C := G.cA c) hF I.ok.mod.kin J J2.type hne (by rw [hK]; exact bk.sf) (by rw [hK]; exact h3) (by rw [hK]; exact ow.at_) (by rw [hK]; exact ow.isf) (by rw [hK]; exact h1) h2 (by rw [hK]; exact h4) (by rw [hK]; exact h5) h6 (by rw [hK]; exact h7) go
    | non => exact hp pins s σ F H r _ y v w u u' Q I S rx ry ru ru' q
    | bl b => exact hp pins s σ F H r _ y v w u u' Q I S rx ry ru ru' q
    | int b => exact hp pins s σ F H r _ y v w u u' Q I S rx ry ru ru' q
    | str b => exact hp pins s σ F H r _ y v w u u' Q I S rx ry ru ru' q
    | tup b => exact hp pins s σ F H r _ y v w u u' Q I S rx ry ru ru' q
    | lst b => exact hp pins s σ F H r _ y v w u u' Q I S rx ry ru ru' q
    | kl b => exact hp pins s σ F H r _ y v w u u' Q I S rx ry ru ru' q
    | ftp b => exact hp pins s σ F H r _ y v w u u' Q I S rx ry ru ru' q
    | dic b b' => exact hp pins s σ F H r _ y v w u u' Q I S rx ry ru ru' q
    | dkl b b' => exact hp pins s σ F H r _ y v w u u' Q I S rx ry ru ru' q
    | xo b b' => exact hp pins s σ F H r _ y v w u u' Q I S rx ry ru ru' q
theorem o_negW {p : D → Option D} {k : Nat} (tb : List (Nat × Beh)) (tk : Takes X W) (hr : Room k X.A) (hp : Op1 G X W OX O (unaryOp .USub) (oU p))
    (ht : ∀ c B, tb.lookup c = some B → ∃ f fd ps, OwnOk G X.prog X.w X.mg X.base k "__neg__" c B f fd ps 1) (hx : ∀ i ∈ OX, i ∈ O := by decide) (hK : X.K = G.K := by rfl) : Op1 G X W OX O (unaryOp .USub) (oC1 tb p) :=
  fun pins s σ F H r x v u Q I S rx ru q => by
    cases x with
    | ob c l =>
      rw [oC1_ob] at q
      revert q
      cases e1 : tb.lookup c with
      | none => exact fun q => q.elim
      | some B =>
        intro q
        have q : Pst G W OX O O σ F H (RD G) Q (out0 (B [.ob c l]) r) := q
        obtain ⟨f, fd, ps, ow⟩ := ht c B e1
        obtain ⟨a, rfl, ox, od, J⟩ := inst_at I S rx
        obtain rfl : u = Value.ref a := ru
        obtain ⟨m, hF⟩ := I.fr
        have Fk : FnOk X.prog X.w X.K X.mg X.base (L2.CX X.prog X.w) k f fd ps (spB G 1 [] B) := by rw [hK]; exact ow.fn
        have rr : RepL G F [.ob c l] [.ref a] := .cons rx .nil
        exact PySem.W.ksp_neg (K := X.K) (C := G.cA c) hF I.ok.mod.kin J (by rw [hK]; exact ow.at_) (by rw [hK]; exact ow.isf) (run_At (us := [.ref a]) (vs := [.ref a]) ⟨hr, rfl⟩ tk Fk (by rw [hK]; exact ow.bd) I (.cons rfl .nil) (spB_of hx S rr (len_of ow.ar rr q) q))
    | non => exact hp pins s σ F H r _ v u Q I S rx ru q
    | bl b => exact hp pins s σ F H r _ v u Q I S rx ru q
    | int b => exact hp pins s σ F H r _ v u Q I S rx ru q
    | str b => exact hp pins s σ F H r _ v u Q I S rx ru q
    | tup b => exact hp pins s σ F H r _ v u Q I S rx ru q
    | lst b => exact hp pins s σ F H r _ v u Q I S rx ru q
    | kl b => exact hp pins s σ F H r _ v u Q I S rx ru q
    | ftp b => exact hp pins s σ F H r _ v u Q I S rx ru q
    | dic b b' => exact hp pins s σ F H r _ v u Q I S rx ru q
    | dkl b b' => exact hp pins s σ F H r _ v u Q I S rx ru q
    | xo b b' => exact hp pins s σ F H r _ v u Q I S rx ru q
theorem cmp_at {A : Around} {op : CmpOp} {k : Nat} {dn : Str} {ts : List String} {cs : List Nat} {c : Nat} {l : List D} {y : D} {B : Beh} {f : Addr} {fd : FuncData} {ps : List Str} {pins : List (Addr × Obj)} {s : Shared} {σ : L2.St} {F H : Hp} {r : Ev} {v w : V} {u u' : Value} {Q : VK}
    (sb : L2.Sub X k A) (tk : Takes X W) (hdn : (cmpInfo op).2.1 = dn) (ow : OwnOk G X.prog X.w X.mg X.base k dn c B f fd ps 2) (ck : CmpOk G ts cs c) (hk : rk ts cs y = true) (hx : ∀ i ∈ OX, i ∈ O) (hK : X.K = G.K) (I : Inv X pins σ H s) (S : Sta G O F H σ r) (rx : Rep G F (.ob c l) v) (ry : Rep G F y w) (ru : RelV v u) (ru' : RelV w u')
    (q : Pst G W OX O O σ F H (RD G) Q (out0 (B [.ob c l, y]) r)) : wpAny (model X.prog X.w) A (richCompare op u u') (EP X pins σ Q) X.xe s := by
  subst hdn
  obtain ⟨a, rfl, ox, od, J⟩ := inst_at I S rx
  obtain rfl : u = Value.ref a := ru
  obtain ⟨m, hF⟩ := I.fr
  have Fk : FnOk X.prog X.w X.K X.mg X.base (L2.CX X.prog X.w) k f fd ps (spB G 2 [] B) := by rw [hK]; exact ow.fn
  have rr : RepL G F [.ob c l, y] [.ref a, w] := .cons rx (.cons ry .nil)
  have go : wpAny (model X.prog X.w) A (call (.ref f) [.ref a, u']) (PySem.W.CmpBack (EP X pins σ Q)) X.xe s := by
    refine wpAny_mono (run_At (us := [.ref a, u']) (vs := [.ref a, w]) sb tk Fk (by rw [hK]; exact ow.bd) I (.cons rfl (.cons ru' .nil)) (spB_of hx S rr (len_of ow.ar rr q) q)) (fun z s' h => ?_) fun _ _ h => h
    obtain ⟨z', H', I', rz, qz⟩ := h
    exact SlX.cmpback rz ⟨z', H', I', rz, qz⟩
  have fin : ∀ tbv, PySem.W.Looks (model X.prog X.w) s.heap (typeOf u') tbv → PySem.W.notFirst G.K (G.cA c) tbv = true → wpAny (model X.prog X.w) A (richCompare op (.ref a) u') (EP X pins σ Q) X.xe s := fun tbv hl hn =>
    PySem.W.cmp_K (K := X.K) (C := G.cA c) (op := op) (tb := tbv) sb.room.units0 hF I.ok.mod.kin J hl (by rw [hK]; exact hn) (by rw [hK]; exact ow.at_) (by rw [hK]; exact ow.isf) go
  rcases rk_ty (fun T hT => (ck.ty T hT).1) hk ry ru' with ⟨T, hT, ht⟩ | ⟨d, l2, rfl, hd⟩
  · exact fin _ (PySem.W.Looks.of_pure ht) (ck.ty T hT).2
  · obtain ⟨b, rfl, ox2, od2, J2⟩ := inst_at I S ry
    obtain rfl : u' = Value.ref b := ru'
    exact fin _ J2.type (ck.ot d hd)
theorem o_cmp {op : CmpOp} {p : D → D → Option D} {k : Nat} (tb : List (Nat × Beh)) (ts : List String) (cs : List Nat) (tk : Takes X W) (hr : Room k X.A) (hp : Op2 G X W OX O (compareOp op) (oP p)) (hop : ∀ a b, compareOp op a b = richCompare op a b := by intros; rfl)
    (ht : ∀ c B, tb.lookup c = some B → (∃ f fd ps, OwnOk G X.prog X.w X.mg X.base k (cmpInfo op).2.1 c B f fd ps 2) ∧ CmpOk G ts cs c) (hx : ∀ i ∈ OX, i ∈ O := by decide) (hK : X.K = G.K := by rfl) : Op2 G X W OX O (compareOp op) (oW tb ts cs p) :=
  fun pins s σ F H r x y v w u u' Q I S rx ry ru ru' q => by
    cases x with
    | ob c l =>
      unfold oW at q
      simp only at q
      split at q
      case isFalse => exact q.elim
      rename_i hk
      revert q
      cases e1 : tb.lookup c with
      | none => exact fun q => q.elim
      | some B =>
        intro q
        obtain ⟨⟨f, fd, ps, ow⟩, ck⟩ := ht c B e1
        rw [hop]
        exact cmp_at ⟨hr, rfl⟩ tk rfl ow ck hk hx hK I S rx ry ru ru' q
    | non => exact hp pins s σ F H r _ y v w u u' Q I S rx ry ru ru' q
    | bl b => exact hp pins s σ F H r _ y v w u u' Q I S rx ry ru ru' q
    | int b => exact hp pins s σ F H r _ y v w u u' Q I S rx ry ru ru' q
    | str b => exact hp pins s σ F H r _ y v w u u' Q I S rx ry ru ru' q
    | tup b => exact hp pins s σ F H r _ y v w u u' Q I S rx ry ru ru' q
    | lst b => exact hp pins s σ F H r _ y v w u u' Q I S rx ry ru ru' q
    | kl b => exact hp pins s σ F H r _ y v w u u' Q I S rx ry ru ru' q
    | ftp b => exact hp pins s σ F H r _ y v w u u' Q I S rx ry ru ru' q
    | dic b b' => exact hp pins s σ F H r _ y v w u u' Q I S rx ry ru ru' q
    | dkl b b' => exact hp pins s σ F H r _ y v w u u' Q I S rx ry ru ru' q
    | xo b b' => exact hp pins s σ F H r _ y v w u u' Q I S rx ry ru ru' q
end
end Z
namespace Z
open PySem PySem.Spec PyProof.Rows L2
def isT : Out D → Bool
  | .ok (.bl true) _ => true
  | _ => false
def okB (o : Option Beh) (ds : List D) : Bool := match o with
  | some B => isT (B ds)
  | none => false
def eqI (tb : List (Nat × Beh)) (ts : List String) (cs : List Nat) (x y : D) : Bool := match x with
  | .ob c l => rk ts cs y && okB (tb.lookup c) [.ob c l, y]
  | _ => false
def allT (f : D → D → Bool) : List D → List D → Bool
  | [], [] => true
  | x :: l, y :: m => f x y && allT f l m
  | _, _ => false
def oET (tb : List (Nat × Beh)) (ts : List String) (cs : List Nat) (x y : D) (r : Ev) : Out D := match x, y with
  | .tup l, .tup m => (match pEq (.tup l) (.tup m) with
    | some d => .ok d r
    | none => if allT (eqI tb ts cs) l m then .ok (.bl true) r else .no)
  | x, y => oW tb ts cs pEq x y r
theorem allT_get {f : D → D → Bool} : ∀ {l m : List D}, allT f l m = true → l.length = m.length ∧ ∀ (i : Nat) (x y : D), l[i]? = some x → m[i]? = some y → f x y = true
  | [], [], _ => ⟨rfl, fun i x y e _ => by simp at e⟩
  | x :: l, y :: m, h => by
    rw [allT, Bool.and_eq_true] at h
    obtain ⟨h1, h2⟩ := allT_get h.2
    refine ⟨by rw [List.length_cons, List.length_cons, h1], fun i a b ea eb => ?_⟩
    cases i with
    | zero =>
      simp at ea eb
      subst ea eb
      exact h.1
    | succ i => exact h2 i a b (by simpa using ea) (by simpa using eb)
  | [], _ :: _, h => by cases h
  | _ :: _, [], h => by cases h
section
variable {G : Gm} {X : Cx} {W : WX} {OX OL vs O O1 O2 O3 : List Nat}
theorem o_eqT {k : Nat} (tb : List (Nat × Beh)) (ts : List String) (cs : List Nat) (tk : Takes X W) (hr : Room (k + 1) X.A)
    (ht : ∀ c B, tb.lookup c = some B → (∃ f fd ps, OwnOk G X.prog X.w X.mg X.base k "__eq__" c B f fd ps 2) ∧ CmpOk G ts cs c) (hx : ∀ i ∈ OX, i ∈ O := by decide) (hK : X.K = G.K := by rfl) : Op2 G X W OX O (compareOp .Eq) (oET tb ts cs) :=
  fun pins s σ F H r x y v w u u' Q I S rx ry ru ru' q => by
    have low : Op2 G X W OX O (compareOp .Eq) (oW tb ts cs pEq) := o_cmp tb ts cs tk (hr.mono (Nat.le_succ k)) (o_eq hr hK) (by intros; rfl) ht hx hK
    unfold oET at q
    split at q
    · rename_i l m
      split at q
      · rename_i d e
        exact low pins s σ F H r _ _ v w u u' Q I S rx ry ru ru' (by show Pst G W OX O O σ F H (RD G) Q (liftO (pEq (.tup l) (.tup m)) r); rw [e]; exact q)
      · split at q
        case isFalse => exact q.elim
        rename_i ha
        obtain ⟨hlen, hall⟩ := allT_get ha
        cases rx with
        | @tup _ a xs hq1 r1 =>
          cases ry with
          | @tup _ b ys hq2 r2 =>
            obtain rfl : u = Value.ref a := ru
            obtain rfl : u' = Value.ref b := ru'
            obtain ⟨its, rv, h1, _⟩ := I.tuple (by rw [hK]; exact S.sub.sqT hq1)
            obtain ⟨its2, rv2, h2, _⟩ := I.tuple (by rw [hK]; exact S.sub.sqT hq2)
            have n1 : its.length = l.length := by rw [← rv.length, r1.length]
            have n2 : its2.length = m.length := by rw [← rv2.length, r2.length]
            show wpAny (model X.prog X.w) X.A (richCompare .Eq (.ref a) (.ref b)) (EP X pins σ Q) X.xe s
            refine GQ.rc_tupG (items := its.toArray) (items2 := its2.toArray) (by simp; omega) hr.units0 (fun _ s' => ∃ F' H', Inv X pins σ H' s' ∧ Nx G OX O O σ F H σ F' H' r) h1 h2 (fun i hi1 hi2 s' hI => ?_) (fun s' hI => ?_) ⟨F, H, I, Nx.rfl' S⟩
            · obtain ⟨F', H', I', n⟩ := hI
              have hi1 : i < its.length := by simpa using hi1
              have hi2 : i < its2.length := by simpa using hi2
              have g1 : its.toArray[i]'(by simpa using hi1) = its[i] := by simp
              have g2 : its2.toArray[i]'(by simpa using hi2) = its2[i] := by simp
              rw [g1, g2]
              have el : l[i]? = some (l[i]'(by omega)) := List.getElem?_eq_getElem _
              have em : m[i]? = some (m[i]'(by omega)) := List.getElem?_eq_getElem _
              generalize l[i]'(by omega) = dx at el
              generalize m[i]'(by omega) = dy at em
              have hf := hall i dx dy el em
              obtain ⟨vx, ex, rx⟩ := r1.get el
              obtain ⟨vy, ey, ry⟩ := r2.get em
              obtain ⟨ux, eux, rux⟩ := L2.Vals.get rv ex
              obtain ⟨uy, euy, ruy⟩ := L2.Vals.get rv2 ey
              have q1 : its[i] = ux := by rw [List.getElem?_eq_getElem hi1] at eux; exact Option.some.inj eux
              have q2 : its2[i] = uy := by rw [List.getElem?_eq_getElem hi2] at euy; exact Option.some.inj euy
              rw [q1, q2]
              have rx := rx.mono n.stp.fz
              have ry := ry.mono n.stp.fz
              unfold eqI at hf
              cases dx with
              | ob c fs =>
                simp only [Bool.and_eq_true] at hf
                obtain ⟨hk, hf⟩ := hf
                cases e1 : tb.lookup c with
                | none =>
                  rw [e1] at hf
                  cases hf
                | some B =>
                  rw [e1] at hf
                  have hf : isT (B [.ob c fs, dy]) = true := hf
                  obtain ⟨⟨f, fd, ps, ow⟩, ck⟩ := ht c B e1
                  have eo : ∃ q', B [.ob c fs, dy] = .ok (.bl true) q' := by
                    unfold isT at hf
                    split at hf
                    · rename_i q' e
                      exact ⟨q', e⟩
                    · cases hf
                  obtain ⟨q', eo⟩ := eo
                  have J1 := inst_at I' n.sta rx
                  obtain ⟨a', rfl, _⟩ := J1
                  obtain rfl : ux = Value.ref a' := rux
                  by_cases same : Value.ref a' = uy
                  · rw [← same]
                    exact SeqAt.EqAt.same (.ref a') X.prog X.w X.xe _ ⟨rfl, F', H', I', n⟩
                  · have sb1 : L2.Sub X k X.A.in1 := L2.Sub.in1 ⟨hr, rfl⟩
                    have rc := cmp_at (OX := OX) (W := W) (op := .Eq) (Q := fun z H2 => z = .bl true ∧ ∃ F2, Nx G OX O O σ F H σ F2 H2 r) sb1 tk rfl ow ck hk hx hK I' n.sta rx ry rfl ruy (by
                      rw [eo]
                      intro z F2 H2 n2 rz
                      cases rz
                      exact ⟨rfl, F2, n.trans n2⟩)
                    unfold eqBool
                    refine wpAny_holding ?_
                    refine wpAny_ite_split (fun hab => absurd (eq_of_beq hab) same) (fun _ => ?_)
                    refine wpAny_bind (wpAny_mono rc (fun z s2 hz => ?_) fun _ _ h => h)
                    obtain ⟨z', H2, I2, rz, ez, F2, n2⟩ := hz
                    subst ez
                    cases (show z = Value.bool true from rz)
                    exact wpAny_truthy_bool ⟨rfl, F2, H2, I2, n2⟩
              | _ => cases hf
            · obtain ⟨F', H', I', n⟩ := hI
              exact ⟨.bl true, H', I', rfl, q _ F' H' n .bl⟩
    · exact low pins s σ F H r _ _ v w u u' Q I S rx ry ru ru' q
end
end Z
namespace Z
open PySem PySem.Spec PyProof.Rows L2
abbrev Kept (l : PySem.W.OpenLaw) (n k : Nat) (x : Str) (w : World) (mg : Str → Option Value) (fa : Addr) (h : Heap) : Prop :=
  ∃ (K : PySem.W.Frag) (fd : FuncData) (sp : Sp), K.In h ∧ (∀ (z : Shared) (v : Value), BindsTo z fd ⟨[v], []⟩ [(x, v)]) ∧
    (∀ (Hq : Hp) (p : Addr) (zs : List Int), zs.length ≤ n → Only Hq → SqL K Hq p (zs.map V.int) → sp [.ref p] Hq (fun r _ => r = .bl true) fun _ _ _ => False) ∧
    ∀ b : Heap, K.In b → b.Ns mainGlobals mg → FnOk l.prog w K mg b (L2.CX l.prog w) k fa fd [x] sp
theorem walk_ofZ {l : PySem.W.OpenLaw} {n k : Nat} {q : Program} {loose : List Str} {XP : (Str → Option Value) → Heap → Prop} {YP : World → Heap → Prop} {d : DefRec} {x : Str} (most : l.most = some n) (line : n ≤ sizeLine) (bare : d.params.defaults = []) (room : Room k callerA)
    (F : ∀ w mg fa h, YP w h → h.Ns mainGlobals mg → mg d.name = some (.ref fa) → Kept l n k x w mg fa h) : PySem.W.WalkO q loose XP YP l.row.toRowW d [] fun f us => PySem.call f us :=
  Att.attach_call most bare fun w _ s1 mg _ fa _ _ _ _ p _ zs G y _ _ _ glob script whole short plain => by
    obtain ⟨K, fd, sp, inK, bind, promise, keeps⟩ := F w mg fa s1.heap y G.T.g glob
    exact law_call inK G.T.g G.T.b G.T.builtins G.T.nolimit plain script whole (Nat.le_trans short line) room keeps bind (fun Hq only seq => promise Hq p zs short only seq) fun _ _ _ ⟨_, _, _, _, _, _, _, _, _, _, _, _, no⟩ => no
end Z
namespace Z
open PySem PySem.Spec PyProof.Rows L2
def mkF (n m : Nat) (b : M D) : Beh := fun ds => if ds.length = n then (match b (ds.map some ++ List.replicate (m - n) none) with
  | .ok d r => .ok d (keepE [] n r)
  | .ex e r => .ex e (keepE [] n r)
  | .no => .no) else .no
def spF (G : Gm) (n : Nat) (B : Beh) : Sp := fun vs H Q E => vs.length = n ∧ ∃ F ds, Sta G [] F H (vs.map some) (ds.map some) ∧ Pst G (fun c dx _ H' => E c dx H') [] [] [] (vs.map some) F H (RF G [] (vs.map some) H) Q (B ds)
abbrev FnF (P : Program) (w : World) (G : Gm) (mg : Str → Option Value) (base : Heap) (k : Nat) (f : Addr) (fd : FuncData) (ps : List Str) (n : Nat) (B : Beh) : Prop := FnOk P w G.K mg base (L2.CX P w) k f fd ps (spF G n B)
section
variable {G : Gm} {X : Cx} {W : WX} {OX OL vs O O1 O2 O3 : List Nat}
theorem start_sta {N : List Str} {n m : Nat} {vs : List V} {ds : List D} {F H : Hp} (hm : N.length = m) (hl : vs.length = n) (hnm : n ≤ m) (St : Sta G [] F H (vs.map some) (ds.map some)) : Sta G [] F H (L2.start N vs) (ds.map some ++ List.replicate (m - n) none) := by
  have hds : ds.length = n := by
    have := St.len
    rw [List.length_map, List.length_map] at this
    omega
  have e : L2.start N vs = vs.map some ++ List.replicate (m - n) none := by
    unfold L2.start
    rw [hm, hl]
  rw [e]
  refine ⟨St.sub, St.nt, St.wf, by simp [hds, hl], fun i d hi q => ?_, fun i hi => (nomatch hi), fun i j a hi => (nomatch hi)⟩
  by_cases hlt : i < n
  · rw [List.getElem?_append_left (by simp; omega)] at q ⊢
    exact St.rp i d hi q
  · rw [List.getElem?_append_right (by simp; omega)] at q
    have := List.mem_of_getElem? q
    rw [List.mem_replicate] at this
    cases this.2
theorem def_okF {P : Program} {w : World} {mg : Str → Option Value} {base : Heap} {x qual : Str} {params : Arguments} {e : Expr} {rp : Pos} {scope : Scope} {dvs : List V} {kws : List (Str × V)} {f : Addr} {fd : FuncData} {N ps : List Str} {k : Nat} {n m : Nat} {b : M D} {body : List Stmt}
    (F : FunD G.K x qual params body scope dvs kws f fd) (S : FnScope N ps scope) (hbd : body = [.Return (some e) rp])
    (hb : ∀ (cdv : Value) (A : Around) (outer : List PySem.Env) (s : Shared) (H : Hp) (E : XK), Room k (cxOf (L2.CX P w) P w G.K mg base N qual scope f cdv A outer s H E).A → Takes (cxOf (L2.CX P w) P w G.K mg base N qual scope f cdv A outer s H E) (fun cls d _ H => E cls d H) →
      PE (cxOf (L2.CX P w) P w G.K mg base N qual scope f cdv A outer s H E) e (tF G (fun cls d _ H => E cls d H) [] [] [] b)) (hn : ps.length = n := by rfl) (hm : N.length = m := by rfl) : FnF P w G mg base (k + 1) f fd ps n (mkF n m b) := by
  subst hbd
  refine F.ok S (fun vs H Q E h => h.1.trans hn.symm) (fun cdv A outer s H vs Q E hr h => ⟨_, pss_one (ps_ret (hb cdv A outer s H E hr (takes_of rfl rfl rfl rfl))), ?_⟩)
  obtain ⟨hl, F0, ds, St, p⟩ := h
  have hds : ds.length = n := by
    have := St.len
    rw [List.length_map, List.length_map] at this
    omega
  have hnm : n ≤ m := by
    have h1 := congrArg List.length S.pre
    rw [List.length_take] at h1
    omega
  have SS := start_sta (N := N) hm hl hnm St
  refine ⟨F0, _, SS, ?_⟩
  unfold mkF at p
  rw [if_pos hds] at p
  have et : (L2.start N vs).take n = vs.map some := by
    unfold L2.start
    rw [List.take_left' (by simp [hl])]
  have hln : n ≤ (L2.start N vs).length := by rw [← SS.len]; simp [hds]
  revert p
  cases b (ds.map some ++ List.replicate (m - n) none) with
  | no => exact fun p => p
  | ex e q =>
    intro p c dx F' H' n' xr
    have c1 := n'.cut (n := n) (fun _ z => nomatch z) hln
    rw [et] at c1
    exact p c dx F' H' c1 xr
  | ok d q =>
    intro p v F' H' n' rf
    have c1 := n'.cut (n := n) (fun _ z => nomatch z) hln
    rw [et] at c1
    exact p v F' H' c1 ⟨rf.1, fun a ea => ⟨(rf.2 a ea).1, notOwn_nil⟩⟩
theorem spF_of {σ : L2.St} {F H : Hp} {r : Ev} {ds : List D} {vs : List V} {n : Nat} {B : Beh} {Q : VK} (hx : ∀ i ∈ OX, i ∈ O) (S : Sta G O F H σ r) (h : RepL G F ds vs) (hn : vs.length = n) {σ0 : L2.St} {H0 : Hp} (hH : ∀ a, H a = none → H0 a = none) (p : Pst G W OX O O σ F H (RF G O σ0 H0) Q (out0 (B ds) r)) (e0 : σ0 = σ) :
    spF G n B vs H Q (fun c dx H' => W c dx σ H') := by
  subst e0
  refine ⟨hn, F, ds, Sta.args S.sub S.nt S.wf h, ?_⟩
  have stay : ∀ {F' H' : Hp} {r' : Ev}, Nx G [] [] [] (vs.map some) F H (vs.map some) F' H' r' → Nx G OX O O σ0 F H σ0 F' H' r := fun {F' H' r'} n =>
    Nx.of (S.stay (n.stp.weak (Mo1 := fun _ => False) fun x z => absurd z notOwn_nil) n.sta.sub n.sta.nt n.sta.wf.ins fun _ _ z => z) (n.stp.weak fun x z => absurd z notOwn_nil) fun _ h => h
  revert p
  cases B ds with
  | no => exact fun p => p
  | ok d q =>
    intro p v F' H' n rf
    refine p v F' H' (stay n) ⟨rf.1, fun a ea => ⟨hH a (rf.2 a ea).1, fun ⟨i, hi, ei⟩ => ?_⟩⟩
    obtain ⟨d', v', _, e2, ow⟩ := S.ow i hi
    rw [ei] at e2
    cases e2
    obtain ⟨b, o, eb, hb⟩ := ow.there
    cases eb
    rw [(rf.2 a ea).1] at hb
    cases hb
  | ex e q => exact fun p c dx F' H' n x => let ⟨F2, n2, sb⟩ := (stay n).freeze hx; p c dx F2 H' n2 (x.mono sb)
structure GfOk (G : Gm) (P : Program) (w : World) (mg : Str → Option Value) (base : Heap) (k : Nat) (x : Str) (n : Nat) (B : Beh) (f : Addr) (fd : FuncData) (ps : List Str) : Prop where
  at_ : mg x = some (.ref f)
  kp : PySem.W.keepIn G.K (.ref f) = true
  fn : FnF P w G mg base k f fd ps n B
  bd : Binds G.K fd ps []
  ar : ∀ ds, ds.length ≠ n → B ds = .no
theorem arF_of {n m : Nat} {b : M D} : ∀ ds, ds.length ≠ n → mkF n m b ds = .no := fun ds h => if_neg h
theorem e_callF {x : Str} {p pos : Pos} {e : Expr} {es : List Expr} {k n : Nat} {B : Beh} {f : Addr} {fd : FuncData} {ps : List Str} {g : M (List D)} (tk : Takes X W) (hr : Room k X.A) (gl : GfOk G X.prog X.w X.mg X.base k x n B f fd ps)
    (ha : PA X (e :: es) (tA G W OX O O1 g)) (hx : ∀ i ∈ OX, i ∈ O1 := by decide) (hg : Gl X x := by rfl) (hK : X.K = G.K := by rfl) (hdb : (x == ("__debug__" : Str)) = false := by decide)
    (he : starEach (e :: es) X.env = (false, eval e X.env) :: starEach es X.env := by rfl) (hpl : (backTo pos (starEach es X.env)).any (·.1) = false := by rfl) : PE X (.Call (.Name x p) (e :: es) [] pos) (tF G W OX O O1 (eCd B [] g)) := by
  refine ⟨fun pins s σ H Q I ⟨F, r, S, p⟩ => ?_⟩
  refine wpAny_Call_Name_kw (ld_glob I hg gl.at_ ?_ hdb)
  refine PySem.W.callWith_K (h₀ := X.base) I.ok.mod.kin (by rw [hK]; exact gl.kp) (thn (ha.run pos pins s σ H (fun vs H1 => ∃ ds F1 r1, Nx G OX O O1 σ F H σ F1 H1 r1 ∧ RepL G F1 ds vs ∧ Pst G W OX O1 O1 σ F1 H1 (RF G O1 σ H) Q (out0 (B (ds ++ [])) r1)) I
    (tX_bind S p fun ds vs F1 H1 r1 n1 rs p => ⟨ds, F1, r1, n1, rs, p⟩)) fun us s1 ⟨vs, H1, I1, rv, ds, F1, r1, n1, rs, p⟩ => ⟨I1.kIn, ?_⟩) he hpl
  have Fk : FnOk X.prog X.w X.K X.mg X.base (L2.CX X.prog X.w) k f fd ps (spF G n B) := by rw [hK]; exact gl.fn
  rw [List.append_nil] at p
  have hl : vs.length = n := by
    by_cases h : ds.length = n
    · rw [← rs.length, h]
    · rw [gl.ar ds h] at p
      exact p.elim
  have sp := spF_of hx n1.sta rs hl (fun a => n1.stp.tr a) p rfl
  have z := run_fnSD (E := WE W) (dvs := []) (ds := []) Fk hr (by rw [hK]; exact gl.bd) .nil (passAt tk σ) I1 rv (by rw [List.append_nil]; exact sp)
  exact z
theorem f_lst {es : List Expr} {pos : Pos} {f : M (List D)} (h : PA X es (tA G W OX O O1 f)) : PE X (.List es pos) (tF G W OX O O1 (eN pLst f)) :=
  (pe_lst h).imp fun σ H Q ⟨F, r, S, p⟩ => tX_bind S p fun ds vs F1 H1 r1 n1 rs p => by
    revert p
    unfold pLst
    by_cases hz : okLen ds = true
    · rw [if_pos hz]
      intro p
      refine ⟨big_line (by have := rs.length; have := of_decide_eq_true hz; omega), fun q hq => ?_⟩
      obtain ⟨S2, s2, fp⟩ := new_ow (o := .lst vs) n1.sta hq rfl
      refine p _ F1 _ (Nx.of S2 s2 fun _ h => h) ⟨.lst upd_same fp rs, fun b eb => ?_⟩
      cases eb
      refine ⟨n1.stp.tr _ hq, fun ⟨i, hi, ei⟩ => ?_⟩
      obtain ⟨d', v', _, e2', ow⟩ := n1.sta.ow i hi
      rw [ei] at e2'
      cases e2'
      obtain ⟨b, o, eb, hb⟩ := ow.there
      cases eb
      rw [hq] at hb
      cases hb
    · rw [if_neg hz]
      exact fun p => p.elim
theorem e_callO {x y : Str} {p py pos : Pos} {es : List Expr} {k n : Nat} {B : Beh} {f : Addr} {fd : FuncData} {ps : List Str} {g : M (List D)} (i : Nat) (tk : Takes X W) (hr : Room k X.A) (gl : GlOk G X.prog X.w X.mg X.base k x n [0] B f fd ps) (hb : Binds G.K fd ps [])
    (ha : PA X es (tA G W OX O O1 g)) (hi : i ∈ O := by decide) (hi1 : i ∈ O1 := by decide) (hx : ∀ i ∈ OX, i ∈ O1 := by decide) (hN : X.N[i]? = some y := by rfl) (hv : Vis X.env.scope y := by first | exact Or.inl rfl | exact Or.inr (Or.inl rfl) | exact Or.inr (Or.inr rfl)) (hg : Gl X x := by rfl) (hK : X.K = G.K := by rfl)
    (hd : (y == ("__debug__" : Str)) = false := by decide) (hcd : (y == ("__classdict__" : Str)) = false := by decide) (hdb : (x == ("__debug__" : Str)) = false := by decide)
    (he : starEach (.Name y py :: es) X.env = (false, eval (.Name y py) X.env) :: starEach es X.env := by rfl) (hpl : (backTo pos (starEach es X.env)).any (·.1) = false := by rfl) : PE X (.Call (.Name x p) (.Name y py :: es) [] pos) (tE G W OX O O1 (eCo B i g)) := by
  refine ⟨fun pins s σ H Q I ⟨F, r, S, p⟩ => ?_⟩
  refine wpAny_Call_Name_kw (ld_glob I hg gl.at_ ?_ hdb)
  obtain ⟨d0, v0, _, e0, o0⟩ := S.ow i hi
  refine PySem.W.callWith_K (h₀ := X.base) I.ok.mod.kin (by rw [hK]; exact gl.kp) (thn ((pa_cons (pe_var hN hv hd hcd) ha he).run pos pins s σ H (fun vs H1 => ∃ vs', vs = v0 :: vs' ∧ ∃ ds F1 r1, Nx G OX O O1 σ F H σ F1 H1 r1 ∧ RepL G F1 ds vs' ∧ Pst G W OX O1 O1 σ F1 H1 (RD G) Q (match r1[i]? with
    | some (some d0) => out1 (B (d0 :: ds)) i r1
    | _ => .no)) I ⟨v0, e0, tX_bind S p fun ds vs F1 H1 r1 n1 rs p => ⟨vs, rfl, ds, F1, r1, n1, rs, p⟩⟩) fun us s1 ⟨vs, H1, I1, rv, vs', ev, ds, F1, r1, n1, rs, p⟩ => ⟨I1.kIn, ?_⟩) he hpl
  subst ev
  have Fk : FnOk X.prog X.w X.K X.mg X.base (L2.CX X.prog X.w) k f fd ps (spB G n [0] B) := by rw [hK]; exact gl.fn
  revert p
  split
  · rename_i d1 e1
    intro p
    have hl : (d1 :: ds).length = n := by
      by_cases h : (d1 :: ds).length = n
      · exact h
      · rw [gl.ar _ h] at p
        exact p.elim
    have hl2 : (v0 :: vs').length = n := by rw [← hl, List.length_cons, List.length_cons, rs.length]
    have sp := spB_of1 hx n1.sta hi1 e1 e0 rs hl2 p
    exact run_fnSD (E := WE W) (dvs := []) (ds := []) Fk hr (by rw [hK]; exact hb) .nil (passAt tk σ) I1 rv (by rw [List.append_nil]; exact sp)
  · exact fun p => p.elim
end
end Z
namespace Z
open PySem PySem.Spec PyProof.Rows L2
theorem lk_nil {α : Type} {p : Nat → α → Prop} : ∀ c a, List.lookup c ([] : List (Nat × α)) = some a → p c a := fun _ _ e => nomatch e
theorem lk_cons {α : Type} {p : Nat → α → Prop} {d : Nat} {b : α} {tb : List (Nat × α)} (h : p d b) (t : ∀ c a, tb.lookup c = some a → p c a) : ∀ c a, List.lookup c ((d, b) :: tb) = some a → p c a := fun c a e => by
  rw [List.lookup_cons] at e
  split at e
  · rename_i q
    cases e
    rw [beq_iff_eq.mp q]
    exact h
  · exact t c a e
theorem mem_nil {α : Type} {p : α → Prop} : ∀ a ∈ ([] : List α), p a := fun _ h => nomatch h
theorem bindK0 {K : PySem.W.Frag} {x qual : Str} {params : Arguments} {body : List Stmt} {scope : Scope} {f : Addr} {fd : FuncData} {ps : List Str} (F : FunD K x qual params body scope [] [] f fd) (n : Nat) (ks : List Str) (o : List Nat)
    (h : ∀ (kV doc pm : Value) (an : Option Addr) (cdv ct : Value) (us ws : List Value), us.length = n → ws.length = ks.length → bindArgs (PySem.W.fnOf x qual params body scope .none kV doc pm an cdv ct) ⟨us, ks.zip ws⟩ = pure (ps.zip (permL o (us ++ ws ++ [])))) : BindK K fd ps n ks o [] := by
  obtain ⟨oc, od, dV, kV, doc, pm, an, cdv, ct, osl, rfl, lk, hcd, hD, hK⟩ := F.ex
  rcases hD with ⟨_, rfl⟩ | ⟨e, _⟩
  · exact fun s us ws _ h1 h2 => .of_eq (h kV doc pm an cdv ct us ws h1 h2)
  · exact absurd rfl e
theorem fn_up {P : Program} {w : World} {G : Gm} {mg : Str → Option Value} {base : Heap} {j k : Nat} {f : Addr} {fd : FuncData} {ps : List Str} {n : Nat} {io : List Nat} {B : Beh} (h : FnB P w G mg base j f fd ps n io B) (l : j ≤ k) : FnB P w G mg base k f fd ps n io B :=
  FnOk.mono h l
section
variable {G : Gm} {X : Cx} {W : WX} {OX OL vs O O1 O2 O3 : List Nat}
theorem s_to {st : Stmt} {f : M Fl} (h : PS X st (tS G W OX OL O O1 f)) (e : O1 = O2 := by rfl) : PS X st (tS G W OX OL O O2 f) := e ▸ h
theorem g_to {tg : Expr} {g : Tg} (h : PG X tg (tG G OX vs O O1 g)) (e : O1 = O2 := by rfl) : PG X tg (tG G OX vs O O2 g) := e ▸ h
theorem e_gint {x : Str} {pos : Pos} {i : Int} (hm : ∃ t, X.mg x = some (.int i t)) (hg : Gl X x := by rfl) (hd : (x == ("__debug__" : Str)) = false := by decide) : PE X (.Name x pos) (tE G W OX O O (eK (.int i))) := by
  obtain ⟨t, hm⟩ := hm
  exact e_of (v := .int i) (pe_glob hg hm ⟨t, rfl⟩ hd) fun _ => .int
theorem e_gstr {x i : Str} {pos : Pos} (hm : ∃ t, X.mg x = some (.str i t)) (hg : Gl X x := by rfl) (hd : (x == ("__debug__" : Str)) = false := by decide) : PE X (.Name x pos) (tE G W OX O O (eK (.str i))) := by
  obtain ⟨t, hm⟩ := hm
  exact e_of (v := .str i) (pe_glob hg hm ⟨t, rfl⟩ hd) fun _ => .str
theorem e_bo1 {op : BoolOp} {a : Expr} {pos : Pos} {t : TE} (h : PE X a t) (he : eval (.BoolOp op [a] pos) X.env = eval a X.env := by rfl) : PE X (.BoolOp op [a] pos) t := ⟨fun pins s σ H Q I q => by rw [he]; exact h.run pins s σ H Q I q⟩
theorem tv_of {f : M D} {σ : L2.St} {H : Hp} {Q : Bool → Hp → Prop} (h : tT G W OX O O1 (tV f) σ H Q) : tE G W OX O O1 f σ H fun v H1 => ∃ c, v = .bl c ∧ Q c H1 := by
  obtain ⟨F, r, S, p⟩ := h
  refine tX_bind S p fun x v F1 H1 r1 n1 rx p => ?_
  revert p
  split
  · intro p
    cases rx
    exact ⟨_, rfl, p _ F1 H1 (Nx.rfl' n1.sta) rfl⟩
  · exact fun p => p.elim
theorem t_cmp {op : CmpOp} {a b : Expr} {pos : Pos} {o : D → D → Ev → Out D} {f g : M D} (ho : Op2 G X W OX O2 (compareOp op) o) (ha : PE X a (tE G W OX O O1 f)) (hb : PE X b (tE G W OX O1 O2 g)) (hm : behindInMarks op b = false := by first | exact nomark _ | rfl) :
    PT X (.Compare a [op] [b] pos) (tT G W OX O O2 (tV (eB o f g))) :=
  ⟨fun pins s σ H Q I h => by
    obtain ⟨F, r, S, p⟩ := tv_of h
    exact wpAny_isTrue_Compare1 (two ha hb I S p fun x y v w u u' s2 F2 H2 r2 I2 S2 rx ry ru ru' p => thn (ho pins s2 σ F2 H2 r2 x y v w u u' _ I2 S2 rx ry ru ru' p) fun c s3 ⟨z, H3, I3, rz, b, e, q⟩ => (by
      subst e
      cases rz
      exact wpAny_truthy_bool ⟨H3, I3, q⟩)) hm⟩
theorem t_notN {a : Expr} {j pos pos'} {f : M D} (ha : PE X a (tE G W OX O O1 f)) : PT X (.Compare a [.IsNot] [.Constant .none j pos'] pos) (tT G W OX O O1 (tV (eNotN f))) :=
  (pt_cmp (pc_notN ha) rfl).imp fun σ H Q h => by
    obtain ⟨F, r, S, p⟩ := tv_of h
    refine tX_bind S p fun x v F1 H1 r1 n1 rx p => ?_
    rw [rx.isN]
    exact p.ok n1.sta .bl
theorem t_chain {op op' : CmpOp} {a b c : Expr} {pos : Pos} {o o' : D → D → Ev → Out D} {f g h : M D} (ho : Op2 G X W OX O (compareOp op) o) (ho' : Op2 G X W OX O (compareOp op') o') (ha : PE X a (tE G W OX O O f)) (hb : PE X b (tE G W OX O O g))
    (hc : PE X c (tE G W OX O O h)) (hm : lastMarks [op, op'] [b, c] = false := by with_unfolding_all rfl) : PT X (.Compare a [op, op'] [b, c] pos) (tT G W OX O O (tV (eChain o o' f g h))) := by
  refine ⟨fun pins s σ H Q I hh => ?_⟩
  obtain ⟨F, r, S, p⟩ := tv_of hh
  refine isTrue_chain (thn (ha.run pins s σ H (fun v H1 => ∃ x, tE G W OX O O g σ H1 fun w H2 => ∃ F2 r2 y, Sta G O F2 H2 σ r2 ∧ Rep G F2 x v ∧ Rep G F2 y w ∧ Pst G W OX O O σ F2 H2 (RD G) (fun v H1 => ∃ c, v = .bl c ∧ Q c H1)
      ((o x y r2).bind fun z r3 => onBl z fun b => if b then (h r3).bind fun w r4 => o' y w r4 else .ok (.bl false) r3)) I
    (tX_bind S p fun x v F1 H1 r1 n1 rx p => ⟨x, tX_bind n1.sta p fun y w F2 H2 r2 n2 ry p => ⟨F2, r2, y, n2.sta, rx.mono n2.stp.fz, ry, p⟩⟩)) fun u s1 ⟨v, H1, I1, ru, x, q1⟩ =>
    test_link (thn (hb.run pins s1 σ H1 _ I1 q1) fun u' s2 ⟨w, H2, I2, ru', F2, r2, y, S2, rx, ry, p⟩ => ?_)) hm
  refine thn (ho pins s2 σ F2 H2 r2 _ y v w u u' _ I2 S2 rx ry ru ru' (Pst.bind (Rl := RD G) (O1 := O) p)) fun d s3 ⟨v3, H3, I3, r3', z, F3, r3, n3, rz, p⟩ => ?_
  cases rz with
  | @bl b =>
    cases r3'
    refine wpAny_truthy_bool ?_
    cases b with
    | false =>
      obtain ⟨b', e', q'⟩ := p.ok n3.sta .bl
      cases e'
      exact ite_ff ⟨H3, I3, q'⟩
    | true =>
      refine ite_tt (test_last (thn (hc.run pins s3 σ H3 (fun w' H4 => ∃ F4 r4 z', Sta G O F4 H4 σ r4 ∧ Sub F3 F4 ∧ Rep G F4 z' w' ∧ Pst G W OX O O σ F4 H4 (RD G) (fun v H1 => ∃ c, v = .bl c ∧ Q c H1) (o' y z' r4)) I3
        (tX_bind n3.sta p fun z' w' F4 H4 r4 n4 rz p => ⟨F4, r4, z', n4.sta, n4.stp.fz, rz, p⟩)) fun u'' s4 ⟨w', H4, I4, r4', F4, r4, z', S4, sb4, rz, p⟩ => ?_))
      refine thn (ho' pins s4 σ F4 H4 r4 y z' w w' u' u'' _ I4 S4 (ry.mono (n3.stp.fz.trans sb4)) rz ru' r4' p) fun d' s5 ⟨z2, H5, I5, r5, k2, e2, q5⟩ => ?_
      subst e2
      cases r5
      exact wpAny_truthy_bool ⟨H5, I5, q5⟩
  | _ => exact p.elim
end
theorem end_of {G : Gm} {B : Beh} {H : Hp} {a : Addr} {ns : List Int} {r : Ev} (hG : G.tabs = []) (hO : Only H) (hS : SqL G.K H a (ns.map V.int)) (h : B [.kl (ns.map D.int)] = .ok (.bl true) r) : spB G 1 [] B [.ref a] H (fun v _ => v = .bl true) fun _ _ _ => False := by
  refine ⟨rfl, H, [.kl (ns.map D.int)], Sta.args .rfl' (fun b o e => by rcases hO b with q | ⟨o', xs, q⟩ <;> rw [q] at e <;> cases e; rfl) ⟨fun b C dx fs f e => ?_, by rw [hG]; exact fun _ z => absurd z (by simp)⟩ (.cons (.kl hS (RepL.ofInts ns)) .nil), ?_⟩
  · rcases hO b with q | ⟨o, xs, q⟩
    · rw [q] at e
      cases e
    · rw [q] at e
      cases e
  · rw [h]
    intro v F' H' n rd
    cases rd
    rfl
end Z
namespace Z
open PySem PySem.Spec PyProof.Rows L2
@[simp] theorem pEq_int (i j : Int) : pEq (.int i) (.int j) = some (.bl (decide (i = j))) := by
  unfold pEq pEqB toP SeqAt.shaped
  simp [PyData.canLay0, PyData.depth, PyData.eqv]
  by_cases h : i = j <;> simp [h]
@[simp] theorem pNe_int (i j : Int) : pNe (.int i) (.int j) = some (.bl (!decide (i = j))) := by
  unfold pNe pEqB toP SeqAt.shaped
  simp [PyData.canLay0, PyData.depth, PyData.eqv]
  by_cases h : i = j <;> simp [h]
theorem toPs_ints (ns : List Int) : toPs (ns.map D.int) = some (ns.map PyData.int) := by
  induction ns with
  | nil => rfl
  | cons n ns ih => simp [toPs, toP, ih]
theorem canLay_ints (ns : List Int) : PyData.canLayAll0 (ns.map PyData.int) = true := by
  induction ns with
  | nil => rfl
  | cons n ns ih => simp [PyData.canLayAll0, PyData.canLay0, ih]
theorem depth_ints (ns : List Int) : PyData.depthAll (ns.map PyData.int) = 0 := by
  induction ns with
  | nil => rfl
  | cons n ns ih => simp [PyData.depthAll, PyData.depth, ih]
theorem pNe_nil (ns : List Int) : pNe (.lst (ns.map .int)) (.lst []) = some (.bl (!ns.isEmpty)) := by
  unfold pNe pEqB toP SeqAt.shaped
  rw [toPs_ints]
  cases ns with
  | nil => simp [PyData.canLay0, PyData.canLayAll0, PyData.depth, PyData.depthAll, PyData.eqv, PyData.eqvAll, toPs]
  | cons n ns => simp [PyData.canLay0, PyData.canLayAll0, canLay_ints, PyData.depth, PyData.depthAll, depth_ints, PyData.eqv, PyData.eqvAll, toPs]
@[simp] theorem pAdd_int (i j : Int) : pAdd (.int i) (.int j) = some (.int (i + j)) := rfl
@[simp] theorem pSub_int (i j : Int) : pSub (.int i) (.int j) = some (.int (i - j)) := rfl
@[simp] theorem pNeg_int (i : Int) : pNeg (.int i) = some (.int (-i)) := rfl
@[simp] theorem pLt_int (i j : Int) : pLt (.int i) (.int j) = some (.bl (decide (i < j))) := rfl
@[simp] theorem pLe_int (i j : Int) : pLe (.int i) (.int j) = some (.bl (decide (i ≤ j))) := rfl
@[simp] theorem pGt_int (i j : Int) : pGt (.int i) (.int j) = some (.bl (decide (j < i))) := rfl
@[simp] theorem pGe_int (i j : Int) : pGe (.int i) (.int j) = some (.bl (decide (j ≤ i))) := rfl
@[simp] theorem pInt_int (i : Int) : pInt [.int i] = some (.int i) := rfl
@[simp] theorem pInt_bl (b : Bool) : pInt [.bl b] = some (.int (if b then 1 else 0)) := rfl
@[simp] theorem pBool_int (i : Int) : pBool [.int i] = some (.bl (i != 0)) := rfl
@[simp] theorem pAbs_int (i : Int) : pAbs [.int i] = some (.int (if i < 0 then -i else i)) := rfl
@[simp] theorem pGcd_int (a b : Int) : pGcd [.int a, .int b] = some (.int ((Int.gcd a b : Nat) : Int)) := rfl
theorem mulB_left {i j : Int} (h : i.natAbs < 2 ^ 60) : mulB i j = true := by
  unfold mulB
  rw [wd_of h (by omega) (Nat.le_refl _)]
  rfl
theorem mulB_right {i j : Int} (h : j.natAbs < 2 ^ 60) : mulB i j = true := by
  unfold mulB
  rw [wd_of (n := 60) h (by omega) (Nat.le_refl _)]
  simp
theorem mulB_both {i j : Int} {a b : Nat} (h : i.natAbs < 2 ^ a) (h' : j.natAbs < 2 ^ b) (ha : 0 < a) (hb : 0 < b) (ha' : a ≤ 400000) (hb' : b ≤ 400000) : mulB i j = true := by
  unfold mulB
  rw [wd_of (n := 400000) h ha ha', wd_of (n := 400000) h' hb hb']
  simp
theorem pMul_int {i j : Int} (h : mulB i j = true) : pMul (.int i) (.int j) = some (.int (i * j)) := by
  unfold pMul
  exact if_pos h
theorem pDiv_int {i j : Int} (h : wd 8000 j = true) (h0 : j ≠ 0) : pDiv (.int i) (.int j) = some (.int (i.fdiv j)) := by
  unfold pDiv
  exact if_pos (by simp [h, h0])
theorem pMod_int {i j : Int} (h0 : j ≠ 0) : pMod (.int i) (.int j) = some (.int (i.fmod j)) := by
  unfold pMod
  exact if_neg h0
theorem pPow_int {i j : Int} (h0 : 0 ≤ j) (h1 : j ≤ 1000000) (h : i.natAbs < 2 ^ 64) : pPow (.int i) (.int j) = some (.int (i ^ j.toNat)) := by
  unfold pPow
  exact if_pos ⟨h0, h1, h⟩
theorem pLen_lst {l : List D} : pLen [.lst l] = some (.int (l.length : Nat)) := rfl
theorem pLst_ok {l : List D} (h : l.length ≤ 64) : pLst l = some (.lst l) := by
  unfold pLst okLen big
  rw [if_pos (by simp; omega)]
end Z
namespace Z
open PySem PySem.Spec PyProof.Rows L2
@[simp] def sApp (i : Nat) (f : M D) : M Fl := fun r => match r[i]? with
  | some (some (.lst _)) => (f r).bind fun d r1 => match r1[i]? with
    | some (some (.lst l)) => if l.length < sizeLine then .ok .nx (r1.set i (some (.lst (l ++ [d])))) else .no
    | _ => .no
  | _ => .no
@[simp] def eRev (f g : M D) : M D := fun r => (f r).bind fun x r1 => (g r1).bind fun k r2 => liftO (revM x k) r2
def maxI : List Int → Int
  | [] => 0
  | [n] => n
  | n :: m :: l => max n (maxI (m :: l))
def pMax1 : List D → Option D
  | [x] => (lisOf x).bind fun l => (toInts l).bind fun ns => if ns = [] then none else some (.int (maxI ns))
  | _ => none
theorem maxI_is : ∀ {ns : List Int}, ns ≠ [] → maxI ns ∈ ns ∧ ∀ y ∈ ns, y ≤ maxI ns
  | [], h => absurd rfl h
  | [n], _ => by simp [maxI]
  | n :: m :: l, _ => by
    obtain ⟨h1, h2⟩ := maxI_is (ns := m :: l) (by simp)
    rw [maxI]
    refine ⟨?_, fun y hy => ?_⟩
    · by_cases q : n ≤ maxI (m :: l)
      · rw [Int.max_eq_right q]
        exact List.mem_cons_of_mem _ h1
      · rw [Int.max_eq_left (by omega)]
        exact List.mem_cons_self
    · rcases List.mem_cons.mp hy with e | hy
      · rw [e]; exact Int.le_max_left _ _
      · exact Int.le_trans (h2 y hy) (Int.le_max_right _ _)
theorem RepL.rev {G : Gm} {F : Hp} : ∀ {ds : List D} {vs : List V}, RepL G F ds vs → RepL G F ds.reverse vs.reverse := by
  intro ds
  induction ds with
  | nil => intro vs h; cases h; exact .nil
  | cons d ds ih =>
    intro vs h
    cases h with
    | cons a b =>
      rw [List.reverse_cons, List.reverse_cons]
      exact (ih b).snoc a
section
variable {G : Gm} {X : Cx} {W : WX} {OX OL vs O O1 O2 O3 : List Nat}
theorem ss_frz {st : List Stmt} {f : M Fl} (h : PSs X st (tS G W OX OL O1 O2 f)) (hs : ∀ i ∈ O1, i ∈ O := by decide) : PSs X st (tS G W OX OL O O2 f) :=
  h.imp fun Dn σ H ⟨F, r, S, p⟩ => by
    obtain ⟨F2, n2, sb⟩ := (Nx.rfl' (OX := OX) S).freeze hs
    exact ⟨F2, r, n2.sta, PstS.after n2 p⟩
theorem s_app {x : Str} {e : Expr} {pos cpos apos px : Pos} {f : M D} (i : Nat) (he : PE X e (tE G W OX O O1 f)) (hO : i ∈ O := by decide) (hi : i ∈ O1 := by decide) (hN : X.N[i]? = some x := by rfl) (hv : Vis X.env.scope x := by first | exact Or.inl rfl | exact Or.inr (Or.inl rfl) | exact Or.inr (Or.inr rfl))
    (hd : (x == ("__debug__" : Str)) = false := by decide) (hcd : (x == ("__classdict__" : Str)) = false := by decide)
    (hbase : attributeBase (.Name x px) "append" X.env (eval (.Name x px) X.env) = eval (.Name x px) X.env := by rfl)
    (hfew : ((backTo cpos (starEach [e] X.env)).all (fun x => !x.1) && (backToKw cpos (keywordEach [] X.env)).all (fun x => x.1.isSome)
      && decide (([e] : List Expr).length + ([] : List Keyword).length + (if ([] : List Keyword).isEmpty then 0 else 1) < 30)) = true := by rfl)
    (hline : (apos.endLine == cpos.line) = true := by rfl) (hs : starEach [e] X.env = (false, eval e X.env) :: starEach [] X.env := by rfl) (hplain : (backTo cpos (starEach [] X.env)).any (·.1) = false := by rfl)
    (hsw : swapsWith (.Call (.Attribute (.Name x px) "append" apos) [e] [] cpos) none pos.line X.env = pure false := by rfl) : PS X (.Expr (.Call (.Attribute (.Name x px) "append" apos) [e] [] cpos) pos) (tS G W OX OL O O1 (sApp i f)) :=
  (ps_expr (pe_bm PySem.F.plainAttrs_list PySem.F.slot_list_append PySem.F.type_list_append mt_append (pe_var hN hv hd hcd) (pa_cons he pa_nil hs) hbase hfew hline hs hplain) hsw).imp fun Dn σ H ⟨F, r, S, p⟩ => by
    obtain ⟨d0, v0, e1, e2, o0⟩ := S.ow i hO
    simp only [sApp, e1] at p
    cases o0 with
    | @lst l0 a xs h hf rr =>
      simp only at p
      refine ⟨_, e2, .inl ⟨rfl, xs, .inl (.inl h)⟩, tS_bind S p fun d v F1 H1 r1 n1 rd p => ?_⟩
      revert p
      split
      · rename_i l e3
        intro p
        obtain ⟨v1, e4, o⟩ := n1.sta.own_at hi e3
        rw [e2] at e4
        cases e4
        cases o with
        | @lst _ _ xs1 h1 hf1 rr1 =>
          split at p
          · rename_i hz
            refine ⟨a, xs1, v, rfl, rfl, h1, by rw [← rr1.length]; exact hz, p _ _ _ (n1.sta.wr hi e2 (.lst upd_same hf1 (RepL.snoc rr1 rd)) (sub_wr n1.sta.sub hf1) (n1.sta.wf.upd rfl))⟩
          · exact p.elim
      · exact fun p => p.elim
    | _ => exact p.elim
theorem e_max1 {x : Expr} {xs : List Expr} {pp pos : Pos} {f : M (List D)} (ha : PA X (x :: xs) (tA G W OX O O1 f)) (hm : X.mg "max" = none := by assumption) (hg : Gl X "max" := by rfl) (hc : X.calm = true := by rfl) (hK : X.K = G.K := by rfl)
    (he : starEach (x :: xs) X.env = (false, eval x X.env) :: starEach xs X.env := by rfl) (hpl : (backTo pos (starEach xs X.env)).any (·.1) = false := by rfl) : PE X (.Call (.Name "max" pp) (x :: xs) [] pos) (tE G W OX O O1 (eN pMax1 f)) :=
  e_cB pMax1 (cr_max hc) (fun σ F H r ds vs d Q S rs e q => by
    unfold pMax1 at e
    split at e
    · obtain ⟨l, e1, e2⟩ := Option.bind_eq_some_iff.mp e
      obtain ⟨ns, e3, e4⟩ := Option.bind_eq_some_iff.mp e2
      split at e4
      · cases e4
      rename_i hne
      cases e4
      cases rs with
      | cons r1 rr =>
        cases rr
        obtain ⟨a, xs, rfl, hq, rl⟩ := lis_of r1 e1
        rw [toInts_eq e3] at rl
        rw [hK]
        refine ⟨a, ns, rfl, by rw [← rl.ints]; exact hq H S.sub, List.length_pos_iff.mpr hne, fun m h1 h2 => ?_⟩
        obtain ⟨g1, g2⟩ := maxI_is hne
        have : m = maxI ns := Int.le_antisymm (g2 m h1) (h2 _ g1)
        subst this
        exact q.ok S .int
    · cases e) ha hm (hg := hg) (he := he) (hpl := hpl)
theorem pick_rev (xs : List Value) : slicePick xs.toArray none none (some (-1)) = xs.reverse.toArray := by
  unfold slicePick sliceRange sliceBounds
  apply congrArg List.toArray
  have e : ∀ (n : Nat), ((if ((n : Int) - 1) > -1 then ((n : Int) - 1 - (-1) - (-1) - 1) / (-(-1)) else 0 : Int)).toNat = n := by
    intro n
    rw [show ((n : Int) - 1 - (-1) - (-1) - 1) = n by omega, show (-(-1) : Int) = 1 by rfl, Int.ediv_one]
    split <;> omega
  simp only [Option.getD_some, show ¬ ((-1 : Int) > 0) by omega, if_false, List.size_toArray, e]
  apply List.ext_getElem?
  intro k
  have key : ∀ (m : Nat), m ≤ xs.length → List.filterMap (fun x => xs[x]?) (List.map (fun (k : Nat) => ((xs.length : Int) - 1 + -1 * (k : Int)).toNat) (List.range m)) = (xs.reverse).take m := by
    intro m
    induction m with
    | zero => simp
    | succ m ih =>
      intro hm
      rw [List.range_succ, List.map_append, List.filterMap_append, ih (by omega), List.take_succ]
      congr 1
      have e2 : ((xs.length : Int) - 1 + -1 * (m : Int)).toNat = xs.length - 1 - m := by omega
      simp only [List.map_cons, List.map_nil, e2]
      rw [List.getElem?_reverse (by omega)]
      have : xs[xs.length - 1 - m]? = some (xs[xs.length - 1 - m]'(by omega)) := List.getElem?_eq_getElem _
      simp [this]
  have z := key xs.length (Nat.le_refl _)
  rw [List.take_of_length_le (by simp)] at z
  rw [← z]
  rw [show (fun x => xs.toArray[x]?) = fun x => xs[x]? from funext fun x => List.getElem?_toArray]
theorem vals_rev2 {xs : List V} : ∀ {us : List Value}, Vals xs us → Vals xs.reverse us.reverse := by
  induction xs with
  | nil => intro us h; cases h; exact .nil
  | cons x xs ih =>
    intro us h
    cases h with
    | cons a b =>
      rw [List.reverse_cons, List.reverse_cons]
      exact (ih b).append (.cons a .nil)
theorem e_rev {e st : Expr} {p2 pos : Pos} {f g : M D} (he : PE X e (tE G W OX O O1 f)) (hst : PE X st (tE G W OX O1 O2 g)) (hK : X.K = G.K := by rfl) (htl : ∀ a b, subscripted (.Slice none none (some st) p2) false a b = operate [a, b] (getItem a b) := by intro _ _; rfl) :
    PE X (.Subscript e (.Slice none none (some st) p2) pos) (tE G W OX O O2 (eRev f g)) := by
  refine ⟨fun pins s σ H Q I ⟨F, r, S, p⟩ => ?_⟩
  refine Subscript_ (thn (he.run pins s σ H (fun x H1 => ∃ d F1 r1, Nx G OX O O1 σ F H σ F1 H1 r1 ∧ Rep G F1 d x ∧ Pst G W OX O1 O2 σ F1 H1 (RD G) Q ((g r1).bind fun k r2 => liftO (revM d k) r2)) I (tX_bind S p fun d v F1 H1 r1 n1 rd p => ⟨d, F1, r1, n1, rd, p⟩)) fun v s1 ⟨x, H1, I1, r1, d, F1, q1, n1, rd, p⟩ => ?_)
  refine wpAny_Slice ?_
  rw [evalPart_none, evalPart_some]
  refine wpAny_pure (wpAny_pure ?_)
  refine thn (hst.run pins s1 σ H1 (fun y H2 => ∃ k F2 r2, Nx G OX O1 O2 σ F1 H1 σ F2 H2 r2 ∧ Rep G F2 k y ∧ Pst G W OX O2 O2 σ F2 H2 (RD G) Q (liftO (revM d k) r2)) I1 (tX_bind n1.sta p fun k y F2 H2 r2 n2 ry p => ⟨k, F2, r2, n2, ry, p⟩)) fun w s2 ⟨y, H2, I2, ry, k, F2, r2, n2, rk, p⟩ => ?_
  obtain ⟨dd, ed, q⟩ := p.lift
  unfold revM at ed
  split at ed
  case h_2 => cases ed
  split at ed
  case isFalse => cases ed
  rename_i hn
  subst hn
  cases ed
  cases rk
  obtain ⟨t, rfl⟩ := ry
  have I4 : Inv X pins σ H2 { s2 with heap := s2.heap.push { cls := .type "slice", data := .fields #[.none, .none, .int (-1) t] } } := I2.kept (t' := s2.toks) fun b ob q => Heap.get?_push_of_some _ q
  have rd := rd.mono n2.stp.fz
  cases rd with
  | @lst _ a xs h rl =>
    obtain rfl : v = Value.ref a := r1
    obtain ⟨o', e', g'⟩ := n2.sta.sub _ _ h
    rw [g'.lst] at e'
    have hx : SqL X.K H2 a xs := .inl (.inl e')
    obtain ⟨its, rv, ht, hz⟩ := I4.list hx
    have hg : wpAny (model X.prog X.w) X.A (getItem (.ref a) (.ref s2.heap.objs.size)) (EP X pins σ Q) X.xe { s2 with heap := s2.heap.push { cls := .type "slice", data := .fields #[.none, .none, .int (-1) t] } } := by
      refine wpAny_getItem_list_slice ht.isList (Heap.IsSliceOf.new ..) .none .none (.int (-1) t) (by decide) ?_ (by rw [List.size_toArray, ← rv.length]; exact hz)
      rw [pick_rev]
      refine ⟨.ref _, _, I4.laid (t' := s2.toks) (o := .lst xs.reverse) (fun b ob q => Heap.get?_push_of_some _ q) (Nat.le_refl _) ?_, rfl, ?_⟩
      · exact ⟨by rw [List.length_reverse]; exact hz, _, 0, vals_rev2 rv, Heap.get?_push_size _ rfl⟩
      · exact q.fz n2.sta (I4.hok.fresh (Nat.le_refl _)) rfl fun F' hF sb' => .lst hF (rl.mono sb').rev
    show wpAny (model X.prog X.w) X.A (subscriptTail e (.Slice none none (some st) p2) (.ref a) (.ref s2.heap.objs.size)) (EP X pins σ Q) X.xe { s2 with heap := s2.heap.push { cls := .type "slice", data := .fields #[.none, .none, .int (-1) t] } }
    exact tail_any (ops := [.ref a, .ref s2.heap.objs.size]) ht.isList.typeIs slot_list_getitem.lookup hg (htl _ _)
end
end Z
namespace Z
open PySem PySem.SeqAt
open AutoSeq1 (wpAny_loadPart')
open MeetsSeq MeetsSeq2 MeetsSeq3 SeqRoads2
section
variable {prog : Program} {w : World} {A : Around} {E : Value → Shared → Prop} {s : Shared}
theorem loop_eq {R : Result → Shared → Prop} (p1 p2 : Addr) (k1 k2 : Array Value) (m1 m2 : Nat) (u1 u2 : Option Addr) (z1 z2 : Array (Option Value)) (Y : Nat → Shared → Prop) (N : Shared → Prop)
    (lap : ∀ i (g1 : i < k1.size) (g2 : i < k2.size) s', Y i s' → wpAny (model prog w) A.in1 (eqBool k1[i] k2[i]) (fun b s2 => (b = true ∧ Y (i + 1) s2) ∨ (b = false ∧ N s2)) (fun e s' => R (.error e) s') s')
    (end1 : ∀ s', Y (min k1.size k2.size) s' → R (.ok (.ret (.bool (k1.size == k2.size)))) s') (end2 : ∀ s', N s' → R (.ok (.ret (.bool false))) s')
    (a1 : s.heap.get? p1 = some { cls := .type "tuple", dict := u1, data := .seq k1 m1, slots := z1 }) (a2 : s.heap.get? p2 = some { cls := .type "tuple", dict := u2, data := .seq k2 m2, slots := z2 }) (st : Y 0 s) :
    wpAny (model prog w) A.in1 (Builtin.«tuple.__eq__» ⟨[.ref p1, .ref p2], []⟩) (GQ.FinOf prog w A R) (fun e s' => R (.error e) s') s := by
  have j2 := AutoSeq1.sub_tuple_tuple
  have lz : (k1.toList.zip k2.toList).length = min k1.size k2.size := by simp
  have st0 := st
  obtain ⟨hp, g, d, tk, os⟩ := s
  wp_walk using wpAny_loadPart' a1, wpAny_loadPart' a2, wpAny_forIn_list _ (fun more b s' => b.1 = none ∧ ∃ i, more = (k1.toList.zip k2.toList).drop i ∧ i ≤ min k1.size k2.size ∧ Y i s') _
  case turn =>
    rintro ⟨c1, c2⟩ more b s' ⟨_, i, hm, _, hY⟩
    have q : i < (k1.toList.zip k2.toList).length := by
      rcases Nat.lt_or_ge i (k1.toList.zip k2.toList).length with q | q
      · exact q
      · rw [List.drop_of_length_le q] at hm; cases hm
    have q1 : i < k1.size := by omega
    have q2 : i < k2.size := by omega
    rw [List.drop_eq_getElem_cons q] at hm
    injection hm with e1 e2
    have f1 : c1 = k1[i] := by simpa using congrArg Prod.fst e1
    have f2 : c2 = k2[i] := by simpa using congrArg Prod.snd e1
    subst f1 f2
    refine wpAny_bind (wpAny_mono (lap i q1 q2 s' hY) (fun b s2 hb => ?_) fun _ _ x => x)
    rcases hb with ⟨rfl, hb⟩ | ⟨rfl, hb⟩
    · wp_walk
      exact ⟨rfl, i + 1, e2, by omega, hb⟩
    · have hb := end2 _ hb
      wp_walk
      exact hb
  case fin =>
    rintro ⟨b1, b2⟩ s' ⟨hb, i, hm, hi, hY⟩
    simp only at hb
    subst hb
    have q : min k1.size k2.size ≤ i := by
      rcases Nat.lt_or_ge i (k1.toList.zip k2.toList).length with q | q
      · rw [List.drop_eq_getElem_cons q] at hm; cases hm
      · omega
    have ei : i = min k1.size k2.size := by omega
    have hR := end1 s' (ei ▸ hY)
    wp_walk
    simpa [Builtin.Tuple.tupleCompareSizes, bne] using hR
  case h => exact ⟨rfl, 0, rfl, Nat.zero_le _, st0⟩
theorem rc_eq {p1 p2 : Addr} {k1 k2 : Array Value} {Q : Value → Shared → Prop} (hu : A.units < cLine) (Y : Nat → Shared → Prop) (N : Shared → Prop) (t1 : s.heap.IsTuple p1 k1) (t2 : s.heap.IsTuple p2 k2)
    (lap : ∀ i (g1 : i < k1.size) (g2 : i < k2.size) s', Y i s' → wpAny (model prog w) A.in1 (eqBool k1[i] k2[i]) (fun b s2 => (b = true ∧ Y (i + 1) s2) ∨ (b = false ∧ N s2)) E s')
    (end1 : ∀ s', Y (min k1.size k2.size) s' → Q (.bool (k1.size == k2.size)) s') (end2 : ∀ s', N s' → Q (.bool false) s') (st : Y 0 s) : wpAny (model prog w) A (richCompare .Eq (.ref p1) (.ref p2)) Q E s := by
  obtain ⟨⟨c1, u1, _, z1⟩, o1, w1, m1, x1⟩ := id t1
  obtain ⟨⟨c2, u2, _, z2⟩, o2, w2, m2, x2⟩ := id t2
  simp only at w1 x1 w2 x2
  subst w1 x1 w2 x2
  refine wpAny_richCompare_same_room (op := .Eq) ⟨_, o1, rfl⟩ ⟨_, o2, rfl⟩ F.slot_tuple_eq (GQ.call_here F.slot_tuple_eq ⟨_, o1, rfl⟩ F.entry_tuple_eq (F.args_tuple_eq_2 _ _) ?_) hu
  exact loop_eq (R := wants (fun v s' => v ≠ .notImplemented ∧ Q v s') E) p1 p2 k1 k2 m1 m2 u1 u2 z1 z2 Y N lap (fun s' q => ⟨(fun x => nomatch x), end1 s' q⟩) (fun s' q => ⟨(fun x => nomatch x), end2 s' q⟩) o1 o2 st
end
end Z
namespace Z
open PySem PySem.Spec PyProof.Rows L2
def neI : Option D → Option D → Bool
  | some (.int a), some (.int b) => decide (a ≠ b)
  | _, _ => false
def apt : D → D → Bool
  | .ob c l, .ob d m => decide (c = d) && (neI l[0]? m[0]? || neI l[1]? m[1]?)
  | _, _ => false
def eqL (f : D → D → Option Bool) : List D → List D → Option Bool
  | [], [] => some true
  | x :: l, y :: m => match f x y with
    | some true => eqL f l m
    | some false => some false
    | none => none
  | _, _ => some false
def eqO (o : Option Beh) (x y : D) : Option Bool := match o with
  | some B => (match B [x, y] with
    | .ok (.bl b) _ => if b || apt x y then some b else none
    | _ => none)
  | none => none
def eqY (tb : List (Nat × Beh)) (ts : List String) (cs : List Nat) : Nat → D → D → Option Bool
  | _, .ob c l, y => if rk ts cs y then eqO (tb.lookup c) (.ob c l) y else none
  | n + 1, .tup l, .tup m => eqL (eqY tb ts cs n) l m
  | _, _, _ => none
def oEY (n : Nat) (tb : List (Nat × Beh)) (ts : List String) (cs : List Nat) (x y : D) (r : Ev) : Out D := match x, y with
  | .tup l, .tup m => (match eqL (eqY tb ts cs n) l m with
    | some b => .ok (.bl b) r
    | none => .no)
  | _, _ => .no
section
variable {G : Gm} {X : Cx} {W : WX} {OX OL vs O O1 O2 O3 : List Nat}
theorem RepL.neI {F : Hp} {l m : List D} {xs ys : List V} {i : Nat} (r : RepL G F l xs) (r' : RepL G F m ys) (e : neI l[i]? m[i]? = true) : ∃ a b, xs[i]? = some (.int a) ∧ ys[i]? = some (.int b) ∧ a ≠ b := by
  unfold Z.neI at e
  split at e
  · rename_i a b e1 e2
    obtain ⟨v, e3, h3⟩ := r.get e1
    obtain ⟨v', e4, h4⟩ := r'.get e2
    cases h3
    cases h4
    exact ⟨a, b, e3, e4, of_decide_eq_true e⟩
  · cases e
theorem zip_at {lay : List Str} {xs : List V} {more : List (Str × V)} {i : Nat} {v : V} (hl : xs.length ≤ lay.length) (e : xs[i]? = some v) : ((lay.zip xs ++ more)[i]?).map (·.2) = some v := by
  have hi : i < xs.length := (List.getElem?_eq_some_iff.mp e).1
  have hj : i < lay.length := by omega
  have q : (lay.zip xs)[i]? = some (lay[i], v) := List.getElem?_zip_eq_some.mpr ⟨List.getElem?_eq_getElem hj, e⟩
  rw [List.getElem?_append_left (by rw [List.length_zip]; omega), q]
  rfl
theorem apt_ne {F : Hp} {x y : D} {v : V} (h : apt x y = true) (rx : Rep G F x v) (ry : Rep G F y v) : False := by
  unfold apt at h
  split at h
  · rename_i c l d m
    rw [Bool.and_eq_true, Bool.or_eq_true] at h
    obtain ⟨h1, h2⟩ := h
    have h1 := of_decide_eq_true h1
    subst h1
    cases rx with
    | @ob _ _ a dx xs more h hl r =>
      cases ry with
      | @ob _ _ _ dx2 xs2 more2 h' hl' r' =>
        rw [h] at h'
        injection h' with h'
        injection h' with _ _ h'
        have go : ∀ i, Z.neI l[i]? m[i]? = true → False := fun i q => by
          obtain ⟨a, b, e1, e2, ne⟩ := r.neI r' q
          have z1 := zip_at (more := more) hl e1
          have z2 := zip_at (more := more2) hl' e2
          rw [h', z2] at z1
          injection z1 with z1
          injection z1 with z1
          exact ne z1.symm
        rcases h2 with h2 | h2
        · exact go 0 h2
        · exact go 1 h2
  · cases h
theorem relV_ref {v : V} {a : Addr} (h : RelV v (.ref a)) : v = .ref a := by
  cases v <;> simp [L2.RelV] at h
  · rw [h]
theorem eqL_ne {pins : List (Addr × Obj)} {σ : L2.St} {F H : Hp} {s : Shared} {f : D → D → Option Bool} (I : Inv X pins σ H s) (hf : ∀ x y vx vy u, f x y = some false → Rep G F x vx → Rep G F y vy → RelV vx u → RelV vy u → False) :
    ∀ {l m : List D} {xs : List V}, eqL f l m = some false → RepL G F l xs → RepL G F m xs → (∀ x ∈ xs, ∃ u, RelV x u) → False
  | [], [], _, e, _, _, _ => by cases e
  | x :: l, y :: m, _, e, .cons a b, .cons c d, hr => by
    obtain ⟨u, hu⟩ := hr _ List.mem_cons_self
    rw [eqL] at e
    split at e
    · exact eqL_ne I hf e b d fun x m => hr x (List.mem_cons_of_mem _ m)
    · rename_i e1
      exact hf x y _ _ u e1 a c hu hu
    · cases e
  | [], _ :: _, _, _, a, b, _ => by cases a; cases b
  | _ :: _, [], _, _, a, b, _ => by cases b; cases a
theorem vals_some : ∀ {xs : List V} {us : List Value}, Vals xs us → ∀ x ∈ xs, ∃ u, RelV x u
  | _, _, .nil, _, m => nomatch m
  | _, _, .cons r t, x, m => by
    rcases List.mem_cons.mp m with e | m
    · rw [e]; exact ⟨_, r⟩
    · exact vals_some t x m
theorem eqY_ne {pins : List (Addr × Obj)} {σ : L2.St} {F H : Hp} {s : Shared} {tb : List (Nat × Beh)} {ts : List String} {cs : List Nat} (I : Inv X pins σ H s) (sb : Sub F H) (hK : X.K = G.K) :
    ∀ (n : Nat) (x y : D) (vx vy : V) (u : Value), eqY tb ts cs n x y = some false → Rep G F x vx → Rep G F y vy → RelV vx u → RelV vy u → False := by
  have leaf : ∀ (c : Nat) (l : List D) (y : D) (vx vy : V) (u : Value) (o : Option Bool), (o = if rk ts cs y then eqO (tb.lookup c) (.ob c l) y else none) → o = some false → Rep G F (.ob c l) vx → Rep G F y vy → RelV vx u → RelV vy u → False := by
    intro c l y vx vy u o eo e rx ry h1 h2
    rw [eo] at e
    split at e
    case isFalse => cases e
    unfold eqO at e
    split at e
    case h_2 => cases e
    split at e
    case h_2 => cases e
    split at e
    case isFalse => cases e
    rename_i b _ _ hb
    cases e
    have hb : apt (.ob c l) y = true := by simpa using hb
    obtain ⟨a, rfl, _⟩ : ∃ a, vx = .ref a ∧ True := by cases rx; exact ⟨_, rfl, trivial⟩
    obtain rfl : u = Value.ref a := h1
    have := relV_ref h2
    subst this
    exact apt_ne hb rx ry
  intro n
  induction n with
  | zero =>
    intro x y vx vy u e rx ry h1 h2
    cases x with
    | ob c l => exact leaf c l y vx vy u _ rfl (by rw [eqY] at e; exact e) rx ry h1 h2
    | _ => unfold eqY at e; cases e
  | succ n ih =>
    intro x y vx vy u e rx ry h1 h2
    cases x with
    | ob c l => exact leaf c l y vx vy u _ rfl (by rw [eqY] at e; exact e) rx ry h1 h2
    | tup l =>
      cases y with
      | tup m =>
        rw [eqY] at e
        cases rx with
        | @tup _ a xs q1 r1 =>
          obtain rfl : u = Value.ref a := h1
          have := relV_ref h2
          subst this
          cases ry with
          | @tup _ _ ys q2 r2 =>
            have s1 : SqT X.K H a xs := by rw [hK]; exact sb.sqT q1
            have s2 : SqT X.K H a ys := by rw [hK]; exact sb.sqT q2
            have := I.tuple_inj s1 s2
            subst this
            obtain ⟨its, rv, _, _⟩ := I.tuple s1
            exact eqL_ne I ih e r1 r2 (vals_some rv)
      | _ => unfold eqY at e; cases e
    | _ => unfold eqY at e; cases e
theorem eqL_turn {f : D → D → Option Bool} : ∀ {l m : List D} {b : Bool} {i : Nat}, eqL f l m = some b → (∀ j, j < i → ∀ x y, l[j]? = some x → m[j]? = some y → f x y = some true) → ∀ x y, l[i]? = some x → m[i]? = some y → f x y = some true ∨ (f x y = some false ∧ b = false)
  | [], _, _, _, _, _, _, _, e, _ => by simp at e
  | _ :: _, [], _, _, _, _, _, _, _, e => by simp at e
  | x :: l, y :: m, b, 0, e, _, x', y', e1, e2 => by
    simp at e1 e2
    subst e1 e2
    rw [eqL] at e
    split at e
    · rename_i q; exact .inl q
    · rename_i q; injection e with e; exact .inr ⟨q, e.symm⟩
    · cases e
  | x :: l, y :: m, b, i + 1, e, hj, x', y', e1, e2 => by
    have h0 := hj 0 (by omega) x y rfl rfl
    rw [eqL, h0] at e
    exact eqL_turn e (fun (j : Nat) (hlt : j < i) (x'' y'' : D) (g1 : l[j]? = some x'') (g2 : m[j]? = some y'') => hj (j + 1) (by omega) x'' y'' (by simpa using g1) (by simpa using g2)) x' y' (by simpa using e1) (by simpa using e2)
theorem eqL_end {f : D → D → Option Bool} : ∀ {l m : List D} {b : Bool}, eqL f l m = some b → (∀ (j : Nat) (x y : D), l[j]? = some x → m[j]? = some y → f x y = some true) → b = (l.length == m.length)
  | [], [], _, e, _ => by injection e with e; rw [← e]; rfl
  | [], _ :: _, _, e, _ => by injection e with e; rw [← e]; rfl
  | _ :: _, [], _, e, _ => by injection e with e; rw [← e]; rfl
  | x :: l, y :: m, b, e, hj => by
    rw [eqL, hj 0 x y rfl rfl] at e
    have := eqL_end e (fun (j : Nat) (x' y' : D) (g1 : l[j]? = some x') (g2 : m[j]? = some y') => hj (j + 1) x' y' (by simpa using g1) (by simpa using g2))
    rw [this]
    simp
structure EqTb (G : Gm) (X : Cx) (k : Nat) (tb : List (Nat × Beh)) (ts : List String) (cs : List Nat) : Prop where
  h : ∀ c B, tb.lookup c = some B → (∃ f fd ps, OwnOk G X.prog X.w X.mg X.base k "__eq__" c B f fd ps 2) ∧ CmpOk G ts cs c
theorem laps {pins : List (Addr × Obj)} {σ : L2.St} {F H : Hp} {r : Ev} {A : Around} {f : D → D → Option Bool} {l m : List D} {xs ys : List V} {its its2 : List Value} {b : Bool} (S : Sta G O F H σ r)
    (hf : ∀ (x y : D) (bb : Bool) (F' H' : Hp) (s' : Shared) (vx vy : V) (ux uy : Value), f x y = some bb → Inv X pins σ H' s' → Sta G O F' H' σ r → Rep G F' x vx → Rep G F' y vy → RelV vx ux → RelV vy uy →
      wpAny (model X.prog X.w) A (eqBool ux uy) (fun z s2 => z = bb ∧ ∃ F2 H2, Inv X pins σ H2 s2 ∧ Nx G OX O O σ F' H' σ F2 H2 r) X.xe s')
    (e : eqL f l m = some b) (r1 : RepL G F l xs) (r2 : RepL G F m ys) (rv : Vals xs its) (rv2 : Vals ys its2) (i : Nat) (g1 : i < its.toArray.size) (g2 : i < its2.toArray.size) (s' : Shared)
    (hY : (∀ j, j < i → ∀ x y, l[j]? = some x → m[j]? = some y → f x y = some true) ∧ ∃ F' H', Inv X pins σ H' s' ∧ Nx G OX O O σ F H σ F' H' r) :
    wpAny (model X.prog X.w) A (eqBool its.toArray[i] its2.toArray[i]) (fun z s2 => (z = true ∧ ((∀ j, j < i + 1 → ∀ x y, l[j]? = some x → m[j]? = some y → f x y = some true) ∧ ∃ F' H', Inv X pins σ H' s2 ∧ Nx G OX O O σ F H σ F' H' r)) ∨
      (z = false ∧ (b = false ∧ ∃ F' H', Inv X pins σ H' s2 ∧ Nx G OX O O σ F H σ F' H' r))) X.xe s' := by
  obtain ⟨hj, F', H', I', n⟩ := hY
  have a1 : i < its.length := by simpa using g1
  have a2 : i < its2.length := by simpa using g2
  have n1 : its.length = l.length := by rw [← rv.length, r1.length]
  have n2 : its2.length = m.length := by rw [← rv2.length, r2.length]
  have b1 : its.toArray[i] = its[i] := by simp
  have b2 : its2.toArray[i] = its2[i] := by simp
  rw [b1, b2]
  have el : l[i]? = some (l[i]'(by omega)) := List.getElem?_eq_getElem _
  have em : m[i]? = some (m[i]'(by omega)) := List.getElem?_eq_getElem _
  generalize l[i]'(by omega) = dx at el
  generalize m[i]'(by omega) = dy at em
  obtain ⟨vx, ex, rx⟩ := r1.get el
  obtain ⟨vy, ey, ry⟩ := r2.get em
  obtain ⟨ux, eux, rux⟩ := L2.Vals.get rv ex
  obtain ⟨uy, euy, ruy⟩ := L2.Vals.get rv2 ey
  have q1 : its[i] = ux := by rw [List.getElem?_eq_getElem a1] at eux; exact Option.some.inj eux
  have q2 : its2[i] = uy := by rw [List.getElem?_eq_getElem a2] at euy; exact Option.some.inj euy
  rw [q1, q2]
  rcases eqL_turn e hj dx dy el em with t | ⟨t, tb⟩
  · refine wpAny_mono (hf dx dy true F' H' s' vx vy ux uy t I' n.sta (rx.mono n.stp.fz) (ry.mono n.stp.fz) rux ruy) (fun z s2 hz => .inl ⟨hz.1, fun j hlt x y h1 h2 => ?_, hz.2.imp fun F2 q => q.imp fun H2 q => ⟨q.1, n.trans q.2⟩⟩) fun _ _ x => x
    by_cases q : j = i
    · subst q
      rw [el] at h1
      rw [em] at h2
      cases h1
      cases h2
      exact t
    · exact hj j (by omega) x y h1 h2
    
  · exact wpAny_mono (hf dx dy false F' H' s' vx vy ux uy t I' n.sta (rx.mono n.stp.fz) (ry.mono n.stp.fz) rux ruy) (fun z s2 hz => .inr ⟨hz.1, tb, hz.2.imp fun F2 q => q.imp fun H2 q => ⟨q.1, n.trans q.2⟩⟩) fun _ _ x => x
theorem eqY_run {k : Nat} {tb : List (Nat × Beh)} {ts : List String} {cs : List Nat} (tk : Takes X W) (ht : EqTb G X k tb ts cs) (hx : ∀ i ∈ OX, i ∈ O) (hK : X.K = G.K) {pins : List (Addr × Obj)} {σ : L2.St} {r : Ev} :
    ∀ (n : Nat) (A : Around), L2.Sub X (k + n) A → ∀ (x y : D) (bb : Bool) (F' H' : Hp) (s' : Shared) (vx vy : V) (ux uy : Value), eqY tb ts cs n x y = some bb → Inv X pins σ H' s' → Sta G O F' H' σ r → Rep G F' x vx → Rep G F' y vy → RelV vx ux → RelV vy uy →
      wpAny (model X.prog X.w) A (eqBool ux uy) (fun z s2 => z = bb ∧ ∃ F2 H2, Inv X pins σ H2 s2 ∧ Nx G OX O O σ F' H' σ F2 H2 r) X.xe s' := by
  have leaf : ∀ (n : Nat) (A : Around), L2.Sub X (k + n) A → ∀ (c : Nat) (fs : List D) (y : D) (bb : Bool) (F' H' : Hp) (s' : Shared) (vx vy : V) (ux uy : Value), eqY tb ts cs n (.ob c fs) y = some bb → Inv X pins σ H' s' → Sta G O F' H' σ r → Rep G F' (.ob c fs) vx → Rep G F' y vy → RelV vx ux → RelV vy uy →
      wpAny (model X.prog X.w) A (eqBool ux uy) (fun z s2 => z = bb ∧ ∃ F2 H2, Inv X pins σ H2 s2 ∧ Nx G OX O O σ F' H' σ F2 H2 r) X.xe s' := by
    intro n A sb c fs y bb F' H' s' vx vy ux uy e I' nx rx ry rux ruy
    have e0 := e
    have e : (if rk ts cs y then eqO (tb.lookup c) (.ob c fs) y else none) = some bb := by cases n <;> (rw [eqY] at e; exact e)
    split at e
    case isFalse => cases e
    rename_i hk
    unfold eqO at e
    split at e
    case h_2 => cases e
    rename_i B eB
    obtain ⟨⟨f, fd, ps, ow⟩, ck⟩ := ht.h c B eB
    split at e
    case h_2 => cases e
    rename_i b q' eo
    split at e
    case isFalse => cases e
    cases e
    have J1 := inst_at I' nx rx
    obtain ⟨a', rfl, _⟩ := J1
    obtain rfl : ux = Value.ref a' := rux
    by_cases same : Value.ref a' = uy
    · cases bb with
      | true =>
        rw [← same]
        exact SeqAt.EqAt.same (.ref a') X.prog X.w X.xe _ ⟨rfl, F', H', I', Nx.rfl' nx⟩
      | false =>
        subst same
        exact (eqY_ne I' nx.sub hK n _ _ _ _ _ e0 rx ry rfl ruy).elim
    · have sb1 : L2.Sub X k A := sb.mono (Nat.le_add_right k n)
      have rc := cmp_at (OX := OX) (W := W) (op := .Eq) (Q := fun z H2 => z = .bl bb ∧ ∃ F2, Nx G OX O O σ F' H' σ F2 H2 r) sb1 tk rfl ow ck hk hx hK I' nx rx ry rfl ruy (by
        rw [eo]
        intro z F2 H2 n2 rz
        cases rz
        exact ⟨rfl, F2, n2⟩)
      unfold eqBool
      refine wpAny_holding ?_
      refine wpAny_ite_split (fun hab => absurd (eq_of_beq hab) same) (fun _ => ?_)
      refine wpAny_bind (wpAny_mono rc (fun z s2 hz => ?_) fun _ _ h => h)
      obtain ⟨z', H2, I2, rz, ez, F2, n2⟩ := hz
      subst ez
      cases (show z = Value.bool bb from rz)
      exact wpAny_truthy_bool ⟨rfl, F2, H2, I2, n2⟩
  intro n
  induction n with
  | zero =>
    intro A sb x y bb F' H' s' vx vy ux uy e
    cases x with
    | ob c fs => exact leaf 0 A sb c fs y bb F' H' s' vx vy ux uy e
    | _ => unfold eqY at e; cases e
  | succ n ih =>
    intro A sb x y bb F' H' s' vx vy ux uy e I' nx rx ry rux ruy
    cases x with
    | ob c fs => exact leaf (n + 1) A sb c fs y bb F' H' s' vx vy ux uy e I' nx rx ry rux ruy
    | tup l =>
      cases y with
      | tup m =>
        have e0 := e
        rw [eqY] at e
        cases rx with
        | @tup _ a xs hq1 r1 =>
          cases ry with
          | @tup _ b ys hq2 r2 =>
            obtain rfl : ux = Value.ref a := rux
            obtain rfl : uy = Value.ref b := ruy
            by_cases same : a = b
            · cases bb with
              | true =>
                rw [← same]
                exact SeqAt.EqAt.same (.ref a) X.prog X.w X.xe _ ⟨rfl, F', H', I', Nx.rfl' nx⟩
              | false =>
                subst same
                exact (eqY_ne I' nx.sub hK (n + 1) _ _ _ _ _ e0 (.tup hq1 r1) (.tup hq2 r2) rfl rfl).elim
            · obtain ⟨its, rv, h1, _⟩ := I'.tuple (by rw [hK]; exact nx.sub.sqT hq1)
              obtain ⟨its2, rv2, h2, _⟩ := I'.tuple (by rw [hK]; exact nx.sub.sqT hq2)
              refine GQ.eqBool_refG same ?_
              have sb' : L2.Sub X (k + n) A.in1 := L2.Sub.in1 sb
              have sz : ∀ l' : List Value, l'.toArray.size = l'.length := fun l' => List.size_toArray ..
              have n1 : its.length = l.length := by rw [← rv.length, r1.length]
              have n2 : its2.length = m.length := by rw [← rv2.length, r2.length]
              refine rc_eq sb.room.units0 _ _ h1 h2 (fun i g1 g2 s2 hY => laps (b := bb) nx (fun x y bb F2 H2 s2 vx vy ux uy t I2 S2 => ih A.in1 sb' x y bb F2 H2 s2 vx vy ux uy t I2 S2) e r1 r2 rv rv2 i g1 g2 s2 hY) (fun s2 q => ?_) (fun s2 q => ?_) ⟨fun j hj => absurd hj (Nat.not_lt_zero j), F', H', I', Nx.rfl' nx⟩
              · obtain ⟨q1, q2⟩ := q
                refine ⟨_, rfl, ?_, q2⟩
                rw [sz, sz, n1, n2, ← eqL_end e fun j x y e1 e2 => q1 j (by
                  have := (List.getElem?_eq_some_iff.mp e1).1
                  have := (List.getElem?_eq_some_iff.mp e2).1
                  rw [sz, sz]
                  omega) x y e1 e2]
              · obtain ⟨q1, q2⟩ := q
                exact ⟨_, rfl, q1.symm, q2⟩
      | _ => unfold eqY at e; cases e
    | _ => unfold eqY at e; cases e
theorem o_eqY {k : Nat} (n : Nat) (tb : List (Nat × Beh)) (ts : List String) (cs : List Nat) (tk : Takes X W) (hr : Room (k + n + 1) X.A)
    (ht : ∀ c B, tb.lookup c = some B → (∃ f fd ps, OwnOk G X.prog X.w X.mg X.base k "__eq__" c B f fd ps 2) ∧ CmpOk G ts cs c) (hx : ∀ i ∈ OX, i ∈ O := by decide) (hK : X.K = G.K := by rfl) : Op2 G X W OX O (compareOp .Eq) (oEY n tb ts cs) :=
  fun pins s σ F H r x y v w u u' Q I S rx ry ru ru' q => by
    unfold oEY at q
    split at q
    case h_2 => exact q.elim
    rename_i l m
    split at q
    case h_2 => exact q.elim
    rename_i bb e
    cases rx with
    | @tup _ a xs hq1 r1 =>
      cases ry with
      | @tup _ b ys hq2 r2 =>
        obtain rfl : u = Value.ref a := ru
        obtain rfl : u' = Value.ref b := ru'
        obtain ⟨its, rv, h1, _⟩ := I.tuple (by rw [hK]; exact S.sub.sqT hq1)
        obtain ⟨its2, rv2, h2, _⟩ := I.tuple (by rw [hK]; exact S.sub.sqT hq2)
        have sz : ∀ l' : List Value, l'.toArray.size = l'.length := fun l' => List.size_toArray ..
        have n1 : its.length = l.length := by rw [← rv.length, r1.length]
        have n2 : its2.length = m.length := by rw [← rv2.length, r2.length]
        have sb' : L2.Sub X (k + n) X.A.in1 := L2.Sub.in1 ⟨hr, rfl⟩
        show wpAny (model X.prog X.w) X.A (richCompare .Eq (.ref a) (.ref b)) (EP X pins σ Q) X.xe s
        refine rc_eq hr.units0 _ _ h1 h2 (fun i g1 g2 s2 hY => laps (b := bb) S (fun x y bb F2 H2 s2 vx vy ux uy t I2 S2 => eqY_run tk ⟨ht⟩ hx hK n X.A.in1 sb' x y bb F2 H2 s2 vx vy ux uy t I2 S2) e r1 r2 rv rv2 i g1 g2 s2 hY) (fun s2 q' => ?_) (fun s2 q' => ?_) ⟨fun j hj => absurd hj (Nat.not_lt_zero j), F, H, I, Nx.rfl' S⟩
        · obtain ⟨q1, F2, H2, I2, m2⟩ := q'
          rw [sz, sz, n1, n2, ← eqL_end e fun j x y e1 e2 => q1 j (by
            have := (List.getElem?_eq_some_iff.mp e1).1
            have := (List.getElem?_eq_some_iff.mp e2).1
            rw [sz, sz]
            omega) x y e1 e2]
          exact ⟨.bl bb, H2, I2, rfl, q (.bl bb) F2 H2 m2 .bl⟩
        · obtain ⟨q1, F2, H2, I2, m2⟩ := q'
          subst q1
          exact ⟨.bl false, H2, I2, rfl, q (.bl false) F2 H2 m2 .bl⟩
end
end Z
namespace Z
open PySem PySem.Spec
open AutoSeq1 (wpAny_loadPart')
theorem enu_newT (a : Addr) (ks : Array Value) (n : Nat) (dd : Option Addr) (zl : Array (Option Value)) :
    Meets (Builtin.«enumerate.__new__» ⟨[.type "enumerate", .ref a], []⟩) (fun _ R s => s.heap.get? a = some { cls := .type "tuple", dict := dd, data := .seq ks n, slots := zl } ∧
      R (.ok (.ret (.ref (s.heap.push { cls := .type "tuple_iterator", data := .fields #[.ref a, .int 0 0] }).objs.size)))
        { s with heap := (s.heap.push { cls := .type "tuple_iterator", data := .fields #[.ref a, .int 0 0] }).push { cls := .type "enumerate", data := .fields #[.none, .bool false, .ref s.heap.objs.size, rawInt 0, .none, .none] } }) :=
  .of_wp fun prog w A R s q => by
    obtain ⟨hp, g, d, tk, os⟩ := s; obtain ⟨ha, q⟩ := q
    have hs := sub_enumerate
    have hT : Heap.IsTuple (Shared.heap ⟨hp, g, d, tk, os⟩) a ks := ⟨_, ha, rfl, n, rfl⟩
    wp_walk using wpAny_loadPart' ha
    refine wpAny_stack_any fun _ => ?_
    refine wpAny_pure ?_
    split
    · rename_i T _ _ _ _ _
      cases (T == Value.type "enumerate")
      · wp_walk using wpAny_loadPart' ha, wpAny_pyIter_tuple hT
        exact ⟨_, rfl, q⟩
      · wp_walk using wpAny_loadPart' ha, wpAny_pyIter_tuple hT
        exact ⟨_, rfl, q⟩
    · wp_walk using wpAny_loadPart' ha, wpAny_pyIter_tuple hT
      exact ⟨_, rfl, q⟩
theorem call_enuT {prog : Program} {w : World} {A : Around} {E : Value → Shared → Prop} {s : Shared} {a : Addr} {ks : Array Value} {Q : Value → Shared → Prop} (hT : s.heap.IsTuple a ks)
    (q : ∀ h', IsEnum h' (s.heap.objs.size + 1) s.heap.objs.size 0 .none → h'.IsTupleIter s.heap.objs.size a 0 → (∀ b o, s.heap.get? b = some o → h'.get? b = some o) → Q (.ref (s.heap.objs.size + 1)) { s with heap := h' }) :
    wpAny (model prog w) A (call (.type "enumerate") [.ref a]) Q E s := by
  obtain ⟨⟨c, dct, dt, sl⟩, ha, hc, n, hd⟩ := hT
  replace hc : c = .type "tuple" := hc
  replace hd : dt = .seq ks n := hd
  subst hc hd
  refine callType_new F.called_enumerate (by decide) (F.typeCall_enumerate_1 _) (F.newCall_enumerate_1 _) (fun obj => F.args_object_init_2 obj _) F.entry_enumerate_new (enu_newT a ks n dct sl) ⟨ha, ?_⟩
  have z : (s.heap.push { cls := .type "tuple_iterator", data := .fields #[.ref a, .int 0 0] }).objs.size = s.heap.objs.size + 1 := Heap.size_push ..
  show _ ∧ _
  rw [z]
  have en : IsEnum ((s.heap.push { cls := .type "tuple_iterator", data := .fields #[.ref a, .int 0 0] }).push { cls := .type "enumerate", data := .fields #[.none, .bool false, .ref s.heap.objs.size, rawInt 0, .none, .none] }) (s.heap.objs.size + 1) s.heap.objs.size 0 .none := by
    have p := Heap.get?_push_size (s.heap.push { cls := .type "tuple_iterator", data := .fields #[.ref a, .int 0 0] }) (o := { cls := .type "enumerate", data := .fields #[.none, .bool false, .ref s.heap.objs.size, rawInt 0, .none, .none] }) rfl
    rw [z] at p
    exact p
  exact ⟨⟨_, en, rfl⟩, q _ en ⟨_, Heap.get?_push_of_some _ (Heap.get?_push_size _ rfl), rfl, rfl⟩ fun b o x => Heap.get?_push_of_some _ (Heap.get?_push_of_some _ x)⟩
end Z
namespace Z
open PySem PySem.Spec PyProof.Rows L2
def IteT (K : PySem.W.Frag) (a : Addr) : It :=
  ⟨fun i H => ∃ (xs : List V) (x : V), SqT K H a xs ∧ xs[i]? = some x, fun i H v H' => ∃ T x, v = .ref T ∧ H T = none ∧ H' = upd H T (.tup [.int (i : Nat), x]) ∧ ∀ xs, SqT K H a xs → xs[i]? = some x, fun i H => ∃ xs : List V, SqT K H a xs ∧ xs.length ≤ i⟩
theorem turn_enuT {P : Program} {w : World} {K : PySem.W.Frag} {elts : List Expr} {kk : Nat} {tpos : Pos} (a e it : Addr) (hn : e ≠ it) (hea : e ≠ a) (hia : a ≠ it) :
    Turn P w K (.Tuple elts kk tpos) (IteT K a) [e, it] e (fun i h => (∃ old, IsEnum h e it ((i : Nat) : Int) old) ∧ h.IsTupleIter it a i) where
  mem := by simp
  obj := fun i h st b hb => by
    obtain ⟨⟨_, he⟩, oi, gi, _, di⟩ := st
    obtain rfl | rfl : b = e ∨ b = it := by simpa using hb
    · exact ⟨_, he, fun _ no => nomatch no⟩
    · exact ⟨oi, gi, fun _ no => by rw [di] at no; cases no⟩
  keep := fun i h h' st k => let ⟨⟨old, he⟩, hi⟩ := st; ⟨⟨old, k e (by simp) _ he⟩, hi.at fun o q => k it (by simp) o q⟩
  item := by
    intro X hP hw hK hc i pins s σ H E I hf st hg
    subst hP hw hK
    obtain ⟨⟨old, he⟩, hit⟩ := st
    obtain ⟨xs, x, hq, hx⟩ := hg
    obtain ⟨its, rels, p, _⟩ := I.tuple hq
    obtain ⟨u, hu, ru⟩ := rels.get hx
    have ltI : it < s.heap.objs.size := hit.elim fun _ gi => Heap.lt_size gi.1
    have ltE := Heap.lt_size he
    have hlt : i < its.toArray.size := by simpa using (List.getElem?_eq_some_iff.mp hu).1
    refine wpAny_pyNext_enum_itemD (Draws.tuple (show X.A.in1.handled = none from I.ok.hd hc) it a hia its.toArray) he ⟨hit, show s.heap.IsTuple a its.toArray from p⟩ hlt hn (by simp [hn, hea]) fun y h' tk hy ho st' hT hsz hk => ?_
    have ey : y = u := by
      have : its.toArray[i]? = some u := by simpa using hu
      rw [this] at hy
      exact (Option.some.inj hy).symm
    subst ey
    refine ⟨_, rfl, wpAny_letOwnedTupleGo_enum (s := { s with heap := h', toks := tk + 1 }) ho fun h'' he' sb => ?_⟩
    have hT2 : h''.get? s.heap.objs.size = some { cls := .type "tuple", data := .seq #[.int i tk, y] } := (sb.2 _ (Nat.ne_of_gt ltE)).trans hT
    have fresh : ObjOk X.prog X.w (upd H s.heap.objs.size (.tup [V.int (i : Nat), x])) h'' s.heap.objs.size (.tup [V.int (i : Nat), x]) :=
      ⟨by show 2 ≤ sizeLine; decide, [.int i tk, y], .cons ⟨_, rfl⟩ (.cons ru .nil), ⟨_, hT2, rfl, _, rfl⟩⟩
    have I1 : Inv X pins σ (upd H s.heap.objs.size (.tup [.int (i : Nat), x])) { s with heap := h'', toks := tk + 1 } :=
      I.turnedNew (ch := [e, it]) (fun c oc out g => (sb.2 c fun z => out (by simp [z])).trans (hk c oc (fun z => out (by simp [z])) (fun z => out (by simp [z])) g)) hf (Nat.le_refl _) fresh
    refine ⟨.ref s.heap.objs.size, _, I1, rfl, ⟨_, x, rfl, I.hok.fresh (Nat.le_refl _), rfl, fun ys hy => by rw [I.tuple_inj hy hq]; exact hx⟩, ⟨⟨y, ?_⟩, st'.1.at fun o q => (sb.2 it (Ne.symm hn)).trans q⟩, fun b hb => ?_⟩
    · rw [show ((i + 1 : Nat) : Int) = (i : Int) + 1 by omega]
      exact he'
    · have old : b < s.heap.objs.size := by
        obtain rfl | rfl : b = e ∨ b = it := by simpa using hb
        · exact ltE
        · exact ltI
      rw [upd_ne (Nat.ne_of_lt old)]
      exact (hf b hb).1
  done := by
    intro X hP hw hK hc i pins s σ H E I hf st hg
    subst hP hw hK
    obtain ⟨⟨old, he⟩, hit⟩ := st
    obtain ⟨xs, hq, hx⟩ := hg
    obtain ⟨its, rels, p, _⟩ := I.tuple hq
    obtain ⟨w0, w1, _, w3, w4, w5⟩ := hf it (by simp)
    have hl := rels.length
    have hT : s.TypeIs (Value.ref e) "enumerate" := ⟨_, he, rfl⟩
    have nx : its.toArray[i]? = none := by simp; omega
    have ne : ∀ h', Heap.ExtBut it s.heap h' → Inv X pins σ H { s with heap := h' } := fun h' eb => I.turned (t' := s.toks) (fun b o hb q => eb b o hb q) w0 w1 w3 w4 w5
    unfold pyNext
    refine wpAny_bind (wpAny_attempt (wpAny_callSpecial?_slot (name := Str.ofString "__next__") hT F.slot_enumerate_next (wpAny_call_entry F.slot_enumerate_next hT F.entry_enumerate_next ?_ (F.args_enumerate_next_1 _))))
    refine wpAny_bind (m := field (.ref e) 2) (wpAny_field he rfl (x := Value.ref it) rfl ?_)
    refine wpAny_bind (wpAny_nextOf_tuple_end (show X.A.in1.handled = none from I.ok.hd hc) hit (show s.heap.IsTuple a its.toArray from p) nx fun h' x eb hx' => ?_)
    obtain ⟨o, ho, hc'⟩ := hx'
    refine wpAny_bind (wpAny_isInstance (T := "StopIteration") (b := true) ⟨o, ho, hc'⟩ isSubtype_stop ?_)
    exact wpAny_pure ⟨rfl, ne h' eb⟩
  self := fun _ _ _ _ _ st h => st.1.elim fun _ he => wpAny_pyIter_enum he h
def iEnumT (K : PySem.W.Frag) (ta : TA) : TI := fun σ H R => ta σ H fun vs H1 => ∃ a xs, vs = [.ref a] ∧ SqT K H1 a xs ∧ R (IteT K a) H1
theorem pi_enumT {X : Cx} {e : Expr} {ta : TA} {p pos tpos : Pos} {elts : List Expr} {kk : Nat} (hg : Gl X "enumerate") (hm : X.mg "enumerate" = none) (ha : PA X [e] ta) (hs : starEach [e] X.env = [(false, eval e X.env)] := by rfl) :
    PI X (.Tuple elts kk tpos) (.Call (.Name "enumerate" p) [e] [] pos) (iEnumT X.K ta) := by
  constructor
  intro pins s σ H R I h
  refine Call_ (ld_blt I hg hm boot_enumerate (PyProof.Rows.callWith_type1 (thn (ha.run pos pins s σ H _ I h) fun _ s1 ⟨_, H1, I1, r1, a, xs, ex, hq, q⟩ => ?_) hs rfl))
  subst ex
  cases r1 with
  | cons r rr =>
    cases rr
    cases r
    obtain ⟨its, _, p', _⟩ := I1.tuple hq
    have hal : a < s1.heap.objs.size := p'.elim fun _ g => Heap.lt_size g.1
    refine call_enuT (show s1.heap.IsTuple a its.toArray from p') fun h' he hit hk => wpAny_pyIter_enum he ?_
    have I2 := I1.kept (h' := h') (t' := s1.toks) hk
    refine ⟨s1.heap.objs.size + 1, [s1.heap.objs.size + 1, s1.heap.objs.size], _, _, H1, rfl, I2, turn_enuT a (s1.heap.objs.size + 1) s1.heap.objs.size (Nat.succ_ne_self _) (fun z => Nat.lt_irrefl _ (Nat.lt_of_lt_of_le hal (by rw [← z]; exact Nat.le_add_right _ _))) (fun z => Nat.lt_irrefl _ (by rw [z] at hal; exact hal)), ⟨⟨.none, he⟩, hit⟩, fun b hb => ?_, q⟩
    have behind : s1.heap.objs.size ≤ b := by
      obtain rfl | rfl : b = s1.heap.objs.size + 1 ∨ b = s1.heap.objs.size := by simpa using hb
      · exact Nat.le_succ _
      · exact Nat.le_refl _
    exact I1.fpOk behind (I1.hok.fresh behind)
def pEnt : List D → Option (List D)
  | [.tup l] => some (enuD l)
  | _ => none
section
variable {G : Gm} {X : Cx} {W : WX} {OX OL vs O O1 O2 O3 : List Nat}
theorem enu_walkT {F : Hp} {l0 : List D} {a : Addr} {xs : List V} (rl : RepL G F l0 xs) (h : SqT G.K F a xs) : Walk (IteT G.K a) (enuD l0).length (fun H => Sub F H) (YD G F (enuD l0)) := by
  have e0 : (enuD l0).length = xs.length := by unfold enuD; rw [← rl.length]; simp
  show Walk (IteT G.K a) (enuD l0).length _ _
  rw [e0]
  refine ⟨fun i H hi sb => ⟨xs, xs[i], sb.sqT h, by simp [hi]⟩, fun H sb => ⟨xs, sb.sqT h, Nat.le_refl _⟩, fun i H v H' hi sb y => ?_⟩
  obtain ⟨T, x1, h1, h2, h3, h4⟩ := y
  obtain ⟨d, e, rd⟩ := rl.get' (h4 xs (sb.sqT h))
  refine ⟨.tup [.int (i : Nat), d], ?_, .inr ⟨T, _, [.int (i : Nat), d], rfl, h1, h2, h3, .cons .int (.cons rd .nil)⟩⟩
  unfold enuD
  rw [List.getElem?_map, List.getElem?_zipIdx, e]
  simp
theorem i_ent {e : Expr} {p pos tpos : Pos} {elts : List Expr} {kk : Nat} {f : M (List D)} (ha : PA X [e] (tA G W OX O O1 f)) (hm : X.mg "enumerate" = none := by assumption) (hg : Gl X "enumerate" := by rfl) (hs : starEach [e] X.env = [(false, eval e X.env)] := by rfl) (hK : X.K = G.K := by rfl) :
    PI X (.Tuple elts kk tpos) (.Call (.Name "enumerate" p) [e] [] pos) (iIt G W OX O O1 (itN pEnt f)) :=
  (pi_enumT hg hm ha hs).mo fun σ H R ⟨F, r, S, q⟩ => tX_bind S q fun ds vs F1 H1 r1 n1 rs q => by
    obtain ⟨l, e, q⟩ := itN_of q
    rw [hK]
    unfold pEnt at e
    split at e
    · cases e
      cases rs with
      | cons r1 rr =>
        cases rr
        cases r1 with
        | @tup l0 a xs h rl =>
          exact ⟨a, xs, rfl, n1.sta.sub.sqT h, q _ F1 H1 (Nx.rfl' n1.sta) (enu_walkT rl h)⟩
    · cases e
end
end Z
namespace Z
open PySem PySem.Spec PyProof.Rows L2
def keyD : Key → D
  | .inl i => .int i
  | .inr s => .str s
def dicOf : D → Option (List Key × List D)
  | .dic ks l => some (ks, l)
  | .dkl ks l => some (ks, l)
  | _ => none
def pDix (x y : D) : Option D := (dicOf x).bind fun p => (keyOf y).bind fun k => lookD p.1 p.2 k
def pDlen : List D → Option D
  | [x] => (dicOf x).map fun p => .int (p.1.length : Nat)
  | _ => none
def pDlist : List D → Option D
  | [x] => (dicOf x).map fun p => .lst (p.1.map keyD)
  | _ => none
section
variable {G : Gm} {X : Cx} {W : WX} {OX OL vs O O1 O2 O3 : List Nat}
theorem keyOf_rep {F : Hp} {d : D} {v : V} {k : Key} (h : Rep G F d v) (e : keyOf d = some k) : v = kV k := by
  cases h <;> simp [keyOf] at e <;> subst e <;> rfl
theorem keyD_rep {F : Hp} (k : Key) : Rep G F (keyD k) (kV k) := by
  cases k
  · exact .int
  · exact .str
theorem keysD_rep {F : Hp} : ∀ (ks : List Key), RepL G F (ks.map keyD) (ks.map kV)
  | [] => .nil
  | k :: ks => .cons (keyD_rep k) (keysD_rep ks)
theorem dic_rd {F H : Hp} {x : D} {v : V} {ks : List Key} {l : List D} (sb : Sub F H) (h : Rep G F x v) (e : dicOf x = some (ks, l)) : ∃ a kvs, v = .ref a ∧ Rd H a (.dK kvs) ∧ kvs.map (·.1) = ks ∧ RepL G F l (kvs.map (·.2)) := by
  cases h with
  | dic h hk r =>
    cases e
    obtain ⟨o', e', g⟩ := sb _ _ h
    rw [g.dK] at e'
    exact ⟨_, _, rfl, .inl e', hk, r⟩
  | dkl h hk r =>
    cases e
    obtain ⟨o', e', g⟩ := sb _ _ h
    rw [g.frz] at e'
    exact ⟨_, _, rfl, .inr ⟨_, e'⟩, hk, r⟩
  | _ => cases e
theorem look_rep {F : Hp} : ∀ {kvs : List (Key × V)} {l : List D} {k : Key} {d : D}, RepL G F l (kvs.map (·.2)) → lookD (kvs.map (·.1)) l k = some d → ∃ v, valV kvs k = some v ∧ Rep G F d v
  | [], _, _, _, _, e => by cases e
  | (k, v) :: kvs, l, x, d, r, e => by
    cases r with
    | @cons d0 l0 _ _ h t =>
      rw [List.map_cons, lookD] at e
      by_cases q : k = x
      · rw [if_pos q] at e
        cases e
        exact ⟨v, by rw [valV_pos q], h⟩
      · rw [if_neg q] at e
        obtain ⟨w, e1, h1⟩ := look_rep t e
        exact ⟨w, by rw [valV_neg q]; exact e1, h1⟩
theorem any_keys (kvs : List (Key × V)) (k : Key) : (kvs.any fun kv => decide (kv.1 = k)) = ((kvs.map (·.1)).any fun x => decide (x = k)) := by
  rw [List.any_map]; rfl
def putR (ks : List Key) (l : List D) (k : Key) (d : D) : List Key × List D :=
  if (ks.any fun x => decide (x = k)) = true then (ks, (ks.zip l).map fun p => if p.1 = k then d else p.2) else (ks ++ [k], l ++ [d])
theorem put_rep {F : Hp} {kvs : List (Key × V)} {l : List D} {k : Key} {d : D} {v : V} (r : RepL G F l (kvs.map (·.2))) (h : Rep G F d v) :
    (putK kvs k v).map (·.1) = (putR (kvs.map (·.1)) l k d).1 ∧ RepL G F (putR (kvs.map (·.1)) l k d).2 ((putK kvs k v).map (·.2)) := by
  unfold putR putK
  rw [← any_keys]
  by_cases m : (kvs.any fun kv => decide (kv.1 = k)) = true
  · rw [if_pos m, if_pos m, List.map_map, List.map_map]
    refine ⟨?_, ?_⟩
    · apply List.map_congr_left
      intro p hp
      by_cases q : p.1 = k <;> simp [q]
    have key : ∀ {kvs : List (Key × V)} {l : List D}, RepL G F l (kvs.map (·.2)) → RepL G F (((kvs.map (·.1)).zip l).map fun p => if p.1 = k then d else p.2) (kvs.map ((·.2) ∘ fun kv => if kv.1 = k then (kv.1, v) else kv)) := by
      intro kvs
      induction kvs with
      | nil => intro l r; cases r; exact .nil
      | cons p kvs ih =>
        intro l r
        cases r with
        | cons a b =>
          rw [List.map_cons, List.zip_cons_cons, List.map_cons, List.map_cons]
          refine .cons ?_ (ih b)
          by_cases q : p.1 = k
          · simp [q]; exact h
          · simp [q]; exact a
    exact key r
  · rw [if_neg m, if_neg m, List.map_append, List.map_append]
    exact ⟨rfl, r.snoc h⟩
theorem e_dix {a b : Expr} {pos : Pos} {k : Nat} {f g : M D} (hr : Room k X.A) (ha : PE X a (tE G W OX O O1 f)) (hb : PE X b (tE G W OX O1 O2 g)) (hs : NoSl b := by intro _ _; rfl) : PE X (.Subscript a b pos) (tE G W OX O O2 (eB (oP pDix) f g)) :=
  (pe_dget (by have := hr.un; omega) ha hb hs).imp fun σ H Q ⟨F, r, S, p⟩ => tX_bind S p fun x v F1 H1 r1 n1 rx p => tX_bind n1.sta p fun y w F2 H2 r2 n2 ry p => by
    revert p
    unfold oP pDix
    have rx := rx.mono n2.stp.fz
    cases e : dicOf x with
    | none => exact fun p => p.elim
    | some kl =>
      obtain ⟨ks, l⟩ := kl
      obtain ⟨a, kvs, rfl, hd, hk, rl⟩ := dic_rd n2.sta.sub rx e
      simp only [Option.bind_some]
      cases ek : keyOf y with
      | none => exact fun p => p.elim
      | some k =>
        simp only [Option.bind_some]
        cases el : lookD ks l k with
        | none => exact fun p => p.elim
        | some d =>
          intro p
          subst hk
          obtain ⟨v', ev, rv⟩ := look_rep rl el
          exact ⟨a, v', rfl, .inl ⟨kvs, k, hd, keyOf_rep ry ek, ev.symm⟩, p.ok n2.sta rv⟩
theorem call_lenR : CallR X (.builtin "len") (fun xs H Q => ∃ (a : Addr) (kvs : List (Key × V)), xs = [.ref a] ∧ Rd H a (.dK kvs) ∧ Q (.int (kvs.length : Nat)) H) := by
  intro pins s σ H xs us Q I r q
  obtain ⟨a, kvs, ex, hd, q⟩ := q
  subst ex
  cases r with
  | cons r rr =>
    cases rr
    cases r
    exact d_len I hd fun t s' I' => ⟨.int (kvs.length : Nat), H, I', ⟨t, rfl⟩, q⟩
theorem e_lenD {x : Expr} {xs : List Expr} {pp pos : Pos} {f : M (List D)} (ha : PA X (x :: xs) (tA G W OX O O1 f)) (hm : X.mg "len" = none := by assumption) (hg : Gl X "len" := by rfl)
    (he : starEach (x :: xs) X.env = (false, eval x X.env) :: starEach xs X.env := by rfl) (hpl : (backTo pos (starEach xs X.env)).any (·.1) = false := by rfl) : PE X (.Call (.Name "len" pp) (x :: xs) [] pos) (tE G W OX O O1 (eN pDlen f)) :=
  e_cB pDlen call_lenR (fun σ F H r ds vs d Q S rs e q => by
    unfold pDlen at e
    split at e
    · obtain ⟨p, e1, e2⟩ := Option.map_eq_some_iff.mp e
      cases rs with
      | cons r1 rr =>
        cases rr
        obtain ⟨a, kvs, rfl, hd, hk, rl⟩ := dic_rd S.sub r1 e1
        subst e2
        refine ⟨a, kvs, rfl, hd, ?_⟩
        have e3 : p.1.length = kvs.length := by rw [← hk]; simp
        rw [e3] at q
        exact q.ok S .int
    · cases e) ha hm (hg := hg) (he := he) (hpl := hpl)
theorem e_listD {x : Expr} {xs : List Expr} {pp pos : Pos} {f : M (List D)} (ha : PA X (x :: xs) (tA G W OX O O1 f)) (hm : X.mg "list" = none := by assumption) (hg : Gl X "list" := by rfl) (hc : X.calm = true := by rfl)
    (he : starEach (x :: xs) X.env = (false, eval x X.env) :: starEach xs X.env := by rfl) (hpl : (backTo pos (starEach xs X.env)).any (·.1) = false := by rfl) : PE X (.Call (.Name "list" pp) (x :: xs) [] pos) (tE G W OX O O1 (eN pDlist f)) :=
  e_cT pDlist (call_listD hc) (fun σ F H r ds vs d Q S rs e q => by
    unfold pDlist at e
    split at e
    · obtain ⟨p, e1, e2⟩ := Option.map_eq_some_iff.mp e
      cases rs with
      | cons r1 rr =>
        cases rr
        obtain ⟨a, kvs, rfl, hd, hk, rl⟩ := dic_rd S.sub r1 e1
        subst e2
        refine ⟨a, kvs, rfl, hd, fun p hp => ?_⟩
        refine q.fz S hp rfl fun F' hF sb => .lst hF ?_
        rw [← hk, show kvs.map (fun kv => kV kv.1) = (kvs.map (·.1)).map kV by rw [List.map_map]; rfl]
        exact keysD_rep _
    · cases e) ha hm (hg := hg) (he := he) (hpl := hpl)
end
end Z
namespace Z
open PySem PySem.Spec PyProof.Rows L2
def tLkV (t : TE) : TE := fun σ H Q => t σ H fun v H1 => ∃ d u, v = .ref d ∧ H1 d = some u ∧ Mut (some u) ∧ ∀ od, Q v (upd H1 d (.frz od u))
theorem pe_lkv {X : Cx} {e : Expr} {t : TE} (h : PE X e t) : PE X e (tLkV t) := by
  refine ⟨fun pins s σ H Q I hw => ?_⟩
  refine thn (h.run pins s σ H _ I hw) fun v s1 ⟨x, H1, I1, r, d, u, ex, hd, mu, q⟩ => ?_
  subst ex
  obtain ⟨od, I2⟩ := I1.lock hd mu
  exact ⟨.ref d, _, I2, r, q od⟩
def mkD : List Key × List D → List (D × D) → Option (List Key × List D)
  | acc, [] => some acc
  | acc, (k, v) :: l => (keyOf k).bind fun kk => mkD (putR acc.1 acc.2 kk v) l
section
variable {G : Gm} {X : Cx} {W : WX} {OX OL vs O O1 O2 O3 : List Nat}
theorem mkD_rep {F : Hp} : ∀ {ds : List (D × D)} {ps : List (V × V)} {kvs0 : List (Key × V)} {l0 : List D} {q : List Key × List D}, Paired (fun d p => Rep G F d.1 p.1 ∧ Rep G F d.2 p.2) ds ps → RepL G F l0 (kvs0.map (·.2)) → mkD (kvs0.map (·.1), l0) ds = some q →
    ∃ kvs : List (Key × V), ps = kvs.map (fun kv => (kV kv.1, kv.2)) ∧ (mergeK kvs0 kvs).map (·.1) = q.1 ∧ RepL G F q.2 ((mergeK kvs0 kvs).map (·.2)) ∧ kvs.length = ds.length
  | [], _, kvs0, l0, q, .nil, r, e => by
    cases e
    exact ⟨[], rfl, rfl, r, rfl⟩
  | (k, d) :: ds, _, kvs0, l0, q, .cons (b := p) h t, r, e => by
    rw [mkD] at e
    obtain ⟨kk, ek, e⟩ := Option.bind_eq_some_iff.mp e
    obtain ⟨e1, r1⟩ := put_rep (k := kk) (v := p.2) r h.2
    have e : mkD ((putR (kvs0.map (·.1)) l0 kk d).1, (putR (kvs0.map (·.1)) l0 kk d).2) ds = some q := e
    rw [← e1] at e
    obtain ⟨kvs, e2, e3, e4, e5⟩ := mkD_rep t r1 e
    refine ⟨(kk, p.2) :: kvs, ?_, e3, e4, by simp [e5]⟩
    rw [List.map_cons, ← e2, ← keyOf_rep h.1 ek]
end
end Z
namespace Z
open PySem PySem.Spec PyProof.Rows L2
def dkOf : D → Option (List D)
  | .dkl ks _ => some (ks.map keyD)
  | _ => none
@[simp] def itK (f : M D) : M (List D) := fun r => (f r).bind fun x r1 => match dkOf x with
  | some l => .ok l r1
  | none => .no
def strL (z : Str) : List D := z.cps.toList.map fun c => .str ⟨#[c]⟩
def stOf : D → Option (List D)
  | .str z => some (strL z)
  | _ => none
@[simp] def itS (f : M D) : M (List D) := fun r => (f r).bind fun x r1 => match stOf x with
  | some l => .ok l r1
  | none => .no
def strsOf : List D → Option (List Str)
  | [] => some []
  | .str z :: l => (strsOf l).map (z :: ·)
  | _ => none
def lsOf : D → Option (List D)
  | .lst l => some l
  | .kl l => some l
  | _ => none
def ltS (a b : Str) : Bool := PySem.Spec.ltCps a.cps.toList b.cps.toList
def insS (x : Str) : List Str → List Str
  | [] => [x]
  | y :: l => if ltS y x = true then y :: insS x l else x :: y :: l
def sortS : List Str → List Str
  | [] => []
  | x :: l => insS x (sortS l)
def pSorted : List D → Option D
  | [x] => (lsOf x).bind fun l => (strsOf l).bind fun zs => if zs.length < 64 then some (.lst ((sortS zs).map .str)) else none
  | _ => none
def lkOf : D → Option D
  | .dic ks l => some (.dkl ks l)
  | _ => none
@[simp] def eLk (f : M D) : M D := fun r => (f r).bind fun x r1 => liftO (lkOf x) r1
@[simp] def eVD (i : Nat) : M D := fun r => match r[i]? with
  | some (some (.dic ks l)) => .ok (.dkl ks l) (r.set i (some (.dkl ks l)))
  | _ => .no
def dixSet (ks : List Key) (l : List D) (y d : D) : Option (List Key × List D) := (keyOf y).bind fun k => if ks.length < big then some (putR ks l k d) else none
@[simp] def sDix (i : Nat) (f g : M D) : M Fl := fun r => (f r).bind fun d r1 => (g r1).bind fun y r2 => match r2[i]? with
  | some (some (.dic ks l)) => (match dixSet ks l y d with
    | some q => .ok .nx (r2.set i (some (.dic q.1 q.2)))
    | none => .no)
  | _ => .no
theorem ltc_anti : ∀ {a b : List Nat}, ltCps a b = false → ltCps b a = false → a = b
  | [], [], _, _ => rfl
  | [], _ :: _, h, _ => by simp [ltCps] at h
  | _ :: _, [], _, h => by simp [ltCps] at h
  | x :: a, y :: b, h, h' => by
    simp only [ltCps, Bool.or_eq_false_iff, Bool.and_eq_false_iff, decide_eq_false_iff_not, beq_eq_false_iff_ne] at h h'
    have e : x = y := by omega
    subst e
    rw [ltc_anti (h.2.resolve_left fun z => z rfl) (h'.2.resolve_left fun z => z rfl)]
theorem ltc_tr : ∀ {a b c : List Nat}, ltCps a b = false → ltCps b c = false → ltCps a c = false
  | [], [], [], _, _ => rfl
  | [], [], _ :: _, _, h => by simp [ltCps] at h
  | [], _ :: _, _, h, _ => by simp [ltCps] at h
  | _ :: _, _, [], _, _ => rfl
  | _ :: _, [], _ :: _, _, h => by simp [ltCps] at h
  | x :: a, y :: b, z :: c, h, h' => by
    simp only [ltCps, Bool.or_eq_false_iff, Bool.and_eq_false_iff, decide_eq_false_iff_not, beq_eq_false_iff_ne] at h h' ⊢
    refine ⟨by omega, ?_⟩
    by_cases e : x = z
    · subst e
      have e2 : x = y := by omega
      subst e2
      exact .inr (ltc_tr (h.2.resolve_left fun z => z rfl) (h'.2.resolve_left fun z => z rfl))
    · exact .inl e
theorem ltc_tot : ∀ {a b : List Nat}, ltCps a b = true → ltCps b a = false
  | [], _ :: _, _ => rfl
  | [], [], h => by simp [ltCps] at h
  | _ :: _, [], h => by simp [ltCps] at h
  | x :: a, y :: b, h => by
    simp only [ltCps, Bool.or_eq_true, Bool.and_eq_true, decide_eq_true_eq, beq_iff_eq] at h
    simp only [ltCps, Bool.or_eq_false_iff, Bool.and_eq_false_iff, decide_eq_false_iff_not, beq_eq_false_iff_ne]
    rcases h with h | ⟨h, h2⟩
    · exact ⟨by omega, .inl (by omega)⟩
    · exact ⟨by omega, .inr (ltc_tot h2)⟩
def leS (a b : Str) : Prop := ltS b a = false
theorem leS_anti {a b : Str} (h : leS a b) (h' : leS b a) : a = b := by
  have := ltc_anti h h'
  cases a; cases b
  simp at this
  rw [this]
theorem leS_tr {a b c : Str} (h : leS a b) (h' : leS b c) : leS a c := ltc_tr h' h
theorem rising_pw : ∀ {p : Str} {l : List Str}, PyProof.Rows.risingS p l = true → (p :: l).Pairwise leS
  | p, [], _ => by simp
  | p, x :: r, h => by
    have h : (!ltCps x.cps.toList p.cps.toList && PyProof.Rows.risingS x r) = true := h
    rw [Bool.and_eq_true, Bool.not_eq_true'] at h
    have ih := rising_pw h.2
    refine List.pairwise_cons.mpr ⟨fun y hy => ?_, ih⟩
    rcases List.mem_cons.mp hy with e | hy
    · rw [e]; exact h.1
    · exact leS_tr h.1 ((List.pairwise_cons.mp ih).1 y hy)
theorem sorted_pw : ∀ {l : List Str}, PyProof.Rows.sortedS l = true → l.Pairwise leS
  | [], _ => .nil
  | _ :: _, h => rising_pw h
theorem ins_perm (x : Str) : ∀ l, (insS x l).Perm (x :: l)
  | [] => .refl _
  | y :: l => by
    unfold insS
    split
    · exact ((ins_perm x l).cons y).trans (List.Perm.swap _ _ _)
    · exact .refl _
theorem sort_perm : ∀ l, (sortS l).Perm l
  | [] => .refl _
  | x :: l => (ins_perm x _).trans ((sort_perm l).cons x)
theorem ins_pw {x : Str} : ∀ {l : List Str}, l.Pairwise leS → (insS x l).Pairwise leS
  | [], _ => by simp [insS]
  | y :: l, h => by
    have h2 := List.pairwise_cons.mp h
    unfold insS
    split
    · rename_i hl
      refine List.pairwise_cons.mpr ⟨fun z hz => ?_, ins_pw h2.2⟩
      rcases List.mem_cons.mp ((ins_perm x l).mem_iff.mp hz) with e | hz
      · rw [e]; exact ltc_tot hl
      · exact h2.1 z hz
    · rename_i hl
      have hl : leS x y := by simpa [leS] using hl
      refine List.pairwise_cons.mpr ⟨fun z hz => ?_, h⟩
      rcases List.mem_cons.mp hz with e | hz
      · rw [e]; exact hl
      · exact leS_tr hl (h2.1 z hz)
theorem sort_pw : ∀ l, (sortS l).Pairwise leS
  | [] => .nil
  | _ :: l => ins_pw (sort_pw l)
theorem sort_is {ys xs : List Str} (hp : ys.Perm xs) (hs : PyProof.Rows.sortedS ys = true) : ys = sortS xs :=
  List.Perm.eq_of_pairwise (le := leS) (fun _ _ _ _ h h' => leS_anti h h') (sorted_pw hs) (sort_pw xs) (hp.trans (sort_perm xs).symm)
section
variable {G : Gm} {X : Cx} {W : WX} {OX OL vs O O1 O2 O3 : List Nat}
theorem strs_rep {F : Hp} : ∀ {l : List D} {xs : List V} {zs : List Str}, RepL G F l xs → strsOf l = some zs → xs = zs.map V.str
  | [], _, _, .nil, e => by cases e; rfl
  | d :: l, _, zs, .cons h t, e => by
    cases d <;> simp [strsOf] at e
    obtain ⟨ws, e1, e2⟩ := e
    subst e2
    cases h
    rw [strs_rep t e1]
    rfl
theorem strsD_rep {F : Hp} : ∀ (zs : List Str), RepL G F (zs.map .str) (zs.map V.str)
  | [] => .nil
  | z :: zs => .cons .str (strsD_rep zs)
theorem i_keys {tg e : Expr} {f : M D} (h : PE X e (tE G W OX O O1 f)) : PI X tg e (iIt G W OX O O1 (itK f)) :=
  (pi_keys h).mo fun σ H R ⟨F, r, S, p⟩ => tX_bind S p fun x v F1 H1 r1 n1 rx p => by
    revert p
    cases e : dkOf x with
    | none => exact fun p => p.elim
    | some l =>
      intro p
      cases rx with
      | @dkl ks l0 a kvs o h hk rr =>
        cases e
        have up : ∀ H, Sub F1 H → H a = some (.frz o (.dK kvs)) := fun H sb => by
          obtain ⟨o', e', g⟩ := sb _ _ h
          rw [g.frz] at e'
          exact e'
        refine ⟨a, o, rfl, .inl ⟨kvs, up H1 n1.sta.sub, p _ F1 H1 (Nx.rfl' n1.sta) ?_⟩⟩
        show Walk (Itk a o kvs) (ks.map keyD).length (fun H => Sub F1 H) (YD G F1 (ks.map keyD))
        subst hk
        have e0 : ((kvs.map (·.1)).map keyD).length = kvs.length := by simp
        rw [e0]
        refine walk_keys.mono up fun i H x H' hi sb y => ?_
        obtain ⟨y1, k, v, y2, y3⟩ := y
        subst y3
        exact ⟨keyD k, by simp [y2], .inl ⟨y1, keyD_rep k⟩⟩
      | _ => cases e
theorem i_str {tg e : Expr} {f : M D} (h : PE X e (tE G W OX O O1 f)) : PI X tg e (iIt G W OX O O1 (itS f)) :=
  (pi_str h).mo fun σ H R ⟨F, r, S, p⟩ => tX_bind S p fun x v F1 H1 r1 n1 rx p => by
    revert p
    cases e : stOf x with
    | none => exact fun p => p.elim
    | some l =>
      intro p
      cases rx with
      | @str z =>
        cases e
        refine ⟨z, rfl, p _ F1 H1 (Nx.rfl' n1.sta) ?_⟩
        show Walk (Its z) (strL z).length (fun H => Sub F1 H) (YD G F1 (strL z))
        have e0 : (strL z).length = z.cps.size := by unfold strL; simp
        rw [e0]
        refine walk_str.mono (fun _ _ => trivial) fun i H x H' hi sb y => ?_
        obtain ⟨y1, c, y2, y3⟩ := y
        subst y3
        refine ⟨.str ⟨#[c]⟩, ?_, .inl ⟨y1, .str⟩⟩
        unfold strL
        rw [List.getElem?_map]
        have : z.cps.toList[i]? = some c := by simpa using y2
        rw [this]
        rfl
      | _ => cases e
theorem e_sorted {x : Expr} {xs : List Expr} {pp pos : Pos} {f : M (List D)} (ha : PA X (x :: xs) (tA G W OX O O1 f)) (hm : X.mg "sorted" = none := by assumption) (hg : Gl X "sorted" := by rfl) (hK : X.K = G.K := by rfl)
    (he : starEach (x :: xs) X.env = (false, eval x X.env) :: starEach xs X.env := by rfl) (hpl : (backTo pos (starEach xs X.env)).any (·.1) = false := by rfl) : PE X (.Call (.Name "sorted" pp) (x :: xs) [] pos) (tE G W OX O O1 (eN pSorted f)) :=
  e_cB pSorted cr_sortedS (fun σ F H r ds vs d Q S rs e q => by
    unfold pSorted at e
    split at e
    · obtain ⟨l, e1, e⟩ := Option.bind_eq_some_iff.mp e
      obtain ⟨zs, e2, e⟩ := Option.bind_eq_some_iff.mp e
      split at e
      · rename_i h64
        cases e
        cases rs with
        | cons r1 rr =>
          cases rr
          have key : ∀ (x : D) (v : V), Rep G F x v → lsOf x = some l → ∃ a xs, v = V.ref a ∧ SqL X.K H a xs ∧ RepL G F l xs := fun x v r1 e1 => by
            rw [hK]
            cases r1 with
            | lst h r => cases e1; exact ⟨_, _, rfl, S.sub.sqL (.inl (.inl h)), r⟩
            | kl h r => cases e1; exact ⟨_, _, rfl, S.sub.sqL h, r⟩
            | _ => cases e1
          obtain ⟨a, ys, rfl, hq, rl⟩ := key _ _ r1 e1
          have e3 := strs_rep rl e2
          subst e3
          refine ⟨a, zs, rfl, hq, h64, fun ws p hp hs hn => ?_⟩
          rw [sort_is hp hs]
          exact q.fz S hn rfl fun F' hF sb => .lst hF (strsD_rep _)
      · cases e
    · cases e) ha hm (hg := hg) (he := he) (hpl := hpl)
theorem lk_imp {f : M D} {σ : L2.St} {H : Hp} {Q : VK} (h : tE G W OX O O1 (eLk f) σ H Q) : tLkV (tF G W OX O O1 f) σ H Q := by
  obtain ⟨F, r, S, p⟩ := h
  refine ⟨F, r, S, ?_⟩
  simp only [eLk] at p
  revert p
  cases f r with
  | no => exact fun p => p
  | ex e q => exact fun p => p
  | ok d q =>
    intro p v F1 H1 n ⟨ow, nw⟩
    have p : Pst G W OX O O1 σ F H (RD G) Q (liftO (lkOf d) q) := p
    cases ow with
    | @dic ks l a kvs h hf hk rr =>
      obtain ⟨h0, hO⟩ := nw a rfl
      refine ⟨a, _, rfl, h, True.intro, fun od => ?_⟩
      have st : Stp G.tabs (fun x => x = a) F1 H1 (upd F1 a (.frz od (.dK kvs))) (upd H1 a (.frz od (.dK kvs))) := ⟨fun b u e => ⟨u, by rw [upd_ne fun z => by rw [z, hf] at e; cases e]; exact e, .rfl'⟩, fun b u e nn _ => by rw [upd_ne nn]; exact e, fun _ _ _ nn => upd_ne nn, fun _ e => upd_none e, fun _ _ t => tab_at h rfl (fun a n => upd_ne n) t⟩
      have sub : Sub (upd F1 a (.frz od (.dK kvs))) (upd H1 a (.frz od (.dK kvs))) := fun b u e => by
        by_cases q : b = a
        · subst q
          rw [upd_same] at e
          cases e
          exact ⟨_, upd_same, .rfl'⟩
        · rw [upd_ne q] at e
          obtain ⟨u', e', g⟩ := n.sta.sub b u e
          exact ⟨u', by rw [upd_ne q]; exact e', g⟩
      exact p _ _ _ ⟨n.sta.stay st sub (n.sta.nt.upd rfl) (n.sta.wf.upd rfl) fun b m z => hO (z ▸ m), n.stp.trans st fun x z => .inr (z ▸ h0), n.kp, n.pv⟩ (.dkl upd_same hk (rr.mono st.fz))
    | lst => exact p.elim
    | ob => exact p.elim
theorem _root_.L2.PE.lk {e : Expr} {f : M D} (h : PE X e (tF G W OX O O1 f)) : PE X e (tE G W OX O O1 (eLk f)) := (pe_lkv h).imp fun σ H Q h => lk_imp h
theorem e_varD {x : Str} {pos : Pos} (i : Nat) (hi : i ∈ O := by decide) (hN : X.N[i]? = some x := by rfl) (hv : Vis X.env.scope x := by first | exact Or.inl rfl | exact Or.inr (Or.inl rfl) | exact Or.inr (Or.inr rfl))
    (hd : (x == ("__debug__" : Str)) = false := by decide) (hcd : (x == ("__classdict__" : Str)) = false := by decide) : PE X (.Name x pos) (tE G W OX O (O.filter (· != i)) (eVD i)) :=
  (pe_lkv (pe_var hN hv hd hcd)).imp fun σ H Q ⟨F, r, S, p⟩ => by
    simp only [eVD] at p
    revert p
    split
    · rename_i ks l e
      intro p
      obtain ⟨v, e1, o⟩ := S.own_at hi e
      cases o with
      | @dic _ _ a kvs h hf hk rr =>
        refine ⟨_, e1, a, _, rfl, h, True.intro, fun od => ?_⟩
        have st : Stp G.tabs (fun x => x = a) F H (upd F a (.frz od (.dK kvs))) (upd H a (.frz od (.dK kvs))) := ⟨fun b u e => ⟨u, by rw [upd_ne fun z => by rw [z, hf] at e; cases e]; exact e, .rfl'⟩, fun b u e nn _ => by rw [upd_ne nn]; exact e, fun _ _ _ nn => upd_ne nn, fun _ e => upd_none e, fun _ _ t => tab_at h rfl (fun a n => upd_ne n) t⟩
        have sub : Sub (upd F a (.frz od (.dK kvs))) (upd H a (.frz od (.dK kvs))) := fun b u e => by
          by_cases q : b = a
          · subst q
            rw [upd_same] at e
            cases e
            exact ⟨_, upd_same, .rfl'⟩
          · rw [upd_ne q] at e
            obtain ⟨u', e', g⟩ := S.sub b u e
            exact ⟨u', by rw [upd_ne q]; exact e', g⟩
        have rp : Rep G (upd F a (.frz od (.dK kvs))) (.dkl ks l) (.ref a) := .dkl upd_same hk (rr.mono st.fz)
        have mem : ∀ {j}, j ∈ O.filter (· != i) → j ∈ O ∧ j ≠ i := fun {j} hj => by
          obtain ⟨h1, h2⟩ := List.mem_filter.mp hj
          exact ⟨h1, fun z => by simp [z] at h2⟩
        have hl : i < r.length := (List.getElem?_eq_some_iff.mp e).1
        refine p _ _ _ ⟨⟨sub, S.nt.upd rfl, ⟨S.wf.upd rfl, fun p hp => st.tb p hp (S.wf.tab p hp)⟩, by simp [S.len], fun j dj hj ej => ?_, fun j hj => ?_, fun j k b hj hk => S.dj j k b (mem hj).1 (mem hk).1⟩, st.weak fun x z => ⟨i, hi, by rw [z]; exact e1⟩, fun _ _ => rfl, fun b ⟨j, hj, ej⟩ => .inl ⟨j, (mem hj).1, ej⟩⟩ rp
        · by_cases q : i = j
          · subst q
            rw [List.getElem?_set_self hl] at ej
            cases ej
            exact ⟨_, e1, rp⟩
          · rw [List.getElem?_set_ne q] at ej
            obtain ⟨w, ew, hw⟩ := S.rp j dj (fun z => hj (List.mem_filter.mpr ⟨z, by simp [Ne.symm q]⟩)) ej
            exact ⟨w, ew, hw.mono st.fz⟩
        · obtain ⟨hj, hne⟩ := mem hj
          obtain ⟨dj, w, e2, ew, ow⟩ := S.ow j hj
          refine ⟨dj, w, by rw [List.getElem?_set_ne (Ne.symm hne)]; exact e2, ew, ow.mono st fun b eb z => hne (S.dj j i a hj hi (by rw [ew, eb, z]) e1)⟩
    · exact fun p => p.elim
theorem s_dix {x : Str} {b e : Expr} {pos pos' px : Pos} {k : Nat} {f g : M D} (i : Nat) (hr : Room k X.A) (he : PE X e (tE G W OX O O1 f)) (hb : PE X b (tE G W OX O1 O2 g)) (hO : i ∈ O1 := by decide) (hi : i ∈ O2 := by decide) (hN : X.N[i]? = some x := by rfl) (hv : Vis X.env.scope x := by first | exact Or.inl rfl | exact Or.inr (Or.inl rfl) | exact Or.inr (Or.inr rfl))
    (hd : (x == ("__debug__" : Str)) = false := by decide) (hcd : (x == ("__classdict__" : Str)) = false := by decide) (hs : swapsWith e (some (.Subscript (.Name x px) b pos')) pos.line X.env = pure false := by rfl) :
    PS X (.Assign [.Subscript (.Name x px) b pos'] e pos) (tS G W OX OL O O2 (sDix i f g)) :=
  (ps_dput (by have := hr.un; omega) (pe_var hN hv hd hcd) hb he hs).imp fun Dn σ H ⟨F, r, S, p⟩ => tS_bind S p fun d v F1 H1 r1 n1 rd p => by
    obtain ⟨d0, v0, e1, e2, o0⟩ := n1.sta.ow i hO
    refine ⟨v0, e2, tS_bind n1.sta p fun y w F2 H2 r2 n2 ry p => ?_⟩
    revert p
    split
    · rename_i ks l e3
      intro p
      obtain ⟨v1, e4, o⟩ := n2.sta.own_at hi e3
      rw [e2] at e4
      cases e4
      revert p
      cases em : dixSet ks l y d with
      | none => exact fun p => p.elim
      | some q =>
        intro p
        unfold dixSet at em
        obtain ⟨kk, ek, em⟩ := Option.bind_eq_some_iff.mp em
        split at em
        · rename_i hbig
          cases em
          cases o with
          | @dic _ _ a kvs h hf hk rr =>
            subst hk
            obtain ⟨p1, p2⟩ := put_rep (k := kk) rr (rd.mono n2.stp.fz)
            refine ⟨a, _, rfl, .inl ⟨kvs, kk, h, keyOf_rep ry ek, ?_, rfl⟩, p _ _ _ (n2.sta.wr hi e2 (.dic upd_same hf p1 p2) (sub_wr n2.sta.sub hf) (n2.sta.wf.upd rfl))⟩
            have : kvs.length < big := by simpa using hbig
            exact Nat.lt_of_lt_of_le this (big_line (Nat.le_refl _))
        · cases em
    · exact fun p => p.elim
end
end Z
namespace Z
open PySem PySem.Spec PyProof.Rows L2
def dcGo (vs : List Nat) (g : Tg) (t : M Bool) (kf vf : M D) : List D → List Key × List D → Ev → Option ((List Key × List D) × Ev)
  | [], acc, r => some (acc, r)
  | d :: l, acc, r => match g d (wipeE vs r) with
    | none => none
    | some r1 => match t r1 with
      | .ok true r2 => (match kf r2 with
        | .ok y r3 => (match vf r3 with
          | .ok z r4 => (match keyOf y with
            | some k => dcGo vs g t kf vf l (putR acc.1 acc.2 k z) r4
            | none => none)
          | _ => none)
        | _ => none)
      | .ok false r2 => dcGo vs g t kf vf l acc r2
      | _ => none
def dcOut (vs : List Nat) (r1 : Ev) : Option ((List Key × List D) × Ev) → Out D
  | some (q, r2) => .ok (.dic q.1 q.2) (backE r1 vs r2)
  | none => .no
@[simp] def eDc (vs : List Nat) (it : M (List D)) (g : Tg) (t : M Bool) (kf vf : M D) : M D := fun r => (it r).bind fun l r1 => if l.length ≤ big then dcOut vs r1 (dcGo vs g t kf vf l ([], []) r1) else .no
theorem putK_len (kvs : List (Key × V)) (k : Key) (z : V) : (putK kvs k z).length ≤ kvs.length + 1 := by
  unfold putK
  split <;> simp
section
variable {J : It} {n : Nat} {G : Hp → Prop} {Y : Nat → Hp → V → Hp → Prop}
theorem dc_it (w : Walk J n G Y) {g : TG} {tt : TT} {tk te : TE} {vs : List Nat} {σ : L2.St} {H1 : Hp} {D : Addr} {Qd : Hp → Prop} (Pv : Nat → Hp → Prop) (h0 : Pv 0 (upd H1 D (.dK []))) (hG : ∀ i H, i ≤ n → Pv i H → G H)
    (hs : ∀ i x H H', i < n → Pv i H → Y i H x H' → g x (L2.wipe σ vs) H' fun σ2 H2 => L2.wipe σ2 vs = L2.wipe σ vs ∧ tt σ2 H2 fun b H3 =>
      if b = true then tk σ2 H3 fun y H4 => te σ2 H4 fun z H5 => ∃ kvs k, y = kV k ∧ H5 D = some (.dK kvs) ∧ kvs.length < sizeLine ∧ Pv (i + 1) (upd H5 D (.dK (putK kvs k z))) else Pv (i + 1) H3) (hd : ∀ H, Pv n H → Qd H) :
    ∃ W : Nat → Nat → Hp → Prop, (∃ m, W 0 m (upd H1 D (.dK []))) ∧ ∀ i m H, W i m H →
      (J.stop i H ∧ Qd H) ∨ (J.go i H ∧ ∃ Nx : Hp → Prop, (∀ H', Nx H' → ∃ m', m' < m ∧ W (i + 1) m' H') ∧ ∀ x H', J.yld i H x H' → g x (L2.wipe σ vs) H' fun σ2 H2 => L2.wipe σ2 vs = L2.wipe σ vs ∧ tt σ2 H2 fun b H3 =>
        if b = true then tk σ2 H3 fun y H4 => te σ2 H4 fun z H5 => ∃ kvs k, y = kV k ∧ H5 D = some (.dK kvs) ∧ kvs.length < sizeLine ∧ Nx (upd H5 D (.dK (putK kvs k z))) else Nx H3) := by
  refine ⟨fun i m H => m = n - i ∧ i ≤ n ∧ Pv i H, ⟨n, by simp, Nat.zero_le _, h0⟩, ?_⟩
  rintro i m H ⟨rfl, hi, p⟩
  have q := hG i H hi p
  by_cases hlt : i < n
  · refine .inr ⟨w.goes i H hlt q, Pv (i + 1), fun H' p' => ⟨n - (i + 1), by omega, rfl, hlt, p'⟩, fun x H' y => hs i x H H' hlt p (w.yields i H x H' hlt q y)⟩
  · have e : i = n := by omega
    subst e
    exact .inl ⟨w.stops H q, hd H p⟩
end
section
variable {G : Gm} {X : Cx} {W : WX} {OX OL vs O O1 O2 O3 : List Nat}
theorem dc_imp {own : List (Str × Nat)} {it : M (List D)} {g : Tg} {t : M Bool} {kf vf : M D} (hvs : own.map (·.2) = vs) (hd : ∀ i ∈ vs, i ∉ O1) (σ : L2.St) (H : Hp) (Q : VK) (h : tF G W OX O O1 (eDc vs it g t kf vf) σ H Q) :
    tDc (iIt G W OX O O1 it) (tG G [] vs O1 O1 g) (tT G (fun _ _ _ _ => False) [] O1 O1 t) (tE G (fun _ _ _ _ => False) [] O1 O1 kf) (tE G (fun _ _ _ _ => False) [] O1 O1 vf) (own.map (·.2)) σ H Q := by
  obtain ⟨F, r, S, p⟩ := h
  refine tX_bind S p fun l J F1 H1 r1 n1 rl p => ?_
  rw [hvs]
  intro Dd hD
  split at p
  case isFalse => exact p.elim
  rename_i hlen
  have fD : F1 Dd = none := by
    cases q : F1 Dd with
    | none => rfl
    | some u =>
      obtain ⟨o', e, _⟩ := n1.sta.sub Dd u q
      rw [hD] at e
      cases e
  have nO : ¬ OwnAt O1 σ Dd := fun ⟨i, hi, e⟩ => by
    obtain ⟨d, v, _, e2, ow⟩ := n1.sta.ow i hi
    rw [e] at e2
    cases e2
    obtain ⟨a, o, ea, ha⟩ := ow.there
    cases ea
    rw [hD] at ha
    cases ha
  let Pv : Nat → Hp → Prop := fun i H' => ∃ F' r' ks ys acc, Sta G O1 F' H' (L2.wipe σ vs) (wipeE vs r') ∧ Stp G.tabs (fun a => OwnAt O1 σ a ∨ a = Dd) F1 (upd H1 Dd (.dK [])) F' H' ∧ H' Dd = some (.dK acc) ∧ F' Dd = none ∧ acc.map (·.1) = ks ∧ RepL G F' ys (acc.map (·.2)) ∧ acc.length ≤ i ∧
    Pst G W OX O1 O1 σ F1 H1 (RF G O1 σ H) Q (dcOut vs r1 (dcGo vs g t kf vf (l.drop i) (ks, ys) r'))
  have start := new_ow (o := .dK []) n1.sta hD rfl
  refine dc_it rl Pv ⟨F1, r1, [], [], [], start.1.wipe hd, .rfl', upd_same, fD, rfl, .nil, Nat.zero_le _, ?_⟩ (fun i H' _ ⟨F', r', ks, ys, acc, S', st, _⟩ => st.fz.trans S'.sub) ?_ ?_
  · rw [List.drop_zero]
    exact p
  · rintro i x H' H'' hi ⟨F', r', ks, ys, acc, S', st, hDd, fDd, hks, ry, ha, p⟩ ⟨d, ed, y⟩
    have el : l.drop i = d :: l.drop (i + 1) := by
      have hl : i < l.length := hi
      rw [List.drop_eq_getElem_cons hl]
      congr 1
      have := List.getElem?_eq_getElem hl
      rw [this] at ed
      exact Option.some.inj ed
    rw [el, dcGo] at p
    have run : ∀ (F2 : Hp), Sta G O1 F2 H'' (L2.wipe σ vs) (wipeE vs r') → Stp G.tabs (fun a => OwnAt O1 σ a ∨ a = Dd) F1 (upd H1 Dd (.dK [])) F2 H'' → H'' Dd = some (.dK acc) → F2 Dd = none → RepL G F2 ys (acc.map (·.2)) → Rep G F2 d x →
        tG G [] vs O1 O1 g x (L2.wipe σ vs) H'' fun σ2 H2 => L2.wipe σ2 vs = L2.wipe σ vs ∧ tT G (fun _ _ _ _ => False) [] O1 O1 t σ2 H2 fun b H3 => if b = true then tE G (fun _ _ _ _ => False) [] O1 O1 kf σ2 H3 fun y H4 => tE G (fun _ _ _ _ => False) [] O1 O1 vf σ2 H4 fun z H5 => ∃ kvs k, y = kV k ∧ H5 Dd = some (.dK kvs) ∧ kvs.length < sizeLine ∧ Pv (i + 1) (upd H5 Dd (.dK (putK kvs k z))) else Pv (i + 1) H3 := fun F2 S2 st2 hD2 fD2 ry2 rx => by
      cases e : g d (wipeE vs r') with
      | none =>
        rw [e] at p
        exact p.elim
      | some r2 =>
        rw [e] at p
        refine ⟨F2, _, d, r2, S2, rx, e, fun σ2 n3 w3 => ?_⟩
        have w3 : L2.wipe σ2 vs = L2.wipe σ vs := by
          have idem : ∀ (l : List Nat) (σ : L2.St), (∀ i ∈ l, i ∈ vs) → L2.wipe (L2.wipe σ l) vs = L2.wipe σ vs := by
            intro l
            induction l with
            | nil => exact fun _ _ => rfl
            | cons a l ih =>
              intro σ h
              rw [L2.wipe, wipe_set (h a List.mem_cons_self)]
              exact ih σ fun i hi => h i (List.mem_cons_of_mem _ hi)
          rw [w3]
          exact idem vs σ fun _ h => h
        refine ⟨w3, F2, r2, n3.sta, ?_⟩
        have mo : ∀ {a}, OwnAt O1 σ2 a → OwnAt O1 σ a := fun {a} m => (ownAt_wipe hd).mp (by rw [← w3]; exact (ownAt_wipe hd).mpr m)
        have nO2 : ¬ OwnAt O1 σ2 Dd := fun m => nO (mo m)
        have p : Pst G W OX O1 O1 σ F1 H1 (RF G O1 σ H) Q (dcOut vs r1 (match t r2 with
          | .ok true r2 => (match kf r2 with
            | .ok y r3 => (match vf r3 with
              | .ok z r4 => (match keyOf y with
                | some k => dcGo vs g t kf vf (l.drop (i + 1)) (putR ks ys k z) r4
                | none => none)
              | _ => none)
            | _ => none)
          | .ok false r2 => dcGo vs g t kf vf (l.drop (i + 1)) (ks, ys) r2
          | _ => none)) := p
        have ext : ∀ {F3 H3 : Hp} {q : Ev}, Nx G [] O1 O1 σ2 F2 H'' σ2 F3 H3 q → Stp G.tabs (fun a => OwnAt O1 σ a ∨ a = Dd) F1 (upd H1 Dd (.dK [])) F3 H3 ∧ H3 Dd = some (.dK acc) ∧ F3 Dd = none ∧ RepL G F3 ys (acc.map (·.2)) := fun {F3 H3 q} n =>
          ⟨st2.trans n.stp fun x m => .inl (.inl (mo m)), n.stp.kp _ _ hD2 nO2, (n.stp.nf _ _ hD2 nO2).trans fD2, ry2.mono n.stp.fz⟩
        have again : ∀ {F3 H3 : Hp} {q : Ev}, Nx G [] O1 O1 σ2 F2 H'' σ2 F3 H3 q → Sta G O1 F3 H3 (L2.wipe σ vs) (wipeE vs q) := fun {F3 H3 q} n => by
          rw [← w3]
          exact n.sta.wipe hd
        revert p
        cases t r2 with
        | no => exact fun p => p.elim
        | ex e q => exact fun p => p.elim
        | ok c r3 =>
          cases c with
          | false =>
            intro p b F3 H3 n eb
            cases eb
            rw [if_neg (by decide)]
            obtain ⟨a1, a2, a3, a4⟩ := ext n
            exact ⟨F3, r3, ks, ys, acc, again n, a1, a2, a3, hks, a4, Nat.le_succ_of_le ha, p⟩
          | true =>
            intro p b F3 H3 n eb
            cases eb
            rw [if_pos rfl]
            have p : Pst G W OX O1 O1 σ F1 H1 (RF G O1 σ H) Q (dcOut vs r1 (match kf r3 with
              | .ok y r3 => (match vf r3 with
                | .ok z r4 => (match keyOf y with
                  | some k => dcGo vs g t kf vf (l.drop (i + 1)) (putR ks ys k z) r4
                  | none => none)
                | _ => none)
              | _ => none)) := p
            refine ⟨F3, r3, n.sta, ?_⟩
            revert p
            cases kf r3 with
            | no => exact fun p => p.elim
            | ex e q => exact fun p => p.elim
            | ok yk r4 =>
              intro p w F4 H4 n4 rw4
              have p : Pst G W OX O1 O1 σ F1 H1 (RF G O1 σ H) Q (dcOut vs r1 (match vf r4 with
                | .ok z r4 => (match keyOf yk with
                  | some k => dcGo vs g t kf vf (l.drop (i + 1)) (putR ks ys k z) r4
                  | none => none)
                | _ => none)) := p
              refine ⟨F4, r4, n4.sta, ?_⟩
              revert p
              cases vf r4 with
              | no => exact fun p => p.elim
              | ex e q => exact fun p => p.elim
              | ok z r5 =>
                intro p w5 F5 H5 n5 rw5
                have nn := (n.trans n4).trans n5
                obtain ⟨a1, a2, a3, a4⟩ := ext nn
                have p : Pst G W OX O1 O1 σ F1 H1 (RF G O1 σ H) Q (dcOut vs r1 (match keyOf yk with
                  | some k => dcGo vs g t kf vf (l.drop (i + 1)) (putR ks ys k z) r5
                  | none => none)) := p
                revert p
                cases ek : keyOf yk with
                | none => exact fun p => p.elim
                | some k =>
                  intro p
                  refine ⟨acc, k, keyOf_rep rw4 ek, a2, ?_, ?_⟩
                  · have h1 : acc.length < l.length := Nat.lt_of_le_of_lt ha hi
                    exact Nat.lt_of_lt_of_le h1 (big_line hlen)
                  · obtain ⟨S6, st6⟩ := putD (o := .dK (putK acc k w5)) (again nn) a2 a3 (fun m => nO ((ownAt_wipe hd).mp m)) rfl
                    obtain ⟨q1, q2⟩ := put_rep (k := k) a4 rw5
                    rw [hks] at q1 q2
                    refine ⟨F5, r5, (putR ks ys k z).1, (putR ks ys k z).2, putK acc k w5, S6, a1.trans st6 fun x m => .inl (.inr m), upd_same, a3, q1, q2, Nat.le_trans (putK_len _ _ _) (Nat.succ_le_succ ha), p⟩
    rcases y with ⟨e1, rd⟩ | ⟨T, xs, ds, rfl, rfl, hT, rfl, rl'⟩
    · subst e1
      exact run F' S' st hDd fDd ry (rd.mono st.fz)
    · obtain ⟨S2, s2⟩ := new_fz (o := .tup xs) S' hT rfl
      have ne : Dd ≠ T := fun z => by rw [z, hT] at hDd; cases hDd
      exact run _ S2 (st.trans s2 fun x m => .inl (.inl ((ownAt_wipe hd).mp m))) (by rw [upd_ne ne]; exact hDd) (by rw [upd_ne ne]; exact fDd) (ry.mono s2.fz) (.tup (.inl (.inl upd_same)) ((rl'.mono st.fz).mono s2.fz))
  · rintro H' ⟨F', r', ks, ys, acc, S', st, hDd, fDd, hks, ry, ha, p⟩
    rw [List.drop_length] at p
    have p : Pst G W OX O1 O1 σ F1 H1 (RF G O1 σ H) Q (.ok (.dic ks ys) (backE r1 vs r')) := p
    refine p _ F' H' ⟨n1.sta.back S' st.fz hd, (start.2.1.trans st fun x m => ?_), fun _ _ => rfl, fun a m => .inl m⟩ ⟨.dic hDd fDd hks ry, fun a ea => ?_⟩
    · rcases m with m | m
      · exact .inl m
      · exact .inr (by rw [m]; exact hD)
    · cases ea
      exact ⟨n1.stp.tr _ hD, nO⟩
theorem e_dcF {kx vx tg iter : Expr} {ifs : List Expr} {scope : Scope} {pos : Pos} {it : M (List D)} {g : Tg} {t : M Bool} {kf vf : M D} (own : List (Str × Nat)) (hvs : own.map (·.2) = vs) (hi : PI X tg iter (iIt G W OX O O1 it)) (ok : BlkOk X.N X.env.scope scope own)
    (hg : ∀ (s : Shared) (H : Hp) (C : Addr) (cl : List (Str × Addr)) (fp : List Addr), PG (X.blk s H scope (compEnvC scope cl C X.env) fp) tg (tG G [] vs O1 O1 g)) (ht : ∀ (s : Shared) (H : Hp) (C : Addr) (cl : List (Str × Addr)) (fp : List Addr), PTs (X.blk s H scope (compEnvC scope cl C X.env) fp) ifs (tT G (fun _ _ _ _ => False) [] O1 O1 t))
    (hk : ∀ (s : Shared) (H : Hp) (C : Addr) (cl : List (Str × Addr)) (fp : List Addr), PE (X.blk s H scope (compEnvC scope cl C X.env) fp) kx (tE G (fun _ _ _ _ => False) [] O1 O1 kf))
    (he : ∀ (s : Shared) (H : Hp) (C : Addr) (cl : List (Str × Addr)) (fp : List Addr), PE (X.blk s H scope (compEnvC scope cl C X.env) fp) vx (tE G (fun _ _ _ _ => False) [] O1 O1 vf)) (hN : X.N.Nodup := by first | assumption | decide +kernel) (hd : ∀ i ∈ vs, i ∉ O1 := by decide) (hc : X.calm = true := by rfl) (hs : ∀ x, foldedSetIterable iter X.env x = pure x := by intro _; rfl) :
    PE X (.DictComp kx vx [⟨tg, iter, ifs, 0⟩] scope pos) (tF G W OX O O1 (eDc vs it g t kf vf)) :=
  (pe_dc hc hN hi ok hg ht hk he hs).imp (dc_imp hvs hd)
end
end Z
namespace Z
open PySem PySem.Spec PyProof.Rows L2
def inDeep (x y : D) : Option Bool := (toP x).bind fun d => (lisOf y).bind fun l => (toPs l).bind fun ds => if SeqAt.shaped d = true ∧ SeqAt.shaped (.list ds) = true then some (ds.any fun z => PyData.eqv z d) else none
@[simp] def eInO (i : Nat) (f : M D) : M D := fun r => (f r).bind fun x r1 => match r1[i]? with
  | some (some (.lst l)) => liftO ((inDeep x (.lst l)).map .bl) r1
  | _ => .no
def intsOf : List D → Option (List Int)
  | [] => some []
  | .int z :: l => (intsOf l).map (z :: ·)
  | _ => none
def putI (x : Int) : List Int → List Int
  | [] => [x]
  | y :: l => if y < x then y :: putI x l else x :: y :: l
def sortI : List Int → List Int
  | [] => []
  | x :: l => putI x (sortI l)
def pSortedI : List D → Option D
  | [x] => (lsOf x).bind fun l => (intsOf l).bind fun zs => if zs.length < 64 then some (.lst ((sortI zs).map .int)) else none
  | _ => none
theorem putI_perm (x : Int) : ∀ l, (putI x l).Perm (x :: l)
  | [] => .refl _
  | y :: l => by
    unfold putI
    split
    · exact ((putI_perm x l).cons y).trans (List.Perm.swap _ _ _)
    · exact .refl _
theorem sortI_perm : ∀ l, (sortI l).Perm l
  | [] => .refl _
  | x :: l => (putI_perm x _).trans ((sortI_perm l).cons x)
theorem putI_pw {x : Int} : ∀ {l : List Int}, l.Pairwise (· ≤ ·) → (putI x l).Pairwise (· ≤ ·)
  | [], _ => by simp [putI]
  | y :: l, h => by
    have h2 := List.pairwise_cons.mp h
    unfold putI
    split
    · rename_i hl
      refine List.pairwise_cons.mpr ⟨fun z hz => ?_, putI_pw h2.2⟩
      rcases List.mem_cons.mp ((putI_perm x l).mem_iff.mp hz) with e | hz
      · rw [e]; omega
      · exact h2.1 z hz
    · rename_i hl
      refine List.pairwise_cons.mpr ⟨fun z hz => ?_, h⟩
      rcases List.mem_cons.mp hz with e | hz
      · rw [e]; omega
      · have := h2.1 z hz; omega
theorem sortI_pw : ∀ l, (sortI l).Pairwise (· ≤ ·)
  | [] => .nil
  | _ :: l => putI_pw (sortI_pw l)
theorem sortI_is {ys xs : List Int} (hp : ys.Perm xs) (hs : ys.Pairwise (· ≤ ·)) : ys = sortI xs :=
  List.Perm.eq_of_pairwise (le := (· ≤ ·)) (fun _ _ _ _ h h' => Int.le_antisymm h h') hs (sortI_pw xs) (hp.trans (sortI_perm xs).symm)
section
variable {G : Gm} {X : Cx} {W : WX} {OX OL vs O O1 O2 O3 : List Nat}
theorem ints_rep {F : Hp} : ∀ {l : List D} {xs : List V} {zs : List Int}, RepL G F l xs → intsOf l = some zs → xs = zs.map V.int
  | [], _, _, .nil, e => by cases e; rfl
  | d :: l, _, zs, .cons h t, e => by
    cases d <;> simp [intsOf] at e
    obtain ⟨ws, e1, e2⟩ := e
    subst e2
    cases h
    rw [ints_rep t e1]
    rfl
theorem intsD_rep {F : Hp} : ∀ (zs : List Int), RepL G F (zs.map .int) (zs.map V.int)
  | [] => .nil
  | z :: zs => .cons .int (intsD_rep zs)
theorem look_none {F : Hp} : ∀ {kvs : List (Key × V)} {l : List D} {k : Key}, RepL G F l (kvs.map (·.2)) → lookD (kvs.map (·.1)) l k = none → valV kvs k = none
  | [], _, _, _, _ => rfl
  | (k, v) :: kvs, l, x, r, e => by
    cases r with
    | @cons d0 l0 _ _ h t =>
      rw [List.map_cons, lookD] at e
      by_cases q : k = x
      · rw [if_pos q] at e
        cases e
      · rw [if_neg q] at e
        rw [valV_neg q]
        exact look_none t e
theorem e_sortedI {x : Expr} {xs : List Expr} {pp pos : Pos} {f : M (List D)} (ha : PA X (x :: xs) (tA G W OX O O1 f)) (hm : X.mg "sorted" = none := by assumption) (hg : Gl X "sorted" := by rfl) (hK : X.K = G.K := by rfl)
    (he : starEach (x :: xs) X.env = (false, eval x X.env) :: starEach xs X.env := by rfl) (hpl : (backTo pos (starEach xs X.env)).any (·.1) = false := by rfl) : PE X (.Call (.Name "sorted" pp) (x :: xs) [] pos) (tE G W OX O O1 (eN pSortedI f)) :=
  e_cB pSortedI cr_sorted (fun σ F H r ds vs d Q S rs e q => by
    unfold pSortedI at e
    split at e
    · obtain ⟨l, e1, e⟩ := Option.bind_eq_some_iff.mp e
      obtain ⟨zs, e2, e⟩ := Option.bind_eq_some_iff.mp e
      split at e
      · rename_i h64
        cases e
        cases rs with
        | cons r1 rr =>
          cases rr
          have key : ∀ (x : D) (v : V), Rep G F x v → lsOf x = some l → ∃ a xs, v = V.ref a ∧ SqL X.K H a xs ∧ RepL G F l xs := fun x v r1 e1 => by
            rw [hK]
            cases r1 with
            | lst h r => cases e1; exact ⟨_, _, rfl, S.sub.sqL (.inl (.inl h)), r⟩
            | kl h r => cases e1; exact ⟨_, _, rfl, S.sub.sqL h, r⟩
            | _ => cases e1
          obtain ⟨a, ys, rfl, hq, rl⟩ := key _ _ r1 e1
          have e3 := ints_rep rl e2
          subst e3
          refine ⟨a, zs, rfl, hq, h64, fun ws p hp hs hn => ?_⟩
          rw [sortI_is hp hs]
          exact q.fz S hn rfl fun F' hF sb => .lst hF (intsD_rep _)
      · cases e
    · cases e) ha hm (hg := hg) (he := he) (hpl := hpl)
theorem bind_as {α β γ : Type} (o : Out α) (f : α → Ev → Out β) (g : β → Ev → Out γ) : (o.bind f).bind g = o.bind fun a r => (f a r).bind g := by
  cases o <;> rfl
theorem in_core {F H : Hp} {σ : L2.St} {Q : VK} {i : Nat} {r : Ev} {x : D} {y v0 : V} {d0 : D} (S : Sta G O1 F H σ r) (rd : Rep G F x y) (e1 : r[i]? = some (some d0)) (ow : Own G F H d0 v0) (hK : X.K = G.K)
    (p : Pst G W OX O1 O1 σ F H (RD G) Q (match r[i]? with
      | some (some (.lst l)) => liftO ((inDeep x (.lst l)).map .bl) r
      | _ => .no)) : rInD X.K y v0 H Q := by
  rw [e1] at p
  revert p
  cases ow with
  | @lst l a xs h hf rr =>
    intro p
    have p : Pst G W OX O1 O1 σ F H (RD G) Q (liftO ((inDeep x (.lst l)).map .bl) r) := p
    obtain ⟨z, ez, q⟩ := p.lift
    obtain ⟨b, eb, ez⟩ := Option.map_eq_some_iff.mp ez
    subst ez
    unfold inDeep at eb
    obtain ⟨pd, g1, eb⟩ := Option.bind_eq_some_iff.mp eb
    obtain ⟨l', g2, eb⟩ := Option.bind_eq_some_iff.mp eb
    obtain rfl : l = l' := Option.some.inj g2
    obtain ⟨ds, g3, eb⟩ := Option.bind_eq_some_iff.mp eb
    split at eb
    · rename_i sh
      cases eb
      refine ⟨pd, ds, ?_, ?_, sh.1, sh.2, q.ok S .bl⟩
      · rw [hK]; exact rd.dp S.sub g1
      · rw [hK]; exact .lst (.inl (.inl h)) (rr.dp S.sub g3)
    · cases eb
  | dic => exact fun p => p.elim
  | ob => exact fun p => p.elim
theorem t_inO {a : Expr} {x : Str} {px pos : Pos} {k : Nat} {f : M D} (i : Nat) (hr : Room k X.A) (ha : PE X a (tE G W OX O O1 f)) (hi : i ∈ O1 := by decide) (hN : X.N[i]? = some x := by rfl) (hv : Vis X.env.scope x := by first | exact Or.inl rfl | exact Or.inr (Or.inl rfl) | exact Or.inr (Or.inr rfl))
    (hd : (x == ("__debug__" : Str)) = false := by decide) (hcd : (x == ("__classdict__" : Str)) = false := by decide) (hK : X.K = G.K := by rfl) (hm : behindInMarks .In (.Name x px) = false := by rfl) : PT X (.Compare a [.In] [.Name x px] pos) (tT G W OX O O1 (tV (eInO i f))) :=
  (pt_cmpR (op_inD (by have := hr.un; omega)) ha (pe_var hN hv hd hcd) hm).imp fun σ H Q ⟨F, r, S, p⟩ => by
    have p : Pst G W OX O O1 σ F H RB Q (((f r).bind fun x r1 => match r1[i]? with
      | some (some (.lst l)) => liftO ((inDeep x (.lst l)).map .bl) r1
      | _ => .no).bind fun z r2 => match z with
        | .bl b => .ok b r2
        | _ => .no) := p
    rw [bind_as] at p
    refine tX_bind S p fun d v F1 H1 r1 n1 rd p => ?_
    obtain ⟨d0, v0, e1, e2, ow⟩ := n1.sta.ow i hi
    refine ⟨v0, e2, in_core (G := G) (W := W) (OX := OX) (O1 := O1) n1.sta rd e1 ow hK ?_⟩
    refine p.bind.mono fun b H2 ⟨z, F2, r2, n2, rz, p⟩ => ?_
    revert p
    split
    · intro p
      cases rz
      exact ⟨_, rfl, p.ok n2.sta rfl⟩
    · exact fun p => p.elim
end
end Z
namespace Z
open PySem PySem.Spec PyProof.Rows L2
@[simp] def eDic0 : M D := fun r => .ok (.dic [] []) r
section
variable {G : Gm} {X : Cx} {W : WX} {OX OL vs O O1 O2 O3 : List Nat}
theorem no_own {F H : Hp} {σ : L2.St} {r : Ev} {p : Addr} (S : Sta G O F H σ r) (h : H p = none) : ¬ OwnAt O σ p := fun ⟨k, hk, ek⟩ => by
  obtain ⟨_, _, _, e2, ow⟩ := S.ow k hk
  rw [ek] at e2
  cases e2
  obtain ⟨b, o, eb, hb⟩ := ow.there
  cases eb
  rw [h] at hb
  cases hb
theorem f_dnew {pos : Pos} : PE X (.Dict [] [] pos) (tF G W OX O O eDic0) :=
  pe_dnewK.imp fun σ H Q ⟨F, r, S, p⟩ => fun a ha => by
    obtain ⟨S2, s2, fa⟩ := new_ow (o := .dK []) S ha rfl
    exact p _ _ _ (Nx.of S2 s2 fun _ h => h) ⟨.dic upd_same fa rfl .nil, fun b eb => by cases eb; exact ⟨ha, no_own S ha⟩⟩
def rSetD : TSet := fun o i v H Q => ∃ a H4, o = .ref a ∧ DPut H a i v H4 ∧ Q H4
theorem set_dic (hu : X.A.units + 1 < cLine) : PSet X rSetD := by
  intro pins s σ H o i v ov iv u Q I ro ri rv h
  obtain ⟨a, H4, rfl, g, q⟩ := h
  obtain rfl : ov = Value.ref a := ro
  exact d_setItem hu I g ri rv fun s4 I4 => ⟨H4, I4, q⟩
end
end Z
namespace Z
open PySem PySem.Spec PyProof.Rows L2 LamX
def flat : HO → Bool
  | .lst _ => true
  | .tup _ => true
  | .tbl _ => true
  | .frz _ u => flat u
  | _ => false
end Z
namespace Z
open PySem PySem.Spec PyProof.Rows L2
def pairsOf : List D → Option (List (D × D))
  | [] => some []
  | .tup [a, b] :: l => (pairsOf l).map fun t => (a, b) :: t
  | _ => none
def pDict : List D → Option D
  | [x] => (lisOf x).bind fun l => (pairsOf l).bind fun ps => (mkD ([], []) ps).map fun q => .dic q.1 q.2
  | _ => none
section
variable {G : Gm} {X : Cx} {W : WX} {OX O O1 : List Nat}
theorem pairs_rep {F : Hp} : ∀ {l : List D} {xs : List V} {ds : List (D × D)}, RepL G F l xs → pairsOf l = some ds → ∃ (ps : List Addr) (pv : List (V × V)), xs = ps.map V.ref ∧ Paired (fun d p => Rep G F d.1 p.1 ∧ Rep G F d.2 p.2) ds pv ∧ Paired (fun p v => SqT G.K F p [v.1, v.2]) ps pv
  | [], _, ds, .nil, e => by
    cases e
    exact ⟨[], [], rfl, .nil, .nil⟩
  | x :: l, _, ds, .cons rx rl, e => by
    unfold pairsOf at e
    split at e
    · rename_i h
      cases h
    · rename_i a b l' h
      cases h
      obtain ⟨t, e1, e2⟩ := Option.map_eq_some_iff.mp e
      subst e2
      obtain ⟨ps, pv, h1, h2, h3⟩ := pairs_rep rl e1
      cases rx with
      | @tup _ p ys hs r =>
        cases r with
        | cons ra r =>
          cases r with
          | cons rb r =>
            cases r
            exact ⟨p :: ps, (_, _) :: pv, by rw [h1]; rfl, .cons ⟨ra, rb⟩ h2, .cons hs h3⟩
    · cases e
theorem paired_kv {K : PySem.W.Frag} {F H : Hp} (sb : Sub F H) : ∀ {ps : List Addr} {kvs : List (Key × V)}, Paired (fun p v => SqT K F p [v.1, v.2]) ps (kvs.map fun kv => (kV kv.1, kv.2)) → Paired (fun p kv => SqT K H p [kV kv.1, kv.2]) ps kvs
  | [], [], _ => .nil
  | p :: ps, kv :: kvs, .cons h t => .cons (sb.sqT h) (paired_kv sb t)
theorem f_dict {x : Expr} {xs : List Expr} {pp pos : Pos} {f : M (List D)} (ha : PA X (x :: xs) (tA G W OX O O1 f)) (hm : X.mg "dict" = none := by assumption) (hc : X.calm = true := by rfl) (hg : Gl X "dict" := by rfl) (hK : X.K = G.K := by rfl)
    (he : starEach (x :: xs) X.env = (false, eval x X.env) :: starEach xs X.env := by rfl) (hpl : (backTo pos (starEach xs X.env)).any (·.1) = false := by rfl) : PE X (.Call (.Name "dict" pp) (x :: xs) [] pos) (tF G W OX O O1 (eN pDict f)) :=
  (pe_callTy (call_dictP hc) hg hm (by decide +kernel) ha (by decide) (by decide) he hpl).imp fun σ H Q ⟨F, r, S, q⟩ => tX_bind S q fun ds vs F1 H1 r1 n1 rs q => by
    revert q
    cases e : pDict ds with
    | none => exact fun q => q.elim
    | some d =>
      intro q
      unfold pDict at e
      split at e
      · obtain ⟨l, e1, e⟩ := Option.bind_eq_some_iff.mp e
        obtain ⟨ps, e2, e⟩ := Option.bind_eq_some_iff.mp e
        obtain ⟨z, e3, e4⟩ := Option.map_eq_some_iff.mp e
        subst e4
        cases rs with
        | cons rx rr =>
          cases rr
          obtain ⟨a, ys, rfl, hq, rl⟩ := lis_of rx e1
          obtain ⟨ad, pv, h1, h2, h3⟩ := pairs_rep rl e2
          obtain ⟨kvs, k1, k2, k3, _⟩ := mkD_rep (kvs0 := []) (l0 := []) h2 .nil e3
          subst h1
          subst k1
          refine ⟨a, ad, kvs, rfl, by rw [hK]; exact hq _ n1.sta.sub, by rw [hK]; exact paired_kv n1.sta.sub h3, fun p hp => ?_⟩
          obtain ⟨S2, s2, fp⟩ := new_ow (o := .dK (mergeK [] kvs)) n1.sta hp rfl
          refine q _ F1 _ (Nx.of S2 s2 fun _ h => h) ⟨.dic upd_same fp k2 k3, fun b eb => ?_⟩
          cases eb
          exact ⟨n1.stp.tr _ hp, no_own n1.sta hp⟩
      · cases e
end
end Z
namespace Z
open PySem PySem.Spec PyProof.Rows L2
section
variable {prog : Program} {w : World} {K : Type} [DecidableEq K] {knd : KeyKind prog w K} {A : Around} {E : Value → Shared → Prop}
structure Twin (knd : KeyKind prog w K) (oa ob : Obj) (xs ys : Array DictEntry) (na nb : Nat) (ka kb : List (K × Value)) : Prop where
  pa : oa.data = .dict xs na
  pb : ob.data = .dict ys nb
  ta : oa.ExactDict
  tb : ob.ExactDict
  ha : KeysOf knd xs
  hb : KeysOf knd ys
  la : Pairs knd xs.toList ka
  lb : Pairs knd ys.toList kb
  nd : (kb.map (·.1)).Nodup
  same : ka.map (·.1) = kb.map (·.1)
theorem idx_at {ys : List (K × Value)} (nd : (ys.map (·.1)).Nodup) {i : Nat} {k : K} {v : Value} (h : ys[i]? = some (k, v)) : ys.findIdx? (fun kv => decide (kv.1 = k)) = some i := by
  induction ys generalizing i with
  | nil => simp at h
  | cons y ys ih =>
    obtain ⟨ny, nd⟩ := List.nodup_cons.mp nd
    rw [List.findIdx?_cons]
    match i, h with
    | 0, h =>
      have e : y = (k, v) := by simpa using h
      simp [e]
    | i + 1, h =>
      have h : ys[i]? = some (k, v) := by simpa using h
      have : ¬ y.1 = k := fun z => ny (List.mem_map.mpr ⟨(k, v), List.mem_of_getElem? h, z.symm⟩)
      simp [this, ih nd h]
theorem Twin.size {oa ob : Obj} {xs ys : Array DictEntry} {na nb : Nat} {ka kb : List (K × Value)} (t : Twin knd oa ob xs ys na nb ka kb) : xs.size = ys.size := by
  have h1 := t.la.length
  have h2 := t.lb.length
  have h3 := congrArg List.length t.same
  rw [List.length_map, List.length_map] at h3
  rw [Array.length_toList] at h1 h2
  omega
theorem Twin.found {oa ob : Obj} {xs ys : Array DictEntry} {na nb : Nat} {ka kb : List (K × Value)} (t : Twin knd oa ob xs ys na nb ka kb) {i : Nat} (h : i < xs.size) :
    ∃ k, knd.is k xs[i].key = true ∧ xs[i].hash = knd.hash k ∧ (ys.findIdx? fun e => knd.is k e.key) = some i := by
  have hl := t.la.length
  rw [Array.length_toList] at hl
  have hs := congrArg List.length t.same
  rw [List.length_map, List.length_map] at hs
  obtain ⟨k, v, ek⟩ : ∃ k v, ka[i]? = some (k, v) := ⟨_, _, List.getElem?_eq_getElem (by omega)⟩
  obtain ⟨k2, v2, ek2⟩ : ∃ k v, kb[i]? = some (k, v) := ⟨_, _, List.getElem?_eq_getElem (by omega)⟩
  have e2 : k2 = k := by
    have z := congrArg (fun l => l[i]?) t.same
    simp only [List.getElem?_map, ek, ek2, Option.map_some, Option.some.injEq] at z
    exact z.symm
  subst e2
  obtain ⟨h1, _⟩ := t.la.get? (i := i) (e := xs[i]) (k := k2) (v := v) (by rw [Array.getElem?_toList]; exact Array.getElem?_eq_getElem h) ek
  obtain ⟨k3, h3, h4⟩ := t.ha xs[i] (Array.getElem_mem h)
  have e3 : k3 = k2 := knd.inj _ _ _ h3 h1
  subst e3
  refine ⟨k3, h1, h4, ?_⟩
  have fi := t.lb.findIdx k3
  rw [idx_at t.nd ek2] at fi
  obtain ⟨l⟩ := ys
  rw [← fi]
  simp
theorem pairs_G {nm : String} {a b : Addr} {oa ob : Obj} {xs ys : Array DictEntry} {na nb : Nat} {ka kb : List (K × Value)} {s : Shared} {Q : Bool → Shared → Prop} (t : Twin knd oa ob xs ys na nb ka kb) (sa : (a == sysModules) = false) (sb : (b == sysModules) = false)
    (J : Nat → Shared → Prop) (at_ : ∀ i z, J i z → z.heap.get? a = some oa ∧ z.heap.get? b = some ob)
    (turn : ∀ i (h1 : i < xs.size) (h2 : i < ys.size) z, J i z → wpAny (model prog w) A (eqBool xs[i].val ys[i].val) (fun r z2 => r = true ∧ J (i + 1) z2) E z)
    (fin : ∀ z, J xs.size z → Q true z) (h0 : J 0 s) : wpAny (model prog w) A (Builtin.Dict.samePairs nm a b) Q E s := by
  have hsz := t.size
  obtain ⟨ga, gb⟩ := at_ _ _ h0
  have ns : ∀ {c : Addr}, (c == sysModules) = false → ¬ (c == sysModules) = true := fun h => by rw [h]; exact Bool.false_ne_true
  unfold Builtin.Dict.samePairs Builtin.Dict.showsAll
  rw [if_neg (ns sa), if_neg (ns sb)]
  refine wpAny_bind (wpAny_pure (wpAny_bind (wpAny_pure (wpAny_bind (wpAny_dictEntries ga t.pa ?_)))))
  dsimp only
  refine wpAny_bind (wpAny_dictEntries gb t.pb ?_)
  rw [if_neg (by rw [hsz]; simp)]
  refine wpAny_bind (wpAny_dictEpoch ga t.pa (wpAny_bind ?_))
  rw [Std.Legacy.Range.forIn_eq_forIn_range']
  simp only [Std.Legacy.Range.size, Nat.sub_zero, Nat.add_sub_cancel, Nat.div_one]
  refine wpAny_forIn_list _ (fun l q z => q = (none, ()) ∧ ∃ i, l = List.range' i (xs.size - i) ∧ i ≤ xs.size ∧ J i z) _ ?step ?stop _ _ ⟨rfl, 0, by simp, Nat.zero_le _, h0⟩
  case stop =>
    rintro q z ⟨rfl, i, hl, hi, hj⟩
    have : i = xs.size := by
      have := congrArg List.length hl
      simp at this
      omega
    subst this
    exact wpAny_pure (fin z hj)
  case step =>
    rintro x l q z ⟨rfl, i, hl, hi, hj⟩
    have lt : i < xs.size := by
      have := congrArg List.length hl
      simp at this
      omega
    have nx : xs.size - i = (xs.size - (i + 1)) + 1 := by omega
    rw [nx, List.range'_succ] at hl
    obtain ⟨rfl, rest⟩ : x = i ∧ l = List.range' (i + 1) (xs.size - (i + 1)) := by injection hl with p1 p2; exact ⟨p1, p2⟩
    obtain ⟨va, vb⟩ := at_ _ _ hj
    obtain ⟨k, k1, k2, k3⟩ := t.found lt
    have lt2 : x < ys.size := by omega
    refine wpAny_bind (wpAny_dictEntries va t.pa ?_)
    rw [Array.getElem?_eq_getElem lt]
    show wpAny _ _ (holding [xs[x].key, xs[x].val] _ >>= _) _ _ _
    rw [k2]
    refine wpAny_bind (wpAny_holding (wpAny_bind (wpAny_dictFind_of k1 vb t.pb t.hb ?_)))
    rw [k3]
    refine wpAny_bind (wpAny_dictEntries vb t.pb ?_)
    rw [Array.getElem?_eq_getElem lt2]
    refine wpAny_holding (wpAny_mono (turn x lt lt2 z hj) (fun r z2 hr => ?_) fun _ _ e => e)
    obtain ⟨rfl, hj2⟩ := hr
    show wpAny _ _ (if (!true) = true then _ else _) _ _ _
    rw [if_neg (by decide)]
    refine wpAny_bind (wpAny_dictEpoch (at_ _ _ hj2).1 t.pa ?_)
    rw [if_neg (by simp)]
    exact wpAny_pure ⟨rfl, x + 1, rest, lt, hj2⟩
end
end Z
namespace Z
open PySem PySem.Spec PyProof.Rows L2
def minI : List Int → Int
  | [] => 0
  | [n] => n
  | n :: m :: l => min n (minI (m :: l))
def pMin1 : List D → Option D
  | [x] => (lisOf x).bind fun l => (toInts l).bind fun ns => if ns = [] then none else some (.int (minI ns))
  | _ => none
theorem minI_is : ∀ {ns : List Int}, ns ≠ [] → minI ns ∈ ns ∧ ∀ y ∈ ns, minI ns ≤ y
  | [], h => absurd rfl h
  | [n], _ => by simp [minI]
  | n :: m :: l, _ => by
    have h := minI_is (ns := m :: l) (by simp)
    have e : minI (n :: m :: l) = min n (minI (m :: l)) := rfl
    refine ⟨?_, fun y hy => ?_⟩
    · rw [e]
      rcases Int.le_total n (minI (m :: l)) with q | q
      · rw [Int.min_eq_left q]; simp
      · rw [Int.min_eq_right q]; exact .tail _ h.1
    · rw [e]
      cases hy with
      | head => exact Int.min_le_left _ _
      | tail _ hy => exact Int.le_trans (Int.min_le_right _ _) (h.2 y hy)
section
variable {G : Gm} {X : Cx} {W : WX} {OX OL O O1 O2 : List Nat}
theorem e_min1 {x : Expr} {xs : List Expr} {pp pos : Pos} {f : M (List D)} (ha : PA X (x :: xs) (tA G W OX O O1 f)) (hm : X.mg "min" = none := by assumption) (hg : Gl X "min" := by rfl) (hc : X.calm = true := by rfl) (hK : X.K = G.K := by rfl)
    (he : starEach (x :: xs) X.env = (false, eval x X.env) :: starEach xs X.env := by rfl) (hpl : (backTo pos (starEach xs X.env)).any (·.1) = false := by rfl) : PE X (.Call (.Name "min" pp) (x :: xs) [] pos) (tE G W OX O O1 (eN pMin1 f)) :=
  e_cB pMin1 (cr_min hc) (fun σ F H r ds vs d Q S rs e q => by
    unfold pMin1 at e
    split at e
    case h_2 => cases e
    obtain ⟨l, e1, e⟩ := Option.bind_eq_some_iff.mp e
    obtain ⟨ns, e2, e⟩ := Option.bind_eq_some_iff.mp e
    by_cases hne : ns = []
    · rw [if_pos hne] at e; cases e
    rw [if_neg hne] at e
    cases e
    match rs with
    | .cons rx .nil =>
      obtain ⟨a, xs, rfl, hq, rl⟩ := lis_of rx e1
      rw [toInts_eq e2] at rl
      obtain ⟨g1, g2⟩ := minI_is hne
      refine ⟨a, ns, rfl, by rw [hK, ← rl.ints]; exact hq H S.sub, List.length_pos_iff.mpr hne, fun m h1 h2 => ?_⟩
      rw [Int.le_antisymm (h2 _ g1) (g2 m h1)]
      exact q.ok S .int) ha hm (hg := hg) (he := he) (hpl := hpl)
end
end Z
namespace Z
open PySem PySem.Spec PyProof.Rows L2
@[simp] def sPar3L (i j l : Nat) (f : M D) : M Fl := fun r => (f r).bind fun d r1 => if j < r1.length ∧ l < r1.length then .ok .nx (((r1.set j (some (.lst []))).set l (some (.dic [] []))).set i (some d)) else .no
section
variable {G : Gm} {X : Cx} {W : WX} {OX OL vs O O1 O2 O3 : List Nat}
theorem s_par3L {x y z : Str} {e : Expr} {px py pz pt pos dp lp : Pos} {kt k2 pt2} {f : M D} (i j l : Nat) (he : PE X e (tE G W OX O O1 f)) (hx1 : i ∉ OX := by decide) (hx2 : j ∉ OX := by decide) (hx3 : l ∉ OX := by decide) (hij : i ≠ j := by decide) (hil : i ≠ l := by decide) (hjl : j ≠ l := by decide) (hN : X.N.Nodup := by first | assumption | decide +kernel) (hi : X.N[i]? = some x := by rfl) (hj : X.N[j]? = some y := by rfl) (hl : X.N[l]? = some z := by rfl)
    (hx : X.env.scope.names.lookup x = some .local := by rfl) (hy : X.env.scope.names.lookup y = some .local := by rfl) (hz : X.env.scope.names.lookup z = some .local := by rfl) (hc : X.calm = true := by rfl) (hw : swappedStores [.Tuple [.Name x px, .Name y py, .Name z pz] kt pt] (.Tuple [e, .List [] lp, .Dict [] [] dp] k2 pt2) X.env = pure (some [x, y, z]) := by rfl)
    (hs : swapsWithSole [.Tuple [.Name x px, .Name y py, .Name z pz] kt pt] (.Tuple [e, .List [] lp, .Dict [] [] dp] k2 pt2) pos.line X.env = pure false := by rfl)
    (hs1 : starEach [e, .List [] lp, .Dict [] [] dp] X.env = (false, eval e X.env) :: starEach [.List [] lp, .Dict [] [] dp] X.env := by rfl) (hs2 : starEach [.List [] lp, .Dict [] [] dp] X.env = (false, eval (.List [] lp) X.env) :: starEach [.Dict [] [] dp] X.env := by rfl) (hs3 : starEach [.Dict [] [] dp] X.env = (false, eval (.Dict [] [] dp) X.env) :: starEach [] X.env := by rfl) :
    PS X (.Assign [.Tuple [.Name x px, .Name y py, .Name z pz] kt pt] (.Tuple [e, .List [] lp, .Dict [] [] dp] k2 pt2) pos) (tS G W OX OL O ((l :: (j :: O1.filter (· != j)).filter (· != l)).filter (· != i)) (sPar3L i j l f)) :=
  (ps_par3 hc hN hi hj hl hij hil hjl hx hy hz (pa_cons he (pa_cons (pe_lst pa_nil) (pa_cons pe_dnewK pa_nil hs3) hs2) hs1) hw hs).imp fun Dn σ H ⟨F, r, S, p⟩ => tS_bind S p fun d v F1 H1 r1 n1 rd p => by
    refine ⟨by simp [sizeLine], fun a ha => ?_⟩
    obtain ⟨S2, s2, fa⟩ := new_ow (o := .lst []) n1.sta ha rfl
    have n2 : Nx G OX O1 O1 σ F1 H1 σ F1 (upd H1 a (.lst [])) r1 := Nx.of S2 s2 fun _ h => h
    intro b hb
    obtain ⟨S3, s3, fb⟩ := new_ow (o := .dK []) S2 hb rfl
    have n3 : Nx G OX O1 O1 σ F1 (upd H1 a (.lst [])) σ F1 (upd (upd H1 a (.lst [])) b (.dK [])) r1 := Nx.of S3 s3 fun _ h => h
    refine ⟨_, _, _, rfl, ?_⟩
    have hab : a ≠ b := fun z => by rw [← z, upd_same] at hb; cases hb
    have hb1 : H1 b = none := upd_none hb
    revert p
    split
    case isFalse => exact fun p => p.elim
    rename_i hlt
    intro p
    have na := no_own n1.sta ha
    have rfa0 : RF G O1 σ H1 F1 (upd H1 a (.lst [])) (.lst []) (.ref a) := ⟨.lst upd_same fa .nil, fun c ec => by cases ec; exact ⟨ha, na⟩⟩
    have m0 := own_set j n2 rfa0 hlt.1 hx2
    have base : Nx G OX (j :: O1.filter (· != j)) (j :: O1.filter (· != j)) (σ.set j (some (.ref a))) F1 (upd H1 a (.lst [])) (σ.set j (some (.ref a))) F1 (upd (upd H1 a (.lst [])) b (.dK [])) (r1.set j (some (.lst []))) := by
      obtain ⟨S4, s4, _⟩ := new_ow (o := .dK []) m0.sta hb rfl
      exact Nx.of S4 s4 fun _ h => h
    have rfb : RF G (j :: O1.filter (· != j)) (σ.set j (some (.ref a))) (upd H1 a (.lst [])) F1 (upd (upd H1 a (.lst [])) b (.dK [])) (.dic [] []) (.ref b) := ⟨.dic upd_same fb rfl .nil, fun c ec => by
      cases ec
      exact ⟨hb, no_own m0.sta hb⟩⟩
    have m2 := own_set l base rfb (by rw [List.length_set]; exact hlt.2) hx3
    have m3 := nx_set (OX := OX) i m2.sta (rd : Rep G F1 d v) hx1
    have fin := (m0.trans m2).trans m3
    rw [List.set_comm _ _ hij, List.set_comm (l := σ.set j (some (.ref a))) _ _ hil]
    exact p _ _ _ fin
end
end Z
namespace Z
open PySem PySem.Spec PyProof.Rows L2
def pNinD (x y : D) : Option D := match pInB x y with
  | some b => some (.bl (!b))
  | none => (match toP x, toP y with
    | some d, some (.list ds) => if SeqAt.shaped d && SeqAt.shaped (.list ds) then some (.bl (!ds.any fun z => PyData.eqv z d)) else none
    | _, _ => none)
def eInDO (i : Nat) (f : M D) : M D := fun r => (f r).bind fun x r1 => match r1[i]? with
  | some (some (.dic ks l)) => liftO ((keyOf x).map fun k => .bl (lookD ks l k).isSome) r1
  | _ => .no
section
variable {G : Gm} {X : Cx} {W : WX} {OX OL vs O O1 O2 O3 : List Nat}
theorem ind_core {σ : L2.St} {F1 H1 : Hp} {r1 : Ev} {d d0 : D} {v v0 : V} {i : Nat} {Q : VK} (S1 : Sta G O1 F1 H1 σ r1) (rd : Rep G F1 d v) (e1 : r1[i]? = some (some d0)) (ow : Own G F1 H1 d0 v0)
    (p : Pst G W OX O1 O1 σ F1 H1 (RD G) Q (match r1[i]? with
      | some (some (.dic ks l)) => liftO ((keyOf d).map fun k => .bl (lookD ks l k).isSome) r1
      | _ => .no)) : ∃ a o, v0 = .ref a ∧ DGet H1 a v o ∧ Q (.bl o.isSome) H1 := by
  rw [e1] at p
  cases ow with
  | lst => exact p.elim
  | ob => exact p.elim
  | @dic ks l a kvs h hf hk rr =>
    simp only at p
    obtain ⟨dd, ed, q⟩ := p.lift
    obtain ⟨kk, ek, ed⟩ := Option.map_eq_some_iff.mp ed
    subst ed
    subst hk
    refine ⟨a, valV kvs kk, rfl, .inl ⟨kvs, kk, .inl h, keyOf_rep rd ek, rfl⟩, ?_⟩
    cases el : lookD (kvs.map (·.1)) l kk with
    | some d =>
      rw [el] at q
      obtain ⟨v', ev, rv⟩ := look_rep rr el
      rw [ev]
      exact q.ok S1 .bl
    | none =>
      rw [el] at q
      rw [look_none rr el]
      exact q.ok S1 .bl
theorem t_inDO {a : Expr} {x : Str} {px pos : Pos} {k : Nat} {f : M D} (i : Nat) (hr : Room k X.A) (ha : PE X a (tE G W OX O O1 f)) (hi : i ∈ O1 := by decide) (hN : X.N[i]? = some x := by rfl) (hv : Vis X.env.scope x := by first | exact Or.inl rfl | exact Or.inr (Or.inl rfl) | exact Or.inr (Or.inr rfl))
    (hd : (x == ("__debug__" : Str)) = false := by decide) (hcd : (x == ("__classdict__" : Str)) = false := by decide) (hm : behindInMarks .In (.Name x px) = false := by rfl) : PT X (.Compare a [.In] [.Name x px] pos) (tT G W OX O O1 (tV (eInDO i f))) :=
  (pt_cmp (pc_din (by have := hr.un; omega) ha (pe_var hN hv hd hcd)) hm).imp fun σ H Q ⟨F, r, S, p⟩ => by
    have p : Pst G W OX O O1 σ F H RB Q (((f r).bind fun x r1 => match r1[i]? with
      | some (some (.dic ks l)) => liftO ((keyOf x).map fun k => .bl (lookD ks l k).isSome) r1
      | _ => .no).bind fun z r2 => match z with
        | .bl b => .ok b r2
        | _ => .no) := p
    rw [bind_as] at p
    refine tX_bind S p fun d v F1 H1 r1 n1 rd p => ?_
    obtain ⟨d0, v0, e1, e2, ow⟩ := n1.sta.ow i hi
    refine ⟨v0, e2, ind_core (G := G) (W := W) (OX := OX) (O1 := O1) (Q := fun x H1 => ∃ c, x = .bl c ∧ Q c H1) n1.sta rd e1 ow ?_⟩
    refine p.bind.mono fun b H2 ⟨z, F2, r2, n2, rz, p⟩ => ?_
    revert p
    split
    · intro p
      cases rz
      exact ⟨_, rfl, p.ok n2.sta rfl⟩
    · exact fun p => p.elim
theorem RepL.erase {F : Hp} : ∀ {ds : List D} {vs : List V} (j : Nat), RepL G F ds vs → RepL G F (ds.eraseIdx j) (vs.eraseIdx j)
  | _, _, _, .nil => .nil
  | _, _, 0, .cons _ t => t
  | _, _, j + 1, .cons r t => .cons r (t.erase j)
end
end Z
namespace Z
open PySem PySem.Spec PyProof.Rows L2
open PySem.SeqAt
open AutoSeq1 (wpAny_loadPart')
open MeetsSeq MeetsSeq2 MeetsSeq3 SeqRoads2
def fDiff : List D → List D → Bool
  | .int m :: l, .int n :: l' => m != n || fDiff l l'
  | _ :: l, _ :: l' => fDiff l l'
  | _, _ => false
def inI (tb : List (Nat × Beh)) (ts : List String) (cs : List Nat) (y x : D) : Option Bool := match y, x with
  | .ob c l, .ob c' l' => if rk ts cs (.ob c' l') then (match tb.lookup c with
    | some B => (match B [.ob c l, .ob c' l'] with
      | .ok (.bl true) _ => some true
      | .ok (.bl false) _ => if c = c' ∧ fDiff l l' = true then some false else none
      | _ => none)
    | none => none) else none
  | _, _ => none
theorem fdiff_ne {G : Gm} {F : Hp} : ∀ {l l' : List D} {xs xs' : List V}, RepL G F l xs → RepL G F l' xs' → fDiff l l' = true → ∃ (i : Nat) (v v' : V), xs[i]? = some v ∧ xs'[i]? = some v' ∧ v ≠ v'
  | [], _, _, _, _, _, h => by simp [fDiff] at h
  | _ :: _, [], _, _, _, _, h => by simp [fDiff] at h
  | d :: l, d' :: l', _, _, .cons (v := v) (xs := xs) r t, .cons (v := v') (xs := xs') r' t', h => by
    have next : fDiff l l' = true → ∃ (i : Nat) (u u' : V), (v :: xs)[i]? = some u ∧ (v' :: xs')[i]? = some u' ∧ u ≠ u' := fun h => by
      obtain ⟨i, u, u', e, e', n⟩ := fdiff_ne t t' h
      exact ⟨i + 1, u, u', by simpa using e, by simpa using e', n⟩
    unfold fDiff at h
    split at h
    · rename_i m l1 n l2 e1 e2
      injection e1 with e1 e3
      injection e2 with e2 e4
      subst e1 e2 e3 e4
      rcases Bool.or_eq_true_iff.mp h with h | h
      · cases r
        cases r'
        refine ⟨0, _, _, rfl, rfl, fun e => ?_⟩
        injection e with e
        subst e
        simp at h
      · exact next h
    · rename_i e1 e2
      injection e1 with e1 e3
      injection e2 with e2 e4
      subst e3 e4
      exact next h
    · cases h
theorem zipz_at {α β : Type} : ∀ {ks : List α} {xs : List β} {i : Nat} {v : β}, xs.length ≤ ks.length → xs[i]? = some v → ∃ k, (ks.zip xs)[i]? = some (k, v) ∧ ks[i]? = some k
  | [], [], _, _, _, e => by simp at e
  | [], _ :: _, _, _, h, _ => by simp at h
  | _ :: _, [], _, _, _, e => by simp at e
  | k :: ks, x :: xs, i, v, h, e => by
    cases i with
    | zero =>
      simp at e
      subst e
      exact ⟨k, by simp, by simp⟩
    | succ i =>
      obtain ⟨k', e1, e2⟩ := zipz_at (ks := ks) (xs := xs) (i := i) (by simpa using h) (by simpa using e)
      exact ⟨k', by simpa using e1, by simpa using e2⟩
theorem ob_ne {G : Gm} {F : Hp} {c : Nat} {l l' : List D} {v v' : V} (r : Rep G F (.ob c l) v) (r' : Rep G F (.ob c l') v') (h : fDiff l l' = true) : v ≠ v' := fun e => by
  subst e
  cases r with
  | @ob _ _ a dx xs more h1 h2 h3 =>
    cases r' with
    | @ob _ _ _ dx' xs' more' g1 g2 g3 =>
      obtain ⟨i, u, u', e1, e2, ne⟩ := fdiff_ne h3 g3 h
      rw [h1] at g1
      injection g1 with g1
      injection g1 with _ _ g1
      obtain ⟨k, z1, z2⟩ := zipz_at h2 e1
      obtain ⟨k', y1, y2⟩ := zipz_at g2 e2
      have q1 : ((G.lay c).zip xs ++ more)[i]? = some (k, u) := by
        rw [List.getElem?_append_left (List.getElem?_eq_some_iff.mp z1).1]
        exact z1
      have q2 : ((G.lay c).zip xs' ++ more')[i]? = some (k', u') := by
        rw [List.getElem?_append_left (List.getElem?_eq_some_iff.mp y1).1]
        exact y1
      rw [g1] at q1
      have q3 := q2.symm.trans q1
      have q4 := congrArg Prod.snd (Option.some.inj q3)
      exact ne q4.symm
section
variable {G : Gm} {X : Cx} {W : WX} {OX OL vs O O1 O2 O3 : List Nat}
theorem item_is {k : Nat} {tb : List (Nat × Beh)} {ts : List String} {cs : List Nat} {b : Bool} (tk : Takes X W) (hr : Room (k + 1) X.A)
    (ht : ∀ c B, tb.lookup c = some B → (∃ f fd ps, OwnOk G X.prog X.w X.mg X.base k "__eq__" c B f fd ps 2) ∧ CmpOk G ts cs c) (hx : ∀ i ∈ OX, i ∈ O) (hK : X.K = G.K)
    {pins : List (Addr × Obj)} {s' : Shared} {σ : L2.St} {F H F' H' : Hp} {r : Ev} {dx dy : D} {vx vy : V} {ux uy : Value} (I' : Inv X pins σ H' s') (n : Nx G OX O O σ F H σ F' H' r) (rx : Rep G F' dx vx) (ry : Rep G F' dy vy) (rux : RelV vx ux) (ruy : RelV vy uy) (hf : inI tb ts cs dx dy = some b) :
    wpAny (model X.prog X.w) X.A.in1 (eqBool ux uy) (fun z s2 => z = b ∧ ∃ F2 H2, Inv X pins σ H2 s2 ∧ Nx G OX O O σ F H σ F2 H2 r) X.xe s' := by
  unfold inI at hf
  split at hf
  case h_2 => cases hf
  rename_i c fs c' fs'
  split at hf
  case isFalse => cases hf
  rename_i hk
  cases e1 : tb.lookup c with
  | none =>
    rw [e1] at hf
    cases hf
  | some B =>
    rw [e1] at hf
    simp only at hf
    obtain ⟨⟨f, fd, ps, ow⟩, ck⟩ := ht c B e1
    have eo : ∃ q', B [.ob c fs, .ob c' fs'] = .ok (.bl b) q' ∧ (b = false → c = c' ∧ fDiff fs fs' = true) := by
      revert hf
      split
      · rename_i q e
        intro hf
        injection hf with hf
        subst hf
        exact ⟨q, e, fun h => by cases h⟩
      · rename_i q e
        intro hf
        split at hf
        · rename_i hd
          injection hf with hf
          subst hf
          exact ⟨q, e, fun _ => hd⟩
        · cases hf
      · intro hf
        cases hf
    obtain ⟨q', eo, hd⟩ := eo
    obtain ⟨a', e2, _⟩ := inst_at I' n.sta rx
    obtain ⟨b', e3, _⟩ := inst_at I' n.sta ry
    have ne : b = false → vx ≠ vy := fun h => by
      obtain ⟨h1, h2⟩ := hd h
      subst h1
      exact ob_ne rx ry h2
    subst e2 e3
    obtain rfl : ux = Value.ref a' := rux
    obtain rfl : uy = Value.ref b' := ruy
    by_cases same : a' = b'
    · subst same
      cases b with
      | false => exact absurd rfl (ne rfl)
      | true => exact SeqAt.EqAt.same (.ref a') X.prog X.w X.xe _ ⟨rfl, F', H', I', n⟩
    · have sb1 : L2.Sub X k X.A.in1 := L2.Sub.in1 ⟨hr, rfl⟩
      have rc := cmp_at (OX := OX) (W := W) (op := .Eq) (Q := fun z H2 => z = .bl b ∧ ∃ F2, Nx G OX O O σ F H σ F2 H2 r) sb1 tk rfl ow ck hk hx hK I' n.sta rx ry rfl rfl (by
        rw [eo]
        intro z F2 H2 n2 rz
        cases rz
        exact ⟨rfl, F2, n.trans n2⟩)
      unfold eqBool
      refine wpAny_holding ?_
      refine wpAny_ite_split (fun hab => absurd (by have := eq_of_beq hab; injection this) same) (fun _ => ?_)
      refine wpAny_bind (wpAny_mono rc (fun z s2 hz => ?_) fun _ _ h => h)
      obtain ⟨z', H2, I2, rz, ez, F2, n2⟩ := hz
      subst ez
      cases (show z = Value.bool b from rz)
      exact wpAny_truthy_bool ⟨rfl, F2, H2, I2, n2⟩
end
end Z
namespace Z
open PySem PySem.Spec PyProof.Rows L2
section
variable {G : Gm} {X : Cx} {W : WX} {OX OL vs vs1 O O1 O2 O3 : List Nat}
theorem Made.go {σ σ2 : L2.St} {F1 H1 F2 H2 F3 H3 : Hp} {Dd : Addr} {acc : List V} {ys : List D} {q : Ev} (m : Made G O1 σ F1 H1 Dd F2 H2 acc ys) (mo : ∀ {a}, OwnAt O1 σ2 a → OwnAt O1 σ a) (nO : ¬ OwnAt O1 σ Dd) (n : Nx G [] O1 O1 σ2 F2 H2 σ2 F3 H3 q) : Made G O1 σ F1 H1 Dd F3 H3 acc ys :=
  ⟨m.st.trans n.stp fun x z => .inl (.inl (mo z)), n.stp.kp _ _ m.hd fun z => nO (mo z), (n.stp.nf _ _ m.hd fun z => nO (mo z)).trans m.fd, m.ry.mono n.stp.fz⟩
end
end Z
namespace Z
open PySem PySem.Spec PyProof.Rows L2
def isTn : PyData → Bool
  | .tuple (_ :: _) => true
  | _ => false
def isSc : PyData → Bool
  | .none => false
  | .tuple _ => false
  | _ => true
def okS (ps : List PyData) : Bool := decide (ps.length ≤ 1000000) && ps.all (fun d => SeqAt.shaped d) && ps.all (fun d => ps.all fun e => PySem.W.alike d e) && (ps.all isTn || ps.all isSc)
structure OkS (ps : List PyData) : Prop where
  l : ps.length ≤ 1000000
  s : ∀ d ∈ ps, SeqAt.shaped d = true
  a : PySem.W.AllAlike ps
  k : PySem.W.Sortable ps
theorem okS_is {ps : List PyData} (h : okS ps = true) : OkS ps := by
  unfold okS at h
  simp only [Bool.and_eq_true, Bool.or_eq_true, decide_eq_true_eq, List.all_eq_true] at h
  obtain ⟨⟨⟨h1, h2⟩, h3⟩, h4⟩ := h
  refine ⟨h1, h2, fun d m e n => h3 d m e n, ?_⟩
  rcases h4 with h4 | h4
  · refine .inl fun d m => ?_
    have := h4 d m
    unfold isTn at this
    split at this
    · exact ⟨_, _, rfl⟩
    · cases this
  · refine .inr fun d m => ?_
    have := h4 d m
    unfold isSc at this
    split at this
    · cases this
    · cases this
    · rename_i h5 h6
      exact ⟨h5, fun xs e => h6 xs e⟩
end Z
namespace Z
open PySem PySem.Spec PyProof.Rows L2
theorem atI_last {α : Type} (xs : List α) (x : α) : atI (xs ++ [x]) (-1) = some x := by
  have e : ixN (xs ++ [x]).length (-1) = some xs.length := by
    unfold ixN
    rw [if_neg (by omega), List.length_append, List.length_singleton]
    split
    · congr 1
      omega
    · omega
  unfold atI
  rw [e, Option.bind_some, List.getElem?_append_right (Nat.le_refl _)]
  simp
section
variable {G : Gm} {O OX : List Nat} {F H F' H' : Hp} {σ σ' : L2.St} {r r' : Ev}
theorem Priv.slots {a : Addr} {gs : List (List D)} {vs : List V} (P : Priv G O F H σ a gs vs) (pv : ∀ x, OwnAt O σ' x → OwnAt O σ x ∨ H x = none) : Priv G O F H σ' a gs vs where
  ha := P.ha
  fa := P.fa
  na := fun z => (pv a z).elim P.na fun e => by rw [P.ha] at e; cases e
  it := P.it
  nd := P.nd
  ne := P.ne
  no := fun p m z => (pv p z).elim (P.no p m) fun e => by
    obtain ⟨g, _, q, xs, ev, hq, _⟩ := P.it.mem m
    cases ev
    rw [hq] at e
    cases e
theorem Sta.cold (S : Sta G O F H σ r) {p : Addr} {xs : List V} (hf : F p = none) (hn : ¬ OwnAt O σ p) (hp : H p = some (.lst xs)) : Sta G O (upd F p (.lst xs)) H σ r ∧ Stp G.tabs (fun x => x = p) F H (upd F p (.lst xs)) H := by
  have s : Stp G.tabs (fun x => x = p) F H (upd F p (.lst xs)) H := ⟨fun b u e => ⟨u, by rw [upd_ne (ne_of_none e hf)]; exact e, .rfl'⟩, fun _ _ e _ _ => e, fun b u _ n => upd_ne n, fun _ e => e, fun _ _ t => t⟩
  refine ⟨S.stay s (fun b u e => ?_) (S.nt.upd rfl) S.wf.ins fun x hx z => hn (z ▸ hx), s⟩
  by_cases q : b = p
  · subst q
    rw [upd_same] at e
    cases e
    exact ⟨_, hp, .rfl'⟩
  · rw [upd_ne q] at e
    exact S.sub b u e
theorem freezeAll {gs : List (List D)} {vs : List V} : ∀ {F : Hp}, Grps G F H gs vs → vs.Nodup → (∀ p, V.ref p ∈ vs → ¬ OwnAt O σ p) → Sta G O F H σ r → ∃ F', Sta G O F' H σ r ∧ Stp G.tabs (fun x => V.ref x ∈ vs) F H F' H ∧ RepL G F' (gs.map .lst) vs := by
  intro F h
  induction gs generalizing vs F with
  | nil =>
    intro _ _ S
    cases h
    exact ⟨F, S, .rfl', .nil⟩
  | cons g gs ih =>
    intro nd no S
    cases h with
    | @cons _ v _ vs a t =>
      obtain ⟨p, xs, rfl, hp, hf, rl⟩ := a
      obtain ⟨nd1, nd2⟩ := List.nodup_cons.mp nd
      obtain ⟨S1, s1⟩ := S.cold hf (no p List.mem_cons_self) hp
      have t1 : Grps G (upd F p (.lst xs)) H gs vs := t.mono s1.fz fun q ys m h f => ⟨h, by rw [upd_ne fun z => nd1 (by rw [← z]; exact m)]; exact f⟩
      obtain ⟨F', S2, s2, rl2⟩ := ih t1 nd2 (fun q m => no q (List.mem_cons_of_mem _ m)) S1
      refine ⟨F', S2, ?_, .cons (Rep.lst ?_ ((rl.mono s1.fz).mono s2.fz)) rl2⟩
      · exact (s1.weak fun x z => by subst z; exact List.mem_cons_self).trans s2 fun x m => .inl (List.mem_cons_of_mem _ m)
      · obtain ⟨o, e, gr⟩ := s2.fz p _ upd_same
        rw [gr.lst] at e
        exact e
section
variable {O' : List Nat} {i N : Nat} {a : Addr} {σ0 : L2.St} {F0 H0 F1 H1 : Hp} {gs : List (List D)} {vs : List V} {r1 : Ev}
theorem Tot.expr (T : Tot G OX O O' i a σ0 F0 H0 N gs vs σ F H r) (n : Nx G OX O' O' σ F H σ F1 H1 r1) (hO : ∀ k ∈ O', k ∈ O) : Tot G OX O O' i a σ0 F0 H0 N gs vs σ F1 H1 r1 where
  sta := n.sta
  stp := T.stp.trans n.stp fun x m => (T.pv x m).elim (fun z => .inl (z.sub hO)) .inr
  kp := T.kp
  pv := T.pv
  si := T.si
  ia := T.ia
  pr := T.pr.step n.stp
  nw := T.nw
  lg := T.lg
  le := T.le
theorem Tot.slot {σ1 : L2.St} (T : Tot G OX O O' i a σ0 F0 H0 N gs vs σ F H r) (n : Nx G OX O' O' σ F H σ1 F H r1) (hi : σ1[i]? = σ[i]?) : Tot G OX O O' i a σ0 F0 H0 N gs vs σ1 F H r1 where
  sta := n.sta
  stp := T.stp
  kp := fun k hk => (n.kp k hk).trans (T.kp k hk)
  pv := fun x m => (n.pv x m).elim (T.pv x) fun e => by
    by_cases z : H0 x = none
    · exact .inr z
    · exact absurd (T.stp.tr x e) z
  si := hi.trans T.si
  ia := T.ia
  pr := T.pr.slots n.pv
  nw := T.nw
  lg := T.lg
  le := T.le
theorem wipe_get {i : Nat} : ∀ {vs : List Nat} (σ : L2.St), i ∉ vs → (wipe σ vs)[i]? = σ[i]?
  | [], _, _ => rfl
  | v :: vs, σ, h => by
    rw [wipe, List.getElem?_set_ne fun z => h (by rw [z]; exact List.mem_cons_self), wipe_get σ fun m => h (List.mem_cons_of_mem _ m)]
theorem wipe_at {i : Nat} {vs : List Nat} {σ σ' : L2.St} (h : i ∉ vs) (e : wipe σ' vs = wipe σ vs) : σ'[i]? = σ[i]? := by
  rw [← wipe_get σ' h, e, wipe_get σ h]
theorem Tot.fin (T : Tot G OX O (O.filter (· != i)) i a σ0 F0 H0 N gs vs σ F H r) (hi : i ∈ O) (hl : i < r.length) : ∃ F2, Nx G OX O O σ0 F0 H0 σ F2 H (r.set i (some (.lst (gs.map .lst)))) := by
  obtain ⟨F2, S2, s2, rl⟩ := freezeAll T.pr.it T.pr.nd T.pr.no T.sta
  have mem : ∀ {j}, j ∈ O.filter (· != i) → j ∈ O ∧ j ≠ i := fun {j} hj => by
    obtain ⟨h1, h2⟩ := List.mem_filter.mp hj
    exact ⟨h1, fun z => by simp [z] at h2⟩
  have put : ∀ {j}, j ∈ O → j ≠ i → j ∈ O.filter (· != i) := fun {j} hj n => List.mem_filter.mpr ⟨hj, by simp [n]⟩
  have fa : F2 a = none := (s2.nf a _ T.pr.ha T.pr.ne).trans T.pr.fa
  refine ⟨F2, ⟨⟨S2.sub, S2.nt, S2.wf, by rw [List.length_set]; exact S2.len, fun j d hj e => ?_, fun j hj => ?_, fun j k b hj hk ej ek => ?_⟩, T.stp.trans s2 fun x m => .inr (T.nw x m), T.kp, fun x m => ?_⟩⟩
  · have q : j ≠ i := fun z => hj (by rw [z]; exact hi)
    rw [List.getElem?_set_ne (Ne.symm q)] at e
    exact S2.rp j d (fun z => hj (mem z).1) e
  · by_cases q : j = i
    · subst q
      exact ⟨_, _, List.getElem?_set_self hl, T.si, .lst T.pr.ha fa rl⟩
    · obtain ⟨d, v, e1, e2, o⟩ := S2.ow j (put hj q)
      exact ⟨d, v, by rw [List.getElem?_set_ne (Ne.symm q)]; exact e1, e2, o⟩
  · by_cases q : j = i
    · by_cases q2 : k = i
      · rw [q, q2]
      · subst q
        rw [T.si] at ej
        cases ej
        exact absurd ⟨k, put hk q2, ek⟩ T.pr.na
    · by_cases q2 : k = i
      · subst q2
        rw [T.si] at ek
        cases ek
        exact absurd ⟨j, put hj q, ej⟩ T.pr.na
      · exact S2.dj j k b (put hj q) (put hk q2) ej ek
  · obtain ⟨j, hj, ej⟩ := m
    by_cases q : j = i
    · rw [q, T.si] at ej
      cases ej
      exact .inl T.ia
    · exact (T.pv x ⟨j, put hj q, ej⟩).elim (fun z => .inl (z.sub fun k hk => (mem hk).1)) .inr
end
end
end Z
namespace Z
open PySem PySem.Spec PyProof.Rows L2
open PySem.SeqAt
open AutoSeq1 (wpAny_loadPart')
open MeetsSeq MeetsSeq2 MeetsSeq3 SeqRoads2
section
variable {prog : Program} {w : World} {A : Around} {R : Result → Shared → Prop}
theorem tuple_indexG (l : Addr) (x : Value) (items : Array Value) (n : Nat) (dd : Option Addr) (sl : Array (Option Value)) (I : Nat → Shared → Prop) (j : Nat) (hj : j < items.size)
    (turn : ∀ i (h1 : i < items.size) s, i ≤ j → I i s → wpAny (model prog w) A.in1 (eqBool items[i] x) (fun r s' => (r = true ∧ i = j ∧ R (.ok (.ret (.int j s'.toks))) { s' with toks := s'.toks + 1 }) ∨ (r = false ∧ i < j ∧ I (i + 1) s')) (fun e s' => R (.error e) s') s)
    {s : Shared} (hl1 : s.heap.get? l = some { cls := .type "tuple", dict := dd, data := .seq items n, slots := sl }) (h : I 0 s) :
    wpAny (model prog w) A.in1 (Builtin.«tuple.index» ⟨[.ref l, x], []⟩) (GQ.FinOf prog w A R) (fun e s' => R (.error e) s') s := by
  have h0 := h
  obtain ⟨hp, g, d, tk, os⟩ := s
  wp_walk using wpAny_loadPart' hl1, TI.forIn_rng _ (fun rest b s' => b.1 = none ∧ ∃ i, rest = List.range' i (items.size - i) ∧ i ≤ j ∧ I i s') _
  case turn =>
    rintro y rest b s' ⟨hb', i, hr, hi, hI⟩
    have hlt : i < items.size := by omega
    obtain ⟨rfl, hrest⟩ : y = i ∧ rest = List.range' (i + 1) (items.size - (i + 1)) := by
      have e : items.size - i = (items.size - (i + 1)) + 1 := by omega
      rw [e, List.range'_succ] at hr
      injection hr with h1 h2
      exact ⟨h1, h2⟩
    rw [Array.getElem?_eq_getElem hlt]
    refine wpAny_bind (wpAny_mono (turn y hlt s' hi hI) (fun r s2 q2 => ?_) fun _ _ x => x)
    rcases q2 with ⟨hr, ej, q2⟩ | ⟨hr, hlt2, q2⟩
    · subst hr
      wp_walk
      subst ej
      exact q2
    · subst hr
      wp_walk
      exact ⟨rfl, y + 1, hrest, hlt2, q2⟩
  case fin =>
    rintro b s' ⟨hb', i, hr, hi, hI⟩
    exfalso
    have e : items.size - i = (items.size - (i + 1)) + 1 := by omega
    rw [e, List.range'_succ] at hr
    cases hr
  case h =>
    exact ⟨rfl, 0, by simp, Nat.zero_le _, h0⟩
end
def idxL (tb : List (Nat × Beh)) (ts : List String) (cs : List Nat) (x : D) : List D → Nat → Option Nat
  | [], _ => none
  | y :: l, n => match inI tb ts cs y x with
    | some true => some n
    | some false => idxL tb ts cs x l (n + 1)
    | none => none
def eIndexG (tb : List (Nat × Beh)) (ts : List String) (cs : List Nat) (f g : M D) : M D := fun r => (f r).bind fun x r1 => match x with
  | .ftp l => (g r1).bind fun y r2 => (match idxL tb ts cs y l 0 with
    | some j => .ok (.int (j : Nat)) r2
    | none => .no)
  | _ => .no
theorem idxL_ge {tb : List (Nat × Beh)} {ts : List String} {cs : List Nat} {x : D} : ∀ {l : List D} {n j : Nat}, idxL tb ts cs x l n = some j → n ≤ j ∧ j < n + l.length
  | [], _, _, e => by cases e
  | y :: l, n, j, e => by
    unfold idxL at e
    split at e
    · cases e
      exact ⟨Nat.le_refl _, by simp⟩
    · obtain ⟨h1, h2⟩ := idxL_ge e
      exact ⟨by omega, by simp; omega⟩
    · cases e
section
variable {G : Gm} {X : Cx} {W : WX} {OX O O1 O2 : List Nat}
theorem e_indexG {o e : Expr} {cpos apos : Pos} {f g : M D} {k : Nat} (tb : List (Nat × Beh)) (ts : List String) (cs : List Nat) (tk : Takes X W) (hr : Room (k + 1) X.A)
    (ht : ∀ c B, tb.lookup c = some B → (∃ f fd ps, OwnOk G X.prog X.w X.mg X.base k "__eq__" c B f fd ps 2) ∧ CmpOk G ts cs c)
    (ho : PE X o (tE G W OX O O1 f)) (he : PE X e (tE G W OX O1 O2 g)) (hx : ∀ i ∈ OX, i ∈ O2 := by decide) (hK : X.K = G.K := by rfl)
    (hbase : attributeBase o "index" X.env (eval o X.env) = eval o X.env := by rfl)
    (hfew : ((backTo cpos (starEach [e] X.env)).all (fun x => !x.1) && (backToKw cpos (keywordEach [] X.env)).all (fun x => x.1.isSome)
      && decide (([e] : List Expr).length + ([] : List Keyword).length + (if ([] : List Keyword).isEmpty then 0 else 1) < 30)) = true := by rfl)
    (hline : (apos.endLine == cpos.line) = true := by rfl) (hs : starEach [e] X.env = (false, eval e X.env) :: starEach [] X.env := by rfl) (hplain : (backTo cpos (starEach [] X.env)).any (·.1) = false := by rfl) :
    PE X (.Call (.Attribute o "index" apos) [e] [] cpos) (tE G W OX O O2 (eIndexG tb ts cs f g)) := by
  refine ⟨fun pins s σ H Q I ⟨F, r, S, p⟩ => ?_⟩
  refine wpAny_Call_method_late hbase hfew hline rfl (thn (ho.run pins s σ H (fun v H1 => ∃ l F1 r1, Sta G O1 F1 H1 σ r1 ∧ Rep G F1 (.ftp l) v ∧ Pst G W OX O1 O2 σ F1 H1 (RD G) Q ((g r1).bind fun y r2 => match idxL tb ts cs y l 0 with
    | some j => .ok (.int (j : Nat)) r2
    | none => .no)) I (tX_bind S p fun x v F1 H1 r1 n1 rx p => by
      revert p
      cases x with
      | ftp l => exact fun p => ⟨l, F1, r1, n1.sta, rx, p⟩
      | _ => exact fun p => p.elim)) fun u s1 ⟨v, H1, I1, ru, l, F1, r1, S1, rx, p⟩ => ?_)
  cases rx with
  | @ftp _ a xs o hq0 hod rl =>
    have hq : SqT G.K F1 a xs := .inl (.inr ⟨o, hq0⟩)
    obtain rfl : u = Value.ref a := ru
    have hH : H1 a = some (.frz o (.tup xs)) := by
      obtain ⟨o', e', g'⟩ := S1.sub _ _ hq0
      rw [g'.frz] at e'
      exact e'
    obtain ⟨hob0, _, its0, rv0, o1, hob1, hc1, _⟩ := (show ObjOk X.prog X.w H1 s1.heap a (.frz o (.tup xs)) from I1.hok a _ hH)
    have eo : o1 = o := by
      rw [hob0] at hob1
      exact (Option.some.inj hob1).symm
    subst eo
    have h1 : s1.TypeIs (.ref a) "tuple" := ⟨_, hob0, hc1⟩
    have h2 : ∀ b, Value.ref a = .ref b → ∃ ob, s1.heap.get? b = some ob ∧ ob.dict = none := fun b eb => by
      injection eb with eb
      subst eb
      exact ⟨_, hob0, hod⟩
    refine ⟨"tuple", "tuple.index", PySem.F.plainAttrs_tuple, PySem.F.slot_tuple_index, PySem.F.type_tuple_index, h1, h2, ?_⟩
    have hA := (pa_cons (X := X) he pa_nil hs).run cpos pins s1 σ H1 (fun ys H2 => ∃ y v2 F2 r2, ys = [v2] ∧ Nx G OX O1 O2 σ F1 H1 σ F2 H2 r2 ∧ Rep G F2 y v2 ∧ Pst G W OX O2 O2 σ F2 H2 (RD G) Q (match idxL tb ts cs y l 0 with
      | some j => .ok (.int (j : Nat)) r2
      | none => .no)) I1 (tX_bind S1 p fun y v2 F2 H2 r2 n2 ry p => ⟨y, v2, F2, r2, rfl, n2, ry, p⟩)
    rw [hs] at hA ⊢
    refine Calls.callWith_builtin (by show (false || (backTo cpos (starEach [] X.env)).any (·.1)) = false; rw [hplain] <;> rfl) (Calls.evalArgs_plain ?_)
    refine thn hA fun us s2 ⟨vs, H2, I2, r2', y, v2, F2, r2, ev, n2, ry, p⟩ => ?_
    subst ev
    obtain ⟨uy, eus, ruy⟩ : ∃ uy, us = [uy] ∧ RelV v2 uy := by
      cases r2' with
      | cons h t =>
        cases t
        exact ⟨_, rfl, h⟩
    subst eus
    cases ej : idxL tb ts cs y l 0 with
    | none =>
      rw [ej] at p
      exact p.elim
    | some j =>
      rw [ej] at p
      obtain ⟨its, rv, hT, _⟩ := I2.tuple (by rw [hK]; exact n2.sta.sub.sqT (n2.stp.fz.sqT hq))
      obtain ⟨⟨cls, dd, data, sl⟩, hob, hc, n, hd⟩ := id hT
      simp only at hc hd
      subst hc hd
      have len1 : its.length = l.length := by rw [← rv.length, rl.length]
      obtain ⟨_, hjl⟩ := idxL_ge ej
      have rl2 : RepL G F2 l xs := rl.mono n2.stp.fz
      refine GQ.call_here PySem.F.slot_tuple_index ⟨_, hob, rfl⟩ PySem.F.entry_tuple_index (PySem.F.args_tuple_index_2 _ _) ?_
      refine tuple_indexG (R := wants (EP X pins σ Q) X.xe) a uy its.toArray n dd sl (fun i s' => idxL tb ts cs y (l.drop i) i = some j ∧ ∃ F' H', Inv X pins σ H' s' ∧ Nx G OX O2 O2 σ F2 H2 σ F' H' r2) j (by simp; omega) (fun i hi s' hij hI => ?_) hob ⟨by simpa using ej, F2, H2, I2, Nx.rfl' n2.sta⟩
      obtain ⟨ed, F', H', I', n'⟩ := hI
      have hi1 : i < its.length := by simpa using hi
      have g1 : its.toArray[i]'(by simpa using hi1) = its[i] := by simp
      rw [g1]
      have hil : i < l.length := by omega
      rw [List.drop_eq_getElem_cons hil] at ed
      have el : l[i]? = some (l[i]'hil) := List.getElem?_eq_getElem _
      generalize l[i]'hil = dy at el ed
      obtain ⟨vy, ey, rdy⟩ := rl2.get el
      obtain ⟨uy2, euy, ruy2⟩ := L2.Vals.get rv ey
      have q1 : its[i] = uy2 := by rw [List.getElem?_eq_getElem hi1] at euy; exact Option.some.inj euy
      rw [q1]
      unfold idxL at ed
      split at ed
      · rename_i e1
        cases ed
        refine wpAny_mono (item_is tk hr ht hx hK I' n' (rdy.mono n'.stp.fz) (ry.mono n'.stp.fz) ruy2 ruy e1) (fun z s3 hz => ?_) fun _ _ h => h
        obtain ⟨rfl, F3, H3, I3, n3⟩ := hz
        exact .inl ⟨rfl, rfl, .int _, H3, I3.tok _, ⟨_, rfl⟩, p _ _ _ n3 .int⟩
      · rename_i e1
        refine wpAny_mono (item_is tk hr ht hx hK I' n' (rdy.mono n'.stp.fz) (ry.mono n'.stp.fz) ruy2 ruy e1) (fun z s3 hz => ?_) fun _ _ h => h
        obtain ⟨rfl, F3, H3, I3, n3⟩ := hz
        exact .inr ⟨rfl, (idxL_ge ed).1, ed, F3, H3, I3, n3⟩
      · cases ed
def eLenF (f : M D) : M D := fun r => (f r).bind fun x r1 => match x with
  | .ftp l => .ok (.int (l.length : Nat)) r1
  | _ => .no
theorem e_lenF {x : Expr} {pp pos : Pos} {f : M D} (ha : PE X x (tE G W OX O O1 f)) (hm : X.mg "len" = none := by assumption) (hg : Gl X "len" := by rfl) (hK : X.K = G.K := by rfl)
    (he : starEach [x] X.env = (false, eval x X.env) :: starEach [] X.env := by rfl) (hpl : (backTo pos (starEach [] X.env)).any (·.1) = false := by rfl) : PE X (.Call (.Name "len" pp) [x] [] pos) (tE G W OX O O1 (eLenF f)) :=
  (pe_callB call_len_seq hg hm (by decide +kernel) (pa_cons ha pa_nil he) (by decide) (by decide) he hpl).imp fun σ H Q ⟨F, r, S, q⟩ => tX_bind S q fun x w F1 H1 r1 n1 rx q => by
    revert q
    cases rx with
    | @ftp l a xs o hq0 hod rl =>
      intro q
      refine ⟨a, xs, rfl, .inr (by rw [hK]; exact n1.sta.sub.sqT (.inl (.inr ⟨o, hq0⟩))), ?_⟩
      rw [← rl.length]
      exact q.ok n1.sta .int
    | _ => exact fun q => q.elim
def eTupF (f : M D) : M D := fun r => (f r).bind fun x r1 => match x with
  | .lst l => .ok (.ftp l) r1
  | _ => .no
def kTupF (K : PySem.W.Frag) (x : V) (H : Hp) (Q : VK) : Prop := ∃ p xs, x = .ref p ∧ SqL K H p xs ∧ ∀ (q : Addr) (o : Obj), H q = none → o.dict = none → Q (.ref q) (upd H q (.frz o (.tup xs)))
theorem pe_tupF {a : Expr} {ta : TE} {p pos : Pos} (hg : Gl X "tuple") (hm : X.mg "tuple" = none) (ha : PE X a ta) (na : starEach [a] X.env = (false, eval a X.env) :: starEach [] X.env) :
    PE X (.Call (.Name "tuple" p) [a] [] pos) (tThen ta (kTupF X.K)) := by
  refine ⟨fun pins s σ H Q I h => ?_⟩
  refine Call_ (ld_blt I hg hm boot_tuple (PyProof.Rows.callWith_type1 (one_arg ha I h (fun v s2 x H2 I2 r q => ?_) na) na))
  obtain ⟨p, xs, rfl, hs, q⟩ := q
  obtain rfl : v = .ref p := r
  obtain ⟨its, rv, pl, hz⟩ := I2.list hs
  refine call_tuple_list pl.isList (fun h' hk => ?_) (by rw [List.size_toArray, ← rv.length]; exact hz)
  have I1 : Inv X pins σ H2 { s2 with heap := h' } := I2.kept (t' := s2.toks) hk
  have I3 : Inv X pins σ (upd H2 h'.objs.size (.frz { cls := .type "tuple", data := .seq its.toArray } (.tup xs))) { s2 with heap := h'.push { cls := .type "tuple", data := .seq its.toArray } } :=
    I1.laid (t' := s2.toks) (fun b o e => Heap.get?_push_of_some _ e) (Nat.le_refl _) (show ObjOk X.prog X.w _ _ _ (.frz _ (.tup xs)) from ⟨Heap.get?_push_size _ rfl, hz, its, rv, IsTup.new _ _⟩)
  exact ⟨.ref h'.objs.size, _, I3, rfl, q _ _ (I1.hok.fresh (Nat.le_refl _)) rfl⟩
theorem e_tupF {a : Expr} {p pos : Pos} {f : M D} (ha : PE X a (tE G W OX O O1 f)) (hm : X.mg "tuple" = none := by assumption) (hg : Gl X "tuple" := by rfl) (hK : X.K = G.K := by rfl) (na : starEach [a] X.env = (false, eval a X.env) :: starEach [] X.env := by rfl) :
    PE X (.Call (.Name "tuple" p) [a] [] pos) (tE G W OX O O1 (eTupF f)) :=
  (pe_tupF hg hm ha na).imp fun σ H Q ⟨F, r, S, q⟩ => tX_bind S q fun x w F1 H1 r1 n1 rx q => by
    revert q
    cases rx with
    | @lst l a xs h rl =>
      intro q
      obtain ⟨o', e', g'⟩ := n1.sta.sub _ _ h
      rw [g'.lst] at e'
      exact ⟨a, xs, rfl, .inl (.inl (by exact e')), fun p o hp ho => Pst.fz n1.sta hp rfl (fun F' hF sb => .ftp hF ho (rl.mono sb)) q⟩
    | _ => exact fun q => q.elim
end
end Z
namespace Z
open PySem PySem.Spec PyProof.Rows L2
def rnkGo (g : Tg) (f kf : M D) : List D → List Key → List D → Ev → Option (List Key × List D × Ev)
  | [], ks, ds, r => some (ks, ds, r)
  | d :: l, ks, ds, r => match g d r with
    | none => none
    | some r1 => match f r1 with
      | .ok x r2 => (match kf r2 with
        | .ok y r3 => (match dixSet ks ds y x with
          | some q => rnkGo g f kf l q.1 q.2 r3
          | none => none)
        | _ => none)
      | _ => none
def sRanks (imm : Nat → Bool) (i : Nat) (tb : List (Nat × Nat)) (it : M (List D)) (g : Tg) (f kf : M D) : M Fl := fun r => match r[i]? with
  | some (some (.ob c l)) => if imm c = true ∧ tb.lookup c = some l.length then (match it r with
    | .ok ds r1 => (match rnkGo g f kf ds [] [] r1 with
      | some q => .ok .nx (q.2.2.set i (some (.ob c (l ++ [.dic q.1 q.2.1]))))
      | none => .no)
    | _ => .no) else .no
  | _ => .no
section
variable {G : Gm} {OX : List Nat} {F H F' H' : Hp} {σ σ' : L2.St} {r r' : Ev}
structure Rk (G : Gm) (OX : List Nat) (i : Nat) (a p c : Nat) (dx : Addr) (xs : List V) (l : List D) (σ0 : L2.St) (F0 H0 : Hp) (ks : List Key) (ds : List D) (σ : L2.St) (F H : Hp) (r : Ev) : Prop where
  sta : Sta G [] F H σ r
  stp : Stp G.tabs (fun x => x = a) F0 H0 F H
  kp : ∀ k ∈ OX, σ[k]? = σ0[k]?
  si : σ[i]? = some (some (.ref a))
  ha : H a = some (.ins (G.cA c) dx ((G.lay c).zip (xs ++ [.ref p])))
  fa : F a = some (.ins (G.cA c) dx ((G.lay c).zip xs))
  fp : F p = none
  p0 : H0 p = none
  rx : RepL G F l xs
  it : ∃ kvs, H p = some (.dK kvs) ∧ kvs.map (·.1) = ks ∧ RepL G F ds (kvs.map (·.2))
variable {i a p c : Nat} {dx : Addr} {xs : List V} {l : List D} {σ0 : L2.St} {F0 H0 : Hp} {ks : List Key} {ds : List D} {F1 H1 : Hp} {r1 : Ev}
theorem no_own0 {σ : L2.St} {x : Addr} : ¬ OwnAt [] σ x := fun ⟨_, h, _⟩ => by cases h
theorem Rk.expr (T : Rk G OX i a p c dx xs l σ0 F0 H0 ks ds σ F H r) {OY : List Nat} (n : Nx G OY [] [] σ F H σ F1 H1 r1) : Rk G OX i a p c dx xs l σ0 F0 H0 ks ds σ F1 H1 r1 where
  sta := n.sta
  stp := T.stp.trans n.stp fun x m => absurd m no_own0
  kp := T.kp
  si := T.si
  ha := n.stp.kp _ _ T.ha no_own0
  fa := (n.stp.nf _ _ T.ha no_own0).trans T.fa
  fp := by
    obtain ⟨kvs, h, _⟩ := T.it
    exact (n.stp.nf _ _ h no_own0).trans T.fp
  p0 := T.p0
  rx := T.rx.mono n.stp.fz
  it := by
    obtain ⟨kvs, h1, h2, h3⟩ := T.it
    exact ⟨kvs, n.stp.kp _ _ h1 no_own0, h2, h3.mono n.stp.fz⟩
theorem Rk.slot {σ1 : L2.St} (T : Rk G OX i a p c dx xs l σ0 F0 H0 ks ds σ F H r) (n : Nx G OX [] [] σ F H σ1 F H r1) (hi : σ1[i]? = σ[i]?) : Rk G OX i a p c dx xs l σ0 F0 H0 ks ds σ1 F H r1 where
  sta := n.sta
  stp := T.stp
  kp := fun k hk => (n.kp k hk).trans (T.kp k hk)
  si := hi.trans T.si
  ha := T.ha
  fa := T.fa
  fp := T.fp
  p0 := T.p0
  rx := T.rx
  it := T.it
theorem Rk.put (T : Rk G OX i a p c dx xs l σ0 F0 H0 ks ds σ F H r) {kvs : List (Key × V)} {k : Key} {d : D} {v : V} (hp : H p = some (.dK kvs)) (hk : kvs.map (·.1) = ks) (hr : RepL G F ds (kvs.map (·.2))) (rd : Rep G F d v) :
    Rk G OX i a p c dx xs l σ0 F0 H0 (putR ks ds k d).1 (putR ks ds k d).2 σ F (upd H p (.dK (putK kvs k v))) r := by
  have s : Stp G.tabs (fun x => x = p) F H F (upd H p (.dK (putK kvs k v))) := ⟨.rfl', fun b u e n _ => by rw [upd_ne n]; exact e, fun _ _ _ _ => rfl, fun _ e => upd_none e, fun _ _ t => tab_at hp rfl (fun b n => upd_ne n) t⟩
  have S1 : Sta G [] F (upd H p (.dK (putK kvs k v))) σ r := T.sta.stay s (sub_wr T.sta.sub T.fp) T.sta.nt (T.sta.wf.upd rfl) fun x hx => absurd hx no_own0
  have ap : a ≠ p := fun z => by
    have := T.ha
    rw [z, hp] at this
    cases this
  obtain ⟨p1, p2⟩ := put_rep (k := k) hr rd
  rw [hk] at p1 p2
  exact { sta := S1, stp := T.stp.trans s fun x m => .inr (by rw [m]; exact T.p0), kp := T.kp, si := T.si, ha := by rw [upd_ne ap]; exact T.ha, fa := T.fa, fp := T.fp, p0 := T.p0, rx := T.rx, it := ⟨_, upd_same, p1, p2⟩ }
theorem Rk.fin (T : Rk G OX i a p c dx xs l σ0 F0 H0 ks ds σ F H r) (him : G.imm c = true) (e0 : σ0[i]? = some (some (.ref a))) (hl : xs.length < (G.lay c).length) : ∃ F2, Nx G OX [i] [i] σ0 F0 H0 σ F2 H (r.set i (some (.ob c (l ++ [.dic ks ds])))) := by
  obtain ⟨kvs, hp, hk, hr⟩ := T.it
  have s : Stp G.tabs (fun x => x = p) F H (upd F p (.dK kvs)) H := ⟨fun b u e => ⟨u, by rw [upd_ne (ne_of_none e T.fp)]; exact e, .rfl'⟩, fun _ _ e _ _ => e, fun b u _ n => upd_ne n, fun _ e => e, fun _ _ t => t⟩
  have S2 : Sta G [] (upd F p (.dK kvs)) H σ r := by
    refine T.sta.stay s (fun b u e => ?_) (T.sta.nt.upd rfl) T.sta.wf.ins fun x hx => absurd hx no_own0
    by_cases q : b = p
    · subst q
      rw [upd_same] at e
      cases e
      exact ⟨_, hp, .rfl'⟩
    · rw [upd_ne q] at e
      exact T.sta.sub b u e
  have hil : i < r.length := by
    rw [T.sta.len]
    exact (List.getElem?_eq_some_iff.mp T.si).1
  have ap : a ≠ p := fun z => by
    have := T.ha
    rw [z, hp] at this
    cases this
  refine ⟨_, ⟨⟨S2.sub, S2.nt, S2.wf, by rw [List.length_set]; exact S2.len, fun j d hj e => ?_, fun j hj => ?_, fun j k b hj hk _ _ => ?_⟩, (T.stp.trans s fun x m => .inr (by rw [m]; exact T.p0)).weak fun x m => ⟨i, List.mem_singleton.mpr rfl, by rw [m]; exact e0⟩, T.kp, fun x m => ?_⟩⟩
  · have q : j ≠ i := fun z => hj (by rw [z]; exact List.mem_singleton.mpr rfl)
    rw [List.getElem?_set_ne (Ne.symm q)] at e
    exact S2.rp j d (fun z => by cases z) e
  · have q : j = i := List.mem_singleton.mp hj
    subst q
    refine ⟨_, _, List.getElem?_set_self hil, T.si, .ob T.ha (.inr ⟨him, xs.length, ?_⟩) (by simp; omega) ((T.rx.mono s.fz).app (.cons (.dic upd_same hk (hr.mono s.fz)) .nil))⟩
    rw [upd_ne ap, T.fa, List.take_left]
  · rw [List.mem_singleton.mp hj, List.mem_singleton.mp hk]
  · obtain ⟨j, hj, ej⟩ := m
    rw [List.mem_singleton.mp hj, T.si] at ej
    cases ej
    exact .inl ⟨i, List.mem_singleton.mpr rfl, e0⟩
end
section
variable {G : Gm} {X : Cx} {W : WX} {OX OL : List Nat}
theorem ss_ranks {x fld : Str} {tg iter e ke : Expr} {it : M (List D)} {g : Tg} {f kf : M D} {rest : List Stmt} {O' : List Nat} {h : M Fl} {u : Nat} {p1 p2 p3 p4 p5 p6 p7 p8 pc : Pos} (i : Nat) (tb : List (Nat × Nat)) (vs : List Nat) (hr : Room u X.A)
    (hi : PI X tg iter (iIt G (fun _ _ _ _ => False) [] [] [] it)) (hg : PG X tg (tG G OX vs [] [] g)) (he : PE X e (tE G (fun _ _ _ _ => False) [] [] [] f)) (hk : PE X ke (tE G (fun _ _ _ _ => False) [] [] [] kf)) (hrest : PSs X rest (tS G W OX OL [i] O' h))
    (ht : ∀ c j, tb.lookup c = some j → ClsOk G c ∧ (G.lay c)[j]? = some fld) (hp : PassesOwn (model X.prog X.w) X.A X.env X.xe) (hv : i ∉ vs := by decide) (hK : X.K = G.K := by rfl) (hN : X.N[i]? = some x := by rfl)
    (hvx : Vis X.env.scope x := by first | exact Or.inl rfl | exact Or.inr (Or.inl rfl) | exact Or.inr (Or.inr rfl)) (hd : (x == ("__debug__" : Str)) = false := by decide) (hcd : (x == ("__classdict__" : Str)) = false := by decide)
    (hc : X.calm = true := by rfl) (hf : ∀ y, foldedSetIterable iter X.env y = pure y := by intro _; rfl) (hs : swapsWith (.Dict [] [] p3) (some (.Attribute (.Name x p1) fld p2)) p4.line X.env = pure false := by rfl)
    (hb : attributeBase (.Name x p5) fld X.env (eval (.Name x p5) X.env) = eval (.Name x p5) X.env := by rfl)
    (ha : ∀ v, assign (.Subscript (.Attribute (.Name x p5) fld p6) ke p7) X.env v = (do
      let ov ← holding [v] (eval (.Attribute (.Name x p5) fld p6) X.env)
      let iv ← holding [v, ov] (eval ke X.env)
      standAt p7
      holding [v, ov, iv] (setItem ov iv v)
      release [v, ov, iv] []) := by intros; rfl) (hs2 : swapsWithSole [.Subscript (.Attribute (.Name x p5) fld p6) ke p7] e p8.line X.env = pure false := by rfl) (hw2 : swappedStores [.Subscript (.Attribute (.Name x p5) fld p6) ke p7] e X.env = pure none := by rfl) (h12 : (assignEach [.Subscript (.Attribute (.Name x p5) fld p6) ke p7] X.env).map (·.2) = [assign (.Subscript (.Attribute (.Name x p5) fld p6) ke p7) X.env] := by rfl) :
    PSs X (.Assign [.Attribute (.Name x p1) fld p2] (.Dict [] [] p3) p4 :: .For tg iter [.Assign [.Subscript (.Attribute (.Name x p5) fld p6) ke p7] e p8] [] pc :: rest) (tS G W OX OL [i] O' (sSeq (sRanks G.imm i tb it g f kf) h)) :=
  (pss_cons (ps_fld (pe_var hN hvx hd hcd) pe_dnewK hs) (pss_cons (ps_for hp hc hi hg (pss_one (ps_asg he (pg_sub (pe_fld (pe_var hN hvx hd hcd) hb) hk (set_dic (by have := hr.un; omega)) ha) hs2 hw2 h12)) hf) hrest)).imp fun Dn σ H ⟨F, r, S, q⟩ => by
    intro p hpn
    obtain ⟨d0, v0, e1, e2, o0⟩ := S.ow i (List.mem_singleton.mpr rfl)
    unfold sSeq sRanks at q
    rw [e1] at q
    cases o0 with
    | lst => exact q.elim
    | dic => exact q.elim
    | @ob c l a dx xs hh hfa hl rr =>
      simp only at q
      by_cases hcnd : G.imm c = true ∧ List.lookup c tb = some l.length
      case neg => rw [if_neg hcnd] at q; exact q.elim
      rw [if_pos hcnd] at q
      obtain ⟨him, htb⟩ := hcnd
      obtain ⟨co, hlay⟩ := ht c _ htb
      rw [rr.length] at hlay
      have hlt : xs.length < (G.lay c).length := (List.getElem?_eq_some_iff.mp hlay).1
      have few := co.few
      have pa : p ≠ a := fun z => by rw [z, hh] at hpn; cases hpn
      obtain ⟨S0, s0, fp⟩ := new_ow (o := .dK []) S hpn rfl
      have hh1 : upd H p (.dK []) a = some (.ins (G.cA c) dx ((G.lay c).zip xs)) := by rw [upd_ne (Ne.symm pa)]; exact hh
      have fzs : Sub F (upd F a (.ins (G.cA c) dx ((G.lay c).zip xs))) := fun b u eb => by
        by_cases w : b = a
        · subst w
          refine ⟨_, upd_same, ?_⟩
          rcases hfa with hf | ⟨_, n, hf⟩
          · rw [hf] at eb
            cases eb
          · rw [hf] at eb
            cases eb
            obtain ⟨more, em⟩ := zip_pre (G.lay c) xs n
            exact .inr (.inl ⟨_, _, _, more, rfl, by rw [em]⟩)
        · exact ⟨u, by rw [upd_ne w]; exact eb, .rfl'⟩
      have s1 : Stp G.tabs (fun x => x = a) F (upd H p (.dK [])) (upd F a (.ins (G.cA c) dx ((G.lay c).zip xs))) (upd (upd H p (.dK [])) a (.ins (G.cA c) dx ((G.lay c).zip (xs ++ [.ref p])))) :=
        ⟨fzs, fun b u e n _ => by rw [upd_ne n]; exact e, fun b _ _ n => upd_ne n, fun _ e => upd_none e, fun _ _ t => tab_at hh1 rfl (fun b n => upd_ne n) t⟩
      have st := (s0.weak (Mo1 := fun x => x = a) fun x m => by
        obtain ⟨j, hj, ej⟩ := m
        rw [List.mem_singleton.mp hj, e2] at ej
        cases ej
        rfl).trans s1 fun x m => .inl m
      have wi : Wi G (upd (upd H p (.dK [])) a (.ins (G.cA c) dx ((G.lay c).zip (xs ++ [.ref p])))) := fun b C d2 fs g' eb hg' => by
        by_cases w : b = a
        · subst w
          rw [upd_same] at eb
          cases eb
          exact co.sub _ (lookup_zip hg')
        · rw [upd_ne w] at eb
          exact S0.wf.ins b C d2 fs g' eb hg'
      have Sz : Sta G [] (upd F a (.ins (G.cA c) dx ((G.lay c).zip xs))) (upd (upd H p (.dK [])) a (.ins (G.cA c) dx ((G.lay c).zip (xs ++ [.ref p])))) σ r := by
        refine ⟨fun b u eb => ?_, S.nt.upd rfl, ⟨wi, fun pp hp' => st.tb pp hp' (S.wf.tab pp hp')⟩, S.len, fun j d _ ej => ?_, fun j hj => (by cases hj), fun j k b hj => (by cases hj)⟩
        · by_cases w : b = a
          · subst w
            rw [upd_same] at eb
            cases eb
            obtain ⟨more, em⟩ := zip_pre (G.lay c) (xs ++ [.ref p]) xs.length
            rw [List.take_left] at em
            exact ⟨_, upd_same, .inr (.inl ⟨_, _, _, more, rfl, by rw [em]⟩)⟩
          · rw [upd_ne w] at eb
            obtain ⟨o2, e3, gr⟩ := S0.sub b u eb
            exact ⟨o2, by rw [upd_ne w]; exact e3, gr⟩
        · by_cases w : j = i
          · subst w
            rw [e1] at ej
            cases ej
            exact ⟨_, e2, .ob (more := []) (by rw [upd_same, List.append_nil]) hl (rr.mono fzs)⟩
          · obtain ⟨v, g1, g2⟩ := S.rp j d (fun z => w (List.mem_singleton.mp z)) ej
            exact ⟨v, g1, g2.mono fzs⟩
      have T0 : Rk G OX i a p c dx xs l σ F H [] [] σ _ _ r := ⟨Sz, st, fun _ _ => rfl, e2, upd_same, upd_same, by rw [upd_ne pa]; exact fp, hpn, rr.mono fzs, ⟨[], by rw [upd_ne pa]; exact upd_same, rfl, .nil⟩⟩
      refine ⟨_, e2, a, G.cA c, dx, _, rfl, hh1, by rw [hK]; exact co.cl, by rw [hK]; exact co.na fld (List.mem_of_getElem? hlay), by simp; omega, ?_⟩
      rw [putF_zip co.nd hlay]
      refine ⟨_, r, Sz, ?_⟩
      revert q
      cases it r with
      | no => exact fun q => q.elim
      | ex ee r' => exact fun q => q.elim
      | ok ds r1 =>
        intro q J F1 H1 n1 rl
        have q : PstS G W OX OL [i] O' σ F H Dn (match (match rnkGo g f kf ds [] [] r1 with
          | some q => Out.ok Fl.nx (List.set q.2.2 i (some (D.ob c (l ++ [D.dic q.1 q.2.1]))))
          | none => Out.no) with
          | .ok .nx r1 => h r1
          | .ok c r1 => .ok c r1
          | .ex e r1 => .ex e r1
          | .no => .no) := q
        cases hgg : rnkGo g f kf ds [] [] r1 with
        | none =>
          rw [hgg] at q
          exact q.elim
        | some qq =>
          obtain ⟨kE, dE, rE⟩ := qq
          rw [hgg] at q
          refine for_it rl (fun j σ' H' => ∃ ks vs' F' r', Rk G OX i a p c dx xs l σ F H ks vs' σ' F' H' r' ∧ Sub F1 F' ∧ rnkGo g f kf (ds.drop j) ks vs' r' = some (kE, dE, rE)) ⟨[], [], F1, r1, T0.expr n1, .rfl', hgg⟩ (fun j σ' H' _ ⟨_, _, F', _, T, s1, _⟩ => s1.trans T.sta.sub) ?_ ?_
          · intro j y σ' H' H'' hj ⟨ks, vs', F', r', T, s1, hg2⟩ hy
            obtain ⟨d, ed, hy⟩ := hy
            have hj : j < ds.length := hj
            have el : ds.drop j = d :: ds.drop (j + 1) := by
              rw [List.drop_eq_getElem_cons hj]
              congr 1
              have := List.getElem?_eq_getElem hj
              rw [this] at ed
              exact Option.some.inj ed
            rw [el, rnkGo] at hg2
            obtain ⟨F2, T1, s2, rd⟩ : ∃ F2, Rk G OX i a p c dx xs l σ F H ks vs' σ' F2 H'' r' ∧ Sub F1 F2 ∧ Rep G F2 d y := by
              rcases hy with ⟨e3, rd⟩ | ⟨Tp, ys, dd, rfl, rfl, hT, rfl, rl'⟩
              · subst e3
                exact ⟨F', T, s1, rd.mono s1⟩
              · obtain ⟨S', s'⟩ := new_fz (o := .tup ys) T.sta hT rfl
                exact ⟨_, T.expr (OY := []) (Nx.of S' s' fun _ h => h), s1.trans s'.fz, .tup (.inl (.inl upd_same)) ((rl'.mono s1).mono s'.fz)⟩
            revert hg2
            cases eg : g d r' with
            | none => exact fun z => nomatch z
            | some r2 =>
              intro hg2
              refine ⟨F2, r', d, r2, T1.sta, rd, eg, fun σ2 n3 w3 => ?_⟩
              have T2 := T1.slot n3 (wipe_at hv w3)
              have hg2 : (match f r2 with
                | .ok x r2 => (match kf r2 with
                  | .ok y r3 => (match dixSet ks vs' y x with
                    | some q => rnkGo g f kf (ds.drop (j + 1)) q.1 q.2 r3
                    | none => none)
                  | _ => none)
                | _ => none) = some (kE, dE, rE) := hg2
              refine ⟨F2, r2, T2.sta, ?_⟩
              revert hg2
              cases ef : f r2 with
              | no => exact fun z => nomatch z
              | ex => exact fun z => nomatch z
              | ok xd r3 =>
                intro hg2 v F3 H3 n4 rv
                have T3 := T2.expr n4
                have hg2 : (match kf r3 with
                  | .ok y r3 => (match dixSet ks vs' y xd with
                    | some q => rnkGo g f kf (ds.drop (j + 1)) q.1 q.2 r3
                    | none => none)
                  | _ => none) = some (kE, dE, rE) := hg2
                refine ⟨_, T3.si, a, G.cA c, dx, _, .ref p, rfl, T3.ha, by rw [hK]; exact co.cl, by rw [hK]; exact co.na fld (List.mem_of_getElem? hlay), ?_, ?_⟩
                · have z := zip_lookup (v := V.ref p) (xs := xs ++ [.ref p]) [] co.nd hlay (by simp)
                  rw [List.append_nil] at z
                  exact z
                · refine ⟨F3, r3, T3.sta, ?_⟩
                  revert hg2
                  cases ek : kf r3 with
                  | no => exact fun z => nomatch z
                  | ex => exact fun z => nomatch z
                  | ok yk r4 =>
                    intro hg2 u2 F4 H4 n5 ry
                    have T4 := T3.expr n5
                    have hg2 : (match dixSet ks vs' yk xd with
                      | some q => rnkGo g f kf (ds.drop (j + 1)) q.1 q.2 r4
                      | none => none) = some (kE, dE, rE) := hg2
                    cases em : dixSet ks vs' yk xd with
                    | none =>
                      rw [em] at hg2
                      cases hg2
                    | some qd =>
                      rw [em] at hg2
                      unfold dixSet at em
                      obtain ⟨kk, ek2, em⟩ := Option.bind_eq_some_iff.mp em
                      split at em
                      · rename_i hbig
                        cases em
                        obtain ⟨kvs, hp4, hk4, hr4⟩ := T4.it
                        have lt : kvs.length < sizeLine := by
                          have : kvs.length < big := by rw [← hk4] at hbig; simpa using hbig
                          exact Nat.lt_of_lt_of_le this (big_line (Nat.le_refl _))
                        exact ⟨p, _, rfl, .inl ⟨kvs, kk, hp4, keyOf_rep ry ek2, lt, rfl⟩, _, _, F4, r4, T4.put hp4 hk4 hr4 (rv.mono n5.stp.fz), (s2.trans n4.stp.fz).trans n5.stp.fz, hg2⟩
                      · cases em
          · intro σ' H' ⟨ks, vs', F', r', T, _, hg2⟩
            rw [List.drop_length] at hg2
            cases hg2
            obtain ⟨F2, n2⟩ := T.fin him e2 hlt
            exact ⟨F2, _, n2.sta, PstS.after n2 q⟩
end
end Z
namespace Z
open PySem PySem.Spec PyProof.Rows L2
def oInC (neg : Bool) (tb : List (Nat × Beh)) (p : D → D → Option D) (x y : D) (r : Ev) : Out D := match y with
  | .ob c l => (match tb.lookup c with
    | some B => (match B [.ob c l, x] with
      | .ok (.bl b) _ => .ok (.bl (b != neg)) r
      | _ => .no)
    | none => .no)
  | y => oP p x y r
section
variable {G : Gm} {X : Cx} {W : WX} {OX OL vs O O1 O2 O3 : List Nat}
theorem inC_core {k : Nat} {c : Nat} {l : List D} {x : D} {B : Beh} {b : Bool} {q' : Ev} {f : Addr} {fd : FuncData} {ps : List Str} (tk : Takes X W) (hr : Room k X.A) (ow : OwnOk G X.prog X.w X.mg X.base k "__contains__" c B f fd ps 2) (hx : ∀ i ∈ OX, i ∈ O) (hK : X.K = G.K)
    {pins : List (Addr × Obj)} {s : Shared} {σ : L2.St} {F H : Hp} {r : Ev} {v : V} {a : Addr} {u : Value} {Q : Bool → Shared → Prop} (I : Inv X pins σ H s) (S : Sta G O F H σ r) (rx : Rep G F x v) (ry : Rep G F (.ob c l) (.ref a)) (ru : RelV v u) (e : B [.ob c l, x] = .ok (.bl b) q')
    (q : ∀ F2 H2 s2, Inv X pins σ H2 s2 → Nx G OX O O σ F H σ F2 H2 r → Q b s2) : wpAny (model X.prog X.w) X.A (call (.ref f) [.ref a, u]) (fun z s' => wpAny (model X.prog X.w) X.A (truthy z) Q X.xe s') X.xe s := by
  have Fk : FnOk X.prog X.w X.K X.mg X.base (L2.CX X.prog X.w) k f fd ps (spB G 2 [] B) := by rw [hK]; exact ow.fn
  have rr : RepL G F [.ob c l, x] [.ref a, v] := .cons ry (.cons rx .nil)
  have q0 : Pst G W OX O O σ F H (RD G) (fun z H2 => z = .bl b ∧ ∃ F2, Nx G OX O O σ F H σ F2 H2 r) (out0 (B [.ob c l, x]) r) := by
    rw [e]
    intro z F2 H2 n2 rz
    cases rz
    exact ⟨rfl, F2, n2⟩
  refine wpAny_mono (run_At (us := [.ref a, u]) (vs := [.ref a, v]) ⟨hr, rfl⟩ tk Fk (by rw [hK]; exact ow.bd) I (.cons rfl (.cons ru .nil)) (spB_of hx S rr (len_of ow.ar rr q0) q0)) (fun z s' h => ?_) fun _ _ h => h
  obtain ⟨z', H', I', rz, ez, F2, n2⟩ := h
  subst ez
  cases (show z = Value.bool b from rz)
  exact wpAny_truthy_bool (q F2 H' s' I' n2)
theorem o_ninC {p : D → D → Option D} {k : Nat} (tb : List (Nat × Beh)) (tk : Takes X W) (hr : Room k X.A) (hp : Op2 G X W OX O (compareOp .NotIn) (oP p)) (ht : ∀ c B, tb.lookup c = some B → ∃ f fd ps, OwnOk G X.prog X.w X.mg X.base k "__contains__" c B f fd ps 2)
    (hx : ∀ i ∈ OX, i ∈ O := by decide) (hK : X.K = G.K := by rfl) : Op2 G X W OX O (compareOp .NotIn) (oInC true tb p) :=
  fun pins s σ F H r x y v w u u' Q I S rx ry ru ru' q => by
    unfold oInC at q
    split at q
    · split at q
      · rename_i c l _ B e1
        split at q
        · rename_i b q' e
          obtain ⟨f, fd, ps, ow⟩ := ht c B e1
          obtain ⟨a, rfl, ox, od, J⟩ := inst_at I S ry
          obtain rfl : u' = Value.ref a := ru'
          obtain ⟨m, hF⟩ := I.fr
          refine PySem.W.notIn_K (K := X.K) (C := G.cA c) hF I.ok.mod.kin J (by rw [hK]; exact ow.at_) (by rw [hK]; exact ow.isf) (inC_core tk hr ow hx hK I S rx ry ru e fun F2 H2 s2 I2 n2 => ?_)
          exact ⟨.bl (b != true), H2, I2, by cases b <;> rfl, q _ F2 H2 n2 .bl⟩
        · exact q.elim
      · exact q.elim
    · exact hp pins s σ F H r _ _ v w u u' Q I S rx ry ru ru' q
def kstrs : List Key → Option (List Str)
  | [] => some []
  | .inr s :: ks => (kstrs ks).map (s :: ·)
  | .inl _ :: _ => none
theorem kstrs_is : ∀ {ks : List Key} {ss : List Str}, kstrs ks = some ss → ks = ss.map Sum.inr
  | [], _, e => by cases e; rfl
  | .inr s :: ks, _, e => by
    obtain ⟨ss, e1, e2⟩ := Option.map_eq_some_iff.mp e
    subst e2
    rw [kstrs_is e1]
    rfl
  | .inl _ :: _, _, e => by cases e
def pSortedK : List D → Option D
  | [x] => (dicOf x).bind fun q => (kstrs q.1).bind fun zs => if zs.length < 64 then some (.lst ((sortS zs).map .str)) else none
  | _ => none
theorem e_sortedK {x : Expr} {xs : List Expr} {pp pos : Pos} {f : M (List D)} (ha : PA X (x :: xs) (tA G W OX O O1 f)) (hm : X.mg "sorted" = none := by assumption) (hg : Gl X "sorted" := by rfl) (hc : X.calm = true := by rfl) (hK : X.K = G.K := by rfl)
    (he : starEach (x :: xs) X.env = (false, eval x X.env) :: starEach xs X.env := by rfl) (hpl : (backTo pos (starEach xs X.env)).any (·.1) = false := by rfl) : PE X (.Call (.Name "sorted" pp) (x :: xs) [] pos) (tE G W OX O O1 (eN pSortedK f)) :=
  e_cB pSortedK (call_sortedD hc) (fun σ F H r ds vs d Q S rs e q => by
    unfold pSortedK at e
    split at e
    · obtain ⟨⟨ks, l⟩, e1, e⟩ := Option.bind_eq_some_iff.mp e
      obtain ⟨zs, e2, e⟩ := Option.bind_eq_some_iff.mp e
      split at e
      · rename_i h64
        cases e
        cases rs with
        | cons r1 rr =>
          cases rr
          obtain ⟨a, kvs, rfl, hd, hk, rl⟩ := dic_rd S.sub r1 e1
          refine ⟨a, kvs, zs, rfl, hd, by rw [hk]; exact kstrs_is e2, h64, fun ys p hp hs hn => ?_⟩
          have ey : ys = sortS zs := sort_is hp hs
          subst ey
          exact q.fz S hn rfl fun F' hF sb => .lst hF (strsD_rep _)
      · cases e
    · cases e) ha hm (hg := hg) (he := he) (hpl := hpl)
def flP : PyData → Option D
  | .bool b => some (.bl b)
  | .int i => some (.int i)
  | .str s => some (.str s)
  | _ => none
def flPs : List PyData → Option (List D)
  | [] => some []
  | p :: ps => (flP p).bind fun d => (flPs ps).map fun l => d :: l
def ofP : PyData → Option D
  | .tuple ps => (flPs ps).map .tup
  | _ => none
def isFl : D → Bool
  | .bl _ => true
  | .int _ => true
  | .str _ => true
  | _ => false
def isTF : D → Bool
  | .tup l => l.all isFl
  | _ => false
theorem flP_to {d : D} (h : isFl d = true) : ∃ p, toP d = some p ∧ flP p = some d := by
  cases d <;> first | exact ⟨_, rfl, rfl⟩ | cases h
theorem flPs_to : ∀ {l : List D} {ps : List PyData}, l.all isFl = true → toPs l = some ps → flPs ps = some l
  | [], _, _, e => by
    cases e
    rfl
  | d :: l, _, h, e => by
    rw [toPs] at e
    obtain ⟨p, e1, e⟩ := Option.bind_eq_some_iff.mp e
    obtain ⟨qs, e2, e⟩ := Option.map_eq_some_iff.mp e
    subst e
    simp only [List.all_cons, Bool.and_eq_true] at h
    obtain ⟨p', e3, e4⟩ := flP_to h.1
    rw [e1] at e3
    cases e3
    rw [flPs, e4, flPs_to h.2 e2]
    rfl
theorem ofP_to {d : D} {p : PyData} (h : isTF d = true) (e : toP d = some p) : ofP p = some d := by
  cases d with
  | tup l =>
    rw [toP] at e
    obtain ⟨ps, e1, e2⟩ := Option.map_eq_some_iff.mp e
    subst e2
    rw [ofP, flPs_to h e1]
    rfl
  | _ => cases h
theorem toPs_get : ∀ {l : List D} {ps : List PyData} {i : Nat} {p : PyData}, toPs l = some ps → ps[i]? = some p → ∃ y, l[i]? = some y ∧ toP y = some p
  | [], _, _, _, e, h => by
    cases e
    simp at h
  | d :: l, _, i, p, e, h => by
    rw [toPs] at e
    obtain ⟨q, e1, e⟩ := Option.bind_eq_some_iff.mp e
    obtain ⟨qs, e2, e⟩ := Option.map_eq_some_iff.mp e
    subst e
    cases i with
    | zero =>
      simp at h
      subst h
      exact ⟨d, rfl, e1⟩
    | succ i =>
      obtain ⟨y, h1, h2⟩ := toPs_get e2 (by simpa using h)
      exact ⟨y, by simpa using h1, h2⟩
theorem toPs_mem {l : List D} {ps : List PyData} {p : PyData} (e : toPs l = some ps) (m : p ∈ ps) : ∃ y ∈ l, toP y = some p := by
  obtain ⟨i, hi⟩ := List.mem_iff_getElem?.mp m
  obtain ⟨y, h1, h2⟩ := toPs_get e hi
  exact ⟨y, List.mem_of_getElem? h1, h2⟩
def pMaxD : List D → Option D
  | [x] => (lsOf x).bind fun l => if l.all isTF = true then (toPs l).bind fun ps => (match ps with
    | p :: qs => if okS (p :: qs) = true then ofP (PySem.W.maxD p qs) else none
    | [] => none) else none
  | _ => none
theorem depthAll_le {n : Nat} : ∀ {ps : List PyData}, (∀ p ∈ ps, p.depth ≤ n) → PyData.depthAll ps ≤ n
  | [], _ => by simp [PyData.depthAll]
  | p :: ps, h => by
    rw [PyData.depthAll]
    exact Nat.max_le.mpr ⟨h p List.mem_cons_self, depthAll_le fun q m => h q (List.mem_cons_of_mem _ m)⟩
def rMaxT (K : PySem.W.Frag) : List V → Hp → VK → Prop := fun vs H Q => ∃ (a : Addr) (xs : List V) (p : PyData) (qs : List PyData), vs = [.ref a] ∧ SqL K H a xs ∧ DpAll K H xs (p :: qs) ∧ OkS (p :: qs) ∧ (∀ d ∈ p :: qs, d ≠ .none) ∧
  ∀ (i : Nat) (v : V), xs[i]? = some v → (p :: qs)[i]? = some (PySem.W.maxD p qs) → Q v H
theorem cr_maxT (hc : X.calm = true) (hu : X.A.units + 66 < cLine) : CallR X (.builtin "max") (rMaxT X.K) := by
  intro pins s σ H vs us Q I r h
  obtain ⟨a, xs, p, qs, rfl, hs, hd, ok, nn, q⟩ := h
  obtain ⟨its, rv, hl, hz⟩ := I.list hs
  rw [Vals.ref1 r]
  obtain ⟨as, rd⟩ := Dp.readsAll I (p :: qs) xs its hd rv
  refine PySem.W.max_list_data (I.ok.hd hc) hl.isList (by simpa using rd) ⟨fun x hx y hy => ok.a x hx y hy, nn⟩ ?_ fun i v h' tk bs hi hr hk => ?_
  · have := depthAll_le (n := 64) (ps := p :: qs) fun d m => SeqAt.depth_of_shaped (ok.s d m)
    omega
  · have hi : its[i]? = some v := by simpa using hi
    obtain ⟨bs', r1, r2, _, _⟩ := PySem.W.readsAll_at rd i v hi
    obtain ⟨e1, _⟩ := PyProof.Rows.reads_det (fun b o e _ => hk b o e) r1 hr
    obtain ⟨x, hx, rx⟩ : ∃ x, xs[i]? = some x ∧ RelV x v := by
      obtain ⟨hl1, hl2⟩ := List.getElem?_eq_some_iff.mp hi
      have hlen := rv.length
      have hx : i < xs.length := by omega
      obtain ⟨u, hu1, hu2⟩ := L2.Vals.get rv (List.getElem?_eq_getElem hx)
      rw [hi] at hu1
      cases hu1
      exact ⟨_, List.getElem?_eq_getElem hx, hu2⟩
    refine ⟨x, H, I.kept (t' := tk) hk, rx, q i x hx ?_⟩
    rw [List.getD_eq_getElem?_getD, List.getElem?_eq_getElem r2] at e1
    rw [List.getElem?_eq_getElem r2]
    exact congrArg some e1.symm
theorem e_maxT {x : Expr} {xs : List Expr} {pp pos : Pos} {k : Nat} {f : M (List D)} (hr : Room (k + 3) X.A) (ha : PA X (x :: xs) (tA G W OX O O1 f)) (hm : X.mg "max" = none := by assumption) (hg : Gl X "max" := by rfl) (hc : X.calm = true := by rfl) (hK : X.K = G.K := by rfl)
    (he : starEach (x :: xs) X.env = (false, eval x X.env) :: starEach xs X.env := by rfl) (hpl : (backTo pos (starEach xs X.env)).any (·.1) = false := by rfl) : PE X (.Call (.Name "max" pp) (x :: xs) [] pos) (tE G W OX O O1 (eN pMaxD f)) :=
  e_cB pMaxD (cr_maxT hc (by have := hr.un; omega)) (fun σ F H r ds vs d Q S rs e q => by
    unfold pMaxD at e
    split at e
    · obtain ⟨l, e1, e⟩ := Option.bind_eq_some_iff.mp e
      split at e
      · rename_i htf
        obtain ⟨ps, e2, e⟩ := Option.bind_eq_some_iff.mp e
        split at e
        · rename_i p qs
          split at e
          · rename_i hok
            cases rs with
            | cons r1 rr =>
              cases rr
              have key : ∀ (x : D) (v : V), Rep G F x v → lsOf x = some l → ∃ a xs, v = V.ref a ∧ SqL X.K H a xs ∧ RepL G F l xs := fun x v r1 e1 => by
                rw [hK]
                cases r1 with
                | lst h r => cases e1; exact ⟨_, _, rfl, S.sub.sqL (.inl (.inl h)), r⟩
                | kl h r => cases e1; exact ⟨_, _, rfl, S.sub.sqL h, r⟩
                | _ => cases e1
              obtain ⟨a, ys, rfl, hq, rl⟩ := key _ _ r1 e1
              have tf : ∀ y ∈ l, isTF y = true := List.all_eq_true.mp htf
              refine ⟨a, ys, p, qs, rfl, hq, by rw [hK]; exact RepL.dp S.sub rl e2, okS_is hok, fun d' m en => ?_, fun i v hv hp => ?_⟩
              · subst en
                obtain ⟨j, hj, ej⟩ := List.getElem_of_mem m
                obtain ⟨y, my, ey⟩ := toPs_mem e2 m
                have := tf y my
                cases y with
                | tup l => rw [toP] at ey; obtain ⟨_, _, z⟩ := Option.map_eq_some_iff.mp ey; cases z
                | _ => cases this
              · obtain ⟨y, ey, ty⟩ := toPs_get e2 hp
                obtain ⟨v', ev, rv⟩ := rl.get ey
                rw [hv] at ev
                cases ev
                have := ofP_to (tf y (List.mem_of_getElem? ey)) ty
                rw [this] at e
                cases e
                exact q.ok S rv
          · cases e
        · cases e
      · cases e
    · cases e) ha hm (hg := hg) (he := he) (hpl := hpl)
end
end Z
namespace Z
open PySem PySem.Spec PyProof.Rows L2
theorem ps_setDc {X : Cx} {i : Nat} {y : Str} {py : Pos} {kx vx tg iter : Expr} {ifs : List Expr} {scope : Scope} {own : List (Str × Nat)} {pos spos : Pos} {wi : TI} {g : TG} {tt : TT} {tk tv : TE} (hc : X.calm = true) (hN : X.N.Nodup) (hy : X.N[i]? = some y) (hyl : X.env.scope.names.lookup y = some .local)
    (hsw : swapsWith (.DictComp kx vx [⟨tg, iter, ifs, 0⟩] scope pos) (some (.Name y py)) spos.line X.env = pure true) (hi : PI X tg iter wi) (ok : BlkOk X.N X.env.scope scope own)
    (hg : ∀ (s : Shared) (H : Hp) (C : Addr) (cl : List (Str × Addr)) (fp : List Addr), PG (X.blk s H scope (compEnvC scope cl C X.env) fp) tg g) (ht : ∀ (s : Shared) (H : Hp) (C : Addr) (cl : List (Str × Addr)) (fp : List Addr), PTs (X.blk s H scope (compEnvC scope cl C X.env) fp) ifs tt)
    (hk : ∀ (s : Shared) (H : Hp) (C : Addr) (cl : List (Str × Addr)) (fp : List Addr), PE (X.blk s H scope (compEnvC scope cl C X.env) fp) kx tk)
    (he : ∀ (s : Shared) (H : Hp) (C : Addr) (cl : List (Str × Addr)) (fp : List Addr), PE (X.blk s H scope (compEnvC scope cl C X.env) fp) vx tv) (hs : ∀ x, foldedSetIterable iter X.env x = pure x := by intro _; rfl) :
    PS X (.Assign [.Name y py] (.DictComp kx vx [⟨tg, iter, ifs, 0⟩] scope pos) spos) (tAsg (tDc wi g tt tk tv (own.map (·.2))) (gName i)) := by
  refine ⟨fun pins s σ H D I h => ?_⟩
  rw [exec_Assign_Name_used _ _ _ _ hsw]
  refine wpAny_bind (wpAny_standAt (wpAny_bind ?_))
  show wpAny _ X.A (do let _ ← comprehension (.DictComp kx vx [⟨tg, iter, ifs, 0⟩] scope pos) scope X.env (firstIterPos [⟨tg, iter, ifs, 0⟩] pos) newDict false (eval iter X.env) (some (assign (.Name y py) X.env))) _ _ s
  have h : tDc wi g tt tk tv (own.map (·.2)) σ H (fun x H1 => gName i x σ H1 D.nx) := h
  refine wpAny_bind (thn (dc_core (Qf := fun _ s' => SP X pins D .next s') hc hN I hi ok hg ht hk he hs h fun L C s' m H' I' q hn f => ?_) fun _ s' hq => wpAny_pure (wpAny_pure hq))
  show wpAny _ _ (assign (.Name y py) X.env (.ref L)) _ _ _
  refine wpAny_assign_Name (store_ok2 (v := V.ref L) I' hN hy (.inl hyl) rfl (fun s2 I2 ⟨a, sb, ha⟩ => ?_) (.inr hyl))
  obtain ⟨f0, f1, f2, f3, f4, f5⟩ := f
  have haC : C ≠ a := by
    rcases ha with z | z
    · rw [z]; exact f1
    · exact fun e => f4 y a z e.symm
  refine ⟨m, hn.sameBut sb haC, fun h3 sb3 => ?_⟩
  exact ⟨_, H', I2.turned (t' := s2.toks) (fun b o hb e => (sb3.2 b hb).trans e) f0 f1 f3 f4 f5, q⟩
section
variable {G : Gm} {X : Cx} {W : WX} {OX OL vs O O1 : List Nat}
theorem s_setDcF {x : Str} {pos' : Pos} {kx vx tg iter : Expr} {ifs : List Expr} {scope : Scope} {pos spos : Pos} {it : M (List D)} {g : Tg} {t : M Bool} {kf vf : M D} (i : Nat) (own : List (Str × Nat)) (hvs : own.map (·.2) = vs) (hi : PI X tg iter (iIt G W OX O O1 it)) (ok : BlkOk X.N X.env.scope scope own)
    (hg : ∀ (s : Shared) (H : Hp) (C : Addr) (cl : List (Str × Addr)) (fp : List Addr), PG (X.blk s H scope (compEnvC scope cl C X.env) fp) tg (tG G [] vs O1 O1 g)) (ht : ∀ (s : Shared) (H : Hp) (C : Addr) (cl : List (Str × Addr)) (fp : List Addr), PTs (X.blk s H scope (compEnvC scope cl C X.env) fp) ifs (tT G (fun _ _ _ _ => False) [] O1 O1 t))
    (hk : ∀ (s : Shared) (H : Hp) (C : Addr) (cl : List (Str × Addr)) (fp : List Addr), PE (X.blk s H scope (compEnvC scope cl C X.env) fp) kx (tE G (fun _ _ _ _ => False) [] O1 O1 kf))
    (he : ∀ (s : Shared) (H : Hp) (C : Addr) (cl : List (Str × Addr)) (fp : List Addr), PE (X.blk s H scope (compEnvC scope cl C X.env) fp) vx (tE G (fun _ _ _ _ => False) [] O1 O1 vf)) (hsw : swapsWith (.DictComp kx vx [⟨tg, iter, ifs, 0⟩] scope pos) (some (.Name x pos')) spos.line X.env = pure true := by rfl) (hx : i ∉ OX := by decide) (hN : X.N.Nodup := by first | assumption | decide +kernel) (hy : X.N[i]? = some x := by rfl)
    (hyl : X.env.scope.names.lookup x = some .local := by rfl) (hd : ∀ i ∈ vs, i ∉ O1 := by decide) (hc : X.calm = true := by rfl) (hs : ∀ x, foldedSetIterable iter X.env x = pure x := by intro _; rfl) :
    PS X (.Assign [.Name x pos'] (.DictComp kx vx [⟨tg, iter, ifs, 0⟩] scope pos) spos) (tS G W OX OL O (i :: O1.filter (· != i)) (sAsF i (eDc vs it g t kf vf))) :=
  (ps_setDc hc hN hy hyl hsw hi ok hg ht hk he hs).imp fun Dn σ H h => dc_imp hvs hd σ H _ (asF_of hx h)
end
end Z
namespace Kw
open PySem PySem.Spec PyProof.Rows L2 Z
def cnm : Nat → Str
  | 0 => ("Ratio" : PySem.Str)
  | 2 => ("Step" : PySem.Str)
  | 3 => ("Book" : PySem.Str)
  | 26 => ("Lights" : PySem.Str)
  | _ => ""
def lay : Nat → List Str
  | 0 => [("top" : PySem.Str), ("bottom" : PySem.Str)]
  | 2 => [("time" : PySem.Str), ("place" : PySem.Str), ("axes" : PySem.Str), ("square" : PySem.Str), ("kind" : PySem.Str)]
  | 3 => [("axes" : PySem.Str), ("names" : PySem.Str), ("steps" : PySem.Str)]
  | 26 => [("names" : PySem.Str), ("right" : PySem.Str), ("left" : PySem.Str), ("ranks" : PySem.Str), ("whole" : PySem.Str)]
  | _ => []
def flds : List Str := [("top" : PySem.Str), ("bottom" : PySem.Str), ("time" : PySem.Str), ("place" : PySem.Str), ("axes" : PySem.Str), ("square" : PySem.Str), ("kind" : PySem.Str), ("names" : PySem.Str), ("steps" : PySem.Str), ("right" : PySem.Str), ("left" : PySem.Str), ("ranks" : PySem.Str), ("whole" : PySem.Str)]
def gm (K : PySem.W.Frag) : Gm := ⟨K, fun c => He.ga K (cnm c), lay, fun _ => true, flds, [], fun k => ([] : List PySem.Str)[k]?.map fun x => He.ga K x⟩
def N0 : List Str := [("_law_script" : PySem.Str), ("_law_cell" : PySem.Str)]
theorem sc0 : FnScope N0 [("_law_script" : PySem.Str)] (defScope s0) := ⟨rfl, rfl, rfl, by decide +kernel, rfl, by decide +kernel, by decide +kernel⟩
def b__law_hat : M D := (eN pLst (aCons (eLc [1] (itL (eSl (eV 0) iNo (iSo (eK (.int 60))))) (gN 1) tY (eN pInt (aCons (eV 1) aNil))) (aCons (eK (.int 0)) (aCons (eK (.int 0)) aNil))))
def B__law_hat : Beh := mkF 1 2 b__law_hat
def N1 : List Str := [("_law_hat_here" : PySem.Str), ("_law_many" : PySem.Str), ("_law_rest" : PySem.Str), ("_law_at" : PySem.Str), ("_law_cell" : PySem.Str), ("_law_mixed" : PySem.Str)]
theorem sc1 : FnScope N1 [("_law_hat_here" : PySem.Str), ("_law_many" : PySem.Str)] (defScope s1) := ⟨rfl, rfl, rfl, by decide +kernel, rfl, by decide +kernel, by decide +kernel⟩
def b__law_take : M Fl := (sSeq (sIf (tV (eB (oP pGt) (eIxO 0 (eK (.int 2))) (eK (.int 0)))) (sSeq (sAs 2 (eN pInt (aCons (eIxO 0 (eK (.int 2))) aNil))) (sSeq (sIx 0 (eB (oP pDiv) (eV 2) (eV 1)) (eK (.int 2))) (sRet (eB (oP pMod) (eV 2) (eV 1))))) sNil) (sSeq (sAs 3 (eIxO 0 (eK (.int 1)))) (sSeq (sIx 0 (eB (oP pAdd) (eV 3) (eK (.int 1))) (eK (.int 1))) (sSeq (sAs 4 (eB (oP pAdd) (eB (oP pMul) (eK (.int 55081)) (eV 3)) (eK (.int 3591)))) (sSeq (sIf (tV (eB (oP pNe) (eIxO 0 (eK (.int 0))) (eN pLst aNil))) (sAs 4 (eB (oP pIx) (eIxO 0 (eK (.int 0))) (eB (oP pMod) (eN pInt (aCons (eV 3) aNil)) (eN pLen (aCons (eIxO 0 (eK (.int 0))) aNil))))) sNil) (sSeq (sIf (tAn (tV (eB (oP pLt) (eV 3) (eN pLen (aCons (eIxO 0 (eK (.int 0))) aNil)))) (tV (eB (oP pGe) (eN pAbs (aCons (eV 4) aNil)) (eB (oP pPow) (eK (.int 10)) (eK (.int 18)))))) (sSeq (sAs 2 (eB (oP pAdd) (eB (oP pMul) (eK (.int 2)) (eB (oP pSub) (eN pAbs (aCons (eN pInt (aCons (eV 4) aNil)) aNil)) (eB (oP pPow) (eK (.int 10)) (eK (.int 18))))) (eN pInt (aCons (eB (oP pLt) (eV 4) (eK (.int 0))) aNil)))) (sSeq (sIx 0 (eB (oP pDiv) (eV 2) (eV 1)) (eK (.int 2))) (sRet (eB (oP pMod) (eN pInt (aCons (eV 2) aNil)) (eV 1))))) sNil) (sSeq (sAs 5 (eB (oP pMod) (eN pInt (aCons (eB (oP pPow) (eB (oP pAdd) (eB (oP pAdd) (eB (oP pMod) (eN pInt (aCons (eV 4) aNil)) (eK (.int 2147483629))) (eB (oP pMul) (eK (.int 66083)) (eV 3))) (eK (.int 3591))) (eK (.int 5))) aNil)) (eK (.int 2147483647)))) (sSeq (sAs 5 (eB (oP pMod) (eN pInt (aCons (eB (oP pPow) (eB (oP pAdd) (eB (oP pAdd) (eB (oP pMul) (eV 5) (eB (oP pAdd) (eB (oP pMul) (eK (.int 2)) (eV 3)) (eK (.int 2133)))) (eB (oP pMul) (eB (oP pMul) (eK (.int 55081)) (eV 3)) (eV 3))) (eK (.int 46191))) (eK (.int 3))) aNil)) (eK (.int 2147483587)))) (sRet (eB (oP pMod) (eN pInt (aCons (eB (oP pDiv) (eV 5) (eK (.int 64))) aNil)) (eV 1)))))))))))
def B__law_take : Beh := mkB 2 6 [0] b__law_take
def N2 : List Str := [("_law_hat_here" : PySem.Str), ("_law_some" : PySem.Str)]
theorem sc2 : FnScope N2 [("_law_hat_here" : PySem.Str), ("_law_some" : PySem.Str)] (defScope s2) := ⟨rfl, rfl, rfl, by decide +kernel, rfl, by decide +kernel, by decide +kernel⟩
def b__law_of : M Fl := (sRet (eB (oP pIx) (eV 1) (eCo B__law_take 0 (aCons (eN pLen (aCons (eV 1) aNil)) aNil))))
def B__law_of : Beh := mkB 2 2 [0] b__law_of
def N3 : List Str := [("_law_hat_here" : PySem.Str), ("_law_many" : PySem.Str), ("_law_names" : PySem.Str), ("_law_begin" : PySem.Str), ("_law_most" : PySem.Str), ("_law_shift" : PySem.Str), ("_law_told" : PySem.Str), ("_law_found" : PySem.Str), ("_law_name" : PySem.Str), ("_law_spot" : PySem.Str)]
theorem sc3 : FnScope N3 [("_law_hat_here" : PySem.Str), ("_law_many" : PySem.Str)] (defScope s3) := ⟨rfl, rfl, rfl, by decide +kernel, rfl, by decide +kernel, by decide +kernel⟩
def b__law_plain : M Fl := (sSeq (sAs 2 (eCo B__law_of 0 (aCons (eN pLst (aCons (eN pLst (aCons (eK (.str "a")) (aCons (eK (.str "b")) (aCons (eK (.str "c")) (aCons (eK (.str "d")) (aCons (eK (.str "e")) (aCons (eK (.str "f")) aNil))))))) (aCons (eN pLst (aCons (eK (.str "x9")) (aCons (eK (.str "x10")) (aCons (eK (.str "m")) (aCons (eK (.str "zz")) (aCons (eK (.str "b")) (aCons (eK (.str "q1")) aNil))))))) (aCons (eN pLst (aCons (eK (.str "red")) (aCons (eK (.str "dot")) (aCons (eK (.str "ox")) (aCons (eK (.str "io")) (aCons (eK (.str "at")) (aCons (eK (.str "up")) aNil))))))) aNil)))) aNil))) (sSeq (sPar [gN 3, gN 4, gN 5] (aCons (eCo B__law_take 0 (aCons (eK (.int 6)) aNil)) (aCons (eCo B__law_of 0 (aCons (eN pLst (aCons (eK (.int 2)) (aCons (eK (.int 3)) (aCons (eK (.int 4)) (aCons (eK (.int 7)) (aCons (eK (.int 12)) aNil)))))) aNil)) (aCons (eB (oP pSub) (eCo B__law_take 0 (aCons (eK (.int 9)) aNil)) (eK (.int 6))) aNil)))) (sSeq (sPar3L 4 6 7 (eN pMax2 (aCons (eV 4) (aCons (eIf (tV (eB (oP pGt) (eV 1) (eK (.int 4)))) (eK (.int 3)) (eK (.int 2))) aNil)))) (sSeq (sFor (itL (eSl (eB (oP pAdd) (eSl (eV 2) (iSo (eV 3)) iNo) (eSl (eV 2) iNo (iSo (eV 3)))) iNo (iSo (eV 1)))) (gN 8) (sSeq (sAs 9 (eCo B__law_take 0 (aCons (eB (oP pMul) (eV 4) (eV 4)) aNil))) (sSeq (sWh (tV (eInO 6 (eV 9))) (sAs 9 (eB (oP pMod) (eN pInt (aCons (eB (oP pAdd) (eV 9) (eK (.int 1))) aNil)) (eB (oP pMul) (eV 4) (eV 4))))) (sSeq (sApp 6 (eV 9)) (sDix 7 (eN pTup (aCons (eB (oP pAdd) (eB (oP pDiv) (eV 9) (eV 4)) (eV 5)) (aCons (eB (oP pSub) (eB (oP pMod) (eN pInt (aCons (eV 9) aNil)) (eV 4)) (eV 5)) aNil))) (eV 8)))))) (sRet (eVD 7))))))
def B__law_plain : Beh := mkB 2 10 [0] b__law_plain
def N4 : List Str := [("_law_names" : PySem.Str), ("_law_found" : PySem.Str), ("_law_name" : PySem.Str), ("_law_some" : PySem.Str)]
theorem sc4 : FnScope N4 [("_law_names" : PySem.Str)] (defScope s4) := ⟨rfl, rfl, rfl, by decide +kernel, rfl, by decide +kernel, by decide +kernel⟩
def b__law_crowds : M Fl := (sSeq (sAs 1 (eN pLst (aCons (eN pLst aNil) aNil))) (sSeq (sFor (itL (eV 0)) (gN 2) (sAs 1 (eB (oP pAdd) (eV 1) (eLc [3] (itL (eV 1)) (gN 3) tY (eB (oP pAdd) (eV 3) (eN pLst (aCons (eV 2) aNil))))))) (sRet (eSl (eV 1) (iSo (eK (.int 1))) iNo))))
def B__law_crowds : Beh := mkB 1 4 [] b__law_crowds
def N5 : List Str := [("value" : PySem.Str)]
theorem sc5 : FnScope N5 [("value" : PySem.Str)] (defScope s5) := ⟨rfl, rfl, rfl, by decide +kernel, rfl, by decide +kernel, by decide +kernel⟩
def b_is_integer : M Fl := (sRet (eAnd (eIsi (kT [] "int") (eV 0)) (eNot (eIsi (kT [] "bool") (eV 0)))))
def B_is_integer : Beh := mkB 1 1 [] b_is_integer
def N6 : List Str := [("self" : PySem.Str), ("other" : PySem.Str)]
theorem sc6 : FnScope N6 [("self" : PySem.Str), ("other" : PySem.Str)] (defScope s6) := ⟨rfl, rfl, rfl, by decide +kernel, rfl, by decide +kernel, by decide +kernel⟩
def b_Ratio___eq__ : M Fl := (sSeq (sIf (tV (eIsi (kO [(0, true)]) (eV 1))) (sRet (eAnd (eB (oP pEq) (eFl [(0, 0)] (eV 0)) (eFl [(0, 0)] (eV 1))) (eB (oP pEq) (eFl [(0, 1)] (eV 0)) (eFl [(0, 1)] (eV 1))))) sNil) (sRet (eAnd (eCd B_is_integer [] (aCons (eV 1) aNil)) (eAnd (eB (oP pEq) (eFl [(0, 1)] (eV 0)) (eK (.int 1))) (eB (oP pEq) (eFl [(0, 0)] (eV 0)) (eV 1))))))
def B_Ratio___eq__ : Beh := mkB 2 2 [] b_Ratio___eq__
def N7 : List Str := [("self" : PySem.Str), ("other" : PySem.Str)]
theorem sc7 : FnScope N7 [("self" : PySem.Str), ("other" : PySem.Str)] (defScope s7) := ⟨rfl, rfl, rfl, by decide +kernel, rfl, by decide +kernel, by decide +kernel⟩
def b_Step___eq__ : M Fl := (sRet (eAnd (eIsi (kO [(2, true)]) (eV 1)) (eAnd (eB (oET [(0, B_Ratio___eq__)] ["int"] [0]) (eFl [(2, 0)] (eV 0)) (eFl [(2, 0)] (eV 1))) (eB (oEY 0 [(0, B_Ratio___eq__)] ["int"] [0]) (eFl [(2, 1)] (eV 0)) (eFl [(2, 1)] (eV 1))))))
def B_Step___eq__ : Beh := mkB 2 2 [] b_Step___eq__
def N8 : List Str := [("names" : PySem.Str), ("spots" : PySem.Str), ("at" : PySem.Str), ("one" : PySem.Str), ("other" : PySem.Str)]
theorem sc8 : FnScope N8 [("names" : PySem.Str), ("spots" : PySem.Str)] (defScope s8) := ⟨rfl, rfl, rfl, by decide +kernel, rfl, by decide +kernel, by decide +kernel⟩
def b_need_unlike : M Fl := (sFor (itN pEnt (aCons (eV 0) aNil)) (gT [(gN 2), (gN 3)]) (sFor (itL (eSl (eV 0) (iSo (eB (oP pAdd) (eV 2) (eK (.int 1)))) iNo)) (gN 4) (sIf (tV (eB (oET [(2, B_Step___eq__)] ["int"] [2]) (eB (oP pDix) (eV 1) (eV 3)) (eB (oP pDix) (eV 1) (eV 4)))) sNo sNil)))
def B_need_unlike : Beh := mkB 2 5 [] b_need_unlike
def N9 : List Str := [("value" : PySem.Str), ("least" : PySem.Str), ("most" : PySem.Str)]
theorem sc9 : FnScope N9 [("value" : PySem.Str), ("least" : PySem.Str), ("most" : PySem.Str)] (defScope s9) := ⟨rfl, rfl, rfl, by decide +kernel, rfl, by decide +kernel, by decide +kernel⟩
def b_is_within : M Fl := (sSeq (sIf (tNo (tV (eCd B_is_integer [] (aCons (eV 0) aNil)))) (sRet (eK (.bl false))) sNil) (sRet (eAnd (eOr (eIsN (eV 1)) (eB (oP pGe) (eV 0) (eV 1))) (eOr (eIsN (eV 2)) (eB (oP pLe) (eV 0) (eV 2))))))
def B_is_within : Beh := mkB 3 3 [] b_is_within
def N10 : List Str := [("value" : PySem.Str), ("mark" : PySem.Str)]
theorem sc10 : FnScope N10 [("value" : PySem.Str)] (defScope s10) := ⟨rfl, rfl, rfl, by decide +kernel, rfl, by decide +kernel, by decide +kernel⟩
def b_is_name : M Fl := (sSeq (sIf (tOn (tNo (tV (eIsi (kT [] "str") (eV 0)))) (tOn (tNo (tV (eChain (oP pLe) (oP pLe) (eK (.int 1)) (eN pLen (aCons (eV 0) aNil)) (eK (.int (12)))))) (tV (eB (oP pNotIn) (eB (oP pIx) (eV 0) (eK (.int 0))) (eK (.str ("abcdefghijklmnopqrstuvwxyz" : PySem.Str))))))) (sRet (eK (.bl false))) sNil) (sRet (eN pAll (aCons (eLc [1] (itS (eV 0)) (gN 1) tY (eOr (eB (oP pIn) (eV 1) (eK (.str ("abcdefghijklmnopqrstuvwxyz" : PySem.Str)))) (eB (oP pIn) (eV 1) (eK (.str ("0123456789" : PySem.Str)))))) aNil))))
def B_is_name : Beh := mkB 1 2 [] b_is_name
def N11 : List Str := [("value" : PySem.Str)]
theorem sc11 : FnScope N11 [("value" : PySem.Str)] (defScope s11) := ⟨rfl, rfl, rfl, by decide +kernel, rfl, by decide +kernel, by decide +kernel⟩
def b_is_listed : M Fl := (sRet (eIsi (kAny [(kT [] "list"), (kT [] "tuple")]) (eV 0)))
def B_is_listed : Beh := mkB 1 1 [] b_is_listed
def N12 : List Str := [("value" : PySem.Str)]
theorem sc12 : FnScope N12 [("value" : PySem.Str)] (defScope s12) := ⟨rfl, rfl, rfl, by decide +kernel, rfl, by decide +kernel, by decide +kernel⟩
def b_is_ratio : M Fl := (sRet (eOr (eIsi (kO [(0, true)]) (eV 0)) (eCd B_is_integer [] (aCons (eV 0) aNil))))
def B_is_ratio : Beh := mkB 1 1 [] b_is_ratio
def N13 : List Str := [("value" : PySem.Str), ("each" : PySem.Str)]
theorem sc13 : FnScope N13 [("value" : PySem.Str)] (defScope s13) := ⟨rfl, rfl, rfl, by decide +kernel, rfl, by decide +kernel, by decide +kernel⟩
def b_are_ratios : M Fl := (sRet (eAnd (eCd B_is_listed [] (aCons (eV 0) aNil)) (eN pAll (aCons (eLc [1] (itL (eV 0)) (gN 1) tY (eCd B_is_ratio [] (aCons (eV 1) aNil))) aNil))))
def B_are_ratios : Beh := mkB 1 2 [] b_are_ratios
def N14 : List Str := [("value" : PySem.Str), ("axes" : PySem.Str)]
theorem sc14 : FnScope N14 [("value" : PySem.Str), ("axes" : PySem.Str)] (defScope s14) := ⟨rfl, rfl, rfl, by decide +kernel, rfl, by decide +kernel, by decide +kernel⟩
def b_is_spot : M Fl := (sSeq (sIf (tOn (tNo (tV (eCd B_is_listed [] (aCons (eV 0) aNil)))) (tOn (tV (eB (oP pNe) (eN pLen (aCons (eV 0) aNil)) (eK (.int 2)))) (tNo (tV (eCd B_is_ratio [] (aCons (eB (oP pIx) (eV 0) (eK (.int 0))) aNil)))))) (sRet (eK (.bl false))) sNil) (sRet (eAnd (eCd B_are_ratios [] (aCons (eB (oP pIx) (eV 0) (eK (.int 1))) aNil)) (eB (oP pEq) (eN pLen (aCons (eB (oP pIx) (eV 0) (eK (.int 1))) aNil)) (eV 1)))))
def B_is_spot : Beh := mkB 2 2 [] b_is_spot
def N15 : List Str := [("value" : PySem.Str), ("axes" : PySem.Str), ("name" : PySem.Str)]
theorem sc15 : FnScope N15 [("value" : PySem.Str), ("axes" : PySem.Str)] (defScope s15) := ⟨rfl, rfl, rfl, by decide +kernel, rfl, by decide +kernel, by decide +kernel⟩
def b_are_spots : M Fl := (sSeq (sIf (tOn (tNo (tV (eIsi (kT [] "dict") (eV 0)))) (tV (eB (oP pEq) (eN pDlen (aCons (eV 0) aNil)) (eK (.int 0))))) (sRet (eK (.bl false))) sNil) (sRet (eN pAll (aCons (eLc [2] (itK (eV 0)) (gN 2) tY (eAnd (eCd B_is_name [] (aCons (eV 2) aNil)) (eCd B_is_spot [] (aCons (eB (oP pDix) (eV 0) (eV 2)) (aCons (eV 1) aNil))))) aNil))))
def B_are_spots : Beh := mkB 2 3 [] b_are_spots
def N16 : List Str := [("self" : PySem.Str), ("top" : PySem.Str), ("bottom" : PySem.Str), ("common" : PySem.Str)]
theorem sc16 : FnScope N16 [("self" : PySem.Str), ("top" : PySem.Str), ("bottom" : PySem.Str)] (defScope s16) := ⟨rfl, rfl, rfl, by decide +kernel, rfl, by decide +kernel, by decide +kernel⟩
def b_Ratio___init__ : M Fl := (sSeq (sIf (tNo (tV (eCd B_is_integer [] (aCons (eV 1) aNil)))) sNo sNil) (sSeq (sIf (tOn (tNo (tV (eCd B_is_integer [] (aCons (eV 2) aNil)))) (tV (eB (oP pEq) (eV 2) (eK (.int 0))))) sNo sNil) (sSeq (sAs 3 (eIf (tV (eB (oP pGt) (eV 2) (eK (.int 0)))) (eN pGcd (aCons (eV 1) (aCons (eV 2) aNil))) (eU (oU pNeg) (eN pGcd (aCons (eV 1) (aCons (eV 2) aNil)))))) (sSeq (sFl 0 [(0, 0)] (eB (oP pDiv) (eV 1) (eV 3))) (sFl 0 [(0, 1)] (eB (oP pDiv) (eV 2) (eV 3)))))))
def B_Ratio___init__ : Beh := mkB 3 4 [0] b_Ratio___init__
def N17 : List Str := [("value" : PySem.Str), ("part" : PySem.Str)]
theorem sc17 : FnScope N17 [("value" : PySem.Str), ("part" : PySem.Str)] (defScope s17) := ⟨rfl, rfl, rfl, by decide +kernel, rfl, by decide +kernel, by decide +kernel⟩
def b_ratio_from : M Fl := (sSeq (sIf (tV (eIsi (kO [(0, true)]) (eV 0))) (sRet (eV 0)) sNil) (sSeq (sIf (tNo (tV (eCd B_is_integer [] (aCons (eV 0) aNil)))) sNo sNil) (sRet (eNd 0 B_Ratio___init__ [.int (1)] (aCons (eV 0) aNil)))))
def B_ratio_from : Beh := mkB 2 2 [] b_ratio_from
def N18 : List Str := [("value" : PySem.Str)]
theorem sc18 : FnScope N18 [("value" : PySem.Str)] (defScope s18) := ⟨rfl, rfl, rfl, by decide +kernel, rfl, by decide +kernel, by decide +kernel⟩
def b_Ratio_of : M Fl := (sRet (eCd B_ratio_from [] (aCons (eV 0) (aCons (eK (.str "value")) aNil))))
def B_Ratio_of : Beh := mkB 1 1 [] b_Ratio_of
def N19 : List Str := [("self" : PySem.Str), ("other" : PySem.Str), ("more" : PySem.Str)]
theorem sc19 : FnScope N19 [("self" : PySem.Str), ("other" : PySem.Str)] (defScope s19) := ⟨rfl, rfl, rfl, by decide +kernel, rfl, by decide +kernel, by decide +kernel⟩
def b_Ratio___add__ : M Fl := (sSeq (sAs 2 (eCd B_ratio_from [] (aCons (eV 1) (aCons (eK (.str "other")) aNil)))) (sRet (eNd 0 B_Ratio___init__ [] (aCons (eB (oP pAdd) (eB (oP pMul) (eFl [(0, 0)] (eV 0)) (eFl [(0, 1)] (eV 2))) (eB (oP pMul) (eFl [(0, 0)] (eV 2)) (eFl [(0, 1)] (eV 0)))) (aCons (eB (oP pMul) (eFl [(0, 1)] (eV 0)) (eFl [(0, 1)] (eV 2))) aNil)))))
def B_Ratio___add__ : Beh := mkB 2 3 [] b_Ratio___add__
def N20 : List Str := [("self" : PySem.Str)]
theorem sc20 : FnScope N20 [("self" : PySem.Str)] (defScope s20) := ⟨rfl, rfl, rfl, by decide +kernel, rfl, by decide +kernel, by decide +kernel⟩
def b_Ratio___neg__ : M Fl := (sRet (eNd 0 B_Ratio___init__ [] (aCons (eU (oU pNeg) (eFl [(0, 0)] (eV 0))) (aCons (eFl [(0, 1)] (eV 0)) aNil))))
def B_Ratio___neg__ : Beh := mkB 1 1 [] b_Ratio___neg__
def N21 : List Str := [("self" : PySem.Str), ("other" : PySem.Str)]
theorem sc21 : FnScope N21 [("self" : PySem.Str), ("other" : PySem.Str)] (defScope s21) := ⟨rfl, rfl, rfl, by decide +kernel, rfl, by decide +kernel, by decide +kernel⟩
def b_Ratio___sub__ : M Fl := (sRet (eB (oW [(0, B_Ratio___add__)] ["int"] [0] pAdd) (eV 0) (eU (oC1 [(0, B_Ratio___neg__)] pNeg) (eCd B_ratio_from [] (aCons (eV 1) (aCons (eK (.str "other")) aNil))))))
def B_Ratio___sub__ : Beh := mkB 2 2 [] b_Ratio___sub__
def N22 : List Str := [("self" : PySem.Str), ("other" : PySem.Str), ("times" : PySem.Str)]
theorem sc22 : FnScope N22 [("self" : PySem.Str), ("other" : PySem.Str)] (defScope s22) := ⟨rfl, rfl, rfl, by decide +kernel, rfl, by decide +kernel, by decide +kernel⟩
def b_Ratio___mul__ : M Fl := (sSeq (sAs 2 (eCd B_ratio_from [] (aCons (eV 1) (aCons (eK (.str "other")) aNil)))) (sRet (eNd 0 B_Ratio___init__ [] (aCons (eB (oP pMul) (eFl [(0, 0)] (eV 0)) (eFl [(0, 0)] (eV 2))) (aCons (eB (oP pMul) (eFl [(0, 1)] (eV 0)) (eFl [(0, 1)] (eV 2))) aNil)))))
def B_Ratio___mul__ : Beh := mkB 2 3 [] b_Ratio___mul__
def N23 : List Str := [("ratios" : PySem.Str), ("total" : PySem.Str), ("each" : PySem.Str)]
theorem sc23 : FnScope N23 [("ratios" : PySem.Str)] (defScope s23) := ⟨rfl, rfl, rfl, by decide +kernel, rfl, by decide +kernel, by decide +kernel⟩
def b_summed : M Fl := (sSeq (sIf (tNo (tV (eCd B_are_ratios [] (aCons (eV 0) aNil)))) sNo sNil) (sSeq (sAs 1 (eNd 0 B_Ratio___init__ [.int (1)] (aCons (eK (.int 0)) aNil))) (sSeq (sFor (itL (eV 0)) (gN 2) (sAs 1 (eB (oW [(0, B_Ratio___add__)] ["int"] [0] pAdd) (eV 1) (eV 2)))) (sRet (eV 1)))))
def B_summed : Beh := mkB 1 3 [] b_summed
def N24 : List Str := [("one" : PySem.Str), ("other" : PySem.Str), ("mine" : PySem.Str), ("its" : PySem.Str)]
theorem sc24 : FnScope N24 [("one" : PySem.Str), ("other" : PySem.Str)] (defScope s24) := ⟨rfl, rfl, rfl, by decide +kernel, rfl, by decide +kernel, by decide +kernel⟩
def b_product_at : M Fl := (sRet (eB (oW [(0, B_Ratio___sub__)] ["int"] [0] pSub) (eB (oW [(0, B_Ratio___mul__)] ["int"] [0] pMul) (eFl [(2, 0)] (eV 0)) (eFl [(2, 0)] (eV 1))) (eCd B_summed [] (aCons (eLc [2, 3] (itN pZip (aCons (eFl [(2, 1)] (eV 0)) (aCons (eFl [(2, 1)] (eV 1)) aNil))) (gT [(gN 2), (gN 3)]) tY (eB (oW [(0, B_Ratio___mul__)] ["int"] [0] pMul) (eV 2) (eV 3))) aNil))))
def B_product_at : Beh := mkB 2 4 [] b_product_at
def N25 : List Str := [("self" : PySem.Str)]
theorem sc25 : FnScope N25 [("self" : PySem.Str)] (defScope s25) := ⟨rfl, rfl, rfl, by decide +kernel, rfl, by decide +kernel, by decide +kernel⟩
def b_Ratio_sign : M Fl := (sRet (eB (oP pSub) (eN pInt (aCons (eB (oP pGt) (eFl [(0, 0)] (eV 0)) (eK (.int 0))) aNil)) (eN pInt (aCons (eB (oP pLt) (eFl [(0, 0)] (eV 0)) (eK (.int 0))) aNil))))
def B_Ratio_sign : Beh := mkB 1 1 [] b_Ratio_sign
def N26 : List Str := [("time" : PySem.Str), ("square" : PySem.Str)]
theorem sc26 : FnScope N26 [("time" : PySem.Str), ("square" : PySem.Str)] (defScope s26) := ⟨rfl, rfl, rfl, by decide +kernel, rfl, by decide +kernel, by decide +kernel⟩
def b_kind_by : M Fl := (sSeq (sIf (tV (eB (oP pLt) (ePr [(0, B_Ratio_sign)] (eV 1)) (eK (.int 0)))) (sRet (eK (.str "apart"))) sNil) (sSeq (sIf (tV (eB (oP pEq) (ePr [(0, B_Ratio_sign)] (eV 0)) (eK (.int 0)))) (sRet (eK (.str "nothing"))) sNil) (sRet (eIf (tV (eB (oP pGt) (ePr [(0, B_Ratio_sign)] (eV 0)) (eK (.int 0)))) (eK (.str "forward")) (eK (.str "backward"))))))
def B_kind_by : Beh := mkB 2 2 [] b_kind_by
def N27 : List Str := [("self" : PySem.Str), ("time" : PySem.Str), ("place" : PySem.Str), ("each" : PySem.Str)]
theorem sc27 : FnScope N27 [("self" : PySem.Str), ("time" : PySem.Str), ("place" : PySem.Str)] (defScope s27) := ⟨rfl, rfl, rfl, by decide +kernel, rfl, by decide +kernel, by decide +kernel⟩
def b_Step___init__ : M Fl := (sSeq (sIf (tNo (tV (eCd B_is_ratio [] (aCons (eV 1) aNil)))) sNo sNil) (sSeq (sIf (tOn (tNo (tV (eCd B_are_ratios [] (aCons (eV 2) aNil)))) (tNo (tV (eChain (oP pLe) (oP pLe) (eK (.int 1)) (eN pLen (aCons (eV 2) aNil)) (eK (.int (3))))))) sNo sNil) (sSeq (sFl 0 [(2, 0)] (eCd B_Ratio_of [] (aCons (eV 1) aNil))) (sSeq (sFl 0 [(2, 1)] (eN pTuple (aCons (eLc [3] (itL (eV 2)) (gN 3) tY (eCd B_Ratio_of [] (aCons (eV 3) aNil))) aNil))) (sSeq (sFl 0 [(2, 2)] (eN pLen (aCons (eFl [(2, 1)] (eS (fun _ => true) 0)) aNil))) (sSeq (sFl 0 [(2, 3)] (eCd B_product_at [] (aCons (eS (fun _ => true) 0) (aCons (eS (fun _ => true) 0) aNil)))) (sFl 0 [(2, 4)] (eCd B_kind_by [] (aCons (eFl [(2, 0)] (eS (fun _ => true) 0)) (aCons (eFl [(2, 3)] (eS (fun _ => true) 0)) aNil))))))))))
def B_Step___init__ : Beh := mkB 3 4 [0] b_Step___init__
def N28 : List Str := [("self" : PySem.Str), ("axes" : PySem.Str), ("spots" : PySem.Str), ("name" : PySem.Str)]
theorem sc28 : FnScope N28 [("self" : PySem.Str), ("axes" : PySem.Str), ("spots" : PySem.Str)] (defScope s28) := ⟨rfl, rfl, rfl, by decide +kernel, rfl, by decide +kernel, by decide +kernel⟩
def b_Book___init__ : M Fl := (sSeq (sIf (tNo (tV (eCd B_is_within [] (aCons (eV 1) (aCons (eK (.int 1)) (aCons (eK (.int (3))) aNil)))))) sNo sNil) (sSeq (sIf (tNo (tV (eCd B_are_spots [] (aCons (eV 2) (aCons (eV 1) aNil))))) sNo sNil) (sSeq (sIf (tV (eB (oP pGt) (eN pDlen (aCons (eV 2) aNil)) (eK (.int (8))))) sNo sNil) (sSeq (sFl 0 [(3, 0)] (eV 1)) (sSeq (sFl 0 [(3, 1)] (eN pTuple (aCons (eN pSorted (aCons (eN pDlist (aCons (eV 2) aNil)) aNil)) aNil))) (sSeq (sFl 0 [(3, 2)] (eLk (eDc [3] (itL (eFl [(3, 1), (26, 0)] (eS (fun _ => true) 0))) (gN 3) tY (eV 3) (eNd 2 B_Step___init__ [] (aCons (eB (oP pIx) (eB (oP pDix) (eV 2) (eV 3)) (eK (.int 0))) (aCons (eB (oP pIx) (eB (oP pDix) (eV 2) (eV 3)) (eK (.int 1))) aNil)))))) (sEx (eCd B_need_unlike [] (aCons (eFl [(3, 1), (26, 0)] (eS (fun _ => true) 0)) (aCons (eFl [(3, 2)] (eS (fun _ => true) 0)) aNil))))))))))
def B_Book___init__ : Beh := mkB 3 4 [0] b_Book___init__
def N29 : List Str := [("_law_plain_here" : PySem.Str), ("_law_bottom" : PySem.Str), ("_law_spots" : PySem.Str), ("_law_name" : PySem.Str)]
theorem sc29 : FnScope N29 [("_law_plain_here" : PySem.Str), ("_law_bottom" : PySem.Str)] (defScope s29) := ⟨rfl, rfl, rfl, by decide +kernel, rfl, by decide +kernel, by decide +kernel⟩
def b__law_book : M Fl := (sSeq (sAs 2 (eLc [3] (itK (eV 0)) (gN 3) tY (eN pTup (aCons (eV 3) (aCons (eN pTup (aCons (eNd 0 B_Ratio___init__ [] (aCons (eB (oP pAdd) (eB (oP pIx) (eB (oP pDix) (eV 0) (eV 3)) (eK (.int 0))) (eB (oP pIx) (eB (oP pDix) (eV 0) (eV 3)) (eK (.int 1)))) (aCons (eB (oP pMul) (eK (.int 2)) (eV 1)) aNil))) (aCons (eN pLst (aCons (eNd 0 B_Ratio___init__ [] (aCons (eB (oP pSub) (eB (oP pIx) (eB (oP pDix) (eV 0) (eV 3)) (eK (.int 1))) (eB (oP pIx) (eB (oP pDix) (eV 0) (eV 3)) (eK (.int 0)))) (aCons (eB (oP pMul) (eK (.int 2)) (eV 1)) aNil))) aNil)) aNil))) aNil))))) (sRet (eNd 3 B_Book___init__ [] (aCons (eK (.int 1)) (aCons (eLk (eN pDict (aCons (eV 2) aNil))) aNil)))))
def B__law_book : Beh := mkB 2 4 [] b__law_book
def N30 : List Str := [("book" : PySem.Str)]
theorem sc30 : FnScope N30 [("book" : PySem.Str)] (defScope s30) := ⟨rfl, rfl, rfl, by decide +kernel, rfl, by decide +kernel, by decide +kernel⟩
def b_need_book : M Fl := (sIf (tNo (tV (eIsi (kO [(3, true)]) (eV 0)))) sNo sNil)
def B_need_book : Beh := mkB 1 1 [] b_need_book
def N31 : List Str := [("values" : PySem.Str), ("known" : PySem.Str), ("each" : PySem.Str)]
theorem sc31 : FnScope N31 [("values" : PySem.Str)] (defScope s31) := ⟨rfl, rfl, rfl, by decide +kernel, rfl, by decide +kernel, by decide +kernel⟩
def b_first_twice : M Fl := (sSeq (sAsF 1 eDic0) (sSeq (sFor (itL (eV 0)) (gN 2) (sSeq (sIf (tV (eInDO 1 (eV 2))) (sRet (eV 2)) sNil) (sDix 1 (eK (.bl true)) (eV 2)))) (sRet (eK .non))))
def B_first_twice : Beh := mkB 1 3 [] b_first_twice
def N32 : List Str := [("self" : PySem.Str), ("value" : PySem.Str)]
theorem sc32 : FnScope N32 [("self" : PySem.Str), ("value" : PySem.Str)] (defScope s32) := ⟨rfl, rfl, rfl, by decide +kernel, rfl, by decide +kernel, by decide +kernel⟩
def b_Book___contains__ : M Fl := (sRet (eB (oP pIn) (eV 1) (eFl [(3, 1), (26, 0)] (eV 0))))
def B_Book___contains__ : Beh := mkB 2 2 [] b_Book___contains__
def N33 : List Str := [("book" : PySem.Str), ("names" : PySem.Str), ("name" : PySem.Str), ("again" : PySem.Str)]
theorem sc33 : FnScope N33 [("book" : PySem.Str), ("names" : PySem.Str)] (defScope s33) := ⟨rfl, rfl, rfl, by decide +kernel, rfl, by decide +kernel, by decide +kernel⟩
def b_need_some : M Fl := (sSeq (sIf (tOn (tNo (tV (eCd B_is_listed [] (aCons (eV 1) aNil)))) (tV (eB (oP pEq) (eN pLen (aCons (eV 1) aNil)) (eK (.int 0))))) sNo sNil) (sSeq (sFor (itL (eV 1)) (gN 2) (sIf (tV (eB (oInC true [(3, B_Book___contains__)] pNotIn) (eV 2) (eV 0))) sNo sNil)) (sSeq (sAs 3 (eCd B_first_twice [] (aCons (eV 1) aNil))) (sIf (tV (eNotN (eV 3))) sNo sNil))))
def B_need_some : Beh := mkB 2 4 [] b_need_some
def N34 : List Str := [("book" : PySem.Str)]
theorem sc34 : FnScope N34 [("book" : PySem.Str)] (defScope s34) := ⟨rfl, rfl, rfl, by decide +kernel, rfl, by decide +kernel, by decide +kernel⟩
def b_need_road : M Fl := (sIf (tV (eB (oP pNe) (eFl [(2, 2), (3, 0)] (eV 0)) (eK (.int 1)))) sNo sNil)
def B_need_road : Beh := mkB 1 1 [] b_need_road
def N35 : List Str := [("ratios" : PySem.Str), ("common" : PySem.Str), ("each" : PySem.Str), ("known" : PySem.Str), ("worth" : PySem.Str)]
theorem sc35 : FnScope N35 [("ratios" : PySem.Str)] (defScope s35) := ⟨rfl, rfl, rfl, by decide +kernel, rfl, by decide +kernel, by decide +kernel⟩
def b_unlike_ascending : M Fl := (sSeq (sAs 1 (eK (.int 1))) (sSeq (sFor (itL (eV 0)) (gN 2) (sAs 1 (eB (oP pDiv) (eB (oP pMul) (eV 1) (eFl [(0, 1)] (eV 2))) (eN pGcd (aCons (eV 1) (aCons (eFl [(0, 1)] (eV 2)) aNil)))))) (sSeq (sAs 3 (eLk (eDc [2] (itL (eV 0)) (gN 2) tY (eB (oP pMul) (eFl [(0, 0)] (eV 2)) (eB (oP pDiv) (eV 1) (eFl [(0, 1)] (eV 2)))) (eV 2)))) (sRet (eTupF (eLc [4] (itL (eN pSortedI (aCons (eN pDlist (aCons (eV 3) aNil)) aNil))) (gN 4) tY (eB (oP pDix) (eV 3) (eV 4))))))))
def B_unlike_ascending : Beh := mkB 1 5 [] b_unlike_ascending
def N36 : List Str := [("value" : PySem.Str)]
theorem sc36 : FnScope N36 [("value" : PySem.Str)] (defScope s36) := ⟨rfl, rfl, rfl, by decide +kernel, rfl, by decide +kernel, by decide +kernel⟩
def b_need_told_book : M Fl := (sIf (tNo (tV (eIsi (kO [(3, true)]) (eV 0)))) sNo sNil)
def B_need_told_book : Beh := mkB 1 1 [] b_need_told_book
def N37 : List Str := [("book" : PySem.Str), ("value" : PySem.Str)]
theorem sc37 : FnScope N37 [("book" : PySem.Str), ("value" : PySem.Str)] (defScope s37) := ⟨rfl, rfl, rfl, by decide +kernel, rfl, by decide +kernel, by decide +kernel⟩
def b_need_happening_telling : M Fl := (sIf (tV (eB (oP pNotIn) (eV 1) (eN pList (aCons (eFl [(3, 1), (26, 0)] (eV 0)) aNil)))) sNo sNil)
def B_need_happening_telling : Beh := mkB 2 2 [] b_need_happening_telling
def N38 : List Str := [("book" : PySem.Str)]
theorem sc38 : FnScope N38 [("book" : PySem.Str)] (defScope s38) := ⟨rfl, rfl, rfl, by decide +kernel, rfl, by decide +kernel, by decide +kernel⟩
def b_need_told_road : M Fl := (sIf (tV (eB (oP pNe) (eFl [(2, 2), (3, 0)] (eV 0)) (eK (.int 1)))) sNo sNil)
def B_need_told_road : Beh := mkB 1 1 [] b_need_told_road
def N39 : List Str := [("book" : PySem.Str), ("value" : PySem.Str)]
theorem sc39 : FnScope N39 [("book" : PySem.Str), ("value" : PySem.Str)] (defScope s39) := ⟨rfl, rfl, rfl, by decide +kernel, rfl, by decide +kernel, by decide +kernel⟩
def b_need_happening_books : M Fl := (sIf (tV (eB (oP pNotIn) (eV 1) (eFl [(3, 1), (26, 0)] (eV 0)))) sNo sNil)
def B_need_happening_books : Beh := mkB 2 2 [] b_need_happening_books
def N40 : List Str := [("self" : PySem.Str), ("name" : PySem.Str)]
theorem sc40 : FnScope N40 [("self" : PySem.Str), ("name" : PySem.Str)] (defScope s40) := ⟨rfl, rfl, rfl, by decide +kernel, rfl, by decide +kernel, by decide +kernel⟩
def b_Book_spot_of : M Fl := (sSeq (sEx (eCd B_need_happening_books [] (aCons (eV 0) (aCons (eV 1) aNil)))) (sRet (eB (oP pDix) (eFl [(3, 2)] (eV 0)) (eV 1))))
def B_Book_spot_of : Beh := mkB 2 2 [] b_Book_spot_of
def N41 : List Str := [("book" : PySem.Str), ("name" : PySem.Str), ("spot" : PySem.Str)]
theorem sc41 : FnScope N41 [("book" : PySem.Str), ("name" : PySem.Str)] (defScope s41) := ⟨rfl, rfl, rfl, by decide +kernel, rfl, by decide +kernel, by decide +kernel⟩
def b_right_of : M Fl := (sSeq (sAs 2 (eMd [(3, B_Book_spot_of)] [] (eV 0) (aCons (eV 1) aNil))) (sRet (eB (oW [(0, B_Ratio___sub__)] ["int"] [0] pSub) (eFl [(2, 0)] (eV 2)) (eB (oP pIx) (eFl [(2, 1)] (eV 2)) (eK (.int 0))))))
def B_right_of : Beh := mkB 2 3 [] b_right_of
def N42 : List Str := [("book" : PySem.Str), ("name" : PySem.Str)]
theorem sc42 : FnScope N42 [("book" : PySem.Str), ("name" : PySem.Str)] (defScope s42) := ⟨rfl, rfl, rfl, by decide +kernel, rfl, by decide +kernel, by decide +kernel⟩
def b_light_right : M Fl := (sSeq (sEx (eCd B_need_told_book [] (aCons (eV 0) aNil))) (sSeq (sEx (eCd B_need_happening_telling [] (aCons (eV 0) (aCons (eV 1) aNil)))) (sSeq (sEx (eCd B_need_told_road [] (aCons (eV 0) aNil))) (sRet (eCd B_right_of [] (aCons (eV 0) (aCons (eV 1) aNil)))))))
def B_light_right : Beh := mkB 2 2 [] b_light_right
def N43 : List Str := [("book" : PySem.Str), ("name" : PySem.Str), ("spot" : PySem.Str)]
theorem sc43 : FnScope N43 [("book" : PySem.Str), ("name" : PySem.Str)] (defScope s43) := ⟨rfl, rfl, rfl, by decide +kernel, rfl, by decide +kernel, by decide +kernel⟩
def b_left_of : M Fl := (sSeq (sAs 2 (eMd [(3, B_Book_spot_of)] [] (eV 0) (aCons (eV 1) aNil))) (sRet (eB (oW [(0, B_Ratio___add__)] ["int"] [0] pAdd) (eFl [(2, 0)] (eV 2)) (eB (oP pIx) (eFl [(2, 1)] (eV 2)) (eK (.int 0))))))
def B_left_of : Beh := mkB 2 3 [] b_left_of
def N44 : List Str := [("book" : PySem.Str), ("name" : PySem.Str)]
theorem sc44 : FnScope N44 [("book" : PySem.Str), ("name" : PySem.Str)] (defScope s44) := ⟨rfl, rfl, rfl, by decide +kernel, rfl, by decide +kernel, by decide +kernel⟩
def b_light_left : M Fl := (sSeq (sEx (eCd B_need_told_book [] (aCons (eV 0) aNil))) (sSeq (sEx (eCd B_need_happening_telling [] (aCons (eV 0) (aCons (eV 1) aNil)))) (sSeq (sEx (eCd B_need_told_road [] (aCons (eV 0) aNil))) (sRet (eCd B_left_of [] (aCons (eV 0) (aCons (eV 1) aNil)))))))
def B_light_left : Beh := mkB 2 2 [] b_light_left
def N45 : List Str := [("self" : PySem.Str), ("book" : PySem.Str), ("right" : PySem.Str), ("left" : PySem.Str), ("name" : PySem.Str)]
theorem sc45 : FnScope N45 [("self" : PySem.Str), ("book" : PySem.Str)] (defScope s45) := ⟨rfl, rfl, rfl, by decide +kernel, rfl, by decide +kernel, by decide +kernel⟩
def b_Lights___init__ : M Fl := (sSeq (sAs 2 (eLk (eDc [4] (itL (eFl [(3, 1), (26, 0)] (eV 1))) (gN 4) tY (eV 4) (eCd B_light_right [] (aCons (eV 1) (aCons (eV 4) aNil)))))) (sSeq (sAs 3 (eLk (eDc [4] (itL (eFl [(3, 1), (26, 0)] (eV 1))) (gN 4) tY (eV 4) (eCd B_light_left [] (aCons (eV 1) (aCons (eV 4) aNil)))))) (sSeq (sFl 0 [(26, 0)] (eFl [(3, 1), (26, 0)] (eV 1))) (sSeq (sFl 0 [(26, 1)] (eCd B_unlike_ascending [] (aCons (eLc [4] (itL (eFl [(3, 1), (26, 0)] (eV 1))) (gN 4) tY (eB (oP pDix) (eV 2) (eV 4))) aNil))) (sSeq (sFl 0 [(26, 2)] (eCd B_unlike_ascending [] (aCons (eLc [4] (itL (eFl [(3, 1), (26, 0)] (eV 1))) (gN 4) tY (eB (oP pDix) (eV 3) (eV 4))) aNil))) (sSeq (sRanks (fun _ => true) 0 [(26, 3)] (itL (eFl [(3, 1), (26, 0)] (eV 1))) (gN 4) (eN pTup (aCons (eB (oP pAdd) (eIndexG [(0, B_Ratio___eq__)] ["int"] [0] (eFl [(26, 1)] (eV 0)) (eB (oP pDix) (eV 2) (eV 4))) (eK (.int 1))) (aCons (eB (oP pAdd) (eIndexG [(0, B_Ratio___eq__)] ["int"] [0] (eFl [(26, 2)] (eV 0)) (eB (oP pDix) (eV 3) (eV 4))) (eK (.int 1))) aNil))) (eV 4)) (sFl 0 [(26, 4)] (eN pTup (aCons (eLenF (eFl [(26, 1)] (eS (fun _ => true) 0))) (aCons (eLenF (eFl [(26, 2)] (eS (fun _ => true) 0))) aNil))))))))))
def B_Lights___init__ : Beh := mkB 2 5 [0] b_Lights___init__
def N46 : List Str := [("lights" : PySem.Str), ("names" : PySem.Str), ("side" : PySem.Str), ("turned" : PySem.Str), ("name" : PySem.Str)]
theorem sc46 : FnScope N46 [("lights" : PySem.Str), ("names" : PySem.Str), ("side" : PySem.Str)] (defScope s46) := ⟨rfl, rfl, rfl, by decide +kernel, rfl, by decide +kernel, by decide +kernel⟩
def b_greatest_name : M Fl := (sSeq (sAs 3 (eLc [4] (itL (eV 1)) (gN 4) tY (eN pTup (aCons (eB (oP pIx) (eB (oP pDix) (eFl [(26, 3)] (eV 0)) (eV 4)) (eV 2)) (aCons (eB (oP pIx) (eB (oP pDix) (eFl [(26, 3)] (eV 0)) (eV 4)) (eB (oP pSub) (eK (.int 1)) (eV 2))) (aCons (eV 4) aNil)))))) (sRet (eB (oP pIx) (eN pMaxD (aCons (eV 3) aNil)) (eK (.int 2)))))
def B_greatest_name : Beh := mkB 3 5 [] b_greatest_name
def N47 : List Str := [("book" : PySem.Str), ("names" : PySem.Str), ("lights" : PySem.Str), ("ends" : PySem.Str), ("side" : PySem.Str)]
theorem sc47 : FnScope N47 [("book" : PySem.Str), ("names" : PySem.Str)] (defScope s47) := ⟨rfl, rfl, rfl, by decide +kernel, rfl, by decide +kernel, by decide +kernel⟩
def b_least_bringing : M Fl := (sSeq (sEx (eCd B_need_book [] (aCons (eV 0) aNil))) (sSeq (sEx (eCd B_need_some [] (aCons (eV 0) (aCons (eV 1) aNil)))) (sSeq (sEx (eCd B_need_road [] (aCons (eV 0) aNil))) (sSeq (sAs 2 (eNd 26 B_Lights___init__ [] (aCons (eV 0) aNil))) (sSeq (sAsF 3 (eDc [4] (itL (eN pTup (aCons (eK (.int 0)) (aCons (eK (.int 1)) aNil)))) (gN 4) tY (eCd B_greatest_name [] (aCons (eV 2) (aCons (eV 1) (aCons (eV 4) aNil)))) (eK (.bl true)))) (sRet (eN pTuple (aCons (eN pSorted (aCons (eN pDlist (aCons (eV 3) aNil)) aNil)) aNil))))))))
def B_least_bringing : Beh := mkB 2 5 [] b_least_bringing
def N48 : List Str := [("_law_plain_here" : PySem.Str), ("_law_crowd" : PySem.Str), ("_law_name" : PySem.Str)]
theorem sc48 : FnScope N48 [("_law_plain_here" : PySem.Str), ("_law_crowd" : PySem.Str)] (defScope s48) := ⟨rfl, rfl, rfl, by decide +kernel, rfl, by decide +kernel, by decide +kernel⟩
def b__law_meet : M Fl := (sRet (eN pTup (aCons (eN pMax1 (aCons (eLc [2] (itL (eV 1)) (gN 2) tY (eB (oP pIx) (eB (oP pDix) (eV 0) (eV 2)) (eK (.int 0)))) aNil)) (aCons (eN pMax1 (aCons (eLc [2] (itL (eV 1)) (gN 2) tY (eB (oP pIx) (eB (oP pDix) (eV 0) (eV 2)) (eK (.int 1)))) aNil)) aNil))))
def B__law_meet : Beh := mkB 2 3 [] b__law_meet
def N49 : List Str := [("_law_plain_here" : PySem.Str), ("_law_crowd" : PySem.Str), ("_law_right" : PySem.Str), ("_law_left" : PySem.Str), ("_law_one" : PySem.Str), ("_law_other" : PySem.Str), ("_law_both" : PySem.Str), ("_law_name" : PySem.Str)]
theorem sc49 : FnScope N49 [("_law_plain_here" : PySem.Str), ("_law_crowd" : PySem.Str)] (defScope s49) := ⟨rfl, rfl, rfl, by decide +kernel, rfl, by decide +kernel, by decide +kernel⟩
def b__law_least : M Fl := (sSeq (sTg (gT [(gN 2), (gN 3)]) (eCd B__law_meet [] (aCons (eV 0) (aCons (eV 1) aNil)))) (sSeq (sAs 4 (eB (oP pIx) (eN pMaxD (aCons (eLc [7] (itL (eV 1)) (gN 7) (tV (eB (oP pEq) (eB (oP pIx) (eB (oP pDix) (eV 0) (eV 7)) (eK (.int 0))) (eV 2))) (eN pTup (aCons (eB (oP pIx) (eB (oP pDix) (eV 0) (eV 7)) (eK (.int 1))) (aCons (eV 7) aNil)))) aNil)) (eK (.int 1)))) (sSeq (sAs 5 (eB (oP pIx) (eN pMaxD (aCons (eLc [7] (itL (eV 1)) (gN 7) (tV (eB (oP pEq) (eB (oP pIx) (eB (oP pDix) (eV 0) (eV 7)) (eK (.int 1))) (eV 3))) (eN pTup (aCons (eB (oP pIx) (eB (oP pDix) (eV 0) (eV 7)) (eK (.int 0))) (aCons (eV 7) aNil)))) aNil)) (eK (.int 1)))) (sSeq (sAs 6 (eLc [7] (itL (eV 1)) (gN 7) (tV (eB (oP pEq) (eB (oP pDix) (eV 0) (eV 7)) (eN pTup (aCons (eV 2) (aCons (eV 3) aNil))))) (eV 7))) (sRet (eIf (tV (eB (oP pNe) (eV 6) (eN pLst aNil))) (eN pTuple (aCons (eV 6) aNil)) (eN pTuple (aCons (eN pSorted (aCons (eN pLst (aCons (eV 4) (aCons (eV 5) aNil))) aNil)) aNil))))))))
def B__law_least : Beh := mkB 2 8 [] b__law_least
def N50 : List Str := [("self" : PySem.Str), ("state" : PySem.Str), ("name" : PySem.Str)]
theorem sc50 : FnScope N50 [("self" : PySem.Str), ("state" : PySem.Str)] (defScope s50) := ⟨rfl, rfl, rfl, by decide +kernel, rfl, by decide +kernel, by decide +kernel⟩
def b_Lights_seen_in : M Fl := (sRet (eLc [2] (itL (eFl [(3, 1), (26, 0)] (eV 0))) (gN 2) (tAn (tV (eB (oP pLe) (eB (oP pIx) (eB (oP pDix) (eFl [(26, 3)] (eV 0)) (eV 2)) (eK (.int 0))) (eB (oP pIx) (eV 1) (eK (.int 0))))) (tV (eB (oP pLe) (eB (oP pIx) (eB (oP pDix) (eFl [(26, 3)] (eV 0)) (eV 2)) (eK (.int 1))) (eB (oP pIx) (eV 1) (eK (.int 1)))))) (eV 2)))
def B_Lights_seen_in : Beh := mkB 2 3 [] b_Lights_seen_in
def N51 : List Str := [("lights" : PySem.Str), ("names" : PySem.Str), ("ranks" : PySem.Str), ("name" : PySem.Str), ("rank" : PySem.Str)]
theorem sc51 : FnScope N51 [("lights" : PySem.Str), ("names" : PySem.Str)] (defScope s51) := ⟨rfl, rfl, rfl, by decide +kernel, rfl, by decide +kernel, by decide +kernel⟩
def b_meet_of_ranks : M Fl := (sSeq (sAs 2 (eLc [3] (itL (eV 1)) (gN 3) tY (eB (oP pDix) (eFl [(26, 3)] (eV 0)) (eV 3)))) (sRet (eN pTup (aCons (eN pMax1 (aCons (eLc [4] (itL (eV 2)) (gN 4) tY (eB (oP pIx) (eV 4) (eK (.int 0)))) aNil)) (aCons (eN pMax1 (aCons (eLc [4] (itL (eV 2)) (gN 4) tY (eB (oP pIx) (eV 4) (eK (.int 1)))) aNil)) aNil)))))
def B_meet_of_ranks : Beh := mkB 2 5 [] b_meet_of_ranks
def N52 : List Str := [("lights" : PySem.Str), ("names" : PySem.Str)]
theorem sc52 : FnScope N52 [("lights" : PySem.Str), ("names" : PySem.Str)] (defScope s52) := ⟨rfl, rfl, rfl, by decide +kernel, rfl, by decide +kernel, by decide +kernel⟩
def b_all_brought : M Fl := (sRet (eMd [(26, B_Lights_seen_in)] [] (eV 0) (aCons (eCd B_meet_of_ranks [] (aCons (eV 0) (aCons (eV 1) aNil))) aNil)))
def B_all_brought : Beh := mkB 2 2 [] b_all_brought
def N53 : List Str := [("book" : PySem.Str), ("names" : PySem.Str)]
theorem sc53 : FnScope N53 [("book" : PySem.Str), ("names" : PySem.Str)] (defScope s53) := ⟨rfl, rfl, rfl, by decide +kernel, rfl, by decide +kernel, by decide +kernel⟩
def b_brought_by : M Fl := (sSeq (sEx (eCd B_need_book [] (aCons (eV 0) aNil))) (sSeq (sEx (eCd B_need_some [] (aCons (eV 0) (aCons (eV 1) aNil)))) (sSeq (sEx (eCd B_need_road [] (aCons (eV 0) aNil))) (sRet (eN pTuple (aCons (eCd B_all_brought [] (aCons (eNd 26 B_Lights___init__ [] (aCons (eV 0) aNil)) (aCons (eV 1) aNil))) aNil))))))
def B_brought_by : Beh := mkB 2 2 [] b_brought_by
def N54 : List Str := [("_law_script" : PySem.Str), ("_law_hat_here" : PySem.Str), ("_law_plain_here" : PySem.Str), ("_law_book_here" : PySem.Str), ("_law_names" : PySem.Str), ("_law_crowd" : PySem.Str), ("_law_told" : PySem.Str), ("_law_kept" : PySem.Str), ("_law_found" : PySem.Str), ("_law_meet_here" : PySem.Str), ("_law_fewest" : PySem.Str), ("_law_part" : PySem.Str), ("_law_name" : PySem.Str)]
theorem sc54 : FnScope N54 [("_law_script" : PySem.Str)] (defScope s54) := ⟨rfl, rfl, rfl, by decide +kernel, rfl, by decide +kernel, by decide +kernel⟩
def b_law : M Fl := (sSeq (sAsF 1 (eCd B__law_hat [] (aCons (eV 0) aNil))) (sSeq (sAs 2 (eCo B__law_plain 1 (aCons (eCo B__law_of 1 (aCons (eN pLst (aCons (eK (.int 4)) (aCons (eK (.int 5)) (aCons (eK (.int 3)) (aCons (eK (.int 5)) (aCons (eK (.int 1)) (aCons (eK (.int 2)) aNil))))))) aNil)) aNil))) (sSeq (sPar [gN 3, gN 4] (aCons (eCd B__law_book [] (aCons (eV 2) (aCons (eCo B__law_of 1 (aCons (eN pLst (aCons (eK (.int 1)) (aCons (eK (.int 2)) (aCons (eK (.int 6)) aNil)))) aNil)) aNil))) (aCons (eN pSortedK (aCons (eV 2) aNil)) aNil))) (sSeq (sFor (itL (eCd B__law_crowds [] (aCons (eV 4) aNil))) (gN 5) (sSeq (sAs 6 (eIf (tV (eB (oP pEq) (eCo B__law_take 1 (aCons (eK (.int 2)) aNil)) (eK (.int 0)))) (eRev (eV 5) (eU (oU pNeg) (eK (.int 1)))) (eV 5))) (sSeq (sTg (gT [(gN 7), (gN 8), (gN 9)]) (eN pTup (aCons (eN pList (aCons (eV 6) aNil)) (aCons (eCd B_least_bringing [] (aCons (eV 3) (aCons (eV 6) aNil))) (aCons (eCd B__law_meet [] (aCons (eV 2) (aCons (eV 5) aNil))) aNil))))) (sSeq (sIf (tOn (tV (eB (oP pNe) (eV 8) (eCd B__law_least [] (aCons (eV 2) (aCons (eV 5) aNil))))) (tOn (tV (eB (oP pNe) (eV 6) (eV 7))) (tV (eB (oP pNe) (eCk B_least_bringing 0 2 [1, 0] [] aNil (aCons (eN pTuple (aCons (eV 6) aNil)) (aCons (eV 3) aNil))) (eV 8))))) (sRet (eK (.bl false))) sNil) (sSeq (sAs 10 (eN pMin1 (aCons (eLc [11] (itL (eCd B__law_crowds [] (aCons (eV 5) aNil))) (gN 11) (tV (eB (oP pEq) (eCd B__law_meet [] (aCons (eV 2) (aCons (eV 11) aNil))) (eV 9))) (eN pLen (aCons (eV 11) aNil))) aNil))) (sSeq (sIf (tOn (tV (eB (oP pNe) (eN pLen (aCons (eV 8) aNil)) (eV 10))) (tOn (tV (eB (oP pNe) (eCd B__law_meet [] (aCons (eV 2) (aCons (eV 8) aNil))) (eV 9))) (tV (eB (oP pNe) (eLc [12] (itL (eV 8)) (gN 12) (tV (eB (oP pNotIn) (eV 12) (eV 5))) (eV 12)) (eN pLst aNil))))) (sRet (eK (.bl false))) sNil) (sIf (tOn (tV (eB (oP pNe) (eCd B_brought_by [] (aCons (eV 3) (aCons (eV 8) aNil))) (eCd B_brought_by [] (aCons (eV 3) (aCons (eV 5) aNil))))) (tV (eB (oP pNe) (eCd B_least_bringing [] (aCons (eV 3) (aCons (eN pList (aCons (eV 8) aNil)) aNil))) (eV 8)))) (sRet (eK (.bl false))) sNil))))))) (sRet (eK (.bl true)))))))
def B_law : Beh := mkB 1 13 [] b_law
end Kw
namespace Kw
open PySem PySem.Spec PyProof.Rows L2 Z
structure Hy (K : PySem.W.Frag) (mg : Str → Option Value) (base : Heap) : Prop where
  c : SaysZ fz fn K
  X0 : K.In base
  G0 : base.Ns mainGlobals mg
theorem clo0 {K : PySem.W.Frag} {mg : Str → Option Value} {base : Heap} (h : Hy K mg base) : Cls (gm K).K ((gm K).cA 0) ∧ ∀ f ∈ [("top" : PySem.Str), ("bottom" : PySem.Str)], NoAttr (gm K).K ((gm K).cA 0) f := noat_all (h.c.fact 96)
theorem co0 {K : PySem.W.Frag} {mg : Str → Option Value} {base : Heap} (h : Hy K mg base) : ClsOk (gm K) 0 := ⟨(clo0 h).1, (show (lay 0).Nodup by decide +kernel), (show ∀ f ∈ lay 0, f ∈ flds by decide +kernel), (clo0 h).2, (show (lay 0).length ≤ 900 by decide)⟩
theorem ty0 {K : PySem.W.Frag} {mg : Str → Option Value} {base : Heap} (h : Hy K mg base) : TyOk (gm K) 0 := ⟨(clo0 h).1, eqF_ok (He.ba (h.c.fact 97)).1, eqF_ok (He.ba (He.ba (h.c.fact 97)).2).1, eqF_ok (He.ba (He.ba (He.ba (h.c.fact 97)).2).2).1, eqF_ok (He.ba (He.ba (He.ba (h.c.fact 97)).2).2).2⟩
theorem clo2 {K : PySem.W.Frag} {mg : Str → Option Value} {base : Heap} (h : Hy K mg base) : Cls (gm K).K ((gm K).cA 2) ∧ ∀ f ∈ [("time" : PySem.Str), ("place" : PySem.Str), ("axes" : PySem.Str), ("square" : PySem.Str), ("kind" : PySem.Str)], NoAttr (gm K).K ((gm K).cA 2) f := noat_all (h.c.fact 98)
theorem co2 {K : PySem.W.Frag} {mg : Str → Option Value} {base : Heap} (h : Hy K mg base) : ClsOk (gm K) 2 := ⟨(clo2 h).1, (show (lay 2).Nodup by decide +kernel), (show ∀ f ∈ lay 2, f ∈ flds by decide +kernel), (clo2 h).2, (show (lay 2).length ≤ 900 by decide)⟩
theorem ty2 {K : PySem.W.Frag} {mg : Str → Option Value} {base : Heap} (h : Hy K mg base) : TyOk (gm K) 2 := ⟨(clo2 h).1, eqF_ok (He.ba (h.c.fact 99)).1, eqF_ok (He.ba (He.ba (h.c.fact 99)).2).1, eqF_ok (He.ba (He.ba (He.ba (h.c.fact 99)).2).2).1, eqF_ok (He.ba (He.ba (He.ba (h.c.fact 99)).2).2).2⟩
theorem clo3 {K : PySem.W.Frag} {mg : Str → Option Value} {base : Heap} (h : Hy K mg base) : Cls (gm K).K ((gm K).cA 3) ∧ ∀ f ∈ [("axes" : PySem.Str), ("names" : PySem.Str), ("steps" : PySem.Str)], NoAttr (gm K).K ((gm K).cA 3) f := noat_all (h.c.fact 100)
theorem co3 {K : PySem.W.Frag} {mg : Str → Option Value} {base : Heap} (h : Hy K mg base) : ClsOk (gm K) 3 := ⟨(clo3 h).1, (show (lay 3).Nodup by decide +kernel), (show ∀ f ∈ lay 3, f ∈ flds by decide +kernel), (clo3 h).2, (show (lay 3).length ≤ 900 by decide)⟩
theorem ty3 {K : PySem.W.Frag} {mg : Str → Option Value} {base : Heap} (h : Hy K mg base) : TyOk (gm K) 3 := ⟨(clo3 h).1, eqF_ok (He.ba (h.c.fact 101)).1, eqF_ok (He.ba (He.ba (h.c.fact 101)).2).1, eqF_ok (He.ba (He.ba (He.ba (h.c.fact 101)).2).2).1, eqF_ok (He.ba (He.ba (He.ba (h.c.fact 101)).2).2).2⟩
theorem clo26 {K : PySem.W.Frag} {mg : Str → Option Value} {base : Heap} (h : Hy K mg base) : Cls (gm K).K ((gm K).cA 26) ∧ ∀ f ∈ [("names" : PySem.Str), ("right" : PySem.Str), ("left" : PySem.Str), ("ranks" : PySem.Str), ("whole" : PySem.Str)], NoAttr (gm K).K ((gm K).cA 26) f := noat_all (h.c.fact 102)
theorem co26 {K : PySem.W.Frag} {mg : Str → Option Value} {base : Heap} (h : Hy K mg base) : ClsOk (gm K) 26 := ⟨(clo26 h).1, (show (lay 26).Nodup by decide +kernel), (show ∀ f ∈ lay 26, f ∈ flds by decide +kernel), (clo26 h).2, (show (lay 26).length ≤ 900 by decide)⟩
theorem ty26 {K : PySem.W.Frag} {mg : Str → Option Value} {base : Heap} (h : Hy K mg base) : TyOk (gm K) 26 := ⟨(clo26 h).1, eqF_ok (He.ba (h.c.fact 103)).1, eqF_ok (He.ba (He.ba (h.c.fact 103)).2).1, eqF_ok (He.ba (He.ba (He.ba (h.c.fact 103)).2).2).1, eqF_ok (He.ba (He.ba (He.ba (h.c.fact 103)).2).2).2⟩
theorem ok_0 {P : Program} {w : World} {K : PySem.W.Frag} {mg : Str → Option Value} {base : Heap} (h : Hy K mg base) : ∃ fd, FunD K d0.name d0.qual d0.params d0.body d0.scope (d0.dvs K) [] (d0.wh.ad K) fd ∧ FnF P w (gm K) mg base 2 (d0.wh.ad K) fd [("_law_script" : PySem.Str)] 1 B__law_hat := by
  have m_int : mg ("int" : PySem.Str) = none := He.free_ok h.X0 h.G0 (h.c.fact 0)
  have hN : N0.Nodup := sc0.nd
  obtain ⟨fd, F⟩ := h.c.def_ 0 (d := d0) rfl
  exact ⟨fd, F, def_okF (G := gm K) (N := N0) (k := 1) F sc0 rfl fun cdv A outer s H E hr tk => (f_lst (a_cons (e_lcF (vs := [1]) [(("_law_cell" : PySem.Str), 1)] rfl (i_seq (e_sl (e_var 0) i_no (i_so e_int))) (blkOk_by (by kernel_rfl)) (fun _ _ _ _ _ => (g_to (O2 := []) (g_name 1))) (fun _ _ _ _ _ => pts_no) (fun _ _ _ _ _ => (e_toInt (a_cons (e_var 1) a_nil)))).fz (a_cons e_int (a_cons e_int a_nil))))⟩
theorem ok_1 {P : Program} {w : World} {K : PySem.W.Frag} {mg : Str → Option Value} {base : Heap} (h : Hy K mg base) : ∃ fd, FunD K d1.name d1.qual d1.params d1.body d1.scope (d1.dvs K) [] (d1.wh.ad K) fd ∧ FnB P w (gm K) mg base 2 (d1.wh.ad K) fd [("_law_hat_here" : PySem.Str), ("_law_many" : PySem.Str)] 2 [0] B__law_take := by
  have m_int : mg ("int" : PySem.Str) = none := He.free_ok h.X0 h.G0 (h.c.fact 0)
  have m_len : mg ("len" : PySem.Str) = none := He.free_ok h.X0 h.G0 (h.c.fact 1)
  have m_abs : mg ("abs" : PySem.Str) = none := He.free_ok h.X0 h.G0 (h.c.fact 2)
  have hN : N1.Nodup := sc1.nd
  obtain ⟨fd, F⟩ := h.c.def_ 1 (d := d1) rfl
  exact ⟨fd, F, def_ok (G := gm K) (N := N1) (k := 1) (O' := [0]) F sc1 fun cdv A outer s H E hr tk => (s_cons (s_if (t_cmp o_gt (e_ixO 0 e_int) e_int) (s_cons (s_to (O2 := [0]) (s_set 2 (e_toInt (a_cons (e_ixO 0 e_int) a_nil)))) (s_cons (s_ix 0 (e_bin o_div (e_var 2) (e_var 1)) e_int) (s_one (s_ret (e_bin o_mod (e_var 2) (e_var 1)))))) s_nil) (s_cons (s_to (O2 := [0]) (s_set 3 (e_ixO 0 e_int))) (s_cons (s_ix 0 (e_bin o_add (e_var 3) e_int) e_int) (s_cons (s_to (O2 := [0]) (s_set 4 (e_bin o_add (e_bin o_mul e_int (e_var 3)) e_int))) (s_cons (s_if (t_cmp (o_ne hr) (e_ixO 0 e_int) (e_lst a_nil)) (s_one (s_to (O2 := [0]) (s_set 4 (e_ix (e_ixO 0 e_int) (e_bin o_mod (e_toInt (a_cons (e_var 3) a_nil)) (e_len (a_cons (e_ixO 0 e_int) a_nil))))))) s_nil) (s_cons (s_if (t_bo (w_and (t_cmp o_lt (e_var 3) (e_len (a_cons (e_ixO 0 e_int) a_nil))) (w_and1 (t_cmp o_ge (e_abs (a_cons (e_var 4) a_nil)) (e_bin o_pow e_int e_int))))) (s_cons (s_to (O2 := [0]) (s_set 2 (e_bin o_add (e_bin o_mul e_int (e_bin o_sub (e_abs (a_cons (e_toInt (a_cons (e_var 4) a_nil)) a_nil)) (e_bin o_pow e_int e_int))) (e_toInt (a_cons (e_cmp o_lt (e_var 4) e_int) a_nil))))) (s_cons (s_ix 0 (e_bin o_div (e_var 2) (e_var 1)) e_int) (s_one (s_ret (e_bin o_mod (e_toInt (a_cons (e_var 2) a_nil)) (e_var 1)))))) s_nil) (s_cons (s_to (O2 := [0]) (s_set 5 (e_bin o_mod (e_toInt (a_cons (e_bin o_pow (e_bin o_add (e_bin o_add (e_bin o_mod (e_toInt (a_cons (e_var 4) a_nil)) e_int) (e_bin o_mul e_int (e_var 3))) e_int) e_int) a_nil)) e_int))) (s_cons (s_to (O2 := [0]) (s_set 5 (e_bin o_mod (e_toInt (a_cons (e_bin o_pow (e_bin o_add (e_bin o_add (e_bin o_mul (e_var 5) (e_bin o_add (e_bin o_mul e_int (e_var 3)) e_int)) (e_bin o_mul (e_bin o_mul e_int (e_var 3)) (e_var 3))) e_int) e_int) a_nil)) e_int))) (s_one (s_ret (e_bin o_mod (e_toInt (a_cons (e_bin o_div (e_var 5) e_int) a_nil)) (e_var 1))))))))))))⟩
theorem ok_2 {P : Program} {w : World} {K : PySem.W.Frag} {mg : Str → Option Value} {base : Heap} (h : Hy K mg base) : ∃ fd, FunD K d2.name d2.qual d2.params d2.body d2.scope (d2.dvs K) [] (d2.wh.ad K) fd ∧ FnB P w (gm K) mg base 3 (d2.wh.ad K) fd [("_law_hat_here" : PySem.Str), ("_law_some" : PySem.Str)] 2 [0] B__law_of := by
  obtain ⟨fd1, F1, ok1⟩ := ok_1 (P := P) (w := w) h
  have m_len : mg ("len" : PySem.Str) = none := He.free_ok h.X0 h.G0 (h.c.fact 1)
  have g1 : GlOk (gm K) P w mg base 2 ("_law_take" : PySem.Str) 2 [0] B__law_take _ fd1 [("_law_hat_here" : PySem.Str), ("_law_many" : PySem.Str)] := ⟨He.glo_ok h.X0 h.G0 (h.c.fact 3), F1.kp, ok1, ar_of⟩
  have hN : N2.Nodup := sc2.nd
  obtain ⟨fd, F⟩ := h.c.def_ 2 (d := d2) rfl
  exact ⟨fd, F, def_ok (G := gm K) (N := N2) (k := 2) (O' := [0]) F sc2 fun cdv A outer s H E hr tk => (s_one (s_ret (e_ix (e_var 1) (e_callO 0 tk (hr.mono (by decide)) g1 (F1.bindsN (ps := [("_law_hat_here" : PySem.Str), ("_law_many" : PySem.Str)]) fun _ _ _ _ _ _ us hl => match us, hl with | [_, _], _ => rfl) (a_cons (e_len (a_cons (e_var 1) a_nil)) a_nil)))))⟩
theorem ok_3 {P : Program} {w : World} {K : PySem.W.Frag} {mg : Str → Option Value} {base : Heap} (h : Hy K mg base) : ∃ fd, FunD K d3.name d3.qual d3.params d3.body d3.scope (d3.dvs K) [] (d3.wh.ad K) fd ∧ FnB P w (gm K) mg base 4 (d3.wh.ad K) fd [("_law_hat_here" : PySem.Str), ("_law_many" : PySem.Str)] 2 [0] B__law_plain := by
  obtain ⟨fd2, F2, ok2⟩ := ok_2 (P := P) (w := w) h
  obtain ⟨fd1, F1, ok1⟩ := ok_1 (P := P) (w := w) h
  have g2 : GlOk (gm K) P w mg base 3 ("_law_of" : PySem.Str) 2 [0] B__law_of _ fd2 [("_law_hat_here" : PySem.Str), ("_law_some" : PySem.Str)] := ⟨He.glo_ok h.X0 h.G0 (h.c.fact 4), F2.kp, ok2, ar_of⟩
  have g1 : GlOk (gm K) P w mg base 2 ("_law_take" : PySem.Str) 2 [0] B__law_take _ fd1 [("_law_hat_here" : PySem.Str), ("_law_many" : PySem.Str)] := ⟨He.glo_ok h.X0 h.G0 (h.c.fact 3), F1.kp, ok1, ar_of⟩
  have m_max : mg ("max" : PySem.Str) = none := He.free_ok h.X0 h.G0 (h.c.fact 5)
  have m_int : mg ("int" : PySem.Str) = none := He.free_ok h.X0 h.G0 (h.c.fact 0)
  have hN : N3.Nodup := sc3.nd
  obtain ⟨fd, F⟩ := h.c.def_ 3 (d := d3) rfl
  exact ⟨fd, F, def_ok (G := gm K) (N := N3) (k := 3) (O' := [6, 0]) F sc3 fun cdv A outer s H E hr tk => (s_cons (s_to (O2 := [0]) (s_set 2 (e_callO 0 tk (hr.mono (by decide)) g2 (F2.bindsN (ps := [("_law_hat_here" : PySem.Str), ("_law_some" : PySem.Str)]) fun _ _ _ _ _ _ us hl => match us, hl with | [_, _], _ => rfl) (a_cons (e_lst (a_cons (e_lst (a_cons e_str (a_cons e_str (a_cons e_str (a_cons e_str (a_cons e_str (a_cons e_str a_nil))))))) (a_cons (e_lst (a_cons e_str (a_cons e_str (a_cons e_str (a_cons e_str (a_cons e_str (a_cons e_str a_nil))))))) (a_cons (e_lst (a_cons e_str (a_cons e_str (a_cons e_str (a_cons e_str (a_cons e_str (a_cons e_str a_nil))))))) a_nil)))) a_nil)))) (s_cons (s_to (O2 := [0]) (s_par3 3 4 5 (a_cons (e_callO 0 tk (hr.mono (by decide)) g1 (F1.bindsN (ps := [("_law_hat_here" : PySem.Str), ("_law_many" : PySem.Str)]) fun _ _ _ _ _ _ us hl => match us, hl with | [_, _], _ => rfl) (a_cons e_int a_nil)) (a_cons (e_callO 0 tk (hr.mono (by decide)) g2 (F2.bindsN (ps := [("_law_hat_here" : PySem.Str), ("_law_some" : PySem.Str)]) fun _ _ _ _ _ _ us hl => match us, hl with | [_, _], _ => rfl) (a_cons (e_lst (a_cons e_int (a_cons e_int (a_cons e_int (a_cons e_int (a_cons e_int a_nil)))))) a_nil)) (a_cons (e_bin o_sub (e_callO 0 tk (hr.mono (by decide)) g1 (F1.bindsN (ps := [("_law_hat_here" : PySem.Str), ("_law_many" : PySem.Str)]) fun _ _ _ _ _ _ us hl => match us, hl with | [_, _], _ => rfl) (a_cons e_int a_nil)) e_int) a_nil))))) (s_cons (s_to (O2 := [7, 6, 0]) (s_par3L 4 6 7 (e_max2 (a_cons (e_var 4) (a_cons (e_if (t_cmp o_gt (e_var 1) e_int) e_int e_int) a_nil))))) (s_cons (s_for (OL := [7, 6, 0]) [8] (i_seq (e_sl (e_bin o_add (e_sl (e_var 2) (i_so (e_var 3)) i_no) (e_sl (e_var 2) i_no (i_so (e_var 3)))) i_no (i_so (e_var 1)))) (g_to (O2 := [7, 6, 0]) (g_name 8)) (s_cons (s_to (O2 := [7, 6, 0]) (s_set 9 (e_callO 0 tk (hr.mono (by decide)) g1 (F1.bindsN (ps := [("_law_hat_here" : PySem.Str), ("_law_many" : PySem.Str)]) fun _ _ _ _ _ _ us hl => match us, hl with | [_, _], _ => rfl) (a_cons (e_bin o_mul (e_var 4) (e_var 4)) a_nil)))) (s_cons (s_while (OL := [7, 6, 0]) (t_inO 6 hr (e_var 9)) (s_one (s_to (O2 := [7, 6, 0]) (s_set 9 (e_bin o_mod (e_toInt (a_cons (e_bin o_add (e_var 9) e_int) a_nil)) (e_bin o_mul (e_var 4) (e_var 4)))))) (passes_of rfl)) (s_cons (s_app 6 (e_var 9)) (s_one (s_dix 7 hr (e_tup (a_cons (e_bin o_add (e_bin o_div (e_var 9) (e_var 4)) (e_var 5)) (a_cons (e_bin o_sub (e_bin o_mod (e_toInt (a_cons (e_var 9) a_nil)) (e_var 4)) (e_var 5)) a_nil))) (e_var 8)))))) (passes_of rfl)) (s_one (s_ret (e_varD 7)))))))⟩
theorem ok_4 {P : Program} {w : World} {K : PySem.W.Frag} {mg : Str → Option Value} {base : Heap} (h : Hy K mg base) : ∃ fd, FunD K d4.name d4.qual d4.params d4.body d4.scope (d4.dvs K) [] (d4.wh.ad K) fd ∧ FnB P w (gm K) mg base 2 (d4.wh.ad K) fd [("_law_names" : PySem.Str)] 1 [] B__law_crowds := by
  have hN : N4.Nodup := sc4.nd
  obtain ⟨fd, F⟩ := h.c.def_ 4 (d := d4) rfl
  exact ⟨fd, F, def_ok (G := gm K) (N := N4) (k := 1) (O' := []) F sc4 fun cdv A outer s H E hr tk => (s_cons (s_to (O2 := []) (s_set 1 (e_lst (a_cons (e_lst a_nil) a_nil)))) (s_cons (s_for (OL := []) [2] (i_seq (e_var 0)) (g_to (O2 := []) (g_name 2)) (s_one (s_to (O2 := []) (s_set 1 (e_bin o_add (e_var 1) (e_lcF (vs := [3]) [(("_law_some" : PySem.Str), 3)] rfl (i_seq (e_var 1)) (blkOk_by (by kernel_rfl)) (fun _ _ _ _ _ => (g_to (O2 := []) (g_name 3))) (fun _ _ _ _ _ => pts_no) (fun _ _ _ _ _ => (e_bin o_add (e_var 3) (e_lst (a_cons (e_var 2) a_nil))))).fz)))) (passes_of rfl)) (s_one (s_ret (e_sl (e_var 1) (i_so e_int) i_no)))))⟩
theorem ok_5 {P : Program} {w : World} {K : PySem.W.Frag} {mg : Str → Option Value} {base : Heap} (h : Hy K mg base) : ∃ fd, FunD K d5.name d5.qual d5.params d5.body d5.scope (d5.dvs K) [] (d5.wh.ad K) fd ∧ FnB P w (gm K) mg base 2 (d5.wh.ad K) fd [("value" : PySem.Str)] 1 [] B_is_integer := by
  have m_isinstance : mg ("isinstance" : PySem.Str) = none := He.free_ok h.X0 h.G0 (h.c.fact 6)
  have m_int : mg ("int" : PySem.Str) = none := He.free_ok h.X0 h.G0 (h.c.fact 0)
  have m_bool : mg ("bool" : PySem.Str) = none := He.free_ok h.X0 h.G0 (h.c.fact 7)
  have hN : N5.Nodup := sc5.nd
  obtain ⟨fd, F⟩ := h.c.def_ 5 (d := d5) rfl
  exact ⟨fd, F, def_ok (G := gm K) (N := N5) (k := 1) (O' := []) F sc5 fun cdv A outer s H E hr tk => (s_one (s_ret (e_and (e_isi (e_var 0) cv_ty (kn_ty (n := "int") [] mem_nil)) (e_bo1 (e_not (e_isi (e_var 0) cv_ty (kn_ty (n := "bool") [] mem_nil)))))))⟩
theorem ok_6 {P : Program} {w : World} {K : PySem.W.Frag} {mg : Str → Option Value} {base : Heap} (h : Hy K mg base) : ∃ fd, FunD K d6.name d6.qual d6.params d6.body d6.scope (d6.dvs K) [] (d6.wh.ad K) fd ∧ FnB P w (gm K) mg base 3 (d6.wh.ad K) fd [("self" : PySem.Str), ("other" : PySem.Str)] 2 [] B_Ratio___eq__ := by
  obtain ⟨fd5, F5, ok5⟩ := ok_5 (P := P) (w := w) h
  have m_isinstance : mg ("isinstance" : PySem.Str) = none := He.free_ok h.X0 h.G0 (h.c.fact 6)
  have ht_fl_top : ∀ c i, List.lookup c [(0, 0)] = some i → ClsOk (gm K) c ∧ ((gm K).lay c)[i]? = some ("top" : PySem.Str) := (lk_cons ⟨co0 h, rfl⟩ lk_nil)
  have ht_fl_bottom : ∀ c i, List.lookup c [(0, 1)] = some i → ClsOk (gm K) c ∧ ((gm K).lay c)[i]? = some ("bottom" : PySem.Str) := (lk_cons ⟨co0 h, rfl⟩ lk_nil)
  have g5 : GlOk (gm K) P w mg base 2 ("is_integer" : PySem.Str) 1 [] B_is_integer _ fd5 [("value" : PySem.Str)] := ⟨He.glo_ok h.X0 h.G0 (h.c.fact 11), F5.kp, ok5, ar_of⟩
  have hN : N6.Nodup := sc6.nd
  obtain ⟨fd, F⟩ := h.c.def_ 6 (d := d6) rfl
  exact ⟨fd, F, def_ok (G := gm K) (N := N6) (k := 2) (O' := []) F sc6 fun cdv A outer s H E hr tk => (s_cons (s_if (t_val (e_isi (e_var 1) (cv_own (He.glo_ok h.X0 h.G0 (h.c.fact 9))) (kn_own (k := 0) [(0, true)] (lk_cons ⟨ty0 h, eqF_ok (h.c.fact 8)⟩ lk_nil) fun m hm => eqF_ok (List.all_eq_true.mp (h.c.fact 10) m hm)))) (s_one (s_ret (e_and (e_cmp (o_eq hr) (e_fl [(0, 0)] (e_var 0) ht_fl_top) (e_fl [(0, 0)] (e_var 1) ht_fl_top)) (e_bo1 (e_cmp (o_eq hr) (e_fl [(0, 1)] (e_var 0) ht_fl_bottom) (e_fl [(0, 1)] (e_var 1) ht_fl_bottom)))))) s_nil) (s_one (s_ret (e_and (e_call tk (hr.mono (by decide)) g5 (F5.bindsN (ps := [("value" : PySem.Str)]) fun _ _ _ _ _ _ us hl => match us, hl with | [_], _ => rfl) .nil (fun _ => .nil) (a_cons (e_var 1) a_nil)) (e_and (e_cmp (o_eq hr) (e_fl [(0, 1)] (e_var 0) ht_fl_bottom) e_int) (e_bo1 (e_cmp (o_eq hr) (e_fl [(0, 0)] (e_var 0) ht_fl_top) (e_var 1))))))))⟩
theorem ok_7 {P : Program} {w : World} {K : PySem.W.Frag} {mg : Str → Option Value} {base : Heap} (h : Hy K mg base) : ∃ fd, FunD K d7.name d7.qual d7.params d7.body d7.scope (d7.dvs K) [] (d7.wh.ad K) fd ∧ FnB P w (gm K) mg base 5 (d7.wh.ad K) fd [("self" : PySem.Str), ("other" : PySem.Str)] 2 [] B_Step___eq__ := by
  obtain ⟨fd6, F6, ok6⟩ := ok_6 (P := P) (w := w) h
  have m_isinstance : mg ("isinstance" : PySem.Str) = none := He.free_ok h.X0 h.G0 (h.c.fact 6)
  have ht_fl_time : ∀ c i, List.lookup c [(2, 0)] = some i → ClsOk (gm K) c ∧ ((gm K).lay c)[i]? = some ("time" : PySem.Str) := (lk_cons ⟨co2 h, rfl⟩ lk_nil)
  have ht_eq : ∀ c B, List.lookup c [(0, B_Ratio___eq__)] = some B → (∃ f fd ps, OwnOk (gm K) P w mg base 3 ("__eq__" : PySem.Str) c B f fd ps 2) ∧ CmpOk (gm K) ["int"] [0] c := (lk_cons ⟨⟨_, fd6, [("self" : PySem.Str), ("other" : PySem.Str)], (He.meth_ok (h.c.fact 17)).at_, (He.meth_ok (h.c.fact 17)).fn, fn_up ok6 (by decide), F6.bindsN (ps := [("self" : PySem.Str), ("other" : PySem.Str)]) fun _ _ _ _ _ _ us hl => match us, hl with | [_, _], _ => rfl, ar_of⟩, ⟨(mem_cons ⟨by decide, (h.c.fact 15)⟩ mem_nil), (mem_cons (h.c.fact 16) mem_nil)⟩⟩ lk_nil)
  have ht_fl_place : ∀ c i, List.lookup c [(2, 1)] = some i → ClsOk (gm K) c ∧ ((gm K).lay c)[i]? = some ("place" : PySem.Str) := (lk_cons ⟨co2 h, rfl⟩ lk_nil)
  have hN : N7.Nodup := sc7.nd
  obtain ⟨fd, F⟩ := h.c.def_ 7 (d := d7) rfl
  exact ⟨fd, F, def_ok (G := gm K) (N := N7) (k := 4) (O' := []) F sc7 fun cdv A outer s H E hr tk => (s_one (s_ret (e_and (e_isi (e_var 1) (cv_own (He.glo_ok h.X0 h.G0 (h.c.fact 13))) (kn_own (k := 2) [(2, true)] (lk_cons ⟨ty2 h, eqF_ok (h.c.fact 12)⟩ lk_nil) fun m hm => eqF_ok (List.all_eq_true.mp (h.c.fact 14) m hm))) (e_and (e_cmp (o_eqT [(0, B_Ratio___eq__)] ["int"] [0] tk (hr.mono (by decide)) ht_eq) (e_fl [(2, 0)] (e_var 0) ht_fl_time) (e_fl [(2, 0)] (e_var 1) ht_fl_time)) (e_bo1 (e_cmp (o_eqY 0 [(0, B_Ratio___eq__)] ["int"] [0] tk (hr.mono (by decide)) ht_eq) (e_fl [(2, 1)] (e_var 0) ht_fl_place) (e_fl [(2, 1)] (e_var 1) ht_fl_place)))))))⟩
theorem ok_8 {P : Program} {w : World} {K : PySem.W.Frag} {mg : Str → Option Value} {base : Heap} (h : Hy K mg base) : ∃ fd, FunD K d8.name d8.qual d8.params d8.body d8.scope (d8.dvs K) [] (d8.wh.ad K) fd ∧ FnB P w (gm K) mg base 7 (d8.wh.ad K) fd [("names" : PySem.Str), ("spots" : PySem.Str)] 2 [] B_need_unlike := by
  obtain ⟨fd7, F7, ok7⟩ := ok_7 (P := P) (w := w) h
  have m_enumerate : mg ("enumerate" : PySem.Str) = none := He.free_ok h.X0 h.G0 (h.c.fact 18)
  have ht_eq : ∀ c B, List.lookup c [(2, B_Step___eq__)] = some B → (∃ f fd ps, OwnOk (gm K) P w mg base 5 ("__eq__" : PySem.Str) c B f fd ps 2) ∧ CmpOk (gm K) ["int"] [2] c := (lk_cons ⟨⟨_, fd7, [("self" : PySem.Str), ("other" : PySem.Str)], (He.meth_ok (h.c.fact 21)).at_, (He.meth_ok (h.c.fact 21)).fn, fn_up ok7 (by decide), F7.bindsN (ps := [("self" : PySem.Str), ("other" : PySem.Str)]) fun _ _ _ _ _ _ us hl => match us, hl with | [_, _], _ => rfl, ar_of⟩, ⟨(mem_cons ⟨by decide, (h.c.fact 19)⟩ mem_nil), (mem_cons (h.c.fact 20) mem_nil)⟩⟩ lk_nil)
  have hN : N8.Nodup := sc8.nd
  obtain ⟨fd, F⟩ := h.c.def_ 8 (d := d8) rfl
  exact ⟨fd, F, def_ok (G := gm K) (N := N8) (k := 6) (O' := []) F sc8 fun cdv A outer s H E hr tk => (s_one (s_for (OL := []) [2, 3] (i_ent (a_cons (e_var 0) a_nil)) (g_tup (gs_cons (g_to (O2 := []) (g_name 2)) (gs_cons (g_to (O2 := []) (g_name 3)) gs_nil))) (s_one (s_for (OL := []) [4] (i_seq (e_sl (e_var 0) (i_so (e_bin o_add (e_var 2) e_int)) i_no)) (g_to (O2 := []) (g_name 4)) (s_one (s_if (t_cmp (o_eqT [(2, B_Step___eq__)] ["int"] [2] tk (hr.mono (by decide)) ht_eq) (e_dix hr (e_var 1) (e_var 3)) (e_dix hr (e_var 1) (e_var 4))) (s_one s_no) s_nil)) (passes_of rfl))) (passes_of rfl)))⟩
theorem ok_9 {P : Program} {w : World} {K : PySem.W.Frag} {mg : Str → Option Value} {base : Heap} (h : Hy K mg base) : ∃ fd, FunD K d9.name d9.qual d9.params d9.body d9.scope (d9.dvs K) [] (d9.wh.ad K) fd ∧ FnB P w (gm K) mg base 3 (d9.wh.ad K) fd [("value" : PySem.Str), ("least" : PySem.Str), ("most" : PySem.Str)] 3 [] B_is_within := by
  obtain ⟨fd5, F5, ok5⟩ := ok_5 (P := P) (w := w) h
  have g5 : GlOk (gm K) P w mg base 2 ("is_integer" : PySem.Str) 1 [] B_is_integer _ fd5 [("value" : PySem.Str)] := ⟨He.glo_ok h.X0 h.G0 (h.c.fact 11), F5.kp, ok5, ar_of⟩
  have hN : N9.Nodup := sc9.nd
  obtain ⟨fd, F⟩ := h.c.def_ 9 (d := d9) rfl
  exact ⟨fd, F, def_ok (G := gm K) (N := N9) (k := 2) (O' := []) F sc9 fun cdv A outer s H E hr tk => (s_cons (s_if (t_not (t_val (e_call tk (hr.mono (by decide)) g5 (F5.bindsN (ps := [("value" : PySem.Str)]) fun _ _ _ _ _ _ us hl => match us, hl with | [_], _ => rfl) .nil (fun _ => .nil) (a_cons (e_var 0) a_nil)))) (s_one (s_ret e_bl)) s_nil) (s_one (s_ret (e_and (e_or (e_isN (e_var 1)) (e_bo1 (e_cmp o_ge (e_var 0) (e_var 1)))) (e_bo1 (e_or (e_isN (e_var 2)) (e_bo1 (e_cmp o_le (e_var 0) (e_var 2)))))))))⟩
theorem ok_10 {P : Program} {w : World} {K : PySem.W.Frag} {mg : Str → Option Value} {base : Heap} (h : Hy K mg base) : ∃ fd, FunD K d10.name d10.qual d10.params d10.body d10.scope (d10.dvs K) [] (d10.wh.ad K) fd ∧ FnB P w (gm K) mg base 2 (d10.wh.ad K) fd [("value" : PySem.Str)] 1 [] B_is_name := by
  have m_isinstance : mg ("isinstance" : PySem.Str) = none := He.free_ok h.X0 h.G0 (h.c.fact 6)
  have m_str : mg ("str" : PySem.Str) = none := He.free_ok h.X0 h.G0 (h.c.fact 22)
  have m_len : mg ("len" : PySem.Str) = none := He.free_ok h.X0 h.G0 (h.c.fact 1)
  have m_all : mg ("all" : PySem.Str) = none := He.free_ok h.X0 h.G0 (h.c.fact 25)
  have hN : N10.Nodup := sc10.nd
  obtain ⟨fd, F⟩ := h.c.def_ 10 (d := d10) rfl
  exact ⟨fd, F, def_ok (G := gm K) (N := N10) (k := 1) (O' := []) F sc10 fun cdv A outer s H E hr tk => (s_cons (s_if (t_bo (w_or (t_not (t_val (e_isi (e_var 0) cv_ty (kn_ty (n := "str") [] mem_nil)))) (w_or (t_not (t_chain o_le o_le e_int (e_len (a_cons (e_var 0) a_nil)) (e_gint (He.int_ok h.X0 h.G0 (h.c.fact 23))))) (w_or1 (t_cmp o_notIn (e_ix (e_var 0) e_int) (e_gstr (He.str_ok h.X0 h.G0 (h.c.fact 24)))))))) (s_one (s_ret e_bl)) s_nil) (s_one (s_ret (e_all (a_cons (e_lcF (vs := [1]) [(("mark" : PySem.Str), 1)] rfl (i_str (e_var 0)) (blkOk_by (by kernel_rfl)) (fun _ _ _ _ _ => (g_to (O2 := []) (g_name 1))) (fun _ _ _ _ _ => pts_no) (fun _ _ _ _ _ => (e_or (e_cmp o_in (e_var 1) (e_gstr (He.str_ok h.X0 h.G0 (h.c.fact 24)))) (e_bo1 (e_cmp o_in (e_var 1) (e_gstr (He.str_ok h.X0 h.G0 (h.c.fact 26)))))))).fz a_nil)))))⟩
theorem ok_11 {P : Program} {w : World} {K : PySem.W.Frag} {mg : Str → Option Value} {base : Heap} (h : Hy K mg base) : ∃ fd, FunD K d11.name d11.qual d11.params d11.body d11.scope (d11.dvs K) [] (d11.wh.ad K) fd ∧ FnB P w (gm K) mg base 2 (d11.wh.ad K) fd [("value" : PySem.Str)] 1 [] B_is_listed := by
  have m_isinstance : mg ("isinstance" : PySem.Str) = none := He.free_ok h.X0 h.G0 (h.c.fact 6)
  have m_tuple : mg ("tuple" : PySem.Str) = none := He.free_ok h.X0 h.G0 (h.c.fact 27)
  have m_list : mg ("list" : PySem.Str) = none := He.free_ok h.X0 h.G0 (h.c.fact 28)
  have hN : N11.Nodup := sc11.nd
  obtain ⟨fd, F⟩ := h.c.def_ 11 (d := d11) rfl
  exact ⟨fd, F, def_ok (G := gm K) (N := N11) (k := 1) (O' := []) F sc11 fun cdv A outer s H E hr tk => (s_one (s_ret (e_isT (e_var 0) (cvs_cons cv_ty (kn_ty (n := "list") [] mem_nil) (cvs_cons cv_ty (kn_ty (n := "tuple") [] mem_nil) cvs_nil)))))⟩
theorem ok_12 {P : Program} {w : World} {K : PySem.W.Frag} {mg : Str → Option Value} {base : Heap} (h : Hy K mg base) : ∃ fd, FunD K d12.name d12.qual d12.params d12.body d12.scope (d12.dvs K) [] (d12.wh.ad K) fd ∧ FnB P w (gm K) mg base 3 (d12.wh.ad K) fd [("value" : PySem.Str)] 1 [] B_is_ratio := by
  obtain ⟨fd5, F5, ok5⟩ := ok_5 (P := P) (w := w) h
  have m_isinstance : mg ("isinstance" : PySem.Str) = none := He.free_ok h.X0 h.G0 (h.c.fact 6)
  have g5 : GlOk (gm K) P w mg base 2 ("is_integer" : PySem.Str) 1 [] B_is_integer _ fd5 [("value" : PySem.Str)] := ⟨He.glo_ok h.X0 h.G0 (h.c.fact 11), F5.kp, ok5, ar_of⟩
  have hN : N12.Nodup := sc12.nd
  obtain ⟨fd, F⟩ := h.c.def_ 12 (d := d12) rfl
  exact ⟨fd, F, def_ok (G := gm K) (N := N12) (k := 2) (O' := []) F sc12 fun cdv A outer s H E hr tk => (s_one (s_ret (e_or (e_isi (e_var 0) (cv_own (He.glo_ok h.X0 h.G0 (h.c.fact 9))) (kn_own (k := 0) [(0, true)] (lk_cons ⟨ty0 h, eqF_ok (h.c.fact 8)⟩ lk_nil) fun m hm => eqF_ok (List.all_eq_true.mp (h.c.fact 10) m hm))) (e_bo1 (e_call tk (hr.mono (by decide)) g5 (F5.bindsN (ps := [("value" : PySem.Str)]) fun _ _ _ _ _ _ us hl => match us, hl with | [_], _ => rfl) .nil (fun _ => .nil) (a_cons (e_var 0) a_nil))))))⟩
theorem ok_13 {P : Program} {w : World} {K : PySem.W.Frag} {mg : Str → Option Value} {base : Heap} (h : Hy K mg base) : ∃ fd, FunD K d13.name d13.qual d13.params d13.body d13.scope (d13.dvs K) [] (d13.wh.ad K) fd ∧ FnB P w (gm K) mg base 4 (d13.wh.ad K) fd [("value" : PySem.Str)] 1 [] B_are_ratios := by
  obtain ⟨fd11, F11, ok11⟩ := ok_11 (P := P) (w := w) h
  obtain ⟨fd12, F12, ok12⟩ := ok_12 (P := P) (w := w) h
  have g11 : GlOk (gm K) P w mg base 2 ("is_listed" : PySem.Str) 1 [] B_is_listed _ fd11 [("value" : PySem.Str)] := ⟨He.glo_ok h.X0 h.G0 (h.c.fact 29), F11.kp, ok11, ar_of⟩
  have m_all : mg ("all" : PySem.Str) = none := He.free_ok h.X0 h.G0 (h.c.fact 25)
  have g12 : GlOk (gm K) P w mg base 3 ("is_ratio" : PySem.Str) 1 [] B_is_ratio _ fd12 [("value" : PySem.Str)] := ⟨He.glo_ok h.X0 h.G0 (h.c.fact 30), F12.kp, ok12, ar_of⟩
  have hN : N13.Nodup := sc13.nd
  obtain ⟨fd, F⟩ := h.c.def_ 13 (d := d13) rfl
  exact ⟨fd, F, def_ok (G := gm K) (N := N13) (k := 3) (O' := []) F sc13 fun cdv A outer s H E hr tk => (s_one (s_ret (e_and (e_call tk (hr.mono (by decide)) g11 (F11.bindsN (ps := [("value" : PySem.Str)]) fun _ _ _ _ _ _ us hl => match us, hl with | [_], _ => rfl) .nil (fun _ => .nil) (a_cons (e_var 0) a_nil)) (e_bo1 (e_all (a_cons (e_lcF (vs := [1]) [(("each" : PySem.Str), 1)] rfl (i_seq (e_var 0)) (blkOk_by (by kernel_rfl)) (fun _ _ _ _ _ => (g_to (O2 := []) (g_name 1))) (fun _ _ _ _ _ => pts_no) (fun _ _ _ _ _ => (e_call takes_blk (hr.mono (by decide)) g12 (F12.bindsN (ps := [("value" : PySem.Str)]) fun _ _ _ _ _ _ us hl => match us, hl with | [_], _ => rfl) .nil (fun _ => .nil) (a_cons (e_var 1) a_nil)))).fz a_nil))))))⟩
theorem ok_14 {P : Program} {w : World} {K : PySem.W.Frag} {mg : Str → Option Value} {base : Heap} (h : Hy K mg base) : ∃ fd, FunD K d14.name d14.qual d14.params d14.body d14.scope (d14.dvs K) [] (d14.wh.ad K) fd ∧ FnB P w (gm K) mg base 5 (d14.wh.ad K) fd [("value" : PySem.Str), ("axes" : PySem.Str)] 2 [] B_is_spot := by
  obtain ⟨fd11, F11, ok11⟩ := ok_11 (P := P) (w := w) h
  obtain ⟨fd12, F12, ok12⟩ := ok_12 (P := P) (w := w) h
  obtain ⟨fd13, F13, ok13⟩ := ok_13 (P := P) (w := w) h
  have g11 : GlOk (gm K) P w mg base 2 ("is_listed" : PySem.Str) 1 [] B_is_listed _ fd11 [("value" : PySem.Str)] := ⟨He.glo_ok h.X0 h.G0 (h.c.fact 29), F11.kp, ok11, ar_of⟩
  have m_len : mg ("len" : PySem.Str) = none := He.free_ok h.X0 h.G0 (h.c.fact 1)
  have g12 : GlOk (gm K) P w mg base 3 ("is_ratio" : PySem.Str) 1 [] B_is_ratio _ fd12 [("value" : PySem.Str)] := ⟨He.glo_ok h.X0 h.G0 (h.c.fact 30), F12.kp, ok12, ar_of⟩
  have g13 : GlOk (gm K) P w mg base 4 ("are_ratios" : PySem.Str) 1 [] B_are_ratios _ fd13 [("value" : PySem.Str)] := ⟨He.glo_ok h.X0 h.G0 (h.c.fact 31), F13.kp, ok13, ar_of⟩
  have hN : N14.Nodup := sc14.nd
  obtain ⟨fd, F⟩ := h.c.def_ 14 (d := d14) rfl
  exact ⟨fd, F, def_ok (G := gm K) (N := N14) (k := 4) (O' := []) F sc14 fun cdv A outer s H E hr tk => (s_cons (s_if (t_bo (w_or (t_not (t_val (e_call tk (hr.mono (by decide)) g11 (F11.bindsN (ps := [("value" : PySem.Str)]) fun _ _ _ _ _ _ us hl => match us, hl with | [_], _ => rfl) .nil (fun _ => .nil) (a_cons (e_var 0) a_nil)))) (w_or (t_cmp (o_ne hr) (e_len (a_cons (e_var 0) a_nil)) e_int) (w_or1 (t_not (t_val (e_call tk (hr.mono (by decide)) g12 (F12.bindsN (ps := [("value" : PySem.Str)]) fun _ _ _ _ _ _ us hl => match us, hl with | [_], _ => rfl) .nil (fun _ => .nil) (a_cons (e_ix (e_var 0) e_int) a_nil)))))))) (s_one (s_ret e_bl)) s_nil) (s_one (s_ret (e_and (e_call tk (hr.mono (by decide)) g13 (F13.bindsN (ps := [("value" : PySem.Str)]) fun _ _ _ _ _ _ us hl => match us, hl with | [_], _ => rfl) .nil (fun _ => .nil) (a_cons (e_ix (e_var 0) e_int) a_nil)) (e_bo1 (e_cmp (o_eq hr) (e_len (a_cons (e_ix (e_var 0) e_int) a_nil)) (e_var 1)))))))⟩
theorem ok_15 {P : Program} {w : World} {K : PySem.W.Frag} {mg : Str → Option Value} {base : Heap} (h : Hy K mg base) : ∃ fd, FunD K d15.name d15.qual d15.params d15.body d15.scope (d15.dvs K) [] (d15.wh.ad K) fd ∧ FnB P w (gm K) mg base 6 (d15.wh.ad K) fd [("value" : PySem.Str), ("axes" : PySem.Str)] 2 [] B_are_spots := by
  obtain ⟨fd10, F10, ok10⟩ := ok_10 (P := P) (w := w) h
  obtain ⟨fd14, F14, ok14⟩ := ok_14 (P := P) (w := w) h
  have m_isinstance : mg ("isinstance" : PySem.Str) = none := He.free_ok h.X0 h.G0 (h.c.fact 6)
  have m_dict : mg ("dict" : PySem.Str) = none := He.free_ok h.X0 h.G0 (h.c.fact 32)
  have m_len : mg ("len" : PySem.Str) = none := He.free_ok h.X0 h.G0 (h.c.fact 1)
  have m_all : mg ("all" : PySem.Str) = none := He.free_ok h.X0 h.G0 (h.c.fact 25)
  have g10 : GlOk (gm K) P w mg base 2 ("is_name" : PySem.Str) 1 [] B_is_name _ fd10 [("value" : PySem.Str)] := ⟨He.glo_ok h.X0 h.G0 (h.c.fact 33), F10.kp, ok10, ar_of⟩
  have g14 : GlOk (gm K) P w mg base 5 ("is_spot" : PySem.Str) 2 [] B_is_spot _ fd14 [("value" : PySem.Str), ("axes" : PySem.Str)] := ⟨He.glo_ok h.X0 h.G0 (h.c.fact 34), F14.kp, ok14, ar_of⟩
  have hN : N15.Nodup := sc15.nd
  obtain ⟨fd, F⟩ := h.c.def_ 15 (d := d15) rfl
  exact ⟨fd, F, def_ok (G := gm K) (N := N15) (k := 5) (O' := []) F sc15 fun cdv A outer s H E hr tk => (s_cons (s_if (t_bo (w_or (t_not (t_val (e_isi (e_var 0) cv_ty (kn_ty (n := "dict") [] mem_nil)))) (w_or1 (t_cmp (o_eq hr) (e_lenD (a_cons (e_var 0) a_nil)) e_int)))) (s_one (s_ret e_bl)) s_nil) (s_one (s_ret (e_all (a_cons (e_lcF (vs := [2]) [(("name" : PySem.Str), 2)] rfl (i_keys (e_var 0)) (blkOk_by (by kernel_rfl)) (fun _ _ _ _ _ => (g_to (O2 := []) (g_name 2))) (fun _ _ _ _ _ => pts_no) (fun _ _ _ _ _ => (e_and (e_call takes_blk (hr.mono (by decide)) g10 (F10.bindsN (ps := [("value" : PySem.Str)]) fun _ _ _ _ _ _ us hl => match us, hl with | [_], _ => rfl) .nil (fun _ => .nil) (a_cons (e_var 2) a_nil)) (e_bo1 (e_call takes_blk (hr.mono (by decide)) g14 (F14.bindsN (ps := [("value" : PySem.Str), ("axes" : PySem.Str)]) fun _ _ _ _ _ _ us hl => match us, hl with | [_, _], _ => rfl) .nil (fun _ => .nil) (a_cons (e_dix hr (e_var 0) (e_var 2)) (a_cons (e_var 1) a_nil))))))).fz a_nil)))))⟩
theorem ok_16 {P : Program} {w : World} {K : PySem.W.Frag} {mg : Str → Option Value} {base : Heap} (h : Hy K mg base) : ∃ fd, FunD K d16.name d16.qual d16.params d16.body d16.scope (d16.dvs K) [] (d16.wh.ad K) fd ∧ FnB P w (gm K) mg base 3 (d16.wh.ad K) fd [("self" : PySem.Str), ("top" : PySem.Str), ("bottom" : PySem.Str)] 3 [0] B_Ratio___init__ := by
  obtain ⟨fd5, F5, ok5⟩ := ok_5 (P := P) (w := w) h
  have g5 : GlOk (gm K) P w mg base 2 ("is_integer" : PySem.Str) 1 [] B_is_integer _ fd5 [("value" : PySem.Str)] := ⟨He.glo_ok h.X0 h.G0 (h.c.fact 11), F5.kp, ok5, ar_of⟩
  have ht_fs_top : ∀ c i, List.lookup c [(0, 0)] = some i → ClsOk (gm K) c ∧ ((gm K).lay c)[i]? = some ("top" : PySem.Str) := lk_cons ⟨co0 h, rfl⟩ lk_nil
  have ht_fs_bottom : ∀ c i, List.lookup c [(0, 1)] = some i → ClsOk (gm K) c ∧ ((gm K).lay c)[i]? = some ("bottom" : PySem.Str) := lk_cons ⟨co0 h, rfl⟩ lk_nil
  have hN : N16.Nodup := sc16.nd
  obtain ⟨fd, F⟩ := h.c.def_ 16 (d := d16) rfl
  exact ⟨fd, F, def_ok (G := gm K) (N := N16) (k := 2) (O' := [0]) F sc16 fun cdv A outer s H E hr tk => (s_cons (s_if (t_not (t_val (e_call tk (hr.mono (by decide)) g5 (F5.bindsN (ps := [("value" : PySem.Str)]) fun _ _ _ _ _ _ us hl => match us, hl with | [_], _ => rfl) .nil (fun _ => .nil) (a_cons (e_var 1) a_nil)))) (s_one s_no) s_nil) (s_cons (s_if (t_bo (w_or (t_not (t_val (e_call tk (hr.mono (by decide)) g5 (F5.bindsN (ps := [("value" : PySem.Str)]) fun _ _ _ _ _ _ us hl => match us, hl with | [_], _ => rfl) .nil (fun _ => .nil) (a_cons (e_var 2) a_nil)))) (w_or1 (t_cmp (o_eq hr) (e_var 2) e_int)))) (s_one s_no) s_nil) (s_cons (s_to (O2 := [0]) (s_set 3 (e_if (t_cmp o_gt (e_var 2) e_int) (e_gcd (a_cons (e_var 1) (a_cons (e_var 2) a_nil)) (blt_ok h.X0 h.G0 (h.c.fact 35))) (e_un o_neg (e_gcd (a_cons (e_var 1) (a_cons (e_var 2) a_nil)) (blt_ok h.X0 h.G0 (h.c.fact 35))))))) (s_cons (s_fld 0 [(0, 0)] (e_bin o_div (e_var 1) (e_var 3)) ht_fs_top) (s_one (s_fld 0 [(0, 1)] (e_bin o_div (e_var 2) (e_var 3)) ht_fs_bottom))))))⟩
theorem ok_17 {P : Program} {w : World} {K : PySem.W.Frag} {mg : Str → Option Value} {base : Heap} (h : Hy K mg base) : ∃ fd, FunD K d17.name d17.qual d17.params d17.body d17.scope (d17.dvs K) [] (d17.wh.ad K) fd ∧ FnB P w (gm K) mg base 5 (d17.wh.ad K) fd [("value" : PySem.Str), ("part" : PySem.Str)] 2 [] B_ratio_from := by
  obtain ⟨fd5, F5, ok5⟩ := ok_5 (P := P) (w := w) h
  obtain ⟨fd16, F16, ok16⟩ := ok_16 (P := P) (w := w) h
  have m_isinstance : mg ("isinstance" : PySem.Str) = none := He.free_ok h.X0 h.G0 (h.c.fact 6)
  have g5 : GlOk (gm K) P w mg base 2 ("is_integer" : PySem.Str) 1 [] B_is_integer _ fd5 [("value" : PySem.Str)] := ⟨He.glo_ok h.X0 h.G0 (h.c.fact 11), F5.kp, ok5, ar_of⟩
  have nw16 : NwOk (gm K) P w mg base 3 ("Ratio" : PySem.Str) 0 3 B_Ratio___init__ _ fd16 [("self" : PySem.Str), ("top" : PySem.Str), ("bottom" : PySem.Str)] := ⟨He.glo_ok h.X0 h.G0 (h.c.fact 9), He.mkr_ok (h.c.fact 36), rfl, ok16, ar_of, rfl⟩
  obtain ⟨bd16_2, bd16_2_v, bd16_2_b⟩ := F16.binds1 (ps := [("self" : PySem.Str), ("top" : PySem.Str), ("bottom" : PySem.Str)]) 2 0 (List.cons_ne_nil _ _) rfl fun T kV doc pm an cdv ct us its h1 h2 => ⟨_, rfl, match us, h1, its, h2 with | [_, _], _, [_], _ => rfl⟩
  have hN : N17.Nodup := sc17.nd
  obtain ⟨fd, F⟩ := h.c.def_ 17 (d := d17) rfl
  exact ⟨fd, F, def_ok (G := gm K) (N := N17) (k := 4) (O' := []) F sc17 fun cdv A outer s H E hr tk => (s_cons (s_if (t_val (e_isi (e_var 0) (cv_own (He.glo_ok h.X0 h.G0 (h.c.fact 9))) (kn_own (k := 0) [(0, true)] (lk_cons ⟨ty0 h, eqF_ok (h.c.fact 8)⟩ lk_nil) fun m hm => eqF_ok (List.all_eq_true.mp (h.c.fact 10) m hm)))) (s_one (s_ret (e_var 0))) s_nil) (s_cons (s_if (t_not (t_val (e_call tk (hr.mono (by decide)) g5 (F5.bindsN (ps := [("value" : PySem.Str)]) fun _ _ _ _ _ _ us hl => match us, hl with | [_], _ => rfl) .nil (fun _ => .nil) (a_cons (e_var 0) a_nil)))) (s_one s_no) s_nil) (s_one (s_ret (e_new tk (hr.mono (by decide)) nw16 bd16_2_b bd16_2_v (fun _ => (.cons .int .nil)) (a_cons (e_var 0) a_nil))))))⟩
theorem ok_18 {P : Program} {w : World} {K : PySem.W.Frag} {mg : Str → Option Value} {base : Heap} (h : Hy K mg base) : ∃ fd, FunD K d18.name d18.qual d18.params d18.body d18.scope (d18.dvs K) [] (d18.wh.ad K) fd ∧ FnB P w (gm K) mg base 6 (d18.wh.ad K) fd [("value" : PySem.Str)] 1 [] B_Ratio_of := by
  obtain ⟨fd17, F17, ok17⟩ := ok_17 (P := P) (w := w) h
  have g17 : GlOk (gm K) P w mg base 5 ("ratio_from" : PySem.Str) 2 [] B_ratio_from _ fd17 [("value" : PySem.Str), ("part" : PySem.Str)] := ⟨He.glo_ok h.X0 h.G0 (h.c.fact 37), F17.kp, ok17, ar_of⟩
  have hN : N18.Nodup := sc18.nd
  obtain ⟨fd, F⟩ := h.c.def_ 18 (d := d18) rfl
  exact ⟨fd, F, def_ok (G := gm K) (N := N18) (k := 5) (O' := []) F sc18 fun cdv A outer s H E hr tk => (s_one (s_ret (e_call tk (hr.mono (by decide)) g17 (F17.bindsN (ps := [("value" : PySem.Str), ("part" : PySem.Str)]) fun _ _ _ _ _ _ us hl => match us, hl with | [_, _], _ => rfl) .nil (fun _ => .nil) (a_cons (e_var 0) (a_cons e_str a_nil)))))⟩
theorem ok_19 {P : Program} {w : World} {K : PySem.W.Frag} {mg : Str → Option Value} {base : Heap} (h : Hy K mg base) : ∃ fd, FunD K d19.name d19.qual d19.params d19.body d19.scope (d19.dvs K) [] (d19.wh.ad K) fd ∧ FnB P w (gm K) mg base 6 (d19.wh.ad K) fd [("self" : PySem.Str), ("other" : PySem.Str)] 2 [] B_Ratio___add__ := by
  obtain ⟨fd17, F17, ok17⟩ := ok_17 (P := P) (w := w) h
  obtain ⟨fd16, F16, ok16⟩ := ok_16 (P := P) (w := w) h
  have g17 : GlOk (gm K) P w mg base 5 ("ratio_from" : PySem.Str) 2 [] B_ratio_from _ fd17 [("value" : PySem.Str), ("part" : PySem.Str)] := ⟨He.glo_ok h.X0 h.G0 (h.c.fact 37), F17.kp, ok17, ar_of⟩
  have nw16 : NwOk (gm K) P w mg base 3 ("Ratio" : PySem.Str) 0 3 B_Ratio___init__ _ fd16 [("self" : PySem.Str), ("top" : PySem.Str), ("bottom" : PySem.Str)] := ⟨He.glo_ok h.X0 h.G0 (h.c.fact 9), He.mkr_ok (h.c.fact 36), rfl, ok16, ar_of, rfl⟩
  have ht_fl_top : ∀ c i, List.lookup c [(0, 0)] = some i → ClsOk (gm K) c ∧ ((gm K).lay c)[i]? = some ("top" : PySem.Str) := (lk_cons ⟨co0 h, rfl⟩ lk_nil)
  have ht_fl_bottom : ∀ c i, List.lookup c [(0, 1)] = some i → ClsOk (gm K) c ∧ ((gm K).lay c)[i]? = some ("bottom" : PySem.Str) := (lk_cons ⟨co0 h, rfl⟩ lk_nil)
  obtain ⟨bd16_3, bd16_3_v, bd16_3_b⟩ := F16.binds1 (ps := [("self" : PySem.Str), ("top" : PySem.Str), ("bottom" : PySem.Str)]) 3 1 (List.cons_ne_nil _ _) rfl fun T kV doc pm an cdv ct us its h1 h2 => ⟨_, rfl, match us, h1, its, h2 with | [_, _, _], _, [_], _ => rfl⟩
  have hN : N19.Nodup := sc19.nd
  obtain ⟨fd, F⟩ := h.c.def_ 19 (d := d19) rfl
  exact ⟨fd, F, def_ok (G := gm K) (N := N19) (k := 5) (O' := []) F sc19 fun cdv A outer s H E hr tk => (s_cons (s_to (O2 := []) (s_set 2 (e_call tk (hr.mono (by decide)) g17 (F17.bindsN (ps := [("value" : PySem.Str), ("part" : PySem.Str)]) fun _ _ _ _ _ _ us hl => match us, hl with | [_, _], _ => rfl) .nil (fun _ => .nil) (a_cons (e_var 1) (a_cons e_str a_nil))))) (s_one (s_ret (e_new tk (hr.mono (by decide)) nw16 bd16_3_b bd16_3_v (fun _ => .nil) (a_cons (e_bin o_add (e_bin o_mul (e_fl [(0, 0)] (e_var 0) ht_fl_top) (e_fl [(0, 1)] (e_var 2) ht_fl_bottom)) (e_bin o_mul (e_fl [(0, 0)] (e_var 2) ht_fl_top) (e_fl [(0, 1)] (e_var 0) ht_fl_bottom))) (a_cons (e_bin o_mul (e_fl [(0, 1)] (e_var 0) ht_fl_bottom) (e_fl [(0, 1)] (e_var 2) ht_fl_bottom)) a_nil))))))⟩
theorem ok_20 {P : Program} {w : World} {K : PySem.W.Frag} {mg : Str → Option Value} {base : Heap} (h : Hy K mg base) : ∃ fd, FunD K d20.name d20.qual d20.params d20.body d20.scope (d20.dvs K) [] (d20.wh.ad K) fd ∧ FnB P w (gm K) mg base 5 (d20.wh.ad K) fd [("self" : PySem.Str)] 1 [] B_Ratio___neg__ := by
  obtain ⟨fd16, F16, ok16⟩ := ok_16 (P := P) (w := w) h
  have nw16 : NwOk (gm K) P w mg base 3 ("Ratio" : PySem.Str) 0 3 B_Ratio___init__ _ fd16 [("self" : PySem.Str), ("top" : PySem.Str), ("bottom" : PySem.Str)] := ⟨He.glo_ok h.X0 h.G0 (h.c.fact 9), He.mkr_ok (h.c.fact 36), rfl, ok16, ar_of, rfl⟩
  have ht_fl_top : ∀ c i, List.lookup c [(0, 0)] = some i → ClsOk (gm K) c ∧ ((gm K).lay c)[i]? = some ("top" : PySem.Str) := (lk_cons ⟨co0 h, rfl⟩ lk_nil)
  have ht_fl_bottom : ∀ c i, List.lookup c [(0, 1)] = some i → ClsOk (gm K) c ∧ ((gm K).lay c)[i]? = some ("bottom" : PySem.Str) := (lk_cons ⟨co0 h, rfl⟩ lk_nil)
  obtain ⟨bd16_3, bd16_3_v, bd16_3_b⟩ := F16.binds1 (ps := [("self" : PySem.Str), ("top" : PySem.Str), ("bottom" : PySem.Str)]) 3 1 (List.cons_ne_nil _ _) rfl fun T kV doc pm an cdv ct us its h1 h2 => ⟨_, rfl, match us, h1, its, h2 with | [_, _, _], _, [_], _ => rfl⟩
  have hN : N20.Nodup := sc20.nd
  obtain ⟨fd, F⟩ := h.c.def_ 20 (d := d20) rfl
  exact ⟨fd, F, def_ok (G := gm K) (N := N20) (k := 4) (O' := []) F sc20 fun cdv A outer s H E hr tk => (s_one (s_ret (e_new tk (hr.mono (by decide)) nw16 bd16_3_b bd16_3_v (fun _ => .nil) (a_cons (e_un o_neg (e_fl [(0, 0)] (e_var 0) ht_fl_top)) (a_cons (e_fl [(0, 1)] (e_var 0) ht_fl_bottom) a_nil)))))⟩
theorem ok_21 {P : Program} {w : World} {K : PySem.W.Frag} {mg : Str → Option Value} {base : Heap} (h : Hy K mg base) : ∃ fd, FunD K d21.name d21.qual d21.params d21.body d21.scope (d21.dvs K) [] (d21.wh.ad K) fd ∧ FnB P w (gm K) mg base 7 (d21.wh.ad K) fd [("self" : PySem.Str), ("other" : PySem.Str)] 2 [] B_Ratio___sub__ := by
  obtain ⟨fd17, F17, ok17⟩ := ok_17 (P := P) (w := w) h
  obtain ⟨fd20, F20, ok20⟩ := ok_20 (P := P) (w := w) h
  obtain ⟨fd19, F19, ok19⟩ := ok_19 (P := P) (w := w) h
  have g17 : GlOk (gm K) P w mg base 5 ("ratio_from" : PySem.Str) 2 [] B_ratio_from _ fd17 [("value" : PySem.Str), ("part" : PySem.Str)] := ⟨He.glo_ok h.X0 h.G0 (h.c.fact 37), F17.kp, ok17, ar_of⟩
  have ht_neg : ∀ c B, List.lookup c [(0, B_Ratio___neg__)] = some B → ∃ f fd ps, OwnOk (gm K) P w mg base 5 "__neg__" c B f fd ps 1 := (lk_cons ⟨_, fd20, [("self" : PySem.Str)], (He.meth_ok (h.c.fact 38)).at_, (He.meth_ok (h.c.fact 38)).fn, fn_up ok20 (by decide), F20.bindsN (ps := [("self" : PySem.Str)]) fun _ _ _ _ _ _ us hl => match us, hl with | [_], _ => rfl, ar_of⟩ lk_nil)
  have ht_add : ∀ c B, List.lookup c [(0, B_Ratio___add__)] = some B → (∃ f fd ps, OwnOk (gm K) P w mg base 6 ("__add__" : PySem.Str) c B f fd ps 2) ∧ BinOk (gm K) ("__add__" : PySem.Str) ("__radd__" : PySem.Str) ["int"] [0] c := (lk_cons ⟨⟨_, fd19, [("self" : PySem.Str), ("other" : PySem.Str)], (He.meth_ok (h.c.fact 40)).at_, (He.meth_ok (h.c.fact 40)).fn, fn_up ok19 (by decide), F19.bindsN (ps := [("self" : PySem.Str), ("other" : PySem.Str)]) fun _ _ _ _ _ _ us hl => match us, hl with | [_, _], _ => rfl, ar_of⟩, ⟨(h.c.fact 41), rd_ok (h.c.fact 42), (mem_cons ⟨by decide, biT_ok (h.c.fact 39)⟩ mem_nil), (mem_cons (.inl rfl) mem_nil)⟩⟩ lk_nil)
  have hN : N21.Nodup := sc21.nd
  obtain ⟨fd, F⟩ := h.c.def_ 21 (d := d21) rfl
  exact ⟨fd, F, def_ok (G := gm K) (N := N21) (k := 6) (O' := []) F sc21 fun cdv A outer s H E hr tk => (s_one (s_ret (e_bin (o_bin [(0, B_Ratio___add__)] ["int"] [0] tk (hr.mono (by decide)) o_add ht_add) (e_var 0) (e_un (o_negW [(0, B_Ratio___neg__)] tk (hr.mono (by decide)) o_neg ht_neg) (e_call tk (hr.mono (by decide)) g17 (F17.bindsN (ps := [("value" : PySem.Str), ("part" : PySem.Str)]) fun _ _ _ _ _ _ us hl => match us, hl with | [_, _], _ => rfl) .nil (fun _ => .nil) (a_cons (e_var 1) (a_cons e_str a_nil)))))))⟩
theorem ok_22 {P : Program} {w : World} {K : PySem.W.Frag} {mg : Str → Option Value} {base : Heap} (h : Hy K mg base) : ∃ fd, FunD K d22.name d22.qual d22.params d22.body d22.scope (d22.dvs K) [] (d22.wh.ad K) fd ∧ FnB P w (gm K) mg base 6 (d22.wh.ad K) fd [("self" : PySem.Str), ("other" : PySem.Str)] 2 [] B_Ratio___mul__ := by
  obtain ⟨fd17, F17, ok17⟩ := ok_17 (P := P) (w := w) h
  obtain ⟨fd16, F16, ok16⟩ := ok_16 (P := P) (w := w) h
  have g17 : GlOk (gm K) P w mg base 5 ("ratio_from" : PySem.Str) 2 [] B_ratio_from _ fd17 [("value" : PySem.Str), ("part" : PySem.Str)] := ⟨He.glo_ok h.X0 h.G0 (h.c.fact 37), F17.kp, ok17, ar_of⟩
  have nw16 : NwOk (gm K) P w mg base 3 ("Ratio" : PySem.Str) 0 3 B_Ratio___init__ _ fd16 [("self" : PySem.Str), ("top" : PySem.Str), ("bottom" : PySem.Str)] := ⟨He.glo_ok h.X0 h.G0 (h.c.fact 9), He.mkr_ok (h.c.fact 36), rfl, ok16, ar_of, rfl⟩
  have ht_fl_top : ∀ c i, List.lookup c [(0, 0)] = some i → ClsOk (gm K) c ∧ ((gm K).lay c)[i]? = some ("top" : PySem.Str) := (lk_cons ⟨co0 h, rfl⟩ lk_nil)
  have ht_fl_bottom : ∀ c i, List.lookup c [(0, 1)] = some i → ClsOk (gm K) c ∧ ((gm K).lay c)[i]? = some ("bottom" : PySem.Str) := (lk_cons ⟨co0 h, rfl⟩ lk_nil)
  obtain ⟨bd16_3, bd16_3_v, bd16_3_b⟩ := F16.binds1 (ps := [("self" : PySem.Str), ("top" : PySem.Str), ("bottom" : PySem.Str)]) 3 1 (List.cons_ne_nil _ _) rfl fun T kV doc pm an cdv ct us its h1 h2 => ⟨_, rfl, match us, h1, its, h2 with | [_, _, _], _, [_], _ => rfl⟩
  have hN : N22.Nodup := sc22.nd
  obtain ⟨fd, F⟩ := h.c.def_ 22 (d := d22) rfl
  exact ⟨fd, F, def_ok (G := gm K) (N := N22) (k := 5) (O' := []) F sc22 fun cdv A outer s H E hr tk => (s_cons (s_to (O2 := []) (s_set 2 (e_call tk (hr.mono (by decide)) g17 (F17.bindsN (ps := [("value" : PySem.Str), ("part" : PySem.Str)]) fun _ _ _ _ _ _ us hl => match us, hl with | [_, _], _ => rfl) .nil (fun _ => .nil) (a_cons (e_var 1) (a_cons e_str a_nil))))) (s_one (s_ret (e_new tk (hr.mono (by decide)) nw16 bd16_3_b bd16_3_v (fun _ => .nil) (a_cons (e_bin o_mul (e_fl [(0, 0)] (e_var 0) ht_fl_top) (e_fl [(0, 0)] (e_var 2) ht_fl_top)) (a_cons (e_bin o_mul (e_fl [(0, 1)] (e_var 0) ht_fl_bottom) (e_fl [(0, 1)] (e_var 2) ht_fl_bottom)) a_nil))))))⟩
theorem ok_23 {P : Program} {w : World} {K : PySem.W.Frag} {mg : Str → Option Value} {base : Heap} (h : Hy K mg base) : ∃ fd, FunD K d23.name d23.qual d23.params d23.body d23.scope (d23.dvs K) [] (d23.wh.ad K) fd ∧ FnB P w (gm K) mg base 7 (d23.wh.ad K) fd [("ratios" : PySem.Str)] 1 [] B_summed := by
  obtain ⟨fd13, F13, ok13⟩ := ok_13 (P := P) (w := w) h
  obtain ⟨fd16, F16, ok16⟩ := ok_16 (P := P) (w := w) h
  obtain ⟨fd19, F19, ok19⟩ := ok_19 (P := P) (w := w) h
  have g13 : GlOk (gm K) P w mg base 4 ("are_ratios" : PySem.Str) 1 [] B_are_ratios _ fd13 [("value" : PySem.Str)] := ⟨He.glo_ok h.X0 h.G0 (h.c.fact 31), F13.kp, ok13, ar_of⟩
  have nw16 : NwOk (gm K) P w mg base 3 ("Ratio" : PySem.Str) 0 3 B_Ratio___init__ _ fd16 [("self" : PySem.Str), ("top" : PySem.Str), ("bottom" : PySem.Str)] := ⟨He.glo_ok h.X0 h.G0 (h.c.fact 9), He.mkr_ok (h.c.fact 36), rfl, ok16, ar_of, rfl⟩
  obtain ⟨bd16_2, bd16_2_v, bd16_2_b⟩ := F16.binds1 (ps := [("self" : PySem.Str), ("top" : PySem.Str), ("bottom" : PySem.Str)]) 2 0 (List.cons_ne_nil _ _) rfl fun T kV doc pm an cdv ct us its h1 h2 => ⟨_, rfl, match us, h1, its, h2 with | [_, _], _, [_], _ => rfl⟩
  have ht_add : ∀ c B, List.lookup c [(0, B_Ratio___add__)] = some B → (∃ f fd ps, OwnOk (gm K) P w mg base 6 ("__add__" : PySem.Str) c B f fd ps 2) ∧ BinOk (gm K) ("__add__" : PySem.Str) ("__radd__" : PySem.Str) ["int"] [0] c := (lk_cons ⟨⟨_, fd19, [("self" : PySem.Str), ("other" : PySem.Str)], (He.meth_ok (h.c.fact 40)).at_, (He.meth_ok (h.c.fact 40)).fn, fn_up ok19 (by decide), F19.bindsN (ps := [("self" : PySem.Str), ("other" : PySem.Str)]) fun _ _ _ _ _ _ us hl => match us, hl with | [_, _], _ => rfl, ar_of⟩, ⟨(h.c.fact 41), rd_ok (h.c.fact 42), (mem_cons ⟨by decide, biT_ok (h.c.fact 39)⟩ mem_nil), (mem_cons (.inl rfl) mem_nil)⟩⟩ lk_nil)
  have hN : N23.Nodup := sc23.nd
  obtain ⟨fd, F⟩ := h.c.def_ 23 (d := d23) rfl
  exact ⟨fd, F, def_ok (G := gm K) (N := N23) (k := 6) (O' := []) F sc23 fun cdv A outer s H E hr tk => (s_cons (s_if (t_not (t_val (e_call tk (hr.mono (by decide)) g13 (F13.bindsN (ps := [("value" : PySem.Str)]) fun _ _ _ _ _ _ us hl => match us, hl with | [_], _ => rfl) .nil (fun _ => .nil) (a_cons (e_var 0) a_nil)))) (s_one s_no) s_nil) (s_cons (s_to (O2 := []) (s_set 1 (e_new tk (hr.mono (by decide)) nw16 bd16_2_b bd16_2_v (fun _ => (.cons .int .nil)) (a_cons e_int a_nil)))) (s_cons (s_for (OL := []) [2] (i_seq (e_var 0)) (g_to (O2 := []) (g_name 2)) (s_one (s_to (O2 := []) (s_set 1 (e_bin (o_bin [(0, B_Ratio___add__)] ["int"] [0] tk (hr.mono (by decide)) o_add ht_add) (e_var 1) (e_var 2))))) (passes_of rfl)) (s_one (s_ret (e_var 1))))))⟩
theorem ok_24 {P : Program} {w : World} {K : PySem.W.Frag} {mg : Str → Option Value} {base : Heap} (h : Hy K mg base) : ∃ fd, FunD K d24.name d24.qual d24.params d24.body d24.scope (d24.dvs K) [] (d24.wh.ad K) fd ∧ FnB P w (gm K) mg base 8 (d24.wh.ad K) fd [("one" : PySem.Str), ("other" : PySem.Str)] 2 [] B_product_at := by
  obtain ⟨fd22, F22, ok22⟩ := ok_22 (P := P) (w := w) h
  obtain ⟨fd23, F23, ok23⟩ := ok_23 (P := P) (w := w) h
  obtain ⟨fd21, F21, ok21⟩ := ok_21 (P := P) (w := w) h
  have ht_fl_time : ∀ c i, List.lookup c [(2, 0)] = some i → ClsOk (gm K) c ∧ ((gm K).lay c)[i]? = some ("time" : PySem.Str) := (lk_cons ⟨co2 h, rfl⟩ lk_nil)
  have ht_mul : ∀ c B, List.lookup c [(0, B_Ratio___mul__)] = some B → (∃ f fd ps, OwnOk (gm K) P w mg base 6 ("__mul__" : PySem.Str) c B f fd ps 2) ∧ BinOk (gm K) ("__mul__" : PySem.Str) ("__rmul__" : PySem.Str) ["int"] [0] c := (lk_cons ⟨⟨_, fd22, [("self" : PySem.Str), ("other" : PySem.Str)], (He.meth_ok (h.c.fact 44)).at_, (He.meth_ok (h.c.fact 44)).fn, fn_up ok22 (by decide), F22.bindsN (ps := [("self" : PySem.Str), ("other" : PySem.Str)]) fun _ _ _ _ _ _ us hl => match us, hl with | [_, _], _ => rfl, ar_of⟩, ⟨(h.c.fact 41), rd_ok (h.c.fact 45), (mem_cons ⟨by decide, biT_ok (h.c.fact 43)⟩ mem_nil), (mem_cons (.inl rfl) mem_nil)⟩⟩ lk_nil)
  have g23 : GlOk (gm K) P w mg base 7 ("summed" : PySem.Str) 1 [] B_summed _ fd23 [("ratios" : PySem.Str)] := ⟨He.glo_ok h.X0 h.G0 (h.c.fact 46), F23.kp, ok23, ar_of⟩
  have m_zip : mg ("zip" : PySem.Str) = none := He.free_ok h.X0 h.G0 (h.c.fact 47)
  have ht_fl_place : ∀ c i, List.lookup c [(2, 1)] = some i → ClsOk (gm K) c ∧ ((gm K).lay c)[i]? = some ("place" : PySem.Str) := (lk_cons ⟨co2 h, rfl⟩ lk_nil)
  have ht_sub : ∀ c B, List.lookup c [(0, B_Ratio___sub__)] = some B → (∃ f fd ps, OwnOk (gm K) P w mg base 7 ("__sub__" : PySem.Str) c B f fd ps 2) ∧ BinOk (gm K) ("__sub__" : PySem.Str) ("__rsub__" : PySem.Str) ["int"] [0] c := (lk_cons ⟨⟨_, fd21, [("self" : PySem.Str), ("other" : PySem.Str)], (He.meth_ok (h.c.fact 49)).at_, (He.meth_ok (h.c.fact 49)).fn, fn_up ok21 (by decide), F21.bindsN (ps := [("self" : PySem.Str), ("other" : PySem.Str)]) fun _ _ _ _ _ _ us hl => match us, hl with | [_, _], _ => rfl, ar_of⟩, ⟨(h.c.fact 41), rd_ok (h.c.fact 50), (mem_cons ⟨by decide, biT_ok (h.c.fact 48)⟩ mem_nil), (mem_cons (.inl rfl) mem_nil)⟩⟩ lk_nil)
  have hN : N24.Nodup := sc24.nd
  obtain ⟨fd, F⟩ := h.c.def_ 24 (d := d24) rfl
  exact ⟨fd, F, def_ok (G := gm K) (N := N24) (k := 7) (O' := []) F sc24 fun cdv A outer s H E hr tk => (s_one (s_ret (e_bin (o_bin [(0, B_Ratio___sub__)] ["int"] [0] tk (hr.mono (by decide)) o_sub ht_sub) (e_bin (o_bin [(0, B_Ratio___mul__)] ["int"] [0] tk (hr.mono (by decide)) o_mul ht_mul) (e_fl [(2, 0)] (e_var 0) ht_fl_time) (e_fl [(2, 0)] (e_var 1) ht_fl_time)) (e_call tk (hr.mono (by decide)) g23 (F23.bindsN (ps := [("ratios" : PySem.Str)]) fun _ _ _ _ _ _ us hl => match us, hl with | [_], _ => rfl) .nil (fun _ => .nil) (a_cons (e_lcF (vs := [2, 3]) [(("mine" : PySem.Str), 2), (("its" : PySem.Str), 3)] rfl (i_zip (a_cons (e_fl [(2, 1)] (e_var 0) ht_fl_place) (a_cons (e_fl [(2, 1)] (e_var 1) ht_fl_place) a_nil))) (blkOk_by (by kernel_rfl)) (fun _ _ _ _ _ => (g_tup (gs_cons (g_to (O2 := []) (g_name 2)) (gs_cons (g_to (O2 := []) (g_name 3)) gs_nil)))) (fun _ _ _ _ _ => pts_no) (fun _ _ _ _ _ => (e_bin (o_bin [(0, B_Ratio___mul__)] ["int"] [0] takes_blk (hr.mono (by decide)) o_mul ht_mul) (e_var 2) (e_var 3)))).fz a_nil)))))⟩
theorem ok_25 {P : Program} {w : World} {K : PySem.W.Frag} {mg : Str → Option Value} {base : Heap} (h : Hy K mg base) : ∃ fd, FunD K d25.name d25.qual d25.params d25.body d25.scope (d25.dvs K) [] (d25.wh.ad K) fd ∧ FnB P w (gm K) mg base 2 (d25.wh.ad K) fd [("self" : PySem.Str)] 1 [] B_Ratio_sign := by
  have m_int : mg ("int" : PySem.Str) = none := He.free_ok h.X0 h.G0 (h.c.fact 0)
  have ht_fl_top : ∀ c i, List.lookup c [(0, 0)] = some i → ClsOk (gm K) c ∧ ((gm K).lay c)[i]? = some ("top" : PySem.Str) := (lk_cons ⟨co0 h, rfl⟩ lk_nil)
  have hN : N25.Nodup := sc25.nd
  obtain ⟨fd, F⟩ := h.c.def_ 25 (d := d25) rfl
  exact ⟨fd, F, def_ok (G := gm K) (N := N25) (k := 1) (O' := []) F sc25 fun cdv A outer s H E hr tk => (s_one (s_ret (e_bin o_sub (e_toInt (a_cons (e_cmp o_gt (e_fl [(0, 0)] (e_var 0) ht_fl_top) e_int) a_nil)) (e_toInt (a_cons (e_cmp o_lt (e_fl [(0, 0)] (e_var 0) ht_fl_top) e_int) a_nil)))))⟩
theorem ok_26 {P : Program} {w : World} {K : PySem.W.Frag} {mg : Str → Option Value} {base : Heap} (h : Hy K mg base) : ∃ fd, FunD K d26.name d26.qual d26.params d26.body d26.scope (d26.dvs K) [] (d26.wh.ad K) fd ∧ FnB P w (gm K) mg base 4 (d26.wh.ad K) fd [("time" : PySem.Str), ("square" : PySem.Str)] 2 [] B_kind_by := by
  obtain ⟨fd25, F25, ok25⟩ := ok_25 (P := P) (w := w) h
  have pr_sign : ∀ c B, List.lookup c [(0, B_Ratio_sign)] = some B → PrOk (gm K) P w mg base 2 c ("sign" : PySem.Str) B := (lk_cons ⟨(clo0 h).1, _, _, fd25, _, prp_ok (h.c.fact 51), ok25, F25.bindsN (ps := [("self" : PySem.Str)]) fun _ _ _ _ _ _ us hl => match us, hl with | [_], _ => rfl⟩ lk_nil)
  have hN : N26.Nodup := sc26.nd
  obtain ⟨fd, F⟩ := h.c.def_ 26 (d := d26) rfl
  exact ⟨fd, F, def_ok (G := gm K) (N := N26) (k := 3) (O' := []) F sc26 fun cdv A outer s H E hr tk => (s_cons (s_if (t_cmp o_lt (e_pr [(0, B_Ratio_sign)] (hr.mono (by decide)) (e_var 1) pr_sign) e_int) (s_one (s_ret e_str)) s_nil) (s_cons (s_if (t_cmp (o_eq hr) (e_pr [(0, B_Ratio_sign)] (hr.mono (by decide)) (e_var 0) pr_sign) e_int) (s_one (s_ret e_str)) s_nil) (s_one (s_ret (e_if (t_cmp o_gt (e_pr [(0, B_Ratio_sign)] (hr.mono (by decide)) (e_var 0) pr_sign) e_int) e_str e_str)))))⟩
theorem ok_27 {P : Program} {w : World} {K : PySem.W.Frag} {mg : Str → Option Value} {base : Heap} (h : Hy K mg base) : ∃ fd, FunD K d27.name d27.qual d27.params d27.body d27.scope (d27.dvs K) [] (d27.wh.ad K) fd ∧ FnB P w (gm K) mg base 9 (d27.wh.ad K) fd [("self" : PySem.Str), ("time" : PySem.Str), ("place" : PySem.Str)] 3 [0] B_Step___init__ := by
  obtain ⟨fd12, F12, ok12⟩ := ok_12 (P := P) (w := w) h
  obtain ⟨fd13, F13, ok13⟩ := ok_13 (P := P) (w := w) h
  obtain ⟨fd18, F18, ok18⟩ := ok_18 (P := P) (w := w) h
  obtain ⟨fd24, F24, ok24⟩ := ok_24 (P := P) (w := w) h
  obtain ⟨fd26, F26, ok26⟩ := ok_26 (P := P) (w := w) h
  have g12 : GlOk (gm K) P w mg base 3 ("is_ratio" : PySem.Str) 1 [] B_is_ratio _ fd12 [("value" : PySem.Str)] := ⟨He.glo_ok h.X0 h.G0 (h.c.fact 30), F12.kp, ok12, ar_of⟩
  have g13 : GlOk (gm K) P w mg base 4 ("are_ratios" : PySem.Str) 1 [] B_are_ratios _ fd13 [("value" : PySem.Str)] := ⟨He.glo_ok h.X0 h.G0 (h.c.fact 31), F13.kp, ok13, ar_of⟩
  have m_len : mg ("len" : PySem.Str) = none := He.free_ok h.X0 h.G0 (h.c.fact 1)
  have st18 : StOk (gm K) P w mg base 6 ("Ratio" : PySem.Str) (He.ga K ("Ratio" : PySem.Str)) ("of" : PySem.Str) 1 B_Ratio_of _ fd18 [("value" : PySem.Str)] := ⟨He.glo_ok h.X0 h.G0 (h.c.fact 9), (sta_ok (h.c.fact 53)).1, (sta_ok (h.c.fact 53)).2.1, (sta_ok (h.c.fact 53)).2.2, F18.kp, ok18, ar_of⟩
  have ht_fs_time : ∀ c i, List.lookup c [(2, 0)] = some i → ClsOk (gm K) c ∧ ((gm K).lay c)[i]? = some ("time" : PySem.Str) := lk_cons ⟨co2 h, rfl⟩ lk_nil
  have m_tuple : mg ("tuple" : PySem.Str) = none := He.free_ok h.X0 h.G0 (h.c.fact 27)
  have ht_fs_place : ∀ c i, List.lookup c [(2, 1)] = some i → ClsOk (gm K) c ∧ ((gm K).lay c)[i]? = some ("place" : PySem.Str) := lk_cons ⟨co2 h, rfl⟩ lk_nil
  have ht_fl_place : ∀ c i, List.lookup c [(2, 1)] = some i → ClsOk (gm K) c ∧ ((gm K).lay c)[i]? = some ("place" : PySem.Str) := (lk_cons ⟨co2 h, rfl⟩ lk_nil)
  have ht_fs_axes : ∀ c i, List.lookup c [(2, 2)] = some i → ClsOk (gm K) c ∧ ((gm K).lay c)[i]? = some ("axes" : PySem.Str) := lk_cons ⟨co2 h, rfl⟩ lk_nil
  have g24 : GlOk (gm K) P w mg base 8 ("product_at" : PySem.Str) 2 [] B_product_at _ fd24 [("one" : PySem.Str), ("other" : PySem.Str)] := ⟨He.glo_ok h.X0 h.G0 (h.c.fact 54), F24.kp, ok24, ar_of⟩
  have ht_fs_square : ∀ c i, List.lookup c [(2, 3)] = some i → ClsOk (gm K) c ∧ ((gm K).lay c)[i]? = some ("square" : PySem.Str) := lk_cons ⟨co2 h, rfl⟩ lk_nil
  have g26 : GlOk (gm K) P w mg base 4 ("kind_by" : PySem.Str) 2 [] B_kind_by _ fd26 [("time" : PySem.Str), ("square" : PySem.Str)] := ⟨He.glo_ok h.X0 h.G0 (h.c.fact 55), F26.kp, ok26, ar_of⟩
  have ht_fl_time : ∀ c i, List.lookup c [(2, 0)] = some i → ClsOk (gm K) c ∧ ((gm K).lay c)[i]? = some ("time" : PySem.Str) := (lk_cons ⟨co2 h, rfl⟩ lk_nil)
  have ht_fl_square : ∀ c i, List.lookup c [(2, 3)] = some i → ClsOk (gm K) c ∧ ((gm K).lay c)[i]? = some ("square" : PySem.Str) := (lk_cons ⟨co2 h, rfl⟩ lk_nil)
  have ht_fs_kind : ∀ c i, List.lookup c [(2, 4)] = some i → ClsOk (gm K) c ∧ ((gm K).lay c)[i]? = some ("kind" : PySem.Str) := lk_cons ⟨co2 h, rfl⟩ lk_nil
  have hN : N27.Nodup := sc27.nd
  obtain ⟨fd, F⟩ := h.c.def_ 27 (d := d27) rfl
  exact ⟨fd, F, def_ok (G := gm K) (N := N27) (k := 8) (O' := [0]) F sc27 fun cdv A outer s H E hr tk => (s_cons (s_if (t_not (t_val (e_call tk (hr.mono (by decide)) g12 (F12.bindsN (ps := [("value" : PySem.Str)]) fun _ _ _ _ _ _ us hl => match us, hl with | [_], _ => rfl) .nil (fun _ => .nil) (a_cons (e_var 1) a_nil)))) (s_one s_no) s_nil) (s_cons (s_if (t_bo (w_or (t_not (t_val (e_call tk (hr.mono (by decide)) g13 (F13.bindsN (ps := [("value" : PySem.Str)]) fun _ _ _ _ _ _ us hl => match us, hl with | [_], _ => rfl) .nil (fun _ => .nil) (a_cons (e_var 2) a_nil)))) (w_or1 (t_not (t_chain o_le o_le e_int (e_len (a_cons (e_var 2) a_nil)) (e_gint (He.int_ok h.X0 h.G0 (h.c.fact 52)))))))) (s_one s_no) s_nil) (s_cons (s_fld 0 [(2, 0)] (e_stat tk (hr.mono (by decide)) st18 (F18.bindsN (ps := [("value" : PySem.Str)]) fun _ _ _ _ _ _ us hl => match us, hl with | [_], _ => rfl) .nil (fun _ => .nil) (a_cons (e_var 1) a_nil)) ht_fs_time) (s_cons (s_fld 0 [(2, 1)] (e_tuple (a_cons (e_lcF (vs := [3]) [(("each" : PySem.Str), 3)] rfl (i_seq (e_var 2)) (blkOk_by (by kernel_rfl)) (fun _ _ _ _ _ => (g_to (O2 := [0]) (g_name 3))) (fun _ _ _ _ _ => pts_no) (fun _ _ _ _ _ => (e_stat takes_blk (hr.mono (by decide)) st18 (F18.bindsN (ps := [("value" : PySem.Str)]) fun _ _ _ _ _ _ us hl => match us, hl with | [_], _ => rfl) .nil (fun _ => .nil) (a_cons (e_var 3) a_nil)))).fz a_nil)) ht_fs_place) (s_cons (s_fld 0 [(2, 2)] (e_len (a_cons (e_fl [(2, 1)] (e_self 0) ht_fl_place) a_nil)) ht_fs_axes) (s_cons (s_fld 0 [(2, 3)] (e_call tk (hr.mono (by decide)) g24 (F24.bindsN (ps := [("one" : PySem.Str), ("other" : PySem.Str)]) fun _ _ _ _ _ _ us hl => match us, hl with | [_, _], _ => rfl) .nil (fun _ => .nil) (a_cons (e_self 0) (a_cons (e_self 0) a_nil))) ht_fs_square) (s_one (s_fld 0 [(2, 4)] (e_call tk (hr.mono (by decide)) g26 (F26.bindsN (ps := [("time" : PySem.Str), ("square" : PySem.Str)]) fun _ _ _ _ _ _ us hl => match us, hl with | [_, _], _ => rfl) .nil (fun _ => .nil) (a_cons (e_fl [(2, 0)] (e_self 0) ht_fl_time) (a_cons (e_fl [(2, 3)] (e_self 0) ht_fl_square) a_nil))) ht_fs_kind))))))))⟩
theorem ok_28 {P : Program} {w : World} {K : PySem.W.Frag} {mg : Str → Option Value} {base : Heap} (h : Hy K mg base) : ∃ fd, FunD K d28.name d28.qual d28.params d28.body d28.scope (d28.dvs K) [] (d28.wh.ad K) fd ∧ FnB P w (gm K) mg base 11 (d28.wh.ad K) fd [("self" : PySem.Str), ("axes" : PySem.Str), ("spots" : PySem.Str)] 3 [0] B_Book___init__ := by
  obtain ⟨fd9, F9, ok9⟩ := ok_9 (P := P) (w := w) h
  obtain ⟨fd15, F15, ok15⟩ := ok_15 (P := P) (w := w) h
  obtain ⟨fd27, F27, ok27⟩ := ok_27 (P := P) (w := w) h
  obtain ⟨fd8, F8, ok8⟩ := ok_8 (P := P) (w := w) h
  have g9 : GlOk (gm K) P w mg base 3 ("is_within" : PySem.Str) 3 [] B_is_within _ fd9 [("value" : PySem.Str), ("least" : PySem.Str), ("most" : PySem.Str)] := ⟨He.glo_ok h.X0 h.G0 (h.c.fact 56), F9.kp, ok9, ar_of⟩
  have g15 : GlOk (gm K) P w mg base 6 ("are_spots" : PySem.Str) 2 [] B_are_spots _ fd15 [("value" : PySem.Str), ("axes" : PySem.Str)] := ⟨He.glo_ok h.X0 h.G0 (h.c.fact 57), F15.kp, ok15, ar_of⟩
  have m_len : mg ("len" : PySem.Str) = none := He.free_ok h.X0 h.G0 (h.c.fact 1)
  have ht_fs_axes : ∀ c i, List.lookup c [(3, 0)] = some i → ClsOk (gm K) c ∧ ((gm K).lay c)[i]? = some ("axes" : PySem.Str) := lk_cons ⟨co3 h, rfl⟩ lk_nil
  have m_tuple : mg ("tuple" : PySem.Str) = none := He.free_ok h.X0 h.G0 (h.c.fact 27)
  have m_sorted : mg ("sorted" : PySem.Str) = none := He.free_ok h.X0 h.G0 (h.c.fact 59)
  have m_list : mg ("list" : PySem.Str) = none := He.free_ok h.X0 h.G0 (h.c.fact 28)
  have ht_fs_names : ∀ c i, List.lookup c [(3, 1)] = some i → ClsOk (gm K) c ∧ ((gm K).lay c)[i]? = some ("names" : PySem.Str) := lk_cons ⟨co3 h, rfl⟩ lk_nil
  have ht_fl_names : ∀ c i, List.lookup c [(3, 1), (26, 0)] = some i → ClsOk (gm K) c ∧ ((gm K).lay c)[i]? = some ("names" : PySem.Str) := (lk_cons ⟨co3 h, rfl⟩ (lk_cons ⟨co26 h, rfl⟩ lk_nil))
  have nw27 : NwOk (gm K) P w mg base 9 ("Step" : PySem.Str) 2 3 B_Step___init__ _ fd27 [("self" : PySem.Str), ("time" : PySem.Str), ("place" : PySem.Str)] := ⟨He.glo_ok h.X0 h.G0 (h.c.fact 13), He.mkr_ok (h.c.fact 60), rfl, ok27, ar_of, rfl⟩
  have ht_fs_steps : ∀ c i, List.lookup c [(3, 2)] = some i → ClsOk (gm K) c ∧ ((gm K).lay c)[i]? = some ("steps" : PySem.Str) := lk_cons ⟨co3 h, rfl⟩ lk_nil
  have g8 : GlOk (gm K) P w mg base 7 ("need_unlike" : PySem.Str) 2 [] B_need_unlike _ fd8 [("names" : PySem.Str), ("spots" : PySem.Str)] := ⟨He.glo_ok h.X0 h.G0 (h.c.fact 61), F8.kp, ok8, ar_of⟩
  have ht_fl_steps : ∀ c i, List.lookup c [(3, 2)] = some i → ClsOk (gm K) c ∧ ((gm K).lay c)[i]? = some ("steps" : PySem.Str) := (lk_cons ⟨co3 h, rfl⟩ lk_nil)
  have hN : N28.Nodup := sc28.nd
  obtain ⟨fd, F⟩ := h.c.def_ 28 (d := d28) rfl
  exact ⟨fd, F, def_ok (G := gm K) (N := N28) (k := 10) (O' := [0]) F sc28 fun cdv A outer s H E hr tk => (s_cons (s_if (t_not (t_val (e_call tk (hr.mono (by decide)) g9 (F9.bindsN (ps := [("value" : PySem.Str), ("least" : PySem.Str), ("most" : PySem.Str)]) fun _ _ _ _ _ _ us hl => match us, hl with | [_, _, _], _ => rfl) .nil (fun _ => .nil) (a_cons (e_var 1) (a_cons e_int (a_cons (e_gint (He.int_ok h.X0 h.G0 (h.c.fact 52))) a_nil)))))) (s_one s_no) s_nil) (s_cons (s_if (t_not (t_val (e_call tk (hr.mono (by decide)) g15 (F15.bindsN (ps := [("value" : PySem.Str), ("axes" : PySem.Str)]) fun _ _ _ _ _ _ us hl => match us, hl with | [_, _], _ => rfl) .nil (fun _ => .nil) (a_cons (e_var 2) (a_cons (e_var 1) a_nil))))) (s_one s_no) s_nil) (s_cons (s_if (t_cmp o_gt (e_lenD (a_cons (e_var 2) a_nil)) (e_gint (He.int_ok h.X0 h.G0 (h.c.fact 58)))) (s_one s_no) s_nil) (s_cons (s_fld 0 [(3, 0)] (e_var 1) ht_fs_axes) (s_cons (s_fld 0 [(3, 1)] (e_tuple (a_cons (e_sorted (a_cons (e_listD (a_cons (e_var 2) a_nil)) a_nil)) a_nil)) ht_fs_names) (s_cons (s_fld 0 [(3, 2)] (e_dcF (vs := [3]) [(("name" : PySem.Str), 3)] rfl (i_seq (e_fl [(3, 1), (26, 0)] (e_self 0) ht_fl_names)) (blkOk_by (by kernel_rfl)) (fun _ _ _ _ _ => (g_to (O2 := [0]) (g_name 3))) (fun _ _ _ _ _ => pts_no) (fun _ _ _ _ _ => (e_var 3)) (fun _ _ _ _ _ => (e_new takes_blk (hr.mono (by decide)) nw27 (F27.bindsN (ps := [("self" : PySem.Str), ("time" : PySem.Str), ("place" : PySem.Str)]) fun _ _ _ _ _ _ us hl => match us, hl with | [_, _, _], _ => rfl) .nil (fun _ => .nil) (a_cons (e_ix (e_dix hr (e_var 2) (e_var 3)) e_int) (a_cons (e_ix (e_dix hr (e_var 2) (e_var 3)) e_int) a_nil))))).lk ht_fs_steps) (s_one (s_expr (e_call tk (hr.mono (by decide)) g8 (F8.bindsN (ps := [("names" : PySem.Str), ("spots" : PySem.Str)]) fun _ _ _ _ _ _ us hl => match us, hl with | [_, _], _ => rfl) .nil (fun _ => .nil) (a_cons (e_fl [(3, 1), (26, 0)] (e_self 0) ht_fl_names) (a_cons (e_fl [(3, 2)] (e_self 0) ht_fl_steps) a_nil)))))))))))⟩
theorem ok_29 {P : Program} {w : World} {K : PySem.W.Frag} {mg : Str → Option Value} {base : Heap} (h : Hy K mg base) : ∃ fd, FunD K d29.name d29.qual d29.params d29.body d29.scope (d29.dvs K) [] (d29.wh.ad K) fd ∧ FnB P w (gm K) mg base 13 (d29.wh.ad K) fd [("_law_plain_here" : PySem.Str), ("_law_bottom" : PySem.Str)] 2 [] B__law_book := by
  obtain ⟨fd16, F16, ok16⟩ := ok_16 (P := P) (w := w) h
  obtain ⟨fd28, F28, ok28⟩ := ok_28 (P := P) (w := w) h
  have nw16 : NwOk (gm K) P w mg base 3 ("Ratio" : PySem.Str) 0 3 B_Ratio___init__ _ fd16 [("self" : PySem.Str), ("top" : PySem.Str), ("bottom" : PySem.Str)] := ⟨He.glo_ok h.X0 h.G0 (h.c.fact 9), He.mkr_ok (h.c.fact 36), rfl, ok16, ar_of, rfl⟩
  obtain ⟨bd16_3, bd16_3_v, bd16_3_b⟩ := F16.binds1 (ps := [("self" : PySem.Str), ("top" : PySem.Str), ("bottom" : PySem.Str)]) 3 1 (List.cons_ne_nil _ _) rfl fun T kV doc pm an cdv ct us its h1 h2 => ⟨_, rfl, match us, h1, its, h2 with | [_, _, _], _, [_], _ => rfl⟩
  have nw28 : NwOk (gm K) P w mg base 11 ("Book" : PySem.Str) 3 3 B_Book___init__ _ fd28 [("self" : PySem.Str), ("axes" : PySem.Str), ("spots" : PySem.Str)] := ⟨He.glo_ok h.X0 h.G0 (h.c.fact 62), He.mkr_ok (h.c.fact 63), rfl, ok28, ar_of, rfl⟩
  have m_dict : mg ("dict" : PySem.Str) = none := He.free_ok h.X0 h.G0 (h.c.fact 32)
  have hN : N29.Nodup := sc29.nd
  obtain ⟨fd, F⟩ := h.c.def_ 29 (d := d29) rfl
  exact ⟨fd, F, def_ok (G := gm K) (N := N29) (k := 12) (O' := []) F sc29 fun cdv A outer s H E hr tk => (s_cons (s_to (O2 := []) (s_setLc 2 (vs := [3]) [(("_law_name" : PySem.Str), 3)] rfl (i_keys (e_var 0)) (blkOk_by (by kernel_rfl)) (fun _ _ _ _ _ => (g_to (O2 := []) (g_name 3))) (fun _ _ _ _ _ => pts_no) (fun _ _ _ _ _ => (e_tup (a_cons (e_var 3) (a_cons (e_tup (a_cons (e_new takes_blk (hr.mono (by decide)) nw16 bd16_3_b bd16_3_v (fun _ => .nil) (a_cons (e_bin o_add (e_ix (e_dix hr (e_var 0) (e_var 3)) e_int) (e_ix (e_dix hr (e_var 0) (e_var 3)) e_int)) (a_cons (e_bin o_mul e_int (e_var 1)) a_nil))) (a_cons (e_lst (a_cons (e_new takes_blk (hr.mono (by decide)) nw16 bd16_3_b bd16_3_v (fun _ => .nil) (a_cons (e_bin o_sub (e_ix (e_dix hr (e_var 0) (e_var 3)) e_int) (e_ix (e_dix hr (e_var 0) (e_var 3)) e_int)) (a_cons (e_bin o_mul e_int (e_var 1)) a_nil))) a_nil)) a_nil))) a_nil)))))) (s_one (s_ret (e_new tk (hr.mono (by decide)) nw28 (F28.bindsN (ps := [("self" : PySem.Str), ("axes" : PySem.Str), ("spots" : PySem.Str)]) fun _ _ _ _ _ _ us hl => match us, hl with | [_, _, _], _ => rfl) .nil (fun _ => .nil) (a_cons e_int (a_cons (f_dict (a_cons (e_var 2) a_nil)).lk a_nil))))))⟩
theorem ok_30 {P : Program} {w : World} {K : PySem.W.Frag} {mg : Str → Option Value} {base : Heap} (h : Hy K mg base) : ∃ fd, FunD K d30.name d30.qual d30.params d30.body d30.scope (d30.dvs K) [] (d30.wh.ad K) fd ∧ FnB P w (gm K) mg base 2 (d30.wh.ad K) fd [("book" : PySem.Str)] 1 [] B_need_book := by
  have m_isinstance : mg ("isinstance" : PySem.Str) = none := He.free_ok h.X0 h.G0 (h.c.fact 6)
  have hN : N30.Nodup := sc30.nd
  obtain ⟨fd, F⟩ := h.c.def_ 30 (d := d30) rfl
  exact ⟨fd, F, def_ok (G := gm K) (N := N30) (k := 1) (O' := []) F sc30 fun cdv A outer s H E hr tk => (s_one (s_if (t_not (t_val (e_isi (e_var 0) (cv_own (He.glo_ok h.X0 h.G0 (h.c.fact 62))) (kn_own (k := 3) [(3, true)] (lk_cons ⟨ty3 h, eqF_ok (h.c.fact 64)⟩ lk_nil) fun m hm => eqF_ok (List.all_eq_true.mp (h.c.fact 65) m hm))))) (s_one s_no) s_nil))⟩
theorem ok_31 {P : Program} {w : World} {K : PySem.W.Frag} {mg : Str → Option Value} {base : Heap} (h : Hy K mg base) : ∃ fd, FunD K d31.name d31.qual d31.params d31.body d31.scope (d31.dvs K) [] (d31.wh.ad K) fd ∧ FnB P w (gm K) mg base 2 (d31.wh.ad K) fd [("values" : PySem.Str)] 1 [] B_first_twice := by
  have hN : N31.Nodup := sc31.nd
  obtain ⟨fd, F⟩ := h.c.def_ 31 (d := d31) rfl
  exact ⟨fd, F, def_ok (G := gm K) (N := N31) (k := 1) (O' := [1]) F sc31 fun cdv A outer s H E hr tk => (s_cons (s_to (O2 := [1]) (s_setF 1 f_dnew)) (s_cons (s_for (OL := [1]) [2] (i_seq (e_var 0)) (g_to (O2 := [1]) (g_name 2)) (s_cons (s_if (t_inDO 1 hr (e_var 2)) (s_one (s_ret (e_var 2))) s_nil) (s_one (s_dix 1 hr e_bl (e_var 2)))) (passes_of rfl)) (s_one (s_ret e_non))))⟩
theorem ok_32 {P : Program} {w : World} {K : PySem.W.Frag} {mg : Str → Option Value} {base : Heap} (h : Hy K mg base) : ∃ fd, FunD K d32.name d32.qual d32.params d32.body d32.scope (d32.dvs K) [] (d32.wh.ad K) fd ∧ FnB P w (gm K) mg base 2 (d32.wh.ad K) fd [("self" : PySem.Str), ("value" : PySem.Str)] 2 [] B_Book___contains__ := by
  have ht_fl_names : ∀ c i, List.lookup c [(3, 1), (26, 0)] = some i → ClsOk (gm K) c ∧ ((gm K).lay c)[i]? = some ("names" : PySem.Str) := (lk_cons ⟨co3 h, rfl⟩ (lk_cons ⟨co26 h, rfl⟩ lk_nil))
  have hN : N32.Nodup := sc32.nd
  obtain ⟨fd, F⟩ := h.c.def_ 32 (d := d32) rfl
  exact ⟨fd, F, def_ok (G := gm K) (N := N32) (k := 1) (O' := []) F sc32 fun cdv A outer s H E hr tk => (s_one (s_ret (e_cmp o_in (e_var 1) (e_fl [(3, 1), (26, 0)] (e_var 0) ht_fl_names))))⟩
theorem ok_33 {P : Program} {w : World} {K : PySem.W.Frag} {mg : Str → Option Value} {base : Heap} (h : Hy K mg base) : ∃ fd, FunD K d33.name d33.qual d33.params d33.body d33.scope (d33.dvs K) [] (d33.wh.ad K) fd ∧ FnB P w (gm K) mg base 3 (d33.wh.ad K) fd [("book" : PySem.Str), ("names" : PySem.Str)] 2 [] B_need_some := by
  obtain ⟨fd11, F11, ok11⟩ := ok_11 (P := P) (w := w) h
  obtain ⟨fd32, F32, ok32⟩ := ok_32 (P := P) (w := w) h
  obtain ⟨fd31, F31, ok31⟩ := ok_31 (P := P) (w := w) h
  have g11 : GlOk (gm K) P w mg base 2 ("is_listed" : PySem.Str) 1 [] B_is_listed _ fd11 [("value" : PySem.Str)] := ⟨He.glo_ok h.X0 h.G0 (h.c.fact 29), F11.kp, ok11, ar_of⟩
  have m_len : mg ("len" : PySem.Str) = none := He.free_ok h.X0 h.G0 (h.c.fact 1)
  have ht_con : ∀ c B, List.lookup c [(3, B_Book___contains__)] = some B → ∃ f fd ps, OwnOk (gm K) P w mg base 2 "__contains__" c B f fd ps 2 := (lk_cons ⟨_, fd32, [("self" : PySem.Str), ("value" : PySem.Str)], (He.meth_ok (h.c.fact 66)).at_, (He.meth_ok (h.c.fact 66)).fn, fn_up ok32 (by decide), F32.bindsN (ps := [("self" : PySem.Str), ("value" : PySem.Str)]) fun _ _ _ _ _ _ us hl => match us, hl with | [_, _], _ => rfl, ar_of⟩ lk_nil)
  have g31 : GlOk (gm K) P w mg base 2 ("first_twice" : PySem.Str) 1 [] B_first_twice _ fd31 [("values" : PySem.Str)] := ⟨He.glo_ok h.X0 h.G0 (h.c.fact 67), F31.kp, ok31, ar_of⟩
  have hN : N33.Nodup := sc33.nd
  obtain ⟨fd, F⟩ := h.c.def_ 33 (d := d33) rfl
  exact ⟨fd, F, def_ok (G := gm K) (N := N33) (k := 2) (O' := []) F sc33 fun cdv A outer s H E hr tk => (s_cons (s_if (t_bo (w_or (t_not (t_val (e_call tk (hr.mono (by decide)) g11 (F11.bindsN (ps := [("value" : PySem.Str)]) fun _ _ _ _ _ _ us hl => match us, hl with | [_], _ => rfl) .nil (fun _ => .nil) (a_cons (e_var 1) a_nil)))) (w_or1 (t_cmp (o_eq hr) (e_len (a_cons (e_var 1) a_nil)) e_int)))) (s_one s_no) s_nil) (s_cons (s_for (OL := []) [2] (i_seq (e_var 1)) (g_to (O2 := []) (g_name 2)) (s_one (s_if (t_cmp (o_ninC [(3, B_Book___contains__)] tk (hr.mono (by decide)) o_notIn ht_con) (e_var 2) (e_var 0)) (s_one s_no) s_nil)) (passes_of rfl)) (s_cons (s_to (O2 := []) (s_set 3 (e_call tk (hr.mono (by decide)) g31 (F31.bindsN (ps := [("values" : PySem.Str)]) fun _ _ _ _ _ _ us hl => match us, hl with | [_], _ => rfl) .nil (fun _ => .nil) (a_cons (e_var 1) a_nil)))) (s_one (s_if (t_notN (e_var 3)) (s_one s_no) s_nil)))))⟩
theorem ok_34 {P : Program} {w : World} {K : PySem.W.Frag} {mg : Str → Option Value} {base : Heap} (h : Hy K mg base) : ∃ fd, FunD K d34.name d34.qual d34.params d34.body d34.scope (d34.dvs K) [] (d34.wh.ad K) fd ∧ FnB P w (gm K) mg base 2 (d34.wh.ad K) fd [("book" : PySem.Str)] 1 [] B_need_road := by
  have ht_fl_axes : ∀ c i, List.lookup c [(2, 2), (3, 0)] = some i → ClsOk (gm K) c ∧ ((gm K).lay c)[i]? = some ("axes" : PySem.Str) := (lk_cons ⟨co2 h, rfl⟩ (lk_cons ⟨co3 h, rfl⟩ lk_nil))
  have hN : N34.Nodup := sc34.nd
  obtain ⟨fd, F⟩ := h.c.def_ 34 (d := d34) rfl
  exact ⟨fd, F, def_ok (G := gm K) (N := N34) (k := 1) (O' := []) F sc34 fun cdv A outer s H E hr tk => (s_one (s_if (t_cmp (o_ne hr) (e_fl [(2, 2), (3, 0)] (e_var 0) ht_fl_axes) e_int) (s_one s_no) s_nil))⟩
theorem ok_35 {P : Program} {w : World} {K : PySem.W.Frag} {mg : Str → Option Value} {base : Heap} (h : Hy K mg base) : ∃ fd, FunD K d35.name d35.qual d35.params d35.body d35.scope (d35.dvs K) [] (d35.wh.ad K) fd ∧ FnB P w (gm K) mg base 2 (d35.wh.ad K) fd [("ratios" : PySem.Str)] 1 [] B_unlike_ascending := by
  have ht_fl_bottom : ∀ c i, List.lookup c [(0, 1)] = some i → ClsOk (gm K) c ∧ ((gm K).lay c)[i]? = some ("bottom" : PySem.Str) := (lk_cons ⟨co0 h, rfl⟩ lk_nil)
  have ht_fl_top : ∀ c i, List.lookup c [(0, 0)] = some i → ClsOk (gm K) c ∧ ((gm K).lay c)[i]? = some ("top" : PySem.Str) := (lk_cons ⟨co0 h, rfl⟩ lk_nil)
  have m_tuple : mg ("tuple" : PySem.Str) = none := He.free_ok h.X0 h.G0 (h.c.fact 27)
  have m_sorted : mg ("sorted" : PySem.Str) = none := He.free_ok h.X0 h.G0 (h.c.fact 59)
  have m_list : mg ("list" : PySem.Str) = none := He.free_ok h.X0 h.G0 (h.c.fact 28)
  have hN : N35.Nodup := sc35.nd
  obtain ⟨fd, F⟩ := h.c.def_ 35 (d := d35) rfl
  exact ⟨fd, F, def_ok (G := gm K) (N := N35) (k := 1) (O' := []) F sc35 fun cdv A outer s H E hr tk => (s_cons (s_to (O2 := []) (s_set 1 e_int)) (s_cons (s_for (OL := []) [2] (i_seq (e_var 0)) (g_to (O2 := []) (g_name 2)) (s_one (s_to (O2 := []) (s_set 1 (e_bin o_div (e_bin o_mul (e_var 1) (e_fl [(0, 1)] (e_var 2) ht_fl_bottom)) (e_gcd (a_cons (e_var 1) (a_cons (e_fl [(0, 1)] (e_var 2) ht_fl_bottom) a_nil)) (blt_ok h.X0 h.G0 (h.c.fact 35))))))) (passes_of rfl)) (s_cons (s_to (O2 := []) (s_set 3 (e_dcF (vs := [2]) [(("each" : PySem.Str), 2)] rfl (i_seq (e_var 0)) (blkOk_by (by kernel_rfl)) (fun _ _ _ _ _ => (g_to (O2 := []) (g_name 2))) (fun _ _ _ _ _ => pts_no) (fun _ _ _ _ _ => (e_bin o_mul (e_fl [(0, 0)] (e_var 2) ht_fl_top) (e_bin o_div (e_var 1) (e_fl [(0, 1)] (e_var 2) ht_fl_bottom)))) (fun _ _ _ _ _ => (e_var 2))).lk)) (s_one (s_ret (e_tupF (e_lcF (vs := [4]) [(("worth" : PySem.Str), 4)] rfl (i_seq (e_sortedI (a_cons (e_listD (a_cons (e_var 3) a_nil)) a_nil))) (blkOk_by (by kernel_rfl)) (fun _ _ _ _ _ => (g_to (O2 := []) (g_name 4))) (fun _ _ _ _ _ => pts_no) (fun _ _ _ _ _ => (e_dix hr (e_var 3) (e_var 4)))).fz))))))⟩
theorem ok_36 {P : Program} {w : World} {K : PySem.W.Frag} {mg : Str → Option Value} {base : Heap} (h : Hy K mg base) : ∃ fd, FunD K d36.name d36.qual d36.params d36.body d36.scope (d36.dvs K) [] (d36.wh.ad K) fd ∧ FnB P w (gm K) mg base 2 (d36.wh.ad K) fd [("value" : PySem.Str)] 1 [] B_need_told_book := by
  have m_isinstance : mg ("isinstance" : PySem.Str) = none := He.free_ok h.X0 h.G0 (h.c.fact 6)
  have hN : N36.Nodup := sc36.nd
  obtain ⟨fd, F⟩ := h.c.def_ 36 (d := d36) rfl
  exact ⟨fd, F, def_ok (G := gm K) (N := N36) (k := 1) (O' := []) F sc36 fun cdv A outer s H E hr tk => (s_one (s_if (t_not (t_val (e_isi (e_var 0) (cv_own (He.glo_ok h.X0 h.G0 (h.c.fact 62))) (kn_own (k := 3) [(3, true)] (lk_cons ⟨ty3 h, eqF_ok (h.c.fact 64)⟩ lk_nil) fun m hm => eqF_ok (List.all_eq_true.mp (h.c.fact 65) m hm))))) (s_one s_no) s_nil))⟩
theorem ok_37 {P : Program} {w : World} {K : PySem.W.Frag} {mg : Str → Option Value} {base : Heap} (h : Hy K mg base) : ∃ fd, FunD K d37.name d37.qual d37.params d37.body d37.scope (d37.dvs K) [] (d37.wh.ad K) fd ∧ FnB P w (gm K) mg base 2 (d37.wh.ad K) fd [("book" : PySem.Str), ("value" : PySem.Str)] 2 [] B_need_happening_telling := by
  have m_list : mg ("list" : PySem.Str) = none := He.free_ok h.X0 h.G0 (h.c.fact 28)
  have ht_fl_names : ∀ c i, List.lookup c [(3, 1), (26, 0)] = some i → ClsOk (gm K) c ∧ ((gm K).lay c)[i]? = some ("names" : PySem.Str) := (lk_cons ⟨co3 h, rfl⟩ (lk_cons ⟨co26 h, rfl⟩ lk_nil))
  have hN : N37.Nodup := sc37.nd
  obtain ⟨fd, F⟩ := h.c.def_ 37 (d := d37) rfl
  exact ⟨fd, F, def_ok (G := gm K) (N := N37) (k := 1) (O' := []) F sc37 fun cdv A outer s H E hr tk => (s_one (s_if (t_cmp o_notIn (e_var 1) (e_listF (a_cons (e_fl [(3, 1), (26, 0)] (e_var 0) ht_fl_names) a_nil)).fz) (s_one s_no) s_nil))⟩
theorem ok_38 {P : Program} {w : World} {K : PySem.W.Frag} {mg : Str → Option Value} {base : Heap} (h : Hy K mg base) : ∃ fd, FunD K d38.name d38.qual d38.params d38.body d38.scope (d38.dvs K) [] (d38.wh.ad K) fd ∧ FnB P w (gm K) mg base 2 (d38.wh.ad K) fd [("book" : PySem.Str)] 1 [] B_need_told_road := by
  have ht_fl_axes : ∀ c i, List.lookup c [(2, 2), (3, 0)] = some i → ClsOk (gm K) c ∧ ((gm K).lay c)[i]? = some ("axes" : PySem.Str) := (lk_cons ⟨co2 h, rfl⟩ (lk_cons ⟨co3 h, rfl⟩ lk_nil))
  have hN : N38.Nodup := sc38.nd
  obtain ⟨fd, F⟩ := h.c.def_ 38 (d := d38) rfl
  exact ⟨fd, F, def_ok (G := gm K) (N := N38) (k := 1) (O' := []) F sc38 fun cdv A outer s H E hr tk => (s_one (s_if (t_cmp (o_ne hr) (e_fl [(2, 2), (3, 0)] (e_var 0) ht_fl_axes) e_int) (s_one s_no) s_nil))⟩
theorem ok_39 {P : Program} {w : World} {K : PySem.W.Frag} {mg : Str → Option Value} {base : Heap} (h : Hy K mg base) : ∃ fd, FunD K d39.name d39.qual d39.params d39.body d39.scope (d39.dvs K) [] (d39.wh.ad K) fd ∧ FnB P w (gm K) mg base 2 (d39.wh.ad K) fd [("book" : PySem.Str), ("value" : PySem.Str)] 2 [] B_need_happening_books := by
  have ht_fl_names : ∀ c i, List.lookup c [(3, 1), (26, 0)] = some i → ClsOk (gm K) c ∧ ((gm K).lay c)[i]? = some ("names" : PySem.Str) := (lk_cons ⟨co3 h, rfl⟩ (lk_cons ⟨co26 h, rfl⟩ lk_nil))
  have hN : N39.Nodup := sc39.nd
  obtain ⟨fd, F⟩ := h.c.def_ 39 (d := d39) rfl
  exact ⟨fd, F, def_ok (G := gm K) (N := N39) (k := 1) (O' := []) F sc39 fun cdv A outer s H E hr tk => (s_one (s_if (t_cmp o_notIn (e_var 1) (e_fl [(3, 1), (26, 0)] (e_var 0) ht_fl_names)) (s_one s_no) s_nil))⟩
theorem ok_40 {P : Program} {w : World} {K : PySem.W.Frag} {mg : Str → Option Value} {base : Heap} (h : Hy K mg base) : ∃ fd, FunD K d40.name d40.qual d40.params d40.body d40.scope (d40.dvs K) [] (d40.wh.ad K) fd ∧ FnB P w (gm K) mg base 3 (d40.wh.ad K) fd [("self" : PySem.Str), ("name" : PySem.Str)] 2 [] B_Book_spot_of := by
  obtain ⟨fd39, F39, ok39⟩ := ok_39 (P := P) (w := w) h
  have g39 : GlOk (gm K) P w mg base 2 ("need_happening_books" : PySem.Str) 2 [] B_need_happening_books _ fd39 [("book" : PySem.Str), ("value" : PySem.Str)] := ⟨He.glo_ok h.X0 h.G0 (h.c.fact 68), F39.kp, ok39, ar_of⟩
  have ht_fl_steps : ∀ c i, List.lookup c [(3, 2)] = some i → ClsOk (gm K) c ∧ ((gm K).lay c)[i]? = some ("steps" : PySem.Str) := (lk_cons ⟨co3 h, rfl⟩ lk_nil)
  have hN : N40.Nodup := sc40.nd
  obtain ⟨fd, F⟩ := h.c.def_ 40 (d := d40) rfl
  exact ⟨fd, F, def_ok (G := gm K) (N := N40) (k := 2) (O' := []) F sc40 fun cdv A outer s H E hr tk => (s_cons (s_expr (e_call tk (hr.mono (by decide)) g39 (F39.bindsN (ps := [("book" : PySem.Str), ("value" : PySem.Str)]) fun _ _ _ _ _ _ us hl => match us, hl with | [_, _], _ => rfl) .nil (fun _ => .nil) (a_cons (e_var 0) (a_cons (e_var 1) a_nil)))) (s_one (s_ret (e_dix hr (e_fl [(3, 2)] (e_var 0) ht_fl_steps) (e_var 1)))))⟩
theorem ok_41 {P : Program} {w : World} {K : PySem.W.Frag} {mg : Str → Option Value} {base : Heap} (h : Hy K mg base) : ∃ fd, FunD K d41.name d41.qual d41.params d41.body d41.scope (d41.dvs K) [] (d41.wh.ad K) fd ∧ FnB P w (gm K) mg base 8 (d41.wh.ad K) fd [("book" : PySem.Str), ("name" : PySem.Str)] 2 [] B_right_of := by
  obtain ⟨fd40, F40, ok40⟩ := ok_40 (P := P) (w := w) h
  obtain ⟨fd21, F21, ok21⟩ := ok_21 (P := P) (w := w) h
  have mt_spot_of_1 : ∀ c B, List.lookup c [(3, B_Book_spot_of)] = some B → ∃ n f fd ps ds dvs, MtOk (gm K) P w mg base 3 c ("spot_of" : PySem.Str) n B f fd ps ds dvs ∧ ∀ F, RepL (gm K) F [] dvs := (lk_cons ⟨2, _, fd40, [("self" : PySem.Str), ("name" : PySem.Str)], _, _, ⟨(clo3 h).1, He.meth_ok (h.c.fact 69), fn_up ok40 (by decide), ar_of, (F40.bindsN (ps := [("self" : PySem.Str), ("name" : PySem.Str)]) fun _ _ _ _ _ _ us hl => match us, hl with | [_, _], _ => rfl), .nil⟩, (fun _ => .nil)⟩ lk_nil)
  have ht_fl_time : ∀ c i, List.lookup c [(2, 0)] = some i → ClsOk (gm K) c ∧ ((gm K).lay c)[i]? = some ("time" : PySem.Str) := (lk_cons ⟨co2 h, rfl⟩ lk_nil)
  have ht_fl_place : ∀ c i, List.lookup c [(2, 1)] = some i → ClsOk (gm K) c ∧ ((gm K).lay c)[i]? = some ("place" : PySem.Str) := (lk_cons ⟨co2 h, rfl⟩ lk_nil)
  have ht_sub : ∀ c B, List.lookup c [(0, B_Ratio___sub__)] = some B → (∃ f fd ps, OwnOk (gm K) P w mg base 7 ("__sub__" : PySem.Str) c B f fd ps 2) ∧ BinOk (gm K) ("__sub__" : PySem.Str) ("__rsub__" : PySem.Str) ["int"] [0] c := (lk_cons ⟨⟨_, fd21, [("self" : PySem.Str), ("other" : PySem.Str)], (He.meth_ok (h.c.fact 49)).at_, (He.meth_ok (h.c.fact 49)).fn, fn_up ok21 (by decide), F21.bindsN (ps := [("self" : PySem.Str), ("other" : PySem.Str)]) fun _ _ _ _ _ _ us hl => match us, hl with | [_, _], _ => rfl, ar_of⟩, ⟨(h.c.fact 41), rd_ok (h.c.fact 50), (mem_cons ⟨by decide, biT_ok (h.c.fact 48)⟩ mem_nil), (mem_cons (.inl rfl) mem_nil)⟩⟩ lk_nil)
  have hN : N41.Nodup := sc41.nd
  obtain ⟨fd, F⟩ := h.c.def_ 41 (d := d41) rfl
  exact ⟨fd, F, def_ok (G := gm K) (N := N41) (k := 7) (O' := []) F sc41 fun cdv A outer s H E hr tk => (s_cons (s_to (O2 := []) (s_set 2 (e_meth [(3, B_Book_spot_of)] tk (hr.mono (by decide)) (show ("spot_of" : PySem.Str) ∉ flds by decide +kernel) (e_var 0) (a_cons (e_var 1) a_nil) mt_spot_of_1))) (s_one (s_ret (e_bin (o_bin [(0, B_Ratio___sub__)] ["int"] [0] tk (hr.mono (by decide)) o_sub ht_sub) (e_fl [(2, 0)] (e_var 2) ht_fl_time) (e_ix (e_fl [(2, 1)] (e_var 2) ht_fl_place) e_int)))))⟩
theorem ok_42 {P : Program} {w : World} {K : PySem.W.Frag} {mg : Str → Option Value} {base : Heap} (h : Hy K mg base) : ∃ fd, FunD K d42.name d42.qual d42.params d42.body d42.scope (d42.dvs K) [] (d42.wh.ad K) fd ∧ FnB P w (gm K) mg base 9 (d42.wh.ad K) fd [("book" : PySem.Str), ("name" : PySem.Str)] 2 [] B_light_right := by
  obtain ⟨fd36, F36, ok36⟩ := ok_36 (P := P) (w := w) h
  obtain ⟨fd37, F37, ok37⟩ := ok_37 (P := P) (w := w) h
  obtain ⟨fd38, F38, ok38⟩ := ok_38 (P := P) (w := w) h
  obtain ⟨fd41, F41, ok41⟩ := ok_41 (P := P) (w := w) h
  have g36 : GlOk (gm K) P w mg base 2 ("need_told_book" : PySem.Str) 1 [] B_need_told_book _ fd36 [("value" : PySem.Str)] := ⟨He.glo_ok h.X0 h.G0 (h.c.fact 70), F36.kp, ok36, ar_of⟩
  have g37 : GlOk (gm K) P w mg base 2 ("need_happening_telling" : PySem.Str) 2 [] B_need_happening_telling _ fd37 [("book" : PySem.Str), ("value" : PySem.Str)] := ⟨He.glo_ok h.X0 h.G0 (h.c.fact 71), F37.kp, ok37, ar_of⟩
  have g38 : GlOk (gm K) P w mg base 2 ("need_told_road" : PySem.Str) 1 [] B_need_told_road _ fd38 [("book" : PySem.Str)] := ⟨He.glo_ok h.X0 h.G0 (h.c.fact 72), F38.kp, ok38, ar_of⟩
  have g41 : GlOk (gm K) P w mg base 8 ("right_of" : PySem.Str) 2 [] B_right_of _ fd41 [("book" : PySem.Str), ("name" : PySem.Str)] := ⟨He.glo_ok h.X0 h.G0 (h.c.fact 73), F41.kp, ok41, ar_of⟩
  have hN : N42.Nodup := sc42.nd
  obtain ⟨fd, F⟩ := h.c.def_ 42 (d := d42) rfl
  exact ⟨fd, F, def_ok (G := gm K) (N := N42) (k := 8) (O' := []) F sc42 fun cdv A outer s H E hr tk => (s_cons (s_expr (e_call tk (hr.mono (by decide)) g36 (F36.bindsN (ps := [("value" : PySem.Str)]) fun _ _ _ _ _ _ us hl => match us, hl with | [_], _ => rfl) .nil (fun _ => .nil) (a_cons (e_var 0) a_nil))) (s_cons (s_expr (e_call tk (hr.mono (by decide)) g37 (F37.bindsN (ps := [("book" : PySem.Str), ("value" : PySem.Str)]) fun _ _ _ _ _ _ us hl => match us, hl with | [_, _], _ => rfl) .nil (fun _ => .nil) (a_cons (e_var 0) (a_cons (e_var 1) a_nil)))) (s_cons (s_expr (e_call tk (hr.mono (by decide)) g38 (F38.bindsN (ps := [("book" : PySem.Str)]) fun _ _ _ _ _ _ us hl => match us, hl with | [_], _ => rfl) .nil (fun _ => .nil) (a_cons (e_var 0) a_nil))) (s_one (s_ret (e_call tk (hr.mono (by decide)) g41 (F41.bindsN (ps := [("book" : PySem.Str), ("name" : PySem.Str)]) fun _ _ _ _ _ _ us hl => match us, hl with | [_, _], _ => rfl) .nil (fun _ => .nil) (a_cons (e_var 0) (a_cons (e_var 1) a_nil))))))))⟩
theorem ok_43 {P : Program} {w : World} {K : PySem.W.Frag} {mg : Str → Option Value} {base : Heap} (h : Hy K mg base) : ∃ fd, FunD K d43.name d43.qual d43.params d43.body d43.scope (d43.dvs K) [] (d43.wh.ad K) fd ∧ FnB P w (gm K) mg base 7 (d43.wh.ad K) fd [("book" : PySem.Str), ("name" : PySem.Str)] 2 [] B_left_of := by
  obtain ⟨fd40, F40, ok40⟩ := ok_40 (P := P) (w := w) h
  obtain ⟨fd19, F19, ok19⟩ := ok_19 (P := P) (w := w) h
  have mt_spot_of_1 : ∀ c B, List.lookup c [(3, B_Book_spot_of)] = some B → ∃ n f fd ps ds dvs, MtOk (gm K) P w mg base 3 c ("spot_of" : PySem.Str) n B f fd ps ds dvs ∧ ∀ F, RepL (gm K) F [] dvs := (lk_cons ⟨2, _, fd40, [("self" : PySem.Str), ("name" : PySem.Str)], _, _, ⟨(clo3 h).1, He.meth_ok (h.c.fact 69), fn_up ok40 (by decide), ar_of, (F40.bindsN (ps := [("self" : PySem.Str), ("name" : PySem.Str)]) fun _ _ _ _ _ _ us hl => match us, hl with | [_, _], _ => rfl), .nil⟩, (fun _ => .nil)⟩ lk_nil)
  have ht_fl_time : ∀ c i, List.lookup c [(2, 0)] = some i → ClsOk (gm K) c ∧ ((gm K).lay c)[i]? = some ("time" : PySem.Str) := (lk_cons ⟨co2 h, rfl⟩ lk_nil)
  have ht_fl_place : ∀ c i, List.lookup c [(2, 1)] = some i → ClsOk (gm K) c ∧ ((gm K).lay c)[i]? = some ("place" : PySem.Str) := (lk_cons ⟨co2 h, rfl⟩ lk_nil)
  have ht_add : ∀ c B, List.lookup c [(0, B_Ratio___add__)] = some B → (∃ f fd ps, OwnOk (gm K) P w mg base 6 ("__add__" : PySem.Str) c B f fd ps 2) ∧ BinOk (gm K) ("__add__" : PySem.Str) ("__radd__" : PySem.Str) ["int"] [0] c := (lk_cons ⟨⟨_, fd19, [("self" : PySem.Str), ("other" : PySem.Str)], (He.meth_ok (h.c.fact 40)).at_, (He.meth_ok (h.c.fact 40)).fn, fn_up ok19 (by decide), F19.bindsN (ps := [("self" : PySem.Str), ("other" : PySem.Str)]) fun _ _ _ _ _ _ us hl => match us, hl with | [_, _], _ => rfl, ar_of⟩, ⟨(h.c.fact 41), rd_ok (h.c.fact 42), (mem_cons ⟨by decide, biT_ok (h.c.fact 39)⟩ mem_nil), (mem_cons (.inl rfl) mem_nil)⟩⟩ lk_nil)
  have hN : N43.Nodup := sc43.nd
  obtain ⟨fd, F⟩ := h.c.def_ 43 (d := d43) rfl
  exact ⟨fd, F, def_ok (G := gm K) (N := N43) (k := 6) (O' := []) F sc43 fun cdv A outer s H E hr tk => (s_cons (s_to (O2 := []) (s_set 2 (e_meth [(3, B_Book_spot_of)] tk (hr.mono (by decide)) (show ("spot_of" : PySem.Str) ∉ flds by decide +kernel) (e_var 0) (a_cons (e_var 1) a_nil) mt_spot_of_1))) (s_one (s_ret (e_bin (o_bin [(0, B_Ratio___add__)] ["int"] [0] tk (hr.mono (by decide)) o_add ht_add) (e_fl [(2, 0)] (e_var 2) ht_fl_time) (e_ix (e_fl [(2, 1)] (e_var 2) ht_fl_place) e_int)))))⟩
theorem ok_44 {P : Program} {w : World} {K : PySem.W.Frag} {mg : Str → Option Value} {base : Heap} (h : Hy K mg base) : ∃ fd, FunD K d44.name d44.qual d44.params d44.body d44.scope (d44.dvs K) [] (d44.wh.ad K) fd ∧ FnB P w (gm K) mg base 8 (d44.wh.ad K) fd [("book" : PySem.Str), ("name" : PySem.Str)] 2 [] B_light_left := by
  obtain ⟨fd36, F36, ok36⟩ := ok_36 (P := P) (w := w) h
  obtain ⟨fd37, F37, ok37⟩ := ok_37 (P := P) (w := w) h
  obtain ⟨fd38, F38, ok38⟩ := ok_38 (P := P) (w := w) h
  obtain ⟨fd43, F43, ok43⟩ := ok_43 (P := P) (w := w) h
  have g36 : GlOk (gm K) P w mg base 2 ("need_told_book" : PySem.Str) 1 [] B_need_told_book _ fd36 [("value" : PySem.Str)] := ⟨He.glo_ok h.X0 h.G0 (h.c.fact 70), F36.kp, ok36, ar_of⟩
  have g37 : GlOk (gm K) P w mg base 2 ("need_happening_telling" : PySem.Str) 2 [] B_need_happening_telling _ fd37 [("book" : PySem.Str), ("value" : PySem.Str)] := ⟨He.glo_ok h.X0 h.G0 (h.c.fact 71), F37.kp, ok37, ar_of⟩
  have g38 : GlOk (gm K) P w mg base 2 ("need_told_road" : PySem.Str) 1 [] B_need_told_road _ fd38 [("book" : PySem.Str)] := ⟨He.glo_ok h.X0 h.G0 (h.c.fact 72), F38.kp, ok38, ar_of⟩
  have g43 : GlOk (gm K) P w mg base 7 ("left_of" : PySem.Str) 2 [] B_left_of _ fd43 [("book" : PySem.Str), ("name" : PySem.Str)] := ⟨He.glo_ok h.X0 h.G0 (h.c.fact 74), F43.kp, ok43, ar_of⟩
  have hN : N44.Nodup := sc44.nd
  obtain ⟨fd, F⟩ := h.c.def_ 44 (d := d44) rfl
  exact ⟨fd, F, def_ok (G := gm K) (N := N44) (k := 7) (O' := []) F sc44 fun cdv A outer s H E hr tk => (s_cons (s_expr (e_call tk (hr.mono (by decide)) g36 (F36.bindsN (ps := [("value" : PySem.Str)]) fun _ _ _ _ _ _ us hl => match us, hl with | [_], _ => rfl) .nil (fun _ => .nil) (a_cons (e_var 0) a_nil))) (s_cons (s_expr (e_call tk (hr.mono (by decide)) g37 (F37.bindsN (ps := [("book" : PySem.Str), ("value" : PySem.Str)]) fun _ _ _ _ _ _ us hl => match us, hl with | [_, _], _ => rfl) .nil (fun _ => .nil) (a_cons (e_var 0) (a_cons (e_var 1) a_nil)))) (s_cons (s_expr (e_call tk (hr.mono (by decide)) g38 (F38.bindsN (ps := [("book" : PySem.Str)]) fun _ _ _ _ _ _ us hl => match us, hl with | [_], _ => rfl) .nil (fun _ => .nil) (a_cons (e_var 0) a_nil))) (s_one (s_ret (e_call tk (hr.mono (by decide)) g43 (F43.bindsN (ps := [("book" : PySem.Str), ("name" : PySem.Str)]) fun _ _ _ _ _ _ us hl => match us, hl with | [_, _], _ => rfl) .nil (fun _ => .nil) (a_cons (e_var 0) (a_cons (e_var 1) a_nil))))))))⟩
theorem ok_45 {P : Program} {w : World} {K : PySem.W.Frag} {mg : Str → Option Value} {base : Heap} (h : Hy K mg base) : ∃ fd, FunD K d45.name d45.qual d45.params d45.body d45.scope (d45.dvs K) [] (d45.wh.ad K) fd ∧ FnB P w (gm K) mg base 10 (d45.wh.ad K) fd [("self" : PySem.Str), ("book" : PySem.Str)] 2 [0] B_Lights___init__ := by
  obtain ⟨fd42, F42, ok42⟩ := ok_42 (P := P) (w := w) h
  obtain ⟨fd44, F44, ok44⟩ := ok_44 (P := P) (w := w) h
  obtain ⟨fd35, F35, ok35⟩ := ok_35 (P := P) (w := w) h
  obtain ⟨fd6, F6, ok6⟩ := ok_6 (P := P) (w := w) h
  have ht_fl_names : ∀ c i, List.lookup c [(3, 1), (26, 0)] = some i → ClsOk (gm K) c ∧ ((gm K).lay c)[i]? = some ("names" : PySem.Str) := (lk_cons ⟨co3 h, rfl⟩ (lk_cons ⟨co26 h, rfl⟩ lk_nil))
  have g42 : GlOk (gm K) P w mg base 9 ("light_right" : PySem.Str) 2 [] B_light_right _ fd42 [("book" : PySem.Str), ("name" : PySem.Str)] := ⟨He.glo_ok h.X0 h.G0 (h.c.fact 75), F42.kp, ok42, ar_of⟩
  have g44 : GlOk (gm K) P w mg base 8 ("light_left" : PySem.Str) 2 [] B_light_left _ fd44 [("book" : PySem.Str), ("name" : PySem.Str)] := ⟨He.glo_ok h.X0 h.G0 (h.c.fact 76), F44.kp, ok44, ar_of⟩
  have ht_fs_names : ∀ c i, List.lookup c [(26, 0)] = some i → ClsOk (gm K) c ∧ ((gm K).lay c)[i]? = some ("names" : PySem.Str) := lk_cons ⟨co26 h, rfl⟩ lk_nil
  have g35 : GlOk (gm K) P w mg base 2 ("unlike_ascending" : PySem.Str) 1 [] B_unlike_ascending _ fd35 [("ratios" : PySem.Str)] := ⟨He.glo_ok h.X0 h.G0 (h.c.fact 77), F35.kp, ok35, ar_of⟩
  have ht_fs_right : ∀ c i, List.lookup c [(26, 1)] = some i → ClsOk (gm K) c ∧ ((gm K).lay c)[i]? = some ("right" : PySem.Str) := lk_cons ⟨co26 h, rfl⟩ lk_nil
  have ht_fs_left : ∀ c i, List.lookup c [(26, 2)] = some i → ClsOk (gm K) c ∧ ((gm K).lay c)[i]? = some ("left" : PySem.Str) := lk_cons ⟨co26 h, rfl⟩ lk_nil
  have ht_fs_ranks : ∀ c i, List.lookup c [(26, 3)] = some i → ClsOk (gm K) c ∧ ((gm K).lay c)[i]? = some ("ranks" : PySem.Str) := lk_cons ⟨co26 h, rfl⟩ lk_nil
  have ht_fl_right : ∀ c i, List.lookup c [(26, 1)] = some i → ClsOk (gm K) c ∧ ((gm K).lay c)[i]? = some ("right" : PySem.Str) := (lk_cons ⟨co26 h, rfl⟩ lk_nil)
  have ht_eq : ∀ c B, List.lookup c [(0, B_Ratio___eq__)] = some B → (∃ f fd ps, OwnOk (gm K) P w mg base 3 ("__eq__" : PySem.Str) c B f fd ps 2) ∧ CmpOk (gm K) ["int"] [0] c := (lk_cons ⟨⟨_, fd6, [("self" : PySem.Str), ("other" : PySem.Str)], (He.meth_ok (h.c.fact 17)).at_, (He.meth_ok (h.c.fact 17)).fn, fn_up ok6 (by decide), F6.bindsN (ps := [("self" : PySem.Str), ("other" : PySem.Str)]) fun _ _ _ _ _ _ us hl => match us, hl with | [_, _], _ => rfl, ar_of⟩, ⟨(mem_cons ⟨by decide, (h.c.fact 15)⟩ mem_nil), (mem_cons (h.c.fact 16) mem_nil)⟩⟩ lk_nil)
  have ht_fl_left : ∀ c i, List.lookup c [(26, 2)] = some i → ClsOk (gm K) c ∧ ((gm K).lay c)[i]? = some ("left" : PySem.Str) := (lk_cons ⟨co26 h, rfl⟩ lk_nil)
  have m_len : mg ("len" : PySem.Str) = none := He.free_ok h.X0 h.G0 (h.c.fact 1)
  have ht_fs_whole : ∀ c i, List.lookup c [(26, 4)] = some i → ClsOk (gm K) c ∧ ((gm K).lay c)[i]? = some ("whole" : PySem.Str) := lk_cons ⟨co26 h, rfl⟩ lk_nil
  have hN : N45.Nodup := sc45.nd
  obtain ⟨fd, F⟩ := h.c.def_ 45 (d := d45) rfl
  exact ⟨fd, F, def_ok (G := gm K) (N := N45) (k := 9) (O' := [0]) F sc45 fun cdv A outer s H E hr tk => (s_cons (s_to (O2 := [0]) (s_set 2 (e_dcF (vs := [4]) [(("name" : PySem.Str), 4)] rfl (i_seq (e_fl [(3, 1), (26, 0)] (e_var 1) ht_fl_names)) (blkOk_by (by kernel_rfl)) (fun _ _ _ _ _ => (g_to (O2 := [0]) (g_name 4))) (fun _ _ _ _ _ => pts_no) (fun _ _ _ _ _ => (e_var 4)) (fun _ _ _ _ _ => (e_call takes_blk (hr.mono (by decide)) g42 (F42.bindsN (ps := [("book" : PySem.Str), ("name" : PySem.Str)]) fun _ _ _ _ _ _ us hl => match us, hl with | [_, _], _ => rfl) .nil (fun _ => .nil) (a_cons (e_var 1) (a_cons (e_var 4) a_nil))))).lk)) (s_cons (s_to (O2 := [0]) (s_set 3 (e_dcF (vs := [4]) [(("name" : PySem.Str), 4)] rfl (i_seq (e_fl [(3, 1), (26, 0)] (e_var 1) ht_fl_names)) (blkOk_by (by kernel_rfl)) (fun _ _ _ _ _ => (g_to (O2 := [0]) (g_name 4))) (fun _ _ _ _ _ => pts_no) (fun _ _ _ _ _ => (e_var 4)) (fun _ _ _ _ _ => (e_call takes_blk (hr.mono (by decide)) g44 (F44.bindsN (ps := [("book" : PySem.Str), ("name" : PySem.Str)]) fun _ _ _ _ _ _ us hl => match us, hl with | [_, _], _ => rfl) .nil (fun _ => .nil) (a_cons (e_var 1) (a_cons (e_var 4) a_nil))))).lk)) (s_cons (s_fld 0 [(26, 0)] (e_fl [(3, 1), (26, 0)] (e_var 1) ht_fl_names) ht_fs_names) (s_cons (s_fld 0 [(26, 1)] (e_call tk (hr.mono (by decide)) g35 (F35.bindsN (ps := [("ratios" : PySem.Str)]) fun _ _ _ _ _ _ us hl => match us, hl with | [_], _ => rfl) .nil (fun _ => .nil) (a_cons (e_lcF (vs := [4]) [(("name" : PySem.Str), 4)] rfl (i_seq (e_fl [(3, 1), (26, 0)] (e_var 1) ht_fl_names)) (blkOk_by (by kernel_rfl)) (fun _ _ _ _ _ => (g_to (O2 := [0]) (g_name 4))) (fun _ _ _ _ _ => pts_no) (fun _ _ _ _ _ => (e_dix hr (e_var 2) (e_var 4)))).fz a_nil)) ht_fs_right) (s_cons (s_fld 0 [(26, 2)] (e_call tk (hr.mono (by decide)) g35 (F35.bindsN (ps := [("ratios" : PySem.Str)]) fun _ _ _ _ _ _ us hl => match us, hl with | [_], _ => rfl) .nil (fun _ => .nil) (a_cons (e_lcF (vs := [4]) [(("name" : PySem.Str), 4)] rfl (i_seq (e_fl [(3, 1), (26, 0)] (e_var 1) ht_fl_names)) (blkOk_by (by kernel_rfl)) (fun _ _ _ _ _ => (g_to (O2 := [0]) (g_name 4))) (fun _ _ _ _ _ => pts_no) (fun _ _ _ _ _ => (e_dix hr (e_var 3) (e_var 4)))).fz a_nil)) ht_fs_left) (ss_ranks 0 [(26, 3)] [4] hr (i_seq (e_fl [(3, 1), (26, 0)] (e_var 1) ht_fl_names)) (g_to (O2 := []) (g_name 4)) (e_tup (a_cons (e_bin o_add (e_indexG [(0, B_Ratio___eq__)] ["int"] [0] LamX.takes0 (hr.mono (by decide)) ht_eq (e_fl [(26, 1)] (e_var 0) ht_fl_right) (e_dix hr (e_var 2) (e_var 4))) e_int) (a_cons (e_bin o_add (e_indexG [(0, B_Ratio___eq__)] ["int"] [0] LamX.takes0 (hr.mono (by decide)) ht_eq (e_fl [(26, 2)] (e_var 0) ht_fl_left) (e_dix hr (e_var 3) (e_var 4))) e_int) a_nil))) (e_var 4) (s_one (s_fld 0 [(26, 4)] (e_tup (a_cons (e_lenF (e_fl [(26, 1)] (e_self 0) ht_fl_right)) (a_cons (e_lenF (e_fl [(26, 2)] (e_self 0) ht_fl_left)) a_nil))) ht_fs_whole)) ht_fs_ranks (passes_of rfl)))))))⟩
theorem ok_46 {P : Program} {w : World} {K : PySem.W.Frag} {mg : Str → Option Value} {base : Heap} (h : Hy K mg base) : ∃ fd, FunD K d46.name d46.qual d46.params d46.body d46.scope (d46.dvs K) [] (d46.wh.ad K) fd ∧ FnB P w (gm K) mg base 4 (d46.wh.ad K) fd [("lights" : PySem.Str), ("names" : PySem.Str), ("side" : PySem.Str)] 3 [] B_greatest_name := by
  have ht_fl_ranks : ∀ c i, List.lookup c [(26, 3)] = some i → ClsOk (gm K) c ∧ ((gm K).lay c)[i]? = some ("ranks" : PySem.Str) := (lk_cons ⟨co26 h, rfl⟩ lk_nil)
  have m_max : mg ("max" : PySem.Str) = none := He.free_ok h.X0 h.G0 (h.c.fact 5)
  have hN : N46.Nodup := sc46.nd
  obtain ⟨fd, F⟩ := h.c.def_ 46 (d := d46) rfl
  exact ⟨fd, F, def_ok (G := gm K) (N := N46) (k := 3) (O' := []) F sc46 fun cdv A outer s H E hr tk => (s_cons (s_to (O2 := []) (s_setLc 3 (vs := [4]) [(("name" : PySem.Str), 4)] rfl (i_seq (e_var 1)) (blkOk_by (by kernel_rfl)) (fun _ _ _ _ _ => (g_to (O2 := []) (g_name 4))) (fun _ _ _ _ _ => pts_no) (fun _ _ _ _ _ => (e_tup (a_cons (e_ix (e_dix hr (e_fl [(26, 3)] (e_var 0) ht_fl_ranks) (e_var 4)) (e_var 2)) (a_cons (e_ix (e_dix hr (e_fl [(26, 3)] (e_var 0) ht_fl_ranks) (e_var 4)) (e_bin o_sub e_int (e_var 2))) (a_cons (e_var 4) a_nil))))))) (s_one (s_ret (e_ix (e_maxT (k := 0) (hr.mono (by decide)) (a_cons (e_var 3) a_nil)) e_int))))⟩
theorem ok_47 {P : Program} {w : World} {K : PySem.W.Frag} {mg : Str → Option Value} {base : Heap} (h : Hy K mg base) : ∃ fd, FunD K d47.name d47.qual d47.params d47.body d47.scope (d47.dvs K) [] (d47.wh.ad K) fd ∧ FnB P w (gm K) mg base 12 (d47.wh.ad K) fd [("book" : PySem.Str), ("names" : PySem.Str)] 2 [] B_least_bringing := by
  obtain ⟨fd30, F30, ok30⟩ := ok_30 (P := P) (w := w) h
  obtain ⟨fd33, F33, ok33⟩ := ok_33 (P := P) (w := w) h
  obtain ⟨fd34, F34, ok34⟩ := ok_34 (P := P) (w := w) h
  obtain ⟨fd45, F45, ok45⟩ := ok_45 (P := P) (w := w) h
  obtain ⟨fd46, F46, ok46⟩ := ok_46 (P := P) (w := w) h
  have g30 : GlOk (gm K) P w mg base 2 ("need_book" : PySem.Str) 1 [] B_need_book _ fd30 [("book" : PySem.Str)] := ⟨He.glo_ok h.X0 h.G0 (h.c.fact 78), F30.kp, ok30, ar_of⟩
  have g33 : GlOk (gm K) P w mg base 3 ("need_some" : PySem.Str) 2 [] B_need_some _ fd33 [("book" : PySem.Str), ("names" : PySem.Str)] := ⟨He.glo_ok h.X0 h.G0 (h.c.fact 79), F33.kp, ok33, ar_of⟩
  have g34 : GlOk (gm K) P w mg base 2 ("need_road" : PySem.Str) 1 [] B_need_road _ fd34 [("book" : PySem.Str)] := ⟨He.glo_ok h.X0 h.G0 (h.c.fact 80), F34.kp, ok34, ar_of⟩
  have nw45 : NwOk (gm K) P w mg base 10 ("Lights" : PySem.Str) 26 2 B_Lights___init__ _ fd45 [("self" : PySem.Str), ("book" : PySem.Str)] := ⟨He.glo_ok h.X0 h.G0 (h.c.fact 81), He.mkr_ok (h.c.fact 82), rfl, ok45, ar_of, rfl⟩
  have g46 : GlOk (gm K) P w mg base 4 ("greatest_name" : PySem.Str) 3 [] B_greatest_name _ fd46 [("lights" : PySem.Str), ("names" : PySem.Str), ("side" : PySem.Str)] := ⟨He.glo_ok h.X0 h.G0 (h.c.fact 83), F46.kp, ok46, ar_of⟩
  have m_tuple : mg ("tuple" : PySem.Str) = none := He.free_ok h.X0 h.G0 (h.c.fact 27)
  have m_sorted : mg ("sorted" : PySem.Str) = none := He.free_ok h.X0 h.G0 (h.c.fact 59)
  have m_list : mg ("list" : PySem.Str) = none := He.free_ok h.X0 h.G0 (h.c.fact 28)
  have hN : N47.Nodup := sc47.nd
  obtain ⟨fd, F⟩ := h.c.def_ 47 (d := d47) rfl
  exact ⟨fd, F, def_ok (G := gm K) (N := N47) (k := 11) (O' := []) F sc47 fun cdv A outer s H E hr tk => (s_cons (s_expr (e_call tk (hr.mono (by decide)) g30 (F30.bindsN (ps := [("book" : PySem.Str)]) fun _ _ _ _ _ _ us hl => match us, hl with | [_], _ => rfl) .nil (fun _ => .nil) (a_cons (e_var 0) a_nil))) (s_cons (s_expr (e_call tk (hr.mono (by decide)) g33 (F33.bindsN (ps := [("book" : PySem.Str), ("names" : PySem.Str)]) fun _ _ _ _ _ _ us hl => match us, hl with | [_, _], _ => rfl) .nil (fun _ => .nil) (a_cons (e_var 0) (a_cons (e_var 1) a_nil)))) (s_cons (s_expr (e_call tk (hr.mono (by decide)) g34 (F34.bindsN (ps := [("book" : PySem.Str)]) fun _ _ _ _ _ _ us hl => match us, hl with | [_], _ => rfl) .nil (fun _ => .nil) (a_cons (e_var 0) a_nil))) (s_cons (s_to (O2 := []) (s_set 2 (e_new tk (hr.mono (by decide)) nw45 (F45.bindsN (ps := [("self" : PySem.Str), ("book" : PySem.Str)]) fun _ _ _ _ _ _ us hl => match us, hl with | [_, _], _ => rfl) .nil (fun _ => .nil) (a_cons (e_var 0) a_nil)))) (s_cons (s_to (O2 := [3]) (s_setDcF 3 (vs := [4]) [(("side" : PySem.Str), 4)] rfl (i_seq (e_tup (a_cons e_int (a_cons e_int a_nil)))) (blkOk_by (by kernel_rfl)) (fun _ _ _ _ _ => (g_to (O2 := []) (g_name 4))) (fun _ _ _ _ _ => pts_no) (fun _ _ _ _ _ => (e_call takes_blk (hr.mono (by decide)) g46 (F46.bindsN (ps := [("lights" : PySem.Str), ("names" : PySem.Str), ("side" : PySem.Str)]) fun _ _ _ _ _ _ us hl => match us, hl with | [_, _, _], _ => rfl) .nil (fun _ => .nil) (a_cons (e_var 2) (a_cons (e_var 1) (a_cons (e_var 4) a_nil))))) (fun _ _ _ _ _ => e_bl))) (ss_frz (O1 := []) (s_one (s_ret (e_tuple (a_cons (e_sorted (a_cons (e_listD (a_cons (e_var 3) a_nil)) a_nil)) a_nil))))))))))⟩
theorem ok_48 {P : Program} {w : World} {K : PySem.W.Frag} {mg : Str → Option Value} {base : Heap} (h : Hy K mg base) : ∃ fd, FunD K d48.name d48.qual d48.params d48.body d48.scope (d48.dvs K) [] (d48.wh.ad K) fd ∧ FnB P w (gm K) mg base 2 (d48.wh.ad K) fd [("_law_plain_here" : PySem.Str), ("_law_crowd" : PySem.Str)] 2 [] B__law_meet := by
  have m_max : mg ("max" : PySem.Str) = none := He.free_ok h.X0 h.G0 (h.c.fact 5)
  have hN : N48.Nodup := sc48.nd
  obtain ⟨fd, F⟩ := h.c.def_ 48 (d := d48) rfl
  exact ⟨fd, F, def_ok (G := gm K) (N := N48) (k := 1) (O' := []) F sc48 fun cdv A outer s H E hr tk => (s_one (s_ret (e_tup (a_cons (e_max1 (a_cons (e_lcF (vs := [2]) [(("_law_name" : PySem.Str), 2)] rfl (i_seq (e_var 1)) (blkOk_by (by kernel_rfl)) (fun _ _ _ _ _ => (g_to (O2 := []) (g_name 2))) (fun _ _ _ _ _ => pts_no) (fun _ _ _ _ _ => (e_ix (e_dix hr (e_var 0) (e_var 2)) e_int))).fz a_nil)) (a_cons (e_max1 (a_cons (e_lcF (vs := [2]) [(("_law_name" : PySem.Str), 2)] rfl (i_seq (e_var 1)) (blkOk_by (by kernel_rfl)) (fun _ _ _ _ _ => (g_to (O2 := []) (g_name 2))) (fun _ _ _ _ _ => pts_no) (fun _ _ _ _ _ => (e_ix (e_dix hr (e_var 0) (e_var 2)) e_int))).fz a_nil)) a_nil)))))⟩
theorem ok_49 {P : Program} {w : World} {K : PySem.W.Frag} {mg : Str → Option Value} {base : Heap} (h : Hy K mg base) : ∃ fd, FunD K d49.name d49.qual d49.params d49.body d49.scope (d49.dvs K) [] (d49.wh.ad K) fd ∧ FnB P w (gm K) mg base 4 (d49.wh.ad K) fd [("_law_plain_here" : PySem.Str), ("_law_crowd" : PySem.Str)] 2 [] B__law_least := by
  obtain ⟨fd48, F48, ok48⟩ := ok_48 (P := P) (w := w) h
  have g48 : GlOk (gm K) P w mg base 2 ("_law_meet" : PySem.Str) 2 [] B__law_meet _ fd48 [("_law_plain_here" : PySem.Str), ("_law_crowd" : PySem.Str)] := ⟨He.glo_ok h.X0 h.G0 (h.c.fact 84), F48.kp, ok48, ar_of⟩
  have m_max : mg ("max" : PySem.Str) = none := He.free_ok h.X0 h.G0 (h.c.fact 5)
  have m_tuple : mg ("tuple" : PySem.Str) = none := He.free_ok h.X0 h.G0 (h.c.fact 27)
  have m_sorted : mg ("sorted" : PySem.Str) = none := He.free_ok h.X0 h.G0 (h.c.fact 59)
  have hN : N49.Nodup := sc49.nd
  obtain ⟨fd, F⟩ := h.c.def_ 49 (d := d49) rfl
  exact ⟨fd, F, def_ok (G := gm K) (N := N49) (k := 3) (O' := []) F sc49 fun cdv A outer s H E hr tk => (s_cons (s_asg (vs := [0, 1, 2, 3, 4, 5, 6, 7]) (e_call tk (hr.mono (by decide)) g48 (F48.bindsN (ps := [("_law_plain_here" : PySem.Str), ("_law_crowd" : PySem.Str)]) fun _ _ _ _ _ _ us hl => match us, hl with | [_, _], _ => rfl) .nil (fun _ => .nil) (a_cons (e_var 0) (a_cons (e_var 1) a_nil))) (g_tup (gs_cons (g_to (O2 := []) (g_name 2)) (gs_cons (g_to (O2 := []) (g_name 3)) gs_nil)))) (s_cons (s_to (O2 := []) (s_set 4 (e_ix (e_maxT (k := 0) (hr.mono (by decide)) (a_cons (e_lcF (vs := [7]) [(("_law_name" : PySem.Str), 7)] rfl (i_seq (e_var 1)) (blkOk_by (by kernel_rfl)) (fun _ _ _ _ _ => (g_to (O2 := []) (g_name 7))) (fun _ _ _ _ _ => (pts_1 (t_cmp (o_eq hr) (e_ix (e_dix hr (e_var 0) (e_var 7)) e_int) (e_var 2)))) (fun _ _ _ _ _ => (e_tup (a_cons (e_ix (e_dix hr (e_var 0) (e_var 7)) e_int) (a_cons (e_var 7) a_nil))))).fz a_nil)) e_int))) (s_cons (s_to (O2 := []) (s_set 5 (e_ix (e_maxT (k := 0) (hr.mono (by decide)) (a_cons (e_lcF (vs := [7]) [(("_law_name" : PySem.Str), 7)] rfl (i_seq (e_var 1)) (blkOk_by (by kernel_rfl)) (fun _ _ _ _ _ => (g_to (O2 := []) (g_name 7))) (fun _ _ _ _ _ => (pts_1 (t_cmp (o_eq hr) (e_ix (e_dix hr (e_var 0) (e_var 7)) e_int) (e_var 3)))) (fun _ _ _ _ _ => (e_tup (a_cons (e_ix (e_dix hr (e_var 0) (e_var 7)) e_int) (a_cons (e_var 7) a_nil))))).fz a_nil)) e_int))) (s_cons (s_to (O2 := []) (s_setLc 6 (vs := [7]) [(("_law_name" : PySem.Str), 7)] rfl (i_seq (e_var 1)) (blkOk_by (by kernel_rfl)) (fun _ _ _ _ _ => (g_to (O2 := []) (g_name 7))) (fun _ _ _ _ _ => (pts_1 (t_cmp (o_eq hr) (e_dix hr (e_var 0) (e_var 7)) (e_tup (a_cons (e_var 2) (a_cons (e_var 3) a_nil)))))) (fun _ _ _ _ _ => (e_var 7)))) (s_one (s_ret (e_if (t_cmp (o_ne hr) (e_var 6) (e_lst a_nil)) (e_tuple (a_cons (e_var 6) a_nil)) (e_tuple (a_cons (e_sorted (a_cons (e_lst (a_cons (e_var 4) (a_cons (e_var 5) a_nil))) a_nil)) a_nil)))))))))⟩
theorem ok_50 {P : Program} {w : World} {K : PySem.W.Frag} {mg : Str → Option Value} {base : Heap} (h : Hy K mg base) : ∃ fd, FunD K d50.name d50.qual d50.params d50.body d50.scope (d50.dvs K) [] (d50.wh.ad K) fd ∧ FnB P w (gm K) mg base 2 (d50.wh.ad K) fd [("self" : PySem.Str), ("state" : PySem.Str)] 2 [] B_Lights_seen_in := by
  have ht_fl_names : ∀ c i, List.lookup c [(3, 1), (26, 0)] = some i → ClsOk (gm K) c ∧ ((gm K).lay c)[i]? = some ("names" : PySem.Str) := (lk_cons ⟨co3 h, rfl⟩ (lk_cons ⟨co26 h, rfl⟩ lk_nil))
  have ht_fl_ranks : ∀ c i, List.lookup c [(26, 3)] = some i → ClsOk (gm K) c ∧ ((gm K).lay c)[i]? = some ("ranks" : PySem.Str) := (lk_cons ⟨co26 h, rfl⟩ lk_nil)
  have hN : N50.Nodup := sc50.nd
  obtain ⟨fd, F⟩ := h.c.def_ 50 (d := d50) rfl
  exact ⟨fd, F, def_ok (G := gm K) (N := N50) (k := 1) (O' := []) F sc50 fun cdv A outer s H E hr tk => (s_one (s_ret (e_lcF (vs := [2]) [(("name" : PySem.Str), 2)] rfl (i_seq (e_fl [(3, 1), (26, 0)] (e_var 0) ht_fl_names)) (blkOk_by (by kernel_rfl)) (fun _ _ _ _ _ => (g_to (O2 := []) (g_name 2))) (fun _ _ _ _ _ => (pts_1 (t_bo (w_and (t_cmp o_le (e_ix (e_dix hr (e_fl [(26, 3)] (e_var 0) ht_fl_ranks) (e_var 2)) e_int) (e_ix (e_var 1) e_int)) (w_and1 (t_cmp o_le (e_ix (e_dix hr (e_fl [(26, 3)] (e_var 0) ht_fl_ranks) (e_var 2)) e_int) (e_ix (e_var 1) e_int))))))) (fun _ _ _ _ _ => (e_var 2))).fz))⟩
theorem ok_51 {P : Program} {w : World} {K : PySem.W.Frag} {mg : Str → Option Value} {base : Heap} (h : Hy K mg base) : ∃ fd, FunD K d51.name d51.qual d51.params d51.body d51.scope (d51.dvs K) [] (d51.wh.ad K) fd ∧ FnB P w (gm K) mg base 2 (d51.wh.ad K) fd [("lights" : PySem.Str), ("names" : PySem.Str)] 2 [] B_meet_of_ranks := by
  have ht_fl_ranks : ∀ c i, List.lookup c [(26, 3)] = some i → ClsOk (gm K) c ∧ ((gm K).lay c)[i]? = some ("ranks" : PySem.Str) := (lk_cons ⟨co26 h, rfl⟩ lk_nil)
  have m_max : mg ("max" : PySem.Str) = none := He.free_ok h.X0 h.G0 (h.c.fact 5)
  have hN : N51.Nodup := sc51.nd
  obtain ⟨fd, F⟩ := h.c.def_ 51 (d := d51) rfl
  exact ⟨fd, F, def_ok (G := gm K) (N := N51) (k := 1) (O' := []) F sc51 fun cdv A outer s H E hr tk => (s_cons (s_to (O2 := []) (s_setLc 2 (vs := [3]) [(("name" : PySem.Str), 3)] rfl (i_seq (e_var 1)) (blkOk_by (by kernel_rfl)) (fun _ _ _ _ _ => (g_to (O2 := []) (g_name 3))) (fun _ _ _ _ _ => pts_no) (fun _ _ _ _ _ => (e_dix hr (e_fl [(26, 3)] (e_var 0) ht_fl_ranks) (e_var 3))))) (s_one (s_ret (e_tup (a_cons (e_max1 (a_cons (e_lcF (vs := [4]) [(("rank" : PySem.Str), 4)] rfl (i_seq (e_var 2)) (blkOk_by (by kernel_rfl)) (fun _ _ _ _ _ => (g_to (O2 := []) (g_name 4))) (fun _ _ _ _ _ => pts_no) (fun _ _ _ _ _ => (e_ix (e_var 4) e_int))).fz a_nil)) (a_cons (e_max1 (a_cons (e_lcF (vs := [4]) [(("rank" : PySem.Str), 4)] rfl (i_seq (e_var 2)) (blkOk_by (by kernel_rfl)) (fun _ _ _ _ _ => (g_to (O2 := []) (g_name 4))) (fun _ _ _ _ _ => pts_no) (fun _ _ _ _ _ => (e_ix (e_var 4) e_int))).fz a_nil)) a_nil))))))⟩
theorem ok_52 {P : Program} {w : World} {K : PySem.W.Frag} {mg : Str → Option Value} {base : Heap} (h : Hy K mg base) : ∃ fd, FunD K d52.name d52.qual d52.params d52.body d52.scope (d52.dvs K) [] (d52.wh.ad K) fd ∧ FnB P w (gm K) mg base 3 (d52.wh.ad K) fd [("lights" : PySem.Str), ("names" : PySem.Str)] 2 [] B_all_brought := by
  obtain ⟨fd50, F50, ok50⟩ := ok_50 (P := P) (w := w) h
  obtain ⟨fd51, F51, ok51⟩ := ok_51 (P := P) (w := w) h
  have mt_seen_in_1 : ∀ c B, List.lookup c [(26, B_Lights_seen_in)] = some B → ∃ n f fd ps ds dvs, MtOk (gm K) P w mg base 2 c ("seen_in" : PySem.Str) n B f fd ps ds dvs ∧ ∀ F, RepL (gm K) F [] dvs := (lk_cons ⟨2, _, fd50, [("self" : PySem.Str), ("state" : PySem.Str)], _, _, ⟨(clo26 h).1, He.meth_ok (h.c.fact 85), fn_up ok50 (by decide), ar_of, (F50.bindsN (ps := [("self" : PySem.Str), ("state" : PySem.Str)]) fun _ _ _ _ _ _ us hl => match us, hl with | [_, _], _ => rfl), .nil⟩, (fun _ => .nil)⟩ lk_nil)
  have g51 : GlOk (gm K) P w mg base 2 ("meet_of_ranks" : PySem.Str) 2 [] B_meet_of_ranks _ fd51 [("lights" : PySem.Str), ("names" : PySem.Str)] := ⟨He.glo_ok h.X0 h.G0 (h.c.fact 86), F51.kp, ok51, ar_of⟩
  have hN : N52.Nodup := sc52.nd
  obtain ⟨fd, F⟩ := h.c.def_ 52 (d := d52) rfl
  exact ⟨fd, F, def_ok (G := gm K) (N := N52) (k := 2) (O' := []) F sc52 fun cdv A outer s H E hr tk => (s_one (s_ret (e_meth [(26, B_Lights_seen_in)] tk (hr.mono (by decide)) (show ("seen_in" : PySem.Str) ∉ flds by decide +kernel) (e_var 0) (a_cons (e_call tk (hr.mono (by decide)) g51 (F51.bindsN (ps := [("lights" : PySem.Str), ("names" : PySem.Str)]) fun _ _ _ _ _ _ us hl => match us, hl with | [_, _], _ => rfl) .nil (fun _ => .nil) (a_cons (e_var 0) (a_cons (e_var 1) a_nil))) a_nil) mt_seen_in_1)))⟩
theorem ok_53 {P : Program} {w : World} {K : PySem.W.Frag} {mg : Str → Option Value} {base : Heap} (h : Hy K mg base) : ∃ fd, FunD K d53.name d53.qual d53.params d53.body d53.scope (d53.dvs K) [] (d53.wh.ad K) fd ∧ FnB P w (gm K) mg base 12 (d53.wh.ad K) fd [("book" : PySem.Str), ("names" : PySem.Str)] 2 [] B_brought_by := by
  obtain ⟨fd30, F30, ok30⟩ := ok_30 (P := P) (w := w) h
  obtain ⟨fd33, F33, ok33⟩ := ok_33 (P := P) (w := w) h
  obtain ⟨fd34, F34, ok34⟩ := ok_34 (P := P) (w := w) h
  obtain ⟨fd52, F52, ok52⟩ := ok_52 (P := P) (w := w) h
  obtain ⟨fd45, F45, ok45⟩ := ok_45 (P := P) (w := w) h
  have g30 : GlOk (gm K) P w mg base 2 ("need_book" : PySem.Str) 1 [] B_need_book _ fd30 [("book" : PySem.Str)] := ⟨He.glo_ok h.X0 h.G0 (h.c.fact 78), F30.kp, ok30, ar_of⟩
  have g33 : GlOk (gm K) P w mg base 3 ("need_some" : PySem.Str) 2 [] B_need_some _ fd33 [("book" : PySem.Str), ("names" : PySem.Str)] := ⟨He.glo_ok h.X0 h.G0 (h.c.fact 79), F33.kp, ok33, ar_of⟩
  have g34 : GlOk (gm K) P w mg base 2 ("need_road" : PySem.Str) 1 [] B_need_road _ fd34 [("book" : PySem.Str)] := ⟨He.glo_ok h.X0 h.G0 (h.c.fact 80), F34.kp, ok34, ar_of⟩
  have m_tuple : mg ("tuple" : PySem.Str) = none := He.free_ok h.X0 h.G0 (h.c.fact 27)
  have g52 : GlOk (gm K) P w mg base 3 ("all_brought" : PySem.Str) 2 [] B_all_brought _ fd52 [("lights" : PySem.Str), ("names" : PySem.Str)] := ⟨He.glo_ok h.X0 h.G0 (h.c.fact 87), F52.kp, ok52, ar_of⟩
  have nw45 : NwOk (gm K) P w mg base 10 ("Lights" : PySem.Str) 26 2 B_Lights___init__ _ fd45 [("self" : PySem.Str), ("book" : PySem.Str)] := ⟨He.glo_ok h.X0 h.G0 (h.c.fact 81), He.mkr_ok (h.c.fact 82), rfl, ok45, ar_of, rfl⟩
  have hN : N53.Nodup := sc53.nd
  obtain ⟨fd, F⟩ := h.c.def_ 53 (d := d53) rfl
  exact ⟨fd, F, def_ok (G := gm K) (N := N53) (k := 11) (O' := []) F sc53 fun cdv A outer s H E hr tk => (s_cons (s_expr (e_call tk (hr.mono (by decide)) g30 (F30.bindsN (ps := [("book" : PySem.Str)]) fun _ _ _ _ _ _ us hl => match us, hl with | [_], _ => rfl) .nil (fun _ => .nil) (a_cons (e_var 0) a_nil))) (s_cons (s_expr (e_call tk (hr.mono (by decide)) g33 (F33.bindsN (ps := [("book" : PySem.Str), ("names" : PySem.Str)]) fun _ _ _ _ _ _ us hl => match us, hl with | [_, _], _ => rfl) .nil (fun _ => .nil) (a_cons (e_var 0) (a_cons (e_var 1) a_nil)))) (s_cons (s_expr (e_call tk (hr.mono (by decide)) g34 (F34.bindsN (ps := [("book" : PySem.Str)]) fun _ _ _ _ _ _ us hl => match us, hl with | [_], _ => rfl) .nil (fun _ => .nil) (a_cons (e_var 0) a_nil))) (s_one (s_ret (e_tuple (a_cons (e_call tk (hr.mono (by decide)) g52 (F52.bindsN (ps := [("lights" : PySem.Str), ("names" : PySem.Str)]) fun _ _ _ _ _ _ us hl => match us, hl with | [_, _], _ => rfl) .nil (fun _ => .nil) (a_cons (e_new tk (hr.mono (by decide)) nw45 (F45.bindsN (ps := [("self" : PySem.Str), ("book" : PySem.Str)]) fun _ _ _ _ _ _ us hl => match us, hl with | [_, _], _ => rfl) .nil (fun _ => .nil) (a_cons (e_var 0) a_nil)) (a_cons (e_var 1) a_nil))) a_nil)))))))⟩
theorem ok_54 {P : Program} {w : World} {K : PySem.W.Frag} {mg : Str → Option Value} {base : Heap} (h : Hy K mg base) : ∃ fd, FunD K d54.name d54.qual d54.params d54.body d54.scope (d54.dvs K) [] (d54.wh.ad K) fd ∧ FnB P w (gm K) mg base 14 (d54.wh.ad K) fd [("_law_script" : PySem.Str)] 1 [] B_law := by
  obtain ⟨fd0, F0, ok0⟩ := ok_0 (P := P) (w := w) h
  obtain ⟨fd3, F3, ok3⟩ := ok_3 (P := P) (w := w) h
  obtain ⟨fd2, F2, ok2⟩ := ok_2 (P := P) (w := w) h
  obtain ⟨fd29, F29, ok29⟩ := ok_29 (P := P) (w := w) h
  obtain ⟨fd4, F4, ok4⟩ := ok_4 (P := P) (w := w) h
  obtain ⟨fd1, F1, ok1⟩ := ok_1 (P := P) (w := w) h
  obtain ⟨fd47, F47, ok47⟩ := ok_47 (P := P) (w := w) h
  obtain ⟨fd48, F48, ok48⟩ := ok_48 (P := P) (w := w) h
  obtain ⟨fd49, F49, ok49⟩ := ok_49 (P := P) (w := w) h
  obtain ⟨fd53, F53, ok53⟩ := ok_53 (P := P) (w := w) h
  have gf0 : GfOk (gm K) P w mg base 2 ("_law_hat" : PySem.Str) 1 B__law_hat _ fd0 [("_law_script" : PySem.Str)] := ⟨He.glo_ok h.X0 h.G0 (h.c.fact 88), F0.kp, ok0, F0.bindsN (ps := [("_law_script" : PySem.Str)]) fun _ _ _ _ _ _ us hl => match us, hl with | [_], _ => rfl, arF_of⟩
  have g2 : GlOk (gm K) P w mg base 3 ("_law_of" : PySem.Str) 2 [0] B__law_of _ fd2 [("_law_hat_here" : PySem.Str), ("_law_some" : PySem.Str)] := ⟨He.glo_ok h.X0 h.G0 (h.c.fact 4), F2.kp, ok2, ar_of⟩
  have g3 : GlOk (gm K) P w mg base 4 ("_law_plain" : PySem.Str) 2 [0] B__law_plain _ fd3 [("_law_hat_here" : PySem.Str), ("_law_many" : PySem.Str)] := ⟨He.glo_ok h.X0 h.G0 (h.c.fact 89), F3.kp, ok3, ar_of⟩
  have g29 : GlOk (gm K) P w mg base 13 ("_law_book" : PySem.Str) 2 [] B__law_book _ fd29 [("_law_plain_here" : PySem.Str), ("_law_bottom" : PySem.Str)] := ⟨He.glo_ok h.X0 h.G0 (h.c.fact 90), F29.kp, ok29, ar_of⟩
  have m_sorted : mg ("sorted" : PySem.Str) = none := He.free_ok h.X0 h.G0 (h.c.fact 59)
  have g4 : GlOk (gm K) P w mg base 2 ("_law_crowds" : PySem.Str) 1 [] B__law_crowds _ fd4 [("_law_names" : PySem.Str)] := ⟨He.glo_ok h.X0 h.G0 (h.c.fact 91), F4.kp, ok4, ar_of⟩
  have g1 : GlOk (gm K) P w mg base 2 ("_law_take" : PySem.Str) 2 [0] B__law_take _ fd1 [("_law_hat_here" : PySem.Str), ("_law_many" : PySem.Str)] := ⟨He.glo_ok h.X0 h.G0 (h.c.fact 3), F1.kp, ok1, ar_of⟩
  have m_list : mg ("list" : PySem.Str) = none := He.free_ok h.X0 h.G0 (h.c.fact 28)
  have g47 : GlOk (gm K) P w mg base 12 ("least_bringing" : PySem.Str) 2 [] B_least_bringing _ fd47 [("book" : PySem.Str), ("names" : PySem.Str)] := ⟨He.glo_ok h.X0 h.G0 (h.c.fact 92), F47.kp, ok47, ar_of⟩
  have g48 : GlOk (gm K) P w mg base 2 ("_law_meet" : PySem.Str) 2 [] B__law_meet _ fd48 [("_law_plain_here" : PySem.Str), ("_law_crowd" : PySem.Str)] := ⟨He.glo_ok h.X0 h.G0 (h.c.fact 84), F48.kp, ok48, ar_of⟩
  have g49 : GlOk (gm K) P w mg base 4 ("_law_least" : PySem.Str) 2 [] B__law_least _ fd49 [("_law_plain_here" : PySem.Str), ("_law_crowd" : PySem.Str)] := ⟨He.glo_ok h.X0 h.G0 (h.c.fact 93), F49.kp, ok49, ar_of⟩
  have m_tuple : mg ("tuple" : PySem.Str) = none := He.free_ok h.X0 h.G0 (h.c.fact 27)
  have m_min : mg ("min" : PySem.Str) = none := He.free_ok h.X0 h.G0 (h.c.fact 94)
  have m_len : mg ("len" : PySem.Str) = none := He.free_ok h.X0 h.G0 (h.c.fact 1)
  have g53 : GlOk (gm K) P w mg base 12 ("brought_by" : PySem.Str) 2 [] B_brought_by _ fd53 [("book" : PySem.Str), ("names" : PySem.Str)] := ⟨He.glo_ok h.X0 h.G0 (h.c.fact 95), F53.kp, ok53, ar_of⟩
  have hN : N54.Nodup := sc54.nd
  obtain ⟨fd, F⟩ := h.c.def_ 54 (d := d54) rfl
  exact ⟨fd, F, def_ok (G := gm K) (N := N54) (k := 13) (O' := [1]) F sc54 fun cdv A outer s H E hr tk => (s_cons (s_to (O2 := [1]) (s_setF 1 (e_callF tk (hr.mono (by decide)) gf0 (a_cons (e_var 0) a_nil)))) (s_cons (s_to (O2 := [1]) (s_set 2 (e_callO 1 tk (hr.mono (by decide)) g3 (F3.bindsN (ps := [("_law_hat_here" : PySem.Str), ("_law_many" : PySem.Str)]) fun _ _ _ _ _ _ us hl => match us, hl with | [_, _], _ => rfl) (a_cons (e_callO 1 tk (hr.mono (by decide)) g2 (F2.bindsN (ps := [("_law_hat_here" : PySem.Str), ("_law_some" : PySem.Str)]) fun _ _ _ _ _ _ us hl => match us, hl with | [_, _], _ => rfl) (a_cons (e_lst (a_cons e_int (a_cons e_int (a_cons e_int (a_cons e_int (a_cons e_int (a_cons e_int a_nil))))))) a_nil)) a_nil)))) (s_cons (s_to (O2 := [1]) (s_par2 3 4 (a_cons (e_call tk (hr.mono (by decide)) g29 (F29.bindsN (ps := [("_law_plain_here" : PySem.Str), ("_law_bottom" : PySem.Str)]) fun _ _ _ _ _ _ us hl => match us, hl with | [_, _], _ => rfl) .nil (fun _ => .nil) (a_cons (e_var 2) (a_cons (e_callO 1 tk (hr.mono (by decide)) g2 (F2.bindsN (ps := [("_law_hat_here" : PySem.Str), ("_law_some" : PySem.Str)]) fun _ _ _ _ _ _ us hl => match us, hl with | [_, _], _ => rfl) (a_cons (e_lst (a_cons e_int (a_cons e_int (a_cons e_int a_nil)))) a_nil)) a_nil))) (a_cons (e_sortedK (a_cons (e_var 2) a_nil)) a_nil)))) (s_cons (s_for (OL := [1]) [5] (i_seq (e_call tk (hr.mono (by decide)) g4 (F4.bindsN (ps := [("_law_names" : PySem.Str)]) fun _ _ _ _ _ _ us hl => match us, hl with | [_], _ => rfl) .nil (fun _ => .nil) (a_cons (e_var 4) a_nil))) (g_to (O2 := [1]) (g_name 5)) (s_cons (s_to (O2 := [1]) (s_set 6 (e_if (t_cmp (o_eq hr) (e_callO 1 tk (hr.mono (by decide)) g1 (F1.bindsN (ps := [("_law_hat_here" : PySem.Str), ("_law_many" : PySem.Str)]) fun _ _ _ _ _ _ us hl => match us, hl with | [_, _], _ => rfl) (a_cons e_int a_nil)) e_int) (e_rev (e_var 5) (e_un o_neg e_int)) (e_var 5)))) (s_cons (s_asg (vs := [0, 1, 2, 3, 4, 5, 6, 7, 8, 9, 10, 11, 12]) (e_tup (a_cons (e_listF (a_cons (e_var 6) a_nil)).fz (a_cons (e_call tk (hr.mono (by decide)) g47 (F47.bindsN (ps := [("book" : PySem.Str), ("names" : PySem.Str)]) fun _ _ _ _ _ _ us hl => match us, hl with | [_, _], _ => rfl) .nil (fun _ => .nil) (a_cons (e_var 3) (a_cons (e_var 6) a_nil))) (a_cons (e_call tk (hr.mono (by decide)) g48 (F48.bindsN (ps := [("_law_plain_here" : PySem.Str), ("_law_crowd" : PySem.Str)]) fun _ _ _ _ _ _ us hl => match us, hl with | [_, _], _ => rfl) .nil (fun _ => .nil) (a_cons (e_var 2) (a_cons (e_var 5) a_nil))) a_nil)))) (g_tup (gs_cons (g_to (O2 := [1]) (g_name 7)) (gs_cons (g_to (O2 := [1]) (g_name 8)) (gs_cons (g_to (O2 := [1]) (g_name 9)) gs_nil))))) (s_cons (s_if (t_bo (w_or (t_cmp (o_ne hr) (e_var 8) (e_call tk (hr.mono (by decide)) g49 (F49.bindsN (ps := [("_law_plain_here" : PySem.Str), ("_law_crowd" : PySem.Str)]) fun _ _ _ _ _ _ us hl => match us, hl with | [_, _], _ => rfl) .nil (fun _ => .nil) (a_cons (e_var 2) (a_cons (e_var 5) a_nil)))) (w_or (t_cmp (o_ne hr) (e_var 6) (e_var 7)) (w_or1 (t_cmp (o_ne hr) (e_callK0 tk (hr.mono (by decide)) g47 (bindK0 (ps := [("book" : PySem.Str), ("names" : PySem.Str)]) F47 0 [("names" : PySem.Str), ("book" : PySem.Str)] [1, 0] fun _ _ _ _ _ _ us ws h1 h2 => match us, h1, ws, h2 with | [], _, [_, _], _ => rfl) .nil (fun _ => .nil) (k_cons (e_tuple (a_cons (e_var 6) a_nil)) (k_cons (e_var 3) k_nil))) (e_var 8)))))) (s_one (s_ret e_bl)) s_nil) (s_cons (s_to (O2 := [1]) (s_set 10 (e_min1 (a_cons (e_lcF (vs := [11]) [(("_law_part" : PySem.Str), 11)] rfl (i_seq (e_call tk (hr.mono (by decide)) g4 (F4.bindsN (ps := [("_law_names" : PySem.Str)]) fun _ _ _ _ _ _ us hl => match us, hl with | [_], _ => rfl) .nil (fun _ => .nil) (a_cons (e_var 5) a_nil))) (blkOk_by (by kernel_rfl)) (fun _ _ _ _ _ => (g_to (O2 := [1]) (g_name 11))) (fun _ _ _ _ _ => (pts_1 (t_cmp (o_eq hr) (e_call takes_blk (hr.mono (by decide)) g48 (F48.bindsN (ps := [("_law_plain_here" : PySem.Str), ("_law_crowd" : PySem.Str)]) fun _ _ _ _ _ _ us hl => match us, hl with | [_, _], _ => rfl) .nil (fun _ => .nil) (a_cons (e_var 2) (a_cons (e_var 11) a_nil))) (e_var 9)))) (fun _ _ _ _ _ => (e_len (a_cons (e_var 11) a_nil)))).fz a_nil)))) (s_cons (s_if (t_bo (w_or (t_cmp (o_ne hr) (e_len (a_cons (e_var 8) a_nil)) (e_var 10)) (w_or (t_cmp (o_ne hr) (e_call tk (hr.mono (by decide)) g48 (F48.bindsN (ps := [("_law_plain_here" : PySem.Str), ("_law_crowd" : PySem.Str)]) fun _ _ _ _ _ _ us hl => match us, hl with | [_, _], _ => rfl) .nil (fun _ => .nil) (a_cons (e_var 2) (a_cons (e_var 8) a_nil))) (e_var 9)) (w_or1 (t_cmp (o_ne hr) (e_lcF (vs := [12]) [(("_law_name" : PySem.Str), 12)] rfl (i_seq (e_var 8)) (blkOk_by (by kernel_rfl)) (fun _ _ _ _ _ => (g_to (O2 := [1]) (g_name 12))) (fun _ _ _ _ _ => (pts_1 (t_cmp o_notIn (e_var 12) (e_var 5)))) (fun _ _ _ _ _ => (e_var 12))).fz (e_lst a_nil)))))) (s_one (s_ret e_bl)) s_nil) (s_one (s_if (t_bo (w_or (t_cmp (o_ne hr) (e_call tk (hr.mono (by decide)) g53 (F53.bindsN (ps := [("book" : PySem.Str), ("names" : PySem.Str)]) fun _ _ _ _ _ _ us hl => match us, hl with | [_, _], _ => rfl) .nil (fun _ => .nil) (a_cons (e_var 3) (a_cons (e_var 8) a_nil))) (e_call tk (hr.mono (by decide)) g53 (F53.bindsN (ps := [("book" : PySem.Str), ("names" : PySem.Str)]) fun _ _ _ _ _ _ us hl => match us, hl with | [_, _], _ => rfl) .nil (fun _ => .nil) (a_cons (e_var 3) (a_cons (e_var 5) a_nil)))) (w_or1 (t_cmp (o_ne hr) (e_call tk (hr.mono (by decide)) g47 (F47.bindsN (ps := [("book" : PySem.Str), ("names" : PySem.Str)]) fun _ _ _ _ _ _ us hl => match us, hl with | [_, _], _ => rfl) .nil (fun _ => .nil) (a_cons (e_var 3) (a_cons (e_listF (a_cons (e_var 8) a_nil)).fz a_nil))) (e_var 8))))) (s_one (s_ret e_bl)) s_nil))))))) (passes_of rfl)) (s_one (s_ret e_bl))))))⟩
end Kw
namespace Kw
open PySem PySem.Spec PyProof.Rows L2 Z
theorem fn_one {K : PySem.W.Frag} {x x' q q' : Str} {ps ps' : Arguments} {b b' : List Stmt} {sc sc' : Scope} {dv dv' : List V} {kw kw' : List (Str × V)} {f : Addr} {fd fd' : FuncData} (h : FunD K x q ps b sc dv kw f fd) (h' : FunD K x' q' ps' b' sc' dv' kw' f fd') : fd = fd' := by
  obtain ⟨_, _, _, _, _, _, _, _, _, _, _, e, _⟩ := h.ex
  obtain ⟨_, _, _, _, _, _, _, _, _, _, _, e', _⟩ := h'.ex
  rw [e] at e'
  cases e'
  rfl
theorem facts {P : Program} {w : World} {K : PySem.W.Frag} {h : Heap} {mg : Str → Option Value} {f : Addr} (X : K.In h) (G : h.Ns mainGlobals mg) (hfa : mg ("law" : PySem.Str) = some (.ref f)) (c : SaysZ fz fn K) :
    ∃ fd : FuncData, (∀ (s : Shared) (v : Value), BindsTo s fd ⟨[v], []⟩ [(("_law_script" : PySem.Str), v)]) ∧ ∀ base : Heap, K.In base → base.Ns mainGlobals mg → FnOk P w K mg base (L2.CX P w) 14 f fd [("_law_script" : PySem.Str)] (spB (gm K) 1 [] B_law) := by
  obtain ⟨fd, F⟩ := c.def_ 54 (d := d54) rfl
  have e := hfa.symm.trans (He.glo_ok X G (c.fact 104 (f := fGlo "law") rfl))
  cases e
  have b := FunD.bindsA (ps := [("_law_script" : PySem.Str)]) F fun _ _ _ _ _ _ us hl => match us, hl with | [_], _ => rfl
  refine ⟨fd, fun s v => b s [v] rfl, fun base kb gb => ?_⟩
  obtain ⟨fd2, F2, ok⟩ := ok_54 (P := P) (w := w) ⟨c, kb, gb⟩
  rw [fn_one F F2]
  exact ok
end Kw
set_option exponentiation.threshold 100
namespace Kw
open PySem PySem.Spec PyProof.Rows L2 Z
@[simp] theorem look_c {α : Type} (k j : Nat) (a : α) (l : List (Nat × α)) : List.lookup k ((j, a) :: l) = if k = j then some a else List.lookup k l := by
  by_cases h : k = j
  · subst h; simp [List.lookup]
  · have : (k == j) = false := by simpa using h
    simp [List.lookup, this, h]
def rl (q : Rat) : List D := [.int q.num, .int q.den]
abbrev rt (q : Rat) : D := .ob 0 (rl q)
@[simp] theorem rl_0 (q : Rat) : (rl q)[0]? = some (.int q.num) := rfl
@[simp] theorem rl_1 (q : Rat) : (rl q)[1]? = some (.int q.den) := rfl
def Bd (k : Nat) (q : Rat) : Prop := q.num.natAbs < 2 ^ k ∧ q.den < 2 ^ k
theorem Bd.mono {k m : Nat} {q : Rat} (h : Bd k q) (hk : k ≤ m) : Bd m q := ⟨Nat.lt_of_lt_of_le h.1 (Nat.pow_le_pow_right (by omega) hk), Nat.lt_of_lt_of_le h.2 (Nat.pow_le_pow_right (by omega) hk)⟩
theorem B_int (i : Int) : B_is_integer [.int i] = .ok (.bl true) [none] := by
  simp [B_is_integer, mkB, b_is_integer, kT, tyN]
theorem fdiv_nat (a : Int) (g : Nat) : a.fdiv (g : Int) = a / (g : Int) := Int.fdiv_eq_ediv_of_nonneg a (Int.natCast_nonneg g)
theorem B_ratio {n d : Int} (hp : 0 < d) (hb : d.natAbs < 2 ^ 7000) : B_Ratio___init__ [.ob 0 [], .int n, .int d] = .ok .non [some (rt (Rat.divInt n d)), none, none] := by
  have hd : d ≠ 0 := by omega
  have hgd : Int.gcd n d ∣ d.natAbs := by
    rw [Int.gcd]
    exact Nat.gcd_dvd_right _ _
  have hg0 : Int.gcd n d ≠ 0 := fun z => by
    rw [z] at hgd
    have := Nat.eq_zero_of_zero_dvd hgd
    omega
  have hlt : Int.gcd n d < 2 ^ 7000 := Nat.lt_of_le_of_lt (Nat.le_of_dvd (by omega) hgd) hb
  have hw : wd 8000 ((Int.gcd n d : Nat) : Int) = true := wd_of (k := 7000) (by simpa using hlt) (by omega) (by omega)
  have h0 : ((Int.gcd n d : Nat) : Int) ≠ 0 := by omega
  have e1 : (Rat.divInt n d).num = n / (Int.gcd n d : Nat) := by
    rw [Rat.num_divInt, Int.sign_eq_one_of_pos hp, Int.one_mul, Int.gcd_comm]
  have e2 : ((Rat.divInt n d).den : Int) = d / (Int.gcd n d : Nat) := by
    rw [Rat.den_divInt, if_neg hd, Int.gcd_comm, Int.natCast_ediv]
    congr 1
    omega
  simp [B_Ratio___init__, mkB, b_Ratio___init__, B_int, hp, hd, pDiv_int hw h0, fdiv_nat, rl, e1, e2]
theorem divInt_self (q : Rat) : Rat.divInt q.num q.den = q := Rat.num_divInt_den q
@[simp] theorem from_rt (q : Rat) (x : D) : B_ratio_from [rt q, x] = .ok (rt q) [none, none] := by
  simp [B_ratio_from, mkB, b_ratio_from, kO]
theorem from_int (i : Int) (x : D) : B_ratio_from [.int i, x] = .ok (rt i) [none, none] := by
  have e : Rat.divInt i 1 = (i : Rat) := Rat.num_divInt_den (i : Rat)
  have z := B_ratio (n := i) (d := 1) (by omega) (by decide)
  rw [e] at z
  simp [B_ratio_from, mkB, b_ratio_from, kO, tyN, B_int, z]
theorem den_pos (q : Rat) : (0 : Int) < q.den := by have := q.den_pos; omega
theorem num_le {n d : Int} (hd : 0 < d) : (Rat.divInt n d).num.natAbs ≤ n.natAbs ∧ (Rat.divInt n d).den ≤ d.natAbs := by
  have hd0 : d ≠ 0 := by omega
  constructor
  · rw [Rat.num_divInt, Int.sign_eq_one_of_pos hd, Int.one_mul, Int.natAbs_ediv_of_dvd (Int.gcd_dvd_right ..)]
    exact Nat.div_le_self _ _
  · rw [Rat.den_divInt, if_neg hd0]
    exact Nat.div_le_self _ _
theorem Bd.of {n d : Int} {k : Nat} (hd : 0 < d) (hn : n.natAbs < 2 ^ k) (hb : d.natAbs < 2 ^ k) : Bd k (Rat.divInt n d) :=
  ⟨Nat.lt_of_le_of_lt (num_le hd).1 hn, Nat.lt_of_le_of_lt (num_le hd).2 hb⟩
theorem abs_mul_lt {a b : Int} {j k : Nat} (ha : a.natAbs < 2 ^ j) (hb : b.natAbs < 2 ^ k) : (a * b).natAbs < 2 ^ (j + k) := by
  rw [Int.natAbs_mul, Nat.pow_add]
  exact Nat.mul_lt_mul'' ha hb
theorem abs_add_lt {a b : Int} {k : Nat} (ha : a.natAbs < 2 ^ k) (hb : b.natAbs < 2 ^ k) : (a + b).natAbs < 2 ^ (k + 1) := by
  have := Int.natAbs_add_le a b
  rw [Nat.pow_succ]
  omega
theorem add_eq (p q : Rat) : p + q = Rat.divInt (p.num * q.den + q.num * p.den) (p.den * q.den) := by
  have h := Rat.divInt_add_divInt p.num q.num (d₁ := p.den) (d₂ := q.den) (by have := den_pos p; omega) (by have := den_pos q; omega)
  rwa [divInt_self, divInt_self] at h
theorem mul_eq (p q : Rat) : p * q = Rat.divInt (p.num * q.num) (p.den * q.den) := by
  have h := Rat.divInt_mul_divInt p.num q.num (d₁ := p.den) (d₂ := q.den)
  rwa [divInt_self, divInt_self] at h
theorem Bd.add {k : Nat} {p q : Rat} (hp : Bd k p) (hq : Bd k q) : Bd (2 * k + 1) (p + q) := by
  rw [add_eq]
  refine Bd.of (Int.mul_pos (den_pos p) (den_pos q)) ?_ ?_
  · have := abs_add_lt (abs_mul_lt hp.1 (show (q.den : Int).natAbs < 2 ^ k by simpa using hq.2)) (abs_mul_lt hq.1 (show (p.den : Int).natAbs < 2 ^ k by simpa using hp.2))
    rwa [show k + k + 1 = 2 * k + 1 by omega] at this
  · have := abs_mul_lt (show (p.den : Int).natAbs < 2 ^ k by simpa using hp.2) (show (q.den : Int).natAbs < 2 ^ k by simpa using hq.2)
    exact Nat.lt_of_lt_of_le this (Nat.pow_le_pow_right (by omega) (by omega))
theorem Bd.neg {k : Nat} {p : Rat} (hp : Bd k p) : Bd k (-p) := ⟨by rw [Rat.neg_num, Int.natAbs_neg]; exact hp.1, by rw [Rat.neg_den]; exact hp.2⟩
theorem Bd.sub {k : Nat} {p q : Rat} (hp : Bd k p) (hq : Bd k q) : Bd (2 * k + 1) (p - q) := by
  rw [Rat.sub_eq_add_neg]
  exact hp.add hq.neg
theorem add_ok {k : Nat} {p q : Rat} (hp : Bd k p) (hq : Bd k q) (h0 : 0 < k) (hk : k ≤ 3490) : B_Ratio___add__ [rt p, rt q] = .ok (rt (p + q)) [none, none] := by
  have hpd : (p.den : Int).natAbs < 2 ^ k := by simpa using hp.2
  have hqd : (q.den : Int).natAbs < 2 ^ k := by simpa using hq.2
  have z := B_ratio (n := p.num * q.den + q.num * p.den) (d := p.den * q.den) (Int.mul_pos (den_pos p) (den_pos q)) (Nat.lt_of_lt_of_le (abs_mul_lt hpd hqd) (Nat.pow_le_pow_right (by omega) (by omega)))
  rw [← add_eq] at z
  have m1 := pMul_int (mulB_both hp.1 hqd h0 h0 (by omega) (by omega))
  have m2 := pMul_int (mulB_both hq.1 hpd h0 h0 (by omega) (by omega))
  have m3 := pMul_int (mulB_both hpd hqd h0 h0 (by omega) (by omega))
  have f := from_rt q (.str "other")
  simp [B_Ratio___add__, mkB, b_Ratio___add__, f, m1, m2, m3, z]
theorem mul_ok {k : Nat} {p q : Rat} (hp : Bd k p) (hq : Bd k q) (h0 : 0 < k) (hk : k ≤ 3490) : B_Ratio___mul__ [rt p, rt q] = .ok (rt (p * q)) [none, none] := by
  have hpd : (p.den : Int).natAbs < 2 ^ k := by simpa using hp.2
  have hqd : (q.den : Int).natAbs < 2 ^ k := by simpa using hq.2
  have z := B_ratio (n := p.num * q.num) (d := p.den * q.den) (Int.mul_pos (den_pos p) (den_pos q)) (Nat.lt_of_lt_of_le (abs_mul_lt hpd hqd) (Nat.pow_le_pow_right (by omega) (by omega)))
  rw [← mul_eq] at z
  have m1 := pMul_int (mulB_both hp.1 hq.1 h0 h0 (by omega) (by omega))
  have m3 := pMul_int (mulB_both hpd hqd h0 h0 (by omega) (by omega))
  have f := from_rt q (.str "other")
  simp [B_Ratio___mul__, mkB, b_Ratio___mul__, f, m1, m3, z]
theorem neg_ok {k : Nat} {p : Rat} (hp : Bd k p) (hk : k ≤ 7000) : B_Ratio___neg__ [rt p] = .ok (rt (-p)) [none] := by
  have hpd : (p.den : Int).natAbs < 2 ^ k := by simpa using hp.2
  have z := B_ratio (n := -p.num) (d := p.den) (den_pos p) (Nat.lt_of_lt_of_le hpd (Nat.pow_le_pow_right (by omega) (by omega)))
  have e : Rat.divInt (-p.num) p.den = -p := divInt_self (-p)
  rw [e] at z
  simp [B_Ratio___neg__, mkB, b_Ratio___neg__, z]
theorem sub_ok {k : Nat} {p q : Rat} (hp : Bd k p) (hq : Bd k q) (h0 : 0 < k) (hk : k ≤ 3490) : B_Ratio___sub__ [rt p, rt q] = .ok (rt (p - q)) [none, none] := by
  have f := from_rt q (.str "other")
  have n := neg_ok hq (by omega)
  have a := add_ok hp hq.neg h0 hk
  rw [Rat.sub_eq_add_neg]
  simp [B_Ratio___sub__, mkB, b_Ratio___sub__, f, n, oW, oC1, rk, a]
theorem sign_ok (p : Rat) : B_Ratio_sign [rt p] = .ok (.int p.num.sign) [none] := by
  have e : (if 0 < p.num then (1 : Int) else 0) - (if p.num < 0 then 1 else 0) = p.num.sign := by
    rcases Int.lt_trichotomy p.num 0 with h | h | h
    · rw [if_neg (by omega), if_pos h, Int.sign_eq_neg_one_of_neg h]; rfl
    · rw [h]; rfl
    · rw [if_pos h, if_neg (by omega), Int.sign_eq_one_of_pos h]; rfl
  simp [B_Ratio_sign, mkB, b_Ratio_sign, e]
theorem eq_ok (p q : Rat) : B_Ratio___eq__ [rt p, rt q] = .ok (.bl (decide (p = q))) [none, none] := by
  by_cases h : p.num = q.num
  · by_cases h2 : p.den = q.den
    · have e : p = q := Rat.ext h h2
      subst e
      simp [B_Ratio___eq__, mkB, b_Ratio___eq__, kO]
    · have e : p ≠ q := fun z => h2 (by rw [z])
      have h3 : ¬ (p.den : Int) = q.den := by omega
      simp [B_Ratio___eq__, mkB, b_Ratio___eq__, kO, h, h3, e]
  · have e : p ≠ q := fun z => h (by rw [z])
    simp [B_Ratio___eq__, mkB, b_Ratio___eq__, kO, h, e]
@[simp] theorem is_ratio_rt (q : Rat) : B_is_ratio [rt q] = .ok (.bl true) [none] := by
  simp [B_is_ratio, mkB, b_is_ratio, kO]
@[simp] theorem is_ratio_int (i : Int) : B_is_ratio [.int i] = .ok (.bl true) [none] := by
  simp [B_is_ratio, mkB, b_is_ratio, kO, tyN, B_int]
def AllB (k : Nat) (xs : List Rat) : Prop := ∀ x ∈ xs, Bd k x
theorem new0 : B_Ratio___init__ [.ob 0 [], .int 0, .int 1] = .ok .non [some (rt 0), none, none] := by
  have z := B_ratio (n := 0) (d := 1) (by omega) (by decide)
  rwa [Rat.zero_divInt] at z
theorem Bd.zero {k : Nat} (h : 0 < k) : Bd k 0 := by
  have : 1 < 2 ^ k := Nat.one_lt_two_pow (by omega)
  exact ⟨by show (0 : Int).natAbs < _; simp; omega, this⟩
theorem AllB.cons {k : Nat} {x : Rat} {xs : List Rat} (h : Bd k x) (t : AllB k xs) : AllB k (x :: xs) := fun y m => by
  rcases List.mem_cons.mp m with e | m
  · rw [e]; exact h
  · exact t y m
theorem AllB.nil {k : Nat} : AllB k [] := fun _ m => nomatch m
theorem nm_neg (p : Rat) : p.num < 0 ↔ p < 0 := by
  rw [← Int.not_le, Rat.num_nonneg, Rat.not_le]
theorem nm_pos (p : Rat) : 0 < p.num ↔ 0 < p := by
  have h := Rat.num_nonneg (q := p)
  have h2 := nm_neg p
  have h3 : p.num = 0 ↔ p = 0 := Rat.num_eq_zero
  constructor
  · intro z
    have : ¬ p = 0 := fun q => by have := h3.mpr q; omega
    have : 0 ≤ p := h.mp (by omega)
    grind
  · intro z
    have : ¬ p.num = 0 := fun q => by have := h3.mp q; grind
    have : 0 ≤ p.num := h.mpr (by grind)
    omega
@[simp] theorem of_rt (q : Rat) : B_Ratio_of [rt q] = .ok (rt q) [none] := by
  simp [B_Ratio_of, mkB, b_Ratio_of]
theorem Bd.add2 {j k : Nat} {p q : Rat} (hp : Bd j p) (hq : Bd k q) : Bd (j + k + 1) (p + q) := by
  rw [add_eq]
  have h1 : (q.den : Int).natAbs < 2 ^ k := by simpa using hq.2
  have h2 : (p.den : Int).natAbs < 2 ^ j := by simpa using hp.2
  refine Bd.of (Int.mul_pos (den_pos p) (den_pos q)) ?_ ?_
  · have a := abs_mul_lt hp.1 h1
    have b := abs_mul_lt hq.1 h2
    rw [Nat.add_comm k j] at b
    exact abs_add_lt a b
  · exact Nat.lt_of_lt_of_le (abs_mul_lt h2 h1) (Nat.pow_le_pow_right (by omega) (by omega))
theorem Bd.mul2 {j k : Nat} {p q : Rat} (hp : Bd j p) (hq : Bd k q) : Bd (j + k) (p * q) := by
  rw [mul_eq]
  have h1 : (q.den : Int).natAbs < 2 ^ k := by simpa using hq.2
  have h2 : (p.den : Int).natAbs < 2 ^ j := by simpa using hp.2
  exact Bd.of (Int.mul_pos (den_pos p) (den_pos q)) (abs_mul_lt hp.1 hq.1) (abs_mul_lt h2 h1)
theorem for_map {α : Type} {g : Tg} {b : M Fl} (h : α → D) (I : List α → Ev → Prop) (xs : List α) (step : ∀ pre x post, xs = pre ++ x :: post → ∀ r, I pre r → ∃ r1 r2, g (h x) r = some r1 ∧ b r1 = .ok .nx r2 ∧ I (pre ++ [x]) r2) :
    ∀ (post pre : List α), xs = pre ++ post → ∀ r, I pre r → ∃ r', I xs r' ∧ forGo g b (post.map h) r = .ok .nx r'
  | [], pre, e, r, p => ⟨r, by rw [e, List.append_nil]; exact p, rfl⟩
  | x :: post, pre, e, r, p => by
    obtain ⟨r1, r2, e1, e2, p2⟩ := step pre x post e r p
    obtain ⟨r3, p3, e3⟩ := for_map h I xs step post (pre ++ [x]) (by rw [e, List.append_assoc]; rfl) r2 p2
    exact ⟨r3, p3, by simp [forGo, e1, e2, e3]⟩
theorem size_big : 1000000 < sizeLine := by rw [sizeLine_eq]; omega
theorem mkB_run {n m : Nat} {io : List Nat} {b : M Fl} {ds : List D} {d : D} {r r0 : Ev} (hl : ds.length = n) (h0 : ds.map some ++ List.replicate (m - n) none = r0) (h : b r0 = .ok (.rt d) r) : mkB n m io b ds = .ok d (keepE io n r) := by
  unfold mkB
  rw [if_pos hl, h0, h]
theorem sSeq_nx {f g : M Fl} {r r1 : Ev} (h : f r = .ok .nx r1) : sSeq f g r = g r1 := by
  simp only [sSeq, h]
inductive IsR : D → Rat → Prop
  | rt (q : Rat) : IsR (rt q) q
  | int (i : Int) : IsR (.int i) (i : Rat)
theorem from_R {x : D} {q : Rat} (h : IsR x q) (s : D) : B_ratio_from [x, s] = .ok (rt q) [none, none] := by
  cases h
  · exact from_rt _ _
  · exact from_int _ _
theorem is_R {x : D} {q : Rat} (h : IsR x q) : B_is_ratio [x] = .ok (.bl true) [none] := by
  cases h <;> simp
theorem of_R {x : D} {q : Rat} (h : IsR x q) : B_Ratio_of [x] = .ok (rt q) [none] := by
  have := from_R h (.str "value")
  simp [B_Ratio_of, mkB, b_Ratio_of, this]
theorem rk_R {x : D} {q : Rat} (h : IsR x q) (l : List Nat) : rk ["int"] (0 :: l) x = true := by
  cases h <;> simp [rk, tyN]
theorem add_R {k : Nat} {p q : Rat} {y : D} (hy : IsR y q) (hp : Bd k p) (hq : Bd k q) (h0 : 0 < k) (hk : k ≤ 3490) : B_Ratio___add__ [rt p, y] = .ok (rt (p + q)) [none, none] := by
  have hpd : (p.den : Int).natAbs < 2 ^ k := by simpa using hp.2
  have hqd : (q.den : Int).natAbs < 2 ^ k := by simpa using hq.2
  have z := B_ratio (n := p.num * q.den + q.num * p.den) (d := p.den * q.den) (Int.mul_pos (den_pos p) (den_pos q)) (Nat.lt_of_lt_of_le (abs_mul_lt hpd hqd) (Nat.pow_le_pow_right (by omega) (by omega)))
  rw [← add_eq] at z
  have m1 := pMul_int (mulB_both hp.1 hqd h0 h0 (by omega) (by omega))
  have m2 := pMul_int (mulB_both hq.1 hpd h0 h0 (by omega) (by omega))
  have m3 := pMul_int (mulB_both hpd hqd h0 h0 (by omega) (by omega))
  have f := from_R hy (.str "other")
  simp [B_Ratio___add__, mkB, b_Ratio___add__, f, m1, m2, m3, z]
theorem oW_rt {tb : List (Nat × Beh)} {p : D → D → Option D} {B : Beh} {a c : Rat} {y : D} {l : List Nat} (h : tb.lookup 0 = some B) (hy : rk ["int"] l y = true) (e : B [rt a, y] = .ok (rt c) [none, none]) (r : Ev) : oW tb ["int"] l p (rt a) y r = .ok (rt c) r := by
  simp only [oW, hy, if_true, h, e]
  simp
theorem Bd.one {k : Nat} (h : 0 < k) : Bd k 1 := by
  have : 1 < 2 ^ k := Nat.one_lt_two_pow (by omega)
  exact ⟨by show (1 : Int).natAbs < _; simpa using this, this⟩
theorem et_rt (p q : Rat) (r : Ev) : oET [(0, B_Ratio___eq__)] ["int"] [0] (rt p) (rt q) r = .ok (.bl (decide (p = q))) r := by
  simp [oET, oW, rk, eq_ok]
end Kw
namespace Kw
open PySem PySem.Spec PyProof.Rows L2 Z
inductive All2 {α β : Type} (R : α → β → Prop) : List α → List β → Prop
  | nil : All2 R [] []
  | cons {a b l m} : R a b → All2 R l m → All2 R (a :: l) (b :: m)
theorem All2.len {α β : Type} {R : α → β → Prop} {l : List α} {m : List β} (h : All2 R l m) : l.length = m.length := by
  induction h with
  | nil => rfl
  | cons _ _ ih => simp [ih]
theorem All2.imp {α β : Type} {R S : α → β → Prop} {l : List α} {m : List β} (h : All2 R l m) (f : ∀ a b, R a b → S a b) : All2 S l m := by
  induction h with
  | nil => exact .nil
  | cons a _ ih => exact .cons (f _ _ a) ih
theorem All2.of_map {α β γ : Type} {S : β → γ → Prop} (f : α → β) (g : α → γ) : ∀ (l : List α), (∀ a ∈ l, S (f a) (g a)) → All2 S (l.map f) (l.map g)
  | [], _ => .nil
  | a :: l, h => .cons (h a (by simp)) (All2.of_map f g l fun b m => h b (List.mem_cons_of_mem _ m))
theorem All2.mem {α β : Type} {R : α → β → Prop} {l : List α} {m : List β} (h : All2 R l m) : All2 (fun a b => R a b ∧ a ∈ l ∧ b ∈ m) l m := by
  induction h with
  | nil => exact .nil
  | cons a _ ih => exact .cons ⟨a, by simp, by simp⟩ (ih.imp fun x y h => ⟨h.1, by simp [h.2.1], by simp [h.2.2]⟩)
theorem backE_at {r q : Ev} {i : Nat} : ∀ {vs : List Nat}, i ∈ vs → i < q.length → (backE r vs q)[i]? = some (r.getD i none)
  | v :: vs, h, hl => by
    rw [backE]
    by_cases e : v = i
    · subst e
      exact List.getElem?_set_self (by rw [backE_len]; exact hl)
    · rw [List.getElem?_set_ne e]
      rcases List.mem_cons.mp h with z | z
      · exact absurd z.symm e
      · exact backE_at z hl
theorem back_eq {vs : List Nat} {r q : Ev} (h : wipeE vs q = wipeE vs r) : backE r vs q = r := by
  have hl : q.length = r.length := by have := congrArg List.length h; rwa [wipeE_len, wipeE_len] at this
  apply List.ext_getElem?
  intro i
  by_cases hv : i ∈ vs
  · by_cases hi : i < q.length
    · rw [backE_at hv hi, List.getD_eq_getElem?_getD, List.getElem?_eq_getElem (by omega)]
      rfl
    · rw [List.getElem?_eq_none (by rw [backE_len]; omega), List.getElem?_eq_none (by omega)]
  · rw [backE_out hv, ← wipeE_out hv, h, wipeE_out hv]
theorem wipeE_at {r : Ev} {i : Nat} : ∀ {vs : List Nat}, i ∈ vs → i < r.length → (wipeE vs r)[i]? = some none
  | v :: vs, h, hl => by
    rw [wipeE]
    by_cases e : v = i
    · subst e
      exact List.getElem?_set_self (by rw [wipeE_len]; exact hl)
    · rw [List.getElem?_set_ne e]
      rcases List.mem_cons.mp h with z | z
      · exact absurd z.symm e
      · exact wipeE_at z hl
theorem wipe_ext {vs : List Nat} {q r : Ev} (hl : q.length = r.length) (h : ∀ i, i ∉ vs → q[i]? = r[i]?) : wipeE vs q = wipeE vs r := by
  apply List.ext_getElem?
  intro i
  by_cases hv : i ∈ vs
  · by_cases hi : i < q.length
    · rw [wipeE_at hv hi, wipeE_at hv (by omega)]
    · rw [List.getElem?_eq_none (by rw [wipeE_len]; omega), List.getElem?_eq_none (by rw [wipeE_len]; omega)]
  · rw [wipeE_out hv, wipeE_out hv, h i hv]
theorem wipe_set {vs : List Nat} {r : Ev} {v : Nat} {x : Option D} (hv : v ∈ vs) : wipeE vs (r.set v x) = wipeE vs r :=
  wipe_ext (by simp) fun i hi => List.getElem?_set_ne fun z => hi (by rw [← z]; exact hv)
theorem wipe_wipe {vs : List Nat} {r : Ev} : wipeE vs (wipeE vs r) = wipeE vs r := wipe_ext wipeE_len fun i hi => wipeE_out hi
theorem lcGo_pure {vs : List Nat} {g : Tg} {t : M Bool} {f : M D} {w : Ev} {ds outs : List D} (h : All2 (fun d o => ∃ r2 r3, g d w = some r2 ∧ t r2 = .ok true r2 ∧ f r2 = .ok o r3 ∧ wipeE vs r3 = w) ds outs) :
    ∀ r, wipeE vs r = w → ∃ r', lcGo vs g t f ds r = some (outs, r') ∧ wipeE vs r' = w := by
  induction h with
  | nil => exact fun r e => ⟨r, rfl, e⟩
  | cons a _ ih =>
    intro r e
    obtain ⟨r2, r3, e1, e2, e3, e4⟩ := a
    obtain ⟨r', e5, e6⟩ := ih r3 e4
    exact ⟨r', by simp [lcGo, e, e1, e2, e3, e5], e6⟩
theorem lc_pure {vs : List Nat} {g : Tg} {t : M Bool} {f : M D} {r : Ev} {ds outs : List D} (h : All2 (fun d o => ∃ r2 r3, g d (wipeE vs r) = some r2 ∧ t r2 = .ok true r2 ∧ f r2 = .ok o r3 ∧ wipeE vs r3 = wipeE vs r) ds outs) :
    lcOut vs r (lcGo vs g t f ds r) = .ok (.lst outs) r := by
  obtain ⟨r', e1, e2⟩ := lcGo_pure h r rfl
  rw [e1]
  simp [lcOut, back_eq e2]
abbrev RL : List D → List Rat → Prop := All2 IsR
theorem RL.map (xs : List Rat) : RL (xs.map rt) xs := by
  induction xs with
  | nil => exact .nil
  | cons x xs ih => exact .cons (.rt x) ih
def Sq (x : D) (ds : List D) : Prop := x = .lst ds ∨ x = .tup ds
theorem Sq.lst {ds : List D} : Sq (.lst ds) ds := .inl rfl
theorem Sq.tup {ds : List D} : Sq (.tup ds) ds := .inr rfl
theorem Sq.items {x : D} {ds : List D} (h : Sq x ds) : itemsOf x = some ds := by
  rcases h with rfl | rfl <;> rfl
theorem Sq.listed {x : D} {ds : List D} (h : Sq x ds) : B_is_listed [x] = .ok (.bl true) [none] := by
  rcases h with rfl | rfl <;> simp [B_is_listed, mkB, b_is_listed, kAny, kT, tyN]
theorem Sq.len {x : D} {ds : List D} (h : Sq x ds) : pLen [x] = some (.int (ds.length : Nat)) := by
  rcases h with rfl | rfl <;> rfl
theorem all_true (n : Nat) : pAll [.lst (List.replicate n (.bl true))] = some (.bl true) := by
  have e : List.replicate n (D.bl true) = (List.replicate n true).map D.bl := by simp
  rw [e]
  simp only [pAll, lisOf, Option.bind_some, toBls_map, Option.map_some]
  simp
theorem big_of {n : Nat} (h : n ≤ 1000) : n ≤ big := by unfold big; omega
theorem All2.rep {α β : Type} {R : α → β → Prop} {γ : Type} {S : α → γ → Prop} (c : γ) {l : List α} {m : List β} (h : All2 R l m) (k : ∀ a b, R a b → S a c) : All2 S l (List.replicate l.length c) := by
  induction h with
  | nil => exact .nil
  | cons a _ ih => exact .cons (k _ _ a) ih
theorem are_ok {x : D} {ds : List D} {xs : List Rat} (hx : Sq x ds) (h : RL ds xs) (hl : xs.length ≤ 1000) : B_are_ratios [x] = .ok (.bl true) [none] := by
  have e := lc_pure (vs := [1]) (g := gN 1) (t := tY) (f := eCd B_is_ratio [] (aCons (eV 1) aNil)) (r := [some x, none]) (All2.rep (S := fun d o => ∃ r2 r3, gN 1 d (wipeE [1] [some x, none]) = some r2 ∧ tY r2 = .ok true r2 ∧ eCd B_is_ratio [] (aCons (eV 1) aNil) r2 = .ok o r3 ∧ wipeE [1] r3 = wipeE [1] [some x, none]) (.bl true) h fun d q hd => by
    have := is_R hd
    exact ⟨_, [some x, some d], rfl, rfl, by simp [wipeE, this], by simp [wipeE]⟩)
  have hb : ds.length ≤ big := big_of (by rw [h.len]; exact hl)
  simp [B_are_ratios, mkB, b_are_ratios, hx.listed, hx.items, hb, e, all_true]
def sumR (xs : List Rat) : Rat := xs.foldl (· + ·) 0
theorem sumR_snoc (xs : List Rat) (x : Rat) : sumR (xs ++ [x]) = sumR xs + x := by simp [sumR]
theorem sumR_nil : sumR [] = 0 := rfl
theorem fold_add (x : Rat) : ∀ (xs : List Rat) (a : Rat), xs.foldl (· + ·) (a + x) = xs.foldl (· + ·) a + x
  | [], _ => rfl
  | y :: xs, a => by
    simp only [List.foldl_cons]
    rw [show a + x + y = a + y + x by grind]
    exact fold_add x xs (a + y)
theorem sumR_cons (x : Rat) (xs : List Rat) : sumR (x :: xs) = x + sumR xs := by
  unfold sumR
  simp only [List.foldl_cons]
  rw [fold_add]
  grind
theorem sum_bd {k : Nat} : ∀ {xs : List Rat}, AllB k xs → Bd (xs.length * (k + 1) + 1) (sumR xs)
  | [], _ => Bd.zero (by omega)
  | x :: xs, h => by
    rw [sumR_cons]
    have := (h x (by simp)).add2 (sum_bd (xs := xs) fun y m => h y (List.mem_cons_of_mem _ m))
    exact this.mono (by simp only [List.length_cons, Nat.add_mul]; omega)
theorem All2.split {α β : Type} {R : α → β → Prop} : ∀ {a : List α} {x : α} {b : List α} {m : List β}, All2 R (a ++ x :: b) m → ∃ m1 y m2, m = m1 ++ y :: m2 ∧ All2 R a m1 ∧ R x y ∧ All2 R b m2
  | [], _, _, _, .cons h t => ⟨[], _, _, rfl, .nil, h, t⟩
  | _ :: a, _, _, _, .cons h t => by
    obtain ⟨m1, y, m2, e, h1, h2, h3⟩ := All2.split t
    exact ⟨_ :: m1, y, m2, by rw [e]; rfl, .cons h h1, h2, h3⟩
theorem for_2 {β : Type} {R : D → β → Prop} {g : Tg} {b : M Fl} (I : List β → Ev → Prop) {ds : List D} {xs : List β} (h : All2 R ds xs) : ∀ (pre : List β), (∀ pre' d x r, R d x → (∃ post, pre ++ xs = pre' ++ x :: post) → I pre' r → ∃ r1 r2, g d r = some r1 ∧ b r1 = .ok .nx r2 ∧ I (pre' ++ [x]) r2) →
    ∀ r, I pre r → ∃ r', I (pre ++ xs) r' ∧ forGo g b ds r = .ok .nx r' := by
  induction h with
  | nil => exact fun pre _ r p => ⟨r, by rw [List.append_nil]; exact p, rfl⟩
  | @cons d x l m a t ih =>
    intro pre step r p
    obtain ⟨r1, r2, e1, e2, p2⟩ := step pre d x r a ⟨m, rfl⟩ p
    obtain ⟨r3, p3, e3⟩ := ih (pre ++ [x]) (fun pre' d' x' r' h' ex p' => step pre' d' x' r' h' (by obtain ⟨post, e⟩ := ex; exact ⟨post, by rw [← e, List.append_assoc]; rfl⟩) p') r2 p2
    exact ⟨r3, by rw [List.append_assoc] at p3; exact p3, by simp [forGo, e1, e2, e3]⟩
theorem summed_ok {k : Nat} {x : D} {ds : List D} {xs : List Rat} (hx : Sq x ds) (h : RL ds xs) (hb : AllB k xs) (hk : xs.length * (k + 1) + k ≤ 3480) (hl : xs.length ≤ 1000) : B_summed [x] = .ok (rt (sumR xs)) [none] := by
  have ar := are_ok hx h hl
  obtain ⟨r', ⟨y, er⟩, e⟩ := for_2 (g := gN 2) (b := sAs 1 (eB (oW [(0, B_Ratio___add__)] ["int"] [0] pAdd) (eV 1) (eV 2))) (fun pre r => ∃ y, r = [some x, some (rt (sumR pre)), y]) h [] (fun pre d q r hd ⟨post, ep⟩ ⟨y, er⟩ => by
    subst er
    have ep : xs = pre ++ q :: post := by simpa using ep
    have b1 := sum_bd (xs := pre) fun z m => hb z (by rw [ep]; simp [m])
    have hlen : pre.length + 1 ≤ xs.length := by rw [ep]; simp; 
    have hm := Nat.mul_le_mul_right (k + 1) hlen
    rw [Nat.add_mul] at hm
    have b1 : Bd (xs.length * (k + 1) + 1 + k) (sumR pre) := b1.mono (by omega)
    have b2 : Bd (xs.length * (k + 1) + 1 + k) q := (hb q (by rw [ep]; simp)).mono (by omega)
    have a := oW_rt (tb := [(0, B_Ratio___add__)]) (p := pAdd) (y := d) (l := [0]) (by simp) (rk_R hd []) (add_R hd b1 b2 (by omega) (by omega))
    rw [← sumR_snoc] at a
    exact ⟨_, _, rfl, by simp [a]; rfl, _, rfl⟩) [some x, some (rt (sumR [])), none] ⟨none, rfl⟩
  subst er
  simp [sumR_nil] at e
  simp [B_summed, mkB, b_summed, ar, new0, hx.items, e]
def dot (t : Rat) (xs : List Rat) (u : Rat) (ys : List Rat) : Rat := t * u - sumR (List.zipWith (· * ·) xs ys)
theorem zip_bd {j k : Nat} : ∀ {xs ys : List Rat}, AllB j xs → AllB k ys → AllB (j + k) (List.zipWith (· * ·) xs ys)
  | [], _, _, _ => by simp [AllB]
  | _ :: _, [], _, _ => by simp [AllB]
  | x :: xs, y :: ys, hx, hy => .cons ((hx x (by simp)).mul2 (hy y (by simp))) (zip_bd (fun z m => hx z (List.mem_cons_of_mem _ m)) fun z m => hy z (List.mem_cons_of_mem _ m))
theorem AllB.mono {j k : Nat} {xs : List Rat} (h : AllB j xs) (hk : j ≤ k) : AllB k xs := fun x m => (h x m).mono hk
theorem zip_lc {α : Type} {op : Rat → Rat → Rat} {o : D → D → Ev → Out D} {va vb : Nat} {r : Ev} (hva : va < r.length) (hvb : vb < r.length) (hne : va ≠ vb) : ∀ {xs ys : List Rat}, (∀ x ∈ xs, ∀ y ∈ ys, ∀ r, o (rt x) (rt y) r = .ok (rt (op x y)) r) →
    All2 (fun d o' => ∃ r2 r3, gT [gN va, gN vb] d (wipeE [va, vb] r) = some r2 ∧ tY r2 = .ok true r2 ∧ eB o (eV va) (eV vb) r2 = .ok o' r3 ∧ wipeE [va, vb] r3 = wipeE [va, vb] r) (zipD (xs.map rt) (ys.map rt)) ((List.zipWith op xs ys).map rt)
  | [], _, _ => by simp [zipD]; exact .nil
  | _ :: _, [], _ => by simp [zipD]; exact .nil
  | x :: xs, y :: ys, h => by
    have ih := zip_lc (α := α) hva hvb hne (xs := xs) (ys := ys) fun a ma b mb => h a (List.mem_cons_of_mem _ ma) b (List.mem_cons_of_mem _ mb)
    have e := h x (by simp) y (by simp)
    refine .cons ?_ ih
    have l1 : (wipeE [va, vb] r).length = r.length := wipeE_len
    have g1 : ((wipeE [va, vb] r).set va (some (rt x)) |>.set vb (some (rt y)))[va]? = some (some (rt x)) := by
      rw [List.getElem?_set_ne (Ne.symm hne), List.getElem?_set_self (by rw [l1]; exact hva)]
    have g2 : ((wipeE [va, vb] r).set va (some (rt x)) |>.set vb (some (rt y)))[vb]? = some (some (rt y)) := by
      rw [List.getElem?_set_self (by rw [List.length_set, l1]; exact hvb)]
    refine ⟨((wipeE [va, vb] r).set va (some (rt x))).set vb (some (rt y)), ((wipeE [va, vb] r).set va (some (rt x))).set vb (some (rt y)), by simp [itemsOf, gTs], rfl, ?_, ?_⟩
    · simp [g1, g2, e]
    · rw [wipe_set (by simp), wipe_set (by simp), wipe_wipe]
theorem AllB.get {k : Nat} {xs : List Rat} (h : AllB k xs) {x : Rat} (m : x ∈ xs) : Bd k x := h x m
theorem product_ok {k : Nat} {t u : Rat} {xs ys : List Rat} {l m : List D} (h : xs.length ≤ 3) (ht : Bd k t) (hu : Bd k u) (hx : AllB k xs) (hy : AllB k ys) (h0 : 0 < k) (hk : k ≤ 400) :
    B_product_at [.ob 2 (rt t :: .tup (xs.map rt) :: l), .ob 2 (rt u :: .tup (ys.map rt) :: m)] = .ok (rt (dot t xs u ys)) [none, none] := by
  have hzl : (List.zipWith (· * ·) xs ys).length ≤ 3 := by simp; omega
  have hm := Nat.mul_le_mul_right (k + k + 1) hzl
  have sm := summed_ok (k := k + k) Sq.lst (RL.map (List.zipWith (· * ·) xs ys)) (zip_bd hx hy) (by omega) (by omega)
  have sb := (sum_bd (zip_bd hx hy)).mono (show _ ≤ 3 * (k + k + 1) + 1 by omega)
  have m0 := oW_rt (tb := [(0, B_Ratio___mul__)]) (p := pMul) (y := rt u) (l := [0]) (by simp) (rk_R (.rt u) []) (mul_ok ht hu h0 (by omega))
  have d0 := oW_rt (tb := [(0, B_Ratio___sub__)]) (p := pSub) (y := rt (sumR (List.zipWith (· * ·) xs ys))) (l := [0]) (by simp) (rk_R (.rt _) []) (sub_ok ((ht.mul2 hu).mono (by omega : k + k ≤ 3 * (k + k + 1) + 1)) sb (by omega) (by omega))
  have c := lc_pure (vs := [2, 3]) (g := gT [gN 2, gN 3]) (t := tY) (f := eB (oW [(0, B_Ratio___mul__)] ["int"] [0] pMul) (eV 2) (eV 3)) (r := [some (.ob 2 (rt t :: .tup (xs.map rt) :: l)), some (.ob 2 (rt u :: .tup (ys.map rt) :: m)), none, none])
    (zip_lc (α := Unit) (op := (· * ·)) (by simp) (by simp) (by decide) fun x mx y my => oW_rt (by simp) (rk_R (.rt y) []) (mul_ok (hx x mx) (hy y my) h0 (by omega)))
  have zl : (zipD (xs.map rt) (ys.map rt)).length ≤ big := big_of (by simp [zipD]; omega)
  unfold dot
  generalize List.zipWith (· * ·) xs ys = zs at *
  generalize t * u - sumR zs = dd at *
  simp [B_product_at, mkB, b_product_at, m0, pZip, itemsOf, isTupD, zl, c, sm, d0]
def knd (t s : Rat) : Str := if s < 0 then "apart" else if t = 0 then "nothing" else if 0 < t then "forward" else "backward"
theorem kind_ok (t s : Rat) : B_kind_by [rt t, rt s] = .ok (.str (knd t s)) [none, none] := by
  unfold knd
  by_cases h1 : s < 0
  · simp [B_kind_by, mkB, b_kind_by, sign_ok, nm_neg, h1]
  · by_cases h2 : t = 0
    · simp [B_kind_by, mkB, b_kind_by, sign_ok, nm_neg, h1, h2]
    · by_cases h3 : 0 < t
      · simp [B_kind_by, mkB, b_kind_by, sign_ok, nm_neg, nm_pos, h1, h2, h3]
      · simp [B_kind_by, mkB, b_kind_by, sign_ok, nm_neg, nm_pos, h1, h2, h3]
def sl (t : Rat) (xs : List Rat) : List D := [rt t, .tup (xs.map rt), .int (xs.length : Nat), rt (dot t xs t xs), .str (knd t (dot t xs t xs))]
abbrev stp (t : Rat) (xs : List Rat) : D := .ob 2 (sl t xs)
@[simp] theorem sl_0 (t : Rat) (xs : List Rat) : (sl t xs)[0]? = some (rt t) := rfl
@[simp] theorem sl_1 (t : Rat) (xs : List Rat) : (sl t xs)[1]? = some (.tup (xs.map rt)) := rfl
@[simp] theorem sl_2 (t : Rat) (xs : List Rat) : (sl t xs)[2]? = some (.int (xs.length : Nat)) := rfl
@[simp] theorem sl_3 (t : Rat) (xs : List Rat) : (sl t xs)[3]? = some (rt (dot t xs t xs)) := rfl
@[simp] theorem sl_4 (t : Rat) (xs : List Rat) : (sl t xs)[4]? = some (.str (knd t (dot t xs t xs))) := rfl
theorem RL.of_lc {v : Nat} {r : Ev} (hv : v < r.length) {ds : List D} {xs : List Rat} (h : RL ds xs) : All2 (fun d o => ∃ r2 r3, gN v d (wipeE [v] r) = some r2 ∧ tY r2 = .ok true r2 ∧ eCd B_Ratio_of [] (aCons (eV v) aNil) r2 = .ok o r3 ∧ wipeE [v] r3 = wipeE [v] r) ds (xs.map rt) := by
  induction h with
  | nil => exact .nil
  | @cons d q _ _ a _ ih =>
    have := of_R a
    exact .cons ⟨_, (wipeE [v] r).set v (some d), rfl, rfl, by simp [wipeE, hv, this], by simp [wipeE]⟩ ih
theorem len_ch {n : Nat} (h1 : 1 ≤ n) (h3 : n ≤ 3) : pLe (.int 1) (.int (n : Nat)) = some (.bl true) ∧ pLe (.int (n : Nat)) (.int 3) = some (.bl true) := by
  have a : (1 : Int) ≤ n := by omega
  have b : (n : Int) ≤ 3 := by omega
  simp [pLe, a, b]
theorem step_ok {k : Nat} {t' x : D} {ds : List D} {t : Rat} {xs : List Rat} (ht' : IsR t' t) (hx : Sq x ds) (hd : RL ds xs) (h : xs.length ≤ 3) (h1 : 1 ≤ xs.length) (ht : Bd k t) (hb : AllB k xs) (h0 : 0 < k) (hk : k ≤ 400) : B_Step___init__ [.ob 2 [], t', x] = .ok .non [some (stp t xs), none, none] := by
  have ar := are_ok hx hd (by omega)
  have pr := product_ok (l := [.int (xs.length : Nat)]) (m := [.int (xs.length : Nat)]) h ht ht hb hb h0 hk
  have kd := kind_ok t (dot t xs t xs)
  have c := lc_pure (vs := [3]) (r := [some (.ob 2 [rt t]), some t', some x, none]) (RL.of_lc (v := 3) (by simp) hd)
  have hl := hx.len
  rw [hd.len] at hl
  have hb2 : ds.length ≤ big := big_of (by rw [hd.len]; omega)
  obtain ⟨c1, c2⟩ := len_ch h1 h
  have i1 := is_R ht'
  have o1 := of_R ht'
  generalize e : dot t xs t xs = dd at pr kd
  have he : sl t xs = [rt t, .tup (xs.map rt), .int (xs.length : Nat), rt dd, .str (knd t dd)] := by rw [← e]; rfl
  show B_Step___init__ [.ob 2 [], t', x] = .ok .non [some (.ob 2 (sl t xs)), none, none]
  rw [he]
  have e4 : pLen [.tup (xs.map rt)] = some (.int (xs.length : Nat)) := by simp [pLen, itemsOf]
  have e5 : pTuple [.lst (xs.map rt)] = some (.tup (xs.map rt)) := rfl
  simp [B_Step___init__, mkB, b_Step___init__, ar, i1, o1, onBl, hl, c1, c2, hx.items, hb2, c, e4, e5, pr, kd]
end Kw
namespace Kw
open PySem PySem.Spec PyProof.Rows L2 Z
theorem ne_nat (n : Nat) : pNe (.int (n : Nat)) (.int (n : Nat)) = some (.bl false) := by
  simp
theorem eqY_rt {n : Nat} (p q : Rat) : eqY [(0, B_Ratio___eq__)] ["int"] [0] n (rt p) (rt q) = some (decide (p = q)) := by
  have e := eq_ok p q
  have a : p ≠ q → apt (rt p) (rt q) = true := fun ne => by
    by_cases h1 : p.num = q.num
    · have h2 : (p.den : Int) ≠ q.den := fun z => ne (Rat.ext h1 (by omega))
      simp [apt, neI, h2]
    · simp [apt, neI, h1]
  have : eqO (some B_Ratio___eq__) (rt p) (rt q) = some (decide (p = q)) := by
    unfold eqO
    simp only [e]
    by_cases hh : p = q
    · simp [hh]
    · simp [hh, a hh]
  cases n <;> simp [eqY, rk, this]
theorem eqL_rt {n : Nat} : ∀ (xs ys : List Rat), eqL (eqY [(0, B_Ratio___eq__)] ["int"] [0] n) (xs.map rt) (ys.map rt) = some (decide (xs = ys))
  | [], [] => rfl
  | [], _ :: _ => by simp [eqL]
  | _ :: _, [] => by simp [eqL]
  | x :: xs, y :: ys => by
    have ih := eqL_rt (n := n) xs ys
    simp only [List.map_cons, eqL, eqY_rt]
    by_cases h : x = y
    · simp [h, ih]
    · simp [h]
theorem step_eq (t u : Rat) (xs ys : List Rat) : B_Step___eq__ [stp t xs, stp u ys] = .ok (.bl (decide (t = u ∧ xs = ys))) [none, none] := by
  by_cases h1 : t = u
  · simp [B_Step___eq__, mkB, b_Step___eq__, kO, et_rt, oEY, eqL_rt, h1]
  · simp [B_Step___eq__, mkB, b_Step___eq__, kO, et_rt, h1]
theorem et_st (t u : Rat) (xs ys : List Rat) (r : Ev) : oET [(2, B_Step___eq__)] ["int"] [2] (stp t xs) (stp u ys) r = .ok (.bl (decide (t = u ∧ xs = ys))) r := by
  simp [oET, oW, rk, step_eq]
end Kw
namespace Kw
open PySem PySem.Spec PyProof.Rows L2 Z
abbrev Ent := Str × Rat × List Rat
def insE {α : Type} (x : Str × α) : List (Str × α) → List (Str × α)
  | [] => [x]
  | y :: l => if ltS y.1 x.1 = true then y :: insE x l else x :: y :: l
def sortE {α : Type} : List (Str × α) → List (Str × α)
  | [] => []
  | x :: l => insE x (sortE l)
theorem insE_names {α : Type} (x : Str × α) : ∀ l, (insE x l).map (·.1) = insS x.1 (l.map (·.1))
  | [] => rfl
  | y :: l => by
    unfold insE
    simp only [List.map_cons]
    rw [insS]
    split <;> simp [insE_names x l]
theorem sortE_names {α : Type} : ∀ l : List (Str × α), (sortE l).map (·.1) = sortS (l.map (·.1))
  | [] => rfl
  | x :: l => by
    rw [sortE, insE_names, sortE_names l]
    rfl
theorem insE_perm {α : Type} (x : Str × α) : ∀ l, (insE x l).Perm (x :: l)
  | [] => .refl _
  | y :: l => by
    unfold insE
    split
    · exact ((insE_perm x l).cons y).trans (List.Perm.swap _ _ _)
    · exact .refl _
theorem sortE_perm {α : Type} : ∀ l : List (Str × α), (sortE l).Perm l
  | [] => .refl _
  | x :: l => (insE_perm x _).trans ((sortE_perm l).cons x)
@[simp] theorem sortE_len {α : Type} (l : List (Str × α)) : (sortE l).length = l.length := (sortE_perm l).length_eq
def Rise {α : Type} (l : List (Str × α)) : Prop := l.Pairwise fun a b => leS a.1 b.1 ∧ a.1 ≠ b.1
theorem sortS_pw' (l : List Str) : (sortS l).Pairwise leS := by
  induction l with
  | nil => exact .nil
  | cons x l ih => exact ins_pw ih
theorem Rise.of_sort {α : Type} {l : List (Str × α)} (h : (l.map (·.1)).Nodup) : Rise (sortE l) := by
  have h1 := sortS_pw' (l.map (·.1))
  rw [← sortE_names] at h1
  have h2 : ((sortE l).map (·.1)).Nodup := ((sortE_perm l).map _).nodup_iff.mpr h
  unfold Rise
  have h1 := List.pairwise_map.mp h1
  have h2 := List.pairwise_map.mp h2
  exact h1.and h2
theorem Rise.nodup {α : Type} {l : List (Str × α)} (h : Rise l) : (l.map (·.1)).Nodup := by
  refine List.pairwise_map.mpr (List.Pairwise.imp (fun h => h.2) h)
theorem Rise.map {α β : Type} {l : List (Str × α)} (f : Str × α → Str × β) (hf : ∀ x, (f x).1 = x.1) (h : Rise l) : Rise (l.map f) := by
  refine List.pairwise_map.mpr (List.Pairwise.imp (fun {a b} h => ?_) h)
  rw [hf, hf]
  exact h
def ky {α : Type} (l : List (Str × α)) : List Key := l.map fun e => .inr e.1
theorem look_at {α : Type} {f : Str × α → D} : ∀ {l : List (Str × α)} {e : Str × α}, (l.map (·.1)).Nodup → e ∈ l → lookD (ky l) (l.map f) (.inr e.1) = some (f e)
  | x :: l, e, hn, hm => by
    have h2 := List.nodup_cons.mp hn
    rcases List.mem_cons.mp hm with q | hm
    · subst q
      simp [ky, lookD]
    · have ne : x.1 ≠ e.1 := fun z => h2.1 (by show x.1 ∈ _; rw [z]; exact List.mem_map_of_mem (f := fun x => x.1) hm)
      have ih := look_at (f := f) h2.2 hm
      simp only [ky] at ih
      simp [ky, lookD, ne, ih]
theorem dix_at {α : Type} {f : Str × α → D} {l : List (Str × α)} {e : Str × α} (hn : (l.map (·.1)).Nodup) (hm : e ∈ l) : pDix (.dkl (ky l) (l.map f)) (.str e.1) = some (f e) := by
  simp [pDix, dicOf, Z.keyOf, look_at hn hm]
theorem look_all2 {α : Type} {R : D → Str × α → Prop} {vs : List D} {l : List (Str × α)} (h : All2 R vs l) : ∀ {e : Str × α}, (l.map (·.1)).Nodup → e ∈ l → ∃ v, lookD (ky l) vs (.inr e.1) = some v ∧ R v e := by
  induction h with
  | nil => exact fun _ m => nomatch m
  | @cons v x vs l a t ih =>
    intro e hn hm
    have h2 := List.nodup_cons.mp hn
    rcases List.mem_cons.mp hm with q | hm
    · subst q
      exact ⟨v, by simp [ky, lookD], a⟩
    · have ne : x.1 ≠ e.1 := fun z => h2.1 (by show x.1 ∈ _; rw [z]; exact List.mem_map_of_mem (f := fun x => x.1) hm)
      obtain ⟨w, e1, h1⟩ := ih h2.2 hm
      exact ⟨w, by simpa [ky, lookD, ne] using e1, h1⟩
theorem dix_all2 {α : Type} {R : D → Str × α → Prop} {vs : List D} {l : List (Str × α)} (h : All2 R vs l) {e : Str × α} (hn : (l.map (·.1)).Nodup) (hm : e ∈ l) : ∃ v, pDix (.dkl (ky l) vs) (.str e.1) = some v ∧ R v e := by
  obtain ⟨v, e1, h1⟩ := look_all2 h hn hm
  exact ⟨v, by simp [pDix, dicOf, Z.keyOf, e1], h1⟩
theorem putR_new {ks : List Key} {l : List D} {k : Key} {d : D} (h : k ∉ ks) : putR ks l k d = (ks ++ [k], l ++ [d]) := by
  unfold putR
  rw [if_neg]
  intro z
  obtain ⟨x, hx, e⟩ := List.any_eq_true.mp z
  exact h (by rw [← of_decide_eq_true e]; exact hx)
theorem dcGo_pure {vs : List Nat} {g : Tg} {t : M Bool} {kf vf : M D} {w : Ev} {ds : List D} {kvs : List (Key × D)}
    (h : All2 (fun d kv => ∃ r2 r3 r4 y, g d w = some r2 ∧ t r2 = .ok true r2 ∧ kf r2 = .ok y r3 ∧ Z.keyOf y = some kv.1 ∧ vf r3 = .ok kv.2 r4 ∧ wipeE vs r4 = w) ds kvs) :
    ∀ (ks : List Key) (l : List D) (r : Ev), (ks ++ kvs.map (·.1)).Nodup → wipeE vs r = w → ∃ r', dcGo vs g t kf vf ds (ks, l) r = some ((ks ++ kvs.map (·.1), l ++ kvs.map (·.2)), r') ∧ wipeE vs r' = w := by
  induction h with
  | nil => exact fun ks l r _ e => ⟨r, by simp [dcGo], e⟩
  | @cons d kv ds kvs a _ ih =>
    intro ks l r hn e
    obtain ⟨r2, r3, r4, y, e1, e2, e3, e4, e5, e6⟩ := a
    have hk : kv.1 ∉ ks := fun m => by
      have := List.nodup_append.mp hn
      exact this.2.2 _ m _ (by simp) rfl
    obtain ⟨r', e7, e8⟩ := ih (ks ++ [kv.1]) (l ++ [kv.2]) r4 (by simpa using hn) e6
    refine ⟨r', ?_, e8⟩
    simp [dcGo, e, e1, e2, e3, e4, e5, putR_new hk, e7]
theorem dc_pure {vs : List Nat} {g : Tg} {t : M Bool} {kf vf : M D} {r : Ev} {ds : List D} {kvs : List (Key × D)}
    (h : All2 (fun d kv => ∃ r2 r3 r4 y, g d (wipeE vs r) = some r2 ∧ t r2 = .ok true r2 ∧ kf r2 = .ok y r3 ∧ Z.keyOf y = some kv.1 ∧ vf r3 = .ok kv.2 r4 ∧ wipeE vs r4 = wipeE vs r) ds kvs) (hn : (kvs.map (·.1)).Nodup) :
    dcOut vs r (dcGo vs g t kf vf ds ([], []) r) = .ok (.dic (kvs.map (·.1)) (kvs.map (·.2))) r := by
  obtain ⟨r', e1, e2⟩ := dcGo_pure h [] [] r (by simpa using hn) rfl
  rw [e1]
  simp [dcOut, back_eq e2]
def NameOk (x : Str) : Prop := B_is_name [.str x] = .ok (.bl true) [none]
def SpotD (v : D) (e : Ent) : Prop := ∃ t' p ds, (v = .tup [t', p] ∨ v = .lst [t', p]) ∧ IsR t' e.2.1 ∧ Sq p ds ∧ RL ds e.2.2
theorem SpotD.ix0 {v : D} {e : Ent} (h : SpotD v e) : ∃ t' p ds, pIx v (.int 0) = some t' ∧ pIx v (.int 1) = some p ∧ B_is_listed [v] = .ok (.bl true) [none] ∧ pLen [v] = some (.int 2) ∧ IsR t' e.2.1 ∧ Sq p ds ∧ RL ds e.2.2 := by
  obtain ⟨t', p, ds, hv, h1, h2, h3⟩ := h
  refine ⟨t', p, ds, ?_, ?_, ?_, ?_, h1, h2, h3⟩
  · rcases hv with rfl | rfl <;> simp [pIx, atI, ixN]
  · rcases hv with rfl | rfl <;> simp [pIx, atI, ixN]
  · rcases hv with rfl | rfl <;> simp [B_is_listed, mkB, b_is_listed, kAny, kT, tyN]
  · rcases hv with rfl | rfl <;> rfl
theorem eq_nat (n : Nat) : pEq (.int (n : Nat)) (.int (n : Nat)) = some (.bl true) := by
  simp
theorem is_spot_ok {v : D} {e : Ent} {n : Nat} (h : SpotD v e) (hl : e.2.2.length = n) (hn : n ≤ 1000) : B_is_spot [v, .int (n : Nat)] = .ok (.bl true) [none, none] := by
  obtain ⟨t', p, ds, e1, e2, e3, e4, h1, h2, h3⟩ := h.ix0
  have a := are_ok h2 h3 (by omega)
  have l := h2.len
  rw [h3.len, hl] at l
  have q := eq_nat n
  have i := is_R h1
  have n2 : pNe (.int 2) (.int 2) = some (.bl false) := ne_nat 2
  simp [B_is_spot, mkB, b_is_spot, e1, e2, e3, e4, n2, i, a, l, q]
def SpotsOk (n : Nat) (vs : List D) (us : List Ent) : Prop := All2 (fun v (e : Ent) => SpotD v e ∧ e.2.2.length = n ∧ NameOk e.1) vs us
theorem ky_len {α : Type} (l : List (Str × α)) : (ky l).length = l.length := by simp [ky]
theorem eq_zero_f {n : Nat} (h : 1 ≤ n) : pEq (.int (n : Nat)) (.int 0) = some (.bl false) := by
  have : (n : Int) ≠ 0 := by omega
  simp [this]; omega
theorem ky_map {α : Type} (l : List (Str × α)) : (ky l).map keyD = l.map fun e => .str e.1 := by simp [ky, keyD]
theorem lc_true {α : Type} {vs : List Nat} {g : Tg} {f : M D} {r : Ev} {h : α → D} {l : List α} (hf : ∀ a ∈ l, ∃ r2 r3, g (h a) (wipeE vs r) = some r2 ∧ f r2 = .ok (.bl true) r3 ∧ wipeE vs r3 = wipeE vs r) :
    lcOut vs r (lcGo vs g tY f (l.map h) r) = .ok (.lst (List.replicate l.length (.bl true))) r := by
  refine lc_pure ?_
  have : List.replicate l.length (D.bl true) = l.map fun _ => D.bl true := by
    clear hf
    induction l with
    | nil => rfl
    | cons a l ih => simp [List.replicate, ih]
  rw [this]
  exact All2.of_map h _ l fun a m => by
    obtain ⟨r2, r3, e1, e2, e3⟩ := hf a m
    exact ⟨r2, r3, e1, rfl, e2, e3⟩
theorem are_spots_ok {n : Nat} {vs : List D} {us : List Ent} (h : SpotsOk n vs us) (hn : (us.map (·.1)).Nodup) (h1 : 1 ≤ us.length) (h8 : us.length ≤ 8) (hn2 : n ≤ 1000) : B_are_spots [.dkl (ky us) vs, .int (n : Nat)] = .ok (.bl true) [none, none] := by
  have kt : kT [] "dict" (.dkl (ky us) vs) = some true := by simp [kT, tyN]
  have dl : pDlen [.dkl (ky us) vs] = some (.int (us.length : Nat)) := by simp [pDlen, dicOf, ky_len]
  have dk : dkOf (.dkl (ky us) vs) = some (us.map fun e => .str e.1) := by rw [dkOf, ky_map]
  have c := lc_true (vs := [2]) (g := gN 2) (f := eAnd (eCd B_is_name [] (aCons (eV 2) aNil)) (eCd B_is_spot [] (aCons (eB (oP pDix) (eV 0) (eV 2)) (aCons (eV 1) aNil)))) (r := [some (.dkl (ky us) vs), some (.int (n : Nat)), none]) (h := fun e : Ent => .str e.1) (l := us) (fun e m => by
    obtain ⟨v, ev, hv, hl, hm⟩ := dix_all2 h hn m
    have a := is_spot_ok hv hl hn2
    have hm : B_is_name [.str e.1] = .ok (.bl true) [none] := hm
    exact ⟨_, _, rfl, by simp [wipeE, hm, ev, a]; rfl, by simp [wipeE]⟩)
  have z := eq_zero_f h1
  generalize hT : D.dkl (ky us) vs = T at *
  simp [B_are_spots, mkB, b_are_spots, kt, dl, z, dk, big_of (show us.length ≤ 1000 by omega), c, all_true]
def nmD (e : Ent) : D := .str e.1
def stD (e : Ent) : D := stp e.2.1 e.2.2
def bkl (n : Nat) (es : List Ent) : List D := [.int (n : Nat), .tup (es.map nmD), .dkl (ky es) (es.map stD)]
abbrev book (n : Nat) (es : List Ent) : D := .ob 3 (bkl n es)
@[simp] theorem bkl_0 (n : Nat) (es : List Ent) : (bkl n es)[0]? = some (.int (n : Nat)) := rfl
@[simp] theorem bkl_1 (n : Nat) (es : List Ent) : (bkl n es)[1]? = some (.tup (es.map nmD)) := rfl
@[simp] theorem bkl_2 (n : Nat) (es : List Ent) : (bkl n es)[2]? = some (.dkl (ky es) (es.map stD)) := rfl
def bi1 : M Fl := (sIf (tNo (tV (eCd B_is_within [] (aCons (eV 1) (aCons (eK (.int 1)) (aCons (eK (.int (3))) aNil)))))) sNo sNil)
def bi2 : M Fl := (sIf (tNo (tV (eCd B_are_spots [] (aCons (eV 2) (aCons (eV 1) aNil))))) sNo sNil)
def bi3 : M Fl := (sIf (tV (eB (oP pGt) (eN pDlen (aCons (eV 2) aNil)) (eK (.int (8))))) sNo sNil)
def bi4 : M Fl := (sFl 0 [(3, 0)] (eV 1))
def bi5 : M Fl := (sFl 0 [(3, 1)] (eN pTuple (aCons (eN pSorted (aCons (eN pDlist (aCons (eV 2) aNil)) aNil)) aNil)))
def bi6 : M Fl := (sFl 0 [(3, 2)] (eLk (eDc [3] (itL (eFl [(3, 1), (26, 0)] (eS (fun _ => true) 0))) (gN 3) tY (eV 3) (eNd 2 B_Step___init__ [] (aCons (eB (oP pIx) (eB (oP pDix) (eV 2) (eV 3)) (eK (.int 0))) (aCons (eB (oP pIx) (eB (oP pDix) (eV 2) (eV 3)) (eK (.int 1))) aNil))))))
def bi7 : M Fl := (sEx (eCd B_need_unlike [] (aCons (eFl [(3, 1), (26, 0)] (eS (fun _ => true) 0)) (aCons (eFl [(3, 2)] (eS (fun _ => true) 0)) aNil))))
theorem bis : b_Book___init__ = (sSeq bi1 (sSeq bi2 (sSeq bi3 (sSeq bi4 (sSeq bi5 (sSeq bi6 bi7)))))) := rfl
theorem mkB_nx {n m : Nat} {io : List Nat} {b : M Fl} {ds : List D} {r r0 : Ev} (hl : ds.length = n) (h0 : ds.map some ++ List.replicate (m - n) none = r0) (h : b r0 = .ok .nx r) : mkB n m io b ds = .ok .non (keepE io n r) := by
  unfold mkB
  rw [if_pos hl, h0, h]
theorem within_ok {a b c : Int} (h1 : b ≤ a) (h2 : a ≤ c) : B_is_within [.int a, .int b, .int c] = .ok (.bl true) [none, none, none] := by
  simp [B_is_within, mkB, b_is_within, B_int, pGe, pLe, h1, h2]
theorem bi1_ok {a T m : Option D} {n : Nat} (h1 : 1 ≤ n) (h3 : n ≤ 3) : bi1 [a, some (.int (n : Nat)), T, m] = .ok .nx [a, some (.int (n : Nat)), T, m] := by
  have := within_ok (a := (n : Nat)) (b := 1) (c := 3) (by omega) (by omega)
  simp [bi1, this]
theorem bi2_ok {a m : Option D} {T n : D} (h : B_are_spots [T, n] = .ok (.bl true) [none, none]) : bi2 [a, some n, some T, m] = .ok .nx [a, some n, some T, m] := by
  simp [bi2, h]
theorem bi3_ok {a b m : Option D} {T : D} {n : Nat} (h : pDlen [T] = some (.int (n : Nat))) (h8 : n ≤ 8) : bi3 [a, b, some T, m] = .ok .nx [a, b, some T, m] := by
  have : ¬ (8 : Int) < n := by omega
  simp [bi3, h, pGt, this]
theorem bi4_ok {T m : Option D} {n : D} : bi4 [some (.ob 3 []), some n, T, m] = .ok .nx [some (.ob 3 [n]), some n, T, m] := by
  simp [bi4]
theorem bi5_ok {b m : Option D} {T L n : D} {l : List D} (h : pDlist [T] = some L) (h2 : pSorted [L] = some (.lst l)) : bi5 [some (.ob 3 [n]), b, some T, m] = .ok .nx [some (.ob 3 [n, .tup l]), b, some T, m] := by
  simp [bi5, h, h2, pTuple, itemsOf]
theorem bi7_ok {a T N : D} {r1 r2 m : Option D} (h : B_need_unlike [N, T] = .ok .non [none, none]) : bi7 [some (.ob 3 [a, N, T]), r1, r2, m] = .ok .nx [some (.ob 3 [a, N, T]), r1, r2, m] := by
  simp [bi7, h]
theorem bi6_ok {n : D} {es : List Ent} {T : D} {y1 : Option D} (hn : (es.map (·.1)).Nodup) (hl : es.length ≤ 1000) (h : ∀ e ∈ es, ∃ v t' p, pDix T (.str e.1) = some v ∧ pIx v (.int 0) = some t' ∧ pIx v (.int 1) = some p ∧ B_Step___init__ [.ob 2 [], t', p] = .ok .non [some (stD e), none, none]) :
    bi6 [some (.ob 3 [n, .tup (es.map nmD)]), y1, some T, none] = .ok .nx [some (.ob 3 [n, .tup (es.map nmD), .dkl (ky es) (es.map stD)]), y1, some T, none] := by
  have c := dc_pure (vs := [3]) (g := gN 3) (t := tY) (kf := eV 3) (vf := eNd 2 B_Step___init__ [] (aCons (eB (oP pIx) (eB (oP pDix) (eV 2) (eV 3)) (eK (.int 0))) (aCons (eB (oP pIx) (eB (oP pDix) (eV 2) (eV 3)) (eK (.int 1))) aNil))) (r := [some (.ob 3 [n, .tup (es.map nmD)]), y1, some T, none]) (ds := es.map nmD) (kvs := es.map fun e => (.inr e.1, stD e)) (All2.of_map _ _ es fun e m => by
    obtain ⟨v, t', p, e1, e2, e3, e4⟩ := h e m
    exact ⟨_, _, _, _, rfl, rfl, by simp [wipeE, nmD]; exact ⟨rfl, rfl⟩, by simp [Z.keyOf], by simp [wipeE, e1, e2, e3, e4]; rfl, by simp [wipeE]⟩) (by
      rw [List.map_map]
      exact List.pairwise_map.mpr (List.Pairwise.imp (fun {a b} h z => h (by simpa using z)) (List.pairwise_map.mp hn)))
  simp only [List.map_map] at c
  have e1 : List.map ((·.1) ∘ fun e : Ent => ((.inr e.1 : Key), stD e)) es = ky es := rfl
  have e2 : List.map ((·.2) ∘ fun e : Ent => ((.inr e.1 : Key), stD e)) es = es.map stD := rfl
  rw [e1, e2] at c
  simp [bi6, itemsOf, big_of hl, c, lkOf]
theorem pSl_from (l : List D) (i : Nat) (h : i < l.length) : pSl (.tup l) (some ((i : Int) + 1)) none = some (.tup (l.drop (i + 1))) := by
  have e1 : HT.sIx l.length 0 (some ((i : Int) + 1)) = i + 1 := by
    have := HT.sIx_nat l.length 0 (i + 1)
    rw [Int.natCast_add] at this
    rw [show ((i : Int) + 1) = (i : Int) + (1 : Nat) by omega, this]
    omega
  have e2 : HT.sIx l.length l.length none = l.length := rfl
  show (if HT.sIx l.length 0 (some ((i : Int) + 1)) = 0 ∧ HT.sIx l.length l.length none = l.length then none else some (D.tup (Z.cutD l (some ((i : Int) + 1)) none))) = _
  rw [if_neg (by rw [e1]; omega)]
  show some (D.tup ((l.drop (HT.sIx l.length 0 (some ((i : Int) + 1)))).take _)) = _
  rw [e1, List.take_of_length_le (by rw [e2]; simp)]
theorem for_inv {g : Tg} {b : M Fl} (P : Ev → Prop) : ∀ {ds : List D}, (∀ d ∈ ds, ∀ r, P r → ∃ r1 r2, g d r = some r1 ∧ b r1 = .ok .nx r2 ∧ P r2) → ∀ r, P r → ∃ r', P r' ∧ forGo g b ds r = .ok .nx r'
  | [], _, r, p => ⟨r, p, rfl⟩
  | d :: ds, h, r, p => by
    obtain ⟨r1, r2, e1, e2, p2⟩ := h d (by simp) r p
    obtain ⟨r3, p3, e3⟩ := for_inv P (fun d' m => h d' (List.mem_cons_of_mem _ m)) r2 p2
    exact ⟨r3, p3, by simp [forGo, e1, e2, e3]⟩
def Unl (es : List Ent) : Prop := es.Pairwise fun a b => ¬ (a.2.1 = b.2.1 ∧ a.2.2 = b.2.2)
theorem unlike_ok {es : List Ent} (hn : (es.map (·.1)).Nodup) (hu : Unl es) : B_need_unlike [.tup (es.map nmD), .dkl (ky es) (es.map stD)] = .ok .non [none, none] := by
  have dx : ∀ e ∈ es, pDix (.dkl (ky es) (es.map stD)) (.str e.1) = some (stD e) := fun e m => dix_at hn m
  generalize hT : D.dkl (ky es) (es.map stD) = T at *
  have ent : pEnt [.tup (es.map nmD)] = some (enuD (es.map nmD)) := rfl
  have len : (es.map nmD).length = es.length := by simp
  generalize hN : es.map nmD = N at *
  have inner : ∀ (i : Nat) (x y : Ent), es[i]? = some x → y ∈ es.drop (i + 1) → oET [(2, B_Step___eq__)] ["int"] [2] (stD x) (stD y) = fun r => .ok (.bl false) r := fun i x y hx hy => by
    have h1 : ¬ (x.2.1 = y.2.1 ∧ x.2.2 = y.2.2) := by
      obtain ⟨j, hj, e⟩ := List.mem_iff_getElem.mp hy
      rw [List.getElem_drop] at e
      obtain ⟨hi, ei⟩ := List.getElem?_eq_some_iff.mp hx
      have := List.pairwise_iff_getElem.mp hu i (i + 1 + j) hi (by simp at hj; omega) (by omega)
      rw [ei, e] at this
      exact this
    funext r
    rw [show stD x = stp x.2.1 x.2.2 from rfl, show stD y = stp y.2.1 y.2.2 from rfl, et_st, decide_eq_false h1]
  obtain ⟨r', ⟨z2, z3, z4, er⟩, e⟩ := for_inv (g := gT [gN 2, gN 3]) (b := sFor (itL (eSl (eV 0) (iSo (eB (oP pAdd) (eV 2) (eK (.int 1)))) iNo)) (gN 4) (sIf (tV (eB (oET [(2, B_Step___eq__)] ["int"] [2]) (eB (oP pDix) (eV 1) (eV 3)) (eB (oP pDix) (eV 1) (eV 4)))) sNo sNil))
    (fun r => ∃ z2 z3 z4, r = [some (.tup N), some T, z2, z3, z4]) (ds := enuD N) (fun d m r ⟨z2, z3, z4, er⟩ => by
      subst er
      unfold enuD at m
      obtain ⟨⟨x, i⟩, mi, ed⟩ := List.mem_map.mp m
      have hx : N[i]? = some x := List.mem_zipIdx_iff_getElem?.mp mi
      rw [← hN, List.getElem?_map] at hx
      obtain ⟨en, he, rfl⟩ := Option.map_eq_some_iff.mp hx
      obtain ⟨hi, _⟩ := List.getElem?_eq_some_iff.mp he
      have sl := pSl_from N i (by omega)
      have me : en ∈ es := List.mem_of_getElem? he
      have d1 := dx en me
      obtain ⟨r3, ⟨y4, er3⟩, e3⟩ := for_inv (g := gN 4) (b := sIf (tV (eB (oET [(2, B_Step___eq__)] ["int"] [2]) (eB (oP pDix) (eV 1) (eV 3)) (eB (oP pDix) (eV 1) (eV 4)))) sNo sNil) (fun r => ∃ z, r = [some (.tup N), some T, some (.int (i : Nat)), some (.str en.1), z]) (ds := N.drop (i + 1)) (fun d m r ⟨z, er⟩ => by
        subst er
        rw [← hN, ← List.map_drop] at m
        obtain ⟨y, my, rfl⟩ := List.mem_map.mp m
        have d2 := dx y (List.mem_of_mem_drop my)
        have q := inner i en y he my
        exact ⟨[some (.tup N), some T, some (.int (i : Nat)), some (.str en.1), some (nmD y)], [some (.tup N), some T, some (.int (i : Nat)), some (.str en.1), some (nmD y)], rfl, by simp [nmD, d1, d2, q], _, rfl⟩) [some (.tup N), some T, some (.int (i : Nat)), some (.str en.1), z4] ⟨z4, rfl⟩
      subst er3
      refine ⟨[some (.tup N), some T, some (.int (i : Nat)), some (.str en.1), z4], [some (.tup N), some T, some (.int (i : Nat)), some (.str en.1), y4], by rw [← ed]; simp [itemsOf, gTs, nmD], ?_, _, _, _, rfl⟩
      simp [pAdd, sl, itemsOf, e3]) [some (.tup N), some T, none, none, none] ⟨_, _, _, rfl⟩
  subst er
  simp [B_need_unlike, mkB, b_need_unlike, ent, e]
theorem sort_pd {us : List Ent} (h8 : us.length ≤ 60) : pSorted [.lst ((ky us).map keyD)] = some (.lst ((sortE us).map nmD)) := by
  have e1 : strsOf ((ky us).map keyD) = some (us.map (·.1)) := by
    rw [ky_map]
    clear h8
    induction us with
    | nil => rfl
    | cons x l ih => simp [strsOf, ih]
  have e2 : (sortE us).map nmD = (sortS (us.map (·.1))).map D.str := by
    rw [← sortE_names, List.map_map]
    rfl
  simp [pSorted, lsOf, e1, e2]
  omega
theorem keepE03 (r0 r1 r2 : Option D) (l : List (Option D)) : keepE [0] 3 (r0 :: r1 :: r2 :: l) = [r0, none, none] := rfl
structure EntOk (k n : Nat) (e : Ent) : Prop where
  t : Bd k e.2.1
  xs : AllB k e.2.2
  l : e.2.2.length = n
theorem book_ok {k n : Nat} {vs : List D} {us : List Ent} (h : SpotsOk n vs us) (hn : (us.map (·.1)).Nodup) (hu : Unl (sortE us)) (h1 : 1 ≤ us.length) (h8 : us.length ≤ 8) (hn1 : 1 ≤ n) (hn3 : n ≤ 3) (hb : ∀ e ∈ us, EntOk k n e) (h0 : 0 < k) (hk : k ≤ 400) :
    B_Book___init__ [.ob 3 [], .int (n : Nat), .dkl (ky us) vs] = .ok .non [some (book n (sortE us)), none, none] := by
  have as := are_spots_ok h hn h1 h8 (by omega)
  have rs := (Rise.of_sort hn).nodup
  have z6 : bi6 [some (.ob 3 [.int (n : Nat), .tup ((sortE us).map nmD)]), some (.int (n : Nat)), some (.dkl (ky us) vs), none] = _ := bi6_ok (n := .int (n : Nat)) (es := sortE us) (T := .dkl (ky us) vs) (y1 := some (.int (n : Nat))) rs (by simp; omega) fun e m => by
    have m : e ∈ us := (sortE_perm us).mem_iff.mp m
    obtain ⟨v, ev, hv, hl, hm⟩ := dix_all2 h hn m
    obtain ⟨t', p, ds, e1, e2, e3, e4, i1, i2, i3⟩ := hv.ix0
    have b := hb e m
    exact ⟨v, t', p, ev, e1, e2, step_ok i1 i2 i3 (by omega) (by omega) b.t b.xs h0 hk⟩
  have z7 := unlike_ok rs hu
  have d1 : pDlen [.dkl (ky us) vs] = some (.int (us.length : Nat)) := by simp [pDlen, dicOf, ky_len]
  have d2 : pDlist [.dkl (ky us) vs] = some (.lst ((ky us).map keyD)) := rfl
  have run := sSeq_nx (g := sSeq bi2 (sSeq bi3 (sSeq bi4 (sSeq bi5 (sSeq bi6 bi7))))) (bi1_ok (a := some (.ob 3 [])) (T := some (.dkl (ky us) vs)) (m := none) hn1 hn3)
  rw [sSeq_nx (bi2_ok as), sSeq_nx (bi3_ok d1 h8), sSeq_nx bi4_ok, sSeq_nx (bi5_ok d2 (sort_pd (by omega))), sSeq_nx z6, bi7_ok z7] at run
  have z := mkB_nx (n := 3) (m := 4) (io := [0]) (b := sSeq bi1 (sSeq bi2 (sSeq bi3 (sSeq bi4 (sSeq bi5 (sSeq bi6 bi7)))))) (ds := [.ob 3 [], .int (n : Nat), .dkl (ky us) vs]) (r0 := [some (.ob 3 []), some (.int (n : Nat)), some (.dkl (ky us) vs), none]) rfl rfl run
  rw [keepE03] at z
  rw [B_Book___init__, bis]
  exact z
end Kw
namespace Kw
open PySem PySem.Spec PyProof.Rows L2 Z
@[simp] theorem ix_lst0 (x : D) (l : List D) : pIx (.lst (x :: l)) (.int 0) = some x := by
  simp [pIx, atI, ixN]
@[simp] theorem ix_tup (l : List D) (i : Nat) : pIx (.tup l) (.int (i : Nat)) = l[i]? := by
  unfold pIx atI ixN
  by_cases h : i < l.length
  · simp [h]
  · simp [h, List.getElem?_eq_none (Nat.le_of_not_lt h)]
@[simp] theorem ix_lst (l : List D) (i : Nat) : pIx (.lst l) (.int (i : Nat)) = l[i]? := by
  unfold pIx atI ixN
  by_cases h : i < l.length
  · simp [h]
  · simp [h, List.getElem?_eq_none (Nat.le_of_not_lt h)]
@[simp] theorem ix_tup_0 (x : D) (l : List D) : pIx (.tup (x :: l)) (.int 0) = some x := by
  simp [pIx, atI, ixN]
@[simp] theorem ix_tup_1 (x y : D) (l : List D) : pIx (.tup (x :: y :: l)) (.int 1) = some y := by
  have : (1 : Int) < (l.length : Int) + 1 + 1 := by omega
  simp [pIx, atI, ixN, this]
@[simp] theorem ix_tup_2 (x y z : D) (l : List D) : pIx (.tup (x :: y :: z :: l)) (.int 2) = some z := by
  have : (2 : Int) < (l.length : Int) + 1 + 1 + 1 := by omega
  simp [pIx, atI, ixN, this]
theorem atI_last (l : List D) (x : D) : atI (l ++ [x]) (-1) = some x := by
  unfold atI ixN
  have h : (1 : Int) ≤ (l.length : Int) + 1 := by omega
  have e : (-1 + ((l.length : Int) + 1)).toNat = l.length := by omega
  simp [h, e]
@[simp] theorem ix_last_l (l : List D) (x : D) : pIx (.lst (l ++ [x])) (.int (-1)) = some x := atI_last l x
@[simp] theorem ix_last_t (l : List D) (x : D) : pIx (.tup (l ++ [x])) (.int (-1)) = some x := atI_last l x
def Pen (n : Nat) (d : D) : Prop := ∃ (L : List Int) (t r : Int), d = .lst [.lst (L.map .int), .int t, .int r] ∧ 0 ≤ t ∧ t ≤ n
theorem fmod_in {a m : Int} (h : 0 < m) : 0 ≤ a.fmod m ∧ a.fmod m < m := ⟨Int.fmod_nonneg_of_pos a h, Int.fmod_lt_of_pos a h⟩
@[simp] theorem ix_lst1 (x y : D) (l : List D) : pIx (.lst (x :: y :: l)) (.int 1) = some y := by
  have : (1 : Int) < (l.length : Int) + 1 + 1 := by omega
  simp [pIx, atI, ixN, this]
@[simp] theorem ix_lst2 (x y z : D) (l : List D) : pIx (.lst (x :: y :: z :: l)) (.int 2) = some z := by
  have : (2 : Int) < (l.length : Int) + 1 + 1 + 1 := by omega
  simp [pIx, atI, ixN, this]
@[simp] theorem set_1 (x y z d : D) : ixSet [x, y, z] (.int 1) d = some [x, d, z] := rfl
@[simp] theorem set_2 (x y z d : D) : ixSet [x, y, z] (.int 2) d = some [x, y, d] := rfl
theorem cell_ok (L : List Int) (i : Int) (h : 0 ≤ i) (h1 : i < L.length) : ∃ c, pIx (.lst (L.map D.int)) (.int i) = some (.int c) := by
  have hn : i.toNat < L.length := by omega
  refine ⟨L[i.toNat], ?_⟩
  simp [pIx, atI, ixN, h, h1, hn]
@[simp] theorem len_ints (L : List Int) : pLen [.lst (L.map D.int)] = some (.int (L.length : Nat)) := by
  rw [pLen_lst, List.length_map]
theorem p18 : pPow (.int 10) (.int 18) = some (.int 1000000000000000000) := by
  rw [pPow_int (by decide) (by decide) (by decide)]
  rfl
def mixI (c t : Int) : Int := (((((c.fmod 2147483629 + 66083 * t + 3591) ^ 5).fmod 2147483647 * (2 * t + 2133) + 55081 * t * t + 46191) ^ 3).fmod 2147483587).fdiv 64
theorem draw_ok {n : Nat} {d : D} {m : Int} (h : Pen n d) (hn : n ≤ 2 ^ 20) (hm : 0 < m) (hmb : m.natAbs < 2 ^ 60) : ∃ x d', B__law_take [d, .int m] = .ok (.int x) [some d', none] ∧ 0 ≤ x ∧ x < m ∧ Pen (n + 1) d' := by
  obtain ⟨L, t, r, rfl, t0, tn⟩ := h
  have hm0 : m ≠ 0 := by omega
  have hw : wd 8000 m = true := wd_of hmb (by omega) (by omega)
  have dv := fun i : Int => pDiv_int (i := i) hw hm0
  have md := fun i : Int => pMod_int (i := i) hm0
  by_cases hr : 0 < r
  · refine ⟨r.fmod m, .lst [.lst (L.map .int), .int t, .int (r.fdiv m)], ?_, (fmod_in hm).1, (fmod_in hm).2, L, t, _, rfl, t0, by omega⟩
    simp [B__law_take, mkB, b__law_take, hr, dv, md]
  · have tb : t.natAbs < 2 ^ 60 := by omega
    have m1 := pMul_int (mulB_left (i := 55081) (j := t) (by decide))
    have m1b := pMul_int (mulB_left (i := 55081) (j := t) (by decide))
    have m2 := pMul_int (mulB_left (i := 66083) (j := t) (by decide))
    have m3 := pMul_int (mulB_left (i := 2) (j := t) (by decide))
    have m4 := pMul_int (mulB_right (i := 55081 * t) (j := t) tb)
    have g1 := fun i : Int => pMod_int (i := i) (j := 2147483629) (by decide)
    have g2 := fun i : Int => pMod_int (i := i) (j := 2147483647) (by decide)
    have g3 := fun i : Int => pMod_int (i := i) (j := 2147483587) (by decide)
    have d64 := fun i : Int => pDiv_int (i := i) (j := 64) (wd_of (k := 7) (by decide) (by omega) (by omega)) (by decide)
    have nn := pNe_nil L
    have tt : t * t ≤ 2 ^ 40 ∧ 0 ≤ t * t := by
      have h1 : t ≤ 2 ^ 20 := by omega
      have h2 := Int.mul_le_mul h1 h1 t0 (by decide)
      exact ⟨by omega, Int.mul_nonneg t0 t0⟩
    have w5 : ∀ c : Int, pPow (.int (c.fmod 2147483629 + 66083 * t + 3591)) (.int 5) = some (.int ((c.fmod 2147483629 + 66083 * t + 3591) ^ 5)) := fun c => pPow_int (i := c.fmod 2147483629 + 66083 * t + 3591) (j := 5) (by decide) (by decide) (by have := fmod_in (a := c) (m := 2147483629) (by decide); omega)
    have mm := fun y : Int => pMul_int (mulB_left (i := y.fmod 2147483647) (j := 2 * t + 2133) (by have := fmod_in (a := y) (m := 2147483647) (by decide); omega))
    have w3 : ∀ y : Int, pPow (.int (y.fmod 2147483647 * (2 * t + 2133) + 55081 * t * t + 46191)) (.int 3) = some (.int ((y.fmod 2147483647 * (2 * t + 2133) + 55081 * t * t + 46191) ^ 3)) := fun y => pPow_int (i := y.fmod 2147483647 * (2 * t + 2133) + 55081 * t * t + 46191) (j := 3) (by decide) (by decide) (by
      have h1 := fmod_in (a := y) (m := 2147483647) (by decide)
      have h2 : y.fmod 2147483647 * (2 * t + 2133) ≤ 2147483647 * (2 * t + 2133) := Int.mul_le_mul_of_nonneg_right (by omega) (by omega)
      have h3 : 0 ≤ y.fmod 2147483647 * (2 * t + 2133) := Int.mul_nonneg h1.1 (by omega)
      rw [Int.mul_assoc]
      omega)
    cases hL : L with
    | nil =>
      subst hL
      have lt : ¬ t < 0 := by omega
      simp only [List.map_nil, List.isEmpty_nil, Bool.not_true] at nn
      refine ⟨(mixI (55081 * t + 3591) t).fmod m, .lst [.lst [], .int (t + 1), .int r], ?_, (fmod_in hm).1, (fmod_in hm).2, [], t + 1, r, rfl, by omega, by omega⟩
      simp [B__law_take, mkB, b__law_take, hr, dv, md, nn, m1, m1b, m2, m3, m4, g1, g2, g3, d64, w5, mm, w3, pLst_ok, lt, pLen_lst, mixI]
    | cons l0 L' =>
      rw [← hL]
      have hpos : 0 < L.length := by rw [hL]; simp
      have hp : (0 : Int) < (L.length : Nat) := by omega
      have hi := fmod_in (a := t) hp
      obtain ⟨c, hc⟩ := cell_ok L (t.fmod (L.length : Nat)) hi.1 hi.2
      have gl := pMod_int (i := t) (j := (L.length : Nat)) (by omega)
      have ne : L.isEmpty = false := by rw [hL]; rfl
      rw [ne] at nn
      by_cases hb : t < (L.length : Nat) ∧ 1000000000000000000 ≤ (if c < 0 then -c else c)
      · have m5 := pMul_int (mulB_left (i := 2) (j := (if c < 0 then -c else c) - 1000000000000000000) (by decide))
        refine ⟨(2 * ((if c < 0 then -c else c) - 1000000000000000000) + (if c < 0 then 1 else 0)).fmod m, .lst [.lst (L.map .int), .int (t + 1), .int ((2 * ((if c < 0 then -c else c) - 1000000000000000000) + (if c < 0 then 1 else 0)).fdiv m)], ?_, (fmod_in hm).1, (fmod_in hm).2, L, t + 1, _, rfl, by omega, by omega⟩
        simp [B__law_take, mkB, b__law_take, hr, dv, md, nn, m1, pLst_ok, gl, hc, hb.1, hb.2, p18, m5]
      · refine ⟨(mixI c t).fmod m, .lst [.lst (L.map .int), .int (t + 1), .int r], ?_, (fmod_in hm).1, (fmod_in hm).2, L, t + 1, r, rfl, by omega, by omega⟩
        by_cases hb1 : t < (L.length : Nat)
        · have hb2 : ¬ 1000000000000000000 ≤ (if c < 0 then -c else c) := fun z => hb ⟨hb1, z⟩
          simp [B__law_take, mkB, b__law_take, hr, dv, md, nn, m1, m1b, m2, m3, m4, g1, g2, g3, d64, w5, mm, w3, pLst_ok, gl, hc, hb1, hb2, p18, mixI]
        · simp [B__law_take, mkB, b__law_take, hr, dv, md, nn, m1, m1b, m2, m3, m4, g1, g2, g3, d64, w5, mm, w3, pLst_ok, gl, hc, hb1, mixI]
theorem Pen.mono {n m : Nat} {d : D} (h : Pen n d) (hm : n ≤ m) : Pen m d := by
  obtain ⟨L, t, r, e, h1, h2⟩ := h
  exact ⟨L, t, r, e, h1, by omega⟩
theorem pick_ok {n : Nat} {d : D} {l : List D} (h : Pen n d) (hn : n ≤ 2 ^ 20) (h0 : 0 < l.length) (hl : l.length < 2 ^ 50) : ∃ (i : Nat) (x : D) (d' : D), l[i]? = some x ∧ B__law_of [d, .lst l] = .ok x [some d', none] ∧ Pen (n + 1) d' := by
  obtain ⟨x, d', e, x0, x1, p⟩ := draw_ok (m := (l.length : Nat)) h hn (by omega) (by simp; omega)
  obtain ⟨i, rfl⟩ : ∃ i : Nat, x = i := ⟨x.toNat, by omega⟩
  have hi : i < l.length := by omega
  refine ⟨i, l[i], d', List.getElem?_eq_getElem hi, ?_, p⟩
  simp [B__law_of, mkB, b__law_of, pLen_lst, e, hi]
theorem pen_go (x : Option D) : ∀ (ns : List Int) (y : Option D), ∃ y', lcGo [1] (gN 1) tY (eN pInt (aCons (eV 1) aNil)) (ns.map .int) [x, y] = some (ns.map .int, [x, y'])
  | [], y => ⟨y, rfl⟩
  | i :: ns, y => by
    obtain ⟨y', e⟩ := pen_go x ns (some (.int i))
    refine ⟨y', ?_⟩
    simp [lcGo, wipeE, pInt, e]
theorem pen_ok (ns : List Int) (hl : ns.length ≤ 63) : ∃ d, B__law_hat [.kl (ns.map .int)] = .ok d [none] ∧ Pen 0 d := by
  obtain ⟨L, eL, lL⟩ : ∃ L : List Int, Z.cutD (ns.map .int) none (some 60) = L.map .int ∧ L.length ≤ 63 := by
    refine ⟨_, by rw [Z.cutD, ← List.map_drop, ← List.map_take], ?_⟩
    simp
    omega
  obtain ⟨y', e⟩ := pen_go (some (.kl (ns.map .int))) L none
  refine ⟨.lst [.lst (L.map .int), .int 0, .int 0], ?_, L, 0, 0, rfl, by omega, by omega⟩
  have hb : L.length ≤ big := by unfold big; omega
  simp [B__law_hat, mkF, b__law_hat, pSl, eL, itemsOf, hb, e, lcOut, backE, show 3 ≤ big from by unfold big; omega]
theorem keepE1 (r0 : Option D) (l : List (Option D)) : keepE [] 1 (r0 :: l) = [none] := rfl
end Kw
namespace Kw
open PySem PySem.Spec PyProof.Rows L2 Z
theorem uniq_lt {α : Type} {lt : α → α → Prop} (irr : ∀ a, ¬ lt a a) (asy : ∀ a b, lt a b → ¬ lt b a) : ∀ {l m : List α}, l.Pairwise lt → m.Pairwise lt → (∀ x, x ∈ l ↔ x ∈ m) → l = m
  | [], [], _, _, _ => rfl
  | [], y :: _, _, _, h => by simpa using (h y).mpr (by simp)
  | x :: _, [], _, _, h => by simpa using (h x).mp (by simp)
  | x :: l, y :: m, h1, h2, h => by
    have a := List.pairwise_cons.mp h1
    have b := List.pairwise_cons.mp h2
    have e : x = y := Classical.byContradiction fun ne => by
      have p : x ∈ m := by
        rcases List.mem_cons.mp ((h x).mp (by simp)) with z | z
        · exact absurd z ne
        · exact z
      have q : y ∈ l := by
        rcases List.mem_cons.mp ((h y).mpr (by simp)) with z | z
        · exact absurd z.symm ne
        · exact z
      exact asy _ _ (a.1 y q) (b.1 x p)
    subst e
    rw [uniq_lt irr asy a.2 b.2 fun z => ⟨fun hz => by
      rcases List.mem_cons.mp ((h z).mp (List.mem_cons_of_mem _ hz)) with e | hm
      · subst e; exact absurd (a.1 _ hz) (irr _)
      · exact hm, fun hz => by
      rcases List.mem_cons.mp ((h z).mpr (List.mem_cons_of_mem _ hz)) with e | hm
      · subst e; exact absurd (b.1 _ hz) (irr _)
      · exact hm⟩]
def insQ (x : Rat) : List Rat → List Rat
  | [] => [x]
  | y :: l => if y < x then y :: insQ x l else if x = y then y :: l else x :: y :: l
def distQ : List Rat → List Rat
  | [] => []
  | x :: l => insQ x (distQ l)
theorem mem_insQ {x z : Rat} : ∀ {l : List Rat}, z ∈ insQ x l ↔ z = x ∨ z ∈ l
  | [] => by simp [insQ]
  | y :: l => by
    unfold insQ
    split
    · simp only [List.mem_cons, mem_insQ (l := l)]
      constructor
      · rintro (h | h | h) <;> simp [h]
      · rintro (h | h | h) <;> simp [h]
    · split
      · rename_i e
        subst e
        simp
      · simp
theorem mem_distQ {z : Rat} : ∀ {l : List Rat}, z ∈ distQ l ↔ z ∈ l
  | [] => by simp [distQ]
  | y :: l => by rw [distQ, mem_insQ, mem_distQ]; simp
theorem qtr {a b c : Rat} (h : a < b) (h' : b < c) : a < c := by grind
theorem insQ_pw {x : Rat} : ∀ {l : List Rat}, l.Pairwise (· < ·) → (insQ x l).Pairwise (· < ·)
  | [], _ => by simp [insQ]
  | y :: l, h => by
    have a := List.pairwise_cons.mp h
    unfold insQ
    split
    · rename_i hl
      refine List.pairwise_cons.mpr ⟨fun z hz => ?_, insQ_pw a.2⟩
      rcases mem_insQ.mp hz with e | hz
      · rw [e]; exact hl
      · exact a.1 z hz
    · split
      · exact h
      · rename_i h1 h2
        have hl : x < y := by grind
        refine List.pairwise_cons.mpr ⟨fun z hz => ?_, h⟩
        rcases List.mem_cons.mp hz with e | hz
        · rw [e]; exact hl
        · exact qtr hl (a.1 z hz)
theorem distQ_pw : ∀ (l : List Rat), (distQ l).Pairwise (· < ·)
  | [] => .nil
  | _ :: l => insQ_pw (distQ_pw l)
theorem rat_tri (a b : Rat) : a < b ∨ a = b ∨ b < a := by
  by_cases h : a < b
  · exact .inl h
  · by_cases e : a = b
    · exact .inr (.inl e)
    · exact .inr (.inr (by grind))
def lev (C : Nat) (q : Rat) : Int := q.num * ((C / q.den : Nat) : Int)
theorem lev_cast {C : Nat} {q : Rat} (h : q.den ∣ C) : ((lev C q : Int) : Rat) = q * (C : Nat) := by
  obtain ⟨e, rfl⟩ := h
  unfold lev
  rw [Nat.mul_div_cancel_left e q.den_pos]
  have h1 : q * (q.den : Nat) = (q.num : Int) := by
    have hp : (0 : Rat) < ((q.den : Int) : Rat) := Rat.intCast_pos.mpr (by have := q.den_pos; omega)
    have h : Rat.divInt q.num q.den * ((q.den : Int) : Rat) = (q.num : Rat) := by
      rw [Rat.divInt_eq_div]
      grind
    rwa [divInt_self] at h
  have : (((q.num * (e : Nat) : Int)) : Rat) = (q.num : Rat) * ((e : Nat) : Rat) := by
    rw [Rat.intCast_mul]; rfl
  rw [this, ← h1]
  have : (((q.den * e : Nat)) : Rat) = (q.den : Rat) * (e : Rat) := by
    rw [Rat.natCast_mul]
  rw [this]
  grind
theorem cpos {C : Nat} (h : 0 < C) : (0 : Rat) < (C : Nat) := by
  have : (0 : Rat) < ((C : Int) : Rat) := Rat.intCast_pos.mpr (by omega)
  exact this
theorem lev_lt {C : Nat} {p q : Rat} (hC : 0 < C) (hp : p.den ∣ C) (hq : q.den ∣ C) (h : p < q) : lev C p < lev C q := by
  have a := lev_cast hp
  have b := lev_cast hq
  have c := Rat.mul_lt_mul_of_pos_right h (cpos hC)
  rw [← a, ← b] at c
  exact Rat.intCast_lt_intCast.mp c
theorem lev_inj {C : Nat} {p q : Rat} (hC : 0 < C) (hp : p.den ∣ C) (hq : q.den ∣ C) : lev C p = lev C q ↔ p = q := by
  constructor
  · intro e
    rcases rat_tri p q with z | z | z
    · have := lev_lt hC hp hq z; omega
    · exact z
    · have := lev_lt hC hq hp z; omega
  · exact fun e => by rw [e]
theorem fdiv_nat' (a b : Nat) : (a : Int).fdiv (b : Int) = ((a / b : Nat) : Int) := by
  rw [fdiv_nat]; rfl
theorem intsOf_map : ∀ (zs : List Int), intsOf (zs.map .int) = some zs
  | [] => rfl
  | z :: zs => by simp [intsOf, intsOf_map zs]
theorem for_l {α : Type} {g : Tg} {b : M Fl} {f : α → D} (I : List α → Ev → Prop) (xs : List α) (step : ∀ pre x post, xs = pre ++ x :: post → ∀ r, I pre r → ∃ r1 r2, g (f x) r = some r1 ∧ b r1 = .ok .nx r2 ∧ I (pre ++ [x]) r2) (r : Ev) (h : I [] r) : ∃ r', I xs r' ∧ forGo g b (xs.map f) r = .ok .nx r' :=
  for_map f I xs step xs [] rfl r h
theorem look_inl {α : Type} {f : α → D} {g : α → Int} : ∀ {ks : List α} {z : α}, (∀ x ∈ ks, ∀ y ∈ ks, g x = g y → x = y) → z ∈ ks → lookD (ks.map fun x => .inl (g x)) (ks.map f) (.inl (g z)) = some (f z)
  | k :: ks, z, inj, m => by
    simp only [List.map_cons, lookD]
    by_cases h : g k = g z
    · rw [if_pos (by rw [h])]
      rw [inj k (by simp) z m h]
    · rw [if_neg (fun e => h (Sum.inl.inj e))]
      rcases List.mem_cons.mp m with e | m
      · exact absurd (by rw [e]) h
      · exact look_inl (fun x hx y hy => inj x (List.mem_cons_of_mem _ hx) y (List.mem_cons_of_mem _ hy)) m
def lcmQ (qs : List Rat) : Nat := qs.foldl (fun c q => Nat.lcm c q.den) 1
theorem lcmQ_snoc (qs : List Rat) (q : Rat) : lcmQ (qs ++ [q]) = Nat.lcm (lcmQ qs) q.den := by simp [lcmQ]
theorem lcmQ_fold {M : Nat} : ∀ (qs : List Rat) (c : Nat), c ∣ M → (∀ q ∈ qs, q.den ∣ M) → qs.foldl (fun c q => Nat.lcm c q.den) c ∣ M
  | [], _, h, _ => h
  | q :: qs, c, h, hw => lcmQ_fold qs _ (Nat.lcm_dvd h (hw q (by simp))) fun w' m => hw w' (List.mem_cons_of_mem _ m)
theorem lcmQ_dvd {M : Nat} {qs : List Rat} (h : ∀ q ∈ qs, q.den ∣ M) : lcmQ qs ∣ M := lcmQ_fold qs 1 (Nat.one_dvd M) h
theorem dvd_lcmQ_fold : ∀ (qs : List Rat) (c : Nat), c ∣ qs.foldl (fun c q => Nat.lcm c q.den) c ∧ ∀ q ∈ qs, q.den ∣ qs.foldl (fun c q => Nat.lcm c q.den) c
  | [], c => ⟨Nat.dvd_refl c, fun _ m => nomatch m⟩
  | q :: qs, c => by
    obtain ⟨h1, h2⟩ := dvd_lcmQ_fold qs (Nat.lcm c q.den)
    refine ⟨Nat.dvd_trans (Nat.dvd_lcm_left ..) h1, fun w' m => ?_⟩
    rcases List.mem_cons.mp m with e | m
    · subst e; exact Nat.dvd_trans (Nat.dvd_lcm_right ..) h1
    · exact h2 w' m
theorem dvd_lcmQ {qs : List Rat} {q : Rat} (m : q ∈ qs) : q.den ∣ lcmQ qs := (dvd_lcmQ_fold qs 1).2 q m
theorem lcmQ_pos {qs : List Rat} : 0 < lcmQ qs := by
  have : ∀ (qs : List Rat) (c : Nat), 0 < c → 0 < qs.foldl (fun c q => Nat.lcm c q.den) c := by
    intro qs
    induction qs with
    | nil => exact fun c h => h
    | cons w qs ih => exact fun c h => ih _ (Nat.lcm_pos h w.den_pos)
  exact this qs 1 (by omega)
def uqQ (qs : List Rat) : List Rat := qs.foldl (fun l q => if q ∈ l then l else l ++ [q]) []
theorem uqQ_snoc (qs : List Rat) (q : Rat) : uqQ (qs ++ [q]) = if q ∈ uqQ qs then uqQ qs else uqQ qs ++ [q] := by
  unfold uqQ
  rw [List.foldl_append]
  rfl
theorem uq_fold (z : Rat) : ∀ (qs l : List Rat), (z ∈ qs.foldl (fun l q => if q ∈ l then l else l ++ [q]) l ↔ z ∈ l ∨ z ∈ qs)
  | [], l => by simp
  | q :: qs, l => by
    rw [List.foldl_cons, uq_fold z qs]
    split
    · rename_i h
      constructor
      · rintro (m | m)
        · exact .inl m
        · exact .inr (List.mem_cons_of_mem _ m)
      · rintro (m | m)
        · exact .inl m
        · rcases List.mem_cons.mp m with e | m
          · exact .inl (by rw [e]; exact h)
          · exact .inr m
    · simp [or_assoc]
theorem mem_uqQ {z : Rat} {qs : List Rat} : z ∈ uqQ qs ↔ z ∈ qs := by
  unfold uqQ
  rw [uq_fold]
  simp
theorem uqQ_nodup (qs : List Rat) : (uqQ qs).Nodup := by
  have : ∀ (qs l : List Rat), l.Nodup → (qs.foldl (fun l q => if q ∈ l then l else l ++ [q]) l).Nodup := by
    intro qs
    induction qs with
    | nil => exact fun l h => h
    | cons q qs ih =>
      intro l h
      refine ih _ ?_
      show (if q ∈ l then l else l ++ [q]).Nodup
      split
      · exact h
      · rename_i n
        exact List.nodup_append.mpr ⟨h, by simp, fun x mx y my e => n (by simp at my; rw [← my, ← e]; exact mx)⟩
  exact this qs [] .nil
theorem uqQ_len (qs : List Rat) : (uqQ qs).length ≤ qs.length := by
  have : ∀ (qs l : List Rat), (qs.foldl (fun l q => if q ∈ l then l else l ++ [q]) l).length ≤ l.length + qs.length := by
    intro qs
    induction qs with
    | nil => intro l; simp
    | cons q qs ih =>
      intro l
      refine Nat.le_trans (ih _) ?_
      show (if q ∈ l then l else l ++ [q]).length + qs.length ≤ _
      split <;> simp <;> omega
  simpa [uqQ] using this qs []
def uaE (L : D) (c : Int) (z : Option D) : Ev := [some L, some (.int c), z, none, none]
def ua1 : M Fl := (sAs 1 (eK (.int 1)))
def ua2 : M Fl := (sFor (itL (eV 0)) (gN 2) (sAs 1 (eB (oP pDiv) (eB (oP pMul) (eV 1) (eFl [(0, 1)] (eV 2))) (eN pGcd (aCons (eV 1) (aCons (eFl [(0, 1)] (eV 2)) aNil))))))
def ua3 : M Fl := (sAs 3 (eLk (eDc [2] (itL (eV 0)) (gN 2) tY (eB (oP pMul) (eFl [(0, 0)] (eV 2)) (eB (oP pDiv) (eV 1) (eFl [(0, 1)] (eV 2)))) (eV 2))))
def ua4 : M Fl := (sRet (eTupF (eLc [4] (itL (eN pSortedI (aCons (eN pDlist (aCons (eV 3) aNil)) aNil))) (gN 4) tY (eB (oP pDix) (eV 3) (eV 4)))))
theorem uas : b_unlike_ascending = (sSeq ua1 (sSeq ua2 (sSeq ua3 ua4))) := rfl
def uaK (qs : List Rat) (C : Nat) : List Key := (uqQ qs).map fun q => .inl (lev C q)
theorem ua_put {C : Nat} {pre : List Rat} {q : Rat} (hC : 0 < C) (h : ∀ x ∈ pre ++ [q], x.den ∣ C) : putR (uaK pre C) ((uqQ pre).map rt) (.inl (lev C q)) (rt q) = (uaK (pre ++ [q]) C, (uqQ (pre ++ [q])).map rt) := by
  have hq := h q (by simp)
  have hd : ∀ x ∈ uqQ pre, x.den ∣ C := fun x m => h x (List.mem_append_left _ (mem_uqQ.mp m))
  unfold uaK
  rw [uqQ_snoc]
  by_cases m : q ∈ uqQ pre
  · rw [if_pos m]
    unfold putR
    rw [if_pos (List.any_eq_true.mpr ⟨.inl (lev C q), List.mem_map.mpr ⟨q, m, rfl⟩, by simp⟩)]
    refine Prod.ext rfl ?_
    show (((uqQ pre).map fun q => (Sum.inl (lev C q) : Key)).zip ((uqQ pre).map rt)).map _ = _
    rw [List.zip_map', List.map_map]
    refine List.map_congr_left fun x mx => ?_
    simp only [Function.comp]
    by_cases e : (Sum.inl (lev C x) : Key) = .inl (lev C q)
    · rw [if_pos e]
      have := (lev_inj hC (hd x mx) hq).mp (Sum.inl.inj e)
      rw [this]
    · rw [if_neg e]
  · rw [if_neg m]
    rw [putR_new (fun z => by
      obtain ⟨x, mx, e⟩ := List.mem_map.mp z
      have := (lev_inj hC (hd x mx) hq).mp (Sum.inl.inj e)
      exact m (this ▸ mx))]
    simp
theorem ua_sort {C : Nat} {qs : List Rat} (hC : 0 < C) (h : ∀ q ∈ qs, q.den ∣ C) : sortI ((uqQ qs).map (lev C)) = (distQ qs).map (lev C) := by
  have d1 : ∀ z ∈ uqQ qs, z.den ∣ C := fun z m => h z (mem_uqQ.mp m)
  have d2 : ∀ z ∈ distQ qs, z.den ∣ C := fun z m => h z (mem_distQ.mp m)
  refine uniq_lt (lt := (· < ·)) (fun a => by omega) (fun a b => by omega) ?_ ?_ fun x => ?_
  · have p1 := sortI_pw ((uqQ qs).map (lev C))
    have p2 : (sortI ((uqQ qs).map (lev C))).Nodup := (sortI_perm _).nodup_iff.mpr (List.pairwise_map.mpr (List.Pairwise.imp_of_mem (fun {a b} ma mb n e => n ((lev_inj hC (d1 a ma) (d1 b mb)).mp e)) (uqQ_nodup qs)))
    exact (p1.and p2).imp fun {a b} ⟨h1, h2⟩ => by omega
  · refine List.pairwise_map.mpr ?_
    exact List.Pairwise.imp_of_mem (fun {a b} ma mb h' => lev_lt hC (d2 a ma) (d2 b mb) h') (distQ_pw _)
  · rw [(sortI_perm _).mem_iff]
    simp only [List.mem_map, mem_distQ, mem_uqQ]
theorem ua2_ok {qs : List Rat} {M : Nat} {L : D} (hL : L = .lst (qs.map rt)) (hM : M < 2 ^ 60) (hM0 : 0 < M) (hd : ∀ q ∈ qs, q.den ∣ M) : ∃ z, ua2 (uaE L (1 : Int) none) = .ok .nx (uaE L (lcmQ qs : Nat) z) := by
  obtain ⟨r', ⟨z, er⟩, e⟩ := for_l (g := gN 2) (b := sAs 1 (eB (oP pDiv) (eB (oP pMul) (eV 1) (eFl [(0, 1)] (eV 2))) (eN pGcd (aCons (eV 1) (aCons (eFl [(0, 1)] (eV 2)) aNil))))) (f := rt) (fun pre r => ∃ z, r = uaE L (lcmQ pre : Nat) z) qs (fun pre q post ep r ⟨z, er⟩ => by
    subst er
    refine ⟨uaE L (lcmQ pre : Nat) (some (rt q)), uaE L (lcmQ (pre ++ [q]) : Nat) (some (rt q)), rfl, ?_, _, rfl⟩
    have m : q ∈ qs := by rw [ep]; simp
    have c1 : lcmQ pre ∣ M := lcmQ_dvd fun x mx => hd x (by rw [ep]; exact List.mem_append_left _ mx)
    have c2 : lcmQ pre ≤ M := Nat.le_of_dvd hM0 c1
    have c3 : q.den ≤ M := Nat.le_of_dvd hM0 (hd q m)
    have dp := q.den_pos
    have cp := lcmQ_pos (qs := pre)
    have hg : 0 < Nat.gcd (lcmQ pre) q.den := Nat.gcd_pos_of_pos_left _ cp
    have hg2 : Nat.gcd (lcmQ pre) q.den ≤ M := Nat.le_trans (Nat.gcd_le_left _ cp) c2
    have m1 := pMul_int (mulB_right (i := (lcmQ pre : Nat)) (j := (q.den : Nat)) (by simp; omega))
    have d1 := pDiv_int (i := (lcmQ pre : Int) * (q.den : Nat)) (j := (Nat.gcd (lcmQ pre) q.den : Nat)) (wd_of (k := 60) (by simp; omega) (by omega) (by omega)) (by omega)
    have e1 : ((lcmQ pre : Int) * (q.den : Nat)).fdiv (Nat.gcd (lcmQ pre) q.den : Nat) = (lcmQ (pre ++ [q]) : Nat) := by
      rw [← Int.natCast_mul, fdiv_nat', lcmQ_snoc]
      rfl
    rw [e1] at d1
    generalize hX : lcmQ (pre ++ [q]) = Y at *
    have g1 : pGcd [.int (lcmQ pre : Nat), .int (q.den : Nat)] = some (.int (Nat.gcd (lcmQ pre) q.den : Nat)) := by simp [pGcd]
    obtain ⟨g, hgg⟩ : ∃ g : Nat, g = Nat.gcd (lcmQ pre) q.den := ⟨_, rfl⟩
    rw [← hgg] at d1 g1
    generalize lcmQ pre = c at *
    simp [uaE, m1, d1, g1]) (uaE L (1 : Int) none) ⟨none, rfl⟩
  subst er
  refine ⟨z, ?_⟩
  rw [ua2]
  have hi : itL (eV 0) (uaE L (1 : Int) none) = .ok (qs.map rt) (uaE L (1 : Int) none) := by
    rw [hL]
    simp [uaE, itemsOf]
  simp only [sFor, hi, Out.bind]
  exact e
theorem ua_dc {C : Nat} {qs : List Rat} {L : D} (hC : 0 < C) (hC2 : C < 2 ^ 60) (h : ∀ x ∈ qs, x.den ∣ C) : ∀ (post pre : List Rat) (z : Option D), qs = pre ++ post →
    ∃ z', dcGo [2] (gN 2) tY (eB (oP pMul) (eFl [(0, 0)] (eV 2)) (eB (oP pDiv) (eV 1) (eFl [(0, 1)] (eV 2)))) (eV 2) (post.map rt) (uaK pre C, (uqQ pre).map rt) (uaE L (C : Nat) z) = some ((uaK qs C, (uqQ qs).map rt), uaE L (C : Nat) z')
  | [], pre, z, e => by
    rw [List.append_nil] at e
    subst e
    exact ⟨z, rfl⟩
  | q :: post, pre, z, e => by
    obtain ⟨z', ih⟩ := ua_dc hC hC2 h post (pre ++ [q]) (some (rt q)) (by rw [e]; simp)
    refine ⟨z', ?_⟩
    rw [← ih]
    have put := ua_put (pre := pre) (q := q) hC fun x m => h x (by
      rw [e]
      rcases List.mem_append.mp m with m | m
      · exact List.mem_append_left _ m
      · simp at m
        subst m
        simp)
    have dv := h q (by rw [e]; simp)
    have c3 : q.den ≤ C := Nat.le_of_dvd hC dv
    have dp := q.den_pos
    have d1 := pDiv_int (i := (C : Nat)) (j := (q.den : Nat)) (wd_of (k := 60) (by simp; omega) (by omega) (by omega)) (by omega)
    rw [fdiv_nat'] at d1
    have m1 := pMul_int (mulB_right (i := q.num) (j := ((C / q.den : Nat) : Int)) (by
      have := Nat.div_le_self C q.den
      simp only [Int.natAbs_natCast]
      omega))
    have kf : eB (oP pMul) (eFl [(0, 0)] (eV 2)) (eB (oP pDiv) (eV 1) (eFl [(0, 1)] (eV 2))) (uaE L (C : Nat) (some (rt q))) = .ok (.int (lev C q)) (uaE L (C : Nat) (some (rt q))) := by
      unfold lev
      obtain ⟨Y, hY⟩ : ∃ Y : Nat, Y = C / q.den := ⟨_, rfl⟩
      rw [← hY] at d1 m1 ⊢
      simp [uaE, d1, m1]
    have w : wipeE [2] (uaE L (C : Nat) z) = uaE L (C : Nat) none := rfl
    have g1 : gN 2 (rt q) (uaE L (C : Nat) none) = some (uaE L (C : Nat) (some (rt q))) := rfl
    have v1 : eV 2 (uaE L (C : Nat) (some (rt q))) = .ok (rt q) (uaE L (C : Nat) (some (rt q))) := rfl
    have k1 : Z.keyOf (.int (lev C q)) = some (.inl (lev C q)) := rfl
    rw [List.map_cons, dcGo, w, g1]
    simp only [tY, kf, v1, k1, put]
theorem unlike_asc {qs : List Rat} {M : Nat} (hM : M < 2 ^ 60) (hM0 : 0 < M) (hd : ∀ q ∈ qs, q.den ∣ M) (hl : qs.length ≤ 60) : B_unlike_ascending [.lst (qs.map rt)] = .ok (.ftp ((distQ qs).map rt)) [none] := by
  obtain ⟨L, hL⟩ : ∃ L, L = D.lst (qs.map rt) := ⟨_, rfl⟩
  obtain ⟨z, e2⟩ := ua2_ok hL hM hM0 hd
  have hC := lcmQ_pos (qs := qs)
  have hC2 : lcmQ qs < 2 ^ 60 := Nat.lt_of_le_of_lt (Nat.le_of_dvd hM0 (lcmQ_dvd hd)) hM
  have hq : ∀ q ∈ qs, q.den ∣ lcmQ qs := fun q m => dvd_lcmQ m
  generalize lcmQ qs = C at *
  obtain ⟨z', ed⟩ := ua_dc (L := L) hC hC2 hq qs [] z rfl
  have bl : qs.length ≤ big := Nat.le_trans hl (big_of (by omega))
  obtain ⟨KS, hKS⟩ : ∃ KS, KS = uaK qs C := ⟨_, rfl⟩
  obtain ⟨VS, hVS⟩ : ∃ VS, VS = (uqQ qs).map rt := ⟨_, rfl⟩
  have e3 : ua3 (uaE L (C : Nat) z) = .ok .nx [some L, some (.int (C : Nat)), z, some (.dkl KS VS), none] := by
    have hi : itL (eV 0) (uaE L (C : Nat) z) = .ok (qs.map rt) (uaE L (C : Nat) z) := by
      rw [hL]
      simp [uaE, itemsOf]
    have : eDc [2] (itL (eV 0)) (gN 2) tY (eB (oP pMul) (eFl [(0, 0)] (eV 2)) (eB (oP pDiv) (eV 1) (eFl [(0, 1)] (eV 2)))) (eV 2) (uaE L (C : Nat) z) = .ok (.dic KS VS) (uaE L (C : Nat) z) := by
      simp only [eDc, hi, Out.bind]
      rw [if_pos (by simpa using bl)]
      have ed : dcGo [2] (gN 2) tY (eB (oP pMul) (eFl [(0, 0)] (eV 2)) (eB (oP pDiv) (eV 1) (eFl [(0, 1)] (eV 2)))) (eV 2) (qs.map rt) ([], []) (uaE L (C : Nat) z) = some ((uaK qs C, (uqQ qs).map rt), uaE L (C : Nat) z') := ed
      rw [ed, ← hKS, ← hVS]
      rfl
    rw [ua3]
    simp only [sAs, eLk, this, Out.bind, lkOf, liftO]
    rfl
  have e4 : ∃ r, ua4 [some L, some (.int (C : Nat)), z, some (.dkl KS VS), none] = .ok (.rt (.ftp ((distQ qs).map rt))) r := by
    have p1 : pDlist [.dkl KS VS] = some (.lst (((uqQ qs).map (lev C)).map .int)) := by
      rw [hKS]
      simp [pDlist, dicOf, uaK, keyD]
    have p2 : pSortedI [.lst (((uqQ qs).map (lev C)).map .int)] = some (.lst (((distQ qs).map (lev C)).map .int)) := by
      have := uqQ_len qs
      simp only [pSortedI, lsOf, Option.bind_some, intsOf_map, List.length_map]
      rw [if_pos (by omega), ua_sort hC hq]
    have dl : (distQ qs).length ≤ 60 := by
      have h1 : (distQ qs).length = (uqQ qs).length := by
        have := congrArg List.length (ua_sort hC hq)
        rw [(sortI_perm _).length_eq, List.length_map, List.length_map] at this
        exact this.symm
      have := uqQ_len qs
      omega
    have lk : ∀ x ∈ distQ qs, pDix (.dkl KS VS) (.int (lev C x)) = some (rt x) := fun x m => by
      have mx : x ∈ uqQ qs := mem_uqQ.mpr (mem_distQ.mp m)
      rw [hKS, hVS]
      have := look_inl (f := rt) (g := lev C) (ks := uqQ qs) (z := x) (fun a ma b mb e => (lev_inj hC (hq a (mem_uqQ.mp ma)) (hq b (mem_uqQ.mp mb))).mp e) mx
      simp only [pDix, dicOf, Option.bind_some, Z.keyOf]
      exact this
    have go := lc_pure (vs := [4]) (g := gN 4) (t := tY) (f := eB (oP pDix) (eV 3) (eV 4)) (r := [some L, some (.int (C : Nat)), z, some (.dkl KS VS), none]) (ds := ((distQ qs).map (lev C)).map .int) (outs := (distQ qs).map rt) (by
      rw [List.map_map]
      exact All2.of_map _ _ (distQ qs) fun x m => ⟨[some L, some (.int (C : Nat)), z, some (.dkl KS VS), some (.int (lev C x))], [some L, some (.int (C : Nat)), z, some (.dkl KS VS), some (.int (lev C x))], rfl, rfl, by simp [lk x m], rfl⟩)
    refine ⟨[some L, some (.int (C : Nat)), z, some (.dkl KS VS), none], ?_⟩
    have bl2 : (((distQ qs).map (lev C)).map D.int).length ≤ big := by
      simp only [List.length_map]
      exact Nat.le_trans dl (big_of (by omega))
    generalize hLS : ((distQ qs).map (lev C)).map D.int = LS at *
    generalize hOS : (distQ qs).map rt = OS at *
    generalize ((uqQ qs).map (lev C)).map D.int = US at *
    simp [ua4, p1, p2, eTupF, bl2, go, itemsOf]
  obtain ⟨r4, e4⟩ := e4
  rw [hL] at e2 e3 e4
  exact mkB_run (n := 1) (m := 5) (io := []) (b := b_unlike_ascending) (ds := [.lst (qs.map rt)]) (r0 := [some (.lst (qs.map rt)), none, none, none, none]) rfl rfl (by
    have e1 : ua1 [some (.lst (qs.map rt)), none, none, none, none] = .ok .nx (uaE (.lst (qs.map rt)) (1 : Int) none) := rfl
    rw [uas, sSeq_nx e1, sSeq_nx e2, sSeq_nx e3]
    exact e4)
end Kw
namespace Kw
open PySem PySem.Spec PyProof.Rows L2 Z
theorem app_eq {i : Nat} {f : M D} {r r1 : Ev} {d x : D} {l : List D} (hx : r[i]? = some (some (.lst l))) (hf : f r = .ok d r1) (hi : r1[i]? = some (some (.lst l))) (hl : l.length < sizeLine) : sApp i f r = .ok .nx (r1.set i (some (.lst (l ++ [d])))) := by
  simp only [sApp, hx, hf, Out.bind, hi]
  simp [hl]
theorem dix_eq {i : Nat} {f g : M D} {r r1 r2 : Ev} {d y : D} {ks ks' : List Key} {l l' : List D} (hf : f r = .ok d r1) (hg : g r1 = .ok y r2) (hi : r2[i]? = some (some (.dic ks l))) (hs : dixSet ks l y d = some (ks', l')) : sDix i f g r = .ok .nx (r2.set i (some (.dic ks' l'))) := by
  simp only [sDix, hf, hg, Out.bind, hi, hs]
theorem lc_is {vs : List Nat} {it : M (List D)} {g : Tg} {t : M Bool} {f : M D} {r r1 r' : Ev} {ds outs : List D} (hi : it r = .ok ds r1) (hb : ds.length ≤ 1000) (hg : lcGo vs g t f ds r1 = some (outs, r')) : eLc vs it g t f r = .ok (.lst outs) (backE r1 vs r') := by
  simp only [eLc, hi, Out.bind]
  rw [if_pos (big_of hb), hg]
  rfl
theorem as_is {i : Nat} {f : M D} {r r1 : Ev} {d : D} (h : f r = .ok d r1) : sAs i f r = .ok .nx (r1.set i (some d)) := by
  simp only [sAs, h, Out.bind]
theorem acons_is {f : M D} {g : M (List D)} {r r1 r2 : Ev} {x : D} {xs : List D} (hf : f r = .ok x r1) (hg : g r1 = .ok xs r2) : aCons f g r = .ok (x :: xs) r2 := by
  simp only [aCons, hf, Out.bind, hg]
theorem en_is {p : List D → Option D} {f : M (List D)} {r r1 : Ev} {ds : List D} {d : D} (hf : f r = .ok ds r1) (hp : p ds = some d) : eN p f r = .ok d r1 := by
  simp only [eN, hf, Out.bind, hp, liftO]
theorem fuel_big : 1000 < fuel := by unfold fuel; omega
theorem wh_end {t : M Bool} {b : M Fl} {r r' : Ev} {N : Nat} (h : ∀ n, N < n → whGo t b n r = .ok .nx r') (hN : N ≤ 1000) : sWh t b r = .ok .nx r' := h fuel (Nat.lt_of_le_of_lt hN fuel_big)
theorem wh_stop {t : M Bool} {b : M Fl} {r r1 : Ev} (h : t r = .ok false r1) : ∀ n, 0 < n → whGo t b n r = .ok .nx r1
  | n + 1, _ => by simp [whGo, h]
theorem wh_lap {t : M Bool} {b : M Fl} {r r1 r2 r' : Ev} {N : Nat} (h : t r = .ok true r1) (h2 : b r1 = .ok .nx r2) (h3 : ∀ n, N < n → whGo t b n r2 = .ok .nx r') : ∀ n, N + 1 < n → whGo t b n r = .ok .nx r'
  | n + 1, hn => by simp [whGo, h, h2, h3 n (by omega)]
theorem sl_drop (l : List D) (i : Nat) : pSl (.lst l) (some (i : Int)) none = some (.lst (l.drop i)) := by
  have e1 : HT.sIx l.length 0 (some (i : Int)) = min i l.length := HT.sIx_nat l.length 0 i
  show some (D.lst ((l.drop (HT.sIx l.length 0 (some (i : Int)))).take (l.length - HT.sIx l.length 0 (some (i : Int))))) = _
  rw [e1, List.take_of_length_le (by simp)]
  rcases Nat.le_total i l.length with h | h
  · rw [Nat.min_eq_left h]
  · rw [Nat.min_eq_right h, List.drop_eq_nil_of_le h, List.drop_eq_nil_of_le (Nat.le_refl _)]
theorem sl_take (l : List D) (i : Nat) : pSl (.lst l) none (some (i : Int)) = some (.lst (l.take i)) := by
  have e1 : HT.sIx l.length l.length (some (i : Int)) = min i l.length := HT.sIx_nat l.length l.length i
  show some (D.lst ((l.drop 0).take (HT.sIx l.length l.length (some (i : Int)) - 0))) = _
  rw [e1, List.drop_zero, Nat.sub_zero]
  rcases Nat.le_total i l.length with h | h
  · rw [Nat.min_eq_left h]
  · rw [Nat.min_eq_right h, List.take_of_length_le (Nat.le_refl _), List.take_of_length_le h]
theorem rot_nodup {α : Type} {l : List α} (h : l.Nodup) (b m : Nat) : ((l.drop b ++ l.take b).take m).Nodup := by
  have p : (l.drop b ++ l.take b).Perm l := by
    have := List.perm_append_comm (l₁ := l.drop b) (l₂ := l.take b)
    rwa [List.take_append_drop] at this
  exact (p.nodup_iff.mpr h).sublist (List.take_sublist _ _)
theorem rot_mem {α : Type} {l : List α} {b m : Nat} {x : α} (h : x ∈ (l.drop b ++ l.take b).take m) : x ∈ l := by
  rcases List.mem_append.mp (List.mem_of_mem_take h) with z | z
  · exact List.mem_of_mem_drop z
  · exact List.mem_of_mem_take z
theorem rot_len {α : Type} {l : List α} {b m : Nat} (hm : m ≤ l.length) : ((l.drop b ++ l.take b).take m).length = m := by
  simp
  omega
structure NmOk (x : Str) : Prop where
  n : NameOk x
  s : PyData.strOk x = true
instance (x : Str) : Decidable (PyData.strOk x = true) := inferInstance
theorem for_is {it : M (List D)} {g : Tg} {b : M Fl} {r r1 r' : Ev} {ds : List D} (hi : it r = .ok ds r1) (h : forGo g b ds r1 = .ok .nx r') : sFor it g b r = .ok .nx r' := by
  simp only [sFor, hi, Out.bind]
  exact h
theorem rt_is {f : M D} {r r1 : Ev} {d : D} (h : f r = .ok d r1) : sRet f r = .ok (.rt d) r1 := by simp [h]
mutual
theorem toP_self : ∀ {x : D} {p : PyData}, toP x = some p → PyData.eqv p p = true
  | .non, _, e => by cases e; rfl
  | .bl b, _, e => by cases e; simp [PyData.eqv]
  | .int i, _, e => by cases e; simp [PyData.eqv]
  | .str s, _, e => by cases e; simp [PyData.eqv]
  | .tup l, _, e => by
    rw [toP] at e
    obtain ⟨ps, h, rfl⟩ := Option.map_eq_some_iff.mp e
    rw [PyData.eqv]
    exact toPs_self h
  | .lst l, _, e => by
    rw [toP] at e
    obtain ⟨ps, h, rfl⟩ := Option.map_eq_some_iff.mp e
    rw [PyData.eqv]
    exact toPs_self h
  | .kl l, _, e => by
    rw [toP] at e
    obtain ⟨ps, h, rfl⟩ := Option.map_eq_some_iff.mp e
    rw [PyData.eqv]
    exact toPs_self h
  | .dic _ _, _, e => by cases e
  | .dkl _ _, _, e => by cases e
  | .ftp _, _, e => by cases e
  | .ob _ _, _, e => by cases e
  | .xo _ _, _, e => by cases e
theorem toPs_self : ∀ {l : List D} {ps : List PyData}, toPs l = some ps → PyData.eqvAll ps ps = true
  | [], _, e => by cases e; rfl
  | d :: l, _, e => by
    rw [toPs] at e
    obtain ⟨p, h1, e⟩ := Option.bind_eq_some_iff.mp e
    obtain ⟨ps, h2, rfl⟩ := Option.map_eq_some_iff.mp e
    rw [PyData.eqvAll, toP_self h1, toPs_self h2]
    rfl
end
structure DaP (n : Nat) (x : D) (p : PyData) : Prop where
  e : toP x = some p
  c : p.canLay0 = true
  d : p.depth ≤ n
def Da (n : Nat) (x : D) : Prop := ∃ p, DaP n x p
theorem Da.non : Da 0 .non := ⟨_, rfl, rfl, by simp [PyData.depth]⟩
theorem Da.bl (b : Bool) : Da 0 (.bl b) := ⟨_, rfl, rfl, by simp [PyData.depth]⟩
theorem Da.int (i : Int) : Da 0 (.int i) := ⟨_, rfl, rfl, by simp [PyData.depth]⟩
theorem Da.str {s : Str} (h : PyData.strOk s = true) : Da 0 (.str s) := ⟨_, rfl, h, by simp [PyData.depth]⟩
theorem Da.mono {n m : Nat} {x : D} (h : Da n x) (hm : n ≤ m) : Da m x := let ⟨p, a, b, c⟩ := h; ⟨p, a, b, Nat.le_trans c hm⟩
theorem das {n : Nat} : ∀ {l : List D}, (∀ x ∈ l, Da n x) → ∃ ps, toPs l = some ps ∧ PyData.canLayAll0 ps = true ∧ PyData.depthAll ps ≤ n
  | [], _ => ⟨[], rfl, rfl, by simp [PyData.depthAll]⟩
  | x :: l, h => by
    obtain ⟨p, a, b, c⟩ := h x (by simp)
    obtain ⟨ps, a2, b2, c2⟩ := das (l := l) fun y m => h y (List.mem_cons_of_mem _ m)
    refine ⟨p :: ps, by simp [toPs, a, a2], by simp [PyData.canLayAll0, b, b2], ?_⟩
    simp [PyData.depthAll]
    omega
theorem Da.tup {n : Nat} {l : List D} (h : ∀ x ∈ l, Da n x) : Da (n + 1) (.tup l) := by
  obtain ⟨ps, a, b, c⟩ := das h
  exact ⟨.tuple ps, by simp [toP, a], by simp [PyData.canLay0, b], by simp [PyData.depth]; omega⟩
theorem Da.lst {n : Nat} {l : List D} (h : ∀ x ∈ l, Da n x) : Da (n + 1) (.lst l) := by
  obtain ⟨ps, a, b, c⟩ := das h
  exact ⟨.list ps, by simp [toP, a], by simp [PyData.canLay0, b], by simp [PyData.depth]; omega⟩
theorem Da.self {n : Nat} {x : D} (h : Da n x) (hn : n ≤ 60) : pEq x x = some (.bl true) ∧ pNe x x = some (.bl false) := by
  obtain ⟨p, a, b, c⟩ := h
  have s : SeqAt.shaped p = true := by
    simp [SeqAt.shaped, b]
    omega
  have e := toP_self a
  constructor
  · simp [pEq, pEqB, a, s, e]
  · simp [pNe, pEqB, a, s, e]
theorem Da.two {n : Nat} {a b : D} (ha : Da n a) (hb : Da n b) : Da (n + 1) (.tup [a, b]) := Da.tup fun x m => by
  simp at m
  rcases m with rfl | rfl
  · exact ha
  · exact hb
end Kw
namespace Kw
open PySem PySem.Spec PyProof.Rows L2 Z
def pn1 : M Fl := (sAs 2 (eCo B__law_of 0 (aCons (eN pLst (aCons (eN pLst (aCons (eK (.str "a")) (aCons (eK (.str "b")) (aCons (eK (.str "c")) (aCons (eK (.str "d")) (aCons (eK (.str "e")) (aCons (eK (.str "f")) aNil))))))) (aCons (eN pLst (aCons (eK (.str "x9")) (aCons (eK (.str "x10")) (aCons (eK (.str "m")) (aCons (eK (.str "zz")) (aCons (eK (.str "b")) (aCons (eK (.str "q1")) aNil))))))) (aCons (eN pLst (aCons (eK (.str "red")) (aCons (eK (.str "dot")) (aCons (eK (.str "ox")) (aCons (eK (.str "io")) (aCons (eK (.str "at")) (aCons (eK (.str "up")) aNil))))))) aNil)))) aNil)))
def pn2 : M Fl := (sPar [gN 3, gN 4, gN 5] (aCons (eCo B__law_take 0 (aCons (eK (.int 6)) aNil)) (aCons (eCo B__law_of 0 (aCons (eN pLst (aCons (eK (.int 2)) (aCons (eK (.int 3)) (aCons (eK (.int 4)) (aCons (eK (.int 7)) (aCons (eK (.int 12)) aNil)))))) aNil)) (aCons (eB (oP pSub) (eCo B__law_take 0 (aCons (eK (.int 9)) aNil)) (eK (.int 6))) aNil))))
def pn3 : M Fl := (sPar3L 4 6 7 (eN pMax2 (aCons (eV 4) (aCons (eIf (tV (eB (oP pGt) (eV 1) (eK (.int 4)))) (eK (.int 3)) (eK (.int 2))) aNil))))
def pn4 : M Fl := (sFor (itL (eSl (eB (oP pAdd) (eSl (eV 2) (iSo (eV 3)) iNo) (eSl (eV 2) iNo (iSo (eV 3)))) iNo (iSo (eV 1)))) (gN 8) (sSeq (sAs 9 (eCo B__law_take 0 (aCons (eB (oP pMul) (eV 4) (eV 4)) aNil))) (sSeq (sWh (tV (eInO 6 (eV 9))) (sAs 9 (eB (oP pMod) (eN pInt (aCons (eB (oP pAdd) (eV 9) (eK (.int 1))) aNil)) (eB (oP pMul) (eV 4) (eV 4))))) (sSeq (sApp 6 (eV 9)) (sDix 7 (eN pTup (aCons (eB (oP pAdd) (eB (oP pDiv) (eV 9) (eV 4)) (eV 5)) (aCons (eB (oP pSub) (eB (oP pMod) (eN pInt (aCons (eV 9) aNil)) (eV 4)) (eV 5)) aNil))) (eV 8))))))
def pn5 : M Fl := (sRet (eVD 7))
theorem pns : b__law_plain = (sSeq pn1 (sSeq pn2 (sSeq pn3 (sSeq pn4 pn5)))) := rfl
abbrev Pn := Str × Int × Int
def prD (p : Pn) : D := .tup [.int p.2.1, .int p.2.2]
def plD (ps : List Pn) : D := .dkl (ky ps) (ps.map prD)
theorem in_ints (s : Int) (ts : List Int) : inDeep (.int s) (.lst (ts.map .int)) = some (decide (s ∈ ts)) := by
  unfold inDeep
  have s1 : SeqAt.shaped (.int s) = true := by simp [SeqAt.shaped, PyData.canLay0, PyData.depth]
  have s2 : SeqAt.shaped (.list (ts.map .int)) = true := by simp [SeqAt.shaped, PyData.canLay0, canLay_ints, PyData.depth, depth_ints]
  have tp : toPs (ts.map D.int) = some (ts.map .int) := toPs_ints ts
  simp only [toP, lisOf, tp, Option.bind_some, s1, s2, and_self, if_true]
  congr 1
  rw [List.any_map]
  have : ((fun z => PyData.eqv z (PyData.int s)) ∘ PyData.int) = fun y : Int => decide (y = s) := by
    funext y
    simp [PyData.eqv, Bool.beq_eq_decide_eq]
  rw [this, List.any_eq]
  simp
theorem len_sub {α : Type} [DecidableEq α] : ∀ {l m : List α}, l.Nodup → (∀ x ∈ l, x ∈ m) → l.length ≤ m.length
  | [], _, _, _ => Nat.zero_le _
  | x :: l, m, h, s => by
    obtain ⟨h1, h2⟩ := List.nodup_cons.mp h
    have mx := s x (by simp)
    have := len_sub (l := l) (m := m.erase x) h2 fun y my => (List.mem_erase_of_ne (fun e => h1 (by rw [← e]; exact my))).mpr (s y (List.mem_cons_of_mem _ my))
    rw [List.length_erase_of_mem mx] at this
    have : 0 < m.length := List.length_pos_of_mem mx
    simp
    omega
theorem free_spot {m : Nat} {s : Int} {ts : List Int} (hm : ts.length < m) (h0 : 0 ≤ s) (h1 : s < m) : ∃ j, j ≤ ts.length ∧ (s + (j : Nat)) % (m : Nat) ∉ ts := by
  refine Classical.byContradiction fun n => ?_
  have all : ∀ j, j ≤ ts.length → (s + (j : Nat)) % (m : Nat) ∈ ts := fun j hj => Classical.byContradiction fun z => n ⟨j, hj, z⟩
  have nd : ((List.range (ts.length + 1)).map fun j => (s + (j : Nat)) % (m : Nat)).Nodup := by
    refine List.pairwise_map.mpr (List.Pairwise.imp_of_mem (fun {a b} ma mb hne e => ?_) (List.nodup_range (n := ts.length + 1)))
    have ha := List.mem_range.mp ma
    have hb := List.mem_range.mp mb
    have d : ((m : Nat) : Int) ∣ (s + (a : Nat)) - (s + (b : Nat)) := Int.dvd_of_emod_eq_zero (by
      rw [Int.sub_emod, e]
      simp)
    have d : ((m : Nat) : Int) ∣ (a : Int) - (b : Nat) := by
      have : (s + (a : Nat)) - (s + (b : Nat)) = (a : Int) - (b : Nat) := by omega
      rwa [this] at d
    obtain ⟨k, hk⟩ := d
    have : k = 0 := by
      rcases Int.lt_trichotomy k 0 with hl | hl | hl
      · have : (m : Int) * k ≤ (m : Int) * (-1) := Int.mul_le_mul_of_nonneg_left (by omega) (by omega)
        omega
      · exact hl
      · have : (m : Int) * 1 ≤ (m : Int) * k := Int.mul_le_mul_of_nonneg_left (by omega) (by omega)
        omega
    subst this
    exact hne (by omega)
  have := len_sub nd (m := ts) fun x mx => by
    obtain ⟨j, hj, rfl⟩ := List.mem_map.mp mx
    exact all j (by have := List.mem_range.mp hj; omega)
  simp only [List.length_map, List.length_range] at this
  omega
def whT : M Bool := (tV (eInO 6 (eV 9)))
def whB : M Fl := (sAs 9 (eB (oP pMod) (eN pInt (aCons (eB (oP pAdd) (eV 9) (eK (.int 1))) aNil)) (eB (oP pMul) (eV 4) (eV 4))))
theorem wh_spot {m : Nat} {ts : List Int} {q : Int} (hq : q * q = (m : Nat)) (hqb : q.natAbs < 2 ^ 40) (hm0 : 0 < m) (mk : Int → Ev) (e6 : ∀ t, (mk t)[6]? = some (some (.lst (ts.map .int)))) (e9 : ∀ t, (mk t)[9]? = some (some (.int t))) (e4 : ∀ t, (mk t)[4]? = some (some (.int q))) (st : ∀ t u, (mk t).set 9 (some (.int u)) = mk u) :
    ∀ (j : Nat) (s : Int), 0 ≤ s → s < m → (s + (j : Nat)) % (m : Nat) ∉ ts → ∃ s', (∀ n, j < n → whGo whT whB n (mk s) = .ok .nx (mk s')) ∧ 0 ≤ s' ∧ s' < m ∧ s' ∉ ts := by
  intro j
  induction j with
  | zero =>
    intro s h0 h1 hn
    have e : (s + ((0 : Nat) : Int)) % (m : Nat) = s := by
      rw [Int.natCast_zero, Int.add_zero]
      exact Int.emod_eq_of_lt h0 h1
    rw [e] at hn
    have d := in_ints s ts
    rw [decide_eq_false hn] at d
    exact ⟨s, wh_stop (by simp [whT, e6, e9, d]), h0, h1, hn⟩
  | succ j ih =>
    intro s h0 h1 hn
    by_cases mt : s ∈ ts
    · have n0 : 0 ≤ (s + 1) % (m : Nat) := Int.emod_nonneg _ (by omega)
      have n1 : (s + 1) % (m : Nat) < m := Int.emod_lt_of_pos _ (by omega)
      obtain ⟨s', e, a, b, c⟩ := ih ((s + 1) % (m : Nat)) n0 n1 (by
        rw [Int.emod_add_emod]
        have : s + 1 + (j : Nat) = s + ((j + 1 : Nat) : Int) := by omega
        rw [this]
        exact hn)
      refine ⟨s', ?_, a, b, c⟩
      have d := in_ints s ts
      rw [decide_eq_true mt] at d
      have w : whT (mk s) = .ok true (mk s) := by simp [whT, e6, e9, d]
      have mm := pMul_int (mulB_right (i := q) (j := q) (by omega))
      rw [hq] at mm
      have md := pMod_int (i := s + 1) (j := (m : Nat)) (by omega)
      rw [Int.fmod_eq_emod_of_nonneg _ (by omega)] at md
      generalize (s + 1) % (m : Nat) = u at *
      have bd : whB (mk s) = .ok .nx (mk u) := by
        simp [whB, e9, e4, pInt, mm, md, st]
      exact wh_lap w bd e
    · have d := in_ints s ts
      rw [decide_eq_false mt] at d
      have := wh_stop (t := whT) (b := whB) (r := mk s) (r1 := mk s) (by simp [whT, e6, e9, d])
      exact ⟨s, fun n hn => this n (by omega), h0, h1, mt⟩
structure PlOk (ps : List Pn) : Prop where
  nd : (ps.map (·.1)).Nodup
  dj : (ps.map (·.2)).Nodup
  nm : ∀ p ∈ ps, NmOk p.1
  bd : ∀ p ∈ ps, p.2.1.natAbs ≤ 100 ∧ p.2.2.natAbs ≤ 100
def spI (q h s : Int) : Int × Int := (s.fdiv q + h, s.fmod q - h)
theorem sp_inj {q h s t : Int} (hq : 0 < q) (e : spI q h s = spI q h t) : s = t := by
  unfold spI at e
  injection e with e1 e2
  have a := Int.mul_fdiv_add_fmod s q
  have b := Int.mul_fdiv_add_fmod t q
  have c : s.fdiv q = t.fdiv q := by omega
  have d : s.fmod q = t.fmod q := by omega
  rw [c, d] at a
  omega
def plE (d MN NL BG QQ SH : D) (ps : List Pn) (ts : List Int) (z8 z9 : Option D) : Ev := [some d, some MN, some NL, some BG, some QQ, some SH, some (.lst (ts.map .int)), some (.dic (ky ps) (ps.map prD)), z8, z9]
def plB : M Fl := (sSeq (sAs 9 (eCo B__law_take 0 (aCons (eB (oP pMul) (eV 4) (eV 4)) aNil))) (sSeq (sWh whT whB) (sSeq (sApp 6 (eV 9)) (sDix 7 (eN pTup (aCons (eB (oP pAdd) (eB (oP pDiv) (eV 9) (eV 4)) (eV 5)) (aCons (eB (oP pSub) (eB (oP pMod) (eN pInt (aCons (eV 9) aNil)) (eV 4)) (eV 5)) aNil))) (eV 8)))))
structure LpOk (q h : Int) (m : Nat) (ps : List Pn) (ts : List Int) : Prop extends PlOk ps where
  sp : ps.map (·.2) = ts.map (spI q h)
  tb : ∀ t ∈ ts, 0 ≤ t ∧ t < m
theorem pl_lap {N m : Nat} {q h : Int} {d MN NL BG : D} {ps : List Pn} {ts : List Int} {x : Str} {z9 : Option D} (hP : Pen N d) (hN : N ≤ 2 ^ 10) (hq : q * q = (m : Nat)) (hq1 : 2 ≤ q ∧ q ≤ 12) (hh : -6 ≤ h ∧ h ≤ 2) (hl : ps.length < m) (hl5 : ps.length ≤ 60) (ho : LpOk q h m ps ts) (hx : NmOk x) (hnew : x ∉ ps.map (·.1)) :
    ∃ d' sp s', plB (plE d MN NL BG (.int q) (.int h) ps ts (some (.str x)) z9) = .ok .nx (plE d' MN NL BG (.int q) (.int h) (ps ++ [(x, sp)]) (ts ++ [s']) (some (.str x)) (some (.int s'))) ∧ Pen (N + 1) d' ∧ LpOk q h m (ps ++ [(x, sp)]) (ts ++ [s']) := by
  have tl : ts.length = ps.length := by
    have := congrArg List.length ho.sp
    simpa using this.symm
  have mb : (m : Int) ≤ 144 := by
    rw [← hq]
    have := Int.mul_le_mul hq1.2 hq1.2 (by omega) (by omega)
    omega
  have m4 : (4 : Int) ≤ m := by
    rw [← hq]
    have := Int.mul_le_mul hq1.1 hq1.1 (by omega) (by omega)
    omega
  have mm := pMul_int (mulB_right (i := q) (j := q) (by omega))
  rw [hq] at mm
  obtain ⟨s, d', ed, s0, s1, pd⟩ := draw_ok (m := (m : Nat)) hP (by omega) (by omega) (by simp; omega)
  obtain ⟨j, hj, hjn⟩ := free_spot (m := m) (s := s) (ts := ts) (by omega) s0 s1
  obtain ⟨s', ew, a0, a1, an⟩ := wh_spot (m := m) (ts := ts) (q := q) hq (by omega) (by omega) (fun t => plE d' MN NL BG (.int q) (.int h) ps ts (some (.str x)) (some (.int t))) (fun t => rfl) (fun t => rfl) (fun t => rfl) (fun t u => rfl) j s s0 s1 hjn
  have f0 : 0 ≤ s'.fdiv q := Int.fdiv_nonneg a0 (by omega)
  have f1 : s'.fdiv q ≤ s' := by
    have := Int.mul_fdiv_add_fmod s' q
    have := (fmod_in (a := s') (m := q) (by omega)).1
    have : 2 * s'.fdiv q ≤ q * s'.fdiv q := Int.mul_le_mul_of_nonneg_right (by omega) f0
    omega
  have f2 : s'.fdiv q < 13 := by
    have e := Int.mul_fdiv_add_fmod s' q
    have := (fmod_in (a := s') (m := q) (by omega)).1
    refine Int.lt_of_not_ge fun z => ?_
    have : q * q ≤ q * s'.fdiv q := Int.mul_le_mul_of_nonneg_left (by omega) (by omega)
    omega
  have f3 := fmod_in (a := s') (m := q) (by omega)
  refine ⟨d', spI q h s', s', ?_, pd, ?_⟩
  · have t1 : sAs 9 (eCo B__law_take 0 (aCons (eB (oP pMul) (eV 4) (eV 4)) aNil)) (plE d MN NL BG (.int q) (.int h) ps ts (some (.str x)) z9) = .ok .nx (plE d' MN NL BG (.int q) (.int h) ps ts (some (.str x)) (some (.int s))) := by
      simp [plE, mm, ed]
    have t2 : sWh whT whB (plE d' MN NL BG (.int q) (.int h) ps ts (some (.str x)) (some (.int s))) = .ok .nx (plE d' MN NL BG (.int q) (.int h) ps ts (some (.str x)) (some (.int s'))) := wh_end ew (by omega)
    have t3 : sApp 6 (eV 9) (plE d' MN NL BG (.int q) (.int h) ps ts (some (.str x)) (some (.int s'))) = .ok .nx (plE d' MN NL BG (.int q) (.int h) ps (ts ++ [s']) (some (.str x)) (some (.int s'))) := by
      have hz2 : ts.length < sizeLine := Nat.lt_trans (by omega) size_big
      have a := app_eq (x := D.non) (i := 6) (f := eV 9) (r := plE d' MN NL BG (.int q) (.int h) ps ts (some (.str x)) (some (.int s'))) (d := .int s') (l := ts.map .int) rfl rfl rfl (by simpa using hz2)
      rw [a]
      simp [plE]
    have kb : (ky ps).length < big := by
      have : (1000 : Nat) ≤ big := big_of (Nat.le_refl _)
      rw [ky_len]; omega
    have kn : (Sum.inr x : Key) ∉ ky ps := fun m => by
      obtain ⟨p, hp, e⟩ := List.mem_map.mp m
      cases e
      exact hnew (List.mem_map_of_mem (f := fun p : Pn => p.1) hp)
    have ds : dixSet (ky ps) (ps.map prD) (.str x) (prD (x, spI q h s')) = some (ky (ps ++ [(x, spI q h s')]), (ps ++ [(x, spI q h s')]).map prD) := by
      unfold dixSet
      simp only [Z.keyOf, Option.bind_some, kb, if_true, putR_new kn]
      simp [ky]
    have dv := pDiv_int (i := s') (j := q) (wd_of (k := 7) (by omega) (by omega) (by omega)) (by omega)
    have md := pMod_int (i := s') (j := q) (by omega)
    have t4 : sDix 7 (eN pTup (aCons (eB (oP pAdd) (eB (oP pDiv) (eV 9) (eV 4)) (eV 5)) (aCons (eB (oP pSub) (eB (oP pMod) (eN pInt (aCons (eV 9) aNil)) (eV 4)) (eV 5)) aNil))) (eV 8) (plE d' MN NL BG (.int q) (.int h) ps (ts ++ [s']) (some (.str x)) (some (.int s'))) = .ok .nx (plE d' MN NL BG (.int q) (.int h) (ps ++ [(x, spI q h s')]) (ts ++ [s']) (some (.str x)) (some (.int s'))) := by
      have h2 : (2 : Nat) ≤ big := big_of (by omega)
      have ev : eN pTup (aCons (eB (oP pAdd) (eB (oP pDiv) (eV 9) (eV 4)) (eV 5)) (aCons (eB (oP pSub) (eB (oP pMod) (eN pInt (aCons (eV 9) aNil)) (eV 4)) (eV 5)) aNil)) (plE d' MN NL BG (.int q) (.int h) ps (ts ++ [s']) (some (.str x)) (some (.int s'))) = .ok (prD (x, spI q h s')) (plE d' MN NL BG (.int q) (.int h) ps (ts ++ [s']) (some (.str x)) (some (.int s'))) := by
        simp [plE, dv, md, pInt, h2, prD, spI]
      have a := dix_eq (i := 7) (g := eV 8) (y := .str x) ev rfl rfl ds
      rw [a]
      simp [plE]
    unfold plB
    rw [sSeq_nx t1, sSeq_nx t2, sSeq_nx t3, t4]
  · have nn : spI q h s' ∉ ps.map (·.2) := fun z => by
      rw [ho.sp] at z
      obtain ⟨t, mt, e⟩ := List.mem_map.mp z
      have := sp_inj (by omega) e
      exact an (this ▸ mt)
    refine ⟨⟨?_, ?_, fun p mp => ?_, fun p mp => ?_⟩, ?_, fun t mt => ?_⟩
    · rw [List.map_append]
      refine List.nodup_append.mpr ⟨ho.nd, by simp, fun a ha b hb e => hnew ?_⟩
      have : b = x := by simpa using hb
      rw [← this, ← e]
      exact ha
    · rw [List.map_append]
      refine List.nodup_append.mpr ⟨ho.dj, by simp, fun a ha b hb e => nn ?_⟩
      have : b = spI q h s' := by simpa using hb
      rw [← this, ← e]
      exact ha
    · rcases List.mem_append.mp mp with m | m
      · exact ho.nm p m
      · simp at m
        subst m
        exact hx
    · rcases List.mem_append.mp mp with m | m
      · exact ho.bd p m
      · simp at m
        subst m
        simp only [spI]
        omega
    · rw [List.map_append, List.map_append, ho.sp]
      rfl
    · rcases List.mem_append.mp mt with m | m
      · exact ho.tb t m
      · simp at m
        subst m
        exact ⟨a0, a1⟩
end Kw
namespace Kw
open PySem PySem.Spec PyProof.Rows L2 Z
def nmsA : List Str := ["a", "b", "c", "d", "e", "f"]
def nmsB : List Str := ["x9", "x10", "m", "zz", "b", "q1"]
def nmsC : List Str := ["red", "dot", "ox", "io", "at", "up"]
structure NmsOk (l : List Str) : Prop where
  nd : l.Nodup
  ok : ∀ x ∈ l, NmOk x
  l6 : l.length = 6
theorem okA : NmsOk nmsA := ⟨by decide +kernel, fun x m => by
  have m : x = "a" ∨ x = "b" ∨ x = "c" ∨ x = "d" ∨ x = "e" ∨ x = "f" := by simpa [nmsA] using m
  rcases m with h | h | h | h | h | h <;> rw [h] <;> exact ⟨by unfold NameOk; kernel_rfl, by decide +kernel⟩, rfl⟩
theorem okB : NmsOk nmsB := ⟨by decide +kernel, fun x m => by
  have m : x = "x9" ∨ x = "x10" ∨ x = "m" ∨ x = "zz" ∨ x = "b" ∨ x = "q1" := by simpa [nmsB] using m
  rcases m with h | h | h | h | h | h <;> rw [h] <;> exact ⟨by unfold NameOk; kernel_rfl, by decide +kernel⟩, rfl⟩
theorem okC : NmsOk nmsC := ⟨by decide +kernel, fun x m => by
  have m : x = "red" ∨ x = "dot" ∨ x = "ox" ∨ x = "io" ∨ x = "at" ∨ x = "up" := by simpa [nmsC] using m
  rcases m with h | h | h | h | h | h <;> rw [h] <;> exact ⟨by unfold NameOk; kernel_rfl, by decide +kernel⟩, rfl⟩
def nlD (l : List Str) : D := .lst (l.map .str)
theorem names_ok {N : Nat} {d A B C : D} {z3 z4 z5 z6 z7 z8 z9 : Option D} (h : Pen N d) (hN : N ≤ 2 ^ 20) : ∃ l d', pn1 [some d, some A, none, z3, z4, z5, z6, z7, z8, z9] = .ok .nx [some d', some A, some (nlD l), z3, z4, z5, z6, z7, z8, z9] ∧ NmsOk l ∧ Pen (N + 1) d' := by
  obtain ⟨i, x, d', e1, e2, p⟩ := pick_ok (l := [nlD nmsA, nlD nmsB, nlD nmsC]) h hN (by simp) (by simp)
  have h6 : (6 : Nat) ≤ big := big_of (by omega)
  have h3 : (3 : Nat) ≤ big := big_of (by omega)
  have run : ∀ l, x = nlD l → pn1 [some d, some A, none, z3, z4, z5, z6, z7, z8, z9] = .ok .nx [some d', some A, some (nlD l), z3, z4, z5, z6, z7, z8, z9] := fun l hl => by
    subst hl
    have e2 : B__law_of [d, .lst [nlD nmsA, nlD nmsB, nlD nmsC]] = .ok (nlD l) [some d', none] := e2
    generalize hz : nlD l = Z at *
    simp only [nlD, nmsA, nmsB, nmsC, List.map_cons, List.map_nil] at e2
    simp [pn1, h6, h3, e2]
  match i, e1 with
  | 0, e1 => exact ⟨nmsA, d', run _ (by simpa using e1.symm), okA, p⟩
  | 1, e1 => exact ⟨nmsB, d', run _ (by simpa using e1.symm), okB, p⟩
  | 2, e1 => exact ⟨nmsC, d', run _ (by simpa using e1.symm), okC, p⟩
  | _ + 3, e1 => simp at e1
theorem plain_ok {N n : Nat} {d : D} (h : Pen N d) (hN : N ≤ 500) (hn1 : 1 ≤ n) (hn : n ≤ 5) :
    ∃ ps d', B__law_plain [d, .int (n : Nat)] = .ok (plD ps) [some d', none] ∧ PlOk ps ∧ ps.length = n ∧ Pen (N + 20) d' := by
  obtain ⟨l, d1, e1, hl, p1⟩ := names_ok (A := .int (n : Nat)) (B := .non) (C := .non) (z3 := none) (z4 := none) (z5 := none) (z6 := none) (z7 := none) (z8 := none) (z9 := none) h (by omega)
  obtain ⟨b, d2, e2, b0, b1, p2⟩ := draw_ok (m := 6) p1 (by omega) (by omega) (by omega)
  obtain ⟨b, rfl⟩ : ∃ k : Nat, b = (k : Int) := ⟨b.toNat, by omega⟩
  obtain ⟨i, x, d3, e3, e4, p3⟩ := pick_ok (l := [.int 2, .int 3, .int 4, .int 7, .int 12]) p2 (by omega) (by simp) (by simp)
  obtain ⟨q0, hq0, rfl⟩ : ∃ q : Int, (2 ≤ q ∧ q ≤ 12) ∧ x = .int q := by
    match i, e3 with
    | 0, e => exact ⟨2, by omega, by simpa using e.symm⟩
    | 1, e => exact ⟨3, by omega, by simpa using e.symm⟩
    | 2, e => exact ⟨4, by omega, by simpa using e.symm⟩
    | 3, e => exact ⟨7, by omega, by simpa using e.symm⟩
    | 4, e => exact ⟨12, by omega, by simpa using e.symm⟩
    | _ + 5, e => simp at e
  obtain ⟨c, d4, e5, c0, c1, p4⟩ := draw_ok (m := 9) p3 (by omega) (by omega) (by omega)
  obtain ⟨hh, hhe⟩ : ∃ hh, hh = c - 6 := ⟨_, rfl⟩
  obtain ⟨w, hw⟩ : ∃ w : Int, w = if (4 : Int) < (n : Int) then 3 else 2 := ⟨_, rfl⟩
  obtain ⟨q, hq⟩ : ∃ q : Int, q = if q0 < w then w else q0 := ⟨_, rfl⟩
  have hw2 : 2 ≤ w ∧ w ≤ 3 ∧ ((4 : Int) < n → w = 3) := by
    rw [hw]
    split <;> omega
  have hqr : 2 ≤ q ∧ q ≤ 12 ∧ w ≤ q := by
    rw [hq]
    split <;> omega
  obtain ⟨m, hm⟩ : ∃ m : Nat, q * q = (m : Nat) := ⟨(q * q).toNat, by have := Int.mul_nonneg (a := q) (b := q) (by omega) (by omega); omega⟩
  have hmn : n ≤ m := by
    have h1 : w * w ≤ q * q := Int.mul_le_mul hqr.2.2 hqr.2.2 (by omega) (by omega)
    rcases (by omega : w = 2 ∨ w = 3) with e | e
    · rw [e] at h1
      have := hw2.2.2
      omega
    · rw [e] at h1
      omega
  have e5' : pn2 [some d1, some (.int (n : Nat)), some (nlD l), none, none, none, none, none, none, none] = .ok .nx [some d4, some (.int (n : Nat)), some (nlD l), some (.int (b : Nat)), some (.int q0), some (.int hh), none, none, none, none] := by
    have h5 : (5 : Nat) ≤ big := big_of (by omega)
    have e4 : B__law_of [d2, .lst [.int 2, .int 3, .int 4, .int 7, .int 12]] = .ok (.int q0) [some d3, none] := e4
    generalize nlD l = NL at *
    simp [pn2, e2, e4, e5, h5, gTs, hhe]
  have e6 : pn3 [some d4, some (.int (n : Nat)), some (nlD l), some (.int (b : Nat)), some (.int q0), some (.int hh), none, none, none, none] = .ok .nx (plE d4 (.int (n : Nat)) (nlD l) (.int (b : Nat)) (.int q) (.int hh) [] [] none none) := by
    have gt : pGt (.int (n : Nat)) (.int 4) = some (.bl (decide ((4 : Int) < n))) := by simp [pGt]
    have ee : ∀ r : Ev, r[1]? = some (some (.int (n : Nat))) → eIf (tV (eB (oP pGt) (eV 1) (eK (.int 4)))) (eK (.int 3)) (eK (.int 2)) r = .ok (.int w) r := fun r hr => by
      by_cases hc : (4 : Int) < (n : Int)
      · rw [decide_eq_true hc] at gt
        rw [if_pos hc] at hw
        simp [hr, gt, hw]
      · rw [decide_eq_false hc] at gt
        rw [if_neg hc] at hw
        simp [hr, gt, hw]
    have mx : pMax2 [.int q0, .int w] = some (.int q) := by simp [pMax2, hq]
    have ev : eN pMax2 (aCons (eV 4) (aCons (eIf (tV (eB (oP pGt) (eV 1) (eK (.int 4)))) (eK (.int 3)) (eK (.int 2))) aNil)) [some d4, some (.int (n : Nat)), some (nlD l), some (.int (b : Nat)), some (.int q0), some (.int hh), none, none, none, none] = .ok (.int q) [some d4, some (.int (n : Nat)), some (nlD l), some (.int (b : Nat)), some (.int q0), some (.int hh), none, none, none, none] :=
      en_is (acons_is (by simp) (acons_is (ee _ rfl) rfl)) mx
    rw [pn3]
    simp only [sPar3L, ev, Out.bind]
    rfl
  have s1 := sl_drop (l.map .str) b
  have s2 := sl_take (l.map .str) b
  have s3 := sl_take (((l.drop b ++ l.take b)).map .str) n
  rw [← List.map_drop] at s1
  rw [← List.map_take] at s2 s3
  have ad : pAdd (.lst ((l.drop b).map .str)) (.lst ((l.take b).map .str)) = some (.lst ((l.drop b ++ l.take b).map .str)) := by
    have : (l.drop b).length + (l.take b).length ≤ big := big_of (by simp [hl.l6]; omega)
    simp only [pAdd, List.length_map]
    rw [if_pos this, List.map_append]
  generalize hR : (l.drop b ++ l.take b).take n = R at *
  have rn : R.Nodup := by rw [← hR]; exact rot_nodup hl.nd b n
  have rm : ∀ x ∈ R, NmOk x := fun x mx => by rw [← hR] at mx; exact hl.ok x (rot_mem mx)
  have rl : R.length = n := by rw [← hR]; exact rot_len (by rw [hl.l6]; omega)
  obtain ⟨r', ⟨ps, ts, d5, z8, z9, hp, ho, pp, er⟩, e7⟩ := for_l (g := gN 8) (b := plB) (f := D.str) (fun pre r => ∃ ps ts d z8 z9, ps.map (·.1) = pre ∧ LpOk q hh m ps ts ∧ Pen (N + 5 + pre.length) d ∧ r = plE d (.int (n : Nat)) (nlD l) (.int (b : Nat)) (.int q) (.int hh) ps ts z8 z9) R (fun pre x post ep r ⟨ps, ts, d, z8, z9, hp, ho, pp, er⟩ => by
    subst er
    have hlen : pre.length + 1 ≤ n := by rw [← rl, ep]; simp
    have pl : ps.length = pre.length := by rw [← hp]; simp
    have hnew : x ∉ ps.map (·.1) := by
      rw [hp]
      rw [ep] at rn
      exact fun z => (List.nodup_append.mp rn).2.2 x z x (by simp) rfl
    obtain ⟨d', sp, s', e, pd, ho'⟩ := pl_lap (MN := .int (n : Nat)) (NL := nlD l) (BG := .int (b : Nat)) (z9 := z9) pp (by omega) hm ⟨hqr.1, hqr.2.1⟩ (by omega) (by omega) (by omega) ho (rm x (by rw [ep]; simp)) hnew
    exact ⟨_, _, rfl, e, ps ++ [(x, sp)], ts ++ [s'], d', _, _, by rw [List.map_append, hp]; rfl, ho', by rw [List.length_append]; exact pd.mono (by simp; omega), rfl⟩) (plE d4 (.int (n : Nat)) (nlD l) (.int (b : Nat)) (.int q) (.int hh) [] [] none none) ⟨[], [], d4, none, none, rfl, ⟨⟨.nil, .nil, (fun _ m => nomatch m), fun _ m => nomatch m⟩, rfl, fun _ m => nomatch m⟩, p4.mono (by simp), rfl⟩
  subst er
  have hlen : ps.length = n := by rw [← rl, ← hp]; simp
  refine ⟨ps, d5, ?_, ho.toPlOk, hlen, by rw [rl] at pp; exact pp.mono (by omega)⟩
  have a4 : pn4 (plE d4 (.int (n : Nat)) (nlD l) (.int (b : Nat)) (.int q) (.int hh) [] [] none none) = .ok .nx (plE d5 (.int (n : Nat)) (nlD l) (.int (b : Nat)) (.int q) (.int hh) ps ts z8 z9) := by
    have it : (itL (eSl (eB (oP pAdd) (eSl (eV 2) (iSo (eV 3)) iNo) (eSl (eV 2) iNo (iSo (eV 3)))) iNo (iSo (eV 1)))) (plE d4 (.int (n : Nat)) (nlD l) (.int (b : Nat)) (.int q) (.int hh) [] [] none none) = .ok (R.map .str) (plE d4 (.int (n : Nat)) (nlD l) (.int (b : Nat)) (.int q) (.int hh) [] [] none none) := by
      have s1' : pSl (nlD l) (some (b : Int)) none = some (.lst ((l.drop b).map .str)) := s1
      have s2' : pSl (nlD l) none (some (b : Int)) = some (.lst ((l.take b).map .str)) := s2
      clear s1 s2 e1 e5' e6 e7
      generalize nlD l = A at *
      generalize D.lst ((l.drop b).map .str) = B1 at *
      generalize D.lst ((l.take b).map .str) = B2 at *
      generalize D.lst ((l.drop b ++ l.take b).map .str) = B3 at *
      simp [plE, s1', s2', s3, ad, itemsOf]
    have e : pn4 = sFor (itL (eSl (eB (oP pAdd) (eSl (eV 2) (iSo (eV 3)) iNo) (eSl (eV 2) iNo (iSo (eV 3)))) iNo (iSo (eV 1)))) (gN 8) plB := rfl
    rw [e]
    exact for_is it e7
  have a5 : pn5 (plE d5 (.int (n : Nat)) (nlD l) (.int (b : Nat)) (.int q) (.int hh) ps ts z8 z9) = .ok (.rt (plD ps)) ((plE d5 (.int (n : Nat)) (nlD l) (.int (b : Nat)) (.int q) (.int hh) ps ts z8 z9).set 7 (some (plD ps))) := by
    simp [pn5, plE, plD]
  have fin := sSeq_nx (g := sSeq pn2 (sSeq pn3 (sSeq pn4 pn5))) e1
  rw [sSeq_nx e5', sSeq_nx e6, sSeq_nx a4, a5] at fin
  have z := mkB_run (n := 2) (m := 10) (io := [0]) (b := sSeq pn1 (sSeq pn2 (sSeq pn3 (sSeq pn4 pn5)))) (ds := [d, .int (n : Nat)]) rfl rfl fin
  rw [B__law_plain, pns, z]
  rfl
end Kw
namespace Kw
open PySem PySem.Spec PyProof.Rows L2 Z
structure BkOk (k n : Nat) (es : List Ent) : Prop where
  r : Rise es
  u : Unl es
  nm : ∀ e ∈ es, NameOk e.1
  e : ∀ e ∈ es, EntOk k n e
  l1 : 1 ≤ es.length
  l8 : es.length ≤ 8
  n1 : 1 ≤ n
  n3 : n ≤ 3
def fr (b : Int) (z : Int) : Rat := Rat.divInt z b
theorem fr_bd {b z : Int} {k : Nat} (hb : 0 < b) (h1 : b.natAbs < 2 ^ k) (h2 : z.natAbs < 2 ^ k) : Bd k (fr b z) := Bd.of hb h2 h1
theorem fr_inj {b y z : Int} (hb : 0 < b) (e : fr b y = fr b z) : y = z := by
  unfold fr at e
  have := (Rat.divInt_eq_divInt_iff (by omega) (by omega)).mp e
  exact Int.eq_of_mul_eq_mul_right (by omega) this
theorem ratio_new {b z : Int} (hb : 0 < b) (h : b.natAbs < 2 ^ 60) : B_Ratio___init__ [.ob 0 [], .int z, .int b] = .ok .non [some (rt (fr b z)), none, none] := B_ratio hb (Nat.lt_of_lt_of_le h (Nat.pow_le_pow_right (by omega) (by omega)))
theorem unl_perm {es fs : List Ent} (p : es.Perm fs) (h : Unl es) : Unl fs := (List.Perm.pairwise_iff (R := fun a b : Ent => ¬ (a.2.1 = b.2.1 ∧ a.2.2 = b.2.2)) (fun {a b} h h2 => h ⟨h2.1.symm, h2.2.symm⟩) p).mp h
theorem fr_add (d x y : Int) : fr d x + fr d y = fr d (x + y) := by
  unfold fr
  rw [Rat.divInt_eq_div, Rat.divInt_eq_div, Rat.divInt_eq_div, Rat.intCast_add, Rat.div_def, Rat.div_def, Rat.div_def, Rat.add_mul]
theorem fr_neg (d x : Int) : -fr d x = fr d (-x) := Rat.neg_divInt x d
theorem fr_sub (d x y : Int) : fr d x - fr d y = fr d (x - y) := by
  rw [Rat.sub_eq_add_neg, fr_neg, fr_add, Int.sub_eq_add_neg]
theorem fr_up {c : Int} (hc : c ≠ 0) (d x : Int) : fr (d * c) (x * c) = fr d x := Rat.divInt_mul_right hc
theorem fr_neg_iff {d x : Int} (hd : 0 < d) : fr d x < 0 ↔ x < 0 := by
  rw [← nm_neg]
  unfold fr
  rw [Rat.num_divInt, Int.sign_eq_one_of_pos hd, Int.one_mul]
  have hg : (0 : Int) < (Int.gcd d x : Nat) := by
    have : Int.gcd d x ≠ 0 := fun z => by
      have := Int.gcd_eq_zero_iff.mp z
      omega
    omega
  constructor
  · intro z
    exact Int.not_le.mp fun q => by
      have := Int.ediv_nonneg q (Int.le_of_lt hg)
      omega
  · intro z
    exact Int.ediv_neg_of_neg_of_pos z hg
theorem fr_lt {d x y : Int} (hd : 0 < d) : fr d x < fr d y ↔ x < y := by
  have h := fr_neg_iff (x := x - y) hd
  rw [← fr_sub] at h
  constructor
  · intro z
    have := h.mp (by grind)
    omega
  · intro z
    have := h.mpr (by omega)
    grind
theorem fr_le {d x y : Int} (hd : 0 < d) : fr d x ≤ fr d y ↔ x ≤ y := by
  rw [← Rat.not_lt, fr_lt hd]
  omega
theorem pairs_G {β : Type} (f : Str × β → D) : ∀ l : List (Str × β), pairsOf (l.map fun e => .tup [.str e.1, f e]) = some (l.map fun e => (.str e.1, f e))
  | [] => rfl
  | e :: l => by
    have ih := pairs_G f l
    show (pairsOf (l.map fun e => .tup [.str e.1, f e])).map _ = _
    rw [ih]
    rfl
theorem mkD_G {β : Type} (f : Str × β → D) : ∀ (l acc : List (Str × β)), ((acc ++ l).map (·.1)).Nodup → mkD (ky acc, acc.map f) (l.map fun e => (.str e.1, f e)) = some (ky (acc ++ l), (acc ++ l).map f)
  | [], acc, _ => by simp [mkD]
  | e :: l, acc, h => by
    have nm : (Sum.inr e.1 : Key) ∉ ky acc := fun m => by
      obtain ⟨q, hq, z⟩ := List.mem_map.mp m
      have z : q.1 = e.1 := Sum.inr.inj z
      rw [List.map_append] at h
      exact (List.nodup_append.mp h).2.2 q.1 (List.mem_map_of_mem hq) e.1 (by simp) z
    have ih := mkD_G f l (acc ++ [e]) (by simpa using h)
    rw [List.map_cons, mkD]
    show mkD (putR (ky acc) (acc.map f) (.inr e.1) (f e)) _ = _
    rw [putR_new nm]
    have k1 : ky acc ++ [(Sum.inr e.1 : Key)] = ky (acc ++ [e]) := by simp [ky]
    have k2 : acc.map f ++ [f e] = (acc ++ [e]).map f := by simp
    rw [k1, k2, ih]
    simp
theorem dict_G {β : Type} {l : List (Str × β)} (h : (l.map (·.1)).Nodup) (f : Str × β → D) : pDict [.lst (l.map fun e => .tup [.str e.1, f e])] = some (.dic (ky l) (l.map f)) := by
  have m := mkD_G f l [] (by simpa using h)
  have m : mkD ([], []) (l.map fun e => (.str e.1, f e)) = some (ky l, l.map f) := m
  simp only [pDict, lisOf, Option.bind_some, pairs_G, m]
  rfl
def ent (b : Int) (p : Pn) : Ent := (p.1, fr (2 * b) (p.2.1 + p.2.2), [fr (2 * b) (p.2.2 - p.2.1)])
def sB (b : Int) (p : Pn) : D := .tup [rt (fr (2 * b) (p.2.1 + p.2.2)), .lst [rt (fr (2 * b) (p.2.2 - p.2.1))]]
def lb1 : M Fl := (sAs 2 (eLc [3] (itK (eV 0)) (gN 3) tY (eN pTup (aCons (eV 3) (aCons (eN pTup (aCons (eNd 0 B_Ratio___init__ [] (aCons (eB (oP pAdd) (eB (oP pIx) (eB (oP pDix) (eV 0) (eV 3)) (eK (.int 0))) (eB (oP pIx) (eB (oP pDix) (eV 0) (eV 3)) (eK (.int 1)))) (aCons (eB (oP pMul) (eK (.int 2)) (eV 1)) aNil))) (aCons (eN pLst (aCons (eNd 0 B_Ratio___init__ [] (aCons (eB (oP pSub) (eB (oP pIx) (eB (oP pDix) (eV 0) (eV 3)) (eK (.int 1))) (eB (oP pIx) (eB (oP pDix) (eV 0) (eV 3)) (eK (.int 0)))) (aCons (eB (oP pMul) (eK (.int 2)) (eV 1)) aNil))) aNil)) aNil))) aNil)))))
def lb2 : M Fl := (sRet (eNd 3 B_Book___init__ [] (aCons (eK (.int 1)) (aCons (eLk (eN pDict (aCons (eV 2) aNil))) aNil))))
theorem lbs : b__law_book = (sSeq lb1 lb2) := rfl
theorem lbook_ok {b : Int} {ps : List Pn} (h : PlOk ps) (hb : 0 < b) (hb6 : b ≤ 6) (h1 : 1 ≤ ps.length) (h8 : ps.length ≤ 8) :
    B__law_book [plD ps, .int b] = .ok (.ob 3 (bkl 1 (sortE (ps.map (ent b))))) [none, none] ∧ BkOk 16 1 (sortE (ps.map (ent b))) := by
  have hb2 : 0 < 2 * b := by omega
  have hb60 : (2 * b).natAbs < 2 ^ 60 := by omega
  have names : (ps.map (ent b)).map (·.1) = ps.map (·.1) := by rw [List.map_map]; rfl
  have nd : ((ps.map (ent b)).map (·.1)).Nodup := by rw [names]; exact h.nd
  have eo : ∀ e ∈ ps.map (ent b), EntOk 16 1 e := fun e m => by
    obtain ⟨p, hp, rfl⟩ := List.mem_map.mp m
    have l := h.bd p hp
    exact ⟨fr_bd hb2 (by omega) (by omega), AllB.cons (fr_bd hb2 (by omega) (by omega)) .nil, rfl⟩
  have un : Unl (ps.map (ent b)) := by
    refine List.pairwise_map.mpr (List.Pairwise.imp_of_mem (fun {p q} mp mq hne => ?_) (List.pairwise_map.mp h.dj))
    rintro ⟨z1, z2⟩
    simp only [ent] at z1 z2
    injection z2 with z2 _
    have a := fr_inj hb2 z1
    have c := fr_inj hb2 z2
    exact hne (Prod.ext (by omega) (by omega))
  have bk : BkOk 16 1 (sortE (ps.map (ent b))) := by
    refine ⟨Rise.of_sort nd, unl_perm (sortE_perm _).symm un, fun e m => ?_, fun e m => eo e ((sortE_perm _).mem_iff.mp m), ?_, ?_, by omega, by omega⟩
    · obtain ⟨p, hp, rfl⟩ := List.mem_map.mp ((sortE_perm _).mem_iff.mp m)
      exact (h.nm p hp).n
    · rw [(sortE_perm _).length_eq, List.length_map]; exact h1
    · rw [(sortE_perm _).length_eq, List.length_map]; exact h8
  refine ⟨?_, bk⟩
  have kx : ky (ps.map (ent b)) = ky ps := by simp [ky, ent]
  have bo := book_ok (k := 16) (n := 1) (vs := ps.map (sB b)) (us := ps.map (ent b)) (All2.of_map _ _ ps fun s m => ⟨⟨_, _, _, .inl rfl, .rt _, Sq.lst, RL.map [fr (2 * b) (s.2.2 - s.2.1)]⟩, rfl, (h.nm s m).n⟩) nd bk.u (by simpa using h1) (by simpa using h8) (by omega) (by omega) eo (by omega) (by omega)
  rw [kx] at bo
  have bo : B_Book___init__ [.ob 3 [], .int 1, .dkl (ky ps) (ps.map (sB b))] = .ok .non [some (.ob 3 (bkl 1 (sortE (ps.map (ent b))))), none, none] := bo
  have dx : ∀ p ∈ ps, pDix (plD ps) (.str p.1) = some (prD p) := fun p m => dix_at (f := prD) h.nd m
  have dk : dkOf (plD ps) = some (ps.map fun p => .str p.1) := by simp [plD, dkOf, ky_map]
  have dg := dict_G h.nd (sB b)
  have m2 := pMul_int (mulB_left (i := 2) (j := b) (by decide))
  have h1b : (1 : Nat) ≤ big := big_of (by omega)
  have h2b : (2 : Nat) ≤ big := big_of (by omega)
  have lb : (ps.map fun p : Pn => D.str p.1).length ≤ 1000 := by simp; omega
  generalize hP : plD ps = P at *
  have go := lcGo_pure (vs := [3]) (g := gN 3) (t := tY) (f := eN pTup (aCons (eV 3) (aCons (eN pTup (aCons (eNd 0 B_Ratio___init__ [] (aCons (eB (oP pAdd) (eB (oP pIx) (eB (oP pDix) (eV 0) (eV 3)) (eK (.int 0))) (eB (oP pIx) (eB (oP pDix) (eV 0) (eV 3)) (eK (.int 1)))) (aCons (eB (oP pMul) (eK (.int 2)) (eV 1)) aNil))) (aCons (eN pLst (aCons (eNd 0 B_Ratio___init__ [] (aCons (eB (oP pSub) (eB (oP pIx) (eB (oP pDix) (eV 0) (eV 3)) (eK (.int 1))) (eB (oP pIx) (eB (oP pDix) (eV 0) (eV 3)) (eK (.int 0)))) (aCons (eB (oP pMul) (eK (.int 2)) (eV 1)) aNil))) aNil)) aNil))) aNil))) (w := [some P, some (.int b), none, none]) (ds := ps.map fun p : Pn => D.str p.1) (outs := ps.map fun p => .tup [.str p.1, sB b p]) (All2.of_map _ _ ps fun p m => by
    have d := dx p m
    have n1 := ratio_new (z := p.2.1 + p.2.2) hb2 hb60
    have n2 := ratio_new (z := p.2.2 - p.2.1) hb2 hb60
    refine ⟨[some P, some (.int b), none, some (.str p.1)], [some P, some (.int b), none, some (.str p.1)], rfl, rfl, ?_, rfl⟩
    simp only [prD] at d
    rw [show sB b p = .tup [rt (fr (2 * b) (p.2.1 + p.2.2)), .lst [rt (fr (2 * b) (p.2.2 - p.2.1))]] from rfl]
    generalize p.1 = nm at *
    generalize p.2.1 = R at *
    generalize p.2.2 = L at *
    generalize fr (2 * b) (R + L) = f1 at *
    generalize fr (2 * b) (L - R) = f2 at *
    simp [d, m2, n1, n2, h1b, h2b]) [some P, some (.int b), none, none] rfl
  obtain ⟨r', e1, e2⟩ := go
  have it : itK (eV 0) [some P, some (.int b), none, none] = .ok (ps.map fun p => .str p.1) [some P, some (.int b), none, none] := by simp [dk]
  have a1 : lb1 [some P, some (.int b), none, none] = .ok .nx [some P, some (.int b), some (.lst (ps.map fun p => .tup [.str p.1, sB b p])), none] := by
    have := as_is (i := 2) (lc_is it lb e1)
    rw [back_eq e2] at this
    exact this
  obtain ⟨LS, hLS⟩ : ∃ LS, LS = D.lst (ps.map fun p => .tup [.str p.1, sB b p]) := ⟨_, rfl⟩
  rw [← hLS] at a1 dg
  have a2 : ∃ r, lb2 [some P, some (.int b), some LS, none] = .ok (.rt (.ob 3 (bkl 1 (sortE (ps.map (ent b)))))) r := by
    generalize ky ps = KS at *
    generalize ps.map (sB b) = VS at *
    generalize bkl 1 (sortE (ps.map (ent b))) = BK at *
    refine ⟨[some P, some (.int b), some LS, none], ?_⟩
    simp [lb2, dg, lkOf, bo]
  obtain ⟨r2, a2⟩ := a2
  exact mkB_run (n := 2) (m := 4) (io := []) (b := b__law_book) (ds := [P, .int b]) (r0 := [some P, some (.int b), none, none]) rfl rfl (by rw [lbs, sSeq_nx a1]; exact a2)
end Kw
namespace Kw
open PySem PySem.Spec PyProof.Rows L2 Z
theorem toVs_names (es : List Ent) : toVs (es.map nmD) = some (es.map fun e => V.str e.1) := by
  induction es with
  | nil => rfl
  | cons e es ih => simp [toVs, toV, nmD, ih]
theorem name_in {es : List Ent} {e : Ent} (m : e ∈ es) : pNotIn (.str e.1) (.tup (es.map nmD)) = some (.bl false) := by
  have h : inV (.str e.1) (es.map fun e => V.str e.1) = true := by
    unfold inV
    rw [List.any_map]
    exact List.any_eq_true.mpr ⟨e, m, by simp [eqV]⟩
  simp [pNotIn, pInB, itemsOf, toVs_names, toV, h]
theorem hap_ok {n : Nat} {es : List Ent} {e : Ent} (m : e ∈ es) : B_need_happening_books [book n es, .str e.1] = .ok .non [none, none] := by
  simp [B_need_happening_books, mkB, b_need_happening_books, name_in m]
theorem inV_strs (x : V) (es : List Ent) : inV x (es.map fun e => V.str e.1) = es.any fun e => eqV (V.str e.1) x := by
  unfold inV
  rw [List.any_map]
  rfl
theorem nin_flat {es : List Ent} {v : D} {u : V} (h : toV v = some u) (hs : ∀ a, v ≠ .str a ∨ True) : pNinD v (.lst (es.map nmD)) = some (.bl (!es.any fun e => eqV (V.str e.1) u)) := by
  have e : pInB v (.lst (es.map nmD)) = some (es.any fun e => eqV (V.str e.1) u) := by
    cases v <;> simp [toV] at h <;> subst h <;> simp [pInB, itemsOf, toVs_names, toV, inV_strs]
  simp [pNinD, e]
theorem nin_str {es : List Ent} (x : Str) : pNinD (.str x) (.lst (es.map nmD)) = some (.bl (!decide (x ∈ es.map (·.1)))) := by
  rw [nin_flat (u := .str x) rfl (fun _ => .inr trivial)]
  congr 2
  congr 1
  rw [Bool.eq_iff_iff]
  simp [List.any_eq_true, eqV]
theorem spot_of_ok {n : Nat} {es : List Ent} (hr : Rise es) {e : Ent} (m : e ∈ es) : B_Book_spot_of [book n es, .str e.1] = .ok (stp e.2.1 e.2.2) [none, none] := by
  have h := hap_ok (n := n) m
  have d := dix_at (f := stD) hr.nodup m
  simp [B_Book_spot_of, mkB, b_Book_spot_of, h, d, stD]
theorem told_ok (n : Nat) (es : List Ent) : B_need_told_book [book n es] = .ok .non [none] := by
  simp [B_need_told_book, mkB, b_need_told_book, kO]
theorem road_ok (es : List Ent) : B_need_told_road [book 1 es] = .ok .non [none] := by
  have : pNe (.int 1) (.int 1) = some (.bl false) := ne_nat 1
  simp [B_need_told_road, mkB, b_need_told_road, this]
theorem tel_ok {n : Nat} {es : List Ent} {e : Ent} (m : e ∈ es) : B_need_happening_telling [book n es, .str e.1] = .ok .non [none, none] := by
  have : e.1 ∈ es.map (·.1) := List.mem_map_of_mem m
  have h := nin_str (es := es) e.1
  rw [decide_eq_true this] at h
  have h : pNotIn (.str e.1) (.lst (es.map nmD)) = some (.bl false) := by
    have h2 : inV (.str e.1) (es.map fun e => V.str e.1) = true := by
      unfold inV
      rw [List.any_map]
      exact List.any_eq_true.mpr ⟨e, m, by simp [eqV]⟩
    simp [pNotIn, pInB, itemsOf, toVs_names, toV, h2]
  simp [B_need_happening_telling, mkB, b_need_happening_telling, pList, itemsOf, h]
def tm (e : Ent) : Rat := e.2.1
def pl (e : Ent) : Rat := e.2.2.headD 0
theorem EntOk.one {k : Nat} {e : Ent} (h : EntOk k 1 e) : e.2.2 = [pl e] ∧ Bd k (tm e) ∧ Bd k (pl e) := by
  have l := h.l
  have x := h.xs
  unfold pl
  match hp : e.2.2, l with
  | [p], _ => exact ⟨rfl, h.t, x p (by rw [hp]; simp)⟩
theorem right_ok {k : Nat} {es : List Ent} (h : BkOk k 1 es) (h0 : 0 < k) (hk : k ≤ 100) {e : Ent} (m : e ∈ es) : B_right_of [book 1 es, .str e.1] = .ok (rt (tm e - pl e)) [none, none] := by
  obtain ⟨e1, b1, b2⟩ := (h.e e m).one
  have s := spot_of_ok (n := 1) h.r m
  have sb := sub_ok b1 b2 h0 (by omega)
  have sl : e.2.1 = tm e := rfl
  rw [e1, sl] at s
  have i0 : pIx (.tup ([pl e].map rt)) (.int 0) = some (rt (pl e)) := rfl
  generalize pl e = P at *
  generalize tm e = T at *
  have ow := fun r => oW_rt (tb := [(0, B_Ratio___sub__)]) (p := pSub) (l := [0]) rfl (rk_R (.rt P) []) sb r
  simp [B_right_of, mkB, b_right_of, s, i0, ow]
theorem left_ok {k : Nat} {es : List Ent} (h : BkOk k 1 es) (h0 : 0 < k) (hk : k ≤ 100) {e : Ent} (m : e ∈ es) : B_left_of [book 1 es, .str e.1] = .ok (rt (tm e + pl e)) [none, none] := by
  obtain ⟨e1, b1, b2⟩ := (h.e e m).one
  have s := spot_of_ok (n := 1) h.r m
  have sb := add_ok b1 b2 h0 (by omega)
  have sl : e.2.1 = tm e := rfl
  rw [e1, sl] at s
  have i0 : pIx (.tup ([pl e].map rt)) (.int 0) = some (rt (pl e)) := rfl
  generalize pl e = P at *
  generalize tm e = T at *
  have ow := fun r => oW_rt (tb := [(0, B_Ratio___add__)]) (p := pAdd) (l := [0]) rfl (rk_R (.rt P) []) sb r
  simp [B_left_of, mkB, b_left_of, s, i0, ow]
theorem lr_ok {k : Nat} {es : List Ent} (h : BkOk k 1 es) (h0 : 0 < k) (hk : k ≤ 100) {e : Ent} (m : e ∈ es) : B_light_right [book 1 es, .str e.1] = .ok (rt (tm e - pl e)) [none, none] ∧ B_light_left [book 1 es, .str e.1] = .ok (rt (tm e + pl e)) [none, none] := by
  have t1 := told_ok 1 es
  have t2 := tel_ok (n := 1) m
  have t3 := road_ok es
  have r1 := right_ok h h0 hk m
  have r2 := left_ok h h0 hk m
  generalize book 1 es = bk at *
  exact ⟨by simp [B_light_right, mkB, b_light_right, t1, t2, t3, r1], by simp [B_light_left, mkB, b_light_left, t1, t2, t3, r2]⟩
def ftw : List Str → List Str → Option Str
  | _, [] => none
  | acc, x :: l => if x ∈ acc then some x else ftw (acc ++ [x]) l
theorem ftw_nodup : ∀ (l acc : List Str), (acc ++ l).Nodup → ftw acc l = none
  | [], _, _ => rfl
  | x :: l, acc, h => by
    have nx : x ∉ acc := fun m => (List.nodup_append.mp h).2.2 x m x (by simp) rfl
    rw [ftw, if_neg nx]
    exact ftw_nodup l (acc ++ [x]) (by simpa using h)
def knD (acc : List Str) : D := .dic (acc.map .inr) (acc.map fun _ => .bl true)
theorem kn_look (acc : List Str) (x : Str) : (lookD (acc.map .inr) (acc.map fun _ => D.bl true) (.inr x : Key)).isSome = decide (x ∈ acc) := by
  induction acc with
  | nil => rfl
  | cons a acc ih =>
    simp only [List.map_cons, lookD]
    by_cases h : a = x
    · simp [h]
    · have : ¬ (Sum.inr a : Key) = Sum.inr x := fun z => h (Sum.inr.inj z)
      rw [if_neg this, ih]
      simp [Ne.symm h]
def ftB : M Fl := (sSeq (sIf (tV (eInDO 1 (eV 2))) (sRet (eV 2)) sNil) (sDix 1 (eK (.bl true)) (eV 2)))
theorem ft_go (X : D) : ∀ (l acc : List Str) (z : Option D), acc.length + l.length ≤ 900 → acc.Nodup →
    (∃ r, forGo (gN 2) ftB (l.map .str) [some X, some (knD acc), z] = match ftw acc l with
      | some x => .ok (.rt (.str x)) r
      | none => .ok .nx r)
  | [], acc, z, _, _ => ⟨_, rfl⟩
  | x :: l, acc, z, hl, hn => by
    simp only [List.length_cons] at hl
    have lk := kn_look acc x
    by_cases h : x ∈ acc
    · rw [decide_eq_true h] at lk
      refine ⟨[some X, some (knD acc), some (.str x)], ?_⟩
      rw [ftw, if_pos h]
      have : ftB [some X, some (knD acc), some (.str x)] = .ok (.rt (.str x)) [some X, some (knD acc), some (.str x)] := by
        simp [ftB, knD, eInDO, Z.keyOf, lk]
      simp only [List.map_cons, forGo, gN]
      rw [show (List.set [some X, some (knD acc), z] 2 (some (D.str x))) = [some X, some (knD acc), some (.str x)] from rfl]
      simp only [this]
    · rw [decide_eq_false h] at lk
      obtain ⟨r, e⟩ := ft_go X l (acc ++ [x]) (some (.str x)) (by simp; omega) (by
        rw [List.nodup_append]
        exact ⟨hn, by simp, fun a ma b mb e => by simp at mb; subst mb e; exact h ma⟩)
      refine ⟨r, ?_⟩
      rw [ftw, if_neg h, ← e]
      have kb : (acc.map (Sum.inr : Str → Key)).length < big := by
        have : (1000 : Nat) ≤ big := big_of (Nat.le_refl _)
        rw [List.length_map]; omega
      have kn : (Sum.inr x : Key) ∉ acc.map (Sum.inr : Str → Key) := fun m => by
        obtain ⟨q, hq, e⟩ := List.mem_map.mp m
        exact h (by rw [← Sum.inr.inj e]; exact hq)
      have ds : dixSet (acc.map .inr) (acc.map fun _ => .bl true) (.str x) (.bl true) = some ((acc ++ [x]).map .inr, (acc ++ [x]).map fun _ => .bl true) := by
        unfold dixSet
        simp only [Z.keyOf, Option.bind_some, kb, if_true, putR_new kn]
        simp
      have : ftB [some X, some (knD acc), some (.str x)] = .ok .nx [some X, some (knD (acc ++ [x])), some (.str x)] := by
        simp only [knD]
        simp [ftB, eInDO, Z.keyOf, lk, ds]
      simp only [List.map_cons, forGo, gN]
      rw [show (List.set [some X, some (knD acc), z] 2 (some (D.str x))) = [some X, some (knD acc), some (.str x)] from rfl]
      simp only [this]
theorem first_twice_ok {X : D} {l : List Str} (hx : Sq X (l.map .str)) (hl : l.length ≤ 900) : B_first_twice [X] = .ok (match ftw [] l with
    | some x => .str x
    | none => .non) [none] := by
  obtain ⟨r, e⟩ := ft_go X l [] none (by simpa using hl) (by simp)
  have it := hx.items
  have e' : forGo (gN 2) ftB (l.map .str) [some X, some (.dic [] []), none] = _ := e
  unfold ftB at e'
  cases h : ftw [] l with
  | none =>
    rw [h] at e'
    simp [B_first_twice, mkB, b_first_twice, it, e']
  | some x =>
    rw [h] at e'
    simp [B_first_twice, mkB, b_first_twice, it, e']
theorem insE_map {α β : Type} (f : Str × α → Str × β) (hf : ∀ x, (f x).1 = x.1) (x : Str × α) : ∀ l, insE (f x) (l.map f) = (insE x l).map f
  | [] => rfl
  | y :: l => by
    simp only [List.map_cons, insE, hf]
    split
    · rw [List.map_cons, insE_map f hf x l]
    · rfl
theorem sortE_map {α β : Type} (f : Str × α → Str × β) (hf : ∀ x, (f x).1 = x.1) : ∀ l : List (Str × α), sortE (l.map f) = (sortE l).map f
  | [] => rfl
  | x :: l => by rw [List.map_cons, sortE, sortE, sortE_map f hf l, insE_map f hf]
structure Rdd (b : Int) (qs : List Pn) : Prop where
  r : Rise qs
  dj : (qs.map (·.2)).Nodup
  nm : ∀ p ∈ qs, NmOk p.1
  bd : ∀ p ∈ qs, p.2.1.natAbs ≤ 100 ∧ p.2.2.natAbs ≤ 100
  b0 : 0 < b
  b6 : b ≤ 6
  l1 : 1 ≤ qs.length
  l5 : qs.length ≤ 5
  bk : BkOk 16 1 (qs.map (ent b))
theorem rdd_of {ps : List Pn} {b : Int} (h : PlOk ps) (hb : 0 < b) (hb6 : b ≤ 6) (h1 : 1 ≤ ps.length) (h5 : ps.length ≤ 5) : Rdd b (sortE ps) ∧ B__law_book [plD ps, .int b] = .ok (.ob 3 (bkl 1 ((sortE ps).map (ent b)))) [none, none] := by
  obtain ⟨e, bk⟩ := lbook_ok h hb hb6 h1 (by omega)
  rw [sortE_map (ent b) fun _ => rfl] at e bk
  have p := sortE_perm ps
  exact ⟨⟨Rise.of_sort h.nd, (p.map (·.2)).nodup_iff.mpr h.dj, fun q m => h.nm q (p.mem_iff.mp m), fun q m => h.bd q (p.mem_iff.mp m), hb, hb6, by rw [p.length_eq]; exact h1, by rw [p.length_eq]; exact h5, bk⟩, e⟩
section
variable {b : Int} {qs : List Pn}
theorem Rdd.lights (h : Rdd b qs) {p : Pn} (m : p ∈ qs) : B_light_right [.ob 3 (bkl 1 (qs.map (ent b))), .str p.1] = .ok (rt (fr b p.2.1)) [none, none] ∧ B_light_left [.ob 3 (bkl 1 (qs.map (ent b))), .str p.1] = .ok (rt (fr b p.2.2)) [none, none] := by
  obtain ⟨e1, e2⟩ := lr_ok h.bk (by omega) (by omega) (List.mem_map_of_mem (f := ent b) m)
  have t1 : tm (ent b p) - Kw.pl (ent b p) = fr b p.2.1 := by
    show fr (2 * b) (p.2.1 + p.2.2) - fr (2 * b) (p.2.2 - p.2.1) = _
    rw [fr_sub, show p.2.1 + p.2.2 - (p.2.2 - p.2.1) = p.2.1 * 2 by omega, Int.mul_comm 2 b, fr_up (by omega)]
  have t2 : tm (ent b p) + Kw.pl (ent b p) = fr b p.2.2 := by
    show fr (2 * b) (p.2.1 + p.2.2) + fr (2 * b) (p.2.2 - p.2.1) = _
    rw [fr_add, show p.2.1 + p.2.2 + (p.2.2 - p.2.1) = p.2.2 * 2 by omega, Int.mul_comm 2 b, fr_up (by omega)]
  rw [t1] at e1
  rw [t2] at e2
  exact ⟨e1, e2⟩
def nmP (p : Pn) : D := .str p.1
theorem nmP_ent : (qs.map (ent b)).map nmD = qs.map nmP := by rw [List.map_map]; rfl
theorem has_es {es : List Ent} {e : Ent} (m : e ∈ es) (r : Ev) : oInC true [(3, B_Book___contains__)] pNotIn (.str e.1) (.ob 3 (bkl 1 es)) r = .ok (.bl false) r := by
  have h2 : inV (.str e.1) (es.map fun e => V.str e.1) = true := by
    unfold inV
    rw [List.any_map]
    exact List.any_eq_true.mpr ⟨e, m, by simp [eqV]⟩
  have h3 : pIn (.str e.1) (.tup (es.map nmD)) = some (.bl true) := by simp [pIn, pInB, itemsOf, toVs_names, toV, h2]
  have h4 : B_Book___contains__ [.ob 3 (bkl 1 es), .str e.1] = .ok (.bl true) [none, none] := by
    simp [B_Book___contains__, mkB, b_Book___contains__, bkl, h3]
  have e1 : List.lookup 3 [(3, B_Book___contains__)] = some B_Book___contains__ := rfl
  simp only [oInC, e1, h4]
  rfl
theorem has_ok {c : List Pn} (m : ∀ p ∈ c, p ∈ qs) {p : Pn} (mp : p ∈ c) (r : Ev) : oInC true [(3, B_Book___contains__)] pNotIn (.str p.1) (.ob 3 (bkl 1 (qs.map (ent b)))) r = .ok (.bl false) r := has_es (List.mem_map_of_mem (f := ent b) (m p mp)) r
theorem listed_ok {X : D} {l : List D} (h : Sq X l) : B_is_listed [X] = .ok (.bl true) [none] := by
  rcases h with rfl | rfl <;> simp [B_is_listed, mkB, b_is_listed, kT, kAny, tyN]
theorem need_some_ok {c : List Pn} {X : D} (h : Rdd b qs) (hx : Sq X (c.map nmP)) (m : ∀ p ∈ c, p ∈ qs) (hn : (c.map (·.1)).Nodup) (h1 : 1 ≤ c.length) (hl : c.length ≤ 900) : B_need_some [.ob 3 (bkl 1 (qs.map (ent b))), X] = .ok .non [none, none] := by
  have li := listed_ok hx
  have it := hx.items
  have ln : pLen [X] = some (.int (c.length : Nat)) := by
    rcases hx with rfl | rfl <;> simp [pLen, itemsOf]
  have z := eq_zero_f h1
  have hx2 : Sq X ((c.map (·.1)).map .str) := by rw [List.map_map]; exact hx
  have ft := first_twice_ok hx2 (by simpa using hl)
  rw [ftw_nodup _ [] (by simpa using hn)] at ft
  have has := fun (p : Pn) (mp : p ∈ c) (r : Ev) => has_ok (b := b) m mp r
  generalize D.ob 3 (bkl 1 (qs.map (ent b))) = BK at *
  obtain ⟨r', ⟨y, er⟩, e⟩ := for_l (g := gN 2) (b := sIf (tV (eB (oInC true [(3, B_Book___contains__)] pNotIn) (eV 2) (eV 0))) sNo sNil) (f := nmP) (fun pre r => ∃ y, r = [some BK, some X, y, none]) c (fun pre p post ep r ⟨y, er⟩ => by
    subst er
    have q := has p (by rw [ep]; simp)
    exact ⟨[some BK, some X, some (.str p.1), none], [some BK, some X, some (.str p.1), none], rfl, by simp [q], _, rfl⟩) [some BK, some X, none, none] ⟨none, rfl⟩
  subst er
  simp [B_need_some, mkB, b_need_some, li, ln, z, it, e, ft]
end
end Kw
namespace Kw
open PySem PySem.Spec PyProof.Rows L2 Z
def posQ (x : Rat) : List Rat → Nat
  | [] => 0
  | y :: l => if y = x then 0 else posQ x l + 1
theorem pos_le {x y : Rat} : ∀ {l : List Rat}, l.Pairwise (· < ·) → x ∈ l → y ∈ l → (posQ x l ≤ posQ y l ↔ x ≤ y)
  | z :: l, h, mx, my => by
    obtain ⟨h1, h2⟩ := List.pairwise_cons.mp h
    unfold posQ
    by_cases ex : z = x
    · rw [if_pos ex]
      refine ⟨fun _ => ?_, fun _ => Nat.zero_le _⟩
      rcases List.mem_cons.mp my with e | m
      · rw [e, ex]; grind
      · have := h1 y m
        grind
    · rw [if_neg ex]
      have mx : x ∈ l := (List.mem_cons.mp mx).resolve_left fun e => ex e.symm
      by_cases ey : z = y
      · rw [if_pos ey]
        have := h1 x mx
        constructor
        · intro h; omega
        · intro h; grind
      · rw [if_neg ey]
        have my : y ∈ l := (List.mem_cons.mp my).resolve_left fun e => ey e.symm
        have := pos_le h2 mx my
        exact ⟨fun h => this.mp (by omega), fun h => by have := this.mpr h; omega⟩
theorem fd_rl {p q : Rat} (h : p ≠ q) : fDiff (rl p) (rl q) = true := by
  have : p.num ≠ q.num ∨ p.den ≠ q.den := by
    refine Classical.byContradiction fun n => h ?_
    have n := not_or.mp n
    exact Rat.ext (Classical.byContradiction n.1) (Classical.byContradiction n.2)
  unfold rl
  simp only [fDiff, Bool.or_eq_true, bne_iff_ne, Bool.or_false]
  rcases this with a | a
  · exact .inl a
  · exact .inr (fun e => a (Int.ofNat.inj e))
theorem in_rt (p q : Rat) : inI [(0, B_Ratio___eq__)] ["int"] [0] (rt p) (rt q) = some (decide (p = q)) := by
  have rk1 : rk ["int"] [0] (rt q) = true := rk_R (.rt q) []
  have e1 : List.lookup 0 [(0, B_Ratio___eq__)] = some B_Ratio___eq__ := rfl
  have e := eq_ok p q
  unfold inI
  simp only [rk1, if_true, e1, e]
  by_cases h : p = q
  · rw [decide_eq_true h]
  · rw [decide_eq_false h]
    simp only [fd_rl h, and_self, if_true]
theorem idx_rt {x : Rat} : ∀ {l : List Rat} {n : Nat}, x ∈ l → idxL [(0, B_Ratio___eq__)] ["int"] [0] (rt x) (l.map rt) n = some (n + posQ x l)
  | y :: l, n, m => by
    rw [List.map_cons, idxL, in_rt, posQ]
    by_cases h : y = x
    · rw [decide_eq_true h, if_pos h]
      rfl
    · rw [decide_eq_false h, if_neg h]
      have m : x ∈ l := (List.mem_cons.mp m).resolve_left fun e => h e.symm
      show idxL _ _ _ _ _ (n + 1) = _
      rw [idx_rt m]
      congr 1
      omega
theorem ixg_is {tb : List (Nat × Beh)} {ts : List String} {cs : List Nat} {f g : M D} {r r1 r2 : Ev} {l : List D} {y : D} {j : Nat} (hf : f r = .ok (.ftp l) r1) (hg : g r1 = .ok y r2) (h : idxL tb ts cs y l 0 = some j) : eIndexG tb ts cs f g r = .ok (.int (j : Nat)) r2 := by
  simp only [eIndexG, hf, hg, Out.bind, h]
section
variable (b : Int) (qs : List Pn)
def R1 : List Rat := distQ (qs.map fun p => fr b p.2.1)
def R2 : List Rat := distQ (qs.map fun p => fr b p.2.2)
def rkD (p : Pn) : D := .tup [.int ((posQ (fr b p.2.1) (R1 b qs) : Nat) + 1), .int ((posQ (fr b p.2.2) (R2 b qs) : Nat) + 1)]
def lgl : List D := [.tup (qs.map nmP), .ftp ((R1 b qs).map rt), .ftp ((R2 b qs).map rt), .dic (ky qs) (qs.map (rkD b qs)), .tup [.int ((R1 b qs).length : Nat), .int ((R2 b qs).length : Nat)]]
end
def li1 : M Fl := (sAs 2 (eLk (eDc [4] (itL (eFl [(3, 1), (26, 0)] (eV 1))) (gN 4) tY (eV 4) (eCd B_light_right [] (aCons (eV 1) (aCons (eV 4) aNil))))))
def li2 : M Fl := (sAs 3 (eLk (eDc [4] (itL (eFl [(3, 1), (26, 0)] (eV 1))) (gN 4) tY (eV 4) (eCd B_light_left [] (aCons (eV 1) (aCons (eV 4) aNil))))))
def li3 : M Fl := (sFl 0 [(26, 0)] (eFl [(3, 1), (26, 0)] (eV 1)))
def li4 : M Fl := (sFl 0 [(26, 1)] (eCd B_unlike_ascending [] (aCons (eLc [4] (itL (eFl [(3, 1), (26, 0)] (eV 1))) (gN 4) tY (eB (oP pDix) (eV 2) (eV 4))) aNil)))
def li5 : M Fl := (sFl 0 [(26, 2)] (eCd B_unlike_ascending [] (aCons (eLc [4] (itL (eFl [(3, 1), (26, 0)] (eV 1))) (gN 4) tY (eB (oP pDix) (eV 3) (eV 4))) aNil)))
def li6 : M Fl := (sRanks (fun _ => true) 0 [(26, 3)] (itL (eFl [(3, 1), (26, 0)] (eV 1))) (gN 4) (eN pTup (aCons (eB (oP pAdd) (eIndexG [(0, B_Ratio___eq__)] ["int"] [0] (eFl [(26, 1)] (eV 0)) (eB (oP pDix) (eV 2) (eV 4))) (eK (.int 1))) (aCons (eB (oP pAdd) (eIndexG [(0, B_Ratio___eq__)] ["int"] [0] (eFl [(26, 2)] (eV 0)) (eB (oP pDix) (eV 3) (eV 4))) (eK (.int 1))) aNil))) (eV 4))
def li7 : M Fl := (sFl 0 [(26, 4)] (eN pTup (aCons (eLenF (eFl [(26, 1)] (eS (fun _ => true) 0))) (aCons (eLenF (eFl [(26, 2)] (eS (fun _ => true) 0))) aNil))))
theorem lis : b_Lights___init__ = (sSeq li1 (sSeq li2 (sSeq li3 (sSeq li4 (sSeq li5 (sSeq li6 li7)))))) := rfl
theorem den60 {b : Int} (hb : 0 < b) (hb6 : b ≤ 6) (z : Int) : (fr b z).den ∣ 60 := by
  have h1 := (num_le (n := z) hb).2
  have h2 := (Rat.divInt z b).den_pos
  show (Rat.divInt z b).den ∣ 60
  generalize (Rat.divInt z b).den = k at *
  have : k ≤ 6 := by omega
  have : k = 1 ∨ k = 2 ∨ k = 3 ∨ k = 4 ∨ k = 5 ∨ k = 6 := by omega
  rcases this with h | h | h | h | h | h <;> subst h <;> decide
def rnF : M D := (eN pTup (aCons (eB (oP pAdd) (eIndexG [(0, B_Ratio___eq__)] ["int"] [0] (eFl [(26, 1)] (eV 0)) (eB (oP pDix) (eV 2) (eV 4))) (eK (.int 1))) (aCons (eB (oP pAdd) (eIndexG [(0, B_Ratio___eq__)] ["int"] [0] (eFl [(26, 2)] (eV 0)) (eB (oP pDix) (eV 3) (eV 4))) (eK (.int 1))) aNil)))
theorem rn_go {f g : Pn → Rat} {qs : List Pn} {N BK L1 L2 : D} {A B : List Rat} (hn : (qs.map (·.1)).Nodup) (hA : ∀ p ∈ qs, f p ∈ A) (hB : ∀ p ∈ qs, g p ∈ B) (d1 : ∀ p ∈ qs, pDix L1 (.str p.1) = some (rt (f p))) (d2 : ∀ p ∈ qs, pDix L2 (.str p.1) = some (rt (g p))) (hl : qs.length ≤ 60) :
    ∀ (post pre : List Pn) (z : Option D), qs = pre ++ post → ∃ z', rnkGo (gN 4) rnF (eV 4) (post.map nmP) (ky pre) (pre.map fun p => .tup [.int ((posQ (f p) A : Nat) + 1), .int ((posQ (g p) B : Nat) + 1)]) [some (.ob 26 [N, .ftp (A.map rt), .ftp (B.map rt)]), some BK, some L1, some L2, z] =
      some (ky qs, qs.map (fun p => .tup [.int ((posQ (f p) A : Nat) + 1), .int ((posQ (g p) B : Nat) + 1)]), [some (.ob 26 [N, .ftp (A.map rt), .ftp (B.map rt)]), some BK, some L1, some L2, z'])
  | [], pre, z, e => by
    rw [List.append_nil] at e
    subst e
    exact ⟨z, rfl⟩
  | p :: post, pre, z, e => by
    have mp : p ∈ qs := by rw [e]; simp
    obtain ⟨z', ih⟩ := rn_go hn hA hB d1 d2 hl post (pre ++ [p]) (some (.str p.1)) (by rw [e]; simp)
    refine ⟨z', ?_⟩
    rw [← ih]
    have x1 := idx_rt (n := 0) (hA p mp)
    have x2 := idx_rt (n := 0) (hB p mp)
    rw [Nat.zero_add] at x1 x2
    have h2 : (2 : Nat) ≤ big := big_of (by omega)
    have kb : (ky pre).length < big := by
      have h1 : (1000 : Nat) ≤ big := big_of (Nat.le_refl _)
      have h2 : pre.length ≤ qs.length := by rw [e]; simp
      rw [ky_len]; omega
    have kn : (Sum.inr p.1 : Key) ∉ ky pre := fun m => by
      obtain ⟨q, hq, z⟩ := List.mem_map.mp m
      have z : q.1 = p.1 := Sum.inr.inj z
      rw [e, List.map_append, List.map_cons] at hn
      exact (List.nodup_append.mp hn).2.2 q.1 (List.mem_map_of_mem hq) p.1 (by simp) z
    have d1 := d1 p mp
    have d2 := d2 p mp
    generalize hF : (fun p : Pn => D.tup [.int ((posQ (f p) A : Nat) + 1), .int ((posQ (g p) B : Nat) + 1)]) = F at *
    have Fp : F p = .tup [.int ((posQ (f p) A : Nat) + 1), .int ((posQ (g p) B : Nat) + 1)] := by rw [← hF]
    have ev : rnF [some (.ob 26 [N, .ftp (A.map rt), .ftp (B.map rt)]), some BK, some L1, some L2, some (.str p.1)] = .ok (F p) [some (.ob 26 [N, .ftp (A.map rt), .ftp (B.map rt)]), some BK, some L1, some L2, some (.str p.1)] := by
      rw [Fp]
      have g1 : eIndexG [(0, B_Ratio___eq__)] ["int"] [0] (eFl [(26, 1)] (eV 0)) (eB (oP pDix) (eV 2) (eV 4)) [some (.ob 26 [N, .ftp (A.map rt), .ftp (B.map rt)]), some BK, some L1, some L2, some (.str p.1)] = _ := ixg_is (r1 := [some (.ob 26 [N, .ftp (A.map rt), .ftp (B.map rt)]), some BK, some L1, some L2, some (.str p.1)]) (by simp) (by simp [d1]; first | rfl | exact ⟨rfl, rfl⟩) x1
      have g2 : eIndexG [(0, B_Ratio___eq__)] ["int"] [0] (eFl [(26, 2)] (eV 0)) (eB (oP pDix) (eV 3) (eV 4)) [some (.ob 26 [N, .ftp (A.map rt), .ftp (B.map rt)]), some BK, some L1, some L2, some (.str p.1)] = _ := ixg_is (r1 := [some (.ob 26 [N, .ftp (A.map rt), .ftp (B.map rt)]), some BK, some L1, some L2, some (.str p.1)]) (by simp) (by simp [d2]; first | rfl | exact ⟨rfl, rfl⟩) x2
      generalize posQ (f p) A = a1 at *
      generalize posQ (g p) B = a2 at *
      simp [rnF, g1, g2, h2]
    have ds : dixSet (ky pre) (pre.map F) (.str p.1) (F p) = some (ky (pre ++ [p]), (pre ++ [p]).map F) := by
      unfold dixSet
      simp only [Z.keyOf, Option.bind_some, kb, if_true, putR_new kn]
      simp [ky]
    have v4 : eV 4 [some (.ob 26 [N, .ftp (A.map rt), .ftp (B.map rt)]), some BK, some L1, some L2, some (.str p.1)] = .ok (.str p.1) [some (.ob 26 [N, .ftp (A.map rt), .ftp (B.map rt)]), some BK, some L1, some L2, some (.str p.1)] := rfl
    have g4 : gN 4 (nmP p) [some (.ob 26 [N, .ftp (A.map rt), .ftp (B.map rt)]), some BK, some L1, some L2, z] = some [some (.ob 26 [N, .ftp (A.map rt), .ftp (B.map rt)]), some BK, some L1, some L2, some (.str p.1)] := rfl
    rw [List.map_cons, rnkGo, g4]
    simp only [ev, v4, ds]
theorem lights_ok {b : Int} {qs : List Pn} (h : Rdd b qs) : B_Lights___init__ [.ob 26 [], .ob 3 (bkl 1 (qs.map (ent b)))] = .ok .non [some (.ob 26 (lgl b qs)), none] := by
  have hn := h.r.nodup
  have lt := fun (p : Pn) (m : p ∈ qs) => h.lights m
  have nms : (bkl 1 (qs.map (ent b)))[1]? = some (.tup (qs.map nmP)) := by
    show some (D.tup ((qs.map (ent b)).map nmD)) = _
    rw [nmP_ent]
  have bl : (qs.map nmP).length ≤ big := by
    have := h.l5
    simp only [List.length_map]
    exact big_of (by omega)
  have hA : ∀ p ∈ qs, fr b p.2.1 ∈ R1 b qs := fun p m => mem_distQ.mpr (List.mem_map_of_mem (f := fun p : Pn => fr b p.2.1) m)
  have hB : ∀ p ∈ qs, fr b p.2.2 ∈ R2 b qs := fun p m => mem_distQ.mpr (List.mem_map_of_mem (f := fun p : Pn => fr b p.2.2) m)
  have u1 := unlike_asc (qs := qs.map fun p => fr b p.2.1) (M := 60) (by omega) (by omega) (fun q m => by
    obtain ⟨p, _, rfl⟩ := List.mem_map.mp m
    exact den60 h.b0 h.b6 _) (by have := h.l5; simp; omega)
  have u2 := unlike_asc (qs := qs.map fun p => fr b p.2.2) (M := 60) (by omega) (by omega) (fun q m => by
    obtain ⟨p, _, rfl⟩ := List.mem_map.mp m
    exact den60 h.b0 h.b6 _) (by have := h.l5; simp; omega)
  have e1 : (distQ (qs.map fun p => fr b p.2.1)) = R1 b qs := rfl
  have e2 : (distQ (qs.map fun p => fr b p.2.2)) = R2 b qs := rfl
  rw [List.map_map, e1] at u1
  rw [List.map_map, e2] at u2
  have l5 := h.l5
  show B_Lights___init__ [.ob 26 [], .ob 3 (bkl 1 (qs.map (ent b)))] = .ok .non [some (.ob 26 [.tup (qs.map nmP), .ftp ((R1 b qs).map rt), .ftp ((R2 b qs).map rt), .dic (ky qs) (qs.map fun p => .tup [.int ((posQ (fr b p.2.1) (R1 b qs) : Nat) + 1), .int ((posQ (fr b p.2.2) (R2 b qs) : Nat) + 1)]), .tup [.int ((R1 b qs).length : Nat), .int ((R2 b qs).length : Nat)]]), none]
  have d1 : ∀ p ∈ qs, pDix (.dkl (ky qs) (qs.map fun p => rt (fr b p.2.1))) (.str p.1) = some (rt (fr b p.2.1)) := fun p m => dix_at (f := fun p : Pn => rt (fr b p.2.1)) hn m
  have d2 : ∀ p ∈ qs, pDix (.dkl (ky qs) (qs.map fun p => rt (fr b p.2.2))) (.str p.1) = some (rt (fr b p.2.2)) := fun p m => dix_at (f := fun p : Pn => rt (fr b p.2.2)) hn m
  obtain ⟨z', rg⟩ := rn_go (f := fun p => fr b p.2.1) (g := fun p => fr b p.2.2) (N := .tup (qs.map nmP)) (BK := .ob 3 (bkl 1 (qs.map (ent b)))) hn hA hB d1 d2 (by omega) qs [] none rfl
  generalize bkl 1 (qs.map (ent b)) = BK at *
  generalize R1 b qs = A at *
  generalize R2 b qs = B at *
  have itm : ∀ (S : D) (z2 z3 : Option D), itL (eFl [(3, 1), (26, 0)] (eV 1)) [some S, some (.ob 3 BK), z2, z3, none] = .ok (qs.map nmP) [some S, some (.ob 3 BK), z2, z3, none] := fun S z2 z3 => by
    simp [nms, itemsOf]
  have dcl : ∀ (Bh : Beh) (f : Pn → Rat) (S : D) (z2 z3 : Option D), (∀ p ∈ qs, Bh [.ob 3 BK, .str p.1] = .ok (rt (f p)) [none, none]) →
      eLk (eDc [4] (itL (eFl [(3, 1), (26, 0)] (eV 1))) (gN 4) tY (eV 4) (eCd Bh [] (aCons (eV 1) (aCons (eV 4) aNil)))) [some S, some (.ob 3 BK), z2, z3, none] = .ok (.dkl (ky qs) (qs.map fun p => rt (f p))) [some S, some (.ob 3 BK), z2, z3, none] := fun Bh f S z2 z3 hB => by
    have go := dc_pure (vs := [4]) (g := gN 4) (t := tY) (kf := eV 4) (vf := eCd Bh [] (aCons (eV 1) (aCons (eV 4) aNil))) (r := [some S, some (.ob 3 BK), z2, z3, none]) (ds := qs.map nmP) (kvs := qs.map fun p => ((.inr p.1 : Key), rt (f p))) (All2.of_map _ _ qs fun p m =>
      ⟨[some S, some (.ob 3 BK), z2, z3, some (.str p.1)], [some S, some (.ob 3 BK), z2, z3, some (.str p.1)], [some S, some (.ob 3 BK), z2, z3, some (.str p.1)], .str p.1, rfl, rfl, rfl, rfl, by simp [hB p m], rfl⟩) (by
      have : (qs.map fun p => ((.inr p.1 : Key), rt (f p))).map (·.1) = (qs.map (·.1)).map (Sum.inr : Str → Key) := by rw [List.map_map, List.map_map]; rfl
      rw [this]
      exact List.pairwise_map.mpr (hn.imp fun {a b} n e => n (Sum.inr.inj e)))
    have k1 : (qs.map fun p => ((.inr p.1 : Key), rt (f p))).map (·.1) = ky qs := by rw [List.map_map]; rfl
    have k2 : (qs.map fun p => ((.inr p.1 : Key), rt (f p))).map (·.2) = qs.map fun p => rt (f p) := by rw [List.map_map]; rfl
    rw [k1, k2] at go
    simp only [eLk, eDc, itm S z2 z3, Out.bind, bl, if_true, go, lkOf, liftO]
  have s1 : li1 [some (.ob 26 []), some (.ob 3 BK), none, none, none] = .ok .nx [some (.ob 26 []), some (.ob 3 BK), some (.dkl (ky qs) (qs.map fun p => rt (fr b p.2.1))), none, none] := as_is (dcl B_light_right (fun p => fr b p.2.1) _ _ _ fun p m => (lt p m).1)
  obtain ⟨L1, hL1⟩ : ∃ L1, L1 = D.dkl (ky qs) (qs.map fun p => rt (fr b p.2.1)) := ⟨_, rfl⟩
  rw [← hL1] at s1 d1 rg
  have s2 : li2 [some (.ob 26 []), some (.ob 3 BK), some L1, none, none] = .ok .nx [some (.ob 26 []), some (.ob 3 BK), some L1, some (.dkl (ky qs) (qs.map fun p => rt (fr b p.2.2))), none] := as_is (dcl B_light_left (fun p => fr b p.2.2) _ _ _ fun p m => (lt p m).2)
  obtain ⟨L2, hL2⟩ : ∃ L2, L2 = D.dkl (ky qs) (qs.map fun p => rt (fr b p.2.2)) := ⟨_, rfl⟩
  rw [← hL2] at s2 d2 rg
  have s3 : li3 [some (.ob 26 []), some (.ob 3 BK), some L1, some L2, none] = .ok .nx [some (.ob 26 [.tup (qs.map nmP)]), some (.ob 3 BK), some L1, some L2, none] := by
    generalize qs.map nmP = NM at *
    simp [li3, nms]
  have lcl : ∀ (L : D) (i : Nat) (f : Pn → Rat) (S : D), (∀ p ∈ qs, pDix L (.str p.1) = some (rt (f p))) → (∀ z, ([some S, some (.ob 3 BK), some L1, some L2, z] : Ev)[i]? = some (some L)) →
      eLc [4] (itL (eFl [(3, 1), (26, 0)] (eV 1))) (gN 4) tY (eB (oP pDix) (eV i) (eV 4)) [some S, some (.ob 3 BK), some L1, some L2, none] = .ok (.lst (qs.map fun p => rt (f p))) [some S, some (.ob 3 BK), some L1, some L2, none] := fun L i f S hd hi => by
    have go := lc_pure (vs := [4]) (g := gN 4) (t := tY) (f := eB (oP pDix) (eV i) (eV 4)) (r := [some S, some (.ob 3 BK), some L1, some L2, none]) (ds := qs.map nmP) (outs := qs.map fun p => rt (f p)) (All2.of_map _ _ qs fun p m =>
      ⟨[some S, some (.ob 3 BK), some L1, some L2, some (.str p.1)], [some S, some (.ob 3 BK), some L1, some L2, some (.str p.1)], rfl, rfl, by
        have := hi (some (.str p.1))
        simp [this, hd p m], rfl⟩)
    simp only [eLc, itm S (some L1) (some L2), Out.bind, bl, if_true, go]
  have c1 := lcl L1 2 (fun p => fr b p.2.1) (.ob 26 [.tup (qs.map nmP)]) d1 fun _ => rfl
  have c2 := lcl L2 3 (fun p => fr b p.2.2) (.ob 26 [.tup (qs.map nmP), .ftp (A.map rt)]) d2 fun _ => rfl
  have u1 : B_unlike_ascending [.lst (qs.map fun p => rt (fr b p.2.1))] = .ok (.ftp (A.map rt)) [none] := u1
  have u2 : B_unlike_ascending [.lst (qs.map fun p => rt (fr b p.2.2))] = .ok (.ftp (B.map rt)) [none] := u2
  have s4 : li4 [some (.ob 26 [.tup (qs.map nmP)]), some (.ob 3 BK), some L1, some L2, none] = .ok .nx [some (.ob 26 [.tup (qs.map nmP), .ftp (A.map rt)]), some (.ob 3 BK), some L1, some L2, none] := by
    rw [li4]
    simp only [sFl, eCd, aCons, c1, Out.bind, aNil, List.append_nil, u1]
    rfl
  have s5 : li5 [some (.ob 26 [.tup (qs.map nmP), .ftp (A.map rt)]), some (.ob 3 BK), some L1, some L2, none] = .ok .nx [some (.ob 26 [.tup (qs.map nmP), .ftp (A.map rt), .ftp (B.map rt)]), some (.ob 3 BK), some L1, some L2, none] := by
    rw [li5]
    simp only [sFl, eCd, aCons, c2, Out.bind, aNil, List.append_nil, u2]
    rfl
  have s6 : li6 [some (.ob 26 [.tup (qs.map nmP), .ftp (A.map rt), .ftp (B.map rt)]), some (.ob 3 BK), some L1, some L2, none] = .ok .nx [some (.ob 26 [.tup (qs.map nmP), .ftp (A.map rt), .ftp (B.map rt), .dic (ky qs) (qs.map fun p => .tup [.int ((posQ (fr b p.2.1) A : Nat) + 1), .int ((posQ (fr b p.2.2) B : Nat) + 1)])]), some (.ob 3 BK), some L1, some L2, z'] := by
    have i := itm (.ob 26 [.tup (qs.map nmP), .ftp (A.map rt), .ftp (B.map rt)]) (some L1) (some L2)
    have rg : rnkGo (gN 4) rnF (eV 4) (qs.map nmP) [] [] [some (.ob 26 [.tup (qs.map nmP), .ftp (A.map rt), .ftp (B.map rt)]), some (.ob 3 BK), some L1, some L2, none] = _ := rg
    have e : li6 = sRanks (fun _ => true) 0 [(26, 3)] (itL (eFl [(3, 1), (26, 0)] (eV 1))) (gN 4) rnF (eV 4) := rfl
    rw [e]
    unfold sRanks
    have g0 : ([some (D.ob 26 [.tup (qs.map nmP), .ftp (A.map rt), .ftp (B.map rt)]), some (.ob 3 BK), some L1, some L2, none] : Ev)[0]? = some (some (D.ob 26 [.tup (qs.map nmP), .ftp (A.map rt), .ftp (B.map rt)])) := rfl
    simp only [g0]
    rw [if_pos ⟨trivial, rfl⟩]
    simp only [i, rg]
    rfl
  generalize hRK : D.dic (ky qs) (qs.map fun p => .tup [.int ((posQ (fr b p.2.1) A : Nat) + 1), .int ((posQ (fr b p.2.2) B : Nat) + 1)]) = RK at *
  have s7 : li7 [some (.ob 26 [.tup (qs.map nmP), .ftp (A.map rt), .ftp (B.map rt), RK]), some (.ob 3 BK), some L1, some L2, z'] = .ok .nx [some (.ob 26 [.tup (qs.map nmP), .ftp (A.map rt), .ftp (B.map rt), RK, .tup [.int (A.length : Nat), .int (B.length : Nat)]]), some (.ob 3 BK), some L1, some L2, z'] := by
    have h2 : (2 : Nat) ≤ big := big_of (by omega)
    generalize qs.map nmP = NM at *
    have la : (A.map rt).length = A.length := by simp
    have lb : (B.map rt).length = B.length := by simp
    generalize A.map rt = AA at *
    generalize B.map rt = BB at *
    simp [li7, eLenF, h2, la, lb]
  have fin : b_Lights___init__ [some (.ob 26 []), some (.ob 3 BK), none, none, none] = .ok .nx [some (.ob 26 [.tup (qs.map nmP), .ftp (A.map rt), .ftp (B.map rt), RK, .tup [.int (A.length : Nat), .int (B.length : Nat)]]), some (.ob 3 BK), some L1, some L2, z'] := by
    rw [lis, sSeq_nx s1, sSeq_nx s2, sSeq_nx s3, sSeq_nx s4, sSeq_nx s5, sSeq_nx s6]
    exact s7
  have z := mkB_nx (n := 2) (m := 5) (io := [0]) (b := b_Lights___init__) (ds := [.ob 26 [], .ob 3 BK]) rfl rfl fin
  rw [B_Lights___init__, z]
  rfl
end Kw
namespace Kw
open PySem PySem.Spec PyProof.Rows L2 Z
theorem lex_refl : ∀ l : List (Int ⊕ List Nat), PyProof.Rows.lexLt PyProof.Rows.itemOrd l l = false := fun l => by
  have := PySem.W.lex_pre l [] []
  rw [List.append_nil] at this
  rw [this]
  rfl
theorem lt_self (d : PyData) : PySem.W.dataLt d d = false := lex_refl _
theorem lt_int {a a' : Int} {xs ys : List PyData} (h : a ≠ a') : PySem.W.dataLt (.tuple (.int a :: xs)) (.tuple (.int a' :: ys)) = decide (a < a') := by
  rw [← PySem.W.dataLt_int]
  show PyProof.Rows.lexLt PyProof.Rows.itemOrd (.inl 1 :: .inl a :: PySem.W.keyToksAll xs) (.inl 1 :: .inl a' :: PySem.W.keyToksAll ys) = PyProof.Rows.lexLt PyProof.Rows.itemOrd [.inl a] [.inl a']
  have := PySem.W.lex_pre [.inl 1] (.inl a :: PySem.W.keyToksAll xs) (.inl a' :: PySem.W.keyToksAll ys)
  rw [show (Sum.inl 1 :: Sum.inl a :: PySem.W.keyToksAll xs : List (Int ⊕ List Nat)) = [.inl 1] ++ (.inl a :: PySem.W.keyToksAll xs) from rfl, show (Sum.inl 1 :: Sum.inl a' :: PySem.W.keyToksAll ys : List (Int ⊕ List Nat)) = [.inl 1] ++ (.inl a' :: PySem.W.keyToksAll ys) from rfl, this]
  exact PySem.W.lex_atom (fun e => h (Sum.inl.inj e)) _ _
theorem lt_int_eq {a : Int} {xs ys : List PyData} : PySem.W.dataLt (.tuple (.int a :: xs)) (.tuple (.int a :: ys)) = PySem.W.dataLt (.tuple xs) (.tuple ys) :=
  PySem.W.lex_pre [.inl 1, .inl a] (PySem.W.keyToksAll xs) (PySem.W.keyToksAll ys)
def lx (k m : Int × Int) : Prop := k.1 < m.1 ∨ (k.1 = m.1 ∧ k.2 < m.2)
instance (k m : Int × Int) : Decidable (lx k m) := inferInstanceAs (Decidable (_ ∨ _))
theorem max_go {α : Type} {P : α → PyData} {K : α → Int × Int} : ∀ (c : List α) (x0 : α), (∀ x ∈ x0 :: c, ∀ y ∈ x0 :: c, PySem.W.dataLt (P x) (P y) = decide (lx (K x) (K y))) → ∃ m ∈ x0 :: c, PySem.W.maxD (P x0) (c.map P) = P m ∧ ∀ y ∈ x0 :: c, ¬ lx (K m) (K y)
  | [], x0, _ => ⟨x0, by simp, rfl, fun y m => by
    simp at m
    subst m
    unfold lx
    omega⟩
  | y :: c, x0, h => by
    have h0 := h x0 (by simp) y (by simp)
    by_cases hl : lx (K x0) (K y)
    · rw [decide_eq_true hl] at h0
      obtain ⟨m, mm, e, hm⟩ := max_go (P := P) (K := K) c y fun a ma b mb => h a (List.mem_cons_of_mem _ ma) b (List.mem_cons_of_mem _ mb)
      refine ⟨m, List.mem_cons_of_mem _ mm, ?_, fun z mz => ?_⟩
      · rw [← e]
        show (c.map P).foldl _ (if PySem.W.dataLt (P x0) (P y) = true then P y else P x0) = _
        rw [h0, if_pos rfl]
        rfl
      · rcases List.mem_cons.mp mz with e | mz
        · subst e
          have := hm y (by simp)
          unfold lx at *
          omega
        · exact hm z mz
    · rw [decide_eq_false hl] at h0
      obtain ⟨m, mm, e, hm⟩ := max_go (P := P) (K := K) c x0 fun a ma b mb => h a (by
        rcases List.mem_cons.mp ma with z | z
        · rw [z]; simp
        · simp [z]) b (by
        rcases List.mem_cons.mp mb with z | z
        · rw [z]; simp
        · simp [z])
      refine ⟨m, by
        rcases List.mem_cons.mp mm with z | z
        · rw [z]; simp
        · simp [z], ?_, fun z mz => ?_⟩
      · rw [← e]
        show (c.map P).foldl _ (if PySem.W.dataLt (P x0) (P y) = true then P y else P x0) = _
        rw [h0, if_neg (by simp)]
        rfl
      · rcases List.mem_cons.mp mz with e | mz
        · exact hm z (by rw [e]; simp)
        · rcases List.mem_cons.mp mz with e | mz
          · subst e
            have := hm x0 (by simp)
            unfold lx at *
            omega
          · exact hm z (List.mem_cons_of_mem _ mz)
theorem toPs_map {α : Type} {g : α → D} {P : α → PyData} : ∀ {c : List α}, (∀ x ∈ c, toP (g x) = some (P x)) → toPs (c.map g) = some (c.map P)
  | [], _ => rfl
  | x :: c, h => by
    rw [List.map_cons, toPs, h x (by simp), Option.bind_some, toPs_map fun y m => h y (List.mem_cons_of_mem _ m)]
    rfl
theorem max_is {α : Type} {g : α → D} {P : α → PyData} {K : α → Int × Int} {c : List α} (hn : c ≠ []) (hl : c.length ≤ 900) (hP : ∀ x ∈ c, toP (g x) = some (P x) ∧ isTF (g x) = true ∧ SeqAt.shaped (P x) = true ∧ isTn (P x) = true) (ha : ∀ x ∈ c, ∀ y ∈ c, PySem.W.alike (P x) (P y) = true)
    (hk : ∀ x ∈ c, ∀ y ∈ c, PySem.W.dataLt (P x) (P y) = decide (lx (K x) (K y))) : ∃ m ∈ c, pMaxD [.lst (c.map g)] = some (g m) ∧ ∀ y ∈ c, ¬ lx (K m) (K y) := by
  match c, hn with
  | x0 :: c, _ =>
    obtain ⟨m, mm, e, hm⟩ := max_go c x0 hk
    refine ⟨m, mm, ?_, hm⟩
    have t := toPs_map (c := x0 :: c) fun x mx => (hP x mx).1
    have tf : ((x0 :: c).map g).all isTF = true := by
      rw [List.all_map]
      exact List.all_eq_true.mpr fun x mx => (hP x mx).2.1
    have ok : okS (P x0 :: c.map P) = true := by
      unfold okS
      have e1 : (P x0 :: c.map P) = (x0 :: c).map P := rfl
      rw [e1, List.all_map, List.all_map, List.all_map]
      simp only [Bool.and_eq_true, Bool.or_eq_true, decide_eq_true_eq, List.all_eq_true]
      refine ⟨⟨⟨by simp at hl ⊢; omega, fun x mx => (hP x mx).2.2.1⟩, fun x mx => List.all_eq_true.mpr fun y my => ?_⟩, .inl fun x mx => (hP x mx).2.2.2⟩
      obtain ⟨z, mz, rfl⟩ := List.mem_map.mp my
      exact ha x mx z mz
    have f := ofP_to (hP m mm).2.1 (hP m mm).1
    simp only [pMaxD, lsOf, Option.bind_some]
    rw [if_pos tf, t]
    simp only [Option.bind_some, List.map_cons, ok, if_true, e, f]
def T3 (a b : Int) (n : Str) : D := .tup [.int a, .int b, .str n]
theorem T3_to (a b : Int) {n : Str} (h : PyData.strOk n = true) : toP (T3 a b n) = some (.tuple [.int a, .int b, .str n]) ∧ isTF (T3 a b n) = true ∧ SeqAt.shaped (.tuple [.int a, .int b, .str n]) = true ∧ isTn (.tuple [.int a, .int b, .str n]) = true := by
  refine ⟨rfl, rfl, ?_, rfl⟩
  simp [SeqAt.shaped, PyData.canLay0, PyData.canLayAll0, PyData.depth, PyData.depthAll, h]
theorem T3_alike (a b a' b' : Int) (n n' : Str) : PySem.W.alike (.tuple [.int a, .int b, .str n]) (.tuple [.int a', .int b', .str n']) = true := by
  simp [PySem.W.alike, PySem.W.alikeAll]
theorem T3_lt {a b a' b' : Int} {n n' : Str} (h : a = a' → b = b' → n = n') : PySem.W.dataLt (.tuple [.int a, .int b, .str n]) (.tuple [.int a', .int b', .str n']) = decide (lx (a, b) (a', b')) := by
  unfold lx
  by_cases e : a = a'
  · subst e
    rw [lt_int_eq]
    by_cases e2 : b = b'
    · subst e2
      rw [h rfl rfl, lt_self]
      simp
    · rw [lt_int e2]
      simp
  · rw [lt_int e]
    simp [e]
def T2 (a : Int) (n : Str) : D := .tup [.int a, .str n]
theorem T2_to (a : Int) {n : Str} (h : PyData.strOk n = true) : toP (T2 a n) = some (.tuple [.int a, .str n]) ∧ isTF (T2 a n) = true ∧ SeqAt.shaped (.tuple [.int a, .str n]) = true ∧ isTn (.tuple [.int a, .str n]) = true := by
  refine ⟨rfl, rfl, ?_, rfl⟩
  simp [SeqAt.shaped, PyData.canLay0, PyData.canLayAll0, PyData.depth, PyData.depthAll, h]
theorem T2_alike (a a' : Int) (n n' : Str) : PySem.W.alike (.tuple [.int a, .str n]) (.tuple [.int a', .str n']) = true := by
  simp [PySem.W.alike, PySem.W.alikeAll]
theorem T2_lt {a a' : Int} {n n' : Str} (h : a = a' → n = n') : PySem.W.dataLt (.tuple [.int a, .str n]) (.tuple [.int a', .str n']) = decide (lx (a, 0) (a', 0)) := by
  unfold lx
  by_cases e : a = a'
  · subst e
    rw [h rfl, lt_self]
    simp
  · rw [lt_int e]
    simp
end Kw
namespace Kw
open PySem PySem.Spec PyProof.Rows L2 Z
section
variable (b : Int) (qs : List Pn)
def ra (p : Pn) : Int := (posQ (fr b p.2.1) (R1 b qs) : Nat) + 1
def rb (p : Pn) : Int := (posQ (fr b p.2.2) (R2 b qs) : Nat) + 1
end
section
variable {b : Int} {qs : List Pn}
theorem ra_le (h : Rdd b qs) {x y : Pn} (mx : x ∈ qs) (my : y ∈ qs) : ra b qs x ≤ ra b qs y ↔ x.2.1 ≤ y.2.1 := by
  have a := pos_le (distQ_pw (qs.map fun p => fr b p.2.1)) (mem_distQ.mpr (List.mem_map_of_mem (f := fun p : Pn => fr b p.2.1) mx)) (mem_distQ.mpr (List.mem_map_of_mem (f := fun p : Pn => fr b p.2.1) my))
  have e := fr_le (x := x.2.1) (y := y.2.1) h.b0
  unfold ra
  constructor
  · intro hh
    exact e.mp (a.mp (by unfold R1 at hh; omega))
  · intro hh
    have := a.mpr (e.mpr hh)
    unfold R1
    omega
theorem rb_le (h : Rdd b qs) {x y : Pn} (mx : x ∈ qs) (my : y ∈ qs) : rb b qs x ≤ rb b qs y ↔ x.2.2 ≤ y.2.2 := by
  have a := pos_le (distQ_pw (qs.map fun p => fr b p.2.2)) (mem_distQ.mpr (List.mem_map_of_mem (f := fun p : Pn => fr b p.2.2) mx)) (mem_distQ.mpr (List.mem_map_of_mem (f := fun p : Pn => fr b p.2.2) my))
  have e := fr_le (x := x.2.2) (y := y.2.2) h.b0
  unfold rb
  constructor
  · intro hh
    exact e.mp (a.mp (by unfold R2 at hh; omega))
  · intro hh
    have := a.mpr (e.mpr hh)
    unfold R2
    omega
theorem Rdd.uniq (h : Rdd b qs) {x y : Pn} (mx : x ∈ qs) (my : y ∈ qs) (e1 : x.2.1 = y.2.1) (e2 : x.2.2 = y.2.2) : x = y := by
  have nd := h.dj
  have e : x.2 = y.2 := Prod.ext e1 e2
  obtain ⟨i, hi, ei⟩ := List.getElem_of_mem mx
  obtain ⟨j, hj, ej⟩ := List.getElem_of_mem my
  have := List.pairwise_iff_getElem.mp nd
  rcases Nat.lt_trichotomy i j with l | l | l
  · have := this i j (by simpa using hi) (by simpa using hj) l
    simp only [List.getElem_map, ei, ej] at this
    exact absurd e this
  · subst l
    rw [ei] at ej
    exact ej
  · have := this j i (by simpa using hj) (by simpa using hi) l
    simp only [List.getElem_map, ei, ej] at this
    exact absurd e.symm this
theorem lg3 : (lgl b qs)[3]? = some (.dic (ky qs) (qs.map (rkD b qs))) := rfl
theorem lg0 : (lgl b qs)[0]? = some (.tup (qs.map nmP)) := rfl
theorem rk_dix (h : Rdd b qs) {p : Pn} (m : p ∈ qs) : pDix (.dic (ky qs) (qs.map (rkD b qs))) (.str p.1) = some (.tup [.int (ra b qs p), .int (rb b qs p)]) := by
  have := look_at (f := rkD b qs) h.r.nodup m
  simp only [pDix, dicOf, Option.bind_some, Z.keyOf]
  exact this
def G0 (c : List Pn) (m : Pn) : Prop := m ∈ c ∧ ∀ y ∈ c, ¬ lx (m.2.1, m.2.2) (y.2.1, y.2.2)
def G1 (c : List Pn) (m : Pn) : Prop := m ∈ c ∧ ∀ y ∈ c, ¬ lx (m.2.2, m.2.1) (y.2.2, y.2.1)
theorem great_ok {c : List Pn} {X : D} (h : Rdd b qs) (hx : Sq X (c.map nmP)) (mc : ∀ p ∈ c, p ∈ qs) (h1 : c ≠ []) (hl : c.length ≤ 60) :
    (∃ m, G0 c m ∧ B_greatest_name [.ob 26 (lgl b qs), X, .int 0] = .ok (.str m.1) [none, none, none]) ∧ ∃ m, G1 c m ∧ B_greatest_name [.ob 26 (lgl b qs), X, .int 1] = .ok (.str m.1) [none, none, none] := by
  have it := hx.items
  have l3 := lg3 (b := b) (qs := qs)
  have dx := fun (p : Pn) (m : p ∈ c) => rk_dix h (mc p m)
  have al := fun (x : Pn) (mx : x ∈ c) (y : Pn) (my : y ∈ c) => ra_le h (mc x mx) (mc y my)
  have bl := fun (x : Pn) (mx : x ∈ c) (y : Pn) (my : y ∈ c) => rb_le h (mc x mx) (mc y my)
  have un := fun (x : Pn) (mx : x ∈ c) (y : Pn) (my : y ∈ c) => h.uniq (mc x mx) (mc y my)
  have nm := fun (x : Pn) (mx : x ∈ c) => (h.nm x (mc x mx)).s
  have big1 : (c.map nmP).length ≤ big := big_of (by simp; omega)
  have h3 : (3 : Nat) ≤ big := big_of (by omega)
  generalize D.dic (ky qs) (qs.map (rkD b qs)) = RK at *
  generalize lgl b qs = LG at *
  generalize ra b qs = A at *
  generalize rb b qs = B at *
  have x0 : ∀ u v : Int, pIx (.tup [.int u, .int v]) (.int 0) = some (.int u) := fun u v => ix_tup_0 _ _
  have x1 : ∀ u v : Int, pIx (.tup [.int u, .int v]) (.int 1) = some (.int v) := fun u v => ix_tup_1 _ _ _
  have run : ∀ (s : Int) (g : Pn → D) (m : Pn), (∀ p ∈ c, eN pTup (aCons (eB (oP pIx) (eB (oP pDix) (eFl [(26, 3)] (eV 0)) (eV 4)) (eV 2)) (aCons (eB (oP pIx) (eB (oP pDix) (eFl [(26, 3)] (eV 0)) (eV 4)) (eB (oP pSub) (eK (.int 1)) (eV 2))) (aCons (eV 4) aNil))) [some (.ob 26 LG), some X, some (.int s), none, some (.str p.1)] = .ok (g p) [some (.ob 26 LG), some X, some (.int s), none, some (.str p.1)]) → pMaxD [.lst (c.map g)] = some (g m) → pIx (g m) (.int 2) = some (.str m.1) →
      B_greatest_name [.ob 26 LG, X, .int s] = .ok (.str m.1) [none, none, none] := fun s g m hg hm h2 => by
    have go := lc_pure (vs := [4]) (g := gN 4) (t := tY) (f := eN pTup (aCons (eB (oP pIx) (eB (oP pDix) (eFl [(26, 3)] (eV 0)) (eV 4)) (eV 2)) (aCons (eB (oP pIx) (eB (oP pDix) (eFl [(26, 3)] (eV 0)) (eV 4)) (eB (oP pSub) (eK (.int 1)) (eV 2))) (aCons (eV 4) aNil)))) (r := [some (.ob 26 LG), some X, some (.int s), none, none]) (ds := c.map nmP) (outs := c.map g) (All2.of_map _ _ c fun p m =>
      ⟨[some (.ob 26 LG), some X, some (.int s), none, some (.str p.1)], [some (.ob 26 LG), some X, some (.int s), none, some (.str p.1)], rfl, rfl, hg p m, rfl⟩)
    generalize hGM : g m = GM at *
    generalize c.map g = GC at *
    generalize c.map nmP = NC at *
    have s1 : sAs 3 (eLc [4] (itL (eV 1)) (gN 4) tY (eN pTup (aCons (eB (oP pIx) (eB (oP pDix) (eFl [(26, 3)] (eV 0)) (eV 4)) (eV 2)) (aCons (eB (oP pIx) (eB (oP pDix) (eFl [(26, 3)] (eV 0)) (eV 4)) (eB (oP pSub) (eK (.int 1)) (eV 2))) (aCons (eV 4) aNil))))) [some (.ob 26 LG), some X, some (.int s), none, none] = .ok .nx [some (.ob 26 LG), some X, some (.int s), some (.lst GC), none] := by
      have i : itL (eV 1) [some (.ob 26 LG), some X, some (.int s), none, none] = .ok NC [some (.ob 26 LG), some X, some (.int s), none, none] := by simp [it]
      have e : eLc [4] (itL (eV 1)) (gN 4) tY (eN pTup (aCons (eB (oP pIx) (eB (oP pDix) (eFl [(26, 3)] (eV 0)) (eV 4)) (eV 2)) (aCons (eB (oP pIx) (eB (oP pDix) (eFl [(26, 3)] (eV 0)) (eV 4)) (eB (oP pSub) (eK (.int 1)) (eV 2))) (aCons (eV 4) aNil)))) [some (.ob 26 LG), some X, some (.int s), none, none] = .ok (.lst GC) [some (.ob 26 LG), some X, some (.int s), none, none] := by
        simp only [eLc, i, Out.bind, big1, if_true, go]
      exact as_is e
    have s2 : sRet (eB (oP pIx) (eN pMaxD (aCons (eV 3) aNil)) (eK (.int 2))) [some (.ob 26 LG), some X, some (.int s), some (.lst GC), none] = .ok (.rt (.str m.1)) [some (.ob 26 LG), some X, some (.int s), some (.lst GC), none] := by
      generalize hz : D.str m.1 = Z at *
      simp [hm, h2]
    exact mkB_run (n := 3) (m := 5) (io := []) (b := b_greatest_name) (ds := [.ob 26 LG, X, .int s]) (r0 := [some (.ob 26 LG), some X, some (.int s), none, none]) rfl rfl (by rw [b_greatest_name, sSeq_nx s1]; exact s2)
  constructor
  · obtain ⟨m, mm, e, hm⟩ := max_is (g := fun p : Pn => T3 (A p) (B p) p.1) (P := fun p => .tuple [.int (A p), .int (B p), .str p.1]) (K := fun p => (p.2.1, p.2.2)) h1 (by omega) (fun x mx => T3_to _ _ (nm x mx)) (fun x mx y my => T3_alike _ _ _ _ _ _) (fun x mx y my => by
      have a1 := al x mx y my
      have a2 := al y my x mx
      have b1 := bl x mx y my
      have b2 := bl y my x mx
      rw [T3_lt (fun e1 e2 => by rw [un x mx y my (by omega) (by omega)])]
      congr 1
      unfold lx
      simp only [eq_iff_iff]
      omega)
    refine ⟨m, ⟨mm, hm⟩, run 0 _ m (fun p mp => ?_) e rfl⟩
    have d := dx p mp
    have u0 := x0 (A p) (B p)
    have u1 := x1 (A p) (B p)
    generalize D.tup [.int (A p), .int (B p)] = RP at *
    simp [l3, d, u0, u1, h3, T3]
  · obtain ⟨m, mm, e, hm⟩ := max_is (g := fun p : Pn => T3 (B p) (A p) p.1) (P := fun p => .tuple [.int (B p), .int (A p), .str p.1]) (K := fun p => (p.2.2, p.2.1)) h1 (by omega) (fun x mx => T3_to _ _ (nm x mx)) (fun x mx y my => T3_alike _ _ _ _ _ _) (fun x mx y my => by
      have a1 := al x mx y my
      have a2 := al y my x mx
      have b1 := bl x mx y my
      have b2 := bl y my x mx
      rw [T3_lt (fun e1 e2 => by rw [un x mx y my (by omega) (by omega)])]
      congr 1
      unfold lx
      simp only [eq_iff_iff]
      omega)
    refine ⟨m, ⟨mm, hm⟩, run 1 _ m (fun p mp => ?_) e rfl⟩
    have d := dx p mp
    have u0 := x0 (A p) (B p)
    have u1 := x1 (A p) (B p)
    generalize D.tup [.int (A p), .int (B p)] = RP at *
    simp [l3, d, u0, u1, h3, T3]
theorem nbook_ok (es : List Ent) : B_need_book [.ob 3 (bkl 1 es)] = .ok .non [none] := by
  simp [B_need_book, mkB, b_need_book, kO]
theorem nroad_ok (es : List Ent) : B_need_road [.ob 3 (bkl 1 es)] = .ok .non [none] := by
  have : pNe (.int 1) (.int 1) = some (.bl false) := ne_nat 1
  simp [B_need_road, mkB, b_need_road, bkl, this]
def cf (m0 m1 : Pn) : List Pn := if m0.1 = m1.1 then [m0] else sortE [m0, m1]
theorem cf_names (m0 m1 : Pn) : (cf m0 m1).map (·.1) = if m0.1 = m1.1 then [m0.1] else sortS [m0.1, m1.1] := by
  unfold cf
  split
  · rfl
  · rw [sortE_names]
    rfl
theorem ends_ok {s t : Str} : pSorted [.lst ((if s = t then [D.str s] else [.str s, .str t]))] = some (.lst ((if s = t then [s] else sortS [s, t]).map .str)) := by
  split
  · simp [pSorted, lsOf, strsOf, sortS, insS]
  · simp [pSorted, lsOf, strsOf]
theorem least_ok {c : List Pn} {X : D} (h : Rdd b qs) (hx : Sq X (c.map nmP)) (mc : ∀ p ∈ c, p ∈ qs) (hn : (c.map (·.1)).Nodup) (h1 : 1 ≤ c.length) (hl : c.length ≤ 60) :
    ∃ m0 m1, G0 c m0 ∧ G1 c m1 ∧ B_least_bringing [.ob 3 (bkl 1 (qs.map (ent b))), X] = .ok (.tup ((cf m0 m1).map nmP)) [none, none] := by
  obtain ⟨⟨m0, g0, e0⟩, ⟨m1, g1, e1⟩⟩ := great_ok h hx mc (fun e => by rw [e] at h1; simp at h1) hl
  refine ⟨m0, m1, g0, g1, ?_⟩
  have b1 := nbook_ok (qs.map (ent b))
  have b2 := need_some_ok h hx mc hn h1 (by omega)
  have b3 := nroad_ok (qs.map (ent b))
  have b4 := lights_ok h
  have cn : (cf m0 m1).map nmP = ((cf m0 m1).map (·.1)).map .str := by rw [List.map_map]; rfl
  rw [cn, cf_names]
  have en := ends_ok (s := m0.1) (t := m1.1)
  generalize m0.1 = s at *
  generalize m1.1 = t at *
  generalize D.ob 3 (bkl 1 (qs.map (ent b))) = BK at *
  generalize D.ob 26 (lgl b qs) = LG at *
  have h2 : (2 : Nat) ≤ big := big_of (by omega)
  obtain ⟨KS, VS, eD, eL⟩ : ∃ (KS : List Key) (VS : List D), eDc [4] (itL (eN pTup (aCons (eK (.int 0)) (aCons (eK (.int 1)) aNil)))) (gN 4) tY (eCd B_greatest_name [] (aCons (eV 2) (aCons (eV 1) (aCons (eV 4) aNil)))) (eK (.bl true)) [some BK, some X, some LG, none, none] = .ok (.dic KS VS) [some BK, some X, some LG, none, none] ∧ pDlist [.dic KS VS] = some (.lst (if s = t then [D.str s] else [.str s, .str t])) := by
    by_cases hst : s = t
    · refine ⟨[.inr s], [.bl true], ?_, ?_⟩
      · subst hst
        simp [h2, itemsOf, dcGo, wipeE, e0, e1, Z.keyOf, putR, dcOut, backE]
      · rw [if_pos hst]
        simp [pDlist, dicOf, keyD]
    · refine ⟨[.inr s, .inr t], [.bl true, .bl true], ?_, ?_⟩
      · simp [h2, itemsOf, dcGo, wipeE, e0, e1, Z.keyOf, putR, dcOut, backE, hst]
      · rw [if_neg hst]
        simp [pDlist, dicOf, keyD]
  have lb : (if s = t then [s] else sortS [s, t]).length ≤ big := by
    split
    · exact big_of (by simp)
    · exact big_of (by rw [(sort_perm _).length_eq]; simp)
  generalize (if s = t then [D.str s] else [.str s, .str t]) = EN at *
  generalize (if s = t then [s] else sortS [s, t]) = SN at *
  have t5 : sAsF 3 (eDc [4] (itL (eN pTup (aCons (eK (.int 0)) (aCons (eK (.int 1)) aNil)))) (gN 4) tY (eCd B_greatest_name [] (aCons (eV 2) (aCons (eV 1) (aCons (eV 4) aNil)))) (eK (.bl true))) [some BK, some X, some LG, none, none] = .ok .nx [some BK, some X, some LG, some (.dic KS VS), none] := by
    unfold sAsF
    rw [eD]
    rfl
  have t4 : sAs 2 (eNd 26 B_Lights___init__ [] (aCons (eV 0) aNil)) [some BK, some X, none, none, none] = .ok .nx [some BK, some X, some LG, none, none] := by
    simp [b4]
  have t1 : sEx (eCd B_need_book [] (aCons (eV 0) aNil)) [some BK, some X, none, none, none] = .ok .nx [some BK, some X, none, none, none] := by simp [b1]
  have t2 : sEx (eCd B_need_some [] (aCons (eV 0) (aCons (eV 1) aNil))) [some BK, some X, none, none, none] = .ok .nx [some BK, some X, none, none, none] := by simp [b2]
  have t3 : sEx (eCd B_need_road [] (aCons (eV 0) aNil)) [some BK, some X, none, none, none] = .ok .nx [some BK, some X, none, none, none] := by simp [b3]
  have t6 : sRet (eN pTuple (aCons (eN pSorted (aCons (eN pDlist (aCons (eV 3) aNil)) aNil)) aNil)) [some BK, some X, some LG, some (.dic KS VS), none] = .ok (.rt (.tup (SN.map .str))) [some BK, some X, some LG, some (.dic KS VS), none] := by
    simp [eL, en, pTuple, itemsOf]
  exact mkB_run (n := 2) (m := 5) (io := []) (b := b_least_bringing) (ds := [BK, X]) (r0 := [some BK, some X, none, none, none]) rfl rfl (by rw [b_least_bringing, sSeq_nx t1, sSeq_nx t2, sSeq_nx t3, sSeq_nx t4, sSeq_nx t5]; exact t6)
end
end Kw
namespace Kw
open PySem PySem.Spec PyProof.Rows L2 Z
theorem toInts_map (ns : List Int) : toInts (ns.map .int) = some ns := by
  induction ns with
  | nil => rfl
  | cons n ns ih => simp [toInts, ih]
theorem max_ints {ns : List Int} (h : ns ≠ []) : pMax1 [.lst (ns.map .int)] = some (.int (maxI ns)) := by
  simp [pMax1, lisOf, toInts_map, h]
theorem min_ints {ns : List Int} (h : ns ≠ []) : pMin1 [.lst (ns.map .int)] = some (.int (minI ns)) := by
  simp [pMin1, lisOf, toInts_map, h]
theorem maxI_uniq {ns : List Int} {g : Int} (m : g ∈ ns) (h : ∀ x ∈ ns, x ≤ g) : maxI ns = g := by
  have n : ns ≠ [] := fun e => by rw [e] at m; cases m
  obtain ⟨h1, h2⟩ := maxI_is n
  have := h2 g m
  have := h _ h1
  omega
theorem lc_filter {α : Type} {vs : List Nat} {g : Tg} {t : M Bool} {f : M D} {w : Ev} {h out : α → D} {P : α → Bool} : ∀ {xs : List α}, (∀ x ∈ xs, ∃ r1 r2, g (h x) w = some r1 ∧ t r1 = .ok (P x) r1 ∧ f r1 = .ok (out x) r2 ∧ wipeE vs r1 = w ∧ wipeE vs r2 = w) →
    ∀ r, wipeE vs r = w → ∃ r', lcGo vs g t f (xs.map h) r = some ((xs.filter P).map out, r') ∧ wipeE vs r' = w
  | [], _, r, e => ⟨r, rfl, e⟩
  | x :: xs, hs, r, e => by
    obtain ⟨r1, r2, e1, e2, e3, e4, e5⟩ := hs x (by simp)
    by_cases hp : P x = true
    · obtain ⟨r', e6, e7⟩ := lc_filter (fun y m => hs y (List.mem_cons_of_mem _ m)) r2 e5
      refine ⟨r', ?_, e7⟩
      rw [hp] at e2
      rw [List.filter_cons_of_pos hp, List.map_cons, lcGo, e, e1]
      simp only [e2, e3, e6, Option.map_some, List.map_cons]
    · obtain ⟨r', e6, e7⟩ := lc_filter (fun y m => hs y (List.mem_cons_of_mem _ m)) r1 e4
      refine ⟨r', ?_, e7⟩
      have hp : P x = false := by simpa using hp
      rw [hp] at e2
      rw [List.filter_cons_of_neg (by rw [hp]; simp), List.map_cons, lcGo, e, e1]
      simp only [e2, e6]
section
variable {b : Int} {qs : List Pn}
theorem mranks_ok {c : List Pn} {X : D} (h : Rdd b qs) (hx : Sq X (c.map nmP)) (mc : ∀ p ∈ c, p ∈ qs) (h1 : c ≠ []) (hl : c.length ≤ 60) : B_meet_of_ranks [.ob 26 (lgl b qs), X] = .ok (.tup [.int (maxI (c.map (ra b qs))), .int (maxI (c.map (rb b qs)))]) [none, none] := by
  have it := hx.items
  have l3 := lg3 (b := b) (qs := qs)
  have dx := fun (p : Pn) (m : p ∈ c) => rk_dix h (mc p m)
  have big1 : (c.map nmP).length ≤ big := big_of (by simp; omega)
  have h2 : (2 : Nat) ≤ big := big_of (by omega)
  have m1 := max_ints (ns := c.map (ra b qs)) (by simpa using h1)
  have m2 := max_ints (ns := c.map (rb b qs)) (by simpa using h1)
  generalize maxI (c.map (ra b qs)) = M1 at *
  generalize maxI (c.map (rb b qs)) = M2 at *
  rw [List.map_map] at m1 m2
  generalize D.dic (ky qs) (qs.map (rkD b qs)) = RK at *
  generalize lgl b qs = LG at *
  have go := lc_pure (vs := [3]) (g := gN 3) (t := tY) (f := eB (oP pDix) (eFl [(26, 3)] (eV 0)) (eV 3)) (r := [some (.ob 26 LG), some X, none, none, none]) (ds := c.map nmP) (outs := c.map fun p => .tup [.int (ra b qs p), .int (rb b qs p)]) (All2.of_map _ _ c fun p m =>
    ⟨[some (.ob 26 LG), some X, none, some (.str p.1), none], [some (.ob 26 LG), some X, none, some (.str p.1), none], rfl, rfl, by simp [l3, dx p m], rfl⟩)
  obtain ⟨RS, hRS⟩ : ∃ RS, RS = D.lst (c.map fun p => .tup [.int (ra b qs p), .int (rb b qs p)]) := ⟨_, rfl⟩
  have s1 : sAs 2 (eLc [3] (itL (eV 1)) (gN 3) tY (eB (oP pDix) (eFl [(26, 3)] (eV 0)) (eV 3))) [some (.ob 26 LG), some X, none, none, none] = .ok .nx [some (.ob 26 LG), some X, some RS, none, none] := by
    have i : itL (eV 1) [some (.ob 26 LG), some X, none, none, none] = .ok (c.map nmP) [some (.ob 26 LG), some X, none, none, none] := by simp [it]
    have e : eLc [3] (itL (eV 1)) (gN 3) tY (eB (oP pDix) (eFl [(26, 3)] (eV 0)) (eV 3)) [some (.ob 26 LG), some X, none, none, none] = .ok RS [some (.ob 26 LG), some X, none, none, none] := by
      simp only [eLc, i, Out.bind, big1, if_true, go, hRS]
    exact as_is e
  have big2 : (c.map fun p : Pn => D.tup [.int (ra b qs p), .int (rb b qs p)]).length ≤ big := big_of (by simp; omega)
  have lx : ∀ (j : Int) (g : Pn → Int), (∀ p, pIx (.tup [.int (ra b qs p), .int (rb b qs p)]) (.int j) = some (.int (g p))) → eLc [4] (itL (eV 2)) (gN 4) tY (eB (oP pIx) (eV 4) (eK (.int j))) [some (.ob 26 LG), some X, some RS, none, none] = .ok (.lst (c.map (D.int ∘ g))) [some (.ob 26 LG), some X, some RS, none, none] := fun j g hg => by
    have go := lc_pure (vs := [4]) (g := gN 4) (t := tY) (f := eB (oP pIx) (eV 4) (eK (.int j))) (r := [some (.ob 26 LG), some X, some RS, none, none]) (ds := c.map fun p => .tup [.int (ra b qs p), .int (rb b qs p)]) (outs := c.map (D.int ∘ g)) (All2.of_map _ _ c fun p m => by
      have u := hg p
      generalize D.tup [.int (ra b qs p), .int (rb b qs p)] = RP at *
      exact ⟨[some (.ob 26 LG), some X, some RS, none, some RP], [some (.ob 26 LG), some X, some RS, none, some RP], rfl, rfl, by simp [u], rfl⟩)
    have i : itL (eV 2) [some (.ob 26 LG), some X, some RS, none, none] = .ok (c.map fun p => .tup [.int (ra b qs p), .int (rb b qs p)]) [some (.ob 26 LG), some X, some RS, none, none] := by simp [hRS, itemsOf]
    simp only [eLc, i, Out.bind, big2, if_true, go]
  have l1 := lx 0 (ra b qs) fun p => ix_tup_0 _ _
  have l2 := lx 1 (rb b qs) fun p => ix_tup_1 _ _ _
  have s2 : sRet (eN pTup (aCons (eN pMax1 (aCons (eLc [4] (itL (eV 2)) (gN 4) tY (eB (oP pIx) (eV 4) (eK (.int 0)))) aNil)) (aCons (eN pMax1 (aCons (eLc [4] (itL (eV 2)) (gN 4) tY (eB (oP pIx) (eV 4) (eK (.int 1)))) aNil)) aNil))) [some (.ob 26 LG), some X, some RS, none, none] = .ok (.rt (.tup [.int M1, .int M2])) [some (.ob 26 LG), some X, some RS, none, none] := by
    refine rt_is (en_is (acons_is (en_is (acons_is l1 rfl) m1) (acons_is (en_is (acons_is l2 rfl) m2) rfl)) ?_)
    simp [pTup, h2]
  exact mkB_run (n := 2) (m := 5) (io := []) (b := b_meet_of_ranks) (ds := [.ob 26 LG, X]) (r0 := [some (.ob 26 LG), some X, none, none, none]) rfl rfl (by rw [b_meet_of_ranks, sSeq_nx s1]; exact s2)
def seenP (b : Int) (qs : List Pn) (i j : Int) (p : Pn) : Bool := decide (ra b qs p ≤ i) && decide (rb b qs p ≤ j)
theorem seen_ok (h : Rdd b qs) (i j : Int) : B_Lights_seen_in [.ob 26 (lgl b qs), .tup [.int i, .int j]] = .ok (.lst ((qs.filter (seenP b qs i j)).map nmP)) [none, none] := by
  have l0 := lg0 (b := b) (qs := qs)
  have l3 := lg3 (b := b) (qs := qs)
  have dx := fun (p : Pn) (m : p ∈ qs) => rk_dix h m
  have l5 := h.l5
  have big1 : (qs.map nmP).length ≤ big := big_of (by simp; omega)
  have j0 : pIx (.tup [.int i, .int j]) (.int 0) = some (.int i) := ix_tup_0 _ _
  have j1 : pIx (.tup [.int i, .int j]) (.int 1) = some (.int j) := ix_tup_1 _ _ _
  generalize D.tup [.int i, .int j] = ST at *
  generalize D.dic (ky qs) (qs.map (rkD b qs)) = RK at *
  generalize lgl b qs = LG at *
  obtain ⟨r', e1, e2⟩ := lc_filter (vs := [2]) (g := gN 2) (t := tAn (tV (eB (oP pLe) (eB (oP pIx) (eB (oP pDix) (eFl [(26, 3)] (eV 0)) (eV 2)) (eK (.int 0))) (eB (oP pIx) (eV 1) (eK (.int 0))))) (tV (eB (oP pLe) (eB (oP pIx) (eB (oP pDix) (eFl [(26, 3)] (eV 0)) (eV 2)) (eK (.int 1))) (eB (oP pIx) (eV 1) (eK (.int 1)))))) (f := eV 2) (w := [some (.ob 26 LG), some ST, none]) (h := nmP) (out := nmP) (P := seenP b qs i j) (xs := qs) (fun p m => by
    have d := dx p m
    have u0 : pIx (.tup [.int (ra b qs p), .int (rb b qs p)]) (.int 0) = some (.int (ra b qs p)) := ix_tup_0 _ _
    have u1 : pIx (.tup [.int (ra b qs p), .int (rb b qs p)]) (.int 1) = some (.int (rb b qs p)) := ix_tup_1 _ _ _
    have sp : seenP b qs i j p = (decide (ra b qs p ≤ i) && decide (rb b qs p ≤ j)) := rfl
    generalize D.tup [.int (ra b qs p), .int (rb b qs p)] = RP at *
    generalize ra b qs p = A at *
    generalize rb b qs p = B at *
    refine ⟨[some (.ob 26 LG), some ST, some (.str p.1)], [some (.ob 26 LG), some ST, some (.str p.1)], rfl, ?_, rfl, rfl, rfl⟩
    rw [sp]
    have q1 : pLe (.int A) (.int i) = some (.bl (decide (A ≤ i))) := by simp [pLe]
    have q2 : pLe (.int B) (.int j) = some (.bl (decide (B ≤ j))) := by simp [pLe]
    by_cases c1 : A ≤ i
    · rw [decide_eq_true c1] at q1 ⊢
      simp [l3, d, u0, u1, j0, j1, q1, q2]
    · rw [decide_eq_false c1] at q1 ⊢
      simp [l3, d, u0, u1, j0, j1, q1, q2]) [some (.ob 26 LG), some ST, none] rfl
  have i1 : itL (eFl [(3, 1), (26, 0)] (eV 0)) [some (.ob 26 LG), some ST, none] = .ok (qs.map nmP) [some (.ob 26 LG), some ST, none] := by simp [l0, itemsOf]
  have s := rt_is (lc_is i1 (by simp; omega) e1)
  exact mkB_run (n := 2) (m := 3) (io := []) (b := b_Lights_seen_in) (ds := [.ob 26 LG, ST]) (r0 := [some (.ob 26 LG), some ST, none]) rfl rfl s
theorem brought_ok {c : List Pn} {X : D} (h : Rdd b qs) (hx : Sq X (c.map nmP)) (mc : ∀ p ∈ c, p ∈ qs) (hn : (c.map (·.1)).Nodup) (h1 : 1 ≤ c.length) (hl : c.length ≤ 60) : B_brought_by [.ob 3 (bkl 1 (qs.map (ent b))), X] = .ok (.tup ((qs.filter (seenP b qs (maxI (c.map (ra b qs))) (maxI (c.map (rb b qs))))).map nmP)) [none, none] := by
  have b1 := nbook_ok (qs.map (ent b))
  have b2 := need_some_ok h hx mc hn h1 (by omega)
  have b3 := nroad_ok (qs.map (ent b))
  have b4 := lights_ok h
  have b5 := mranks_ok h hx mc (fun e => by rw [e] at h1; simp at h1) hl
  have b6 := seen_ok h (maxI (c.map (ra b qs))) (maxI (c.map (rb b qs)))
  generalize D.tup [.int (maxI (c.map (ra b qs))), .int (maxI (c.map (rb b qs)))] = ST at *
  generalize (qs.filter (seenP b qs (maxI (c.map (ra b qs))) (maxI (c.map (rb b qs))))).map nmP = OUT at *
  generalize D.ob 3 (bkl 1 (qs.map (ent b))) = BK at *
  generalize lgl b qs = LG at *
  have b7 : B_all_brought [.ob 26 LG, X] = .ok (.lst OUT) [none, none] := by simp [B_all_brought, mkB, b_all_brought, b5, b6]
  simp [B_brought_by, mkB, b_brought_by, b1, b2, b3, b4, b7, pTuple, itemsOf]
end
end Kw
namespace Kw
open PySem PySem.Spec PyProof.Rows L2 Z
theorem ne_lst {l : List Str} (h : ∀ s ∈ l, PyData.strOk s = true) : pNe (.lst (l.map .str)) (.lst []) = some (.bl (!l.isEmpty)) := by
  cases l with
  | nil => exact ((Da.lst (n := 0) (l := []) fun x m => nomatch m).self (by omega)).2
  | cons e l =>
    obtain ⟨p, q1, q2, q3⟩ : Da 1 (.lst ((e :: l).map .str)) := Da.lst fun x m => by
      obtain ⟨f, mf, rfl⟩ := List.mem_map.mp m
      exact Da.str (h f mf)
    have s : SeqAt.shaped p = true := by
      simp [SeqAt.shaped, q2]
      omega
    have t : toP (.lst []) = some (.list []) := rfl
    have s2 : SeqAt.shaped (.list []) = true := by decide
    have ev : PyData.eqv p (.list []) = false := by
      rw [toP] at q1
      obtain ⟨ps, h1, h2⟩ := Option.map_eq_some_iff.mp q1
      subst h2
      rw [List.map_cons, toPs] at h1
      obtain ⟨a, h3, h4⟩ := Option.bind_eq_some_iff.mp h1
      obtain ⟨as, h5, h6⟩ := Option.map_eq_some_iff.mp h4
      subst h6
      simp [PyData.eqv, PyData.eqvAll]
    simp only [pNe, pEqB, q1, t, s, s2, ev, Bool.and_self, if_true]
    rfl
theorem eq_pr (u v r l : Int) : pEq (.tup [.int u, .int v]) (.tup [.int r, .int l]) = some (.bl (decide (u = r) && decide (v = l))) := by
  have s : ∀ a c : Int, SeqAt.shaped (.tuple [.int a, .int c]) = true := fun a c => by simp [SeqAt.shaped, PyData.canLay0, PyData.canLayAll0, PyData.depth, PyData.depthAll]
  simp [pEq, pEqB, toP, toPs, s, PyData.eqv, PyData.eqvAll, Bool.beq_eq_decide_eq]
theorem filter_one {α : Type} {P : α → Bool} {m : α} : ∀ {c : List α}, c.Nodup → m ∈ c → P m = true → (∀ y ∈ c, P y = true → y = m) → c.filter P = [m]
  | x :: c, nd, mm, pm, h => by
    obtain ⟨n1, n2⟩ := List.nodup_cons.mp nd
    by_cases px : P x = true
    · have ex := h x (by simp) px
      rw [List.filter_cons_of_pos px]
      have : c.filter P = [] := List.filter_eq_nil_iff.mpr fun y my py => by
        have := h y (List.mem_cons_of_mem _ my) (by simpa using py)
        rw [this, ← ex] at my
        exact n1 my
      rw [this, ex]
    · rw [List.filter_cons_of_neg px]
      have mc : m ∈ c := by
        rcases List.mem_cons.mp mm with e | e
        · rw [← e] at px
          exact absurd pm px
        · exact e
      exact filter_one n2 mc pm fun y my => h y (List.mem_cons_of_mem _ my)
section
variable {ps c : List Pn}
theorem lmeet_ok {X : D} (hn : (ps.map (·.1)).Nodup) (hx : Sq X (c.map nmP)) (mc : ∀ p ∈ c, p ∈ ps) (h1 : c ≠ []) (hl : c.length ≤ 60) : B__law_meet [plD ps, X] = .ok (.tup [.int (maxI (c.map (·.2.1))), .int (maxI (c.map (·.2.2)))]) [none, none] := by
  have it := hx.items
  have dx : ∀ p ∈ c, pDix (plD ps) (.str p.1) = some (prD p) := fun p m => dix_at (f := prD) hn (mc p m)
  have big1 : (c.map nmP).length ≤ big := big_of (by simp; omega)
  have h2 : (2 : Nat) ≤ big := big_of (by omega)
  have m1 := max_ints (ns := c.map (·.2.1)) (by simpa using h1)
  have m2 := max_ints (ns := c.map (·.2.2)) (by simpa using h1)
  generalize maxI (c.map (·.2.1)) = M1 at *
  generalize maxI (c.map (·.2.2)) = M2 at *
  rw [List.map_map] at m1 m2
  generalize plD ps = P at *
  have lx : ∀ (j : Int) (g : Pn → Int), (∀ p, pIx (prD p) (.int j) = some (.int (g p))) → eLc [2] (itL (eV 1)) (gN 2) tY (eB (oP pIx) (eB (oP pDix) (eV 0) (eV 2)) (eK (.int j))) [some P, some X, none] = .ok (.lst (c.map (D.int ∘ g))) [some P, some X, none] := fun j g hg => by
    have go := lc_pure (vs := [2]) (g := gN 2) (t := tY) (f := eB (oP pIx) (eB (oP pDix) (eV 0) (eV 2)) (eK (.int j))) (r := [some P, some X, none]) (ds := c.map nmP) (outs := c.map (D.int ∘ g)) (All2.of_map _ _ c fun p m => by
      have u := hg p
      have d := dx p m
      generalize prD p = RP at *
      exact ⟨[some P, some X, some (.str p.1)], [some P, some X, some (.str p.1)], rfl, rfl, by simp [d, u], rfl⟩)
    have i : itL (eV 1) [some P, some X, none] = .ok (c.map nmP) [some P, some X, none] := by simp [it]
    simp only [eLc, i, Out.bind, big1, if_true, go]
  have l1 := lx 0 (fun p => p.2.1) fun p => ix_tup_0 _ _
  have l2 := lx 1 (fun p => p.2.2) fun p => ix_tup_1 _ _ _
  have s2 : b__law_meet [some P, some X, none] = .ok (.rt (.tup [.int M1, .int M2])) [some P, some X, none] := by
    rw [b__law_meet]
    refine rt_is (en_is (acons_is (en_is (acons_is l1 rfl) m1) (acons_is (en_is (acons_is l2 rfl) m2) rfl)) ?_)
    simp [pTup, h2]
  exact mkB_run (n := 2) (m := 3) (io := []) (b := b__law_meet) (ds := [P, X]) (r0 := [some P, some X, none]) rfl rfl s2
theorem G0.right {m : Pn} (g : G0 c m) : maxI (c.map (·.2.1)) = m.2.1 := maxI_uniq (List.mem_map_of_mem (f := fun p : Pn => p.2.1) g.1) fun x mx => by
  obtain ⟨y, my, rfl⟩ := List.mem_map.mp mx
  have := g.2 y my
  unfold lx at this
  omega
theorem G1.left {m : Pn} (g : G1 c m) : maxI (c.map (·.2.2)) = m.2.2 := maxI_uniq (List.mem_map_of_mem (f := fun p : Pn => p.2.2) g.1) fun x mx => by
  obtain ⟨y, my, rfl⟩ := List.mem_map.mp mx
  have := g.2 y my
  unfold lx at this
  omega
theorem lleast_ok {m0 m1 : Pn} (hn : (ps.map (·.1)).Nodup) (hs : ∀ p ∈ ps, PyData.strOk p.1 = true) (un : ∀ x ∈ c, ∀ y ∈ c, x.2.1 = y.2.1 → x.2.2 = y.2.2 → x = y) (mc : ∀ p ∈ c, p ∈ ps) (nc : (c.map (·.1)).Nodup) (hl : c.length ≤ 60) (g0 : G0 c m0) (g1 : G1 c m1) :
    B__law_least [plD ps, .lst (c.map nmP)] = .ok (.tup ((cf m0 m1).map nmP)) [none, none] := by
  have h1 : c ≠ [] := fun e => by have := g0.1; rw [e] at this; cases this
  have e1 := lmeet_ok (X := .lst (c.map nmP)) hn (.inl rfl) mc h1 hl
  rw [g0.right, g1.left] at e1
  have ndc : c.Nodup := List.Pairwise.of_map _ (fun a b n e => n (by rw [e])) nc
  have dx : ∀ p ∈ c, pDix (plD ps) (.str p.1) = some (prD p) := fun p m => dix_at (f := prD) hn (mc p m)
  have big1 : (c.map nmP).length ≤ big := big_of (by simp; omega)
  have h2 : (2 : Nat) ≤ big := big_of (by omega)
  have gg : ∀ y ∈ c, (y.2.1 < m0.2.1 ∨ (y.2.1 = m0.2.1 ∧ y.2.2 ≤ m0.2.2)) ∧ (y.2.2 < m1.2.2 ∨ (y.2.2 = m1.2.2 ∧ y.2.1 ≤ m1.2.1)) := fun y my => by
    have a := g0.2 y my
    have d := g1.2 y my
    unfold lx at a d
    omega
  have st := fun p (m : p ∈ c) => hs p (mc p m)
  have u0 : ∀ p : Pn, pIx (prD p) (.int 0) = some (.int p.2.1) := fun p => ix_tup_0 _ _
  have u1 : ∀ p : Pn, pIx (prD p) (.int 1) = some (.int p.2.2) := fun p => ix_tup_1 _ _ _
  obtain ⟨R, hR⟩ : ∃ R, R = m0.2.1 := ⟨_, rfl⟩
  obtain ⟨L, hL⟩ : ∃ L, L = m1.2.2 := ⟨_, rfl⟩
  rw [← hR, ← hL] at e1
  -- the one, the other
  have one : ∃ m ∈ c.filter (fun p => decide (p.2.1 = R)), pMaxD [.lst ((c.filter fun p => decide (p.2.1 = R)).map fun p => T2 p.2.2 p.1)] = some (T2 m.2.2 m.1) ∧ ∀ y ∈ c.filter (fun p => decide (p.2.1 = R)), ¬ lx (m.2.2, 0) (y.2.2, 0) :=
    max_is (g := fun p : Pn => T2 p.2.2 p.1) (P := fun p => .tuple [.int p.2.2, .str p.1]) (K := fun p => (p.2.2, 0)) (fun e => by
      have : m0 ∈ c.filter fun p => decide (p.2.1 = R) := List.mem_filter.mpr ⟨g0.1, by simp [hR]⟩
      rw [e] at this
      cases this) (Nat.le_trans (List.length_filter_le _ _) (by omega)) (fun x mx => T2_to _ (st x (List.mem_filter.mp mx).1)) (fun x mx y my => T2_alike _ _ _ _) fun x mx y my => T2_lt fun e => by
        obtain ⟨a1, a2⟩ := List.mem_filter.mp mx
        obtain ⟨b1, b2⟩ := List.mem_filter.mp my
        simp at a2 b2
        rw [un x a1 y b1 (by omega) e]
  have two : ∃ m ∈ c.filter (fun p => decide (p.2.2 = L)), pMaxD [.lst ((c.filter fun p => decide (p.2.2 = L)).map fun p => T2 p.2.1 p.1)] = some (T2 m.2.1 m.1) ∧ ∀ y ∈ c.filter (fun p => decide (p.2.2 = L)), ¬ lx (m.2.1, 0) (y.2.1, 0) :=
    max_is (g := fun p : Pn => T2 p.2.1 p.1) (P := fun p => .tuple [.int p.2.1, .str p.1]) (K := fun p => (p.2.1, 0)) (fun e => by
      have : m1 ∈ c.filter fun p => decide (p.2.2 = L) := List.mem_filter.mpr ⟨g1.1, by simp [hL]⟩
      rw [e] at this
      cases this) (Nat.le_trans (List.length_filter_le _ _) (by omega)) (fun x mx => T2_to _ (st x (List.mem_filter.mp mx).1)) (fun x mx y my => T2_alike _ _ _ _) fun x mx y my => T2_lt fun e => by
        obtain ⟨a1, a2⟩ := List.mem_filter.mp mx
        obtain ⟨b1, b2⟩ := List.mem_filter.mp my
        simp at a2 b2
        rw [un x a1 y b1 e (by omega)]
  obtain ⟨n0, k0, x0, y0⟩ := one
  obtain ⟨n1, k1, x1, y1⟩ := two
  have en0 : n0 = m0 := by
    obtain ⟨a1, a2⟩ := List.mem_filter.mp k0
    simp at a2
    have z := y0 m0 (List.mem_filter.mpr ⟨g0.1, by simp [hR]⟩)
    have w := (gg n0 a1).1
    unfold lx at z
    simp only at z
    exact un n0 a1 m0 g0.1 (by omega) (by omega)
  have en1 : n1 = m1 := by
    obtain ⟨a1, a2⟩ := List.mem_filter.mp k1
    simp at a2
    have z := y1 m1 (List.mem_filter.mpr ⟨g1.1, by simp [hL]⟩)
    have w := (gg n1 a1).2
    unfold lx at z
    simp only at z
    exact un n1 a1 m1 g1.1 (by omega) (by omega)
  subst en0 en1
  have q0 : pIx (T2 n0.2.2 n0.1) (.int 1) = some (.str n0.1) := ix_tup_1 _ _ _
  have q1 : pIx (T2 n1.2.1 n1.1) (.int 1) = some (.str n1.1) := ix_tup_1 _ _ _
  have both : c.filter (fun p => decide (p.2.1 = R) && decide (p.2.2 = L)) = if n0.1 = n1.1 then [n0] else [] := by
    by_cases hh : n0 = n1
    · rw [if_pos (by rw [hh])]
      refine filter_one ndc g0.1 ?_ fun y my py => ?_
      · simp only [Bool.and_eq_true, decide_eq_true_eq]
        exact ⟨hR.symm, by rw [hL, hh]⟩
      · simp only [Bool.and_eq_true, decide_eq_true_eq] at py
        exact un y my n0 g0.1 (by omega) (by rw [py.2, hL, hh])
    · have hne : ¬ n0.1 = n1.1 := fun e => by
        obtain ⟨i, hi, ei⟩ := List.getElem_of_mem g0.1
        obtain ⟨j, hj, ej⟩ := List.getElem_of_mem g1.1
        have := List.pairwise_iff_getElem.mp nc
        rcases Nat.lt_trichotomy i j with l | l | l
        · have := this i j (by simpa using hi) (by simpa using hj) l
          simp only [List.getElem_map, ei, ej] at this
          exact this e
        · subst l
          rw [ei] at ej
          exact hh ej
        · have := this j i (by simpa using hj) (by simpa using hi) l
          simp only [List.getElem_map, ei, ej] at this
          exact this e.symm
      rw [if_neg hne]
      refine List.filter_eq_nil_iff.mpr fun y my py => hh ?_
      simp only [Bool.and_eq_true, decide_eq_true_eq] at py
      have w := gg y my
      have v0 := gg n0 g0.1
      have v1 := gg n1 g1.1
      have a : y = n0 := un y my n0 g0.1 (by omega) (by omega)
      have d : y = n1 := un y my n1 g1.1 (by omega) (by omega)
      rw [← a, ← d]
  have cn : (cf n0 n1).map nmP = ((cf n0 n1).map (·.1)).map .str := by rw [List.map_map]; rfl
  rw [cn, cf_names]
  have s0 := st n0 g0.1
  generalize plD ps = P at *
  have fl : ∀ (t : M Bool) (f : M D) (z4 z5 : Option D) (Q : Pn → Bool) (out : Pn → D), (∀ p ∈ c, t [some P, some (.lst (c.map nmP)), some (.int R), some (.int L), z4, z5, none, some (.str p.1)] = .ok (Q p) [some P, some (.lst (c.map nmP)), some (.int R), some (.int L), z4, z5, none, some (.str p.1)]) →
      (∀ p ∈ c, f [some P, some (.lst (c.map nmP)), some (.int R), some (.int L), z4, z5, none, some (.str p.1)] = .ok (out p) [some P, some (.lst (c.map nmP)), some (.int R), some (.int L), z4, z5, none, some (.str p.1)]) →
      eLc [7] (itL (eV 1)) (gN 7) t f [some P, some (.lst (c.map nmP)), some (.int R), some (.int L), z4, z5, none, none] = .ok (.lst ((c.filter Q).map out)) [some P, some (.lst (c.map nmP)), some (.int R), some (.int L), z4, z5, none, none] := fun t f z4 z5 Q out ht hf => by
    obtain ⟨r', a, d⟩ := lc_filter (vs := [7]) (g := gN 7) (t := t) (f := f) (w := [some P, some (.lst (c.map nmP)), some (.int R), some (.int L), z4, z5, none, none]) (h := nmP) (out := out) (P := Q) (xs := c) (fun p m =>
      ⟨[some P, some (.lst (c.map nmP)), some (.int R), some (.int L), z4, z5, none, some (.str p.1)], [some P, some (.lst (c.map nmP)), some (.int R), some (.int L), z4, z5, none, some (.str p.1)], rfl, ht p m, hf p m, rfl, rfl⟩) [some P, some (.lst (c.map nmP)), some (.int R), some (.int L), z4, z5, none, none] rfl
    have i : itL (eV 1) [some P, some (.lst (c.map nmP)), some (.int R), some (.int L), z4, z5, none, none] = .ok (c.map nmP) [some P, some (.lst (c.map nmP)), some (.int R), some (.int L), z4, z5, none, none] := by simp [itemsOf]
    have := lc_is i (by simp; omega) a
    rw [back_eq d] at this
    exact this
  have ei : ∀ u v : Int, pEq (.int u) (.int v) = some (.bl (decide (u = v))) := fun u v => by simp [pEq, pEqB, toP, SeqAt.shaped, PyData.canLay0, PyData.depth, PyData.eqv, Bool.beq_eq_decide_eq]
  have f4 := fl (tV (eB (oP pEq) (eB (oP pIx) (eB (oP pDix) (eV 0) (eV 7)) (eK (.int 0))) (eV 2))) (eN pTup (aCons (eB (oP pIx) (eB (oP pDix) (eV 0) (eV 7)) (eK (.int 1))) (aCons (eV 7) aNil))) none none (fun p => decide (p.2.1 = R)) (fun p => T2 p.2.2 p.1) (fun p m => by simp [dx p m, u0, ei]) (fun p m => by simp [dx p m, u1, h2, T2])
  have f5 := fl (tV (eB (oP pEq) (eB (oP pIx) (eB (oP pDix) (eV 0) (eV 7)) (eK (.int 1))) (eV 3))) (eN pTup (aCons (eB (oP pIx) (eB (oP pDix) (eV 0) (eV 7)) (eK (.int 0))) (aCons (eV 7) aNil))) (some (.str n0.1)) none (fun p => decide (p.2.2 = L)) (fun p => T2 p.2.1 p.1) (fun p m => by simp [dx p m, u1, ei]) (fun p m => by simp [dx p m, u0, h2, T2])
  have f6 := fl (tV (eB (oP pEq) (eB (oP pDix) (eV 0) (eV 7)) (eN pTup (aCons (eV 2) (aCons (eV 3) aNil))))) (eV 7) (some (.str n0.1)) (some (.str n1.1)) (fun p => decide (p.2.1 = R) && decide (p.2.2 = L)) nmP (fun p m => by
    have := eq_pr p.2.1 p.2.2 R L
    have d := dx p m
    unfold prD at d
    generalize D.tup [.int p.2.1, .int p.2.2] = RP at *
    simp [d, h2, this]) (fun p m => rfl)
  have fb : (if n0.1 = n1.1 then [n0] else []).map nmP = (if n0.1 = n1.1 then [n0.1] else []).map .str := by split <;> rfl
  rw [both, fb] at f6
  generalize (c.filter fun p => decide (p.2.1 = R)).map (fun p => T2 p.2.2 p.1) = FA at *
  generalize (c.filter fun p => decide (p.2.2 = L)).map (fun p => T2 p.2.1 p.1) = FB at *
  generalize D.lst (c.map nmP) = CC at *
  generalize hT0 : T2 n0.2.2 n0.1 = TA at *
  generalize hT1 : T2 n1.2.1 n1.1 = TB at *
  generalize n0.1 = s at *
  generalize n1.1 = t at *
  have t1 : sTg (gT [(gN 2), (gN 3)]) (eCd B__law_meet [] (aCons (eV 0) (aCons (eV 1) aNil))) [some P, some CC, none, none, none, none, none, none] = .ok .nx [some P, some CC, some (.int R), some (.int L), none, none, none, none] := by
    simp [e1, gTs, itemsOf]
  have m4 : (eN pMaxD (aCons (eLc [7] (itL (eV 1)) (gN 7) (tV (eB (oP pEq) (eB (oP pIx) (eB (oP pDix) (eV 0) (eV 7)) (eK (.int 0))) (eV 2))) (eN pTup (aCons (eB (oP pIx) (eB (oP pDix) (eV 0) (eV 7)) (eK (.int 1))) (aCons (eV 7) aNil)))) aNil)) [some P, some CC, some (.int R), some (.int L), none, none, none, none] = .ok TA [some P, some CC, some (.int R), some (.int L), none, none, none, none] := en_is (acons_is f4 rfl) x0
  have p4 : (eB (oP pIx) (eN pMaxD (aCons (eLc [7] (itL (eV 1)) (gN 7) (tV (eB (oP pEq) (eB (oP pIx) (eB (oP pDix) (eV 0) (eV 7)) (eK (.int 0))) (eV 2))) (eN pTup (aCons (eB (oP pIx) (eB (oP pDix) (eV 0) (eV 7)) (eK (.int 1))) (aCons (eV 7) aNil)))) aNil)) (eK (.int 1))) [some P, some CC, some (.int R), some (.int L), none, none, none, none] = .ok (.str s) [some P, some CC, some (.int R), some (.int L), none, none, none, none] := by
    simp only [eB, m4, Out.bind, eK, oP, q0, liftO]
  have t2 : sAs 4 (eB (oP pIx) (eN pMaxD (aCons (eLc [7] (itL (eV 1)) (gN 7) (tV (eB (oP pEq) (eB (oP pIx) (eB (oP pDix) (eV 0) (eV 7)) (eK (.int 0))) (eV 2))) (eN pTup (aCons (eB (oP pIx) (eB (oP pDix) (eV 0) (eV 7)) (eK (.int 1))) (aCons (eV 7) aNil)))) aNil)) (eK (.int 1))) [some P, some CC, some (.int R), some (.int L), none, none, none, none] = .ok .nx [some P, some CC, some (.int R), some (.int L), some (.str s), none, none, none] :=
    as_is p4
  have m5 : (eN pMaxD (aCons (eLc [7] (itL (eV 1)) (gN 7) (tV (eB (oP pEq) (eB (oP pIx) (eB (oP pDix) (eV 0) (eV 7)) (eK (.int 1))) (eV 3))) (eN pTup (aCons (eB (oP pIx) (eB (oP pDix) (eV 0) (eV 7)) (eK (.int 0))) (aCons (eV 7) aNil)))) aNil)) [some P, some CC, some (.int R), some (.int L), some (.str s), none, none, none] = .ok TB [some P, some CC, some (.int R), some (.int L), some (.str s), none, none, none] := en_is (acons_is f5 rfl) x1
  have p5 : (eB (oP pIx) (eN pMaxD (aCons (eLc [7] (itL (eV 1)) (gN 7) (tV (eB (oP pEq) (eB (oP pIx) (eB (oP pDix) (eV 0) (eV 7)) (eK (.int 1))) (eV 3))) (eN pTup (aCons (eB (oP pIx) (eB (oP pDix) (eV 0) (eV 7)) (eK (.int 0))) (aCons (eV 7) aNil)))) aNil)) (eK (.int 1))) [some P, some CC, some (.int R), some (.int L), some (.str s), none, none, none] = .ok (.str t) [some P, some CC, some (.int R), some (.int L), some (.str s), none, none, none] := by
    simp only [eB, m5, Out.bind, eK, oP, q1, liftO]
  have t3 : sAs 5 (eB (oP pIx) (eN pMaxD (aCons (eLc [7] (itL (eV 1)) (gN 7) (tV (eB (oP pEq) (eB (oP pIx) (eB (oP pDix) (eV 0) (eV 7)) (eK (.int 1))) (eV 3))) (eN pTup (aCons (eB (oP pIx) (eB (oP pDix) (eV 0) (eV 7)) (eK (.int 0))) (aCons (eV 7) aNil)))) aNil)) (eK (.int 1))) [some P, some CC, some (.int R), some (.int L), some (.str s), none, none, none] = .ok .nx [some P, some CC, some (.int R), some (.int L), some (.str s), some (.str t), none, none] :=
    as_is p5
  have t4 : sAs 6 (eLc [7] (itL (eV 1)) (gN 7) (tV (eB (oP pEq) (eB (oP pDix) (eV 0) (eV 7)) (eN pTup (aCons (eV 2) (aCons (eV 3) aNil))))) (eV 7)) [some P, some CC, some (.int R), some (.int L), some (.str s), some (.str t), none, none] = .ok .nx [some P, some CC, some (.int R), some (.int L), some (.str s), some (.str t), some (.lst ((if s = t then [s] else []).map .str)), none] := as_is f6
  have t5 : ∃ r, sRet (eIf (tV (eB (oP pNe) (eV 6) (eN pLst aNil))) (eN pTuple (aCons (eV 6) aNil)) (eN pTuple (aCons (eN pSorted (aCons (eN pLst (aCons (eV 4) (aCons (eV 5) aNil))) aNil)) aNil))) [some P, some CC, some (.int R), some (.int L), some (.str s), some (.str t), some (.lst ((if s = t then [s] else []).map .str)), none] = .ok (.rt (.tup ((if s = t then [s] else sortS [s, t]).map .str))) r := by
    have ne := ne_lst (l := if s = t then [s] else []) (fun x m => by
      split at m
      · simp at m
        subst m
        exact s0
      · cases m)
    refine ⟨[some P, some CC, some (.int R), some (.int L), some (.str s), some (.str t), some (.lst ((if s = t then [s] else []).map .str)), none], ?_⟩
    by_cases hst : s = t
    · rw [if_pos hst] at ne ⊢
      rw [if_pos hst]
      simp only [List.isEmpty_cons, Bool.not_false] at ne
      generalize [s].map D.str = U at *
      simp [ne, pTuple, itemsOf]
    · rw [if_neg hst] at ne ⊢
      rw [if_neg hst]
      have so := ends_ok (s := s) (t := t)
      rw [if_neg hst, if_neg hst] at so
      simp only [List.isEmpty_nil, Bool.not_true, List.map_nil] at ne ⊢
      generalize (sortS [s, t]).map D.str = U at *
      simp [ne, h2, so, pTuple, itemsOf]
  obtain ⟨r5, t5⟩ := t5
  exact mkB_run (n := 2) (m := 8) (io := []) (b := b__law_least) (ds := [P, CC]) (r0 := [some P, some CC, none, none, none, none, none, none]) rfl rfl (by rw [b__law_least, sSeq_nx t1, sSeq_nx t2, sSeq_nx t3, sSeq_nx t4]; exact t5)
end
end Kw
namespace Kw
open PySem PySem.Spec PyProof.Rows L2 Z
def crS {α : Type} (f : List (List α)) (x : α) : List (List α) := f ++ f.map fun s => s ++ [x]
def crF {α : Type} (l : List α) : List (List α) := l.foldl crS [[]]
def crT {α : Type} (l : List α) : List (List α) := (crF l).tail
theorem crF_snoc {α : Type} (l : List α) (x : α) : crF (l ++ [x]) = crS (crF l) x := by simp [crF]
theorem crF_map {α β : Type} (g : α → β) (l : List α) : crF (l.map g) = (crF l).map (List.map g) := by
  have : ∀ (l : List α) (f : List (List α)), (l.map g).foldl crS (f.map (List.map g)) = (l.foldl crS f).map (List.map g) := by
    intro l
    induction l with
    | nil => exact fun f => rfl
    | cons x l ih =>
      intro f
      rw [List.map_cons, List.foldl_cons, List.foldl_cons, ← ih]
      congr 1
      simp [crS]
  exact this l [[]]
theorem crT_map {α β : Type} (g : α → β) (l : List α) : crT (l.map g) = (crT l).map (List.map g) := by
  unfold crT
  rw [crF_map, List.map_tail]
theorem crF_len {α : Type} (l : List α) : (crF l).length = 2 ^ l.length := by
  have : ∀ (l : List α) (f : List (List α)), (l.foldl crS f).length = f.length * 2 ^ l.length := by
    intro l
    induction l with
    | nil => intro f; simp
    | cons x l ih =>
      intro f
      rw [List.foldl_cons, ih]
      simp [crS, Nat.pow_succ]
      rw [Nat.add_mul, Nat.mul_comm (2 ^ l.length) 2, ← Nat.mul_assoc, Nat.mul_comm f.length 2, Nat.two_mul, Nat.add_mul]
  simpa [crF] using this l [[]]
theorem crF_hd {α : Type} (l : List α) : crF l = [] :: crT l ∧ ∀ s ∈ crT l, s ≠ [] := by
  have : ∀ (l : List α) (t : List (List α)), (∀ s ∈ t, s ≠ []) → ∃ t', l.foldl crS ([] :: t) = [] :: t' ∧ ∀ s ∈ t', s ≠ [] := by
    intro l
    induction l with
    | nil => exact fun t h => ⟨t, rfl, h⟩
    | cons x l ih =>
      intro t h
      rw [List.foldl_cons]
      refine ih (t ++ ([] :: t).map fun s => s ++ [x]) fun s m => ?_
      rcases List.mem_append.mp m with m | m
      · exact h s m
      · obtain ⟨u, _, rfl⟩ := List.mem_map.mp m
        simp
  obtain ⟨t', e, h⟩ := this l [] fun _ m => nomatch m
  have e : crF l = [] :: t' := e
  have : crT l = t' := by unfold crT; rw [e]; rfl
  rw [this]
  exact ⟨e, h⟩
theorem mem_crF {α : Type} {s l : List α} : s ∈ crF l ↔ s.Sublist l := by
  have : ∀ (post pre : List α) (f : List (List α)), (∀ s, s ∈ f ↔ s.Sublist pre) → ∀ s, s ∈ post.foldl crS f ↔ s.Sublist (pre ++ post) := by
    intro post
    induction post with
    | nil => intro pre f h s; rw [List.append_nil]; exact h s
    | cons x post ih =>
      intro pre f h s
      rw [List.foldl_cons, ih (pre ++ [x]) (crS f x) fun u => ?_]
      · rw [List.append_assoc]; rfl
      · unfold crS
        rw [List.mem_append, h u, List.sublist_append_iff]
        constructor
        · rintro (m | m)
          · exact ⟨u, [], by simp, m, List.nil_sublist _⟩
          · obtain ⟨v, mv, rfl⟩ := List.mem_map.mp m
            exact ⟨v, [x], rfl, (h v).mp mv, List.Sublist.refl _⟩
        · rintro ⟨a, c, rfl, ha, hc⟩
          cases hc with
          | cons _ hc =>
            have : c = [] := List.sublist_nil.mp hc
            subst this
            rw [List.append_nil]
            exact .inl ha
          | cons_cons _ hc =>
            have := List.sublist_nil.mp hc
            subst this
            exact .inr (List.mem_map.mpr ⟨a, (h a).mpr ha, rfl⟩)
  have := this l [] [[]] (fun s => by simp) s
  rw [List.nil_append] at this
  exact this
theorem mem_crT {α : Type} {s l : List α} : s ∈ crT l ↔ s.Sublist l ∧ s ≠ [] := by
  obtain ⟨e, h⟩ := crF_hd l
  constructor
  · intro m
    exact ⟨mem_crF.mp (by rw [e]; exact List.mem_cons_of_mem _ m), h s m⟩
  · rintro ⟨m, n⟩
    have := mem_crF.mpr m
    rw [e] at this
    exact (List.mem_cons.mp this).resolve_left n
theorem crowds_ok {X : D} {ds : List D} (hx : itemsOf X = some ds) (hl : ds.length ≤ 5) : B__law_crowds [X] = .ok (.lst ((crT ds).map .lst)) [none] := by
  have h1 : (1 : Nat) ≤ big := big_of (by omega)
  have pw : ∀ l : List D, l.length ≤ 5 → (crF l).length ≤ 32 := fun l h => by
    rw [crF_len]
    exact Nat.pow_le_pow_right (n := 2) (by omega) h
  obtain ⟨r', ⟨z, er⟩, e⟩ := for_l (g := gN 2) (b := sAs 1 (eB (oP pAdd) (eV 1) (eLc [3] (itL (eV 1)) (gN 3) tY (eB (oP pAdd) (eV 3) (eN pLst (aCons (eV 2) aNil)))))) (f := id) (fun pre r => ∃ z, r = [some X, some (.lst ((crF pre).map .lst)), z, none]) ds (fun pre x post ep r ⟨z, er⟩ => by
    subst er
    refine ⟨[some X, some (.lst ((crF pre).map .lst)), some x, none], [some X, some (.lst ((crF (pre ++ [x])).map .lst)), some x, none], rfl, ?_, _, rfl⟩
    have lp : pre.length + 1 ≤ 5 := by
      have := congrArg List.length ep
      simp at this
      omega
    have c1 := pw pre (by omega)
    have c2 := pw (pre ++ [x]) (by simp; omega)
    have sub : ∀ s ∈ crF pre, s.length ≤ 5 := fun s m => by
      have := (mem_crF.mp m).length_le
      omega
    have go := lc_pure (vs := [3]) (g := gN 3) (t := tY) (f := eB (oP pAdd) (eV 3) (eN pLst (aCons (eV 2) aNil))) (r := [some X, some (.lst ((crF pre).map .lst)), some x, none]) (ds := (crF pre).map .lst) (outs := (crF pre).map fun s => .lst (s ++ [x])) (All2.of_map _ _ (crF pre) fun s m => by
      have : s.length + 1 ≤ big := big_of (by have := sub s m; omega)
      exact ⟨[some X, some (.lst ((crF pre).map .lst)), some x, some (.lst s)], [some X, some (.lst ((crF pre).map .lst)), some x, some (.lst s)], rfl, rfl, by simp [h1, pAdd, this], rfl⟩)
    have bl : ((crF pre).map D.lst).length ≤ big := big_of (by simp; omega)
    have ad : pAdd (.lst ((crF pre).map .lst)) (.lst ((crF pre).map fun s => .lst (s ++ [x]))) = some (.lst ((crF (pre ++ [x])).map .lst)) := by
      have : (crF pre).length + (crF pre).length ≤ big := big_of (by omega)
      simp only [pAdd, List.length_map]
      rw [if_pos this, crF_snoc, crS, List.map_append, List.map_map]
      rfl
    generalize (crF (pre ++ [x])).map D.lst = F2 at *
    generalize ((crF pre).map fun s => D.lst (s ++ [x])) = G2 at *
    generalize (crF pre).map D.lst = F1 at *
    simp [itemsOf, bl, go, ad]) [some X, some (.lst ((crF ([] : List D)).map .lst)), none, none] ⟨none, rfl⟩
  subst er
  rw [List.map_id] at e
  have e : forGo (gN 2) (sAs 1 (eB (oP pAdd) (eV 1) (eLc [3] (itL (eV 1)) (gN 3) tY (eB (oP pAdd) (eV 3) (eN pLst (aCons (eV 2) aNil)))))) ds [some X, some (.lst [.lst []]), none, none] = _ := e
  have s1 := sl_drop ((crF ds).map .lst) 1
  have t1 : ((crF ds).map D.lst).drop 1 = (crT ds).map .lst := by
    rw [(crF_hd ds).1]
    rfl
  rw [t1] at s1
  have s1 : pSl (.lst ((crF ds).map .lst)) (some 1) none = some (.lst ((crT ds).map .lst)) := s1
  have h0 : (0 : Nat) ≤ big := Nat.zero_le _
  generalize (crT ds).map D.lst = T at *
  generalize (crF ds).map D.lst = F at *
  simp [B__law_crowds, mkB, b__law_crowds, h1, h0, hx, e, s1]
end Kw
namespace Kw
open PySem PySem.Spec PyProof.Rows L2 Z
section
variable {b : Int} {qs c : List Pn} {m0 m1 : Pn}
theorem nm_inj {l : List Pn} (nc : (l.map (·.1)).Nodup) {x y : Pn} (mx : x ∈ l) (my : y ∈ l) (e : x.1 = y.1) : x = y := by
  obtain ⟨i, hi, ei⟩ := List.getElem_of_mem mx
  obtain ⟨j, hj, ej⟩ := List.getElem_of_mem my
  have := List.pairwise_iff_getElem.mp nc
  rcases Nat.lt_trichotomy i j with l | l | l
  · have := this i j (by simpa using hi) (by simpa using hj) l
    simp only [List.getElem_map, ei, ej] at this
    exact absurd e this
  · subst l
    rw [ei] at ej
    exact ej
  · have := this j i (by simpa using hj) (by simpa using hi) l
    simp only [List.getElem_map, ei, ej] at this
    exact absurd e.symm this
structure Lst (b : Int) (qs c : List Pn) (m0 m1 : Pn) : Prop where
  h : Rdd b qs
  mc : ∀ p ∈ c, p ∈ qs
  nc : (c.map (·.1)).Nodup
  g0 : G0 c m0
  g1 : G1 c m1
  lc : c.length ≤ 5
theorem Lst.un (s : Lst b qs c m0 m1) : ∀ x ∈ c, ∀ y ∈ c, x.2.1 = y.2.1 → x.2.2 = y.2.2 → x = y := fun x mx y my => s.h.uniq (s.mc x mx) (s.mc y my)
theorem Lst.rel (s : Lst b qs c m0 m1) {y : Pn} (my : y ∈ c) : (y.2.1 < m0.2.1 ∨ (y.2.1 = m0.2.1 ∧ y.2.2 ≤ m0.2.2)) ∧ (y.2.2 < m1.2.2 ∨ (y.2.2 = m1.2.2 ∧ y.2.1 ≤ m1.2.1)) := by
  have a := s.g0.2 y my
  have d := s.g1.2 y my
  unfold lx at a d
  omega
theorem Lst.nm (s : Lst b qs c m0 m1) : m0.1 = m1.1 ↔ m0 = m1 := ⟨fun e => nm_inj s.nc s.g0.1 s.g1.1 e, fun e => by rw [e]⟩
theorem cf_mem {x : Pn} (m : x ∈ cf m0 m1) : x = m0 ∨ x = m1 := by
  unfold cf at m
  split at m
  · simp at m
    exact .inl m
  · have := (sortE_perm _).mem_iff.mp m
    simpa using this
theorem Lst.cf0 (s : Lst b qs c m0 m1) : m0 ∈ cf m0 m1 ∧ m1 ∈ cf m0 m1 := by
  unfold cf
  split
  · rename_i e
    have := s.nm.mp e
    simp [this]
  · exact ⟨(sortE_perm _).mem_iff.mpr (by simp), (sortE_perm _).mem_iff.mpr (by simp)⟩
theorem Lst.cfc (s : Lst b qs c m0 m1) : ∀ x ∈ cf m0 m1, x ∈ c := fun x m => by
  rcases cf_mem m with e | e
  · rw [e]; exact s.g0.1
  · rw [e]; exact s.g1.1
theorem cf_len : (cf m0 m1).length = if m0.1 = m1.1 then 1 else 2 := by
  unfold cf
  split
  · rfl
  · rw [(sortE_perm _).length_eq]
    rfl
theorem cf_nd : ((cf m0 m1).map (·.1)).Nodup := by
  rw [cf_names]
  split
  · simp
  · rename_i h
    exact (sort_perm _).nodup_iff.mpr (by simp [h])
theorem least_sub {c2 : List Pn} {X : D} (s : Lst b qs c m0 m1) (hx : Sq X (c2.map nmP)) (m2 : ∀ p ∈ c2, p ∈ c) (n2 : (c2.map (·.1)).Nodup) (i0 : m0 ∈ c2) (i1 : m1 ∈ c2) (hl : c2.length ≤ 60) : B_least_bringing [.ob 3 (bkl 1 (qs.map (ent b))), X] = .ok (.tup ((cf m0 m1).map nmP)) [none, none] := by
  obtain ⟨n0, n1, k0, k1, e⟩ := least_ok s.h hx (fun p m => s.mc p (m2 p m)) n2 (List.length_pos_of_mem i0) hl
  have a0 := s.rel (m2 n0 k0.1)
  have a1 := s.rel (m2 n1 k1.1)
  have z0 := k0.2 m0 i0
  have z1 := k1.2 m1 i1
  unfold lx at z0 z1
  have e0 : n0 = m0 := s.un n0 (m2 n0 k0.1) m0 s.g0.1 (by omega) (by omega)
  have e1 : n1 = m1 := s.un n1 (m2 n1 k1.1) m1 s.g1.1 (by omega) (by omega)
  rw [e0, e1] at e
  exact e
theorem Lst.max1 {c2 : List Pn} (s : Lst b qs c m0 m1) (m2 : ∀ p ∈ c2, p ∈ c) (i0 : m0 ∈ c2) : maxI (c2.map (·.2.1)) = m0.2.1 := maxI_uniq (List.mem_map_of_mem (f := fun p : Pn => p.2.1) i0) fun x mx => by
  obtain ⟨y, my, rfl⟩ := List.mem_map.mp mx
  have := s.rel (m2 y my)
  omega
theorem Lst.max2 {c2 : List Pn} (s : Lst b qs c m0 m1) (m2 : ∀ p ∈ c2, p ∈ c) (i1 : m1 ∈ c2) : maxI (c2.map (·.2.2)) = m1.2.2 := maxI_uniq (List.mem_map_of_mem (f := fun p : Pn => p.2.2) i1) fun x mx => by
  obtain ⟨y, my, rfl⟩ := List.mem_map.mp mx
  have := s.rel (m2 y my)
  omega
theorem brought_sub {c2 : List Pn} {X : D} (s : Lst b qs c m0 m1) (hx : Sq X (c2.map nmP)) (m2 : ∀ p ∈ c2, p ∈ c) (n2 : (c2.map (·.1)).Nodup) (i0 : m0 ∈ c2) (i1 : m1 ∈ c2) (hl : c2.length ≤ 60) : B_brought_by [.ob 3 (bkl 1 (qs.map (ent b))), X] = .ok (.tup ((qs.filter (seenP b qs (ra b qs m0) (rb b qs m1))).map nmP)) [none, none] := by
  have e := brought_ok s.h hx (fun p m => s.mc p (m2 p m)) n2 (List.length_pos_of_mem i0) hl
  have q0 := s.mc m0 s.g0.1
  have q1 := s.mc m1 s.g1.1
  have a : maxI (c2.map (ra b qs)) = ra b qs m0 := maxI_uniq (List.mem_map_of_mem (f := ra b qs) i0) fun x mx => by
    obtain ⟨y, my, rfl⟩ := List.mem_map.mp mx
    have := s.rel (m2 y my)
    exact (ra_le s.h (s.mc y (m2 y my)) q0).mpr (by omega)
  have d : maxI (c2.map (rb b qs)) = rb b qs m1 := maxI_uniq (List.mem_map_of_mem (f := rb b qs) i1) fun x mx => by
    obtain ⟨y, my, rfl⟩ := List.mem_map.mp mx
    have := s.rel (m2 y my)
    exact (rb_le s.h (s.mc y (m2 y my)) q1).mpr (by omega)
  rw [a, d] at e
  exact e
theorem minI_uniq {ns : List Int} {g : Int} (m : g ∈ ns) (h : ∀ x ∈ ns, g ≤ x) : minI ns = g := by
  have n : ns ≠ [] := fun e => by rw [e] at m; cases m
  obtain ⟨h1, h2⟩ := minI_is n
  have := h2 g m
  have := h _ h1
  omega
theorem sub_two {α : Type} {x y : α} : ∀ {l : List α}, x ∈ l → y ∈ l → x ≠ y → [x, y].Sublist l ∨ [y, x].Sublist l
  | z :: l, mx, my, n => by
    by_cases ex : z = x
    · have my : y ∈ l := (List.mem_cons.mp my).resolve_left fun e => n (by rw [← ex, e])
      exact .inl (by rw [ex]; exact List.Sublist.cons_cons _ (List.singleton_sublist.mpr my))
    · have mx : x ∈ l := (List.mem_cons.mp mx).resolve_left fun e => ex e.symm
      by_cases ey : z = y
      · exact .inr (by rw [ey]; exact List.Sublist.cons_cons _ (List.singleton_sublist.mpr mx))
      · have my : y ∈ l := (List.mem_cons.mp my).resolve_left fun e => ey e.symm
        rcases sub_two mx my n with h | h
        · exact .inl (h.cons _)
        · exact .inr (h.cons _)
def meetP (R L : Int) (s : List Pn) : Bool := decide (maxI (s.map (·.2.1)) = R) && decide (maxI (s.map (·.2.2)) = L)
theorem few_ok (s : Lst b qs c m0 m1) : (crT c).filter (meetP m0.2.1 m1.2.2) ≠ [] ∧ minI (((crT c).filter (meetP m0.2.1 m1.2.2)).map fun p => (p.length : Int)) = ((cf m0 m1).length : Nat) := by
  have part : ∃ p ∈ crT c, meetP m0.2.1 m1.2.2 p = true ∧ p.length = (cf m0 m1).length := by
    have mp : ∀ p : List Pn, p.Sublist c → m0 ∈ p → m1 ∈ p → meetP m0.2.1 m1.2.2 p = true := fun p hs i0 i1 => by
      unfold meetP
      rw [s.max1 (fun x m => hs.subset m) i0, s.max2 (fun x m => hs.subset m) i1]
      simp
    rw [cf_len]
    by_cases e : m0 = m1
    · refine ⟨[m0], mem_crT.mpr ⟨List.singleton_sublist.mpr s.g0.1, by simp⟩, mp _ (List.singleton_sublist.mpr s.g0.1) (by simp) (by simp [e]), ?_⟩
      rw [if_pos (by rw [e])]
      rfl
    · rw [if_neg (fun z => e (s.nm.mp z))]
      rcases sub_two s.g0.1 s.g1.1 e with h | h
      · exact ⟨[m0, m1], mem_crT.mpr ⟨h, by simp⟩, mp _ h (by simp) (by simp), rfl⟩
      · exact ⟨[m1, m0], mem_crT.mpr ⟨h, by simp⟩, mp _ h (by simp) (by simp), rfl⟩
  obtain ⟨p, m1', m2, m3⟩ := part
  have mf : p ∈ (crT c).filter (meetP m0.2.1 m1.2.2) := List.mem_filter.mpr ⟨m1', m2⟩
  refine ⟨fun e => (by rw [e] at mf; cases mf), minI_uniq ?_ fun x mx => ?_⟩
  · rw [← m3]
    exact List.mem_map_of_mem (f := fun p : List Pn => (p.length : Int)) mf
  · obtain ⟨t, mt, rfl⟩ := List.mem_map.mp mx
    obtain ⟨ht, he⟩ := List.mem_filter.mp mt
    obtain ⟨hs, hn⟩ := mem_crT.mp ht
    rw [cf_len]
    split
    · have := List.length_pos_iff.mpr hn
      omega
    · rename_i hne
      match t, hn with
      | [y], _ =>
        exfalso
        unfold meetP at he
        simp only [Bool.and_eq_true, decide_eq_true_eq, List.map_cons, List.map_nil, maxI] at he
        have my : y ∈ c := hs.subset (by simp)
        have r0 := s.rel s.g0.1
        have r1 := s.rel s.g1.1
        have ry := s.rel my
        have a : y = m0 := s.un y my m0 s.g0.1 he.1 (by omega)
        have d : y = m1 := s.un y my m1 s.g1.1 (by omega) he.2
        exact hne (by rw [← a, ← d])
      | y :: z :: t, _ =>
        simp
        omega
end
end Kw
namespace Kw
open PySem PySem.Spec PyProof.Rows L2 Z
def ll1 : M Fl := (sAs 6 (eIf (tV (eB (oP pEq) (eCo B__law_take 1 (aCons (eK (.int 2)) aNil)) (eK (.int 0)))) (eRev (eV 5) (eU (oU pNeg) (eK (.int 1)))) (eV 5)))
def ll2 : M Fl := (sTg (gT [(gN 7), (gN 8), (gN 9)]) (eN pTup (aCons (eN pList (aCons (eV 6) aNil)) (aCons (eCd B_least_bringing [] (aCons (eV 3) (aCons (eV 6) aNil))) (aCons (eCd B__law_meet [] (aCons (eV 2) (aCons (eV 5) aNil))) aNil)))))
def ll3 : M Fl := (sIf (tOn (tV (eB (oP pNe) (eV 8) (eCd B__law_least [] (aCons (eV 2) (aCons (eV 5) aNil))))) (tOn (tV (eB (oP pNe) (eV 6) (eV 7))) (tV (eB (oP pNe) (eCk B_least_bringing 0 2 [1, 0] [] aNil (aCons (eN pTuple (aCons (eV 6) aNil)) (aCons (eV 3) aNil))) (eV 8))))) (sRet (eK (.bl false))) sNil)
def ll4 : M Fl := (sAs 10 (eN pMin1 (aCons (eLc [11] (itL (eCd B__law_crowds [] (aCons (eV 5) aNil))) (gN 11) (tV (eB (oP pEq) (eCd B__law_meet [] (aCons (eV 2) (aCons (eV 11) aNil))) (eV 9))) (eN pLen (aCons (eV 11) aNil))) aNil)))
def ll5 : M Fl := (sIf (tOn (tV (eB (oP pNe) (eN pLen (aCons (eV 8) aNil)) (eV 10))) (tOn (tV (eB (oP pNe) (eCd B__law_meet [] (aCons (eV 2) (aCons (eV 8) aNil))) (eV 9))) (tV (eB (oP pNe) (eLc [12] (itL (eV 8)) (gN 12) (tV (eB (oP pNotIn) (eV 12) (eV 5))) (eV 12)) (eN pLst aNil))))) (sRet (eK (.bl false))) sNil)
def ll6 : M Fl := (sIf (tOn (tV (eB (oP pNe) (eCd B_brought_by [] (aCons (eV 3) (aCons (eV 8) aNil))) (eCd B_brought_by [] (aCons (eV 3) (aCons (eV 5) aNil))))) (tV (eB (oP pNe) (eCd B_least_bringing [] (aCons (eV 3) (aCons (eN pList (aCons (eV 8) aNil)) aNil))) (eV 8)))) (sRet (eK (.bl false))) sNil)
def lll : M Fl := (sSeq ll1 (sSeq ll2 (sSeq ll3 (sSeq ll4 (sSeq ll5 ll6)))))
def lwE (S d P BK NM : D) (z5 z6 z7 z8 z9 z10 z11 z12 : Option D) : Ev := [some S, some d, some P, some BK, some NM, z5, z6, z7, z8, z9, z10, z11, z12]
section
variable {S d d1 P BK NM C TD FD MT TT FW FL : D} {z5 z6 z7 z8 z9 z10 z11 z12 : Option D}
theorem ei_int (u v : Int) : pEq (.int u) (.int v) = some (.bl (decide (u = v))) := by simp [pEq, pEqB, toP, SeqAt.shaped, PyData.canLay0, PyData.depth, PyData.eqv, Bool.beq_eq_decide_eq]
theorem ni_int (u : Int) : pNe (.int u) (.int u) = some (.bl false) := by simp [pNe, pEqB, toP, SeqAt.shaped, PyData.canLay0, PyData.depth, PyData.eqv]
theorem q1c {N : Nat} {l : List D} (hP : Pen N d) (hN : N ≤ 2 ^ 20) : ∃ l' d', (l' = l ∨ l' = l.reverse) ∧ ll1 (lwE S d P BK NM (some (.lst l)) z6 z7 z8 z9 z10 z11 z12) = .ok .nx (lwE S d' P BK NM (some (.lst l)) (some (.lst l')) z7 z8 z9 z10 z11 z12) ∧ Pen (N + 1) d' := by
  obtain ⟨a, d', e, a0, a1, p⟩ := draw_ok (m := 2) hP hN (by omega) (by omega)
  have q := ei_int a 0
  by_cases h : a = 0
  · rw [decide_eq_true h] at q
    refine ⟨l.reverse, d', .inr rfl, ?_, p⟩
    simp [ll1, lwE, e, q, pNeg, revM]
  · rw [decide_eq_false h] at q
    refine ⟨l, d', .inl rfl, ?_, p⟩
    simp [ll1, lwE, e, q]
theorem q2c {l : List D} (hT : TD = .lst l) (e1 : B_least_bringing [BK, TD] = .ok FD [none, none]) (e2 : B__law_meet [P, C] = .ok MT [none, none]) :
    ll2 (lwE S d P BK NM (some C) (some TD) z7 z8 z9 z10 z11 z12) = .ok .nx (lwE S d P BK NM (some C) (some TD) (some TD) (some FD) (some MT) z10 z11 z12) := by
  have h3 : (3 : Nat) ≤ big := big_of (by omega)
  have pl : pList [TD] = some TD := by rw [hT]; rfl
  simp [ll2, lwE, e1, e2, pl, h3, gTs, itemsOf]
theorem q3c (e1 : B__law_least [P, C] = .ok FD [none, none]) (n1 : pNe FD FD = some (.bl false)) (n2 : pNe TD TD = some (.bl false)) (tp : pTuple [TD] = some TT) (e2 : B_least_bringing [BK, TT] = .ok FD [none, none]) :
    ll3 (lwE S d P BK NM (some C) (some TD) (some TD) (some FD) z9 z10 z11 z12) = .ok .nx (lwE S d P BK NM (some C) (some TD) (some TD) (some FD) z9 z10 z11 z12) := by
  simp [ll3, lwE, e1, n1, n2, tp, e2, permL]
theorem q5c {k : Int} (ln : pLen [FD] = some (.int k)) (e1 : B__law_meet [P, FD] = .ok MT [none, none]) (n1 : pNe MT MT = some (.bl false)) (le : eLc [12] (itL (eV 8)) (gN 12) (tV (eB (oP pNotIn) (eV 12) (eV 5))) (eV 12) (lwE S d P BK NM (some C) z6 z7 (some FD) (some MT) (some (.int k)) z11 z12) = .ok (.lst []) (lwE S d P BK NM (some C) z6 z7 (some FD) (some MT) (some (.int k)) z11 z12)) :
    ll5 (lwE S d P BK NM (some C) z6 z7 (some FD) (some MT) (some (.int k)) z11 z12) = .ok .nx (lwE S d P BK NM (some C) z6 z7 (some FD) (some MT) (some (.int k)) z11 z12) := by
  have n2 : pNe (.lst []) (.lst []) = some (.bl false) := pNe_nil []
  have n0 := ni_int k
  have c1 : (tV (eB (oP pNe) (eN pLen (aCons (eV 8) aNil)) (eV 10))) (lwE S d P BK NM (some C) z6 z7 (some FD) (some MT) (some (.int k)) z11 z12) = .ok false (lwE S d P BK NM (some C) z6 z7 (some FD) (some MT) (some (.int k)) z11 z12) := by
    simp [lwE, ln, n0]
  have c2 : (tV (eB (oP pNe) (eCd B__law_meet [] (aCons (eV 2) (aCons (eV 8) aNil))) (eV 9))) (lwE S d P BK NM (some C) z6 z7 (some FD) (some MT) (some (.int k)) z11 z12) = .ok false (lwE S d P BK NM (some C) z6 z7 (some FD) (some MT) (some (.int k)) z11 z12) := by
    simp [lwE, e1, n1]
  have c3 : (tV (eB (oP pNe) (eLc [12] (itL (eV 8)) (gN 12) (tV (eB (oP pNotIn) (eV 12) (eV 5))) (eV 12)) (eN pLst aNil))) (lwE S d P BK NM (some C) z6 z7 (some FD) (some MT) (some (.int k)) z11 z12) = .ok false (lwE S d P BK NM (some C) z6 z7 (some FD) (some MT) (some (.int k)) z11 z12) := by
    have h0 : (0 : Nat) ≤ big := Nat.zero_le _
    have l0 : eN pLst aNil (lwE S d P BK NM (some C) z6 z7 (some FD) (some MT) (some (.int k)) z11 z12) = .ok (.lst []) (lwE S d P BK NM (some C) z6 z7 (some FD) (some MT) (some (.int k)) z11 z12) := en_is rfl (by simp [pLst])
    simp only [tV, eB, le, l0, Out.bind, oP, n2, liftO]
  rw [ll5]
  simp only [sIf, tOn, c1, c2, c3, Out.bind, Bool.false_eq_true, if_false]
  rfl
theorem q6c {B1 : D} (e1 : B_brought_by [BK, FD] = .ok B1 [none, none]) (e2 : B_brought_by [BK, C] = .ok B1 [none, none]) (n1 : pNe B1 B1 = some (.bl false)) (pl : pList [FD] = some FL) (e3 : B_least_bringing [BK, FL] = .ok FD [none, none]) (n2 : pNe FD FD = some (.bl false)) :
    ll6 (lwE S d P BK NM (some C) z6 z7 (some FD) z9 z10 z11 z12) = .ok .nx (lwE S d P BK NM (some C) z6 z7 (some FD) z9 z10 z11 z12) := by
  simp [ll6, lwE, e1, e2, n1, pl, e3, n2]
theorem notin_no {c : List Pn} {p : Pn} (m : p ∈ c) : pNotIn (.str p.1) (.lst (c.map nmP)) = some (.bl false) := by
  have tv : toVs (c.map nmP) = some (c.map fun p => V.str p.1) := by
    clear m
    induction c with
    | nil => rfl
    | cons q c ih => simp [toVs, toV, nmP, ih]
  have h : inV (.str p.1) (c.map fun p => V.str p.1) = true := by
    unfold inV
    rw [List.any_map]
    exact List.any_eq_true.mpr ⟨p, m, by simp [eqV]⟩
  simp [pNotIn, pInB, itemsOf, tv, toV, h]
theorem q5l {c f : List Pn} (hf : ∀ p ∈ f, p ∈ c) (hl : f.length ≤ 60) : eLc [12] (itL (eV 8)) (gN 12) (tV (eB (oP pNotIn) (eV 12) (eV 5))) (eV 12) (lwE S d P BK NM (some (.lst (c.map nmP))) z6 z7 (some (.tup (f.map nmP))) z9 z10 z11 none) = .ok (.lst []) (lwE S d P BK NM (some (.lst (c.map nmP))) z6 z7 (some (.tup (f.map nmP))) z9 z10 z11 none) := by
  obtain ⟨FD, hFD⟩ : ∃ FD, FD = D.tup (f.map nmP) := ⟨_, rfl⟩
  rw [← hFD]
  obtain ⟨r', a, e⟩ := lc_filter (vs := [12]) (g := gN 12) (t := tV (eB (oP pNotIn) (eV 12) (eV 5))) (f := eV 12) (w := lwE S d P BK NM (some (.lst (c.map nmP))) z6 z7 (some FD) z9 z10 z11 none) (h := nmP) (out := nmP) (P := fun _ => false) (xs := f) (fun p m => by
    have q := notin_no (hf p m)
    refine ⟨lwE S d P BK NM (some (.lst (c.map nmP))) z6 z7 (some FD) z9 z10 z11 (some (.str p.1)), lwE S d P BK NM (some (.lst (c.map nmP))) z6 z7 (some FD) z9 z10 z11 (some (.str p.1)), rfl, ?_, rfl, rfl, rfl⟩
    generalize D.lst (c.map nmP) = CC at *
    simp [lwE, q]) (lwE S d P BK NM (some (.lst (c.map nmP))) z6 z7 (some FD) z9 z10 z11 none) rfl
  have i : itL (eV 8) (lwE S d P BK NM (some (.lst (c.map nmP))) z6 z7 (some FD) z9 z10 z11 none) = .ok (f.map nmP) (lwE S d P BK NM (some (.lst (c.map nmP))) z6 z7 (some FD) z9 z10 z11 none) := by
    rw [hFD]
    simp [lwE, itemsOf]
  have := lc_is i (by simp; omega) a
  rw [back_eq e] at this
  rw [this]
  congr 2
  have : f.filter (fun _ => false) = [] := List.filter_eq_nil_iff.mpr fun x _ => by simp
  rw [this]
  rfl
end
section
variable {b : Int} {qs c ps : List Pn} {m0 m1 : Pn} {S d BK NM TD FD : D} {z5 z6 z7 z8 z9 z10 z11 z12 : Option D}
theorem q4c (s : Lst b qs c m0 m1) (hn : (ps.map (·.1)).Nodup) (hp : ∀ p ∈ c, p ∈ ps) :
    ll4 (lwE S d (plD ps) BK NM (some (.lst (c.map nmP))) z6 z7 z8 (some (.tup [.int m0.2.1, .int m1.2.2])) z10 none z12) = .ok .nx (lwE S d (plD ps) BK NM (some (.lst (c.map nmP))) z6 z7 z8 (some (.tup [.int m0.2.1, .int m1.2.2])) (some (.int ((cf m0 m1).length : Nat))) none z12) := by
  obtain ⟨f1, f2⟩ := few_ok s
  have cr := crowds_ok (X := .lst (c.map nmP)) (ds := c.map nmP) rfl (by simpa using s.lc)
  have len32 : (crT c).length ≤ 32 := by
    have h1 := congrArg List.length (crF_hd c).1
    rw [crF_len] at h1
    have : 2 ^ c.length ≤ 2 ^ 5 := Nat.pow_le_pow_right (by omega) s.lc
    simp only [List.length_cons] at h1
    omega
  have me : ∀ p ∈ crT c, B__law_meet [plD ps, .lst (p.map nmP)] = .ok (.tup [.int (maxI (p.map (·.2.1))), .int (maxI (p.map (·.2.2)))]) [none, none] := fun p m => by
    obtain ⟨hs, hne⟩ := mem_crT.mp m
    exact lmeet_ok hn (.inl rfl) (fun x mx => hp x (hs.subset mx)) hne (Nat.le_trans hs.length_le (by have := s.lc; omega))
  rw [crT_map] at cr
  have mt := fun u v : Int => eq_pr u v m0.2.1 m1.2.2
  have mP : ∀ p : List Pn, meetP m0.2.1 m1.2.2 p = (decide (maxI (p.map (·.2.1)) = m0.2.1) && decide (maxI (p.map (·.2.2)) = m1.2.2)) := fun _ => rfl
  generalize meetP m0.2.1 m1.2.2 = Q at *
  generalize D.tup [.int m0.2.1, .int m1.2.2] = MT at *
  generalize plD ps = P at *
  obtain ⟨CC, hCC⟩ : ∃ CC, CC = D.lst (c.map nmP) := ⟨_, rfl⟩
  rw [← hCC] at cr ⊢
  obtain ⟨r', a, e⟩ := lc_filter (vs := [11]) (g := gN 11) (t := tV (eB (oP pEq) (eCd B__law_meet [] (aCons (eV 2) (aCons (eV 11) aNil))) (eV 9))) (f := eN pLen (aCons (eV 11) aNil)) (w := lwE S d P BK NM (some CC) z6 z7 z8 (some MT) z10 none z12) (h := fun p : List Pn => .lst (p.map nmP)) (out := fun p => .int (p.length : Nat)) (P := Q) (xs := crT c) (fun p m => by
    have e1 := me p m
    have e2 := mt (maxI (p.map (·.2.1))) (maxI (p.map (·.2.2)))
    rw [← mP p] at e2
    have ln : pLen [.lst (p.map nmP)] = some (.int (p.length : Nat)) := by simp [pLen, itemsOf]
    refine ⟨lwE S d P BK NM (some CC) z6 z7 z8 (some MT) z10 (some (.lst (p.map nmP))) z12, lwE S d P BK NM (some CC) z6 z7 z8 (some MT) z10 (some (.lst (p.map nmP))) z12, rfl, ?_, ?_, rfl, rfl⟩
    · generalize D.tup [.int (maxI (p.map (·.2.1))), .int (maxI (p.map (·.2.2)))] = MP at *
      generalize D.lst (p.map nmP) = PP at *
      generalize Q p = q at *
      simp [lwE, e1, e2]
    · generalize D.lst (p.map nmP) = PP at *
      generalize p.length = k at *
      simp [lwE, ln]) (lwE S d P BK NM (some CC) z6 z7 z8 (some MT) z10 none z12) rfl
  have i : itL (eCd B__law_crowds [] (aCons (eV 5) aNil)) (lwE S d P BK NM (some CC) z6 z7 z8 (some MT) z10 none z12) = .ok ((crT c).map fun p : List Pn => .lst (p.map nmP)) (lwE S d P BK NM (some CC) z6 z7 z8 (some MT) z10 none z12) := by
    have cr : B__law_crowds [CC] = .ok (.lst ((crT c).map fun p : List Pn => .lst (p.map nmP))) [none] := by
      rw [cr, List.map_map]
      rfl
    generalize (crT c).map (fun p : List Pn => D.lst (p.map nmP)) = L at *
    simp [lwE, cr, itemsOf]
  have lc := lc_is i (by simp; omega) a
  rw [back_eq e] at lc
  have mi := min_ints (ns := ((crT c).filter Q).map fun p => (p.length : Int)) (by simpa using f1)
  rw [f2, List.map_map] at mi
  have mi : pMin1 [.lst (((crT c).filter Q).map fun p => .int (p.length : Nat))] = some (.int ((cf m0 m1).length : Nat)) := mi
  have := as_is (i := 10) (en_is (p := pMin1) (acons_is lc rfl) mi)
  rw [ll4]
  exact this
end
end Kw
namespace Kw
open PySem PySem.Spec PyProof.Rows L2 Z
def lw1 : M Fl := (sAsF 1 (eCd B__law_hat [] (aCons (eV 0) aNil)))
def lw2 : M Fl := (sAs 2 (eCo B__law_plain 1 (aCons (eCo B__law_of 1 (aCons (eN pLst (aCons (eK (.int 4)) (aCons (eK (.int 5)) (aCons (eK (.int 3)) (aCons (eK (.int 5)) (aCons (eK (.int 1)) (aCons (eK (.int 2)) aNil))))))) aNil)) aNil)))
def lw3 : M Fl := (sPar [gN 3, gN 4] (aCons (eCd B__law_book [] (aCons (eV 2) (aCons (eCo B__law_of 1 (aCons (eN pLst (aCons (eK (.int 1)) (aCons (eK (.int 2)) (aCons (eK (.int 6)) aNil)))) aNil)) aNil))) (aCons (eN pSortedK (aCons (eV 2) aNil)) aNil)))
def lw4 : M Fl := (sFor (itL (eCd B__law_crowds [] (aCons (eV 4) aNil))) (gN 5) (sSeq (sAs 6 (eIf (tV (eB (oP pEq) (eCo B__law_take 1 (aCons (eK (.int 2)) aNil)) (eK (.int 0)))) (eRev (eV 5) (eU (oU pNeg) (eK (.int 1)))) (eV 5))) (sSeq (sTg (gT [(gN 7), (gN 8), (gN 9)]) (eN pTup (aCons (eN pList (aCons (eV 6) aNil)) (aCons (eCd B_least_bringing [] (aCons (eV 3) (aCons (eV 6) aNil))) (aCons (eCd B__law_meet [] (aCons (eV 2) (aCons (eV 5) aNil))) aNil))))) (sSeq (sIf (tOn (tV (eB (oP pNe) (eV 8) (eCd B__law_least [] (aCons (eV 2) (aCons (eV 5) aNil))))) (tOn (tV (eB (oP pNe) (eV 6) (eV 7))) (tV (eB (oP pNe) (eCk B_least_bringing 0 2 [1, 0] [] aNil (aCons (eN pTuple (aCons (eV 6) aNil)) (aCons (eV 3) aNil))) (eV 8))))) (sRet (eK (.bl false))) sNil) (sSeq (sAs 10 (eN pMin1 (aCons (eLc [11] (itL (eCd B__law_crowds [] (aCons (eV 5) aNil))) (gN 11) (tV (eB (oP pEq) (eCd B__law_meet [] (aCons (eV 2) (aCons (eV 11) aNil))) (eV 9))) (eN pLen (aCons (eV 11) aNil))) aNil))) (sSeq (sIf (tOn (tV (eB (oP pNe) (eN pLen (aCons (eV 8) aNil)) (eV 10))) (tOn (tV (eB (oP pNe) (eCd B__law_meet [] (aCons (eV 2) (aCons (eV 8) aNil))) (eV 9))) (tV (eB (oP pNe) (eLc [12] (itL (eV 8)) (gN 12) (tV (eB (oP pNotIn) (eV 12) (eV 5))) (eV 12)) (eN pLst aNil))))) (sRet (eK (.bl false))) sNil) (sIf (tOn (tV (eB (oP pNe) (eCd B_brought_by [] (aCons (eV 3) (aCons (eV 8) aNil))) (eCd B_brought_by [] (aCons (eV 3) (aCons (eV 5) aNil))))) (tV (eB (oP pNe) (eCd B_least_bringing [] (aCons (eV 3) (aCons (eN pList (aCons (eV 8) aNil)) aNil))) (eV 8)))) (sRet (eK (.bl false))) sNil)))))))
def lw5 : M Fl := (sRet (eK (.bl true)))
theorem lws : b_law = (sSeq lw1 (sSeq lw2 (sSeq lw3 (sSeq lw4 lw5)))) := rfl
theorem strs_tup {l : List Pn} (h : ∀ p ∈ l, PyData.strOk p.1 = true) : pNe (.tup (l.map nmP)) (.tup (l.map nmP)) = some (.bl false) := ((Da.tup (n := 0) fun x m => by
  obtain ⟨p, mp, rfl⟩ := List.mem_map.mp m
  exact Da.str (h p mp)).self (by omega)).2
theorem strs_lst {l : List Pn} (h : ∀ p ∈ l, PyData.strOk p.1 = true) : pNe (.lst (l.map nmP)) (.lst (l.map nmP)) = some (.bl false) := ((Da.lst (n := 0) fun x m => by
  obtain ⟨p, mp, rfl⟩ := List.mem_map.mp m
  exact Da.str (h p mp)).self (by omega)).2
theorem ints_tup (u v : Int) : pNe (.tup [.int u, .int v]) (.tup [.int u, .int v]) = some (.bl false) := ((Da.two (Da.int u) (Da.int v)).self (by omega)).2
theorem lap_ok {N : Nat} {b : Int} {qs c ps : List Pn} {S d : D} {z6 z7 z8 z9 z10 : Option D} (hP : Pen N d) (hN : N ≤ 2 ^ 20) (h : Rdd b qs) (hp : ∀ p ∈ qs, p ∈ ps) (hn : (ps.map (·.1)).Nodup) (hs : ∀ p ∈ ps, PyData.strOk p.1 = true) (mc : c ∈ crT qs) :
    ∃ d' y6 y7 y8 y9 y10, lll (lwE S d (plD ps) (.ob 3 (bkl 1 (qs.map (ent b)))) (.lst (qs.map nmP)) (some (.lst (c.map nmP))) z6 z7 z8 z9 z10 none none) = .ok .nx (lwE S d' (plD ps) (.ob 3 (bkl 1 (qs.map (ent b)))) (.lst (qs.map nmP)) (some (.lst (c.map nmP))) y6 y7 y8 y9 y10 none none) ∧ Pen (N + 1) d' := by
  obtain ⟨hc, hne⟩ := mem_crT.mp mc
  have cq : ∀ p ∈ c, p ∈ qs := fun p m => hc.subset m
  have nc : (c.map (·.1)).Nodup := List.Nodup.sublist (hc.map _) h.r.nodup
  have lc : c.length ≤ 5 := Nat.le_trans hc.length_le h.l5
  obtain ⟨m0, m1, g0, g1, _⟩ := least_ok (X := .lst (c.map nmP)) h (.inl rfl) cq nc (List.length_pos_iff.mpr hne) (by omega)
  have s : Lst b qs c m0 m1 := ⟨h, cq, nc, g0, g1, lc⟩
  have st : ∀ p ∈ qs, PyData.strOk p.1 = true := fun p m => hs p (hp p m)
  obtain ⟨l', d', hl', q1, p1⟩ := q1c (S := S) (P := plD ps) (BK := .ob 3 (bkl 1 (qs.map (ent b)))) (NM := .lst (qs.map nmP)) (l := c.map nmP) (z6 := z6) (z7 := z7) (z8 := z8) (z9 := z9) (z10 := z10) (z11 := none) (z12 := none) hP hN
  obtain ⟨c', rfl, m', n', i0, i1⟩ : ∃ c' : List Pn, l' = c'.map nmP ∧ (∀ p ∈ c', p ∈ c) ∧ (c'.map (·.1)).Nodup ∧ m0 ∈ c' ∧ m1 ∈ c' := by
    rcases hl' with e | e
    · exact ⟨c, e, fun _ m => m, nc, g0.1, g1.1⟩
    · exact ⟨c.reverse, by rw [e, List.map_reverse], fun p m => List.mem_reverse.mp m, by rw [List.map_reverse]; exact (List.reverse_perm _).nodup_iff.mpr nc, List.mem_reverse.mpr g0.1, List.mem_reverse.mpr g1.1⟩
  have l2 : c'.length ≤ 60 := by
    have := len_sub (l := c'.map (·.1)) (m := c.map (·.1)) n' fun x mx => by
      obtain ⟨p, mp, rfl⟩ := List.mem_map.mp mx
      exact List.mem_map_of_mem (m' p mp)
    simp at this
    omega
  have cps : ∀ p ∈ c, p ∈ ps := fun p m => hp p (cq p m)
  have fc := s.cfc
  obtain ⟨f0, f1⟩ := s.cf0
  have fl : (cf m0 m1).length ≤ 60 := by
    rw [cf_len]
    split <;> omega
  have e1 := least_sub (X := .lst (c'.map nmP)) s (.inl rfl) m' n' i0 i1 l2
  have e2 := lmeet_ok (X := .lst (c.map nmP)) hn (.inl rfl) cps hne (by omega)
  rw [s.max1 (fun _ m => m) g0.1, s.max2 (fun _ m => m) g1.1] at e2
  have e3 := lleast_ok hn hs s.un cps nc (by omega) g0 g1
  have e4 := least_sub (X := .tup (c'.map nmP)) s (.inr rfl) m' n' i0 i1 l2
  have e5 := lmeet_ok (X := .tup ((cf m0 m1).map nmP)) hn (.inr rfl) (fun p m => cps p (fc p m)) (fun e => by rw [e] at f0; cases f0) fl
  rw [s.max1 fc f0, s.max2 fc f1] at e5
  have e6 := brought_sub (X := .tup ((cf m0 m1).map nmP)) s (.inr rfl) fc cf_nd f0 f1 fl
  have e7 := brought_sub (X := .lst (c.map nmP)) s (.inl rfl) (fun _ m => m) nc g0.1 g1.1 (by omega)
  have e8 := least_sub (X := .lst ((cf m0 m1).map nmP)) s (.inl rfl) fc cf_nd f0 f1 fl
  have n1 := strs_tup (l := cf m0 m1) fun p m => st p (cq p (fc p m))
  have n2 := strs_lst (l := c') fun p m => st p (cq p (m' p m))
  have n3 := ints_tup m0.2.1 m1.2.2
  have n4 := strs_tup (l := qs.filter (seenP b qs (ra b qs m0) (rb b qs m1))) fun p m => st p (List.mem_filter.mp m).1
  have ln : pLen [.tup ((cf m0 m1).map nmP)] = some (.int ((cf m0 m1).length : Nat)) := by simp [pLen, itemsOf]
  have q2 := q2c (S := S) (d := d') (NM := .lst (qs.map nmP)) (z7 := z7) (z8 := z8) (z9 := z9) (z10 := z10) (z11 := none) (z12 := none) rfl e1 e2
  have q3 := q3c (S := S) (d := d') (NM := .lst (qs.map nmP)) (z9 := some (.tup [.int m0.2.1, .int m1.2.2])) (z10 := z10) (z11 := none) (z12 := none) (TT := .tup (c'.map nmP)) e3 n1 n2 rfl e4
  have q4 := q4c (S := S) (d := d') (BK := .ob 3 (bkl 1 (qs.map (ent b)))) (NM := .lst (qs.map nmP)) (z6 := some (.lst (c'.map nmP))) (z7 := some (.lst (c'.map nmP))) (z8 := some (.tup ((cf m0 m1).map nmP))) (z10 := z10) (z12 := none) s hn cps
  have q5 := q5c (S := S) (d := d') (BK := .ob 3 (bkl 1 (qs.map (ent b)))) (NM := .lst (qs.map nmP)) (z6 := some (.lst (c'.map nmP))) (z7 := some (.lst (c'.map nmP))) (z11 := none) (z12 := none) ln e5 n3 (q5l fc fl)
  have q6 := q6c (S := S) (d := d') (P := plD ps) (NM := .lst (qs.map nmP)) (z6 := some (.lst (c'.map nmP))) (z7 := some (.lst (c'.map nmP))) (z9 := some (.tup [.int m0.2.1, .int m1.2.2])) (z10 := some (.int ((cf m0 m1).length : Nat))) (z11 := none) (z12 := none) (FL := .lst ((cf m0 m1).map nmP)) e6 e7 n4 rfl e8 n1
  refine ⟨d', some (.lst (c'.map nmP)), some (.lst (c'.map nmP)), some (.tup ((cf m0 m1).map nmP)), some (.tup [.int m0.2.1, .int m1.2.2]), some (.int ((cf m0 m1).length : Nat)), ?_, p1⟩
  rw [lll, sSeq_nx q1, sSeq_nx q2, sSeq_nx q3, sSeq_nx q4, sSeq_nx q5]
  exact q6
theorem sorted_pl {ps : List Pn} (h : ps.length < 64) : pSortedK [plD ps] = some (.lst ((sortE ps).map nmP)) := by
  have k : ∀ l : List Pn, kstrs (ky l) = some (l.map (·.1)) := by
    intro l
    induction l with
    | nil => rfl
    | cons p l ih =>
      show (kstrs (ky l)).map _ = _
      rw [ih]
      rfl
  have e : (sortE ps).map nmP = (sortS (ps.map (·.1))).map .str := by
    rw [← sortE_names, List.map_map]
    rfl
  have d : dicOf (plD ps) = some (ky ps, ps.map prD) := rfl
  simp only [pSortedK, d, Option.bind_some, k]
  rw [if_pos (by simpa using h), e]
theorem law_true (ns : List Int) (hl : ns.length ≤ 63) : B_law [.kl (ns.map .int)] = .ok (.bl true) [none] := by
  obtain ⟨d, e0, p0⟩ := pen_ok ns hl
  obtain ⟨i, x, d1, g1, o1, p1⟩ := pick_ok (l := [.int 4, .int 5, .int 3, .int 5, .int 1, .int 2]) p0 (by omega) (by simp) (by simp)
  obtain ⟨n, hn1, hn5, rfl⟩ : ∃ n : Nat, 1 ≤ n ∧ n ≤ 5 ∧ x = .int (n : Nat) := by
    match i, g1 with
    | 0, g => exact ⟨4, by omega, by omega, by simpa using g.symm⟩
    | 1, g => exact ⟨5, by omega, by omega, by simpa using g.symm⟩
    | 2, g => exact ⟨3, by omega, by omega, by simpa using g.symm⟩
    | 3, g => exact ⟨5, by omega, by omega, by simpa using g.symm⟩
    | 4, g => exact ⟨1, by omega, by omega, by simpa using g.symm⟩
    | 5, g => exact ⟨2, by omega, by omega, by simpa using g.symm⟩
    | _ + 6, g => simp at g
  obtain ⟨ps, d2, e2, pl, ln, p2⟩ := plain_ok p1 (by omega) hn1 hn5
  obtain ⟨j, y, d3, g3, o3, p3⟩ := pick_ok (l := [.int 1, .int 2, .int 6]) p2 (by omega) (by simp) (by simp)
  obtain ⟨b, hb1, hb6, rfl⟩ : ∃ b : Int, 0 < b ∧ b ≤ 6 ∧ y = .int b := by
    match j, g3 with
    | 0, g => exact ⟨1, by omega, by omega, by simpa using g.symm⟩
    | 1, g => exact ⟨2, by omega, by omega, by simpa using g.symm⟩
    | 2, g => exact ⟨6, by omega, by omega, by simpa using g.symm⟩
    | _ + 3, g => simp at g
  obtain ⟨h, eb⟩ := rdd_of pl hb1 hb6 (by omega) (by omega)
  have so := sorted_pl (ps := ps) (by omega)
  have hp : ∀ p ∈ sortE ps, p ∈ ps := fun p m => (sortE_perm ps).mem_iff.mp m
  generalize sortE ps = qs at *
  have hs : ∀ p ∈ ps, PyData.strOk p.1 = true := fun p m => (pl.nm p m).s
  have cr := crowds_ok (X := .lst (qs.map nmP)) (ds := qs.map nmP) rfl (by simpa using h.l5)
  rw [crT_map, List.map_map] at cr
  have len32 : (crT qs).length ≤ 32 := by
    have h1 := congrArg List.length (crF_hd qs).1
    rw [crF_len] at h1
    have : 2 ^ qs.length ≤ 2 ^ 5 := Nat.pow_le_pow_right (by omega) h.l5
    simp only [List.length_cons] at h1
    omega
  generalize hS : D.kl (ns.map .int) = S at *
  obtain ⟨r', ⟨d', y5, y6, y7, y8, y9, y10, pd, er⟩, e⟩ := for_l (g := gN 5) (b := lll) (f := fun c : List Pn => D.lst (c.map nmP)) (fun pre r => ∃ d y5 y6 y7 y8 y9 y10, Pen (0 + 1 + 20 + 1 + pre.length) d ∧ r = lwE S d (plD ps) (.ob 3 (bkl 1 (qs.map (ent b)))) (.lst (qs.map nmP)) y5 y6 y7 y8 y9 y10 none none) (crT qs) (fun pre c post ep r ⟨d, y5, y6, y7, y8, y9, y10, pd, er⟩ => by
    subst er
    have hlen : pre.length + 1 ≤ 32 := by
      have := congrArg List.length ep
      simp at this
      omega
    obtain ⟨d', x6, x7, x8, x9, x10, e, p⟩ := lap_ok (S := S) (z6 := y6) (z7 := y7) (z8 := y8) (z9 := y9) (z10 := y10) pd (by omega) h hp pl.nd hs (c := c) (by rw [ep]; simp)
    exact ⟨lwE S d (plD ps) (.ob 3 (bkl 1 (qs.map (ent b)))) (.lst (qs.map nmP)) (some (.lst (c.map nmP))) y6 y7 y8 y9 y10 none none, _, rfl, e, d', _, _, _, _, _, _, by rw [List.length_append]; exact p.mono (by simp; omega), rfl⟩) (lwE S d3 (plD ps) (.ob 3 (bkl 1 (qs.map (ent b)))) (.lst (qs.map nmP)) none none none none none none none none) ⟨d3, _, _, _, _, _, _, p3, rfl⟩
  subst er
  have h3 : (3 : Nat) ≤ big := big_of (by omega)
  have h6 : (6 : Nat) ≤ big := big_of (by omega)
  have s1 : lw1 [some S, none, none, none, none, none, none, none, none, none, none, none, none] = .ok .nx [some S, some d, none, none, none, none, none, none, none, none, none, none, none] := by
    simp [lw1, e0]
  have o1 : B__law_of [d, .lst [.int 4, .int 5, .int 3, .int 5, .int 1, .int 2]] = .ok (.int (n : Nat)) [some d1, none] := o1
  have s2 : lw2 [some S, some d, none, none, none, none, none, none, none, none, none, none, none] = .ok .nx [some S, some d2, some (plD ps), none, none, none, none, none, none, none, none, none, none] := by
    generalize plD ps = P at *
    simp [lw2, h6, o1, e2]
  have o3 : B__law_of [d2, .lst [.int 1, .int 2, .int 6]] = .ok (.int b) [some d3, none] := o3
  have s3 : lw3 [some S, some d2, some (plD ps), none, none, none, none, none, none, none, none, none, none] = .ok .nx (lwE S d3 (plD ps) (.ob 3 (bkl 1 (qs.map (ent b)))) (.lst (qs.map nmP)) none none none none none none none none) := by
    generalize plD ps = P at *
    generalize D.lst (qs.map nmP) = NM at *
    generalize D.ob 3 (bkl 1 (qs.map (ent b))) = BK at *
    simp [lw3, lwE, h3, o3, eb, so, gTs]
  have s4 : lw4 (lwE S d3 (plD ps) (.ob 3 (bkl 1 (qs.map (ent b)))) (.lst (qs.map nmP)) none none none none none none none none) = .ok .nx (lwE S d' (plD ps) (.ob 3 (bkl 1 (qs.map (ent b)))) (.lst (qs.map nmP)) y5 y6 y7 y8 y9 y10 none none) := by
    have eq : lw4 = sFor (itL (eCd B__law_crowds [] (aCons (eV 4) aNil))) (gN 5) lll := rfl
    rw [eq]
    refine for_is (r1 := lwE S d3 (plD ps) (.ob 3 (bkl 1 (qs.map (ent b)))) (.lst (qs.map nmP)) none none none none none none none none) ?_ e
    have cr : B__law_crowds [.lst (qs.map nmP)] = .ok (.lst ((crT qs).map fun c : List Pn => .lst (c.map nmP))) [none] := cr
    generalize plD ps = P at *
    generalize D.lst (qs.map nmP) = NM at *
    generalize D.ob 3 (bkl 1 (qs.map (ent b))) = BK at *
    generalize (crT qs).map (fun c : List Pn => D.lst (c.map nmP)) = L at *
    simp [lwE, cr, itemsOf]
  have s5 : lw5 (lwE S d' (plD ps) (.ob 3 (bkl 1 (qs.map (ent b)))) (.lst (qs.map nmP)) y5 y6 y7 y8 y9 y10 none none) = .ok (.rt (.bl true)) (lwE S d' (plD ps) (.ob 3 (bkl 1 (qs.map (ent b)))) (.lst (qs.map nmP)) y5 y6 y7 y8 y9 y10 none none) := rfl
  exact mkB_run (n := 1) (m := 13) (io := []) (b := b_law) (ds := [S]) (r0 := [some S, none, none, none, none, none, none, none, none, none, none, none, none]) rfl rfl (by rw [lws, sSeq_nx s1, sSeq_nx s2, sSeq_nx s3, sSeq_nx s4]; exact s5)
end Kw
open PySem PySem.W PySem.Calls PyProof.Rows
theorem PySem.Challenge.cw_whosefirst_k81_the_least_that_brings_a_c_holds : PySem.Challenge.rw_whosefirst_k81_the_least_that_brings_a_c.Holds := by
  w_on; o_law
  refine HandSHeadRun.head_imp (r := OpenLaw.row PySem.Challenge.rw_whosefirst_k81_the_least_that_brings_a_c) (q := view (OpenLaw.row PySem.Challenge.rw_whosefirst_k81_the_least_that_brings_a_c).prog [0, 88]) (H := Kw.hk) (ob := Kw.ob) (M := 16000) (loose := Kw.loose) (d := HandSHeadRun.topDef (OpenLaw.row PySem.Challenge.rw_whosefirst_k81_the_least_that_brings_a_c).prog 88) (kwd := []) Kw.ob_eq
    Kw.run (by kernel_rfl) (by kernel_rfl) (by kernel_rfl) (by rfl) (by first | assumption | decide +kernel) (by decide +kernel) ⟨rfl, rfl, rfl, rfl, rfl, by decide +kernel⟩ ?hw ?hc
  case hw => w_witness2
  case hc =>
    refine Z.walk_ofZ (l := PySem.Challenge.rw_whosefirst_k81_the_least_that_brings_a_c) (n := 63) (k := 14) (x := ("_law_script" : PySem.Str)) rfl (by decide) (by kernel_rfl) ⟨rfl, by decide, by decide⟩ ?F
    intro w mg fa h Y G hmg0
    obtain ⟨K, KX, c⟩ := Y
    have hmg : mg ("law" : PySem.Str) = some (.ref fa) := by
      have e : (HandSHeadRun.topDef (OpenLaw.row PySem.Challenge.rw_whosefirst_k81_the_least_that_brings_a_c).prog 88).name = ("law" : PySem.Str) := by kernel_rfl
      rw [← e]
      exact hmg0
    obtain ⟨fd, hb, hF⟩ := Kw.facts (P := (PySem.Challenge.rw_whosefirst_k81_the_least_that_brings_a_c).prog) (w := w) KX G hmg c
    refine ⟨K, fd, Z.spB (Kw.gm K) 1 [] Kw.B_law, KX, hb, fun H a ns hl hO hS => ?_, hF⟩
    exact Z.end_of rfl hO hS (Kw.law_true ns hl)
